import PyProof.Rows.All
import Wide.All
import OpenK.AllK
import Wide.FinOn
import HandS.ForMost
import HandS.ForExc
import HandS.ExcInit
import HandS.IsInst
import KE.KExcSuper
import KE.KSuper
import KE.KSuperObj
import HandS.TryOnly
import KE.KExcIs
import KE.KIsAll
import HandS.Lambda
import KE.KeyNested
import KE.KDictKeyed
import HandS.Defaults
import HandS.Wide
import HandS.Flow
import HandS.Zip
import HandS.StrMore
import HandS.FStr
import HandS.Conv
import HandS.More
import HandS.Property
import HandS.OwnEq
import HandS.Slots
import HandS.TupAny
import HandS.Star
import HandS.Strs
import KE.GoesMore
import HandS.Style
import HandS.RaiseMore
import HandS.HeadEnd
import HandS.SortRule
import HandS.TupSets
import PyProof.ReprLen
import HandS.Codes
import KE.KUnpackStar
import HandS.Small
import HandS.Deep
import HandS.List
import HandS.Head0
import HandS.Head1
import HandS.Head2
import HandS.HeadHook1
import HandS.HeadHook2
import HandS.HeadHook3
import KE.KNest
import HandS.SetFor
import PyProof.Rows.SortShellAny
import HandS.EndOwn
import KE.DataMinMax
import KE.GoesEnum
import HandS.NoneIn
import KE.SortData
import KE.BitLaws
import HandS.ExcValue
import HandS.Iter
import KE.KDictWalk
import KE.KDictCopyH
import HandS.TupMul
import PyProof.Rows.CountFlat
import KE.KAssignIn
import HandS.SlotsOwn
import HandS.ListItems
import KE.KRevSl
import KE.KDictItemsList
import KE.KDictDisplayH
import OpenK.KMeth
import KE.KOpsOwn
import PyProof.EqAt
import HandS.DictComp
import PySem.Challenge.RW_greetall_k21_regions
set_option Elab.async false
set_option linter.all false
set_option maxRecDepth 100000
set_option maxHeartbeats 0
namespace XL
end XL
namespace DL
end DL
namespace HK
end HK
namespace PL
end PL
namespace W
end W
namespace L2
end L2
namespace XL
open PySem PySem.W PySem.Calls PyProof.Rows PySem.HandSPX
/-- what the written part says of the base class at B and its __init__ at fI, whose cell of the class stands at cl -/
structure CrTxt (P : Program) (K : Frag) (q : Str) (a : Arguments) (b : List Stmt) (sc : Scope) (B fI cl : Addr) : Prop where
  fn : ∃ (oc : Value) (od : Option Addr) (doc pm : Value) (an : Option Addr) (cc : Addr) (ct : Value) (osl : Array (Option Value)) (occ : Obj) (vs : Array Value) (file : Str) (tf : Tok),
    K.lookup fI = some ⟨oc, od, .func (ksFn "__init__" q a b sc .none .none doc pm an (.ref cc) ct cl), osl⟩ ∧ codeIn K (.ref cc) q = true ∧ K.lookup cc = some occ ∧ occ.data = .fields vs ∧ vs[2]? = some (.str file tf) ∧ (P.main.file == file) = true
  cell : ∃ o, K.lookup cl = some o ∧ o.data = .cell (some (.ref B))
  bcls : ∃ o cd, K.lookup B = some o ∧ o.data = .cls cd
  typ : typeIn K (.ref fI) = some (.type "function")
  sup : (P.main.scope.names.lookup ("super" : Str)).isSome = false
  nsS : nsIn K cStatics "thirdparty.any" = some none
/-- what it says of one of the errors, at C -/
structure ErTxt (K : Frag) (mg : Str → Option Value) (x : Str) (C B fI : Addr) : Prop where
  gC : mg x = some (.ref C)
  cls : ∃ nm q N bs bm sn sub ab col dd k0 k1 k2 k3 k5, K.lookup C = some (excClassObj nm q C N bs bm true sn sub ab col dd k0 k1 k2 k3 k5 "ValueError.__new__") ∧ refsVE bm = true
  ini : excInitIn K C [.type "ValueError", .type "Exception", .type "BaseException", .type "object"] "ValueError.__new__" = true
  sa : findIn K (.ref C) "__setattr__" = some (some (.builtin "object.__setattr__"))
  ga : findIn K (.ref C) "__getattribute__" = some (some (.builtin "BaseException.__getattribute__"))
  gg : findIn K (.ref C) "__getattr__" = some none
  noV : findIn K (.ref C) "value" = some none
  iC : findIn K (.ref C) "__init__" = some (some (.ref fI))
  kC : keepIn K (.ref C) = true
  exC : subIn K (.ref C) (.type "BaseException") = some true
  veC : subIn K (.ref C) (.type "ValueError") = some true
  sB : subIn K (.ref C) (.ref B) = some true
  tyC : typeIn K (.ref C) = some (.type "type")
  hdC : hasDictIn K C = true
  sup : ks_superIn K C B "__init__" = some (some (.builtin "ValueError.__init__"))
end XL
namespace XL
open PySem PySem.W PySem.Calls PyProof.Rows PySem.HandSPX L2
theorem Mod.keeps {K : Frag} {mg : Str → Option Value} {h h' : Heap} (M : L2.Mod K mg h) (k : ∀ b o, h.get? b = some o → h'.get? b = some o) : L2.Mod K mg h' := by
  obtain ⟨mb, nb, hmb⟩ := M.blt
  exact ⟨M.kin.keeps k, M.glob.keeps k, ⟨mb, nb.keeps k, hmb⟩, M.nolimit.keeps k⟩
end XL
namespace XL
open PySem PySem.W PySem.Calls PyProof.Rows PySem.HandSPX L2
/-- an error object: its class, its own dict -/
def XV (a : Addr) (cls : Value) (d : Option Addr) : HO := .ext fun h => ∃ oe vs, h.get? a = some oe ∧ Zc cls d oe ∧ oe.data = .fields vs
end XL
namespace XL
open PySem PySem.W PySem.Calls PyProof.Rows PySem.HandSPX L2
/-- what isinstance and a field ask of the class at C -/
structure ErV (K : Frag) (C : Addr) : Prop where
  cl : (clsIn K C).isSome = true
  ga : findIn K (.ref C) "__getattribute__" = some (some (.builtin "BaseException.__getattribute__"))
  gg : findIn K (.ref C) "__getattr__" = some none
  exC : subIn K (.ref C) (.type "BaseException") = some true
  hdC : hasDictIn K C = true
  noV : findIn K (.ref C) "value" = some none
  ha : findIn K (.ref C) "__class__" = some (some (.builtin "object.__class__"))
  hn : specialIn K (.builtin "object.__class__") "__get__" = some (some (.builtin "getset_descriptor.__get__"))
  ht : takesIn K (.builtin "object.__class__") = some true
  hm : mroIn K C (.type "object") = some true
end XL
namespace XL
open PySem PySem.W PySem.Calls PyProof.Rows PySem.HandSPX L2 LamX
/-- a lambda at f, its code object at c' -/
def LamO (f : Addr) (q : Str) (params : Arguments) (body : Expr) (scope : Scope) (cells : List (Str × Addr)) (c' : Addr) : HO := .ext fun h => ∃ pm ctv, h.get? f = some (W.kla_obj "<lambda>" q params body scope cells pm c' ctv)
end XL
namespace DL
open PySem L2
/-- a value as data: immutable things by what they hold, mutable ones by their address -/
inductive D where
  | non | bl (b : Bool) | int (i : Int) | str (x : Str)
  | lst (xs : List D) | rol (xs : List D) | tup (xs : List D)
  | dK (kvs : List (Key × D)) | dT (kvs : List (List Key × D))
  | ins (C : Addr) (fs : List (Str × D))
  | ty (n : String) | fn (a : Addr) | ob (a : Addr)
  | key (ks : List Key)
  | fig (C : Addr) (ns : List Int)
  | exc (C : Addr) (fs : List (Str × D))
  | lam (q : Str) (params : Arguments) (body : Expr) (scope : Scope) (cells : List (Str × Addr))
  | fdK (kvs : List (Key × D))
  | slo (C : Addr) (os : List (Option D))
  | fdN (w : World) (kvs : List (D × D))
  | ptup (xs : List D)
/-- a mutable object's content -/
inductive MO where
  | lst (xs : List D) | dK (kvs : List (Key × D)) | dT (kvs : List (List Key × D)) | ins (C : Addr) (fs : List (Str × D)) | tbl (q : Str) | fdK (kvs : List (Key × D)) | slo (C : Addr) (os : List (Option D)) | dN (w : World) (kvs : List (D × D))
abbrev Mp := Addr → Option MO
abbrev Rho := List (Option D)
/-- addresses that stand hidden: nothing that the code reads leads there -/
abbrev Zn := Addr → Prop
/-- neither mutable nor hidden -/
def Im (M : Mp) (Z : Zn) (a : Addr) : Prop := M a = none ∧ ¬ Z a
/-- a written tuple without a dict of its own -/
def WrP (K : PySem.W.Frag) (a : Addr) (xs : List V) : Prop := ∃ (o : Obj) (its : Array Value) (n : Nat), K.lookup a = some o ∧ o.cls = .type "tuple" ∧ o.dict = none ∧ o.data = .seq its n ∧ its.size ≤ sizeLine ∧ Vals xs its.toList
/-- a list, a tuple of the written part -/
def WrL (K : PySem.W.Frag) (a : Addr) (xs : List V) : Prop := ∃ (o : Obj) (its : Array Value) (n : Nat), K.lookup a = some o ∧ o.cls = .type "list" ∧ o.dict = none ∧ o.data = .seq its n ∧ its.size ≤ sizeLine ∧ Vals xs its.toList
def WrT (K : PySem.W.Frag) (a : Addr) (xs : List V) : Prop := ∃ (o : Obj) (its : Array Value) (n : Nat), K.lookup a = some o ∧ o.cls = .type "tuple" ∧ o.data = .seq its n ∧ its.size ≤ sizeLine ∧ Vals xs its.toList
mutual
/-- data as a key -/
def nkD : D → Option NestedKey
  | .non => some .none
  | .bl b => some (.num (if b = true then 1 else 0))
  | .int i => some (.num i)
  | .str x => some (.text x)
  | .tup ds => (nkDs ds).map .tup
  | _ => none
def nkDs : List D → Option (List NestedKey)
  | [] => some []
  | d :: ds => (nkD d).bind fun k => (nkDs ds).map (k :: ·)
end
def entN (w : World) (x : NestedKey × Addr × Value) : DictEntry := entryOfKey (nestedKind default w) x
/-- at a stands the dict with these entries: what is said speaks of this object alone -/
def DNf (w : World) (a : Addr) (xs : List (NestedKey × Addr × V)) (h : Heap) : Prop := xs.length ≤ sizeLine ∧ (a == sysModules) = false ∧ ∃ ys : List (NestedKey × Addr × Value),
  Paired (fun (p : NestedKey × Addr × V) (q : NestedKey × Addr × Value) => p.1 = q.1 ∧ p.2.1 = q.2.1 ∧ RelV p.2.2 q.2.2) xs ys ∧ ∃ o es ep, h.get? a = some o ∧ o.ExactDict ∧ o.data = .dict es ep ∧ es.toList = ys.map (entN w) ∧ (ys.map (·.1)).Nodup
def DNo (w : World) (a : Addr) (xs : List (NestedKey × Addr × V)) : HO := .ext (DNf w a xs)
mutual
/-- the value v stands for the data d -/
inductive Rep (K : PySem.W.Frag) (M : Mp) (Z : Zn) (H : Hp) : V → D → Prop where
  | non : Rep K M Z H .non .non
  | bl (b : Bool) : Rep K M Z H (.bl b) (.bl b)
  | int (i : Int) : Rep K M Z H (.int i) (.int i)
  | str (x : Str) : Rep K M Z H (.str x) (.str x)
  | ty (n : String) : Rep K M Z H (.ty n) (.ty n)
  | fn (a : Addr) : Rep K M Z H (.ref a) (.fn a)
  | ob (a : Addr) : Rep K M Z H (.ref a) (.ob a)
  | lst {a : Addr} {vs : List V} {ds : List D} (h : H a = some (.lst vs)) (m : Im M Z a) (r : Reps K M Z H vs ds) : Rep K M Z H (.ref a) (.lst ds)
  | rol {a : Addr} {vs : List V} {ds : List D} (h : Rd H a (.lst vs)) (m : Im M Z a) (r : Reps K M Z H vs ds) : Rep K M Z H (.ref a) (.rol ds)
  | rolK {a : Addr} {vs : List V} {ds : List D} (h : WrL K a vs) (r : Reps K M Z H vs ds) : Rep K M Z H (.ref a) (.rol ds)
  | tup {a : Addr} {vs : List V} {ds : List D} (h : Rd H a (.tup vs)) (m : Im M Z a) (r : Reps K M Z H vs ds) : Rep K M Z H (.ref a) (.tup ds)
  | tupK {a : Addr} {vs : List V} {ds : List D} (h : WrT K a vs) (r : Reps K M Z H vs ds) : Rep K M Z H (.ref a) (.tup ds)
  | dK {a : Addr} {vs : List (Key × V)} {ds : List (Key × D)} (h : H a = some (.dK vs)) (m : Im M Z a) (r : RepK K M Z H vs ds) : Rep K M Z H (.ref a) (.dK ds)
  | dT {a : Addr} {vs : List (List Key × V)} {ds : List (List Key × D)} (h : H a = some (.dT vs)) (m : Im M Z a) (r : RepT K M Z H vs ds) : Rep K M Z H (.ref a) (.dT ds)
  | ins {a C dx : Addr} {vs : List (Str × V)} {ds : List (Str × D)} (h : H a = some (.ins C dx vs)) (m : Im M Z a) (r : RepF K M Z H vs ds) : Rep K M Z H (.ref a) (.ins C ds)
  | key {a : Addr} {ks : List Key} (h : H a = some (.tup (ks.map kV))) (m : Im M Z a) : Rep K M Z H (.ref a) (.key ks)
  | fig {a C dx : Addr} {ns : List Int} (h : H a = some (SlX.SlO a C dx (ns.map fun i => some (V.int i)))) (hd : H dx = some (.xd [])) (m : Im M Z a) (md : Im M Z dx) : Rep K M Z H (.ref a) (.fig C ns)
  | exc {a C dd : Addr} {vs : List (Str × V)} {ds : List (Str × D)} (h : H a = some (XL.XV a (.ref C) (some dd))) (hd : H dd = some (.xd vs)) (m : Im M Z a) (md : Im M Z dd) (r : RepF K M Z H vs ds) : Rep K M Z H (.ref a) (.exc C ds)
  | lam {a c : Addr} {q : Str} {ps : Arguments} {b : Expr} {sc : Scope} {cl : List (Str × Addr)} (h : H a = some (XL.LamO a q ps b sc cl c)) (hc : H c = some (LamX.CodeO c q)) (m : Im M Z a) (mc : Im M Z c) : Rep K M Z H (.ref a) (.lam q ps b sc cl)
  | fdK {a : Addr} {o : Obj} {vs : List (Key × V)} {ds : List (Key × D)} (h : H a = some (.frz o (.dK vs))) (m : Im M Z a) (r : RepK K M Z H vs ds) : Rep K M Z H (.ref a) (.fdK ds)
  | slo {a C dx : Addr} {vs : List (Option V)} {os : List (Option D)} (h : H a = some (SlX.SlO a C dx vs)) (hd : H dx = some (.xd [])) (m : Im M Z a) (md : Im M Z dx) (r : RepO K M Z H vs os) : Rep K M Z H (.ref a) (.slo C os)
  | fdN {a : Addr} {o : Obj} {w : World} {xs : List (NestedKey × Addr × V)} {ds : List (D × D)} (h : H a = some (.frz o (DNo w a xs))) (m : Im M Z a) (r : RepN K M Z H xs ds) : Rep K M Z H (.ref a) (.fdN w ds)
  | ptup {a : Addr} {o : Obj} {vs : List V} {ds : List D} (h : H a = some (.frz o (.tup vs))) (hd : o.dict = none) (m : Im M Z a) (r : Reps K M Z H vs ds) : Rep K M Z H (.ref a) (.ptup ds)
  | ptupK {a : Addr} {vs : List V} {ds : List D} (h : WrP K a vs) (r : Reps K M Z H vs ds) : Rep K M Z H (.ref a) (.ptup ds)
inductive RepN (K : PySem.W.Frag) (M : Mp) (Z : Zn) (H : Hp) : List (NestedKey × Addr × V) → List (D × D) → Prop where
  | nil : RepN K M Z H [] []
  | cons {k : NestedKey} {a : Addr} {v : V} {dk d : D} {xs : List (NestedKey × Addr × V)} {kvs : List (D × D)} (hk : nkD dk = some k) (dp : k.depth ≤ 8) (rk : Rep K M Z H (.ref a) dk) (r : Rep K M Z H v d) (t : RepN K M Z H xs kvs) : RepN K M Z H ((k, a, v) :: xs) ((dk, d) :: kvs)
inductive RepO (K : PySem.W.Frag) (M : Mp) (Z : Zn) (H : Hp) : List (Option V) → List (Option D) → Prop where
  | nil : RepO K M Z H [] []
  | val {v : V} {d : D} {vs : List (Option V)} {os : List (Option D)} (r : Rep K M Z H v d) (t : RepO K M Z H vs os) : RepO K M Z H (some v :: vs) (some d :: os)
  | any {o : Option V} {vs : List (Option V)} {os : List (Option D)} (t : RepO K M Z H vs os) : RepO K M Z H (o :: vs) (none :: os)
inductive Reps (K : PySem.W.Frag) (M : Mp) (Z : Zn) (H : Hp) : List V → List D → Prop where
  | nil : Reps K M Z H [] []
  | cons {v : V} {d : D} {vs : List V} {ds : List D} (r : Rep K M Z H v d) (t : Reps K M Z H vs ds) : Reps K M Z H (v :: vs) (d :: ds)
inductive RepK (K : PySem.W.Frag) (M : Mp) (Z : Zn) (H : Hp) : List (Key × V) → List (Key × D) → Prop where
  | nil : RepK K M Z H [] []
  | cons {k : Key} {v : V} {d : D} {vs : List (Key × V)} {ds : List (Key × D)} (r : Rep K M Z H v d) (t : RepK K M Z H vs ds) : RepK K M Z H ((k, v) :: vs) ((k, d) :: ds)
inductive RepT (K : PySem.W.Frag) (M : Mp) (Z : Zn) (H : Hp) : List (List Key × V) → List (List Key × D) → Prop where
  | nil : RepT K M Z H [] []
  | cons {k : List Key} {v : V} {d : D} {vs : List (List Key × V)} {ds : List (List Key × D)} (r : Rep K M Z H v d) (t : RepT K M Z H vs ds) : RepT K M Z H ((k, v) :: vs) ((k, d) :: ds)
inductive RepF (K : PySem.W.Frag) (M : Mp) (Z : Zn) (H : Hp) : List (Str × V) → List (Str × D) → Prop where
  | nil : RepF K M Z H [] []
  | cons {k : Str} {v : V} {d : D} {vs : List (Str × V)} {ds : List (Str × D)} (r : Rep K M Z H v d) (t : RepF K M Z H vs ds) : RepF K M Z H ((k, v) :: vs) ((k, d) :: ds)
end
/-- what is immutable stays, what is hidden stays -/
def Ext (M : Mp) (Z : Zn) (H : Hp) (M' : Mp) (H' : Hp) : Prop := (∀ b o, H b = some o → Im M Z b → H' b = some o ∧ Im M' Z b) ∧ ∀ b, Z b → H' b = H b ∧ M' b = M b
theorem Ext.refl {M : Mp} {Z : Zn} {H : Hp} : Ext M Z H M H := ⟨fun _ _ h m => ⟨h, m⟩, fun _ _ => ⟨rfl, rfl⟩⟩
theorem Ext.trans {M M1 M2 : Mp} {Z : Zn} {H H1 H2 : Hp} (a : Ext M Z H M1 H1) (b : Ext M1 Z H1 M2 H2) : Ext M Z H M2 H2 := ⟨fun c o h m =>
  b.1 c o (a.1 c o h m).1 (a.1 c o h m).2, fun c z => ⟨(b.2 c z).1.trans (a.2 c z).1, (b.2 c z).2.trans (a.2 c z).2⟩⟩
theorem Ext.rd {M M' : Mp} {Z : Zn} {H H' : Hp} {a : Addr} {u : HO} (e : Ext M Z H M' H') (h : Rd H a u) (m : Im M Z a) : Rd H' a u := by
  rcases h with h | ⟨o, h⟩
  · exact .inl (e.1 _ _ h m).1
  · exact .inr ⟨o, (e.1 _ _ h m).1⟩
theorem Ext.md {M M' : Mp} {Z : Zn} {H H' : Hp} {a : Addr} {u : HO} (e : Ext M Z H M' H') (h : Rd H a u) (m : Im M Z a) : Im M' Z a := by
  rcases h with h | ⟨o, h⟩
  · exact (e.1 _ _ h m).2
  · exact (e.1 _ _ h m).2
/-- .. among other hidden ones -/
def ExI (M : Mp) (Z : Zn) (H : Hp) (M' : Mp) (Z' : Zn) (H' : Hp) : Prop := ∀ b o, H b = some o → Im M Z b → H' b = some o ∧ Im M' Z' b
theorem Ext.i {M M' : Mp} {Z : Zn} {H H' : Hp} (e : Ext M Z H M' H') : ExI M Z H M' Z H' := e.1
theorem ExI.refl {M : Mp} {Z : Zn} {H : Hp} : ExI M Z H M Z H := fun _ _ h m => ⟨h, m⟩
theorem ExI.trans {M M1 M2 : Mp} {Z Z1 Z2 : Zn} {H H1 H2 : Hp} (a : ExI M Z H M1 Z1 H1) (b : ExI M1 Z1 H1 M2 Z2 H2) : ExI M Z H M2 Z2 H2 := fun c o h m => b c o (a c o h m).1 (a c o h m).2
theorem ExI.rd {M M' : Mp} {Z Z' : Zn} {H H' : Hp} {a : Addr} {u : HO} (e : ExI M Z H M' Z' H') (h : Rd H a u) (m : Im M Z a) : Rd H' a u := by
  rcases h with h | ⟨o, h⟩
  · exact .inl (e _ _ h m).1
  · exact .inr ⟨o, (e _ _ h m).1⟩
theorem ExI.md {M M' : Mp} {Z Z' : Zn} {H H' : Hp} {a : Addr} {u : HO} (e : ExI M Z H M' Z' H') (h : Rd H a u) (m : Im M Z a) : Im M' Z' a := by
  rcases h with h | ⟨o, h⟩
  · exact (e _ _ h m).2
  · exact (e _ _ h m).2
section
variable {K : PySem.W.Frag} {M M' : Mp} {Z Z' : Zn} {H H' : Hp}
mutual
theorem Rep.monoI (e : ExI M Z H M' Z' H') : ∀ {v : V} {d : D}, Rep K M Z H v d → Rep K M' Z' H' v d
  | _, _, .non => .non
  | _, _, .bl b => .bl b
  | _, _, .int i => .int i
  | _, _, .str x => .str x
  | _, _, .ty n => .ty n
  | _, _, .fn a => .fn a
  | _, _, .ob a => .ob a
  | _, _, .lst h m r => .lst (e _ _ h m).1 (e _ _ h m).2 (Reps.monoI e r)
  | _, _, .rol h m r => .rol (e.rd h m) (e.md h m) (Reps.monoI e r)
  | _, _, .rolK h r => .rolK h (Reps.monoI e r)
  | _, _, .tup h m r => .tup (e.rd h m) (e.md h m) (Reps.monoI e r)
  | _, _, .tupK h r => .tupK h (Reps.monoI e r)
  | _, _, .dK h m r => .dK (e _ _ h m).1 (e _ _ h m).2 (RepK.monoI e r)
  | _, _, .dT h m r => .dT (e _ _ h m).1 (e _ _ h m).2 (RepT.monoI e r)
  | _, _, .ins h m r => .ins (e _ _ h m).1 (e _ _ h m).2 (RepF.monoI e r)
  | _, _, .key h m => .key (e _ _ h m).1 (e _ _ h m).2
  | _, _, .fig h hd m md => .fig (e _ _ h m).1 (e _ _ hd md).1 (e _ _ h m).2 (e _ _ hd md).2
  | _, _, .exc h hd m md r => .exc (e _ _ h m).1 (e _ _ hd md).1 (e _ _ h m).2 (e _ _ hd md).2 (RepF.monoI e r)
  | _, _, .lam h hc m mc => .lam (e _ _ h m).1 (e _ _ hc mc).1 (e _ _ h m).2 (e _ _ hc mc).2
  | _, _, .fdK h m r => .fdK (e _ _ h m).1 (e _ _ h m).2 (RepK.monoI e r)
  | _, _, .slo h hd m md r => .slo (e _ _ h m).1 (e _ _ hd md).1 (e _ _ h m).2 (e _ _ hd md).2 (RepO.monoI e r)
  | _, _, .fdN h m r => .fdN (e _ _ h m).1 (e _ _ h m).2 (RepN.monoI e r)
  | _, _, .ptup h hd m r => .ptup (e _ _ h m).1 hd (e _ _ h m).2 (Reps.monoI e r)
  | _, _, .ptupK h r => .ptupK h (Reps.monoI e r)
theorem RepN.monoI (e : ExI M Z H M' Z' H') : ∀ {xs : List (NestedKey × Addr × V)} {kvs : List (D × D)}, RepN K M Z H xs kvs → RepN K M' Z' H' xs kvs
  | _, _, .nil => .nil
  | _, _, .cons hk dp rk r t => .cons hk dp (Rep.monoI e rk) (Rep.monoI e r) (RepN.monoI e t)
theorem RepO.monoI (e : ExI M Z H M' Z' H') : ∀ {v : List (Option V)} {d : List (Option D)}, RepO K M Z H v d → RepO K M' Z' H' v d
  | _, _, .nil => .nil
  | _, _, .val r t => .val (Rep.monoI e r) (RepO.monoI e t)
  | _, _, .any t => .any (RepO.monoI e t)
theorem Reps.monoI (e : ExI M Z H M' Z' H') : ∀ {v : List V} {d : List D}, Reps K M Z H v d → Reps K M' Z' H' v d
  | _, _, .nil => .nil
  | _, _, .cons r t => .cons (Rep.monoI e r) (Reps.monoI e t)
theorem RepK.monoI (e : ExI M Z H M' Z' H') : ∀ {v : List (Key × V)} {d : List (Key × D)}, RepK K M Z H v d → RepK K M' Z' H' v d
  | _, _, .nil => .nil
  | _, _, .cons r t => .cons (Rep.monoI e r) (RepK.monoI e t)
theorem RepT.monoI (e : ExI M Z H M' Z' H') : ∀ {v : List (List Key × V)} {d : List (List Key × D)}, RepT K M Z H v d → RepT K M' Z' H' v d
  | _, _, .nil => .nil
  | _, _, .cons r t => .cons (Rep.monoI e r) (RepT.monoI e t)
theorem RepF.monoI (e : ExI M Z H M' Z' H') : ∀ {v : List (Str × V)} {d : List (Str × D)}, RepF K M Z H v d → RepF K M' Z' H' v d
  | _, _, .nil => .nil
  | _, _, .cons r t => .cons (Rep.monoI e r) (RepF.monoI e t)
end
end
theorem Reps.length {K : PySem.W.Frag} {M : Mp} {Z : Zn} {H : Hp} : ∀ {vs : List V} {ds : List D}, Reps K M Z H vs ds → vs.length = ds.length
  | _, _, .nil => rfl
  | _, _, .cons _ t => by rw [List.length_cons, List.length_cons, t.length]
theorem Reps.get {K : PySem.W.Frag} {M : Mp} {Z : Zn} {H : Hp} : ∀ {vs : List V} {ds : List D} {i : Nat} {d : D}, Reps K M Z H vs ds → ds[i]? = some d → ∃ v, vs[i]? = some v ∧ Rep K M Z H v d
  | _, _, _, _, .nil, e => by simp at e
  | _, _, 0, _, .cons r _, e => by simp at e; subst e; exact ⟨_, rfl, r⟩
  | _, _, i + 1, d, .cons _ t, e => by
    obtain ⟨u, h1, h2⟩ := Reps.get (i := i) (d := d) t (by simpa using e)
    exact ⟨u, by simpa using h1, h2⟩
theorem Reps.drop {K : PySem.W.Frag} {M : Mp} {Z : Zn} {H : Hp} : ∀ {vs : List V} {ds : List D} (n : Nat), Reps K M Z H vs ds → Reps K M Z H (vs.drop n) (ds.drop n)
  | _, _, 0, r => r
  | _, _, _ + 1, .nil => .nil
  | _, _, n + 1, .cons _ t => Reps.drop n t
theorem Reps.take {K : PySem.W.Frag} {M : Mp} {Z : Zn} {H : Hp} : ∀ {vs : List V} {ds : List D} (n : Nat), Reps K M Z H vs ds → Reps K M Z H (vs.take n) (ds.take n)
  | _, _, 0, _ => .nil
  | _, _, _ + 1, .nil => .nil
  | _, _, n + 1, .cons r t => .cons r (Reps.take n t)
theorem Reps.ofStrs {K : PySem.W.Frag} {M : Mp} {Z : Zn} {H : Hp} : ∀ (ns : List Str), Reps K M Z H (ns.map V.str) (ns.map D.str)
  | [] => .nil
  | _ :: r => .cons (.str _) (Reps.ofStrs r)
/-- a mutable object is held -/
def RepM (K : PySem.W.Frag) (M : Mp) (Z : Zn) (H : Hp) (a : Addr) : MO → Prop
  | .lst ds => ∃ vs, H a = some (.lst vs) ∧ Reps K M Z H vs ds
  | .dK ds => ∃ vs, H a = some (.dK vs) ∧ RepK K M Z H vs ds
  | .dT ds => ∃ vs, H a = some (.dT vs) ∧ RepT K M Z H vs ds
  | .ins C ds => ∃ dx vs, H a = some (.ins C dx vs) ∧ RepF K M Z H vs ds
  | .fdK ds => ∃ o vs, H a = some (.frz o (.dK vs)) ∧ RepK K M Z H vs ds
  | .slo C os => ∃ dx vs, H a = some (SlX.SlO a C dx vs) ∧ H dx = some (.xd []) ∧ Im M Z dx ∧ RepO K M Z H vs os
  | .dN w ds => ∃ xs, H a = some (DNo w a xs) ∧ RepN K M Z H xs ds
  | .tbl q => ∃ ps, H a = some (.tbl ps) ∧ TriplesOk ps.toList ∧ ∀ (pos : Pos) (cv : Value), codeAmong pos ps.toList = some cv → ∃ c, cv = .ref c ∧ H c = some (LamX.CodeO c q) ∧ Im M Z c
/-- the mutable objects are held, the hidden ones stand -/
def Wd (K : PySem.W.Frag) (M : Mp) (Z : Zn) (H : Hp) : Prop := (∀ a o, M a = some o → RepM K M Z H a o) ∧ ∀ a, Z a → M a = none ∧ ∃ u, H a = some u
theorem RepM.there {K : PySem.W.Frag} {M : Mp} {Z : Zn} {H : Hp} {a : Addr} {o : MO} (h : RepM K M Z H a o) : ∃ u, H a = some u := by
  cases o with
  | lst ds => obtain ⟨vs, e, _⟩ := h; exact ⟨_, e⟩
  | dK ds => obtain ⟨vs, e, _⟩ := h; exact ⟨_, e⟩
  | dT ds => obtain ⟨vs, e, _⟩ := h; exact ⟨_, e⟩
  | ins C ds => obtain ⟨dx, vs, e, _⟩ := h; exact ⟨_, e⟩
  | tbl q => obtain ⟨ps, e, _⟩ := h; exact ⟨_, e⟩
  | fdK ds => obtain ⟨o, vs, e, _⟩ := h; exact ⟨_, e⟩
  | slo C os => obtain ⟨dx, vs, e, _⟩ := h; exact ⟨_, e⟩
  | dN w ds => obtain ⟨xs, e, _⟩ := h; exact ⟨_, e⟩
theorem RepM.stepI {K : PySem.W.Frag} {M M' : Mp} {Z Z' : Zn} {H H' : Hp} {a : Addr} {o : MO} (h : RepM K M Z H a o) (e : ExI M Z H M' Z' H') (k : H' a = H a) : RepM K M' Z' H' a o := by
  cases o with
  | lst ds => obtain ⟨vs, q, r⟩ := h; exact ⟨vs, k.trans q, r.monoI e⟩
  | dK ds => obtain ⟨vs, q, r⟩ := h; exact ⟨vs, k.trans q, r.monoI e⟩
  | dT ds => obtain ⟨vs, q, r⟩ := h; exact ⟨vs, k.trans q, r.monoI e⟩
  | ins C ds => obtain ⟨dx, vs, q, r⟩ := h; exact ⟨dx, vs, k.trans q, r.monoI e⟩
  | fdK ds => obtain ⟨o, vs, q, r⟩ := h; exact ⟨o, vs, k.trans q, r.monoI e⟩
  | slo C os => obtain ⟨dx, vs, q, hd, md, r⟩ := h; exact ⟨dx, vs, k.trans q, (e _ _ hd md).1, (e _ _ hd md).2, r.monoI e⟩
  | dN w ds => obtain ⟨xs, q, r⟩ := h; exact ⟨xs, k.trans q, r.monoI e⟩
  | tbl q => obtain ⟨ps, y, ht, ha⟩ := h; exact ⟨ps, k.trans y, ht, fun pos cv z => let ⟨c, e1, e2, e3⟩ := ha pos cv z; ⟨c, e1, (e c _ e2 e3).1, (e c _ e2 e3).2⟩⟩
theorem RepM.step {K : PySem.W.Frag} {M M' : Mp} {Z : Zn} {H H' : Hp} {a : Addr} {o : MO} (h : RepM K M Z H a o) (e : Ext M Z H M' H') (k : H' a = H a) : RepM K M' Z H' a o := h.stepI e.i k
/-- the slots -/
inductive EnvR (K : PySem.W.Frag) (M : Mp) (Z : Zn) (H : Hp) : St → Rho → Prop where
  | nil : EnvR K M Z H [] []
  | val {v : V} {d : D} {σ : St} {ρ : Rho} (r : Rep K M Z H v d) (t : EnvR K M Z H σ ρ) : EnvR K M Z H (some v :: σ) (some d :: ρ)
  | any {o : Option V} {σ : St} {ρ : Rho} (t : EnvR K M Z H σ ρ) : EnvR K M Z H (o :: σ) (none :: ρ)
theorem EnvR.monoI {K : PySem.W.Frag} {M M' : Mp} {Z Z' : Zn} {H H' : Hp} (e : ExI M Z H M' Z' H') : ∀ {σ : St} {ρ : Rho}, EnvR K M Z H σ ρ → EnvR K M' Z' H' σ ρ
  | _, _, .nil => .nil
  | _, _, .val r t => .val (r.monoI e) (EnvR.monoI e t)
  | _, _, .any t => .any (EnvR.monoI e t)
theorem EnvR.get {K : PySem.W.Frag} {M : Mp} {Z : Zn} {H : Hp} : ∀ {σ : St} {ρ : Rho} {i : Nat} {d : D}, EnvR K M Z H σ ρ → ρ[i]? = some (some d) → ∃ v, σ[i]? = some (some v) ∧ Rep K M Z H v d
  | _, _, _, _, .nil, e => by simp at e
  | _, _, 0, _, .val r _, e => by simp at e; subst e; exact ⟨_, rfl, r⟩
  | _, _, 0, _, .any _, e => by simp at e
  | _, _, i + 1, d, .val _ t, e => EnvR.get (i := i) t (by simpa using e)
  | _, _, i + 1, d, .any t, e => EnvR.get (i := i) t (by simpa using e)
theorem EnvR.set {K : PySem.W.Frag} {M : Mp} {Z : Zn} {H : Hp} {v : V} {d : D} (r : Rep K M Z H v d) : ∀ {σ : St} {ρ : Rho} (i : Nat), EnvR K M Z H σ ρ → EnvR K M Z H (σ.set i (.some v)) (ρ.set i (.some d))
  | _, _, _, .nil => .nil
  | _, _, 0, .val _ t => .val r t
  | _, _, 0, .any t => .val r t
  | _, _, i + 1, .val q t => .val q (EnvR.set r i t)
  | _, _, i + 1, .any t => .any (EnvR.set r i t)
theorem EnvR.empty {K : PySem.W.Frag} {M : Mp} {Z : Zn} {H : Hp} : ∀ (n : Nat), EnvR K M Z H (List.replicate n .none) (List.replicate n .none)
  | 0 => .nil
  | n + 1 => .any (EnvR.empty n)
theorem EnvR.start {K : PySem.W.Frag} {M : Mp} {Z : Zn} {H : Hp} {σ : St} {ρ : Rho} (t : EnvR K M Z H σ ρ) : ∀ {vs : List V} {ds : List D}, Reps K M Z H vs ds → EnvR K M Z H (vs.map Option.some ++ σ) (ds.map Option.some ++ ρ)
  | _, _, .nil => t
  | _, _, .cons r q => .val r (EnvR.start t q)
/-- the slots at a def's entry -/
def start (N : List Str) (ds : List D) : Rho := ds.map some ++ List.replicate (N.length - ds.length) none
theorem env_start {K : PySem.W.Frag} {M : Mp} {Z : Zn} {H : Hp} {N : List Str} {vs : List V} {ds : List D} (r : Reps K M Z H vs ds) : EnvR K M Z H (L2.start N vs) (start N ds) := by
  unfold L2.start start
  rw [r.length]
  exact EnvR.start (EnvR.empty _) r
end DL
namespace DL
open PySem L2
section
variable (X : Cx)
def ssSem (st : List Stmt) : TS := fun D σ H => ∀ pins s, Inv X pins σ H s → wpAny (model X.prog X.w) X.A (execs st X.env) (SP X pins D) X.xe s
end
section
variable {X : Cx} {e tg : Expr} {es : List Expr} {st : Stmt} {sts : List Stmt} {σ : L2.St} {H : Hp}
theorem pss_sem : PSs X sts (ssSem X sts) := ⟨fun pins s σ H D I h => h pins s I⟩
end
def KE (K : PySem.W.Frag) (M : Mp) (Z : Zn) (H : Hp) (Φ : D → Mp → Prop) (Q : VK) : Prop := ∀ v d H' M', Ext M Z H M' H' → Wd K M' Z H' → Rep K M' Z H' v d → Φ d M' → Q v H'
def KT (K : PySem.W.Frag) (M : Mp) (Z : Zn) (H : Hp) (Φ : Bool → Mp → Prop) (Q : Bool → Hp → Prop) : Prop := ∀ b H' M', Ext M Z H M' H' → Wd K M' Z H' → Φ b M' → Q b H'
def KA (K : PySem.W.Frag) (M : Mp) (Z : Zn) (H : Hp) (Φ : List D → Mp → Prop) (Q : List V → Hp → Prop) : Prop := ∀ vs ds H' M', Ext M Z H M' H' → Wd K M' Z H' → Reps K M' Z H' vs ds → Φ ds M' → Q vs H'
def KG (K : PySem.W.Frag) (M : Mp) (Z : Zn) (H : Hp) (Φ : Rho → Mp → Prop) (Q : L2.St → Hp → Prop) : Prop := ∀ σ' ρ' H' M', Ext M Z H M' H' → Wd K M' Z H' → EnvR K M' Z H' σ' ρ' → Φ ρ' M' → Q σ' H'
/-- what is wanted behind a statement -/
structure DE where
  nx : Rho → Mp → Prop
  rt : D → Mp → Prop
  bk : Rho → Mp → Prop := fun _ _ => False
  ct : Rho → Mp → Prop := fun _ _ => False
structure KS (K : PySem.W.Frag) (M : Mp) (Z : Zn) (H : Hp) (Ψ : DE) (E : Ends) : Prop where
  nx : KG K M Z H Ψ.nx E.nx
  rt : KE K M Z H Ψ.rt E.rt
  bk : KG K M Z H Ψ.bk E.bk
  ct : KG K M Z H Ψ.ct E.ct
section
variable {K : PySem.W.Frag} {M M1 : Mp} {Z : Zn} {H H1 : Hp}
theorem KE.step {Φ : D → Mp → Prop} {Q : VK} (k : KE K M Z H Φ Q) (e : Ext M Z H M1 H1) : KE K M1 Z H1 Φ Q := fun v d H' M' x w r h => k v d H' M' (e.trans x) w r h
theorem KT.step {Φ : Bool → Mp → Prop} {Q : Bool → Hp → Prop} (k : KT K M Z H Φ Q) (e : Ext M Z H M1 H1) : KT K M1 Z H1 Φ Q := fun b H' M' x w h => k b H' M' (e.trans x) w h
theorem KA.step {Φ : List D → Mp → Prop} {Q : List V → Hp → Prop} (k : KA K M Z H Φ Q) (e : Ext M Z H M1 H1) : KA K M1 Z H1 Φ Q := fun v d H' M' x w r h => k v d H' M' (e.trans x) w r h
theorem KG.step {Φ : Rho → Mp → Prop} {Q : L2.St → Hp → Prop} (k : KG K M Z H Φ Q) (e : Ext M Z H M1 H1) : KG K M1 Z H1 Φ Q := fun v d H' M' x w r h => k v d H' M' (e.trans x) w r h
theorem KS.step {Ψ : DE} {E : Ends} (k : KS K M Z H Ψ E) (e : Ext M Z H M1 H1) : KS K M1 Z H1 Ψ E := ⟨k.nx.step e, k.rt.step e, k.bk.step e, k.ct.step e⟩
end
structure WSs (X : Cx) (ρ : Rho) (M : Mp) (st : List Stmt) (Ψ : DE) : Prop where
  run : ∀ {Z : Zn} σ H (E : Ends), EnvR X.K M Z H σ ρ → Wd X.K M Z H → KS X.K M Z H Ψ E → ssSem X st E σ H
end DL
namespace DL
open PySem PySem.Spec PyProof.Rows L2
/-- a def's contract: arguments, mutable objects, what is wanted behind -/
abbrev Con := List D → Mp → (D → Mp → Prop) → Prop
/-- its promise in the hand layer -/
def spD (K : PySem.W.Frag) (n : Nat) (c : Con) : Sp := fun vs H Q _ => ∃ ds M Z Φ, ds.length = n ∧ Reps K M Z H vs ds ∧ Wd K M Z H ∧ c ds M Φ ∧ KE K M Z H Φ Q
/-- M' has no more than M -/
def Les (M' M : Mp) : Prop := ∀ b, M' b = M b ∨ M' b = none
theorem Les.refl {M : Mp} : Les M M := fun _ => .inl rfl
theorem Les.x {M M' : Mp} {Z : Zn} {H : Hp} (l : Les M' M) : ExI M Z H M' Z H := fun b o q m => by
  refine ⟨q, ?_, m.2⟩
  rcases l b with e | e
  · rw [e]; exact m.1
  · exact e
theorem Les.w {K : PySem.W.Frag} {M M' : Mp} {Z : Zn} {H : Hp} (l : Les M' M) (w : Wd K M Z H) : Wd K M' Z H := by
  refine ⟨fun a o e => ?_, fun b z => ?_⟩
  · rcases l a with q | q
    · rw [q] at e; exact (w.1 a o e).stepI l.x rfl
    · rw [q] at e; cases e
  · obtain ⟨m, u⟩ := w.2 b z
    rcases l b with q | q
    · exact ⟨q.trans m, u⟩
    · exact ⟨q, u⟩
theorem Les.ext {K : PySem.W.Frag} {M M' : Mp} {Z : Zn} {H : Hp} (l : Les M' M) (w : Wd K M Z H) : Ext M Z H M' H := by
  refine ⟨l.x, fun b z => ⟨rfl, ?_⟩⟩
  have m := (w.2 b z).1
  rcases l b with q | q
  · exact q
  · rw [q, m]
/-- d, read while M stands, is d' where only M' is left -/
inductive Fz (M M' : Mp) : D → D → Prop where
  | same (d : D) : Fz M M' d d
  | lst {a : Addr} {ds : List D} : M a = some (.lst ds) → M' a = none → Fz M M' (.ob a) (.lst ds)
  | dK {a : Addr} {ds : List (Key × D)} : M a = some (.dK ds) → M' a = none → Fz M M' (.ob a) (.dK ds)
  | dT {a : Addr} {ds : List (List Key × D)} : M a = some (.dT ds) → M' a = none → Fz M M' (.ob a) (.dT ds)
  | ins {a C : Addr} {fs : List (Str × D)} : M a = some (.ins C fs) → M' a = none → Fz M M' (.ob a) (.ins C fs)
  | fdK {a : Addr} {ds : List (Key × D)} : M a = some (.fdK ds) → M' a = none → Fz M M' (.ob a) (.fdK ds)
  | slo {a C : Addr} {os : List (Option D)} : M a = some (.slo C os) → M' a = none → Fz M M' (.ob a) (.slo C os)
theorem Fz.rep {K : PySem.W.Frag} {M M' : Mp} {Z : Zn} {H : Hp} {v : V} {d d' : D} (f : Fz M M' d d') (l : Les M' M) (w : Wd K M Z H) (r : Rep K M Z H v d) : Rep K M' Z H v d' := by
  cases f with
  | same d => exact r.monoI l.x
  | lst h h' =>
    cases r
    obtain ⟨vs, e, r⟩ := w.1 _ _ h
    exact .lst e ⟨h', fun z => by have := (w.2 _ z).1; rw [h] at this; cases this⟩ (r.monoI l.x)
  | dK h h' =>
    cases r
    obtain ⟨vs, e, r⟩ := w.1 _ _ h
    exact .dK e ⟨h', fun z => by have := (w.2 _ z).1; rw [h] at this; cases this⟩ (r.monoI l.x)
  | dT h h' =>
    cases r
    obtain ⟨vs, e, r⟩ := w.1 _ _ h
    exact .dT e ⟨h', fun z => by have := (w.2 _ z).1; rw [h] at this; cases this⟩ (r.monoI l.x)
  | ins h h' =>
    cases r
    obtain ⟨dx, vs, e, r⟩ := w.1 _ _ h
    exact .ins e ⟨h', fun z => by have := (w.2 _ z).1; rw [h] at this; cases this⟩ (r.monoI l.x)
  | fdK h h' =>
    cases r
    obtain ⟨o, vs, e, r⟩ := w.1 _ _ h
    exact .fdK e ⟨h', fun z => by have := (w.2 _ z).1; rw [h] at this; cases this⟩ (r.monoI l.x)
  | slo h h' =>
    cases r
    obtain ⟨dx, vs, e, hd, md, r⟩ := w.1 _ _ h
    exact .slo e hd ⟨h', fun z => by have := (w.2 _ z).1; rw [h] at this; cases this⟩ (l.x _ _ hd md).2 (r.monoI l.x)
/-- the end, some objects let go -/
def Lets (Φ : D → Mp → Prop) : D → Mp → Prop := fun d M => ∃ d' M', Les M' M ∧ Fz M M' d d' ∧ Φ d' M'
theorem Lets.of {Φ : D → Mp → Prop} {d : D} {M : Mp} (h : Φ d M) : Lets Φ d M := ⟨d, M, Les.refl, .same d, h⟩
theorem lets_k {K : PySem.W.Frag} {M : Mp} {Z : Zn} {H : Hp} {Φ : D → Mp → Prop} {Q : VK} (k : KE K M Z H Φ Q) : KE K M Z H (Lets Φ) Q := fun v d H' M' x w r z => by
  obtain ⟨d', M2, l, f, z⟩ := z
  exact k v d' H' M2 (x.trans (l.ext w)) (l.w w) (f.rep l w r) z
/-- slots, some objects let go -/
inductive FzE (M M' : Mp) : Rho → Rho → Prop where
  | nil : FzE M M' [] []
  | val {d d' : D} {ρ ρ' : Rho} : Fz M M' d d' → FzE M M' ρ ρ' → FzE M M' (some d :: ρ) (some d' :: ρ')
  | drop {o : Option D} {ρ ρ' : Rho} : FzE M M' ρ ρ' → FzE M M' (o :: ρ) (none :: ρ')
theorem FzE.env {K : PySem.W.Frag} {M M' : Mp} {Z : Zn} {H : Hp} (l : Les M' M) (w : Wd K M Z H) : ∀ {σ : L2.St} {ρ ρ' : Rho}, FzE M M' ρ ρ' → EnvR K M Z H σ ρ → EnvR K M' Z H σ ρ'
  | _, _, _, .nil, .nil => .nil
  | _, _, _, .val f t, .val r u => .val (f.rep l w r) (FzE.env l w t u)
  | _, _, _, .drop t, .val r u => .any (FzE.env l w t u)
  | _, _, _, .drop t, .any u => .any (FzE.env l w t u)
theorem FzE.refl {M M' : Mp} : ∀ (ρ : Rho), FzE M M' ρ ρ
  | [] => .nil
  | some d :: ρ => .val (.same d) (FzE.refl ρ)
  | none :: ρ => .drop (FzE.refl ρ)
section
variable {P : Program} {w : World} {K : PySem.W.Frag} {mg : Str → Option Value} {base : Heap} {x qual : Str} {params : Arguments} {body : List Stmt} {scope : Scope} {dvs : List V} {kws : List (Str × V)} {f : Addr} {fd : FuncData}
/-- the context of a body -/
abbrev bx (P : Program) (w : World) (K : PySem.W.Frag) (mg : Str → Option Value) (base : Heap) (N : List Str) (qual : Str) (scope : Scope) (f : Addr) (cdv : Value) (A : Around) (outer : List Env) (s : Shared) (H : Hp) (E : XK) : Cx :=
  (cxOf CX0 P w K mg base N qual scope f cdv A outer s H E).nox
theorem fn_ok {N ps : List Str} {k : Nat} {c : Con} (F : FunD K x qual params body scope dvs kws f fd) (S : FnScope N ps scope)
    (h : ∀ (cdv : Value) (A : Around) (outer : List Env) (s : Shared) (H : Hp) (E : XK), Room k (A.deeper (envOfC qual scope s.heap.objs.size f cdv)) → ∀ ds M Φ, ds.length = ps.length → c ds M Φ →
      WSs (bx P w K mg base N qual scope f cdv A outer s H E) (start N ds) M body { nx := fun _ M' => Φ .non M', rt := Lets Φ }) : FnOk P w K mg base CX0 (k + 1) f fd ps (spD K ps.length c) := by
  refine F.ok S (fun vs H Q E q => ?_) (fun cdv A outer s H vs Q E hr q => ?_)
  · obtain ⟨ds, M, Z, Φ, hl, r, _⟩ := q
    rw [r.length, hl]
  · obtain ⟨ds, M, Z, Φ, hl, r, wd, hc, k⟩ := q
    refine ⟨_, PSs.nox (pss_sem (X := bx P w K mg base N qual scope f cdv A outer s H E)), ?_⟩
    exact (h cdv A outer s H E hr ds M Φ hl hc).run (L2.start N vs) H _ (env_start r) wd ⟨fun σ' ρ' H' M' x w' en z => k _ .non H' M' x w' .non z, lets_k k, fun _ _ _ _ _ _ _ z => z.elim, fun _ _ _ _ _ _ _ z => z.elim⟩
end
section
variable {X : Cx} {ρ : Rho} {M : Mp} {Φ : D → Mp → Prop} {e o : Expr} {es : List Expr} {pos p apos : Pos} {x m : Str} {dd : List D} {k n : Nat} {c : Con}
theorem RepF.lookup {K : PySem.W.Frag} {M : Mp} {Z : Zn} {H : Hp} (f : Str) : ∀ {vs : List (Str × V)} {ds : List (Str × D)}, RepF K M Z H vs ds → (ds.lookup f = none → vs.lookup f = none) ∧ ∀ d, ds.lookup f = some d → ∃ v, vs.lookup f = some v ∧ Rep K M Z H v d
  | _, _, .nil => ⟨fun _ => rfl, fun d e => by cases e⟩
  | _, _, .cons (k := g) (v := v) (d := d) (vs := vs) (ds := ds) r t => by
    rw [List.lookup_cons, List.lookup_cons]
    cases hg : f == g with
    | true =>
      refine ⟨fun e => ?_, fun d e => ?_⟩
      · cases e
      · cases e; exact ⟨_, rfl, r⟩
    | false => exact RepF.lookup f t
theorem RepF.length {K : PySem.W.Frag} {M : Mp} {Z : Zn} {H : Hp} : ∀ {vs : List (Str × V)} {ds : List (Str × D)}, RepF K M Z H vs ds → vs.length = ds.length
  | _, _, .nil => rfl
  | _, _, .cons _ t => by rw [List.length_cons, List.length_cons, t.length]
/-- the method m of the class at C has this contract (self among the arguments) -/
structure Mc (P : Program) (w : World) (K : PySem.W.Frag) (mg : Str → Option Value) (base : Heap) (C : Addr) (m : Str) (dd : List D) (k n : Nat) (c : Con) : Prop where
  cl : Cls K C
  ex : ∃ (f : Addr) (fd : FuncData) (ps : List Str) (dvs : List V) (ds : List Value), FnOk P w K mg base CX0 k f fd ps (spD K n c) ∧ Meth K C m f ∧ Binds K fd ps ds ∧ Vals dvs ds ∧ ∀ M Z H, Reps K M Z H dvs dd
end
end DL
namespace DL
open PySem PySem.Spec PyProof.Rows L2
section
variable {X : Cx} {ρ : Rho} {M : Mp} {Φ : D → Mp → Prop} {Θ : Bool → Mp → Prop} {a b e : Expr} {pos : Pos} {K : PySem.W.Frag}
/-- the answer of == between scalars -/
def EqS : D → D → Bool → Prop
  | .int i, .int j, c => c = decide (i = j)
  | .str i, .str j, c => c = decide (i = j)
  | .bl i, .bl j, c => c = decide (i = j)
  | .non, .non, c => c = true
  | .non, .int _, c => c = false
  | .int _, .non, c => c = false
  | .non, .str _, c => c = false
  | .str _, .non, c => c = false
  | .int _, .str _, c => c = false
  | .str _, .int _, c => c = false
  | _, _, _ => False
theorem EqS.rep {x y : D} {c : Bool} {M : Mp} {Z : Zn} {H : Hp} {v u : V} (h : EqS x y c) (r1 : Rep K M Z H v x) (r2 : Rep K M Z H u y) : scal v u = true ∧ decide (v = u) = c := by
  cases r1 <;> cases r2 <;> first
    | (cases h; exact ⟨rfl, by simp⟩)
    | (exact False.elim h)
    | (cases h; exact ⟨rfl, rfl⟩)
mutual
def toPy : D → Option PyData
  | .non => some .none
  | .bl b => some (.bool b)
  | .int i => some (.int i)
  | .str x => some (.str x)
  | .lst xs => (toPys xs).map .list
  | .rol xs => (toPys xs).map .list
  | .tup xs => (toPys xs).map .tuple
  | _ => none
def toPys : List D → Option (List PyData)
  | [] => some []
  | x :: xs => (toPy x).bind fun d => (toPys xs).map fun ds => d :: ds
end
mutual
theorem Rep.dp {M : Mp} {Z : Zn} {H : Hp} : ∀ {v : V} {d : D} {p : PyData}, Rep K M Z H v d → toPy d = some p → Dp K H v p
  | _, _, _, .non, e => by cases e; exact .non
  | _, _, _, .bl b, e => by cases e; exact .bl b
  | _, _, _, .int i, e => by cases e; exact .int i
  | _, _, _, .str x, e => by cases e; exact .str x
  | _, _, _, .ty n, e => by simp [toPy] at e
  | _, _, _, .fn n, e => by simp [toPy] at e
  | _, _, _, .ob n, e => by simp [toPy] at e
  | _, _, _, .dK h m r, e => by simp [toPy] at e
  | _, _, _, .dT h m r, e => by simp [toPy] at e
  | _, _, _, .ins h m r, e => by simp [toPy] at e
  | _, _, _, .key h m, e => by simp [toPy] at e
  | _, _, _, .fig h hd m md, e => by simp [toPy] at e
  | _, _, _, .exc h hd m md r, e => by simp [toPy] at e
  | _, _, _, .lam h hc m mc, e => by simp [toPy] at e
  | _, _, _, .fdK h m r, e => by simp [toPy] at e
  | _, _, _, .fdN h m r, e => by simp [toPy] at e
  | _, _, _, .ptup h hd m r, e => by simp [toPy] at e
  | _, _, _, .ptupK h r, e => by simp [toPy] at e
  | _, _, _, .slo h hd m md r, e => by simp [toPy] at e
  | _, _, _, .lst h m r, e => by
    obtain ⟨ps, e1, rfl⟩ := Option.map_eq_some_iff.mp (by simpa only [toPy] using e)
    exact .lst (.inl (.inl h)) (Reps.dp r e1)
  | _, _, _, .rol h m r, e => by
    obtain ⟨ps, e1, rfl⟩ := Option.map_eq_some_iff.mp (by simpa only [toPy] using e)
    exact .lst (.inl h) (Reps.dp r e1)
  | _, _, _, .rolK h r, e => by
    obtain ⟨ps, e1, rfl⟩ := Option.map_eq_some_iff.mp (by simpa only [toPy] using e)
    exact .lst (.inr h) (Reps.dp r e1)
  | _, _, _, .tup h m r, e => by
    obtain ⟨ps, e1, rfl⟩ := Option.map_eq_some_iff.mp (by simpa only [toPy] using e)
    exact .tup (.inl h) (Reps.dp r e1)
  | _, _, _, .tupK h r, e => by
    obtain ⟨ps, e1, rfl⟩ := Option.map_eq_some_iff.mp (by simpa only [toPy] using e)
    exact .tup (.inr h) (Reps.dp r e1)
theorem Reps.dp {M : Mp} {Z : Zn} {H : Hp} : ∀ {vs : List V} {ds : List D} {ps : List PyData}, Reps K M Z H vs ds → toPys ds = some ps → DpAll K H vs ps
  | _, _, _, .nil, e => by cases (show some [] = some _ from (by simpa only [toPys] using e)); exact .nil
  | _, _, _, .cons r t, e => by
    simp only [toPys] at e
    obtain ⟨p, e1, e2⟩ := Option.bind_eq_some_iff.mp e
    obtain ⟨qs, e3, rfl⟩ := Option.map_eq_some_iff.mp e2
    exact .cons (Rep.dp r e1) (Reps.dp t e3)
end
/-- the items of a slice -/
def cutD {α : Type} (xs : List α) (lo hi : Option Int) : List α := (xs.drop (HT.sIx xs.length 0 lo)).take (HT.sIx xs.length xs.length hi - HT.sIx xs.length 0 lo)
theorem Reps.cut {M : Mp} {Z : Zn} {H : Hp} {vs : List V} {ds : List D} (r : Reps K M Z H vs ds) (lo hi : Option Int) : Reps K M Z H (cutV vs lo hi) (cutD ds lo hi) := by
  unfold cutV cutD
  rw [r.length]
  exact (r.drop _).take _
end
end DL
namespace DL
open PySem PySem.Spec PyProof.Rows L2
section
variable {K : PySem.W.Frag} {M : Mp} {Z : Zn} {H : Hp}
theorem Reps.set {v : V} {d : D} (r : Rep K M Z H v d) : ∀ {vs : List V} {ds : List D} (j : Nat), Reps K M Z H vs ds → Reps K M Z H (vs.set j v) (ds.set j d)
  | _, _, _, .nil => .nil
  | _, _, 0, .cons _ t => .cons r t
  | _, _, j + 1, .cons q t => .cons q (Reps.set r j t)
theorem Reps.one {vs : List V} {d : D} (r : Reps K M Z H vs [d]) : ∃ v, vs = [v] ∧ Rep K M Z H v d := by
  cases r with
  | cons r t => cases t; exact ⟨_, rfl, r⟩
theorem Reps.two {vs : List V} {d e : D} (r : Reps K M Z H vs [d, e]) : ∃ v u, vs = [v, u] ∧ Rep K M Z H v d ∧ Rep K M Z H u e := by
  cases r with
  | cons r t =>
    obtain ⟨u, rfl, r2⟩ := t.one
    exact ⟨_, u, rfl, r, r2⟩
end
section
variable {X : Cx} {ρ : Rho} {M : Mp} {Φ : D → Mp → Prop} {Θ : Bool → Mp → Prop} {a b e o : Expr} {es : List Expr} {pos p apos : Pos} {x : Str}
/-- the class of data, as the fragment's deciders take it -/
def TyD (M : Mp) : D → Value → Prop
  | .non, t => t = .type "NoneType"
  | .bl _, t => t = .type "bool"
  | .int _, t => t = .type "int"
  | .str _, t => t = .type "str"
  | .lst _, t => t = .type "list"
  | .tup _, t => t = .type "tuple"
  | .dK _, t => t = .type "dict"
  | .dT _, t => t = .type "dict"
  | .ins C _, t => t = .ref C
  | _, _ => False
/-- what isinstance asks of an own class -/
structure OwnC (K : PySem.W.Frag) (C : Addr) : Prop where
  cl : Cls K C
  ha : PySem.W.findIn K (.ref C) "__class__" = some (some (.builtin "object.__class__"))
  hn : PySem.W.specialIn K (.builtin "object.__class__") "__get__" = some (some (.builtin "getset_descriptor.__get__"))
  htk : PySem.W.takesIn K (.builtin "object.__class__") = some true
  hm : PySem.W.mroIn K C (.type "object") = some true
theorem TyD.rep {K : PySem.W.Frag} {M : Mp} {Z : Zn} {H : Hp} {v : V} {d : D} {t : Value} (r : Rep K M Z H v d) (h : TyD M d t) (own : ∀ C, t = .ref C → OwnC K C) : TyX K H v t := by
  cases r with
  | non => cases h; exact .base .non
  | bl b => cases h; exact .base (.bl b)
  | int i => cases h; exact .base (.int i)
  | str x => cases h; exact .base (.str x)
  | lst h1 m r => cases h; exact .base (.lst h1)
  | tup h1 m r =>
    cases h
    rcases h1 with h1 | ⟨o, h1⟩
    · exact .base (.tup h1)
    · exact .fTuple h1
  | tupK h1 r =>
    cases h
    obtain ⟨o, its, n, hk, hc, _⟩ := h1
    exact .kTuple hk hc
  | dK h1 m r => cases h; exact .base (.dK h1)
  | dT h1 m r => cases h; exact .base (.dT h1)
  | ins h1 m r =>
    cases h
    obtain ⟨cl, ha, hn, htk, hm⟩ := own _ rfl
    exact .base (.ins h1 cl ha hn htk hm)
  | _ => cases h
end
end DL
namespace DL
open PySem PySem.Spec PyProof.Rows L2
/-- at a a dict of the top: these texts with these values, in this order -/
def WrD (K : PySem.W.Frag) (w : World) (a : Addr) (kvs : List (Str × V)) : Prop := ∃ es n, K.lookup a = some ⟨.type "dict", none, .dict es n, #[]⟩ ∧ (a == sysModules) = false ∧ PySem.W.KeysLit w.params es.toList ∧
  Paired (fun (p : Str × V) (e : DictEntry) => (∃ t, e.key = .str p.1 t) ∧ RelV p.2 e.val) kvs es.toList ∧ (kvs.map (·.1)).Nodup
section
variable {X : Cx} {ρ : Rho} {M : Mp} {a : Addr} {e f : Expr} {pos p apos : Pos} {x : Str} {kvs : List (Str × V)}
theorem RepF.get {K : PySem.W.Frag} {M : Mp} {Z : Zn} {H : Hp} : ∀ {vs : List (Str × V)} {ds : List (Str × D)} {i : Nat} {k : Str} {d : D}, RepF K M Z H vs ds → ds[i]? = some (k, d) → ∃ v, vs[i]? = some (k, v) ∧ Rep K M Z H v d
  | _, _, _, _, _, .nil, e => by simp at e
  | _, _, 0, _, _, .cons r _, e => by simp at e; obtain ⟨rfl, rfl⟩ := e; exact ⟨_, rfl, r⟩
  | _, _, i + 1, k, d, .cons _ t, e => by
    obtain ⟨u, h1, h2⟩ := RepF.get (i := i) (d := d) t (by simpa using e)
    exact ⟨u, by simpa using h1, h2⟩
end
end DL
namespace DL
open PySem PySem.Spec PyProof.Rows L2
section
variable {P : Program} {w : World} {K : PySem.W.Frag} {mg : Str → Option Value} {base : Heap} {x : Str} {st : Stmt} {N ps : List Str} {j k n : Nat} {c : Con} {dd : List D} {C : Addr} {m : Str}
/-- a body keeps a contract -/
def BodyOk (P : Program) (w : World) (K : PySem.W.Frag) (mg : Str → Option Value) (base : Heap) (qual : Str) (st : Stmt) (N : List Str) (n k : Nat) (c : Con) : Prop :=
  ∀ (f : Addr) (cdv : Value) (A : Around) (outer : List Env) (s : Shared) (H : Hp) (E : XK), Room k (A.deeper (envOfC qual (defScope st) s.heap.objs.size f cdv)) → ∀ ds M Φ, ds.length = n → c ds M Φ →
      WSs (bx P w K mg base N qual (defScope st) f cdv A outer s H E) (start N ds) M (defBody st) { nx := fun _ M' => Φ .non M', rt := Lets Φ }
end
/-- the method m of the class C of the name x is the statement st -/
structure Md (K : PySem.W.Frag) (C : Addr) (m qual : Str) (st : Stmt) (f : Addr) : Prop where
  ex : ∃ fd : FuncData, FunD K m qual (defArgs st) (defBody st) (defScope st) [] [] f fd
section
variable {P : Program} {w : World} {K : PySem.W.Frag} {mg : Str → Option Value} {base : Heap} {x qual : Str} {st : Stmt} {N ps : List Str} {j k n : Nat} {c : Con} {dd : List D} {C : Addr} {m : Str} {f p : Addr}
theorem Md.mc (D : Md K C m qual st f) (cl : Cls K C) (me : Meth K C m f) (S : FnScope N ps (defScope st))
    (hb : ∀ (kV doc pm : Value) (an : Option Addr) (cdv ct : Value) (us : List Value), us.length = ps.length → bindArgs (PySem.W.fnOf m qual (defArgs st) (defBody st) (defScope st) .none kV doc pm an cdv ct) ⟨us, []⟩ = pure (ps.zip us))
    (h : BodyOk P w K mg base qual st N ps.length k c) : Mc P w K mg base C m [] (k + 1) ps.length c := by
  obtain ⟨fd, F⟩ := D.ex
  exact ⟨cl, f, fd, ps, [], [], fn_ok F S (h f), me, F.bindsN hb, .nil, fun _ _ _ => .nil⟩
end
end DL
namespace DL
open PySem PySem.Spec PyProof.Rows L2
/-- lists of such -/
structure CmpDs (ds : List D) (ps : List PyData) (k : Nat) : Prop where
  eq : toPys ds = some ps
  lay : PyData.canLayAll0 ps = true
  dep : PyData.depthAll ps ≤ k
theorem CmpDs.length {k : Nat} : ∀ {ds : List D} {ps : List PyData}, CmpDs ds ps k → ps.length = ds.length
  | [], ps, h => by
    have := h.eq
    simp only [toPys, Option.some.injEq] at this
    rw [← this]; rfl
  | d :: ds, ps, h => by
    have := h.eq
    simp only [toPys] at this
    obtain ⟨p, e1, e2⟩ := Option.bind_eq_some_iff.mp this
    obtain ⟨qs, e3, rfl⟩ := Option.map_eq_some_iff.mp e2
    have l := h.lay
    have dd := h.dep
    simp only [PyData.canLayAll0, Bool.and_eq_true, PyData.depthAll] at l dd
    rw [List.length_cons, List.length_cons, CmpDs.length (k := k) ⟨e3, l.2, by omega⟩]
end DL
namespace DL
open PySem PySem.Spec PyProof.Rows L2
/-- as FnOk, where nothing is being shown -/
structure FnG (P : Program) (w : World) (K : PySem.W.Frag) (mg : Str → Option Value) (base : Heap) (k : Nat) (f : Addr) (fd : FuncData) (ps : List Str) (sp : Sp) : Prop where
  len : ∀ vs H Q E, sp vs H Q E → vs.length = ps.length
  run : ∀ (A : Around) (outer : List Env) (s : Shared) (H : Hp) (args : Args) (us : List Value) (vs : List V) (Q : VK) (E : XK), A.guards = some [] → Room k A → Env0 P w K mg base A outer s H → BindsTo s fd args (ps.zip us) → Vals vs us → sp vs H Q E →
    codeAny (model P w) A (.call (.ref f) args) (CR CX0 outer P w H s Q E) s
section
variable {P : Program} {w : World} {K : PySem.W.Frag} {mg : Str → Option Value} {base : Heap} {x qual : Str} {st : Stmt} {kws : List (Str × V)} {f : Addr} {fd : FuncData} {N ps : List Str} {k n : Nat} {c : Con}
theorem FnOk.g {sp : Sp} (F : FnOk P w K mg base CX0 k f fd ps sp) : FnG P w K mg base k f fd ps sp := ⟨F.len, fun A outer s H args us vs Q E _ => F.run A outer s H args us vs Q E⟩
end
end DL
namespace DL
open PySem PySem.Spec PyProof.Rows L2
section
variable {X : Cx} {ρ : Rho} {M : Mp} {Φ : D → Mp → Prop} {Θ : Bool → Mp → Prop} {a b e o i : Expr} {es : List Expr} {pos p : Pos}
def valD (kvs : List (List Key × D)) (k : List Key) : Option D := (kvs.find? fun kv => decide (kv.1 = k)).map (·.2)
theorem RepT.length {K : PySem.W.Frag} {M : Mp} {Z : Zn} {H : Hp} : ∀ {vs : List (List Key × V)} {ds : List (List Key × D)}, RepT K M Z H vs ds → vs.length = ds.length
  | _, _, .nil => rfl
  | _, _, .cons _ t => by rw [List.length_cons, List.length_cons, RepT.length t]
theorem RepT.val {K : PySem.W.Frag} {M : Mp} {Z : Zn} {H : Hp} {k : List Key} {d : D} : ∀ {vs : List (List Key × V)} {ds : List (List Key × D)}, RepT K M Z H vs ds → valD ds k = some d → ∃ v, valV vs k = some v ∧ Rep K M Z H v d
  | _, _, .nil, h => by cases h
  | _, _, .cons (k := j) (v := v) (d := d0) (vs := vs) (ds := ds) r t, h => by
    by_cases e : j = k
    · have h2 : some d0 = some d := by rw [← h]; unfold valD; rw [List.find?_cons_of_pos (by simpa using e)]; rfl
      cases h2
      exact ⟨v, valV_pos (p := (j, v)) e, r⟩
    · have h2 : valD ds k = some d := by rw [← h]; unfold valD; rw [List.find?_cons_of_neg (by simpa using e)]
      obtain ⟨u, hu, ru⟩ := RepT.val t h2
      exact ⟨u, by rw [valV_neg (p := (j, v)) e]; exact hu, ru⟩
theorem RepT.any {K : PySem.W.Frag} {M : Mp} {Z : Zn} {H : Hp} {k : List Key} : ∀ {vs : List (List Key × V)} {ds : List (List Key × D)}, RepT K M Z H vs ds → (vs.any fun kv => decide (kv.1 = k)) = ds.any fun kv => decide (kv.1 = k)
  | _, _, .nil => rfl
  | _, _, .cons r t => by rw [List.any_cons, List.any_cons, RepT.any t]
end
end DL
namespace DL
open PySem PySem.Spec PyProof.Rows L2 SlX
/-- a class with these slots -/
structure SlC (K : PySem.W.Frag) (C : Addr) (fs : List Str) : Prop where
  sc : SCls K C
  sl : ∀ (i : Nat) (f : Str), fs[i]? = some f → ∃ p, Slot1 K C f p i
end DL
namespace HK
open PySem PySem.Spec PyProof.Rows L2 DL He
/-- a def of the text: where it stands -/
structure Dd where
  adr : PySem.W.Frag → Addr
  name : Str
  qual : Str
  st : Stmt
  dfl : List V := []
  dfg : List Str := []
  dfn : Nat := 0
  dfk : List (Str × V) := []
  dfz : List V := []
/-- where the default of that number stands, of whatever kind -/
def dfA (K : PySem.W.Frag) (f : Addr) (i : Nat) : Addr := match K.lookup f with
  | some ⟨_, _, .func fd, _⟩ => (match fd.defaults with
    | .ref T => (match K.lookup T with
      | some ⟨_, _, .seq its _, _⟩ => (match its.toList[i]? with
        | some (.ref a) => a
        | _ => 0)
      | _ => 0)
    | _ => 0)
  | _ => 0
/-- the defaults: shown ones, then what stands under names -/
def Dd.dvs (d : Dd) (K : PySem.W.Frag) : List V := d.dfl ++ ((d.dfg.map fun x => V.ref (ga K x)) ++ (((List.range d.dfn).map fun i => V.ref (dfA K (d.adr K) i)) ++ d.dfz))
/-- a name of the module, or the first default of Form.__init__ -/
def txA (K : PySem.W.Frag) (x : Str) : Addr := if x = "@Form" then dfA K (ma K (ga K "Form") "__init__") 0 else ga K x
def fnA (K : PySem.W.Frag) (a : Addr) : FnW := match K.lookup a with
  | some ⟨_, _, .func fd, _⟩ => some (fd.name, fd.qualname, fd.params, fd.body, fd.scope, fd.globals, fd.closure, fd.builtins)
  | _ => none
def Dd.val (d : Dd) : FnW := some (d.name, d.qual, defArgs d.st, .stmts (defBody d.st), defScope d.st, mainGlobals, [], builtinsNs)
def Dd.ok (K : PySem.W.Frag) (d : Dd) : Bool := PySem.W.keepIn K (.ref (d.adr K)) && (match K.lookup (d.adr K) with
  | some ⟨_, _, .func fd, _⟩ => PySem.W.codeIn K fd.code d.qual && (dflB K fd.defaults (d.dvs K) && kwdB K fd.kwdefaults d.dfk)
  | _ => false)
theorem Dd.funD {K : PySem.W.Frag} {d : Dd} (e : fnA K (d.adr K) = d.val) (c : d.ok K = true) : ∃ fd, FunD K d.name d.qual (defArgs d.st) (defBody d.st) (defScope d.st) (d.dvs K) d.dfk (d.adr K) fd := by
  obtain ⟨kp, c2⟩ := Bool.and_eq_true_iff.mp c
  unfold fnA at e
  cases q : K.lookup (d.adr K) with
  | none => rw [q] at c2; cases c2
  | some o =>
    obtain ⟨oc, od, dt, osl⟩ := o
    rw [q] at c2 e
    cases dt with
    | func fd =>
      obtain ⟨x1, x2, x3, x4, x5, x6, x7, x8, x9, x10, x11, x12, x13, x14, x15⟩ := fd
      have e2 : (some (x1, x2, x3, x4, x5, x6, x7, x15) : FnW) = some (d.name, d.qual, defArgs d.st, .stmts (defBody d.st), defScope d.st, mainGlobals, [], builtinsNs) := e
      simp only [Option.some.injEq, Prod.mk.injEq] at e2
      obtain ⟨h1, h2, h3, h4, h5, h6, h7, h8⟩ := e2
      subst h1 h2 h3 h4 h5 h6 h7 h8
      obtain ⟨y1, y2⟩ := Bool.and_eq_true_iff.mp (show (PySem.W.codeIn K x13 d.qual && (dflB K x8 (d.dvs K) && kwdB K x9 d.dfk)) = true from c2)
      obtain ⟨y3, y4⟩ := Bool.and_eq_true_iff.mp y2
      exact ⟨_, ⟨oc, od, x8, x9, x10, x11, x12, x13, x14, osl, rfl, q, y1, dflB_ok y3, kwdB_ok y4⟩, kp⟩
    | _ => cases c2
/-- the getter of a property -/
def pgA (C m : Str) (K : PySem.W.Frag) : Addr := match PySem.W.recIn K (ma K (ga K C) m) "property" with
  | some (.ref g :: _) => g
  | _ => 0
def propB (K : PySem.W.Frag) (q : Str × Str) : Bool := eqO (PySem.W.findIn K (.ref (ga K q.1)) q.2) (some (some (.ref (ma K (ga K q.1) q.2)))) && (eqO (PySem.W.specialIn K (.ref (ma K (ga K q.1) q.2)) "__get__") (some (some (.builtin "property.__get__"))) &&
  (decide (PySem.W.takesIn K (.ref (ma K (ga K q.1) q.2)) = some true) && (match PySem.W.recIn K (ma K (ga K q.1) q.2) "property" with
  | some (.ref _ :: _) => true
  | _ => false)))
/-- a value: a text, a tuple of texts, an int -/
inductive Dt where
  | s (z : Str) | t (zs : List Str) | i (n : Int)
def Dt.d : Dt → D
  | .s z => .str z
  | .t zs => .tup (zs.map D.str)
  | .i n => .int n
def Dt.ok (K : PySem.W.Frag) : Dt → Value → Bool
  | .s z, .str y _ => decide (y = z)
  | .i n, .int m _ => decide (m = n)
  | .t zs, .ref b => (match K.lookup b with
    | some ⟨.type c, _, .seq its _, _⟩ => decide (c = "tuple") && (decide (its.size ≤ sizeLine) && relAll (zs.map V.str) its.toList)
    | _ => false)
  | _, _ => false
theorem Dt.rep {K : PySem.W.Frag} {x : Dt} {u : Value} (h : x.ok K u = true) : ∃ v, RelV v u ∧ ∀ M Z H, Rep K M Z H v x.d := by
  cases x with
  | s z =>
    cases u with
    | str y t =>
      obtain rfl : y = z := of_decide_eq_true h
      exact ⟨.str y, ⟨t, rfl⟩, fun _ _ _ => .str y⟩
    | _ => cases h
  | i n =>
    cases u with
    | int y t =>
      obtain rfl : y = n := of_decide_eq_true h
      exact ⟨.int y, ⟨t, rfl⟩, fun _ _ _ => .int y⟩
    | _ => cases h
  | t zs =>
    cases u with
    | ref b =>
      refine ⟨.ref b, rfl, fun M Z H => ?_⟩
      cases q : K.lookup b with
      | none => simp only [Dt.ok, q] at h; cases h
      | some o =>
        obtain ⟨oc, od, dt, osl⟩ := o
        simp only [Dt.ok, q] at h
        cases oc with
        | type c =>
          cases dt with
          | seq its n =>
            obtain ⟨h1, h2⟩ := Bool.and_eq_true_iff.mp (show (decide (c = "tuple") && (decide (its.size ≤ sizeLine) && relAll (zs.map V.str) its.toList)) = true from h)
            obtain ⟨h3, h4⟩ := Bool.and_eq_true_iff.mp h2
            exact .tupK ⟨_, its, n, q, congrArg Value.type (of_decide_eq_true h1), rfl, of_decide_eq_true h3, relAll_ok h4⟩ (Reps.ofStrs zs)
          | _ => cases h
        | _ => cases dt <;> cases h
    | _ => cases h
def entsB (K : PySem.W.Frag) : List (Str × Dt) → List DictEntry → Bool
  | [], [] => true
  | q :: qs, e :: es => (match e.key with
    | .str x _ => decide (x = q.1)
    | _ => false) && (q.2.ok K e.val && entsB K qs es)
  | _, _ => false
theorem entsB_ok {K : PySem.W.Frag} : ∀ {qs : List (Str × Dt)} {es : List DictEntry}, entsB K qs es = true → ∃ kvs : List (Str × V), Paired (fun (p : Str × V) (e : DictEntry) => (∃ t, e.key = .str p.1 t) ∧ RelV p.2 e.val) kvs es ∧ kvs.map (·.1) = qs.map (·.1) ∧ ∀ M Z H, RepF K M Z H kvs (qs.map fun q => (q.1, q.2.d))
  | [], [], _ => ⟨[], .nil, rfl, fun _ _ _ => .nil⟩
  | [], _ :: _, h => by cases h
  | _ :: _, [], h => by cases h
  | q :: qs, e :: es, h => by
    obtain ⟨h1, h2⟩ := Bool.and_eq_true_iff.mp (show ((match e.key with | .str x _ => decide (x = q.1) | _ => false) && (q.2.ok K e.val && entsB K qs es)) = true from h)
    obtain ⟨h3, h4⟩ := Bool.and_eq_true_iff.mp h2
    obtain ⟨kvs, a1, a2, a3⟩ := entsB_ok h4
    obtain ⟨v, b1, b2⟩ := Dt.rep h3
    refine ⟨(q.1, v) :: kvs, .cons ⟨?_, b1⟩ a1, by rw [List.map_cons, List.map_cons, a2], fun M Z H => .cons (b2 M Z H) (a3 M Z H)⟩
    cases hk : e.key with
    | str x t =>
      rw [hk] at h1
      exact ⟨t, by rw [of_decide_eq_true h1]⟩
    | _ => rw [hk] at h1; cases h1
def dicB (K : PySem.W.Frag) (q : Str × List (Str × Dt)) : Bool := match K.lookup (ga K q.1) with
  | some ⟨_, _, .dict es _, _⟩ => entsB K q.2 es.toList
  | _ => false
theorem dicB_ok {K : PySem.W.Frag} {w : World} {x : Str} {qs : List (Str × Dt)} (h : dicB K (x, qs) = true) (hk : dicW K (ga K x) = some (keysIn w.params (qs.map (·.1)))) (nd : (qs.map (·.1)).Nodup) :
    ∃ kvs, WrD K w (ga K x) kvs ∧ ∀ M Z H, RepF K M Z H kvs (qs.map fun q => (q.1, q.2.d)) := by
  obtain ⟨es, n, h1, h2, h3⟩ := dicW_ok hk
  unfold dicB at h
  rw [h1] at h
  obtain ⟨kvs, a1, a2, a3⟩ := entsB_ok (show entsB K qs es.toList = true from h)
  exact ⟨kvs, ⟨es, n, h1, h3, h2, a1, by rw [a2]; exact nd⟩, a3⟩
def slAll (K : PySem.W.Frag) (G : Addr) : Nat → List Str → Bool
  | _, [] => true
  | i, f :: fs => eqO (PySem.W.findIn K (.ref G) f) (some (some (.ref (ma K G f)))) && (eqO (PySem.W.specialIn K (.ref (ma K G f)) "__get__") (some (some (.builtin "member_descriptor.__get__"))) && (decide (PySem.W.takesIn K (.ref (ma K G f)) = some true) && (decide (PySem.W.typeIn K (.ref (ma K G f)) = some (.type "member_descriptor")) && (decide (PySem.W.slotIn K (ma K G f) G = some i) && (decide (i < 1000) && slAll K G (i + 1) fs)))))
theorem slAll_ok {K : PySem.W.Frag} {G : Addr} : ∀ {fs : List Str} {k : Nat}, slAll K G k fs = true → ∀ (i : Nat) (f : Str), fs[i]? = some f → ∃ p, SlX.Slot1 K G f p (k + i)
  | [], _, _, i, f, h => by simp at h
  | f0 :: fs, k, hb, i, f, h => by
    obtain ⟨h1, hb⟩ := Bool.and_eq_true_iff.mp (show (eqO (PySem.W.findIn K (.ref G) f0) (some (some (.ref (ma K G f0)))) && (eqO (PySem.W.specialIn K (.ref (ma K G f0)) "__get__") (some (some (.builtin "member_descriptor.__get__"))) && (decide (PySem.W.takesIn K (.ref (ma K G f0)) = some true) && (decide (PySem.W.typeIn K (.ref (ma K G f0)) = some (.type "member_descriptor")) && (decide (PySem.W.slotIn K (ma K G f0) G = some k) && (decide (k < 1000) && slAll K G (k + 1) fs)))))) = true from hb)
    obtain ⟨h2, hb⟩ := Bool.and_eq_true_iff.mp hb
    obtain ⟨h3, hb⟩ := Bool.and_eq_true_iff.mp hb
    obtain ⟨h4, hb⟩ := Bool.and_eq_true_iff.mp hb
    obtain ⟨h5, hb⟩ := Bool.and_eq_true_iff.mp hb
    obtain ⟨h6, hb⟩ := Bool.and_eq_true_iff.mp hb
    cases i with
    | zero =>
      obtain rfl := Option.some.inj h
      exact ⟨_, eqO_ok h1, eqO_ok h2, of_decide_eq_true h3, of_decide_eq_true h4, of_decide_eq_true h5, of_decide_eq_true h6⟩
    | succ i =>
      obtain ⟨p, q⟩ := slAll_ok hb i f h
      exact ⟨p, by rw [show k + (i + 1) = k + 1 + i by omega]; exact q⟩
def slB (K : PySem.W.Frag) (q : Str × List Str) : Bool := PySem.W.plainGet K (ga K q.1) Str.empty && (PySem.W.isClsIn K (ga K q.1) && (PySem.W.plainOver K (ga K q.1) && (eqO (PySem.W.findIn K (.ref (ga K q.1)) "__setattr__") (some (some (.builtin "object.__setattr__"))) && slAll K (ga K q.1) 0 q.2)))
theorem slB_ok {K : PySem.W.Frag} {x : Str} {fs : List Str} (h : slB K (x, fs) = true) : SlC K (ga K x) fs := by
  obtain ⟨h1, h⟩ := Bool.and_eq_true_iff.mp h
  obtain ⟨h2, h⟩ := Bool.and_eq_true_iff.mp h
  obtain ⟨h3, h⟩ := Bool.and_eq_true_iff.mp h
  obtain ⟨h4, h⟩ := Bool.and_eq_true_iff.mp h
  refine ⟨⟨h1, h2, h3, eqO_ok h4⟩, fun i f hf => ?_⟩
  obtain ⟨p, q⟩ := slAll_ok h i f hf
  exact ⟨p, by rw [Nat.zero_add] at q; exact q⟩
def eqB (K : PySem.W.Frag) (x : Str) : Bool := PySem.W.selfFirst K (ga K x) && ((Fa.cls x).ok K && (eqO (PySem.W.findIn K (.ref (ga K x)) "__class__") (some (some (.builtin "object.__class__"))) && (eqO (PySem.W.specialIn K (.builtin "object.__class__") "__get__") (some (some (.builtin "getset_descriptor.__get__"))) &&
  (decide (PySem.W.takesIn K (.builtin "object.__class__") = some true) && (decide (PySem.W.mroIn K (ga K x) (.type "object") = some true) && eqO (PySem.W.findIn K (.ref (ga K x)) "__ne__") (some (some (.builtin "object.__ne__"))))))))
def nonV : Value → Bool
  | .none => true
  | _ => false
/-- the class of errors at C -/
def excB (K : PySem.W.Frag) (C : Addr) : Bool := match K.lookup C with
  | some ⟨.type t, _, .cls cd, sl⟩ => decide (t = "type") && (match cd.mro, sl.toList with
    | .ref C' :: bm, [_, _, _, _, some (.builtin n), _] => decide (C' = C) && (decide (n = "ValueError.__new__") && (!cd.hasDel && (cd.hasDict && PySem.HandSPX.refsVE bm)))
    | _, _ => false)
  | _ => false
/-- what XL.ErTxt and XL.ErV ask of the class of the name x -/
def erB (K : PySem.W.Frag) (x : Str) : Bool := [excB K (ga K x), PySem.W.excInitIn K (ga K x) [.type "ValueError", .type "Exception", .type "BaseException", .type "object"] "ValueError.__new__",
  eqO (PySem.W.findIn K (.ref (ga K x)) "__setattr__") (some (some (.builtin "object.__setattr__"))), eqO (PySem.W.findIn K (.ref (ga K x)) "__getattribute__") (some (some (.builtin "BaseException.__getattribute__"))), eqO (PySem.W.findIn K (.ref (ga K x)) "__getattr__") (some none),
  eqO (PySem.W.findIn K (.ref (ga K x)) "value") (some none), eqO (PySem.W.findIn K (.ref (ga K x)) "__init__") (some (some (.ref (ma K (ga K "CrowdError") "__init__")))), PySem.W.keepIn K (.ref (ga K x)), decide (PySem.W.subIn K (.ref (ga K x)) (.type "BaseException") = some true), decide (PySem.W.subIn K (.ref (ga K x)) (.type "ValueError") = some true),
  decide (PySem.W.subIn K (.ref (ga K x)) (.ref (ga K "CrowdError")) = some true), decide (PySem.W.typeIn K (.ref (ga K x)) = some (.type "type")), PySem.W.hasDictIn K (ga K x), eqO (PySem.W.ks_superIn K (ga K x) (ga K "CrowdError") "__init__") (some (some (.builtin "ValueError.__init__"))),
  (PySem.W.clsIn K (ga K x)).isSome, eqO (PySem.W.findIn K (.ref (ga K x)) "__class__") (some (some (.builtin "object.__class__"))), eqO (PySem.W.specialIn K (.builtin "object.__class__") "__get__") (some (some (.builtin "getset_descriptor.__get__"))), decide (PySem.W.takesIn K (.builtin "object.__class__") = some true), decide (PySem.W.mroIn K (ga K x) (.type "object") = some true), decide (PySem.W.kitOne K (.type "NoneType") (.ref (ga K x)) = some false), decide (PySem.W.exmOne K (.ref (ga K x)) (.ref (ga K "CrowdError")) = some true)].all id
/-- a def with a closure, the closure left out -/
def fnZ (K : PySem.W.Frag) (a : Addr) : FnW := match K.lookup a with
  | some ⟨_, _, .func fd, _⟩ => some (fd.name, fd.qualname, fd.params, fd.body, fd.scope, fd.globals, [], fd.builtins)
  | _ => none
def crA (K : PySem.W.Frag) : Addr := ma K (ga K "CrowdError") "__init__"
def crVal (st : Stmt) : FnW := some ("__init__", "CrowdError.__init__", defArgs st, .stmts (defBody st), defScope st, mainGlobals, [], builtinsNs)
/-- what XL.CrTxt asks besides -/
def crB (K : PySem.W.Frag) (file : Str) : Bool := (match K.lookup (crA K) with
    | some ⟨_, _, .func fd, _⟩ => (match fd.closure, fd.code with
      | [(y, cl)], .ref cc => decide (y = "__class__") && (nonV fd.defaults && (nonV fd.kwdefaults && (PySem.W.codeIn K (.ref cc) "CrowdError.__init__" && ((match K.lookup cc with
        | some ⟨_, _, .fields vs, _⟩ => (match (vs[2]? : Option Value) with
          | some (.str f _) => decide (f = file)
          | _ => false)
        | _ => false) && (match K.lookup cl with
        | some ⟨_, _, .cell (some (.ref b)), _⟩ => decide (b = ga K "CrowdError")
        | _ => false)))))
      | _, _ => false)
    | _ => false) && ((PySem.W.clsIn K (ga K "CrowdError")).isSome && (decide (PySem.W.typeIn K (.ref (crA K)) = some (.type "function")) && eqO (PySem.W.nsIn K cStatics "thirdparty.any") (some none)))
/-- isinstance of classes -/
def kyV (K : PySem.W.Frag) (y : Str) : Value := if y = "@int" then .type "int" else .ref (ga K y)
def kiB (K : PySem.W.Frag) (q : Str × Str × Bool) : Bool := decide (PySem.W.kitOne K (.ref (ga K q.1)) (kyV K q.2.1) = some q.2.2)
/-- a def that makes lambdas: its table is none of what is known -/
def tbB (K : PySem.W.Frag) (x : Str) : Bool := match PySem.W.tabIn K x with
  | some p => (K.lookup p.2).isNone
  | none => false
/-- two such have two tables -/
def tdB (K : PySem.W.Frag) (q : Str × Str) : Bool := decide ((PySem.W.tabIn K q.1).map (·.2) ≠ (PySem.W.tabIn K q.2).map (·.2))
structure Sp where
  fa : List Fa
  dd : List Dd
  pr : List (Str × Str)
  ta : List (Str × List (Str × Dt))
  sl : List (Str × List Str)
  eq : List Str
  tx : List (Str × List Str)
  er : List Str := []
  ki : List (Str × Str × Bool) := []
  tb : List Str := []
  td : List (Str × Str) := []
  ba : List (Str × Stmt) := []
abbrev Al : Type := Bool × List FnW × List (Option (List (Option (Str × Int)))) × List FnW
def bosK (S : Sp) (K : PySem.W.Frag) : Bool := (S.fa.all fun f => f.ok K) && ((S.dd.all fun d => d.ok K) && ((S.pr.all fun q => propB K q) && ((S.ta.all fun q => dicB K q) && ((S.sl.all fun q => slB K q) && ((S.eq.all fun x => eqB K x) && ((S.tx.all fun q => (Dt.t q.2).ok K (.ref (txA K q.1))) && ((S.er.all fun x => erB K x) && ((S.ki.all fun q => kiB K q) && ((S.tb.all fun x => tbB K x) && ((S.td.all fun q => tdB K q) && S.ba.all fun q => crB K q.1))))))))))
def obsK (S : Sp) (K : PySem.W.Frag) : Al := (bosK S K, S.dd.map (fun d => fnA K (d.adr K)), S.ta.map (fun q => dicW K (ga K q.1)), S.ba.map fun _ => fnZ K (crA K))
def valK (S : Sp) (w : World) : Al := (true, S.dd.map Dd.val, S.ta.map (fun q => some (keysIn w.params (q.2.map (·.1)))), S.ba.map fun q => crVal q.2)
def Says (S : Sp) (w : World) (K : PySem.W.Frag) : Prop := obsK S K = valK S w
/-- what these names of the module reach, step by step -/
def lv0 (ns : List Str) (g : Addr → Option Obj) : List Addr := match g mainGlobals with
  | some ⟨_, _, .dict es _, _⟩ => es.toList.flatMap fun e => match e.key with
    | .str y _ => if ns.contains y then refV e.val else []
    | _ => []
  | _ => []
def refsX (o : Obj) : List Addr := refsD o ++ match o.data with
  | .func fd => fd.closure.map (·.2)
  | _ => []
def lvs (g : Addr → Option Obj) : Nat → List Addr → List Addr
  | 0, l => l
  | n + 1, l => l ++ lvs g n (l.flatMap fun a => match g a with
    | some o => refsX o
    | none => [])
def asN (n : Nat) (ns ms : List Str) (g : Addr → Option Obj) : List Addr := mainGlobals :: cStatics :: (lvs g n (lv0 ns g) ++ lvs g 1 (lv0 ms g))
def obsG (n : Nat) (ns ms : List Str) (S : Sp) (g : Addr → Option Obj) : Al := obsK S (frG g (asN n ns ms g))
def hook (n : Nat) (ns ms : List Str) (S : Sp) : PySem.W.Hook where
  α := Al
  obs := fun s => obsG n ns ms S s.heap.get?
  val := fun w => valK S w
  says := fun w h => ∃ K : PySem.W.Frag, K.In h ∧ Says S w K
  of := fun _ _ e => ⟨_, frG_in, e⟩
  keeps := fun _ _ _ ⟨K, hK, c⟩ k => ⟨K, PySem.W.Frag.In.keeps hK k, c⟩
section
variable {S : Sp} {w : World} {K : PySem.W.Frag}
theorem Says.bos (c : Says S w K) : (((((((((((S.fa.all fun f => f.ok K) = true ∧ (S.dd.all fun d => d.ok K) = true) ∧ (S.pr.all fun q => propB K q) = true) ∧ (S.ta.all fun q => dicB K q) = true) ∧ (S.sl.all fun q => slB K q) = true) ∧ (S.eq.all fun x => eqB K x) = true) ∧ (S.tx.all fun q => (Dt.t q.2).ok K (.ref (txA K q.1))) = true) ∧ (S.er.all fun x => erB K x) = true) ∧ (S.ki.all fun q => kiB K q) = true) ∧ (S.tb.all fun x => tbB K x) = true) ∧ (S.ba.all fun q => crB K q.1) = true) ∧ (S.td.all fun q => tdB K q) = true := by
  have b : bosK S K = true := congrArg (fun z : Al => z.1) c
  unfold bosK at b
  simp only [Bool.and_eq_true] at b
  obtain ⟨a1, a2, a3, a4, a5, a6, a7, a8, a9, a10, a12, a11⟩ := b
  exact ⟨⟨⟨⟨⟨⟨⟨⟨⟨⟨⟨a1, a2⟩, a3⟩, a4⟩, a5⟩, a6⟩, a7⟩, a8⟩, a9⟩, a10⟩, a11⟩, a12⟩
theorem Says.fa (c : Says S w K) {f : Fa} (h : f ∈ S.fa) : f.ok K = true := List.all_eq_true.mp c.bos.1.1.1.1.1.1.1.1.1.1.1 f h
theorem Says.pr (c : Says S w K) {q : Str × Str} (h : q ∈ S.pr) : propB K q = true := List.all_eq_true.mp c.bos.1.1.1.1.1.1.1.1.1.2 q h
theorem Says.dd (c : Says S w K) (i : Nat) {d : Dd} (h : S.dd[i]? = some d) : ∃ fd, FunD K d.name d.qual (defArgs d.st) (defBody d.st) (defScope d.st) (d.dvs K) d.dfk (d.adr K) fd := by
  have e : S.dd.map (fun d => fnA K (d.adr K)) = S.dd.map Dd.val := congrArg (fun z : Al => z.2.1) c
  have e2 : (S.dd.map fun d => fnA K (d.adr K))[i]? = (S.dd.map Dd.val)[i]? := by rw [e]
  rw [List.getElem?_map, List.getElem?_map, h] at e2
  exact Dd.funD (Option.some.inj e2) (List.all_eq_true.mp c.bos.1.1.1.1.1.1.1.1.1.1.2 d (List.mem_of_getElem? h))
theorem Says.ta (c : Says S w K) (i : Nat) {x : Str} {qs : List (Str × Dt)} (h : S.ta[i]? = some (x, qs)) (nd : (qs.map (·.1)).Nodup) : ∃ kvs, WrD K w (ga K x) kvs ∧ ∀ M Z H, RepF K M Z H kvs (qs.map fun q => (q.1, q.2.d)) := by
  have e : S.ta.map (fun q => dicW K (ga K q.1)) = S.ta.map fun q => some (keysIn w.params (q.2.map (·.1))) := congrArg (fun z : Al => z.2.2.1) c
  have e2 : (S.ta.map fun q => dicW K (ga K q.1))[i]? = (S.ta.map fun q => some (keysIn w.params (q.2.map (·.1))))[i]? := by rw [e]
  rw [List.getElem?_map, List.getElem?_map, h] at e2
  exact dicB_ok (List.all_eq_true.mp c.bos.1.1.1.1.1.1.1.1.2 _ (List.mem_of_getElem? h)) (Option.some.inj e2) nd
theorem Says.sl (c : Says S w K) {x : Str} {fs : List Str} (h : (x, fs) ∈ S.sl) : SlC K (ga K x) fs := slB_ok (List.all_eq_true.mp c.bos.1.1.1.1.1.1.1.2 _ h)
end
def Sp.app (S T : Sp) : Sp := ⟨S.fa ++ T.fa, S.dd ++ T.dd, S.pr ++ T.pr, S.ta ++ T.ta, S.sl ++ T.sl, S.eq ++ T.eq, S.tx ++ T.tx, S.er ++ T.er, S.ki ++ T.ki, S.tb ++ T.tb, S.td ++ T.td, S.ba ++ T.ba⟩
def Sp.lo (S : Sp) (a b : Nat) : Sp := ⟨S.fa.take a, S.dd.take b, S.pr, S.ta, S.sl, S.eq, S.tx, [], [], [], [], []⟩
def Sp.hi (S : Sp) (a b : Nat) : Sp := ⟨S.fa.drop a, S.dd.drop b, [], [], [], [], [], S.er, S.ki, S.tb, S.td, S.ba⟩
theorem Sp.cut (S : Sp) (a b : Nat) : (S.lo a b).app (S.hi a b) = S := by
  obtain ⟨fa, dd, pr, ta, sl, eq, tx, er, ki, tb, td, ba⟩ := S
  unfold Sp.app Sp.lo Sp.hi
  simp only [List.take_append_drop, List.append_nil, List.nil_append]
theorem obsK_app {S T : Sp} {w : World} {K : PySem.W.Frag} (h1 : obsK S K = valK S w) (h2 : obsK T K = valK T w) : obsK (S.app T) K = valK (S.app T) w := by
  have a1 : bosK S K = true := congrArg (fun z : Al => z.1) h1
  have a2 : bosK T K = true := congrArg (fun z : Al => z.1) h2
  have b1 : S.dd.map (fun d => fnA K (d.adr K)) = S.dd.map Dd.val := congrArg (fun z : Al => z.2.1) h1
  have b2 : T.dd.map (fun d => fnA K (d.adr K)) = T.dd.map Dd.val := congrArg (fun z : Al => z.2.1) h2
  have c1 : S.ta.map (fun q => dicW K (ga K q.1)) = S.ta.map fun q => some (keysIn w.params (q.2.map (·.1))) := congrArg (fun z : Al => z.2.2.1) h1
  have c2 : T.ta.map (fun q => dicW K (ga K q.1)) = T.ta.map fun q => some (keysIn w.params (q.2.map (·.1))) := congrArg (fun z : Al => z.2.2.1) h2
  have d1 : S.ba.map (fun _ => fnZ K (crA K)) = S.ba.map fun q => crVal q.2 := congrArg (fun z : Al => z.2.2.2) h1
  have d2 : T.ba.map (fun _ => fnZ K (crA K)) = T.ba.map fun q => crVal q.2 := congrArg (fun z : Al => z.2.2.2) h2
  have a : bosK (S.app T) K = true := by
    unfold bosK at a1 a2 ⊢
    unfold Sp.app
    simp only [Bool.and_eq_true] at a1 a2
    simp only [List.all_append, a1, a2, Bool.and_self, Bool.and_true, Bool.true_and]
  unfold obsK valK
  rw [a]
  unfold Sp.app
  simp only [List.map_append, b1, b2, c1, c2, d1, d2]
theorem map_pair {α β γ δ ε ζ : Type} {X : Option α} {p : α → β} {q : α → γ} {o1 : α → δ} {o2 : α → ε} {o : α → ζ} {u : β} {v : γ} {w1 : δ} {w2 : ε} {w : ζ} (h1 : X.map (fun s => (p s, q s, o1 s)) = some (u, v, w1)) (h2 : X.map (fun s => (p s, q s, o2 s)) = some (u, v, w2)) (k : ∀ s, o1 s = w1 → o2 s = w2 → o s = w) : X.map (fun s => (p s, q s, o s)) = some (u, v, w) := by
  cases X with
  | none => cases h1
  | some s =>
    have e1 := Option.some.inj h1
    have e2 := Option.some.inj h2
    show some (p s, q s, o s) = _
    rw [show p s = u from congrArg (fun z => z.1) e1, show q s = v from congrArg (fun z => z.2.1) e1, k s (congrArg (fun z => z.2.2) e1) (congrArg (fun z => z.2.2) e2)]
abbrev obT (n : Nat) (ns ms : List Str) (S : Sp) (s : PySem.W.SharedT) : Al := obsG n ns ms S (HandSHeadRun.getT s)
theorem run_cut {r : PySem.W.OpenRow} {q : Program} {n M : Nat} {ns ms loose : List Str} {S : Sp} {w : World} (a b : Nat) (h1 : HandSHeadRun.RunEq r q (hook n ns ms (S.lo a b)) (obT n ns ms (S.lo a b)) M loose w) (h2 : HandSHeadRun.RunEq r q (hook n ns ms (S.hi a b)) (obT n ns ms (S.hi a b)) M loose w) : HandSHeadRun.RunEq r q (hook n ns ms S) (obT n ns ms S) M loose w := fun os => by
  refine map_pair (h1 os) (h2 os) fun s e1 e2 => ?_
  have := obsK_app (S := S.lo a b) (T := S.hi a b) (w := w) e1 e2
  rw [Sp.cut] at this
  exact this
end HK
namespace PL
open PySem SX TL
/-- a plan: a person, an unknown crowd, so many copies, a row; false: beside, true: introduced -/
inductive T where
  | one | name (x : List Nat) | cop (s : Bool) (n : Nat) (t : T) | row (s : Bool) (ts : List T)
def cls (s : Bool) : Nat := if s then 125 else 93
mutual
def ht : T → Nat
  | .one => 0
  | .name _ => 0
  | .cop _ _ t => ht t + 1
  | .row _ ts => hts ts + 1
def hts : List T → Nat
  | [] => 0
  | t :: ts => max (ht t) (hts ts)
end
def wgt (c : Nat) : Int := (if c = 40 ∨ c = 91 ∨ c = 123 then 1 else 0) - (if c = 41 ∨ c = 93 ∨ c = 125 then 1 else 0)
def dep : List Nat → Int
  | [] => 0
  | c :: r => wgt c + dep r
/-- the rest of the walk through L: at place i, depth d, begin b, found f -/
def G (L S : List Nat) : List Nat → Nat → Int → Nat → List (List Nat) → List (List Nat)
  | [], _, _, b, f => f ++ [L.drop b]
  | c :: r, i, d, b, f => if d + wgt c = 0 ∧ pre S (c :: r) = true then G L S r (i + 1) (d + wgt c) (i + S.length) (f ++ [(L.take i).drop b]) else G L S r (i + 1) (d + wgt c) b f
/-- what parted tells -/
def parts (L S : List Nat) : List (List Nat) := G L S L 0 0 0 []
end PL
namespace W
open PySem PySem.Spec PyProof.Rows L2 DL
abbrev pw : Program := PySem.Challenge.pw_greetall_k21_regions
def top (i : Nat) : Stmt := pw.main.body.getD i (.Pass ⟨0, 0, 0, 0⟩)
abbrev s_CrowdError___init__ : Stmt := inClass (top 2) 0
abbrev s_is_integer : Stmt := top 31
abbrev s_is_name : Stmt := top 32
abbrev s_is_tuple : Stmt := top 33
abbrev s_is_word : Stmt := top 34
abbrev s_do_ascend : Stmt := top 35
abbrev s_number_in : Stmt := top 36
abbrev s_parted : Stmt := top 46
abbrev s_copies_in : Stmt := top 47
abbrev s_row_in : Stmt := top 48
abbrev s_groups_in : Stmt := top 49
abbrev s_is_plan_text : Stmt := top 50
abbrev s_names_in_first : Stmt := top 51
abbrev s_Plan___init__ : Stmt := inClass (top 53) 0
abbrev s_Plan_text : Stmt := inClass (top 53) 1
abbrev s_Plan_names : Stmt := inClass (top 53) 2
abbrev s_Plan_word : Stmt := inClass (top 53) 3
abbrev s_Plan_many : Stmt := inClass (top 53) 4
abbrev s_Plan___invert__ : Stmt := inClass (top 53) 11
abbrev s_is_mark : Stmt := top 74
abbrev s_are_parts : Stmt := top 75
abbrev s_Form___init__ : Stmt := inClass (top 76) 0
abbrev s_Form_parts : Stmt := inClass (top 76) 1
abbrev s_Form_number : Stmt := inClass (top 76) 2
abbrev s_Form_text : Stmt := inClass (top 76) 3
abbrev s_Form___add__ : Stmt := inClass (top 76) 6
abbrev s_Form___sub__ : Stmt := inClass (top 76) 8
abbrev s_Form___rsub__ : Stmt := inClass (top 76) 9
abbrev s_Form___mul__ : Stmt := inClass (top 76) 10
abbrev s_Form___rmul__ : Stmt := inClass (top 76) 11
abbrev s_Form___eq__ : Stmt := inClass (top 76) 13
abbrev s_term_text : Stmt := top 77
abbrev s_put_together : Stmt := top 78
abbrev s_check_listed : Stmt := top 83
abbrev s_mark_form : Stmt := top 84
abbrev s_region_of : Stmt := top 85
abbrev s_region : Stmt := top 86
abbrev s_by_texts : Stmt := top 87
abbrev s_names_in : Stmt := top 88
abbrev s_is_nowhere_greater : Stmt := top 90
abbrev s_pruned : Stmt := top 93
abbrev s_least_sums : Stmt := top 95
abbrev s_do_add : Stmt := top 96
abbrev s_Lists___init__ : Stmt := inClass (top 98) 1
abbrev s_Lists_copied : Stmt := inClass (top 98) 2
abbrev s_Lists_joined : Stmt := inClass (top 98) 3
abbrev s_people_form : Stmt := top 99
abbrev s_greatest_of : Stmt := top 100
abbrev s_joined_all : Stmt := top 101
abbrev s_by_names : Stmt := top 102
abbrev s_lists_of : Stmt := top 103
abbrev s_forms : Stmt := top 104
abbrev s__law_pot : Stmt := top 106
abbrev s__law_take : Stmt := top 107
abbrev s__law_of : Stmt := top 108
abbrev s__law_pots : Stmt := top 109
abbrev s__law_caught : Stmt := top 110
abbrev s__law_flat : Stmt := top 111
abbrev s__law_region : Stmt := top 112
abbrev s__law_odd : Stmt := top 113
abbrev s__law_are_names : Stmt := top 114
abbrev s__law_right : Stmt := top 115
abbrev s_law : Stmt := top 116
end W
namespace W
open PySem PySem.Spec PyProof.Rows L2 DL SX PL
def bns : List Str := ["isinstance", "int", "bool", "str", "len", "all", "sum", "range", "enumerate", "sorted", "set", "tuple", "list", "zip", "repr", "abs", "max", "min", "dict", "any"]
end W
namespace W
open PySem PySem.Spec PyProof.Rows L2 DL SX PL
def fNames : List Str := ["own_text", "own_names", "own_word", "own_groups", "own_copies", "own_people"]
end W
namespace W
open PySem PySem.Spec PyProof.Rows L2 DL He HK
def gl (x : Str) (st : Stmt) : Dd := ⟨fun K => ga K x, x, x, st, [], [], 0, [], []⟩
def me (m qual : Str) (st : Stmt) : Dd := ⟨fun K => ma K (ga K "Plan") m, m, qual, st, [], [], 0, [], []⟩
def pg (m qual : Str) (st : Stmt) : Dd := ⟨pgA "Plan" m, m, qual, st, [], [], 0, [], []⟩
def dds : List Dd := [
  ⟨fun K => ga K "is_integer", "is_integer", "is_integer", s_is_integer, [.non, .non], [], 0, [], []⟩, me "__init__" "Plan.__init__" s_Plan___init__, pg "text" "Plan.text" s_Plan_text, pg "names" "Plan.names" s_Plan_names, pg "word" "Plan.word" s_Plan_word, pg "many" "Plan.many" s_Plan_many, me "__invert__" "Plan.__invert__" s_Plan___invert__, ⟨fun K => ma K (ga K "Form") "__eq__", "__eq__", "Form.__eq__", s_Form___eq__, [], [], 0, [], []⟩,
  ⟨fun K => ma K (ga K "Form") "__add__", "__add__", "Form.__add__", s_Form___add__, [], [], 0, [], []⟩, ⟨fun K => ma K (ga K "Form") "__sub__", "__sub__", "Form.__sub__", s_Form___sub__, [], [], 0, [], []⟩, ⟨fun K => ma K (ga K "Form") "__rsub__", "__rsub__", "Form.__rsub__", s_Form___rsub__, [], [], 0, [], []⟩, ⟨fun K => ma K (ga K "Form") "__mul__", "__mul__", "Form.__mul__", s_Form___mul__, [], [], 0, [], []⟩, ⟨fun K => ma K (ga K "Form") "__rmul__", "__rmul__", "Form.__rmul__", s_Form___rmul__, [], [], 0, [], []⟩, ⟨fun K => ma K (ga K "Lists") "copied", "copied", "Lists.copied", s_Lists_copied, [], [], 0, [], []⟩, ⟨fun K => ma K (ga K "Lists") "joined", "joined", "Lists.joined", s_Lists_joined, [], [], 0, [], []⟩, ⟨fun K => ma K (ga K "Form") "__init__", "__init__", "Form.__init__", s_Form___init__, [], [], 1, [], [.int 0]⟩,
  ⟨fun K => ma K (ga K "Lists") "__init__", "__init__", "Lists.__init__", s_Lists___init__, [], [], 0, [], []⟩, ⟨pgA "Form" "parts", "parts", "Form.parts", s_Form_parts, [], [], 0, [], []⟩, ⟨pgA "Form" "number", "number", "Form.number", s_Form_number, [], [], 0, [], []⟩, ⟨pgA "Form" "text", "text", "Form.text", s_Form_text, [], [], 0, [], []⟩, gl "is_name" s_is_name, gl "number_in" s_number_in, gl "parted" s_parted, gl "copies_in" s_copies_in,
  gl "row_in" s_row_in, gl "groups_in" s_groups_in, gl "is_plan_text" s_is_plan_text, gl "_law_take" s__law_take, gl "_law_of" s__law_of, gl "_law_pot" s__law_pot, gl "_law_pots" s__law_pots, gl "is_tuple" s_is_tuple,
  gl "is_word" s_is_word, gl "is_mark" s_is_mark, gl "do_ascend" s_do_ascend, gl "are_parts" s_are_parts, gl "term_text" s_term_text, gl "put_together" s_put_together, gl "by_texts" s_by_texts, gl "is_nowhere_greater" s_is_nowhere_greater,
  gl "pruned" s_pruned, gl "do_add" s_do_add, gl "least_sums" s_least_sums, gl "by_names" s_by_names, gl "mark_form" s_mark_form, gl "people_form" s_people_form, gl "greatest_of" s_greatest_of, gl "joined_all" s_joined_all,
  gl "lists_of" s_lists_of, gl "check_listed" s_check_listed, gl "forms" s_forms, gl "region_of" s_region_of, gl "region" s_region, gl "_law_flat" s__law_flat, gl "_law_region" s__law_region, gl "_law_odd" s__law_odd,
  gl "_law_are_names" s__law_are_names, gl "_law_caught" s__law_caught, ⟨fun K => ga K "names_in_plans", "names_in", "names_in", s_names_in_first, [], [], 0, [], []⟩, ⟨fun K => ga K "names_in_forms", "names_in", "names_in", s_names_in, [], [], 0, [], []⟩, gl "_law_right" s__law_right, gl "law" s_law]
def globs0 : List Str := ["is_integer", "is_name", "number_in", "parted", "copies_in", "row_in", "groups_in", "is_plan_text", "_law_take", "_law_of", "_law_pot", "_law_pots", "is_tuple", "is_word", "is_mark", "do_ascend", "are_parts", "term_text"]
def globs1 : List Str := ["put_together", "by_texts", "is_nowhere_greater", "pruned", "do_add", "least_sums", "by_names", "mark_form", "people_form", "greatest_of", "joined_all", "lists_of", "check_listed", "forms", "region_of", "region", "_law_flat", "_law_region"]
def globs2 : List Str := ["_law_odd", "_law_are_names", "_law_caught", "law", "Plan", "SIGNS", "AROUND", "TURNED", "Form", "Lists", "CrowdError", "WORDS", "LISTED", "names_in_plans", "names_in_forms", "BadNames", "BadWord"]
def tbsA : List Str := ["_law_right"]
def globsA : List Str := globs0 ++ globs1 ++ globs2
def consts : List Fa := [
  .str "ONE" "one", .str "NAME" "name", .str "BESIDE" "beside", .str "INTRODUCED" "introduced", .str "BLANK" " ", .str "LETTERS" "abcdefghijklmnopqrstuvwxyz", .str "FIGURES" "0123456789", .int "MOST_LETTERS" 8, .str "PERSON" "1", .int "LEAST_MANY" 2, .int "MOST_MANY" (10 ^ 30), .int "MOST_NAMES_plans" 3, .int "MOST_DEPTH" 60,
  .cls "Plan", .meth "Plan" "__invert__", .mkr "Plan", .free "super", .free "any", .free "dict", .str "DOT" ".", .str "MINUS" "-", .str "PLUS" "+", .str "PEOPLE" "people", .str "CIRCLE" "circle", .str "ROWS" "rows", .int "PAIR" 2, .int "MOST_FORMS" 40, .int "MOST_NAMES_forms" 6, .glo "_law_right", .cls "Form", .noat "Form" "own_parts", .noat "Form" "own_number", .mkr "Form", .meth "Form" "__eq__", .meth "Form" "__add__", .meth "Form" "__sub__", .meth "Form" "__rsub__", .meth "Form" "__mul__", .meth "Form" "__rmul__", .mkr "Lists", .meth "Lists" "copied", .meth "Lists" "joined"]
def fas : List Fa := bns.map Fa.free ++ (globsA.map Fa.glo ++ (fNames.map (Fa.noat "Plan") ++ consts))
def tSigns : List (Str × Dt) := [("beside", .s " + "), ("introduced", .s " * ")]
def tAround : List (Str × Dt) := [("beside", .t ["[", "]"]), ("introduced", .t ["{", "}"])]
def tTurned : List (Str × Dt) := [("+", .s "*"), ("*", .s "+"), ("[", .s "{"), ("{", .s "["), ("]", .s "}"), ("}", .s "]")]
def spec : HK.Sp := ⟨fas, dds, [("Plan", "text"), ("Plan", "names"), ("Plan", "word"), ("Plan", "many"), ("Form", "parts"), ("Form", "number"), ("Form", "text")], [("SIGNS", tSigns), ("AROUND", tAround), ("TURNED", tTurned)], [("Lists", ["own_forms", "own_people"])], ["Form"], [("WORDS", ["people", "circle", "strangers", "rows", "hall"]), ("LISTED", ["people", "circle", "strangers", "rows"])], ["BadNames", "BadWord"], [("Form", "@int", false)], ["_law_right"], [], [("/claim/cut.py", s_CrowdError___init__)]⟩
abbrev hk : PySem.W.Hook := hook 5 globsA tbsA spec
def ob (s : PySem.W.SharedT) : HK.Al := obsG 5 globsA tbsA spec (HandSHeadRun.getT s)
def names0 : List PySem.Str := ["_wall", "__name__", "CrowdError", "Unknown", "BadPlan", "NoPart", "BadMany", "NoName", "NoPlan", "BadNumber", "BadWord", "BadValues", "BadParts", "BadText", "BadNames", "TooMany", "ONE", "NAME", "BESIDE", "INTRODUCED", "PEOPLE", "CIRCLE", "STRANGERS", "ROWS", "HALL", "WORDS", "BLANK", "LETTERS"]
def names1 : List PySem.Str := ["FIGURES", "MOST_LETTERS", "is_integer", "is_name", "is_tuple", "is_word", "do_ascend", "number_in", "PERSON", "LEAST_MANY", "MOST_MANY", "MOST_NAMES_plans", "MOST_DEPTH", "SIGNS", "AROUND", "TURNED", "parted", "copies_in", "row_in", "groups_in", "is_plan_text", "names_in", "names_in_plans", "Plan", "check_told", "row_text", "copies_text", "text_put"]
def names2 : List PySem.Str := ["marks", "Board", "is_sooner", "turned", "vector", "strictly", "PAIR", "MOST_FORMS", "MOST_NAMES_forms", "LISTED", "DOT", "PLUS", "MINUS", "is_mark", "are_parts", "Form", "term_text", "put_together", "mark_in", "term_in", "words_of", "form_told", "check_listed", "mark_form", "region_of", "region", "by_texts", "names_in"]
def names3 : List PySem.Str := ["names_in_forms", "is_nowhere_greater", "stands_out", "is_needed", "pruned", "least", "least_sums", "do_add", "less_people", "Lists", "people_form", "greatest_of", "joined_all", "by_names", "lists_of", "forms", "_law_pot", "_law_take", "_law_of", "_law_pots", "_law_caught", "_law_flat", "_law_region", "_law_odd", "_law_are_names", "_law_right"]
abbrev R : PySem.W.OpenRow := PySem.W.OpenLaw.row PySem.Challenge.rw_greetall_k21_regions
theorem run0a (w : World) : HandSHeadRun.RunEq R (PySem.W.view R.prog [115, 116]) (hook 5 globsA tbsA (Sp.lo spec 60 0)) (obT 5 globsA tbsA (Sp.lo spec 60 0)) 12000 (names0 ++ names1 ++ names2 ++ names3) (w.withFollow "special-get-raises" false) := by
  intro os
  kernel_rfl
theorem run0b (w : World) : HandSHeadRun.RunEq R (PySem.W.view R.prog [115, 116]) (hook 5 globsA tbsA (Sp.lo spec 60 0)) (obT 5 globsA tbsA (Sp.lo spec 60 0)) 12000 (names0 ++ names1 ++ names2 ++ names3) (w.withFollow "special-get-raises" true) := by
  intro os
  kernel_rfl
theorem run0 (w : World) : HandSHeadRun.RunEq R (PySem.W.view R.prog [115, 116]) (hook 5 globsA tbsA (Sp.lo spec 60 0)) (obT 5 globsA tbsA (Sp.lo spec 60 0)) 12000 (names0 ++ names1 ++ names2 ++ names3) w :=
  PySem.W.byRow2 "special-get-raises" (P := fun w => HandSHeadRun.RunEq R (PySem.W.view R.prog [115, 116]) (hook 5 globsA tbsA (Sp.lo spec 60 0)) (obT 5 globsA tbsA (Sp.lo spec 60 0)) 12000 (names0 ++ names1 ++ names2 ++ names3) w) run0a run0b w
theorem run1a (w : World) : HandSHeadRun.RunEq R (PySem.W.view R.prog [115, 116]) (hook 5 globsA tbsA (Sp.hi spec 60 0)) (obT 5 globsA tbsA (Sp.hi spec 60 0)) 12000 (names0 ++ names1 ++ names2 ++ names3) (w.withFollow "special-get-raises" false) := by
  intro os
  kernel_rfl
theorem run1b (w : World) : HandSHeadRun.RunEq R (PySem.W.view R.prog [115, 116]) (hook 5 globsA tbsA (Sp.hi spec 60 0)) (obT 5 globsA tbsA (Sp.hi spec 60 0)) 12000 (names0 ++ names1 ++ names2 ++ names3) (w.withFollow "special-get-raises" true) := by
  intro os
  kernel_rfl
theorem run1 (w : World) : HandSHeadRun.RunEq R (PySem.W.view R.prog [115, 116]) (hook 5 globsA tbsA (Sp.hi spec 60 0)) (obT 5 globsA tbsA (Sp.hi spec 60 0)) 12000 (names0 ++ names1 ++ names2 ++ names3) w :=
  PySem.W.byRow2 "special-get-raises" (P := fun w => HandSHeadRun.RunEq R (PySem.W.view R.prog [115, 116]) (hook 5 globsA tbsA (Sp.hi spec 60 0)) (obT 5 globsA tbsA (Sp.hi spec 60 0)) 12000 (names0 ++ names1 ++ names2 ++ names3) w) run1a run1b w
theorem run (w : World) : HandSHeadRun.RunEq R (PySem.W.view R.prog [115, 116]) hk ob 12000 (names0 ++ names1 ++ names2 ++ names3) w := run_cut 60 0 (run0 w) (run1 w)
end W
namespace XL
open PySem PySem.W PySem.Calls PyProof.Rows PySem.HandSPX
def iA (p1 p2 : Pos) : Arguments := { posonlyargs := [], args := [{ arg := "self", annotation := none, pos := p1 }, { arg := "value", annotation := none, pos := p2 }], vararg := none, kwonlyargs := [], kw_defaults := [], kwarg := none, defaults := [] }
def iB (q1 q2 q3 q4 q5 q6 q7 q8 q9 q10 : Pos) : List Stmt :=
  [.Expr (.Call (.Attribute (.Call (.Name "super" q1) [] [] q2) "__init__" q3) [.Name "value" q4] [] q5) q6, .Assign [.Attribute (.Name "self" q7) "value" q8] (.Name "value" q9) q10]
/-- the text of __init__ -/
structure Shape (a : Arguments) (b : List Stmt) (sc : Scope) : Prop where
  args : ∃ p1 p2, a = iA p1 p2
  body : ∃ q1 q2 q3 q4 q5 q6 q7 q8 q9 q10, b = iB q1 q2 q3 q4 q5 q6 q7 q8 q9 q10 ∧ ∀ (q : Str) (L f : Addr) (cd : Value) (cc : Addr), ∃ pl : Sem Bool, eval (.Call (.Attribute (.Call (.Name "super" q1) [] [] q2) "__init__" q3) [.Name "value" q4] [] q5) (ksEnv q sc L f cd cc) = (do
    let ov ← attributeBase (.Call (.Name "super" q1) [] [] q2) "__init__" (ksEnv q sc L f cd cc) (eval (.Call (.Name "super" q1) [] [] q2) (ksEnv q sc L f cd cc))
    standAt q3.atName
    let (fn, first) ← holding [ov] (getMethod ov "__init__" pl)
    callWith q5 fn first (backTo q5 (starEach [.Name "value" q4] (ksEnv q sc L f cd cc))) [])
  kind : sc.kind = .function
  co : sc.isCoroutine = false
  gen : sc.isGenerator = false
  cellless : ∀ y ∈ sc.names, y.2 ≠ NameKind.cell
  self : sc.names.lookup ("self" : Str) = some .local
  value : sc.names.lookup ("value" : Str) = some .local
  cls : ∀ (q : Str) (L f : Addr) (cd : Value) (cc : Addr), (ksEnv q sc L f cd cc).kindOf "__class__" = some .free
  sup : ∀ (q : Str) (L f : Addr) (cd : Value) (cc : Addr), (ksEnv q sc L f cd cc).kindOf "super" = some .globalImplicit
  inter : ∀ (q : Str) (L f : Addr) (cd : Value) (cc : Addr), interactive (ksEnv q sc L f cd cc) = false
  kself : ∀ (q : Str) (L f : Addr) (cd : Value) (cc : Addr), (ksEnv q sc L f cd cc).kindOf "self" = some .local
  kvalue : ∀ (q : Str) (L f : Addr) (cd : Value) (cc : Addr), (ksEnv q sc L f cd cc).kindOf "value" = some .local
/-- what __init__ leaves of a fresh error at x -/
structure InitEnd (h h' : Heap) (x C dx t1 : Addr) (v : Value) : Prop where
  keep : ∀ b o, h.get? b = some o → h'.get? b = some o
  obj : h'.get? x = some { cls := .ref C, dict := some dx, data := .fields #[.ref t1, .none, .none, .none, .bool false, .none] }
  dbig : h.objs.size ≤ dx
  dne : dx ≠ x
  ns : h'.Ns1 dx (fun y => if y = "value" then some v else none)
theorem one_size (v : Value) : [v].length ≤ sizeLine := by
  rw [sizeLine_eq]
  exact (by decide : 1 ≤ 16777216)
theorem at_of_any {α : Type} {M : Model} {A : Around} {c : Code} {t : Sem α} {Q : α → Shared → Prop} {E : Value → Shared → Prop} {s : Shared} (h : wpAny M A t Q E s) : PySem.wpAt M A c t Q E s := fun Γ p _ hA => h Γ p hA
theorem ldC {M : Model} {A : Around} {s : Shared} {E : Value → Shared → Prop} {env : Env} {m : Str → Option Value} {x : Str} {pos : Pos} {v : Value} {Q : Value → Shared → Prop} (hn : s.heap.Ns env.locals m) (hv : m x = some v) (h : Q v s)
    (hk : env.scope.kind = .function) (hl : env.kindOf x = some .local) (hd : (x == ("__debug__" : Str)) = false) : wpAny M A (eval (.Name x pos) env) Q E s := wpAny_Name (wpAny_loadName_local hk hl hn hv h) hd
section
variable {prog : Program} {w : World} {A : Around} {E : Value → Shared → Prop} {R : Result → Shared → Prop} {K : Frag} {mg : Str → Option Value} {C B fI cl : Addr} {q x : Str} {a : Arguments} {b : List Stmt} {sc : Scope}
theorem crowd_init (T : CrTxt prog K q a b sc B fI cl) (S : Shape a b sc) (G : ErTxt K mg x C B fI) {h0 : Heap} (M : L2.Mod K mg h0) (hms : mg "super" = none) {hp : Heap} {g : Array GenState} {dr : Drawn} {tk0 : Nat} {os : OsState} {xo t0 : Addr} {v : Value} (k0 : ∀ b o, h0.get? b = some o → hp.get? b = some o) (hsz : h0.objs.size ≤ hp.objs.size)
    (hlim : hp.NoLimit) (hx : hp.get? xo = some (excO C t0)) (hnx : h0.get? xo = none) (hroom : A.depth < recursionLimit)
    (hq : ∀ h' tk dx t1, InitEnd h0 h' xo C dx t1 v → R (.ok (.ret .none)) ⟨h', g, dr, tk, os⟩) :
    codeAny (model prog w) A (.call (.ref fI) ⟨[.ref xo, v], []⟩) R ⟨hp, g, dr, tk0, os⟩ := by
  obtain ⟨oc, od, doc, pm, an, cc, ct, osl, occ, vs, file, tf, ho, hcd, hcc, hvs, hv2, hfile⟩ := T.fn
  obtain ⟨oce, hce, hced⟩ := T.cell
  obtain ⟨oB, cdB, hB, hBd⟩ := T.bcls
  obtain ⟨p1, p2, rfl⟩ := S.args
  obtain ⟨q1, q2, q3, q4, q5, q6, q7, q8, q9, q10, rfl, meth⟩ := S.body
  obtain ⟨nm, qn, N, bs, bm, sn, sub, ab, col, dd, y0, y1, y2, y3, y5, hC, hbm⟩ := G.cls
  have hcl : clsIn K C = some { name := nm, bases := bs, mro := .ref C :: bm, ns := N, qualname := qn, hasDict := true, slotNames := sn, subclasses := sub, abstract := ab, collection := col, hasDel := false } := by unfold clsIn; rw [hC] <;> rfl
  have X0 := M.kin
  have X : K.In hp := fun b o e => k0 b o (X0 b o e)
  refine ks_codeAny_call_defAt (binds := [("self", .ref xo), ("value", v)]) hroom (X _ _ ho) rfl hlim (codeRec_of X hcd) rfl (BindsTo.of_eq (by first | rfl | with_unfolding_all rfl)) S.cellless ?_ (fun h₁ hn k1 => ?_) S.co S.gen S.kind
  · intro y hy
    rcases List.mem_cons.mp hy with rfl | hy
    · exact S.self
    · rw [List.mem_singleton.mp hy]; exact S.value
  have X1 : K.In h₁ := fun b o e => k1 b o (X b o e)
  have k01 : ∀ b o, h0.get? b = some o → h₁.get? b = some o := fun b o e => k1 b o (k0 b o e)
  have hx1 : h₁.get? xo = some (excO C t0) := k1 _ _ hx
  have hxL : hp.objs.size ≠ xo := Nat.ne_of_gt (Heap.lt_size hx)
  obtain ⟨mb, nb, hmb⟩ := M.blt
  show PySem.wpAt _ (A.deeper (ksEnv q sc hp.objs.size fI (.ref cc) cl)) (Code.func (iB q1 q2 q3 q4 q5 q6 q7 q8 q9 q10) (ksEnv q sc hp.objs.size fI (.ref cc) cl)) (execs (iB q1 q2 q3 q4 q5 q6 q7 q8 q9 q10) (ksEnv q sc hp.objs.size fI (.ref cc) cl)) _ _ _
  obtain ⟨pl, hpl⟩ := meth q hp.objs.size fI (.ref cc) cl
  refine ks_wpAt_execs_cons (ks_wpAt_Expr_any (hi := S.inter _ _ _ _ _) (ks_wpAt_MethodCall (pl := pl) (he := hpl) (ks_wpAt_super_base (f := fI) (cc := cc) (S.sup _ _ _ _ _) (S.cls _ _ _ _ _) (by decide) rfl (X1 _ _ ho) rfl rfl rfl (X1 _ _ hcc) hvs hv2 hfile T.sup ?_)))
  refine ks_loadName_global S.kind (S.sup _ _ _ _ _) (Calls.loadGlobal_builtin (M.glob.keeps k01) hms (nb.keeps k01) ((hmb "super" (by decide)).trans rfl) ?_)
  refine ⟨rfl, wpAny_loadName_free S.kind (S.cls _ _ _ _ _) (c := cl) (v := .ref B) rfl ⟨oce, X1 _ _ hce, hced⟩ ?_⟩
  refine wpAny_loadName_local S.kind (S.kself _ _ _ _ _) hn (v := .ref xo) rfl ?_
  refine ks_wpAny_isType_cls (X1 _ _ hB) hBd ⟨rfl, ?_⟩
  refine ks_wpAny_call_super (X1 _ _ hB) hBd hx1 rfl (fun c => by intro h; cases h) (looks_subIn X1 G.sB) fun h2 hso k2 => ?_
  have hn2 := hn.keeps k2
  have hL : h0.objs.size ≤ hp.objs.size := hsz
  have fr2 : Fr h0 hp.objs.size h2 (fun x => List.lookup x [(("self" : Str), Value.ref xo), (("value" : Str), v)].reverse) := ⟨hn2, fun b o e => k2 b o (k01 b o e), hL⟩
  have hxso : h₁.objs.size ≠ xo := Nat.ne_of_gt (Heap.lt_size hx1)
  have nw2 : News h0 hp.objs.size h2 [(h₁.objs.size, ks_superObj B xo C), (xo, excO C t0)] := fun p hp => by
    rcases List.mem_cons.mp hp with rfl | hp
    · refine ⟨hso, Ne.symm (Nat.ne_of_lt hn.lt), ?_⟩
      cases e : h0.get? h₁.objs.size with
      | none => rfl
      | some o => exact absurd (Heap.lt_size (k01 _ _ e)) (Nat.lt_irrefl _)
    · rw [List.mem_singleton.mp hp]
      exact ⟨k2 _ _ hx1, fun z => hxL z.symm, hnx⟩
  refine kxs_method (odx := none) kxs_ValueError fr2 X0 nw2 List.mem_cons_self ⟨k2 _ _ hx1, rfl, rfl, trivial⟩ T.nsS G.sup G.veC (by decide) fun q3' h3 fr3 nw3 lt3 => ?_
  refine kxs_callWith1 nw3 List.mem_cons_self ?_
  refine spliced_cons (ldC (m := fun x => List.lookup x [(("self" : Str), Value.ref xo), (("value" : Str), v)].reverse) (v := v) fr3.ns rfl ?_ S.kind (S.kvalue _ _ _ _ _) (by decide))
  refine spliced_nil ⟨kxs_at nw3 List.mem_cons_self, ?_⟩
  refine kxs_call (C := C) (t := t0) (dv := none) (c2 := .none) fr3 X0 nw3 F.excBase_ValueError G.ini List.mem_cons_self (UpdF.tail (fun z => ?_) (UpdF.tail hxso (UpdF.head (fun p hp => by cases hp)))) (one_size v) fun t' h' fr' nw' lt' => ?_
  · exact Nat.ne_of_gt (lt3 (xo, excO C t0) (List.mem_cons_of_mem _ List.mem_cons_self)) z
  have X5 : K.In h' := fun b o e => fr'.keep b o (X0 b o e)
  have hx5 : h'.get? xo = some (excO C t') := (nw' (xo, excObj C t' none .none) (List.mem_cons_of_mem _ (List.mem_cons_of_mem _ (List.mem_cons_of_mem _ List.mem_cons_self)))).1
  -- self.value = value
  refine at_of_any (wpAny_execs_cons (plainObj_wpAny_Assign_Attribute ?_))
  refine ldC fr'.ns (v := v) rfl ?_ S.kind (S.kvalue _ _ _ _ _) (by decide)
  refine ldC fr'.ns (v := .ref xo) rfl ?_ S.kind (S.kself _ _ _ _ _) (by decide)
  refine set_plain X5 (ox := excO C t') (od := none) ⟨hx5, rfl, rfl, trivial⟩ G.sa ?_
  refine exc_osa X5 hx5 hcl (show refsVE (.ref C :: bm) = true from hbm) rfl G.noV (fun h6 tk6 dx k6 dn dne hx6 hn6 => ?_)
  have zz : hp.objs.size < h'.objs.size := fr'.ns.lt
  refine wpAny_execs_nil (hq h6 tk6 dx t' ⟨fun b o e => k6 b o (fun z => ?_) (fr'.keep b o e), hx6, Nat.le_trans (Nat.le_trans hsz (Nat.le_of_lt zz)) dn, dne, hn6⟩)
  rw [z, hnx] at e; cases e
end
end XL
namespace XL
open PySem PySem.W PySem.Calls PyProof.Rows PySem.HandSPX L2
/-- a made error -/
structure OwnMade (h h' : Heap) (e C d : Addr) (v : Value) : Prop where
  keep : ∀ b o, h.get? b = some o → h'.get? b = some o
  new : h.objs.size ≤ e
  obj : ∃ oe vs, h'.get? e = some oe ∧ oe.cls = .ref C ∧ oe.dict = some d ∧ oe.data = .fields vs ∧ vs[1]? = some .none
  dbig : h.objs.size ≤ d
  dne : d ≠ e
  ns : h'.Ns1 d (fun y => if y = "value" then some v else none)
/-- one of the errors, at C, under the name x -/
structure Er (P : Program) (K : Frag) (mg : Str → Option Value) (x : Str) (C : Addr) : Prop where
  ex : ∃ (B fI cl : Addr) (q : Str) (a : Arguments) (b : List Stmt) (sc : Scope), CrTxt P K q a b sc B fI cl ∧ Shape a b sc ∧ ErTxt K mg x C B fI
  sup : mg "super" = none
section
variable {prog : Program} {w : World} {A : Around} {R : Result → Shared → Prop} {K : Frag} {mg : Str → Option Value} {C : Addr} {x : Str}
theorem crowd_made (T : Er prog K mg x C) {hp : Heap} {g : Array GenState} {dr : Drawn} {tk : Nat} {os : OsState} {v : Value} (M : L2.Mod K mg hp) (hroom : A.depth + 1 < recursionLimit)
    (hq : ∀ h' tk e d, OwnMade hp h' e C d v → R (.ok (.ret (.ref e))) ⟨h', g, dr, tk, os⟩) :
    codeAny (model prog w) A (.call (.ref C) ⟨[v], []⟩) R ⟨hp, g, dr, tk, os⟩ := by
  obtain ⟨B, fI, cl, q, a, b, sc, T1, S, G⟩ := T.ex
  obtain ⟨nm, qn, N, bs, bm, sn, sub, ab, col, dd, k0, k1, k2, k3, k5, hC, hbm⟩ := G.cls
  have X := M.kin
  have k : ∀ b o, hp.get? b = some o → ((hp.push (kdv_tup [v])).push (excO C hp.objs.size)).get? b = some o := fun b o e => Heap.get?_push_of_some _ (Heap.get?_push_of_some _ e)
  have hget : ((hp.push (kdv_tup [v])).push (excO C hp.objs.size)).get? (hp.objs.size + 1) = some (excO C hp.objs.size) := by heap_get
  have hnx : hp.get? (hp.objs.size + 1) = none := by
    cases e : hp.get? (hp.objs.size + 1) with
    | none => rfl
    | some o => exact absurd (Nat.lt_of_succ_lt (Heap.lt_size e)) (Nat.lt_irrefl _)
  refine call_own F.excBase_ValueError (fun X => refsVE_contains X bm hbm) (X _ _ hC) (looks_findIn X G.iC) (fun self => bind_fn X self T1.typ) (one_size v) ?_
  refine crowd_init T1 S G M T.sup k (by rw [Heap.size_push, Heap.size_push]; omega) (M.nolimit.keeps k) hget hnx hroom fun h' tk' dx t1 I => ?_
  exact ⟨rfl, hq h' tk' (hp.objs.size + 1) dx ⟨I.keep, Nat.le_succ _, ⟨_, _, I.obj, rfl, rfl, rfl, rfl⟩, I.dbig, I.dne, I.ns⟩⟩
end
theorem relO_value {v : V} {v' : Value} (r : RelV v v') (f : Str) : RelO (List.lookup f [(("value" : Str), v)]) (if f = "value" then some v' else none) := by
  by_cases hw : f = "value"
  · subst hw
    rw [if_pos rfl]
    have q : List.lookup ("value" : Str) [(("value" : Str), v)] = some v := by simp [List.lookup]
    rw [q]
    exact r
  · rw [if_neg hw]
    have qw : (f == ("value" : Str)) = false := by simpa using hw
    have q2 : List.lookup f [(("value" : Str), v)] = none := by simp [List.lookup, qw]
    rw [q2]
    trivial
section
variable {X : Cx} {C : Addr} {x : Str}
/-- C(e) -/
def tMkE (C : Addr) (ta : TA) : L2.St → Hp → XK → Prop := fun σ H Q => ta σ H fun vs H1 => ∃ v, vs = [v] ∧ ∀ d, H1 d = none → Q (.ref C) (some d) (upd H1 d (.xd [(("value" : Str), v)]))
theorem pmk_err {a : Expr} {ta : TA} {p pos : Pos} {k : Nat} (T : Er X.prog X.K X.mg x C) (hr : Room k X.A) (ha : PA X [a] ta) (hg : Gl X x) (hdb : (x == ("__debug__" : Str)) = false)
    (he : starEach (a :: []) X.env = (false, eval a X.env) :: starEach [] X.env := by rfl) (hpl : (backTo pos (starEach [] X.env)).any (·.1) = false := by rfl) :
    PMk X (.Call (.Name x p) [a] [] pos) (tMkE C ta) := by
  intro pins s σ H Q I h
  obtain ⟨B, fI, cl, q, aa, b, sc, T1, S, G⟩ := T.ex
  refine wpAny_Call_Name_kw (ld_glob I hg G.gC ?_ hdb)
  refine PySem.W.callWith_K (h₀ := X.base) I.ok.mod.kin G.kC (thn (ha.run pos pins s σ H _ I h) fun us s1 hh => ?_) he hpl
  obtain ⟨vs, H1, I1, r1, v, ev, q1⟩ := hh
  subst ev
  refine ⟨I1.kIn, ?_⟩
  cases r1 with
  | cons rv rn =>
    rename_i v' us'
    cases rn
    show wpAny _ _ (call (.ref C) [v']) _ _ _
    obtain ⟨hp, g, dr, tk, os⟩ := s1
    refine wpAny_call (crowd_made T (Mod.keeps I1.mod I1.bk) (by have := hr.dp; omega) fun h' tk' e d M => ?_)
    show MkP X pins σ Q (.ref e) ⟨h', g, dr, tk', os⟩
    obtain ⟨oe, fv, hoe, hc, hd, hdat, h1⟩ := M.obj
    have hns := M.ns
    obtain ⟨G', g1, g2⟩ := restrict h' fun b => decide (b ≠ e)
    have gk : ∀ b, b ≠ e → G'.get? b = h'.get? b := fun b hb => g1 b (decide_eq_true hb)
    have ge : G'.get? e = none := g2 e (by simp)
    have old : ∀ b o, hp.get? b = some o → G'.get? b = some o := fun b o q => (gk b (Nat.ne_of_lt (Nat.lt_of_lt_of_le (Heap.lt_size q) M.new))).trans (M.keep b o q)
    have ob : ObjOk X.prog X.w (upd H1 d (.xd [(("value" : Str), v)])) G' d (.xd [(("value" : Str), v)]) :=
      ⟨_, hns.at (fun o q => (gk d M.dne).trans q), fun f => relO_value rv f⟩
    have J : Inv X pins σ (upd H1 d (.xd [(("value" : Str), v)])) ⟨G', g, dr, tk', os⟩ := I1.laid (t' := tk') old M.dbig ob
    refine ⟨e, oe, fv, ⟨G', g, dr, tk', os⟩, _, .ref C, some d, rfl, J, fun b o q => ?_, ge, hoe, ⟨hc, hd⟩, hdat, h1, ?_, rfl, I1.bare, raises_own G.exC G.tyC, q1 d (I1.hok.fresh M.dbig)⟩
    · by_cases hb : b = e
      · have q' : G'.get? b = some o := q
        rw [hb, ge] at q'; cases q'
      · exact (gk b hb).symm.trans q
    · rw [upd_ne (Ne.symm M.dne)]
      exact I1.hok.fresh M.new
/-- raise C(e) -/
theorem ps_raiseE {a : Expr} {ta : TA} {W : WX} {p pos pos2 : Pos} {k : Nat} (hc : X.calm = true) (T : Er X.prog X.K X.mg x C) (hr : Room k X.A) (tk : Takes X W) (ha : PA X [a] ta) (hg : Gl X x) (hdb : (x == ("__debug__" : Str)) = false)
    (he : starEach (a :: []) X.env = (false, eval a X.env) :: starEach [] X.env := by rfl) (hpl : (backTo pos (starEach [] X.env)).any (·.1) = false := by rfl) :
    PS X (.Raise (some (.Call (.Name x p) [a] [] pos)) none pos2) (fun _ σ H => tMkE C ta σ H fun cls d H' => W cls d σ H') := ps_raise hc tk (pmk_err T hr ha hg hdb he hpl)
end
end XL
namespace XL
open PySem PySem.W PySem.Calls PyProof.Rows PySem.HandSPX L2
theorem xv_ok {P : Program} {w : World} {H : Hp} {h : Heap} {a : Addr} {cls : Value} {d : Option Addr} {oe : Obj} {vs : Array Value} (e : h.get? a = some oe) (z : Zc cls d oe) (f : oe.data = .fields vs) : ObjOk P w H h a (XV a cls d) := by
  unfold XV ObjOk
  refine ⟨⟨oe, vs, e, z, f⟩, ⟨oe, e⟩, fun h1 h2 p k => ?_⟩
  obtain ⟨oe, vs, e, r⟩ := p
  exact ⟨oe, vs, k _ e, r⟩
theorem xv_get {P : Program} {w : World} {H : Hp} {h : Heap} {a : Addr} {cls : Value} {d : Option Addr} (k : HOk P w H h) (e : H a = some (XV a cls d)) : ∃ oe vs, h.get? a = some oe ∧ Zc cls d oe ∧ oe.data = .fields vs := by
  have := k a _ e
  unfold XV ObjOk at this
  exact this.1
theorem paired_imp {α β : Type} {R R' : α → β → Prop} (k : ∀ x y, R x y → R' x y) : ∀ {xs : List α} {ys : List β}, Paired R xs ys → Paired R' xs ys
  | _, _, .nil => .nil
  | _, _, .cons h t => .cons (k _ _ h) (paired_imp k t)
theorem objOk_give {P : Program} {w : World} {H : Hp} {h : Heap} {a b : Addr} {o u : HO} (hn : H a = none) (k : ObjOk P w H h b u) : ObjOk P w (upd H a o) h b u := by
  have up : ∀ {c : Addr} {z : HO}, H c = some z → upd H a o c = some z := fun {c z} e => by
    rw [upd_ne (fun q => by rw [q, hn] at e; cases e)]; exact e
  induction u with
  | dT kvs =>
    obtain ⟨h1, h2, xs, h3, r⟩ := k
    refine ⟨h1, h2, xs, ?_, r⟩
    exact paired_imp (fun p q ⟨y1, y2, y3⟩ => ⟨y1, up y2, y3⟩) h3
  | ins C dx fs =>
    obtain ⟨h1, r⟩ := k
    exact ⟨up h1, r⟩
  | frz o u ih => exact ⟨k.1, ih k.2⟩
  | lst xs => exact k
  | tup xs => exact k
  | dK xs => exact k
  | set S n => exact k
  | own x => exact k
  | xd fs => exact k
  | rng lo hi => exact k
  | tbl ps => exact k
  | met f x => exact k
  | ext φ => exact k
theorem inv_give {X : Cx} {pins : List (Addr × Obj)} {σ : L2.St} {H : Hp} {s : Shared} {a : Addr} {o : HO} (I : L2.Inv X pins σ H s) (hn : H a = none) (hnb : ∀ xs, o ≠ HO.tbl xs) (h0 : X.s_0.heap.get? a = none) (nL : a ≠ X.env.locals) (nC : ∀ v, ¬ s.heap.IsCell a v)
    (nP : ∀ p ∈ X.pn ++ pins, p.1 ≠ a) (ob : ObjOk X.prog X.w (upd H a o) s.heap a o) : L2.Inv X pins σ (upd H a o) s := by
  refine ⟨I.ok, I.os, I.bare, ⟨I.base.keep, I.base.slot, fun b u e f g => ?_, I.base.there, fun b xs e => ?_, fun b u z e => ?_, fun b ps e => ?_⟩, I.loc, I.cell, ?_, fun x c e => ?_, fun p hp => ?_, fun b u e => ?_, I.len⟩
  · by_cases q : b = a
    · rw [q, h0] at e; cases e
    · rw [upd_ne q]; exact I.base.free b u e f g
  · have z := I.base.tups b xs e
    rw [upd_ne (fun q => by rw [q, hn] at z; cases z)]; exact z
  · have y := I.base.frzs b u z e
    rw [upd_ne (fun q => by rw [q, hn] at y; cases y)]; exact y
  · obtain ⟨more, y⟩ := I.base.tbls b ps e
    exact ⟨more, by rw [upd_ne (fun q => by rw [q, hn] at y; cases y)]; exact y⟩
  · rw [upd_ne (Ne.symm nL)]; exact I.free
  · rw [upd_ne (fun q => ?_)]
    · exact I.freeC x c e
    · obtain ⟨v, hv⟩ := I.cell x c e
      rw [q] at hv; exact nC v hv
  · obtain ⟨p1, p2, r⟩ := I.pin p hp
    exact ⟨p1, by rw [upd_ne (nP p hp)]; exact p2, r⟩
  · by_cases q : b = a
    · rw [q, upd_same] at e
      cases e
      rw [q]; exact ob
    · rw [upd_ne q] at e
      exact objOk_give hn (I.hok b u e)
end XL
namespace XL
open PySem PySem.W PySem.Calls PyProof.Rows PySem.HandSPX L2
def endsV (i : Nat) (a : Addr) (cls : Value) (d : Option Addr) (D : Ends) : Ends :=
  { nx := fun σ' H' => D.nx (σ'.set i none) (upd H' a (XV a cls d)), rt := fun v H' => D.rt v (upd H' a (XV a cls d)), bk := fun σ' H' => D.bk (σ'.set i none) (upd H' a (XV a cls d)), ct := fun σ' H' => D.ct (σ'.set i none) (upd H' a (XV a cls d)) }
def wAsV (K : Frag) (c : Value) (i : Nat) (ts : Addr → Value → Option Addr → TS) (Wout : WX) (D : Ends) : WX := fun cls d σ H =>
  ∃ b, exmOne K cls c = some b ∧ (b = true → ∀ a, H a = none → ts a cls d (endsV i a cls d D) (σ.set i (some (.ref a))) H) ∧ (b = false → Wout cls d σ H)
theorem ps_try_asV {X : Cx} {x n : Str} {c : Value} {i : Nat} {body suite : List Stmt} {b₀ : Stmt} {np pos pos' : Pos} {tb : WX → TS} {ts : Addr → Value → Option Addr → TS} {Wout : WX}
    (hs : X.stack = X.env :: X.outer) (hf : X.env.frame = some X.env.locals) (hex : X.ex = []) (hN : X.N.Nodup) (hi : X.N[i]? = some n) (hln : X.env.kindOf n = some .local) (hc : Names X x c) (tk : Takes X Wout)
    (hb : ∀ (W : WX) (pn : List (Addr × Obj)) (xe : Value → Shared → Prop), Takes (X.tr pn xe) W → PassesOwn (model X.prog X.w) X.A X.env xe → PSs (X.tr pn xe) body (tb W))
    (hsu : ∀ (a : Addr) (oe : Obj) (cls : Value) (d : Option Addr) (pn : List (Addr × Obj)), Zc cls d oe → (∃ vs, oe.data = .fields vs) → PSs (X.suite a ((a, oe) :: pn)) (b₀ :: suite) (ts a cls d)) :
    PS X (.Try body [.ExceptHandler (some (.Name x np)) (some n) (b₀ :: suite) pos'] [] [] pos) (fun D σ H => tb (wAsV X.K c i ts Wout D) D σ H) := ⟨fun pins s σ H D I h => by
  have ok := I.ok
  have hfr : X.A.frames = some (X.env :: X.outer) := by rw [ok.frames, hs]
  have hloc : X.env.kindOf n = some .local ∨ X.env.kindOf n = some .cell := Or.inl hln
  refine wpAny_Try_except (wpAny_mono ((hb (wAsV X.K c i ts Wout D) (X.pn ++ pins) (fun e s₁ => wpAny (model X.prog X.w) X.A (noteFrame e X.env) (fun _ s₂ => wpAny (model X.prog X.w) X.A (setFlight e none) (fun _ s₃ =>
    wpAny (model X.prog X.w) X.A (handleBy e X.env [.ExceptHandler (some (.Name x np)) (some n) (b₀ :: suite) pos']) (SP X pins D) X.xe s₃) X.xe s₂) X.xe s₁) ?_ PassesOwn.looking).run [] s σ H D (I.toTry _) h) (fun f s1 hsp => ?_) (fun e s1 he => he))
  · intro u s' xx
    obtain ⟨a, B, sI, pins', σ', H', cls, d, rfl, J', nb, up, sky, na, os, ag, b, hb1, hyes, hno⟩ := xx
    have J := J'.ofTry ok
    have sky' : Sky B (X.env :: X.outer) a (Zc cls d) X.env.locals s'.heap := by rw [← hs]; exact sky
    refine Sky.land Zc.steady hfr hf sky' fun h3 fl3 up3 => ?_
    have J3 := J.landed (s' := ⟨h3, s'.gens, s'.drawn, s'.toks, s'.os⟩) nb fl3.1 (up.trans up3) os ag
    obtain ⟨oe3, vs3, he3, hz3, hd3⟩ := fl3.there
    have ha0 : B.get? a = none := fl3.2.1
    have nfr : a ∉ frs (X.env :: X.outer) := fun hm => by
      obtain ⟨_, o', e', hnf⟩ := fl3.2.2.1.mem hm
      rw [he3] at e'; cases e'
      exact hnf _ hd3
    have nL : a ≠ X.env.locals := fun z => nfr (List.mem_filterMap.mpr ⟨X.env, List.mem_cons_self, by rw [hf, z]⟩)
    have nF : a ∉ X.fs := fun hm => by
      obtain ⟨e, he, q⟩ := List.mem_filterMap.mp hm
      exact nfr (List.mem_filterMap.mpr ⟨e, List.mem_cons_of_mem _ he, q⟩)
    have nfr' : a ∉ frs X.stack := by rw [hs]; exact nfr
    have hsI : sI.heap.get? a = none := by
      cases e : sI.heap.get? a with
      | none => rfl
      | some o => have := nb a o e nfr'; rw [ha0] at this; cases this
    have hs0 : X.s_0.heap.get? a = none := by
      cases e : X.s_0.heap.get? a with
      | none => rfl
      | some o =>
        obtain ⟨o', q⟩ := J.base.there a o e (by rw [hex]; exact List.not_mem_nil)
        rw [hsI] at q; cases q
    have hpn : ∀ p ∈ X.pn ++ pins, p.1 ≠ a := fun p hp z => by
      have q := (J.pin p hp).1
      rw [z, hsI] at q; cases q
    have S3 := J3.suite he3 hd3 na nL nF
    refine wpAny_handleBy_cons (codeAny_handlers_test ?_) ?_
    · have LT : ∀ A Q E s, (∀ b o, h3.get? b = some o → s.heap.get? b = some o) → Q cls s → wpAny (model X.prog X.w) A (typeOf (Value.ref a)) Q E s := fun A Q E s k q => wpAny_typeOf_ref (k a oe3 he3) (by rw [hz3.1]; exact q)
      have LM := W.exm_one J3.kIn LT hb1
      have test : ∀ {Q : Value → Shared → Prop} {E : Value → Shared → Prop}, Q c ⟨h3, s'.gens, s'.drawn, s'.toks, s'.os⟩ → wpAny (model X.prog X.w) (X.A.mark (some (Value.ref a))) (eval (.Name x np) X.env) Q E ⟨h3, s'.gens, s'.drawn, s'.toks, s'.os⟩ := fun {Q E} q => by
        obtain ⟨hg, hdbg, hm | ⟨hm, hv, hnn⟩⟩ := hc
        · exact ld_glob S3 hg hm q hdbg
        · exact ld_blt S3 hg hm hv q hnn hdbg
      refine test (LM.here ?_)
      cases b with
      | false =>
        refine wpAny_handleBy_nil ?_
        obtain ⟨k1, k2, k3, oe, vs, T, oT, ts', he, hz, hd, h1, hr⟩ := id fl3
        refine wpAny_bind (wpAny_field he hd h1 ?_)
        rw [if_neg (by simp)]
        refine wpAny_bind ?_
        show wpAny _ _ (setFlight (Value.ref a) X.env.frame) _ _ _
        rw [hf]
        refine HandSPX.setFlight_upZ fl3 fun h4 hh4 up4 => wpAny_throw (tk _ _ ⟨a, B, sI, pins, σ', H', cls, d, rfl, J, nb, (up.trans up3).trans up4, .inr (.inr ?_), na, os, ag, hno rfl⟩)
        rw [hs]; exact hh4
      | true =>
        refine codeAny_handlers_suite_as ?_
        refine HandSPX.lands_againZ fl3 fun h4 fl4 up4 => ?_
        have J4 := J.landed (s' := ⟨h4, s'.gens, s'.drawn, s'.toks, s'.os⟩) nb fl4.1 ((up.trans up3).trans up4) os ag
        obtain ⟨oe4, vs4, he4, hz4, hd4⟩ := fl4.there
        have S4 := J4.suite he4 hd4 na nL nF
        refine store_ok (X := X.suite a ((a, oe4) :: (X.pn ++ pins))) (v := .ref a) S4 hN hi hloc rfl (fun s5 S5 => ?_) (Or.inr hln)
        refine wpAny_mono ((hsu a oe4 cls d (X.pn ++ pins) hz4 ⟨vs4, hd4⟩).run [] s5 (σ'.set i (some (.ref a))) H' (endsV i a cls d D) S5 (hyes rfl a na)) (fun f s6 hsp => ?_) (fun _ _ z => z.elim)
        have giv : ∀ {σ6 : L2.St} {H6 : Hp} {s6 : Shared}, L2.Inv (X.suite a ((a, oe4) :: (X.pn ++ pins))) [] σ6 H6 s6 → L2.Inv X pins σ6 (upd H6 a (XV a cls d)) s6 := fun {σ6 H6 s6} S6 => by
          obtain ⟨p1, p2, p3, p4, p5⟩ := S6.pin (a, oe4) (List.mem_append_left _ List.mem_cons_self)
          refine inv_give (S6.unsuite ok) p2 (fun xs z => by cases z) hs0 nL (fun v hv => ?_) hpn (xv_ok p1 hz4 hd4)
          obtain ⟨o, y1, y2⟩ := hv
          rw [p1] at y1; cases y1
          exact p5 _ y2
        have end_ : ∀ {σ6 : L2.St} {H6 : Hp} {s6 : Shared} {Q : Unit → Shared → Prop}, L2.Inv (X.suite a ((a, oe4) :: (X.pn ++ pins))) [] σ6 H6 s6 → (∀ s7, L2.Inv X pins (σ6.set i none) (upd H6 a (XV a cls d)) s7 → Q () s7) → wpAny (model X.prog X.w) X.A (do bindName X.env n Value.none; unbindBehindTheSuite X.env n pos') Q X.xe s6 :=
          fun {σ6 H6 s6 Q} S6 hq => gone_ok (giv S6) hN hi hln hq
        cases f with
        | next => obtain ⟨σ6, H6, S6, q6⟩ := hsp; exact end_ S6 fun s7 J7 => ⟨_, _, J7, q6⟩
        | brk => obtain ⟨σ6, H6, S6, q6⟩ := hsp; exact end_ S6 fun s7 J7 => ⟨_, _, J7, q6⟩
        | cont => obtain ⟨σ6, H6, S6, q6⟩ := hsp; exact end_ S6 fun s7 J7 => ⟨_, _, J7, q6⟩
        | ret u => obtain ⟨v6, σ6, H6, S6, r6, q6⟩ := hsp; exact end_ S6 fun s7 J7 => ⟨v6, _, _, J7, r6, q6⟩
    · intro q
      cases q
  · cases f with
    | next => obtain ⟨σ', H', J', q⟩ := hsp; exact wpAny_execs_nil ⟨σ', H', J'.ofTry ok, q⟩
    | brk => obtain ⟨σ', H', J', q⟩ := hsp; exact ⟨σ', H', J'.ofTry ok, q⟩
    | cont => obtain ⟨σ', H', J', q⟩ := hsp; exact ⟨σ', H', J'.ofTry ok, q⟩
    | ret u => obtain ⟨v, σ', H', J', r, q⟩ := hsp; exact ⟨v, σ', H', J'.ofTry ok, r, q⟩⟩
end XL
namespace XL
open PySem PySem.W PySem.Calls PyProof.Rows PySem.HandSPX L2
section
variable {X : Cx} {C : Addr}
theorem xv_inst {pins : List (Addr × Obj)} {σ : L2.St} {H : Hp} {s : Shared} {a dd : Addr} {fs : List (Str × V)} (I : L2.Inv X pins σ H s) (e : H a = some (XV a (.ref C) (some dd))) (ed : H dd = some (.xd fs)) :
    ∃ oe od mA, InstAt s.heap a oe C (some od) ∧ s.heap.get? dd = some od ∧ s.heap.Ns1 dd mA ∧ ∀ f, RelO (fs.lookup f) (mA f) := by
  obtain ⟨oe, vs, h1, z, h2⟩ := xv_get I.hok e
  have hx : ObjOk X.prog X.w H s.heap dd (.xd fs) := I.hok dd _ ed
  obtain ⟨mA, hns, hr⟩ := hx
  obtain ⟨od, ho, hl⟩ := lookIn_ns hns
  refine ⟨oe, od, mA, ⟨h1, z.1, by unfold PySem.W.notCls; rw [h2] <;> rfl, by rw [z.2]; exact ho⟩, ho, hns, hr⟩
theorem call_isV (c : V) (cv : Value) (hcv : ∀ u, RelV c u → u = cv) : CallR X (.builtin "isinstance") (fun xs H Q => ∃ a C dd fs b, xs = [.ref a, c] ∧ ErV X.K C ∧ H a = some (XV a (.ref C) (some dd)) ∧ H dd = some (.xd fs) ∧ kitOne X.K (.ref C) cv = some b ∧ Q (.bl b) H) := by
  intro pins s σ H xs us Q I r h
  obtain ⟨a, C, dd, fs, b, rfl, E, ea, ed, hk, q⟩ := h
  obtain ⟨oe, od, mA, J, _⟩ := xv_inst I ea ed
  cases r with
  | cons r1 r2 =>
    cases r2 with
    | cons r3 r4 =>
      cases r4
      obtain rfl : _ = Value.ref a := r1
      obtain rfl := hcv _ r3
      exact kia_one (kitx_exc E.cl E.ga E.gg E.exC E.ha E.hn E.ht E.hm) I.kIn J hk (by intro z; cases z) fun tk => ⟨.bl b, H, I.kept fun _ _ z => z, rfl, q⟩
theorem pe_valV {e : Expr} {te : TE} {pos : Pos} {n : Str} (he : PE X e te) (hb : attributeBase e n X.env (eval e X.env) = eval e X.env) :
    PE X (.Attribute e n pos) (fun σ H Q => te σ H fun x H1 => ∃ (a C dd : Addr) (fs : List (Str × V)) (v : V), x = .ref a ∧ ErV X.K C ∧ findIn X.K (.ref C) n = some none ∧ H1 a = some (XV a (.ref C) (some dd)) ∧ H1 dd = some (.xd fs) ∧ fs.lookup n = some v ∧ Q v H1) := by
  refine ⟨fun pins s σ H Q I h => ?_⟩
  refine attr_of hb (thn (he.run pins s σ H _ I h) fun u s1 hh => ?_)
  obtain ⟨x, H1, I1, rx, a, C, dd, fs, v, rfl, E, hno, ea, ed, hl, q⟩ := hh
  obtain rfl : u = Value.ref a := rx
  obtain ⟨oe, od, mA, J, ho, hns, hr⟩ := xv_inst I1 ea ed
  obtain ⟨od', ho', hlo⟩ := lookIn_ns hns
  rw [ho] at ho'; cases ho'
  obtain ⟨u, hu, ru⟩ := RelO.some_of (v := v) (o := mA n) (by rw [← hl]; exact hr n)
  exact HandSPX.exc_get I1.kIn J E.ga E.gg E.exC (PySem.W.findObj_own E.hdC hno rfl (by rw [hlo, hu])) (handed_of ru) ⟨v, H1, I1.tok _, ru, q⟩
end
end XL
namespace XL
open PySem PySem.W PySem.Calls PyProof.Rows PySem.HandSPX L2 LamX
theorem lamO_ok {P : Program} {w : World} {H : Hp} {h : Heap} {f : Addr} {q : Str} {params : Arguments} {body : Expr} {scope : Scope} {cells : List (Str × Addr)} {c' : Addr} {pm ctv : Value} (e : h.get? f = some (W.kla_obj "<lambda>" q params body scope cells pm c' ctv)) : ObjOk P w H h f (LamO f q params body scope cells c') := by
  unfold LamO ObjOk
  refine ⟨⟨pm, ctv, e⟩, ⟨_, e⟩, fun h1 h2 p k => ?_⟩
  obtain ⟨pm, ctv, e⟩ := p
  exact ⟨pm, ctv, k _ e⟩
theorem lamO_get {P : Program} {w : World} {H : Hp} {h : Heap} {f : Addr} {q : Str} {params : Arguments} {body : Expr} {scope : Scope} {cells : List (Str × Addr)} {c' : Addr} (k : HOk P w H h) (e : H f = some (LamO f q params body scope cells c')) : ∃ pm ctv, h.get? f = some (W.kla_obj "<lambda>" q params body scope cells pm c' ctv) := by
  have := k f _ e
  unfold LamO ObjOk at this
  exact this.1
theorem give_lam {X : Cx} {pins : List (Addr × Obj)} {σ : L2.St} {H H1 : Hp} {s s1 : Shared} {f : Addr} {q : Str} {params : Arguments} {body : Expr} {scope : Scope} {cells : List (Str × Addr)} {c' : Addr} {pm ctv : Value} (I : L2.Inv X pins σ H s) (I1 : L2.Inv X pins σ H1 s1) (hex : X.ex = []) (hf : s.heap.objs.size ≤ f) (hn : H1 f = none)
    (e : s1.heap.get? f = some (W.kla_obj "<lambda>" q params body scope cells pm c' ctv)) : L2.Inv X pins σ (upd H1 f (LamO f q params body scope cells c')) s1 := by
  have old : ∀ b o, s.heap.get? b = some o → b ≠ f := fun b o k z => by
    have := Heap.lt_size k
    rw [z] at this
    exact absurd this (Nat.not_lt.mpr hf)
  refine inv_give I1 hn (fun xs z => by cases z) ?_ (fun z => ?_) (fun v hv => ?_) (fun p hp => old p.1 p.2 (I.pin p hp).1) (lamO_ok e)
  · cases k : X.s_0.heap.get? f with
    | none => rfl
    | some o =>
      obtain ⟨o', k'⟩ := I.base.there f o k (by rw [hex]; exact List.not_mem_nil)
      exact absurd rfl (old f o' k')
  · have := I.lt
    rw [← z] at this
    exact absurd this (Nat.not_lt.mpr hf)
  · obtain ⟨o, y1, y2⟩ := hv
    rw [e] at y1; cases y1
    cases y2
end XL
namespace DL
open PySem L2
def mset (M : Mp) (a : Addr) (o : MO) : Mp := fun b => if b = a then some o else M b
def mdel (M : Mp) (a : Addr) : Mp := fun b => if b = a then none else M b
theorem mset_same {M : Mp} {a : Addr} {o : MO} : mset M a o a = some o := if_pos rfl
theorem mset_ne {M : Mp} {a b : Addr} {o : MO} (h : b ≠ a) : mset M a o b = M b := if_neg h
theorem mdel_same {M : Mp} {a : Addr} : mdel M a a = none := if_pos rfl
theorem mdel_ne {M : Mp} {a b : Addr} (h : b ≠ a) : mdel M a b = M b := if_neg h
theorem mset_mset {M : Mp} {a : Addr} {o u : MO} : mset (mset M a o) a u = mset M a u := by
  funext b; unfold mset; split <;> rfl
theorem mdel_mset {M : Mp} {a : Addr} {o : MO} (h : M a = none) : mdel (mset M a o) a = M := by
  funext b; unfold mdel
  by_cases e : b = a
  · rw [if_pos e, e, h]
  · rw [if_neg e, mset_ne e]
section
variable {K : PySem.W.Frag} {M M' : Mp} {Z : Zn} {H H' : Hp}
theorem Rep.mono (e : Ext M Z H M' H') {v : V} {d : D} (r : Rep K M Z H v d) : Rep K M' Z H' v d := r.monoI e.i
theorem RepO.mono (e : Ext M Z H M' H') {v : List (Option V)} {d : List (Option D)} (r : RepO K M Z H v d) : RepO K M' Z H' v d := r.monoI e.i
theorem Reps.mono (e : Ext M Z H M' H') {v : List V} {d : List D} (r : Reps K M Z H v d) : Reps K M' Z H' v d := r.monoI e.i
theorem RepK.mono (e : Ext M Z H M' H') {v : List (Key × V)} {d : List (Key × D)} (r : RepK K M Z H v d) : RepK K M' Z H' v d := r.monoI e.i
theorem RepT.mono (e : Ext M Z H M' H') {v : List (List Key × V)} {d : List (List Key × D)} (r : RepT K M Z H v d) : RepT K M' Z H' v d := r.monoI e.i
theorem RepF.mono (e : Ext M Z H M' H') {v : List (Str × V)} {d : List (Str × D)} (r : RepF K M Z H v d) : RepF K M' Z H' v d := r.monoI e.i
end
theorem Reps.append {K : PySem.W.Frag} {M : Mp} {Z : Zn} {H : Hp} : ∀ {vs ws : List V} {ds es : List D}, Reps K M Z H vs ds → Reps K M Z H ws es → Reps K M Z H (vs ++ ws) (ds ++ es)
  | _, _, _, _, .nil, s => s
  | _, _, _, _, .cons r t, s => .cons r (Reps.append t s)
theorem Reps.ints {K : PySem.W.Frag} {M : Mp} {Z : Zn} {H : Hp} : ∀ {vs : List V} {ns : List Int}, Reps K M Z H vs (ns.map D.int) → vs = ns.map V.int
  | _, [], .nil => rfl
  | _, _ :: _, .cons (.int _) t => by rw [List.map_cons, Reps.ints t]
theorem Reps.ofInts {K : PySem.W.Frag} {M : Mp} {Z : Zn} {H : Hp} : ∀ (ns : List Int), Reps K M Z H (ns.map V.int) (ns.map D.int)
  | [] => .nil
  | _ :: r => .cons (.int _) (Reps.ofInts r)
theorem Reps.bls {K : PySem.W.Frag} {M : Mp} {Z : Zn} {H : Hp} : ∀ {vs : List V} {ns : List Bool}, Reps K M Z H vs (ns.map D.bl) → vs = ns.map V.bl
  | _, [], .nil => rfl
  | _, _ :: _, .cons (.bl _) t => by rw [List.map_cons, Reps.bls t]
theorem Reps.strs {K : PySem.W.Frag} {M : Mp} {Z : Zn} {H : Hp} : ∀ {vs : List V} {ns : List Str}, Reps K M Z H vs (ns.map D.str) → vs = ns.map V.str
  | _, [], .nil => rfl
  | _, _ :: _, .cons (.str _) t => by rw [List.map_cons, Reps.strs t]
@[elab_as_elim] theorem RepN.ind {K : PySem.W.Frag} {M : Mp} {Z : Zn} {H : Hp} {motive : (xs : List (NestedKey × Addr × V)) → (kvs : List (D × D)) → RepN K M Z H xs kvs → Prop} (nil : motive [] [] .nil)
    (cons : ∀ {k : NestedKey} {a : Addr} {v : V} {dk d : D} {xs : List (NestedKey × Addr × V)} {kvs : List (D × D)} (hk : nkD dk = some k) (dp : k.depth ≤ 8) (rk : Rep K M Z H (.ref a) dk) (r : Rep K M Z H v d) (t : RepN K M Z H xs kvs), motive xs kvs t → motive _ _ (.cons hk dp rk r t)) :
    ∀ {xs : List (NestedKey × Addr × V)} {kvs : List (D × D)} (t : RepN K M Z H xs kvs), motive xs kvs t
  | _, _, .nil => nil
  | _, _, .cons hk dp rk r t => cons hk dp rk r t (RepN.ind nil cons t)
theorem Wd.fresh {K : PySem.W.Frag} {M : Mp} {Z : Zn} {H : Hp} (w : Wd K M Z H) {a : Addr} (h : H a = none) : Im M Z a := by
  refine ⟨?_, fun z => ?_⟩
  · cases e : M a with
    | none => rfl
    | some o =>
      obtain ⟨u, q⟩ := (w.1 a o e).there
      rw [h] at q; cases q
  · obtain ⟨_, u, q⟩ := w.2 a z
    rw [h] at q; cases q
section
variable {K : PySem.W.Frag} {M : Mp} {Z : Zn} {H : Hp} {p : Addr} {o : HO} {u v : MO}
theorem Wd.zne (w : Wd K M Z H) (h : H p = none) : ∀ b, Z b → b ≠ p := fun b z e => by
  obtain ⟨_, u, q⟩ := w.2 b z
  rw [e, h] at q; cases q
theorem Wd.zneM (w : Wd K M Z H) (h : M p = some v) : ∀ b, Z b → b ≠ p := fun b z e => by
  have q := (w.2 b z).1
  rw [e, h] at q; cases q
/-- a new immutable object -/
theorem Ext.new (w : Wd K M Z H) (h : H p = none) : Ext M Z H M (upd H p o) := ⟨fun b u q m => ⟨by rw [upd_ne (ne_of_none q h)]; exact q, m⟩, fun b z => ⟨upd_ne (w.zne h b z), rfl⟩⟩
theorem Wd.new (w : Wd K M Z H) (h : H p = none) : Wd K M Z (upd H p o) := ⟨fun a u e => by
  obtain ⟨z, q⟩ := (w.1 a u e).there
  exact (w.1 a u e).step (Ext.new w h) (upd_ne (ne_of_none q h)), fun b z => by
  obtain ⟨m, u, q⟩ := w.2 b z
  exact ⟨m, u, by rw [upd_ne (w.zne h b z)]; exact q⟩⟩
/-- a new mutable object -/
theorem Ext.newM (w : Wd K M Z H) (h : H p = none) : Ext M Z H (mset M p u) (upd H p o) := ⟨fun b z q m => ⟨by rw [upd_ne (ne_of_none q h)]; exact q, by rw [mset_ne (ne_of_none q h)]; exact m.1, m.2⟩, fun b z => ⟨upd_ne (w.zne h b z), mset_ne (w.zne h b z)⟩⟩
theorem Wd.newM (w : Wd K M Z H) (h : H p = none) (r : RepM K (mset M p u) Z (upd H p o) p u) : Wd K (mset M p u) Z (upd H p o) := ⟨fun a z e => by
  by_cases ha : a = p
  · subst ha; rw [mset_same] at e; cases e; exact r
  · rw [mset_ne ha] at e
    exact (w.1 a z e).step (Ext.newM w h) (upd_ne ha), fun b z => by
  obtain ⟨m, u, q⟩ := w.2 b z
  exact ⟨by rw [mset_ne (w.zne h b z)]; exact m, u, by rw [upd_ne (w.zne h b z)]; exact q⟩⟩
/-- a mutable object changed -/
theorem Ext.put (w : Wd K M Z H) (h : M p = some v) : Ext M Z H (mset M p u) (upd H p o) := ⟨fun b z q m => by
  have n : b ≠ p := fun e => by have m := m.1; rw [e, h] at m; cases m
  exact ⟨by rw [upd_ne n]; exact q, by rw [mset_ne n]; exact m.1, m.2⟩, fun b z => ⟨upd_ne (w.zneM h b z), mset_ne (w.zneM h b z)⟩⟩
theorem Wd.put (w : Wd K M Z H) (h : M p = some v) (r : RepM K (mset M p u) Z (upd H p o) p u) : Wd K (mset M p u) Z (upd H p o) := ⟨fun a z e => by
  by_cases ha : a = p
  · subst ha; rw [mset_same] at e; cases e; exact r
  · rw [mset_ne ha] at e
    exact (w.1 a z e).step (Ext.put w h) (upd_ne ha), fun b z => by
  obtain ⟨m, u, q⟩ := w.2 b z
  exact ⟨by rw [mset_ne (w.zneM h b z)]; exact m, u, by rw [upd_ne (w.zneM h b z)]; exact q⟩⟩
end
theorem EnvR.mono {K : PySem.W.Frag} {M M' : Mp} {Z : Zn} {H H' : Hp} (e : Ext M Z H M' H') {σ : St} {ρ : Rho} (r : EnvR K M Z H σ ρ) : EnvR K M' Z H' σ ρ := r.monoI e.i
theorem EnvR.unset {K : PySem.W.Frag} {M : Mp} {Z : Zn} {H : Hp} {o : Option V} : ∀ {σ : St} {ρ : Rho} (i : Nat), EnvR K M Z H σ ρ → EnvR K M Z H (σ.set i o) (ρ.set i .none)
  | _, _, _, .nil => .nil
  | _, _, 0, .val _ t => .any t
  | _, _, 0, .any t => .any t
  | _, _, i + 1, .val q t => .val q (EnvR.unset i t)
  | _, _, i + 1, .any t => .any (EnvR.unset i t)
end DL
namespace DL
open PySem L2
section
variable (X : Cx)
def eSem (e : Expr) : TE := fun σ H Q => ∀ pins s, Inv X pins σ H s → wpAny (model X.prog X.w) X.A (eval e X.env) (EP X pins σ Q) X.xe s
def tSem (e : Expr) : TT := fun σ H Q => ∀ pins s, Inv X pins σ H s → wpAny (model X.prog X.w) X.A (isTrue e X.env (eval e X.env)) (TP X pins σ Q) X.xe s
def wSem (e : Expr) : TT := fun σ H Q => ∀ (whole : Sem Value) pins s, Inv X pins σ H s → wpAny (model X.prog X.w) X.A (isTrue e X.env whole) (TP X pins σ Q) X.xe s
def aSem (es : List Expr) : TA := fun σ H Q => ∀ pos pins s, Inv X pins σ H s → wpAny (model X.prog X.w) X.A (spliced (backTo pos (starEach es X.env))) (AP X pins σ Q) X.xe s
def sSem (st : Stmt) : TS := fun D σ H => ∀ pins s, Inv X pins σ H s → wpAny (model X.prog X.w) X.A (exec st X.env) (SP X pins D) X.xe s
def gSem (tg : Expr) : TG := fun v σ H Q => ∀ pins s u, Inv X pins σ H s → RelV v u → wpAny (model X.prog X.w) X.A (assign tg X.env u) (fun _ s' => ∃ σ' H', Inv X pins σ' H' s' ∧ Q σ' H') X.xe s
def gsSem (ts : List Expr) : TGs := fun vs σ H Q => ∀ pins s us, Inv X pins σ H s → Vals vs us → wpAny (model X.prog X.w) X.A (assignInOrder ((assignEach ts X.env).map (·.2)) us) (fun _ s' => ∃ σ' H', Inv X pins σ' H' s' ∧ Q σ' H') X.xe s
def iSem (tg iter : Expr) : TI := fun σ H R => ∀ pins s, Inv X pins σ H s → wpAny (model X.prog X.w) X.A (eval iter X.env) (fun v s1 => wpAny (model X.prog X.w) X.A (pyIter v) (PIE X pins σ tg R) X.xe s1) X.xe s
end
section
variable {X : Cx} {e tg : Expr} {es : List Expr} {st : Stmt} {sts : List Stmt} {σ : L2.St} {H : Hp}
theorem pe_sem : PE X e (eSem X e) := ⟨fun pins s σ H Q I h => h pins s I⟩
theorem pt_sem : PT X e (tSem X e) := ⟨fun pins s σ H Q I h => h pins s I⟩
theorem pw_sem : PW X e (wSem X e) := ⟨fun wh pins s σ H Q I h => h wh pins s I⟩
theorem pa_sem : PA X es (aSem X es) := ⟨fun pos pins s σ H Q I h => h pos pins s I⟩
theorem ps_sem : PS X st (sSem X st) := ⟨fun pins s σ H D I h => h pins s I⟩
theorem pg_sem : PG X tg (gSem X tg) := ⟨fun pins s σ H v u Q I r h => h pins s u I r⟩
theorem pgs_sem : PGs X es (gsSem X es) := ⟨fun pins s σ H v u Q I r h => h pins s u I r⟩
theorem pi_sem : PI X tg e (iSem X tg e) := ⟨fun pins s σ H R I h => h pins s I⟩
theorem eOf {t : TE} {Q : VK} (h : PE X e t) (q : t σ H Q) : eSem X e σ H Q := fun pins s I => h.run pins s σ H Q I q
theorem tOf {t : TT} {Q : Bool → Hp → Prop} (h : PT X e t) (q : t σ H Q) : tSem X e σ H Q := fun pins s I => h.run pins s σ H Q I q
theorem wOf {t : TT} {Q : Bool → Hp → Prop} (h : PW X e t) (q : t σ H Q) : wSem X e σ H Q := fun wh pins s I => h.run wh pins s σ H Q I q
theorem aOf {t : TA} {Q : List V → Hp → Prop} (h : PA X es t) (q : t σ H Q) : aSem X es σ H Q := fun pos pins s I => h.run pos pins s σ H Q I q
theorem sOf {t : TS} {D : Ends} (h : PS X st t) (q : t D σ H) : sSem X st D σ H := fun pins s I => h.run pins s σ H D I q
theorem ssOf {t : TS} {D : Ends} (h : PSs X sts t) (q : t D σ H) : ssSem X sts D σ H := fun pins s I => h.run pins s σ H D I q
theorem gOf {t : TG} {v : V} {Q : L2.St → Hp → Prop} (h : PG X tg t) (q : t v σ H Q) : gSem X tg v σ H Q := fun pins s u I r => h.run pins s σ H v u Q I r q
theorem gsOf {t : TGs} {vs : List V} {Q : L2.St → Hp → Prop} (h : PGs X es t) (q : t vs σ H Q) : gsSem X es vs σ H Q := fun pins s u I r => h.run pins s σ H vs u Q I r q
end
section
variable {K : PySem.W.Frag} {M M1 : Mp} {Z : Zn} {H H1 : Hp}
theorem KE.now {Φ : D → Mp → Prop} {Q : VK} {v : V} {d : D} (k : KE K M Z H Φ Q) (w : Wd K M Z H) (r : Rep K M Z H v d) (h : Φ d M) : Q v H := k v d H M Ext.refl w r h
theorem KE.new {Φ : D → Mp → Prop} {Q : VK} {p : Addr} {o : HO} {d : D} (k : KE K M Z H Φ Q) (w : Wd K M Z H) (hp : H p = none) (r : Rep K M Z (upd H p o) (.ref p) d) (h : Φ d M) : Q (.ref p) (upd H p o) :=
  k _ d _ M (Ext.new w hp) (w.new hp) r h
theorem KT.now {Φ : Bool → Mp → Prop} {Q : Bool → Hp → Prop} {b : Bool} (k : KT K M Z H Φ Q) (w : Wd K M Z H) (h : Φ b M) : Q b H := k b H M Ext.refl w h
end
structure WE (X : Cx) (ρ : Rho) (M : Mp) (e : Expr) (Φ : D → Mp → Prop) : Prop where
  run : ∀ {Z : Zn} σ H (Q : VK), EnvR X.K M Z H σ ρ → Wd X.K M Z H → KE X.K M Z H Φ Q → eSem X e σ H Q
structure WT (X : Cx) (ρ : Rho) (M : Mp) (e : Expr) (Φ : Bool → Mp → Prop) : Prop where
  run : ∀ {Z : Zn} σ H (Q : Bool → Hp → Prop), EnvR X.K M Z H σ ρ → Wd X.K M Z H → KT X.K M Z H Φ Q → tSem X e σ H Q
structure WW (X : Cx) (ρ : Rho) (M : Mp) (e : Expr) (Φ : Bool → Mp → Prop) : Prop where
  run : ∀ {Z : Zn} σ H (Q : Bool → Hp → Prop), EnvR X.K M Z H σ ρ → Wd X.K M Z H → KT X.K M Z H Φ Q → wSem X e σ H Q
structure WA (X : Cx) (ρ : Rho) (M : Mp) (es : List Expr) (Φ : List D → Mp → Prop) : Prop where
  run : ∀ {Z : Zn} σ H (Q : List V → Hp → Prop), EnvR X.K M Z H σ ρ → Wd X.K M Z H → KA X.K M Z H Φ Q → aSem X es σ H Q
structure WS (X : Cx) (ρ : Rho) (M : Mp) (st : Stmt) (Ψ : DE) : Prop where
  run : ∀ {Z : Zn} σ H (E : Ends), EnvR X.K M Z H σ ρ → Wd X.K M Z H → KS X.K M Z H Ψ E → sSem X st E σ H
structure WG (X : Cx) (tg : Expr) (d : D) (ρ : Rho) (M : Mp) (Φ : Rho → Mp → Prop) : Prop where
  run : ∀ {Z : Zn} σ H v (Q : L2.St → Hp → Prop), EnvR X.K M Z H σ ρ → Wd X.K M Z H → Rep X.K M Z H v d → KG X.K M Z H Φ Q → gSem X tg v σ H Q
structure WGs (X : Cx) (tg : List Expr) (ds : List D) (ρ : Rho) (M : Mp) (Φ : Rho → Mp → Prop) : Prop where
  run : ∀ {Z : Zn} σ H vs (Q : L2.St → Hp → Prop), EnvR X.K M Z H σ ρ → Wd X.K M Z H → Reps X.K M Z H vs ds → KG X.K M Z H Φ Q → gsSem X tg vs σ H Q
section
variable {X : Cx} {ρ : Rho} {M : Mp} {Φ : D → Mp → Prop} {e a b : Expr} {pos : Pos}
/-- weaken the end -/
theorem WE.imp {Φ' : D → Mp → Prop} (h : WE X ρ M e Φ') (k : ∀ d M', Φ' d M' → Φ d M') : WE X ρ M e Φ := .mk fun σ H Q en w q => h.run σ H Q en w fun v d H' M' x w' r z => q v d H' M' x w' r (k d M' z)
theorem WA.imp {es : List Expr} {Φ Φ' : List D → Mp → Prop} (h : WA X ρ M es Φ') (k : ∀ d M', Φ' d M' → Φ d M') : WA X ρ M es Φ := .mk fun σ H Q en w q => h.run σ H Q en w fun v d H' M' x w' r z => q v d H' M' x w' r (k d M' z)
theorem WT.imp {Φ Φ' : Bool → Mp → Prop} (h : WT X ρ M e Φ') (k : ∀ d M', Φ' d M' → Φ d M') : WT X ρ M e Φ := .mk fun σ H Q en w q => h.run σ H Q en w fun b H' M' x w' z => q b H' M' x w' (k b M' z)
theorem we_var (i : Nat) {x : Str} {d : D} (hr : ρ[i]? = some (some d)) (h : Φ d M) (hN : X.N[i]? = some x := by rfl) (hv : Vis X.env.scope x := by first | exact Or.inl rfl | exact Or.inr (Or.inl rfl) | exact Or.inr (Or.inr rfl))
    (hd : (x == ("__debug__" : Str)) = false := by decide) (hcd : (x == ("__classdict__" : Str)) = false := by decide) : WE X ρ M (.Name x pos) Φ := .mk fun σ H Q en w k => by
  obtain ⟨v, e1, r⟩ := en.get hr
  exact eOf (pe_var hN hv hd hcd) ⟨v, e1, k.now w r h⟩
theorem we_int {i : Int} {j : Nat} (h : Φ (.int i) M) : WE X ρ M (.Constant (.int i) j pos) Φ := .mk fun σ H Q en w k => eOf pe_int (k.now w (.int i) h)
theorem we_bl {i : Bool} {j : Nat} (h : Φ (.bl i) M) : WE X ρ M (.Constant (.bool i) j pos) Φ := .mk fun σ H Q en w k => eOf pe_bl (k.now w (.bl i) h)
theorem we_non {j : Nat} (h : Φ .non M) : WE X ρ M (.Constant .none j pos) Φ := .mk fun σ H Q en w k => eOf pe_non (k.now w .non h)
theorem we_str {i : Str} {j : Nat} (h : Φ (.str i) M) : WE X ρ M (.Constant (.str i) j pos) Φ := .mk fun σ H Q en w k => eOf pe_str (k.now w (.str i) h)
/-- a module's constant -/
theorem we_gint {x : Str} {i : Int} (hm : ∃ t, X.mg x = some (.int i t)) (h : Φ (.int i) M) (hg : Gl X x := by rfl) (hd : (x == ("__debug__" : Str)) = false := by decide) : WE X ρ M (.Name x pos) Φ := .mk fun σ H Q en w k => by
  obtain ⟨t, hm⟩ := hm
  exact eOf (pe_glob (v := .int i) hg hm ⟨t, rfl⟩ hd) (k.now w (.int i) h)
theorem we_gstr {x : Str} {i : Str} (hm : ∃ t, X.mg x = some (.str i t)) (h : Φ (.str i) M) (hg : Gl X x := by rfl) (hd : (x == ("__debug__" : Str)) = false := by decide) : WE X ρ M (.Name x pos) Φ := .mk fun σ H Q en w k => by
  obtain ⟨t, hm⟩ := hm
  exact eOf (pe_glob (v := .str i) hg hm ⟨t, rfl⟩ hd) (k.now w (.str i) h)
theorem we_gref {x : Str} {a : Addr} {d : D} (hm : X.mg x = some (.ref a)) (hr : ∀ M Z H, Rep X.K M Z H (.ref a) d) (h : Φ d M) (hg : Gl X x := by rfl) (hd : (x == ("__debug__" : Str)) = false := by decide) : WE X ρ M (.Name x pos) Φ := .mk fun σ H Q en w k =>
  eOf (pe_glob (v := .ref a) hg hm rfl hd) (k.now w (hr _ _ _) h)
/-- a built-in class as a value -/
theorem we_bty {x : Str} {n : String} (hm : X.mg x = none) (hv : bootBuiltins x = some (.type n)) (h : Φ (.ty n) M) (hg : Gl X x := by rfl) (hn : x ≠ "__name__" := by decide) (hd : (x == ("__debug__" : Str)) = false := by decide) : WE X ρ M (.Name x pos) Φ := .mk fun σ H Q en w k =>
  eOf (pe_bltn (v := .ty n) hg hm hv rfl hn hd) (k.now w (.ty n) h)
def RD (K : PySem.W.Frag) (r : R2) (x y : D) (M : Mp) (Φ : D → Mp → Prop) : Prop := ∀ (Z : Zn) v u H Q, Wd K M Z H → Rep K M Z H v x → Rep K M Z H u y → KE K M Z H Φ Q → r v u H Q
def RU (K : PySem.W.Frag) (r : V → Hp → VK → Prop) (x : D) (M : Mp) (Φ : D → Mp → Prop) : Prop := ∀ (Z : Zn) v H Q, Wd K M Z H → Rep K M Z H v x → KE K M Z H Φ Q → r v H Q
def RC (K : PySem.W.Frag) (r : List V → Hp → VK → Prop) (xs : List D) (M : Mp) (Φ : D → Mp → Prop) : Prop := ∀ (Z : Zn) vs H Q, Wd K M Z H → Reps K M Z H vs xs → KE K M Z H Φ Q → r vs H Q
theorem bind2 {Ψ : D → D → Mp → Prop} (h : WE X ρ M a fun x M1 => WE X ρ M1 b fun y M2 => Ψ x y M2) {Z : Zn} {σ : L2.St} {H : Hp} {R : V → V → Hp → Prop} (en : EnvR X.K M Z H σ ρ) (w : Wd X.K M Z H)
    (k : ∀ v u x y H2 M2, Ext M Z H M2 H2 → Wd X.K M2 Z H2 → Rep X.K M2 Z H2 v x → Rep X.K M2 Z H2 u y → Ψ x y M2 → R v u H2) : eSem X a σ H fun x H1 => eSem X b σ H1 fun y H2 => R x y H2 :=
  h.run σ H _ en w fun v x H1 M1 e1 w1 r1 hb => hb.run σ H1 _ (en.mono e1) w1 fun u y H2 M2 e2 w2 r2 hr => k v u x y H2 M2 (e1.trans e2) w2 (r1.mono e2) r2 hr
theorem we_op {op : Operator} {r : R2} (ho : OpR X (binaryOp op) r) (h : WE X ρ M a fun x M1 => WE X ρ M1 b fun y M2 => RD X.K r x y M2 Φ) : WE X ρ M (.BinOp a op b pos) Φ := .mk fun σ H Q en w k =>
  eOf (pe_op ho pe_sem pe_sem) (bind2 h en w fun v u x y H2 M2 e w2 r1 r2 hr => hr _ v u H2 Q w2 r1 r2 (k.step e))
theorem we_cmp {op : CmpOp} {r : R2} (ho : OpR X (compareOp op) r) (hm : behindInMarks op b = false) (h : WE X ρ M a fun x M1 => WE X ρ M1 b fun y M2 => RD X.K r x y M2 Φ) : WE X ρ M (.Compare a [op] [b] pos) Φ := .mk fun σ H Q en w k =>
  eOf (pe_cmpR ho pe_sem pe_sem hm) (bind2 h en w fun v u x y H2 M2 e w2 r1 r2 hr => hr _ v u H2 Q w2 r1 r2 (k.step e))
theorem we_un {op : UnaryOp} {r : V → Hp → VK → Prop} (ho : UnR X (unaryOp op) r) (h : WE X ρ M a fun x M1 => RU X.K r x M1 Φ) : WE X ρ M (.UnaryOp op a pos) Φ := .mk fun σ H Q en w k =>
  eOf (pe_un ho pe_sem) (h.run σ H _ en w fun v x H1 M1 e1 w1 r1 hr => hr _ v H1 Q w1 r1 (k.step e1))
/-- one comparison as a test -/
theorem wt_cmp {op : CmpOp} {r : R2} {Φ : Bool → Mp → Prop} (ho : OpR X (compareOp op) r) (hm : behindInMarks op b = false) (h : WE X ρ M a fun x M1 => WE X ρ M1 b fun y M2 => RD X.K r x y M2 fun d M3 => ∃ c, d = .bl c ∧ Φ c M3) : WT X ρ M (.Compare a [op] [b] pos) Φ := .mk fun σ H Q en w k =>
  tOf (pt_cmpR ho pe_sem pe_sem hm) (bind2 h en w fun v u x y H2 M2 e w2 r1 r2 hr => hr _ v u H2 _ w2 r1 r2 fun z d H3 M3 e3 w3 r3 hz => by
    obtain ⟨c, rfl, hz⟩ := hz
    cases r3
    exact ⟨c, rfl, k c H3 M3 (e.trans e3) w3 hz⟩)
/-- a value that is a bool, as a test -/
theorem wt_val {Φ : Bool → Mp → Prop} (h : WE X ρ M e fun d M1 => ∃ c, d = .bl c ∧ Φ c M1) (he : ∀ whole, isTrue e X.env whole = (do let v ← whole; standAt e.pos; holding [v] (truthy v)) := by intro _; rfl) : WT X ρ M e Φ := .mk fun σ H Q en w k =>
  tOf (pt_val pe_sem he) (h.run σ H _ en w fun v x H1 M1 e1 w1 r1 hz => by
    obtain ⟨c, rfl, hz⟩ := hz
    cases r1
    exact ⟨c, rfl, k c H1 M1 e1 w1 hz⟩)
theorem wt_not {Φ : Bool → Mp → Prop} (h : WT X ρ M a fun c M1 => Φ (!c) M1) : WT X ρ M (.UnaryOp .Not a pos) Φ := .mk fun σ H Q en w k =>
  tOf (pt_not pt_sem) (h.run σ H _ en w fun c H1 M1 e1 w1 hz => k _ H1 M1 e1 w1 hz)
theorem ww_and1 {Φ : Bool → Mp → Prop} (h : WT X ρ M a Φ) : WW X ρ M (.BoolOp .And [a] pos) Φ := .mk fun σ H Q en w k => wOf (pw_and1 pt_sem) (h.run σ H Q en w k)
theorem ww_or1 {Φ : Bool → Mp → Prop} (h : WT X ρ M a Φ) : WW X ρ M (.BoolOp .Or [a] pos) Φ := .mk fun σ H Q en w k => wOf (pw_or1 pt_sem) (h.run σ H Q en w k)
theorem ww_and {Φ : Bool → Mp → Prop} {rest : List Expr} (h : WT X ρ M a fun c M1 => if c = true then WW X ρ M1 (.BoolOp .And (b :: rest) pos) Φ else Φ false M1) : WW X ρ M (.BoolOp .And (a :: b :: rest) pos) Φ := .mk fun σ H Q en w k =>
  wOf (pw_and pt_sem pw_sem) (h.run σ H _ en w fun c H1 M1 e1 w1 hz => by
    cases c with
    | true => exact hz.run σ H1 Q (en.mono e1) w1 (k.step e1)
    | false => exact k false H1 M1 e1 w1 hz)
theorem ww_or {Φ : Bool → Mp → Prop} {rest : List Expr} (h : WT X ρ M a fun c M1 => if c = true then Φ true M1 else WW X ρ M1 (.BoolOp .Or (b :: rest) pos) Φ) : WW X ρ M (.BoolOp .Or (a :: b :: rest) pos) Φ := .mk fun σ H Q en w k =>
  wOf (pw_or pt_sem pw_sem) (h.run σ H _ en w fun c H1 M1 e1 w1 hz => by
    cases c with
    | true => exact k true H1 M1 e1 w1 hz
    | false => exact hz.run σ H1 Q (en.mono e1) w1 (k.step e1))
theorem wt_ww {Φ : Bool → Mp → Prop} (h : WW X ρ M e Φ) : WT X ρ M e Φ := .mk fun σ H Q en w k => tOf pw_sem.pt (h.run σ H Q en w k)
/-- as values (all but the last are bools) -/
theorem we_one {op : BoolOp} (h : WE X ρ M a Φ) : WE X ρ M (.BoolOp op [a] pos) Φ := .mk fun σ H Q en w k => eOf (pe_one pe_sem) (h.run σ H Q en w k)
theorem we_and {rest : List Expr} (h : WE X ρ M a fun d M1 => ∃ c, d = .bl c ∧ if c = true then WE X ρ M1 (.BoolOp .And (b :: rest) pos) Φ else Φ (.bl false) M1) : WE X ρ M (.BoolOp .And (a :: b :: rest) pos) Φ := .mk fun σ H Q en w k =>
  eOf (pe_and pe_sem pe_sem) (h.run σ H _ en w fun v x H1 M1 e1 w1 r1 hz => by
    obtain ⟨c, rfl, hz⟩ := hz
    cases r1
    refine ⟨c, rfl, ?_⟩
    cases c with
    | true => exact hz.run σ H1 Q (en.mono e1) w1 (k.step e1)
    | false => exact k.step e1 |>.now w1 (.bl false) hz)
theorem we_or {rest : List Expr} (h : WE X ρ M a fun d M1 => ∃ c, d = .bl c ∧ if c = true then Φ (.bl true) M1 else WE X ρ M1 (.BoolOp .Or (b :: rest) pos) Φ) : WE X ρ M (.BoolOp .Or (a :: b :: rest) pos) Φ := .mk fun σ H Q en w k =>
  eOf (pe_or pe_sem pe_sem) (h.run σ H _ en w fun v x H1 M1 e1 w1 r1 hz => by
    obtain ⟨c, rfl, hz⟩ := hz
    cases r1
    refine ⟨c, rfl, ?_⟩
    cases c with
    | true => exact k.step e1 |>.now w1 (.bl true) hz
    | false => exact hz.run σ H1 Q (en.mono e1) w1 (k.step e1))
theorem we_if {c : Expr} (h : WT X ρ M c fun b' M1 => if b' = true then WE X ρ M1 a Φ else WE X ρ M1 b Φ) : WE X ρ M (.IfExp c a b pos) Φ := .mk fun σ H Q en w k =>
  eOf (pe_ifExp pt_sem pe_sem pe_sem) (h.run σ H _ en w fun c H1 M1 e1 w1 hz => by
    cases c with
    | true => exact hz.run σ H1 Q (en.mono e1) w1 (k.step e1)
    | false => exact hz.run σ H1 Q (en.mono e1) w1 (k.step e1))
variable {es : List Expr} {ΦA : List D → Mp → Prop}
theorem wa_nil (h : ΦA [] M) : WA X ρ M [] ΦA := .mk fun σ H Q en w k => aOf pa_nil (k [] [] H M Ext.refl w .nil h)
theorem wa_cons (h : WE X ρ M e fun d M1 => WA X ρ M1 es fun ds M2 => ΦA (d :: ds) M2) (hs : starEach (e :: es) X.env = (false, eval e X.env) :: starEach es X.env := by rfl) : WA X ρ M (e :: es) ΦA := .mk fun σ H Q en w k =>
  aOf (pa_cons pe_sem pa_sem hs) (h.run σ H _ en w fun v d H1 M1 e1 w1 r1 hz => hz.run σ H1 _ (en.mono e1) w1 fun vs ds H2 M2 e2 w2 r2 hy => k (v :: vs) (d :: ds) H2 M2 (e1.trans e2) w2 (.cons (r1.mono e2) r2) hy)
theorem we_tup {k1 : Nat} (h : WA X ρ M es fun ds M1 => ds.length ≤ sizeLine ∧ Φ (.tup ds) M1) : WE X ρ M (.Tuple es k1 pos) Φ := .mk fun σ H Q en w k =>
  eOf (pe_tup pa_sem) (h.run σ H _ en w fun vs ds H1 M1 e1 w1 r1 hz => ⟨by rw [r1.length]; exact hz.1, fun p hp => (k.step e1).new w1 hp (.tup (.inl upd_same) (w1.fresh hp) (r1.mono (Ext.new w1 hp))) hz.2⟩)
theorem we_lst (h : WA X ρ M es fun ds M1 => ds.length ≤ sizeLine ∧ Φ (.lst ds) M1) : WE X ρ M (.List es pos) Φ := .mk fun σ H Q en w k =>
  eOf (pe_lst pa_sem) (h.run σ H _ en w fun vs ds H1 M1 e1 w1 r1 hz => ⟨by rw [r1.length]; exact hz.1, fun p hp => (k.step e1).new w1 hp (.lst upd_same (w1.fresh hp) (r1.mono (Ext.new w1 hp))) hz.2⟩)
/-- a list that will be changed -/
theorem we_lstM (h : WA X ρ M es fun ds M1 => ds.length ≤ sizeLine ∧ ∀ p, M1 p = none → Φ (.ob p) (mset M1 p (.lst ds))) : WE X ρ M (.List es pos) Φ := .mk fun σ H Q en w k =>
  eOf (pe_lst pa_sem) (h.run σ H _ en w fun vs ds H1 M1 e1 w1 r1 hz => ⟨by rw [r1.length]; exact hz.1, fun p hp =>
    (k.step e1) _ (.ob p) _ (mset M1 p (.lst ds)) (Ext.newM w1 hp) (w1.newM hp ⟨vs, upd_same, r1.mono (Ext.newM w1 hp)⟩) (.ob p) (hz.2 p (w1.fresh hp).1)⟩)
end
end DL
namespace DL
open PySem L2
section
variable {X : Cx} {ρ : Rho} {M : Mp} {Ψ : DE} {e a b tg : Expr} {st : Stmt} {rest : List Stmt} {pos : Pos}
theorem wss_nil (h : Ψ.nx ρ M) : WSs X ρ M [] Ψ := .mk fun σ H E en w k => ssOf pss_nil (k.nx σ ρ H M Ext.refl w en h)
theorem wss_cons (h : WS X ρ M st { Ψ with nx := fun ρ' M' => WSs X ρ' M' rest Ψ }) : WSs X ρ M (st :: rest) Ψ := .mk fun σ H E en w k =>
  ssOf (pss_cons ps_sem pss_sem) (h.run σ H _ en w ⟨fun σ1 ρ1 H1 M1 e1 w1 en1 hz => hz.run σ1 H1 E en1 w1 (k.step e1), k.rt, k.bk, k.ct⟩)
theorem ws_expr (h : WE X ρ M e fun _ M1 => Ψ.nx ρ M1) (hs : swapsWith e none pos.line X.env = pure false := by rfl) : WS X ρ M (.Expr e pos) Ψ := .mk fun σ H E en w k =>
  sOf (ps_expr pe_sem hs) (h.run σ H _ en w fun v d H1 M1 e1 w1 r1 hz => k.nx σ ρ H1 M1 e1 w1 (en.mono e1) hz)
theorem ws_ret (h : WE X ρ M e Ψ.rt) : WS X ρ M (.Return (some e) pos) Ψ := .mk fun σ H E en w k => sOf (ps_ret pe_sem) (h.run σ H _ en w k.rt)
theorem ws_if {c : Expr} {sa sb : List Stmt} (h : WT X ρ M c fun b' M1 => if b' = true then WSs X ρ M1 sa Ψ else WSs X ρ M1 sb Ψ) : WS X ρ M (.If c sa sb pos) Ψ := .mk fun σ H E en w k =>
  sOf (ps_if pt_sem pss_sem pss_sem) (h.run σ H _ en w fun c H1 M1 e1 w1 hz => by
    cases c with
    | true => exact hz.run σ H1 E (en.mono e1) w1 (k.step e1)
    | false => exact hz.run σ H1 E (en.mono e1) w1 (k.step e1))
/-- other slots' data, less known -/
theorem WS.imp {Ψ' : DE} (h : WS X ρ M st Ψ') (n : ∀ ρ' M', Ψ'.nx ρ' M' → Ψ.nx ρ' M') (r : ∀ d M', Ψ'.rt d M' → Ψ.rt d M') (bk : ∀ ρ' M', Ψ'.bk ρ' M' → Ψ.bk ρ' M') (ct : ∀ ρ' M', Ψ'.ct ρ' M' → Ψ.ct ρ' M') : WS X ρ M st Ψ := .mk fun σ H E en w k =>
  h.run σ H E en w ⟨fun σ' ρ' H' M' x w' en' z => k.nx σ' ρ' H' M' x w' en' (n _ _ z), fun v d H' M' x w' r' z => k.rt v d H' M' x w' r' (r _ _ z), fun σ' ρ' H' M' x w' en' z => k.bk σ' ρ' H' M' x w' en' (bk _ _ z), fun σ' ρ' H' M' x w' en' z => k.ct σ' ρ' H' M' x w' en' (ct _ _ z)⟩
variable {Φ : Rho → Mp → Prop} {d : D} {ds : List D} {es : List Expr}
theorem wg_name (i : Nat) {x : Str} (h : Φ (ρ.set i (some d)) M) (hN : X.N.Nodup) (hi : X.N[i]? = some x := by rfl) (hx : Loc X.env.scope x := by first | exact Or.inl rfl | exact Or.inr rfl)
    (hf : X.fn x = true ∨ X.env.scope.names.lookup x = some .local := by first | exact .inl rfl | exact .inr rfl) : WG X (.Name x pos) d ρ M Φ := .mk fun σ H v Q en w r k =>
  gOf (pg_name hN hi hx hf) (k _ _ H M Ext.refl w (en.set r i) h)
theorem wgs_nil (h : ds = [] ∧ Φ ρ M) : WGs X [] ds ρ M Φ := .mk fun σ H vs Q en w r k => by
  obtain ⟨rfl, h⟩ := h
  cases r
  exact gsOf pgs_nil ⟨rfl, k _ _ H M Ext.refl w en h⟩
theorem wgs_cons {t : Expr} (h : WG X t d ρ M fun ρ1 M1 => WGs X es ds ρ1 M1 Φ) (hs : (assignEach (t :: es) X.env).map (·.2) = assign t X.env :: (assignEach es X.env).map (·.2) := by rfl) : WGs X (t :: es) (d :: ds) ρ M Φ := .mk fun σ H vs Q en w r k => by
  cases r with
  | cons r1 r2 =>
    exact gsOf (pgs_cons pg_sem pgs_sem hs) ⟨_, _, rfl, h.run σ H _ _ en w r1 fun σ1 ρ1 H1 M1 e1 w1 en1 hz => hz.run σ1 H1 _ Q en1 w1 (r2.mono e1) (k.step e1)⟩
theorem Rep.asTup {K : PySem.W.Frag} {M : Mp} {Z : Zn} {H : Hp} {v : V} {ds : List D} (r : Rep K M Z H v (.tup ds)) : ∃ a vs, v = .ref a ∧ SqT K H a vs ∧ Reps K M Z H vs ds := by
  cases r with
  | tup h m r => exact ⟨_, _, rfl, .inl h, r⟩
  | tupK h r => exact ⟨_, _, rfl, .inr h, r⟩
/-- what can be read as a list -/
def LstOf (M : Mp) : D → List D → Prop
  | .lst xs, ds => ds = xs
  | .rol xs, ds => ds = xs
  | .ob a, ds => M a = some (.lst ds)
  | _, _ => False
theorem Rep.asLst {K : PySem.W.Frag} {M : Mp} {Z : Zn} {H : Hp} {v : V} {d : D} {ds : List D} (w : Wd K M Z H) (r : Rep K M Z H v d) (l : LstOf M d ds) : ∃ a vs, v = .ref a ∧ SqL K H a vs ∧ Reps K M Z H vs ds := by
  cases r with
  | lst h m r => cases l; exact ⟨_, _, rfl, .inl (.inl h), r⟩
  | rol h m r => cases l; exact ⟨_, _, rfl, .inl h, r⟩
  | rolK h r => cases l; exact ⟨_, _, rfl, .inr h, r⟩
  | ob a =>
    obtain ⟨vs, h, r⟩ := w.1 a _ l
    exact ⟨_, _, rfl, .inl (.inl h), r⟩
  | _ => cases l
theorem wg_tup {k1 n : Nat} (h : d = .tup ds ∧ ds.length = n ∧ WGs X es ds ρ M Φ) (hc : X.calm = true := by rfl) (hn : (assignEach es X.env).length = n := by rfl) (hst : (assignEach es X.env).findIdx? (·.1) = none := by rfl) : WG X (.Tuple es k1 pos) d ρ M Φ := .mk fun σ H v Q en w r k => by
  obtain ⟨rfl, hl, h⟩ := h
  obtain ⟨a, vs, rfl, hq, rs⟩ := r.asTup
  exact gOf (pg_tup hc pgs_sem hn hst) ⟨a, vs, rfl, hq, by rw [rs.length]; exact hl, h.run σ H vs Q en w rs k⟩
theorem ws_asg (h : WE X ρ M e fun d M1 => WG X tg d ρ M1 Ψ.nx) (hs : swapsWithSole [tg] e pos.line X.env = pure false := by rfl) (hw : swappedStores [tg] e X.env = pure none := by rfl)
    (h1 : (assignEach [tg] X.env).map (·.2) = [assign tg X.env] := by rfl) : WS X ρ M (.Assign [tg] e pos) Ψ := .mk fun σ H E en w k =>
  sOf (ps_asg pe_sem pg_sem hs hw h1) (h.run σ H _ en w fun v d H1 M1 e1 w1 r1 hz => hz.run σ H1 v _ (en.mono e1) w1 r1 (k.nx.step e1))
theorem ws_set (i : Nat) {x : Str} {pos' : Pos} (hN : X.N.Nodup) (h : WE X ρ M e fun d M1 => Ψ.nx (ρ.set i (some d)) M1) (hi : X.N[i]? = some x := by rfl) (hx : Loc X.env.scope x := by first | exact Or.inl rfl | exact Or.inr rfl)
    (hs : swapsWith e (some (.Name x pos')) pos.line X.env = pure false := by rfl) (hf : X.fn x = true ∨ X.env.scope.names.lookup x = some .local := by first | exact .inl rfl | exact .inr rfl) : WS X ρ M (.Assign [.Name x pos'] e pos) Ψ := .mk fun σ H E en w k =>
  sOf (ps_set hN hi hx pe_sem hs hf) (h.run σ H _ en w fun v d H1 M1 e1 w1 r1 hz => k.nx _ _ H1 M1 e1 w1 ((en.mono e1).set r1 i) hz)
/-- a, b = x, y -/
theorem ws_par (i j : Nat) {x y : Str} {px py pt : Pos} {kt k2 : Nat} {pt2 : Pos} (hN : X.N.Nodup) (h : WA X ρ M [a, b] fun ds M1 => ∃ c d, ds = [c, d] ∧ Ψ.nx ((ρ.set i (some c)).set j (some d)) M1) (hi : X.N[i]? = some x := by rfl) (hj : X.N[j]? = some y := by rfl) (hij : i ≠ j := by decide)
    (hx : X.env.scope.names.lookup x = some .local := by rfl) (hy : X.env.scope.names.lookup y = some .local := by rfl) (hw : swappedStores [.Tuple [.Name x px, .Name y py] kt pt] (.Tuple [a, b] k2 pt2) X.env = pure (some [x, y]) := by rfl)
    (hc : X.calm = true := by rfl) (hs : swapsWithSole [.Tuple [.Name x px, .Name y py] kt pt] (.Tuple [a, b] k2 pt2) pos.line X.env = pure false := by rfl) : WS X ρ M (.Assign [.Tuple [.Name x px, .Name y py] kt pt] (.Tuple [a, b] k2 pt2) pos) Ψ := .mk fun σ H E en w k =>
  sOf (ps_par hc hN hi hj hij hx hy pa_sem hw hs) (h.run σ H _ en w fun vs ds H1 M1 e1 w1 r1 hz => by
    obtain ⟨c, d, rfl, hz⟩ := hz
    cases r1 with
    | cons r1 r2 =>
      cases r2 with
      | cons r2 r3 =>
        cases r3
        exact ⟨_, _, rfl, k.nx _ _ H1 M1 e1 w1 (((en.mono e1).set r1 i).set r2 j) hz⟩)
theorem ite_dec {p A B : Prop} [Decidable p] (h1 : p → A) (h2 : ¬ p → B) : if (decide p) = true then A else B := by
  by_cases h : p
  · rw [decide_eq_true h]; exact h1 h
  · rw [decide_eq_false h]; exact h2 h
/-- the walk J yields these data, whatever comes besides -/
def Sq (K : PySem.W.Frag) (M1 : Mp) (Z1 : Zn) (H1 : Hp) (J : It) (items : List D) : Prop := ∀ i M Z H, ExI M1 Z1 H1 M Z H → Wd K M Z H →
  (i = items.length → J.stop i H) ∧ ∀ d, items[i]? = some d → J.go i H ∧ ∀ x H', J.yld i H x H' → Ext M Z H M H' ∧ Wd K M Z H' ∧ Rep K M Z H' x d
structure WI (X : Cx) (ρ : Rho) (M : Mp) (tg iter : Expr) (Φ : List D → Mp → Prop) : Prop where
  run : ∀ {Z : Zn} σ H (R : It → Hp → Prop), EnvR X.K M Z H σ ρ → Wd X.K M Z H →
  (∀ J items H1 M1, Ext M Z H M1 H1 → Wd X.K M1 Z H1 → Sq X.K M1 Z H1 J items → Φ items M1 → R J H1) → iSem X tg iter σ H R
theorem iOf {iter : Expr} {wi : TI} {σ : L2.St} {H : Hp} {R : It → Hp → Prop} (h : PI X tg iter wi) (q : wi σ H R) : iSem X tg iter σ H R := fun pins s I => h.run pins s σ H R I q
theorem sq_tup {K : PySem.W.Frag} {M1 : Mp} {Z1 : Zn} {H1 : Hp} {a : Addr} {vs : List V} {ds : List D} (hq : ∀ M Z H, ExI M1 Z1 H1 M Z H → SqT K H a vs) (rs : Reps K M1 Z1 H1 vs ds) : Sq K M1 Z1 H1 (Itt K a) ds := fun i M Z H e w => by
  refine ⟨fun hi => ⟨vs, hq M Z H e, by rw [rs.length, hi]; exact Nat.le_refl _⟩, fun d hd => ?_⟩
  obtain ⟨v, hv, r⟩ := rs.get hd
  refine ⟨⟨vs, v, hq M Z H e, hv⟩, fun x H' y => ?_⟩
  obtain ⟨rfl, y⟩ := y
  have := y vs (hq M Z _ e)
  rw [hv] at this
  cases this
  exact ⟨Ext.refl, w, r.monoI e⟩
/-- a list, a tuple that stays -/
theorem Rep.tupKeep {K : PySem.W.Frag} {M : Mp} {Z : Zn} {H : Hp} {v : V} {ds : List D} (r : Rep K M Z H v (.tup ds)) : ∃ a vs, v = .ref a ∧ (∀ M' Z' H', ExI M Z H M' Z' H' → SqT K H' a vs) ∧ Reps K M Z H vs ds := by
  cases r with
  | tup h m r => exact ⟨_, _, rfl, fun M' Z' H' e => .inl (e.rd h m), r⟩
  | tupK h r => exact ⟨_, _, rfl, fun _ _ _ _ => .inr h, r⟩
theorem Rep.lstKeep {K : PySem.W.Frag} {M : Mp} {Z : Zn} {H : Hp} {v : V} {d : D} {ds : List D} (r : Rep K M Z H v d) (hd : d = .lst ds ∨ d = .rol ds) : ∃ a vs, v = .ref a ∧ (∀ M' Z' H', ExI M Z H M' Z' H' → SqL K H' a vs) ∧ Reps K M Z H vs ds := by
  rcases hd with rfl | rfl
  · cases r with
    | lst h m r => exact ⟨_, _, rfl, fun M' Z' H' e => .inl (.inl (e _ _ h m).1), r⟩
  · cases r with
    | rol h m r => exact ⟨_, _, rfl, fun M' Z' H' e => .inl (e.rd h m), r⟩
    | rolK h r => exact ⟨_, _, rfl, fun _ _ _ _ => .inr h, r⟩
theorem wi_list {iter : Expr} {Φ : List D → Mp → Prop} (h : WE X ρ M iter fun d M1 => ∃ ds, (d = .lst ds ∨ d = .rol ds) ∧ Φ ds M1) : WI X ρ M tg iter Φ := .mk fun σ H R en w k =>
  iOf (pi_list pe_sem) (h.run σ H _ en w fun v d H1 M1 e1 w1 r1 hz => by
    obtain ⟨ds, hd, hz⟩ := hz
    obtain ⟨a, vs, rfl, hq, rs⟩ := r1.lstKeep hd
    refine ⟨a, rfl, ⟨vs, hq _ _ _ ExI.refl⟩, k _ ds H1 M1 e1 w1 ?_ hz⟩
    intro i M Z H e w
    refine ⟨fun hi => ⟨vs, hq M Z H e, by rw [rs.length, hi]; exact Nat.le_refl _⟩, fun d hd => ?_⟩
    obtain ⟨v, hv, r⟩ := rs.get hd
    refine ⟨⟨vs, v, hq M Z H e, hv⟩, fun x H' y => ?_⟩
    obtain ⟨rfl, y⟩ := y
    have := y vs (hq M Z _ e)
    rw [hv] at this
    cases this
    exact ⟨Ext.refl, w, r.monoI e⟩)
theorem wi_tup {iter : Expr} {Φ : List D → Mp → Prop} (h : WE X ρ M iter fun d M1 => ∃ ds, d = .tup ds ∧ Φ ds M1) : WI X ρ M tg iter Φ := .mk fun σ H R en w k =>
  iOf (pi_tup pe_sem) (h.run σ H _ en w fun v d H1 M1 e1 w1 r1 hz => by
    obtain ⟨ds, rfl, hz⟩ := hz
    obtain ⟨a, vs, rfl, hq, rs⟩ := r1.tupKeep
    exact ⟨a, rfl, ⟨vs, hq _ _ _ ExI.refl⟩, k _ ds H1 M1 e1 w1 (sq_tup hq rs) hz⟩)
/-- lo, lo + 1, .. -/
def rngD (lo : Int) (n : Nat) : List D := (List.range n).map fun (i : Nat) => D.int (lo + (i : Int))
theorem rngD_len (lo : Int) (n : Nat) : (rngD lo n).length = n := by simp [rngD]
theorem rngD_get {lo : Int} {n i : Nat} {d : D} (h : (rngD lo n)[i]? = some d) : i < n ∧ d = .int (lo + (i : Int)) := by
  have hi : i < (rngD lo n).length := (List.getElem?_eq_some_iff.mp h).1
  rw [rngD_len] at hi
  refine ⟨hi, ?_⟩
  unfold rngD at h
  rw [List.getElem?_map, List.getElem?_range hi] at h
  exact (Option.some.inj h).symm
theorem sq_range {K : PySem.W.Frag} {M1 : Mp} {Z1 : Zn} {H1 : Hp} (lo : Int) (n : Nat) : Sq K M1 Z1 H1 (Itr lo n) (rngD lo n) := fun i M Z H e w => by
  refine ⟨fun hi => by rw [hi, rngD_len]; exact Nat.le_refl _, fun d hd => ?_⟩
  obtain ⟨h1, rfl⟩ := rngD_get hd
  refine ⟨h1, fun x H' y => ?_⟩
  obtain ⟨rfl, rfl⟩ := y
  exact ⟨Ext.refl, w, .int _⟩
theorem wi_range1 {p : Pos} {Φ : List D → Mp → Prop} (hm : X.mg "range" = none) (h : WA X ρ M [a] fun ds M1 => ∃ j : Int, ds = [.int j] ∧ -(2 ^ 62) ≤ j ∧ j < 2 ^ 62 ∧ Φ (rngD 0 j.toNat) M1) (hg : Gl X "range" := by rfl) (hs : starEach [a] X.env = [(false, eval a X.env)] := by rfl) : WI X ρ M tg (.Call (.Name "range" p) [a] [] pos) Φ := .mk fun σ H R en w k =>
  iOf (pi_range1 hg hm pa_sem hs) (h.run σ H _ en w fun vs ds H1 M1 e1 w1 r1 hz => by
    obtain ⟨j, rfl, h1, h2, hz⟩ := hz
    cases r1 with
    | cons r1 r2 =>
      cases r1
      cases r2
      exact ⟨j, rfl, h1, h2, k _ _ H1 M1 e1 w1 (sq_range 0 _) hz⟩)
theorem ws_for {body : List Stmt} {iter : Expr} (hp : PassesOwn (model X.prog X.w) X.A X.env X.xe)
    (h : WI X ρ M tg iter fun ds M1 => ∃ I : Nat → Rho → Mp → Prop, I 0 ρ M1 ∧
      (∀ i x ρ' M', ds[i]? = some x → I i ρ' M' → WG X tg x ρ' M' fun ρ2 M2 => WSs X ρ2 M2 body { nx := I (i + 1), ct := I (i + 1), bk := Ψ.nx, rt := Ψ.rt }) ∧ ∀ ρ' M', I ds.length ρ' M' → Ψ.nx ρ' M')
    (hc : X.calm = true := by rfl) (hs : ∀ x, foldedSetIterable iter X.env x = pure x := by intro _; rfl) : WS X ρ M (.For tg iter body [] pos) Ψ := .mk fun {Z} σ H E en w k =>
  sOf (ps_for hp hc pi_sem pg_sem pss_sem hs) (h.run σ H _ en w fun J ds H1 M1 e1 w1 sq hz => by
    obtain ⟨I, h0, turn, done⟩ := hz
    refine ⟨fun i m σ' H' => m = ds.length - i ∧ i ≤ ds.length ∧ ∃ ρ' M', Ext M1 Z H1 M' H' ∧ Wd X.K M' Z H' ∧ EnvR X.K M' Z H' σ' ρ' ∧ I i ρ' M', ⟨ds.length, by simp, Nat.zero_le _, ρ, M1, Ext.refl, w1, en.mono e1, h0⟩, ?_⟩
    rintro i m σ' H' ⟨rfl, hi, ρ', M', x', w', en', inv⟩
    obtain ⟨s1, s2⟩ := sq i M' Z H' x'.i w'
    by_cases hlt : i < ds.length
    · have hd : ds[i]? = some ds[i] := List.getElem?_eq_getElem hlt
      obtain ⟨go, yl⟩ := s2 _ hd
      refine .inr ⟨go, fun σ2 H2 => ∃ ρ2 M2, Ext M1 Z H1 M2 H2 ∧ Wd X.K M2 Z H2 ∧ EnvR X.K M2 Z H2 σ2 ρ2 ∧ I (i + 1) ρ2 M2, fun σ2 H2 ⟨ρ2, M2, x2, w2, en2, i2⟩ => ⟨ds.length - (i + 1), by omega, rfl, hlt, ρ2, M2, x2, w2, en2, i2⟩, fun v H2 y => ?_⟩
      obtain ⟨x2, w2, r2⟩ := yl v H2 y
      have x12 := x'.trans x2
      refine (turn i _ ρ' M' hd inv).run σ' H2 v _ (en'.mono x2) w2 r2 fun σ3 ρ3 H3 M3 x3 w3 en3 hb => ?_
      have x13 := x12.trans x3
      have ks := (k.step e1).step x13
      exact hb.run σ3 H3 _ en3 w3 ⟨fun σ4 ρ4 H4 M4 x4 w4 en4 z => ⟨ρ4, M4, x13.trans x4, w4, en4, z⟩, ks.rt, ks.nx, fun σ4 ρ4 H4 M4 x4 w4 en4 z => ⟨ρ4, M4, x13.trans x4, w4, en4, z⟩⟩
    · have e : i = ds.length := by omega
      exact .inl ⟨s1 e, (k.step e1).nx σ' ρ' H' M' x' w' en' (done _ _ (e ▸ inv))⟩)
end
end DL
namespace DL
open PySem L2
def hid (Z : Zn) (p : Addr) : Zn := fun b => Z b ∨ b = p
section
variable {K : PySem.W.Frag} {M M' : Mp} {Z : Zn} {H H' : Hp} {p : Addr} {o : HO}
theorem hide_x (h : H p = none) : ExI M Z H M (hid Z p) (upd H p o) := fun b u q m => by
  have n : b ≠ p := ne_of_none q h
  exact ⟨by rw [upd_ne n]; exact q, m.1, fun z => z.elim m.2 n⟩
theorem hide_w (w : Wd K M Z H) (h : H p = none) : Wd K M (hid Z p) (upd H p o) := ⟨fun a u e => by
  obtain ⟨z, q⟩ := (w.1 a u e).there
  exact (w.1 a u e).stepI (hide_x h) (upd_ne (ne_of_none q h)), fun b z => by
  rcases z with z | rfl
  · obtain ⟨m, u, q⟩ := w.2 b z
    exact ⟨m, u, by rw [upd_ne (ne_of_none q h)]; exact q⟩
  · exact ⟨(w.fresh h).1, o, upd_same⟩⟩
/-- the hidden object changed -/
theorem hidput_x : ExI M (hid Z p) H M (hid Z p) (upd H p o) := fun b u q m => ⟨by rw [upd_ne (fun e => m.2 (.inr e))]; exact q, m⟩
theorem hidput_w (w : Wd K M (hid Z p) H) : Wd K M (hid Z p) (upd H p o) := ⟨fun a u e => by
  have n : a ≠ p := fun z => by have := (w.2 p (.inr rfl)).1; rw [z, this] at e; cases e
  exact (w.1 a u e).stepI hidput_x (upd_ne n), fun b z => by
  obtain ⟨m, u, q⟩ := w.2 b z
  by_cases hb : b = p
  · exact ⟨m, o, by rw [hb]; exact upd_same⟩
  · exact ⟨m, u, by rw [upd_ne hb]; exact q⟩⟩
/-- .. shown -/
theorem show_x : ExI M (hid Z p) H M Z H := fun b u q m => ⟨q, m.1, fun z => m.2 (.inl z)⟩
theorem show_w (w : Wd K M (hid Z p) H) : Wd K M Z H := ⟨fun a u e => (w.1 a u e).stepI show_x rfl, fun b z => w.2 b (.inl z)⟩
end
def wipeR (ρ : Rho) : List Nat → Rho
  | [] => ρ
  | v :: vs => (wipeR ρ vs).set v none
theorem env_wipe {K : PySem.W.Frag} {M : Mp} {Z : Zn} {H : Hp} {σ : L2.St} {ρ : Rho} (en : EnvR K M Z H σ ρ) : ∀ vs : List Nat, EnvR K M Z H (wipe σ vs) (wipeR ρ vs)
  | [] => en
  | v :: vs => EnvR.unset v (env_wipe en vs)
theorem wipe_get (σ : L2.St) (j : Nat) : ∀ vs : List Nat, (wipe σ vs)[j]? = if j ∈ vs then (σ[j]?).map (fun _ => none) else σ[j]?
  | [] => by simp [wipe]
  | v :: vs => by
    unfold wipe
    have ih := wipe_get σ j vs
    by_cases hj : v = j
    · subst hj
      rw [if_pos List.mem_cons_self]
      by_cases hl : v < (wipe σ vs).length
      · rw [List.getElem?_set_self hl]
        rw [wipe_length] at hl
        rw [List.getElem?_eq_getElem hl]; rfl
      · rw [List.getElem?_eq_none (by simpa using hl)]
        rw [wipe_length] at hl
        rw [List.getElem?_eq_none (by omega)]; rfl
    · rw [List.getElem?_set_ne hj, ih]
      by_cases hm : j ∈ vs
      · rw [if_pos hm, if_pos (List.mem_cons_of_mem _ hm)]
      · rw [if_neg hm, if_neg (by simp only [List.mem_cons, not_or]; exact ⟨fun e => hj e.symm, hm⟩)]
theorem wipe_ext {σ τ : L2.St} {vs : List Nat} (h : ∀ j, j ∉ vs → σ[j]? = τ[j]?) (hl : σ.length = τ.length) : wipe σ vs = wipe τ vs := by
  apply List.ext_getElem?
  intro j
  rw [wipe_get, wipe_get]
  by_cases hj : j ∈ vs
  · rw [if_pos hj, if_pos hj]
    by_cases hs : j < σ.length
    · rw [List.getElem?_eq_getElem hs, List.getElem?_eq_getElem (by omega)]; rfl
    · rw [List.getElem?_eq_none (by omega), List.getElem?_eq_none (by omega)]
  · rw [if_neg hj, if_neg hj]; exact h j hj
theorem wipe_twice (σ : L2.St) (vs : List Nat) : wipe (wipe σ vs) vs = wipe σ vs := wipe_ext (fun j hj => by rw [wipe_get, if_neg hj]) (wipe_length _ _)
theorem wipe_set {σ : L2.St} {vs : List Nat} {i : Nat} {o : Option V} (hi : i ∈ vs) : wipe (σ.set i o) vs = wipe σ vs := wipe_ext (fun j hj => List.getElem?_set_ne (fun (e : i = j) => hj (e ▸ hi))) (List.length_set ..)
def GT (K : PySem.W.Frag) (g : TG) (vs : List Nat) (G : D → Rho → (Rho → Prop) → Prop) : Prop := ∀ M Z H v d σ ρ (R : Rho → Prop) (Q : L2.St → Hp → Prop), EnvR K M Z H (wipe σ vs) ρ → Rep K M Z H v d → G d ρ R →
  (∀ σ2 ρ2, EnvR K M Z H σ2 ρ2 → wipe σ2 vs = wipe σ vs → R ρ2 → Q σ2 H) → g v (wipe σ vs) H Q
theorem gt_name {K : PySem.W.Frag} {vs : List Nat} {i : Nat} (hi : i ∈ vs) : GT K (gName i) vs (fun d ρ R => R (ρ.set i (some d))) := fun M Z H v d σ ρ R Q en r g k =>
  k _ _ (en.set r i) (by rw [wipe_set hi, wipe_twice]) g
theorem gt_two {K : PySem.W.Frag} {vs : List Nat} {i j : Nat} (hi : i ∈ vs) (hj : j ∈ vs) : GT K (gTup K 2 (gCons (gName i) (gCons (gName j) gNil))) vs (fun d ρ R => ∃ a b, d = .tup [a, b] ∧ R ((ρ.set i (some a)).set j (some b))) := fun M Z H v d σ ρ R Q en r g k => by
  obtain ⟨a, b, rfl, g⟩ := g
  obtain ⟨p, vs, rfl, hq, rs⟩ := r.asTup
  cases rs with
  | cons r1 r2 =>
    cases r2 with
    | cons r2 r3 =>
      cases r3
      exact ⟨p, _, rfl, hq, rfl, _, _, rfl, _, _, rfl, rfl, k _ _ ((en.set r1 i).set r2 j) (by rw [wipe_set hj, wipe_set hi, wipe_twice]) g⟩
section
variable {X : Cx} {ρ : Rho} {M : Mp} {elt tg iter : Expr} {pos : Pos} {scope : Scope}
/-- within the block -/
def eBlk (X : Cx) (scope : Scope) (e : Expr) : TE := fun σ H Q => ∀ s H0 C cl fp, eSem (X.blk s H0 scope (compEnvC scope cl C X.env) fp) e σ H Q
def tBlk (X : Cx) (scope : Scope) (e : Expr) : TT := fun σ H Q => ∀ s H0 C cl fp, tSem (X.blk s H0 scope (compEnvC scope cl C X.env) fp) e σ H Q
def WEb (X : Cx) (scope : Scope) (ρ : Rho) (M : Mp) (e : Expr) (Φ : D → Mp → Prop) : Prop := ∀ s H0 C cl fp, WE (X.blk s H0 scope (compEnvC scope cl C X.env) fp) ρ M e Φ
def WTb (X : Cx) (scope : Scope) (ρ : Rho) (M : Mp) (e : Expr) (Φ : Bool → Mp → Prop) : Prop := ∀ s H0 C cl fp, WT (X.blk s H0 scope (compEnvC scope cl C X.env) fp) ρ M e Φ
/-- the tests -/
def TK (X : Cx) (tt : TT) (T : Rho → Mp → (Bool → Mp → Prop) → Prop) : Prop := ∀ {Z : Zn} M H σ ρ (Θ : Bool → Mp → Prop) (Q : Bool → Hp → Prop), EnvR X.K M Z H σ ρ → Wd X.K M Z H → T ρ M Θ → KT X.K M Z H Θ Q → tt σ H Q
theorem tk_nil : TK X tYes (fun _ M Θ => Θ true M) := fun M H σ ρ Θ Q en w h k => k.now w h
theorem tk_one {c : Expr} : TK X (tBlk X scope c) (fun ρ M Θ => WTb X scope ρ M c Θ) := fun M H σ ρ Θ Q en w h k s H0 C cl fp => (h s H0 C cl fp).run σ H Q en w k
/-- what a comprehension asks: I by the turn, what is gathered, the mutable objects -/
def LcI (X : Cx) (scope : Scope) (ρ : Rho) (vs : List Nat) (G : D → Rho → (Rho → Prop) → Prop) (T : Rho → Mp → (Bool → Mp → Prop) → Prop) (elt : Expr) (Φ : D → Mp → Prop) (ds : List D) (M1 : Mp) : Prop :=
  ds.length ≤ sizeLine ∧ ∃ I : Nat → List D → Mp → Prop, I 0 [] M1 ∧
    (∀ i x acc M', ds[i]? = some x → I i acc M' → G x (wipeR ρ vs) fun ρ2 => T ρ2 M' fun b M2 => if b = true then WEb X scope ρ2 M2 elt fun y M3 => I (i + 1) (acc ++ [y]) M3 else I (i + 1) acc M2) ∧
    ∀ acc M', I ds.length acc M' → Φ (.lst acc) M'
theorem lc_run {g : TG} {tt : TT} {vs : List Nat} {G : D → Rho → (Rho → Prop) → Prop} {T : Rho → Mp → (Bool → Mp → Prop) → Prop} {Φ : D → Mp → Prop} (hg : GT X.K g vs G) (ht : TK X tt T)
    (h : WI X ρ M tg iter (LcI X scope ρ vs G T elt Φ)) {Z : Zn} {σ : L2.St} {H : Hp} {Q : VK} (en : EnvR X.K M Z H σ ρ) (w : Wd X.K M Z H) (k : KE X.K M Z H Φ Q) : tLc (iSem X tg iter) g tt (eBlk X scope elt) vs σ H Q :=
  h.run σ H _ en w fun J ds H1 M1 e1 w1 sq hz => by
    obtain ⟨hn, I, h0, turn, done⟩ := hz
    intro Dd hD
    have zne : ∀ b, Z b → b ≠ Dd := w1.zne hD
    refine ⟨fun i m H' => m = ds.length - i ∧ i ≤ ds.length ∧ ∃ accV acc M', ExI M1 Z H1 M' (hid Z Dd) H' ∧ (∀ b, Z b → H' b = H1 b ∧ M' b = M1 b) ∧ Wd X.K M' (hid Z Dd) H' ∧ H' Dd = some (.lst accV) ∧ Reps X.K M' (hid Z Dd) H' accV acc ∧ acc.length ≤ i ∧ I i acc M',
      ⟨ds.length, by simp, Nat.zero_le _, [], [], M1, hide_x hD, fun b z => ⟨upd_ne (zne b z), rfl⟩, hide_w w1 hD, upd_same, .nil, Nat.zero_le _, h0⟩, ?_⟩
    rintro i m H' ⟨rfl, hi, accV, acc, M', x', zk, w', hA, rA, la, inv⟩
    obtain ⟨s1, s2⟩ := sq i M' (hid Z Dd) H' x' w'
    by_cases hlt : i < ds.length
    · have hd : ds[i]? = some ds[i] := List.getElem?_eq_getElem hlt
      obtain ⟨go, yl⟩ := s2 _ hd
      refine .inr ⟨go, fun H2 => ∃ accV acc M2, ExI M1 Z H1 M2 (hid Z Dd) H2 ∧ (∀ b, Z b → H2 b = H1 b ∧ M2 b = M1 b) ∧ Wd X.K M2 (hid Z Dd) H2 ∧ H2 Dd = some (.lst accV) ∧ Reps X.K M2 (hid Z Dd) H2 accV acc ∧ acc.length ≤ i + 1 ∧ I (i + 1) acc M2,
        fun H2 ⟨aV, a, M2, x2, z2, w2, hA2, rA2, l2, i2⟩ => ⟨ds.length - (i + 1), by omega, rfl, hlt, aV, a, M2, x2, z2, w2, hA2, rA2, l2, i2⟩, fun v H2 y => ?_⟩
      obtain ⟨x2, w2, r2⟩ := yl v H2 y
      have en2 : EnvR X.K M' (hid Z Dd) H2 (wipe σ vs) (wipeR ρ vs) := env_wipe ((en.mono e1).monoI (x'.trans x2.i)) vs
      refine hg M' (hid Z Dd) H2 v _ σ _ _ _ en2 r2 (turn i _ acc M' hd inv) fun σ3 ρ3 en3 wp3 hT => ⟨wp3, ?_⟩
      refine ht M' H2 σ3 ρ3 _ _ en3 w2 hT fun b H3 M3 x3 w3 hb => ?_
      have x23 : Ext M' (hid Z Dd) H' M3 H3 := x2.trans x3
      have zk3 : ∀ b, Z b → H3 b = H1 b ∧ M3 b = M1 b := fun b z => ⟨(x23.2 b (.inl z)).1.trans (zk b z).1, (x23.2 b (.inl z)).2.trans (zk b z).2⟩
      cases b with
      | false => exact ⟨accV, acc, M3, x'.trans x23.i, zk3, w3, (x23.2 Dd (.inr rfl)).1.trans hA, rA.mono x23, Nat.le_succ_of_le la, hb⟩
      | true =>
        intro s H0 C cl fp
        refine (hb s H0 C cl fp).run σ3 H3 _ (en3.mono x3) w3 fun yv yd H4 M4 x4 w4 r4 hI => ?_
        have x24 := x23.trans x4
        have hA4 : H4 Dd = some (.lst accV) := (x24.2 Dd (.inr rfl)).1.trans hA
        refine ⟨accV, hA4, by rw [rA.length]; omega, accV ++ [yv], acc ++ [yd], M4, (x'.trans x24.i).trans hidput_x, fun b z => ⟨(upd_ne (zne b z)).trans ((x4.2 b (.inl z)).1.trans (zk3 b z).1), (x4.2 b (.inl z)).2.trans (zk3 b z).2⟩, hidput_w w4, upd_same, ?_, by rw [List.length_append, List.length_singleton]; omega, hI⟩
        exact (((rA.mono x24).append (.cons r4 .nil))).monoI hidput_x
    · have e : i = ds.length := by omega
      refine .inl ⟨s1 e, ?_⟩
      refine k _ (.lst acc) H' M' (e1.trans ⟨x'.trans show_x, zk⟩) (show_w w') (.lst hA ⟨(w'.2 Dd (.inr rfl)).1, fun z => zne Dd z rfl⟩ (rA.monoI show_x)) (done _ _ (e ▸ inv))
/-- [elt for x in iter] -/
theorem we_lc {own : List (Str × Nat)} {g : TG} {tt : TT} {ifs : List Expr} {G : D → Rho → (Rho → Prop) → Prop} {T : Rho → Mp → (Bool → Mp → Prop) → Prop} {Φ : D → Mp → Prop} (hN : X.N.Nodup) (ok : BlkOk X.N X.env.scope scope own)
    (pg : ∀ (s : Shared) (H : Hp) (C : Addr) (cl : List (Str × Addr)) (fp : List Addr), PG (X.blk s H scope (compEnvC scope cl C X.env) fp) tg g) (hg : GT X.K g (own.map (·.2)) G)
    (pt : ∀ (s : Shared) (H : Hp) (C : Addr) (cl : List (Str × Addr)) (fp : List Addr), PTs (X.blk s H scope (compEnvC scope cl C X.env) fp) ifs tt) (ht : TK X tt T)
    (h : WI X ρ M tg iter (LcI X scope ρ (own.map (·.2)) G T elt Φ)) (hc : X.calm = true := by rfl) (hs : ∀ x, foldedSetIterable iter X.env x = pure x := by intro _; rfl) : WE X ρ M (.ListComp elt [⟨tg, iter, ifs, 0⟩] scope pos) Φ := .mk fun σ H Q en w k =>
  eOf (pe_lc hc hN pi_sem ok pg pt (fun s H0 C cl fp => ⟨fun pins s' σ' H' Q' I q => q s H0 C cl fp pins s' I⟩) hs) (lc_run hg ht h en w k)
/-- y = [elt for x in iter] -/
theorem ws_setLc (i : Nat) {y : Str} {py spos : Pos} {own : List (Str × Nat)} {g : TG} {tt : TT} {ifs : List Expr} {G : D → Rho → (Rho → Prop) → Prop} {T : Rho → Mp → (Bool → Mp → Prop) → Prop} {Ψ : DE} (hN : X.N.Nodup) (ok : BlkOk X.N X.env.scope scope own)
    (pg : ∀ (s : Shared) (H : Hp) (C : Addr) (cl : List (Str × Addr)) (fp : List Addr), PG (X.blk s H scope (compEnvC scope cl C X.env) fp) tg g) (hg : GT X.K g (own.map (·.2)) G)
    (pt : ∀ (s : Shared) (H : Hp) (C : Addr) (cl : List (Str × Addr)) (fp : List Addr), PTs (X.blk s H scope (compEnvC scope cl C X.env) fp) ifs tt) (ht : TK X tt T)
    (h : WI X ρ M tg iter (LcI X scope ρ (own.map (·.2)) G T elt fun d M1 => Ψ.nx (ρ.set i (some d)) M1))
    (hsw : swapsWith (.ListComp elt [⟨tg, iter, ifs, 0⟩] scope pos) (some (.Name y py)) spos.line X.env = pure true) (hy : X.N[i]? = some y := by rfl) (hyl : X.env.scope.names.lookup y = some .local := by rfl)
    (hc : X.calm = true := by rfl) (hs : ∀ x, foldedSetIterable iter X.env x = pure x := by intro _; rfl) : WS X ρ M (.Assign [.Name y py] (.ListComp elt [⟨tg, iter, ifs, 0⟩] scope pos) spos) Ψ := .mk fun σ H E en w k =>
  sOf (ps_setLc hc hN hy hyl hsw pi_sem ok pg pt (fun s H0 C cl fp => ⟨fun pins s' σ' H' Q' I q => q s H0 C cl fp pins s' I⟩) hs) (lc_run hg ht h en w fun v d H' M' x w' r z => k.nx _ _ H' M' x w' ((en.mono x).set r i) z)
end
end DL
namespace DL
open PySem PySem.Spec PyProof.Rows L2
theorem les_del {M : Mp} {a : Addr} : Les (mdel M a) M := fun b => by
  by_cases h : b = a
  · rw [h]; exact .inr mdel_same
  · exact .inl (mdel_ne h)
/-- go on with less -/
theorem wss_let {X : Cx} {ρ ρ' : Rho} {M M' : Mp} {sts : List Stmt} {Ψ : DE} (l : Les M' M) (f : FzE M M' ρ ρ') (h : WSs X ρ' M' sts Ψ) : WSs X ρ M sts Ψ := .mk fun σ H E en w k =>
  h.run σ H E (f.env l w en) (l.w w) (k.step (l.ext w))
/-- the global x is a def with this contract; dd the data of the defaults that fill up -/
structure Fc (P : Program) (w : World) (K : PySem.W.Frag) (mg : Str → Option Value) (base : Heap) (x : Str) (dd : List D) (k n : Nat) (c : Con) : Prop where
  ex : ∃ (f : Addr) (fd : FuncData) (ps : List Str) (dvs : List V) (ds : List Value), FnOk P w K mg base CX0 k f fd ps (spD K n c) ∧ mg x = some (.ref f) ∧ PySem.W.keepIn K (.ref f) = true ∧ Binds K fd ps ds ∧ Vals dvs ds ∧ ∀ M Z H, Reps K M Z H dvs dd
section
variable {X : Cx} {ρ : Rho} {M : Mp} {Φ : D → Mp → Prop} {e o : Expr} {es : List Expr} {pos p apos : Pos} {x m : Str} {dd : List D} {k n : Nat} {c : Con}
theorem sp_run {n : Nat} {vs dvs : List V} {ds : List D} {M1 : Mp} {Z : Zn} {H1 : Hp} {Q : VK} {E : XK} (r : Reps X.K M1 Z H1 vs ds) (rd : Reps X.K M1 Z H1 dvs dd) (w1 : Wd X.K M1 Z H1) (hz : (ds ++ dd).length = n ∧ c (ds ++ dd) M1 Φ) (k : KE X.K M1 Z H1 Φ Q) : spD X.K n c (vs ++ dvs) H1 Q E :=
  ⟨ds ++ dd, M1, Z, Φ, hz.1, r.append rd, w1, hz.2, k⟩
theorem we_call (F : Fc X.prog X.w X.K X.mg X.base x dd k n c) (hr : Room k X.A) (h : WA X ρ M (e :: es) fun ds M1 => (ds ++ dd).length = n ∧ c (ds ++ dd) M1 Φ) (hg : Gl X x := by rfl)
    (hdb : (x == ("__debug__" : Str)) = false := by decide) (he : starEach (e :: es) X.env = (false, eval e X.env) :: starEach es X.env := by rfl) (hpl : (backTo pos (starEach es X.env)).any (·.1) = false := by rfl) : WE X ρ M (.Call (.Name x p) (e :: es) [] pos) Φ := .mk fun σ H Q en w k => by
  obtain ⟨f, fd, ps, dvs, ds, F, hm, hk, hb, hd, hdd⟩ := F.ex
  exact eOf (pe_call (E := E0) F hr hg hm hk hb hd pass0 pa_sem hdb he hpl) (h.run σ H _ en w fun vs as H1 M1 e1 w1 r1 hz => sp_run r1 (hdd _ _ _) w1 hz (k.step e1))
/-- d is an instance of the class at C with these fields -/
def InsOf (M : Mp) (C : Addr) : D → List (Str × D) → Prop
  | .ins C' fs, gs => C' = C ∧ gs = fs
  | .ob a, gs => M a = some (.ins C gs)
  | _, _ => False
theorem Rep.asIns {K : PySem.W.Frag} {M : Mp} {Z : Zn} {H : Hp} {C : Addr} {v : V} {d : D} {fs : List (Str × D)} (w : Wd K M Z H) (r : Rep K M Z H v d) (i : InsOf M C d fs) : ∃ a dx vs, v = .ref a ∧ H a = some (.ins C dx vs) ∧ RepF K M Z H vs fs := by
  cases r with
  | ins h m r =>
    obtain ⟨rfl, rfl⟩ := i
    exact ⟨_, _, _, rfl, h, r⟩
  | ob a =>
    obtain ⟨dx, vs, h, r⟩ := w.1 a _ i
    exact ⟨_, _, _, rfl, h, r⟩
  | _ => cases i
theorem InsOf.mono {K : PySem.W.Frag} {C : Addr} {d : D} {fs : List (Str × D)} {M : Mp} (h : InsOf M C d fs) {M' : Mp} (k : ∀ a, d = .ob a → M' a = M a) : InsOf M' C d fs := by
  cases d with
  | ins C' gs => exact h
  | ob a => exact (k a rfl).trans h
  | _ => cases h
/-- o.f, a field -/
theorem we_fld {f : Str} {C : Addr} (h : WE X ρ M o fun d M1 => ∃ fs v, InsOf M1 C d fs ∧ Cls X.K C ∧ NoAttr X.K C f ∧ fs.lookup f = some v ∧ Φ v M1) (hb : attributeBase o f X.env (eval o X.env) = eval o X.env := by rfl) : WE X ρ M (.Attribute o f pos) Φ := .mk fun σ H Q en w k =>
  eOf (pe_fld pe_sem hb) (h.run σ H _ en w fun v d H1 M1 e1 w1 r1 hz => by
    obtain ⟨fs, y, hi, cl, na, hl, hz⟩ := hz
    obtain ⟨a, dx, vs, rfl, ha, rf⟩ := r1.asIns w1 hi
    obtain ⟨u, hu, ru⟩ := (rf.lookup f).2 y hl
    exact ⟨a, C, dx, vs, u, rfl, ha, cl, na, hu, (k.step e1).now w1 ru hz⟩)
/-- the fields, one stored -/
def putD (f : Str) (d : D) : List (Str × D) → List (Str × D)
  | [] => [(f, d)]
  | (g, y) :: r => if g = f then (g, d) :: r else (g, y) :: putD f d r
theorem RepF.put {K : PySem.W.Frag} {M : Mp} {Z : Zn} {H : Hp} {f : Str} {v : V} {d : D} (r : Rep K M Z H v d) : ∀ {vs : List (Str × V)} {ds : List (Str × D)}, RepF K M Z H vs ds → RepF K M Z H (putF f v vs) (putD f d ds)
  | _, _, .nil => .cons r .nil
  | _, _, .cons (k := g) r' t => by
    unfold putF putD
    by_cases h : g = f
    · rw [if_pos h, if_pos h]; exact .cons r t
    · rw [if_neg h, if_neg h]; exact .cons r' (RepF.put r t)
/-- o.f = e, o a mutable instance -/
theorem ws_fld {f : Str} {C : Addr} {value : Expr} {pos' : Pos} {Ψ : DE} (h : WE X ρ M value fun d M1 => WE X ρ M1 o fun x M2 => ∃ a fs, x = .ob a ∧ M2 a = some (.ins C fs) ∧ Cls X.K C ∧ NoAttr X.K C f ∧ fs.length < 1000 ∧ Ψ.nx ρ (mset M2 a (.ins C (putD f d fs))))
    (hs : swapsWith value (some (.Attribute o f pos')) pos.line X.env = pure false := by rfl) : WS X ρ M (.Assign [.Attribute o f pos'] value pos) Ψ := .mk fun σ H E en w k =>
  sOf (ps_fld pe_sem pe_sem hs) (bind2 h en w fun v u d x H2 M2 e2 w2 r1 r2 hz => by
    obtain ⟨a, fs, rfl, hM, cl, na, hl, hz⟩ := hz
    cases r2
    obtain ⟨dx, vs, ha, rf⟩ := w2.1 a _ hM
    refine ⟨a, C, dx, vs, rfl, ha, cl, na, by rw [rf.length]; exact hl, ?_⟩
    have x3 : Ext M2 _ H2 (mset M2 a (.ins C (putD f d fs))) (upd H2 a (.ins C dx (putF f v vs))) := Ext.put w2 hM
    exact k.nx σ ρ _ _ (e2.trans x3) (w2.put hM ⟨dx, _, upd_same, (rf.mono x3).put (r1.mono x3)⟩) (en.mono (e2.trans x3)) hz)
/-- a property of the class at C, its getter's contract -/
structure Pc (P : Program) (w : World) (K : PySem.W.Frag) (mg : Str → Option Value) (base : Heap) (C : Addr) (m : Str) (k : Nat) (c : Con) : Prop where
  cl : Cls K C
  ex : ∃ (p g : Addr) (fd : FuncData) (ps : List Str), FnOk P w K mg base CX0 k g fd ps (spD K 1 c) ∧ PropOf K C m p g ∧ Binds K fd ps []
theorem we_prop {C : Addr} (F : Pc X.prog X.w X.K X.mg X.base C m k c) (hr : Room (k + 1) X.A) (h : WE X ρ M o fun d M1 => ∃ fs, InsOf M1 C d fs ∧ c [d] M1 Φ)
    (hab : attributeBase o m X.env (eval o X.env) = eval o X.env := by rfl) : WE X ρ M (.Attribute o m pos) Φ := .mk fun σ H Q en w k => by
  obtain ⟨p, g, fd, ps, F', hp, hb⟩ := F.ex
  refine eOf (pe_prop (E := E0) pe_sem F.cl hp F' hr hb .nil pass0 hab) (h.run σ H _ en w fun v d H1 M1 e1 w1 r1 hz => ?_)
  obtain ⟨fs, hi, hz⟩ := hz
  obtain ⟨a, dx, vs, rfl, ha, rf⟩ := r1.asIns w1 hi
  exact ⟨a, dx, vs, rfl, ha, [d], M1, _, Φ, rfl, .cons r1 .nil, w1, hz, k.step e1⟩
/-- the class of the name x, its __init__'s contract: the new instance is the first argument -/
structure Kc (P : Program) (w : World) (K : PySem.W.Frag) (mg : Str → Option Value) (base : Heap) (x : Str) (C : Addr) (dd : List D) (k n : Nat) (c : Con) : Prop where
  at_ : mg x = some (.ref C)
  ex : ∃ (f : Addr) (fd : FuncData) (ps : List Str) (dvs : List V) (ds : List Value), FnOk P w K mg base CX0 k f fd ps (spD K n c) ∧ Mk K C f ∧ Binds K fd ps ds ∧ Vals dvs ds ∧ ∀ M Z H, Reps K M Z H dvs dd
theorem we_make {C : Addr} (F : Kc X.prog X.w X.K X.mg X.base x C dd k n c) (hr : Room (k + 1) X.A)
    (h : WA X ρ M (e :: es) fun as M1 => ∀ a, M1 a = none → (.ob a :: (as ++ dd)).length = n ∧ c (.ob a :: (as ++ dd)) (mset M1 a (.ins C [])) fun d M2 => d = .non ∧ Lets Φ (.ob a) M2) (hg : Gl X x := by rfl)
    (hdb : (x == ("__debug__" : Str)) = false := by decide) (he : starEach (e :: es) X.env = (false, eval e X.env) :: starEach es X.env := by rfl) (hpl : (backTo pos (starEach es X.env)).any (·.1) = false := by rfl) : WE X ρ M (.Call (.Name x p) (e :: es) [] pos) Φ := .mk fun σ H Q en w k => by
  obtain ⟨f, fd, ps, dvs, ds, F', hm, hbd, hd, hdd⟩ := F.ex
  refine eOf (pe_make (E := E0) hm F' hr hg F.at_ hbd hd pass0 pa_sem hdb he hpl) (h.run σ H _ en w fun vs as H1 M1 e1 w1 r1 hz => ?_)
  intro a dx ha hdx ne
  obtain ⟨hl, hz⟩ := hz a (w1.fresh ha).1
  have ha1 : (upd H1 dx (.own a)) a = none := by rw [upd_ne (Ne.symm ne)]; exact ha
  have x1 : Ext M1 _ H1 M1 (upd H1 dx (.own a)) := Ext.new w1 hdx
  have wa := w1.new (o := .own a) hdx
  have x2 : Ext M1 _ (upd H1 dx (.own a)) (mset M1 a (.ins C [])) (upd (upd H1 dx (.own a)) a (.ins C dx [])) := Ext.newM wa ha1
  have x12 := x1.trans x2
  refine ⟨.ob a :: (as ++ dd), mset M1 a (.ins C []), _, _, hl, .cons (.ob a) ((r1.mono x12).append (hdd _ _ _)), wa.newM ha1 ⟨dx, [], upd_same, .nil⟩, hz, fun v d H2 M2 x3 w2 r2 hy => ?_⟩
  obtain ⟨rfl, hy⟩ := hy
  cases r2
  exact ⟨rfl, lets_k (k.step (e1.trans x12)) _ _ H2 M2 x3 w2 (.ob a) hy⟩
end
end DL
namespace DL
open PySem PySem.Spec PyProof.Rows L2
section
variable {X : Cx} {ρ : Rho} {M : Mp} {Φ : D → Mp → Prop} {Θ : Bool → Mp → Prop} {a b e : Expr} {pos : Pos} {K : PySem.W.Frag}
theorem rd_I {C : Int → Int → Prop} {g : Int → Int → Int} {x y : D} (h : ∃ i j, x = .int i ∧ y = .int j ∧ C i j ∧ Φ (.int (g i j)) M) : RD K (rI C fun i j => .int (g i j)) x y M Φ := fun Z v u H Q w r1 r2 k => by
  obtain ⟨i, j, rfl, rfl, hc, h⟩ := h
  cases r1; cases r2
  exact ⟨i, j, rfl, rfl, hc, k.now w (.int _) h⟩
theorem rd_I0 {g : Int → Int → Int} {x y : D} (h : ∃ i j, x = .int i ∧ y = .int j ∧ Φ (.int (g i j)) M) : RD K (rI0 fun i j => .int (g i j)) x y M Φ := fun Z v u H Q w r1 r2 k => by
  obtain ⟨i, j, rfl, rfl, h⟩ := h
  cases r1; cases r2
  exact ⟨i, j, rfl, rfl, k.now w (.int _) h⟩
theorem rd_B0 {g : Int → Int → Bool} {x y : D} (h : ∃ i j, x = .int i ∧ y = .int j ∧ Φ (.bl (g i j)) M) : RD K (rI0 fun i j => .bl (g i j)) x y M Φ := fun Z v u H Q w r1 r2 k => by
  obtain ⟨i, j, rfl, rfl, h⟩ := h
  cases r1; cases r2
  exact ⟨i, j, rfl, rfl, k.now w (.bl _) h⟩
theorem we_addI (h : WE X ρ M a fun x M1 => WE X ρ M1 b fun y M2 => ∃ i j, x = .int i ∧ y = .int j ∧ Φ (.int (i + j)) M2) : WE X ρ M (.BinOp a .Add b pos) Φ := we_op op_add (h.imp fun _ _ h => h.imp fun _ _ h => rd_I0 h)
theorem we_subI (h : WE X ρ M a fun x M1 => WE X ρ M1 b fun y M2 => ∃ i j, x = .int i ∧ y = .int j ∧ Φ (.int (i - j)) M2) : WE X ρ M (.BinOp a .Sub b pos) Φ := we_op op_sub (h.imp fun _ _ h => h.imp fun _ _ h => rd_I0 h)
theorem we_mulI (h : WE X ρ M a fun x M1 => WE X ρ M1 b fun y M2 => ∃ i j, x = .int i ∧ y = .int j ∧ CMulW i j ∧ Φ (.int (i * j)) M2) : WE X ρ M (.BinOp a .Mult b pos) Φ := we_op op_mulW (h.imp fun _ _ h => h.imp fun _ _ h => rd_I h)
/-- one factor small -/
theorem we_mulS (h : WE X ρ M a fun x M1 => WE X ρ M1 b fun y M2 => ∃ i j, x = .int i ∧ y = .int j ∧ CMul i j ∧ Φ (.int (i * j)) M2) : WE X ρ M (.BinOp a .Mult b pos) Φ := we_op op_mul (h.imp fun _ _ h => h.imp fun _ _ h => rd_I h)
theorem we_modI (h : WE X ρ M a fun x M1 => WE X ρ M1 b fun y M2 => ∃ i j, x = .int i ∧ y = .int j ∧ 0 < j ∧ Φ (.int (i % j)) M2) : WE X ρ M (.BinOp a .Mod b pos) Φ := we_op op_mod (h.imp fun _ _ h => h.imp fun _ _ h => rd_I (C := fun _ j => 0 < j) h)
theorem we_divI (h : WE X ρ M a fun x M1 => WE X ρ M1 b fun y M2 => ∃ i j, x = .int i ∧ y = .int j ∧ CDivW i j ∧ Φ (.int (i / j)) M2) : WE X ρ M (.BinOp a .FloorDiv b pos) Φ := we_op op_fdivW (h.imp fun _ _ h => h.imp fun _ _ h => rd_I h)
theorem we_powI (h : WE X ρ M a fun x M1 => WE X ρ M1 b fun y M2 => ∃ i j, x = .int i ∧ y = .int j ∧ CPow i j ∧ Φ (.int (i ^ j.toNat)) M2) : WE X ρ M (.BinOp a .Pow b pos) Φ := we_op op_pow (h.imp fun _ _ h => h.imp fun _ _ h => rd_I h)
theorem we_negI (h : WE X ρ M a fun x M1 => ∃ i, x = .int i ∧ Φ (.int (-i)) M1) : WE X ρ M (.UnaryOp .USub a pos) Φ := we_un un_neg (h.imp fun _ _ h Z v H Q w r k => by
  obtain ⟨i, rfl, h⟩ := h
  cases r
  exact ⟨i, rfl, k.now w (.int _) h⟩)
section
variable {op : CmpOp}
theorem we_geI (h : WE X ρ M a fun x M1 => WE X ρ M1 b fun y M2 => ∃ i j, x = .int i ∧ y = .int j ∧ Φ (.bl (decide (j ≤ i))) M2) : WE X ρ M (.Compare a [.GtE] [b] pos) Φ := we_cmp op_ge (nomark _) (h.imp fun _ _ h => h.imp fun _ _ h => rd_B0 h)
theorem wt_ltI (h : WE X ρ M a fun x M1 => WE X ρ M1 b fun y M2 => ∃ i j, x = .int i ∧ y = .int j ∧ Θ (decide (i < j)) M2) : WT X ρ M (.Compare a [.Lt] [b] pos) Θ := wt_cmp op_lt (nomark _) (h.imp fun _ _ h => h.imp fun _ _ ⟨i, j, e1, e2, h⟩ => rd_B0 ⟨i, j, e1, e2, _, rfl, h⟩)
theorem wt_leI (h : WE X ρ M a fun x M1 => WE X ρ M1 b fun y M2 => ∃ i j, x = .int i ∧ y = .int j ∧ Θ (decide (i ≤ j)) M2) : WT X ρ M (.Compare a [.LtE] [b] pos) Θ := wt_cmp op_le (nomark _) (h.imp fun _ _ h => h.imp fun _ _ ⟨i, j, e1, e2, h⟩ => rd_B0 ⟨i, j, e1, e2, _, rfl, h⟩)
theorem wt_gtI (h : WE X ρ M a fun x M1 => WE X ρ M1 b fun y M2 => ∃ i j, x = .int i ∧ y = .int j ∧ Θ (decide (j < i)) M2) : WT X ρ M (.Compare a [.Gt] [b] pos) Θ := wt_cmp op_gt (nomark _) (h.imp fun _ _ h => h.imp fun _ _ ⟨i, j, e1, e2, h⟩ => rd_B0 ⟨i, j, e1, e2, _, rfl, h⟩)
end
theorem rd_eq {x y : D} (h : ∃ c, EqS x y c ∧ Φ (.bl c) M) : RD K rEq x y M Φ := fun Z v u H Q w r1 r2 k => by
  obtain ⟨c, hc, h⟩ := h
  obtain ⟨s1, s2⟩ := hc.rep r1 r2
  exact ⟨s1, by rw [s2]; exact k.now w (.bl c) h⟩
theorem rd_ne {x y : D} (h : ∃ c, EqS x y c ∧ Φ (.bl (!c)) M) : RD K rNe x y M Φ := fun Z v u H Q w r1 r2 k => by
  obtain ⟨c, hc, h⟩ := h
  obtain ⟨s1, s2⟩ := hc.rep r1 r2
  exact ⟨s1, by rw [s2]; exact k.now w (.bl (!c)) h⟩
theorem we_eqS (h : WE X ρ M a fun x M1 => WE X ρ M1 b fun y M2 => ∃ c, EqS x y c ∧ Φ (.bl c) M2) : WE X ρ M (.Compare a [.Eq] [b] pos) Φ := we_cmp op_eq (nomark _) (h.imp fun _ _ h => h.imp fun _ _ h => rd_eq h)
theorem we_neS (h : WE X ρ M a fun x M1 => WE X ρ M1 b fun y M2 => ∃ c, EqS x y c ∧ Φ (.bl (!c)) M2) : WE X ρ M (.Compare a [.NotEq] [b] pos) Φ := we_cmp op_ne (nomark _) (h.imp fun _ _ h => h.imp fun _ _ h => rd_ne h)
theorem wt_eqS (h : WE X ρ M a fun x M1 => WE X ρ M1 b fun y M2 => ∃ c, EqS x y c ∧ Θ c M2) : WT X ρ M (.Compare a [.Eq] [b] pos) Θ := wt_cmp op_eq (nomark _) (h.imp fun _ _ h => h.imp fun _ _ ⟨c, e, h⟩ => rd_eq ⟨c, e, _, rfl, h⟩)
theorem wt_neS (h : WE X ρ M a fun x M1 => WE X ρ M1 b fun y M2 => ∃ c, EqS x y c ∧ Θ (!c) M2) : WT X ρ M (.Compare a [.NotEq] [b] pos) Θ := wt_cmp op_ne (nomark _) (h.imp fun _ _ h => h.imp fun _ _ ⟨c, e, h⟩ => rd_ne ⟨c, e, _, rfl, h⟩)
theorem rd_eqD {x y : D} (h : ∃ p q, toPy x = some p ∧ toPy y = some q ∧ SeqAt.shaped p = true ∧ SeqAt.shaped q = true ∧ Φ (.bl (PyData.eqv p q)) M) : RD K (rEqD K) x y M Φ := fun Z v u H Q w r1 r2 k => by
  obtain ⟨p, q, e1, e2, s1, s2, h⟩ := h
  exact ⟨p, q, r1.dp e1, r2.dp e2, s1, s2, k.now w (.bl _) h⟩
theorem rd_neD {x y : D} (h : ∃ p q, toPy x = some p ∧ toPy y = some q ∧ SeqAt.shaped p = true ∧ SeqAt.shaped q = true ∧ Φ (.bl (!PyData.eqv p q)) M) : RD K (rNeD K) x y M Φ := fun Z v u H Q w r1 r2 k => by
  obtain ⟨p, q, e1, e2, s1, s2, h⟩ := h
  exact ⟨p, q, r1.dp e1, r2.dp e2, s1, s2, k.now w (.bl _) h⟩
theorem we_eqD (hu : X.A.units + 64 < cLine) (h : WE X ρ M a fun x M1 => WE X ρ M1 b fun y M2 => ∃ p q, toPy x = some p ∧ toPy y = some q ∧ SeqAt.shaped p = true ∧ SeqAt.shaped q = true ∧ Φ (.bl (PyData.eqv p q)) M2) : WE X ρ M (.Compare a [.Eq] [b] pos) Φ := we_cmp (op_eqD hu) (nomark _) (h.imp fun _ _ h => h.imp fun _ _ h => rd_eqD h)
theorem wt_neD (hu : X.A.units + 64 < cLine) (h : WE X ρ M a fun x M1 => WE X ρ M1 b fun y M2 => ∃ p q, toPy x = some p ∧ toPy y = some q ∧ SeqAt.shaped p = true ∧ SeqAt.shaped q = true ∧ Θ (!PyData.eqv p q) M2) : WT X ρ M (.Compare a [.NotEq] [b] pos) Θ := wt_cmp (op_neD hu) (nomark _) (h.imp fun _ _ h => h.imp fun _ _ ⟨p, q, e1, e2, s1, s2, h⟩ => rd_neD ⟨p, q, e1, e2, s1, s2, _, rfl, h⟩)
def isNon : D → Bool
  | .non => true
  | _ => false
theorem Rep.isNon {M : Mp} {Z : Zn} {H : Hp} {v : V} {d : D} (r : Rep K M Z H v d) : decide (v = .non) = DL.isNon d := by
  cases r <;> first | rfl | simp [DL.isNon]
theorem we_isN {j : Nat} {p' : Pos} (h : WE X ρ M a fun x M1 => Φ (.bl (isNon x)) M1) : WE X ρ M (.Compare a [.Is] [.Constant .none j p'] pos) Φ := .mk fun σ H Q en w k =>
  eOf (pe_cmp (pc_isN pe_sem)) (h.run σ H _ en w fun v d H1 M1 e1 w1 r1 hz => by
    show Q (.bl (decide (v = .non))) H1
    rw [r1.isNon]
    exact (k.step e1).now w1 (.bl _) hz)
theorem we_notN {j : Nat} {p' : Pos} (h : WE X ρ M a fun x M1 => Φ (.bl (!isNon x)) M1) : WE X ρ M (.Compare a [.IsNot] [.Constant .none j p'] pos) Φ := .mk fun σ H Q en w k =>
  eOf (pe_cmp (pc_notN pe_sem)) (h.run σ H _ en w fun v d H1 M1 e1 w1 r1 hz => by
    show Q (.bl (!decide (v = .non))) H1
    rw [r1.isNon]
    exact (k.step e1).now w1 (.bl _) hz)
theorem wt_isN {j : Nat} {p' : Pos} (h : WE X ρ M a fun x M1 => Θ (isNon x) M1) : WT X ρ M (.Compare a [.Is] [.Constant .none j p'] pos) Θ := .mk fun σ H Q en w k =>
  tOf (pt_cmp (pc_isN pe_sem)) (h.run σ H _ en w fun v d H1 M1 e1 w1 r1 hz => by
    show ∃ c, V.bl (decide (v = .non)) = .bl c ∧ Q c H1
    rw [r1.isNon]
    exact ⟨_, rfl, (k.step e1).now w1 hz⟩)
theorem wt_notN {j : Nat} {p' : Pos} (h : WE X ρ M a fun x M1 => Θ (!isNon x) M1) : WT X ρ M (.Compare a [.IsNot] [.Constant .none j p'] pos) Θ := .mk fun σ H Q en w k =>
  tOf (pt_cmp (pc_notN pe_sem)) (h.run σ H _ en w fun v d H1 M1 e1 w1 r1 hz => by
    show ∃ c, V.bl (!decide (v = .non)) = .bl c ∧ Q c H1
    rw [r1.isNon]
    exact ⟨_, rfl, (k.step e1).now w1 hz⟩)
theorem wt_chainI {c : Expr} (h : WE X ρ M a fun x M1 => WE X ρ M1 b fun y M2 => ∃ i j, x = .int i ∧ y = .int j ∧ if decide (i ≤ j) = true then WE X ρ M2 c fun z M3 => ∃ l, z = .int l ∧ Θ (decide (j ≤ l)) M3 else Θ false M2) (hm : lastMarks [.LtE, .LtE] [b, c] = false := by rfl) : WT X ρ M (.Compare a [.LtE, .LtE] [b, c] pos) Θ := .mk fun σ H Q en w k =>
  tOf (pt_chain op_le op_le pe_sem pe_sem pe_sem (hm := hm)) (bind2 h en w fun v u x y H2 M2 e2 w2 r1 r2 hz => by
    obtain ⟨i, j, rfl, rfl, hz⟩ := hz
    cases r1; cases r2
    refine ⟨i, j, rfl, rfl, _, rfl, ?_⟩
    cases hd : decide (i ≤ j) with
    | false =>
      rw [hd] at hz
      exact ⟨_, rfl, (k.step e2).now w2 hz⟩
    | true =>
      rw [hd] at hz
      exact hz.run σ H2 _ (en.mono e2) w2 fun v3 z H3 M3 e3 w3 r3 hy => by
        obtain ⟨l, rfl, hy⟩ := hy
        cases r3
        exact ⟨j, l, rfl, rfl, _, rfl, (k.step (e2.trans e3)).now w3 hy⟩)
theorem we_inC (h : WE X ρ M a fun x M1 => WE X ρ M1 b fun y M2 => ∃ c z, x = .str ⟨#[c]⟩ ∧ y = .str z ∧ Φ (.bl (decide (c ∈ z.cps.toList))) M2) (hm : behindInMarks .In b = false := by rfl) : WE X ρ M (.Compare a [.In] [b] pos) Φ := we_cmp op_in_sign hm (h.imp fun _ _ h => h.imp fun _ _ h Z v u H Q w r1 r2 k => by
  obtain ⟨i, j, rfl, rfl, h⟩ := h
  cases r1; cases r2
  exact ⟨i, j, rfl, rfl, k.now w (.bl _) h⟩)
theorem we_addL (h : WE X ρ M a fun x M1 => WE X ρ M1 b fun y M2 => ∃ xs ys, x = .lst xs ∧ y = .lst ys ∧ xs.length + ys.length ≤ sizeLine ∧ Φ (.lst (xs ++ ys)) M2) : WE X ρ M (.BinOp a .Add b pos) Φ := we_op op_cat (h.imp fun _ _ h => h.imp fun _ _ h Z v u H Q w r1 r2 k => by
  obtain ⟨xs, ys, rfl, rfl, hz, h⟩ := h
  cases r1 with
  | lst h1 m1 r1 =>
    cases r2 with
    | lst h2 m2 r2 =>
      exact ⟨_, _, _, _, rfl, rfl, h1, h2, by rw [r1.length, r2.length]; exact hz, fun p hp => k.new w hp (.lst upd_same (w.fresh hp) ((r1.append r2).mono (Ext.new w hp))) h⟩)
/-- what a subscript reads -/
def IxD (M : Mp) (d : D) (i : Int) (y : D) : Prop := (∃ ds, LstOf M d ds ∧ atI ds i = some y) ∨ (∃ ds, d = .tup ds ∧ atI ds i = some y) ∨ ∃ z c, d = .str z ∧ z.length ≤ sizeLine ∧ atI z.cps.toList i = some c ∧ y = .str ⟨#[c]⟩
theorem Reps.atI {M : Mp} {Z : Zn} {H : Hp} {vs : List V} {ds : List D} {i : Int} {d : D} (r : Reps K M Z H vs ds) (h : L2.atI ds i = some d) : ∃ v, L2.atI vs i = some v ∧ Rep K M Z H v d := by
  unfold L2.atI at h ⊢
  rw [r.length]
  cases e : ixN ds.length i with
  | none => rw [e] at h; cases h
  | some j =>
    rw [e] at h
    exact r.get h
theorem we_ix (h : WE X ρ M a fun x M1 => WE X ρ M1 b fun y M2 => ∃ i d, y = .int i ∧ IxD M2 x i d ∧ Φ d M2) (hs : PlainIx b := by exact fun _ _ => rfl) : WE X ρ M (.Subscript a b pos) Φ := .mk fun σ H Q en w k =>
  eOf (pe_ix ix_seq pe_sem pe_sem hs) (bind2 h en w fun v u x y H2 M2 e2 w2 r1 r2 hz => by
    obtain ⟨i, d, rfl, hi, hz⟩ := hz
    cases r2
    rcases hi with ⟨ds, hl, ha⟩ | ⟨ds, rfl, ha⟩ | ⟨z, c, rfl, hl, ha, rfl⟩
    · obtain ⟨p, vs, rfl, hq, rs⟩ := r1.asLst w2 hl
      obtain ⟨v, hv, rv⟩ := rs.atI ha
      exact .inl ⟨p, vs, i, v, rfl, rfl, hq, hv, (k.step e2).now w2 rv hz⟩
    · obtain ⟨p, vs, rfl, hq, rs⟩ := r1.asTup
      obtain ⟨v, hv, rv⟩ := rs.atI ha
      exact .inr (.inl ⟨p, vs, i, v, rfl, rfl, hq, hv, (k.step e2).now w2 rv hz⟩)
    · cases r1
      exact .inr (.inr ⟨z, i, c, rfl, rfl, hl, ha, (k.step e2).now w2 (.str _) hz⟩))
theorem ixT {M : Mp} {ds : List D} {i : Int} {y : D} (h : atI ds i = some y) : IxD M (.tup ds) i y := .inr (.inl ⟨ds, rfl, h⟩)
theorem ixL {M : Mp} {ds : List D} {i : Int} {y : D} (h : atI ds i = some y) : IxD M (.lst ds) i y := .inl ⟨ds, rfl, h⟩
theorem ixR {M : Mp} {ds : List D} {i : Int} {y : D} (h : atI ds i = some y) : IxD M (.rol ds) i y := .inl ⟨ds, rfl, h⟩
theorem ixO {M : Mp} {p : Addr} {ds : List D} {i : Int} {y : D} (hp : M p = some (.lst ds)) (h : atI ds i = some y) : IxD M (.ob p) i y := .inl ⟨ds, hp, h⟩
def WO (X : Cx) (ρ : Rho) (M : Mp) (e : Option Expr) (Φ : Option Int → Mp → Prop) : Prop := match e with
  | none => Φ none M
  | some e => WE X ρ M e fun d M1 => ∃ i, d = .int i ∧ Φ (some i) M1
def oSem (X : Cx) : Option Expr → TO
  | none => tNoPart
  | some e => tPart (eSem X e)
theorem po_sem {o : Option Expr} : PO X o (oSem X o) := by
  cases o with
  | none => exact po_none
  | some e => exact po_some pe_sem
theorem wo_run {o : Option Expr} {ΦO : Option Int → Mp → Prop} (h : WO X ρ M o ΦO) {Z : Zn} {σ : L2.St} {H : Hp} {Q : Option Int → Hp → Prop} (en : EnvR X.K M Z H σ ρ) (w : Wd X.K M Z H) (k : ∀ i H' M', Ext M Z H M' H' → Wd X.K M' Z H' → ΦO i M' → Q i H') : oSem X o σ H Q := by
  cases o with
  | none => exact k none H M Ext.refl w h
  | some e =>
    refine (show WE X ρ M e (fun d M1 => ∃ i, d = .int i ∧ ΦO (some i) M1) from h).run σ H _ en w fun v d H1 M1 e1 w1 r1 hz => ?_
    obtain ⟨i, rfl, hz⟩ := hz
    cases r1
    exact ⟨i, rfl, k _ H1 M1 e1 w1 hz⟩
/-- what a slice is -/
def SlD (M : Mp) (d : D) (lo hi : Option Int) (y : D) : Prop := (∃ ds, LstOf M d ds ∧ y = .lst (cutD ds lo hi)) ∨ (∃ ds, d = .tup ds ∧ y = .tup (cutD ds lo hi)) ∨ ∃ z, d = .str z ∧ z.length ≤ sizeLine ∧ y = .str (cutS z lo hi)
theorem cutD_all {α : Type} {xs : List α} {lo hi : Option Int} (h : HT.sIx xs.length 0 lo = 0 ∧ HT.sIx xs.length xs.length hi = xs.length) : cutD xs lo hi = xs := by
  unfold cutD; rw [h.1, h.2]; simp
theorem we_slice {lo hi : Option Expr} {p2 : Pos} (h : WE X ρ M a fun x M1 => WO X ρ M1 lo fun l M2 => WO X ρ M2 hi fun u M3 => ∃ d, SlD M3 x l u d ∧ Φ d M3) : WE X ρ M (.Subscript a (.Slice lo hi none p2) pos) Φ := .mk fun σ H Q en w k =>
  eOf (pe_slice (sl_list.or (sl_tupA.or sl_str)) pe_sem po_sem po_sem) (h.run σ H _ en w fun v x H1 M1 e1 w1 r1 hz => wo_run hz (en.mono e1) w1 fun l H2 M2 e2 w2 hz => wo_run hz (en.mono (e1.trans e2)) w2 fun u H3 M3 e3 w3 hz => by
    obtain ⟨d, hd, hz⟩ := hz
    have r3 := r1.mono (e2.trans e3)
    have k3 := k.step ((e1.trans e2).trans e3)
    rcases hd with ⟨ds, hl, rfl⟩ | ⟨ds, rfl, rfl⟩ | ⟨z, rfl, hl, rfl⟩
    · obtain ⟨p, vs, rfl, hq, rs⟩ := r3.asLst w3 hl
      exact .inl ⟨p, vs, rfl, hq, fun q hp => k3.new w3 hp (.lst upd_same (w3.fresh hp) ((rs.cut l u).mono (Ext.new w3 hp))) hz⟩
    · obtain ⟨p, vs, rfl, hq, rs⟩ := r3.asTup
      refine .inr (.inl ⟨p, vs, rfl, hq, fun hw => ?_, fun hw q hp => ?_⟩)
      · rw [rs.length] at hw
        rw [cutD_all hw] at hz
        exact k3.now w3 r3 hz
      · exact k3.new w3 hp (.tup (.inl upd_same) (w3.fresh hp) ((rs.cut l u).mono (Ext.new w3 hp))) hz
    · cases r3
      exact .inr (.inr ⟨z, rfl, hl, k3.now w3 (.str _) hz⟩))
end
end DL
namespace DL
open PySem PySem.Spec PyProof.Rows L2
section
variable {X : Cx} {ρ : Rho} {M : Mp} {Φ : D → Mp → Prop} {Θ : Bool → Mp → Prop} {a b e o : Expr} {es : List Expr} {pos p apos : Pos} {x : Str}
theorem we_callB {id : String} {r : List V → Hp → VK → Prop} (hc : CallR X (.builtin id) r) (hm : X.mg x = none) (hv : bootBuiltins x = some (.builtin id)) (h : WA X ρ M (e :: es) fun ds M1 => RC X.K r ds M1 Φ) (hg : Gl X x := by rfl) (hn : x ≠ "__name__" := by decide) (hdb : (x == ("__debug__" : Str)) = false := by decide)
    (he : starEach (e :: es) X.env = (false, eval e X.env) :: starEach es X.env := by rfl) (hpl : (backTo pos (starEach es X.env)).any (·.1) = false := by rfl) : WE X ρ M (.Call (.Name x p) (e :: es) [] pos) Φ := .mk fun σ H Q en w k =>
  eOf (pe_callB hc hg hm hv pa_sem hn hdb he hpl) (h.run σ H _ en w fun vs ds H1 M1 e1 w1 r1 hz => hz _ vs H1 Q w1 r1 (k.step e1))
theorem we_callTy {T : String} {r : List V → Hp → VK → Prop} (hc : CallR X (.type T) r) (hm : X.mg x = none) (hv : bootBuiltins x = some (.type T)) (h : WA X ρ M (e :: es) fun ds M1 => RC X.K r ds M1 Φ) (hg : Gl X x := by rfl) (hn : x ≠ "__name__" := by decide) (hdb : (x == ("__debug__" : Str)) = false := by decide)
    (he : starEach (e :: es) X.env = (false, eval e X.env) :: starEach es X.env := by rfl) (hpl : (backTo pos (starEach es X.env)).any (·.1) = false := by rfl) : WE X ρ M (.Call (.Name x p) (e :: es) [] pos) Φ := .mk fun σ H Q en w k =>
  eOf (pe_callTy hc hg hm hv pa_sem hn hdb he hpl) (h.run σ H _ en w fun vs ds H1 M1 e1 w1 r1 hz => hz _ vs H1 Q w1 r1 (k.step e1))
/-- how many -/
def LenD (M : Mp) (d : D) (n : Nat) : Prop := (∃ ds, LstOf M d ds ∧ n = ds.length) ∨ (∃ ds, d = .tup ds ∧ n = ds.length) ∨ ∃ z, d = .str z ∧ z.length ≤ sizeLine ∧ n = z.length
theorem we_len (hm : X.mg "len" = none) (h : WE X ρ M e fun d M1 => ∃ n : Nat, LenD M1 d n ∧ Φ (.int n) M1) (hg : Gl X "len" := by rfl)
    (he : starEach [e] X.env = (false, eval e X.env) :: starEach [] X.env := by rfl) (hpl : (backTo pos (starEach [] X.env)).any (·.1) = false := by rfl) : WE X ρ M (.Call (.Name "len" p) [e] [] pos) Φ :=
  we_callB call_len hm boot_len (wa_cons (h.imp fun d M1 h => wa_nil fun Z vs H Q w rr k => by
    obtain ⟨n, hn, h⟩ := h
    obtain ⟨v, rfl, r⟩ := rr.one
    refine ⟨v, n, rfl, ?_, k.now w (.int _) h⟩
    rcases hn with ⟨ds, hl, rfl⟩ | ⟨ds, rfl, rfl⟩ | ⟨z, rfl, hz, rfl⟩
    · obtain ⟨p, vs, rfl, hq, rs⟩ := r.asLst w hl
      exact .inl ⟨vs, hq, rs.length.symm⟩
    · obtain ⟨p, vs, rfl, hq, rs⟩ := r.asTup
      exact .inr ⟨vs, hq, rs.length.symm⟩
    · cases r
      exact ⟨hz, rfl⟩) he) hg (he := he) (hpl := hpl)
theorem lenL {M : Mp} {ds : List D} : LenD M (.lst ds) ds.length := .inl ⟨ds, rfl, rfl⟩
theorem lenR {M : Mp} {ds : List D} : LenD M (.rol ds) ds.length := .inl ⟨ds, rfl, rfl⟩
theorem lenT {M : Mp} {ds : List D} : LenD M (.tup ds) ds.length := .inr (.inl ⟨ds, rfl, rfl⟩)
theorem lenS {M : Mp} {z : Str} (h : z.length ≤ sizeLine) : LenD M (.str z) z.length := .inr (.inr ⟨z, rfl, h, rfl⟩)
theorem we_abs (hm : X.mg "abs" = none) (h : WE X ρ M e fun d M1 => ∃ i, d = .int i ∧ Φ (.int (if i < 0 then -i else i)) M1) (hg : Gl X "abs" := by rfl)
    (he : starEach [e] X.env = (false, eval e X.env) :: starEach [] X.env := by rfl) (hpl : (backTo pos (starEach [] X.env)).any (·.1) = false := by rfl) : WE X ρ M (.Call (.Name "abs" p) [e] [] pos) Φ :=
  we_callB call_abs hm (by decide +kernel) (wa_cons (h.imp fun d M1 h => wa_nil fun Z vs H Q w rr k => by
    obtain ⟨i, rfl, h⟩ := h
    obtain ⟨v, rfl, r⟩ := rr.one
    cases r
    exact ⟨i, rfl, k.now w (.int _) h⟩) he) hg (he := he) (hpl := hpl)
/-- int(x) of an int, a bool -/
theorem we_intN (hm : X.mg "int" = none) (h : WE X ρ M e fun d M1 => (∃ i, d = .int i ∧ Φ (.int i) M1) ∨ ∃ c, d = .bl c ∧ Φ (.int (if c then 1 else 0)) M1) (hg : Gl X "int" := by rfl)
    (he : starEach [e] X.env = (false, eval e X.env) :: starEach [] X.env := by rfl) (hpl : (backTo pos (starEach [] X.env)).any (·.1) = false := by rfl) : WE X ρ M (.Call (.Name "int" p) [e] [] pos) Φ :=
  we_callTy call_int1 hm (by decide +kernel) (wa_cons (h.imp fun d M1 h => wa_nil fun Z vs H Q w rr k => by
    obtain ⟨v, rfl, r⟩ := rr.one
    rcases h with ⟨i, rfl, h⟩ | ⟨i, rfl, h⟩
    · cases r; exact .inl ⟨i, rfl, k.now w (.int _) h⟩
    · cases r; exact .inr ⟨i, rfl, k.now w (.int _) h⟩) he) hg (he := he) (hpl := hpl)
/-- int(text) -/
theorem we_intS (hm : X.mg "int" = none) (h : WE X ρ M e fun d M1 => ∃ z n, d = .str z ∧ PySem.intText? z = some n ∧ z.length ≤ 640 ∧ Φ (.int n) M1) (hg : Gl X "int" := by rfl)
    (he : starEach [e] X.env = (false, eval e X.env) :: starEach [] X.env := by rfl) (hpl : (backTo pos (starEach [] X.env)).any (·.1) = false := by rfl) : WE X ρ M (.Call (.Name "int" p) [e] [] pos) Φ :=
  we_callTy call_int_str hm (by decide +kernel) (wa_cons (h.imp fun d M1 h => wa_nil fun Z vs H Q w rr k => by
    obtain ⟨v, rfl, r⟩ := rr.one
    obtain ⟨z, n, rfl, h1, h2, h⟩ := h
    cases r
    exact ⟨z, n, rfl, h1, h2, k.now w (.int _) h⟩) he) hg (he := he) (hpl := hpl)
/-- str(int) -/
theorem we_strI (hm : X.mg "str" = none) (h : WE X ρ M e fun d M1 => ∃ i : Int, d = .int i ∧ i.natAbs.log2 < 1920 ∧ Φ (.str (toString i)) M1) (hg : Gl X "str" := by rfl)
    (he : starEach [e] X.env = (false, eval e X.env) :: starEach [] X.env := by rfl) (hpl : (backTo pos (starEach [] X.env)).any (·.1) = false := by rfl) : WE X ρ M (.Call (.Name "str" p) [e] [] pos) Φ :=
  we_callTy call_str_int hm (by decide +kernel) (wa_cons (h.imp fun d M1 h => wa_nil fun Z vs H Q w rr k => by
    obtain ⟨v, rfl, r⟩ := rr.one
    obtain ⟨i, rfl, h2, h⟩ := h
    cases r
    exact ⟨i, rfl, h2, k.now w (.str _) h⟩) he) hg (he := he) (hpl := hpl)
theorem we_max2 (hm : X.mg "max" = none) (h : WE X ρ M a fun x M1 => WE X ρ M1 b fun y M2 => ∃ i j, x = .int i ∧ y = .int j ∧ Φ (.int (if j > i then j else i)) M2) (hc : X.calm = true := by rfl) (hg : Gl X "max" := by rfl)
    (ha : starEach [a, b] X.env = (false, eval a X.env) :: starEach [b] X.env := by rfl) (hb : starEach [b] X.env = (false, eval b X.env) :: starEach [] X.env := by rfl) (hpl : (backTo pos (starEach [b] X.env)).any (·.1) = false := by rfl) : WE X ρ M (.Call (.Name "max" p) [a, b] [] pos) Φ :=
  we_callB (call_max2 hc) hm (by decide +kernel) (wa_cons (h.imp fun x M1 h => wa_cons (h.imp fun y M2 h => wa_nil fun Z vs H Q w rr k => by
    obtain ⟨v, u, rfl, r1, r2⟩ := rr.two
    obtain ⟨i, j, rfl, rfl, h⟩ := h
    cases r1; cases r2
    exact ⟨i, j, rfl, k.now w (.int _) h⟩) hb) ha) hg (he := ha) (hpl := hpl)
theorem we_min2 (hm : X.mg "min" = none) (h : WE X ρ M a fun x M1 => WE X ρ M1 b fun y M2 => ∃ i j, x = .int i ∧ y = .int j ∧ Φ (.int (if j < i then j else i)) M2) (hc : X.calm = true := by rfl) (hg : Gl X "min" := by rfl)
    (ha : starEach [a, b] X.env = (false, eval a X.env) :: starEach [b] X.env := by rfl) (hb : starEach [b] X.env = (false, eval b X.env) :: starEach [] X.env := by rfl) (hpl : (backTo pos (starEach [b] X.env)).any (·.1) = false := by rfl) : WE X ρ M (.Call (.Name "min" p) [a, b] [] pos) Φ :=
  we_callB (call_min2 hc) hm (by decide +kernel) (wa_cons (h.imp fun x M1 h => wa_cons (h.imp fun y M2 h => wa_nil fun Z vs H Q w rr k => by
    obtain ⟨v, u, rfl, r1, r2⟩ := rr.two
    obtain ⟨i, j, rfl, rfl, h⟩ := h
    cases r1; cases r2
    exact ⟨i, j, rfl, k.now w (.int _) h⟩) hb) ha) hg (he := ha) (hpl := hpl)
/-- sum, all, any -/
theorem we_sum (hm : X.mg "sum" = none) (h : WE X ρ M e fun d M1 => ∃ ns : List Int, LstOf M1 d (ns.map D.int) ∧ Φ (.int ns.sum) M1) (hc : X.calm = true := by rfl) (hg : Gl X "sum" := by rfl)
    (he : starEach [e] X.env = (false, eval e X.env) :: starEach [] X.env := by rfl) (hpl : (backTo pos (starEach [] X.env)).any (·.1) = false := by rfl) : WE X ρ M (.Call (.Name "sum" p) [e] [] pos) Φ :=
  we_callB (cr_sum hc) hm (by decide +kernel) (wa_cons (h.imp fun d M1 h => wa_nil fun Z vs H Q w rr k => by
    obtain ⟨v, rfl, r⟩ := rr.one
    obtain ⟨ns, hl, h⟩ := h
    obtain ⟨q, vs, rfl, hq, rs⟩ := r.asLst w hl
    rw [rs.ints] at hq
    exact ⟨q, ns, rfl, hq, k.now w (.int _) h⟩) he) hg (he := he) (hpl := hpl)
theorem we_all (hm : X.mg "all" = none) (h : WE X ρ M e fun d M1 => ∃ bs : List Bool, LstOf M1 d (bs.map D.bl) ∧ Φ (.bl (bs.all id)) M1) (hc : X.calm = true := by rfl) (hg : Gl X "all" := by rfl)
    (he : starEach [e] X.env = (false, eval e X.env) :: starEach [] X.env := by rfl) (hpl : (backTo pos (starEach [] X.env)).any (·.1) = false := by rfl) : WE X ρ M (.Call (.Name "all" p) [e] [] pos) Φ :=
  we_callB (cr_all hc) hm (by decide +kernel) (wa_cons (h.imp fun d M1 h => wa_nil fun Z vs H Q w rr k => by
    obtain ⟨v, rfl, r⟩ := rr.one
    obtain ⟨ns, hl, h⟩ := h
    obtain ⟨q, vs, rfl, hq, rs⟩ := r.asLst w hl
    rw [rs.bls] at hq
    exact ⟨q, ns, rfl, hq, k.now w (.bl _) h⟩) he) hg (he := he) (hpl := hpl)
/-- tuple(xs), list(xs) -/
theorem we_tupleOf (hm : X.mg "tuple" = none) (h : WE X ρ M e fun d M1 => ∃ ds, (LstOf M1 d ds ∨ d = .tup ds) ∧ Φ (.tup ds) M1) (hg : Gl X "tuple" := by rfl)
    (he : starEach [e] X.env = (false, eval e X.env) :: starEach [] X.env := by rfl) (hpl : (backTo pos (starEach [] X.env)).any (·.1) = false := by rfl) : WE X ρ M (.Call (.Name "tuple" p) [e] [] pos) Φ :=
  we_callTy call_tuple_of hm (by decide +kernel) (wa_cons (h.imp fun d M1 h => wa_nil fun Z vs H Q w rr k => by
    obtain ⟨v, rfl, r⟩ := rr.one
    obtain ⟨ds, hl | rfl, h⟩ := h
    · obtain ⟨q, vs, rfl, hq, rs⟩ := r.asLst w hl
      exact ⟨q, vs, rfl, .inl ⟨hq, fun l hp => k.new w hp (.tup (.inl upd_same) (w.fresh hp) (rs.mono (Ext.new w hp))) h⟩⟩
    · obtain ⟨q, vs, rfl, hq, rs⟩ := r.asTup
      exact ⟨q, vs, rfl, .inr ⟨hq, k.now w r h⟩⟩) he) hg (he := he) (hpl := hpl)
theorem we_listOf (hm : X.mg "list" = none) (h : WE X ρ M e fun d M1 => ∃ ds, (LstOf M1 d ds ∨ d = .tup ds) ∧ Φ (.lst ds) M1) (hg : Gl X "list" := by rfl)
    (he : starEach [e] X.env = (false, eval e X.env) :: starEach [] X.env := by rfl) (hpl : (backTo pos (starEach [] X.env)).any (·.1) = false := by rfl) : WE X ρ M (.Call (.Name "list" p) [e] [] pos) Φ :=
  we_callTy call_list_of hm (by decide +kernel) (wa_cons (h.imp fun d M1 h => wa_nil fun Z vs H Q w rr k => by
    obtain ⟨v, rfl, r⟩ := rr.one
    obtain ⟨ds, hl | rfl, h⟩ := h
    · obtain ⟨q, vs, rfl, hq, rs⟩ := r.asLst w hl
      exact ⟨q, vs, rfl, .inl hq, fun l hp => k.new w hp (.lst upd_same (w.fresh hp) (rs.mono (Ext.new w hp))) h⟩
    · obtain ⟨q, vs, rfl, hq, rs⟩ := r.asTup
      exact ⟨q, vs, rfl, .inr hq, fun l hp => k.new w hp (.lst upd_same (w.fresh hp) (rs.mono (Ext.new w hp))) h⟩) he) hg (he := he) (hpl := hpl)
/-- a class as data -/
def ClsD : D → Value → Prop
  | .ty n, u => u = .type n
  | .fn C, u => u = .ref C
  | _, _ => False
theorem we_isi (hm : X.mg "isinstance" = none) (h : WE X ρ M a fun x M1 => WE X ρ M1 b fun y M2 => ∃ t u c, TyD M2 x t ∧ ClsD y u ∧ (∀ C, t = .ref C → OwnC X.K C) ∧ PySem.W.kitOne X.K t u = some c ∧ Φ (.bl c) M2) (hg : Gl X "isinstance" := by rfl)
    (ha : starEach [a, b] X.env = (false, eval a X.env) :: starEach [b] X.env := by rfl) (hb : starEach [b] X.env = (false, eval b X.env) :: starEach [] X.env := by rfl) (hpl : (backTo pos (starEach [b] X.env)).any (·.1) = false := by rfl) : WE X ρ M (.Call (.Name "isinstance" p) [a, b] [] pos) Φ :=
  we_callB call_isi hm (by decide +kernel) (wa_cons (h.imp fun x M1 h => wa_cons (h.imp fun y M2 h => wa_nil fun Z vs H Q w rr k => by
    obtain ⟨v, u, rfl, r1, r2⟩ := rr.two
    obtain ⟨t, cu, c, h1, h2, own, h3, h⟩ := h
    refine ⟨v, u, t, cu, c, rfl, ?_, h1.rep r1 own, h3, k.now w (.bl _) h⟩
    cases r2 with
    | ty n => cases h2; exact .ty n
    | fn C => cases h2; exact .own C
    | _ => cases h2) hb) ha) hg (he := ha) (hpl := hpl)
theorem we_m1 {id : String} {name : Str} {r : V → List V → Hp → VK → Prop} (slot : Slot "str" name id) (ty : typeOf (.builtin id) = pure (.type "method_descriptor")) (rule : MtR X id r)
    (h : WE X ρ M o fun d M1 => ∃ z, d = .str z ∧ WE X ρ M1 e fun y M2 => ∀ Z H Q u, Wd X.K M2 Z H → Rep X.K M2 Z H u y → KE X.K M2 Z H Φ Q → r (.str z) [u] H Q)
    (hs : starEach [e] X.env = [(false, eval e X.env)] := by rfl) (hbase : attributeBase o name X.env (eval o X.env) = eval o X.env := by rfl) (hline : (apos.endLine == pos.line) = true := by rfl) : WE X ρ M (.Call (.Attribute o name apos) [e] [] pos) Φ := .mk fun σ H Q en w k =>
  eOf (pe_m1 slot ty rule pe_sem pe_sem hs hbase hline) (h.run σ H _ en w fun v d H1 M1 e1 w1 r1 hz => by
    obtain ⟨z, rfl, hz⟩ := hz
    cases r1
    exact ⟨⟨z, rfl⟩, hz.run σ H1 _ (en.mono e1) w1 fun u y H2 M2 e2 w2 r2 hy => hy _ H2 Q u w2 r2 (k.step (e1.trans e2))⟩)
theorem we_startswith (h : WE X ρ M o fun d M1 => ∃ z, d = .str z ∧ WE X ρ M1 e fun y M2 => ∃ s, y = .str s ∧ Φ (.bl (Txt.startswith z s)) M2) (hs : starEach [e] X.env = [(false, eval e X.env)] := by rfl) (hbase : attributeBase o "startswith" X.env (eval o X.env) = eval o X.env := by rfl) (hline : (apos.endLine == pos.line) = true := by rfl) : WE X ρ M (.Call (.Attribute o "startswith" apos) [e] [] pos) Φ :=
  we_m1 F.slot_str_startswith F.type_str_startswith mt_startswith (h.imp fun d M1 ⟨z, e1, h⟩ => ⟨z, e1, h.imp fun y M2 ⟨s, e2, h⟩ Z H Q u w r k => by subst e2; cases r; exact ⟨z, s, rfl, rfl, k.now w (.bl _) h⟩⟩) hs hbase hline
theorem we_endswith (h : WE X ρ M o fun d M1 => ∃ z, d = .str z ∧ WE X ρ M1 e fun y M2 => ∃ s, y = .str s ∧ Φ (.bl (Txt.endswith z s)) M2) (hs : starEach [e] X.env = [(false, eval e X.env)] := by rfl) (hbase : attributeBase o "endswith" X.env (eval o X.env) = eval o X.env := by rfl) (hline : (apos.endLine == pos.line) = true := by rfl) : WE X ρ M (.Call (.Attribute o "endswith" apos) [e] [] pos) Φ :=
  we_m1 F.slot_str_endswith F.type_str_endswith mt_endswith (h.imp fun d M1 ⟨z, e1, h⟩ => ⟨z, e1, h.imp fun y M2 ⟨s, e2, h⟩ Z H Q u w r k => by subst e2; cases r; exact ⟨z, s, rfl, rfl, k.now w (.bl _) h⟩⟩) hs hbase hline
theorem we_partition (h : WE X ρ M o fun d M1 => ∃ z, d = .str z ∧ WE X ρ M1 e fun y M2 => ∃ s, y = .str s ∧ (s.length == 0) = false ∧ z.length ≤ sizeLine ∧ Φ (.tup [.str (Txt.partition z s).1, .str (Txt.partition z s).2.1, .str (Txt.partition z s).2.2]) M2) (hs : starEach [e] X.env = [(false, eval e X.env)] := by rfl) (hbase : attributeBase o "partition" X.env (eval o X.env) = eval o X.env := by rfl) (hline : (apos.endLine == pos.line) = true := by rfl) : WE X ρ M (.Call (.Attribute o "partition" apos) [e] [] pos) Φ :=
  we_m1 F.slot_str_partition F.type_str_partition mt_partition (h.imp fun d M1 ⟨z, e1, h⟩ => ⟨z, e1, h.imp fun y M2 ⟨s, e2, h1, h2, h⟩ Z H Q u w r k => by
    subst e2
    cases r
    exact ⟨z, s, rfl, rfl, h1, h2, fun q hq => k.new w hq (.tup (.inl upd_same) (w.fresh hq) (.cons (.str _) (.cons (.str _) (.cons (.str _) .nil)))) h⟩⟩) hs hbase hline
theorem we_join (h : WE X ρ M o fun d M1 => ∃ z, d = .str z ∧ WE X ρ M1 e fun y M2 => ∃ ys : List Str, (LstOf M2 y (ys.map D.str) ∨ y = .tup (ys.map D.str)) ∧ (ys.map (·.length)).sum + ys.length * z.length ≤ 16777216 ∧ Φ (.str (Txt.join z ys)) M2) (hs : starEach [e] X.env = [(false, eval e X.env)] := by rfl) (hbase : attributeBase o "join" X.env (eval o X.env) = eval o X.env := by rfl) (hline : (apos.endLine == pos.line) = true := by rfl) : WE X ρ M (.Call (.Attribute o "join" apos) [e] [] pos) Φ :=
  we_m1 F.slot_str_join F.type_str_join mt_join (h.imp fun d M1 ⟨z, e1, h⟩ => ⟨z, e1, h.imp fun y M2 ⟨ys, e2, h1, h⟩ Z H Q u w r k => by
    rcases e2 with e2 | rfl
    · obtain ⟨q, vs, rfl, hq, rs⟩ := r.asLst w e2
      rw [rs.strs] at hq
      exact ⟨z, q, ys, rfl, rfl, .inl hq, h1, k.now w (.str _) h⟩
    · obtain ⟨q, vs, rfl, hq, rs⟩ := r.asTup
      rw [rs.strs] at hq
      exact ⟨z, q, ys, rfl, rfl, .inr hq, h1, k.now w (.str _) h⟩⟩) hs hbase hline
/-- the parts' texts, one behind another -/
def WJ (X : Cx) (ρ : Rho) : List Expr → Mp → Str → (Str → Mp → Prop) → Prop
  | [], M, acc, Ω => Ω acc M
  | e :: es, M, acc, Ω => WE X ρ M e fun d M1 => ∃ y : Str, d = .str y ∧ (acc ++ y).length ≤ sizeLine ∧ WJ X ρ es M1 (acc ++ y) Ω
theorem pj_sem : ∀ es : List Expr, PJ X es (es.map (eSem X))
  | [] => .nil
  | e :: es => .cons pe_sem (pj_sem es)
theorem wj_run {Z : Zn} {σ : L2.St} : ∀ (es : List Expr) {M : Mp} {H : Hp} {acc : Str} {Ω : Str → Mp → Prop} {Q : Str → Hp → Prop}, WJ X ρ es M acc Ω → EnvR X.K M Z H σ ρ → Wd X.K M Z H → (∀ y H' M', Ext M Z H M' H' → Wd X.K M' Z H' → Ω y M' → Q y H') → tJs (es.map (eSem X)) acc σ H Q
  | [], M, H, acc, Ω, Q, h, en, w, k => k acc H M Ext.refl w h
  | e :: es, M, H, acc, Ω, Q, h, en, w, k => (show WE X ρ M e (fun d M1 => ∃ y : Str, d = .str y ∧ (acc ++ y).length ≤ sizeLine ∧ WJ X ρ es M1 (acc ++ y) Ω) from h).run σ H _ en w fun v d H1 M1 e1 w1 r1 hz => by
    obtain ⟨y, rfl, hl, hz⟩ := hz
    cases r1
    exact ⟨y, rfl, hl, wj_run es hz (en.mono e1) w1 fun y H' M' x w' z => k y H' M' (e1.trans x) w' z⟩
theorem we_fstr {v1 v2 : Expr} {rest : List Expr} (h : WJ X ρ (v1 :: v2 :: rest) M Str.empty fun y M1 => Φ (.str y) M1) : WE X ρ M (.JoinedStr (v1 :: v2 :: rest) pos) Φ := .mk fun σ H Q en w k =>
  eOf (pe_joined (pj_sem _)) (wj_run _ h en w fun y H' M' x w' z => (k.step x).now w' (.str y) z)
theorem we_fmt (h : WE X ρ M e fun d M1 => (∃ y : Str, d = .str y ∧ y.length ≤ sizeLine ∧ Φ (.str y) M1) ∨ ∃ i : Int, d = .int i ∧ i.natAbs.log2 < 1920 ∧ Φ (.str (toString i)) M1) : WE X ρ M (.FormattedValue e (-1) none pos) Φ := .mk fun σ H Q en w k =>
  eOf (pe_fmt pe_sem) (h.run σ H _ en w fun v d H1 M1 e1 w1 r1 hz => by
    rcases hz with ⟨y, rfl, hl, hz⟩ | ⟨i, rfl, hl, hz⟩
    · cases r1; exact .inl ⟨y, rfl, hl, (k.step e1).now w1 (.str y) hz⟩
    · cases r1; exact .inr ⟨i, rfl, hl, (k.step e1).now w1 (.str _) hz⟩)
theorem we_append (h : WE X ρ M o fun d M1 => ∃ q ds0, d = .ob q ∧ M1 q = some (.lst ds0) ∧ WE X ρ M1 e fun y M2 => ∃ ds, M2 q = some (.lst ds) ∧ ds.length < sizeLine ∧ Φ .non (mset M2 q (.lst (ds ++ [y]))))
    (hbase : attributeBase o "append" X.env (eval o X.env) = eval o X.env := by rfl)
    (hfew : ((backTo pos (starEach (e :: []) X.env)).all (fun x => !x.1) && (backToKw pos (keywordEach [] X.env)).all (fun x => x.1.isSome)
      && decide ((e :: []).length + ([] : List Keyword).length + (if ([] : List Keyword).isEmpty then 0 else 1) < 30)) = true := by rfl)
    (hline : (apos.endLine == pos.line) = true := by rfl) (hs : starEach (e :: []) X.env = (false, eval e X.env) :: starEach [] X.env := by rfl) (hplain : (backTo pos (starEach [] X.env)).any (·.1) = false := by rfl) : WE X ρ M (.Call (.Attribute o "append" apos) [e] [] pos) Φ := .mk fun σ H Q en w k =>
  eOf (pe_bm PySem.F.plainAttrs_list PySem.F.slot_list_append PySem.F.type_list_append mt_append pe_sem (pa_cons pe_sem pa_nil hs) hbase hfew hline hs hplain) (h.run σ H _ en w fun v d H1 M1 e1 w1 r1 hz => by
    obtain ⟨q, ds0, rfl, hM, hz⟩ := hz
    cases r1
    obtain ⟨vs0, h0, _⟩ := w1.1 q _ hM
    refine ⟨.inl ⟨rfl, _, .inl (.inl h0)⟩, hz.run σ H1 _ (en.mono e1) w1 fun u y H2 M2 e2 w2 r2 hy => ?_⟩
    obtain ⟨ds, hM2, hl, hy⟩ := hy
    obtain ⟨vs, hv, rs⟩ := w2.1 q _ hM2
    refine ⟨q, vs, u, rfl, rfl, hv, by rw [rs.length]; exact hl, ?_⟩
    have x3 : Ext M2 _ H2 (mset M2 q (.lst (ds ++ [y]))) (upd H2 q (.lst (vs ++ [u]))) := Ext.put w2 hM2
    exact k _ .non _ _ ((e1.trans e2).trans x3) (w2.put hM2 ⟨_, upd_same, (rs.append (.cons r2 .nil)).mono x3⟩) .non hy)
theorem we_extend (h : WE X ρ M o fun d M1 => ∃ q ds0, d = .ob q ∧ M1 q = some (.lst ds0) ∧ WE X ρ M1 e fun y M2 => ∃ ds ys, M2 q = some (.lst ds) ∧ y = .lst ys ∧ ds.length + ys.length ≤ sizeLine ∧ Φ .non (mset M2 q (.lst (ds ++ ys))))
    (hbase : attributeBase o "extend" X.env (eval o X.env) = eval o X.env := by rfl)
    (hfew : ((backTo pos (starEach (e :: []) X.env)).all (fun x => !x.1) && (backToKw pos (keywordEach [] X.env)).all (fun x => x.1.isSome)
      && decide ((e :: []).length + ([] : List Keyword).length + (if ([] : List Keyword).isEmpty then 0 else 1) < 30)) = true := by rfl)
    (hline : (apos.endLine == pos.line) = true := by rfl) (hs : starEach (e :: []) X.env = (false, eval e X.env) :: starEach [] X.env := by rfl) (hplain : (backTo pos (starEach [] X.env)).any (·.1) = false := by rfl) : WE X ρ M (.Call (.Attribute o "extend" apos) [e] [] pos) Φ := .mk fun σ H Q en w k =>
  eOf (pe_bm PySem.F.plainAttrs_list PySem.F.slot_list_extend PySem.F.type_list_extend mt_extend pe_sem (pa_cons pe_sem pa_nil hs) hbase hfew hline hs hplain) (h.run σ H _ en w fun v d H1 M1 e1 w1 r1 hz => by
    obtain ⟨q, ds0, rfl, hM, hz⟩ := hz
    cases r1
    obtain ⟨vs0, h0, _⟩ := w1.1 q _ hM
    refine ⟨.inl ⟨rfl, _, .inl (.inl h0)⟩, hz.run σ H1 _ (en.mono e1) w1 fun u y H2 M2 e2 w2 r2 hy => ?_⟩
    obtain ⟨ds, ys, hM2, rfl, hl, hy⟩ := hy
    obtain ⟨vs, hv, rs⟩ := w2.1 q _ hM2
    cases r2 with
    | @lst _ us _ h2 m2 r2 =>
      refine ⟨q, _, vs, us, rfl, rfl, hv, h2, by rw [rs.length, r2.length]; exact hl, ?_⟩
      have x3 : Ext M2 _ H2 (mset M2 q (.lst (ds ++ ys))) (upd H2 q (.lst (vs ++ us))) := Ext.put w2 hM2
      exact k _ .non _ _ ((e1.trans e2).trans x3) (w2.put hM2 ⟨_, upd_same, (rs.append r2).mono x3⟩) .non hy)
/-- xs[i] = e -/
theorem wg_sub {i : Expr} {d : D} {Ω : Rho → Mp → Prop} (h : WE X ρ M o fun x M1 => WE X ρ M1 i fun y M2 => ∃ q ds n j, x = .ob q ∧ y = .int n ∧ M2 q = some (.lst ds) ∧ ixN ds.length n = some j ∧ Ω ρ (mset M2 q (.lst (ds.set j d))))
    (ha : ∀ v, assign (.Subscript o i pos) X.env v = (do
      let ov ← holding [v] (eval o X.env)
      let iv ← holding [v, ov] (eval i X.env)
      standAt pos
      holding [v, ov, iv] (setItem ov iv v)
      release [v, ov, iv] []) := by intro _; rfl) : WG X (.Subscript o i pos) d ρ M Ω := .mk fun {Z} σ H v Q en w r k =>
  gOf (pg_sub pe_sem pe_sem set_list ha) (bind2 h en w fun v1 v2 x y H2 M2 e2 w2 r1 r2 hz => by
    obtain ⟨q, ds, n, j, rfl, rfl, hM, hj, hz⟩ := hz
    cases r1; cases r2
    obtain ⟨vs, hv, rs⟩ := w2.1 q _ hM
    refine ⟨q, vs, n, j, rfl, rfl, hv, by rw [rs.length]; exact hj, ?_⟩
    have x3 : Ext M2 _ H2 (mset M2 q (.lst (ds.set j d))) (upd H2 q (.lst (vs.set j v))) := Ext.put w2 hM
    exact k σ ρ _ _ (e2.trans x3) (w2.put hM ⟨_, upd_same, (Reps.set (r.mono e2) j rs).mono x3⟩) (en.mono (e2.trans x3)) hz)
/-- [*xs, ..] -/
theorem wa_star {sp : Pos} {ΦA : List D → Mp → Prop} (h : WE X ρ M e fun d M1 => ∃ xs, (LstOf M1 d xs ∨ d = .tup xs) ∧ WA X ρ M1 es fun ds M2 => ∀ ys, ys = xs ++ ds → ΦA ys M2) (hs : starEach (.Starred e sp :: es) X.env = (true, eval e X.env) :: starEach es X.env := by rfl) : WA X ρ M (.Starred e sp :: es) ΦA := .mk fun σ H Q en w k =>
  aOf (StX.pa_star pe_sem pa_sem hs) (h.run σ H _ en w fun v d H1 M1 e1 w1 r1 hz => by
    obtain ⟨xs, hl, hz⟩ := hz
    obtain ⟨q, vs, rfl, hq, rs⟩ : ∃ q vs, v = .ref q ∧ (SqT X.K H1 q vs ∨ SqL X.K H1 q vs) ∧ Reps X.K M1 _ H1 vs xs := by
      rcases hl with hl | rfl
      · obtain ⟨q, vs, e, hq, rs⟩ := r1.asLst w1 hl; exact ⟨q, vs, e, .inr hq, rs⟩
      · obtain ⟨q, vs, e, hq, rs⟩ := r1.asTup; exact ⟨q, vs, e, .inl hq, rs⟩
    exact ⟨q, vs, rfl, hq, hz.run σ H1 _ (en.mono e1) w1 fun us ds H2 M2 e2 w2 r2 hy => k (vs ++ us) (xs ++ ds) H2 M2 (e1.trans e2) w2 ((rs.mono e2).append r2) (hy _ rfl)⟩)
end
end DL
namespace DL
open PySem PySem.Spec PyProof.Rows L2
/-- the signs of a text, each with its number in a new pair -/
def Ites (x : Str) : It := ⟨fun i _ => i < x.cps.size, fun i H v H' => ∃ T c, v = .ref T ∧ H T = none ∧ H' = upd H T (.tup [.int (i : Nat), .str ⟨#[c]⟩]) ∧ x.cps[i]? = some c, fun i _ => i = x.cps.size⟩
theorem draws_txt {prog : Program} {w : World} {A : Around} (hh : A.handled = none) (it : Addr) (x : Str) (t : Tok) :
    Draws prog w A it [it] x.cps.size (fun i v => ∃ c u, x.cps[i]? = some c ∧ v = .str ⟨#[c]⟩ u) (fun i h => h.IsStrIter it (strIterType x) x t i) := by
  unfold strIterType
  cases x.cps.all (· < 128)
  · exact Draws.strWide hh it x t
  · exact Draws.strAscii hh it x t
theorem turn_enumS {P : Program} {w : World} {K : PySem.W.Frag} {elts : List Expr} {kk : Nat} {tpos : Pos} (x : Str) (t : Tok) (e it : Addr) :
    Turn P w K (.Tuple elts kk tpos) (Ites x) [e, it] e (fun i h => (∃ old, IsEnum h e it i old) ∧ h.IsStrIter it (strIterType x) x t i ∧ e ≠ it) where
  mem := by simp
  obj := fun i h st b hb => by
    obtain ⟨⟨old, he⟩, ⟨o, e1, c, d⟩, hne⟩ := st
    have e' : b = e ∨ b = it := by simpa using hb
    rcases e' with z | z
    · rw [z]; exact ⟨_, he, fun v z => nomatch z⟩
    · rw [z]; exact ⟨o, e1, fun v z => by rw [d] at z; cases z⟩
  keep := fun i h h' st k => by
    obtain ⟨⟨old, he⟩, ⟨o, e1, c, d⟩, hne⟩ := st
    exact ⟨⟨old, k e (by simp) _ he⟩, ⟨o, k it (by simp) _ e1, c, d⟩, hne⟩
  item := by
    intro X hP hw hK hc i pins s σ H E I hf st hg
    subst hP hw hK
    obtain ⟨⟨old, he⟩, hit, hne⟩ := st
    have hel : e < s.heap.objs.size := Heap.lt_size he
    have hil : it < s.heap.objs.size := by obtain ⟨_, q, _⟩ := hit; exact Heap.lt_size q
    refine wpAny_pyNext_enum_itemD (draws_txt (A := X.A.in1) (I.ok.hd hc) it x t) he hit hg hne (by simpa using hne) fun u h' tk hP ho hit' hT hsz hk => ?_
    obtain ⟨c, tk2, hcx, rfl⟩ := hP
    refine ⟨_, rfl, wpAny_letOwnedTupleGo_enum (s := { s with heap := h', toks := tk + 1 }) ho fun h'' he' sb => ?_⟩
    have hT2 : h''.get? s.heap.objs.size = some { cls := .type "tuple", data := .seq #[.int i tk, .str ⟨#[c]⟩ tk2] } := (sb.2 _ (Nat.ne_of_gt hel)).trans hT
    have new : ObjOk X.prog X.w (upd H s.heap.objs.size (.tup [.int (i : Nat), .str ⟨#[c]⟩])) h'' s.heap.objs.size (.tup [.int (i : Nat), .str ⟨#[c]⟩]) :=
      ⟨by show 2 ≤ sizeLine; decide, [.int i tk, .str ⟨#[c]⟩ tk2], .cons ⟨_, rfl⟩ (.cons ⟨_, rfl⟩ .nil), ⟨_, hT2, rfl, _, rfl⟩⟩
    have I1 : Inv X pins σ (upd H s.heap.objs.size (.tup [.int (i : Nat), .str ⟨#[c]⟩])) { s with heap := h'', toks := tk + 1 } :=
      I.turnedNew (ch := [e, it]) (fun b ob hb q => (sb.2 b (fun z => hb (by simp [z]))).trans (hk b ob (fun z => hb (by simp [z])) (fun z => hb (by simp [z])) q)) hf (Nat.le_refl _) new
    refine ⟨.ref s.heap.objs.size, _, I1, rfl, ⟨_, c, rfl, I.hok.fresh (Nat.le_refl _), rfl, hcx⟩, ⟨⟨.str ⟨#[c]⟩ tk2, ?_⟩, ?_, hne⟩, fun b hb => ?_⟩
    · have e1 : ((i + 1 : Nat) : Int) = (i : Int) + 1 := by omega
      rw [e1]; exact he'
    · obtain ⟨o, q1, q2⟩ := hit'
      exact ⟨o, (sb.2 it (Ne.symm hne)).trans q1, q2⟩
    · have hb' : b < s.heap.objs.size := by
        have e' : b = e ∨ b = it := by simpa using hb
        rcases e' with z | z
        · rw [z]; exact hel
        · rw [z]; exact hil
      rw [upd_ne (Nat.ne_of_lt hb')]
      exact (hf b hb).1
  done := by
    intro X hP hw hK hc i pins s σ H E I hf st hg
    subst hP hw hK
    obtain ⟨⟨old, he⟩, hit, hne⟩ := st
    obtain ⟨f0, f1, f2, f3, f4, f5⟩ := hf it (by simp)
    have hi : i = x.cps.size := hg
    subst hi
    exact wpAny_pyNext_enum_endD (draws_txt (A := X.A.in1) (I.ok.hd hc) it x t) he hit fun h' eb => ⟨rfl, I.turned (t' := s.toks) (fun b o hb q => eb b o hb q) f0 f1 f3 f4 f5⟩
  self := fun A i s Q E st h => let ⟨⟨_, he⟩, _⟩ := st; wpAny_pyIter_enum he h
def iEnumS (ta : TA) : TI := fun σ H R => ta σ H fun vs H1 => ∃ x, vs = [.str x] ∧ R (Ites x) H1
theorem pi_enumS {X : Cx} {e : Expr} {ta : TA} {p pos tpos : Pos} {elts : List Expr} {kk : Nat} (hg : Gl X "enumerate") (hm : X.mg "enumerate" = none) (ha : PA X [e] ta) (hs : starEach [e] X.env = [(false, eval e X.env)] := by rfl) :
    PI X (.Tuple elts kk tpos) (.Call (.Name "enumerate" p) [e] [] pos) (iEnumS ta) := by
  refine ⟨fun pins s σ H R I h => ?_⟩
  refine Call_ (ld_blt I hg hm boot_enumerate (PyProof.Rows.callWith_type1 (thn (ha.run pos pins s σ H _ I h) fun us s1 ⟨vs, H1, I1, r1, q1⟩ => ?_) hs rfl))
  obtain ⟨x, ex, q⟩ := q1
  subst ex
  cases r1 with
  | cons r rr =>
    cases rr
    obtain ⟨t, rfl⟩ := r
    refine call_enumerate_str fun h' he hit hsz hk => wpAny_pyIter_enum he ?_
    have I2 : Inv X pins σ H1 { s1 with heap := h' } := I1.kept (t' := s1.toks) hk
    refine ⟨s1.heap.objs.size + 1, [s1.heap.objs.size + 1, s1.heap.objs.size], _, _, H1, rfl, I2, turn_enumS x t (s1.heap.objs.size + 1) s1.heap.objs.size, ⟨⟨.none, he⟩, hit, Nat.succ_ne_self _⟩, fun b hb => ?_, q⟩
    have e' : b = s1.heap.objs.size + 1 ∨ b = s1.heap.objs.size := by simpa using hb
    have hle : s1.heap.objs.size ≤ b := by
      rcases e' with z | z
      · rw [z]; exact Nat.le_add_right _ _
      · rw [z]; exact Nat.le_refl _
    exact I1.fpOk hle (I1.hok.fresh hle)
section
variable {X : Cx} {ρ : Rho} {M : Mp} {tg a b e : Expr} {pos p : Pos} {Φ : List D → Mp → Prop}
/-- the signs of a text -/
def signs (x : Str) : List D := x.cps.toList.map fun c => .str ⟨#[c]⟩
/-- .. each with its number -/
def enumS (x : Str) : List D := (List.range x.cps.size).map fun (i : Nat) => .tup [.int (i : Nat), .str ⟨#[x.cps.getD i 0]⟩]
theorem sq_str {K : PySem.W.Frag} {M1 : Mp} {Z1 : Zn} {H1 : Hp} (x : Str) : Sq K M1 Z1 H1 (Its x) (signs x) := fun i M Z H e w => by
  refine ⟨fun hi => ?_, fun d hd => ?_⟩
  · show x.cps.size ≤ i
    rw [hi]; simp [signs]
  · unfold signs at hd
    rw [List.getElem?_map] at hd
    obtain ⟨c, hc, rfl⟩ := Option.map_eq_some_iff.mp hd
    rw [Array.getElem?_toList] at hc
    refine ⟨(Array.getElem?_eq_some_iff.mp hc).1, fun v H' y => ?_⟩
    obtain ⟨rfl, c', hc', rfl⟩ := y
    rw [hc] at hc'; cases hc'
    exact ⟨Ext.refl, w, .str _⟩
theorem wi_str (h : WE X ρ M e fun d M1 => ∃ x, d = .str x ∧ Φ (signs x) M1) : WI X ρ M tg e Φ := .mk fun σ H R en w k =>
  iOf (pi_str pe_sem) (h.run σ H _ en w fun v d H1 M1 e1 w1 r1 hz => by
    obtain ⟨x, rfl, hz⟩ := hz
    cases r1
    exact ⟨x, rfl, k _ _ H1 M1 e1 w1 (sq_str x) hz⟩)
theorem sq_enumS {K : PySem.W.Frag} {M1 : Mp} {Z1 : Zn} {H1 : Hp} (x : Str) : Sq K M1 Z1 H1 (Ites x) (enumS x) := fun i M Z H e w => by
  refine ⟨fun hi => ?_, fun d hd => ?_⟩
  · show i = x.cps.size
    rw [hi]; simp [enumS]
  · unfold enumS at hd
    rw [List.getElem?_map] at hd
    obtain ⟨j, hj, rfl⟩ := Option.map_eq_some_iff.mp hd
    obtain ⟨hlt, rfl⟩ : i < x.cps.size ∧ i = j := by
      have q : i < (List.range x.cps.size).length := (List.getElem?_eq_some_iff.mp hj).1
      rw [List.length_range] at q
      rw [List.getElem?_range q] at hj
      exact ⟨q, Option.some.inj hj⟩
    refine ⟨hlt, fun v H' y => ?_⟩
    obtain ⟨T, c, rfl, hT, rfl, hc⟩ := y
    have ec : x.cps.getD i 0 = c := by
      rw [Array.getD_eq_getD_getElem?, hc]; rfl
    rw [ec]
    exact ⟨Ext.new w hT, w.new hT, .tup (.inl upd_same) (w.fresh hT) (.cons (.int _) (.cons (.str _) .nil))⟩
theorem wi_enumS {elts : List Expr} {kk : Nat} {tpos : Pos} (hm : X.mg "enumerate" = none) (h : WE X ρ M e fun d M1 => ∃ x, d = .str x ∧ Φ (enumS x) M1) (hg : Gl X "enumerate" := by rfl) (hs : starEach [e] X.env = [(false, eval e X.env)] := by rfl) : WI X ρ M (.Tuple elts kk tpos) (.Call (.Name "enumerate" p) [e] [] pos) Φ := .mk fun σ H R en w k =>
  iOf (pi_enumS hg hm (pa_cons pe_sem pa_nil hs) hs) (h.run σ H _ en w fun v d H1 M1 e1 w1 r1 hz => by
    obtain ⟨x, rfl, hz⟩ := hz
    cases r1
    exact ⟨x, rfl, k _ _ H1 M1 e1 w1 (sq_enumS x) hz⟩)
/-- zip of two tuples -/
def zipD (xs ys : List D) : List D := (xs.zip ys).map fun q => .tup [q.1, q.2]
theorem zipD_get {xs ys : List D} {i : Nat} {d : D} (h : (zipD xs ys)[i]? = some d) : ∃ x y, xs[i]? = some x ∧ ys[i]? = some y ∧ d = .tup [x, y] := by
  unfold zipD at h
  rw [List.getElem?_map] at h
  obtain ⟨⟨x, y⟩, hq, rfl⟩ := Option.map_eq_some_iff.mp h
  rw [List.getElem?_zip_eq_some] at hq
  exact ⟨x, y, hq.1, hq.2, rfl⟩
theorem wi_zipT {elts : List Expr} {kk : Nat} {tpos : Pos} (hm : X.mg "zip" = none) (h : WE X ρ M a fun x M1 => WE X ρ M1 b fun y M2 => ∃ xs ys, x = .tup xs ∧ y = .tup ys ∧ Φ (zipD xs ys) M2) (hg : Gl X "zip" := by rfl)
    (ha : starEach [a, b] X.env = (false, eval a X.env) :: starEach [b] X.env := by rfl) (hb : starEach [b] X.env = (false, eval b X.env) :: starEach [] X.env := by rfl) (hpl : (backTo pos (starEach [b] X.env)).any (·.1) = false := by rfl) : WI X ρ M (.Tuple elts kk tpos) (.Call (.Name "zip" p) [a, b] [] pos) Φ := .mk fun σ H R en w k =>
  iOf (RZ.pi_zipA hg hm (pa_cons pe_sem (pa_cons pe_sem pa_nil hb) ha) ha hpl) (bind2 h en w fun v u x y H2 M2 e2 w2 r1 r2 hz => by
    obtain ⟨xs, ys, rfl, rfl, hz⟩ := hz
    obtain ⟨p1, vs, rfl, hq1, rs1⟩ := r1.tupKeep
    obtain ⟨p2, us, rfl, hq2, rs2⟩ := r2.tupKeep
    refine ⟨p1, p2, vs, us, rfl, .inr ⟨hq1 _ _ _ ExI.refl, hq2 _ _ _ ExI.refl, k _ _ H2 M2 e2 w2 ?_ hz⟩⟩
    intro i M Z H e w
    refine ⟨fun hi => ⟨vs, us, hq1 _ _ _ e, hq2 _ _ _ e, ?_⟩, fun d hd => ?_⟩
    · rw [rs1.length, rs2.length]
      have : (zipD xs ys).length = min xs.length ys.length := by simp [zipD]
      omega
    · obtain ⟨x, y, hx, hy, rfl⟩ := zipD_get hd
      obtain ⟨v, hv, rv⟩ := rs1.get hx
      obtain ⟨u, hu, ru⟩ := rs2.get hy
      refine ⟨⟨vs, us, v, u, hq1 _ _ _ e, hq2 _ _ _ e, hv, hu⟩, fun z H' yl => ?_⟩
      obtain ⟨T, v', u', rfl, hT, rfl, h1, h2⟩ := yl
      have z1 := h1 vs (hq1 _ _ _ e)
      have z2 := h2 us (hq2 _ _ _ e)
      rw [hv] at z1; cases z1
      rw [hu] at z2; cases z2
      have x3 : Ext M Z H M (upd H T (.tup [v, u])) := Ext.new w hT
      exact ⟨x3, w.new hT, .tup (.inl upd_same) (w.fresh hT) (.cons ((rv.monoI e).mono x3) (.cons ((ru.monoI e).mono x3) .nil))⟩)
end
/-- the pairs as values stand -/
def rawOf (es : List DictEntry) (kvs : List (Str × V)) : List (Str × Value) := (kvs.zip es).map fun q => (q.1.1, q.2.val)
theorem pairs_raw {prog : Program} {w : World} : ∀ {kvs : List (Str × V)} {es : List DictEntry}, Paired (fun (p : Str × V) (e : DictEntry) => (∃ t, e.key = .str p.1 t) ∧ RelV p.2 e.val) kvs es →
    Pairs (strKind prog w) es (rawOf es kvs) ∧ (rawOf es kvs).map (·.1) = kvs.map (·.1) ∧ (rawOf es kvs).length = kvs.length ∧ ∀ (i : Nat) (k : Str) (v : V), kvs[i]? = some (k, v) → ∃ u, (rawOf es kvs)[i]? = some (k, u) ∧ RelV v u
  | _, _, .nil => ⟨.nil, rfl, rfl, fun i k v e => by simp at e⟩
  | (k, v) :: kvs, e :: es, .cons ⟨⟨t, hk⟩, hv⟩ r => by
    obtain ⟨h1, h2, h3, h4⟩ := pairs_raw (prog := prog) (w := w) r
    refine ⟨.cons (by rw [hk]; exact strKind_is prog w k t) rfl h1, ?_, ?_, fun i k' v' e' => ?_⟩
    · show k :: (rawOf es kvs).map (·.1) = k :: kvs.map (·.1)
      rw [h2]
    · show (rawOf es kvs).length + 1 = kvs.length + 1
      rw [h3]
    · cases i with
      | zero => simp at e'; obtain ⟨rfl, rfl⟩ := e'; exact ⟨_, rfl, hv⟩
      | succ i => exact h4 i k' v' (by simpa using e')
theorem wrD_at {K : PySem.W.Frag} {w : World} {a : Addr} {kvs : List (Str × V)} (h : WrD K w a kvs) (prog : Program) {hp : Heap} (X : K.In hp) : (a == sysModules) = false ∧ ∃ vs n, hp.DictAt (strKind prog w) a vs n ∧ vs.length = kvs.length ∧ vs.map (·.1) = kvs.map (·.1) ∧ ∀ (i : Nat) (k : Str) (v : V), kvs[i]? = some (k, v) → ∃ u, vs[i]? = some (k, u) ∧ RelV v u := by
  obtain ⟨es, n, hl, hs, hk, pr, nd⟩ := h
  obtain ⟨h1, h2, h3, h4⟩ := pairs_raw (prog := prog) (w := w) pr
  refine ⟨hs, _, n, ⟨_, es, X _ _ hl, ⟨rfl, rfl, rfl⟩, rfl, fun e he => ?_, h1, by rw [h2]; exact nd⟩, h3, h2, h4⟩
  obtain ⟨x, t, e1, e2⟩ := hk.all e (Array.mem_toList_iff.mpr he)
  exact ⟨x, by rw [e1]; exact strKind_is prog w x t, e2⟩
def Itw (kvs : List (Str × V)) : It := ⟨fun i _ => i < kvs.length, fun i H x H' => ∃ T k v, kvs[i]? = some (k, v) ∧ x = .ref T ∧ H T = none ∧ H' = upd H T (.tup [.str k, v]), fun i _ => kvs.length ≤ i⟩
theorem turn_gitems {P : Program} {w : World} {K : PySem.W.Frag} {a : Addr} {kvs : List (Str × V)} {elts : List Expr} {kk : Nat} {tpos : Pos} (hw : WrD K w a kvs) (it : Addr) (ep : Nat) (hep : ∀ es n, K.lookup a = some ⟨.type "dict", none, .dict es n, #[]⟩ → n = ep) :
    Turn P w K (.Tuple elts kk tpos) (Itw kvs) [it] it (fun i h => ∃ ok ov, IsItemIter h it a i kvs.length ep ok ov) where
  mem := by simp
  obj := fun i h st b hb => by
    have e : b = it := by simpa using hb
    subst e
    obtain ⟨ok, ov, e⟩ := st
    exact ⟨_, e, fun v z => nomatch z⟩
  keep := fun i h h' st k => let ⟨ok, ov, e⟩ := st; ⟨ok, ov, k it (by simp) _ e⟩
  item := by
    intro X hP hw' hK hc i pins s σ H E I hf st hg
    subst hP hw' hK
    obtain ⟨es0, n0, hl0, _⟩ := id hw
    have en := hep es0 n0 hl0
    obtain ⟨hs, vs, n, hm, hl, hmm, hv⟩ := wrD_at hw X.prog I.kIn
    have hn : n = ep := by
      obtain ⟨o, es, ho, hx, hd, _⟩ := hm
      rw [I.kIn _ _ hl0] at ho
      cases ho
      injection hd with _ h2
      rw [← h2]; exact en
    subst hn
    obtain ⟨⟨k, v⟩, hkv⟩ : ∃ p, kvs[i]? = some p := ⟨kvs[i], List.getElem?_eq_getElem hg⟩
    obtain ⟨u, hu, ru⟩ := hv i k v hkv
    obtain ⟨ok, ov, he⟩ := st
    rw [← hl] at he
    have hlt : it < s.heap.objs.size := Heap.lt_size he
    refine wpAny_pyNext_items_item he hm hu fun key h' hkey ho hT hz hk => ?_
    refine ⟨_, rfl, wpAny_letOwnedTupleGo_items (s := { s with heap := h' }) ho fun h'' he' sb => ?_⟩
    have hT2 : h''.get? s.heap.objs.size = some { cls := .type "tuple", data := .seq #[key, u] } := (sb.2 _ (Nat.ne_of_gt hlt)).trans hT
    obtain ⟨tk, rfl⟩ : ∃ t, key = .str k t := Value.isStrOf_shape hkey
    have new : ObjOk X.prog X.w (upd H s.heap.objs.size (.tup [.str k, v])) h'' s.heap.objs.size (.tup [.str k, v]) :=
      ⟨by show 2 ≤ sizeLine; decide, [.str k tk, u], .cons ⟨tk, rfl⟩ (.cons ru .nil), ⟨_, hT2, rfl, _, rfl⟩⟩
    have I1 : Inv X pins σ (upd H s.heap.objs.size (.tup [.str k, v])) { s with heap := h'' } :=
      I.turnedNew (t' := s.toks) (ch := [it]) (fun b ob hb e => (sb.2 b (by simpa using hb)).trans (hk b ob (by simpa using hb) e)) hf (Nat.le_refl _) new
    refine ⟨.ref s.heap.objs.size, _, I1, rfl, ⟨_, k, v, hkv, rfl, I.hok.fresh (Nat.le_refl _), rfl⟩, ⟨.str k tk, u, ?_⟩, fun b hb => ?_⟩
    · rw [← hl]; exact he'
    · have e : b = it := by simpa using hb
      rw [e, upd_ne (Nat.ne_of_lt hlt)]
      exact (hf it (by simp)).1
  done := by
    intro X hP hw' hK hc i pins s σ H E I hf st hg
    subst hP hw' hK
    obtain ⟨es0, n0, hl0, _⟩ := id hw
    have en := hep es0 n0 hl0
    obtain ⟨hs, vs, n, hm, hl, hmm, hv⟩ := wrD_at hw X.prog I.kIn
    have hn : n = ep := by
      obtain ⟨o, es, ho, hx, hd, _⟩ := hm
      rw [I.kIn _ _ hl0] at ho
      cases ho
      injection hd with _ h2
      rw [← h2]; exact en
    subst hn
    obtain ⟨f0, f1, f2, f3, f4, f5⟩ := hf it (by simp)
    obtain ⟨ok, ov, he⟩ := st
    rw [← hl] at he
    exact wpAny_pyNext_items_end (I.ok.hd hc) he hm (List.getElem?_eq_none (by rw [hl]; exact hg)) fun h' eb => ⟨rfl, I.turned (t' := s.toks) (fun b ob hb e => eb b ob hb e) f0 f1 f3 f4 f5⟩
  self := fun A i s Q E st h => let ⟨_, _, e⟩ := st; PySem.W.kcp_self e h
section
variable {X : Cx} {ρ : Rho} {M : Mp} {a : Addr} {e f : Expr} {pos p apos : Pos} {x : Str} {kvs : List (Str × V)}
def iGItems (kvs : List (Str × V)) : TI := fun σ H R => R (Itw kvs) H
theorem pi_gitems {elts : List Expr} {kk : Nat} {tpos : Pos} (hm : X.mg x = some (.ref a)) (hw : WrD X.K X.w a kvs) (hg : Gl X x) (hdb : (x == ("__debug__" : Str)) = false) (hbase : attributeBase (.Name x p) "items" X.env (eval (.Name x p) X.env) = eval (.Name x p) X.env) (hline : (apos.endLine == pos.line) = true) :
    PI X (.Tuple elts kk tpos) (.Call (.Attribute (.Name x p) "items" apos) [] [] pos) (iGItems kvs) := by
  refine ⟨fun pins s σ H R I h => ?_⟩
  refine wpAny_Call_method (T := "dict") (id := "dict.items") hbase rfl hline F.plainAttrs_dict F.slot_dict_items F.type_dict_items (ld_glob I hg hm ?_ hdb)
  obtain ⟨es0, n0, hl0, _⟩ := id hw
  obtain ⟨hs, vs, n, hd, hl, hmm, hv⟩ := wrD_at hw X.prog I.kIn
  refine ⟨hd.dictOf.typeIs, hd.dictOf.mapOf.noDict, ?_⟩
  have I2 : Inv X pins σ H { s with heap := s.heap.push { cls := .type "dict_items", data := .fields #[.ref a] } } := I.kept (t' := s.toks) fun b ob q => Heap.get?_push_of_some _ q
  have hn : n = n0 := by
    obtain ⟨o, es, ho, hx, hd', _⟩ := hd
    rw [I.kIn _ _ hl0] at ho
    cases ho
    injection hd' with _ h2
    exact h2.symm
  have fin : wpAny (model X.prog X.w) X.A (pyIter (.ref s.heap.objs.size)) (PIE X pins σ (.Tuple elts kk tpos) R) X.xe { s with heap := s.heap.push { cls := .type "dict_items", data := .fields #[.ref a] } } := by
    refine wpAny_pyIter_items (d := a) (knd := strKind X.prog X.w) ⟨_, Heap.get?_push_size _ rfl, rfl, rfl⟩ (hd.push _) (pi_one (tk := s.toks) I2 _ (turn_gitems hw _ n fun es m hm' => by rw [hl0] at hm'; cases hm'; exact hn.symm) ⟨.none, .none, ?_⟩ h)
    rw [← hl]
    exact Heap.get?_push_size _ rfl
  show wpAny _ _ (callWith pos (.builtin "dict.items") [.ref a] [] []) _ X.xe s
  exact method_meetsIn F.slot_dict_items F.entry_dict_items rfl (PySem.evalArgs_none ⟨rfl, hd.dictOf.typeIs, F.args_dict_items_1 _, _, meets_dict_items (strKind X.prog X.w) a hs, ⟨vs, hd.dictOf⟩, fin⟩)
/-- the data of a written dict's pairs -/
def gitems (ds : List (Str × D)) : List D := ds.map fun q => .tup [.str q.1, q.2]
theorem wi_gitems {elts : List Expr} {kk : Nat} {tpos : Pos} {ds : List (Str × D)} {Φ : List D → Mp → Prop} (hm : X.mg x = some (.ref a)) (hw : WrD X.K X.w a kvs) (hr : ∀ M Z H, RepF X.K M Z H kvs ds) (h : Φ (gitems ds) M) (hg : Gl X x := by rfl) (hdb : (x == ("__debug__" : Str)) = false := by decide)
    (hbase : attributeBase (.Name x p) "items" X.env (eval (.Name x p) X.env) = eval (.Name x p) X.env := by rfl) (hline : (apos.endLine == pos.line) = true := by rfl) : WI X ρ M (.Tuple elts kk tpos) (.Call (.Attribute (.Name x p) "items" apos) [] [] pos) Φ := .mk fun σ H R en w k =>
  iOf (pi_gitems hm hw hg hdb hbase hline) (k _ _ H M Ext.refl w (fun i M' Z' H' e w' => by
    have rf := hr M' Z' H'
    refine ⟨fun hi => ?_, fun d hd => ?_⟩
    · show kvs.length ≤ i
      rw [hi, rf.length]; simp [gitems]
    · unfold gitems at hd
      rw [List.getElem?_map] at hd
      obtain ⟨⟨k, y⟩, hq, rfl⟩ := Option.map_eq_some_iff.mp hd
      obtain ⟨v, hv, rv⟩ := rf.get hq
      refine ⟨(List.getElem?_eq_some_iff.mp hv).1, fun z H2 yl => ?_⟩
      obtain ⟨T, k', v', hkv, rfl, hT, rfl⟩ := yl
      rw [hv] at hkv; cases hkv
      have x3 : Ext M' Z' H' M' (upd H' T (.tup [.str k, v])) := Ext.new w' hT
      exact ⟨x3, w'.new hT, .tup (.inl upd_same) (w'.fresh hT) (.cons (.str _) (.cons (rv.mono x3) .nil))⟩) h)
end
end DL
namespace DL
open PySem PySem.Spec PyProof.Rows L2
section
variable {P : Program} {w : World} {A : Around} {E : Value → Shared → Prop} {s : Shared}
abbrev emptySet (w : World) : Obj := { cls := .type "set", dict := none, data := .set #[] 0 (.fresh 0 0 (!w.params.followText "set-order")) }
end
end DL
namespace DL
open PySem PySem.Spec PyProof.Rows L2
section
variable {X : Cx} {ρ : Rho} {M : Mp} {Φ : D → Mp → Prop} {Θ : Bool → Mp → Prop} {a b e o : Expr} {es : List Expr} {pos p apos : Pos} {x : Str}
theorem we_strS (hm : X.mg "str" = none) (h : WE X ρ M e fun d M1 => ∃ z, d = .str z ∧ Φ (.str z) M1) (hg : Gl X "str" := by rfl)
    (he : starEach [e] X.env = (false, eval e X.env) :: starEach [] X.env := by rfl) (hpl : (backTo pos (starEach [] X.env)).any (·.1) = false := by rfl) : WE X ρ M (.Call (.Name "str" p) [e] [] pos) Φ :=
  we_callTy SkE.call_str_str hm (by decide +kernel) (wa_cons (h.imp fun d M1 h => wa_nil fun Z vs H Q w rr k => by
    obtain ⟨v, rfl, r⟩ := rr.one
    obtain ⟨z, rfl, h⟩ := h
    cases r
    exact ⟨z, rfl, k.now w (.str _) h⟩) he) hg (he := he) (hpl := hpl)
theorem inV_strs (z : Str) : ∀ zs : List Str, inV (.str z) (zs.map V.str) = decide (z ∈ zs)
  | [] => rfl
  | y :: zs => by
    have ih := inV_strs z zs
    unfold inV at ih ⊢
    rw [List.map_cons, List.any_cons, ih]
    show (decide (y = z) || _) = _
    by_cases h : y = z
    · subst h; simp
    · have h' : ¬ z = y := fun q => h q.symm
      simp [h, h']
theorem flat_strs (zs : List Str) : (zs.map V.str).all flatV = true := by
  rw [List.all_map]; exact List.all_eq_true.mpr fun _ _ => rfl
theorem rd_inS {x y : D} (h : ∃ (z : Str) (zs : List Str), x = .str z ∧ (y = .tup (zs.map D.str) ∨ LstOf M y (zs.map D.str)) ∧ Φ (.bl (decide (z ∈ zs))) M) : RD X.K (rIn X.K false) x y M Φ := fun Z v u H Q w r1 r2 k => by
  obtain ⟨z, zs, rfl, hy, h⟩ := h
  cases r1
  rcases hy with rfl | hy
  · obtain ⟨q, vs, rfl, hq, rs⟩ := r2.asTup
    rw [rs.strs] at hq
    exact ⟨q, _, rfl, .inr hq, rfl, flat_strs zs, by rw [inV_strs]; exact k.now w (.bl _) h⟩
  · obtain ⟨q, vs, rfl, hq, rs⟩ := r2.asLst w hy
    rw [rs.strs] at hq
    exact ⟨q, _, rfl, .inl hq, rfl, flat_strs zs, by rw [inV_strs]; exact k.now w (.bl _) h⟩
theorem we_inS (h : WE X ρ M a fun x M1 => WE X ρ M1 b fun y M2 => ∃ (z : Str) (zs : List Str), x = .str z ∧ (y = .tup (zs.map D.str) ∨ LstOf M2 y (zs.map D.str)) ∧ Φ (.bl (decide (z ∈ zs))) M2) (hm : behindInMarks .In b = false := by rfl) : WE X ρ M (.Compare a [.In] [b] pos) Φ :=
  we_cmp op_in_seq hm (h.imp fun _ _ h => h.imp fun _ _ h => rd_inS h)
theorem wt_inS (h : WE X ρ M a fun x M1 => WE X ρ M1 b fun y M2 => ∃ (z : Str) (zs : List Str), x = .str z ∧ (y = .tup (zs.map D.str) ∨ LstOf M2 y (zs.map D.str)) ∧ Θ (decide (z ∈ zs)) M2) (hm : behindInMarks .In b = false := by rfl) : WT X ρ M (.Compare a [.In] [b] pos) Θ :=
  wt_cmp op_in_seq hm (h.imp fun _ _ h => h.imp fun _ _ ⟨z, zs, e1, e2, h⟩ => rd_inS ⟨z, zs, e1, e2, _, rfl, h⟩)
/-- a written tuple of texts -/
theorem we_txts {e1 e2 : Str} {j1 j2 k1 : Nat} {q1 q2 : Pos} (h : Φ (.tup ([e1, e2].map D.str)) M) (hs : starEach [.Constant (.str e1) j1 q1, .Constant (.str e2) j2 q2] X.env = (false, eval (.Constant (.str e1) j1 q1) X.env) :: starEach [.Constant (.str e2) j2 q2] X.env := by rfl) (hs2 : starEach [.Constant (.str e2) j2 q2] X.env = (false, eval (.Constant (.str e2) j2 q2) X.env) :: starEach [] X.env := by rfl) :
    WE X ρ M (.Tuple [.Constant (.str e1) j1 q1, .Constant (.str e2) j2 q2] k1 pos) Φ :=
  we_tup (wa_cons (we_str (wa_cons (we_str (wa_nil ⟨by show 2 ≤ sizeLine; decide, h⟩)) hs2)) hs)
theorem we_powW (h : WE X ρ M a fun x M1 => WE X ρ M1 b fun y M2 => ∃ i j, x = .int i ∧ y = .int j ∧ (0 ≤ j ∧ (Builtin.Int.intBits i : Int) * j ≤ 2 ^ 27) ∧ Φ (.int (i ^ j.toNat)) M2) : WE X ρ M (.BinOp a .Pow b pos) Φ :=
  we_op (r := rI (fun i j => 0 ≤ j ∧ (Builtin.Int.intBits i : Int) * j ≤ 2 ^ 27) fun i j => .int (i ^ j.toNat)) (opI fun _ _ _ _ _ _ _ hc q => pow_int hc.1 hc.2 q) (h.imp fun _ _ h => h.imp fun _ _ h => rd_I h)
theorem we_startsAt {f : Expr} (h : WE X ρ M o fun d M1 => ∃ z, d = .str z ∧ WE X ρ M1 e fun y M2 => WE X ρ M2 f fun u M3 => ∃ s i, y = .str s ∧ u = .int i ∧ Φ (.bl (Txt.startswith3 z s i)) M3)
    (hbase : attributeBase o "startswith" X.env (eval o X.env) = eval o X.env := by rfl) (hline : (apos.endLine == pos.line) = true := by rfl)
    (hfew : ((backTo pos (starEach [e, f] X.env)).all (fun x => !x.1) && (backToKw pos (keywordEach [] X.env)).all (fun x => x.1.isSome) && decide ([e, f].length + ([] : List Keyword).length + (if ([] : List Keyword).isEmpty then 0 else 1) < 30)) = true := by rfl)
    (hs : starEach [e, f] X.env = (false, eval e X.env) :: starEach [f] X.env := by rfl) (hs2 : starEach [f] X.env = (false, eval f X.env) :: starEach [] X.env := by rfl) (hpl : (backTo pos (starEach [f] X.env)).any (·.1) = false := by rfl) : WE X ρ M (.Call (.Attribute o "startswith" apos) [e, f] [] pos) Φ := .mk fun σ H Q en w k => by
  refine eOf (pe_bm F.plainAttrs_str F.slot_str_startswith F.type_str_startswith mt_startswith3 pe_sem (pa_sem (es := [e, f])) hbase hfew hline hs hpl) (h.run σ H _ en w fun v d H1 M1 e1 w1 r1 hz => ?_)
  obtain ⟨z, rfl, hz⟩ := hz
  cases r1
  refine ⟨rfl, (wa_cons (ΦA := fun ds M3 => ∃ s i, ds = [.str s, .int i] ∧ Φ (.bl (Txt.startswith3 z s i)) M3) (hz.imp fun y M2 hy => wa_cons (hy.imp fun u M3 hu => wa_nil ?_) hs2) hs).run σ H1 _ (en.mono e1) w1 fun vs ds H2 M2 e2 w2 r2 hx => ?_⟩
  · obtain ⟨s, i, rfl, rfl, hu⟩ := hu
    exact ⟨s, i, rfl, hu⟩
  · obtain ⟨s, i, rfl, hx⟩ := hx
    obtain ⟨v1, v2, rfl, r3, r4⟩ := r2.two
    cases r3; cases r4
    exact ⟨z, s, i, rfl, rfl, (k.step (e1.trans e2)).now w2 (.bl _) hx⟩
variable {Ψ : DE}
theorem wg_fld {f : Str} {C : Addr} {d : D} {Ω : Rho → Mp → Prop} (h : WE X ρ M o fun x M1 => ∃ q fs, x = .ob q ∧ M1 q = some (.ins C fs) ∧ Cls X.K C ∧ NoAttr X.K C f ∧ fs.length < 1000 ∧ Ω ρ (mset M1 q (.ins C (putD f d fs)))) : WG X (.Attribute o f pos) d ρ M Ω := .mk fun {Z} σ H v Q en w r k => by
  intro pins s u I ru
  refine PySem.W.kas_attr (thn (h.run σ H (fun x H2 => ∃ q C' dx fs, x = .ref q ∧ H2 q = some (.ins C' dx fs) ∧ Cls X.K C' ∧ NoAttr X.K C' f ∧ fs.length < 1000 ∧ Q σ (upd H2 q (.ins C' dx (putF f v fs)))) en w (fun x dx H1 M1 e1 w1 r1 hz => ?_) pins s I) fun ov s2 ⟨y, H2, I2, ry, q2⟩ => ?_)
  · obtain ⟨q, fs, rfl, hM, cl, na, hl, hz⟩ := hz
    cases r1
    obtain ⟨dx, vs, ha, rf⟩ := w1.1 q _ hM
    have x3 : Ext M1 _ H1 (mset M1 q (.ins C (putD f d fs))) (upd H1 q (.ins C dx (putF f v vs))) := Ext.put w1 hM
    exact ⟨q, C, dx, vs, rfl, ha, cl, na, by rw [rf.length]; exact hl, k σ ρ _ _ (e1.trans x3) (w1.put hM ⟨dx, _, upd_same, (rf.mono x3).put (r.mono (e1.trans x3))⟩) (en.mono (e1.trans x3)) hz⟩
  · obtain ⟨q, C', dx, fs, rfl, ha, cl, na, hl, hq⟩ := q2
    cases ry
    exact setattr_ok I2 ha cl na hl ru fun s3 I3 => ⟨σ, _, I3, hq⟩
end
end DL
namespace DL
open PySem PySem.Spec PyProof.Rows L2
/-- the module's def x is the statement st; dvs: its defaults -/
structure Df (K : PySem.W.Frag) (mg : Str → Option Value) (x : Str) (st : Stmt) (dvs : List V) : Prop where
  ex : ∃ (f : Addr) (fd : FuncData), FunD K x x (defArgs st) (defBody st) (defScope st) dvs [] f fd ∧ mg x = some (.ref f)
section
variable {P : Program} {w : World} {K : PySem.W.Frag} {mg : Str → Option Value} {base : Heap} {x : Str} {st : Stmt} {N ps : List Str} {j k n : Nat} {c : Con} {dd : List D} {C : Addr} {m : Str}
theorem Fc.up (F : Fc P w K mg base x dd j n c) (h : j ≤ k) : Fc P w K mg base x dd k n c := by
  obtain ⟨f, fd, ps, dvs, ds, F, r⟩ := F.ex
  exact ⟨f, fd, ps, dvs, ds, F.mono h, r⟩
theorem Kc.up (F : Kc P w K mg base x C dd j n c) (h : j ≤ k) : Kc P w K mg base x C dd k n c := by
  obtain ⟨f, fd, ps, dvs, ds, G, r⟩ := F.ex
  exact ⟨F.at_, f, fd, ps, dvs, ds, G.mono h, r⟩
theorem Mc.up (F : Mc P w K mg base C m dd j n c) (h : j ≤ k) : Mc P w K mg base C m dd k n c := by
  obtain ⟨f, fd, ps, dvs, ds, G, r⟩ := F.ex
  exact ⟨F.cl, f, fd, ps, dvs, ds, G.mono h, r⟩
theorem Pc.up (F : Pc P w K mg base C m j c) (h : j ≤ k) : Pc P w K mg base C m k c := by
  obtain ⟨p, g, fd, ps, G, r⟩ := F.ex
  exact ⟨F.cl, p, g, fd, ps, G.mono h, r⟩
theorem Df.fc (D : Df K mg x st []) (S : FnScope N ps (defScope st))
    (hb : ∀ (kV doc pm : Value) (an : Option Addr) (cdv ct : Value) (us : List Value), us.length = ps.length → bindArgs (PySem.W.fnOf x x (defArgs st) (defBody st) (defScope st) .none kV doc pm an cdv ct) ⟨us, []⟩ = pure (ps.zip us))
    (h : BodyOk P w K mg base x st N ps.length k c) : Fc P w K mg base x [] (k + 1) ps.length c := by
  obtain ⟨f, fd, F, hm⟩ := D.ex
  exact ⟨f, fd, ps, [], [], fn_ok F S (h f), hm, F.kp, F.bindsN hb, .nil, fun _ _ _ => .nil⟩
/-- with defaults: n values are written, the defaults behind the first j fill up -/
theorem Df.fcD {dvs : List V} (D : Df K mg x st dvs) (S : FnScope N ps (defScope st)) (nn jj : Nat) (hd : dvs ≠ []) (hn : nn + (dvs.length - jj) = ps.length) (hr : ∀ M Z H, Reps K M Z H (dvs.drop jj) dd)
    (hb : ∀ (T : Addr) (kV doc pm : Value) (an : Option Addr) (cdv ct : Value) (us its : List Value), us.length = nn → its.length = dvs.length →
      ∃ k, bindArgs (PySem.W.fnOf x x (defArgs st) (defBody st) (defScope st) (.ref T) kV doc pm an cdv ct) ⟨us, []⟩ = seqItems? (.ref T) >>= k ∧ k (some its.toArray) = pure (ps.zip (us ++ its.drop jj)))
    (h : BodyOk P w K mg base x st N ps.length k c) : Fc P w K mg base x dd (k + 1) ps.length c := by
  obtain ⟨f, fd, F, hm⟩ := D.ex
  obtain ⟨ds, hv, hB⟩ := F.binds1 (ps := ps) nn jj hd hn hb
  exact ⟨f, fd, ps, dvs.drop jj, ds, fn_ok F S (h f), hm, F.kp, hB, hv, hr⟩
end
section
variable {P : Program} {w : World} {K : PySem.W.Frag} {mg : Str → Option Value} {base : Heap} {x qual : Str} {st : Stmt} {N ps : List Str} {j k n : Nat} {c : Con} {dd : List D} {C : Addr} {m : Str} {f p : Addr}
theorem Md.pc (D : Md K C m qual st f) (cl : Cls K C) (me : PropOf K C m p f) (S : FnScope N ["self"] (defScope st))
    (hb : ∀ (kV doc pm : Value) (an : Option Addr) (cdv ct : Value) (us : List Value), us.length = 1 → bindArgs (PySem.W.fnOf m qual (defArgs st) (defBody st) (defScope st) .none kV doc pm an cdv ct) ⟨us, []⟩ = pure ((["self"] : List Str).zip us))
    (h : BodyOk P w K mg base qual st N 1 k c) : Pc P w K mg base C m (k + 1) c := by
  obtain ⟨fd, F⟩ := D.ex
  exact ⟨cl, p, f, fd, ["self"], fn_ok F S (h f), me, F.bindsN hb⟩
theorem Md.kc (D : Md K C "__init__" qual st f) (hm : mg x = some (.ref C)) (me : Mk K C f) (S : FnScope N ps (defScope st))
    (hb : ∀ (kV doc pm : Value) (an : Option Addr) (cdv ct : Value) (us : List Value), us.length = ps.length → bindArgs (PySem.W.fnOf "__init__" qual (defArgs st) (defBody st) (defScope st) .none kV doc pm an cdv ct) ⟨us, []⟩ = pure (ps.zip us))
    (h : BodyOk P w K mg base qual st N ps.length k c) : Kc P w K mg base x C [] (k + 1) ps.length c := by
  obtain ⟨fd, F⟩ := D.ex
  exact ⟨hm, f, fd, ps, [], [], fn_ok F S (h f), me, F.bindsN hb, .nil, fun _ _ _ => .nil⟩
end
end DL
namespace DL
open PySem PySem.Spec PyProof.Rows L2
/-- d can be compared: it is p, k deep at most -/
structure CmpD (d : D) (p : PyData) (k : Nat) : Prop where
  eq : toPy d = some p
  lay : p.canLay0 = true
  dep : p.depth ≤ k
theorem CmpD.shaped {d : D} {p : PyData} {k : Nat} (h : CmpD d p k) (hk : k ≤ 64) : SeqAt.shaped p = true := by
  unfold SeqAt.shaped
  rw [h.lay, decide_eq_true (Nat.le_trans h.dep hk)]; rfl
theorem cmp_int (i : Int) : CmpD (.int i) (.int i) 0 := ⟨by simp [toPy], by simp [PyData.canLay0], by simp [PyData.depth]⟩
theorem cmp_bl (i : Bool) : CmpD (.bl i) (.bool i) 0 := ⟨by simp [toPy], by simp [PyData.canLay0], by simp [PyData.depth]⟩
theorem cmp_non : CmpD .non .none 0 := ⟨by simp [toPy], by simp [PyData.canLay0], by simp [PyData.depth]⟩
theorem cmp_str {x : Str} (h : ∀ c ∈ x.cps.toList, c < 0x110000) : CmpD (.str x) (.str x) 0 := ⟨by simp [toPy], by
  simp only [PyData.canLay0, PyData.strOk]
  rw [← Array.all_toList]
  exact List.all_eq_true.mpr fun c hc => decide_eq_true (h c hc), by simp [PyData.depth]⟩
theorem cmps_nil {k : Nat} : CmpDs [] [] k := ⟨by simp [toPys], by simp [PyData.canLayAll0], by simp [PyData.depthAll]⟩
theorem cmps_cons {d : D} {p : PyData} {ds : List D} {ps : List PyData} {k j : Nat} (h : CmpD d p j) (hj : j ≤ k) (t : CmpDs ds ps k) : CmpDs (d :: ds) (p :: ps) k := ⟨by
  simp only [toPys, h.eq, t.eq]; rfl, by simp only [PyData.canLayAll0, h.lay, t.lay]; rfl, by
  simp only [PyData.depthAll]; have := h.dep; have := t.dep; omega⟩
theorem cmps_map {α : Type} {f : α → D} {g : α → PyData} {k j : Nat} (hj : j ≤ k) : ∀ {xs : List α}, (∀ x ∈ xs, CmpD (f x) (g x) j) → CmpDs (xs.map f) (xs.map g) k
  | [], _ => cmps_nil
  | x :: xs, h => cmps_cons (h x List.mem_cons_self) hj (cmps_map hj fun y hy => h y (List.mem_cons_of_mem _ hy))
theorem cmp_lst {ds : List D} {ps : List PyData} {k : Nat} (h : CmpDs ds ps k) : CmpD (.lst ds) (.list ps) (k + 1) := ⟨by simp only [toPy, h.eq]; rfl, by simp only [PyData.canLay0, h.lay], by simp only [PyData.depth]; have := h.dep; omega⟩
theorem cmp_tup {ds : List D} {ps : List PyData} {k : Nat} (h : CmpDs ds ps k) : CmpD (.tup ds) (.tuple ps) (k + 1) := ⟨by simp only [toPy, h.eq]; rfl, by simp only [PyData.canLay0, h.lay], by simp only [PyData.depth]; have := h.dep; omega⟩
theorem eqv_nilL (ps : List PyData) : PyData.eqv (.list ps) (.list []) = ps.isEmpty := by
  cases ps <;> simp [PyData.eqv, PyData.eqvAll]
section
variable {X : Cx} {ρ : Rho} {M : Mp} {Φ : D → Mp → Prop} {Θ : Bool → Mp → Prop} {a b : Expr} {pos : Pos}
theorem shaped_nilL : SeqAt.shaped (.list []) = true := by decide +kernel
theorem isEmpty_len {α β : Type} {xs : List α} {ys : List β} (h : xs.length = ys.length) : xs.isEmpty = ys.isEmpty := by
  cases xs <;> cases ys <;> simp_all
/-- x != [] -/
theorem wt_neNil {lp : Pos} (hu : X.A.units + 64 < cLine) (h : WE X ρ M a fun x M1 => ∃ xs ps k, x = .lst xs ∧ CmpDs xs ps k ∧ k ≤ 60 ∧ Θ (!xs.isEmpty) M1) : WT X ρ M (.Compare a [.NotEq] [.List [] lp] pos) Θ :=
  wt_neD hu (h.imp fun x M1 ⟨xs, ps, k, e, c, hk, h⟩ => we_lst (wa_nil ⟨Nat.zero_le _, _, _, by rw [e]; exact (cmp_lst c).eq, by simp [toPy, toPys], (cmp_lst c).shaped (by omega), shaped_nilL, by rw [eqv_nilL, isEmpty_len c.length]; exact h⟩))
end
end DL
namespace DL
open PySem PySem.Spec PyProof.Rows L2
section
variable {P : Program} {w : World} {K : PySem.W.Frag} {mg : Str → Option Value} {base : Heap} {x qual : Str} {st : Stmt} {kws : List (Str × V)} {f : Addr} {fd : FuncData} {N ps : List Str} {k n : Nat} {c : Con}
theorem FnG.mono {j : Nat} {sp : Sp} (F : FnG P w K mg base j f fd ps sp) (h : j ≤ k) : FnG P w K mg base k f fd ps sp := ⟨F.len, fun A outer s H args us vs Q E hg hr => F.run A outer s H args us vs Q E hg (hr.mono h)⟩
/-- a body keeps a contract where nothing is being shown -/
def BodyG (P : Program) (w : World) (K : PySem.W.Frag) (mg : Str → Option Value) (base : Heap) (qual : Str) (st : Stmt) (N : List Str) (n k : Nat) (c : Con) : Prop :=
  ∀ (f : Addr) (cdv : Value) (A : Around) (outer : List Env) (s : Shared) (H : Hp) (E : XK), (A.deeper (envOfC qual (defScope st) s.heap.objs.size f cdv)).guards = some [] → Room k (A.deeper (envOfC qual (defScope st) s.heap.objs.size f cdv)) → ∀ ds M Φ, ds.length = n → c ds M Φ →
      WSs (bx P w K mg base N qual (defScope st) f cdv A outer s H E) (start N ds) M (defBody st) { nx := fun _ M' => Φ .non M', rt := Lets Φ }
theorem fnG_ok {dvs : List V} (F : FunD K x qual (defArgs st) (defBody st) (defScope st) dvs kws f fd) (S : FnScope N ps (defScope st)) (h : BodyG P w K mg base qual st N ps.length k c) : FnG P w K mg base (k + 1) f fd ps (spD K ps.length c) := by
  obtain ⟨oc, od, dV, kV, doc, pm, an, cdv, ct, osl, rfl, lk, hcd, _, _⟩ := F.ex
  have ln : ∀ vs H Q E, spD K ps.length c vs H Q E → vs.length = ps.length := fun vs H Q E q => by
    obtain ⟨ds, M, Z, Φ, hl, r, _⟩ := q
    rw [r.length, hl]
  refine ⟨ln, fun A outer s H args us vs Q E hg hr e0 hb rv hsp => ?_⟩
  have hlen := ln _ _ _ _ hsp
  have hK : K.In s.heap := e0.mod.kin.keeps fun b o z => (e0.bs b o z).1
  have hlim : s.heap.NoLimit := e0.mod.nolimit.keeps fun b o z => (e0.bs b o z).1
  have kinds : ∀ y ∈ ps.zip us, (defScope st).names.lookup y.1 = some .local ∨ ((defScope st).names.lookup y.1 = some .cell ∧ ((cellsFrom (s.heap.objs.size + 1) (defScope st).names []).lookup y.1).isSome = true) := fun y hy => by
    rcases S.par y.1 (List.of_mem_zip hy).1 with z | z
    · exact .inl z
    · exact .inr ⟨z, PySem.W.cellsFrom_some _ _ _ (.inl z)⟩
  refine codeAny_call_function hr.depth (hK _ _ lk) rfl S.co S.gen rfl (PySem.W.codeRec_of hK hcd) (hb _ _ _ _ (wpAny_newFunctionEnv_cells S.kind kinds fun env he s1 xx => ?_))
  subst he
  refine ⟨hlim.keeps xx.toInCall.keep, codeAny_func ?_⟩
  obtain ⟨ds, M, Z, Φ, hl, r, wd, hc, kk⟩ := hsp
  have I : Inv (cxOf CX0 P w K mg base N qual (defScope st) f cdv A outer s H E) [] (L2.start N vs) H s1 := inv_start S hr.hd e0 hlen rv xx
  have body := (h f cdv A outer s H E hg (hr.deeper _) ds M Φ hl hc).run (L2.start N vs) H { nx := fun _ H' => Q .non H', rt := Q } (env_start r) wd ⟨fun σ' ρ' H' M' x w' en z => kk _ .non H' M' x w' .non z, lets_k kk, fun _ _ _ _ _ _ _ z => z.elim, fun _ _ _ _ _ _ _ z => z.elim⟩
  have done : ∀ {σ' : L2.St} {H' : Hp} {v : V} {u : Value} {s' : Shared}, Inv (cxOf CX0 P w K mg base N qual (defScope st) f cdv A outer s H E) [] σ' H' s' → RelV v u → Q v H' → CE outer P w H s Q u s' := fun {σ' H' v u s'} J ru q => ⟨v, H', J.os, J.bare, J.base, J.hok, ru, q⟩
  refine wpAny_mono ((PSs.nox (pss_sem (X := bx P w K mg base N qual (defScope st) f cdv A outer s H E))).run [] s1 (L2.start N vs) H _ I body) (fun fl s' hs => ?_) fun e s' hs => hs
  cases fl with
  | ret u => obtain ⟨v, σ', H', J, ru, q⟩ := hs; exact done J ru q
  | next => obtain ⟨σ', H', J, q⟩ := hs; exact done (v := V.non) (u := Value.none) J rfl q
  | brk => obtain ⟨_, _, _, q⟩ := hs; exact q.elim
  | cont => obtain ⟨_, _, _, q⟩ := hs; exact q.elim
/-- such a def under its name -/
structure Gc (P : Program) (w : World) (K : PySem.W.Frag) (mg : Str → Option Value) (base : Heap) (x : Str) (k n : Nat) (c : Con) : Prop where
  ex : ∃ (f : Addr) (fd : FuncData) (ps : List Str), FnG P w K mg base k f fd ps (spD K n c) ∧ mg x = some (.ref f) ∧ PySem.W.keepIn K (.ref f) = true ∧ Binds K fd ps []
theorem Df.gc (D : Df K mg x st []) (S : FnScope N ps (defScope st))
    (hb : ∀ (kV doc pm : Value) (an : Option Addr) (cdv ct : Value) (us : List Value), us.length = ps.length → bindArgs (PySem.W.fnOf x x (defArgs st) (defBody st) (defScope st) .none kV doc pm an cdv ct) ⟨us, []⟩ = pure (ps.zip us))
    (h : BodyG P w K mg base x st N ps.length k c) : Gc P w K mg base x (k + 1) ps.length c := by
  obtain ⟨f, fd, F, hm⟩ := D.ex
  exact ⟨f, fd, ps, fnG_ok F S h, hm, F.kp, F.bindsN hb⟩
end
section
variable {X : Cx} {ρ : Rho} {M : Mp} {Φ : D → Mp → Prop} {e : Expr} {es : List Expr} {pos p : Pos} {x : Str} {k n : Nat} {c : Con}
theorem we_callG (F : Gc X.prog X.w X.K X.mg X.base x k n c) (hg0 : X.A.guards = some []) (hr : Room k X.A) (h : WA X ρ M (e :: es) fun ds M1 => ds.length = n ∧ c ds M1 Φ) (hg : Gl X x := by rfl)
    (hdb : (x == ("__debug__" : Str)) = false := by decide) (he : starEach (e :: es) X.env = (false, eval e X.env) :: starEach es X.env := by rfl) (hpl : (backTo pos (starEach es X.env)).any (·.1) = false := by rfl) : WE X ρ M (.Call (.Name x p) (e :: es) [] pos) Φ := .mk fun {Z} σ H Q en w k => by
  obtain ⟨f, fd, ps, F, hm, hk, hb⟩ := F.ex
  intro pins s I
  refine wpAny_Call_Name_kw (ld_glob I hg hm ?_ hdb)
  refine PySem.W.callWith_K (h₀ := X.base) I.ok.mod.kin hk (thn ((pa_sem (es := e :: es)).run pos pins s σ H (fun vs H1 => spD X.K n c vs H1 Q E0) I (h.run σ H _ en w fun vs ds H1 M1 e1 w1 r1 hz => ⟨ds, M1, Z, Φ, hz.1, r1, w1, hz.2, k.step e1⟩)) fun us s1 z => ⟨?_, ?_⟩) he hpl
  · obtain ⟨vs, H1, I1, r, q⟩ := z; exact I1.kIn
  · obtain ⟨vs, H1, I1, r, q⟩ := z
    have hl : (us ++ ([] : List Value)).length = ps.length := by rw [List.append_nil, ← r.length]; exact F.len _ _ _ _ q
    have bt := hb s1 us I1.kIn hl
    rw [List.append_nil] at bt
    refine wpAny_call (codeAny_mono (F.run X.A X.stack s1 H1 ⟨us, []⟩ us vs Q E0 hg0 hr I1.env0 bt r q) fun res s' hq => ?_)
    cases res with
    | error er => exact hq.elim
    | ok fl =>
      cases fl with
      | ret u => exact I1.after hq
      | next => exact hq.elim
      | brk => exact hq.elim
      | cont => exact hq.elim
end
end DL
namespace DL
open PySem PySem.Spec PyProof.Rows L2
section
variable {X : Cx} {ρ : Rho} {M : Mp} {Φ : D → Mp → Prop} {e : Expr} {pos p : Pos}
theorem cr_reprD (hg : X.A.guards = some []) (hu : X.A.units + 64 < cLine) : CallR X (.builtin "repr") (fun xs H Q => ∃ v q, xs = [v] ∧ Dp X.K H v q ∧ q.showable = true ∧ q.canLay0 = true ∧ q.depth ≤ 60 ∧ q.shown.length ≤ sizeLine ∧ Q (.str q.shown) H) := by
  intro pins s σ H xs us Q I r h
  obtain ⟨v, q, rfl, hd, hs, hc, hk, hz, h⟩ := h
  obtain ⟨u, rfl, ru⟩ := vals1 r
  obtain ⟨as, rd⟩ := Dp.reads I q v u hd ru
  have fin : ∀ (h' : Heap) (tk : Nat) (t : Tok), (∀ b o, s.heap.get? b = some o → h'.get? b = some o) → EP X pins σ Q (.str q.shown t) { s with heap := h', toks := tk } := fun h' tk t kp => ⟨.str q.shown, H, I.kept kp, ⟨t, rfl⟩, h⟩
  have same : ∀ (tk : Nat) (t : Tok), EP X pins σ Q (.str q.shown t) { s with toks := tk } := fun tk t => ⟨.str q.shown, H, I.tok tk, ⟨t, rfl⟩, h⟩
  have big : ∀ a, u = .ref a → wpAny (model X.prog X.w) X.A (call (.builtin "repr") [u]) (EP X pins σ Q) X.xe s := fun a ea => by
    subst ea
    exact repr_of_reads' rd hs (fun z => by rw [PyData.hasDict_of_canLay q hc] at z; cases z) hg (by omega) (fun _ _ z => z) (fun h' t tk kp => fin h' tk t kp) hz
  cases hd with
  | non => cases ru; exact PySem.P.repr_of_none (by simp only [PyData.shown] at same; exact same _ _)
  | bl b => cases ru; exact PySem.P.repr_of_bool (by simp only [PyData.shown] at same; exact same _ _)
  | int i =>
    obtain ⟨t, rfl⟩ := ru
    simp only [PyData.showable, decide_eq_true_eq] at hs
    exact PySem.P.repr_of_int hs (by simp only [PyData.shown] at same; exact same _ _)
  | str x =>
    obtain ⟨t, rfl⟩ := ru
    simp only [PyData.shown] at hz
    exact PySem.P.repr_of_str (by simp only [PyData.shown] at same; exact same _ _) hz
  | lst h1 h2 => cases ru; exact big _ rfl
  | tup h1 h2 => cases ru; exact big _ rfl
end
end DL
namespace DL
open PySem PySem.Spec PyProof.Rows L2
section
variable {X : Cx} {ρ : Rho} {M : Mp} {Φ : D → Mp → Prop} {e : Expr} {pos p : Pos}
def TupsV (K : PySem.W.Frag) (H : Hp) : List V → List (List Int) → Prop := Paired fun x ns => ∃ t, x = V.ref t ∧ SqT K H t (ns.map V.int)
theorem TupsV.raw {pins : List (Addr × Obj)} {σ : L2.St} {H : Hp} {s : Shared} (I : Inv X pins σ H s) : ∀ {xs : List V} {ps : List (List Int)} {us : List Value}, TupsV X.K H xs ps → Vals xs us → us.map (TS.intsOf s.heap) = ps ∧ ∀ u ∈ us, TS.TupInts s.heap u (TS.intsOf s.heap u)
  | _, _, _, .nil, .nil => ⟨rfl, fun u hu => by simp at hu⟩
  | _, _, _, .cons h t, .cons r v => by
    obtain ⟨a, rfl, hq⟩ := h
    cases r
    obtain ⟨h1, h2⟩ := TupsV.raw I t v
    have q := tupI_raw I hq
    refine ⟨by rw [List.map_cons, q.ints, h1], fun u hu => ?_⟩
    rcases List.mem_cons.mp hu with rfl | hu
    · rw [q.ints]; exact q
    · exact h2 u hu
theorem Reps.tups {K : PySem.W.Frag} {M : Mp} {Z : Zn} {H : Hp} : ∀ {vs : List V} {ps : List (List Int)}, Reps K M Z H vs (ps.map fun q => .tup (q.map D.int)) → TupsV K H vs ps
  | _, [], .nil => .nil
  | _, q :: ps, .cons r t => by
    obtain ⟨a, us, rfl, hq, rs⟩ := r.asTup
    rw [rs.ints] at hq
    exact .cons ⟨a, rfl, hq⟩ (Reps.tups t)
end
end DL
namespace DL
open PySem PySem.Spec PyProof.Rows L2 SX
/-- shown, at most b signs -/
structure ShD (p : PyData) (b : Nat) : Prop where
  ok : p.showable = true
  le : p.shown.length ≤ b
end DL
namespace DL
open PySem PySem.Spec PyProof.Rows L2
def keyD : Key → D
  | .inl i => .int i
  | .inr x => .str x
section
variable {X : Cx} {ρ : Rho} {M : Mp} {Φ : D → Mp → Prop} {Θ : Bool → Mp → Prop} {a b e o i : Expr} {es : List Expr} {pos p : Pos}
def putT (kvs : List (List Key × D)) (k : List Key) (d : D) : List (List Key × D) := if (kvs.any fun kv => decide (kv.1 = k)) = true then kvs.map (fun kv => if kv.1 = k then (kv.1, d) else kv) else kvs ++ [(k, d)]
theorem RepT.snoc {K : PySem.W.Frag} {M : Mp} {Z : Zn} {H : Hp} {k : List Key} {v : V} {d : D} (r : Rep K M Z H v d) : ∀ {vs : List (List Key × V)} {ds : List (List Key × D)}, RepT K M Z H vs ds → RepT K M Z H (vs ++ [(k, v)]) (ds ++ [(k, d)])
  | _, _, .nil => .cons r .nil
  | _, _, .cons r1 t => .cons r1 (RepT.snoc r t)
theorem RepT.repl {K : PySem.W.Frag} {M : Mp} {Z : Zn} {H : Hp} {k : List Key} {v : V} {d : D} (r : Rep K M Z H v d) : ∀ {vs : List (List Key × V)} {ds : List (List Key × D)}, RepT K M Z H vs ds → RepT K M Z H (vs.map fun kv => if kv.1 = k then (kv.1, v) else kv) (ds.map fun kv => if kv.1 = k then (kv.1, d) else kv)
  | _, _, .nil => .nil
  | _, _, .cons (k := j) r1 t => by
    rw [List.map_cons, List.map_cons]
    by_cases e : j = k
    · simp only [if_pos e]; exact .cons r (RepT.repl r t)
    · simp only [if_neg e]; exact .cons r1 (RepT.repl r t)
theorem RepT.put {K : PySem.W.Frag} {M : Mp} {Z : Zn} {H : Hp} {k : List Key} {v : V} {d : D} {vs : List (List Key × V)} {ds : List (List Key × D)} (r : Rep K M Z H v d) (t : RepT K M Z H vs ds) : RepT K M Z H (putK vs k v) (putT ds k d) := by
  unfold putK putT
  rw [t.any]
  split
  · exact t.repl r
  · exact t.snoc r
end
end DL
namespace DL
open PySem PySem.Spec PyProof.Rows L2 SlX
theorem slH_made {H1 : Hp} {x dx C : Addr} {vs : List (Option V)} (h : dx ≠ x) : slH (upd (upd H1 dx (.own x)) x (.ins C dx [])) x C dx vs = upd (upd H1 dx (.xd [])) x (SlO x C dx vs) := by
  funext b
  unfold slH
  by_cases h1 : b = x
  · rw [h1, upd_same, upd_same]
  · by_cases h2 : b = dx
    · rw [h2, upd_ne h, upd_same, upd_ne h, upd_same]
    · rw [upd_ne h1, upd_ne h2, upd_ne h1, upd_ne h2, upd_ne h1, upd_ne h2]
section
variable {X : Cx} {ρ : Rho} {M : Mp} {Φ : D → Mp → Prop} {Θ : Bool → Mp → Prop} {a b e o : Expr} {es : List Expr} {pos p apos : Pos} {x : Str} {C : Addr} {k : Nat} {out : List Int → List Int} {dd : List Int}
/-- a method of such an instance -/
structure Mg (P : Program) (w : World) (K : PySem.W.Frag) (mg : Str → Option Value) (base : Heap) (C : Addr) (m : Str) (k n : Nat) (c : Con) : Prop where
  sc : SCls K C
  ex : ∃ (f : Addr) (fd : FuncData) (ps : List Str), FnOk P w K mg base CX0 k f fd ps (spD K n c) ∧ Meth K C m f ∧ Binds K fd ps []
end
end DL
namespace HK
open PySem PySem.Spec PyProof.Rows L2 DL He
theorem propB_ok {K : PySem.W.Frag} {C m : Str} (h : propB K (C, m) = true) : PropOf K (ga K C) m (ma K (ga K C) m) (pgA C m K) := by
  obtain ⟨h1, h2⟩ := Bool.and_eq_true_iff.mp h
  obtain ⟨h3, h4⟩ := Bool.and_eq_true_iff.mp h2
  obtain ⟨h5, h6⟩ := Bool.and_eq_true_iff.mp h4
  refine ⟨eqO_ok h1, eqO_ok h3, of_decide_eq_true h5, ?_⟩
  unfold pgA
  cases q : PySem.W.recIn K (ma K (ga K C) m) "property" with
  | none => rw [q] at h6; cases h6
  | some l =>
    rw [q] at h6
    cases l with
    | nil => cases h6
    | cons v r =>
      cases v with
      | ref g => exact ⟨r, rfl⟩
      | _ => cases h6
theorem eqB_ok {K : PySem.W.Frag} {x : Str} (h : eqB K x = true) : PySem.W.selfFirst K (ga K x) = true ∧ OwnC K (ga K x) ∧ PySem.W.findIn K (.ref (ga K x)) "__ne__" = some (some (.builtin "object.__ne__")) := by
  obtain ⟨h0, h⟩ := Bool.and_eq_true_iff.mp h
  obtain ⟨h1, h⟩ := Bool.and_eq_true_iff.mp h
  obtain ⟨h2, h⟩ := Bool.and_eq_true_iff.mp h
  obtain ⟨h3, h⟩ := Bool.and_eq_true_iff.mp h
  obtain ⟨h4, h⟩ := Bool.and_eq_true_iff.mp h
  obtain ⟨h5, h⟩ := Bool.and_eq_true_iff.mp h
  exact ⟨h0, ⟨cls_ok h1, eqO_ok h2, eqO_ok h3, of_decide_eq_true h4, of_decide_eq_true h5⟩, eqO_ok h⟩
theorem nonV_ok {v : Value} (h : nonV v = true) : v = .none := by cases v <;> first | rfl | cases h
theorem excB_ok {K : PySem.W.Frag} {C : Addr} (q : excB K C = true) : ∃ nm qn N bs bm sn sub ab col dd k0 k1 k2 k3 k5, K.lookup C = some (excClassObj nm qn C N bs bm true sn sub ab col dd k0 k1 k2 k3 k5 "ValueError.__new__") ∧ PySem.HandSPX.refsVE bm = true := by
  unfold excB at q
  split at q
  · rename_i t dd cd sl ho
    obtain ⟨h0, q0⟩ := Bool.and_eq_true_iff.mp q
    clear q
    have h0 := of_decide_eq_true h0
    split at q0
    · rename_i C' bm k0 k1 k2 k3 n k5 hm hs
      obtain ⟨h1, q1⟩ := Bool.and_eq_true_iff.mp q0
      obtain ⟨h2, q2⟩ := Bool.and_eq_true_iff.mp q1
      obtain ⟨h3, q3⟩ := Bool.and_eq_true_iff.mp q2
      obtain ⟨h4, h5⟩ := Bool.and_eq_true_iff.mp q3
      have h1 := of_decide_eq_true h1
      have h2 := of_decide_eq_true h2
      clear q0 q1 q2 q3
      obtain ⟨nm, bs, mro, ns, qn, hd, sn, sub, ab, col, del⟩ := cd
      dsimp only at hm h3 h4
      have h6 : del = false := by cases del <;> first | rfl | cases h3
      clear h3
      obtain ⟨l⟩ := sl
      simp only at hs
      subst h0 h1 h2 hm h4 h6 hs
      exact ⟨nm, qn, ns, bs, bm, sn, sub, ab, col, dd, k0, k1, k2, k3, k5, ho, h5⟩
    · cases q0
  · cases q
theorem all_cons {b : Bool} {l : List Bool} (h : (b :: l).all id = true) : b = true ∧ l.all id = true := by
  rw [List.all_cons] at h
  exact Bool.and_eq_true_iff.mp h
theorem erB_ok {K : PySem.W.Frag} {mg : Str → Option Value} {x : Str} (h : erB K x = true) (hm : mg x = some (.ref (ga K x))) : XL.ErTxt K mg x (ga K x) (ga K "CrowdError") (ma K (ga K "CrowdError") "__init__") ∧ XL.ErV K (ga K x) ∧ PySem.W.kitOne K (.type "NoneType") (.ref (ga K x)) = some false ∧ PySem.W.exmOne K (.ref (ga K x)) (.ref (ga K "CrowdError")) = some true := by
  obtain ⟨h1, h⟩ := all_cons h
  obtain ⟨h2, h⟩ := all_cons h
  obtain ⟨h3, h⟩ := all_cons h
  obtain ⟨h4, h⟩ := all_cons h
  obtain ⟨h5, h⟩ := all_cons h
  obtain ⟨h6, h⟩ := all_cons h
  obtain ⟨h7, h⟩ := all_cons h
  obtain ⟨h8, h⟩ := all_cons h
  obtain ⟨h9, h⟩ := all_cons h
  obtain ⟨h10, h⟩ := all_cons h
  obtain ⟨h11, h⟩ := all_cons h
  obtain ⟨h12, h⟩ := all_cons h
  obtain ⟨h13, h⟩ := all_cons h
  obtain ⟨h14, h⟩ := all_cons h
  obtain ⟨h15, h⟩ := all_cons h
  obtain ⟨h16, h⟩ := all_cons h
  obtain ⟨h17, h⟩ := all_cons h
  obtain ⟨h18, h⟩ := all_cons h
  obtain ⟨h19, h⟩ := all_cons h
  obtain ⟨h20, h⟩ := all_cons h
  obtain ⟨h21, h⟩ := all_cons h
  exact ⟨⟨hm, excB_ok h1, h2, eqO_ok h3, eqO_ok h4, eqO_ok h5, eqO_ok h6, eqO_ok h7, h8, of_decide_eq_true h9, of_decide_eq_true h10, of_decide_eq_true h11, of_decide_eq_true h12, h13, eqO_ok h14⟩,
    ⟨h15, eqO_ok h4, eqO_ok h5, of_decide_eq_true h9, h13, eqO_ok h6, eqO_ok h16, eqO_ok h17, of_decide_eq_true h18, of_decide_eq_true h19⟩, of_decide_eq_true h20, of_decide_eq_true h21⟩
theorem clsIn_ob {K : PySem.W.Frag} {C : Addr} (h : (PySem.W.clsIn K C).isSome = true) : ∃ o cd, K.lookup C = some o ∧ o.data = .cls cd := by
  unfold PySem.W.clsIn at h
  split at h
  · rename_i ho
    exact ⟨_, _, ho, rfl⟩
  · cases h
theorem crB_ok {P : Program} {K : PySem.W.Frag} {file : Str} {st : Stmt} (h : crB K file = true) (e : fnZ K (crA K) = crVal st) (hf : (P.main.file == file) = true) (hs : (P.main.scope.names.lookup ("super" : Str)).isSome = false) :
    ∃ cl, XL.CrTxt P K "CrowdError.__init__" (defArgs st) (defBody st) (defScope st) (ga K "CrowdError") (crA K) cl := by
  obtain ⟨h1, h⟩ := Bool.and_eq_true_iff.mp h
  obtain ⟨h2, h⟩ := Bool.and_eq_true_iff.mp h
  obtain ⟨h3, h4⟩ := Bool.and_eq_true_iff.mp h
  unfold fnZ at e
  cases q : K.lookup (crA K) with
  | none => rw [q] at e; cases e
  | some o =>
    obtain ⟨oc, od, dt, osl⟩ := o
    rw [q] at h1 e
    cases dt with
    | func fd =>
      obtain ⟨x1, x2, x3, x4, x5, x6, x7, x8, x9, x10, x11, x12, x13, x14, x15⟩ := fd
      have e2 : (some (x1, x2, x3, x4, x5, x6, [], x15) : FnW) = (some (("__init__" : Str), ("CrowdError.__init__" : Str), defArgs st, .stmts (defBody st), defScope st, mainGlobals, [], builtinsNs) : FnW) := e
      simp only [Option.some.injEq, Prod.mk.injEq] at e2
      obtain ⟨g1, g2, g3, g4, g5, g6, _, g8⟩ := e2
      subst g1 g2 g3 g4 g5 g6 g8
      dsimp only at h1
      split at h1
      · rename_i y cl cc
        obtain ⟨k1, q1⟩ := Bool.and_eq_true_iff.mp h1
        obtain ⟨k2, q2⟩ := Bool.and_eq_true_iff.mp q1
        obtain ⟨k3, q3⟩ := Bool.and_eq_true_iff.mp q2
        obtain ⟨k4, q4⟩ := Bool.and_eq_true_iff.mp q3
        obtain ⟨k5, k6⟩ := Bool.and_eq_true_iff.mp q4
        clear h1 q1 q2 q3 q4
        have k1 := of_decide_eq_true k1
        have k2 := nonV_ok k2
        have k3 := nonV_ok k3
        subst k1 k2 k3
        refine ⟨cl, ⟨?_, ?_, clsIn_ob h2, of_decide_eq_true h3, hs, eqO_ok h4⟩⟩
        · split at k5
          · rename_i c1 c2 vs c3 hcc2
            split at k5
            · rename_i f tf hv
              have k5 := of_decide_eq_true k5
              subst k5
              exact ⟨oc, od, x10, x11, x12, cc, x14, osl, _, vs, f, tf, q, k4, hcc2, rfl, hv, hf⟩
            · cases k5
          · cases k5
        · split at k6
          · rename_i c1 c2 b c3 hcl2
            have k6 := of_decide_eq_true k6
            subst k6
            exact ⟨_, hcl2, rfl⟩
          · cases k6
      · cases h1
    | _ => cases e
theorem tbB_ok {K : PySem.W.Frag} {x : Str} (h : tbB K x = true) : ∃ p, PySem.W.tabIn K x = some p ∧ K.lookup p.2 = none := by
  unfold tbB at h
  split at h
  · rename_i p e
    refine ⟨p, e, ?_⟩
    cases q : K.lookup p.2 with
    | none => rfl
    | some o => rw [q] at h; cases h
  · cases h
theorem obsG_eq {n : Nat} {ns ms : List Str} {S : Sp} {g : Addr → Option Obj} {s : Shared} (h : ∀ a, g a = s.heap.get? a) : obsG n ns ms S g = (hook n ns ms S).obs s := by
  have e : g = s.heap.get? := funext h
  rw [e] <;> rfl
section
variable {S : Sp} {w : World} {K : PySem.W.Frag}
theorem Says.eqs (c : Says S w K) {x : Str} (h : x ∈ S.eq) : PySem.W.selfFirst K (ga K x) = true ∧ OwnC K (ga K x) ∧ PySem.W.findIn K (.ref (ga K x)) "__ne__" = some (some (.builtin "object.__ne__")) := eqB_ok (List.all_eq_true.mp c.bos.1.1.1.1.1.1.2 _ h)
theorem Says.txG (c : Says S w K) {x : Str} {zs : List Str} (h : (x, zs) ∈ S.tx) : ∀ M Z H, Rep K M Z H (.ref (txA K x)) (.tup (zs.map D.str)) := by
  obtain ⟨v, rv, hr⟩ := Dt.rep (List.all_eq_true.mp c.bos.1.1.1.1.1.2 _ h)
  have e : v = .ref (txA K x) := by
    cases v with
    | ref a =>
      have : Value.ref (txA K x) = Value.ref a := rv
      cases this; rfl
    | _ => first | (obtain ⟨t, e⟩ := rv; cases e) | cases rv
  intro M Z H
  have := hr M Z H
  rw [e] at this
  exact this
theorem Says.txs (c : Says S w K) {x : Str} {zs : List Str} (h : (x, zs) ∈ S.tx) (hx : decide (x = "@Form") = false := by decide +kernel) : ∀ M Z H, Rep K M Z H (.ref (ga K x)) (.tup (zs.map D.str)) := by
  have q := c.txG h
  unfold HK.txA at q
  rwa [if_neg (of_decide_eq_false hx)] at q
theorem Says.ers (c : Says S w K) {x : Str} (h : x ∈ S.er) : erB K x = true := List.all_eq_true.mp c.bos.1.1.1.1.2 _ h
theorem Says.kiG (c : Says S w K) {x y : Str} {b : Bool} (h : (x, y, b) ∈ S.ki) : PySem.W.kitOne K (.ref (ga K x)) (HK.kyV K y) = some b := of_decide_eq_true (List.all_eq_true.mp c.bos.1.1.1.2 _ h)
theorem Says.kiI (c : Says S w K) {x : Str} {b : Bool} (h : (x, (("@int" : Str)), b) ∈ S.ki) : PySem.W.kitOne K (.ref (ga K x)) (.type "int") = some b := by
  have q := c.kiG h
  unfold HK.kyV at q
  rwa [if_pos rfl] at q
theorem Says.tbs (c : Says S w K) {x : Str} (h : x ∈ S.tb) : ∃ p, PySem.W.tabIn K x = some p ∧ K.lookup p.2 = none := tbB_ok (List.all_eq_true.mp c.bos.1.1.2 _ h)
theorem Says.crs (c : Says S w K) {file : Str} {st : Stmt} (h : S.ba = [(file, st)]) : crB K file = true ∧ fnZ K (crA K) = crVal st := by
  have e : S.ba.map (fun _ => fnZ K (crA K)) = S.ba.map fun q => crVal q.2 := congrArg (fun z : Al => z.2.2.2) c
  have b := c.bos.1.2
  rw [h] at e b
  exact ⟨List.all_eq_true.mp b _ List.mem_cons_self, (List.cons.inj e).1⟩
/-- one of the errors -/
theorem Says.err {P : Program} {mg : Str → Option Value} (c : Says S w K) {file : Str} {st : Stmt} {x : Str} (hb : S.ba = [(file, st)]) (sh : XL.Shape (defArgs st) (defBody st) (defScope st)) (hf : (P.main.file == file) = true) (hs : (P.main.scope.names.lookup ("super" : Str)).isSome = false) (hsup : mg "super" = none) (h : x ∈ S.er) (hm : mg x = some (.ref (ga K x))) :
    XL.Er P K mg x (ga K x) ∧ XL.ErV K (ga K x) ∧ PySem.W.kitOne K (.type "NoneType") (.ref (ga K x)) = some false ∧ PySem.W.exmOne K (.ref (ga K x)) (.ref (ga K "CrowdError")) = some true := by
  obtain ⟨h1, h2⟩ := c.crs hb
  obtain ⟨cl, T⟩ := crB_ok h1 h2 hf hs
  obtain ⟨G, V⟩ := erB_ok (c.ers h) hm
  exact ⟨⟨⟨_, _, cl, _, _, _, _, T, sh, G⟩, hsup⟩, V⟩
end
end HK
namespace PL
open PySem SX TL
def opn (s : Bool) : Nat := if s then 123 else 91
def sgn (s : Bool) : Nat := if s then 42 else 43
def sep (s : Bool) : List Nat := [32, sgn s, 32]
mutual
def txt : T → List Nat
  | .one => [49]
  | .name x => x
  | .cop s n t => opn s :: (numL n ++ 32 :: (txt t ++ [cls s]))
  | .row s ts => 40 :: (joinL (sep s) (txts ts) ++ [41])
def txts : List T → List (List Nat)
  | [] => []
  | t :: ts => txt t :: txts ts
end
theorem txts_map : ∀ ts : List T, txts ts = ts.map txt
  | [] => rfl
  | t :: ts => by rw [txts, txts_map ts, List.map_cons]
def letter (c : Nat) : Bool := decide (97 ≤ c) && decide (c ≤ 122)
mutual
/-- a plan as the texts allow it -/
def Good : T → Prop
  | .one => True
  | .name x => x ≠ [] ∧ x.length ≤ 8 ∧ ∀ c ∈ x, letter c = true
  | .cop _ n t => 2 ≤ n ∧ n ≤ 10 ^ 30 ∧ Good t
  | .row _ ts => 2 ≤ ts.length ∧ Goods ts
def Goods : List T → Prop
  | [] => True
  | t :: ts => Good t ∧ Goods ts
end
theorem goods_all : ∀ {ts : List T}, Goods ts ↔ ∀ t ∈ ts, Good t
  | [] => by simp [Goods]
  | t :: ts => by simp [Goods, goods_all (ts := ts)]
mutual
/-- nobody is unknown -/
def Told : T → Prop
  | .one => True
  | .name _ => False
  | .cop _ _ t => Told t
  | .row _ ts => Tolds ts
def Tolds : List T → Prop
  | [] => True
  | t :: ts => Told t ∧ Tolds ts
end
theorem tolds_all : ∀ {ts : List T}, Tolds ts ↔ ∀ t ∈ ts, Told t
  | [] => by simp [Tolds]
  | t :: ts => by simp [Tolds, tolds_all (ts := ts)]
theorem hts_le : ∀ {ts : List T} {t : T}, t ∈ ts → ht t ≤ hts ts
  | u :: ts, t, h => by
    rcases List.mem_cons.mp h with rfl | h
    · exact Nat.le_max_left _ _
    · exact Nat.le_trans (hts_le h) (Nat.le_max_right _ _)
theorem dep_app : ∀ p q : List Nat, dep (p ++ q) = dep p + dep q
  | [], q => by simp [dep]
  | c :: p, q => by rw [List.cons_append, dep, dep, dep_app p q]; omega
/-- no bracket is closed too much -/
def nn (d : Int) : List Nat → Prop
  | [] => True
  | c :: r => 0 ≤ d + wgt c ∧ nn (d + wgt c) r
theorem nn_app : ∀ (d : Int) (p q : List Nat), nn d p → nn (d + dep p) q → nn d (p ++ q)
  | d, [], q, _, h => by simpa [dep] using h
  | d, c :: p, q, h1, h2 => ⟨h1.1, nn_app _ p q h1.2 (by rw [dep] at h2; rw [show d + wgt c + dep p = d + (wgt c + dep p) by omega]; exact h2)⟩
/-- .. and no blank stands outside of brackets -/
def qu (d : Int) : List Nat → Prop
  | [] => True
  | c :: r => 0 ≤ d + wgt c ∧ (d + wgt c ≠ 0 ∨ c ≠ 32) ∧ qu (d + wgt c) r
theorem qu_app : ∀ (d : Int) (p q : List Nat), qu d p → qu (d + dep p) q → qu d (p ++ q)
  | d, [], q, _, h => by simpa [dep] using h
  | d, c :: p, q, h1, h2 => ⟨h1.1, h1.2.1, qu_app _ p q h1.2.2 (by rw [dep] at h2; rw [show d + wgt c + dep p = d + (wgt c + dep p) by omega]; exact h2)⟩
theorem qu_nn : ∀ (d : Int) (p : List Nat), qu d p → nn d p
  | _, [], _ => trivial
  | d, c :: p, h => ⟨h.1, qu_nn _ p h.2.2⟩
theorem nn_qu : ∀ (d : Int) (p : List Nat), nn d p → qu (d + 1) p
  | _, [], _ => trivial
  | d, c :: p, h => ⟨by have := h.1; omega, .inl (by have := h.1; omega), by have := nn_qu _ p h.2; rw [show d + 1 + wgt c = d + wgt c + 1 by omega]; exact this⟩
theorem wgt0 {c : Nat} (h : c ≠ 40 ∧ c ≠ 91 ∧ c ≠ 123 ∧ c ≠ 41 ∧ c ≠ 93 ∧ c ≠ 125) : wgt c = 0 := by
  unfold wgt
  rw [if_neg (by omega), if_neg (by omega)]; rfl
theorem plain_dep : ∀ {p : List Nat}, (∀ c ∈ p, wgt c = 0) → dep p = 0
  | [], _ => rfl
  | c :: p, h => by rw [dep, h c List.mem_cons_self, plain_dep fun x hx => h x (List.mem_cons_of_mem _ hx)]; rfl
theorem plain_nn : ∀ {d : Int} {p : List Nat}, 0 ≤ d → (∀ c ∈ p, wgt c = 0) → nn d p
  | _, [], _, _ => trivial
  | d, c :: p, h0, h => by
    have e := h c List.mem_cons_self
    refine ⟨by rw [e]; omega, ?_⟩
    rw [e, Int.add_zero]
    exact plain_nn h0 fun x hx => h x (List.mem_cons_of_mem _ hx)
theorem plain_qu : ∀ {d : Int} {p : List Nat}, 0 ≤ d → (∀ c ∈ p, wgt c = 0 ∧ c ≠ 32) → qu d p
  | _, [], _, _ => trivial
  | d, c :: p, h0, h => by
    obtain ⟨e, e2⟩ := h c List.mem_cons_self
    refine ⟨by rw [e]; omega, .inr e2, ?_⟩
    rw [e, Int.add_zero]
    exact plain_qu h0 fun x hx => h x (List.mem_cons_of_mem _ hx)
/-- o p c, brackets around -/
theorem around_ok {o c : Nat} {p : List Nat} (ho : wgt o = 1 ∧ o ≠ 32) (hc : wgt c = -1 ∧ c ≠ 32) (hp : nn 0 p) (hd : dep p = 0) : dep (o :: (p ++ [c])) = 0 ∧ qu 0 (o :: (p ++ [c])) := by
  have e1 : dep (p ++ [c]) = -1 := by rw [dep_app, hd, dep, dep, hc.1]; rfl
  refine ⟨by rw [dep, ho.1, e1]; rfl, by rw [ho.1]; decide, .inr ho.2, ?_⟩
  rw [ho.1]
  refine qu_app _ _ _ (nn_qu 0 p hp) ⟨?_, .inr hc.2, trivial⟩
  rw [hd, hc.1]; decide
theorem wgt_opn (s : Bool) : wgt (opn s) = 1 ∧ opn s ≠ 32 := by cases s <;> decide
theorem wgt_cls (s : Bool) : wgt (cls s) = -1 ∧ cls s ≠ 32 := by cases s <;> decide
theorem wgt_num {n c : Nat} (h : c ∈ numL n) : wgt c = 0 ∧ c ≠ 32 := by
  have q := numL_digits n c h
  exact ⟨wgt0 (by omega), by omega⟩
theorem wgt_letter {c : Nat} (h : letter c = true) : wgt c = 0 ∧ c ≠ 32 := by
  simp [letter] at h
  exact ⟨wgt0 (by omega), by omega⟩
theorem sep_ok (s : Bool) : dep (sep s) = 0 ∧ nn 0 (sep s) := by cases s <;> (unfold nn dep sep sgn; simp [wgt, nn, dep])
theorem join_ok (s : Bool) : ∀ {ps : List (List Nat)}, (∀ p ∈ ps, dep p = 0 ∧ nn 0 p) → dep (joinL (sep s) ps) = 0 ∧ nn 0 (joinL (sep s) ps)
  | [], _ => ⟨rfl, trivial⟩
  | [p], h => h p List.mem_cons_self
  | p :: q :: r, h => by
    obtain ⟨h1, h2⟩ := h p List.mem_cons_self
    obtain ⟨i1, i2⟩ := join_ok s (ps := q :: r) fun x hx => h x (List.mem_cons_of_mem _ hx)
    obtain ⟨s1, s2⟩ := sep_ok s
    refine ⟨?_, ?_⟩
    · rw [joinL, dep_app, dep_app, h1, s1, i1]; rfl
    · rw [joinL]
      refine nn_app _ _ _ h2 ?_
      rw [h1]
      refine nn_app _ _ _ s2 ?_
      rw [s1]; exact i2
mutual
theorem txt_ok : ∀ {t : T}, Good t → dep (txt t) = 0 ∧ qu 0 (txt t)
  | .one, _ => by simp [txt, dep, qu, wgt]
  | .name x, h => by
    obtain ⟨h0, h1, h2⟩ := h
    rw [txt]
    exact ⟨plain_dep fun c hc => (wgt_letter (h2 c hc)).1, plain_qu (by decide) fun c hc => wgt_letter (h2 c hc)⟩
  | .cop s n t, h => by
    obtain ⟨h1, h2, h3⟩ := h
    obtain ⟨e1, e2⟩ := txt_ok h3
    rw [txt, show numL n ++ 32 :: (txt t ++ [cls s]) = (numL n ++ 32 :: txt t) ++ [cls s] by simp]
    have d0 : dep (numL n) = 0 := plain_dep fun c hc => (wgt_num hc).1
    refine around_ok (wgt_opn s) (wgt_cls s) (nn_app _ _ _ (plain_nn (by decide) fun c hc => (wgt_num hc).1) ?_) ?_
    · rw [d0]
      exact ⟨by decide, qu_nn _ _ e2⟩
    · rw [dep_app, d0, dep, e1]; decide
  | .row s ts, h => by
    rw [txt]
    obtain ⟨j1, j2⟩ := join_ok s (ps := txts ts) fun p hp => by
      obtain ⟨q1, q2⟩ := txts_ok h.2 p hp
      exact ⟨q1, qu_nn _ _ q2⟩
    exact around_ok (by decide) (by decide) j2 j1
theorem txts_ok : ∀ {ts : List T}, Goods ts → ∀ p ∈ txts ts, dep p = 0 ∧ qu 0 p
  | [], _, p, hp => by simp [txts] at hp
  | t :: ts, h, p, hp => by
    rw [txts] at hp
    rcases List.mem_cons.mp hp with rfl | hp
    · exact txt_ok h.1
    · exact txts_ok h.2 p hp
end
/-- the first sign -/
theorem txt_head {t : T} (h : Good t) : ∃ c r, txt t = c :: r ∧ c ≠ 32 ∧ c ≠ 43 ∧ c ≠ 42 := by
  cases t with
  | one => exact ⟨49, [], by rw [txt], by decide, by decide, by decide⟩
  | name x =>
    obtain ⟨h0, h1, h2⟩ := h
    cases x with
    | nil => exact absurd rfl h0
    | cons c r =>
      have q := h2 c List.mem_cons_self
      simp [letter] at q
      exact ⟨c, r, by rw [txt], by omega, by omega, by omega⟩
  | cop s n t => exact ⟨opn s, _, by rw [txt], by cases s <;> decide, by cases s <;> decide, by cases s <;> decide⟩
  | row s ts => exact ⟨40, _, by rw [txt], by decide, by decide, by decide⟩
theorem G_qu {L : List Nat} (s : Nat) (S : List Nat) (hs : s = 32) : ∀ (p R : List Nat) (i : Nat) (d : Int) (b : Nat) (f : List (List Nat)), qu d p → G L (s :: S) (p ++ R) i d b f = G L (s :: S) R (i + p.length) (d + dep p) b f
  | [], R, i, d, b, f, _ => by simp [dep]
  | c :: p, R, i, d, b, f, h => by
    obtain ⟨h1, h2, h3⟩ := h
    rw [List.cons_append, G, if_neg, G_qu s S hs p R _ _ b f h3, dep, List.length_cons]
    · congr 1 <;> omega
    · rintro ⟨z, y⟩
      rcases h2 with h2 | h2
      · exact h2 z
      · rw [pre_of_head _ _ (by rw [hs]; exact h2)] at y
        cases y
theorem sep_len (s : Bool) : (sep s).length = 3 := rfl
theorem pre_other {x y z : Nat} {r : List Nat} (s : Bool) (h : y ≠ sgn s) : pre (sep s) (x :: y :: r) = false := by
  cases e : pre (sep s) (x :: y :: r) with
  | false => rfl
  | true =>
    unfold pre sep at e
    simp at e
    exact absurd e.2.1 h
/-- the sign itself: one more part -/
theorem G_sep {L : List Nat} (s : Bool) {c : Nat} {R : List Nat} (i b : Nat) (f : List (List Nat)) (hc : c ≠ 43 ∧ c ≠ 42) : G L (sep s) (sep s ++ (c :: R)) i 0 b f = G L (sep s) (c :: R) (i + 3) 0 (i + 3) (f ++ [(L.take i).drop b]) := by
  have w1 : wgt 32 = 0 := by decide
  have w2 : wgt (sgn s) = 0 := by cases s <;> decide
  show G L (sep s) (32 :: sgn s :: 32 :: c :: R) i 0 b f = _
  rw [G, if_pos ⟨by rw [w1]; rfl, by rw [show 32 :: sgn s :: 32 :: c :: R = sep s ++ (c :: R) from rfl]; exact pre_self _ _⟩]
  rw [G, if_neg (by rintro ⟨_, y⟩; rw [show sep s = 32 :: [sgn s, 32] from rfl, pre_of_head _ _ (by cases s <;> decide)] at y; cases y)]
  rw [G, if_neg (by rintro ⟨_, y⟩; rw [pre_other (z := 0) s (by cases s <;> simp [sgn, hc.1, hc.2])] at y; cases y)]
  rw [w1, w2]; rfl
/-- another sign: nothing -/
theorem G_no {L : List Nat} (s : Bool) {c : Nat} {R : List Nat} (i b : Nat) (f : List (List Nat)) (hc : c ≠ 43 ∧ c ≠ 42) : G L (sep s) (sep (!s) ++ (c :: R)) i 0 b f = G L (sep s) (c :: R) (i + 3) 0 b f := by
  have w1 : wgt 32 = 0 := by decide
  have w2 : wgt (sgn (!s)) = 0 := by cases s <;> decide
  show G L (sep s) (32 :: sgn (!s) :: 32 :: c :: R) i 0 b f = _
  rw [G, if_neg (by rintro ⟨_, y⟩; rw [pre_other (z := 0) s (by cases s <;> decide)] at y; cases y)]
  rw [G, if_neg (by rintro ⟨_, y⟩; rw [show sep s = 32 :: [sgn s, 32] from rfl, pre_of_head _ _ (by cases s <;> decide)] at y; cases y)]
  rw [G, if_neg (by rintro ⟨_, y⟩; rw [pre_other (z := 0) s (by cases s <;> simp [sgn, hc.1, hc.2])] at y; cases y)]
  rw [w1, w2]; rfl
theorem join_head {s : Bool} : ∀ {t : T} {ts : List T}, Good t → ∃ c r, joinL (sep s) (txts (t :: ts)) = c :: r ∧ c ≠ 43 ∧ c ≠ 42
  | t, [], h => by
    obtain ⟨c, r, e, h1, h2, h3⟩ := txt_head h
    exact ⟨c, r, by rw [txts, txts, joinL, e], h2, h3⟩
  | t, u :: ts, h => by
    obtain ⟨c, r, e, h1, h2, h3⟩ := txt_head h
    exact ⟨c, _, by rw [txts, txts, joinL, e, List.cons_append], h2, h3⟩
theorem G_join {s : Bool} : ∀ {ts : List T} {L P : List Nat} (f : List (List Nat)), ts ≠ [] → Goods ts → L = P ++ joinL (sep s) (txts ts) → G L (sep s) (joinL (sep s) (txts ts)) P.length 0 P.length f = f ++ txts ts
  | [], _, _, _, h, _, _ => absurd rfl h
  | [t], L, P, f, _, h, e => by
    obtain ⟨d0, q0⟩ := txt_ok h.1
    rw [txts, txts, joinL] at e ⊢
    have := G_qu (L := L) 32 [sgn s, 32] rfl (txt t) [] P.length 0 P.length f q0
    rw [List.append_nil] at this
    rw [show sep s = 32 :: [sgn s, 32] from rfl, this, G, e, List.drop_left]
  | t :: u :: ts, L, P, f, _, h, e => by
    obtain ⟨d0, q0⟩ := txt_ok h.1
    obtain ⟨c, R, ej, c1, c2⟩ := join_head (s := s) (ts := ts) h.2.1
    have e1 : joinL (sep s) (txts (t :: u :: ts)) = txt t ++ (sep s ++ joinL (sep s) (txts (u :: ts))) := by rw [txts, txts, joinL]
    rw [e1] at e ⊢
    rw [show G L (sep s) = G L (32 :: [sgn s, 32]) from rfl, G_qu 32 [sgn s, 32] rfl _ _ _ _ _ _ q0, d0, ej]
    show G L (sep s) (sep s ++ (c :: R)) (P.length + (txt t).length) (0 + 0) P.length f = _
    rw [show (0 : Int) + 0 = 0 from rfl, G_sep s _ _ _ ⟨c1, c2⟩]
    have e2 : (L.take (P.length + (txt t).length)).drop P.length = txt t := by
      rw [e, ← List.length_append, ← List.append_assoc, List.take_left, List.drop_left]
    have ih := G_join (s := s) (ts := u :: ts) (L := L) (P := P ++ txt t ++ sep s) (f ++ [txt t]) (by simp) h.2 (by rw [e]; simp)
    rw [ej] at ih
    rw [e2]
    have el : (P ++ txt t ++ sep s).length = P.length + (txt t).length + 3 := by simp [sep_len]; omega
    rw [el] at ih
    rw [ih, show txts (t :: u :: ts) = txt t :: txts (u :: ts) by rw [txts]]
    simp
theorem G_none {s : Bool} : ∀ {ts : List T} {L : List Nat} (i b : Nat) (f : List (List Nat)), ts ≠ [] → Goods ts → G L (sep s) (joinL (sep (!s)) (txts ts)) i 0 b f = f ++ [L.drop b]
  | [], _, _, _, _, h, _ => absurd rfl h
  | [t], L, i, b, f, _, h => by
    obtain ⟨d0, q0⟩ := txt_ok h.1
    rw [txts, txts, joinL]
    have := G_qu (L := L) 32 [sgn s, 32] rfl (txt t) [] i 0 b f q0
    rw [List.append_nil] at this
    rw [show sep s = 32 :: [sgn s, 32] from rfl, this, G]
  | t :: u :: ts, L, i, b, f, _, h => by
    obtain ⟨d0, q0⟩ := txt_ok h.1
    obtain ⟨c, R, ej, c1, c2⟩ := join_head (s := !s) (ts := ts) h.2.1
    have e1 : joinL (sep (!s)) (txts (t :: u :: ts)) = txt t ++ (sep (!s) ++ joinL (sep (!s)) (txts (u :: ts))) := by rw [txts, txts, joinL]
    rw [e1, show G L (sep s) = G L (32 :: [sgn s, 32]) from rfl, G_qu 32 [sgn s, 32] rfl _ _ _ _ _ _ q0, d0, ej]
    show G L (sep s) (sep (!s) ++ (c :: R)) (i + (txt t).length) (0 + 0) b f = _
    rw [show (0 : Int) + 0 = 0 from rfl, G_no s _ _ _ ⟨c1, c2⟩, ← ej]
    exact G_none _ _ _ (by simp) h.2
theorem parts_join {s : Bool} {ts : List T} (h0 : ts ≠ []) (h : Goods ts) : parts (joinL (sep s) (txts ts)) (sep s) = txts ts := G_join (P := []) [] h0 h rfl
theorem parts_none {s : Bool} {ts : List T} (h0 : ts ≠ []) (h : Goods ts) : parts (joinL (sep (!s)) (txts ts)) (sep s) = [joinL (sep (!s)) (txts ts)] := G_none 0 0 [] h0 h
theorem numL_head : ∀ {n : Nat}, 1 ≤ n → ∃ c r, numL n = c :: r ∧ c ≠ 48 := by
  intro n
  induction n using Nat.strongRecOn with
  | _ n ih =>
    intro h
    by_cases hn : n < 10
    · exact ⟨48 + n, [], numL_lt hn, by omega⟩
    · obtain ⟨c, r, e, hc⟩ := ih (n / 10) (by omega) (by omega)
      exact ⟨c, r ++ [48 + n % 10], by rw [numL_step (by omega), e, List.cons_append], hc⟩
end PL
namespace W
open PySem PySem.Spec PyProof.Rows L2 DL SX PL
abbrev tS (l : List Nat) : D := .str (S l)
def signsD : List (Str × D) := [("beside", .str " + "), ("introduced", .str " * ")]
def aroundD : List (Str × D) := [("beside", .tup [.str "[", .str "]"]), ("introduced", .tup [.str "{", .str "}"])]
def turnedD : List (Str × D) := [("+", .str "*"), ("*", .str "+"), ("[", .str "{"), ("{", .str "["), ("]", .str "}"), ("}", .str "]")]
/-- what is known of the module behind the top -/
structure Fx (w : World) (K : PySem.W.Frag) (mg : Str → Option Value) : Prop where
  bn : ∀ x, x ∈ bns → mg x = none
  gONE : ∃ t, mg "ONE" = some (.str "one" t)
  gNAME : ∃ t, mg "NAME" = some (.str "name" t)
  gBESIDE : ∃ t, mg "BESIDE" = some (.str "beside" t)
  gINTRODUCED : ∃ t, mg "INTRODUCED" = some (.str "introduced" t)
  gBLANK : ∃ t, mg "BLANK" = some (.str " " t)
  gLETTERS : ∃ t, mg "LETTERS" = some (.str "abcdefghijklmnopqrstuvwxyz" t)
  gFIGURES : ∃ t, mg "FIGURES" = some (.str "0123456789" t)
  gMOST_LETTERS : ∃ t, mg "MOST_LETTERS" = some (.int 8 t)
  gPERSON : ∃ t, mg "PERSON" = some (.str "1" t)
  gLEAST_MANY : ∃ t, mg "LEAST_MANY" = some (.int 2 t)
  gMOST_MANY : ∃ t, mg "MOST_MANY" = some (.int (10 ^ 30) t)
  gMOST_NAMES : ∃ t, mg "MOST_NAMES_plans" = some (.int 3 t)
  gMOST_DEPTH : ∃ t, mg "MOST_DEPTH" = some (.int 60 t)
  gSIGNS : ∃ a kvs, mg "SIGNS" = some (.ref a) ∧ WrD K w a kvs ∧ ∀ M Z H, RepF K M Z H kvs signsD
  gAROUND : ∃ a kvs, mg "AROUND" = some (.ref a) ∧ WrD K w a kvs ∧ ∀ M Z H, RepF K M Z H kvs aroundD
  gTURNED : ∃ a kvs, mg "TURNED" = some (.ref a) ∧ WrD K w a kvs ∧ ∀ M Z H, RepF K M Z H kvs turnedD
section
variable {P : Program} {w : World} {K : PySem.W.Frag} {mg : Str → Option Value} {base : Heap}
def isNameL (l : List Nat) : Bool := decide (1 ≤ l.length) && (decide (l.length ≤ 8) && l.all letter)
theorem letters_eq : ("abcdefghijklmnopqrstuvwxyz" : Str) = S ((List.range 26).map (97 + ·)) := by decide +kernel
theorem figures_eq : ("0123456789" : Str) = S ((List.range 10).map (48 + ·)) := by decide +kernel
theorem mem_letters (c : Nat) : decide (c ∈ ("abcdefghijklmnopqrstuvwxyz" : Str).cps.toList) = letter c := by
  rw [letters_eq]
  unfold letter
  rw [← Bool.decide_and]
  apply decide_eq_decide.mpr
  show c ∈ (List.range 26).map (97 + ·) ↔ _
  simp only [List.mem_map, List.mem_range]
  constructor
  · rintro ⟨a, h, rfl⟩; omega
  · rintro ⟨h1, h2⟩; exact ⟨c - 97, by omega, by omega⟩
def figure (c : Nat) : Bool := decide (48 ≤ c) && decide (c ≤ 57)
theorem mem_figures (c : Nat) : decide (c ∈ ("0123456789" : Str).cps.toList) = figure c := by
  rw [figures_eq]
  unfold figure
  rw [← Bool.decide_and]
  apply decide_eq_decide.mpr
  show c ∈ (List.range 10).map (48 + ·) ↔ _
  simp only [List.mem_map, List.mem_range]
  constructor
  · rintro ⟨a, h, rfl⟩; omega
  · rintro ⟨h1, h2⟩; exact ⟨c - 48, by omega, by omega⟩
theorem signs_S (l : List Nat) : DL.signs (S l) = l.map fun c => D.str ⟨#[c]⟩ := rfl
theorem signs_get {l : List Nat} {i : Nat} {x : D} (h : (DL.signs (S l))[i]? = some x) : ∃ c, l[i]? = some c ∧ x = .str ⟨#[c]⟩ := by
  rw [signs_S, List.getElem?_map] at h
  obtain ⟨c, h1, rfl⟩ := Option.map_eq_some_iff.mp h
  exact ⟨c, h1, rfl⟩
theorem take_snoc {α : Type} {l : List α} {i : Nat} {c : α} (h : l[i]? = some c) : l.take (i + 1) = l.take i ++ [c] := by
  rw [List.take_add_one, h]; rfl
def cIsName : Con := fun ds M Φ => ∃ l, ds = [tS l] ∧ l.length ≤ 1000000 ∧ Φ (.bl (isNameL l)) M
theorem ok_is_name (F : Fx w K mg) : BodyOk P w K mg base "is_name" s_is_name ["value", "letter"] 1 0 cIsName := by
  intro f cdv A outer s H E hr ds M Φ hl hc
  obtain ⟨l, rfl, hl, hc⟩ := hc
  have nd : (["value", "letter"] : List Str).Nodup := by decide +kernel
  refine wss_cons (ws_if (wt_ww (ww_or (wt_not (wt_val (we_isi (F.bn _ (by decide +kernel)) (we_var 0 rfl (we_bty (F.bn _ (by decide +kernel)) rfl ⟨_, _, true, rfl, rfl, (by intro C h; cases h), rfl, _, rfl, ?_⟩))))))))
  refine ww_or1 (wt_not (wt_chainI (we_int (we_len (F.bn _ (by decide +kernel)) (we_var 0 rfl ⟨_, lenS (by rw [S_len, sizeLine_eq]; omega), _, _, rfl, rfl, ?_⟩)))))
  have e0 : ((S l).length : Int) = (l.length : Int) := by rw [S_len]
  have ret : ∀ c, isNameL l = c → Φ (.bl c) M := fun c e => e ▸ hc
  refine ite_dec (fun h1 => we_gint F.gMOST_LETTERS ⟨_, rfl, ?_⟩) fun h1 => ?_
  · by_cases h2 : ((S l).length : Int) ≤ 8
    · rw [decide_eq_true h2]
      refine wss_nil (wss_cons (ws_ret (we_all (F.bn _ (by decide +kernel)) (we_lc nd (blkOk_by (N := ["value", "letter"]) (sc := defScope s_is_name) (own := [("letter", 1)]) (by decide +kernel)) (fun _ _ _ _ _ => pg_name (i := 1) nd rfl (Or.inl rfl)) (gt_name (by decide)) (fun _ _ _ _ _ => pts_nil) tk_nil
        (wi_str (we_var 0 rfl ⟨_, rfl, ?_⟩))))))
      refine ⟨by rw [signs_S, List.length_map, sizeLine_eq]; omega, fun i acc M' => M' = M ∧ acc = (l.take i).map fun c => .bl (letter c), ⟨rfl, rfl⟩, ?_, ?_⟩
      · rintro i x acc M' hx ⟨rfl, rfl⟩ 
        obtain ⟨c, hc1, rfl⟩ := signs_get hx
        intro s1 H1 C cl fp
        refine we_inC (we_var 1 rfl (we_gstr F.gLETTERS ⟨c, _, rfl, rfl, rfl, ?_⟩))
        rw [mem_letters, take_snoc hc1, List.map_append]; rfl
      · rintro acc M' ⟨rfl, rfl⟩
        rw [signs_S, List.length_map, List.take_length]
        refine ⟨l.map letter, by rw [List.map_map]; rfl, Lets.of (ret _ ?_)⟩
        unfold isNameL
        rw [decide_eq_true (show 1 ≤ l.length by omega), decide_eq_true (show l.length ≤ 8 by omega)]
        simp
    · rw [decide_eq_false h2]
      refine wss_cons (ws_ret (we_bl (Lets.of (ret _ ?_))))
      unfold isNameL
      rw [decide_eq_false (show ¬ l.length ≤ 8 by omega)]; simp
  · refine wss_cons (ws_ret (we_bl (Lets.of (ret _ ?_))))
    unfold isNameL
    rw [decide_eq_false (show ¬ 1 ≤ l.length by omega)]; rfl
end
end W
namespace W
open PySem PySem.Spec PyProof.Rows L2 DL SX PL
section
variable {P : Program} {w : World} {K : PySem.W.Frag} {mg : Str → Option Value} {base : Heap}
theorem num_len {n : Nat} (h : n ≤ 10 ^ 30) : (TL.numL n).length ≤ 31 := TL.numL_len (by decide) (Nat.lt_of_le_of_lt h (by decide))
theorem num_int (n : Nat) (h : n ≤ 10 ^ 30) : PySem.intText? (S (TL.numL n)) = some (n : Int) := by
  rw [← num_S]
  exact TL.int_num (by have := num_len h; omega)
def cNumberIn : Con := fun ds M Φ => ∃ n : Nat, ds = [tS (TL.numL n)] ∧ 1 ≤ n ∧ n ≤ 10 ^ 30 ∧ Φ (.int n) M
theorem ok_number_in (F : Fx w K mg) : BodyOk P w K mg base "number_in" s_number_in ["text", "figure"] 1 0 cNumberIn := by
  intro f cdv A outer s H E hr ds M Φ hl hc
  obtain ⟨n, rfl, n1, n2, hc⟩ := hc
  have nd : (["text", "figure"] : List Str).Nodup := by decide +kernel
  obtain ⟨c, r, ec, c48⟩ := numL_head n1
  have hlen := num_len n2
  have e1 : decide (S (TL.numL n) = ("" : Str)) = false := decide_eq_false fun h => by
    have := S_inj (h.trans (show ("" : Str) = S [] by decide +kernel))
    rw [ec] at this; cases this
  have e2 : decide (S (TL.numL n) = ("0" : Str)) = false := decide_eq_false fun h => by
    have := S_inj (h.trans (show ("0" : Str) = S [48] by decide +kernel))
    rw [ec] at this; injection this with h1 _; exact c48 h1
  refine wss_cons (ws_if (wt_ww (ww_or (wt_eqS (we_var 0 rfl (we_str ⟨_, rfl, ?_⟩))))))
  rw [e1]
  refine ww_or1 (wt_not (wt_val (we_all (F.bn _ (by decide +kernel)) (we_lc nd (blkOk_by (N := ["text", "figure"]) (sc := defScope s_number_in) (own := [("figure", 1)]) (by decide +kernel)) (fun _ _ _ _ _ => pg_name (i := 1) nd rfl (Or.inl rfl)) (gt_name (by decide)) (fun _ _ _ _ _ => pts_nil) tk_nil
        (wi_str (we_var 0 rfl ⟨_, rfl, ?_⟩))))))
  refine ⟨by rw [signs_S, List.length_map, sizeLine_eq]; omega, fun i acc M' => M' = M ∧ acc = ((TL.numL n).take i).map fun c => .bl (figure c), ⟨rfl, rfl⟩, ?_, ?_⟩
  · rintro i x acc M' hx ⟨rfl, rfl⟩
    obtain ⟨c, hc1, rfl⟩ := signs_get hx
    intro s1 H1 C cl fp
    refine we_inC (we_var 1 rfl (we_gstr F.gFIGURES ⟨c, _, rfl, rfl, rfl, ?_⟩))
    rw [mem_figures, take_snoc hc1, List.map_append]; rfl
  · rintro acc M' ⟨rfl, rfl⟩
    rw [signs_S, List.length_map, List.take_length]
    refine ⟨(TL.numL n).map figure, by rw [List.map_map]; rfl, _, rfl, ?_⟩
    have e3 : ((TL.numL n).map figure).all id = true := by
      rw [List.all_map]
      refine List.all_eq_true.mpr fun c hc => ?_
      have q := TL.numL_digits n c hc
      show (decide (48 ≤ c) && decide (c ≤ 57)) = true
      rw [decide_eq_true q.1, decide_eq_true q.2]; rfl
    rw [e3]
    refine wss_nil (wss_cons (ws_ret (we_if (wt_ww (ww_or (wt_eqS (we_var 0 rfl (we_str ⟨_, rfl, ?_⟩))))))))
    rw [e2]
    refine ww_or1 (wt_neS (we_ix (we_var 0 rfl (we_int ⟨0, _, rfl, .inr (.inr ⟨_, c, rfl, by rw [S_len, sizeLine_eq]; omega, by show atI (TL.numL n) 0 = some c; rw [ec]; exact atI_nat (j := 0) rfl, rfl⟩), we_str ⟨_, rfl, ?_⟩⟩))))
    have e4 : decide ((⟨#[c]⟩ : Str) = ("0" : Str)) = false := decide_eq_false fun h => by
      have := S_inj (a := [c]) (h.trans (show ("0" : Str) = S [48] by decide +kernel))
      injection this with h1 _; exact c48 h1
    rw [e4]
    exact we_intS (F.bn _ (by decide +kernel)) (we_var 0 rfl ⟨_, _, rfl, num_int n n2, by rw [S_len]; omega, Lets.of hc⟩)
theorem cut_bi (l : List Nat) (b i : Nat) (h : i ≤ l.length) : cutS (S l) (some (b : Int)) (some (i : Int)) = S ((l.take i).drop b) := by
  unfold cutS
  rw [S_len, HT.sIx_nat, HT.sIx_nat, Nat.min_eq_left h]
  show S ((l.drop (min b l.length)).take (i - min b l.length)) = _
  congr 1
  by_cases hb : b ≤ l.length
  · rw [Nat.min_eq_left hb, List.drop_take]
  · rw [Nat.min_eq_right (by omega), List.drop_length, List.drop_eq_nil_of_le (by rw [List.length_take]; omega)]; simp
theorem cut_b (l : List Nat) (b : Nat) : cutS (S l) (some (b : Int)) none = S (l.drop b) := by
  unfold cutS
  rw [S_len, HT.sIx_nat, HT.sIx_none]
  show S ((l.drop (min b l.length)).take (l.length - min b l.length)) = _
  congr 1
  by_cases hb : b ≤ l.length
  · rw [Nat.min_eq_left hb]; exact List.take_of_length_le (by rw [List.length_drop]; omega)
  · rw [Nat.min_eq_right (by omega), List.drop_length, List.drop_eq_nil_of_le (by omega)]; simp
theorem starts_at {l s : List Nat} (hs : s ≠ []) (i : Nat) (hi : i ≤ l.length) : Txt.startswith3 (S l) (S s) (i : Int) = TL.pre s (l.drop i) := by
  have e : PySem.fromIndex (S l).length (i : Int) = i := by
    rw [S_len]; unfold PySem.fromIndex; rw [if_neg (by omega)]; omega
  unfold Txt.startswith3
  rw [e]
  have q := TL.at_iff (x := S l) (y := S s) hs i
  cases hp : TL.pre s (l.drop i) with
  | true =>
    obtain ⟨h1, h2⟩ := q.mpr hp
    rw [h2, decide_eq_true h1]; rfl
  | false =>
    cases h1 : decide (i + (S s).length ≤ (S l).length) with
    | false => rfl
    | true =>
      cases h2 : Builtin.Str.subAt (S l) (S s) i with
      | false => rfl
      | true =>
        have := q.mp ⟨of_decide_eq_true h1, h2⟩
        rw [show TL.pre (TL.tl (S s)) ((TL.tl (S l)).drop i) = TL.pre s (l.drop i) from rfl, hp] at this
        cases this
theorem enumS_get {l : List Nat} {i : Nat} {x : D} (h : (enumS (S l))[i]? = some x) : ∃ c, l[i]? = some c ∧ x = .tup [.int (i : Nat), .str ⟨#[c]⟩] := by
  unfold enumS at h
  rw [List.getElem?_map] at h
  obtain ⟨j, h1, rfl⟩ := Option.map_eq_some_iff.mp h
  obtain ⟨h2, rfl⟩ := List.getElem?_eq_some_iff.mp h1
  rw [List.length_range] at h2
  rw [List.getElem_range]
  have h3 : i < l.length := by simpa using h2
  refine ⟨l[i], List.getElem?_eq_getElem h3, ?_⟩
  have : (S l).cps.getD i 0 = l[i] := by simp [Array.getD, h3]
  rw [this]
theorem enumS_len (l : List Nat) : (enumS (S l)).length = l.length := by simp [enumS]
theorem opens (c : Nat) : decide (c ∈ ("([{" : Str).cps.toList) = decide (c = 40 ∨ c = 91 ∨ c = 123) := by
  rw [show ("([{" : Str) = S [40, 91, 123] by decide +kernel]
  simp
theorem closes (c : Nat) : decide (c ∈ (")]}" : Str).cps.toList) = decide (c = 41 ∨ c = 93 ∨ c = 125) := by
  rw [show (")]}" : Str) = S [41, 93, 125] by decide +kernel]
  simp
theorem wgt_code (d : Int) (c : Nat) : d + (if decide (c ∈ ("([{" : Str).cps.toList) = true then 1 else 0) - (if decide (c ∈ (")]}" : Str).cps.toList) = true then 1 else 0) = d + wgt c := by
  rw [opens, closes]
  unfold wgt
  simp only [decide_eq_true_eq]
  omega
def cParted : Con := fun ds M Φ => ∃ l b, ds = [tS l, tS (sep b)] ∧ l.length ≤ 1000000 ∧ Φ (.lst ((parts l (sep b)).map tS)) M
theorem les_new {M : Mp} {p : Addr} {o : MO} (h : M p = none) : Les M (mset M p o) := fun b => by
  by_cases e : b = p
  · rw [e]; exact .inr h
  · rw [mset_ne e]; exact .inl rfl
theorem ok_parted (F : Fx w K mg) : BodyOk P w K mg base "parted" s_parted ["text", "sign", "found", "depth", "begin", "at", "letter"] 2 0 cParted := by
  intro f cdv A outer s H E hr ds M Φ hl hc
  obtain ⟨l, sb, rfl, hl, hc⟩ := hc
  have nd : (["text", "sign", "found", "depth", "begin", "at", "letter"] : List Str).Nodup := by decide +kernel
  refine wss_cons (ws_set 2 nd (we_lstM (wa_nil ⟨by decide, fun p hp => ?_⟩)))
  refine wss_cons (ws_set 3 nd (we_int ?_))
  refine wss_cons (ws_set 4 nd (we_int ?_))
  refine wss_cons (ws_for PassesOwn.never (wi_enumS (F.bn _ (by decide +kernel)) (we_var 0 rfl ⟨_, rfl, ?_⟩)))
  refine ⟨fun i ρ' M' => ∃ o1 o2 d b fo, ρ' = [some (tS l), some (tS (sep sb)), some (.ob p), some (.int d), some (.int (b : Nat)), o1, o2] ∧ M' = mset M p (.lst (fo.map tS)) ∧ fo.length ≤ i ∧ G l (sep sb) (l.drop i) i d b fo = parts l (sep sb), ?_, ?_, ?_⟩
  · exact ⟨none, none, 0, 0, [], rfl, rfl, Nat.le_refl _, rfl⟩
  · rintro i x ρ' M' hx ⟨o1, o2, d, b, fo, rfl, rfl, hf, hG⟩
    obtain ⟨c, hc1, rfl⟩ := enumS_get hx
    have hi : i < l.length := (List.getElem?_eq_some_iff.mp hc1).1
    refine wg_tup ⟨rfl, rfl, wgs_cons (wg_name 5 (wgs_cons (wg_name 6 (wgs_nil ⟨rfl, ?_⟩) nd)) nd)⟩
    refine wss_cons (ws_set 3 nd (we_subI (we_addI (we_var 3 rfl (we_intN (F.bn _ (by decide +kernel)) (we_inC (we_var 6 rfl (we_str ⟨c, _, rfl, rfl, .inr ⟨_, rfl, _, _, rfl, rfl, ?_⟩⟩))))))))
    refine we_intN (F.bn _ (by decide +kernel)) (we_inC (we_var 6 rfl (we_str ⟨c, _, rfl, rfl, .inr ⟨_, rfl, _, _, rfl, rfl, ?_⟩⟩)))
    rw [wgt_code]
    have ed : l.drop i = c :: l.drop (i + 1) := by
      rw [List.drop_eq_getElem_cons hi]
      rw [List.getElem?_eq_getElem hi] at hc1; cases hc1; rfl
    rw [ed, PL.G] at hG
    refine wss_cons (ws_if (wt_ww (ww_and (wt_eqS (we_var 3 rfl (we_int ⟨_, rfl, ?_⟩))))))
    by_cases h0 : d + wgt c = 0
    · rw [decide_eq_true h0]
      refine ww_and1 (wt_val (we_startsAt (we_var 0 rfl ⟨_, rfl, we_var 1 rfl (we_var 5 rfl ⟨_, _, rfl, rfl, _, rfl, ?_⟩)⟩)))
      rw [starts_at (by simp [sep]) i (by omega), ed]
      cases hp2 : TL.pre (sep sb) (c :: l.drop (i + 1)) with
      | true =>
        rw [if_pos ⟨h0, hp2⟩] at hG
        refine wss_cons (ws_expr (we_append (we_var 2 rfl ⟨p, _, rfl, mset_same, we_slice (we_var 0 rfl (we_var 4 rfl ⟨_, rfl, we_var 5 rfl ⟨_, rfl, _, .inr (.inr ⟨_, rfl, by rw [S_len, sizeLine_eq]; omega, rfl⟩), _, mset_same, by rw [List.length_map, sizeLine_eq]; omega, ?_⟩⟩))⟩)))
        rw [mset_mset, cut_bi _ _ _ (by omega)]
        refine wss_cons (ws_set 4 nd (we_addI (we_var 5 rfl (we_len (F.bn _ (by decide +kernel)) (we_var 1 rfl ⟨_, lenS (by rw [S_len, sizeLine_eq, sep_len]; omega), _, _, rfl, rfl, wss_nil (wss_nil ?_)⟩)))))
        refine ⟨some (.int (i : Nat)), some (.str ⟨#[c]⟩), d + wgt c, i + 3, fo ++ [(l.take i).drop b], ?_, ?_, by rw [List.length_append, List.length_singleton]; omega, hG⟩
        · rw [S_len, sep_len]
          rfl
        · rw [List.map_append]; rfl
      | false =>
        rw [if_neg (by rintro ⟨_, y⟩; rw [hp2] at y; cases y)] at hG
        exact wss_nil (wss_nil ⟨_, _, _, b, fo, rfl, rfl, by omega, hG⟩)
    · rw [decide_eq_false h0]
      rw [if_neg (fun y => h0 y.1)] at hG
      exact wss_nil (wss_nil ⟨_, _, _, b, fo, rfl, rfl, by omega, hG⟩)
  · rintro ρ' M' ⟨o1, o2, d, b, fo, rfl, rfl, hf, hG⟩
    rw [enumS_len] at hG hf
    rw [List.drop_length, PL.G] at hG
    refine wss_cons (ws_ret (we_lst (wa_star (we_var 2 rfl ⟨_, .inl mset_same, wa_cons (we_slice (we_var 0 rfl (we_var 4 rfl ⟨_, rfl, _, .inr (.inr ⟨_, rfl, by rw [S_len, sizeLine_eq]; omega, rfl⟩), wa_nil fun ys ey => ⟨?_, ?_⟩⟩)))⟩))))
    · rw [ey, List.length_append, List.length_map, List.length_singleton, sizeLine_eq]; omega
    · refine ⟨_, M, les_new hp, .same _, ?_⟩
      rw [ey, cut_b]
      rw [← hG, List.map_append] at hc
      exact hc
end
end W
namespace W
open PySem PySem.Spec PyProof.Rows L2 DL SX PL
section
variable {P : Program} {w : World} {K : PySem.W.Frag} {mg : Str → Option Value} {base : Heap}
theorem le30 {n : Nat} (h : n ≤ 10 ^ 30) : (n : Int) ≤ 10 ^ 30 := by
  have e : ((10 ^ 30 : Nat) : Int) = 10 ^ 30 := by decide +kernel
  omega
theorem sz1 : 1 ≤ sizeLine := by decide
theorem sz2 : 2 ≤ sizeLine := by decide
def wrd (b : Bool) : Str := if b then "introduced" else "beside"
theorem starts1 (c d : Nat) (r : List Nat) : Txt.startswith (S (c :: r)) (S [d]) = decide (c = d) := by
  have q := TL.at_iff (x := S (c :: r)) (y := S [d]) (by simp [TL.tl]) 0
  have e : TL.pre (TL.tl (S [d])) ((TL.tl (S (c :: r))).drop 0) = decide (c = d) := by
    show TL.pre [d] (c :: r) = _
    unfold TL.pre
    simp
    rfl
  rw [e] at q
  unfold Txt.startswith
  rw [S_len, S_len]
  rw [show decide (0 + [d].length ≤ (c :: r).length) = true from decide_eq_true (by simp), Bool.true_and]
  by_cases h : c = d
  · rw [decide_eq_true h] at q ⊢
    exact (q.mpr rfl).2
  · rw [decide_eq_false h] at q ⊢
    cases hs : Builtin.Str.subAt (S (c :: r)) (S [d]) 0 with
    | false => rfl
    | true => exact absurd (q.mp ⟨by rw [S_len, S_len]; simp, hs⟩) (by decide)
theorem ends1 (c d : Nat) (r : List Nat) : Txt.endswith (S (r ++ [c])) (S [d]) = decide (c = d) := by
  have q := TL.at_iff (x := S (r ++ [c])) (y := S [d]) (by simp [TL.tl]) r.length
  have e : TL.pre (TL.tl (S [d])) ((TL.tl (S (r ++ [c]))).drop r.length) = decide (c = d) := by
    show TL.pre [d] ((r ++ [c]).drop r.length) = _
    rw [List.drop_left]
    unfold TL.pre
    simp
    rfl
  rw [e] at q
  unfold Txt.endswith
  have el : (S (r ++ [c])).length - (S [d]).length = r.length := by rw [S_len, S_len]; simp
  rw [el, S_len, S_len]
  rw [show decide (0 + [d].length ≤ (r ++ [c]).length) = true from decide_eq_true (by simp), Bool.true_and]
  by_cases h : c = d
  · rw [decide_eq_true h] at q ⊢
    exact (q.mpr rfl).2
  · rw [decide_eq_false h] at q ⊢
    cases hs : Builtin.Str.subAt (S (r ++ [c])) (S [d]) r.length with
    | false => rfl
    | true => exact absurd (q.mp ⟨by rw [S_len, S_len]; simp, hs⟩) (by decide)
theorem cut_mid (o c : Nat) (m : List Nat) : cutS (S (o :: (m ++ [c]))) (some 1) (some (-1)) = S m := by
  unfold cutS
  rw [S_len, show (some (1 : Int)) = some ((1 : Nat) : Int) from rfl, HT.sIx_nat]
  have e1 : (o :: (m ++ [c])).length = m.length + 2 := by simp
  have e2 : HT.sIx (o :: (m ++ [c])).length (o :: (m ++ [c])).length (some (-1)) = m.length + 1 := by
    rw [e1]; simp only [HT.sIx]; rw [if_pos (by decide)]; omega
  rw [e2, e1, Nat.min_eq_left (by omega)]
  show S (((m ++ [c]).drop 0).take (m.length + 1 - 1)) = _
  rw [List.drop_zero, Nat.add_sub_cancel, List.take_left]
theorem br_S (b : Bool) : (S [opn b], S [cls b]) = (if b then (("{" : Str), ("}" : Str)) else (("[" : Str), ("]" : Str))) := by
  cases b <;> decide +kernel
theorem around_get {i : Nat} {x : D} (h : (gitems aroundD)[i]? = some x) : ∃ b : Bool, x = .tup [.str (wrd b), .tup [tS [opn b], tS [cls b]]] ∧ i = if b then 1 else 0 := by
  match i, h with
  | 0, h =>
    cases h
    refine ⟨false, ?_, rfl⟩
    have := br_S false
    injection this with h1 h2
    rw [tS, tS, h1, h2]; rfl
  | 1, h =>
    cases h
    refine ⟨true, ?_, rfl⟩
    have := br_S true
    injection this with h1 h2
    rw [tS, tS, h1, h2]; rfl
  | n + 2, h => simp [gitems, aroundD] at h
theorem sep_S (b : Bool) : S (sep b) = (if b then (" * " : Str) else (" + " : Str)) := by cases b <;> decide +kernel
theorem signs_of {i : Nat} {x : D} (h : (gitems signsD)[i]? = some x) : ∃ b : Bool, x = .tup [.str (wrd b), tS (sep b)] ∧ i = if b then 1 else 0 := by
  match i, h with
  | 0, h => cases h; refine ⟨false, ?_, rfl⟩; rw [tS, sep_S]; rfl
  | 1, h => cases h; refine ⟨true, ?_, rfl⟩; rw [tS, sep_S]; rfl
  | n + 2, h => simp [gitems, signsD] at h
/-- the first sign, and no bracket of copies -/
theorem txt_no {t : T} (h : Good t) (hn : ∀ s n u, t ≠ .cop s n u) : ∃ c r, txt t = c :: r ∧ ∀ b, c ≠ opn b := by
  cases t with
  | one => exact ⟨49, [], by rw [txt], fun b => by cases b <;> decide⟩
  | name x =>
    obtain ⟨h0, h1, h2⟩ := h
    cases x with
    | nil => exact absurd rfl h0
    | cons c r =>
      have q := h2 c List.mem_cons_self
      simp [letter] at q
      exact ⟨c, r, by rw [txt], fun b => by cases b <;> simp [opn] <;> omega⟩
  | cop s n u => exact absurd rfl (hn s n u)
  | row s ts => exact ⟨40, _, by rw [txt], fun b => by cases b <;> decide⟩
def copR : T → D
  | .cop s n t => .tup [.str (wrd s), .lst [.tup [.int (n : Nat), tS (txt t)]]]
  | _ => .non
theorem opn_inj {a b : Bool} : decide (opn a = opn b) = decide (a = b) := by cases a <;> cases b <;> decide
def cCopiesIn : Con := fun ds M Φ => ∃ t, ds = [tS (txt t)] ∧ Good t ∧ (txt t).length ≤ 1000000 ∧ Φ (copR t) M
theorem ok_copies_in (F : Fx w K mg) (Fn : Fc P w K mg base "number_in" [] 1 1 cNumberIn) : BodyOk P w K mg base "copies_in" s_copies_in ["text", "word", "head", "end", "number", "blank", "rest", "many"] 1 1 cCopiesIn := by
  intro f cdv A outer s H E hr ds M Φ hl hc
  obtain ⟨t, rfl, hg, hl, hc⟩ := hc
  have nd : (["text", "word", "head", "end", "number", "blank", "rest", "many"] : List Str).Nodup := by decide +kernel
  obtain ⟨a, kvs, h1, h2, h3⟩ := F.gAROUND
  refine wss_cons (ws_for PassesOwn.never (wi_gitems h1 h2 h3 ?_))
  refine ⟨fun i ρ' M' => ∃ o1 o2 o3 o4 o5 o6 o7, ρ' = [some (tS (txt t)), o1, o2, o3, o4, o5, o6, o7] ∧ M' = M ∧ ∀ s n u, t = .cop s n u → i ≤ if s then 1 else 0, ?_, ?_, ?_⟩
  · exact ⟨none, none, none, none, none, none, none, rfl, rfl, fun s n u _ => Nat.zero_le _⟩
  · rintro i x ρ' M' hx ⟨o1, o2, o3, o4, o5, o6, o7, rfl, rfl, hi⟩
    obtain ⟨b, rfl, rfl⟩ := around_get hx
    refine wg_tup ⟨rfl, rfl, wgs_cons (wg_name 1 (wgs_cons (wg_tup ⟨rfl, rfl, wgs_cons (wg_name 2 (wgs_cons (wg_name 3 (wgs_nil ⟨rfl, wgs_nil ⟨rfl, ?_⟩⟩) nd)) nd)⟩)) nd)⟩
    refine wss_cons (ws_if (wt_ww (ww_and (wt_val (we_startswith (we_var 0 rfl ⟨_, rfl, we_var 2 rfl ⟨_, rfl, _, rfl, ?_⟩⟩))))))
    by_cases hcop : ∃ s n u, t = .cop s n u
    · obtain ⟨s, n, u, rfl⟩ := hcop
      obtain ⟨n1, n2, hu⟩ := hg
      have et : txt (.cop s n u) = opn s :: ((TL.numL n ++ 32 :: txt u) ++ [cls s]) := by rw [txt]; simp
      have hl2 : (TL.numL n).length + (txt u).length + 3 ≤ 1000000 := by rw [et] at hl; simp at hl; omega
      rw [et, starts1, opn_inj]
      by_cases hs : s = b
      · subst hs
        rw [decide_eq_true rfl]
        refine ww_and1 (wt_val (we_endswith (we_var 0 (by rfl) ⟨_, rfl, we_var 3 rfl ⟨_, rfl, _, rfl, ?_⟩⟩)))
        rw [show opn s :: ((TL.numL n ++ 32 :: txt u) ++ [cls s]) = (opn s :: (TL.numL n ++ 32 :: txt u)) ++ [cls s] from rfl, ends1, decide_eq_true rfl]
        refine wss_cons (ws_asg (we_partition (we_slice (we_var 0 rfl (we_int ⟨1, rfl, we_negI (we_int ⟨1, rfl, _, rfl, _, .inr (.inr ⟨_, rfl, ?_, rfl⟩), _, rfl, we_gstr F.gBLANK ⟨_, rfl, ?_, ?_, ?_⟩⟩)⟩)))))
        · rw [S_len, sizeLine_eq]; simp; omega
        · decide +kernel
        · refine Nat.le_trans (cutS_length _ _ _) ?_
          rw [S_len, sizeLine_eq]; simp; omega
        · rw [show (opn s :: (TL.numL n ++ 32 :: txt u)) ++ [cls s] = opn s :: ((TL.numL n ++ 32 :: txt u) ++ [cls s]) from rfl, cut_mid, show (" " : Str) = S [32] by decide +kernel]
          have hp : Txt.partition (S (TL.numL n ++ 32 :: txt u)) (S [32]) = (S (TL.numL n), S [32], S (txt u)) :=
            partition_some (by simp) (par_head (c := 32) (sep := []) (p := TL.numL n) (txt u) (TL.numL_free (by omega)))
          rw [hp]
          refine wg_tup ⟨rfl, rfl, wgs_cons (wg_name 4 (wgs_cons (wg_name 5 (wgs_cons (wg_name 6 (wgs_nil ⟨rfl, ?_⟩) nd)) nd)) nd)⟩
          refine wss_cons (ws_set 7 nd (we_call Fn (hr.mono (by decide)) (wa_cons (we_var 4 rfl (wa_nil ⟨rfl, n, rfl, by omega, n2, ?_⟩)))))
          refine wss_cons (ws_if (wt_ww (ww_and (wt_notN (we_var 7 rfl ?_)))))
          refine ww_and1 (wt_chainI (we_gint F.gLEAST_MANY (we_var 7 rfl ⟨_, _, rfl, rfl, ?_⟩)))
          rw [decide_eq_true (show (2 : Int) ≤ (n : Int) by omega)]
          refine we_gint F.gMOST_MANY ⟨_, rfl, ?_⟩
          rw [decide_eq_true (le30 n2)]
          refine wss_cons (ws_ret (we_tup (wa_cons (we_var 1 rfl (wa_cons (we_lst (wa_cons (we_tup (wa_cons (we_var 7 rfl (wa_cons (we_var 6 rfl (wa_nil ⟨sz2, wa_nil ⟨sz1, wa_nil ⟨sz2, Lets.of hc⟩⟩⟩)))))))))))))
      · rw [decide_eq_false hs]
        refine wss_nil (wss_nil ⟨_, _, _, _, _, _, _, rfl, rfl, fun s' n' u' e => ?_⟩)
        cases e
        have := hi s n u rfl
        cases s <;> cases b <;> simp_all
    · obtain ⟨c, r, et, hno⟩ := txt_no hg fun s n u e => hcop ⟨s, n, u, e⟩
      rw [et, starts1, decide_eq_false (hno b)]
      exact wss_nil (wss_nil ⟨_, _, _, _, _, _, _, by rw [← et]; rfl, rfl, fun s' n' u' e => absurd ⟨s', n', u', e⟩ hcop⟩)
  · rintro ρ' M' ⟨o1, o2, o3, o4, o5, o6, o7, rfl, rfl, hi⟩
    refine wss_cons (ws_ret (we_non (Lets.of ?_)))
    cases t with
    | cop s n u =>
      have := hi s n u rfl
      cases s <;> simp [gitems, aroundD] at this
    | one => exact hc
    | name x => exact hc
    | row s ts => exact hc
def rowR (s : Bool) (ts : List T) : D := .tup [.str (wrd s), .lst (ts.map fun t => .tup [.int 1, tS (txt t)])]
theorem txts_len (ts : List T) : (txts ts).length = ts.length := by rw [txts_map, List.length_map]
theorem joins_len (s : Bool) : ∀ (ps : List (List Nat)), ps.length ≤ (TL.joinL (sep s) ps).length + 1
  | [] => Nat.zero_le _
  | [p] => by simp
  | p :: q :: r => by
    have ih := joins_len s (q :: r)
    rw [TL.joinL, List.length_append, List.length_append, sep_len]
    simp only [List.length_cons] at ih ⊢
    omega
theorem row_txt (s : Bool) (ts : List T) : txt (.row s ts) = 40 :: (TL.joinL (sep s) (txts ts) ++ [41]) := by rw [txt]
theorem row_len (s : Bool) (ts : List T) : (txt (.row s ts)).length = (TL.joinL (sep s) (txts ts)).length + 2 := by rw [row_txt]; simp
def cRowIn : Con := fun ds M Φ => ∃ s ts, ds = [tS (txt (.row s ts))] ∧ Good (.row s ts) ∧ (txt (.row s ts)).length ≤ 1000000 ∧ Φ (rowR s ts) M
theorem ok_row_in (F : Fx w K mg) (Fp : Fc P w K mg base "parted" [] 1 2 cParted) : BodyOk P w K mg base "row_in" s_row_in ["text", "word", "sign", "parts", "part"] 1 1 cRowIn := by
  intro f cdv A outer s H E hr ds M Φ hl hc
  obtain ⟨b, ts, rfl, ⟨hg1, hg⟩, hl, hc⟩ := hc
  have nd : (["text", "word", "sign", "parts", "part"] : List Str).Nodup := by decide +kernel
  obtain ⟨a, kvs, h1, h2, h3⟩ := F.gSIGNS
  have hz := row_len b ts
  have hn : ts ≠ [] := by rintro rfl; simp at hg1
  have hj := joins_len b (txts ts)
  rw [txts_len] at hj
  refine wss_cons (ws_if (wt_ww (ww_or (wt_not (wt_val (we_startswith (we_var 0 rfl ⟨_, rfl, we_str ⟨_, rfl, _, rfl, ?_⟩⟩)))))))
  have e1 : Txt.startswith (S (txt (.row b ts))) ("(" : Str) = true := by rw [row_txt, show ("(" : Str) = S [40] by decide +kernel, starts1, decide_eq_true rfl]
  have e2 : Txt.endswith (S (txt (.row b ts))) (")" : Str) = true := by rw [row_txt, show (")" : Str) = S [41] by decide +kernel, show 40 :: (TL.joinL (sep b) (txts ts) ++ [41]) = (40 :: TL.joinL (sep b) (txts ts)) ++ [41] from rfl, ends1, decide_eq_true rfl]
  rw [e1]
  refine ww_or1 (wt_not (wt_val (we_endswith (we_var 0 rfl ⟨_, rfl, we_str ⟨_, rfl, _, rfl, ?_⟩⟩))))
  rw [e2]
  refine wss_nil (wss_cons (ws_for PassesOwn.never (wi_gitems h1 h2 h3 ?_)))
  refine ⟨fun i ρ' M' => ∃ o1 o2 o3 o4, ρ' = [some (tS (txt (.row b ts))), o1, o2, o3, o4] ∧ M' = M ∧ i ≤ if b then 1 else 0, ?_, ?_, ?_⟩
  · exact ⟨none, none, none, none, rfl, rfl, Nat.zero_le _⟩
  · rintro i x ρ' M' hx ⟨o1, o2, o3, o4, rfl, rfl, hi⟩
    obtain ⟨c, rfl, rfl⟩ := signs_of hx
    refine wg_tup ⟨rfl, rfl, wgs_cons (wg_name 1 (wgs_cons (wg_name 2 (wgs_nil ⟨rfl, ?_⟩) nd)) nd)⟩
    refine wss_cons (ws_set 3 nd (we_call Fp (hr.mono (by decide)) (wa_cons (we_slice (we_var 0 rfl (we_int ⟨1, rfl, we_negI (we_int ⟨1, rfl, _, rfl, _, .inr (.inr ⟨_, rfl, ?_, rfl⟩), wa_cons (we_var 2 rfl (wa_nil ⟨rfl, TL.joinL (sep b) (txts ts), c, ?_, ?_, ?_⟩))⟩)⟩))))))
    · rw [S_len, sizeLine_eq]; omega
    · rw [row_txt, cut_mid]; rfl
    · omega
    · by_cases hbc : b = c
      · subst hbc
        rw [parts_join hn hg]
        refine wss_cons (ws_if (wt_gtI (we_len (F.bn _ (by decide +kernel)) (we_var 3 rfl ⟨_, lenL, we_int ⟨_, _, rfl, rfl, ?_⟩⟩))))
        rw [List.length_map, txts_len, decide_eq_true (show (1 : Int) < (ts.length : Int) by omega)]
        refine wss_cons (ws_ret (we_tup (wa_cons (we_var 1 rfl (wa_cons (we_lc nd (blkOk_by (N := ["text", "word", "sign", "parts", "part"]) (sc := defScope s_row_in) (own := [("part", 4)]) (by decide +kernel)) (fun _ _ _ _ _ => pg_name (i := 4) nd rfl (Or.inl rfl)) (gt_name (by decide)) (fun _ _ _ _ _ => pts_nil) tk_nil
          (wi_list (we_var 3 rfl ⟨_, .inl rfl, ?_⟩)))))))) 
        refine ⟨by rw [List.length_map, txts_len, sizeLine_eq]; omega, fun i acc M'' => M'' = M' ∧ acc = (ts.take i).map fun t => .tup [.int 1, tS (txt t)], ⟨rfl, rfl⟩, ?_, ?_⟩
        · rintro i x acc M'' hx ⟨rfl, rfl⟩
          rw [txts_map, List.map_map, List.getElem?_map] at hx
          obtain ⟨t, ht, rfl⟩ := Option.map_eq_some_iff.mp hx
          intro s1 H1 C cl fp
          refine we_tup (wa_cons (we_int (wa_cons (we_var 4 rfl (wa_nil ⟨sz2, rfl, ?_⟩)))))
          rw [take_snoc ht, List.map_append]; rfl
        · rintro acc M'' ⟨rfl, rfl⟩
          rw [List.length_map, txts_len, List.take_length]
          exact wa_nil ⟨sz2, Lets.of hc⟩
      · have hcb : c = !b := by cases b <;> cases c <;> simp_all
        subst hcb
        have := parts_none (s := !b) hn hg
        rw [Bool.not_not] at this
        rw [this]
        refine wss_cons (ws_if (wt_gtI (we_len (F.bn _ (by decide +kernel)) (we_var 3 rfl ⟨_, lenL, we_int ⟨_, _, rfl, rfl, ?_⟩⟩))))
        rw [show decide ((1 : Int) < ((([TL.joinL (sep b) (txts ts)].map tS).length : Nat) : Int)) = false from rfl]
        refine wss_nil (wss_nil ⟨_, _, _, _, rfl, rfl, ?_⟩)
        cases b <;> simp_all
  · rintro ρ' M' ⟨o1, o2, o3, o4, rfl, rfl, hi⟩
    cases b <;> simp [gitems, signsD] at hi
end
end W
namespace PL
open PySem SX TL
/-- how often, what -/
def kids : T → List (Nat × T)
  | .cop _ n t => [(n, t)]
  | .row _ ts => ts.map fun t => (1, t)
  | _ => []
def isCop : T → Bool
  | .cop _ _ _ => true
  | _ => false
mutual
def ppl : T → Nat
  | .one => 1
  | .name _ => 1
  | .cop _ n t => n * ppl t
  | .row _ ts => ppls ts
def ppls : List T → Nat
  | [] => 0
  | t :: ts => ppl t + ppls ts
end
theorem ppls_sum : ∀ ts : List T, ppls ts = (ts.map ppl).sum
  | [] => rfl
  | t :: ts => by rw [ppls, ppls_sum ts, List.map_cons, List.sum_cons]
theorem ppl_kids {t : T} (h : kids t ≠ []) : ppl t = ((kids t).map fun q => q.1 * ppl q.2).sum := by
  cases t with
  | one => simp [kids] at h
  | name x => simp [kids] at h
  | cop s n t => simp [kids, ppl]
  | row s ts =>
    rw [ppl, ppls_sum, kids, List.map_map]
    congr 1
    apply List.map_congr_left
    intro t _
    simp
theorem ppl_none {t : T} (h : kids t = []) (hg : Good t) : ppl t = 1 := by
  cases t with
  | one => rw [ppl]
  | name x => rw [ppl]
  | cop s n t => simp [kids] at h
  | row s ts =>
    have := hg.1
    simp [kids] at h
    subst h
    simp at this
theorem join_len_mem {S : List Nat} : ∀ {ps : List (List Nat)} {p : List Nat}, p ∈ ps → p.length ≤ (joinL S ps).length
  | [q], p, h => by
    have : p = q := by simpa using h
    subst this
    rw [joinL]; exact Nat.le_refl _
  | q :: r :: ps, p, h => by
    rw [joinL, List.length_append, List.length_append]
    rcases List.mem_cons.mp h with rfl | h
    · omega
    · have := join_len_mem (S := S) h
      omega
theorem kids_ok {t : T} {q : Nat × T} (hq : q ∈ kids t) (hg : Good t) : Good q.2 ∧ ht q.2 < ht t ∧ (txt q.2).length < (txt t).length ∧ 1 ≤ q.1 ∧ q.1 ≤ 10 ^ 30 := by
  cases t with
  | one => simp [kids] at hq
  | name x => simp [kids] at hq
  | cop s n t =>
    have : q = (n, t) := by simpa [kids] using hq
    subst this
    obtain ⟨h1, h2, h3⟩ := hg
    refine ⟨h3, by rw [ht]; exact Nat.lt_succ_self _, by rw [txt]; simp; omega, by show 1 ≤ n; omega, h2⟩
  | row s ts =>
    obtain ⟨t, ht', rfl⟩ := List.mem_map.mp (show q ∈ ts.map (fun t => (1, t)) from hq)
    refine ⟨goods_all.mp hg.2 t ht', ?_, ?_, Nat.le_refl _, show 1 ≤ 10 ^ 30 by decide⟩
    · rw [ht]; have := hts_le ht'; show ht t < _; omega
    · rw [txt]
      have : (txt t).length ≤ (joinL (sep s) (txts ts)).length := join_len_mem (by rw [txts_map]; exact List.mem_map_of_mem ht')
      simp; omega
theorem numL_lt16 : ∀ n : Nat, n < 16 ^ (numL n).length := by
  intro n
  induction n using Nat.strongRecOn with
  | _ n ih =>
    by_cases hn : n < 10
    · rw [numL_lt hn]; show n < 16 ^ 1; omega
    · have := ih (n / 10) (by omega)
      rw [numL_step (by omega), List.length_append, List.length_singleton, Nat.pow_succ]
      omega
theorem pow16_add {a b m n : Nat} (h1 : a < 16 ^ m) (h2 : b < 16 ^ n) : a + b < 16 ^ (m + n + 1) := by
  have e1 : 16 ^ m ≤ 16 ^ (m + n) := Nat.pow_le_pow_right (by decide) (by omega)
  have e2 : 16 ^ n ≤ 16 ^ (m + n) := Nat.pow_le_pow_right (by decide) (by omega)
  rw [Nat.pow_succ]
  omega
theorem pow16_le {a m n : Nat} (h1 : a < 16 ^ m) (h : m ≤ n) : a < 16 ^ n := Nat.lt_of_lt_of_le h1 (Nat.pow_le_pow_right (by decide) h)
mutual
theorem ppl_lt : ∀ {t : T}, Good t → ppl t < 16 ^ (txt t).length
  | .one, _ => by rw [ppl, txt]; decide
  | .name x, h => by
    rw [ppl, txt]
    have : 0 < x.length := List.length_pos_iff.mpr h.1
    exact pow16_le (m := 1) (by decide) this
  | .cop s n t, h => by
    rw [ppl, txt]
    have h1 := numL_lt16 n
    have h2 := ppl_lt h.2.2
    have h3 : n * ppl t < 16 ^ ((numL n).length + (txt t).length) := by
      rw [Nat.pow_add]
      exact Nat.mul_lt_mul'' h1 h2
    exact pow16_le h3 (by simp; omega)
  | .row s ts, h => by
    rw [ppl, txt]
    exact pow16_le (ppls_lt (s := s) h.2) (by simp; omega)
theorem ppls_lt {s : Bool} : ∀ {ts : List T}, Goods ts → ppls ts < 16 ^ (joinL (sep s) (txts ts)).length
  | [], _ => by rw [ppls]; exact Nat.pow_pos (by decide)
  | [t], h => by rw [ppls, ppls, txts, txts, joinL]; exact ppl_lt h.1
  | t :: u :: ts, h => by
    have h1 := ppl_lt h.1
    have h2 := ppls_lt (s := s) (ts := u :: ts) h.2
    rw [ppls, show txts (t :: u :: ts) = txt t :: txt u :: txts ts by rw [txts, txts], joinL]
    rw [show txts (u :: ts) = txt u :: txts ts by rw [txts]] at h2
    refine pow16_le (pow16_add h1 h2) ?_
    rw [List.length_append, List.length_append, sep_len]; omega
end
mutual
theorem txt_lt : ∀ {t : T}, Good t → ∀ c ∈ txt t, c < 128
  | .one, _, c, hc => by rw [txt] at hc; simp at hc; omega
  | .name x, h, c, hc => by
    rw [txt] at hc
    have q := h.2.2 c hc
    simp [letter] at q; omega
  | .cop s n t, h, c, hc => by
    rw [txt] at hc
    simp at hc
    rcases hc with rfl | hc | rfl | hc | rfl
    · cases s <;> decide
    · have := numL_digits n c hc; omega
    · decide
    · exact txt_lt h.2.2 c hc
    · cases s <;> decide
  | .row s ts, h, c, hc => by
    rw [txt] at hc
    simp at hc
    rcases hc with rfl | hc | rfl
    · decide
    · exact txts_lt (s := s) h.2 c hc
    · decide
theorem txts_lt {s : Bool} : ∀ {ts : List T}, Goods ts → ∀ c ∈ joinL (sep s) (txts ts), c < 128
  | [], _, c, hc => by rw [txts, joinL] at hc; simp at hc
  | [t], h, c, hc => by rw [txts, txts, joinL] at hc; exact txt_lt h.1 c hc
  | t :: u :: ts, h, c, hc => by
    rw [show txts (t :: u :: ts) = txt t :: txt u :: txts ts by rw [txts, txts], joinL] at hc
    rcases List.mem_append.mp hc with hc | hc
    · exact txt_lt h.1 c hc
    · rcases List.mem_append.mp hc with hc | hc
      · cases s <;> (simp [sep, sgn] at hc; omega)
      · exact txts_lt (s := s) (ts := u :: ts) h.2 c (by rw [show txts (u :: ts) = txt u :: txts ts by rw [txts]]; exact hc)
end
theorem log16 {a m : Nat} (h : a < 16 ^ m) : a.log2 ≤ 4 * m := by
  by_cases h0 : a = 0
  · subst h0; simp
  · have e : a < 2 ^ (4 * m) := by rw [Nat.pow_mul]; exact h
    exact Nat.le_of_lt ((Nat.log2_lt h0).mpr e)
end PL
namespace W
open PySem PySem.Spec PyProof.Rows L2 DL SX PL
section
variable {P : Program} {w : World} {K : PySem.W.Frag} {mg : Str → Option Value} {base : Heap}
def wordT : T → Str
  | .one => "one"
  | .name _ => "name"
  | .cop s _ _ => wrd s
  | .row s _ => wrd s
def grpD (t : T) : List D := (kids t).map fun q => .tup [.int (q.1 : Nat), tS (txt q.2)]
def isOne : T → Bool
  | .one => true
  | _ => false
def isNm : T → Bool
  | .name _ => true
  | _ => false
theorem first_no {t : T} (h : Good t) (h1 : isNm t = false) : ∃ c r, txt t = c :: r ∧ letter c = false := by
  cases t with
  | one => exact ⟨49, [], by rw [txt], by decide⟩
  | name x => cases h1
  | cop s n u => exact ⟨opn s, _, by rw [txt], by cases s <;> decide⟩
  | row s ts => exact ⟨40, _, by rw [txt], by decide⟩
theorem isName_txt {t : T} (h : Good t) : isNameL (txt t) = isNm t := by
  cases hn : isNm t with
  | true =>
    cases t with
    | name x =>
      obtain ⟨h0, h1, h2⟩ := h
      rw [txt]
      unfold isNameL
      rw [decide_eq_true (show 1 ≤ x.length from List.length_pos_iff.mpr h0), decide_eq_true h1, List.all_eq_true.mpr h2]; rfl
    | _ => cases hn
  | false =>
    obtain ⟨c, r, e, hc⟩ := first_no h hn
    rw [e]
    unfold isNameL
    rw [List.all_cons, hc]; simp
theorem isOne_txt {t : T} (h : Good t) : decide (S (txt t) = ("1" : Str)) = isOne t := by
  rw [show ("1" : Str) = S [49] by decide +kernel]
  have e : decide (S (txt t) = S [49]) = decide (txt t = [49]) := decide_eq_decide.mpr ⟨S_inj, fun h => by rw [h]⟩
  rw [e]
  cases t with
  | one => rw [txt]; rfl
  | name x =>
    obtain ⟨h0, h1, h2⟩ := h
    rw [txt]
    refine decide_eq_false fun q => ?_
    subst q
    exact absurd (h2 49 (by simp)) (by decide)
  | cop s n u => rw [txt]; refine decide_eq_false fun q => ?_; injection q with q1 _; cases s <;> cases q1
  | row s ts => rw [txt]; refine decide_eq_false fun q => ?_; injection q with q1 _; cases q1
def cGroupsIn : Con := fun ds M Φ => ∃ t, ds = [tS (txt t)] ∧ Good t ∧ (txt t).length ≤ 1000000 ∧ Φ (.tup [.str (wordT t), .lst (grpD t)]) M
theorem ok_groups_in (F : Fx w K mg) (F1 : Fc P w K mg base "is_name" [] 1 1 cIsName) (F2 : Fc P w K mg base "copies_in" [] 2 1 cCopiesIn) (F3 : Fc P w K mg base "row_in" [] 2 1 cRowIn) :
    BodyOk P w K mg base "groups_in" s_groups_in ["text", "found"] 1 2 cGroupsIn := by
  intro f cdv A outer s H E hr ds M Φ hl hc
  obtain ⟨t, rfl, hg, hl, hc⟩ := hc
  have nd : (["text", "found"] : List Str).Nodup := by decide +kernel
  refine wss_cons (ws_if (wt_eqS (we_var 0 rfl (we_gstr F.gPERSON ⟨_, rfl, ?_⟩))))
  rw [isOne_txt hg]
  cases h1 : isOne t with
  | true =>
    cases t with
    | one => exact wss_cons (ws_ret (we_tup (wa_cons (we_gstr F.gONE (wa_cons (we_lst (wa_nil ⟨Nat.zero_le _, wa_nil ⟨sz2, Lets.of hc⟩⟩)))))))
    | _ => cases h1
  | false =>
    refine wss_nil (wss_cons (ws_if (wt_val (we_call F1 (hr.mono (by decide)) (wa_cons (we_var 0 rfl (wa_nil ⟨rfl, _, rfl, hl, _, rfl, ?_⟩)))))))
    rw [isName_txt hg]
    cases h2 : isNm t with
    | true =>
      cases t with
      | name x => exact wss_cons (ws_ret (we_tup (wa_cons (we_gstr F.gNAME (wa_cons (we_lst (wa_nil ⟨Nat.zero_le _, wa_nil ⟨sz2, Lets.of hc⟩⟩)))))))
      | _ => cases h2
    | false =>
      refine wss_nil (wss_cons (ws_set 1 nd (we_call F2 (hr.mono (by decide)) (wa_cons (we_var 0 rfl (wa_nil ⟨rfl, _, rfl, hg, hl, ?_⟩))))))
      refine wss_cons (ws_ret (we_if (wt_isN (we_var 1 rfl ?_))))
      cases t with
      | one => cases h1
      | name x => cases h2
      | cop b n u => exact we_var 1 rfl (Lets.of hc)
      | row b ts =>
        refine we_call F3 (hr.mono (by decide)) (wa_cons (we_var 0 rfl (wa_nil ⟨rfl, _, _, rfl, hg, hl, Lets.of ?_⟩)))
        unfold grpD kids at hc
        rw [List.map_map] at hc
        exact hc
def cPlanText (h : Nat) : Con := fun ds M Φ => ∃ t d, ds = [tS (txt t), .int (d : Nat)] ∧ Good t ∧ (txt t).length ≤ 1000000 ∧ ht t ≤ h ∧ d + ht t ≤ 60 ∧ Φ (.bl true) M
theorem kids_len {t : T} (hg : Good t) : (kids t).length ≤ (txt t).length := by
  cases t with
  | one => simp [kids]
  | name x => simp [kids]
  | cop s n u => rw [txt]; simp [kids]
  | row s ts =>
    have := joins_len s (txts ts)
    rw [txts_len] at this
    rw [row_len]; simp [kids]; omega
theorem ok_is_plan_text (h : Nat) (F : Fx w K mg) (F1 : Fc P w K mg base "groups_in" [] 3 1 cGroupsIn) (F2 : ∀ j, h = j + 1 → Fc P w K mg base "is_plan_text" [] (j + 4) 2 (cPlanText j)) :
    BodyOk P w K mg base "is_plan_text" s_is_plan_text ["text", "depth", "found", "many", "part"] 2 (h + 3) (cPlanText h) := by
  intro f cdv A outer s H E hr ds M Φ hl hc
  obtain ⟨t, d, rfl, hg, hl, hh, hd, hc⟩ := hc
  have nd : (["text", "depth", "found", "many", "part"] : List Str).Nodup := by decide +kernel
  have hk := kids_len hg
  refine wss_cons (ws_set 2 nd (we_if (wt_leI (we_var 1 rfl (we_gint F.gMOST_DEPTH ⟨_, _, rfl, rfl, ?_⟩)))))
  rw [decide_eq_true (show (d : Int) ≤ 60 by omega)]
  refine we_call F1 (hr.mono (by omega)) (wa_cons (we_var 0 rfl (wa_nil ⟨rfl, _, rfl, hg, hl, ?_⟩)))
  refine wss_cons (ws_ret (we_and (we_notN (we_var 2 rfl ⟨_, rfl, ?_⟩))))
  refine we_one (we_all (F.bn _ (by decide +kernel)) (we_lc nd (blkOk_by (N := ["text", "depth", "found", "many", "part"]) (sc := defScope s_is_plan_text) (own := [("many", 3), ("part", 4)]) (by decide +kernel)) (fun _ _ _ _ _ => pg_tup rfl (pgs_cons (pg_name (i := 3) nd rfl (Or.inl rfl)) (pgs_cons (pg_name (i := 4) nd rfl (Or.inl rfl)) pgs_nil)) rfl rfl) (gt_two (by decide) (by decide)) (fun _ _ _ _ _ => pts_nil) tk_nil
    (wi_list (we_ix (we_var 2 rfl (we_int ⟨1, _, rfl, ixT (atI_nat (j := 1) rfl), _, .inl rfl, ?_⟩))))))
  refine ⟨by rw [grpD, List.length_map, sizeLine_eq]; omega, fun i acc M' => M' = M ∧ acc = (List.replicate i true).map D.bl, ⟨rfl, rfl⟩, ?_, ?_⟩
  · rintro i x acc M' hx ⟨rfl, rfl⟩
    rw [grpD, List.getElem?_map] at hx
    obtain ⟨q, hq, rfl⟩ := Option.map_eq_some_iff.mp hx
    obtain ⟨g1, g2, g3, g4, g5⟩ := kids_ok (List.mem_of_getElem? hq) hg
    refine ⟨_, _, rfl, ?_⟩
    intro s1 H1 C cl fp
    obtain ⟨j, rfl⟩ : ∃ j, h = j + 1 := ⟨h - 1, by omega⟩
    refine we_call (F2 j rfl) (hr.mono (by omega)) (wa_cons (we_var 4 rfl (wa_cons (we_addI (we_var 1 rfl (we_int ⟨_, _, rfl, rfl, wa_nil ⟨rfl, q.2, d + 1, rfl, g1, by omega, by omega, by omega, rfl, ?_⟩⟩))))))
    rw [List.replicate_succ', List.map_append]; rfl
  · rintro acc M' ⟨rfl, rfl⟩
    exact ⟨_, rfl, by rw [List.all_replicate]; simp; exact Lets.of hc⟩
end
end W
namespace W
open PySem PySem.Spec PyProof.Rows L2 DL SX PL
def six (a b c d e f : D) : List (Str × D) := [("own_text", a), ("own_names", b), ("own_word", c), ("own_groups", d), ("own_copies", e), ("own_people", f)]
theorem putD_ne {g f : Str} {d y : D} {r : List (Str × D)} (h : g ≠ f) : putD f d ((g, y) :: r) = (g, y) :: putD f d r := by
  rw [putD, if_neg h]
def f1 (a : D) : List (Str × D) := [("own_text", a)]
def f2 (a b : D) : List (Str × D) := [("own_text", a), ("own_names", b)]
def f3 (a b c : D) : List (Str × D) := [("own_text", a), ("own_names", b), ("own_word", c)]
def f4 (a b c d : D) : List (Str × D) := [("own_text", a), ("own_names", b), ("own_word", c), ("own_groups", d)]
def f5 (a b c d e : D) : List (Str × D) := [("own_text", a), ("own_names", b), ("own_word", c), ("own_groups", d), ("own_copies", e)]
section
variable {a b c d e f x : D}
theorem put1 : putD "own_text" x [] = f1 x := rfl
theorem put2 : putD "own_names" x (f1 a) = f2 a x := by unfold f1; rw [putD_ne] <;> first | rfl | decide +kernel
theorem put3 : putD "own_word" x (f2 a b) = f3 a b x := by unfold f2; rw [putD_ne, putD_ne] <;> first | rfl | decide +kernel
theorem put4 : putD "own_groups" x (f3 a b c) = f4 a b c x := by unfold f3; rw [putD_ne, putD_ne, putD_ne] <;> first | rfl | decide +kernel
theorem put5 : putD "own_copies" x (f4 a b c d) = f5 a b c d x := by unfold f4; rw [putD_ne, putD_ne, putD_ne, putD_ne] <;> first | rfl | decide +kernel
theorem put6 : putD "own_people" x (f5 a b c d e) = six a b c d e x := by unfold f5; rw [putD_ne, putD_ne, putD_ne, putD_ne, putD_ne] <;> first | rfl | decide +kernel
theorem sl1 : (f1 a).length < 1000 := by show 1 < 1000; decide
theorem sl2 : (f2 a b).length < 1000 := by show 2 < 1000; decide
theorem sl3 : (f3 a b c).length < 1000 := by show 3 < 1000; decide
theorem sl4 : (f4 a b c d).length < 1000 := by show 4 < 1000; decide
theorem sl5 : (f5 a b c d e).length < 1000 := by show 5 < 1000; decide
theorem lk_hit {g : Str} {y : D} {r : List (Str × D)} : ((g, y) :: r).lookup g = some y := by rw [List.lookup_cons]; simp
theorem lk_miss {g h : Str} {y : D} {r : List (Str × D)} (hn : (g == h) = false) : ((h, y) :: r).lookup g = r.lookup g := by rw [List.lookup_cons, hn]
theorem lk_text : List.lookup ("own_text" : Str) (six a b c d e f) = some a := lk_hit
theorem lk_names : List.lookup ("own_names" : Str) (six a b c d e f) = some b := by unfold six; rw [lk_miss, lk_hit]; decide +kernel
theorem lk_word : List.lookup ("own_word" : Str) (six a b c d e f) = some c := by unfold six; rw [lk_miss, lk_miss, lk_hit] <;> decide +kernel
theorem lk_groups : List.lookup ("own_groups" : Str) (six a b c d e f) = some d := by unfold six; rw [lk_miss, lk_miss, lk_miss, lk_hit] <;> decide +kernel
theorem lk_people : List.lookup ("own_people" : Str) (six a b c d e f) = some f := by unfold six; rw [lk_miss, lk_miss, lk_miss, lk_miss, lk_miss, lk_hit] <;> decide +kernel
theorem lk5_groups : List.lookup ("own_groups" : Str) (f5 a b c d e) = some d := by unfold f5; rw [lk_miss, lk_miss, lk_miss, lk_hit] <;> decide +kernel
end
/-- what is known of the class -/
structure Px (K : PySem.W.Frag) (mg : Str → Option Value) (C : Addr) : Prop where
  at_ : mg "Plan" = some (.ref C)
  cl : Cls K C
  na : ∀ f, f ∈ fNames → NoAttr K C f
  init : ∃ f, Mk K C f ∧ Md K C "__init__" "Plan.__init__" s_Plan___init__ f
  text : ∃ p f, PropOf K C "text" p f ∧ Md K C "text" "Plan.text" s_Plan_text f
  names : ∃ p f, PropOf K C "names" p f ∧ Md K C "names" "Plan.names" s_Plan_names f
  word : ∃ p f, PropOf K C "word" p f ∧ Md K C "word" "Plan.word" s_Plan_word f
  many : ∃ p f, PropOf K C "many" p f ∧ Md K C "many" "Plan.many" s_Plan_many f
  invert : ∃ f, Meth K C "__invert__" f ∧ Md K C "__invert__" "Plan.__invert__" s_Plan___invert__ f
section
variable {P : Program} {w : World} {K : PySem.W.Frag} {mg : Str → Option Value} {base : Heap} {C : Addr}
theorem cop_in {t : T} (h : Good t) : ∃ c r, txt t = c :: r ∧ decide (S [c] ∈ (["[", "{"] : List Str)) = isCop t := by
  have e1 : (["[", "{"] : List Str) = [S [91], S [123]] := by decide +kernel
  rw [e1]
  have key : ∀ c : Nat, decide (S [c] ∈ [S [91], S [123]]) = (decide (c = 91) || decide (c = 123)) := fun c => by
    rw [← Bool.decide_or]
    refine decide_eq_decide.mpr ?_
    simp only [List.mem_cons, List.not_mem_nil, or_false]
    constructor
    · rintro (h | h)
      · left; injection S_inj h
      · right; injection S_inj h
    · rintro (rfl | rfl)
      · exact .inl rfl
      · exact .inr rfl
  cases t with
  | one => exact ⟨49, [], by rw [txt], by rw [key]; rfl⟩
  | name x =>
    obtain ⟨h0, h1, h2⟩ := h
    cases x with
    | nil => exact absurd rfl h0
    | cons c r =>
      have q := h2 c List.mem_cons_self
      simp [letter] at q
      exact ⟨c, r, by rw [txt], by rw [key, decide_eq_false (by omega), decide_eq_false (by omega)]; rfl⟩
  | cop s n u => exact ⟨opn s, _, by rw [txt], by rw [key]; cases s <;> rfl⟩
  | row s ts => exact ⟨40, _, by rw [txt], by rw [key]; rfl⟩
theorem cut_1 (c : Nat) (r : List Nat) : cutS (S (c :: r)) none (some 1) = S [c] := by
  unfold cutS
  rw [S_len, show (some (1 : Int)) = some ((1 : Nat) : Int) from rfl, HT.sIx_nat, HT.sIx_none, Nat.min_eq_left (by simp)]
  rfl
theorem grp_cmp {t : T} (h : Good t) : ∃ ps, CmpDs (grpD t) ps 1 :=
  ⟨_, cmps_map (j := 1) (Nat.le_refl _) (g := fun q => .tuple [.int (q.1 : Nat), .str (S (txt q.2))]) fun q hq => cmp_tup (cmps_cons (cmp_int _) (Nat.le_refl _) (cmps_cons (cmp_str fun c hc => by
    have := txt_lt (kids_ok hq h).1 c hc; omega) (Nat.le_refl _) cmps_nil))⟩
end
end W
namespace W
open PySem PySem.Spec PyProof.Rows L2 DL He HK
theorem mem_bn {x : Str} (h : x ∈ bns) : Fa.free x ∈ spec.fa := List.mem_append_left _ (List.mem_map_of_mem h)
theorem mem_glo {x : Str} (h : x ∈ globsA) : Fa.glo x ∈ spec.fa := List.mem_append_right _ (List.mem_append_left _ (List.mem_map_of_mem h))
theorem mem_na {x : Str} (h : x ∈ fNames) : Fa.noat "Plan" x ∈ spec.fa := List.mem_append_right _ (List.mem_append_right _ (List.mem_append_left _ (List.mem_map_of_mem h)))
theorem mem_co (i : Nat) {f : Fa} (h : consts[i]? = some f) : f ∈ spec.fa := List.mem_append_right _ (List.mem_append_right _ (List.mem_append_right _ (List.mem_of_getElem? h)))
theorem ob_eq (s : PySem.W.SharedT) : ob s = hk.obs s.abs := obsG_eq (HandSHeadRun.getT_eq s)
end W
namespace W
open PySem PySem.Spec PyProof.Rows L2 DL SX PL
section
variable {P : Program} {w : World} {K : PySem.W.Frag} {mg : Str → Option Value} {base : Heap} {C : Addr}
abbrev nInit : List Str := ["self", "text", "groups", "many", "part"]
theorem mul_ok {n p m : Nat} (h1 : n ≤ 10 ^ 30) (h2 : p < 16 ^ m) (h3 : m ≤ 100000) : CMulW (n : Nat) (p : Nat) := by
  show ((n : Int)).natAbs.log2 + ((p : Int)).natAbs.log2 < 1000000
  rw [Int.natAbs_natCast, Int.natAbs_natCast]
  have e1 := log16 h2
  have e2 : n < 16 ^ 26 := Nat.lt_of_le_of_lt h1 (by decide)
  have e3 := log16 e2
  omega
theorem sum_cast {α : Type} (f : α → Nat) : ∀ l : List α, (l.map fun q => ((f q : Nat) : Int)).sum = (((l.map f).sum : Nat) : Int)
  | [] => rfl
  | x :: l => by simp [sum_cast f l]
end
end W
namespace DL
open PySem PySem.Spec PyProof.Rows L2
abbrev eSet (w : World) : Obj := { cls := .type "set", dict := none, data := .set #[] 0 (.fresh 0 0 (!w.params.followText "set-order")) }
end DL
namespace DL
open PySem PySem.Spec PyProof.Rows L2
def GoodZ (w : World) (e : Int × Value) : Prop := ∃ x t, e.2 = Value.str x t ∧ e.1 = hashStr w x
/-- the set of texts at a: L its members, none twice -/
def SetZ (w : World) (h : Heap) (a : Addr) (L : List Str) : Prop :=
  ∃ o es ep t, h.get? a = some o ∧ (o.ExactSet ∧ o.data = .set es ep t) ∧ ((∀ e ∈ es.toList, GoodZ w e) ∧ (es.toList.map fun e => strOf e.2).Perm L ∧ L.Nodup) ∧ (es.size < scanBound ∧ t.fits es.size = true) ∧ Ris t.place.toList ∧ (w.params.followText "set-order" = true ∨ t.led = true)
section
variable {P : Program} {w : World} {h h' : Heap} {a : Addr} {L : List Str}
theorem SetZ.keep (R : SetZ w h a L) (k : ∀ o, h.get? a = some o → h'.get? a = some o) : SetZ w h' a L := by
  obtain ⟨o, es, ep, t, ho, r⟩ := R
  exact ⟨o, es, ep, t, k o ho, r⟩
theorem goodZ_elems {l : List (Int × Value)} (g : ∀ e ∈ l, GoodZ w e) : ElemsOf (PySem.strKind P w) l := fun e he => by
  obtain ⟨x, t, h1, h2⟩ := g e he
  exact ⟨⟨x, by rw [h1]; exact strKind_is P w x t, h2⟩, by rw [h1]; rfl⟩
theorem goodZ_is {e : Int × Value} (g : GoodZ w e) (x : Str) : (PySem.strKind P w).is x e.2 = true ↔ strOf e.2 = x := by
  obtain ⟨y, t, h1, _⟩ := g
  rw [h1]
  have q := strKind_is P w y t
  refine ⟨fun z => ((PySem.strKind P w).inj _ _ _ z q).symm, fun z => ?_⟩
  have z' : y = x := z
  rw [← z']; exact q
theorem goodZ_mem {l : List (Int × Value)} (g : ∀ e ∈ l, GoodZ w e) (x : Str) : (∃ e ∈ l, (PySem.strKind P w).is x e.2 = true) ↔ x ∈ l.map fun e => strOf e.2 := by
  rw [List.mem_map]
  exact ⟨fun ⟨e, he, q⟩ => ⟨e, he, (goodZ_is (g e he) x).mp q⟩, fun ⟨e, he, q⟩ => ⟨e, he, (goodZ_is (g e he) x).mpr q⟩⟩
end
section
variable {P : Program} {w : World} {A : Around} {E : Value → Shared → Prop} {s : Shared} {a : Addr} {L : List Str}
theorem setZ_tail {g : Bool → Sem Unit} (hg : ∀ (b : Bool) (s1 : Shared) (Q' : Unit → Shared → Prop), Q' () s1 → wpAny (model P w) A (g b) Q' E s1) {o : Obj} {es es1 : Array (Int × Value)} {ep : Nat} {t t2 : SetTable} {L' : List Str} {wd : Bool} {R : Option Bool → Shared → Prop}
    (ho : s.heap.get? a = some o) (hex : o.ExactSet) (hd : o.data = .set es ep t) (g1 : (∀ e ∈ es1.toList, GoodZ w e) ∧ (es1.toList.map fun e => strOf e.2).Perm L' ∧ L'.Nodup) (hb : es1.size < scanBound) (hf : t2.fits es1.size = true) (hr : Ris t2.place.toList) (hl : w.params.followText "set-order" = true ∨ t2.led = true)
    (hR : ∀ h', Heap.SameBut a s.heap h' → SetZ w h' a L' → R (some true) { s with heap := h' }) :
    wpAny (model P w) A (do
      storeSet a es1 t2
      if (!wd && t2.tooFull) = true then do
          g (relayAll t2 es1 (SetTable.grown es1.size)).2.2
          storeSet a (relayAll t2 es1 (SetTable.grown es1.size)).1 (relayAll t2 es1 (SetTable.grown es1.size)).2.1
          pure (some true)
        else pure (some true)) R E s := by
  have ho1 := store_at (es' := es1) (t' := t2) ho hd
  have sb := Heap.SameBut.update s.heap a (Obj.putSet es1 t2)
  refine wpAny_bind (wpAny_storeSet_of ho hd ?_ (fits_of_scanBound hb))
  by_cases hc : (!wd && t2.tooFull) = true
  · rw [if_pos hc]
    have q1 := relayAll_perm t2 es1 (SetTable.grown es1.size)
    have q2 := relayAll_fits t2 es1 (SetTable.grown es1.size)
    have q3 := relayAll_ris t2 es1 (SetTable.grown es1.size)
    have q4 := relayAll_led t2 es1 (SetTable.grown es1.size)
    generalize relayAll t2 es1 (SetTable.grown es1.size) = Y at q1 q2 q3 q4 ⊢
    obtain ⟨es2, t3, gv⟩ := Y
    dsimp only at q1 q2 q3 q4 ⊢
    have hb2 : es2.size < scanBound := by
      have : es2.size = es1.size := by rw [← Array.length_toList, q1.length_eq, Array.length_toList]
      omega
    refine wpAny_bind (hg _ _ _ (wpAny_bind (wpAny_storeSet_of ho1 rfl ?_ (fits_of_scanBound hb2))))
    refine wpAny_pure (hR _ (sb.trans (Heap.SameBut.update _ a _)) ⟨_, es2, _, t3, store_at (es' := es2) (t' := t3) ho1 rfl, ⟨hex, rfl⟩, ⟨fun e he => g1.1 e (q1.mem_iff.mp he), (q1.map _).trans g1.2.1, g1.2.2⟩, ⟨hb2, q2⟩, q3, ?_⟩)
    rw [q4]; exact hl
  · rw [if_neg hc]
    exact wpAny_pure (hR _ sb ⟨_, es1, _, t2, ho1, ⟨hex, rfl⟩, g1, ⟨hb, hf⟩, hr, hl⟩)
theorem setZ_add {x : Str} {tk : Tok} {Q : Bool → Shared → Prop} (R : SetZ w s.heap a L) (room : L.length + 1 < scanBound)
    (hQ : ∀ h' b, Heap.SameBut a s.heap h' → SetZ w h' a (if x ∈ L then L else x :: L) → Q b { s with heap := h' }) : wpAny (model P w) A (setAddHashed a (.str x tk) ((PySem.strKind P w).hash x)) Q E s := by
  obtain ⟨o, es, ep, t, ho, ⟨hex, hd⟩, ⟨g, pm, nd⟩, ⟨hb, hf⟩, hr, hl⟩ := R
  have hel : ElemsOf (PySem.strKind P w) es.toList := goodZ_elems g
  have hsc : (Value.str x tk).scannable = true := rfl
  unfold setAddHashed setAddHashedIn
  refine wpAny_holding (wpAny_bind (wpAny_setState_of ho hd hf ?_))
  dsimp only
  rw [byScan_of hsc hb hel]
  simp only [↓reduceIte]
  unfold setAddByScan
  refine wpAny_bind (wpAny_bind (wpAny_rule (wpAny_bind (wpAny_setScan_of (strKind_is P w x tk) ho hd hf hel ?_))))
  by_cases hx : x ∈ L
  · cases hfi : List.findIdx? (fun e => (PySem.strKind P w).is x e.2) es.toList with
    | none =>
      exfalso
      obtain ⟨e, he, q⟩ := (goodZ_mem (P := P) g x).mpr (pm.mem_iff.mpr hx)
      have c := List.findIdx?_eq_none_iff.mp hfi e he
      rw [q] at c; cases c
    | some j =>
      dsimp only
      have q := hQ s.heap false (Heap.SameBut.refl a s.heap)
      rw [if_pos hx] at q
      exact wpAny_pure (wpAny_pure (q ⟨o, es, ep, t, ho, ⟨hex, hd⟩, ⟨g, pm, nd⟩, ⟨hb, hf⟩, hr, hl⟩))
  · cases hfi : List.findIdx? (fun e => (PySem.strKind P w).is x e.2) es.toList with
    | some j =>
      exfalso
      obtain ⟨hj, pj, _⟩ := List.findIdx?_eq_some_iff_getElem.mp hfi
      exact hx (pm.mem_iff.mp ((goodZ_mem (P := P) g x).mp ⟨es.toList[j], List.getElem_mem hj, pj⟩))
    | none =>
      dsimp only
      have gw : ∀ (b : Bool) {s1 : Shared} {Q' : Unit → Shared → Prop}, Q' () s1 → wpAny (model P w) A (match b with | true => rule "set.scan.the-table-gave-way" | false => pure ()) Q' E s1 := fun b s1 Q' q => by
        cases b <;> first | exact wpAny_pure q | exact wpAny_rule q
      have p1 := layNew_perm t es ((PySem.strKind P w).hash x) (.str x tk)
      have p2 := layNew_fits t es ((PySem.strKind P w).hash x) (.str x tk)
      have p3 := layNew_ris t es ((PySem.strKind P w).hash x) (.str x tk) hr
      have p4 := layNew_led t es ((PySem.strKind P w).hash x) (.str x tk)
      generalize layNew t es ((PySem.strKind P w).hash x) (.str x tk) = Y at p1 p2 p3 p4 ⊢
      obtain ⟨es1, t1, wd, gv⟩ := Y
      dsimp only at p1 p2 p3 p4 ⊢
      rw [Array.toList_push] at p1
      have pc := p1.trans (List.perm_append_singleton _ _)
      have gN : (∀ e ∈ es1.toList, GoodZ w e) ∧ (es1.toList.map fun e => strOf e.2).Perm (x :: L) ∧ (x :: L).Nodup := by
        refine ⟨fun e he => ?_, (pc.map _).trans (pm.cons _), List.nodup_cons.mpr ⟨hx, nd⟩⟩
        rcases List.mem_cons.mp (pc.mem_iff.mp he) with z | z
        · rw [z]; exact ⟨x, tk, rfl, rfl⟩
        · exact g e z
      have hb1 : es1.size < scanBound := by
        have := gN.2.1.length_eq
        rw [List.length_map, Array.length_toList, List.length_cons] at this
        omega
      have hled : w.params.followText "set-order" = true ∨ t1.led = true := by rw [p4]; exact hl
      have fin : ∀ h', Heap.SameBut a s.heap h' → SetZ w h' a (x :: L) → Q true { s with heap := h' } := fun h' sb r => hQ h' true sb (by rw [if_neg hx]; exact r)
      refine wpAny_bind (gw _ ?_)
      split
      · refine wpAny_bind ?_
        rw [hashByValue_scannable 8 hsc]
        refine wpAny_pure (setZ_tail ?_ ho hex hd gN hb1 ?_ ?_ ?_ ?_)
        · intro b s1 Q' q
          cases b <;> first | exact wpAny_pure q | exact wpAny_rule q
        · first | (split <;> first | exact p2 | exact SetTable.fits_plain_off p2) | exact p2
        · first | (split <;> exact p3) | exact p3
        · first | (split <;> exact hled) | exact hled
        · intro h' sb r
          dsimp only
          exact wpAny_pure (fin h' sb r)
      · refine wpAny_bind (wpAny_pure ?_)
        simp only [↓reduceIte]
        refine setZ_tail ?_ ho hex hd gN hb1 p2 p3 hled ?_
        · intro b s1 Q' q
          cases b <;> first | exact wpAny_pure q | exact wpAny_rule q
        · intro h' sb r
          dsimp only
          exact wpAny_pure (fin h' sb r)
end
/-- the members behind the adds of some texts -/
def dedZ : List Str → List Str → List Str
  | L, [] => L
  | L, x :: r => dedZ (if x ∈ L then L else x :: L) r
theorem dedZ_snoc : ∀ (L r : List Str) (x : Str), dedZ L (r ++ [x]) = if x ∈ dedZ L r then dedZ L r else x :: dedZ L r
  | L, [], x => rfl
  | L, y :: r, x => dedZ_snoc _ r x
theorem dedZ_len : ∀ (L r : List Str), (dedZ L r).length ≤ L.length + r.length
  | L, [] => Nat.le_refl _
  | L, y :: r => by
    have := dedZ_len (if y ∈ L then L else y :: L) r
    unfold dedZ
    split at this <;> simp only [List.length_cons] at this ⊢ <;> split <;> simp_all <;> omega
theorem dedZ_mem : ∀ (L r : List Str) (k : Str), k ∈ dedZ L r ↔ k ∈ L ∨ k ∈ r
  | L, [], k => by simp [dedZ]
  | L, y :: r, k => by
    unfold dedZ
    rw [dedZ_mem, List.mem_cons]
    split
    · rename_i h
      constructor
      · rintro (z | z)
        · exact .inl z
        · exact .inr (.inr z)
      · rintro (z | z | z)
        · exact .inl z
        · exact .inl (z ▸ h)
        · exact .inr z
    · rw [List.mem_cons]
      constructor
      · rintro ((z | z) | z)
        · exact .inr (.inl z)
        · exact .inl z
        · exact .inr (.inr z)
      · rintro (z | z | z)
        · exact .inl (.inr z)
        · exact .inl (.inl z)
        · exact .inr z
theorem dedZ_nd : ∀ (L r : List Str), L.Nodup → (dedZ L r).Nodup
  | L, [], h => h
  | L, y :: r, h => by
    unfold dedZ
    refine dedZ_nd _ r ?_
    split
    · exact h
    · exact List.nodup_cons.mpr ⟨by assumption, h⟩
theorem setZ_new {w : World} {h : Heap} {a : Addr} (ho : h.get? a = some (eSet w)) : SetZ w h a [] :=
  ⟨_, #[], 0, _, ho, ⟨⟨rfl, rfl, rfl⟩, rfl⟩, ⟨fun e he => by simp at he, .nil, .nil⟩, ⟨by decide, by rfl⟩, List.Pairwise.nil, by
    show _ ∨ (!w.params.followText "set-order") = true
    cases w.params.followText "set-order"
    · exact .inr rfl
    · exact .inl rfl⟩
section
variable {P : Program} {w : World} {A : Around} {E : Value → Shared → Prop} {s : Shared}
theorem setZ_update {I : Addr} {fp wr : List Addr} {G : Array GenState → Array GenState → Prop} {n : Nat} {Pv : Nat → Value → Prop} {St : Nat → Shared → Prop} {R : Result → Shared → Prop}
    (W : WalksS P w A.in1 I fp wr G n Pv St) (S : Addr) (hSf : S ∉ fp) (zs : List Str) (hn : n = zs.length) (hb : zs.length + 1 < scanBound) (hv : ∀ i v, Pv i v → ∃ x t, zs[i]? = some x ∧ v = .str x t) :
    ∀ (k i : Nat) (s : Shared), n - i = k → i ≤ n → St i s → SetZ w s.heap S (dedZ [] (zs.take i)) → (∀ s', Moved (S :: wr) G s s' → SetZ w s'.heap S (dedZ [] zs) → R (.ok (.ret .none)) s') →
      codeAny (model P w) A (.builtin "set.update.loop" ⟨[.ref S, .ref I], []⟩) R s := by
  have nw : S ∉ wr := fun z => hSf (W.sub _ z)
  have sub : ∀ b ∈ wr, b ∈ S :: wr := fun b => List.mem_cons_of_mem _
  intro k
  induction k with
  | zero =>
    intro i s hk hi st hS hR
    refine codeAny_builtin PyProof.Rows.F.entry_set_update_loop ?_
    rw [Around.under_plainId PyProof.Rows.F.plain_set_update_loop _]
    obtain rfl : i = n := by omega
    refine wpAny_bind (m := pyNext _) (W.done s _ _ st fun s' hm => wpAny_pure (hR s' (hm.mono sub) ?_))
    have := hS.keep (h' := s'.heap) fun o e => hm.heap S o nw e
    rwa [List.take_of_length_le (Nat.le_of_eq hn.symm)] at this
  | succ k ih =>
    intro i s hk hi st hS hR
    refine codeAny_builtin PyProof.Rows.F.entry_set_update_loop ?_
    rw [Around.under_plainId PyProof.Rows.F.plain_set_update_loop _]
    refine wpAny_bind (m := pyNext _) (W.item i s _ _ (by omega) st fun v s' hP st' hm => ?_)
    obtain ⟨x, t, hz, rfl⟩ := hv i v hP
    have hS' := hS.keep (h' := s'.heap) fun o e => hm.heap S o nw e
    refine wpAny_bind (m := holding [Value.str x t] (setAdd S (.str x t))) (wpAny_holding ?_)
    unfold setAdd
    have hlen := dedZ_len [] (zs.take i)
    rw [List.length_nil, List.length_take] at hlen
    refine wpAny_holding (wpAny_bind ((PySem.strKind P w).pyHash (k := x) (strKind_is _ _ _ _) (setZ_add (s := { s' with toks := s'.toks + 1 }) hS' (by omega) fun h' b sb hS2 => ?_)))
    have hS3 : SetZ w h' S (dedZ [] (zs.take (i + 1))) := by
      rw [List.take_add_one, hz]
      show SetZ w h' S (dedZ [] (zs.take i ++ [x]))
      rw [dedZ_snoc]; exact hS2
    refine wpAny_pure ⟨plainId_quiet PyProof.Rows.F.plain_set_update_loop _, ih (i + 1) _ (by omega) (by omega) (W.frame _ s' _ _ st' (Nat.le_succ _) fun b hb o e => ?_) hS3 fun s2 hm2 hS4 => hR s2 (Moved.trans W.gtrans ((hm.mono sub).then_heap (Nat.le_succ _) fun b o hb e => ?_) hm2) hS4⟩
    · rw [sb.2 b fun q : b = S => hSf (q ▸ hb)]; exact e
    · rw [sb.2 b fun q : b = S => hb (q ▸ List.mem_cons_self)]; exact e
theorem set_of_texts {l : Addr} {its : Array Value} (zs : List Str) {Q : Value → Shared → Prop} (hh : A.handled = none) (hl : s.heap.IsList l its) (hit : StrsAre its.toList zs) (hb : zs.length + 1 < scanBound)
    (hQ : ∀ (h' : Heap) (tk : Nat), SetZ w h' s.heap.objs.size (dedZ [] zs) → (∀ b o, s.heap.get? b = some o → h'.get? b = some o) → Q (.ref s.heap.objs.size) { s with heap := h', toks := tk }) : wpAny (model P w) A (call (.type "set") [.ref l]) Q E s := by
  have size : its.size = zs.length := by have q := StrsAre.length hit; rwa [Array.length_toList] at q
  obtain ⟨c, tl, hmro⟩ := F.called_set.mro
  have f1 := F.called_set.made
  have f2 := F.called_set.sub
  have f3 := F.called_set.notType
  have f4 := F.called_set.canCreate
  have f5 := F.typeCall_set_1 (.ref l)
  refine wpAny_call (codeAny_of_tree (show wpAny _ _ (callAny (.type "set") _) _ _ _ from wpAny_pure ⟨Code.quiet_builtin _ (by decide +kernel), codeAny_builtin F.entry_type_call ?_⟩))
  rw [Around.under_plain (weight_type_call_type "set" [.ref l] []) rfl]
  repeat any_goals first | assumption | wp_step
  refine codeAny_mono (code_set_led1 (.ref l) (E := E) (Q₁ := fun x s1 => x = .ref s.heap.objs.size ∧ s1 = { s with heap := s.heap.push (eSet w) }) ⟨rfl, rfl⟩) fun r s1 hr => ?_
  cases r with
  | error e => exact hr
  | ok fl =>
    cases fl with
    | ret obj =>
      obtain ⟨rfl, rfl⟩ := hr
      have at0 : (s.heap.push (eSet w)).get? s.heap.objs.size = some (eSet w) := Heap.get?_push_size _ rfl
      have ty0 : Shared.TypeIs { s with heap := s.heap.push (eSet w) } (.ref s.heap.objs.size) "set" := ⟨_, at0, rfl⟩
      have g1 := F.called_set.init.lookup
      have g2 := F.called_set.init.bind (.ref s.heap.objs.size)
      repeat any_goals first | assumption | wp_step
      refine codeAny_mono (codeAny_call_builtin (R := wants (fun r s2 => r = .none ∧ ∃ h' tk, s2 = { s with heap := h', toks := tk } ∧ SetZ w h' s.heap.objs.size (dedZ [] zs) ∧ (∀ b o, s.heap.get? b = some o → h'.get? b = some o)) E) F.called_set.init.plain F.entry_set_init (check_set_init_1 ty0 ?_)) fun r2 s2 hr2 => ?_
      · obtain ⟨ol, hol, hcl, nl, hdl⟩ := hl
        obtain ⟨c1, c2, c3, c4⟩ := ol
        simp only at hcl hdl
        subst hcl hdl
        have hol1 : (s.heap.push (eSet w)).get? l = some { cls := .type "list", dict := c2, data := .seq its nl, slots := c4 } := Heap.get?_push_of_some _ hol
        have k1 := F.sub_list_set
        have k2 := F.sub_list_frozenset
        have k3 : (Value.type "list" == Value.type "dict") = false := by decide
        have hl1 : (s.heap.push (eSet w)).IsList l its := ⟨_, hol1, rfl, nl, rfl⟩
        unfold Builtin.«set.__init__» noKeywords Builtin.Frozenset.updateFrom
        generalize hPI : pyIter = PI
        wp_walk
        subst hPI
        refine wpAny_pyIter_list hl1 (wpAny_bind (wpAny_runValue ?_))
        have ll : l < s.heap.objs.size := Heap.lt_size hol
        have hh3 : A.in1.in1.in1.handled = none := by simp [hh]
        have z1 : (s.heap.push (eSet w)).objs.size = s.heap.objs.size + 1 := Heap.size_push ..
        have ne1 : l ≠ (s.heap.push (eSet w)).objs.size := by rw [z1]; exact Nat.ne_of_lt (Nat.lt_succ_of_lt ll)
        have ne2 : s.heap.objs.size ∉ [(s.heap.push (eSet w)).objs.size, l] := by
          rw [z1]; simp only [List.mem_cons, List.not_mem_nil, or_false, not_or]; exact And.intro (Nat.ne_of_lt (Nat.lt_succ_self _)) (Nat.ne_of_gt ll)
        have vals : ∀ (i : Nat) (v : Value), its[i]? = some v → ∃ x t, zs[i]? = some x ∧ v = .str x t := fun i v hv => by
          obtain ⟨y, t, e1, e2⟩ := StrsAre.item hit i v (by rw [Array.getElem?_toList]; exact hv)
          exact ⟨y, t, e2, e1⟩
        refine setZ_update ((Walks.list hh3 _ l ne1 its).toS) s.heap.objs.size ne2 zs size hb vals (its.size - 0) 0 _ (by omega) (Nat.zero_le _) ⟨⟨_, Heap.get?_push_size _ rfl, rfl, rfl⟩, (hl1.push _)⟩ (setZ_new (Heap.get?_push_of_some _ at0)) ?_
        intro s' hm hS'
        obtain ⟨h', g', d', t', o'⟩ := s'
        have e1 : g' = s.gens := hm.gens
        have e2 : d' = s.drawn := hm.drawn
        have e3 : o' = s.os := hm.os
        subst e1 e2 e3
        refine wpAny_pure (show wpAny _ _ (ret Value.none) _ _ _ from wpAny_pure ⟨rfl, h', t', rfl, hS', fun b o e => ?_⟩)
        have b0 : b < s.heap.objs.size := Heap.lt_size e
        exact hm.heap b o (by rw [z1]; simp only [List.mem_cons, List.not_mem_nil, or_false, not_or]; exact And.intro (Nat.ne_of_lt b0) (Nat.ne_of_lt (Nat.lt_succ_of_lt b0))) (Heap.get?_push_of_some _ (Heap.get?_push_of_some _ e))
      · cases r2 with
        | error e => exact hr2
        | ok fl2 =>
          cases fl2 with
          | ret r =>
            obtain ⟨rfl, h', tk, rfl, q1, q2⟩ := hr2
            repeat any_goals first | assumption | wp_step
            exact hQ _ _ q1 q2
          | _ => exact hr2.elim
    | _ => exact hr.elim
/-- sorted(a set of texts) -/
theorem sorted_setZ {a : Addr} {L : List Str} {Q : Value → Shared → Prop} (R : SetZ w s.heap a L) (hh : A.handled = none)
    (hQ : ∀ s' p (out : Array Value) (c : Nat) (zs : List Str), (∀ b o, s.heap.get? b = some o → s'.heap.get? b = some o) → s'.gens = s.gens → s'.os = s.os → s.heap.objs.size ≤ p →
      s'.heap.get? p = some (seqObj "list" out c) → StrsAre out.toList zs → zs.Perm L → sortedS zs = true → Q (.ref p) s') :
    wpAny (model P w) A (call (.builtin "sorted") [.ref a]) Q E s := by
  obtain ⟨o, es, ep, t, ho, ⟨hex, hd⟩, ⟨g, pm, nd⟩, ⟨hb, hf⟩, hr, hl⟩ := R
  refine Calls.call_function_entry kind_sorted plain_sorted entry_sorted (args_sorted1 _) ?_
  unfold Builtin.«sorted»
  refine wpAny_bind (m := checkCount "sorted" 1 1 _) (wpAny_pure ?_)
  refine wpAny_bind (collect_set (A := A.in1) hh ⟨o, ho, hex.1, hd⟩ hf hb hr hl fun s1 vs k1 hz g1 o1 pv => ?_)
  have hI : StrsAre vs (vs.map strOf) := strsAre_map vs fun v hv => by
    obtain ⟨e, he, rfl⟩ := List.mem_map.mp (pv.mem_iff.mp hv)
    obtain ⟨x, tk, h1, _⟩ := g e he
    exact ⟨x, tk, h1⟩
  have hvl : vs.length ≤ sizeLine := by
    rw [pv.length_eq, List.length_map, Array.length_toList]
    exact fits_of_scanBound hb
  have pz : (vs.map strOf).Perm L := by
    have q := pv.map strOf
    rw [List.map_map] at q
    exact q.trans pm
  refine wpAny_bind (wpAny_newList ?_ hvl)
  have hoL : (s1.heap.push (seqObj "list" vs.toArray 0)).get? s1.heap.objs.size = some (seqObj "list" vs.toArray 0) := Heap.get?_push_size _ rfl
  refine wpAny_bind (wpAny_holding (wpAny_call_entry slot_list_sort ⟨_, hoL, rfl⟩ entry_list_sort (list_sort_treeKAny strKind_oneLt hoL hI.keysOf (fun v1 v2 rest e => keyKind_strs (by rw [← e]; exact hI)) hvl fun st' hp hs => ⟨_, rfl, ?_⟩) (args_list_sort _)))
  obtain ⟨zs, q1, q2, q3⟩ := sorted_out_str hI hp hs
  obtain ⟨c, hc⟩ := sortedHeap_at (vs := vs) (out := (arrOf st').map (·.2)) hoL
  refine wpAny_pure ⟨_, rfl, hQ _ s1.heap.objs.size _ c zs (fun b u e => ?_) g1 o1 hz hc q1 (q2.trans pz) q3⟩
  have q := k1 b u e
  have hlt := Heap.lt_size q
  refine (sortedHeap_old (Nat.ne_of_lt hlt) (by rw [size_push']; exact Nat.lt_succ_of_lt hlt)).trans ?_
  exact Heap.get?_push_of_some _ q
end
end DL
namespace DL
open PySem PySem.Spec PyProof.Rows L2
/-- the set of texts at a -/
def SetZO (w : World) (a : Addr) (L : List Str) : HO := .ext fun h => SetZ w h a L
theorem setZO_new {w : World} {P : Program} {H : Hp} {h : Heap} {a : Addr} {L : List Str} (R : SetZ w h a L) : ObjOk P w H h a (SetZO w a L) := by
  have ⟨o, _, _, _, ho, _⟩ := R
  exact ⟨R, ⟨o, ho⟩, fun h1 h2 p k => SetZ.keep p k⟩
theorem vals_of_strs : ∀ {us : List Value} {zs : List Str}, StrsAre us zs → Vals (zs.map V.str) us
  | _, _, .nil => .nil
  | _, _, .cons x t h => .cons (a := V.str x) ⟨t, rfl⟩ (vals_of_strs h)
section
variable {X : Cx} {ρ : Rho} {M : Mp} {Φ : D → Mp → Prop} {e : Expr} {pos p p2 pos2 : Pos}
def rSetZ (K : PySem.W.Frag) (w : World) : List V → Hp → VK → Prop := fun xs H Q => ∃ (l : Addr) (zs : List Str), xs = [V.ref l] ∧ SqL K H l (zs.map V.str) ∧ zs.length + 1 < scanBound ∧ ∀ p : Addr, H p = none → Q (.ref p) (upd H p (SetZO w p (dedZ [] zs)))
theorem cr_setZ (hc : X.calm = true) : CallR X (.type "set") (rSetZ X.K X.w) := by
  intro pins s σ H vs us Q I r h
  obtain ⟨l, zs, rfl, hq, hl, q⟩ := h
  rw [Vals.ref1 r]
  obtain ⟨its, rv, pl, hz⟩ := I.list hq
  refine set_of_texts zs (I.ok.hd hc) pl.isList (by simpa using strsAre_of rv) hl fun h' tk R k => ?_
  exact ⟨.ref s.heap.objs.size, _, I.laid k (Nat.le_refl _) (setZO_new R), rfl, q _ (I.hok.fresh (Nat.le_refl _))⟩
def rSortZ (w : World) : List V → Hp → VK → Prop := fun vs H Q => ∃ (a : Addr) (L : List Str), vs = [V.ref a] ∧ H a = some (SetZO w a L) ∧ L.length ≤ sizeLine ∧ ∀ (zs : List Str) (p : Addr), zs.Perm L → sortedS zs = true → H p = none → Q (.ref p) (upd H p (.lst (zs.map V.str)))
theorem cr_sortZ (hc : X.calm = true) : CallR X (.builtin "sorted") (rSortZ X.w) := by
  intro pins s σ H vs us Q I r h
  obtain ⟨a, L, rfl, ha, hl, q⟩ := h
  have R : SetZ X.w s.heap a L := (I.hok a _ ha).1
  rw [Vals.ref1 r]
  refine sorted_setZ R (I.ok.hd hc) fun s' p out c zs k g o hp hg hi pm hs => ?_
  have hlen : (zs.map V.str).length ≤ sizeLine := by rw [List.length_map, pm.length_eq]; exact hl
  have hn : H p = none := I.hok.fresh hp
  have J : Inv X pins σ (upd H p (.lst (zs.map V.str))) { s with heap := s'.heap, gens := s'.gens, drawn := s'.drawn, toks := s'.toks } :=
    I.call (ch := []) (Un.laid k hp hn) (I.hok.laid k hp ⟨hlen, out.toList, c, vals_of_strs hi, hg⟩) (by rw [g]; exact I.bare) (fun _ z => nomatch z)
  have e : s' = { s with heap := s'.heap, gens := s'.gens, drawn := s'.drawn, toks := s'.toks } := by
    cases s'; cases s; cases o; rfl
  rw [e]
  exact ⟨.ref p, _, J, rfl, q zs p pm hs hn⟩
/-- sorted(set(e)), e a list of texts -/
theorem we_sortedSetS (hm : X.mg "sorted" = none) (hm2 : X.mg "set" = none) (h : WE X ρ M e fun d M1 => ∃ zs : List Str, LstOf M1 d (zs.map D.str) ∧ zs.length < 1000 ∧ ∀ ys : List Str, ys.Perm (dedZ [] zs) → sortedS ys = true → Φ (.lst (ys.map D.str)) M1) (hc : X.calm = true := by rfl)
    (hg : Gl X "sorted" := by rfl) (hg2 : Gl X "set" := by rfl) (he : starEach [.Call (.Name "set" p2) [e] [] pos2] X.env = (false, eval (.Call (.Name "set" p2) [e] [] pos2) X.env) :: starEach [] X.env := by rfl) (hpl : (backTo pos (starEach [] X.env)).any (·.1) = false := by rfl)
    (he2 : starEach [e] X.env = (false, eval e X.env) :: starEach [] X.env := by rfl) (hpl2 : (backTo pos2 (starEach [] X.env)).any (·.1) = false := by rfl) : WE X ρ M (.Call (.Name "sorted" p) [.Call (.Name "set" p2) [e] [] pos2] [] pos) Φ := .mk fun {Z} σ H Q en w k =>
  eOf (pe_callB (cr_sortZ hc) hg hm (by decide +kernel) (pa_cons (pe_callTy (cr_setZ hc) hg2 hm2 (by decide +kernel) pa_sem (by decide) (by decide) he2 hpl2) pa_nil he) (by decide) (by decide) he hpl)
    ((wa_cons (ΦA := fun ds M2 => ∃ d, ∃ zs : List Str, ds = [d] ∧ LstOf M2 d (zs.map D.str) ∧ zs.length < 1000 ∧ ∀ ys : List Str, ys.Perm (dedZ [] zs) → sortedS ys = true → Φ (.lst (ys.map D.str)) M2) (h.imp fun d M1 ⟨zs, h1, h2, h3⟩ => wa_nil ⟨d, zs, rfl, h1, h2, h3⟩) he2).run σ H _ en w fun vs ds H1 M1 e1 w1 r1 hz => by
      obtain ⟨d, zs, rfl, hl, hn, hz⟩ := hz
      cases r1 with
      | cons r1 r2 =>
        cases r2
        obtain ⟨l, us, rfl, hq, rs⟩ := r1.asLst w1 hl
        obtain rfl := rs.strs
        have hd := dedZ_len [] zs
        rw [List.length_nil] at hd
        refine ⟨l, zs, rfl, hq, by unfold scanBound; omega, fun q hq0 => ⟨q, _, rfl, upd_same, by rw [sizeLine_eq]; omega, fun ys q2 pm hs hq2 => ?_⟩⟩
        have x1 := Ext.new (o := SetZO X.w q (dedZ [] zs)) w1 hq0
        exact (k.step (e1.trans x1)).new (w1.new hq0) hq2 (.lst upd_same ((w1.new hq0).fresh hq2) (Reps.ofStrs ys)) (hz ys pm hs))
end
end DL
namespace PL
open PySem PySem.Spec SX TL PyProof.Rows DL
def leZ (a b : Str) : Bool := !ltCps b.cps.toList a.cps.toList
theorem leZ_iff (a b : Str) : leZ a b = true ↔ a.cps.toList ≤ b.cps.toList := by
  unfold leZ
  rw [ltCps_eq, Bool.not_eq_true', decide_eq_false_iff_not]
  exact List.not_lt
theorem str_ext {a b : Str} (h : a.cps.toList = b.cps.toList) : a = b := by
  obtain ⟨⟨a⟩⟩ := a
  obtain ⟨⟨b⟩⟩ := b
  simp only at h
  subst h; rfl
theorem leZ_trans {a b c : Str} (h : leZ a b = true) (g : leZ b c = true) : leZ a c = true := (leZ_iff _ _).mpr (List.le_trans ((leZ_iff _ _).mp h) ((leZ_iff _ _).mp g))
theorem leZ_total (a b : Str) : leZ a b = true ∨ leZ b a = true := (List.le_total a.cps.toList b.cps.toList).imp (leZ_iff _ _).mpr (leZ_iff _ _).mpr
theorem leZ_anti {a b : Str} (h : leZ a b = true) (g : leZ b a = true) : a = b := str_ext (List.le_antisymm ((leZ_iff _ _).mp h) ((leZ_iff _ _).mp g))
theorem rising_pw : ∀ (p : Str) (l : List Str), risingS p l = true → (p :: l).Pairwise fun a b => leZ a b = true
  | p, [], _ => List.pairwise_cons.mpr ⟨fun _ h => (nomatch h), List.Pairwise.nil⟩
  | p, x :: r, h => by
    obtain ⟨h1, h2⟩ := Bool.and_eq_true_iff.mp (show (leZ p x && risingS x r) = true from h)
    have ih := rising_pw x r h2
    refine List.pairwise_cons.mpr ⟨fun y hy => ?_, ih⟩
    rcases List.mem_cons.mp hy with rfl | hy
    · exact h1
    · exact leZ_trans h1 (List.rel_of_pairwise_cons ih hy)
theorem sorted_pw : ∀ (l : List Str), sortedS l = true → l.Pairwise fun a b => leZ a b = true
  | [], _ => .nil
  | x :: r, h => rising_pw x r h
def insZ (x : Str) : List Str → List Str
  | [] => [x]
  | y :: r => if leZ x y = true then x :: y :: r else y :: insZ x r
theorem insZ_perm (x : Str) : ∀ l : List Str, (insZ x l).Perm (x :: l)
  | [] => .refl _
  | y :: r => by
    unfold insZ
    split
    · exact .refl _
    · exact ((insZ_perm x r).cons y).trans (.swap x y r)
theorem insZ_pw (x : Str) : ∀ l : List Str, (l.Pairwise fun a b => leZ a b = true) → (insZ x l).Pairwise fun a b => leZ a b = true
  | [], _ => List.pairwise_cons.mpr ⟨fun _ h => (nomatch h), List.Pairwise.nil⟩
  | y :: r, h => by
    obtain ⟨h1, h2⟩ := List.pairwise_cons.mp h
    unfold insZ
    split
    · rename_i q
      refine List.pairwise_cons.mpr ⟨fun z hz => ?_, h⟩
      rcases List.mem_cons.mp hz with rfl | hz
      · exact q
      · exact leZ_trans q (h1 z hz)
    · rename_i q
      refine List.pairwise_cons.mpr ⟨fun z hz => ?_, insZ_pw x r h2⟩
      rcases List.mem_cons.mp ((insZ_perm x r).mem_iff.mp hz) with rfl | hz
      · exact (leZ_total z y).resolve_left q
      · exact h1 z hz
def srtZ (l : List Str) : List Str := l.foldr insZ []
theorem srtZ_perm : ∀ l : List Str, (srtZ l).Perm l
  | [] => .refl _
  | x :: l => (insZ_perm x (srtZ l)).trans ((srtZ_perm l).cons x)
theorem srtZ_pw : ∀ l : List Str, (srtZ l).Pairwise fun a b => leZ a b = true
  | [] => .nil
  | x :: l => insZ_pw x _ (srtZ_pw l)
/-- ascending, none twice -/
def nmsOf (zs : List Str) : List Str := srtZ (dedZ [] zs)
theorem pw_perm_eq : ∀ {l m : List Str}, (l.Pairwise fun a b => leZ a b = true) → (m.Pairwise fun a b => leZ a b = true) → l.Perm m → l = m
  | [], m, _, _, p => (List.Perm.nil_eq p)
  | x :: l, [], _, _, p => absurd p.length_eq (by simp)
  | x :: l, y :: m, h, g, p => by
    obtain ⟨h1, h2⟩ := List.pairwise_cons.mp h
    obtain ⟨g1, g2⟩ := List.pairwise_cons.mp g
    have e : x = y := by
      rcases List.mem_cons.mp (p.mem_iff.mp List.mem_cons_self) with e | hx
      · exact e
      · rcases List.mem_cons.mp (p.mem_iff.mpr List.mem_cons_self) with e | hy
        · exact e.symm
        · exact leZ_anti (h1 y hy) (g1 x hx)
    subst e
    rw [pw_perm_eq h2 g2 ((List.perm_cons x).mp p)]
theorem nmsOf_uniq {zs ys : List Str} (p : ys.Perm (dedZ [] zs)) (h : sortedS ys = true) : ys = nmsOf zs := pw_perm_eq (sorted_pw ys h) (srtZ_pw _) (p.trans (srtZ_perm _).symm)
theorem nmsOf_mem (zs : List Str) (k : Str) : k ∈ nmsOf zs ↔ k ∈ zs := by
  unfold nmsOf
  rw [(srtZ_perm _).mem_iff, dedZ_mem]
  simp
theorem nmsOf_nd (zs : List Str) : (nmsOf zs).Nodup := (srtZ_perm _).nodup_iff.mpr (dedZ_nd [] zs .nil)
theorem nmsOf_len (zs : List Str) : (nmsOf zs).length ≤ zs.length := by
  unfold nmsOf
  rw [(srtZ_perm _).length_eq]
  have := dedZ_len [] zs
  simpa using this
theorem nmsOf_congr {zs ws : List Str} (h : ∀ k, k ∈ zs ↔ k ∈ ws) : nmsOf zs = nmsOf ws :=
  pw_perm_eq (srtZ_pw _) (srtZ_pw _) ((List.perm_ext_iff_of_nodup (nmsOf_nd zs) (nmsOf_nd ws)).mpr fun k => by rw [nmsOf_mem, nmsOf_mem]; exact h k)
mutual
/-- the names, as they stand in the text -/
def lv : T → List Str
  | .one => []
  | .name x => [S x]
  | .cop _ _ t => lv t
  | .row _ ts => lvL ts
def lvL : List T → List Str
  | [] => []
  | t :: ts => lv t ++ lvL ts
end
theorem lvL_flat : ∀ ts : List T, lvL ts = ts.flatMap lv
  | [] => rfl
  | t :: ts => by rw [lvL, lvL_flat ts, List.flatMap_cons]
def nmT (t : T) : List Str := nmsOf (lv t)
theorem lv_kids {t : T} (h : ∀ x, t ≠ .name x) : lv t = (kids t).flatMap fun q => lv q.2 := by
  cases t with
  | one => rw [lv]; rfl
  | name x => exact absurd rfl (h x)
  | cop s n u => rw [lv]; simp [kids]
  | row s ts => rw [lv, lvL_flat, kids, List.flatMap_map]
theorem lv_told : ∀ {t : T}, Told t → lv t = []
  | .one, _ => by rw [lv]
  | .name x, h => h.elim
  | .cop s n u, h => by rw [lv]; exact lv_told h
  | .row s ts, h => by
    rw [lv, lvL_flat]
    exact List.flatMap_eq_nil_iff.mpr fun u hu => lv_told (tolds_all.mp h u hu)
theorem nmT_told {t : T} (h : Told t) : nmT t = [] := by unfold nmT; rw [lv_told h]; rfl
theorem nmT_mem (t : T) (k : Str) : k ∈ nmT t ↔ k ∈ lv t := nmsOf_mem _ _
theorem nmT_len (t : T) : (nmT t).length ≤ (lv t).length := nmsOf_len _
/-- the names of the parts, put together -/
theorem nmT_kids {t : T} (h : ∀ x, t ≠ .name x) : nmsOf ((kids t).flatMap fun q => nmT q.2) = nmT t := by
  unfold nmT
  rw [lv_kids h]
  refine nmsOf_congr fun k => ?_
  simp only [List.mem_flatMap, nmsOf_mem]
theorem flat_len {α : Type} (f g : α → List Str) (h : ∀ x, (f x).length ≤ (g x).length) : ∀ l : List α, (l.flatMap f).length ≤ (l.flatMap g).length
  | [] => Nat.le_refl _
  | x :: l => by
    rw [List.flatMap_cons, List.flatMap_cons, List.length_append, List.length_append]
    have := h x
    have := flat_len f g h l
    omega
theorem kid_names {t : T} {q : Nat × T} (hq : q ∈ kids t) : (nmT q.2).length ≤ (nmT t).length ∧ (lv q.2).length ≤ (lv t).length := by
  have hn : ∀ x, t ≠ .name x := fun x e => by rw [e] at hq; simp [kids] at hq
  have e := lv_kids hn
  constructor
  · refine List.Nodup.length_le_of_subset (nmsOf_nd _) fun k hk => ?_
    rw [nmT_mem] at hk ⊢
    rw [e]
    exact List.mem_flatMap.mpr ⟨q, hq, hk⟩
  · rw [e]
    generalize kids t = l at hq
    induction l with
    | nil => cases hq
    | cons a r ih =>
      rw [List.flatMap_cons, List.length_append]
      rcases List.mem_cons.mp hq with rfl | hq
      · omega
      · have := ih hq
        omega
end PL
namespace W
open PySem PySem.Spec PyProof.Rows L2 DL SX PL
section
variable {P : Program} {w : World} {K : PySem.W.Frag} {mg : Str → Option Value} {base : Heap}
def cNamesN (h : Nat) : Con := fun ds M Φ => ∃ t, ds = [tS (txt t)] ∧ Good t ∧ (lv t).length < 1000 ∧ (txt t).length ≤ 1000000 ∧ ht t ≤ h ∧ Φ (.lst ((nmT t).map D.str)) M
theorem wordT_nn {t : T} (h : ∀ x, t ≠ .name x) : decide (wordT t = ("name" : Str)) = false := by
  cases t with
  | one => decide +kernel
  | name x => exact absurd rfl (h x)
  | cop s n u =>
    show decide (wrd s = ("name" : Str)) = false
    cases s <;> decide +kernel
  | row s ts =>
    show decide (wrd s = ("name" : Str)) = false
    cases s <;> decide +kernel
theorem nmT_name (x : List Nat) : nmT (.name x) = [S x] := by
  unfold nmT
  rw [lv]; rfl
abbrev nNin : List Str := ["text", "word", "groups", "found", "many", "part", "name"]
theorem ok_names_n (h : Nat) (F : Fx w K mg) (F1 : Fc P w K mg base "groups_in" [] 3 1 cGroupsIn) (F2 : ∀ j, h = j + 1 → Fc P w K mg base "names_in_plans" [] (j + 4) 1 (cNamesN j)) :
    BodyOk P w K mg base "names_in" s_names_in_first nNin 1 (h + 3) (cNamesN h) := by
  intro f cdv A outer s H E hr ds M Φ hl hc
  obtain ⟨t, rfl, hg, hlv, hl, hh, hc⟩ := hc
  have nd : nNin.Nodup := by decide +kernel
  refine wss_cons (ws_asg (we_call F1 (hr.mono (by omega)) (wa_cons (we_var 0 rfl (wa_nil ⟨rfl, _, rfl, hg, hl, ?_⟩)))))
  refine wg_tup ⟨rfl, rfl, wgs_cons (wg_name 1 (wgs_cons (wg_name 2 (wgs_nil ⟨rfl, ?_⟩) nd)) nd)⟩
  refine wss_cons (ws_if (wt_eqS (we_var 1 rfl (we_gstr F.gNAME ⟨_, rfl, ?_⟩))))
  by_cases hn : ∃ x, t = .name x
  · obtain ⟨x, rfl⟩ := hn
    rw [show decide (wordT (.name x) = ("name" : Str)) = true from rfl]
    rw [nmT_name] at hc
    exact wss_cons (ws_ret (we_lst (wa_cons (we_var 0 rfl (wa_nil ⟨sz1, Lets.of (by rw [txt] at *; exact hc)⟩)))))
  have hn : ∀ x, t ≠ .name x := fun x e => hn ⟨x, e⟩
  rw [wordT_nn hn]
  have hk := kids_len hg
  have tot : ∀ i, (((kids t).take i).flatMap fun q => nmT q.2).length < 1000 := fun i => by
    have h1 := flat_len (fun q : Nat × T => nmT q.2) (fun q => lv q.2) (fun q => nmT_len q.2) (kids t)
    rw [← lv_kids hn] at h1
    have h2 : (((kids t).take i).flatMap fun q => nmT q.2).length ≤ ((kids t).flatMap fun q => nmT q.2).length := by
      conv => rhs; rw [← List.take_append_drop i (kids t)]
      rw [List.flatMap_append, List.length_append]
      omega
    omega
  refine wss_nil (wss_cons (ws_set 3 nd (we_lstM (wa_nil ⟨Nat.zero_le _, fun p hp => ?_⟩))))
  refine wss_cons (ws_for PassesOwn.never (wi_list (we_var 2 rfl ⟨_, .inl rfl, ?_⟩)))
  refine ⟨fun i ρ' M' => ∃ o1 o2, ρ' = [some (tS (txt t)), some (.str (wordT t)), some (.lst (grpD t)), some (.ob p), o1, o2, none] ∧ M' = mset M p (.lst ((((kids t).take i).flatMap fun q => nmT q.2).map D.str)), ⟨_, _, rfl, rfl⟩, ?_, ?_⟩
  · rintro i x ρ' M' hx ⟨o1, o2, rfl, rfl⟩
    rw [grpD, List.getElem?_map] at hx
    obtain ⟨q, hq, rfl⟩ := Option.map_eq_some_iff.mp hx
    have hm := List.mem_of_getElem? hq
    obtain ⟨g1, g2, g3, g4, g5⟩ := kids_ok hm hg
    obtain ⟨n1, n2⟩ := kid_names hm
    refine wg_tup ⟨rfl, rfl, wgs_cons (wg_name 4 (wgs_cons (wg_name 5 (wgs_nil ⟨rfl, ?_⟩) nd)) nd)⟩
    obtain ⟨j, rfl⟩ : ∃ j, h = j + 1 := ⟨h - 1, by omega⟩
    have e : ((kids t).take (i + 1)).flatMap (fun q => nmT q.2) = ((kids t).take i).flatMap (fun q => nmT q.2) ++ nmT q.2 := by
      rw [take_snoc hq, List.flatMap_append]; simp
    have h1000 := tot (i + 1)
    rw [e, List.length_append] at h1000
    refine wss_cons (ws_expr (we_extend (we_var 3 rfl ⟨p, _, rfl, mset_same, we_call (F2 j rfl) (hr.mono (by omega)) (wa_cons (we_var 5 rfl (wa_nil ⟨rfl, q.2, rfl, g1, by omega, by omega, by omega, _, _, mset_same, rfl, ?_, ?_⟩)))⟩)))
    · rw [List.length_map, List.length_map, sizeLine_eq]; omega
    rw [mset_mset, ← List.map_append, ← e]
    exact wss_nil ⟨_, _, rfl, rfl⟩
  · rintro ρ' M' ⟨o1, o2, rfl, rfl⟩
    have el : (grpD t).length = (kids t).length := by rw [grpD, List.length_map]
    rw [el, List.take_length]
    have h1000 := tot (kids t).length
    rw [List.take_length] at h1000
    refine wss_let (M' := M) (ρ' := [some (tS (txt t)), some (.str (wordT t)), some (.lst (grpD t)), some (.lst (((kids t).flatMap fun q => nmT q.2).map D.str)), none, none, none]) (les_new hp) ?_ ?_
    · exact .val (.same _) (.val (.same _) (.val (.same _) (.val (.lst mset_same hp) (.drop (.drop (.drop .nil))))))
    refine wss_cons (ws_ret (we_sortedSetS (F.bn _ (by decide +kernel)) (F.bn _ (by decide +kernel)) (we_lc nd (blkOk_by (N := nNin) (sc := defScope s_names_in_first) (own := [("name", 6)]) (by decide +kernel)) (fun _ _ _ _ _ => pg_name (i := 6) nd rfl (Or.inl rfl)) (gt_name (by decide)) (fun _ _ _ _ _ => pts_nil) tk_nil
      (wi_list (we_var 3 rfl ⟨_, .inl rfl, ?_⟩)))))
    refine ⟨by rw [List.length_map, sizeLine_eq]; omega, fun i acc M' => M' = M ∧ acc = (((kids t).flatMap fun q => nmT q.2).take i).map D.str, ⟨rfl, rfl⟩, ?_, ?_⟩
    · rintro i x acc M' hx ⟨rfl, rfl⟩
      rw [List.getElem?_map] at hx
      obtain ⟨z, hz, rfl⟩ := Option.map_eq_some_iff.mp hx
      intro s1 H1 C' cl fp
      refine we_strS (F.bn _ (by decide +kernel)) (we_var 6 rfl ⟨z, rfl, rfl, ?_⟩)
      rw [take_snoc hz, List.map_append]; rfl
    · rintro acc M' ⟨rfl, rfl⟩
      refine ⟨(kids t).flatMap fun q => nmT q.2, by rw [List.length_map, List.take_length]; rfl, by omega, fun ys hy hs => Lets.of ?_⟩
      rw [nmsOf_uniq hy hs, nmT_kids hn]
      exact hc
end
mutual
/-- the plan as an instance of the class at C, with its names -/
def planN (C : Addr) : T → D
  | .one => .ins C (six (tS (txt .one)) (.tup []) (.str (wordT .one)) (.lst []) (.bl false) (.int (ppl .one : Nat)))
  | .name x => .ins C (six (tS (txt (.name x))) (.tup ((nmT (.name x)).map D.str)) (.str (wordT (.name x))) (.lst []) (.bl false) (.int (ppl (.name x) : Nat)))
  | .cop s n t => .ins C (six (tS (txt (.cop s n t))) (.tup ((nmT (.cop s n t)).map D.str)) (.str (wordT (.cop s n t))) (.lst [.tup [.int (n : Nat), planN C t]]) (.bl true) (.int (ppl (.cop s n t) : Nat)))
  | .row s ts => .ins C (six (tS (txt (.row s ts))) (.tup ((nmT (.row s ts)).map D.str)) (.str (wordT (.row s ts))) (.lst (plansN C ts)) (.bl false) (.int (ppl (.row s ts) : Nat)))
def plansN (C : Addr) : List T → List D
  | [] => []
  | t :: ts => .tup [.int ((1 : Nat) : Int), planN C t] :: plansN C ts
end
theorem plansN_map (C : Addr) : ∀ ts : List T, plansN C ts = ts.map fun t => .tup [.int ((1 : Nat) : Int), planN C t]
  | [] => by rw [plansN]; rfl
  | t :: ts => by rw [plansN, plansN_map C ts, List.map_cons]
def subsN (C : Addr) (t : T) : List D := (kids t).map fun q => .tup [.int (q.1 : Nat), planN C q.2]
def fldsN (C : Addr) (t : T) : List (Str × D) := six (tS (txt t)) (.tup ((nmT t).map D.str)) (.str (wordT t)) (.lst (subsN C t)) (.bl (isCop t)) (.int (ppl t : Nat))
theorem planN_ins (C : Addr) (t : T) : planN C t = .ins C (fldsN C t) := by
  cases t with
  | one =>
    rw [planN]; unfold fldsN
    rw [nmT_told (t := .one) trivial]; rfl
  | name x => rw [planN]; rfl
  | cop s n t => rw [planN]; rfl
  | row s ts =>
    rw [planN, plansN_map]
    unfold fldsN subsN kids
    rw [List.map_map]; rfl
end W
namespace W
open PySem PySem.Spec PyProof.Rows L2 DL SX PL
section
variable {P : Program} {w : World} {K : PySem.W.Frag} {mg : Str → Option Value} {base : Heap} {C : Addr}
def cInitN (C : Addr) (h : Nat) : Con := fun ds M Φ => ∃ a t, ds = [.ob a, tS (txt t)] ∧ Good t ∧ (lv t).length < 1000 ∧ (nmT t).length ≤ 3 ∧ (txt t).length ≤ 100000 ∧ ht t ≤ h ∧ ht t ≤ 60 ∧ M a = some (.ins C []) ∧ Φ .non (mset M a (.ins C (fldsN C t)))
/-- Plan(e) -/
theorem we_plan_n {X : Cx} {ρ : Rho} {M : Mp} {Φ : D → Mp → Prop} {e : Expr} {p pos : Pos} {h k : Nat} (F : Kc X.prog X.w X.K X.mg X.base "Plan" C [] k 2 (cInitN C h)) (hr : Room (k + 1) X.A)
    (q : WE X ρ M e fun d M1 => ∃ t, d = tS (txt t) ∧ Good t ∧ (lv t).length < 1000 ∧ (nmT t).length ≤ 3 ∧ (txt t).length ≤ 100000 ∧ ht t ≤ h ∧ ht t ≤ 60 ∧ Φ (planN C t) M1) (hg : Gl X "Plan" := by rfl)
    (he : starEach [e] X.env = (false, eval e X.env) :: starEach [] X.env := by rfl) (hpl : (backTo pos (starEach [] X.env)).any (·.1) = false := by rfl) : WE X ρ M (.Call (.Name "Plan" p) [e] [] pos) Φ :=
  we_make F hr (wa_cons (q.imp fun d M1 ⟨t, e1, h1, h2, h3, h4, h5, h6, h7⟩ => wa_nil fun a ha => ⟨rfl, a, t, by rw [e1]; rfl, h1, h2, h3, h4, h5, h6, mset_same, rfl, by
    rw [mset_mset]
    exact ⟨_, M1, les_new ha, .ins mset_same ha, by rw [← planN_ins]; exact h7⟩⟩) he) hg (he := he) (hpl := hpl)
theorem ok_init_n (h : Nat) (F : Fx w K mg) (X : Px K mg C) (F1 : Fc P w K mg base "is_plan_text" [] (h + 4) 2 (cPlanText h)) (F2 : Fc P w K mg base "names_in_plans" [] (h + 4) 1 (cNamesN h)) (F3 : Fc P w K mg base "groups_in" [] 3 1 cGroupsIn)
    (F4 : ∀ j, h = j + 1 → Kc P w K mg base "Plan" C [] (2 * j + 6) 2 (cInitN C j)) : BodyOk P w K mg base "Plan.__init__" s_Plan___init__ nInit 2 (2 * h + 5) (cInitN C h) := by
  intro f cdv A outer s H E hr ds M Φ hl hc
  obtain ⟨a, t, rfl, hg, hlv, hn3, hl, hh, h60, hM, hc⟩ := hc
  have nd : nInit.Nodup := by decide +kernel
  have hk := kids_len hg
  obtain ⟨ps, hcmp⟩ := grp_cmp hg
  -- nothing is wrong
  refine wss_cons (ws_if (wt_ww (ww_or (wt_not (wt_val (we_isi (F.bn _ (by decide +kernel)) (we_var 1 rfl (we_bty (F.bn _ (by decide +kernel)) rfl ⟨_, _, true, rfl, rfl, (by intro C h; cases h), rfl, _, rfl, ?_⟩))))))))
  refine ww_or (wt_not (wt_val (we_call F1 (hr.mono (by omega)) (wa_cons (we_var 1 rfl (wa_cons (we_int (wa_nil ⟨rfl, t, 0, rfl, hg, by omega, hh, by omega, _, rfl, ?_⟩))))))))
  refine ww_or1 (wt_gtI (we_len (F.bn _ (by decide +kernel)) (we_call F2 (hr.mono (by omega)) (wa_cons (we_var 1 rfl (wa_nil ⟨rfl, t, rfl, hg, hlv, by omega, hh, _, lenL, we_gint F.gMOST_NAMES ⟨_, _, rfl, rfl, ?_⟩⟩))))))
  rw [decide_eq_false (show ¬ (3 : Int) < ((((nmT t).map D.str).length : Nat) : Int) by rw [List.length_map]; omega)]
  refine wss_nil ?_
  -- the fields
  refine wss_cons (ws_fld (C := C) (we_var 1 rfl (we_var 0 rfl ⟨a, _, rfl, hM, X.cl, X.na _ (by decide +kernel), by decide, ?_⟩)))
  rw [put1]
  refine wss_cons (ws_fld (C := C) (we_tupleOf (F.bn _ (by decide +kernel)) (we_call F2 (hr.mono (by omega)) (wa_cons (we_var 1 rfl (wa_nil ⟨rfl, t, rfl, hg, hlv, by omega, hh, _, .inl rfl, we_var 0 rfl ⟨a, _, rfl, mset_same, X.cl, X.na _ (by decide +kernel), sl1, ?_⟩⟩))))))
  rw [mset_mset, put2]
  refine wss_cons (ws_asg (we_call F3 (hr.mono (by omega)) (wa_cons (we_var 1 rfl (wa_nil ⟨rfl, t, rfl, hg, by omega, ?_⟩)))))
  refine wg_tup ⟨rfl, rfl, wgs_cons (wg_fld (C := C) (we_var 0 rfl ⟨a, _, rfl, mset_same, X.cl, X.na _ (by decide +kernel), sl2, wgs_cons (wg_name 2 (wgs_nil ⟨rfl, ?_⟩) nd)⟩))⟩
  rw [mset_mset, put3]
  refine wss_cons (ws_fld (C := C) (we_lc nd (blkOk_by (N := nInit) (sc := defScope s_Plan___init__) (own := [("many", 3), ("part", 4)]) (by decide +kernel)) (fun _ _ _ _ _ => pg_tup rfl (pgs_cons (pg_name (i := 3) nd rfl (Or.inl rfl)) (pgs_cons (pg_name (i := 4) nd rfl (Or.inl rfl)) pgs_nil)) rfl rfl) (gt_two (by decide) (by decide)) (fun _ _ _ _ _ => pts_nil) tk_nil
    (wi_list (we_var 2 rfl ⟨_, .inl rfl, ?_⟩))))
  refine ⟨by rw [grpD, List.length_map, sizeLine_eq]; omega, fun i acc M' => M' = mset M a (.ins C (f3 (tS (txt t)) (.tup ((nmT t).map D.str)) (.str (wordT t)))) ∧ acc = ((kids t).take i).map fun q => .tup [.int (q.1 : Nat), planN C q.2], ⟨rfl, rfl⟩, ?_, ?_⟩
  · rintro i x acc M' hx ⟨rfl, rfl⟩
    rw [grpD, List.getElem?_map] at hx
    obtain ⟨q, hq, rfl⟩ := Option.map_eq_some_iff.mp hx
    have hm := List.mem_of_getElem? hq
    obtain ⟨g1, g2, g3, g4, g5⟩ := kids_ok hm hg
    obtain ⟨n1, n2⟩ := kid_names hm
    refine ⟨_, _, rfl, ?_⟩
    intro s1 H1 C' cl fp
    obtain ⟨j, rfl⟩ : ∃ j, h = j + 1 := ⟨h - 1, by omega⟩
    refine we_tup (wa_cons (we_var 3 rfl (wa_cons (we_plan_n (F4 j rfl) (hr.mono (by omega)) (we_var 4 rfl ⟨q.2, rfl, g1, by omega, by omega, by omega, by omega, by omega, wa_nil ⟨sz2, rfl, ?_⟩⟩)))))
    rw [take_snoc hq, List.map_append]; rfl
  rintro acc M' ⟨rfl, rfl⟩
  refine we_var 0 rfl ⟨a, _, rfl, mset_same, X.cl, X.na _ (by decide +kernel), sl3, ?_⟩
  have el : (grpD t).length = (kids t).length := by rw [grpD, List.length_map]
  rw [mset_mset, put4, el, List.take_length]
  obtain ⟨c, r, ec, hcop⟩ := cop_in hg
  refine wss_cons (ws_fld (C := C) (we_inS (we_slice (we_var 1 rfl (we_int ⟨1, rfl, _, .inr (.inr ⟨_, rfl, by rw [S_len, sizeLine_eq]; omega, rfl⟩), we_txts ⟨_, _, rfl, .inl rfl, we_var 0 rfl ⟨a, _, rfl, mset_same, X.cl, X.na _ (by decide +kernel), sl4, ?_⟩⟩⟩)))))
  rw [mset_mset, put5, show cutS (S (txt t)) none (some 1) = S [c] by rw [ec, cut_1], hcop]
  -- people
  have fin : ∀ n : Int, n = (ppl t : Nat) → Φ .non (mset (mset M a (.ins C (f5 (tS (txt t)) (.tup ((nmT t).map D.str)) (.str (wordT t)) (.lst (subsN C t)) (.bl (isCop t))))) a (.ins C (putD "own_people" (.int n) (f5 (tS (txt t)) (.tup ((nmT t).map D.str)) (.str (wordT t)) (.lst (subsN C t)) (.bl (isCop t)))))) := fun n hn => by
    rw [mset_mset, put6, hn]
    exact hc
  refine wss_cons (ws_fld (C := C) (we_if (wt_neNil hr.units (we_var 2 rfl ⟨_, ps, 1, rfl, hcmp, by decide, ?_⟩))))
  by_cases hk0 : kids t = []
  · 
    have e1 : (grpD t).isEmpty = true := by unfold grpD; rw [hk0]; rfl
    rw [e1]
    refine we_int (we_var 0 rfl ⟨a, _, rfl, mset_same, X.cl, X.na _ (by decide +kernel), sl5, ?_⟩)
    exact wss_nil (fin 1 (by rw [ppl_none hk0 hg]; rfl))
  · have e1 : (grpD t).isEmpty = false := by
      unfold grpD
      cases hh2 : kids t with
      | nil => exact absurd hh2 hk0
      | cons q qs => rfl
    rw [e1]
    refine we_sum (F.bn _ (by decide +kernel)) (we_lc nd (blkOk_by (N := nInit) (sc := defScope s_Plan___init__) (own := [("many", 3), ("part", 4)]) (by decide +kernel)) (fun _ _ _ _ _ => pg_tup rfl (pgs_cons (pg_name (i := 3) nd rfl (Or.inl rfl)) (pgs_cons (pg_name (i := 4) nd rfl (Or.inl rfl)) pgs_nil)) rfl rfl) (gt_two (by decide) (by decide)) (fun _ _ _ _ _ => pts_nil) tk_nil
      (wi_list (we_fld (C := C) (we_var 0 rfl ⟨_, _, mset_same, X.cl, X.na _ (by decide +kernel), lk5_groups, _, .inl rfl, ?_⟩))))
    refine ⟨by rw [List.length_map, sizeLine_eq]; omega, fun i acc M' => M' = mset M a (.ins C (f5 (tS (txt t)) (.tup ((nmT t).map D.str)) (.str (wordT t)) (.lst (subsN C t)) (.bl (isCop t)))) ∧ acc = (((kids t).take i).map fun q => ((q.1 * ppl q.2 : Nat) : Int)).map D.int, ⟨rfl, rfl⟩, ?_, ?_⟩
    · rintro i x acc M' hx ⟨rfl, rfl⟩
      rw [List.getElem?_map] at hx
      obtain ⟨q, hq, rfl⟩ := Option.map_eq_some_iff.mp hx
      have hm := List.mem_of_getElem? hq
      obtain ⟨g1, g2, g3, g4, g5⟩ := kids_ok hm hg
      refine ⟨_, _, rfl, ?_⟩
      intro s1 H1 C' cl fp
      refine we_mulI (we_var 3 rfl (we_fld (C := C) (we_var 4 rfl ⟨_, _, by rw [planN_ins]; exact ⟨rfl, rfl⟩, X.cl, X.na _ (by decide +kernel), lk_people, _, _, rfl, rfl, mul_ok g5 (ppl_lt g1) (by omega), rfl, ?_⟩)))
      rw [take_snoc hq, List.map_append, List.map_append, ← Int.natCast_mul]; rfl
    · rintro acc M' ⟨rfl, rfl⟩
      refine ⟨_, rfl, we_var 0 rfl ⟨a, _, rfl, mset_same, X.cl, X.na _ (by decide +kernel), sl5, ?_⟩⟩
      rw [List.length_map, List.take_length]
      refine wss_nil (fin _ ?_)
      rw [ppl_kids hk0, sum_cast]
end
end W
namespace PL
open PySem SX TL
def cnt (t : T) : Nat := ((kids t).map (·.1)).sum
def flip (c : Nat) : Nat := if c = 43 then 42 else if c = 42 then 43 else if c = 91 then 123 else if c = 123 then 91 else if c = 93 then 125 else if c = 125 then 93 else c
end PL
namespace W
open PySem PySem.Spec PyProof.Rows L2 DL SX PL
section
variable {P : Program} {w : World} {K : PySem.W.Frag} {mg : Str → Option Value} {base : Heap} {C : Addr}
/-- one sign turned -/
theorem turned (c : Nat) : (List.lookup (S [c]) turnedD).getD (.str (S [c])) = .str (S [PL.flip c]) := by
  have e : turnedD = [(S [43], tS [42]), (S [42], tS [43]), (S [91], tS [123]), (S [123], tS [91]), (S [93], tS [125]), (S [125], tS [93])] := by
    unfold turnedD
    rw [show ("+" : Str) = S [43] by decide +kernel, show ("*" : Str) = S [42] by decide +kernel, show ("[" : Str) = S [91] by decide +kernel, show ("{" : Str) = S [123] by decide +kernel, show ("]" : Str) = S [93] by decide +kernel, show ("}" : Str) = S [125] by decide +kernel]
  have b : ∀ d, (S [c] == S [d]) = decide (c = d) := fun d => by
    rw [S_beq_eq]
    exact decide_eq_decide.mpr ⟨fun h => by injection h, fun h => by rw [h]⟩
  rw [e]
  unfold PL.flip
  simp only [List.lookup_cons, b, List.lookup_nil]
  by_cases h1 : c = 43
  · subst h1; rfl
  by_cases h2 : c = 42
  · subst h2; rfl
  by_cases h3 : c = 91
  · subst h3; rfl
  by_cases h4 : c = 123
  · subst h4; rfl
  by_cases h5 : c = 93
  · subst h5; rfl
  by_cases h6 : c = 125
  · subst h6; rfl
  rw [if_neg h1, if_neg h2, if_neg h3, if_neg h4, if_neg h5, if_neg h6]
  simp [h1, h2, h3, h4, h5, h6]
end
end W
namespace XL
open PySem PySem.W PySem.Calls PyProof.Rows PySem.HandSPX L2 LamX
theorem pe_actV {X : Cx} {pins : List (Addr × Obj)} {σ : L2.St} {H : Hp} {s : Shared} {CXg : CXT} {Eg : XK} {Ng : List Str} {qg : Str} {sg : Scope} {g : Addr} {cdg : Value} {k i : Nat} {a : Str} {pn : List (Addr × Obj)} {xe : Value → Shared → Prop} {W : WX} {E : L2.St → XK} {p1 p2 : Pos} {tb : XK → Arguments → Expr → Scope → TE}
    (I : L2.Inv X pins σ H s) (tk : Takes ((cxOf CXg X.prog X.w X.K X.mg X.base Ng qg sg g cdg X.A X.stack s H Eg).tr pn xe) W) (hW : ∀ σZ cls d H', E σZ cls d H' → W cls d σZ H')
    (hr : Room (k + 1) (X.A.deeper (envOfC qg sg s.heap.objs.size g cdg)))
    (hbody : ∀ (E : XK) (params : Arguments) (body : Expr) (scope : Scope) (f c' : Addr) (A : Around) (outer : List Env) (s : Shared) (H : Hp), Room k (A.deeper (lamEnv X scope s.heap.objs.size f c')) → PE (lamCx X A outer s H E scope f c') body (tb E params body scope))
    (hN : Ng[i]? = some a) (hv : Vis sg a) (hd : (a == ("__debug__" : Str)) = false) (hcd : (a == ("__classdict__" : Str)) = false) :
    PE ((cxOf CXg X.prog X.w X.K X.mg X.base Ng qg sg g cdg X.A X.stack s H Eg).tr pn xe) (.Call (.Name a p1) [] [] p2)
      (fun σZ HZ Q => ∃ (f c' : Addr) (params : Arguments) (body : Expr) (scope : Scope), σZ[i]? = some (some (.ref f)) ∧ HZ f = some (LamO f (X.env.qual ++ "<lambda>") params body scope (cloFrom X.env.cells scope.names []) c') ∧ HZ c' = some (CodeO c' (X.env.qual ++ "<lambda>")) ∧
        LamS X.env.scope scope ∧ (∀ (pm cv ctv : Value), bindArgs (PySem.W.kla_fn "<lambda>" (X.env.qual ++ "<lambda>") params body scope (cloFrom X.env.cells scope.names []) pm cv ctv) ⟨[], []⟩ = pure []) ∧ tb (E σZ) params body scope σ HZ Q) := by
  refine ⟨fun pinsZ sZ σZ HZ Q IZ h => ?_⟩
  obtain ⟨f, c', params, body, scope, hs, hfo, hc, L, hbind, ht⟩ := h
  refine wpAny_Call_Name_kw (thn ((pe_var hN hv hd hcd).run pinsZ sZ σZ HZ (fun v H1 => v = V.ref f ∧ H1 = HZ) IZ ⟨.ref f, hs, rfl, rfl⟩) fun u s1 hh => ?_)
  obtain ⟨v, H1, I1, r1, rfl, rfl⟩ := hh
  obtain rfl : u = Value.ref f := r1
  obtain ⟨pm, ctv, of1⟩ := lamO_get I1.hok hfo
  refine PySem.W.callWith_F0 ⟨_, _, _, _, of1⟩ ?_
  have un := I1.base
  have hco := I1.hok c' _ hc
  unfold CodeO ObjOk at hco
  obtain ⟨⟨oc, vs, t, hoc, hdc, hvc⟩, _, _⟩ := hco
  have rc : codeAny (model X.prog X.w) (X.A.deeper (envOfC qg sg s.heap.objs.size g cdg)) (.call (.ref f) ⟨[], []⟩) (CR (CX X.prog X.w) (envOfC qg sg s.heap.objs.size g cdg :: X.stack) X.prog X.w H1 s1 Q (E σZ)) s1 := by
    refine PySem.W.kla_callFunE hr.depth of1 rfl L.co L.gen rfl ⟨c', oc, vs, t, rfl, hoc, hdc, hvc⟩ ?_
    rw [hbind]
    refine wpAny_pure (wpAny_newFunctionEnv (fun y hy => (L.own y hy).2) (fun y hy => absurd hy List.not_mem_nil) (fun h₁ hns hsb => ⟨I1.nolimit.fresh _ hsb, ?_⟩) L.kind)
    have kp : ∀ b o, s1.heap.get? b = some o → h₁.get? b = some o := fun b o e => hsb.extBut b o (Nat.ne_of_lt (Heap.lt_size e)) (Heap.get?_push_of_some _ e)
    have J := lam_start2 (tk := s1.toks + ([] : List (Str × Value)).length) (E := E σZ) (f := f) (c' := c') I L I1.env0 hr.hd un hns kp
    exact PySem.W.kla_codeExpr (wpAny_mono ((hbody (E σZ) params body scope f c' _ _ s1 H1 (hr.deeper _)).run [] _ σ H1 Q J ht) (fun v s' hq => by
      obtain ⟨w', H', J', rv, q⟩ := hq
      exact ⟨w', H', J'.os, J'.bare, J'.base, J'.hok, rv, q⟩) fun e s' hq => hq)
  refine wpAny_call (codeAny_mono rc fun r s' hq => ?_)
  cases r with
  | error e =>
    obtain ⟨a, B, H', cls, d, y1, y2, y3, y4, y5, y6, y7, y8⟩ := hq
    exact passAt tk σZ pinsZ H1 s1 e s' I1 ⟨a, B, H', cls, d, y1, y2, y3, y4, y5, y6, y7, hW _ _ _ _ y8⟩
  | ok fl =>
    cases fl with
    | ret u => exact I1.after hq
    | next => exact hq.elim
    | brk => exact hq.elim
    | cont => exact hq.elim
end XL
namespace DL
open PySem PySem.Spec PyProof.Rows L2
/-- what is wanted where an error is raised: its class, its fields -/
abbrev Xi := Addr → List (Str × D) → Mp → Prop
def KX (K : PySem.W.Frag) (M : Mp) (Z : Zn) (H : Hp) (Ξ : Xi) (E : XK) : Prop := ∀ C fs vs d H' M', Ext M Z H M' H' → Wd K M' Z H' → H' d = some (.xd vs) → Im M' Z d → RepF K M' Z H' vs fs → Ξ C fs M' → E (.ref C) (some d) H'
theorem KX.step {K : PySem.W.Frag} {M M1 : Mp} {Z : Zn} {H H1 : Hp} {Ξ : Xi} {E : XK} (k : KX K M Z H Ξ E) (e : Ext M Z H M1 H1) : KX K M1 Z H1 Ξ E := fun C fs vs d H' M' x w h m r z => k C fs vs d H' M' (e.trans x) w h m r z
/-- X takes what is raised as E, whatever stands in the slots -/
def TakesE (X : Cx) (E : XK) : Prop := Takes X fun cls d _ H => E cls d H
theorem TakesE.pass {X : Cx} {E : XK} (t : TakesE X E) : Passes (CX X.prog X.w) X E := fun pins σ H s e s' I q => passes_call (E := E) t (fun _ _ _ _ z => z) pins σ H s e s' I q
theorem pass_no {X : Cx} : Passes (CX X.prog X.w) X (fun _ _ _ => False) := fun pins σ H s e s' I q => by
  obtain ⟨a, B, H', cls, d, _, _, _, _, _, _, _, z⟩ := q
  exact z.elim
structure WEx (X : Cx) (ρ : Rho) (M : Mp) (e : Expr) (Φ : D → Mp → Prop) (Ξ : Xi) : Prop where
  run : ∀ {Z : Zn} σ H (Q : VK) (E : XK), EnvR X.K M Z H σ ρ → Wd X.K M Z H → KE X.K M Z H Φ Q → TakesE X E → KX X.K M Z H Ξ E → eSem X e σ H Q
structure WTx (X : Cx) (ρ : Rho) (M : Mp) (e : Expr) (Φ : Bool → Mp → Prop) (Ξ : Xi) : Prop where
  run : ∀ {Z : Zn} σ H (Q : Bool → Hp → Prop) (E : XK), EnvR X.K M Z H σ ρ → Wd X.K M Z H → KT X.K M Z H Φ Q → TakesE X E → KX X.K M Z H Ξ E → tSem X e σ H Q
structure WAx (X : Cx) (ρ : Rho) (M : Mp) (es : List Expr) (Φ : List D → Mp → Prop) (Ξ : Xi) : Prop where
  run : ∀ {Z : Zn} σ H (Q : List V → Hp → Prop) (E : XK), EnvR X.K M Z H σ ρ → Wd X.K M Z H → KA X.K M Z H Φ Q → TakesE X E → KX X.K M Z H Ξ E → aSem X es σ H Q
structure WSx (X : Cx) (ρ : Rho) (M : Mp) (st : Stmt) (Ψ : DE) (Ξ : Xi) : Prop where
  run : ∀ {Z : Zn} σ H (D : Ends) (E : XK), EnvR X.K M Z H σ ρ → Wd X.K M Z H → KS X.K M Z H Ψ D → TakesE X E → KX X.K M Z H Ξ E → sSem X st D σ H
structure WSsx (X : Cx) (ρ : Rho) (M : Mp) (st : List Stmt) (Ψ : DE) (Ξ : Xi) : Prop where
  run : ∀ {Z : Zn} σ H (D : Ends) (E : XK), EnvR X.K M Z H σ ρ → Wd X.K M Z H → KS X.K M Z H Ψ D → TakesE X E → KX X.K M Z H Ξ E → ssSem X st D σ H
section
variable {X : Cx} {ρ : Rho} {M : Mp} {Φ : D → Mp → Prop} {Ξ : Xi} {Ψ : DE} {e a b : Expr} {es : List Expr} {st : Stmt} {sts rest : List Stmt} {pos p : Pos} {x : Str}
theorem WE.up (h : WE X ρ M e Φ) : WEx X ρ M e Φ Ξ := .mk fun σ H Q E en w k _ _ => h.run σ H Q en w k
theorem WT.up {Φ : Bool → Mp → Prop} (h : WT X ρ M e Φ) : WTx X ρ M e Φ Ξ := .mk fun σ H Q E en w k _ _ => h.run σ H Q en w k
theorem WA.up {Φ : List D → Mp → Prop} (h : WA X ρ M es Φ) : WAx X ρ M es Φ Ξ := .mk fun σ H Q E en w k _ _ => h.run σ H Q en w k
theorem WS.up (h : WS X ρ M st Ψ) : WSx X ρ M st Ψ Ξ := .mk fun σ H Q E en w k _ _ => h.run σ H Q en w k
theorem WSs.up (h : WSs X ρ M sts Ψ) : WSsx X ρ M sts Ψ Ξ := .mk fun σ H Q E en w k _ _ => h.run σ H Q en w k
theorem wssx_nil (h : Ψ.nx ρ M) : WSsx X ρ M [] Ψ Ξ := (wss_nil h).up
theorem wssx_cons (h : WSx X ρ M st { Ψ with nx := fun ρ' M' => WSsx X ρ' M' rest Ψ Ξ } Ξ) : WSsx X ρ M (st :: rest) Ψ Ξ := .mk fun σ H D E en w k t kx =>
  ssOf (pss_cons ps_sem pss_sem) (h.run σ H _ E en w ⟨fun σ' ρ' H' M' x w' en' z => z.run σ' H' D E en' w' (k.step x) t (kx.step x), k.rt, k.bk, k.ct⟩ t kx)
theorem wsx_expr (h : WEx X ρ M e (fun _ M1 => Ψ.nx ρ M1) Ξ) (hs : swapsWith e none pos.line X.env = pure false := by rfl) : WSx X ρ M (.Expr e pos) Ψ Ξ := .mk fun σ H D E en w k t kx =>
  sOf (ps_expr pe_sem hs) (h.run σ H _ E en w (fun v d H1 M1 e1 w1 r1 hz => k.nx σ ρ H1 M1 e1 w1 (en.mono e1) hz) t kx)
theorem wsx_if {c : Expr} {sa sb : List Stmt} (h : WTx X ρ M c (fun b' M1 => if b' = true then WSsx X ρ M1 sa Ψ Ξ else WSsx X ρ M1 sb Ψ Ξ) Ξ) : WSx X ρ M (.If c sa sb pos) Ψ Ξ := .mk fun σ H D E en w k t kx =>
  sOf (ps_if pt_sem pss_sem pss_sem) (h.run σ H _ E en w (fun c H1 M1 e1 w1 hz => by
    cases c with
    | true => exact WSsx.run hz σ H1 D E (en.mono e1) w1 (k.step e1) t (kx.step e1)
    | false => exact WSsx.run hz σ H1 D E (en.mono e1) w1 (k.step e1) t (kx.step e1)) t kx)
/-- raise C(e) -/
theorem wsx_raise {C : Addr} {k : Nat} {pos2 : Pos} (hc : X.calm = true) (T : XL.Er X.prog X.K X.mg x C) (hr : Room k X.A) (h : WE X ρ M e fun d M1 => ∃ d' M2, Les M2 M1 ∧ Fz M1 M2 d d' ∧ Ξ C [("value", d')] M2) (hg : Gl X x := by rfl) (hdb : (x == ("__debug__" : Str)) = false := by decide)
    (he : starEach (e :: []) X.env = (false, eval e X.env) :: starEach [] X.env := by rfl) (hpl : (backTo pos (starEach [] X.env)).any (·.1) = false := by rfl) : WSx X ρ M (.Raise (some (.Call (.Name x p) [e] [] pos)) none pos2) Ψ Ξ := .mk fun σ H D E en w k t kx =>
  sOf (XL.ps_raiseE hc T hr t (pa_sem (es := [e])) hg hdb he hpl) ((wa_cons (es := []) (ΦA := fun ds M1 => ∃ d, ds = [d] ∧ ∃ d' M2, Les M2 M1 ∧ Fz M1 M2 d d' ∧ Ξ C [("value", d')] M2) (h.imp fun d M1 z => wa_nil ⟨d, rfl, z⟩) he).run σ H _ en w fun vs ds H1 M1 e1 w1 r1 hz => by
    obtain ⟨d, rfl, d', M2, l, f, hz⟩ := hz
    cases r1 with
    | cons r1 r2 =>
      cases r2
      rename_i v
      refine ⟨v, rfl, fun q hq => ?_⟩
      have x2 : Ext M1 _ H1 M1 (upd H1 q (.xd [("value", v)])) := Ext.new w1 hq
      have w2 := w1.new (o := .xd [("value", v)]) hq
      have r3 := f.rep l w2 (r1.mono x2)
      exact kx C _ _ q _ M2 ((e1.trans x2).trans (l.ext w2)) (l.w w2) upd_same (l.x (H := upd H1 q (.xd [("value", v)])) q _ upd_same (w1.fresh hq)).2 (.cons r3 .nil) hz)
end
end DL
namespace DL
open PySem PySem.Spec PyProof.Rows L2
/-- a contract with what is wanted where an error is raised -/
abbrev ConX := List D → Mp → (D → Mp → Prop) → Xi → Prop
def spX (K : PySem.W.Frag) (n : Nat) (c : ConX) : Sp := fun vs H Q E => ∃ ds M Z Φ Ξ, ds.length = n ∧ Reps K M Z H vs ds ∧ Wd K M Z H ∧ c ds M Φ Ξ ∧ KE K M Z H Φ Q ∧ KX K M Z H Ξ E
/-- the context of a body that may raise -/
abbrev bxX (P : Program) (w : World) (K : PySem.W.Frag) (mg : Str → Option Value) (base : Heap) (N : List Str) (qual : Str) (scope : Scope) (f : Addr) (cdv : Value) (A : Around) (outer : List Env) (s : Shared) (H : Hp) (E : XK) : Cx :=
  cxOf (CX P w) P w K mg base N qual scope f cdv A outer s H E
/-- a body keeps a contract -/
def BodyX (P : Program) (w : World) (K : PySem.W.Frag) (mg : Str → Option Value) (base : Heap) (qual : Str) (st : Stmt) (N : List Str) (n k : Nat) (c : ConX) : Prop :=
  ∀ (f : Addr) (cdv : Value) (A : Around) (outer : List Env) (s : Shared) (H : Hp) (E : XK), Room k (A.deeper (envOfC qual (defScope st) s.heap.objs.size f cdv)) → ∀ ds M Φ Ξ, ds.length = n → c ds M Φ Ξ →
      WSsx (bxX P w K mg base N qual (defScope st) f cdv A outer s H E) (start N ds) M (defBody st) { nx := fun _ M' => Φ .non M', rt := Lets Φ } Ξ
section
variable {P : Program} {w : World} {K : PySem.W.Frag} {mg : Str → Option Value} {base : Heap} {x qual : Str} {st : Stmt} {dvs : List V} {kws : List (Str × V)} {f : Addr} {fd : FuncData} {N ps : List Str} {k n : Nat} {c : ConX}
theorem fnX_ok (F : FunD K x qual (defArgs st) (defBody st) (defScope st) dvs kws f fd) (S : FnScope N ps (defScope st)) (h : BodyX P w K mg base qual st N ps.length k c) : FnOk P w K mg base (CX P w) (k + 1) f fd ps (spX K ps.length c) := by
  obtain ⟨oc, od, dV, kV, doc, pm, an, cdv, ct, osl, rfl, lk, hcd, _, _⟩ := F.ex
  have ln : ∀ vs H Q E, spX K ps.length c vs H Q E → vs.length = ps.length := fun vs H Q E q => by
    obtain ⟨ds, M, Z, Φ, Ξ, hl, r, _⟩ := q
    rw [r.length, hl]
  refine ⟨ln, fun A outer s H args us vs Q E hr e0 hb rv hsp => ?_⟩
  have hlen := ln _ _ _ _ hsp
  have hK : K.In s.heap := e0.mod.kin.keeps fun b o z => (e0.bs b o z).1
  have hlim : s.heap.NoLimit := e0.mod.nolimit.keeps fun b o z => (e0.bs b o z).1
  have kinds : ∀ y ∈ ps.zip us, (defScope st).names.lookup y.1 = some .local ∨ ((defScope st).names.lookup y.1 = some .cell ∧ ((cellsFrom (s.heap.objs.size + 1) (defScope st).names []).lookup y.1).isSome = true) := fun y hy => by
    rcases S.par y.1 (List.of_mem_zip hy).1 with z | z
    · exact .inl z
    · exact .inr ⟨z, PySem.W.cellsFrom_some _ _ _ (.inl z)⟩
  refine codeAny_call_function hr.depth (hK _ _ lk) rfl S.co S.gen rfl (PySem.W.codeRec_of hK hcd) (hb _ _ _ _ (wpAny_newFunctionEnv_cells S.kind kinds fun env he s1 xx => ?_))
  subst he
  refine ⟨hlim.keeps xx.toInCall.keep, codeAny_func ?_⟩
  obtain ⟨ds, M, Z, Φ, Ξ, hl, r, wd, hc, kk, kx⟩ := hsp
  have I : Inv (cxOf (CX P w) P w K mg base N qual (defScope st) f cdv A outer s H E) [] (L2.start N vs) H s1 := inv_start S hr.hd e0 hlen rv xx
  have tk : TakesE (cxOf (CX P w) P w K mg base N qual (defScope st) f cdv A outer s H E) E := takes_of rfl rfl rfl rfl
  have body := (h f cdv A outer s H E (hr.deeper _) ds M Φ Ξ hl hc).run (L2.start N vs) H { nx := fun _ H' => Q .non H', rt := Q } E (env_start r) wd ⟨fun σ' ρ' H' M' x w' en z => kk _ .non H' M' x w' .non z, lets_k kk, fun _ _ _ _ _ _ _ z => z.elim, fun _ _ _ _ _ _ _ z => z.elim⟩ tk kx
  have done : ∀ {σ' : L2.St} {H' : Hp} {v : V} {u : Value} {s' : Shared}, Inv (cxOf (CX P w) P w K mg base N qual (defScope st) f cdv A outer s H E) [] σ' H' s' → RelV v u → Q v H' → CE outer P w H s Q u s' := fun {σ' H' v u s'} J ru q => ⟨v, H', J.os, J.bare, J.base, J.hok, ru, q⟩
  refine wpAny_mono ((pss_sem (X := cxOf (CX P w) P w K mg base N qual (defScope st) f cdv A outer s H E)).run [] s1 (L2.start N vs) H _ I body) (fun fl s' hs => ?_) fun e s' hs => hs
  cases fl with
  | ret u => obtain ⟨v, σ', H', J, ru, q⟩ := hs; exact done J ru q
  | next => obtain ⟨σ', H', J, q⟩ := hs; exact done (v := V.non) (u := Value.none) J rfl q
  | brk => obtain ⟨_, _, _, q⟩ := hs; exact q.elim
  | cont => obtain ⟨_, _, _, q⟩ := hs; exact q.elim
end
/-- the global x is a def with this contract -/
structure Fcx (P : Program) (w : World) (K : PySem.W.Frag) (mg : Str → Option Value) (base : Heap) (x : Str) (dd : List D) (k n : Nat) (c : ConX) : Prop where
  ex : ∃ (f : Addr) (fd : FuncData) (ps : List Str) (dvs : List V) (ds : List Value), FnOk P w K mg base (CX P w) k f fd ps (spX K n c) ∧ mg x = some (.ref f) ∧ PySem.W.keepIn K (.ref f) = true ∧ Binds K fd ps ds ∧ Vals dvs ds ∧ ∀ M Z H, Reps K M Z H dvs dd
/-- the method m of the class at C has this contract -/
structure Mcx (P : Program) (w : World) (K : PySem.W.Frag) (mg : Str → Option Value) (base : Heap) (C : Addr) (m : Str) (dd : List D) (k n : Nat) (c : ConX) : Prop where
  cl : Cls K C
  ex : ∃ (f : Addr) (fd : FuncData) (ps : List Str) (dvs : List V) (ds : List Value), FnOk P w K mg base (CX P w) k f fd ps (spX K n c) ∧ Meth K C m f ∧ Binds K fd ps ds ∧ Vals dvs ds ∧ ∀ M Z H, Reps K M Z H dvs dd
section
variable {X : Cx} {ρ : Rho} {M : Mp} {Φ : D → Mp → Prop} {Ξ : Xi} {e o : Expr} {es : List Expr} {pos p apos : Pos} {x m : Str} {dd : List D} {k n : Nat} {c : ConX}
theorem spX_run {vs dvs : List V} {ds : List D} {M1 : Mp} {Z : Zn} {H1 : Hp} {Q : VK} {E : XK} (r : Reps X.K M1 Z H1 vs ds) (rd : Reps X.K M1 Z H1 dvs dd) (w1 : Wd X.K M1 Z H1) (hz : (ds ++ dd).length = n ∧ c (ds ++ dd) M1 Φ Ξ) (k : KE X.K M1 Z H1 Φ Q) (kx : KX X.K M1 Z H1 Ξ E) : spX X.K n c (vs ++ dvs) H1 Q E :=
  ⟨ds ++ dd, M1, Z, Φ, Ξ, hz.1, r.append rd, w1, hz.2, k, kx⟩
/-- x(e, ..), which may raise -/
theorem wex_call (F : Fcx X.prog X.w X.K X.mg X.base x dd k n c) (hr : Room k X.A) (h : WA X ρ M (e :: es) fun ds M1 => (ds ++ dd).length = n ∧ c (ds ++ dd) M1 Φ Ξ) (hg : Gl X x := by rfl)
    (hdb : (x == ("__debug__" : Str)) = false := by decide) (he : starEach (e :: es) X.env = (false, eval e X.env) :: starEach es X.env := by rfl) (hpl : (backTo pos (starEach es X.env)).any (·.1) = false := by rfl) : WEx X ρ M (.Call (.Name x p) (e :: es) [] pos) Φ Ξ := .mk fun σ H Q E en w k t kx => by
  obtain ⟨f, fd, ps, dvs, ds, F, hm, hk, hb, hd, hdd⟩ := F.ex
  exact eOf (pe_call (E := E) F hr hg hm hk hb hd t.pass pa_sem hdb he hpl) (h.run σ H _ en w fun vs as H1 M1 e1 w1 r1 hz => spX_run r1 (hdd _ _ _) w1 hz (k.step e1) (kx.step e1))
end
end DL
namespace DL
open PySem PySem.Spec PyProof.Rows L2
section
variable {P : Program} {w : World} {K : PySem.W.Frag} {mg : Str → Option Value} {base : Heap} {x qual : Str} {st : Stmt} {N ps : List Str} {j k n : Nat} {c : ConX} {dd : List D} {C : Addr} {m : Str} {f : Addr}
theorem Df.fx (D : Df K mg x st []) (S : FnScope N ps (defScope st))
    (hb : ∀ (kV doc pm : Value) (an : Option Addr) (cdv ct : Value) (us : List Value), us.length = ps.length → bindArgs (PySem.W.fnOf x x (defArgs st) (defBody st) (defScope st) .none kV doc pm an cdv ct) ⟨us, []⟩ = pure (ps.zip us))
    (h : BodyX P w K mg base x st N ps.length k c) : Fcx P w K mg base x [] (k + 1) ps.length c := by
  obtain ⟨f, fd, F, hm⟩ := D.ex
  exact ⟨f, fd, ps, [], [], fnX_ok F S h, hm, F.kp, F.bindsN hb, .nil, fun _ _ _ => .nil⟩
theorem Fcx.up (F : Fcx P w K mg base x dd j n c) (h : j ≤ k) : Fcx P w K mg base x dd k n c := by
  obtain ⟨f, fd, ps, dvs, ds, F, r⟩ := F.ex
  exact ⟨f, fd, ps, dvs, ds, F.mono h, r⟩
theorem Mcx.up (F : Mcx P w K mg base C m dd j n c) (h : j ≤ k) : Mcx P w K mg base C m dd k n c := by
  obtain ⟨f, fd, ps, dvs, ds, G, r⟩ := F.ex
  exact ⟨F.cl, f, fd, ps, dvs, ds, G.mono h, r⟩
/-- the class of the name x, the contract of its __init__, which may raise -/
structure Kcx (P : Program) (w : World) (K : PySem.W.Frag) (mg : Str → Option Value) (base : Heap) (x : Str) (C : Addr) (dd : List D) (k n : Nat) (c : ConX) : Prop where
  at_ : mg x = some (.ref C)
  ex : ∃ (f : Addr) (fd : FuncData) (ps : List Str) (dvs : List V) (ds : List Value), FnOk P w K mg base (CX P w) k f fd ps (spX K n c) ∧ Mk K C f ∧ Binds K fd ps ds ∧ Vals dvs ds ∧ ∀ M Z H, Reps K M Z H dvs dd
theorem Kcx.up (F : Kcx P w K mg base x C dd j n c) (h : j ≤ k) : Kcx P w K mg base x C dd k n c := by
  obtain ⟨f, fd, ps, dvs, ds, G, r⟩ := F.ex
  exact ⟨F.at_, f, fd, ps, dvs, ds, G.mono h, r⟩
end
section
variable {X : Cx} {ρ : Rho} {M : Mp} {Φ : D → Mp → Prop} {Ξ : Xi} {Ψ : DE} {e a b o : Expr} {es : List Expr} {sts : List Stmt} {st : Stmt} {pos p apos : Pos} {x m : Str} {dd : List D} {k n : Nat} {c : ConX}
/-- isinstance(v, C), v an error -/
theorem call_isX : CallR X (.builtin "isinstance") (fun xs H Q => ∃ a C dx fs b c cv, xs = [.ref a, c] ∧ ClsV c cv ∧ XL.ErV X.K C ∧ H a = some (XL.XV a (.ref C) (some dx)) ∧ H dx = some (.xd fs) ∧ PySem.W.kitOne X.K (.ref C) cv = some b ∧ Q (.bl b) H) := by
  intro pins s σ H xs us Q I r h
  obtain ⟨a, C, dd, fs, b, c, cv, rfl, hc, E, ea, ed, hk, q⟩ := h
  refine XL.call_isV c cv (fun u hu => ?_) pins s σ H _ us Q I r ⟨a, C, dd, fs, b, rfl, E, ea, ed, hk, q⟩
  cases hc with
  | ty n => exact hu
  | own C => exact hu
theorem we_isX (hm : X.mg "isinstance" = none) (h : WE X ρ M a fun x M1 => WE X ρ M1 b fun y M2 => ∃ C fs u c, x = .exc C fs ∧ ClsD y u ∧ XL.ErV X.K C ∧ PySem.W.kitOne X.K (.ref C) u = some c ∧ Φ (.bl c) M2) (hg : Gl X "isinstance" := by rfl)
    (ha : starEach [a, b] X.env = (false, eval a X.env) :: starEach [b] X.env := by rfl) (hb : starEach [b] X.env = (false, eval b X.env) :: starEach [] X.env := by rfl) (hpl : (backTo pos (starEach [b] X.env)).any (·.1) = false := by rfl) : WE X ρ M (.Call (.Name "isinstance" p) [a, b] [] pos) Φ :=
  we_callB call_isX hm (by decide +kernel) (wa_cons (h.imp fun x M1 h => wa_cons (h.imp fun y M2 h => wa_nil fun Z vs H Q w rr k => by
    obtain ⟨v, u, rfl, r1, r2⟩ := rr.two
    obtain ⟨C, fs, cu, c, rfl, h2, E, h3, h⟩ := h
    cases r1 with
    | exc e1 e2 m1 m2 rf =>
      refine ⟨_, C, _, _, c, u, cu, rfl, ?_, E, e1, e2, h3, k.now w (.bl _) h⟩
      cases r2 with
      | ty n => cases h2; exact .ty n
      | fn C => cases h2; exact .own C
      | _ => cases h2) hb) ha) hg (he := ha) (hpl := hpl)
/-- v.value, v an error -/
theorem we_valX {f : Str} (h : WE X ρ M o fun d M1 => ∃ C fs v, d = .exc C fs ∧ XL.ErV X.K C ∧ PySem.W.findIn X.K (.ref C) f = some none ∧ fs.lookup f = some v ∧ Φ v M1) (hb : attributeBase o f X.env (eval o X.env) = eval o X.env := by rfl) : WE X ρ M (.Attribute o f pos) Φ := .mk fun σ H Q en w k =>
  eOf (XL.pe_valV pe_sem hb) (h.run σ H _ en w fun v d H1 M1 e1 w1 r1 hz => by
    obtain ⟨C, fs, y, rfl, E, hno, hl, hz⟩ := hz
    cases r1 with
    | exc q1 q2 m1 m2 rf =>
      obtain ⟨u, hu, ru⟩ := (rf.lookup f).2 y hl
      exact ⟨_, C, _, _, u, rfl, E, hno, q1, q2, hu, (k.step e1).now w1 ru hz⟩)
end
end DL
namespace XL
open PySem PySem.W PySem.Calls PyProof.Rows PySem.HandSPX L2 LamX
/-- a lambda is made -/
theorem lam_make4 {X : Cx} {pins : List (Addr × Obj)} {σ : L2.St} {H : Hp} {s : Shared} {c P : Addr} {params : Arguments} {body : Expr} {scope : Scope} {pos : Pos} {E Q : Value → Shared → Prop} (I : L2.Inv X pins σ H s) (TB : TabB X.base X.mg c P) (hcode : X.env.code = .ref c) (hex : X.ex = []) (hT : TabS H P (X.env.qual ++ "<lambda>"))
    (hdef : defaultsOf params X.env = ([], [])) (hfree : ∀ y ∈ scope.names, y.2 = NameKind.free → ∃ c, X.env.cells.lookup y.1 = some c)
    (h : ∀ (f c' : Addr) (H1 : Hp) (s' : Shared), L2.Inv X pins σ H1 s' → (∀ b o, H b = some o → b ≠ P → H1 b = some o) → TabS H1 P (X.env.qual ++ "<lambda>") → H f = none →
      H1 f = some (LamO f (X.env.qual ++ "<lambda>") params body scope (cloFrom X.env.cells scope.names []) c') → H1 c' = some (CodeO c' (X.env.qual ++ "<lambda>")) → f ≠ c' → c' ≠ P → (H c' = none ∨ ∃ ps pos, H P = some (.tbl ps) ∧ codeAmong pos ps.toList = some (.ref c')) →
      (∀ ps1 pos' cv, H1 P = some (.tbl ps1) → codeAmong pos' ps1.toList = some cv → cv = .ref c' ∨ ∃ ps, H P = some (.tbl ps) ∧ codeAmong pos' ps.toList = some cv) → Q (.ref f) s') :
    wpAny (model X.prog X.w) X.A (eval (.Lambda params body scope pos) X.env) Q E s := by
  obtain ⟨ps, hP, ht, ha⟩ := hT
  refine W.kla_eval hdef ?_
  have bP := TB.bm.keeps I.bk
  have hP' := I.hok P (.tbl ps) hP
  cases hc : codeAmong pos ps.toList with
  | none =>
    refine W.kla_makeFunction (closure_ok hfree) I.ok.glob (I.mod.glob.keeps I.bk) hcode (TB.code.keeps I.bk) hP' ht hc TB.gP bP fun c' ctv h' tk hx hge hlt hrec htb => ?_
    obtain ⟨c2, oc, vs, t, e2, hoc, hd, hv⟩ := hrec
    cases e2
    have hsz : s.heap.objs.size ≤ h'.objs.size := Nat.le_trans hge (Nat.le_of_lt hlt)
    have nC : H c' = none := I.hok.fresh hge
    have I1 := inv_table (t' := tk) I hP (fun b o hb e => Heap.get?_push_of_some (W.kla_obj "<lambda>" (X.env.qual ++ "<lambda>") params body scope (cloFrom X.env.cells scope.names []) ((X.mg "__name__").getD .none) c' ctv) (hx b o hb e)) (Heap.get?_push_of_some _ htb) hge ⟨oc, vs, t, Heap.get?_push_of_some _ hoc, hd, hv⟩
    have n1 : h'.objs.size ≠ c' := Nat.ne_of_gt hlt
    have n2 : h'.objs.size ≠ P := Nat.ne_of_gt (Nat.lt_of_lt_of_le (Heap.lt_size hP') hsz)
    have n3 : c' ≠ P := fun z => by rw [z, hP] at nC; cases nC
    have fN0 : H h'.objs.size = none := I.hok.fresh hsz
    have fN : (upd (upd H P (.tbl (ps ++ #[rawInt pos.line, rawInt pos.col, .ref c']))) c' (CodeO c' (X.env.qual ++ "<lambda>"))) h'.objs.size = none := by rw [upd_ne n1, upd_ne n2]; exact fN0
    have I2 := give_lam I I1 hex hsz fN (Heap.get?_push_size h' rfl)
    have kk : ∀ b o, H b = some o → b ≠ P → (upd (upd (upd H P (.tbl (ps ++ #[rawInt pos.line, rawInt pos.col, .ref c']))) c' (CodeO c' (X.env.qual ++ "<lambda>"))) h'.objs.size (LamO h'.objs.size (X.env.qual ++ "<lambda>") params body scope (cloFrom X.env.cells scope.names []) c')) b = some o := fun b o e n => by
      rw [upd_ne (ne_of_none e fN0), upd_ne (ne_of_none e nC), upd_ne n]; exact e
    have hc1 : (upd (upd (upd H P (.tbl (ps ++ #[rawInt pos.line, rawInt pos.col, .ref c']))) c' (CodeO c' (X.env.qual ++ "<lambda>"))) h'.objs.size (LamO h'.objs.size (X.env.qual ++ "<lambda>") params body scope (cloFrom X.env.cells scope.names []) c')) c' = some (CodeO c' (X.env.qual ++ "<lambda>")) := by rw [upd_ne (Ne.symm n1), upd_same]
    have eL : (ps ++ #[rawInt pos.line, rawInt pos.col, .ref c']).toList = ps.toList ++ [rawInt pos.line, rawInt pos.col, .ref c'] := by simp
    have hP1 : (upd (upd (upd H P (.tbl (ps ++ #[rawInt pos.line, rawInt pos.col, .ref c']))) c' (CodeO c' (X.env.qual ++ "<lambda>"))) h'.objs.size (LamO h'.objs.size (X.env.qual ++ "<lambda>") params body scope (cloFrom X.env.cells scope.names []) c')) P = some (.tbl (ps ++ #[rawInt pos.line, rawInt pos.col, .ref c'])) := by rw [upd_ne (Ne.symm n2), upd_ne (Ne.symm n3), upd_same]
    refine h _ c' _ _ I2 kk ⟨_, by rw [upd_ne (Ne.symm n2), upd_ne (Ne.symm n3), upd_same], by rw [eL]; exact TriplesOk_snoc _ _ _ _ ht, fun p' cv hcv => ?_⟩ fN0 upd_same hc1 n1 n3 (.inl nC) (fun ps1 pos' cv e1 hcv => ?_)
    rotate_left
    · rw [hP1] at e1; cases e1
      rw [eL] at hcv
      rcases among_app ps.toList ht hcv with z | z
      · exact .inr ⟨ps, hP, z⟩
      · exact .inl z
    rw [eL] at hcv
    rcases among_app ps.toList ht hcv with z | z
    · obtain ⟨c0, e1, e2⟩ := ha p' cv z
      exact ⟨c0, e1, kk c0 _ e2 (fun q => by rw [q, hP] at e2; cases e2)⟩
    · exact ⟨c', z, hc1⟩
  | some cv =>
    obtain ⟨c', rfl, hco⟩ := ha pos cv hc
    refine W.kla_makeFunctionHit (closure_ok hfree) I.ok.glob (I.mod.glob.keeps I.bk) hcode (TB.code.keeps I.bk) hP' ht hc bP fun ctv h' tk hx hsz => ?_
    have I1 := I.kept (t' := tk) fun b o e => Heap.get?_push_of_some (W.kla_obj "<lambda>" (X.env.qual ++ "<lambda>") params body scope (cloFrom X.env.cells scope.names []) ((X.mg "__name__").getD .none) c' ctv) (hx b o e)
    have fN0 : H h'.objs.size = none := I.hok.fresh hsz
    have I2 := give_lam I I1 hex hsz fN0 (Heap.get?_push_size h' rfl)
    have kk : ∀ b o, H b = some o → (upd H h'.objs.size (LamO h'.objs.size (X.env.qual ++ "<lambda>") params body scope (cloFrom X.env.cells scope.names []) c')) b = some o := fun b o e => by
      rw [upd_ne (ne_of_none e fN0)]; exact e
    refine h _ c' _ _ I2 (fun b o e _ => kk b o e) ⟨ps, kk _ _ hP, ht, fun p' cv hcv => ?_⟩ fN0 upd_same (kk _ _ hco) (fun z => by rw [z, hco] at fN0; cases fN0) (fun z => by rw [z, hP] at hco; cases hco) (.inr ⟨ps, pos, hP, hc⟩) (fun ps1 pos' cv e1 hcv => ?_)
    rotate_left
    · rw [kk _ _ hP] at e1; cases e1
      exact .inr ⟨ps, hP, hcv⟩
    obtain ⟨c0, e1, e2⟩ := ha p' cv hcv
    exact ⟨c0, e1, kk c0 _ e2⟩
end XL
namespace DL
open PySem PySem.Spec PyProof.Rows L2
section
variable {X : Cx} {ρ : Rho} {M : Mp} {Φ : D → Mp → Prop} {pos : Pos}
/-- a lambda -/
theorem we_lam {P c : Addr} {params : Arguments} {body : Expr} {scope : Scope} (TB : LamX.TabB X.base X.mg c P) (hcode : X.env.code = .ref c) (hex : X.ex = []) (hM : M P = some (.tbl (X.env.qual ++ "<lambda>"))) (hdef : defaultsOf params X.env = ([], []))
    (hfree : ∀ y ∈ scope.names, y.2 = NameKind.free → ∃ c, X.env.cells.lookup y.1 = some c) (h : Φ (.lam (X.env.qual ++ "<lambda>") params body scope (cloFrom X.env.cells scope.names [])) M) : WE X ρ M (.Lambda params body scope pos) Φ := .mk fun {Z} σ H Q en w k => by
  intro pins s I
  obtain ⟨ps, hP, ht, ha⟩ := w.1 P _ hM
  refine XL.lam_make4 I TB hcode hex ⟨ps, hP, ht, fun p cv z => let ⟨c, e1, e2, _⟩ := ha p cv z; ⟨c, e1, e2⟩⟩ hdef hfree fun f c' H1 s' I1 kk T1 hf hf1 hc1 nfc ncP hor htab => ?_
  have mc : Im M Z c' := by
    rcases hor with e | ⟨ps2, pos2, e1, e2⟩
    · exact w.fresh e
    · rw [hP] at e1; cases e1
      obtain ⟨c, e3, _, m⟩ := ha _ _ e2
      cases e3
      exact m
  have mf : Im M Z f := w.fresh hf
  have x1 : Ext M Z H M H1 := ⟨fun b o e m => ⟨kk b o e (fun z => by rw [z] at m; rw [m.1] at hM; cases hM), m⟩, fun b z => by
    obtain ⟨m, u, e⟩ := w.2 b z
    refine ⟨?_, rfl⟩
    rw [e]
    exact kk b u e fun z => by rw [z, hM] at m; cases m⟩
  have w1 : Wd X.K M Z H1 := by
    refine ⟨fun a o e => ?_, fun a z => ?_⟩
    · by_cases q : a = P
      · rw [q, hM] at e; cases e
        rw [q]
        obtain ⟨ps1, y1, y2, y3⟩ := T1
        refine ⟨ps1, y1, y2, fun p cv z => ?_⟩
        obtain ⟨c2, e1, e2⟩ := y3 p cv z
        subst e1
        refine ⟨c2, rfl, e2, ?_⟩
        rcases htab ps1 p _ y1 z with e3 | ⟨ps2, e3, e4⟩
        · cases e3; exact mc
        · rw [hP] at e3; cases e3
          obtain ⟨c3, e5, _, m⟩ := ha _ _ e4
          cases e5
          exact m
      · have r := w.1 a o e
        obtain ⟨u, hu⟩ := r.there
        exact r.step x1 ((kk a u hu q).trans hu.symm)
    · obtain ⟨m, u, e⟩ := w.2 a z
      exact ⟨m, u, by rw [(x1.2 a z).1]; exact e⟩
  exact ⟨.ref f, H1, I1, rfl, k _ _ H1 M x1 w1 (.lam hf1 hc1 mf mc) h⟩
end
end DL
namespace XL
open PySem PySem.W PySem.Calls PyProof.Rows PySem.HandSPX L2 LamX
/-- look(), E what is wanted where it raises -/
def tAct (X : Cx) (σ : L2.St) (i : Nat) (tb : XK → Arguments → Expr → Scope → TE) (E : L2.St → XK) : TE := fun σZ HZ Q => ∃ (f c' : Addr) (params : Arguments) (body : Expr) (scope : Scope), σZ[i]? = some (some (.ref f)) ∧ HZ f = some (LamO f (X.env.qual ++ "<lambda>") params body scope (cloFrom X.env.cells scope.names []) c') ∧ HZ c' = some (CodeO c' (X.env.qual ++ "<lambda>")) ∧
  LamS X.env.scope scope ∧ (∀ (pm cv ctv : Value), bindArgs (PySem.W.kla_fn "<lambda>" (X.env.qual ++ "<lambda>") params body scope (cloFrom X.env.cells scope.names []) pm cv ctv) ⟨[], []⟩ = pure []) ∧ tb (E σZ) params body scope σ HZ Q
section
variable {X : Cx} {pins : List (Addr × Obj)} {σ : L2.St} {H : Hp} {s : Shared} {Ng : List Str} {qg : Str} {sg : Scope} {g B : Addr} {cdg : Value} {k i j : Nat} {a n x : Str} {p1 p2 p3 np pos pos' : Pos} {tb : XK → Arguments → Expr → Scope → TE} {b₀ : Stmt} {suite : List Stmt} {ts : Addr → Value → Option Addr → TS}
/-- try: look() except X as n: suite -/
theorem try_look (I : L2.Inv X pins σ H s) (hr : Room (k + 1) (X.A.deeper (envOfC qg sg s.heap.objs.size g cdg)))
    (hbody : ∀ (E : XK) (params : Arguments) (body : Expr) (scope : Scope) (f c' : Addr) (A : Around) (outer : List Env) (s : Shared) (H : Hp), Room k (A.deeper (lamEnv X scope s.heap.objs.size f c')) → PE (lamCx X A outer s H E scope f c') body (tb E params body scope))
    (hN : Ng[i]? = some a) (hv : Vis sg a) (hd : (a == ("__debug__" : Str)) = false) (hcd : (a == ("__classdict__" : Str)) = false)
    (nd : Ng.Nodup) (hj : Ng[j]? = some n) (hln : (envOfC qg sg s.heap.objs.size g cdg).kindOf n = some .local) (hc : Names (cxOf CX0 X.prog X.w X.K X.mg X.base Ng qg sg g cdg X.A X.stack s H E0).nox x (.ref B))
    (hsw : swapsWith (.Call (.Name a p1) [] [] p2) none p3.line (envOfC qg sg s.heap.objs.size g cdg) = pure false)
    (hsu : ∀ (a : Addr) (oe : Obj) (cls : Value) (d : Option Addr) (pn : List (Addr × Obj)), Zc cls d oe → (∃ vs, oe.data = .fields vs) → PSs ((cxOf CX0 X.prog X.w X.K X.mg X.base Ng qg sg g cdg X.A X.stack s H E0).nox.suite a ((a, oe) :: pn)) (b₀ :: suite) (ts a cls d)) :
    PS (cxOf CX0 X.prog X.w X.K X.mg X.base Ng qg sg g cdg X.A X.stack s H E0).nox (.Try [.Expr (.Call (.Name a p1) [] [] p2) p3] [.ExceptHandler (some (.Name x np)) (some n) (b₀ :: suite) pos'] [] [] pos)
      (fun D σZ HZ => tSeq (tDrop (tAct X σ i tb (fun σZ cls d H' => wAsV X.K (.ref B) j ts (fun _ _ _ _ => False) D cls d σZ H'))) tNext D σZ HZ) :=
  ps_try_asV (X := (cxOf CX0 X.prog X.w X.K X.mg X.base Ng qg sg g cdg X.A X.stack s H E0).nox) (tb := fun W => tSeq (tDrop (tAct X σ i tb (fun σZ cls d H' => W cls d σZ H'))) tNext) rfl rfl rfl nd hj hln hc L2.takes0
    (fun W pn xe tk _ => pss_cons (ps_expr (pe_actV (CXg := CX0) (Eg := E0) (E := fun σZ cls d H' => W cls d σZ H') I tk (fun _ _ _ _ z => z) hr hbody hN hv hd hcd) hsw) pss_nil) hsu
/-- what the def makes of the lambda at f: None, or the error that it raises -/
def GiveC (X : Cx) (σ : L2.St) (K : Frag) (B : Addr) (tb : XK → Arguments → Expr → Scope → TE) (f : Addr) (H : Hp) (Q : VK) : Prop := ∃ (c' : Addr) (params : Arguments) (body : Expr) (scope : Scope), H f = some (LamO f (X.env.qual ++ "<lambda>") params body scope (cloFrom X.env.cells scope.names []) c') ∧ H c' = some (CodeO c' (X.env.qual ++ "<lambda>")) ∧
  LamS X.env.scope scope ∧ (∀ (pm cv ctv : Value), bindArgs (PySem.W.kla_fn "<lambda>" (X.env.qual ++ "<lambda>") params body scope (cloFrom X.env.cells scope.names []) pm cv ctv) ⟨[], []⟩ = pure []) ∧
  ∀ (E : XK) (R : VK), (∀ v H', Q .non H' → R v H') → (∀ cls d H', exmOne K cls (.ref B) = some true → (∀ a, H' a = none → Q (.ref a) (upd H' a (XV a cls d))) → E cls d H') → tb E params body scope σ H R
/-- here = None; try: look() except X as n: here = n; return here -/
theorem caughtB {here : Str} {q1 q2 q3 q4 q5 q6 q7 q8 : Pos} {jn : Nat} (I : L2.Inv X pins σ H s) (hr : Room (k + 1) (X.A.deeper (envOfC qg sg s.heap.objs.size g cdg)))
    (hbody : ∀ (E : XK) (params : Arguments) (body : Expr) (scope : Scope) (f c' : Addr) (A : Around) (outer : List Env) (s : Shared) (H : Hp), Room k (A.deeper (lamEnv X scope s.heap.objs.size f c')) → PE (lamCx X A outer s H E scope f c') body (tb E params body scope))
    (hv : Vis sg a) (hvn : Vis sg n) (hvh : Vis sg here) (hlh : L2.Loc sg here) (hd : (a == ("__debug__" : Str)) = false) (hcd : (a == ("__classdict__" : Str)) = false) (hd2 : (n == ("__debug__" : Str)) = false) (hcd2 : (n == ("__classdict__" : Str)) = false) (hd3 : (here == ("__debug__" : Str)) = false) (hcd3 : (here == ("__classdict__" : Str)) = false)
    (nd : Ng.Nodup) (hNg : Ng = [a, here, n]) (hln : (envOfC qg sg s.heap.objs.size g cdg).kindOf n = some .local) (hc : Names (cxOf CX0 X.prog X.w X.K X.mg X.base Ng qg sg g cdg X.A X.stack s H E0).nox x (.ref B))
    (hsw : swapsWith (.Call (.Name a p1) [] [] p2) none p3.line (envOfC qg sg s.heap.objs.size g cdg) = pure false)
    {f : Addr} {Q : VK} (h : GiveC X σ X.K B tb f H Q) :
    ∃ t, PSs (cxOf CX0 X.prog X.w X.K X.mg X.base Ng qg sg g cdg X.A X.stack s H E0).nox [.Assign [.Name here q1] (.Constant .none jn q2) q3, .Try [.Expr (.Call (.Name a p1) [] [] p2) p3] [.ExceptHandler (some (.Name x np)) (some n) [.Assign [.Name here q4] (.Name n q5) q6] pos'] [] [] pos, .Return (some (.Name here q7)) q8] t ∧
      t { nx := fun _ H' => Q .non H', rt := Q } (L2.start Ng [.ref f]) H := by
  subst hNg
  refine ⟨_, pss_cons (ps_asg pe_non (pg_name (i := 1) nd rfl hlh (Or.inl rfl)) rfl rfl rfl) (pss_cons (try_look (i := 0) (j := 2) I hr hbody rfl hv hd hcd nd rfl hln hc hsw (fun a oe cls d pn hz hf => pss_cons (ps_asg (pe_var (i := 2) rfl hvn hd2 hcd2) (pg_name (i := 1) nd rfl hlh (Or.inl rfl)) rfl rfl rfl) pss_nil)) (pss_cons (ps_ret (pe_var (i := 1) rfl hvh hd3 hcd3)) pss_nil)), ?_⟩
  obtain ⟨c', params, body, scope, h1, h2, h3, h4, h5⟩ := h
  refine ⟨f, c', params, body, scope, rfl, h1, h2, h3, h4, ?_⟩
  exact h5 _ _ (fun v H' z => ⟨_, rfl, z⟩) fun cls d H' he hq => ⟨true, he, fun _ a ha => ⟨_, rfl, _, rfl, hq a ha⟩, fun z => by cases z⟩
end
end XL
namespace DL
open PySem PySem.Spec PyProof.Rows L2
/-- the lambda's reading, whatever stands around it -/
def tbL (X : Cx) (k : Nat) : XK → Arguments → Expr → Scope → TE := fun E _ body scope σ H Q => ∀ (f c' : Addr) (A : Around) (outer : List Env) (s : Shared) (H0 : Hp), Room k (A.deeper (LamX.lamEnv X scope s.heap.objs.size f c')) → eSem (LamX.lamCx X A outer s H0 E scope f c') body σ H Q
theorem tbL_pe {X : Cx} {k : Nat} (E : XK) (params : Arguments) (body : Expr) (scope : Scope) (f c' : Addr) (A : Around) (outer : List Env) (s : Shared) (H : Hp) (hr : Room k (A.deeper (LamX.lamEnv X scope s.heap.objs.size f c'))) : PE (LamX.lamCx X A outer s H E scope f c') body (tbL X k E params body scope) :=
  ⟨fun pins s1 σ H1 Q I h => h f c' A outer s H hr pins s1 I⟩
/-- the def at g (slots Ng, scope sg, body bg) gives what the lambda raises, of the class at B -/
def Gives (X : Cx) (k : Nat) (B g : Addr) (x : Str) (Ng : List Str) (sg : Scope) (cdg : Value) (bg : List Stmt) : Prop := ∀ (pins : List (Addr × Obj)) (σ : L2.St) (H : Hp) (s : Shared) (f : Addr) (Q : VK), L2.Inv X pins σ H s → Room (k + 1) (X.A.deeper (envOfC x sg s.heap.objs.size g cdg)) → XL.GiveC X σ X.K B (tbL X k) f H Q →
  ∃ t, PSs (cxOf CX0 X.prog X.w X.K X.mg X.base Ng x sg g cdg X.A X.stack s H E0).nox bg t ∧ t { nx := fun _ H' => Q .non H', rt := Q } (L2.start Ng [.ref f]) H
section
variable {X : Cx} {ρ : Rho} {M : Mp} {Φ : D → Mp → Prop} {e : Expr} {pos p : Pos} {x a : Str} {k : Nat} {B g : Addr} {Ng : List Str} {sg : Scope} {cdg : Value} {bg : List Stmt} {pg : Arguments} {dV kV doc pm ct oc : Value} {an od : Option Addr} {osl : Array (Option Value)}
theorem we_caught (hm : X.mg x = some (.ref g)) (hk : PySem.W.keepIn X.K (.ref g) = true) (lk : X.K.lookup g = some ⟨oc, od, .func (PySem.W.fnOf x x pg bg sg dV kV doc pm an cdg ct), osl⟩) (hcg : PySem.W.codeIn X.K cdg x = true) (hb : Binds X.K (PySem.W.fnOf x x pg bg sg dV kV doc pm an cdg ct) [a] []) (Sg : FnScope Ng [a] sg)
    (hG : Gives X k B g x Ng sg cdg bg) (hr : Room (k + 2) X.A)
    (h : WE X ρ M e fun d M1 => ∃ params body scope, d = .lam (X.env.qual ++ "<lambda>") params body scope (cloFrom X.env.cells scope.names []) ∧ LamX.LamS X.env.scope scope ∧
      (∀ (q : Str) (cl : List (Str × Addr)) (pm cv ctv : Value), bindArgs (PySem.W.kla_fn "<lambda>" q params body scope cl pm cv ctv) ⟨[], []⟩ = pure []) ∧
      ∀ (f c' : Addr) (A : Around) (outer : List Env) (s : Shared) (H0 : Hp) (E : XK), Room k (A.deeper (LamX.lamEnv X scope s.heap.objs.size f c')) → WEx (LamX.lamCx X A outer s H0 E scope f c') ρ M1 body (fun _ M2 => Φ .non M2) (fun C fs M2 => PySem.W.exmOne X.K (.ref C) (.ref B) = some true ∧ Φ (.exc C fs) M2))
    (hg : Gl X x := by rfl) (hdb : (x == ("__debug__" : Str)) = false := by decide) (he : starEach [e] X.env = (false, eval e X.env) :: starEach [] X.env := by rfl) (hpl : (backTo pos (starEach [] X.env)).any (·.1) = false := by rfl) : WE X ρ M (.Call (.Name x p) [e] [] pos) Φ := .mk fun {Z} σ H Q en w kk => by
  intro pins s I
  refine wpAny_Call_Name_kw (ld_glob I hg hm ?_ hdb)
  refine PySem.W.callWith_K (h₀ := X.base) I.ok.mod.kin hk (thn ((pa_sem (es := [e])).run pos pins s σ H (fun vs H1 => ∃ f, vs = [.ref f] ∧ XL.GiveC X σ X.K B (tbL X k) f H1 Q) I ?_) fun us s1 z => ?_) he hpl
  · refine (wa_cons (es := []) (ΦA := fun ds M1 => ∃ d, ds = [d] ∧ ∃ params body scope, d = .lam (X.env.qual ++ "<lambda>") params body scope (cloFrom X.env.cells scope.names []) ∧ LamX.LamS X.env.scope scope ∧ (∀ (q : Str) (cl : List (Str × Addr)) (pm cv ctv : Value), bindArgs (PySem.W.kla_fn "<lambda>" q params body scope cl pm cv ctv) ⟨[], []⟩ = pure []) ∧
      ∀ (f c' : Addr) (A : Around) (outer : List Env) (s : Shared) (H0 : Hp) (E : XK), Room k (A.deeper (LamX.lamEnv X scope s.heap.objs.size f c')) → WEx (LamX.lamCx X A outer s H0 E scope f c') ρ M1 body (fun _ M2 => Φ .non M2) (fun C fs M2 => PySem.W.exmOne X.K (.ref C) (.ref B) = some true ∧ Φ (.exc C fs) M2)) (h.imp fun d M1 z => wa_nil ⟨d, rfl, z⟩) he).run σ H _ en w fun vs ds H1 M1 e1 w1 r1 hz => ?_
    obtain ⟨d, rfl, params, body, scope, rfl, L, hbind, hbd⟩ := hz
    cases r1 with
    | cons r1 r2 =>
      cases r2
      cases r1 with
      | lam q1 q2 m1 m2 =>
        refine ⟨_, rfl, _, params, body, scope, q1, q2, L, fun pm cv ctv => hbind _ _ pm cv ctv, fun E R hR hE f c' A outer s0 H0 hr' => ?_⟩
        refine (hbd f c' A outer s0 H0 E hr').run σ H1 R E (en.mono e1) w1 (fun v d H2 M2 e2 w2 r2 hz => hR v H2 ((kk.step (e1.trans e2)).now w2 .non hz)) (takes_of rfl rfl rfl rfl) fun C fs vs d H2 M2 e2 w2 hd md rf hz => ?_
        refine hE _ _ _ hz.1 fun q hq => ?_
        have nq : d ≠ q := fun z => by rw [z, hq] at hd; cases hd
        have x3 : Ext M2 Z H2 M2 (upd H2 q (XL.XV q (.ref C) (some d))) := Ext.new w2 hq
        exact (kk.step ((e1.trans e2).trans x3)).now (w2.new hq) (.exc upd_same (by rw [upd_ne nq]; exact hd) (w2.fresh hq) md (rf.mono x3)) hz.2
  · obtain ⟨vs, H1, I1, r, f, rfl, hgv⟩ := z
    refine ⟨I1.kIn, ?_⟩
    cases r with
    | cons r1 r2 =>
      cases r2
      rename_i u
      obtain rfl : u = Value.ref f := r1
      have rc := LamX.run_ofS (CX := CX0) (P := X.prog) (w := X.w) (mg := X.mg) (base := X.base) (Q := Q) (E := E0) lk hcg Sg hr I1.env0 (hb s1 [Value.ref f] I1.kIn rfl) (Paired.cons (a := V.ref f) rfl Paired.nil) rfl fun hr' => by
        obtain ⟨t', ht, hq⟩ := hG pins σ H1 s1 f Q I1 hr' hgv
        exact ⟨t', PSs.nox ht, hq⟩
      refine wpAny_call (codeAny_mono rc fun r s' hq => ?_)
      cases r with
      | error er => exact hq.elim
      | ok fl =>
        cases fl with
        | ret u => exact I1.after hq
        | next => exact hq.elim
        | brk => exact hq.elim
        | cont => exact hq.elim
end
end DL
namespace DL
open PySem PySem.Spec PyProof.Rows L2
/-- nothing but the script and some empty tables is known -/
def OnlyT (cs : List (Addr × Addr)) (H : Hp) : Prop := (∀ p ∈ cs, H p.2 = some (.tbl #[])) ∧ ∀ b, H b = none ∨ b ∈ cs.map (·.2) ∨ ∃ o xs, H b = some (.frz o (.lst xs))
theorem lawGT {P : Program} {w : World} {K : PySem.W.Frag} {mg mb : Str → Option Value} {k : Nat} {fa a : Addr} {cs : List (Addr × Addr)} {fd : FuncData} {x : Str} {sp : Sp} {s : Shared} {vs : List Value} {ns : List Int}
    (KX : K.In s.heap) (gn : s.heap.Ns mainGlobals mg) (bn : s.heap.Ns builtinsNs mb) (bb : ∀ x : Str, x ≠ "__name__" → mb x = bootBuiltins x) (lim : s.heap.NoLimit) (hg : s.gens = #[])
    (tc : ∀ p ∈ cs, PySem.W.CodeHd s.heap p.1 p.2 ∧ s.heap.get? p.2 = some { cls := .none, data := .fields #[] }) (tn : ∀ p ∈ cs, K.lookup p.2 = none)
    (bm : ∃ (m : Addr) (ob : Obj), mg "__builtins__" = some (.ref m) ∧ m ≠ builtinsNs ∧ s.heap.get? m = some ob ∧ ob.cls = .type "module" ∧ ob.dict = some builtinsNs ∧ ob.data = .plain)
    (ha : s.heap.get? a = some { cls := .type "list", data := .seq vs.toArray }) (hi : IntsAre vs ns) (hl : ns.length ≤ sizeLine) (hr : Room k callerA)
    (F : ∀ base : Heap, K.In base → base.Ns mainGlobals mg → (∀ p ∈ cs, LamX.TabB base mg p.1 p.2) → FnG P w K mg base k fa fd [x] sp) (bind_ : ∀ (s : Shared) (u : Value), BindsTo s fd ⟨[u], []⟩ [(x, u)])
    (hsp : ∀ H : Hp, OnlyT cs H → SqL K H a (ns.map V.int) → sp [.ref a] H (fun v _ => v = .bl true) fun _ _ _ => False) :
    codeAny (model P w) callerA (.call (.ref fa) ⟨[.ref a], []⟩) (fun r s' => r = .ok (.ret (.bool true)) ∧ OldK s.heap s'.heap ∧ s'.os = s.os ∧ AllBare s'.gens) s := by
  have rv := vals_ints hi
  have lenV := hi.length
  have tob : ∀ b : Addr, b ∈ cs.map (·.2) → s.heap.get? b = some { cls := .none, data := .fields #[] } := fun b h => by
    obtain ⟨p, h1, rfl⟩ := List.mem_map.mp h
    exact (tc p h1).2
  have tin : ∀ p ∈ cs, p.2 ∈ cs.map (·.2) := fun p h => List.mem_map.mpr ⟨p, h, rfl⟩
  have at_a : a ∉ cs.map (·.2) := fun z => by
    have q := tob a z
    rw [ha] at q
    cases congrArg Obj.data (Option.some.inj q)
  have main : ∀ H : Hp, OnlyT cs H → SqL K H a (ns.map V.int) → HOk P w H s.heap → (∀ b, H b ≠ none → b = a ∨ b ∈ cs.map (·.2)) → (H a ≠ none → K.lookup a = none) →
      codeAny (model P w) callerA (.call (.ref fa) ⟨[.ref a], []⟩) (fun r s' => r = .ok (.ret (.bool true)) ∧ OldK s.heap s'.heap ∧ s'.os = s.os ∧ AllBare s'.gens) s := fun H o1 o2 hok at_ hK => by
    have keep0 : ∀ {b : Addr} {o : Obj}, s.heap.get? b = some o → H b = none → (hidT s.heap H).get? b = some o := fun z y => hidT_get z y
    -- what is neither the script nor a table is hidden
    have free : ∀ {b : Addr} {o : Obj}, s.heap.get? b = some o → o.data ≠ .fields #[] → (∀ n, o.data ≠ .seq vs.toArray n) → H b = none := fun {b o} z d1 d2 => by
      cases q : H b with
      | none => rfl
      | some u =>
        exfalso
        rcases at_ b (by rw [q]; simp) with e | e
        · rw [e, ha] at z
          cases z
          exact d2 _ rfl
        · rw [tob b e] at z
          cases z
          exact d1 rfl
    have noD : ∀ {b : Addr} {o : Obj} {es : Array DictEntry} {ep : Nat}, s.heap.get? b = some o → o.data = .dict es ep → H b = none := fun z d => free z (by rw [d]; simp) (by rw [d]; simp)
    have nsK : ∀ {b : Addr} {m : Str → Option Value}, s.heap.Ns b m → (hidT s.heap H).Ns b m := fun {b m} z => by
      obtain ⟨o, es, ep, y, d, r⟩ := z
      exact ⟨o, es, ep, keep0 y (noD y d), d, r⟩
    have inB : K.In (hidT s.heap H) := fun b o z => keep0 (KX b o z) (by
      cases q : H b with
      | none => rfl
      | some u =>
        rcases at_ b (by rw [q]; simp) with e | e
        · rw [e] at z q
          rw [hK (by rw [q]; simp)] at z
          cases z
        · obtain ⟨p, h1, rfl⟩ := List.mem_map.mp e
          rw [tn p h1] at z
          cases z)
    have hM : Mod K mg (hidT s.heap H) := ⟨inB, nsK gn, ⟨mb, nsK bn, bb⟩, by obtain ⟨mc, h1, h2⟩ := lim; exact ⟨mc, nsK h1, h2⟩⟩
    have TB : ∀ p ∈ cs, LamX.TabB (hidT s.heap H) mg p.1 p.2 := fun p h => by
      obtain ⟨hc, hP⟩ := tc p h
      have gP : mainGlobals ≠ p.2 := fun z => by
        obtain ⟨o, es, ep, e, hd, _⟩ := gn
        rw [z, hP] at e
        cases e
        cases hd
      refine ⟨?_, ?_, gP⟩
      · obtain ⟨o, us, file, tf, flags, tg, inF, text, tt, e1, r1, r2, r3, r⟩ := hc
        refine ⟨o, us, file, tf, flags, tg, inF, text, tt, keep0 e1 (free e1 (fun z => ?_) fun n z => ?_), r1, r2, r3, r⟩
        · rw [r2] at z
          cases z
          simp at r3
        · rw [r2] at z
          cases z
      · obtain ⟨m, ob, b1, b2, b3, b4, b5, b6⟩ := bm
        have n1 : m ≠ mainGlobals := fun q => by
          obtain ⟨o, es, ep, e, hd, _⟩ := gn
          rw [q, e] at b3
          cases b3
          rw [hd] at b6
          cases b6
        have n2 : m ≠ p.2 := fun q => by
          rw [q, hP] at b3
          cases b3
          cases b6
        exact ⟨m, ob, b1, b2, n1, n2, keep0 b3 (free b3 (by rw [b6]; simp) (by rw [b6]; simp)), b4, b5, b6⟩
    have e0 : Env0 P w K mg (hidT s.heap H) callerA [] s H := ⟨rfl, hM, fun b o z => of_hidT z, Nat.le_of_eq (hidT_size _ _), trivial, fun b hb => absurd (show b ∈ ([] : List Addr) from hb) (by simp), hok, .of_eq hg⟩
    refine codeAny_mono ((F _ inB (nsK gn) TB).run callerA [] s H ⟨[.ref a], []⟩ [.ref a] [.ref a] _ _ rfl hr e0 (bind_ s (.ref a)) (.cons rfl .nil) (hsp H o1 o2)) fun r s' h => ?_
    cases r with
    | error e => exact False.elim h
    | ok fl =>
      cases fl with
      | ret u =>
        obtain ⟨v, H', os, bare, un, hok', r', q⟩ := h
        obtain rfl : v = .bl true := q
        obtain rfl : u = Value.bool true := r'
        have old : ∀ b o, b ∉ cs.map (·.2) → s.heap.get? b = some o → s'.heap.get? b = some o := fun b o nb z => by
          cases q : H b with
          | none => exact un.keep b o z q (fun y => absurd (show b ∈ ([] : List Addr) from y) (by simp)) (by simp)
          | some u =>
            rcases o1.2 b with y | y | ⟨ob, xs, y⟩
            · rw [q] at y; cases y
            · exact absurd y nb
            · have y3 := (hok b _ y).1
              have y4 := (hok' b _ (un.frzs b ob _ y)).1
              rw [z] at y3; cases y3
              exact y4
        have grew : ∀ p ∈ cs, ∃ more : Array Value, s'.heap.get? p.2 = some { cls := .none, data := .fields more } := fun p h => by
          obtain ⟨more, z⟩ := un.tbls p.2 #[] (o1.1 p h)
          exact ⟨_, hok' p.2 _ z⟩
        refine ⟨rfl, ⟨fun b o z => ?_, fun b o z => ?_⟩, os, bare⟩
        · by_cases hb : b ∈ cs.map (·.2)
          · obtain ⟨p, h1, rfl⟩ := List.mem_map.mp hb
            obtain ⟨more, hm⟩ := grew p h1
            rw [(tc p h1).2] at z
            cases z
            exact .inr (.inl ⟨((tc p h1).1.tab (tc p h1).2).isCodeTable, rfl, #[], more, rfl, by rw [Array.empty_append]; exact hm⟩)
          · exact .inl (old b o hb z)
        · by_cases hb : b ∈ cs.map (·.2)
          · obtain ⟨p, h1, rfl⟩ := List.mem_map.mp hb
            obtain ⟨more, hm⟩ := grew p h1
            exact ⟨_, hm⟩
          · exact ⟨o, old b o hb z⟩
      | _ => exact False.elim h
  cases hk : K.lookup a with
  | some o =>
    have z := KX a o hk
    rw [ha] at z
    cases z
    refine main (fun b => if b ∈ cs.map (·.2) then some (.tbl #[]) else none) ⟨fun p h => if_pos (tin p h), fun b => ?_⟩ (.inr ⟨_, vs.toArray, _, hk, rfl, rfl, rfl, by rw [List.size_toArray, lenV]; exact hl, by simpa using rv⟩) (fun b u z => ?_) (fun b z => ?_) fun z => absurd (show (if a ∈ cs.map (·.2) then some (HO.tbl #[]) else none) = none from if_neg at_a) z
    · by_cases hb : b ∈ cs.map (·.2)
      · exact .inr (.inl hb)
      · exact .inl (if_neg hb)
    · by_cases hb : b ∈ cs.map (·.2)
      · cases (if_pos hb).symm.trans z
        exact tob b hb
      · cases (if_neg hb).symm.trans z
    · by_cases hb : b ∈ cs.map (·.2)
      · exact .inr hb
      · exact absurd (if_neg hb) z
  | none =>
    have ne : ∀ p ∈ cs, ¬ p.2 = a := fun p h z => at_a (z ▸ tin p h)
    refine main (fun b => if b = a then some (.frz { cls := .type "list", data := .seq vs.toArray } (.lst (ns.map V.int))) else if b ∈ cs.map (·.2) then some (.tbl #[]) else none) ⟨fun p h => (if_neg (ne p h)).trans (if_pos (tin p h)), fun b => ?_⟩ (.inl (.inr ⟨_, if_pos rfl⟩)) (fun b u z => ?_) (fun b z => ?_) fun _ => hk
    · by_cases hb : b = a
      · exact .inr (.inr ⟨_, _, if_pos hb⟩)
      · by_cases hb2 : b ∈ cs.map (·.2)
        · exact .inr (.inl hb2)
        · exact .inl ((if_neg hb).trans (if_neg hb2))
    · by_cases hb : b = a
      · cases (if_pos hb).symm.trans z
        subst hb
        exact ⟨ha, by rw [List.length_map]; exact hl, vs, _, rv, ha⟩
      · have z1 := (if_neg hb).symm.trans z
        by_cases hb2 : b ∈ cs.map (·.2)
        · cases (if_pos hb2).symm.trans z1
          exact tob b hb2
        · cases (if_neg hb2).symm.trans z1
    · by_cases hb : b = a
      · exact .inl hb
      · by_cases hb2 : b ∈ cs.map (·.2)
        · exact .inr hb2
        · exact absurd ((if_neg hb).trans (if_neg hb2)) z
theorem walk_ofGT {l : PySem.W.OpenLaw} {n k : Nat} {q : Program} {loose names : List Str} {XP : (Str → Option Value) → Heap → Prop} {YP : World → Heap → Prop} {d : DefRec} {x : Str}
    (hn : l.most = some n) (hn2 : n ≤ sizeLine) (hdf : d.params.defaults = []) (hr : Room k callerA) (hrec : ∀ y ∈ names, ((recsOf q).find? fun e => e.name == y).isSome = true)
    (F : ∀ (w : World) (mg : Str → Option Value) (fa : Addr) (h : Heap), YP w h → h.Ns mainGlobals mg → mg d.name = some (.ref fa) →
      ∃ (K : PySem.W.Frag) (fd : FuncData) (sp : Sp) (cs : List (Addr × Addr)), K.In h ∧ (∀ (s : Shared) (u : Value), BindsTo s fd ⟨[u], []⟩ [(x, u)]) ∧ (∀ p ∈ cs, K.lookup p.2 = none ∧ ∃ y ∈ names, PySem.W.tabIn K y = some p) ∧
        (∀ (H : Hp) (a : Addr) (ns : List Int), ns.length ≤ n → OnlyT cs H → SqL K H a (ns.map V.int) → sp [.ref a] H (fun v _ => v = .bl true) fun _ _ _ => False) ∧
        ∀ base : Heap, K.In base → base.Ns mainGlobals mg → (∀ p ∈ cs, LamX.TabB base mg p.1 p.2) → FnG l.prog w K mg base k fa fd [x] sp) :
    PySem.W.WalkO q loose XP YP l.row.toRowW d [] (fun f vs => PySem.call f vs) := by
  refine Att.attach_call hn hdf fun w s0 s1 mg mb fa o pm cd doc a vs ns G Y ho hd hcd hmg hobj hints hlen hg => ?_
  obtain ⟨K, fd, sp, cs, KX, hb, ht, hsp, hF⟩ := F w mg fa _ Y G.T.g hmg
  refine lawGT KX G.T.g G.T.b G.T.builtins G.T.nolimit hg (fun p hp => ?_) (fun p hp => (ht p hp).1) G.T.bmain hobj hints (Nat.le_trans hlen hn2) hr hF hb fun H hO hS => hsp H a ns hlen hO hS
  obtain ⟨y, hy, e⟩ := (ht p hp).2
  obtain ⟨r, hr'⟩ := Option.isSome_iff_exists.mp (hrec y hy)
  exact PySem.W.tab_of G.T KX hr' e
end DL
namespace DL
open PySem PySem.Spec PyProof.Rows L2
section
variable {X : Cx} {ρ : Rho} {M : Mp} {Φ : D → Mp → Prop} {Θ : Bool → Mp → Prop} {Ψ : DE} {a b c e : Expr} {es : List Expr} {ss : List Stmt} {pos p p2 pos2 : Pos}
theorem we_leLe (h : WE X ρ M a fun x M1 => WE X ρ M1 b fun y M2 => ∃ i j, x = .int i ∧ y = .int j ∧ if i ≤ j then WE X ρ M2 c (fun z M3 => ∃ l, z = .int l ∧ Φ (.bl (decide (j ≤ l))) M3) else Φ (.bl false) M2) (hm : lastMarks [CmpOp.LtE, .LtE] [b, c] = false := by with_unfolding_all rfl) : WE X ρ M (.Compare a [.LtE, .LtE] [b, c] pos) Φ := .mk fun {Z} σ H Q en w k =>
  eOf (pe_chain op_le op_le pe_sem pe_sem pe_sem hm) (bind2 h en w fun v u x y H2 M2 e2 w2 r1 r2 hz => by
    obtain ⟨i, j, rfl, rfl, hz⟩ := hz
    cases r1; cases r2
    refine ⟨i, j, rfl, rfl, _, rfl, ?_⟩
    by_cases hij : i ≤ j
    · rw [decide_eq_true hij, if_pos rfl]
      rw [if_pos hij] at hz
      exact hz.run σ H2 _ (en.mono e2) w2 fun v3 d3 H3 M3 e3 w3 r3 hy => by
        obtain ⟨l, rfl, hy⟩ := hy
        cases r3
        exact ⟨j, l, rfl, rfl, (k.step (e2.trans e3)).now w3 (.bl _) hy⟩
    · rw [decide_eq_false hij, if_neg (by simp)]
      rw [if_neg hij] at hz
      exact (k.step e2).now w2 (.bl _) hz)
/-- a list that is changed no more -/
theorem wss_fz {i : Nat} {q : Addr} {ds : List D} (hi : ρ[i]? = some (some (.ob q))) (hq : M q = some (.lst ds)) (h : WSs X (ρ.set i (some (.lst ds))) (mdel M q) ss Ψ) : WSs X ρ M ss Ψ := .mk fun {Z} σ H E en w k => by
  have l : Les (mdel M q) M := les_del
  obtain ⟨v, hv, r⟩ := en.get hi
  have r2 := Fz.rep (.lst hq mdel_same) l w r
  have en2 := (en.mono (l.ext w)).set r2 i
  have e : σ.set i (some v) = σ := by
    apply List.ext_getElem?
    intro j
    by_cases hj : i = j
    · subst hj
      rw [List.getElem?_set_self (List.getElem?_eq_some_iff.mp hv).1, hv]
    · rw [List.getElem?_set_ne hj]
  rw [e] at en2
  exact h.run σ H E en2 (l.w w) (k.step (l.ext w))
end
end DL
namespace DL
open PySem PySem.Spec PyProof.Rows L2 SX
abbrev dctP (x y : Str) (n : Int) : PyData := .dict [(.tuple [.str x, .str y], .int n)]
abbrev dctD (x y : Str) (n : Int) : D := .dT [([.inr x, .inr y], .int n)]
section
variable {X : Cx} {ρ : Rho} {M : Mp} {Φ : D → Mp → Prop} {e : Expr} {pos p : Pos}
theorem cr_reprT (hg : X.A.guards = some []) (hu : X.A.units + 64 < cLine) {x y : Str} {n : Int} (hs : (dctP x y n).showable = true) (hz : (dctP x y n).shown.length ≤ sizeLine) (hdp : (dctP x y n).depth ≤ 8) : CallR X (.builtin "repr") (fun xs H Q => ∃ a, xs = [.ref a] ∧ H a = some (.dT [([.inr x, .inr y], .int n)]) ∧ Q (.str (dctP x y n).shown) H) := by
  intro pins s σ H xs us Q I r h
  obtain ⟨a, rfl, ha, h⟩ := h
  obtain ⟨u, rfl, ru⟩ := vals1 r
  obtain rfl : u = Value.ref a := ru
  obtain ⟨_, hs0, ys, kv, o, es, ep, ho, hx, hd, hk, _⟩ := I.hok a _ ha
  cases kv with
  | @cons _ q _ qs pr t =>
    cases t
    obtain ⟨e1, e2, e3⟩ := pr
    obtain ⟨_, its, ri, o2, h1, h2, n2, h3⟩ := (show ObjOk X.prog X.w H s.heap q.2.1 (.tup [V.str x, V.str y]) from I.hok q.2.1 _ e2)
    cases ri with
    | @cons _ w1 _ _ p1 r2 =>
      cases r2 with
      | @cons _ w2 _ _ p2 r3 =>
        cases r3
        obtain ⟨t1, rfl⟩ := p1
        obtain ⟨t2, rfl⟩ := p2
        obtain ⟨t3, e3⟩ := e3
        have rk : Reads s.heap (.ref q.2.1) (.tuple [.str x, .str y]) ([] ++ ([] ++ [])) := Reads.tuple h1 h2 h3 (.cons (.str x t1) (.cons (.str y t2) .nil))
        have rd : Reads s.heap (.ref a) (dctP x y n) (a :: (([] ++ ([] ++ [])) ++ []) ++ ([] ++ [])) := Reads.dict ho hx.1 hd (by rw [hk]; exact .cons rk .nil) (by rw [hk]; show ReadsAll s.heap [q.2.2] [.int n] ([] ++ []); rw [e3]; exact .cons (.int n t3) .nil)
        refine repr_of_reads' rd hs (fun _ => ?_) hg (by omega) (fun _ _ z => z) (fun h' t tk kp => ⟨.str _, H, I.kept kp, ⟨t, rfl⟩, h⟩) hz
        intro z
        rcases List.mem_cons.mp z with z | z
        · rw [← z] at hs0; simp at hs0
        · cases z
end
end DL
namespace DL
open PySem PySem.Spec PyProof.Rows L2 SX
/-- a value of any kind -/
inductive AV where
  | non | bl (b : Bool) | int (i : Int) | str (x : Str) | tup (l : List AV) | lst (l : List AV) | dic | dct (x y : Str) (n : Int)
mutual
def avD : AV → D
  | .non => .non
  | .bl b => .bl b
  | .int i => .int i
  | .str x => .str x
  | .tup l => .tup (avsD l)
  | .lst l => .lst (avsD l)
  | .dic => .dK []
  | .dct x y n => dctD x y n
def avsD : List AV → List D
  | [] => []
  | v :: l => avD v :: avsD l
end
theorem avsD_map : ∀ l : List AV, avsD l = l.map avD
  | [] => by rw [avsD]; rfl
  | v :: l => by rw [avsD, avsD_map l, List.map_cons]
theorem avsD_len (l : List AV) : (avsD l).length = l.length := by rw [avsD_map, List.length_map]
def avT : AV → String
  | .non => "NoneType"
  | .bl _ => "bool"
  | .int _ => "int"
  | .str _ => "str"
  | .tup _ => "tuple"
  | .lst _ => "list"
  | .dic => "dict"
  | .dct _ _ _ => "dict"
theorem avTy (M : Mp) (v : AV) : TyD M (avD v) (.type (avT v)) := by
  cases v <;> (rw [avD]; rfl)
mutual
def avP : AV → PyData
  | .non => .none
  | .bl b => .bool b
  | .int i => .int i
  | .str x => .str x
  | .tup l => .tuple (avsP l)
  | .lst l => .list (avsP l)
  | .dic => .dict []
  | .dct x y n => dctP x y n
def avsP : List AV → List PyData
  | [] => []
  | v :: l => avP v :: avsP l
end
section
variable {X : Cx} {ρ : Rho} {M : Mp} {Φ : D → Mp → Prop} {e : Expr} {pos p : Pos}
theorem cr_reprA (hg : X.A.guards = some []) (hu : X.A.units + 64 < cLine) : CallR X (.builtin "repr") (fun xs H Q => (∃ v q, xs = [v] ∧ Dp X.K H v q ∧ q.showable = true ∧ q.canLay0 = true ∧ q.depth ≤ 60 ∧ q.shown.length ≤ sizeLine ∧ Q (.str q.shown) H) ∨ (∃ a, xs = [.ref a] ∧ H a = some (.dK []) ∧ Q (.str (PyData.dict []).shown) H) ∨ ∃ x y n, (dctP x y n).showable = true ∧ (dctP x y n).shown.length ≤ sizeLine ∧ (dctP x y n).depth ≤ 8 ∧ ∃ a, xs = [.ref a] ∧ H a = some (.dT [([.inr x, .inr y], .int n)]) ∧ Q (.str (dctP x y n).shown) H) := by
  intro pins s σ H xs us Q I r h
  rcases h with h | ⟨a, rfl, ha, h⟩ | ⟨x, y, n, g1, g2, g3, h⟩
  · exact cr_reprD hg hu pins s σ H xs us Q I r h
  rotate_left
  · exact cr_reprT hg hu g1 g2 g3 pins s σ H xs us Q I r h
  · obtain ⟨u, rfl, ru⟩ := vals1 r
    obtain rfl : u = Value.ref a := ru
    obtain ⟨_, hs, vs, kv, o, es, ep, ho, hx, hd, hk, hp, _⟩ := I.hok a _ ha
    cases kv
    have e0 : es.toList = [] := by
      cases hp' : es.toList with
      | nil => rfl
      | cons q r => rw [hp'] at hp; cases hp
    have rd : Reads s.heap (.ref a) (PyData.dict []) (a :: [] ++ []) := Reads.dict ho hx.1 hd (by rw [e0]; exact .nil) (by rw [e0]; exact .nil)
    refine repr_of_reads' rd (by decide) (fun _ => ?_) hg (by show X.A.units + (1 + 1) < cLine; omega) (fun _ _ z => z) (fun h' t tk kp => ⟨.str _, H, I.kept kp, ⟨t, rfl⟩, h⟩) (by decide +kernel)
    intro z
    rcases List.mem_cons.mp z with z | z
    · rw [← z] at hs; simp at hs
    · cases z
/-- repr(e), e any value -/
theorem we_reprA (hm : X.mg "repr" = none) (hg0 : X.A.guards = some []) (hu : X.A.units + 64 < cLine) (h : WE X ρ M e fun d M1 => ((∃ q k, CmpD d q k ∧ k ≤ 60 ∧ q.showable = true ∧ q.shown.length ≤ sizeLine ∧ Φ (.str q.shown) M1) ∨ (d = .dK [] ∧ Φ (.str (PyData.dict []).shown) M1) ∨ ∃ x y n, d = dctD x y n ∧ (dctP x y n).showable = true ∧ (dctP x y n).shown.length ≤ sizeLine ∧ (dctP x y n).depth ≤ 8 ∧ Φ (.str (dctP x y n).shown) M1)) (hg : Gl X "repr" := by rfl)
    (he : starEach [e] X.env = (false, eval e X.env) :: starEach [] X.env := by rfl) (hpl : (backTo pos (starEach [] X.env)).any (·.1) = false := by rfl) : WE X ρ M (.Call (.Name "repr" p) [e] [] pos) Φ :=
  we_callB (cr_reprA hg0 hu) hm (by decide +kernel) (wa_cons (h.imp fun d M1 h => wa_nil fun Z vs H Q w rr k => by
    obtain ⟨v, rfl, r⟩ := rr.one
    rcases h with ⟨q, j, c, hj, h1, h2, h⟩ | ⟨rfl, h⟩ | ⟨x, y, n, rfl, g1, g2, g3, h⟩
    · exact .inl ⟨v, q, rfl, r.dp c.eq, h1, c.lay, Nat.le_trans c.dep hj, h2, k.now w (.str _) h⟩
    · cases r with
      | dK h1 m r =>
        cases r
        exact .inr (.inl ⟨_, rfl, h1, k.now w (.str _) h⟩)
    · cases r with
      | dT h1 m r =>
        cases r with
        | cons r1 t =>
          cases t
          cases r1
          exact .inr (.inr ⟨x, y, n, g1, g2, g3, _, rfl, h1, k.now w (.str _) h⟩)) he) hg (he := he) (hpl := hpl)
end
/-- how a value is shown, where it can be -/
def RpD (v : AV) : Prop := (∃ k, CmpD (avD v) (avP v) k ∧ k ≤ 60 ∧ (avP v).showable = true ∧ (avP v).shown.length ≤ sizeLine) ∨ v = .dic ∨ ∃ x y n, v = .dct x y n ∧ (dctP x y n).showable = true ∧ (dctP x y n).shown.length ≤ sizeLine ∧ (dctP x y n).depth ≤ 8
theorem we_reprV {X : Cx} {ρ : Rho} {M : Mp} {Φ : D → Mp → Prop} {e : Expr} {pos p : Pos} (hm : X.mg "repr" = none) (hg0 : X.A.guards = some []) (hu : X.A.units + 64 < cLine) (h : WE X ρ M e fun d M1 => ∃ v, d = avD v ∧ RpD v ∧ Φ (.str (avP v).shown) M1) (hg : Gl X "repr" := by rfl)
    (he : starEach [e] X.env = (false, eval e X.env) :: starEach [] X.env := by rfl) (hpl : (backTo pos (starEach [] X.env)).any (·.1) = false := by rfl) : WE X ρ M (.Call (.Name "repr" p) [e] [] pos) Φ :=
  we_reprA hm hg0 hu (h.imp fun d M1 ⟨v, e1, hv, hz⟩ => by
    subst e1
    rcases hv with ⟨k, c, h1, h2, h3⟩ | rfl | ⟨x, y, n, rfl, g1, g2, g3⟩
    · exact .inl ⟨_, k, c, h1, h2, h3, hz⟩
    · exact .inr (.inl ⟨by rw [avD], by rw [avP] at hz; exact hz⟩)
    · exact .inr (.inr ⟨x, y, n, by rw [avD], g1, g2, g3, by rw [avP] at hz; exact hz⟩)) hg he hpl
theorem sh_natW {n : Nat} (h : n < 10 ^ 40) : ShD (.int (n : Nat)) 41 := by
  refine ⟨?_, ?_⟩
  · simp only [PyData.showable, decide_eq_true_eq, Int.natAbs_natCast]
    by_cases h0 : n = 0
    · rw [h0]; decide
    · have : n < 2 ^ 140 := Nat.lt_trans h (by decide)
      have := (Nat.log2_lt h0).mpr this; omega
  · simp only [PyData.shown]
    rw [num_S, S_len]
    exact Nat.le_succ_of_le (TL.numL_len (k := 40) (by decide) h)
mutual
def avDp : AV → Nat
  | .tup l => avsDp l + 1
  | .lst l => avsDp l + 1
  | .non => 0
  | .bl _ => 0
  | .int _ => 0
  | .str _ => 0
  | .dic => 0
  | .dct _ _ _ => 0
def avsDp : List AV → Nat
  | [] => 0
  | v :: l => max (avDp v) (avsDp l)
end
mutual
def avLn : AV → Nat
  | .tup l => avsLn l + 3
  | .lst l => avsLn l + 3
  | .non => 41
  | .bl _ => 41
  | .int _ => 41
  | .str _ => 41
  | .dic => 41
  | .dct _ _ _ => 41
def avsLn : List AV → Nat
  | [] => 0
  | v :: l => avLn v + 2 + avsLn l
end
def StG (x : Str) : Prop := (∀ c ∈ x.cps.toList, c < 0x110000) ∧ ShD (.str x) 41
theorem sh_non : ShD .none 41 := ⟨by decide +kernel, by decide +kernel⟩
theorem sh_bl (b : Bool) : ShD (.bool b) 41 := ⟨by cases b <;> decide +kernel, by cases b <;> decide +kernel⟩
end DL
namespace W
open PySem PySem.Spec PyProof.Rows L2 DL SX PL SlX
section
variable {P : Program} {w : World} {K : PySem.W.Frag} {mg : Str → Option Value} {base : Heap} {C R U V : Addr}
theorem stG_of {x : Str} (h1 : x.cps.toList.all (fun c => decide (c < 0x110000)) = true) (h2 : (PyData.str x).showable = true) (h3 : (PyData.str x).shown.length ≤ 41) : StG x := ⟨fun c hc => of_decide_eq_true (List.all_eq_true.mp h1 c hc), h2, h3⟩
def isI : AV → Bool
  | .int _ => true
  | .bl _ => true
  | _ => false
def isT : AV → Bool
  | .tup _ => true
  | _ => false
theorem kit_int (v : AV) : PySem.W.kitOne K (.type (avT v)) (.type "int") = some (isI v) := by cases v <;> rfl
theorem kit_tup (v : AV) : PySem.W.kitOne K (.type (avT v)) (.type "tuple") = some (isT v) := by cases v <;> rfl
end
end W
namespace W
open PySem PySem.Spec PyProof.Rows L2 DL SX PL
section
variable {P : Program} {w : World} {K : PySem.W.Frag} {mg : Str → Option Value} {base : Heap} {C : Addr}
abbrev potL (a c d : Int) : MO := .lst [.int a, .int c, .int d]
def cOk (c : Int) : Prop := 0 ≤ c ∧ c < 2305843009213693921
def cTake : Con := fun ds M Φ => ∃ p u a c d, ds = [.ob p, .int u] ∧ 1 ≤ u ∧ u ≤ 10 ^ 40 ∧ M p = some (potL a c d) ∧ cOk c ∧ 0 ≤ d ∧ d < 100000 ∧ ∀ r a' d', 0 ≤ r → r < u → d ≤ d' → d' ≤ d + 1 → Φ (.int r) (mset M p (potL a' c d'))
theorem at0 {a c d : Int} : atI [D.int a, D.int c, D.int d] 0 = some (.int a) := atI_nat (j := 0) rfl
theorem at1 {a c d : Int} : atI [D.int a, D.int c, D.int d] 1 = some (.int c) := atI_nat (j := 1) rfl
theorem at2 {a c d : Int} : atI [D.int a, D.int c, D.int d] 2 = some (.int d) := atI_nat (j := 2) rfl
def primes : List Int := [2147483647, 2147483629, 2147483587, 2147483579, 2147483563]
theorem prime_at {i : Int} (h0 : 0 ≤ i) (h5 : i < 5) : ∃ q, atI (primes.map D.int) i = some (.int q) ∧ 2147483563 ≤ q ∧ q ≤ 2147483647 := by
  obtain ⟨n, rfl⟩ := Int.eq_ofNat_of_zero_le h0
  have : n < 5 := by omega
  match n, this with
  | 0, _ => exact ⟨2147483647, atI_nat (j := 0) rfl, by decide, by decide⟩
  | 1, _ => exact ⟨2147483629, atI_nat (j := 1) rfl, by decide, by decide⟩
  | 2, _ => exact ⟨2147483587, atI_nat (j := 2) rfl, by decide, by decide⟩
  | 3, _ => exact ⟨2147483579, atI_nat (j := 3) rfl, by decide, by decide⟩
  | 4, _ => exact ⟨2147483563, atI_nat (j := 4) rfl, by decide, by decide⟩
theorem log40 {u : Int} (h1 : 1 ≤ u) (h2 : u ≤ 10 ^ 40) : u.natAbs.log2 < 9000 := by
  have e : u.natAbs < 16 ^ 40 := by
    have : (10 : Int) ^ 40 < 16 ^ 40 := by decide +kernel
    have e2 : ((16 ^ 40 : Nat) : Int) = 16 ^ 40 := by decide +kernel
    omega
  have := log16 e
  omega
abbrev nTake : List Str := ["_law_pot_here", "_law_upto", "_law_digit", "_law_prime", "_law_mixed"]
theorem sq_le {d : Int} (h0 : 0 ≤ d) (h : d ≤ 100000) : 0 ≤ 100343 * d * d ∧ 100343 * d * d ≤ 100343 * 100000 * 100000 := by
  have h1 : 0 ≤ d * d := Int.mul_nonneg h0 h0
  have h2 : d * d ≤ 100000 * 100000 := Int.mul_le_mul h h h0 (by decide)
  rw [Int.mul_assoc]
  omega
theorem ok_take (F : Fx w K mg) : BodyOk P w K mg base "_law_take" s__law_take nTake 2 0 cTake := by
  intro f cdv A outer s H E hr ds M Φ hl hc
  obtain ⟨p, u, a, c, d, rfl, hu, hu2, hM, ⟨c0, c1⟩, d0, d1, hc⟩ := hc
  have nd : nTake.Nodup := by decide +kernel
  refine wss_cons (ws_if (wt_gtI (we_ix (we_var 0 rfl (we_int ⟨0, _, rfl, ixO hM at0, we_int ⟨_, _, rfl, rfl, ?_⟩⟩)))))
  refine ite_dec (fun ha => ?_) fun ha => ?_
  · refine wss_cons (ws_set 2 nd (we_modI (we_intN (F.bn _ (by decide +kernel)) (we_ix (we_var 0 rfl (we_int ⟨0, _, rfl, ixO hM at0, .inl ⟨_, rfl, we_var 1 rfl ⟨_, _, rfl, rfl, by omega, ?_⟩⟩⟩))))))
    refine wss_cons (ws_asg (we_divI (we_ix (we_var 0 rfl (we_int ⟨0, _, rfl, ixO hM at0, we_var 1 rfl ⟨_, _, rfl, rfl, ⟨by omega, ?_⟩, ?_⟩⟩)))))
    · exact log40 hu hu2
    · refine wg_sub (we_var 0 rfl (we_int ⟨p, _, 0, 0, rfl, rfl, hM, rfl, ?_⟩))
      refine wss_cons (ws_ret (we_var 2 rfl (Lets.of ?_)))
      exact hc _ _ _ (Int.emod_nonneg _ (by omega)) (Int.emod_lt_of_pos _ (by omega)) (Int.le_refl _) (by omega)
  · refine wss_nil ?_
    refine wss_cons (ws_asg (we_addI (we_ix (we_var 0 rfl (we_int ⟨2, _, rfl, ixO hM at2, we_int ⟨_, _, rfl, rfl, ?_⟩⟩)))))
    refine wg_sub (we_var 0 rfl (we_int ⟨p, _, 2, 2, rfl, rfl, hM, rfl, ?_⟩))
    show WSs _ _ (mset M p (potL a c (d + 1))) _ _
    have hM2 : mset M p (potL a c (d + 1)) p = some (potL a c (d + 1)) := mset_same
    obtain ⟨q, hq, q1, q2⟩ := prime_at (i := (d + 1) % 5) (Int.emod_nonneg _ (by decide)) (Int.emod_lt_of_pos _ (by decide))
    refine wss_cons (ws_set 3 nd (we_ix (we_lst (wa_cons (we_int (wa_cons (we_int (wa_cons (we_int (wa_cons (we_int (wa_cons (we_int (wa_nil ⟨by show 5 ≤ sizeLine; decide, ?_⟩))))))))))))))
    refine we_modI (we_intN (F.bn _ (by decide +kernel)) (we_ix (we_var 0 rfl (we_int ⟨2, _, rfl, ixO hM2 at2, .inl ⟨_, rfl, we_int ⟨_, _, rfl, rfl, by decide, _, _, rfl, ixL hq, ?_⟩⟩⟩))))
    obtain ⟨s1, s2⟩ := sq_le (d := d + 1) (by omega) (by omega)
    refine wss_cons (ws_set 4 nd (we_modI (we_intN (F.bn _ (by decide +kernel)) (we_powI (we_intN (F.bn _ (by decide +kernel)) (we_addI (we_addI (we_ix (we_var 0 rfl (we_int ⟨1, _, rfl, ixO hM2 at1, ?_⟩))))))))))
    refine we_mulS (we_mulS (we_int (we_ix (we_var 0 rfl (we_int ⟨2, _, rfl, ixO hM2 at2, _, _, rfl, rfl, .inl ⟨by decide, by decide⟩, we_ix (we_var 0 rfl (we_int ⟨2, _, rfl, ixO hM2 at2, _, _, rfl, rfl, .inr ⟨by omega, by omega⟩, _, _, rfl, rfl, ?_⟩))⟩)))))
    refine we_int ⟨_, _, rfl, rfl, .inl ⟨_, rfl, we_int ⟨_, _, rfl, rfl, ⟨by decide, by decide, ?_⟩, .inl ⟨_, rfl, we_var 3 rfl ⟨_, _, rfl, rfl, by omega, ?_⟩⟩⟩⟩⟩
    · omega
    generalize hm : ((c + 100343 * (d + 1) * (d + 1) + 71) ^ (3 : Int).toNat) % q = m
    have m0 : 0 ≤ m := by rw [← hm]; exact Int.emod_nonneg _ (by omega)
    have m1 : m < q := by rw [← hm]; exact Int.emod_lt_of_pos _ (by omega)
    refine wss_cons (ws_set 4 nd (we_modI (we_intN (F.bn _ (by decide +kernel)) (we_mulS (we_var 4 rfl (we_addI (we_modI (we_intN (F.bn _ (by decide +kernel)) (we_var 4 rfl (.inl ⟨_, rfl, we_int ⟨_, _, rfl, rfl, by decide, ?_⟩⟩))))))))))
    refine we_mulS (we_int (we_ix (we_var 0 rfl (we_int ⟨2, _, rfl, ixO hM2 at2, _, _, rfl, rfl, .inl ⟨by decide, by decide⟩, _, _, rfl, rfl, _, _, rfl, rfl, .inl ⟨by omega, by omega⟩, .inl ⟨_, rfl, we_int ⟨_, _, rfl, rfl, by decide, ?_⟩⟩⟩))))
    refine wss_cons (ws_ret (we_modI (we_intN (F.bn _ (by decide +kernel)) (we_divI (we_var 4 rfl (we_int ⟨_, _, rfl, rfl, ⟨by decide, by decide⟩, .inl ⟨_, rfl, we_var 1 rfl ⟨_, _, rfl, rfl, by omega, Lets.of ?_⟩⟩⟩))))))
    exact hc _ _ _ (Int.emod_nonneg _ (by omega)) (Int.emod_lt_of_pos _ (by omega)) (by omega) (by omega)
end
end W
namespace DL
open PySem PySem.Spec PyProof.Rows L2 SlX
section
variable {P : Program} {w : World} {K : PySem.W.Frag} {mg : Str → Option Value} {base : Heap} {x qual : Str} {st : Stmt} {N ps : List Str} {j k n : Nat} {c : Con} {dd : List D} {C : Addr} {m : Str} {f p : Addr}
theorem Md.sm (D : Md K C m qual st f) (cl : SCls K C) (me : Meth K C m f) (S : FnScope N ps (defScope st))
    (hb : ∀ (kV doc pm : Value) (an : Option Addr) (cdv ct : Value) (us : List Value), us.length = ps.length → bindArgs (PySem.W.fnOf m qual (defArgs st) (defBody st) (defScope st) .none kV doc pm an cdv ct) ⟨us, []⟩ = pure (ps.zip us))
    (h : BodyOk P w K mg base qual st N ps.length k c) : Mg P w K mg base C m (k + 1) ps.length c := by
  obtain ⟨fd, F⟩ := D.ex
  exact ⟨cl, f, fd, ps, fn_ok F S (h f), me, F.bindsN hb⟩
end
end DL
namespace DL
open PySem PySem.Spec PyProof.Rows L2
abbrev prP (q : Int × Int) : PyData := .tuple [.int q.1, .int q.2]
abbrev prD (q : Int × Int) : D := .tup [.int q.1, .int q.2]
section
variable {X : Cx} {ρ : Rho} {M : Mp} {Φ : D → Mp → Prop} {Θ : Bool → Mp → Prop} {a b e o : Expr} {es : List Expr} {pos p apos : Pos}
theorem we_dict0 (h : Φ (.dK []) M) : WE X ρ M (.Dict [] [] pos) Φ := .mk fun σ H Q en w k => eOf pe_dnewK fun p hp => k.new w hp (.dK upd_same (w.fresh hp) .nil) h
end
end DL
namespace W
open PySem PySem.Spec PyProof.Rows L2 DL SX PL SlX
section
variable {P : Program} {w : World} {K : PySem.W.Frag} {mg : Str → Option Value} {base : Heap} {C R U V : Addr}
def cOf : Con := fun ds M Φ => ∃ p xs a c d, ds = [.ob p, .lst xs] ∧ xs ≠ [] ∧ xs.length ≤ 1000000 ∧ M p = some (potL a c d) ∧ cOk c ∧ 0 ≤ d ∧ d < 100000 ∧ ∀ x a' d', x ∈ xs → d ≤ d' → d' ≤ d + 1 → Φ x (mset M p (potL a' c d'))
theorem ok_of (F : Fx w K mg) (F1 : Fc P w K mg base "_law_take" [] 1 2 cTake) : BodyOk P w K mg base "_law_of" s__law_of ["_law_pot_here", "_law_some"] 2 1 cOf := by
  intro f cdv A outer s H E hr ds M Φ hl hc
  obtain ⟨p, xs, a, c, d, rfl, hx, hx2, hM, co, d0, d1, hc⟩ := hc
  have hpos : 0 < xs.length := List.length_pos_iff.mpr hx
  refine wss_cons (ws_ret (we_ix (we_var 1 rfl (we_call F1 (hr.mono (by decide)) (wa_cons (we_var 0 rfl (wa_cons (we_len (F.bn _ (by decide +kernel)) (we_var 1 rfl ⟨_, lenL, wa_nil ⟨rfl, p, _, a, c, d, rfl, by omega, ?_, hM, co, d0, d1, ?_⟩⟩)))))))))
  · have : (1000000 : Int) ≤ 10 ^ 40 := by decide +kernel
    omega
  · intro r a' d' r0 r1 h1 h2
    obtain ⟨n, rfl⟩ := Int.eq_ofNat_of_zero_le r0
    have hn : n < xs.length := by omega
    exact ⟨_, _, rfl, ixL (atI_nat (List.getElem?_eq_getElem hn)), Lets.of (hc _ _ _ (List.getElem_mem hn) h1 h2)⟩
/-- the script -/
abbrev scrD (ns : List Int) : D := .rol (ns.map D.int)
theorem bb (c : Bool) : -(2 ^ 64) < (if c = true then (1 : Int) else 0) ∧ (if c = true then (1 : Int) else 0) < 2 ^ 64 := by cases c <;> decide
theorem sz3P (a b c : D) : ([a, b, c] : List D).length ≤ sizeLine := by show 3 ≤ sizeLine; decide
def cPotH : Con := fun ds M Φ => ∃ ns pl, ds = [scrD ns, .int (pl : Nat)] ∧ pl ≤ 1000 ∧ ∀ q a c, M q = none → cOk c → Φ (.ob q) (mset M q (potL a c 0))
abbrev nPotH : List Str := ["_law_script", "_law_k", "_law_cell", "_law_own", "_law_small"]
theorem ok_potH (F : Fx w K mg) : BodyOk P w K mg base "_law_pot" s__law_pot nPotH 2 0 cPotH := by
  intro f cdv A outer s H E hr ds M Φ hl hc
  obtain ⟨ns, pl, rfl, hpl, hc⟩ := hc
  have nd : nPotH.Nodup := by decide +kernel
  have rest : ∀ cell : Int, WSs (bx P w K mg base nPotH "_law_pot" (defScope s__law_pot) f cdv A outer s H E) [some (scrD ns), some (.int (pl : Nat)), some (.int cell), none, none] M ((defBody s__law_pot).drop 1) { nx := fun _ M' => Φ .non M', rt := Lets Φ } := fun cell => by
    refine wss_cons (ws_set 3 nd (we_mulS (we_modI (we_intN (F.bn _ (by decide +kernel)) (we_abs (F.bn _ (by decide +kernel)) (we_var 2 rfl ⟨_, rfl, .inl ⟨_, rfl, we_powW (we_powI (we_int (we_int ⟨_, _, rfl, rfl, ⟨by decide, by decide, by decide⟩, we_int ⟨_, _, rfl, rfl, ⟨by decide, by decide +kernel⟩, _, _, rfl, rfl, by decide +kernel, ?_⟩⟩)))⟩⟩))))))
    refine we_intN (F.bn _ (by decide +kernel)) (we_geI (we_abs (F.bn _ (by decide +kernel)) (we_var 2 rfl ⟨_, rfl, we_powI (we_int (we_int ⟨_, _, rfl, rfl, ⟨by decide, by decide, by decide⟩, _, _, rfl, rfl, .inr ⟨_, rfl, _, _, rfl, rfl, .inr ⟨?_, ?_⟩, ?_⟩⟩))⟩)))
    · exact (bb _).1
    · exact (bb _).2
    refine wss_cons (ws_set 4 nd (we_modI (we_intN (F.bn _ (by decide +kernel)) (we_var 2 rfl (.inl ⟨_, rfl, we_int ⟨_, _, rfl, rfl, by decide, ?_⟩⟩)))))
    have b0 : 0 ≤ cell % 2305843009213693951 := Int.emod_nonneg _ (by decide)
    have b1 : cell % 2305843009213693951 < 2305843009213693951 := Int.emod_lt_of_pos _ (by decide)
    refine wss_cons (ws_ret (we_lstM (wa_cons (we_var 3 rfl (wa_cons (we_modI (we_intN (F.bn _ (by decide +kernel)) (we_addI (we_addI (we_mulS (we_var 4 rfl (we_int ⟨_, _, rfl, rfl, .inl ⟨by omega, by omega⟩, we_mulS (we_mulS (we_int (we_var 1 rfl ⟨_, _, rfl, rfl, .inl ⟨by decide, by decide⟩, we_var 1 rfl ⟨_, _, rfl, rfl, .inr ⟨by omega, by omega⟩, _, _, rfl, rfl, we_int ⟨_, _, rfl, rfl, .inl ⟨_, rfl, we_int ⟨_, _, rfl, rfl, by decide, wa_cons (we_int (wa_nil ⟨sz3P _ _ _, fun q hq => Lets.of ?_⟩))⟩⟩⟩⟩⟩)))⟩))))))))))))
    exact hc q _ _ hq ⟨Int.emod_nonneg _ (by decide), Int.emod_lt_of_pos _ (by decide)⟩
  refine wss_cons (ws_set 2 nd (we_if (wt_ltI (we_var 1 rfl (we_len (F.bn _ (by decide +kernel)) (we_var 0 rfl ⟨_, lenR, _, _, rfl, rfl, ?_⟩))))))
  refine ite_dec (fun h => ?_) fun h => ?_
  · rw [List.length_map] at h
    have hq : (ns.map D.int)[pl]? = some (.int ns[pl]) := by rw [List.getElem?_map, List.getElem?_eq_getElem (by omega)]; rfl
    exact we_ix (we_var 0 rfl (we_var 1 rfl ⟨_, _, rfl, ixR (atI_nat hq), rest _⟩))
  · exact we_addI (we_mulS (we_int (we_var 1 rfl ⟨_, _, rfl, rfl, .inl ⟨by decide, by decide⟩, we_int ⟨_, _, rfl, rfl, rest _⟩⟩)))
end
end W
namespace DL
open PySem PySem.Spec PyProof.Rows L2
section
variable {P : Program} {w : World} {A : Around} {E : Value → Shared → Prop} {s : Shared}
def NoCls (P : Program) (w : World) (n : Nat) (s : Shared) (v : Value) : Prop := ∀ (A : Around) (E : Value → Shared → Prop) (Q : Bool → Shared → Prop), Q false s → wpAny (model P w) A (ofAClassStatement n v) Q E s
def SomeB (P : Program) (w : World) (n : Nat) (s : Shared) (v : Value) : Prop := ∀ (A : Around) (E : Value → Shared → Prop) (Q : Bool → Shared → Prop), (∀ b, Q b s) → wpAny (model P w) A (hashByValue n v) Q E s
theorem NoCls.tup {n m : Nat} {a : Addr} {o : Obj} {vs : Array Value} (ho : s.heap.get? a = some o) (hc : o.cls = .type "tuple") (hd : o.data = .seq vs m) (hv : ∀ v ∈ vs.toList, NoCls P w n s v) : NoCls P w (n + 1) s (.ref a) := fun A E Q q => by
  have ty : s.TypeIs (.ref a) "tuple" := ⟨o, ho, hc⟩
  unfold ofAClassStatement
  refine wpAny_bind (wpAny_typeOf ty ?_)
  dsimp only
  simp only [show (("tuple" : String) == "tuple") = true from by decide, if_true, Bool.not_true, Bool.false_eq_true, if_false]
  try refine wpAny_bind (wpAny_pure ?_)
  try simp only [Bool.not_true, Bool.false_eq_true, if_false]
  refine show wpAny _ _ (seqItems? (.ref a) >>= _) _ _ s from wpAny_bind (wpAny_seqItems ho hd ?_)
  dsimp only
  refine wpAny_bind (show wpAny _ _ (forIn vs _ _) _ _ s from ?_)
  rw [← Array.forIn_toList]
  refine wpAny_forIn_list _ (fun us r z => (r.1 = none ∧ z = s) ∧ ∀ u ∈ us, NoCls P w n s u) _ (fun u us r z hz => ?_) (fun r z hz => ?_) _ _ ⟨⟨rfl, rfl⟩, hv⟩
  · obtain ⟨⟨hr, rfl⟩, hu⟩ := hz
    refine wpAny_bind (hu u List.mem_cons_self _ _ _ ?_)
    simp only [Bool.false_eq_true, if_false]
    exact wpAny_pure ⟨⟨rfl, rfl⟩, fun y hy => hu y (List.mem_cons_of_mem _ hy)⟩
  · obtain ⟨r1, r2⟩ := r
    obtain ⟨⟨hr, rfl⟩, -⟩ := hz
    dsimp only at hr
    subst hr
    exact wpAny_pure q
theorem SomeB.tup {n m : Nat} {a : Addr} {o : Obj} {vs : Array Value} (ho : s.heap.get? a = some o) (hc : o.cls = .type "tuple") (hd : o.data = .seq vs m) (hv : ∀ v ∈ vs.toList, SomeB P w n s v) : SomeB P w (n + 1) s (.ref a) := fun A E Q q => by
  have ty : s.TypeIs (.ref a) "tuple" := ⟨o, ho, hc⟩
  unfold hashByValue
  refine wpAny_bind (wpAny_specialOf ty F.slot_tuple_hash.lookup ?_)
  refine show wpAny _ _ (seqItems? (.ref a) >>= _) _ _ s from wpAny_bind (wpAny_seqItems ho hd ?_)
  refine wpAny_bind (show wpAny _ _ (forIn vs _ _) _ _ s from ?_)
  rw [← Array.forIn_toList]
  refine wpAny_forIn_list _ (fun us r z => (r.1 = none ∧ z = s) ∧ ∀ u ∈ us, SomeB P w n s u) _ (fun u us r z hz => ?_) (fun r z hz => ?_) _ _ ⟨⟨rfl, rfl⟩, hv⟩
  · obtain ⟨⟨hr, rfl⟩, hu⟩ := hz
    refine wpAny_bind (hu u List.mem_cons_self _ _ _ fun b => ?_)
    cases b
    · simp only [Bool.not_false, if_true]
      exact wpAny_pure (wpAny_pure (q false))
    · simp only [Bool.not_true, Bool.false_eq_true, if_false]
      exact wpAny_pure ⟨⟨rfl, rfl⟩, fun y hy => hu y (List.mem_cons_of_mem _ hy)⟩
  · obtain ⟨r1, r2⟩ := r
    obtain ⟨⟨hr, rfl⟩, -⟩ := hz
    dsimp only at hr
    subst hr
    exact wpAny_pure (q true)
mutual
theorem noCls_key : ∀ (k : NestedKey) (v : Value) (n : Nat) (s : Shared), NestedIs s.heap k v → k.depth ≤ n → NoCls P w n s v
  | .none, _, n, s, x, _ => by cases x; intro A E Q q; cases n <;> exact wpAny_pure q
  | .num i, _, n, s, x, _ => by cases x <;> (intro A E Q q; cases n <;> exact wpAny_pure q)
  | .text y, _, n, s, x, _ => by cases x; intro A E Q q; cases n <;> exact wpAny_pure q
  | .tup ks, _, n, s, x, hn => by
    cases x with
    | tup h1 h2 h3 h4 =>
      rw [NestedKey.depth] at hn
      obtain ⟨n, rfl⟩ : ∃ m, n = m + 1 := ⟨n - 1, by omega⟩
      exact .tup h1 h2 h3 (noCls_keys ks _ n s h4 (by omega))
theorem noCls_keys : ∀ (ks : List NestedKey) (vs : List Value) (n : Nat) (s : Shared), NestedAll s.heap ks vs → NestedKey.depthAll ks ≤ n → ∀ v ∈ vs, NoCls P w n s v
  | [], _, n, s, x, _ => by cases x; intro v hv; cases hv
  | k :: ks, _, n, s, x, hn => by
    cases x with
    | cons h1 h2 =>
      rw [NestedKey.depthAll] at hn
      intro v hv
      rcases List.mem_cons.mp hv with rfl | hv
      · exact noCls_key k _ n s h1 (by omega)
      · exact noCls_keys ks _ n s h2 (by omega) v hv
end
mutual
theorem someB_key : ∀ (k : NestedKey) (v : Value) (n : Nat) (s : Shared), NestedIs s.heap k v → k.depth ≤ n → SomeB P w n s v
  | .none, _, n, s, x, _ => by cases x; intro A E Q q; cases n <;> exact wpAny_pure (q _)
  | .num i, _, n, s, x, _ => by cases x <;> (intro A E Q q; cases n <;> exact wpAny_pure (q _))
  | .text y, _, n, s, x, _ => by cases x; intro A E Q q; cases n <;> exact wpAny_pure (q _)
  | .tup ks, _, n, s, x, hn => by
    cases x with
    | tup h1 h2 h3 h4 =>
      rw [NestedKey.depth] at hn
      obtain ⟨n, rfl⟩ : ∃ m, n = m + 1 := ⟨n - 1, by omega⟩
      exact .tup h1 h2 h3 (someB_keys ks _ n s h4 (by omega))
theorem someB_keys : ∀ (ks : List NestedKey) (vs : List Value) (n : Nat) (s : Shared), NestedAll s.heap ks vs → NestedKey.depthAll ks ≤ n → ∀ v ∈ vs, SomeB P w n s v
  | [], _, n, s, x, _ => by cases x; intro v hv; cases hv
  | k :: ks, _, n, s, x, hn => by
    cases x with
    | cons h1 h2 =>
      rw [NestedKey.depthAll] at hn
      intro v hv
      rcases List.mem_cons.mp hv with rfl | hv
      · exact someB_key k _ n s h1 (by omega)
      · exact someB_keys ks _ n s h2 (by omega) v hv
end
/-- a search among keys shows nothing -/
theorem seen_nk {k : NestedKey} {b : Addr} {Q : Bool → Shared → Prop} (hk : (nestedKind P w).is s.heap k b) {ys : List Value} (hy : ∀ y ∈ ys, ∃ j c, y = Value.ref c ∧ (nestedKind P w).is s.heap j c) (q : Q false s) : wpAny (model P w) A (searchCouldBeSeen (.ref b) ys) Q E s := by
  unfold searchCouldBeSeen
  refine wpAny_bind ?_
  refine wpAny_forIn_list _ (fun us r z => (r.1 = none ∧ z = s) ∧ ∀ y ∈ us, ∃ j c, y = Value.ref c ∧ (nestedKind P w).is s.heap j c) _ (fun u us r z hz => ?_) (fun r z hz => ?_) _ _ ⟨⟨rfl, rfl⟩, hy⟩
  · obtain ⟨⟨hr, rfl⟩, hu⟩ := hz
    obtain ⟨j, c, rfl, hc⟩ := hu u List.mem_cons_self
    have on : ∀ y ∈ us, ∃ j c, y = Value.ref c ∧ (nestedKind P w).is z.heap j c := fun y h => hu y (List.mem_cons_of_mem _ h)
    dsimp only
    by_cases same : (b == c || (carriedByValue (.ref b) && carriedByValue (.ref c))) = true
    · exact wp_if_pos same (wpAny_pure ⟨⟨rfl, rfl⟩, on⟩)
    · refine wp_if_neg same (wpAny_bind ((nestedKind P w).quiet hk ?_))
      simp only [Bool.not_true, Bool.false_eq_true, if_false]
      refine wpAny_bind ((nestedKind P w).quiet hc ?_)
      simp only [Bool.not_true, Bool.false_eq_true, if_false]
      refine wpAny_bind (noCls_key _ _ 8 z hk.1 hk.2 _ _ _ ?_)
      simp only [Bool.false_eq_true, if_false]
      refine wpAny_bind (noCls_key _ _ 8 z hc.1 hc.2 _ _ _ ?_)
      simp only [Bool.false_eq_true, if_false]
      exact wpAny_pure ⟨⟨rfl, rfl⟩, on⟩
  · obtain ⟨r1, r2⟩ := r
    obtain ⟨⟨hr, rfl⟩, -⟩ := hz
    dsimp only at hr
    subst hr
    exact wpAny_pure q
def rowN (w : World) (p : NestedKey × Addr) : Int × Value := (p.1.hash w, .ref p.2)
def hashN (w : World) (p : NestedKey × Addr) : Int := p.1.hash w
/-- at a stands a set whose members are the keys of L -/
structure SetNk (P : Program) (w : World) (h : Heap) (a : Addr) (L : List (NestedKey × Addr)) (es : Array (Int × Value)) (ep : Nat) (t : SetTable) : Prop where
  obj : ∃ o, h.get? a = some o ∧ o.ExactSet ∧ o.data = .set es ep t
  its : es.toList = L.map (rowN w)
  tb : TabOk t (L.map (hashN w))
  uk : (L.map Prod.fst).Nodup
  ky : ∀ p ∈ L, (nestedKind P w).is h p.1 p.2
  ld : w.params.followText "set-order" = true ∨ t.led = true
  rm : 5 * L.length < 3 * t.mask
  fw : L.length < 64
variable {a : Addr} {L : List (NestedKey × Addr)} {es : Array (Int × Value)} {ep : Nat} {t : SetTable}
theorem its_len (h : es.toList = L.map (rowN w)) : es.size = L.length := by rw [← Array.length_toList, h, List.length_map]
theorem fits_of (h1 : t.place.size = es.size) (h2 : t.dummies = #[]) (h3 : es.size ≤ t.mask) : t.fits es.size = true := by
  unfold SetTable.fits SetTable.fill
  rw [h2, h1, Bool.and_eq_true]
  exact ⟨beq_self_eq_true _, decide_eq_true (show es.size + 0 ≤ t.mask by omega)⟩
theorem SetNk.pls (R : SetNk P w s.heap a L es ep t) : t.place.size = L.length := by
  have z := R.tb.sz
  rwa [List.length_map] at z
theorem SetNk.fit (R : SetNk P w s.heap a L es ep t) : t.fits es.size = true := by
  have z := its_len R.its
  have r := R.rm
  exact fits_of (by rw [R.pls, z]) R.tb.dm (by omega)
theorem SetNk.at_ (R : SetNk P w s.heap a L es ep t) {i : Nat} {p : NestedKey × Addr} (h : L[i]? = some p) : es[i]? = some (rowN w p) := by
  rw [← Array.getElem?_toList, R.its, List.getElem?_map, h, Option.map_some]
theorem nth_dm {m : Nat} : ∀ (n : Nat) (p : SetTable.Probe), p.dummy = none → (nth m p n).dummy = none
  | 0, _, h => h
  | n + 1, p, h => nth_dm n (adv m p) (by unfold adv; split <;> exact h)
/-- the first state of a search for a key -/
abbrev fromN (w : World) (m : Nat) (k : NestedKey) : SetTable.Probe := runAt m (SetTable.bits (k.hash w) % (m + 1)) (SetTable.bits (k.hash w))
/-- the search, from its d-th step on; K is the first empty slot of the way -/
theorem SetNk.look (R : SetNk P w s.heap a L es ep t) {x : Addr} {k : NestedKey} (hx : (nestedKind P w).is s.heap k x) (hu : A.units + 8 < cLine) {K : Nat} (hK : K < 10 * SetTable.turns t.mask) (free : way t.mask (k.hash w) K ∉ t.place.toList)
    (full : ∀ c, c < K → way t.mask (k.hash w) c ∈ t.place.toList) {Q : SetFound → Shared → Prop} (yes : k ∈ L.map Prod.fst → Q (.there none) s) (no : k ∉ L.map Prod.fst → Q (.free (way t.mask (k.hash w) K) false) s) (f : Nat) :
    ∀ (d : Nat) (st : Option SetTable.Probe), st.getD (t.probeStart (k.hash w)) = nth t.mask (fromN w t.mask k) d → d ≤ K → K < f + d →
      (∀ (i : Nat) (p : NestedKey × Addr), L[i]? = some p → p.1 = k → ∃ c, d ≤ c ∧ c < K ∧ t.place.toList[i]? = some (way t.mask (k.hash w) c)) → wpAny (model P w) A (setSearchFrom a (.ref x) (k.hash w) true f st) Q E s := by
  induction f with
  | zero => intro d st _ h1 h2; omega
  | succ f ih =>
    intro d st hst hd hf back
    obtain ⟨o, ho, hex, hdt⟩ := R.obj
    rw [setSearchFrom_succ]
    refine wpAny_bind (wpAny_setState_of ho hdt R.fit ?_)
    dsimp only
    refine wp_if_neg (show ¬ t.gaveWay = true by unfold SetTable.gaveWay; rw [mask_odd R.tb.mok]; decide) ?_
    try refine wpAny_bind (wpAny_pure ?_)
    have on : ∀ q, nth t.mask (nth t.mask (fromN w t.mask k) d) q = nth t.mask (fromN w t.mask k) (d + q) := fun q => (nth_add t.mask d _ q).symm
    have onj : ∀ q, (nth t.mask (nth t.mask (fromN w t.mask k) d) q).j = way t.mask (k.hash w) (d + q) := fun q => by rw [on]
    have hz : ∀ (i : Nat) (p : NestedKey × Addr), L[i]? = some p → (fun i => (es[i]?.map (·.1)).getD 0) i = p.1.hash w := fun i p hp => by
      show (es[i]?.map (·.1)).getD 0 = _
      rw [R.at_ hp]; rfl
    rcases go_spec t R.tb.ris R.tb.dm (fun i => (es[i]?.map (·.1)).getD 0) (k.hash w) (10 * SetTable.turns t.mask) (K - d) (nth t.mask (fromN w t.mask k) d) (nth_dm d _ rfl) (by omega)
        (fun q hq => by rw [onj]; exact full (d + q) (by omega)) (by rw [onj, show d + (K - d) = K from by omega]; exact free) with ⟨q, i, hq, hi, heq, none, pr⟩ | ⟨none, pr⟩
    · have pr1 : t.probe (fun i => (es[i]?.map (·.1)).getD 0) (k.hash w) (st.getD (t.probeStart (k.hash w))) = some (.candidate (way t.mask (k.hash w) (d + q)) i (nth t.mask (fromN w t.mask k) (d + (q + 1)))) := by
        rw [hst, ← onj, ← on]
        exact pr
      rw [pr1]
      dsimp only
      rw [onj] at hi
      have hil : i < L.length := by
        have u1 := (List.getElem?_eq_some_iff.mp hi).1
        rw [Array.length_toList, R.pls] at u1
        exact u1
      obtain ⟨p, hp⟩ : ∃ p, L[i]? = some p := ⟨_, List.getElem?_eq_getElem hil⟩
      have pin := List.mem_of_getElem? hp
      have live := slot_live R.tb.ris hi
      have tail : wpAny (model P w) A (searchRest a (.ref x) (k.hash w) true f es t (way t.mask (k.hash w) (d + q)) i (nth t.mask (fromN w t.mask k) (d + (q + 1)))) Q E s := by
        unfold searchRest
        rw [R.at_ hp]
        dsimp only [rowN]
        refine wpAny_bind (wpAny_holding ((nestedKind P w).eqBool hu (R.ky p pin) hx ?_))
        refine wpAny_bind (wpAny_setState_of ho hdt R.fit ?_)
        dsimp only
        by_cases e : p.1 = k
        · exact wp_if_pos (by rw [decide_eq_true e]; rfl) (wpAny_pure (yes (List.mem_map.mpr ⟨p, pin, e⟩)))
        · refine wp_if_neg (by rw [decide_eq_false e]; decide) ?_
          try refine wpAny_bind (wpAny_pure ?_)
          rw [sameMem]
          dsimp only
          simp only [if_true, live, R.at_ hp, rowN]
          refine wpAny_bind (wpAny_isSame_ref_self (wpAny_bind (wpAny_pure ?_)))
          simp only [if_true]
          refine wp_if_neg (by rw [decide_eq_false e]; decide) (ih (d + (q + 1)) _ rfl (by omega) (by omega) fun i2 p2 h2 e2 => ?_)
          obtain ⟨c, c1, c2, c3⟩ := back i2 p2 h2 e2
          refine ⟨c, ?_, c2, c3⟩
          by_cases lt : c < d + q
          · refine absurd ((hz i2 p2 h2).trans (by rw [e2])) (none (c - d) i2 (by omega) ?_)
            rw [onj, show d + (c - d) = c from by omega]; exact c3
          · by_cases eq : c = d + q
            · subst eq
              have l2 := slot_live R.tb.ris c3
              rw [live] at l2
              injection l2 with l2
              rw [← l2, hp] at h2
              cases h2
              exact absurd e2 e
            · omega
      by_cases hl : t.led = true
      · refine wp_if_neg (by rw [hl]; decide) ?_
        try refine wpAny_bind (wpAny_pure ?_)
        exact tail
      · refine wp_if_pos (by simp [hl]) (wpAny_bind (seen_nk hx (fun y hy => ?_) ?_))
        · obtain ⟨e, he, rfl⟩ := List.mem_map.mp hy
          have he2 : e ∈ es.toList := by
            have := (show e ∈ es ∧ e.1 = k.hash w by simpa using he).1
            simpa using this
          rw [R.its] at he2
          obtain ⟨p2, hp2, rfl⟩ := List.mem_map.mp he2
          exact ⟨p2.1, p2.2, rfl, R.ky p2 hp2⟩
        · refine wp_if_neg (by decide) ?_
          try refine wpAny_bind (wpAny_pure ?_)
          exact tail
    · have pr1 : t.probe (fun i => (es[i]?.map (·.1)).getD 0) (k.hash w) (st.getD (t.probeStart (k.hash w))) = some (.empty (way t.mask (k.hash w) K) .none) := by
        have e : way t.mask (k.hash w) K = (nth t.mask (nth t.mask (fromN w t.mask k) d) (K - d)).j := by rw [onj, show d + (K - d) = K from by omega]
        rw [hst, e]
        exact pr
      rw [pr1]
      dsimp only
      refine wpAny_pure (no fun hm => ?_)
      obtain ⟨p, hp, e⟩ := List.mem_map.mp hm
      obtain ⟨i, hi⟩ := List.mem_iff_getElem?.mp hp
      obtain ⟨c, c1, c2, c3⟩ := back i p hi e
      refine absurd ((hz i p hi).trans (by rw [e])) (none (c - d) i (by omega) ?_)
      rw [onj, show d + (c - d) = c from by omega]; exact c3
/-- the whole search -/
theorem SetNk.find (R : SetNk P w s.heap a L es ep t) {x : Addr} {k : NestedKey} (hx : (nestedKind P w).is s.heap k x) (hu : A.units + 8 < cLine) {Q : SetFound → Shared → Prop} (yes : k ∈ L.map Prod.fst → Q (.there none) s)
    (no : ∀ K, k ∉ L.map Prod.fst → way t.mask (k.hash w) K ∉ t.place.toList → (∀ c, c < K → way t.mask (k.hash w) c ∈ t.place.toList) → Q (.free (way t.mask (k.hash w) K) false) s) : wpAny (model P w) A (setSearch a (.ref x) (k.hash w) true) Q E s := by
  have r := R.rm
  obtain ⟨K, hK, free, full⟩ := R.tb.first (by rw [List.length_map]; omega) (k.hash w)
  have big : 10 * SetTable.turns t.mask < 100000 := by
    unfold SetTable.turns
    rcases R.tb.mok with e | e | e <;> omega
  unfold setSearch
  refine R.look hx hu hK free full yes (fun hn => no K hn free full) 100000 0 none rfl (Nat.zero_le _) (by omega) fun i p hp e => ?_
  have hi : (L.map (hashN w))[i]? = some (k.hash w) := by rw [List.getElem?_map, hp, ← e]; rfl
  have il : i < t.place.toList.length := by
    rw [Array.length_toList, R.pls]
    exact (List.getElem?_eq_some_iff.mp hp).1
  obtain ⟨c, hc, e2⟩ := R.tb.before free hi (List.getElem?_eq_getElem il)
  exact ⟨c, Nat.zero_le _, hc, by rw [List.getElem?_eq_getElem il, e2]⟩
end
end DL
namespace DL
open PySem PySem.Spec PyProof.Rows L2
theorem range_all {α : Type} : ∀ l : List α, (List.range l.length).filterMap (fun i => l[i]?) = l
  | [] => rfl
  | x :: l => by
    rw [List.length_cons, List.range_succ_eq_map, List.filterMap_cons_some (f := fun i => (x :: l)[i]?) (a := 0) (b := x) rfl, List.filterMap_map]
    exact congrArg (x :: ·) (range_all l)
section
variable {P : Program} {w : World} {A : Around} {E : Value → Shared → Prop} {s : Shared} {a : Addr} {L : List (NestedKey × Addr)} {es : Array (Int × Value)} {ep : Nat} {t : SetTable}
theorem nk_same {h h' : Heap} {k : NestedKey} {b : Addr} {o : Obj} (x : (nestedKind P w).is h k b) (ho : h.get? a = some o) (hd : o.data = .set es ep t) (hs : Heap.SameBut a h h') : (nestedKind P w).is h' k b :=
  nestedKind_stays.stays (fun c u vs n hc hv => (hs.2 c fun e => by subst e; rw [ho] at hc; cases hc; rw [hd] at hv; cases hv).trans hc) x
theorem nk_keep {h h' : Heap} {k : NestedKey} {b : Addr} (x : (nestedKind P w).is h k b) (hk : ∀ c o, h.get? c = some o → h'.get? c = some o) : (nestedKind P w).is h' k b := nestedKind_stays.stays (fun c u _ _ hc _ => hk c u hc) x
theorem order_nk {order : Array Nat} (h : es.toList = L.map (rowN w)) (hp : order.toList.Perm (List.range L.length)) :
    ∃ L2 : List (NestedKey × Addr), (order.filterMap (es[·]?)).toList = L2.map (rowN w) ∧ L2.Perm L ∧ L2.map (hashN w) = order.toList.map fun i => (es.map (·.1)).getD i 0 := by
  have one : ∀ i, es[i]? = (L[i]?).map (rowN w) := fun i => by rw [← Array.getElem?_toList, h, List.getElem?_map]
  refine ⟨order.toList.filterMap fun i => L[i]?, ?_, ?_, ?_⟩
  · rw [Array.toList_filterMap, List.map_filterMap]
    simp only [one]
  · have q := hp.filterMap fun i => L[i]?
    rwa [range_all] at q
  · have lt : ∀ i ∈ order.toList, i < L.length := fun i hi => List.mem_range.mp (hp.mem_iff.mp hi)
    generalize order.toList = l at lt
    induction l with
    | nil => rfl
    | cons i l ih =>
      have li := lt i List.mem_cons_self
      rw [List.filterMap_cons_some (List.getElem?_eq_getElem li), List.map_cons, List.map_cons, ih fun j hj => lt j (List.mem_cons_of_mem _ hj)]
      have e : (es.map (·.1))[i]? = some (hashN w L[i]) := by rw [Array.getElem?_map, one, List.getElem?_eq_getElem li]; rfl
      rw [Array.getD_eq_getD_getElem?, e]; rfl
/-- the table is laid anew -/
theorem nk_relay {o : Obj} {n M : Nat} {Q : Unit → Shared → Prop} (ho : s.heap.get? a = some o) (hex : o.ExactSet) (hd : o.data = .set es ep t) (hi : es.toList = L.map (rowN w)) (hp : t.place.size = es.size) (hm : t.dummies = #[]) (hf : es.size ≤ t.mask)
    (uk : (L.map Prod.fst).Nodup) (ky : ∀ p ∈ L, (nestedKind P w).is s.heap p.1 p.2) (ld : w.params.followText "set-order" = true ∨ t.led = true) (fw : L.length < 64) (hn : SetTable.sizeAbove n - 1 = M) (hM : MaskOk M) (h128 : SetTable.sizeAbove n ≤ 128) (rm : 5 * L.length < 3 * M)
    (q : ∀ h' L' es' ep' t', Heap.SameBut a s.heap h' → SetNk P w h' a L' es' ep' t' → L'.Perm L → Q () { s with heap := h' }) : wpAny (model P w) A (setRelay a n) Q E s := by
  have len := its_len hi
  obtain ⟨t2, order, e1, e2, T, e3, e4, -, -⟩ := relaid_ok t (hs := es.map (·.1)) (wanted := n) hn hM (by rw [Array.size_map, len]; omega)
  rw [Array.size_map, len] at e2
  obtain ⟨L2, r1, r2, r3⟩ := order_nk hi e2
  rw [← r3] at T
  have len2 := (its_len r1).trans r2.length_eq
  rw [setRelay_eq]
  refine wpAny_bind (wpAny_setState_of ho hd (fits_of hp hm hf) ?_)
  dsimp only
  refine wp_if_neg (by rw [sizeLine_eq]; omega) ?_
  try refine wpAny_bind (wpAny_pure ?_)
  rw [e1]
  dsimp only
  refine wpAny_bind (wp_if_neg (by rw [len2, len]; simp) ?_)
  try refine wpAny_bind (wpAny_pure ?_)
  refine wpAny_pure ?_
  dsimp only
  refine wpAny_storeSet_of ho hd ?_ (by rw [len2, sizeLine_eq]; omega)
  have sb : Heap.SameBut a s.heap (s.heap.update a (Obj.putSet (order.filterMap (es[·]?)) t2)) := Heap.SameBut.update ..
  exact q _ L2 _ (ep + 1) t2 sb ⟨⟨_, store_at ho hd, ⟨hex.1, hex.2.1, hex.2.2⟩, rfl⟩, r1, T, (r2.map Prod.fst).nodup_iff.mpr uk, fun p hp => nk_same (ky p (r2.mem_iff.mp hp)) ho hd sb, by rw [e4]; exact ld, by rw [r2.length_eq, e3]; exact rm, by rw [r2.length_eq]; exact fw⟩ r2
theorem TabOk.plainOff {t : SetTable} {hs : List Int} (T : TabOk t hs) : TabOk { t with plain := false } hs := ⟨T.ris, T.dm, T.sz, T.mok, T.bd, T.reach⟩
theorem cut_perm {α : Type} (l : List α) (n : Nat) (x : α) : (l.take n ++ x :: l.drop n).Perm (x :: l) := by
  have z := List.perm_middle (a := x) (l₁ := l.take n) (l₂ := l.drop n)
  rwa [List.take_append_drop] at z
/-- one more key -/
theorem SetNk.add (R : SetNk P w s.heap a L es ep t) {x : Addr} {k : NestedKey} (hx : (nestedKind P w).is s.heap k x) (hu : A.units + 8 < cLine) (few : L.length + 1 < 64) {Q : Bool → Shared → Prop}
    (q : ∀ b h' L' es' ep' t', Heap.SameBut a s.heap h' → SetNk P w h' a L' es' ep' t' → (k ∈ L.map Prod.fst ∧ L' = L ∨ L'.Perm ((k, x) :: L)) → Q b { s with heap := h' }) : wpAny (model P w) A (setAddHashed a (.ref x) (k.hash w)) Q E s := by
  obtain ⟨o, ho, hex, hd⟩ := R.obj
  have len := its_len R.its
  have rm := R.rm
  unfold setAddHashed
  refine wpAny_holding ?_
  rw [show (100000 : Nat) = 99999 + 1 from rfl, setAddHashedIn_succ]
  refine wpAny_bind (wpAny_setState_of ho hd R.fit ?_)
  dsimp only
  refine wp_if_neg (by simp [byScan, Value.scannable]) ?_
  try refine wpAny_bind (wpAny_pure ?_)
  refine wpAny_bind (R.find hx hu (fun hm => ?_) fun K hm free full => ?_)
  · dsimp only
    exact wpAny_pure (q false _ L es ep t (Heap.SameBut.refl a s.heap) R (.inl ⟨hm, rfl⟩))
  · dsimp only
    refine wpAny_bind (wpAny_setState_of ho hd R.fit ?_)
    dsimp only
    obtain ⟨z1, z2, T, z4, z5, -, -, -, -⟩ := R.tb.put free full
    generalize t.put (way t.mask (k.hash w) K) = pt at z1 T z4 z5 ⊢
    obtain ⟨t1, n⟩ := pt
    dsimp only at z1 T z4 z5 ⊢
    subst z1
    rw [List.length_map] at z2
    refine (fun fin => ?_ : (∀ (b : Bool) (t2 : SetTable), t2 = (if b = true then t1 else { t1 with plain := false }) → wpAny (model P w) A (do
        storeSet a (SetTable.insertAt es (SetTable.below t.place (way t.mask (k.hash w) K)) (k.hash w, Value.ref x)) t2
        if (!false && t2.tooFull) = true then do
            setRelay a (SetTable.grown (es.size + 1))
            pure true
          else pure true) Q E s) → _) ?_
    · by_cases pl : t1.plain = true
      · exact wp_if_pos pl (wpAny_bind (someB_key _ _ 8 s hx.1 hx.2 _ _ _ fun b => fin b _ rfl))
      · exact wp_if_neg pl (wpAny_bind (wpAny_pure (fin true _ rfl)))
    intro b t2 ht2
    have T2 : TabOk t2 ((L.map (hashN w)).take (SetTable.below t.place (way t.mask (k.hash w) K)) ++ k.hash w :: (L.map (hashN w)).drop (SetTable.below t.place (way t.mask (k.hash w) K))) := by
      rw [ht2]; split
      · exact T
      · exact TabOk.plainOff T
    have y4 : t2.mask = t.mask := by rw [ht2]; split <;> exact z4
    have y5 : t2.led = t.led := by rw [ht2]; split <;> exact z5
    have e1 : (SetTable.insertAt es (SetTable.below t.place (way t.mask (k.hash w) K)) (k.hash w, Value.ref x)).toList = (L.take (SetTable.below t.place (way t.mask (k.hash w) K)) ++ (k, x) :: L.drop (SetTable.below t.place (way t.mask (k.hash w) K))).map (rowN w) := by
      rw [SetTable.toList_insertAt, R.its, List.map_append, List.map_cons, List.map_take, List.map_drop]; rfl
    have pm := cut_perm L (SetTable.below t.place (way t.mask (k.hash w) K)) (k, x)
    rw [show (L.map (hashN w)).take (SetTable.below t.place (way t.mask (k.hash w) K)) ++ k.hash w :: (L.map (hashN w)).drop (SetTable.below t.place (way t.mask (k.hash w) K)) = (L.take (SetTable.below t.place (way t.mask (k.hash w) K)) ++ (k, x) :: L.drop (SetTable.below t.place (way t.mask (k.hash w) K))).map (hashN w) by
      rw [List.map_append, List.map_cons, List.map_take, List.map_drop]; rfl] at T2
    generalize L.take (SetTable.below t.place (way t.mask (k.hash w) K)) ++ (k, x) :: L.drop (SetTable.below t.place (way t.mask (k.hash w) K)) = L1 at e1 pm T2
    have len1 := pm.length_eq
    rw [List.length_cons] at len1
    have size1 := its_len e1
    generalize SetTable.insertAt es (SetTable.below t.place (way t.mask (k.hash w) K)) (k.hash w, Value.ref x) = es1 at e1 size1 ⊢
    have uk1 : (L1.map Prod.fst).Nodup := (pm.map Prod.fst).nodup_iff.mpr (List.nodup_cons.mpr ⟨hm, R.uk⟩)
    refine wpAny_bind (wpAny_storeSet_of ho hd ?_ (by rw [size1, sizeLine_eq]; omega))
    have sb : Heap.SameBut a s.heap (s.heap.update a (Obj.putSet es1 t2)) := Heap.SameBut.update ..
    have ho1 := store_at (es' := es1) (t' := t2) ho hd
    generalize s.heap.update a (Obj.putSet es1 t2) = h1 at sb ho1 ⊢
    have ky1 : ∀ p ∈ L1, (nestedKind P w).is h1 p.1 p.2 := fun p hp => by
      rcases List.mem_cons.mp (pm.mem_iff.mp hp) with rfl | hp
      · exact nk_same hx ho hd sb
      · exact nk_same (R.ky p hp) ho hd sb
    have ld1 : w.params.followText "set-order" = true ∨ t2.led = true := by rw [y5]; exact R.ld
    have pls := T2.sz
    rw [List.length_map] at pls
    have full2 : t2.tooFull = decide ((L.length + 1) * 5 ≥ t.mask * 3) := by
      unfold SetTable.tooFull SetTable.fill
      rw [T2.dm, pls, y4, len1]; rfl
    by_cases hf : t2.tooFull = true
    · have ge : (L.length + 1) * 5 ≥ t.mask * 3 := by rw [full2] at hf; exact of_decide_eq_true hf
      have two : t.mask = 7 ∧ L.length = 4 ∨ t.mask = 31 ∧ L.length = 18 := by
        rcases R.tb.mok with e | e | e <;> rw [e] at ge rm <;> omega
      have go : ∀ M, SetTable.sizeAbove (SetTable.grown (L.length + 1)) - 1 = M → MaskOk M → SetTable.sizeAbove (SetTable.grown (L.length + 1)) ≤ 128 → 5 * (L.length + 1) < 3 * M → ∀ (g : Unit → Sem Bool), (∀ z, g () = pure z ∨ True) → (∀ s' , Q true s' → wpAny (model P w) A (g ()) Q E s') →
          wpAny (model P w) A (setRelay a (SetTable.grown (L.length + 1)) >>= g) Q E { s with heap := h1 } := fun M m1 m2 m3 m4 g _ hg => by
        refine wpAny_bind (nk_relay (s := { s with heap := h1 }) ho1 ⟨hex.1, hex.2.1, hex.2.2⟩ rfl e1 (by rw [pls, size1]) T2.dm (by rw [size1, y4]; rcases two with ⟨u1, u2⟩ | ⟨u1, u2⟩ <;> omega) uk1 ky1 ld1 (by omega) m1 m2 m3 (by omega) fun h2 L2 es2 ep2 t2' sb2 R2 pm2 => ?_)
        exact hg _ (q true h2 L2 es2 ep2 t2' (sb.trans sb2) R2 (.inr (pm2.trans pm)))
      rw [len]
      simp only [hf, Bool.not_false, Bool.and_true, Bool.true_and, if_true]
      rcases two with ⟨-, u2⟩ | ⟨-, u2⟩
      · exact go 31 (by rw [u2, size_20]) (.inr (.inl rfl)) (by rw [u2, size_20]; decide) (by omega) _ (fun _ => .inr trivial) fun s' h => wpAny_pure h
      · exact go 127 (by rw [u2, size_76]) (.inr (.inr rfl)) (by rw [u2, size_76]; decide) (by omega) _ (fun _ => .inr trivial) fun s' h => wpAny_pure h
    · have lt : ¬ (L.length + 1) * 5 ≥ t.mask * 3 := fun z => hf (by rw [full2]; exact decide_eq_true z)
      have done := q true h1 L1 es1 (ep + 1) t2 sb ⟨⟨_, ho1, ⟨hex.1, hex.2.1, hex.2.2⟩, rfl⟩, e1, T2, uk1, ky1, ld1, by rw [len1, y4]; omega, by omega⟩ (.inr pm)
      simp only [hf, Bool.not_false, Bool.and_false, Bool.true_and, Bool.false_eq_true, if_false]
      exact wpAny_pure done
end
end DL
namespace DL
open PySem PySem.Spec PyProof.Rows L2
section
variable {P : Program} {w : World} {A : Around} {E : Value → Shared → Prop} {s : Shared}
abbrev hp0 (w : World) (s : Shared) : Heap := s.heap.push (emptySet w)
theorem hp0_new : (hp0 w s).get? s.heap.objs.size = some (emptySet w) := Heap.get?_push_size _ rfl
theorem hp0_keep {b : Addr} {o : Obj} (h : s.heap.get? b = some o) : (hp0 w s).get? b = some o := Heap.get?_push_of_some _ h
theorem hp0_size : (hp0 w s).objs.size = s.heap.objs.size + 1 := Heap.size_push ..
theorem heap_none {h : Heap} {b : Addr} (hb : h.objs.size ≤ b) : h.get? b = none := by
  rcases e : h.get? b with _ | o
  · rfl
  · exact absurd (Heap.lt_size e) (Nat.not_lt.mpr hb)
end
theorem nd_leG {α : Type} [DecidableEq α] : ∀ (l m : List α), l.Nodup → (∀ x ∈ l, x ∈ m) → l.length ≤ m.length
  | [], _, _, _ => Nat.zero_le _
  | x :: l, m, nd, sub => by
    obtain ⟨hx, nd'⟩ := List.nodup_cons.mp nd
    have hm := sub x List.mem_cons_self
    have le := nd_leG l (m.erase x) nd' fun y hy => (List.mem_erase_of_ne fun e => hx (by rw [← e]; exact hy)).mpr (sub y (List.mem_cons_of_mem _ hy))
    have := List.length_erase_of_mem hm
    have := List.length_pos_of_mem hm
    simp only [List.length_cons]
    omega
end DL
namespace DL
open PySem PySem.Spec PyProof.Rows L2
/-- what the set holds behind the first i of ks -/
structure GotN (ks : List (NestedKey × Addr)) (i : Nat) (L : List (NestedKey × Addr)) : Prop where
  src : ∀ p ∈ L, p ∈ ks.take i
  inn : ∀ p ∈ ks.take i, p.1 ∈ L.map Prod.fst
  cnt : L.length ≤ i
theorem GotN.next {ks L L' : List (NestedKey × Addr)} {i : Nat} {x : NestedKey × Addr} (g : GotN ks i L) (h : ks[i]? = some x) (c : x.1 ∈ L.map Prod.fst ∧ L' = L ∨ L'.Perm (x :: L)) : GotN ks (i + 1) L' := by
  have e : ks.take (i + 1) = ks.take i ++ [x] := by rw [List.take_succ, h]; rfl
  rcases c with ⟨c, rfl⟩ | pm
  · refine ⟨fun p hp => by rw [e]; exact List.mem_append_left _ (g.src p hp), fun p hp => ?_, Nat.le_succ_of_le g.cnt⟩
    rw [e] at hp
    rcases List.mem_append.mp hp with hp | hp
    · exact g.inn p hp
    · rw [List.mem_singleton.mp hp]; exact c
  · refine ⟨fun p hp => ?_, fun p hp => ?_, by rw [pm.length_eq]; exact Nat.succ_le_succ g.cnt⟩
    · rw [e]
      rcases List.mem_cons.mp (pm.mem_iff.mp hp) with rfl | hp
      · exact List.mem_append_right _ List.mem_cons_self
      · exact List.mem_append_left _ (g.src p hp)
    · rw [e] at hp
      refine (pm.map Prod.fst).mem_iff.mpr ?_
      rcases List.mem_append.mp hp with hp | hp
      · exact List.mem_cons_of_mem _ (g.inn p hp)
      · rw [List.mem_singleton.mp hp]; exact List.mem_cons_self
section
variable {P : Program} {w : World} {A : Around} {E : Value → Shared → Prop} {s : Shared}
theorem SetNk.keep {h h' : Heap} {a : Addr} {L : List (NestedKey × Addr)} {es : Array (Int × Value)} {ep : Nat} {t : SetTable} (R : SetNk P w h a L es ep t) (k : ∀ o, h.get? a = some o → h'.get? a = some o) (ky : ∀ p ∈ L, (nestedKind P w).is h' p.1 p.2) : SetNk P w h' a L es ep t :=
  let ⟨o, ho, r⟩ := R.obj
  { R with obj := ⟨o, k o ho, r⟩, ky := ky }
theorem SetNk.none {h : Heap} {a : Addr} (ho : h.get? a = some (emptySet w)) : SetNk P w h a [] #[] 0 (.fresh 0 0 (!w.params.followText "set-order")) where
  obj := ⟨_, ho, ⟨rfl, rfl, rfl⟩, rfl⟩
  its := rfl
  tb := ⟨.nil, rfl, rfl, .inl rfl, fun x hx => (nomatch hx), fun i h j hi => by simp at hi⟩
  uk := .nil
  ky := fun p hp => nomatch hp
  ld := by
    show _ ∨ (!w.params.followText "set-order") = true
    cases w.params.followText "set-order"
    · exact .inr rfl
    · exact .inl rfl
  rm := show 5 * 0 < 3 * 7 by decide
  fw := by decide
/-- all that a walk gives is put in -/
theorem setNk_fill {I S : Addr} {fp wr : List Addr} {G : Array GenState → Array GenState → Prop} {n : Nat} {Pv : Nat → Value → Prop} {St : Nat → Shared → Prop} {R : Result → Shared → Prop} (W : WalksS P w A.in1 I fp wr G n Pv St) (out : S ∉ fp) (ks : List (NestedKey × Addr)) (len : n = ks.length) (few : ks.length < 64)
    (val : ∀ i v, Pv i v → ∃ p, ks[i]? = some p ∧ v = .ref p.2) (h0 : Heap) (hk : ∀ p ∈ ks, (nestedKind P w).is h0 p.1 p.2) (new : h0.get? S = none) (neww : ∀ b ∈ wr, h0.get? b = none) (hu : A.in1.units + 8 < cLine) :
    ∀ (m i : Nat) (s : Shared), n = i + m → St i s → (∀ b o, h0.get? b = some o → s.heap.get? b = some o) → (∃ L es ep t, SetNk P w s.heap S L es ep t ∧ GotN ks i L) →
      (∀ s' L es ep t, Moved (S :: wr) G s s' → SetNk P w s'.heap S L es ep t → GotN ks n L → (∀ b o, h0.get? b = some o → s'.heap.get? b = some o) → R (.ok (.ret .none)) s') →
      codeAny (model P w) A (.builtin "set.update.loop" ⟨[.ref S, .ref I], []⟩) R s := by
  have outw : S ∉ wr := fun h => out (W.sub _ h)
  have up : ∀ b ∈ wr, b ∈ S :: wr := fun b hb => List.mem_cons_of_mem _ hb
  have old : ∀ {s s' : Shared}, Moved wr G s s' → (∀ b o, h0.get? b = some o → s.heap.get? b = some o) → ∀ b o, h0.get? b = some o → s'.heap.get? b = some o := fun mv k b o e => mv.heap b o (fun hb => by rw [neww b hb] at e; cases e) (k b o e)
  have stay : ∀ {z : Heap} {L : List (NestedKey × Addr)} {i : Nat}, GotN ks i L → (∀ b o, h0.get? b = some o → z.get? b = some o) → ∀ p ∈ L, (nestedKind P w).is z p.1 p.2 := fun g k p hp => nk_keep (hk p (List.mem_of_mem_take (g.src p hp))) k
  intro m
  induction m with
  | zero =>
    intro i s hi st k0 ⟨L, es, ep, t, R0, g⟩ hR
    obtain rfl : n = i := hi
    refine codeAny_builtin F.entry_set_update_loop ?_
    rw [Around.under_plainId F.plain_set_update_loop _]
    refine show wpAny _ A.in1 (pyNext (.ref I) >>= _) _ _ s from wpAny_bind (W.done s _ _ st fun s2 mv => ?_)
    exact show wpAny _ A.in1 (ret Value.none) _ _ s2 from wpAny_pure (hR s2 L es ep t (mv.mono up) (R0.keep (fun o e => mv.heap S o outw e) (stay g (old mv k0))) g (old mv k0))
  | succ m ih =>
    intro i s hi st k0 ⟨L, es, ep, t, R0, g⟩ hR
    refine codeAny_builtin F.entry_set_update_loop ?_
    rw [Around.under_plainId F.plain_set_update_loop _]
    refine show wpAny _ A.in1 (pyNext (.ref I) >>= _) _ _ s from wpAny_bind (W.item i s _ _ (by omega) st fun v s2 hv st2 mv => ?_)
    obtain ⟨p, hp, rfl⟩ := val i v hv
    have k1 := old mv k0
    have R1 : SetNk P w s2.heap S L es ep t := R0.keep (fun o e => mv.heap S o outw e) (stay g k1)
    have hx := nk_keep (hk p (List.mem_of_getElem? hp)) k1
    refine show wpAny _ A.in1 (holding [Value.ref p.2] (setAdd S (.ref p.2)) >>= _) _ _ s2 from wpAny_bind (wpAny_holding ?_)
    unfold setAdd
    refine wpAny_holding (wpAny_bind ((nestedKind P w).pyHash hu hx ?_))
    refine SetNk.add (s := { s2 with toks := s2.toks + (nestedKind P w).draws p.1 }) R1 hx hu (by have := g.cnt; omega) fun b h2 L2 es2 ep2 t2 sb R2 c => ?_
    have k2 : ∀ b o, h0.get? b = some o → h2.get? b = some o := fun b o e => (sb.2 b fun z => by rw [z, new] at e; cases e).trans (k1 b o e)
    refine wpAny_pure ⟨plainId_quiet F.plain_set_update_loop _, ih (i + 1) _ (by omega) (W.frame _ s2 _ _ st2 (Nat.le_add_right _ _) fun b hb o e => ?_) k2 ⟨L2, es2, ep2, t2, R2, g.next hp c⟩ fun s3 L3 es3 ep3 t3 mv3 R3 g3 k3 => hR s3 L3 es3 ep3 t3 (Moved.trans W.gtrans ((mv.mono up).then_heap (Nat.le_add_right _ _) fun b o hb e => ?_) mv3) R3 g3 k3⟩
    · exact (sb.2 b fun z => out (by rw [← z]; exact hb)).trans e
    · exact (sb.2 b fun z => hb (by rw [z]; exact List.mem_cons_self)).trans e
/-- what stands there when the set has been made -/
def MadeN (P : Program) (w : World) (s : Shared) (ks : List (NestedKey × Addr)) (s2 : Shared) : Prop :=
  ∃ h2 tk L es ep t, s2 = { s with heap := h2, toks := tk } ∧ SetNk P w h2 s.heap.objs.size L es ep t ∧ GotN ks ks.length L ∧ ∀ b o, s.heap.get? b = some o → h2.get? b = some o
theorem set_of_nks {l : Addr} {its : Array Value} (ks : List (NestedKey × Addr)) {Q : Value → Shared → Prop} (hh : A.handled = none) (hl : s.heap.IsList l its) (hit : its.toList = ks.map fun p => Value.ref p.2) (hk : ∀ p ∈ ks, (nestedKind P w).is s.heap p.1 p.2) (few : ks.length < 64) (hu : A.units + 16 < cLine)
    (q : ∀ s2, MadeN P w s ks s2 → Q (.ref s.heap.objs.size) s2) : wpAny (model P w) A (call (.type "set") [.ref l]) Q E s := by
  have size : its.size = ks.length := by rw [← Array.length_toList, hit, List.length_map]
  obtain ⟨c0, t0, m0⟩ := F.called_set.mro
  have m1 := F.called_set.made
  have m2 := F.called_set.sub
  refine wpAny_call (codeAny_of_tree (show wpAny _ _ (callAny (.type "set") _) _ _ _ from wpAny_pure ⟨Code.quiet_builtin _ (by decide +kernel), codeAny_builtin F.entry_type_call ?_⟩))
  rw [Around.under_plain (weight_type_call_type "set" [.ref l] []) rfl]
  have m3 := F.called_set.notType
  have m4 := F.called_set.canCreate
  have m5 := PySem.F.typeCall_set_1 (.ref l)
  repeat (any_goals (first | assumption | wp_step))
  refine codeAny_mono (code_set_led1 (.ref l) (E := E) (Q₁ := fun ob s1 => ob = .ref s.heap.objs.size ∧ s1 = { s with heap := hp0 w s }) ⟨rfl, rfl⟩) fun r s1 hr => ?_
  cases r with
  | error e => exact hr
  | ok fl =>
    cases fl with
    | ret ob =>
      obtain ⟨rfl, rfl⟩ := hr
      have isS : Shared.TypeIs { s with heap := hp0 w s } (.ref s.heap.objs.size) "set" := ⟨_, hp0_new, rfl⟩
      have i1 := F.called_set.init.lookup
      have i2 := F.called_set.init.bind (.ref s.heap.objs.size)
      repeat (any_goals (first | assumption | wp_step))
      refine codeAny_mono (codeAny_call_builtin (R := wants (fun r s2 => r = .none ∧ MadeN P w s ks s2) E) F.called_set.init.plain F.entry_set_init (PySem.check_set_init_1 isS ?_)) fun r2 s2 hr2 => ?_
      · obtain ⟨ol, hol, hcl, nl, hdl⟩ := hl
        obtain ⟨c1, c2, c3, c4⟩ := ol
        simp only at hcl hdl
        subst hcl hdl
        have hol1 := hp0_keep (w := w) hol
        have j1 := PySem.F.sub_list_set
        have j2 := PySem.F.sub_list_frozenset
        have j3 : (Value.type "list" == Value.type "dict") = false := by decide
        have hl1 : (hp0 w s).IsList l its := ⟨_, hol1, rfl, nl, rfl⟩
        unfold Builtin.«set.__init__» noKeywords Builtin.Frozenset.updateFrom
        generalize hPI : pyIter = PI
        wp_walk
        subst hPI
        refine wpAny_pyIter_list hl1 (wpAny_bind (wpAny_runValue ?_))
        have ll : l < s.heap.objs.size := Heap.lt_size hol
        have ne1 : l ≠ (hp0 w s).objs.size := by rw [hp0_size]; exact Nat.ne_of_lt (Nat.lt_succ_of_lt ll)
        have ne2 : s.heap.objs.size ∉ [(hp0 w s).objs.size, l] := by
          rw [hp0_size]; simp only [List.mem_cons, List.not_mem_nil, or_false, not_or]; exact ⟨Nat.ne_of_lt (Nat.lt_succ_self _), Nat.ne_of_gt ll⟩
        have no3 : A.in1.in1.in1.handled = none := by simp [hh]
        have ref : ∀ (i : Nat) (v : Value), its[i]? = some v → ∃ p, ks[i]? = some p ∧ v = .ref p.2 := fun i v hv => by
          rw [← Array.getElem?_toList, hit, List.getElem?_map] at hv
          obtain ⟨p, h1, h2⟩ := Option.map_eq_some_iff.mp hv
          exact ⟨p, h1, h2.symm⟩
        have kp : ∀ b o, s.heap.get? b = some o → ((hp0 w s).push { cls := .type "list_iterator", data := .fields #[.ref l, .int 0 0] }).get? b = some o := fun b o e => Heap.get?_push_of_some _ (hp0_keep e)
        refine setNk_fill ((Walks.list no3 _ l ne1 its).toS) ne2 ks size few ref s.heap hk (heap_none (Nat.le_refl _)) (fun b hb => heap_none (by rw [List.mem_singleton.mp hb, hp0_size]; exact Nat.le_succ _)) (by simp only [Around.in1_units]; omega) its.size 0 _ (by omega)
          ⟨⟨_, Heap.get?_push_size _ rfl, rfl, rfl⟩, hl1.push _⟩ kp ⟨[], #[], 0, _, SetNk.none (Heap.get?_push_of_some _ hp0_new), ⟨fun p h => (nomatch h), fun p h => by simp at h, Nat.le_refl _⟩⟩ fun s3 L es ep t mv R3 g3 k3 => ?_
        obtain ⟨h3, g2, d2, tk2, os2⟩ := s3
        obtain ⟨e1, e2, e3⟩ : g2 = s.gens ∧ d2 = s.drawn ∧ os2 = s.os := ⟨mv.gens, mv.drawn, mv.os⟩
        subst e1 e2 e3
        rw [size] at g3
        exact wpAny_pure (show wpAny _ _ (ret Value.none) _ _ _ from wpAny_pure ⟨rfl, h3, tk2, L, es, ep, t, rfl, R3, g3, k3⟩)
      · cases r2 with
        | error e => exact hr2
        | ok fl2 =>
          cases fl2 with
          | ret r =>
            obtain ⟨rfl, hm⟩ := hr2
            repeat (any_goals (first | assumption | wp_step))
            exact q _ hm
          | _ => exact hr2.elim
    | _ => exact hr.elim
end
end DL
namespace DL
open PySem PySem.Spec PyProof.Rows L2 PySem.W
def encT (z : List Str) : PyData := .tuple (z.map .str)
def ltT (x y : List Str) : Bool := dataLt (encT x) (encT y)
def tkey (z : List Str) : NestedKey := .tup (z.map .text)
theorem toks_inj : ∀ x y : List Str, keyToksAll (x.map .str) = keyToksAll (y.map .str) → x = y
  | [], [], _ => rfl
  | [], _ :: _, h => by simp [keyToksAll] at h
  | _ :: _, [], h => by simp [keyToksAll] at h
  | a :: x, b :: y, h => by
    simp only [List.map_cons, keyToksAll, keyToks, List.cons_append, List.nil_append, List.cons.injEq, Sum.inr.injEq, true_and] at h
    rw [str_of_cps h.1, toks_inj x y h.2]
theorem encT_toks (z : List Str) : keyToks (encT z) = keyToksAll (z.map .str) := by unfold encT; rw [keyToks]
theorem ltT_irr (x : List Str) : ltT x x = false := (listOrd itemOrd).irrefl _
theorem ltT_tr {x y z : List Str} (h1 : ltT x y = true) (h2 : ltT y z = true) : ltT x z = true := (listOrd itemOrd).trans _ _ _ h1 h2
theorem ltT_tot {x y : List Str} (h1 : ltT x y = false) (h2 : ltT y x = false) : x = y := by
  have q : keyToks (encT x) = keyToks (encT y) := (listOrd itemOrd).total _ _ h1 h2
  rw [encT_toks, encT_toks] at q
  exact toks_inj x y q
theorem alike_strs : ∀ x y : List Str, alikeAll (x.map .str) (y.map .str) = true
  | [], _ => by simp [alikeAll]
  | _ :: _, [] => by simp [alikeAll]
  | a :: x, b :: y => by rw [List.map_cons, List.map_cons, alikeAll, alike_strs x y]; simp [alike]
theorem alikeT (x y : List Str) : alike (encT x) (encT y) = true := by unfold encT; rw [alike]; exact alike_strs x y
theorem depthT : ∀ x : List Str, PyData.depthAll (x.map .str) = 0
  | [] => by simp [PyData.depthAll]
  | a :: x => by rw [List.map_cons, PyData.depthAll, depthT x]; simp [PyData.depth]
theorem tdepth : ∀ x : List Str, NestedKey.depthAll (x.map .text) = 0
  | [] => by simp [NestedKey.depthAll]
  | a :: x => by rw [List.map_cons, NestedKey.depthAll, tdepth x]; simp [NestedKey.depth]
theorem tkey_inj {x y : List Str} (h : tkey x = tkey y) : x = y := by
  unfold tkey at h
  injection h with h
  exact (List.map_inj_right (f := NestedKey.text) fun a b e => by injection e).mp h
theorem textsN {h : Heap} : ∀ {z : List Str} {us : List Value}, Vals (z.map V.str) us → NestedAll h (z.map .text) us ∧ ReadsAll h us (z.map .str) []
  | [], _, .nil => ⟨.nil, .nil⟩
  | x :: z, _, .cons r t => by
    obtain ⟨tk, rfl⟩ := r
    have q := textsN (h := h) t
    exact ⟨.cons (.text _ _) q.1, .cons (.str _ _) q.2⟩
section
variable {X : Cx} {pins : List (Addr × Obj)} {σ : L2.St} {H : Hp} {s : Shared}
theorem textsAt (I : Inv X pins σ H s) {b : Addr} {z : List Str} (h : SqT X.K H b (z.map V.str)) : (nestedKind X.prog X.w).is s.heap (tkey z) b ∧ Reads s.heap (.ref b) (encT z) [] := by
  obtain ⟨its, r, ⟨o, ho, hc, n, hd⟩, _⟩ := I.tuple h
  have q := textsN (h := s.heap) r
  exact ⟨⟨.tup ho hc hd (by simpa using q.1), by rw [tkey, NestedKey.depth, tdepth]; omega⟩, .tuple ho hc hd (by simpa using q.2)⟩
end
theorem permMap {α β : Type} (f : α → β) : ∀ {l m : List β}, l.Perm m → ∀ {L : List α}, m = L.map f → ∃ L1 : List α, L1.Perm L ∧ l = L1.map f := by
  intro l m h
  induction h with
  | nil => intro L e; exact ⟨L, .refl _, e⟩
  | @cons x l m _ ih =>
    intro L e
    cases L with
    | nil => cases e
    | cons a L =>
      rw [List.map_cons] at e
      injection e with e1 e2
      obtain ⟨L1, h1, h2⟩ := ih e2
      exact ⟨a :: L1, h1.cons a, by rw [List.map_cons, e1, h2]⟩
  | swap x y l =>
    intro L e
    match L, e with
    | a :: b :: L, e =>
      simp only [List.map_cons, List.cons.injEq] at e
      exact ⟨b :: a :: L, .swap _ _ _, by simp [e.1, e.2.1, e.2.2]⟩
  | trans _ _ i1 i2 =>
    intro L e
    obtain ⟨L2, h1, h2⟩ := i2 e
    obtain ⟨L1, h3, h4⟩ := i1 h2
    exact ⟨L1, h3.trans h1, h4⟩
abbrev TA := List Str × Addr
def nkT (p : TA) : NestedKey × Addr := (tkey p.1, p.2)
section
variable {P : Program} {w : World} {A : Around} {E : Value → Shared → Prop} {s : Shared}
theorem sorted_nks {a : Addr} {L : List TA} {es : Array (Int × Value)} {ep : Nat} {t : SetTable} {Q : Value → Shared → Prop} (R : SetNk P w s.heap a (L.map nkT) es ep t) (hh : A.handled = none) (hu : A.units + 16 < cLine) (rd : ∀ p ∈ L, p.1 ≠ [] ∧ Reads s.heap (.ref p.2) (encT p.1) [])
    (q : ∀ s2 p (out : List Value) (c : Nat) (L2 : List TA), (∀ b o, s.heap.get? b = some o → s2.heap.get? b = some o) → s2.gens = s.gens → s2.os = s.os → s.heap.objs.size ≤ p → s2.heap.get? p = some (seqObj "list" out.toArray c) → out = L2.map (fun x => Value.ref x.2) → L2.Perm L →
      L2.Pairwise (fun x y => ltT y.1 x.1 = false) → Q (.ref p) s2) : wpAny (model P w) A (call (.builtin "sorted") [.ref a]) Q E s := by
  obtain ⟨o, ho, hex, hd⟩ := R.obj
  have size := its_len R.its
  have few := R.fw
  rw [List.length_map] at size few
  refine Calls.call_function_entry kind_sorted plain_sorted entry_sorted (args_sorted1 _) ?_
  unfold Builtin.«sorted»
  refine wpAny_bind (m := checkCount "sorted" 1 1 _) (wpAny_pure ?_)
  refine wpAny_bind (collect_set (A := A.in1) hh ⟨o, ho, hex.1, hd⟩ R.fit (by unfold scanBound; omega) R.tb.ris R.ld fun s1 vs k1 hz g1 o1 pm => ?_)
  have e0 : es.toList.map (·.2) = L.map fun x => Value.ref x.2 := by rw [R.its, List.map_map, List.map_map]; rfl
  rw [e0] at pm
  obtain ⟨L1, pm1, rfl⟩ := permMap (fun x : TA => Value.ref x.2) pm rfl
  have len1 : L1.length < 64 := by rw [pm1.length_eq]; exact few
  refine wpAny_bind (wpAny_newList ?_ (by rw [List.length_map, sizeLine_eq]; omega))
  have at1 : (s1.heap.push (seqObj "list" (L1.map fun x => Value.ref x.2).toArray 0)).get? s1.heap.objs.size = some (seqObj "list" (L1.map fun x => Value.ref x.2).toArray 0) := Heap.get?_push_size _ rfl
  have each : ∀ (R2 : Value → TA → Prop) (l : List TA), (∀ x ∈ l, R2 (.ref x.2) x) → EachIs R2 (l.map fun x => Value.ref x.2) l := fun R2 l => by
    induction l with
    | nil => intro _; exact .nil
    | cons x l ih => intro h; exact .cons (h x List.mem_cons_self) (ih fun y hy => h y (List.mem_cons_of_mem _ hy))
  have rd1 : ∀ x ∈ L1, Reads (s1.heap.push (seqObj "list" (L1.map fun x => Value.ref x.2).toArray 0)) (.ref x.2) (encT x.1) [] := fun x hx => PyProof.Rows.Reads.keeps (fun b u e => Heap.get?_push_of_some _ (k1 b u e)) (rd x (pm1.mem_iff.mp hx)).2
  refine wpAny_bind (wpAny_holding (list_sort_data (s := { s1 with heap := s1.heap.push (seqObj "list" (L1.map fun x => Value.ref x.2).toArray 0) }) (enc := fun x : TA => encT x.1) (R := fun v x => v = Value.ref x.2) (bs := L1) at1 (each _ L1 fun x _ => rfl)
    (each _ L1 fun x hx => ⟨[], rd1 x hx, fun h => nomatch h⟩) (AllAlike.of fun x y => alikeT _ _) (.inl fun d hd => ?_) (by rw [sizeLine_eq]; omega) (fun x hx => ?_) fun out h1 h2 => ?_))
  · obtain ⟨x, hx, rfl⟩ := List.mem_map.mp hd
    have ne := (rd x (pm1.mem_iff.mp hx)).1
    cases hz : x.1 with
    | nil => exact absurd hz ne
    | cons c z => exact ⟨.str c, z.map .str, by rw [encT]; rfl⟩
  · rw [encT, PyData.depth, depthT]
    simp only [Around.in1_units]
    omega
  · have eo : ∀ {o : List Value} {l : List TA}, EachIs (fun v x => v = Value.ref x.2) o l → o = l.map fun x => Value.ref x.2 := by
      intro o l h
      induction h with
      | nil => rfl
      | cons h t ih => rw [List.map_cons, h, ih]
    obtain ⟨c, hc⟩ := sortedHeap_at (vs := L1.map fun x => Value.ref x.2) (out := out.toArray) at1
    refine wpAny_pure ⟨_, rfl, q _ s1.heap.objs.size out c _ (fun b u e => ?_) g1 o1 hz hc (eo h2) ((List.mergeSort_perm _ _).trans pm1) ?_⟩
    · have k := k1 b u e
      have lt := Heap.lt_size k
      show (sortedHeap _ s1.heap.objs.size _ _).get? b = some u
      rw [sortedHeap_old (Nat.ne_of_lt lt) (by rw [size_push']; exact Nat.lt_succ_of_lt lt)]
      exact Heap.get?_push_of_some _ k
    · have tl := sortLe_total (listOrd itemOrd) false fun x : TA => keyToks (encT x.1)
      refine List.Pairwise.imp (fun {x y} h => ?_) (List.pairwise_mergeSort (le := dataLe false fun x : TA => encT x.1) (fun x y z => tl.trans x y z) (fun x y => by have z := tl.total x y; show (dataLe false (fun x : TA => encT x.1) x y || dataLe false (fun x : TA => encT x.1) y x) = true; rw [Bool.or_eq_true]; exact z) L1)
      have h : (!(ltT y.1 x.1)) = true := h
      simpa using h
end
end DL
namespace DL
open PySem PySem.Spec PyProof.Rows L2 PySem.W
/-- at a stands a set, all but its members themselves -/
def SetN0 (w : World) (h : Heap) (a : Addr) (L : List (NestedKey × Addr)) : Prop := ∃ (es : Array (Int × Value)) (ep : Nat) (t : SetTable), (∃ o, h.get? a = some o ∧ o.ExactSet ∧ o.data = .set es ep t) ∧ es.toList = L.map (rowN w) ∧ TabOk t (L.map (hashN w)) ∧ (L.map Prod.fst).Nodup ∧
  (w.params.followText "set-order" = true ∨ t.led = true) ∧ 5 * L.length < 3 * t.mask ∧ L.length < 64
def SetNO (w : World) (a : Addr) (L : List TA) : HO := .ext fun h => SetN0 w h a (L.map nkT)
theorem SetNk.bare {P : Program} {w : World} {h : Heap} {a : Addr} {L : List (NestedKey × Addr)} {es : Array (Int × Value)} {ep : Nat} {t : SetTable} (R : SetNk P w h a L es ep t) : SetN0 w h a L := ⟨es, ep, t, R.obj, R.its, R.tb, R.uk, R.ld, R.rm, R.fw⟩
theorem SetN0.all {P : Program} {w : World} {h : Heap} {a : Addr} {L : List (NestedKey × Addr)} (R : SetN0 w h a L) (ky : ∀ p ∈ L, (nestedKind P w).is h p.1 p.2) : ∃ es ep t, SetNk P w h a L es ep t :=
  let ⟨es, ep, t, h1, h2, h3, h4, h5, h6, h7⟩ := R
  ⟨es, ep, t, ⟨h1, h2, h3, h4, ky, h5, h6, h7⟩⟩
theorem setNO_new {P : Program} {w : World} {H : Hp} {h : Heap} {a : Addr} {L : List TA} (R : SetN0 w h a (L.map nkT)) : ObjOk P w H h a (SetNO w a L) := by
  have ⟨_, _, _, ⟨o, ho, _⟩, _⟩ := R
  refine ⟨R, ⟨o, ho⟩, fun h1 h2 p k => ?_⟩
  obtain ⟨es, ep, t, ⟨o, ho, r⟩, q⟩ := (show SetN0 w h1 a (L.map nkT) from p)
  exact ⟨es, ep, t, ⟨o, k o ho, r⟩, q⟩
theorem pull_map {α β : Type} (f : α → β) (ks : List α) : ∀ {m : List β}, (∀ x ∈ m, x ∈ ks.map f) → ∃ L : List α, m = L.map f ∧ ∀ p ∈ L, p ∈ ks
  | [], _ => ⟨[], rfl, fun p h => nomatch h⟩
  | x :: m, h => by
    obtain ⟨p, hp, rfl⟩ := List.mem_map.mp (h x List.mem_cons_self)
    obtain ⟨L, rfl, hL⟩ := pull_map f ks fun y hy => h y (List.mem_cons_of_mem _ hy)
    exact ⟨p :: L, rfl, fun y hy => (List.mem_cons.mp hy).elim (fun e => e ▸ hp) (hL y)⟩
section
variable {X : Cx}
def rSetNk (K : PySem.W.Frag) (w : World) : List V → Hp → VK → Prop := fun xs H Q => ∃ (l : Addr) (ks : List TA), xs = [V.ref l] ∧ SqL K H l (ks.map fun p => V.ref p.2) ∧ (∀ p ∈ ks, SqT K H p.2 (p.1.map V.str)) ∧ ks.length < 64 ∧
  ∀ a L, H a = none → (∀ p ∈ L, p ∈ ks) → (∀ p ∈ ks, p.1 ∈ L.map Prod.fst) → (L.map Prod.fst).Nodup → L.length < 64 → Q (.ref a) (upd H a (SetNO w a L))
theorem refs_val : ∀ {ks : List TA} {us : List Value}, Vals (ks.map fun p => V.ref p.2) us → us = ks.map fun p => Value.ref p.2
  | [], _, .nil => rfl
  | p :: ks, _, .cons r t => by
    cases r
    rw [refs_val t]; rfl
theorem val_refs : ∀ (ks : List TA), Vals (ks.map fun p => V.ref p.2) (ks.map fun p => Value.ref p.2)
  | [] => .nil
  | p :: ks => .cons rfl (val_refs ks)
theorem cr_setN (hc : X.calm = true) (hu : X.A.units + 64 < cLine) : CallR X (.type "set") (rSetNk X.K X.w) := by
  intro pins s σ H xs us Q I r h
  obtain ⟨l, ks, rfl, hl, hk, few, q⟩ := h
  rw [Vals.ref1 r]
  obtain ⟨its, rv, pl, hz⟩ := I.list hl
  refine set_of_nks (ks.map nkT) (I.ok.hd hc) pl.isList (by rw [show its.toArray.toList = its by simp, refs_val rv, List.map_map]; rfl) (fun p hp => ?_) (by rw [List.length_map]; exact few) (by omega) fun s2 hm => ?_
  · obtain ⟨y, hy, rfl⟩ := List.mem_map.mp hp
    exact (textsAt I (hk y hy)).1
  · obtain ⟨h2, tk, Lk, es, ep, t, rfl, R, g, k⟩ := hm
    obtain ⟨L, rfl, hL⟩ := pull_map nkT ks fun x hx => List.mem_of_mem_take (g.src x hx)
    have uk := R.uk
    have few2 := R.fw
    rw [List.map_map] at uk
    rw [List.length_map] at few2
    refine ⟨.ref s.heap.objs.size, _, I.laid (t' := tk) k (Nat.le_refl _) (setNO_new R.bare), rfl, q _ L (I.hok.fresh (Nat.le_refl _)) hL (fun p hp => ?_) ?_ few2⟩
    · have z := g.inn (nkT p) (by rw [List.take_length]; exact List.mem_map_of_mem hp)
      rw [List.map_map] at z
      obtain ⟨y, hy, e⟩ := List.mem_map.mp z
      exact List.mem_map.mpr ⟨y, hy, tkey_inj e⟩
    · refine List.pairwise_map.mpr ((List.pairwise_map.mp uk).imp fun {x y} h e => h ?_)
      show tkey x.1 = tkey y.1
      rw [e]
def rSortN (K : PySem.W.Frag) (w : World) : List V → Hp → VK → Prop := fun vs H Q => ∃ (a : Addr) (L : List TA), vs = [V.ref a] ∧ H a = some (SetNO w a L) ∧ (∀ p ∈ L, SqT K H p.2 (p.1.map V.str) ∧ p.1 ≠ []) ∧
  ∀ (L2 : List TA) (p : Addr), L2.Perm L → L2.length < 64 → L2.Pairwise (fun x y => ltT y.1 x.1 = false) → H p = none → Q (.ref p) (upd H p (.lst (L2.map fun x => V.ref x.2)))
theorem cr_sortN (hc : X.calm = true) (hu : X.A.units + 64 < cLine) : CallR X (.builtin "sorted") (rSortN X.K X.w) := by
  intro pins s σ H vs us Q I r h
  obtain ⟨a, L, rfl, ha, hk, q⟩ := h
  have R0 : SetN0 X.w s.heap a (L.map nkT) := (I.hok a _ ha).1
  obtain ⟨es, ep, t, R⟩ := R0.all (P := X.prog) fun p hp => by
    obtain ⟨y, hy, rfl⟩ := List.mem_map.mp hp
    exact (textsAt I (hk y hy).1).1
  have few := R.fw
  rw [List.length_map] at few
  rw [Vals.ref1 r]
  refine sorted_nks R (I.ok.hd hc) (by omega) (fun p hp => ⟨(hk p hp).2, (textsAt I (hk p hp).1).2⟩) fun s2 p out c L2 k g o hp hg e pm pw => ?_
  have len : L2.length < 64 := by rw [pm.length_eq]; exact few
  have hn : H p = none := I.hok.fresh hp
  have J : Inv X pins σ (upd H p (.lst (L2.map fun x => V.ref x.2))) { s with heap := s2.heap, gens := s2.gens, drawn := s2.drawn, toks := s2.toks } :=
    I.call (ch := []) (Un.laid k hp hn) (I.hok.laid k hp ⟨by rw [List.length_map, sizeLine_eq]; omega, out, c, by rw [e]; exact val_refs L2, hg⟩) (by rw [g]; exact I.bare) (fun _ z => nomatch z)
  have e2 : s2 = { s with heap := s2.heap, gens := s2.gens, drawn := s2.drawn, toks := s2.toks } := by cases s2; cases s; cases o; rfl
  rw [e2]
  exact ⟨.ref p, _, J, rfl, q L2 p pm len pw hn⟩
end
theorem reps_ta {K : PySem.W.Frag} {M : Mp} {Z : Zn} {H : Hp} : ∀ (zs : List (List Str)) (vs : List V), Reps K M Z H vs (zs.map fun z => D.tup (z.map D.str)) → ∃ ks : List TA, vs = ks.map (fun p => V.ref p.2) ∧ ks.map Prod.fst = zs ∧ ∀ p ∈ ks, Rep K M Z H (.ref p.2) (.tup (p.1.map D.str))
  | [], _, .nil => ⟨[], rfl, rfl, fun p hp => nomatch hp⟩
  | z :: zs, _, .cons r t => by
    obtain ⟨a, us, rfl, _⟩ := r.asTup
    obtain ⟨ks, rfl, rfl, h⟩ := reps_ta zs _ t
    exact ⟨(z, a) :: ks, rfl, rfl, fun p hp => (List.mem_cons.mp hp).elim (fun e => by rw [e]; exact r) (h p)⟩
theorem ta_reps {K : PySem.W.Frag} {M : Mp} {Z : Zn} {H : Hp} : ∀ (ks : List TA), (∀ p ∈ ks, Rep K M Z H (.ref p.2) (.tup (p.1.map D.str))) → Reps K M Z H (ks.map fun p => V.ref p.2) ((ks.map Prod.fst).map fun z => D.tup (z.map D.str))
  | [], _ => .nil
  | p :: ks, h => .cons (h p List.mem_cons_self) (ta_reps ks fun y hy => h y (List.mem_cons_of_mem _ hy))
theorem sqT_txt {K : PySem.W.Frag} {M : Mp} {Z : Zn} {H : Hp} {b : Addr} {z : List Str} (r : Rep K M Z H (.ref b) (.tup (z.map D.str))) : SqT K H b (z.map V.str) := by
  obtain ⟨a, us, e, h, rs⟩ := r.asTup
  cases e
  rwa [rs.strs] at h
/-- ascending, each once, just those of zs -/
def UpT (zs ys : List (List Str)) : Prop := ys.Pairwise (fun x y => ltT x y = true) ∧ (∀ z, z ∈ ys ↔ z ∈ zs) ∧ ys.length < 64
section
variable {X : Cx} {ρ : Rho} {M : Mp} {Φ : D → Mp → Prop} {e : Expr} {pos p p2 pos2 : Pos}
theorem we_sortedSetTx (hu : X.A.units + 64 < cLine) (hm : X.mg "sorted" = none) (hm2 : X.mg "set" = none) (h : WE X ρ M e fun d M1 => ∃ zs : List (List Str), LstOf M1 d (zs.map fun z => D.tup (z.map D.str)) ∧ zs.length < 64 ∧ [] ∉ zs ∧ ∀ ys, UpT zs ys → Φ (.lst (ys.map fun z => D.tup (z.map D.str))) M1) (hc : X.calm = true := by rfl)
    (hg : Gl X "sorted" := by rfl) (hg2 : Gl X "set" := by rfl) (he : starEach [.Call (.Name "set" p2) [e] [] pos2] X.env = (false, eval (.Call (.Name "set" p2) [e] [] pos2) X.env) :: starEach [] X.env := by rfl) (hpl : (backTo pos (starEach [] X.env)).any (·.1) = false := by rfl)
    (he2 : starEach [e] X.env = (false, eval e X.env) :: starEach [] X.env := by rfl) (hpl2 : (backTo pos2 (starEach [] X.env)).any (·.1) = false := by rfl) : WE X ρ M (.Call (.Name "sorted" p) [.Call (.Name "set" p2) [e] [] pos2] [] pos) Φ := .mk fun {Z} σ H Q en w k =>
  eOf (pe_callB (cr_sortN hc hu) hg hm (by decide +kernel) (pa_cons (pe_callTy (cr_setN hc hu) hg2 hm2 (by decide +kernel) pa_sem (by decide) (by decide) he2 hpl2) pa_nil he) (by decide) (by decide) he hpl)
    ((wa_cons (ΦA := fun ds M2 => ∃ d, ∃ zs : List (List Str), ds = [d] ∧ LstOf M2 d (zs.map fun z => D.tup (z.map D.str)) ∧ zs.length < 64 ∧ [] ∉ zs ∧ ∀ ys, UpT zs ys → Φ (.lst (ys.map fun z => D.tup (z.map D.str))) M2) (h.imp fun d M1 ⟨zs, h1, h2, h3, h4⟩ => wa_nil ⟨d, zs, rfl, h1, h2, h3, h4⟩) he2).run σ H _ en w fun vs ds H1 M1 e1 w1 r1 hz => by
      obtain ⟨d, zs, rfl, hl, hn, ne, hz⟩ := hz
      cases r1 with
      | cons r1 r2 =>
        cases r2
        obtain ⟨l, us, rfl, hq, rs⟩ := r1.asLst w1 hl
        obtain ⟨ks, rfl, rfl, hk⟩ := reps_ta zs us rs
        rw [List.length_map] at hn
        refine ⟨l, ks, rfl, hq, fun p hp => sqT_txt (hk p hp), hn, fun a L ha hL all nd few => ?_⟩
        have x1 := Ext.new (o := SetNO X.w a L) w1 ha
        have w2 := w1.new (o := SetNO X.w a L) ha
        have hk2 : ∀ p ∈ ks, Rep X.K M1 Z (upd H1 a (SetNO X.w a L)) (.ref p.2) (.tup (p.1.map D.str)) := fun p hp => (hk p hp).mono x1
        refine ⟨a, L, rfl, upd_same, fun p hp => ⟨sqT_txt (hk2 p (hL p hp)), fun e => ne (by rw [← e]; exact List.mem_map_of_mem (hL p hp))⟩, fun L2 q pm len pw hq2 => ?_⟩
        have x2 := Ext.new (o := .lst (L2.map fun x => V.ref x.2)) w2 hq2
        refine (k.step (e1.trans x1)).new w2 hq2 (.lst upd_same (w2.fresh hq2) (ta_reps L2 fun p hp => (hk2 p (hL p (pm.mem_iff.mp hp))).mono x2)) (hz _ ⟨?_, fun z => ⟨fun hz => ?_, fun hz => ?_⟩, by rw [List.length_map]; exact len⟩)
        · have nd2 : (L2.map Prod.fst).Nodup := (pm.map Prod.fst).nodup_iff.mpr nd
          refine List.pairwise_map.mpr (List.Pairwise.imp₂ (fun x y h1 h2 => ?_) pw (List.pairwise_map.mp nd2))
          cases e : ltT x.1 y.1 with
          | true => rfl
          | false => exact absurd (ltT_tot e h1) h2
        · obtain ⟨p, hp, rfl⟩ := List.mem_map.mp hz
          exact List.mem_map_of_mem (hL p (pm.mem_iff.mp hp))
        · obtain ⟨p, hp, rfl⟩ := List.mem_map.mp hz
          obtain ⟨y, hy, e⟩ := List.mem_map.mp (all p hp)
          rw [← e]
          exact List.mem_map_of_mem (pm.mem_iff.mpr hy))
end
end DL
namespace DL
open PySem PySem.Spec PyProof.Rows L2 PySem.W
theorem op_ltTx {X : Cx} (hu : X.A.units + 64 < cLine) : OpR X (compareOp .Lt) (fun x y H Q => ∃ a b z c, x = .ref a ∧ y = .ref b ∧ SqT X.K H a (z.map V.str) ∧ SqT X.K H b (c.map V.str) ∧ Q (.bl (ltT z c)) H) := by
  intro pins s σ H x y v u Q I rx ry h
  obtain ⟨a, b, z, c, rfl, rfl, ha, hb, q⟩ := h
  cases rx
  cases ry
  exact rcLt_alike (encT z) (encT c) _ _ _ _ _ _ (textsAt I ha).2 (textsAt I hb).2 (alikeT z c) (fun e => nomatch e) (by unfold encT; simp only [PyData.depth, depthT]; omega) _ _ _ _ ⟨.bl _, H, I, rfl, q⟩
section
variable {X : Cx} {ρ : Rho} {M : Mp} {Φ : D → Mp → Prop} {a b : Expr} {pos : Pos}
theorem we_ltTx (hu : X.A.units + 64 < cLine) (h : WE X ρ M a fun x M1 => WE X ρ M1 b fun y M2 => ∃ z c : List Str, x = .tup (z.map D.str) ∧ y = .tup (c.map D.str) ∧ Φ (.bl (ltT z c)) M2) : WE X ρ M (.Compare a [.Lt] [b] pos) Φ :=
  we_cmp (op_ltTx hu) (nomark _) (h.imp fun _ _ h => h.imp fun x y ⟨z, c, e1, e2, hz⟩ => fun Z v u H Q w r1 r2 k => by
    subst e1 e2
    obtain ⟨q, vs, rfl, hq, rs⟩ := r1.asTup
    obtain ⟨q2, vs2, rfl, hq2, rs2⟩ := r2.asTup
    rw [rs.strs] at hq
    rw [rs2.strs] at hq2
    exact ⟨q, q2, z, c, rfl, rfl, hq, hq2, k.now w (.bl _) hz⟩)
end
end DL
namespace DL
open PySem PySem.Spec PyProof.Rows L2
section
variable {X : Cx} {ρ : Rho} {M : Mp} {Φ : D → Mp → Prop} {Θ : Bool → Mp → Prop} {a b c e : Expr} {pos : Pos}
def valK (kvs : List (Key × D)) (k : Key) : Option D := (kvs.find? fun kv => decide (kv.1 = k)).map (·.2)
theorem RepK.val {K : PySem.W.Frag} {Z : Zn} {H : Hp} {k : Key} {d : D} : ∀ {vs : List (Key × V)} {ds : List (Key × D)}, RepK K M Z H vs ds → valK ds k = some d → ∃ v, valV vs k = some v ∧ Rep K M Z H v d
  | _, _, .nil, h => by simp [valK] at h
  | _, _, .cons (k := k') (v := v) (d := d') r t, h => by
    unfold valK at h
    unfold valV
    rw [List.find?_cons] at h ⊢
    by_cases hk : k' = k
    · rw [decide_eq_true hk] at h ⊢
      obtain rfl := Option.some.inj h
      exact ⟨v, rfl, r⟩
    · rw [decide_eq_false hk] at h ⊢
      exact RepK.val t h
end
end DL
namespace DL
open PySem PySem.Spec PyProof.Rows L2
section
variable {X : Cx} {ρ : Rho} {M : Mp} {Φ : List D → Mp → Prop} {a b e : Expr} {p pos : Pos}
theorem wi_zipL {elts : List Expr} {kk : Nat} {tpos : Pos} (hm : X.mg "zip" = none) (h : WE X ρ M a fun x M1 => WE X ρ M1 b fun y M2 => ∃ xs ys, x = .lst xs ∧ y = .lst ys ∧ Φ (zipD xs ys) M2) (hg : Gl X "zip" := by rfl)
    (ha : starEach [a, b] X.env = (false, eval a X.env) :: starEach [b] X.env := by rfl) (hb : starEach [b] X.env = (false, eval b X.env) :: starEach [] X.env := by rfl) (hpl : (backTo pos (starEach [b] X.env)).any (·.1) = false := by rfl) : WI X ρ M (.Tuple elts kk tpos) (.Call (.Name "zip" p) [a, b] [] pos) Φ := .mk fun σ H R en w k =>
  iOf (pi_zip hg hm (pa_cons pe_sem (pa_cons pe_sem pa_nil hb) ha) ha hpl) (bind2 h en w fun v u x y H2 M2 e2 w2 r1 r2 hz => by
    obtain ⟨xs, ys, rfl, rfl, hz⟩ := hz
    obtain ⟨p1, vs, rfl, hq1, rs1⟩ := r1.lstKeep (.inl rfl)
    obtain ⟨p2, us, rfl, hq2, rs2⟩ := r2.lstKeep (.inl rfl)
    refine ⟨p1, p2, vs, us, rfl, hq1 _ _ _ ExI.refl, hq2 _ _ _ ExI.refl, k _ _ H2 M2 e2 w2 ?_ hz⟩
    intro i M Z H e w
    refine ⟨fun hi => ⟨vs, us, hq1 _ _ _ e, hq2 _ _ _ e, ?_⟩, fun d hd => ?_⟩
    · rw [rs1.length, rs2.length]
      have : (zipD xs ys).length = min xs.length ys.length := by simp [zipD]
      omega
    · obtain ⟨x, y, hx, hy, rfl⟩ := zipD_get hd
      obtain ⟨v, hv, rv⟩ := rs1.get hx
      obtain ⟨u, hu, ru⟩ := rs2.get hy
      refine ⟨⟨vs, us, v, u, hq1 _ _ _ e, hq2 _ _ _ e, hv, hu⟩, fun z H' yl => ?_⟩
      obtain ⟨T, v', u', rfl, hT, rfl, h3, h4⟩ := yl
      have z1 := h3 vs (hq1 _ _ _ e)
      have z2 := h4 us (hq2 _ _ _ e)
      rw [hv] at z1; cases z1
      rw [hu] at z2; cases z2
      have x3 : Ext M Z H M (upd H T (.tup [v, u])) := Ext.new w hT
      exact ⟨x3, w.new hT, .tup (.inl upd_same) (w.fresh hT) (.cons ((rv.monoI e).mono x3) (.cons ((ru.monoI e).mono x3) .nil))⟩)
end
end DL
namespace W
open PySem PySem.Spec PyProof.Rows L2 DL SX PL SlX
abbrev Mk := Str × Str
abbrev Pt := Mk × Int
def mkL (m : Mk) : List Str := [m.1, m.2]
def mkD (m : Mk) : D := .tup [.str m.1, .str m.2]
def ltM (a b : Mk) : Bool := ltT (mkL a) (mkL b)
def ptD (p : Pt) : D := .tup [mkD p.1, .int p.2]
def mkA (m : Mk) : AV := .tup [.str m.1, .str m.2]
def ptA (p : Pt) : AV := .tup [mkA p.1, .int p.2]
theorem mkA_D (m : Mk) : avD (mkA m) = mkD m := by simp only [mkA, mkD, avD, avsD]
theorem ptA_D (p : Pt) : avD (ptA p) = ptD p := by simp only [ptA, ptD, avD, avsD, mkA_D]
theorem mkL_inj {a b : Mk} (h : mkL a = mkL b) : a = b := by
  unfold mkL at h
  simp only [List.cons.injEq, and_true] at h
  exact Prod.ext h.1 h.2
theorem ltM_tr {a b c : Mk} (h1 : ltM a b = true) (h2 : ltM b c = true) : ltM a c = true := ltT_tr h1 h2
theorem ltM_irr (a : Mk) : ltM a a = false := ltT_irr _
def fmN (x : Str) : Bool := isNameL x.cps.toList
def wordsL : List Str := ["people", "circle", "strangers", "rows", "hall"]
/-- a value as a mark, as a part, as parts -/
def isMk (v : AV) : Option Mk := match v with
  | .tup [.str a, .str b] => if fmN a = true ∧ b ∈ wordsL then some (a, b) else none
  | _ => none
def isPt (v : AV) : Option Pt := match v with
  | .tup [m, .int i] => if i = 0 then none else (isMk m).map fun k => (k, i)
  | _ => none
def adj {α : Type} (r : α → α → Bool) (xs : List α) : List Bool := List.zipWith r xs (xs.drop 1)
def asc (ms : List Mk) : Bool := (adj ltM ms).all id
def ptsV (v : AV) : Option (List Pt) := match v with
  | .tup l => if l.all (fun x => (isPt x).isSome) = true ∧ asc ((l.filterMap isPt).map Prod.fst) = true then some (l.filterMap isPt) else none
  | _ => none
/-- what parts are to be -/
structure Pts (ps : List Pt) : Prop where
  ok : ∀ p ∈ ps, fmN p.1.1 = true ∧ p.1.2 ∈ wordsL ∧ p.2 ≠ 0
  up : (ps.map Prod.fst).Pairwise fun a b => ltM a b = true
theorem adj_cons {α : Type} (r : α → α → Bool) (x y : α) (xs : List α) : adj r (x :: y :: xs) = r x y :: adj r (y :: xs) := rfl
theorem adj_iff {α : Type} {r : α → α → Bool} (tr : ∀ a b c, r a b = true → r b c = true → r a c = true) : ∀ xs : List α, (adj r xs).all id = true ↔ xs.Pairwise fun a b => r a b = true
  | [] => by simp [adj]
  | [x] => by simp [adj]
  | x :: y :: xs => by
    rw [adj_cons, List.all_cons, Bool.and_eq_true, adj_iff tr (y :: xs), List.pairwise_cons (a := x)]
    show r x y = true ∧ _ ↔ _
    constructor
    · rintro ⟨h1, h2⟩
      refine ⟨fun z hz => ?_, h2⟩
      rcases List.mem_cons.mp hz with rfl | hz
      · exact h1
      · exact tr _ _ _ h1 ((List.pairwise_cons.mp h2).1 z hz)
    · rintro ⟨h1, h2⟩
      exact ⟨h1 y List.mem_cons_self, h2⟩
theorem asc_iff (ms : List Mk) : asc ms = true ↔ ms.Pairwise fun a b => ltM a b = true := adj_iff (r := ltM) (fun _ _ _ h1 h2 => ltM_tr h1 h2) ms
theorem isMk_some {v : AV} {m : Mk} (h : isMk v = some m) : v = mkA m ∧ fmN m.1 = true ∧ m.2 ∈ wordsL := by
  unfold isMk at h
  split at h
  · split at h
    · rename_i hc; cases h; exact ⟨rfl, hc⟩
    · cases h
  · cases h
theorem isMk_of {m : Mk} (h1 : fmN m.1 = true) (h2 : m.2 ∈ wordsL) : isMk (mkA m) = some m := by
  unfold isMk mkA
  dsimp only
  rw [if_pos ⟨h1, h2⟩]
theorem isPt_some {v : AV} {p : Pt} (h : isPt v = some p) : v = ptA p ∧ fmN p.1.1 = true ∧ p.1.2 ∈ wordsL ∧ p.2 ≠ 0 := by
  unfold isPt at h
  split at h
  · rename_i m i
    split at h
    · cases h
    · rename_i hi
      obtain ⟨k, hk, rfl⟩ := Option.map_eq_some_iff.mp h
      obtain ⟨rfl, h1, h2⟩ := isMk_some hk
      exact ⟨rfl, h1, h2, hi⟩
  · cases h
theorem isPt_of {p : Pt} (h : fmN p.1.1 = true ∧ p.1.2 ∈ wordsL ∧ p.2 ≠ 0) : isPt (ptA p) = some p := by
  unfold isPt ptA
  dsimp only
  rw [if_neg h.2.2, isMk_of h.1 h.2.1]; rfl
theorem all_pt : ∀ {l : List AV}, l.all (fun x => (isPt x).isSome) = true → l = (l.filterMap isPt).map ptA ∧ ∀ p ∈ l.filterMap isPt, fmN p.1.1 = true ∧ p.1.2 ∈ wordsL ∧ p.2 ≠ 0
  | [], _ => ⟨rfl, fun q h => by simp at h⟩
  | x :: l, h => by
    rw [List.all_cons, Bool.and_eq_true] at h
    obtain ⟨q, hq⟩ := Option.isSome_iff_exists.mp h.1
    obtain ⟨h1, h2⟩ := all_pt h.2
    obtain ⟨e, h3⟩ := isPt_some hq
    rw [List.filterMap_cons, hq]
    refine ⟨by show x :: l = ptA q :: _; rw [← h1, e], fun z hz => ?_⟩
    rcases List.mem_cons.mp hz with rfl | hz
    · exact h3
    · exact h2 z hz
theorem filter_pt : ∀ {ps : List Pt}, (∀ p ∈ ps, fmN p.1.1 = true ∧ p.1.2 ∈ wordsL ∧ p.2 ≠ 0) → (ps.map ptA).filterMap isPt = ps ∧ (ps.map ptA).all (fun x => (isPt x).isSome) = true
  | [], _ => ⟨rfl, rfl⟩
  | p :: ps, h => by
    obtain ⟨h1, h2⟩ := filter_pt fun q hq => h q (List.mem_cons_of_mem _ hq)
    have e := isPt_of (h p List.mem_cons_self)
    rw [List.map_cons, List.filterMap_cons, List.all_cons, e, h2]
    exact ⟨by show p :: _ = _; rw [h1], rfl⟩
theorem ptsV_of {ps : List Pt} (h : Pts ps) : ptsV (.tup (ps.map ptA)) = some ps := by
  unfold ptsV
  dsimp only
  obtain ⟨h1, h2⟩ := filter_pt h.ok
  rw [h1, if_pos ⟨h2, (asc_iff _).mpr h.up⟩]
theorem pts_D (ps : List Pt) : avD (.tup (ps.map ptA)) = .tup (ps.map ptD) := by
  rw [avD, avsD_map, List.map_map]
  exact congrArg D.tup (List.map_congr_left fun p _ => ptA_D p)
/-- a name, a word among values of any kind -/
def nmB (v : AV) : Bool := match v with
  | .str x => fmN x
  | _ => false
def wdB (zs : List Str) (v : AV) : Bool := match v with
  | .str x => decide (x ∈ zs)
  | _ => false
def tupN (v : AV) (n : Nat) : Bool := match v with
  | .tup l => decide (l.length = n)
  | _ => false
def intB : AV → Bool
  | .int _ => true
  | _ => false
def shS (v : AV) : Prop := ∀ x, v = .str x → x.cps.toList.length ≤ 1000000
def isS : AV → Bool
  | .str _ => true
  | _ => false
theorem S_toList (x : Str) : S x.cps.toList = x := by cases x; rfl
section
variable {P : Program} {w : World} {K : PySem.W.Frag} {mg : Str → Option Value} {base : Heap} {C R U V : Addr}
theorem kit_str (v : AV) : PySem.W.kitOne K (.type (avT v)) (.type "str") = some (isS v) := by cases v <;> rfl
def cNameA : Con := fun ds M Φ => ∃ v, ds = [avD v] ∧ shS v ∧ Φ (.bl (nmB v)) M
theorem ok_name_a (F : Fx w K mg) (gLE : ∃ t, mg "LETTERS" = some (.str "abcdefghijklmnopqrstuvwxyz" t)) (gML : ∃ t, mg "MOST_LETTERS" = some (.int 8 t)) : BodyOk P w K mg base "is_name" s_is_name ["value", "letter"] 1 0 cNameA := by
  intro f cdv A outer s H E hr ds M Φ hl hc
  obtain ⟨v, rfl, hs, hc⟩ := hc
  by_cases hx : ∃ x, v = .str x
  · obtain ⟨x, rfl⟩ := hx
    exact ok_is_name F f cdv A outer s H E hr _ M Φ rfl ⟨x.cps.toList, by unfold tS; rw [S_toList, avD], hs x rfl, hc⟩
  · have e1 : isS v = false := by cases v <;> first | rfl | exact absurd ⟨_, rfl⟩ hx
    have e2 : nmB v = false := by cases v <;> first | rfl | exact absurd ⟨_, rfl⟩ hx
    rw [e2] at hc
    refine wss_cons (ws_if (wt_ww (ww_or (wt_not (wt_val (we_isi (F.bn _ (by decide +kernel)) (we_var 0 rfl (we_bty (F.bn _ (by decide +kernel)) rfl ⟨_, _, _, avTy M v, rfl, (by intro C h; cases h), kit_str v, _, rfl, ?_⟩))))))))
    rw [e1]
    exact wss_cons (ws_ret (we_bl (Lets.of hc)))
def cWordA : Con := fun ds M Φ => ∃ (v : AV) (zs : List Str), ds = [avD v, .tup (zs.map D.str)] ∧ Φ (.bl (wdB zs v)) M
theorem ok_word_a (F : Fx w K mg) : BodyOk P w K mg base "is_word" s_is_word ["value", "words"] 2 0 cWordA := by
  intro f cdv A outer s H E hr ds M Φ hl hc
  obtain ⟨v, zs, rfl, hc⟩ := hc
  refine wss_cons (ws_ret (we_and (we_isi (F.bn _ (by decide +kernel)) (we_var 0 rfl (we_bty (F.bn _ (by decide +kernel)) rfl ⟨_, _, _, avTy M v, rfl, (by intro C h; cases h), kit_str v, _, rfl, ?_⟩)))))
  by_cases hx : ∃ x, v = .str x
  · obtain ⟨x, rfl⟩ := hx
    exact we_one (we_inS (we_var 0 rfl (we_var 1 rfl ⟨x, zs, by rw [avD], .inl rfl, Lets.of hc⟩)))
  · have e1 : isS v = false := by cases v <;> first | rfl | exact absurd ⟨_, rfl⟩ hx
    have e2 : wdB zs v = false := by cases v <;> first | rfl | exact absurd ⟨_, rfl⟩ hx
    rw [e1]
    rw [e2] at hc
    exact Lets.of hc
def cTupA : Con := fun ds M Φ => ∃ v n, ds = [avD v, .int (n : Nat)] ∧ Φ (.bl (tupN v n)) M
theorem ok_tup_a (F : Fx w K mg) : BodyOk P w K mg base "is_tuple" s_is_tuple ["value", "many"] 2 0 cTupA := by
  intro f cdv A outer s H E hr ds M Φ hl hc
  obtain ⟨v, n, rfl, hc⟩ := hc
  refine wss_cons (ws_ret (we_and (we_isi (F.bn _ (by decide +kernel)) (we_var 0 rfl (we_bty (F.bn _ (by decide +kernel)) rfl ⟨_, _, _, avTy M v, rfl, (by intro C h; cases h), kit_tup v, _, rfl, ?_⟩)))))
  by_cases ht : ∃ l, v = .tup l
  · obtain ⟨l, rfl⟩ := ht
    refine we_one (we_eqS (we_len (F.bn _ (by decide +kernel)) (we_var 0 (by rw [avD]; rfl) ⟨_, lenT, we_var 1 rfl ⟨_, rfl, Lets.of ?_⟩⟩)))
    have e : decide ((((avsD l).length : Nat) : Int) = (n : Nat)) = tupN (.tup l) n := by
      show _ = decide (l.length = n)
      rw [avsD_len]; exact decide_eq_decide.mpr (by omega)
    rw [e]; exact hc
  · have e : tupN v n = false := by cases v <;> first | rfl | exact absurd ⟨_, rfl⟩ ht
    have e2 : isT v = false := by cases v <;> first | rfl | exact absurd ⟨_, rfl⟩ ht
    rw [e] at hc
    rw [e2]
    exact Lets.of hc
/-- is it a mark -/
def mkB (v : AV) : Bool := (isMk v).isSome
def cMarkA : Con := fun ds M Φ => ∃ v, ds = [avD v] ∧ (∀ l, v = .tup l → ∀ u ∈ l, shS u) ∧ Φ (.bl (mkB v)) M
theorem tup2 {v : AV} (h : tupN v 2 = true) : ∃ x y, v = .tup [x, y] := by
  cases v with
  | tup l =>
    have hl2 : l.length = 2 := of_decide_eq_true h
    match l, hl2 with
    | [x, y], _ => exact ⟨x, y, rfl⟩
  | _ => cases h
theorem mkB_two (x y : AV) : mkB (.tup [x, y]) = (nmB x && wdB wordsL y) := by
  unfold mkB isMk nmB wdB
  cases x <;> cases y <;> simp <;> split <;> simp_all
theorem mkB_not {v : AV} (h : tupN v 2 = false) : mkB v = false := by
  unfold mkB
  cases e : isMk v with
  | none => rfl
  | some m => rw [(isMk_some e).1] at h; cases h
theorem ok_mark_a {W : Addr} (F : Fx w K mg) (gP : ∃ t, mg "PAIR" = some (.int 2 t)) (gW : mg "WORDS" = some (.ref W)) (rW : ∀ M Z H, Rep K M Z H (.ref W) (.tup (wordsL.map D.str))) (F1 : Fc P w K mg base "is_tuple" [] 1 2 cTupA) (F2 : Fc P w K mg base "is_name" [] 1 1 cNameA) (F3 : Fc P w K mg base "is_word" [] 1 2 cWordA) :
    BodyOk P w K mg base "is_mark" s_is_mark ["value"] 1 1 cMarkA := by
  intro f cdv A outer s H E hr ds M Φ hl hc
  obtain ⟨v, rfl, hs, hc⟩ := hc
  refine wss_cons (ws_ret (we_and (we_call F1 (hr.mono (by omega)) (wa_cons (we_var 0 rfl (wa_cons (we_gint gP (wa_nil ⟨rfl, v, 2, rfl, _, rfl, ?_⟩))))))))
  cases ht : tupN v 2 with
  | false =>
    rw [mkB_not ht] at hc
    exact Lets.of hc
  | true =>
    obtain ⟨x, y, rfl⟩ := tup2 ht
    have eD : avD (.tup [x, y]) = .tup [avD x, avD y] := by simp only [avD, avsD]
    rw [eD]
    rw [mkB_two] at hc
    refine we_and (we_call F2 (hr.mono (by omega)) (wa_cons (we_ix (we_var 0 rfl (we_int ⟨0, _, rfl, ixT (atI_nat (j := 0) rfl), wa_nil ⟨rfl, x, rfl, hs _ rfl x (by simp), _, rfl, ?_⟩⟩)))))
    cases hx : nmB x with
    | false => rw [hx] at hc; exact Lets.of hc
    | true =>
      rw [hx, Bool.true_and] at hc
      exact we_one (we_call F3 (hr.mono (by omega)) (wa_cons (we_ix (we_var 0 rfl (we_int ⟨1, _, rfl, ixT (atI_nat (j := 1) rfl), wa_cons (we_gref gW rW (wa_nil ⟨rfl, y, _, rfl, Lets.of hc⟩))⟩)))))
end
end W
namespace DL
open PySem PySem.Spec PyProof.Rows L2
section
variable {X : Cx} {ρ : Rho} {M : Mp} {Φ : D → Mp → Prop} {Ψ : DE} {a b e o : Expr} {es : List Expr} {pos p apos : Pos} {ss : List Stmt}
inductive FzF (M M' : Mp) : List (Str × D) → List (Str × D) → Prop where
  | nil : FzF M M' [] []
  | cons {k : Str} {d d' : D} {r r' : List (Str × D)} : Fz M M' d d' → FzF M M' r r' → FzF M M' ((k, d) :: r) ((k, d') :: r')
theorem FzF.rep {K : PySem.W.Frag} {M M' : Mp} {Z : Zn} {H : Hp} (l : Les M' M) (w : Wd K M Z H) : ∀ {vs : List (Str × V)} {fs fs' : List (Str × D)}, FzF M M' fs fs' → RepF K M Z H vs fs → RepF K M' Z H vs fs'
  | _, _, _, .nil, .nil => .nil
  | _, _, _, .cons f t, .cons r u => .cons (f.rep l w r) (FzF.rep l w t u)
theorem upd_self {H : Hp} {a : Addr} {u : HO} (h : H a = some u) : upd H a u = H := by
  funext b
  unfold upd
  split
  · rename_i e; rw [e, h]
  · rfl
end
end DL
namespace W
open PySem PySem.Spec PyProof.Rows L2 DL SX PL SlX
theorem cut_fr1 {α : Type} (xs : List α) : DL.cutD xs (some 1) none = xs.drop 1 := by
  unfold DL.cutD
  rw [HT.sIx_none, show (1 : Int) = ((1 : Nat) : Int) from rfl, HT.sIx_nat]
  by_cases h : 1 ≤ xs.length
  · rw [Nat.min_eq_left h]
    exact List.take_of_length_le (by rw [List.length_drop]; exact Nat.le_refl _)
  · have : xs = [] := List.length_eq_zero_iff.mp (by omega)
    subst this; rfl
end W
namespace W
open PySem PySem.Spec PyProof.Rows L2 DL SX PL SlX
/-- its texts and tuples are not too long -/
inductive SmA : AV → Prop where
  | str {x : Str} (h : x.cps.toList.length ≤ 1000000) : SmA (.str x)
  | tup {l : List AV} (h : l.length ≤ 1000) (a : ∀ u ∈ l, SmA u) : SmA (.tup l)
  | oth {v : AV} (h1 : isS v = false) (h2 : isT v = false) : SmA v
theorem SmA.s {v : AV} (h : SmA v) : shS v := fun x e => by
  subst e
  cases h with
  | str h => exact h
  | oth h1 h2 => cases h1
theorem SmA.t {l : List AV} (h : SmA (.tup l)) : l.length ≤ 1000 ∧ ∀ u ∈ l, SmA u := by
  cases h with
  | tup h a => exact ⟨h, a⟩
  | oth h1 h2 => cases h2
section
variable {P : Program} {w : World} {K : PySem.W.Frag} {mg : Str → Option Value} {base : Heap} {C R U V : Addr}
abbrev nAscend : List Str := ["values", "one", "other"]
def cAscM : Con := fun ds M Φ => ∃ ms : List Mk, ds = [.lst (ms.map mkD)] ∧ ms.length ≤ 1000 ∧ Φ (.bl (asc ms)) M
theorem ok_asc_m (F : Fx w K mg) : BodyOk P w K mg base "do_ascend" s_do_ascend nAscend 1 0 cAscM := by
  intro g cdv A outer s H E hr ds M Φ hl hc
  obtain ⟨xs, rfl, hn, hc⟩ := hc
  have nd : nAscend.Nodup := by decide +kernel
  have hz : (zipD (xs.map mkD) (DL.cutD (xs.map mkD) (some 1) none)).length = (adj ltM xs).length := by
    simp only [zipD, adj, cut_fr1, List.length_map, List.length_zip, List.length_drop, List.length_zipWith]
  have hz2 : (adj ltM xs).length ≤ 1000 := by simp only [adj, List.length_zipWith]; omega
  refine wss_cons (ws_ret (we_all (F.bn _ (by decide +kernel)) (we_lc nd (blkOk_by (N := nAscend) (sc := defScope s_do_ascend) (own := [("one", 1), ("other", 2)]) (by decide +kernel)) (fun _ _ _ _ _ => pg_tup rfl (pgs_cons (pg_name (i := 1) nd rfl (Or.inl rfl)) (pgs_cons (pg_name (i := 2) nd rfl (Or.inl rfl)) pgs_nil)) rfl rfl) (gt_two (by decide) (by decide)) (fun _ _ _ _ _ => pts_nil) tk_nil (wi_zipL (F.bn _ (by decide +kernel)) (we_var 0 rfl (we_slice (we_var 0 rfl (we_int ⟨_, rfl, _, .inl ⟨_, rfl, rfl⟩, _, _, rfl, rfl, ?_⟩))))))))
  refine ⟨by rw [hz, sizeLine_eq]; omega, fun i acc M' => M' = M ∧ acc = ((adj ltM xs).take i).map D.bl, ⟨rfl, rfl⟩, ?_, ?_⟩
  · rintro i x acc M' hx ⟨rfl, rfl⟩
    obtain ⟨x1, x2, hx1, hx2, rfl⟩ := zipD_get hx
    rw [cut_fr1, List.getElem?_drop, List.getElem?_map] at hx2
    rw [List.getElem?_map] at hx1
    obtain ⟨u, hu, rfl⟩ := Option.map_eq_some_iff.mp hx1
    obtain ⟨v, hv, rfl⟩ := Option.map_eq_some_iff.mp hx2
    refine ⟨_, _, rfl, ?_⟩
    intro s1 H1 C' cl fp
    refine we_ltTx (by have := hr.un; show (A.deeper _).units + 64 < cLine; omega) (we_var 1 rfl (we_var 2 rfl ⟨mkL u, mkL v, rfl, rfl, ?_⟩))
    have e : (adj ltM xs)[i]? = some (ltM u v) := by
      unfold adj
      rw [List.getElem?_zipWith, hu, List.getElem?_drop, hv]
    exact ⟨rfl, by rw [take_snoc e, List.map_append]; rfl⟩
  · rintro acc M' ⟨rfl, rfl⟩
    rw [hz, List.take_length]
    exact ⟨_, rfl, Lets.of hc⟩
def cInt1 : Con := fun ds M Φ => ∃ v, ds = [avD v, .non, .non] ∧ Φ (.bl (intB v)) M
theorem ok_int1 (F : Fx w K mg) : BodyOk P w K mg base "is_integer" s_is_integer ["value", "low", "high"] 3 0 cInt1 := by
  intro f cdv A outer s H E hr ds M Φ hl hc
  obtain ⟨v, rfl, hc⟩ := hc
  refine wss_cons (ws_if (wt_ww (ww_or (wt_not (wt_val (we_isi (F.bn _ (by decide +kernel)) (we_var 0 rfl (we_bty (F.bn _ (by decide +kernel)) rfl ⟨_, _, _, avTy M v, rfl, (by intro C h; cases h), kit_int v, _, rfl, ?_⟩))))))))
  by_cases hi : ∃ i, v = .int i
  · obtain ⟨i, rfl⟩ := hi
    refine ww_or1 (wt_val (we_isi (F.bn _ (by decide +kernel)) (we_var 0 rfl (we_bty (F.bn _ (by decide +kernel)) rfl ⟨_, _, false, avTy M (.int i), rfl, (by intro C h; cases h), rfl, _, rfl, ?_⟩))))
    refine wss_nil (wss_cons (ws_ret (we_and (we_or (we_isN (we_var 1 rfl ⟨true, rfl, true, rfl, ?_⟩))))))
    exact we_one (we_or (we_isN (we_var 2 rfl ⟨true, rfl, Lets.of hc⟩)))
  by_cases hb : ∃ b, v = .bl b
  · obtain ⟨b, rfl⟩ := hb
    refine ww_or1 (wt_val (we_isi (F.bn _ (by decide +kernel)) (we_var 0 rfl (we_bty (F.bn _ (by decide +kernel)) rfl ⟨_, _, true, avTy M (.bl b), rfl, (by intro C h; cases h), rfl, _, rfl, ?_⟩))))
    exact wss_cons (ws_ret (we_bl (Lets.of hc)))
  · have e : isI v = false := by cases v <;> first | rfl | exact absurd ⟨_, rfl⟩ hi | exact absurd ⟨_, rfl⟩ hb
    have e2 : intB v = false := by cases v <;> first | rfl | exact absurd ⟨_, rfl⟩ hi
    rw [e]
    rw [e2] at hc
    exact wss_cons (ws_ret (we_bl (Lets.of hc)))
end
end W
namespace W
open PySem PySem.Spec PyProof.Rows L2 DL SX PL SlX
def ptsB (v : AV) : Bool := (ptsV v).isSome
def nzB : AV → Bool
  | .int i => decide (i ≠ 0)
  | _ => false
theorem isPt_two (x y : AV) : (isPt (.tup [x, y])).isSome = (mkB x && (intB y && nzB y)) := by
  cases y with
  | int i =>
    show (if i = 0 then none else (isMk x).map fun k => (k, i)).isSome = ((isMk x).isSome && (true && decide (i ≠ 0)))
    by_cases h : i = 0
    · rw [if_pos h, decide_eq_false (fun z => z h)]; simp
    · rw [if_neg h, decide_eq_true h]; cases isMk x <;> rfl
  | _ => show (none : Option Pt).isSome = (mkB x && (false && false)); simp
theorem isPt_not {v : AV} (h : tupN v 2 = false) : isPt v = none := by
  cases e : isPt v with
  | none => rfl
  | some m => rw [(isPt_some e).1] at h; cases h
theorem ptsB_tup {l : List AV} (h : l.all (fun x => (isPt x).isSome) = true) : ptsB (.tup l) = asc ((l.filterMap isPt).map Prod.fst) := by
  unfold ptsB ptsV
  dsimp only
  by_cases ha : asc ((l.filterMap isPt).map Prod.fst) = true
  · rw [if_pos ⟨h, ha⟩, ha]; rfl
  · rw [if_neg (fun z => ha z.2)]
    rw [Bool.not_eq_true] at ha
    rw [ha]; rfl
theorem ptsB_bad {l : List AV} {x : AV} (hx : x ∈ l) (h : (isPt x).isSome = false) : ptsB (.tup l) = false := by
  unfold ptsB ptsV
  dsimp only
  rw [if_neg]; rfl
  rintro ⟨h1, _⟩
  have := List.all_eq_true.mp h1 x hx
  rw [h] at this; cases this
section
variable {P : Program} {w : World} {K : PySem.W.Frag} {mg : Str → Option Value} {base : Heap} {C R U V : Addr}
abbrev nAreP : List Str := ["value", "part", "mark", "many"]
def cPartsA : Con := fun ds M Φ => ∃ v, ds = [avD v] ∧ SmA v ∧ Φ (.bl (ptsB v)) M
theorem ok_parts_a (F : Fx w K mg) (gP : ∃ t, mg "PAIR" = some (.int 2 t)) (F1 : Fc P w K mg base "is_tuple" [] 1 2 cTupA) (F2 : Fc P w K mg base "is_mark" [] 2 1 cMarkA) (F3 : Fc P w K mg base "is_integer" [.non, .non] 1 3 cInt1) (F4 : Fc P w K mg base "do_ascend" [] 1 1 cAscM) :
    BodyOk P w K mg base "are_parts" s_are_parts nAreP 1 2 cPartsA := by
  intro f cdv A outer s H E hr ds M Φ hl hc
  obtain ⟨v, rfl, sm, hc⟩ := hc
  have nd : nAreP.Nodup := by decide +kernel
  refine wss_cons (ws_if (wt_not (wt_val (we_isi (F.bn _ (by decide +kernel)) (we_var 0 rfl (we_bty (F.bn _ (by decide +kernel)) rfl ⟨_, _, _, avTy M v, rfl, (by intro C h; cases h), kit_tup v, _, rfl, ?_⟩))))))
  cases ht : isT v with
  | false =>
    have e : ptsB v = false := by cases v <;> first | rfl | cases ht
    rw [e] at hc
    exact wss_cons (ws_ret (we_bl (Lets.of hc)))
  | true =>
  obtain ⟨l, rfl⟩ : ∃ l, v = .tup l := by cases v <;> first | exact ⟨_, rfl⟩ | cases ht
  have eD : avD (.tup l) = .tup (l.map avD) := by rw [avD, avsD_map]
  obtain ⟨hlen, hsm⟩ := sm.t
  rw [eD]
  refine wss_nil (wss_cons (ws_for PassesOwn.never (wi_tup (we_var 0 rfl ⟨l.map avD, rfl, ?_⟩))))
  refine ⟨fun i ρ' M' => (∃ o1 o2 o3, ρ' = [some (.tup (l.map avD)), o1, o2, o3]) ∧ M' = M ∧ ∀ x ∈ l.take i, (isPt x).isSome = true, ⟨⟨none, none, none, rfl⟩, rfl, fun x hx => by simp at hx⟩, ?_, ?_⟩
  · rintro i x ρ' M' hx ⟨⟨o1, o2, o3, rfl⟩, rfl, hall⟩
    rw [List.getElem?_map] at hx
    obtain ⟨u, hu, rfl⟩ := Option.map_eq_some_iff.mp hx
    have hin := List.mem_of_getElem? hu
    have hsu := hsm u hin
    refine wg_name 1 ?_ nd
    refine wss_cons (ws_if (wt_ww (ww_or (wt_not (wt_val (we_call F1 (hr.mono (by omega)) (wa_cons (we_var 1 rfl (wa_cons (we_gint gP (wa_nil ⟨rfl, u, 2, rfl, _, rfl, ?_⟩)))))))))))
    cases h2 : tupN u 2 with
    | false =>
      rw [ptsB_bad hin (by rw [isPt_not h2]; rfl)] at hc
      exact wss_cons (ws_ret (we_bl (Lets.of hc)))
    | true =>
    obtain ⟨x, y, rfl⟩ := tup2 h2
    have eU : avD (.tup [x, y]) = .tup [avD x, avD y] := by simp only [avD, avsD]
    rw [eU]
    have sx := hsu.t.2 x (by simp)
    have ep := isPt_two x y
    refine ww_or (wt_not (wt_val (we_call F2 (hr.mono (by omega)) (wa_cons (we_ix (we_var 1 rfl (we_int ⟨0, _, rfl, ixT (atI_nat (j := 0) rfl), wa_nil ⟨rfl, x, rfl, fun l e z hz => ?_, _, rfl, ?_⟩⟩)))))))
    · subst e; exact (sx.t.2 z hz).s
    cases hm : mkB x with
    | false =>
      rw [hm, Bool.false_and] at ep
      rw [ptsB_bad hin ep] at hc
      exact wss_cons (ws_ret (we_bl (Lets.of hc)))
    | true =>
    refine ww_or (wt_not (wt_val (we_call F3 (hr.mono (by omega)) (wa_cons (we_ix (we_var 1 rfl (we_int ⟨1, _, rfl, ixT (atI_nat (j := 1) rfl), wa_nil ⟨rfl, y, rfl, _, rfl, ?_⟩⟩)))))))
    cases hi : intB y with
    | false =>
      rw [hi, hm, Bool.false_and, Bool.and_false] at ep
      rw [ptsB_bad hin ep] at hc
      exact wss_cons (ws_ret (we_bl (Lets.of hc)))
    | true =>
    obtain ⟨n, rfl⟩ : ∃ n, y = .int n := by cases y <;> first | exact ⟨_, rfl⟩ | cases hi
    refine ww_or1 (wt_eqS (we_ix (we_var 1 rfl (we_int ⟨1, _, rfl, ixT (atI_nat (j := 1) rfl), we_int ⟨decide (n = 0), by rw [avD]; rfl, ?_⟩⟩))))
    by_cases h0 : n = 0
    · rw [decide_eq_true h0]
      have ez : nzB (.int n) = false := decide_eq_false fun z => z h0
      rw [hm, hi, ez] at ep
      rw [ptsB_bad hin ep] at hc
      exact wss_cons (ws_ret (we_bl (Lets.of hc)))
    · rw [decide_eq_false h0]
      refine wss_nil (wss_nil ⟨⟨_, _, _, rfl⟩, rfl, fun z hz => ?_⟩)
      rw [take_snoc hu] at hz
      rcases List.mem_append.mp hz with hz | hz
      · exact hall z hz
      · rw [List.mem_singleton.mp hz, ep, hm, hi]
        exact decide_eq_true h0
  · rintro ρ' M' ⟨⟨o1, o2, o3, rfl⟩, rfl, hall⟩
    rw [List.length_map, List.take_length] at hall
    have ha : l.all (fun x => (isPt x).isSome) = true := List.all_eq_true.mpr hall
    obtain ⟨e1, -⟩ := all_pt ha
    rw [ptsB_tup ha] at hc
    generalize l.filterMap isPt = ps at e1 hc
    have e2 : l.map avD = ps.map ptD := by
      rw [e1, List.map_map]
      exact List.map_congr_left fun p _ => ptA_D p
    have e3 : ps.length = l.length := by rw [e1, List.length_map]
    rw [e2]
    refine wss_cons (ws_ret (we_call F4 (hr.mono (by omega)) (wa_cons (we_lc nd (blkOk_by (N := nAreP) (sc := defScope s_are_parts) (own := [("mark", 2), ("many", 3)]) (by decide +kernel)) (fun _ _ _ _ _ => pg_tup rfl (pgs_cons (pg_name (i := 2) nd rfl (Or.inl rfl)) (pgs_cons (pg_name (i := 3) nd rfl (Or.inl rfl)) pgs_nil)) rfl rfl) (gt_two (by decide) (by decide)) (fun _ _ _ _ _ => pts_nil) tk_nil (wi_tup (we_var 0 rfl ⟨_, rfl, ?_⟩))))))
    refine ⟨by rw [List.length_map, sizeLine_eq]; omega, fun i acc M2 => M2 = M' ∧ acc = ((ps.take i).map Prod.fst).map mkD, ⟨rfl, rfl⟩, ?_, ?_⟩
    · rintro i x acc M2 hx ⟨rfl, rfl⟩
      rw [List.getElem?_map] at hx
      obtain ⟨p, hp, rfl⟩ := Option.map_eq_some_iff.mp hx
      refine ⟨_, _, rfl, ?_⟩
      intro s1 H1 C' cl fp
      refine we_var 2 rfl ⟨rfl, ?_⟩
      rw [take_snoc hp, List.map_append, List.map_append]; rfl
    · rintro acc M2 ⟨rfl, rfl⟩
      rw [List.length_map, List.take_length]
      exact wa_nil ⟨rfl, ps.map Prod.fst, rfl, by rw [List.length_map]; omega, Lets.of hc⟩
end
end W
namespace DL
open PySem PySem.Spec PyProof.Rows L2
def putKD (kvs : List (Key × D)) (k : Key) (d : D) : List (Key × D) := if (kvs.any fun kv => decide (kv.1 = k)) = true then kvs.map (fun kv => if kv.1 = k then (kv.1, d) else kv) else kvs ++ [(k, d)]
section
variable {K : PySem.W.Frag} {M : Mp} {Z : Zn} {H : Hp} {k : Key} {v : V} {d : D}
theorem RepK.length : ∀ {vs : List (Key × V)} {ds : List (Key × D)}, RepK K M Z H vs ds → vs.length = ds.length
  | _, _, .nil => rfl
  | _, _, .cons r t => by rw [List.length_cons, List.length_cons, RepK.length t]
theorem RepK.any : ∀ {vs : List (Key × V)} {ds : List (Key × D)}, RepK K M Z H vs ds → (vs.any fun kv => decide (kv.1 = k)) = ds.any fun kv => decide (kv.1 = k)
  | _, _, .nil => rfl
  | _, _, .cons r t => by rw [List.any_cons, List.any_cons, RepK.any t]
theorem RepK.snoc (r : Rep K M Z H v d) : ∀ {vs : List (Key × V)} {ds : List (Key × D)}, RepK K M Z H vs ds → RepK K M Z H (vs ++ [(k, v)]) (ds ++ [(k, d)])
  | _, _, .nil => .cons r .nil
  | _, _, .cons r1 t => .cons r1 (RepK.snoc r t)
theorem RepK.repl (r : Rep K M Z H v d) : ∀ {vs : List (Key × V)} {ds : List (Key × D)}, RepK K M Z H vs ds → RepK K M Z H (vs.map fun kv => if kv.1 = k then (kv.1, v) else kv) (ds.map fun kv => if kv.1 = k then (kv.1, d) else kv)
  | _, _, .nil => .nil
  | _, _, .cons (k := j) r1 t => by
    rw [List.map_cons, List.map_cons]
    by_cases e : j = k
    · simp only [if_pos e]; exact .cons r (RepK.repl r t)
    · simp only [if_neg e]; exact .cons r1 (RepK.repl r t)
theorem RepK.put {vs : List (Key × V)} {ds : List (Key × D)} (r : Rep K M Z H v d) (t : RepK K M Z H vs ds) : RepK K M Z H (putK vs k v) (putKD ds k d) := by
  unfold putK putKD
  rw [t.any]
  split
  · exact t.repl r
  · exact t.snoc r
end
end DL
namespace DL
open PySem PySem.Spec PyProof.Rows L2
theorem keyD_rep {K : PySem.W.Frag} {M : Mp} {Z : Zn} {H : Hp} (k : Key) : Rep K M Z H (kV k) (keyD k) := by
  cases k with
  | inl i => exact .int i
  | inr x => exact .str x
theorem RepK.get {K : PySem.W.Frag} {M : Mp} {Z : Zn} {H : Hp} : ∀ {vs : List (Key × V)} {ds : List (Key × D)} {i : Nat} {k : Key} {d : D}, RepK K M Z H vs ds → ds[i]? = some (k, d) → ∃ v, vs[i]? = some (k, v) ∧ Rep K M Z H v d
  | _, _, _, _, _, .nil, e => by simp at e
  | _, _, 0, _, _, .cons r _, e => by simp at e; obtain ⟨rfl, rfl⟩ := e; exact ⟨_, rfl, r⟩
  | _, _, i + 1, k, d, .cons _ t, e => by
    obtain ⟨u, h1, h2⟩ := RepK.get (i := i) (d := d) t (by simpa using e)
    exact ⟨u, by simpa using h1, h2⟩
section
variable {X : Cx} {ρ : Rho} {M : Mp} {Φ : D → Mp → Prop} {Θ : Bool → Mp → Prop} {Ψ : DE} {a b o e f i tg : Expr} {ss : List Stmt} {pos apos p : Pos}
theorem frz_x {Z : Zn} {H : Hp} {q : Addr} {u : MO} {x : HO} (w : Wd X.K M Z H) (hq : M q = some u) : Ext M Z H (mdel M q) (upd H q x) := ⟨fun b o h m => by
    have n : b ≠ q := fun e => by have m := m.1; rw [e, hq] at m; cases m
    exact ⟨by rw [upd_ne n]; exact h, by rw [mdel_ne n]; exact m.1, m.2⟩, fun b z => ⟨upd_ne (w.zneM hq b z), mdel_ne (w.zneM hq b z)⟩⟩
theorem frz_w {Z : Zn} {H : Hp} {q : Addr} {u : MO} {x : HO} (w : Wd X.K M Z H) (hq : M q = some u) : Wd X.K (mdel M q) Z (upd H q x) := ⟨fun c v e => by
    by_cases hc : c = q
    · subst hc; rw [mdel_same] at e; cases e
    · rw [mdel_ne hc] at e
      exact (w.1 c v e).step (frz_x w hq) (upd_ne hc), fun b z => by
    obtain ⟨m, v, h⟩ := w.2 b z
    exact ⟨by rw [mdel_ne (w.zneM hq b z)]; exact m, v, by rw [upd_ne (w.zneM hq b z)]; exact h⟩⟩
theorem frz_r {Z : Zn} {H : Hp} {q : Addr} {kvs : List (Key × D)} {od : Obj} {vs : List (Key × V)} (w : Wd X.K M Z H) (hq : M q = some (.dK kvs)) (r : RepK X.K M Z H vs kvs) : Rep X.K (mdel M q) Z (upd H q (.frz od (.dK vs))) (.ref q) (.fdK kvs) :=
  .fdK (o := od) (vs := vs) upd_same ⟨mdel_same, fun z => by have := (w.2 q z).1; rw [hq] at this; cases this⟩ (r.mono (frz_x w hq))
theorem set_self {α : Type} {l : List α} {i : Nat} {v : α} (hv : l[i]? = some v) : l.set i v = l := by
  apply List.ext_getElem?
  intro j
  by_cases hj : i = j
  · subst hj
    rw [List.getElem?_set_self (List.getElem?_eq_some_iff.mp hv).1, hv]
  · rw [List.getElem?_set_ne hj]
/-- a dict in a slot -/
theorem wss_frz {i : Nat} {q : Addr} {kvs : List (Key × D)} (hi : ρ[i]? = some (some (.ob q))) (hq : M q = some (.dK kvs)) (h : WSs X (ρ.set i (some (.fdK kvs))) (mdel M q) ss Ψ) : WSs X ρ M ss Ψ := .mk fun {Z} σ H E en w k => by
  intro pins s I
  obtain ⟨v, hv, r⟩ := en.get hi
  cases r
  obtain ⟨vs, hH, rs⟩ := w.1 q _ hq
  obtain ⟨od, I2⟩ := I.lock hH trivial
  have en2 := (en.mono (frz_x (x := .frz od (.dK vs)) w hq)).set (frz_r (od := od) w hq rs) i
  rw [set_self hv] at en2
  exact h.run σ _ E en2 (frz_w w hq) (k.step (frz_x w hq)) pins s I2
def keysD (kvs : List (Key × D)) : List D := kvs.map fun kv => keyD kv.1
theorem sq_keys {K : PySem.W.Frag} {M1 : Mp} {Z1 : Zn} {H1 : Hp} {q : Addr} {od : Obj} {vs : List (Key × V)} {kvs : List (Key × D)} (hq : H1 q = some (.frz od (.dK vs))) (m : Im M1 Z1 q) (rs : RepK K M1 Z1 H1 vs kvs) : Sq K M1 Z1 H1 (Itk q od vs) (keysD kvs) := fun i M Z H x w => by
  have h1 := (x _ _ hq m).1
  have r2 := rs.monoI x
  refine ⟨fun hi => ⟨h1, ?_⟩, fun d hd => ?_⟩
  · rw [hi, r2.length]; unfold keysD; rw [List.length_map]; exact Nat.le_refl _
  · unfold keysD at hd
    rw [List.getElem?_map] at hd
    obtain ⟨⟨k, y⟩, hk, rfl⟩ := Option.map_eq_some_iff.mp hd
    obtain ⟨v, hv, rv⟩ := r2.get hk
    refine ⟨⟨h1, (List.getElem?_eq_some_iff.mp hv).1⟩, fun z H2 yl => ?_⟩
    obtain ⟨rfl, k', v', hkv, rfl⟩ := yl
    rw [hv] at hkv; cases hkv
    exact ⟨Ext.refl, w, keyD_rep k⟩
theorem wi_fkeys {Φ : List D → Mp → Prop} (h : WE X ρ M e fun d M1 => ∃ kvs, d = .fdK kvs ∧ Φ (keysD kvs) M1) : WI X ρ M tg e Φ := .mk fun {Z} σ H R en w k =>
  iOf (pi_keys pe_sem) (h.run σ H _ en w fun v d H1 M1 e1 w1 r1 hz => by
    obtain ⟨kvs, rfl, hz⟩ := hz
    cases r1 with
    | fdK hH m rs => exact ⟨_, _, rfl, .inl ⟨_, hH, k _ _ _ M1 e1 w1 (sq_keys hH m rs) hz⟩⟩)
theorem we_fget (hu : X.A.units + 1 < cLine) (h : WE X ρ M a fun x M1 => WE X ρ M1 b fun y M2 => ∃ kvs k d, x = .fdK kvs ∧ y = keyD k ∧ valK kvs k = some d ∧ Φ d M2) (hs : NoSl b := by exact fun _ _ => rfl) : WE X ρ M (.Subscript a b pos) Φ := .mk fun {Z} σ H Q en w k =>
  eOf (pe_dget hu pe_sem pe_sem hs) (bind2 h en w fun v u x y H2 M2 e2 w2 r1 r2 hz => by
    obtain ⟨kvs, z, d, rfl, rfl, hv, hz⟩ := hz
    cases r1 with
    | fdK hH m rs =>
      obtain ⟨v, h1, rv⟩ := rs.val hv
      have e : u = kV z := by cases z <;> (cases r2; rfl)
      subst e
      exact ⟨_, v, rfl, .inl ⟨_, z, .inr ⟨_, hH⟩, rfl, h1.symm⟩, (k.step e2).now w2 rv hz⟩)
end
end DL
namespace DL
open PySem PySem.Spec PyProof.Rows L2
mutual
/-- plain data as a key -/
def nkP : PyData → Option NestedKey
  | .none => some .none
  | .bool b => some (.num (if b = true then 1 else 0))
  | .int i => some (.num i)
  | .str x => some (.text x)
  | .tuple ds => (nkPs ds).map .tup
  | _ => none
def nkPs : List PyData → Option (List NestedKey)
  | [] => some []
  | d :: ds => (nkP d).bind fun k => (nkPs ds).map (k :: ·)
end
mutual
theorem nk_py : ∀ {d : D} {k : NestedKey}, nkD d = some k → ∃ p, toPy d = some p ∧ nkP p = some k
  | .non, k, h => ⟨.none, by simp [toPy], by rw [nkD] at h; rw [nkP]; exact h⟩
  | .bl b, k, h => ⟨.bool b, by simp [toPy], by rw [nkD] at h; rw [nkP]; exact h⟩
  | .int i, k, h => ⟨.int i, by simp [toPy], by rw [nkD] at h; rw [nkP]; exact h⟩
  | .str x, k, h => ⟨.str x, by simp [toPy], by rw [nkD] at h; rw [nkP]; exact h⟩
  | .tup ds, k, h => by
    rw [nkD] at h
    obtain ⟨ks, h1, rfl⟩ := Option.map_eq_some_iff.mp h
    obtain ⟨ps, e1, e2⟩ := nks_py h1
    exact ⟨.tuple ps, by rw [toPy, e1]; rfl, by rw [nkP, e2]; rfl⟩
  | .lst _, _, h => by simp [nkD] at h
  | .rol _, _, h => by simp [nkD] at h
  | .dK _, _, h => by simp [nkD] at h
  | .dT _, _, h => by simp [nkD] at h
  | .ins _ _, _, h => by simp [nkD] at h
  | .ty _, _, h => by simp [nkD] at h
  | .fn _, _, h => by simp [nkD] at h
  | .ob _, _, h => by simp [nkD] at h
  | .key _, _, h => by simp [nkD] at h
  | .fig _ _, _, h => by simp [nkD] at h
  | .exc _ _, _, h => by simp [nkD] at h
  | .lam _ _ _ _ _, _, h => by simp [nkD] at h
  | .fdK _, _, h => by simp [nkD] at h
  | .fdN _ _, _, h => by simp [nkD] at h
  | .ptup _, _, h => by simp [nkD] at h
  | .slo _ _, _, h => by simp [nkD] at h
theorem nks_py : ∀ {ds : List D} {ks : List NestedKey}, nkDs ds = some ks → ∃ ps, toPys ds = some ps ∧ nkPs ps = some ks
  | [], ks, h => ⟨[], by simp [toPys], by rw [nkDs] at h; rw [nkPs]; exact h⟩
  | d :: ds, ks, h => by
    rw [nkDs] at h
    obtain ⟨k, h1, h2⟩ := Option.bind_eq_some_iff.mp h
    obtain ⟨r, h3, rfl⟩ := Option.map_eq_some_iff.mp h2
    obtain ⟨p, e1, e2⟩ := nk_py h1
    obtain ⟨ps, e3, e4⟩ := nks_py h3
    exact ⟨p :: ps, by rw [toPys, e1, e3]; rfl, by rw [nkPs, e2, e4]; rfl⟩
end
mutual
theorem nested_of {h : Heap} : ∀ {p : PyData} {u : Value} {as : List Addr} {k : NestedKey}, Reads h u p as → nkP p = some k → NestedIs h k u
  | .none, _, _, _, r, e => by cases r; rw [nkP] at e; cases e; exact .none
  | .bool b, _, _, _, r, e => by cases r; rw [nkP] at e; cases e; exact .bool rfl
  | .int i, _, _, _, r, e => by cases r; rw [nkP] at e; cases e; exact .int _ _
  | .str x, _, _, _, r, e => by cases r; rw [nkP] at e; cases e; exact .text _ _
  | .tuple ds, _, _, _, r, e => by
    rw [nkP] at e
    obtain ⟨ks, e1, rfl⟩ := Option.map_eq_some_iff.mp e
    cases r with
    | tuple h1 h2 h3 r => exact .tup h1 h2 h3 (nesteds_of r e1)
  | .list _, _, _, _, _, e => by simp [nkP] at e
  | .dict _, _, _, _, _, e => by simp [nkP] at e
theorem nesteds_of {h : Heap} : ∀ {ps : List PyData} {us : List Value} {as : List Addr} {ks : List NestedKey}, ReadsAll h us ps as → nkPs ps = some ks → NestedAll h ks us
  | [], _, _, _, r, e => by cases r; rw [nkPs] at e; cases e; exact .nil
  | p :: ps, _, _, _, r, e => by
    rw [nkPs] at e
    obtain ⟨k, e1, e2⟩ := Option.bind_eq_some_iff.mp e
    obtain ⟨r2, e3, rfl⟩ := Option.map_eq_some_iff.mp e2
    cases r with
    | cons ra rb => exact .cons (nested_of ra e1) (nesteds_of rb e3)
end
/-- the tuple at b is the key k -/
def KyN (K : PySem.W.Frag) (H : Hp) (k : NestedKey) (b : Addr) : Prop := k.depth ≤ 8 ∧ ∃ p, Dp K H (.ref b) p ∧ nkP p = some k
def KysN (K : PySem.W.Frag) (H : Hp) (xs : List (NestedKey × Addr × V)) : Prop := ∀ x ∈ xs, KyN K H x.1 x.2.1
def valN (xs : List (NestedKey × Addr × V)) (k : NestedKey) : Option V := (xs.find? fun x => decide (x.1 = k)).map (·.2.2)
def putN (xs : List (NestedKey × Addr × V)) (k : NestedKey) (b : Addr) (v : V) : List (NestedKey × Addr × V) := if (xs.any fun x => decide (x.1 = k)) = true then xs.map (fun x => if x.1 = k then (x.1, x.2.1, v) else x) else xs ++ [(k, b, v)]
abbrev PrN : NestedKey × Addr × V → NestedKey × Addr × Value → Prop := fun p q => p.1 = q.1 ∧ p.2.1 = q.2.1 ∧ RelV p.2.2 q.2.2
theorem paired_at {α β : Type} {F : α → β → Prop} {l : List α} {m : List β} (r : Paired F l m) : ∀ {j : Nat} {x : β}, m[j]? = some x → ∃ y, l[j]? = some y ∧ F y x := by
  induction r with
  | nil => intro j x h; simp at h
  | cons h t ih =>
    intro j x e
    cases j with
    | zero => simp at e; subst e; exact ⟨_, rfl, h⟩
    | succ j =>
      obtain ⟨y, h1, h2⟩ := ih (by simpa using e)
      exact ⟨y, by simpa using h1, h2⟩
section
variable {X : Cx} {pins : List (Addr × Obj)} {σ : L2.St} {H : Hp} {s : Shared} {a : Addr} {xs : List (NestedKey × Addr × V)}
theorem kyN_is (I : Inv X pins σ H s) {k : NestedKey} {b : Addr} (h : KyN X.K H k b) : (nestedKind X.prog X.w).is s.heap k b := by
  obtain ⟨hd, p, dp, e⟩ := h
  obtain ⟨as, r⟩ := Dp.reads I p (.ref b) (.ref b) dp rfl
  exact ⟨nested_of r e, hd⟩
theorem dn_at (I : Inv X pins σ H s) (h : H a = some (DNo X.w a xs)) (hk : KysN X.K H xs) : xs.length ≤ sizeLine ∧ (a == sysModules) = false ∧ ∃ ys, Paired PrN xs ys ∧ s.heap.DictOfH (nestedKind X.prog X.w) a ys := by
  obtain ⟨⟨z, hs, ys, pr, o, es, ep, ho, hx, hd, he, hn⟩, _, _⟩ := I.hok a _ h
  refine ⟨z, hs, ys, pr, o, es, ep, ho, hx, hd, he, fun y hy => ?_, hn⟩
  obtain ⟨i, hi⟩ := List.mem_iff_getElem?.mp hy
  obtain ⟨x, hxi, e1, e2, _⟩ := paired_at pr hi
  rw [← e1, ← e2]
  exact kyN_is I (hk x (List.mem_of_getElem? hxi))
theorem dn_ok {P : Program} {w : World} {H' : Hp} {h' : Heap} {ys : List (NestedKey × Addr × Value)} (z : xs.length ≤ sizeLine) (hs : (a == sysModules) = false) (pr : Paired PrN xs ys) (dd : h'.DictOfH (nestedKind P w) a ys) : ObjOk P w H' h' a (DNo w a xs) := by
  obtain ⟨o, es, ep, ho, hx, hd, he, _, hn⟩ := dd
  refine ⟨⟨z, hs, ys, pr, o, es, ep, ho, hx, hd, he, hn⟩, ⟨o, ho⟩, ?_⟩
  rintro h1 h2 ⟨z, hs, ys, pr, o, es, ep, ho, r⟩ k
  exact ⟨z, hs, ys, pr, o, es, ep, k o ho, r⟩
end
theorem relN_val {k : NestedKey} {xs : List (NestedKey × Addr × V)} {ys : List (NestedKey × Addr × Value)} (r : Paired PrN xs ys) : RelO (valN xs k) ((atKey ys k).map (·.2)) := by
  induction r with
  | nil => exact trivial
  | @cons x y xs ys h t ih =>
    obtain ⟨e1, e2, e3⟩ := h
    unfold valN atKey at ih ⊢
    by_cases e : x.1 = k
    · rw [List.find?_cons_of_pos (by simpa using e), List.find?_cons_of_pos (by rw [← e1]; simpa using e)]
      exact e3
    · rw [List.find?_cons_of_neg (by simpa using e), List.find?_cons_of_neg (by rw [← e1]; simpa using e)]
      exact ih
theorem relN_any {k : NestedKey} {xs : List (NestedKey × Addr × V)} {ys : List (NestedKey × Addr × Value)} (r : Paired PrN xs ys) : (atKey ys k).isSome = xs.any fun x => decide (x.1 = k) := by
  induction r with
  | nil => rfl
  | @cons x y xs ys h t ih =>
    obtain ⟨e1, e2, e3⟩ := h
    unfold atKey at ih ⊢
    rw [List.any_cons]
    by_cases e : x.1 = k
    · rw [List.find?_cons_of_pos (by rw [← e1]; simpa using e), decide_eq_true e]; rfl
    · rw [List.find?_cons_of_neg (by rw [← e1]; simpa using e), decide_eq_false e, Bool.false_or]
      exact ih
theorem relN_map {k : NestedKey} {v : V} {u : Value} (ru : RelV v u) {xs : List (NestedKey × Addr × V)} {ys : List (NestedKey × Addr × Value)} (r : Paired PrN xs ys) : Paired PrN (xs.map fun x => if x.1 = k then (x.1, x.2.1, v) else x) (ys.map (putAt k u)) := by
  induction r with
  | nil => exact .nil
  | @cons x y xs ys h t ih =>
    obtain ⟨e1, e2, e3⟩ := h
    rw [List.map_cons, List.map_cons]
    refine .cons ?_ ih
    unfold putAt
    by_cases e : x.1 = k
    · rw [if_pos e, if_pos (by rw [← e1]; exact e)]; exact ⟨e1, e2, ru⟩
    · rw [if_neg e, if_neg (by rw [← e1]; exact e)]; exact ⟨e1, e2, e3⟩
theorem relN_snoc {x : NestedKey × Addr × V} {y : NestedKey × Addr × Value} (h : PrN x y) {xs : List (NestedKey × Addr × V)} {ys : List (NestedKey × Addr × Value)} (r : Paired PrN xs ys) : Paired PrN (xs ++ [x]) (ys ++ [y]) := by
  induction r with
  | nil => exact .cons h .nil
  | cons h1 t ih => exact .cons h1 ih
theorem relN_put {k : NestedKey} {b : Addr} {v : V} {u : Value} (ru : RelV v u) {xs : List (NestedKey × Addr × V)} {ys : List (NestedKey × Addr × Value)} (r : Paired PrN xs ys) : Paired PrN (putN xs k b v) (storedH ys k b u) := by
  unfold putN storedH
  rw [relN_any r]
  split
  · exact relN_map ru r
  · exact relN_snoc ⟨rfl, rfl, ru⟩ r
theorem putN_len (xs : List (NestedKey × Addr × V)) (k : NestedKey) (b : Addr) (v : V) : (putN xs k b v).length ≤ xs.length + 1 := by
  unfold putN
  split
  · rw [List.length_map]; omega
  · rw [List.length_append]; exact Nat.le_refl _
section
variable {X : Cx} {pins : List (Addr × Obj)} {σ : L2.St} {H : Hp} {s : Shared} {a b : Addr} {xs : List (NestedKey × Addr × V)} {k : NestedKey} {v : V} {u : Value} {A : Around} {E : Value → Shared → Prop}
/-- d[k] = v -/
theorem dn_set {Q : Unit → Shared → Prop} (hu : A.units + 9 < cLine) (I : Inv X pins σ H s) (h : H a = some (DNo X.w a xs)) (hk : KysN X.K H xs) (kb : KyN X.K H k b) (rv : RelV v u) (hl : xs.length < sizeLine) (hq : ∀ s', Inv X pins σ (upd H a (DNo X.w a (putN xs k b v))) s' → Q () s') :
    wpAny (model X.prog X.w) A (setItem (.ref a) (.ref b) u) Q E s := by
  obtain ⟨z, hs, ys, pr, dd⟩ := dn_at I h hk
  have hz : ys.length ≤ sizeLine := by have e := Paired.length pr; omega
  refine wpAny_setItem_heap (hsz := hz) (knd := nestedKind X.prog X.w) (show A.in1.units + 8 < cLine by show A.units + 1 + 8 < cLine; omega) (kyN_is I kb) dd fun h' dd' sb => hq _ ?_
  have he : ∃ q, h'.get? a = some q := let ⟨q, _, _, hq, _⟩ := dd'; ⟨q, hq⟩
  exact d_write I (by rw [h]; exact True.intro) sb he (dn_ok (by have := putN_len xs k b v; omega) hs (relN_put rv pr) dd')
/-- d.get(k, x) -/
theorem dn_get {r : Value} {d : V} {Q : Value → Shared → Prop} (hu : A.units + 9 < cLine) (I : Inv X pins σ H s) (h : H a = some (DNo X.w a xs)) (hk : KysN X.K H xs) (kb : KyN X.K H k b) (rd : RelV d r) (hq : ∀ w' s', Inv X pins σ H s' → RelV ((valN xs k).getD d) w' → Q w' s') :
    wpAny (model X.prog X.w) A (call (.builtin "dict.get") [.ref a, .ref b, r]) Q E s := by
  obtain ⟨z, hs, ys, pr, dd⟩ := dn_at I h hk
  refine call_meetsIn PySem.F.slot_dict_get dd.typeIs PySem.F.entry_dict_get (PySem.F.args_dict_get_3 _ _ _) (meetsH_dict_get_default (nestedKind X.prog X.w) a b hs r) ⟨show A.in1.units + 8 < cLine by show A.units + 1 + 8 < cLine; omega, k, ys, kyN_is I kb, dd, hq _ _ (I.tok _) ?_⟩
  exact (relN_val pr).getD rd
end
end DL
namespace DL
open PySem PySem.Spec PyProof.Rows L2
def valDN (kvs : List (D × D)) (k : NestedKey) : Option D := (kvs.find? fun q => decide (nkD q.1 = some k)).map (·.2)
def putDN (kvs : List (D × D)) (dk : D) (k : NestedKey) (d : D) : List (D × D) := if (kvs.any fun q => decide (nkD q.1 = some k)) = true then kvs.map (fun q => if nkD q.1 = some k then (q.1, d) else q) else kvs ++ [(dk, d)]
section
variable {K : PySem.W.Frag} {M : Mp} {Z : Zn} {H : Hp} {k : NestedKey} {d : D} {v : V}
theorem RepN.kys {xs : List (NestedKey × Addr × V)} {kvs : List (D × D)} (r : RepN K M Z H xs kvs) : KysN K H xs := by
  induction r using RepN.ind with
  | nil => exact fun x h => (by cases h)
  | cons hk dp rk r t ih =>
    intro x hx
    rcases List.mem_cons.mp hx with rfl | hx
    · obtain ⟨p, e1, e2⟩ := nk_py hk
      exact ⟨dp, p, rk.dp e1, e2⟩
    · exact ih x hx
theorem RepN.length {xs : List (NestedKey × Addr × V)} {kvs : List (D × D)} (r : RepN K M Z H xs kvs) : xs.length = kvs.length := by
  induction r using RepN.ind with
  | nil => rfl
  | cons hk dp rk r t ih => rw [List.length_cons, List.length_cons, ih]
theorem RepN.val {xs : List (NestedKey × Addr × V)} {kvs : List (D × D)} (r : RepN K M Z H xs kvs) : (valN xs k = none ∧ valDN kvs k = none) ∨ ∃ v d, valN xs k = some v ∧ valDN kvs k = some d ∧ Rep K M Z H v d := by
  induction r using RepN.ind with
  | nil => exact .inl ⟨rfl, rfl⟩
  | @cons j a v dk d xs kvs hk dp rk r t ih =>
    unfold valN valDN at ih ⊢
    by_cases e : j = k
    · subst e
      rw [List.find?_cons_of_pos (by simp), List.find?_cons_of_pos (by simpa using hk)]
      exact .inr ⟨_, _, rfl, rfl, r⟩
    · rw [List.find?_cons_of_neg (by simpa using e), List.find?_cons_of_neg (by rw [hk]; simpa using e)]
      exact ih
theorem RepN.any {xs : List (NestedKey × Addr × V)} {kvs : List (D × D)} (r : RepN K M Z H xs kvs) : (xs.any fun x => decide (x.1 = k)) = kvs.any fun q => decide (nkD q.1 = some k) := by
  induction r using RepN.ind with
  | nil => rfl
  | cons hk dp rk r t ih =>
    rw [List.any_cons, List.any_cons, ih, hk]
    congr 1
    exact decide_eq_decide.mpr ⟨fun e => congrArg some e, fun e => Option.some.inj e⟩
theorem RepN.put {xs : List (NestedKey × Addr × V)} {kvs : List (D × D)} {b : Addr} {dk : D} (hk : nkD dk = some k) (dp : k.depth ≤ 8) (rk : Rep K M Z H (.ref b) dk) (rv : Rep K M Z H v d) (r : RepN K M Z H xs kvs) : RepN K M Z H (putN xs k b v) (putDN kvs dk k d) := by
  unfold putN putDN
  rw [r.any]
  split
  · rename_i hh
    clear hh hk rk
    induction r using RepN.ind with
    | nil => exact .nil
    | @cons j a v0 dk0 d0 xs kvs hk0 dp0 rk0 r0 t ih =>
      rw [List.map_cons, List.map_cons]
      by_cases e : j = k
      · subst e
        rw [if_pos rfl, if_pos hk0]
        exact .cons hk0 dp0 rk0 rv ih
      · rw [if_neg e, if_neg (fun z => e (Option.some.inj (hk0.symm.trans z)))]
        exact .cons hk0 dp0 rk0 r0 ih
  · rename_i hh
    clear hh
    induction r using RepN.ind with
    | nil => exact .cons hk dp rk rv .nil
    | cons hk0 dp0 rk0 r0 t ih => exact .cons hk0 dp0 rk0 r0 ih
end
section
variable {X : Cx} {pos : Pos}
def tDNewN (w : World) : TE := fun _ H Q => ∀ p, H p = none → Q (.ref p) (upd H p (DNo w p []))
theorem pe_dnewN : PE X (.Dict [] [] pos) (tDNewN X.w) := ⟨fun pins s σ H Q I h => by
  have hs := (dt_empty (P := X.prog) (w := X.w) (H := H) s.heap I.big).2.1
  exact wpAny_Dict_empty ⟨.ref s.heap.objs.size, _, I.laid (a := s.heap.objs.size) (o := DNo X.w s.heap.objs.size []) (t' := s.toks) (fun _ _ q => Heap.get?_push_of_some _ q) (Nat.le_refl _) (dn_ok (Nat.zero_le _) hs .nil (Heap.DictOfH.new s.heap)), rfl, h _ (I.hok.fresh (Nat.le_refl _))⟩⟩
def rSetN (X : Cx) : TSet := fun o i v H Q => ∃ a b k xs, o = .ref a ∧ i = .ref b ∧ H a = some (DNo X.w a xs) ∧ KysN X.K H xs ∧ KyN X.K H k b ∧ xs.length < sizeLine ∧ Q (upd H a (DNo X.w a (putN xs k b v)))
theorem set_dictN (hu : X.A.units + 9 < cLine) : PSet X (rSetN X) := by
  intro pins s σ H o i v ov iv u Q I ro ri rv h
  obtain ⟨a, b, k, xs, rfl, rfl, ha, hk, kb, hl, q⟩ := h
  cases (show ov = Value.ref a from ro)
  cases (show iv = Value.ref b from ri)
  exact dn_set hu I ha hk kb rv hl fun s' I' => ⟨_, I', q⟩
def tDGetN (X : Cx) (td ty tx : TE) : TE := fun σ H Q => td σ H fun x H1 => ∃ a xs0, x = .ref a ∧ H1 a = some (DNo X.w a xs0) ∧ ty σ H1 fun y H2 => tx σ H2 fun z H3 => ∃ b k xs, y = .ref b ∧ H3 a = some (DNo X.w a xs) ∧ KysN X.K H3 xs ∧ KyN X.K H3 k b ∧ Q ((valN xs k).getD z) H3
theorem pe_dgetN {o e f : Expr} {apos cpos : Pos} {td ty tx : TE} (hu : X.A.units + 9 < cLine) (ho : PE X o td) (he : PE X e ty) (hf : PE X f tx) (m : M2 X o "get" apos e f cpos) : PE X (.Call (.Attribute o "get" apos) [e, f] [] cpos) (tDGetN X td ty tx) := ⟨fun pins s σ H Q I0 h0 => by
  refine wpAny_Call_method m.base m.few m.line PySem.F.plainAttrs_dict PySem.F.slot_dict_get PySem.F.type_dict_get (thn (ho.run pins s σ H _ I0 h0) fun u s1 ⟨x, H1, I1, rx, a, xs0, ex, ha, q1⟩ => ?_)
  subst ex
  cases (show u = Value.ref a from rx)
  obtain ⟨⟨_, _, ys, _, ob, es, ep, g1, g2, _⟩, _, _⟩ := I1.hok a _ ha
  refine ⟨⟨ob, g1, g2.1⟩, fun b q => by cases q; exact ⟨ob, g1, g2.2.1⟩, ?_⟩
  rw [m.trees]
  refine Calls.callWith_builtin rfl (Calls.evalArgs_plain (Calls.spliced_cons (thn (he.run pins s1 σ H1 _ I1 q1) fun iv s2 ⟨y, H2, I2, ry, q2⟩ => ?_)))
  refine Calls.spliced_cons (thn (hf.run pins s2 σ H2 _ I2 q2) fun fv s3 ⟨z, H3, I3, rz, b, k, xs, ey, hb, hk, kb, q3⟩ => Calls.spliced_nil ?_)
  subst ey
  cases (show iv = Value.ref b from ry)
  exact dn_get hu I3 hb hk kb rz fun w' s4 I4 rw' => ⟨_, H3, I4, rw', q3⟩⟩
end
section
variable {X : Cx} {ρ : Rho} {M : Mp} {Φ : D → Mp → Prop} {o i e f : Expr} {apos pos : Pos}
theorem we_dnewN (h : ∀ p, M p = none → Φ (.ob p) (mset M p (.dN X.w []))) : WE X ρ M (.Dict [] [] pos) Φ := .mk fun σ H Q en w k =>
  eOf pe_dnewN fun p hp => k _ (.ob p) _ (mset M p (.dN X.w [])) (Ext.newM w hp) (w.newM hp ⟨[], upd_same, .nil⟩) (.ob p) (h p (w.fresh hp).1)
theorem wg_dputN {d : D} {Ω : Rho → Mp → Prop} (hu : X.A.units + 9 < cLine) (h : WE X ρ M o fun x M1 => WE X ρ M1 i fun y M2 => ∃ q kvs ds k, x = .ob q ∧ y = .tup ds ∧ nkD y = some k ∧ k.depth ≤ 8 ∧ M2 q = some (.dN X.w kvs) ∧ kvs.length < sizeLine ∧ Ω ρ (mset M2 q (.dN X.w (putDN kvs y k d))))
    (ha : ∀ v, assign (.Subscript o i pos) X.env v = (do
      let ov ← holding [v] (eval o X.env)
      let iv ← holding [v, ov] (eval i X.env)
      standAt pos
      holding [v, ov, iv] (setItem ov iv v)
      release [v, ov, iv] []) := by intro _; rfl) : WG X (.Subscript o i pos) d ρ M Ω := .mk fun {Z} σ H v Q en w r k =>
  gOf (pg_sub pe_sem pe_sem (set_dictN hu) ha) (bind2 h en w fun v1 v2 x y H2 M2 e2 w2 r1 r2 hz => by
    obtain ⟨q, kvs, ds, kk, rfl, ey, hk, hd, hM, hl, hz⟩ := hz
    cases r1
    obtain ⟨xs, hx, rs⟩ := w2.1 q _ hM
    obtain ⟨b, rfl⟩ : ∃ b, v2 = V.ref b := by
      rw [ey] at r2
      cases r2 <;> exact ⟨_, rfl⟩
    obtain ⟨p, e1, e3⟩ := nk_py hk
    refine ⟨q, b, kk, xs, rfl, rfl, hx, rs.kys, ⟨hd, p, r2.dp e1, e3⟩, by rw [rs.length]; exact hl, ?_⟩
    have x3 : Ext M2 _ H2 (mset M2 q (.dN X.w (putDN kvs y kk d))) (upd H2 q (DNo X.w q (putN xs kk b v))) := Ext.put w2 hM
    exact k σ ρ _ _ (e2.trans x3) (w2.put hM ⟨_, upd_same, RepN.put hk hd (r2.mono x3) ((r.mono e2).mono x3) (rs.monoI x3.i)⟩) (en.mono (e2.trans x3)) hz)
theorem we_dgetN (hu : X.A.units + 9 < cLine) (h : WE X ρ M o fun x M1 => ∃ q kvs0, x = .ob q ∧ M1 q = some (.dN X.w kvs0) ∧ WE X ρ M1 e fun y M2 => WE X ρ M2 f fun z M3 => ∃ kvs ds k, y = .tup ds ∧ nkD y = some k ∧ k.depth ≤ 8 ∧ M3 q = some (.dN X.w kvs) ∧ Φ ((valDN kvs k).getD z) M3)
    (m : M2 X o "get" apos e f pos := by exact ⟨rfl, rfl, rfl, rfl⟩) : WE X ρ M (.Call (.Attribute o "get" apos) [e, f] [] pos) Φ := .mk fun {Z} σ H Q en w k =>
  eOf (pe_dgetN hu pe_sem pe_sem pe_sem m) (h.run σ H _ en w fun v x H1 M1 e1 w1 r1 hz => by
    obtain ⟨q, kvs0, rfl, hq0, hz⟩ := hz
    cases r1
    obtain ⟨xs0, hx0, _⟩ := w1.1 q _ hq0
    refine ⟨q, xs0, rfl, hx0, hz.run σ H1 _ (en.mono e1) w1 fun u y H2 M2 e2 w2 r2 hz => hz.run σ H2 _ (en.mono (e1.trans e2)) w2 fun t z H3 M3 e3 w3 r3 hz3 => ?_⟩
    obtain ⟨kvs, ds, kk, ey, hk, hd, hM, hz3⟩ := hz3
    obtain ⟨xs, hx, rs⟩ := w3.1 q _ hM
    have r2 := r2.mono e3
    obtain ⟨b, rfl⟩ : ∃ b, u = V.ref b := by
      rw [ey] at r2
      cases r2 <;> exact ⟨_, rfl⟩
    obtain ⟨p, p1, p2⟩ := nk_py hk
    refine ⟨b, kk, xs, rfl, hx, rs.kys, ⟨hd, p, r2.dp p1, p2⟩, ?_⟩
    have ks := k.step ((e1.trans e2).trans e3)
    rcases rs.val (k := kk) with ⟨a1, a2⟩ | ⟨v, d, a1, a2, rv⟩
    · rw [a1]
      rw [a2] at hz3
      exact ks.now w3 r3 hz3
    · rw [a1]
      rw [a2] at hz3
      exact ks.now w3 rv hz3)
end
end DL
namespace DL
open PySem PySem.Spec PyProof.Rows L2
/-- the pairs as data -/
def itemsN (kvs : List (D × D)) : List D := kvs.map fun q => .tup [q.1, q.2]
theorem RepN.get {K : PySem.W.Frag} {M : Mp} {Z : Zn} {H : Hp} {xs : List (NestedKey × Addr × V)} {kvs : List (D × D)} (r : RepN K M Z H xs kvs) : ∀ {i : Nat} {q : D × D}, kvs[i]? = some q → ∃ k b v, xs[i]? = some (k, b, v) ∧ Rep K M Z H (.ref b) q.1 ∧ Rep K M Z H v q.2 := by
  induction r using RepN.ind with
  | nil => intro i q h; simp at h
  | cons hk dp rk r t ih =>
    intro i q h
    cases i with
    | zero => simp at h; subst h; exact ⟨_, _, _, rfl, rk, r⟩
    | succ i =>
      obtain ⟨k, b, v, h1, h2, h3⟩ := ih (by simpa using h)
      exact ⟨k, b, v, by simpa using h1, h2, h3⟩
end DL
namespace DL
open PySem PySem.Spec PyProof.Rows L2
theorem vals_prN {xs : List (NestedKey × Addr × V)} {ys : List (NestedKey × Addr × Value)} (r : Paired PrN xs ys) : Vals (xs.map fun x => x.2.2) (ys.map fun y => y.2.2) := by
  induction r with
  | nil => exact .nil
  | cons h t ih => exact .cons h.2.2 ih
section
variable {X : Cx} {e : Expr} {te : TE} {p pos apos cpos : Pos}
def tListValsN (w : World) (te : TE) : TE := fun σ H Q => te σ H fun x H1 => ∃ d xs, x = .ref d ∧ H1 d = some (DNo w d xs) ∧ ∀ q, H1 q = none → Q (.ref q) (upd H1 q (.lst (xs.map fun x => x.2.2)))
theorem pe_listValsN (hc : X.calm = true) (he : PE X e te) (hg : Gl X "list") (hm : X.mg "list" = none) (hv : bootBuiltins "list" = some (.type "list")) (hbase : attributeBase e "values" X.env (eval e X.env) = eval e X.env := by rfl) (hline : (apos.endLine == cpos.line) = true := by rfl)
    (hs : starEach [.Call (.Attribute e "values" apos) [] [] cpos] X.env = (false, eval (.Call (.Attribute e "values" apos) [] [] cpos) X.env) :: starEach [] X.env := by rfl) :
    PE X (.Call (.Name "list" p) [.Call (.Attribute e "values" apos) [] [] cpos] [] pos) (tListValsN X.w te) := ⟨fun pins s σ H Q I0 h0 => by
  refine wpAny_Call_Name_kw (ld_blt I0 hg hm hv ?_)
  refine PyProof.Rows.callWith_type1 ?_ hs rfl
  rw [hs]
  show wpAny _ _ (spliced ((false, eval (.Call (.Attribute e "values" apos) [] [] cpos) X.env) :: backTo pos (starEach [] X.env))) _ _ s
  refine Calls.spliced_cons ?_
  refine wpAny_Call_method (T := "dict") (id := "dict.values") hbase rfl hline PySem.F.plainAttrs_dict PySem.F.slot_dict_values PySem.F.type_dict_values (thn (he.run pins s σ H _ I0 h0) fun u s1 ⟨x, H1, I1, rx, d, xs, ex, hd, q⟩ => ?_)
  subst ex
  cases (show u = Value.ref d from rx)
  obtain ⟨⟨z, hs0, ys, pr, o, es, ep, ho, hx, hdt, he0, _⟩, _, _⟩ := I1.hok d _ hd
  have raw : s1.heap.DictRaw d es ep := ⟨o, ho, hx, hdt⟩
  have I2 : Inv X pins σ H1 { s1 with heap := s1.heap.push { cls := .type "dict_values", data := .fields #[.ref d] } } := I1.kept (t' := s1.toks) fun b ob q => Heap.get?_push_of_some _ q
  have l1 : es.size = xs.length := by
    have a : es.toList.length = ys.length := by rw [he0, List.length_map]
    have b : xs.length = ys.length := Paired.length pr
    rw [Array.length_toList] at a
    omega
  refine ⟨raw.typeIs, fun b q => by cases q; exact ⟨o, ho, hx.2.1⟩, ?_⟩
  show wpAny _ _ (callWith cpos (.builtin "dict.values") [.ref d] [] []) _ X.xe s1
  refine method_meetsIn PySem.F.slot_dict_values PySem.F.entry_dict_values rfl (PySem.evalArgs_none ⟨rfl, raw.typeIs, PySem.F.args_dict_values_1 _, _, meets_dict_values_raw d hs0, ⟨es, ep, raw⟩, ?_⟩)
  refine Calls.spliced_nil ?_
  refine PySem.W.kdl_call (KdlSrc.rawValues (d := d) (es := es) (ep := ep)) (I1.ok.hd hc) ⟨⟨_, Heap.get?_push_size _ rfl, rfl, rfl⟩, raw.at fun o q => Heap.get?_push_of_some _ q⟩ (by omega) fun h' tk acc c hk hS hacc => ?_
  have ea : acc.toList = ys.map fun y => y.2.2 := by
    have b : xs.length = ys.length := Paired.length pr
    have hsz := hacc.1
    refine List.ext_getElem (by rw [Array.length_toList, List.length_map]; omega) fun j h1 h2 => ?_
    rw [Array.length_toList] at h1
    obtain ⟨hj, hv⟩ := hacc.2 j acc[j] (Array.getElem?_eq_getElem h1)
    rw [Array.getElem_toList, hv, List.getElem_map]
    have e1 : es.toList[j]? = (ys.map (entN X.w))[j]? := by rw [he0]
    have hy : j < ys.length := by omega
    rw [Array.getElem?_toList, Array.getElem?_eq_getElem hj, List.getElem?_map, List.getElem?_eq_getElem hy] at e1
    have e2 : es[j] = entN X.w ys[j] := Option.some.inj e1
    rw [e2]; rfl
  refine ⟨.ref _, _, I2.laid (t' := tk) (o := .lst (xs.map fun x => x.2.2)) (fun b u q => hk b u q) (Nat.le_refl _) ⟨by rw [List.length_map]; exact z, acc.toList, c, by rw [ea]; exact vals_prN pr, by simpa using hS⟩, rfl, q _ (I2.hok.fresh (Nat.le_refl _))⟩⟩
end
theorem RepN.vals {K : PySem.W.Frag} {M : Mp} {Z : Zn} {H H' : Hp} {M' : Mp} {Z' : Zn} (x : ExI M Z H M' Z' H') {xs : List (NestedKey × Addr × V)} {kvs : List (D × D)} (r : RepN K M Z H xs kvs) : Reps K M' Z' H' (xs.map fun y => y.2.2) (kvs.map (·.2)) := by
  induction r using RepN.ind with
  | nil => exact .nil
  | cons hk dp rk r t ih => exact .cons (r.monoI x) ih
section
variable {X : Cx} {ρ : Rho} {M : Mp} {Φ : D → Mp → Prop} {e : Expr} {apos cpos p pos : Pos}
theorem we_listValsN (hm : X.mg "list" = none) (h : WE X ρ M e fun d M1 => ∃ q kvs, d = .ob q ∧ M1 q = some (.dN X.w kvs) ∧ Φ (.lst (kvs.map (·.2))) M1) (hc : X.calm = true := by rfl) (hg : Gl X "list" := by rfl)
    (hb : attributeBase e "values" X.env (eval e X.env) = eval e X.env := by rfl) (hline : (apos.endLine == cpos.line) = true := by rfl) (hs : starEach [.Call (.Attribute e "values" apos) [] [] cpos] X.env = (false, eval (.Call (.Attribute e "values" apos) [] [] cpos) X.env) :: starEach [] X.env := by rfl) :
    WE X ρ M (.Call (.Name "list" p) [.Call (.Attribute e "values" apos) [] [] cpos] [] pos) Φ := .mk fun {Z} σ H Q en w k =>
  eOf (pe_listValsN hc pe_sem hg hm (by decide +kernel) hb hline hs) (h.run σ H _ en w fun v d H1 M1 e1 w1 r1 hz => by
    obtain ⟨q, kvs, rfl, hq, hz⟩ := hz
    cases r1
    obtain ⟨xs, hx, rs⟩ := w1.1 q _ hq
    exact ⟨q, xs, rfl, hx, fun t ht => (k.step e1).new w1 ht (.lst upd_same (w1.fresh ht) (rs.vals (Ext.new w1 ht).i)) hz⟩)
end
end DL
namespace DL
open PySem PySem.Spec PyProof.Rows L2
section
variable {X : Cx} {ρ : Rho} {M : Mp} {Φ : D → Mp → Prop} {Θ : Bool → Mp → Prop} {a b e : Expr} {pos p : Pos}
theorem we_anyB (hm : X.mg "any" = none) (h : WE X ρ M e fun d M1 => ∃ bs : List Bool, LstOf M1 d (bs.map D.bl) ∧ Φ (.bl (bs.any id)) M1) (hc : X.calm = true := by rfl) (hg : Gl X "any" := by rfl)
    (he : starEach [e] X.env = (false, eval e X.env) :: starEach [] X.env := by rfl) (hpl : (backTo pos (starEach [] X.env)).any (·.1) = false := by rfl) : WE X ρ M (.Call (.Name "any" p) [e] [] pos) Φ :=
  we_callB (cr_any hc) hm (by decide +kernel) (wa_cons (h.imp fun d M1 h => wa_nil fun Z vs H Q w rr k => by
    obtain ⟨v, rfl, r⟩ := rr.one
    obtain ⟨ns, hl, h⟩ := h
    obtain ⟨q, vs, rfl, hq, rs⟩ := r.asLst w hl
    rw [rs.bls] at hq
    exact ⟨q, ns, rfl, hq, k.now w (.bl _) h⟩) he) hg (he := he) (hpl := hpl)
end
end DL
namespace DL
open PySem PySem.Spec PyProof.Rows L2
section
variable {X : Cx} {pins : List (Addr × Obj)} {σ : L2.St} {H : Hp} {s : Shared} {a b : Addr} {xs : List (NestedKey × Addr × V)} {k : NestedKey} {A : Around} {E : Value → Shared → Prop}
theorem dnf_rd (I : Inv X pins σ H s) (h : Rd H a (DNo X.w a xs)) : DNf X.w a xs s.heap := by
  rcases h with h | ⟨o, h⟩
  · exact (I.hok a _ h).1
  · obtain ⟨_, h, _, _⟩ := I.hok a _ h
    exact h
theorem dn_atR (I : Inv X pins σ H s) (h : Rd H a (DNo X.w a xs)) (hk : KysN X.K H xs) : xs.length ≤ sizeLine ∧ (a == sysModules) = false ∧ ∃ ys, Paired PrN xs ys ∧ s.heap.DictOfH (nestedKind X.prog X.w) a ys := by
  obtain ⟨z, hs, ys, pr, o, es, ep, ho, hx, hd, he, hn⟩ := dnf_rd I h
  refine ⟨z, hs, ys, pr, o, es, ep, ho, hx, hd, he, fun y hy => ?_, hn⟩
  obtain ⟨i, hi⟩ := List.mem_iff_getElem?.mp hy
  obtain ⟨x, hxi, e1, e2, _⟩ := paired_at pr hi
  rw [← e1, ← e2]
  exact kyN_is I (hk x (List.mem_of_getElem? hxi))
theorem dn_getR {r : Value} {d : V} {Q : Value → Shared → Prop} (hu : A.units + 9 < cLine) (I : Inv X pins σ H s) (h : Rd H a (DNo X.w a xs)) (hk : KysN X.K H xs) (kb : KyN X.K H k b) (rd : RelV d r) (hq : ∀ w' s', Inv X pins σ H s' → RelV ((valN xs k).getD d) w' → Q w' s') :
    wpAny (model X.prog X.w) A (call (.builtin "dict.get") [.ref a, .ref b, r]) Q E s := by
  obtain ⟨z, hs, ys, pr, dd⟩ := dn_atR I h hk
  refine call_meetsIn PySem.F.slot_dict_get dd.typeIs PySem.F.entry_dict_get (PySem.F.args_dict_get_3 _ _ _) (meetsH_dict_get_default (nestedKind X.prog X.w) a b hs r) ⟨show A.in1.units + 8 < cLine by show A.units + 1 + 8 < cLine; omega, k, ys, kyN_is I kb, dd, hq _ _ (I.tok _) ?_⟩
  exact (relN_val pr).getD rd
theorem dnr_type (I : Inv X pins σ H s) (h : Rd H a (DNo X.w a xs)) : s.TypeIs (.ref a) "dict" ∧ ∃ ob, s.heap.get? a = some ob ∧ ob.dict = none := by
  obtain ⟨z, hs, ys, pr, o, es, ep, ho, hx, hd, he, hn⟩ := dnf_rd I h
  exact ⟨⟨o, ho, hx.1⟩, o, ho, hx.2.1⟩
end
section
variable {X : Cx} {o e f : Expr} {apos cpos pos : Pos} {td ty tx : TE}
def tGetNR (X : Cx) (td ty tx : TE) : TE := fun σ H Q => td σ H fun x H1 => ∃ a xs0, x = .ref a ∧ Rd H1 a (DNo X.w a xs0) ∧ ty σ H1 fun y H2 => tx σ H2 fun z H3 => ∃ b k xs, y = .ref b ∧ Rd H3 a (DNo X.w a xs) ∧ KysN X.K H3 xs ∧ KyN X.K H3 k b ∧ Q ((valN xs k).getD z) H3
theorem pe_getNR (hu : X.A.units + 9 < cLine) (ho : PE X o td) (he : PE X e ty) (hf : PE X f tx) (m : M2 X o "get" apos e f cpos) : PE X (.Call (.Attribute o "get" apos) [e, f] [] cpos) (tGetNR X td ty tx) := ⟨fun pins s σ H Q I0 h0 => by
  refine wpAny_Call_method m.base m.few m.line PySem.F.plainAttrs_dict PySem.F.slot_dict_get PySem.F.type_dict_get (thn (ho.run pins s σ H _ I0 h0) fun u s1 ⟨x, H1, I1, rx, a, xs0, ex, ha, q1⟩ => ?_)
  subst ex
  cases (show u = Value.ref a from rx)
  obtain ⟨t1, t2⟩ := dnr_type I1 ha
  refine ⟨t1, fun b q => by cases q; exact t2, ?_⟩
  rw [m.trees]
  refine Calls.callWith_builtin rfl (Calls.evalArgs_plain (Calls.spliced_cons (thn (he.run pins s1 σ H1 _ I1 q1) fun iv s2 ⟨y, H2, I2, ry, q2⟩ => ?_)))
  refine Calls.spliced_cons (thn (hf.run pins s2 σ H2 _ I2 q2) fun fv s3 ⟨z, H3, I3, rz, b, k, xs, ey, hb, hk, kb, q3⟩ => Calls.spliced_nil ?_)
  subst ey
  cases (show iv = Value.ref b from ry)
  exact dn_getR hu I3 hb hk kb rz fun w' s4 I4 rw' => ⟨_, H3, I4, rw', q3⟩⟩
end
def keysN (kvs : List (D × D)) : List D := kvs.map (·.1)
section
variable {X : Cx} {ρ : Rho} {M : Mp} {Φ : D → Mp → Prop} {Ψ : DE} {a b o e f tg : Expr} {ss : List Stmt} {pos apos : Pos}
theorem frz_rN {Z : Zn} {H : Hp} {q : Addr} {kvs : List (D × D)} {w0 : World} {od : Obj} {xs : List (NestedKey × Addr × V)} (w : Wd X.K M Z H) (hq : M q = some (.dN w0 kvs)) (r : RepN X.K M Z H xs kvs) : Rep X.K (mdel M q) Z (upd H q (.frz od (DNo w0 q xs))) (.ref q) (.fdN w0 kvs) :=
  .fdN (o := od) (xs := xs) upd_same ⟨mdel_same, fun z => by have := (w.2 q z).1; rw [hq] at this; cases this⟩ (r.monoI (frz_x w hq).i)
/-- a dict in a slot -/
theorem wss_frzN {i : Nat} {q : Addr} {kvs : List (D × D)} {w0 : World} (hi : ρ[i]? = some (some (.ob q))) (hq : M q = some (.dN w0 kvs)) (h : WSs X (ρ.set i (some (.fdN w0 kvs))) (mdel M q) ss Ψ) : WSs X ρ M ss Ψ := .mk fun {Z} σ H E en w k => by
  intro pins s I
  obtain ⟨v, hv, r⟩ := en.get hi
  cases r
  obtain ⟨xs, hH, rs⟩ := w.1 q _ hq
  obtain ⟨od, I2⟩ := I.lock hH trivial
  have en2 := (en.mono (frz_x (x := .frz od (DNo w0 q xs)) w hq)).set (frz_rN (od := od) w hq rs) i
  rw [set_self hv] at en2
  exact h.run σ _ E en2 (frz_w w hq) (k.step (frz_x w hq)) pins s I2
theorem key_at {K : PySem.W.Frag} {M : Mp} {Z : Zn} {H : Hp} {u : V} {y : D} {ds : List D} {k : NestedKey} (r2 : Rep K M Z H u y) (ey : y = .tup ds) (hk : nkD y = some k) (hd : k.depth ≤ 8) : ∃ b, u = V.ref b ∧ KyN K H k b := by
  obtain ⟨b, rfl⟩ : ∃ b, u = V.ref b := by
    rw [ey] at r2
    cases r2 <;> exact ⟨_, rfl⟩
  obtain ⟨p, e1, e3⟩ := nk_py hk
  exact ⟨b, rfl, hd, p, r2.dp e1, e3⟩
/-- d.get(k, x) -/
theorem we_getNR (hu : X.A.units + 9 < cLine) (h : WE X ρ M o fun x M1 => ∃ kvs, x = .fdN X.w kvs ∧ WE X ρ M1 e fun y M2 => WE X ρ M2 f fun z M3 => ∃ ds k, y = .tup ds ∧ nkD y = some k ∧ k.depth ≤ 8 ∧ Φ ((valDN kvs k).getD z) M3)
    (m : M2 X o "get" apos e f pos := by exact ⟨rfl, rfl, rfl, rfl⟩) : WE X ρ M (.Call (.Attribute o "get" apos) [e, f] [] pos) Φ := .mk fun {Z} σ H Q en w k =>
  eOf (pe_getNR hu pe_sem pe_sem pe_sem m) (h.run σ H _ en w fun v x H1 M1 e1 w1 r1 hz => by
    obtain ⟨kvs, rfl, hz⟩ := hz
    cases r1 with
    | @fdN q o0 _ xs _ hH mq rs =>
    refine ⟨q, xs, rfl, .inr ⟨_, hH⟩, hz.run σ H1 _ (en.mono e1) w1 fun u y H2 M2 e2 w2 r2 hz => hz.run σ H2 _ (en.mono (e1.trans e2)) w2 fun t z H3 M3 e3 w3 r3 hz3 => ?_⟩
    obtain ⟨ds, kk, ey, hk, hd, hz3⟩ := hz3
    have e23 := e2.trans e3
    have hH3 := (e23.1 _ _ hH mq).1
    have rs := rs.monoI e23.i
    obtain ⟨b, rfl, kb⟩ := key_at (r2.mono e3) ey hk hd
    refine ⟨b, kk, xs, rfl, .inr ⟨_, hH3⟩, rs.kys, kb, ?_⟩
    have ks := k.step ((e1.trans e2).trans e3)
    rcases rs.val (k := kk) with ⟨a1, a2⟩ | ⟨v, d, a1, a2, rv⟩
    · rw [a1]
      rw [a2] at hz3
      exact ks.now w3 r3 hz3
    · rw [a1]
      rw [a2] at hz3
      exact ks.now w3 rv hz3)
end
end DL
namespace DL
open PySem PySem.Spec PyProof.Rows L2
section
variable {P : Program} {w : World} {K : PySem.W.Frag} {mg : Str → Option Value} {base : Heap} {x qual : Str} {st : Stmt} {kws : List (Str × V)} {f : Addr} {fd : FuncData} {N ps : List Str} {k n : Nat} {c : Con} {cd : Addr}
/-- a body keeps a contract where nothing is being shown; its code object stands at cd -/
def BodyC (P : Program) (w : World) (K : PySem.W.Frag) (mg : Str → Option Value) (base : Heap) (qual : Str) (st : Stmt) (N : List Str) (n k : Nat) (cd : Addr) (c : Con) : Prop :=
  ∀ (f : Addr) (A : Around) (outer : List Env) (s : Shared) (H : Hp) (E : XK), (A.deeper (envOfC qual (defScope st) s.heap.objs.size f (.ref cd))).guards = some [] → Room k (A.deeper (envOfC qual (defScope st) s.heap.objs.size f (.ref cd))) → ∀ ds M Φ, ds.length = n → c ds M Φ →
      WSs (bx P w K mg base N qual (defScope st) f (.ref cd) A outer s H E) (start N ds) M (defBody st) { nx := fun _ M' => Φ .non M', rt := Lets Φ }
theorem fnC_ok {dvs : List V} (F : FunD K x qual (defArgs st) (defBody st) (defScope st) dvs kws f fd) (hcd : fd.code = .ref cd) (S : FnScope N ps (defScope st)) (h : BodyC P w K mg base qual st N ps.length k cd c) : FnG P w K mg base (k + 1) f fd ps (spD K ps.length c) := by
  obtain ⟨oc, od, dV, kV, doc, pm, an, cdv, ct, osl, rfl, lk, hq, _, _⟩ := F.ex
  obtain rfl : cdv = .ref cd := hcd
  have ln : ∀ vs H Q E, spD K ps.length c vs H Q E → vs.length = ps.length := fun vs H Q E q => by
    obtain ⟨ds, M, Z, Φ, hl, r, _⟩ := q
    rw [r.length, hl]
  refine ⟨ln, fun A outer s H args us vs Q E hg hr e0 hb rv hsp => ?_⟩
  have hlen := ln _ _ _ _ hsp
  have hK : K.In s.heap := e0.mod.kin.keeps fun b o z => (e0.bs b o z).1
  have hlim : s.heap.NoLimit := e0.mod.nolimit.keeps fun b o z => (e0.bs b o z).1
  have kinds : ∀ y ∈ ps.zip us, (defScope st).names.lookup y.1 = some .local ∨ ((defScope st).names.lookup y.1 = some .cell ∧ ((cellsFrom (s.heap.objs.size + 1) (defScope st).names []).lookup y.1).isSome = true) := fun y hy => by
    rcases S.par y.1 (List.of_mem_zip hy).1 with z | z
    · exact .inl z
    · exact .inr ⟨z, PySem.W.cellsFrom_some _ _ _ (.inl z)⟩
  refine codeAny_call_function hr.depth (hK _ _ lk) rfl S.co S.gen rfl (PySem.W.codeRec_of hK hq) (hb _ _ _ _ (wpAny_newFunctionEnv_cells S.kind kinds fun env he s1 xx => ?_))
  subst he
  refine ⟨hlim.keeps xx.toInCall.keep, codeAny_func ?_⟩
  obtain ⟨ds, M, Z, Φ, hl, r, wd, hc, kk⟩ := hsp
  have I : Inv (cxOf CX0 P w K mg base N qual (defScope st) f (.ref cd) A outer s H E) [] (L2.start N vs) H s1 := inv_start S hr.hd e0 hlen rv xx
  have body := (h f A outer s H E hg (hr.deeper _) ds M Φ hl hc).run (L2.start N vs) H { nx := fun _ H' => Q .non H', rt := Q } (env_start r) wd ⟨fun σ' ρ' H' M' x w' en z => kk _ .non H' M' x w' .non z, lets_k kk, fun _ _ _ _ _ _ _ z => z.elim, fun _ _ _ _ _ _ _ z => z.elim⟩
  have done : ∀ {σ' : L2.St} {H' : Hp} {v : V} {u : Value} {s' : Shared}, Inv (cxOf CX0 P w K mg base N qual (defScope st) f (.ref cd) A outer s H E) [] σ' H' s' → RelV v u → Q v H' → CE outer P w H s Q u s' := fun {σ' H' v u s'} J ru q => ⟨v, H', J.os, J.bare, J.base, J.hok, ru, q⟩
  refine wpAny_mono ((PSs.nox (pss_sem (X := bx P w K mg base N qual (defScope st) f (.ref cd) A outer s H E))).run [] s1 (L2.start N vs) H _ I body) (fun fl s' hs => ?_) fun e s' hs => hs
  cases fl with
  | ret u => obtain ⟨v, σ', H', J, ru, q⟩ := hs; exact done J ru q
  | next => obtain ⟨σ', H', J, q⟩ := hs; exact done (v := V.non) (u := Value.none) J rfl q
  | brk => obtain ⟨_, _, _, q⟩ := hs; exact q.elim
  | cont => obtain ⟨_, _, _, q⟩ := hs; exact q.elim
/-- the module's def x is the statement st, its code object stands at cd -/
structure Dc (K : PySem.W.Frag) (mg : Str → Option Value) (x : Str) (st : Stmt) (cd : Addr) : Prop where
  ex : ∃ (f : Addr) (fd : FuncData), FunD K x x (defArgs st) (defBody st) (defScope st) [] [] f fd ∧ mg x = some (.ref f) ∧ fd.code = .ref cd
theorem Dc.gc (D : Dc K mg x st cd) (S : FnScope N ps (defScope st))
    (hb : ∀ (kV doc pm : Value) (an : Option Addr) (cdv ct : Value) (us : List Value), us.length = ps.length → bindArgs (PySem.W.fnOf x x (defArgs st) (defBody st) (defScope st) .none kV doc pm an cdv ct) ⟨us, []⟩ = pure (ps.zip us))
    (h : BodyC P w K mg base x st N ps.length k cd c) : Gc P w K mg base x (k + 1) ps.length c := by
  obtain ⟨f, fd, F, hm, hcd⟩ := D.ex
  exact ⟨f, fd, ps, fnC_ok F hcd S h, hm, F.kp, F.bindsN hb⟩
end
/-- the def _law_caught -/
structure Ct (K : PySem.W.Frag) (mg : Str → Option Value) (x : Str) (st : Stmt) (a : Str) : Prop where
  df : Df K mg x st []
  bind : ∀ (kV doc pm : Value) (an : Option Addr) (cdv ct : Value) (us : List Value), us.length = 1 → bindArgs (PySem.W.fnOf x x (defArgs st) (defBody st) (defScope st) .none kV doc pm an cdv ct) ⟨us, []⟩ = pure ([a].zip us)
section
variable {X : Cx} {ρ : Rho} {M : Mp} {Φ : D → Mp → Prop} {e : Expr} {pos p : Pos} {x a : Str} {k : Nat} {B : Addr} {Ng : List Str} {st : Stmt}
/-- `_law_caught(e)`, e a lambda -/
theorem we_ct (T : Ct X.K X.mg x st a) (Sg : FnScope Ng [a] (defScope st)) (hG : ∀ (g : Addr) (cdg : Value), Gives X k B g x Ng (defScope st) cdg (defBody st)) (hr : Room (k + 2) X.A)
    (h : WE X ρ M e fun d M1 => ∃ params body scope, d = .lam (X.env.qual ++ "<lambda>") params body scope (cloFrom X.env.cells scope.names []) ∧ LamX.LamS X.env.scope scope ∧
      (∀ (q : Str) (cl : List (Str × Addr)) (pm cv ctv : Value), bindArgs (PySem.W.kla_fn "<lambda>" q params body scope cl pm cv ctv) ⟨[], []⟩ = pure []) ∧
      ∀ (f c' : Addr) (A : Around) (outer : List Env) (s : Shared) (H0 : Hp) (E : XK), Room k (A.deeper (LamX.lamEnv X scope s.heap.objs.size f c')) → WEx (LamX.lamCx X A outer s H0 E scope f c') ρ M1 body (fun _ M2 => Φ .non M2) (fun C fs M2 => PySem.W.exmOne X.K (.ref C) (.ref B) = some true ∧ Φ (.exc C fs) M2))
    (hg : Gl X x := by rfl) (hdb : (x == ("__debug__" : Str)) = false := by decide) (he : starEach [e] X.env = (false, eval e X.env) :: starEach [] X.env := by rfl) (hpl : (backTo pos (starEach [] X.env)).any (·.1) = false := by rfl) : WE X ρ M (.Call (.Name x p) [e] [] pos) Φ := by
  obtain ⟨g, fd, F, hm⟩ := T.df.ex
  obtain ⟨oc, od, dV, kV, doc, pm, an, cdg, ct, osl, rfl, lk, hcg, hdv, _⟩ := F.ex
  have hb := F.bindsN (ps := [a]) T.bind
  exact we_caught hm F.kp lk hcg hb Sg (hG g cdg) hr h hg hdb he hpl
end
end DL
namespace DL
open PySem PySem.Spec PyProof.Rows L2 SlX
/-- the slots, one stored -/
def putO (i : Nat) (d : D) (os : List (Option D)) : List (Option D) := (os ++ List.replicate (i + 1 - os.length) none).set i (some d)
section
variable {K : PySem.W.Frag} {M : Mp} {Z : Zn} {H : Hp}
theorem RepO.length : ∀ {vs : List (Option V)} {os : List (Option D)}, RepO K M Z H vs os → vs.length = os.length
  | _, _, .nil => rfl
  | _, _, .val _ t => by rw [List.length_cons, List.length_cons, t.length]
  | _, _, .any t => by rw [List.length_cons, List.length_cons, t.length]
theorem RepO.append : ∀ {vs ws : List (Option V)} {os us : List (Option D)}, RepO K M Z H vs os → RepO K M Z H ws us → RepO K M Z H (vs ++ ws) (os ++ us)
  | _, _, _, _, .nil, q => q
  | _, _, _, _, .val r t, q => .val r (t.append q)
  | _, _, _, _, .any t, q => .any (t.append q)
theorem RepO.nones : ∀ n : Nat, RepO K M Z H (List.replicate n none) (List.replicate n none)
  | 0 => .nil
  | n + 1 => .any (RepO.nones n)
theorem RepO.set {v : V} {d : D} (r : Rep K M Z H v d) : ∀ {vs : List (Option V)} {os : List (Option D)} (i : Nat), RepO K M Z H vs os → RepO K M Z H (vs.set i (some v)) (os.set i (some d))
  | _, _, _, .nil => .nil
  | _, _, 0, .val _ t => .val r t
  | _, _, 0, .any t => .val r t
  | _, _, i + 1, .val q t => .val q (RepO.set r i t)
  | _, _, i + 1, .any t => .any (RepO.set r i t)
theorem RepO.put {v : V} {d : D} {vs : List (Option V)} {os : List (Option D)} (r : Rep K M Z H v d) (i : Nat) (q : RepO K M Z H vs os) : RepO K M Z H (SlX.putS i v vs) (putO i d os) := by
  unfold SlX.putS putO
  rw [q.length]
  exact RepO.set r i (q.append (RepO.nones _))
theorem RepO.get : ∀ {vs : List (Option V)} {os : List (Option D)} {i : Nat} {d : D}, RepO K M Z H vs os → os[i]? = some (some d) → ∃ v, vs[i]? = some (some v) ∧ Rep K M Z H v d
  | _, _, _, _, .nil, e => by simp at e
  | _, _, 0, _, .val r _, e => by simp at e; subst e; exact ⟨_, rfl, r⟩
  | _, _, 0, _, .any _, e => by simp at e
  | _, _, i + 1, d, .val _ t, e => RepO.get (i := i) t (by simpa using e)
  | _, _, i + 1, d, .any t, e => RepO.get (i := i) t (by simpa using e)
/-- d is an instance of the slotted class at C -/
def SloOf (M : Mp) (C : Addr) : D → List (Option D) → Prop
  | .slo C' os, gs => C' = C ∧ gs = os
  | .ob a, gs => M a = some (.slo C gs)
  | _, _ => False
theorem Rep.asSlo {C : Addr} {v : V} {d : D} {os : List (Option D)} (w : Wd K M Z H) (r : Rep K M Z H v d) (i : SloOf M C d os) : ∃ a dx vs, v = .ref a ∧ Slt H a C dx vs ∧ RepO K M Z H vs os := by
  cases r with
  | slo h hd m md r =>
    obtain ⟨rfl, rfl⟩ := i
    exact ⟨_, _, _, rfl, .inr ⟨h, hd⟩, r⟩
  | ob a =>
    obtain ⟨dx, vs, h, hd, md, r⟩ := w.1 a _ i
    exact ⟨_, _, _, rfl, .inr ⟨h, hd⟩, r⟩
  | _ => cases i
end
section
variable {X : Cx} {ρ : Rho} {M : Mp} {Φ : D → Mp → Prop} {Ξ : Xi} {Ψ : DE} {a b e o : Expr} {es : List Expr} {pos p apos : Pos} {x : Str} {C : Addr} {k n : Nat} {fs : List Str} {f : Str}
/-- o.f -/
theorem we_sfld (S : SlC X.K C fs) (h : WE X ρ M o fun d M1 => ∃ (os : List (Option D)) (i : Nat) (v : D), SloOf M1 C d os ∧ fs[i]? = some f ∧ os[i]? = some (some v) ∧ Φ v M1) (hb : attributeBase o f X.env (eval o X.env) = eval o X.env := by rfl) : WE X ρ M (.Attribute o f pos) Φ := .mk fun {Z} σ H Q en w k =>
  eOf (pe_sl pe_sem hb) (h.run σ H _ en w fun v d H1 M1 e1 w1 r1 hz => by
    obtain ⟨os, i, y, hs, hf, ho, hz⟩ := hz
    obtain ⟨q, hq⟩ := S.sl i f hf
    obtain ⟨a, dx, vs, rfl, hsl, ro⟩ := r1.asSlo w1 hs
    obtain ⟨u, hu, ru⟩ := ro.get ho
    exact ⟨a, C, dx, q, vs, i, u, rfl, hsl, S.sc, hq, hu, (k.step e1).now w1 ru hz⟩)
theorem slH_same {H : Hp} {a C dx : Addr} {vs : List (Option V)} (h : H dx = some (.xd [])) : slH H a C dx vs = upd H a (SlO a C dx vs) := by
  unfold slH
  rw [upd_self h]
theorem put_slo {K : PySem.W.Frag} {M : Mp} {Z : Zn} {H : Hp} {a dx C : Addr} {os : List (Option D)} {vs : List (Option V)} {v : V} {d : D} {i : Nat} (w : Wd K M Z H) (hM : M a = some (.slo C os)) (hd : H dx = some (.xd [])) (md : Im M Z dx) (ro : RepO K M Z H vs os) (r : Rep K M Z H v d) :
    Ext M Z H (mset M a (.slo C (putO i d os))) (upd H a (SlO a C dx (SlX.putS i v vs))) ∧ Wd K (mset M a (.slo C (putO i d os))) Z (upd H a (SlO a C dx (SlX.putS i v vs))) := by
  have x3 : Ext M Z H (mset M a (.slo C (putO i d os))) (upd H a (SlO a C dx (SlX.putS i v vs))) := Ext.put w hM
  obtain ⟨h1, h2⟩ := x3.1 _ _ hd md
  exact ⟨x3, w.put hM ⟨dx, _, upd_same, h1, h2, (ro.mono x3).put (r.mono x3) i⟩⟩
/-- o.f = e -/
theorem ws_sfld {value : Expr} {pos' : Pos} (S : SlC X.K C fs) (h : WE X ρ M value fun d M1 => WE X ρ M1 o fun x M2 => ∃ (a : Addr) (os : List (Option D)) (i : Nat), x = .ob a ∧ M2 a = some (.slo C os) ∧ fs[i]? = some f ∧ Ψ.nx ρ (mset M2 a (.slo C (putO i d os))))
    (hs : swapsWith value (some (.Attribute o f pos')) pos.line X.env = pure false := by rfl) : WS X ρ M (.Assign [.Attribute o f pos'] value pos) Ψ := .mk fun {Z} σ H E en w k =>
  sOf (ps_sl pe_sem pe_sem hs) (bind2 h en w fun v u d x H2 M2 e2 w2 r1 r2 hz => by
    obtain ⟨a, os, i, rfl, hM, hf, hz⟩ := hz
    obtain ⟨q, hq⟩ := S.sl i f hf
    cases r2
    obtain ⟨dx, vs, ha, hd, md, ro⟩ := w2.1 a _ hM
    obtain ⟨x3, w3⟩ := put_slo (i := i) w2 hM hd md ro r1
    refine ⟨a, C, dx, q, vs, i, rfl, .inr ⟨ha, hd⟩, S.sc, hq, ?_⟩
    rw [slH_same hd]
    exact k.nx σ ρ _ _ (e2.trans x3) w3 (en.mono (e2.trans x3)) hz)
variable {m : Str} {c : Con} {cx : ConX} {pl : Sem Bool}
theorem we_smeth (F : Mg X.prog X.w X.K X.mg X.base C m k n c) (hr : Room k X.A) (h : WE X ρ M o fun d M1 => ∃ os, SloOf M1 C d os ∧ WA X ρ M1 (e :: es) fun ds M2 => (d :: ds).length = n ∧ c (d :: ds) M2 Φ)
    (hst : starEach (e :: es) X.env = (false, eval e X.env) :: starEach es X.env := by rfl) (hpl : (backTo pos (starEach es X.env)).any (·.1) = false := by rfl)
    (ht : eval (.Call (.Attribute o m apos) (e :: es) [] pos) X.env = (do
      let ov ← eval o X.env
      standAt apos.atName
      let (f, first) ← holding [ov] (getMethod ov m pl)
      callWith pos f first (backTo pos (starEach (e :: es) X.env)) (backToKw pos (keywordEach [] X.env))) := by rfl) : WE X ρ M (.Call (.Attribute o m apos) (e :: es) [] pos) Φ := .mk fun {Z} σ H Q en w k => by
  obtain ⟨f, fd, ps, F', hm, hb⟩ := F.ex
  refine eOf (pe_methSl (pl := pl) (E := E0) pe_sem F.sc hm (F'.raw hb .nil) hr pass0 pa_sem hst hpl ht) (h.run σ H _ en w fun v d H1 M1 e1 w1 r1 hz => ?_)
  obtain ⟨os, hs, hz⟩ := hz
  obtain ⟨a, dx, vs, rfl, hsl, ro⟩ := r1.asSlo w1 hs
  refine ⟨a, dx, vs, rfl, hsl, hz.run σ H1 _ (en.mono e1) w1 fun us ds H2 M2 e2 w2 r2 hy => ?_⟩
  show spD X.K n c ((V.ref a :: us) ++ []) H2 Q E0
  rw [List.append_nil]
  exact ⟨d :: ds, M2, Z, Φ, hy.1, .cons (r1.mono e2) r2, w2, hy.2, k.step (e1.trans e2)⟩
end
def spS (K : PySem.W.Frag) (C : Addr) (n : Nat) (c : ConX) : Sp := fun vs H Q E => ∃ a dx ds M Z Φ Ξ, H a = some (.ins C dx []) ∧ ds.length = n ∧ Reps K M Z (slH H a C dx []) vs ds ∧ Wd K M Z (slH H a C dx []) ∧ c ds M Φ Ξ ∧ KE K M Z (slH H a C dx []) Φ Q ∧ KX K M Z (slH H a C dx []) Ξ E
section
variable {P : Program} {w : World} {K : PySem.W.Frag} {mg : Str → Option Value} {base : Heap} {x qual : Str} {st : Stmt} {dvs : List V} {kws : List (Str × V)} {f C : Addr} {fd : FuncData} {N ps : List Str} {k n : Nat} {c : ConX} {dd : List D}
theorem fnS_ok (F : FunD K x qual (defArgs st) (defBody st) (defScope st) dvs kws f fd) (S : FnScope N ps (defScope st)) (h : BodyX P w K mg base qual st N ps.length k c) : FnOk P w K mg base (CX P w) (k + 1) f fd ps (spS K C ps.length c) := by
  obtain ⟨oc, od, dV, kV, doc, pm, an, cdv, ct, osl, rfl, lk, hcd, _, _⟩ := F.ex
  have ln : ∀ vs H Q E, spS K C ps.length c vs H Q E → vs.length = ps.length := fun vs H Q E q => by
    obtain ⟨a, dx, ds, M, Z, Φ, Ξ, ha, hl, r, _⟩ := q
    rw [r.length, hl]
  refine ⟨ln, fun A outer s H args us vs Q E hr e0 hb rv hsp => ?_⟩
  have hlen := ln _ _ _ _ hsp
  have hK : K.In s.heap := e0.mod.kin.keeps fun b o z => (e0.bs b o z).1
  have hlim : s.heap.NoLimit := e0.mod.nolimit.keeps fun b o z => (e0.bs b o z).1
  have kinds : ∀ y ∈ ps.zip us, (defScope st).names.lookup y.1 = some .local ∨ ((defScope st).names.lookup y.1 = some .cell ∧ ((cellsFrom (s.heap.objs.size + 1) (defScope st).names []).lookup y.1).isSome = true) := fun y hy => by
    rcases S.par y.1 (List.of_mem_zip hy).1 with z | z
    · exact .inl z
    · exact .inr ⟨z, PySem.W.cellsFrom_some _ _ _ (.inl z)⟩
  refine codeAny_call_function hr.depth (hK _ _ lk) rfl S.co S.gen rfl (PySem.W.codeRec_of hK hcd) (hb _ _ _ _ (wpAny_newFunctionEnv_cells S.kind kinds fun env he s1 xx => ?_))
  subst he
  refine ⟨hlim.keeps xx.toInCall.keep, codeAny_func ?_⟩
  obtain ⟨a, dx, ds, M, Z, Φ, Ξ, ha, hl, r, wd, hc, kk, kx⟩ := hsp
  have I0 : Inv (cxOf (CX P w) P w K mg base N qual (defScope st) f cdv A outer s H E) [] (L2.start N vs) H s1 := inv_start S hr.hd e0 hlen rv xx
  have hsl : Slt H a C dx [] := .inl ⟨ha, rfl⟩
  obtain ⟨_, sl, mA, ea, rsl, _, _⟩ := slt_at I0 hsl
  have I : Inv (cxOf (CX P w) P w K mg base N qual (defScope st) f cdv A outer s H E) [] (L2.start N vs) (slH H a C dx []) s1 := inv_slot (h' := s1.heap) (t' := s1.toks) I0 hsl (fun _ _ _ _ q => q) (fun _ q => q) ea rsl
  have tk : TakesE (cxOf (CX P w) P w K mg base N qual (defScope st) f cdv A outer s H E) E := takes_of rfl rfl rfl rfl
  have body := (h f cdv A outer s H E (hr.deeper _) ds M Φ Ξ hl hc).run (L2.start N vs) (slH H a C dx []) { nx := fun _ H' => Q .non H', rt := Q } E (env_start r) wd ⟨fun σ' ρ' H' M' x w' en z => kk _ .non H' M' x w' .non z, lets_k kk, fun _ _ _ _ _ _ _ z => z.elim, fun _ _ _ _ _ _ _ z => z.elim⟩ tk kx
  have done : ∀ {σ' : L2.St} {H' : Hp} {v : V} {u : Value} {s' : Shared}, Inv (cxOf (CX P w) P w K mg base N qual (defScope st) f cdv A outer s H E) [] σ' H' s' → RelV v u → Q v H' → CE outer P w H s Q u s' := fun {σ' H' v u s'} J ru q => ⟨v, H', J.os, J.bare, J.base, J.hok, ru, q⟩
  refine wpAny_mono ((pss_sem (X := cxOf (CX P w) P w K mg base N qual (defScope st) f cdv A outer s H E)).run [] s1 (L2.start N vs) (slH H a C dx []) _ I body) (fun fl s' hs => ?_) fun e s' hs => hs
  cases fl with
  | ret u => obtain ⟨v, σ', H', J, ru, q⟩ := hs; exact done J ru q
  | next => obtain ⟨σ', H', J, q⟩ := hs; exact done (v := V.non) (u := Value.none) J rfl q
  | brk => obtain ⟨_, _, _, q⟩ := hs; exact q.elim
  | cont => obtain ⟨_, _, _, q⟩ := hs; exact q.elim
/-- the slotted class of the name x, the contract of its __init__, which may raise -/
structure Ksx (P : Program) (w : World) (K : PySem.W.Frag) (mg : Str → Option Value) (base : Heap) (x : Str) (C : Addr) (dd : List D) (k n : Nat) (c : ConX) : Prop where
  at_ : mg x = some (.ref C)
  ex : ∃ (f : Addr) (fd : FuncData) (ps : List Str) (dvs : List V) (ds : List Value), FnOk P w K mg base (CX P w) k f fd ps (spS K C n c) ∧ Mk K C f ∧ Binds K fd ps ds ∧ Vals dvs ds ∧ ∀ M Z H, Reps K M Z H dvs dd
theorem Md.ks (D : Md K C "__init__" qual st f) (hm : mg x = some (.ref C)) (me : Mk K C f) (S : FnScope N ps (defScope st))
    (hb : ∀ (kV doc pm : Value) (an : Option Addr) (cdv ct : Value) (us : List Value), us.length = ps.length → bindArgs (PySem.W.fnOf "__init__" qual (defArgs st) (defBody st) (defScope st) .none kV doc pm an cdv ct) ⟨us, []⟩ = pure (ps.zip us))
    (h : BodyX P w K mg base qual st N ps.length k c) : Ksx P w K mg base x C [] (k + 1) ps.length c := by
  obtain ⟨fd, F⟩ := D.ex
  exact ⟨hm, f, fd, ps, [], [], fnS_ok F S h, me, F.bindsN hb, .nil, fun _ _ _ => .nil⟩
theorem Ksx.up {j : Nat} (F : Ksx P w K mg base x C dd j n c) (h : j ≤ k) : Ksx P w K mg base x C dd k n c := by
  obtain ⟨f, fd, ps, dvs, ds, G, r⟩ := F.ex
  exact ⟨F.at_, f, fd, ps, dvs, ds, G.mono h, r⟩
end
section
variable {X : Cx} {ρ : Rho} {M : Mp} {Φ : D → Mp → Prop} {Ξ : Xi} {e : Expr} {es : List Expr} {pos p : Pos} {x : Str} {C : Addr} {k n : Nat} {c : ConX} {dd : List D}
theorem made_slo {K : PySem.W.Frag} {M1 : Mp} {Z : Zn} {H1 : Hp} {a dx C : Addr} (w1 : Wd K M1 Z H1) (ha : H1 a = none) (hdx : H1 dx = none) (ne : dx ≠ a) :
    Ext M1 Z H1 (mset M1 a (.slo C [])) (slH (upd (upd H1 dx (.own a)) a (.ins C dx [])) a C dx []) ∧ Wd K (mset M1 a (.slo C [])) Z (slH (upd (upd H1 dx (.own a)) a (.ins C dx [])) a C dx []) := by
  rw [slH_made ne]
  have ha1 : (upd H1 dx (.xd [])) a = none := by rw [upd_ne (Ne.symm ne)]; exact ha
  have x1 : Ext M1 Z H1 M1 (upd H1 dx (.xd [])) := Ext.new w1 hdx
  have wa := w1.new (o := HO.xd []) hdx
  have x2 : Ext M1 Z (upd H1 dx (.xd [])) (mset M1 a (.slo C [])) (upd (upd H1 dx (.xd [])) a (SlO a C dx [])) := Ext.newM wa ha1
  obtain ⟨h1, h2⟩ := x2.1 dx _ upd_same (w1.fresh hdx)
  exact ⟨x1.trans x2, wa.newM ha1 ⟨dx, [], upd_same, h1, h2, .nil⟩⟩
/-- .. which does not raise here -/
theorem we_makeS (F : Ksx X.prog X.w X.K X.mg X.base x C dd k n c) (hr : Room (k + 1) X.A)
    (h : WA X ρ M (e :: es) fun as M1 => ∀ a, M1 a = none → (.ob a :: (as ++ dd)).length = n ∧ c (.ob a :: (as ++ dd)) (mset M1 a (.slo C [])) (fun d M2 => d = .non ∧ Lets Φ (.ob a) M2) (fun _ _ _ => False)) (hg : Gl X x := by rfl)
    (hdb : (x == ("__debug__" : Str)) = false := by decide) (he : starEach (e :: es) X.env = (false, eval e X.env) :: starEach es X.env := by rfl) (hpl : (backTo pos (starEach es X.env)).any (·.1) = false := by rfl) : WE X ρ M (.Call (.Name x p) (e :: es) [] pos) Φ := .mk fun {Z} σ H Q en w k => by
  obtain ⟨f, fd, ps, dvs, ds, F', hm, hbd, hd, hdd⟩ := F.ex
  refine eOf (pe_make (E := fun _ _ _ => False) hm F' hr hg F.at_ hbd hd pass_no pa_sem hdb he hpl) (h.run σ H _ en w fun vs as H1 M1 e1 w1 r1 hz => ?_)
  intro a dx ha hdx ne
  obtain ⟨hl, hz⟩ := hz a (w1.fresh ha).1
  obtain ⟨x12, w2⟩ := made_slo (C := C) w1 ha hdx ne
  refine ⟨a, dx, .ob a :: (as ++ dd), mset M1 a (.slo C []), Z, _, _, upd_same, hl, .cons (.ob a) ((r1.mono x12).append (hdd _ _ _)), w2, hz, fun v d H2 M2 x3 w2 r2 hy => ?_, fun _ _ _ _ _ _ _ _ _ _ _ z => z⟩
  obtain ⟨rfl, hy⟩ := hy
  cases r2
  exact ⟨rfl, lets_k (k.step (e1.trans x12)) _ _ H2 M2 x3 w2 (.ob a) hy⟩
end
end DL
namespace DL
open PySem PySem.Spec PyProof.Rows L2
section
variable {X : Cx} {ρ : Rho} {M : Mp} {Φ : D → Mp → Prop} {a b o e f i tg : Expr} {ss : List Stmt} {pos apos p : Pos}
theorem Reps.erase {K : PySem.W.Frag} {M : Mp} {Z : Zn} {H : Hp} : ∀ {vs : List V} {ds : List D} (k : Nat), Reps K M Z H vs ds → Reps K M Z H (vs.eraseIdx k) (ds.eraseIdx k)
  | _, _, _, .nil => by simp; exact .nil
  | _, _, 0, .cons r t => t
  | _, _, k + 1, .cons r t => .cons r (Reps.erase k t)
end
end DL
namespace DL
open PySem PySem.Spec PyProof.Rows L2
section
variable {X : Cx} {ρ : Rho} {M : Mp} {Φ : D → Mp → Prop}
theorem we_disp1K {a1 b1 : Expr} {dp : Pos} (h : WE X ρ M a1 fun x1 M1 => WE X ρ M1 b1 fun y1 M2 => ∃ k1, x1 = .str k1 ∧ Φ (.dK [(.inr k1, y1)]) M2) : WE X ρ M (.Dict [some a1] [b1] dp) Φ := .mk fun {Z} σ H Q en w k => by
  refine eOf (pe_disp (pps_cons pe_sem pe_sem pps_nil) rfl rfl (by simp) (by simp)) ?_
  intro t ht
  have zne := w.zne ht
  have xh : ExI M Z H M (hid Z t) (upd H t (.dK [])) := hide_x ht
  have wh : Wd X.K M (hid Z t) (upd H t (.dK [])) := hide_w w ht
  have en0 := en.monoI xh
  refine h.run σ _ _ en0 wh fun v1 x1 H1 M1 e1 w1 r1 hz => ?_
  refine hz.run σ H1 _ (en0.mono e1) w1 fun u1 y1 H2 M2 e2 w2 s1 hz2 => ?_
  have e12 := e1.trans e2
  obtain ⟨k1, rfl, hz2⟩ := hz2
  cases r1
  have hT : H2 t = some (.dK []) := (e12.2 t (.inr rfl)).1.trans upd_same
  refine ⟨hT, [(.inr k1, u1)], rfl, by simp, ?_⟩
  have em : mergeK [] [((.inr k1 : Key), u1)] = [(.inr k1, u1)] := by simp [mergeK, putK]
  rw [em]
  have mT : M2 t = none := (w2.2 t (.inr rfl)).1
  have x0 : ExI M Z H M2 (hid Z t) H2 := xh.trans e12.i
  refine k _ (.dK [(.inr k1, y1)]) _ M2 ⟨(x0.trans hidput_x).trans show_x, fun b z => ?_⟩ (show_w (hidput_w w2)) (.dK upd_same ⟨mT, fun z => zne t z rfl⟩ (.cons ((s1.monoI hidput_x).monoI show_x) .nil)) hz2
  have n := zne b z
  have := e12.2 b (.inl z)
  exact ⟨by rw [upd_ne n, this.1, upd_ne n], this.2⟩
end
end DL
namespace DL
open PySem PySem.Spec PyProof.Rows L2
section
variable {X : Cx} {ρ : Rho} {M : Mp} {Φ : D → Mp → Prop} {Θ : Bool → Mp → Prop} {a b o e : Expr} {pos apos cpos p : Pos}
theorem rd_ltS {x y : D} (h : ∃ i j, x = .str i ∧ y = .str j ∧ Φ (.bl (decide (i.cps.toList < j.cps.toList))) M) : RD X.K (fun x y H Q => ∃ i j, x = .str i ∧ y = .str j ∧ Q (.bl (decide (i.cps.toList < j.cps.toList))) H) x y M Φ := fun Z v u H Q w r1 r2 k => by
  obtain ⟨i, j, rfl, rfl, h⟩ := h
  cases r1
  cases r2
  exact ⟨i, j, rfl, rfl, k.now w (.bl _) h⟩
theorem we_ltS (h : WE X ρ M a fun x M1 => WE X ρ M1 b fun y M2 => ∃ i j, x = .str i ∧ y = .str j ∧ Φ (.bl (decide (i.cps.toList < j.cps.toList))) M2) : WE X ρ M (.Compare a [.Lt] [b] pos) Φ :=
  we_cmp op_lt_str (nomark _) (h.imp fun _ _ h => h.imp fun _ _ h => rd_ltS h)
end
end DL
namespace DL
open PySem PySem.Spec PyProof.Rows L2
mutual
inductive Pw : D → D → Prop where
  | refl (d : D) : Pw d d
  | ptup (ds : List D) : Pw (.ptup ds) (.tup ds)
  | tup {ds es : List D} (h : Pws ds es) : Pw (.tup ds) (.tup es)
inductive Pws : List D → List D → Prop where
  | nil : Pws [] []
  | cons {d e : D} {ds es : List D} (h : Pw d e) (t : Pws ds es) : Pws (d :: ds) (e :: es)
end
section
variable {K : PySem.W.Frag} {M : Mp} {Z : Zn} {H : Hp}
theorem wrP_wrT {a : Addr} {vs : List V} (h : WrP K a vs) : WrT K a vs := let ⟨o, its, n, h1, h2, _, h3, h4, h5⟩ := h; ⟨o, its, n, h1, h2, h3, h4, h5⟩
mutual
theorem Rep.pw : ∀ {d e : D} {v : V}, Pw d e → Rep K M Z H v d → Rep K M Z H v e
  | _, _, _, .refl _, r => r
  | _, _, _, .ptup ds, .ptup h hd m r => .tup (.inr ⟨_, h⟩) m r
  | _, _, _, .ptup ds, .ptupK h r => .tupK (wrP_wrT h) r
  | _, _, _, .tup w, .tup h m r => .tup h m (Reps.pw w r)
  | _, _, _, .tup w, .tupK h r => .tupK h (Reps.pw w r)
theorem Reps.pw : ∀ {ds es : List D} {vs : List V}, Pws ds es → Reps K M Z H vs ds → Reps K M Z H vs es
  | _, _, _, .nil, r => r
  | _, _, _, .cons w t, .cons r s => .cons (Rep.pw w r) (Reps.pw t s)
end
end
section
variable {X : Cx} {ρ : Rho} {M : Mp} {Φ : D → Mp → Prop} {e : Expr} {pos p : Pos}
theorem we_pw (h : WE X ρ M e fun d M1 => ∃ d', Pw d d' ∧ Φ d' M1) : WE X ρ M e Φ := .mk fun {Z} σ H Q en w k =>
  h.run σ H Q en w fun v d H1 M1 e1 w1 r1 ⟨d', hw, hz⟩ => k v d' H1 M1 e1 w1 (r1.pw hw) hz
theorem we_unp (h : WE X ρ M e fun d M1 => ∃ ds, d = .ptup ds ∧ Φ (.tup ds) M1) : WE X ρ M e Φ := we_pw (h.imp fun d M1 ⟨ds, e1, hz⟩ => ⟨_, by rw [e1]; exact .ptup ds, hz⟩)
/-- tuple(xs), xs a list: a plain tuple -/
theorem cr_tupP : CallR X (.type "tuple") (fun xs H Q => ∃ p ys, xs = [.ref p] ∧ SqL X.K H p ys ∧ ∀ l o, H l = none → o.dict = none → Q (.ref l) (upd H l (.frz o (.tup ys)))) := by
  intro pins s σ H xs us Q I r h
  obtain ⟨p, ys, rfl, hq, q⟩ := h
  obtain ⟨u, rfl, rx⟩ := vals1 r
  cases rx
  obtain ⟨its, r', pl, hz⟩ := I.list hq
  have hlen := r'.length
  refine call_tuple_list pl.isList (fun h' kp => ?_) (by simp only [List.size_toArray] <;> omega)
  have I1 : Inv X pins σ H { s with heap := h' } := I.kept (t' := s.toks) kp
  have I2 : Inv X pins σ (upd H h'.objs.size (.frz { cls := .type "tuple", data := .seq its.toArray } (.tup ys))) { s with heap := h'.push { cls := .type "tuple", data := .seq its.toArray } } :=
    I1.laid (t' := s.toks) (fun b o e => Heap.get?_push_of_some _ e) (Nat.le_refl _) (show ObjOk X.prog X.w _ _ _ (.frz _ (.tup ys)) from ⟨Heap.get?_push_size _ rfl, hz, its, r', IsTup.new _ _⟩)
  exact ⟨.ref h'.objs.size, _, I2, rfl, q _ _ (I1.hok.fresh (Nat.le_refl _)) rfl⟩
theorem we_tupleP (hm : X.mg "tuple" = none) (h : WE X ρ M e fun d M1 => ∃ ds, LstOf M1 d ds ∧ Φ (.ptup ds) M1) (hg : Gl X "tuple" := by rfl)
    (he : starEach [e] X.env = (false, eval e X.env) :: starEach [] X.env := by rfl) (hpl : (backTo pos (starEach [] X.env)).any (·.1) = false := by rfl) : WE X ρ M (.Call (.Name "tuple" p) [e] [] pos) Φ :=
  we_callTy cr_tupP hm (by decide +kernel) (wa_cons (h.imp fun d M1 h => wa_nil fun Z vs H Q w rr k => by
    obtain ⟨v, rfl, r⟩ := rr.one
    obtain ⟨ds, hl, h⟩ := h
    obtain ⟨q, vs, rfl, hq, rs⟩ := r.asLst w hl
    exact ⟨q, vs, rfl, hq, fun l o hp hd => k.new w hp (.ptup upd_same hd (w.fresh hp) (rs.mono (Ext.new w hp))) h⟩) he) hg (he := he) (hpl := hpl)
end
def PlT (K : PySem.W.Frag) (H : Hp) (a : Addr) (vs : List V) : Prop := (∃ o, H a = some (.frz o (.tup vs)) ∧ o.dict = none) ∨ WrP K a vs
section
variable {X : Cx} {pins : List (Addr × Obj)} {σ : L2.St} {H : Hp} {s : Shared}
theorem plT_at {a : Addr} {vs : List V} (I : Inv X pins σ H s) (h : PlT X.K H a vs) : ∃ its : Array Value, Vals vs its.toList ∧ PlainSeq "tuple" s.heap a its ∧ its.size ≤ sizeLine := by
  rcases h with ⟨o, h, hd⟩ | ⟨o, its, n, h, hc, hd, hdt, hz, rv⟩
  · obtain ⟨hg, hz, its, rv, o', hg', hc, n, hdt⟩ := I.hok a _ h
    rw [hg] at hg'
    cases hg'
    exact ⟨its.toArray, by simpa using rv, ⟨o, n, hg, hc, hd, hdt⟩, by rw [List.size_toArray, ← rv.length]; exact hz⟩
  · exact ⟨its, rv, ⟨o, n, I.kIn _ _ h, hc, hd, hdt⟩, hz⟩
theorem pairsN_of (I : Inv X pins σ H s) : ∀ {Ts : List Addr} {xs : List (NestedKey × Addr × V)}, Paired (fun T (x : NestedKey × Addr × V) => SqT X.K H T [V.ref x.2.1, x.2.2]) Ts xs →
    ∃ prs : List (NestedKey × Addr × Value), Paired PrN xs prs ∧ prs.length = Ts.length ∧ ∀ (j : Nat) (q : NestedKey × Addr × Value), prs[j]? = some q → ∃ T, Ts[j]? = some T ∧ s.heap.IsTuple T #[.ref q.2.1, q.2.2]
  | _, _, .nil => ⟨[], .nil, rfl, fun j q e => by simp at e⟩
  | _, _, .cons (a := T) (b := x) h t => by
    obtain ⟨prs, r, hl, hp⟩ := pairsN_of I t
    obtain ⟨its, rv, ht, _⟩ := I.tuple h
    obtain ⟨u, y, ei, ru, ry⟩ := vals2 rv
    subst ei
    cases (show u = Value.ref x.2.1 from ru)
    refine ⟨(x.1, x.2.1, y) :: prs, .cons ⟨rfl, rfl, ry⟩ r, by rw [List.length_cons, List.length_cons, hl], fun j q e => ?_⟩
    cases j with
    | zero =>
      have e' : (x.1, x.2.1, y) = q := Option.some.inj e
      subst e'
      exact ⟨T, rfl, ht⟩
    | succ j =>
      obtain ⟨b, e1, e2⟩ := hp j q (by simpa using e)
      exact ⟨b, by simpa using e1, e2⟩
theorem paired_fst {xs : List (NestedKey × Addr × V)} {prs : List (NestedKey × Addr × Value)} (r : Paired PrN xs prs) : xs.map (·.1) = prs.map (·.1) := by
  induction r with
  | nil => rfl
  | cons h t ih => rw [List.map_cons, List.map_cons, ih, h.1]
theorem refs_is : ∀ {ps : List Addr} {us : List Value}, Vals (ps.map V.ref) us → us = ps.map Value.ref
  | [], _, .nil => rfl
  | p :: ps, _, .cons h t => by
    cases h
    rw [List.map_cons, ← refs_is t]
def rDictPN (K : PySem.W.Frag) (w : World) : List V → Hp → VK → Prop := fun vs H Q => ∃ (a : Addr) (Ts : List Addr) (xs : List (NestedKey × Addr × V)), vs = [.ref a] ∧ (SqL K H a (Ts.map V.ref) ∨ PlT K H a (Ts.map V.ref)) ∧
  Paired (fun T (x : NestedKey × Addr × V) => SqT K H T [V.ref x.2.1, x.2.2]) Ts xs ∧ KysN K H xs ∧ (xs.map (·.1)).Nodup ∧ ∀ p, H p = none → Q (.ref p) (upd H p (DNo w p xs))
theorem cr_dictPN (hc : X.calm = true) (hu : X.A.units + 64 < cLine) : CallR X (.type "dict") (rDictPN X.K X.w) := by
  intro pins s σ H vs us Q I r h
  obtain ⟨a, Ts, xs, rfl, hq, hp, hk, nd, q⟩ := h
  obtain ⟨u, rfl, rx⟩ := vals1 r
  cases rx
  obtain ⟨prs, pr, hl, hpr⟩ := pairsN_of I hp
  have lx : xs.length = prs.length := Paired.length pr
  have hN : H s.heap.objs.size = none := I.hok.fresh (Nat.le_refl _)
  have hm : (s.heap.objs.size == sysModules) = false := beq_eq_false_iff_ne.mpr (Nat.ne_of_gt I.big)
  have nd2 : (prs.map (·.1)).Nodup := by rw [← paired_fst pr]; exact nd
  have iz : ∀ (its : Array Value), Vals (Ts.map V.ref) its.toList → PairItems s.heap its (fun j => Ts.getD j 0) (prs.map fun q => (Value.ref q.2.1, q.2.2)) := fun its rv => by
    have e := refs_is rv
    refine ⟨by rw [← Array.length_toList, e, List.length_map, List.length_map, hl], fun j k v hj => ?_⟩
    rw [List.getElem?_map] at hj
    obtain ⟨y, hy, ey⟩ := Option.map_eq_some_iff.mp hj
    cases ey
    obtain ⟨T, hT, ht⟩ := hpr j y hy
    have eT : Ts.getD j 0 = T := by rw [List.getD_eq_getElem?_getD, hT]; rfl
    refine ⟨?_, ?_⟩
    · show its[j]? = some (Value.ref (Ts.getD j 0))
      rw [← Array.getElem?_toList, e, List.getElem?_map, hT, eT]; rfl
    · show PairAt s.heap (Ts.getD j 0) _ _
      rw [eT]; exact .inl ht
  have hv : PairsHaveH (nestedKind X.prog X.w) (prs.map fun q => (Value.ref q.2.1, q.2.2)).length (PairRel (prs.map fun q => (Value.ref q.2.1, q.2.2))) prs := by
    refine ⟨by rw [List.length_map], fun i key v hi => ?_⟩
    have hi : (prs.map fun q => (Value.ref q.2.1, q.2.2))[i]? = some (key, v) := hi
    rw [List.getElem?_map] at hi
    obtain ⟨⟨k, b, y⟩, hy, ey⟩ := Option.map_eq_some_iff.mp hi
    cases ey
    exact ⟨k, b, hy, rfl⟩
  have hst : KeysStay (nestedKind X.prog X.w) s.heap s.heap.objs.size [] prs := fun h' kp x hx => by
    obtain ⟨i, hi⟩ := List.mem_iff_getElem?.mp hx
    obtain ⟨y, hyi, e1, e2, _⟩ := paired_at pr hi
    have z := kyN_is I (hk y (List.mem_of_getElem? hyi))
    rw [e1, e2] at z
    exact nestedKind_stays.stays (fun b o _ _ e _ => kp b o (Nat.ne_of_lt (Heap.lt_size e)) (fun z => nomatch z) e) z
  have fin : ∀ (h' : Heap) (tk : Nat), prs.length ≤ sizeLine → h'.DictOfH (nestedKind X.prog X.w) s.heap.objs.size (storedAllH [] prs) → (∀ b o, b ∉ ([] : List Addr) → s.heap.get? b = some o → h'.get? b = some o) → EP X pins σ Q (.ref s.heap.objs.size) { s with heap := h', toks := tk } := fun h' tk hz dd kp => by
    rw [storedAllH_nil_of_nodup prs nd2] at dd
    exact ⟨.ref s.heap.objs.size, _, I.laid (t' := tk) (o := DNo X.w s.heap.objs.size xs) (fun b o e => kp b o (fun z => nomatch z) e) (Nat.le_refl _) (dn_ok (by omega) hm pr dd), rfl, q _ hN⟩
  have rm : (nestedKind X.prog X.w).room X.A.in1.in1 := show X.A.in1.in1.units + 8 < cLine by show X.A.units + 1 + 1 + 8 < cLine; omega
  rcases hq with hq | hq
  · obtain ⟨its, rv, ⟨o, n, ho, hcl, hd, hdat⟩, hz⟩ := I.list hq
    have hz2 : prs.length ≤ sizeLine := by rw [List.length_map] at hz; omega
    exact call_dict_pairsH (PairArg.list a its.toArray (fun j => Ts.getD j 0) (prs.map fun q => (Value.ref q.2.1, q.2.2))) (I.ok.hd hc) rm ⟨⟨o, n, ho, hcl, hd, hdat⟩, iz its.toArray (by simpa using rv)⟩ hv hst (by rw [List.length_map]; exact hz2) fun h' tk dd kp => fin h' tk hz2 dd kp
  · obtain ⟨its, rv, pl, hz⟩ := plT_at I hq
    have hz2 : prs.length ≤ sizeLine := by
      have := refs_is rv
      rw [← Array.length_toList, this, List.length_map] at hz; omega
    exact call_dict_pairsH (PairArg.tuple a its (fun j => Ts.getD j 0) (prs.map fun q => (Value.ref q.2.1, q.2.2))) (I.ok.hd hc) rm ⟨pl, iz its rv⟩ hv hst (by rw [List.length_map]; exact hz2) fun h' tk dd kp => fin h' tk hz2 dd kp
end
def KeyD (d : D) : Prop := ∃ ds k, d = .tup ds ∧ nkD d = some k ∧ k.depth ≤ 8
theorem reps_itemsN {K : PySem.W.Frag} {M : Mp} {Z : Zn} {H : Hp} : ∀ {kvs : List (D × D)} {vs : List V}, Reps K M Z H vs (itemsN kvs) → (∀ q ∈ kvs, KeyD q.1) →
    ∃ (Ts : List Addr) (xs : List (NestedKey × Addr × V)), vs = Ts.map V.ref ∧ Paired (fun T (x : NestedKey × Addr × V) => SqT K H T [V.ref x.2.1, x.2.2]) Ts xs ∧ RepN K M Z H xs kvs
  | [], _, .nil, _ => ⟨[], [], rfl, .nil, .nil⟩
  | (dk, d) :: kvs, _, .cons r t, h => by
    obtain ⟨Ts, xs, rfl, h2, h3⟩ := reps_itemsN t fun q hq => h q (List.mem_cons_of_mem _ hq)
    obtain ⟨T, us, rfl, hq, rs⟩ := r.asTup
    obtain ⟨v1, v2, rfl, r1, r2⟩ := rs.two
    obtain ⟨ds, k, e1, e2, e3⟩ := h _ List.mem_cons_self
    have e1 : dk = .tup ds := e1
    obtain ⟨b, rfl⟩ : ∃ b, v1 = V.ref b := by
      rw [e1] at r1
      cases r1 <;> exact ⟨_, rfl⟩
    exact ⟨T :: Ts, (k, b, v2) :: xs, rfl, .cons hq h2, .cons e2 e3 r1 r2 h3⟩
theorem RepN.fst {K : PySem.W.Frag} {M : Mp} {Z : Zn} {H : Hp} {xs : List (NestedKey × Addr × V)} {kvs : List (D × D)} (r : RepN K M Z H xs kvs) : kvs.map (fun q => nkD q.1) = xs.map fun x => some x.1 := by
  induction r using RepN.ind with
  | nil => rfl
  | cons hk dp rk r t ih => rw [List.map_cons, List.map_cons, ih, hk]
section
variable {X : Cx} {ρ : Rho} {M : Mp} {Φ : D → Mp → Prop} {e : Expr} {pos p : Pos}
/-- dict(e), e a list or a plain tuple of pairs with unlike keys; it may be changed -/
theorem we_dictPN (hu : X.A.units + 64 < cLine) (hm : X.mg "dict" = none) (h : WE X ρ M e fun d M1 => ∃ kvs, (LstOf M1 d (itemsN kvs) ∨ d = .ptup (itemsN kvs)) ∧ (∀ q ∈ kvs, KeyD q.1) ∧ (kvs.map fun q => nkD q.1).Nodup ∧ ∀ q, M1 q = none → Φ (.ob q) (mset M1 q (.dN X.w kvs))) (hc : X.calm = true := by rfl) (hg : Gl X "dict" := by rfl)
    (he : starEach [e] X.env = (false, eval e X.env) :: starEach [] X.env := by rfl) (hpl : (backTo pos (starEach [] X.env)).any (·.1) = false := by rfl) : WE X ρ M (.Call (.Name "dict" p) [e] [] pos) Φ :=
  we_callTy (cr_dictPN hc hu) hm (by decide +kernel) (wa_cons (h.imp fun d M1 hz => wa_nil fun Z vs H Q w rr k => by
    obtain ⟨kvs, hl, hk, nd, hz⟩ := hz
    obtain ⟨v, rfl, r1⟩ := rr.one
    have key : ∃ q us, v = .ref q ∧ (SqL X.K H q us ∨ PlT X.K H q us) ∧ Reps X.K M1 Z H us (itemsN kvs) := by
      rcases hl with hl | rfl
      · obtain ⟨q, us, rfl, hq, rs⟩ := r1.asLst w hl
        exact ⟨q, us, rfl, .inl hq, rs⟩
      · cases r1 with
        | ptup h hd m r => exact ⟨_, _, rfl, .inr (.inl ⟨_, h, hd⟩), r⟩
        | ptupK h r => exact ⟨_, _, rfl, .inr (.inr h), r⟩
    obtain ⟨q, us, rfl, hq, rs⟩ := key
    obtain ⟨Ts, xs, rfl, h2, h3⟩ := reps_itemsN rs hk
    have nd2 : (xs.map (·.1)).Nodup := by
      rw [h3.fst] at nd
      exact List.pairwise_map.mpr ((List.pairwise_map.mp nd).imp fun h e => h (congrArg some e))
    refine ⟨q, Ts, xs, rfl, hq, h2, h3.kys, nd2, fun t ht => ?_⟩
    have x3 := Ext.newM (u := MO.dN X.w kvs) (o := DNo X.w t xs) w ht
    exact k _ (.ob t) _ _ x3 (w.newM ht ⟨xs, upd_same, h3.monoI x3.i⟩) (.ob t) (hz t (w.fresh ht).1)) he) hg (he := he) (hpl := hpl)
end
end DL
namespace W
open PySem PySem.Spec PyProof.Rows L2 DL SX PL SlX
def mkP (m : Mk) : PyData := .tuple [.str m.1, .str m.2]
def ptP (p : Pt) : PyData := .tuple [mkP p.1, .int p.2]
theorem eqv_mk (a b : Mk) : PyData.eqv (mkP a) (mkP b) = decide (a = b) := by
  simp only [mkP, PyData.eqv, PyData.eqvAll, Bool.and_true]
  show (decide (a.1 = b.1) && decide (a.2 = b.2)) = _
  rw [← Bool.decide_and]
  exact decide_eq_decide.mpr ⟨fun h => Prod.ext h.1 h.2, fun h => by rw [h]; exact ⟨rfl, rfl⟩⟩
theorem eqv_pt (a b : Pt) : PyData.eqv (ptP a) (ptP b) = decide (a = b) := by
  simp only [ptP, PyData.eqv, PyData.eqvAll, Bool.and_true]
  rw [eqv_mk]
  show (decide (a.1 = b.1) && decide (a.2 = b.2)) = _
  rw [← Bool.decide_and]
  exact decide_eq_decide.mpr ⟨fun h => Prod.ext h.1 h.2, fun h => by rw [h]; exact ⟨rfl, rfl⟩⟩
theorem eqv_pts : ∀ ps qs : List Pt, PyData.eqvAll (ps.map ptP) (qs.map ptP) = decide (ps = qs)
  | [], [] => by simp [PyData.eqvAll]
  | [], _ :: _ => by simp [PyData.eqvAll]
  | _ :: _, [] => by simp [PyData.eqvAll]
  | p :: ps, q :: qs => by
    simp only [List.map_cons, PyData.eqvAll]
    rw [eqv_pt, eqv_pts ps qs, ← Bool.decide_and]
    exact decide_eq_decide.mpr ⟨fun h => by rw [h.1, h.2], fun h => by injection h with h1 h2; exact ⟨h1, h2⟩⟩
theorem letter_lt {c : Nat} (h : letter c = true) : c < 0x110000 := by
  unfold letter at h
  rw [Bool.and_eq_true] at h
  have := of_decide_eq_true h.2
  omega
theorem fmN_all {x : Str} (h : fmN x = true) : (∀ c ∈ x.cps.toList, c < 0x110000) ∧ x.cps.toList.length ≤ 8 := by
  unfold fmN isNameL at h
  rw [Bool.and_eq_true, Bool.and_eq_true] at h
  exact ⟨fun c hc => letter_lt (List.all_eq_true.mp h.2.2 c hc), of_decide_eq_true h.2.1⟩
theorem words_all {x : Str} (h : x ∈ wordsL) : (∀ c ∈ x.cps.toList, c < 0x110000) ∧ x.cps.toList.length ≤ 9 := by
  simp only [wordsL, List.mem_cons, List.not_mem_nil, or_false] at h
  have key : ∀ z : Str, (z.cps.toList.all fun c => decide (c < 0x110000)) = true → z.cps.toList.length ≤ 9 → (∀ c ∈ z.cps.toList, c < 0x110000) ∧ z.cps.toList.length ≤ 9 := fun z h1 h2 => ⟨fun c hc => of_decide_eq_true (List.all_eq_true.mp h1 c hc), h2⟩
  rcases h with rfl | rfl | rfl | rfl | rfl <;> exact key _ (by decide +kernel) (by decide +kernel)
theorem cmp_pt {p : Pt} (h : fmN p.1.1 = true ∧ p.1.2 ∈ wordsL ∧ p.2 ≠ 0) : CmpD (ptD p) (ptP p) 2 :=
  cmp_tup (cmps_cons (cmp_tup (cmps_cons (cmp_str (fmN_all h.1).1) (Nat.le_refl _) (cmps_cons (cmp_str (words_all h.2.1).1) (Nat.le_refl _) cmps_nil))) (Nat.le_refl _) (cmps_cons (cmp_int _) (Nat.zero_le _) cmps_nil))
theorem cmp_pts {ps : List Pt} (h : Pts ps) : CmpD (.tup (ps.map ptD)) (.tuple (ps.map ptP)) 3 := cmp_tup (cmps_map (Nat.le_refl _) fun p hp => cmp_pt (h.ok p hp))
theorem sm_pt {p : Pt} (h : fmN p.1.1 = true ∧ p.1.2 ∈ wordsL ∧ p.2 ≠ 0) : SmA (ptA p) := by
  refine .tup (by show 2 ≤ 1000; decide) fun u hu => ?_
  rcases List.mem_cons.mp hu with rfl | hu
  · refine .tup (by show 2 ≤ 1000; decide) fun u hu => ?_
    rcases List.mem_cons.mp hu with rfl | hu
    · exact .str (Nat.le_trans (fmN_all h.1).2 (by decide))
    · rw [List.mem_singleton.mp hu]
      exact .str (Nat.le_trans (words_all h.2.1).2 (by decide))
  · rw [List.mem_singleton.mp hu]
    exact .oth rfl rfl
theorem sm_pts {ps : List Pt} (h : Pts ps) (hl : ps.length ≤ 1000) : SmA (.tup (ps.map ptA)) := .tup (by rw [List.length_map]; exact hl) fun u hu => by
  obtain ⟨p, hp, rfl⟩ := List.mem_map.mp hu
  exact sm_pt (h.ok p hp)
theorem ptsB_of {ps : List Pt} (h : Pts ps) : ptsB (.tup (ps.map ptA)) = true := by unfold ptsB; rw [ptsV_of h]; rfl
def fmF (ps : List Pt) (n : Int) : List (Str × D) := [("own_parts", .ptup (ps.map ptD)), ("own_number", .int n)]
def fmD (R : Addr) (ps : List Pt) (n : Int) : D := .ins R (fmF ps n)
structure Fo (K : PySem.W.Frag) (mg : Str → Option Value) (R : Addr) : Prop where
  at_ : mg "Form" = some (.ref R)
  cl : Cls K R
  na : ∀ f, f ∈ (["own_parts", "own_number"] : List Str) → NoAttr K R f
section
variable {P : Program} {w : World} {K : PySem.W.Frag} {mg : Str → Option Value} {base : Heap} {C R U V : Addr}
abbrev nFm : List Str := ["self", "parts", "number"]
theorem fput1 {x : D} : putD "own_parts" x [] = ([("own_parts", x)] : List (Str × D)) := rfl
theorem fput2 {x y : D} : putD "own_number" y ([("own_parts", x)] : List (Str × D)) = ([("own_parts", x), ("own_number", y)] : List (Str × D)) := by
  rw [putD, if_neg (by decide +kernel)]; rfl
def cFm (R : Addr) : Con := fun ds M Φ => ∃ a ps n, ds = [.ob a, .ptup (ps.map ptD), .int n] ∧ Pts ps ∧ ps.length ≤ 1000 ∧ M a = some (.ins R []) ∧ Φ .non (mset M a (.ins R (fmF ps n)))
theorem ok_fm (F : Fx w K mg) (X : Fo K mg R) (F1 : Fc P w K mg base "are_parts" [] 3 1 cPartsA) (F2 : Fc P w K mg base "is_integer" [.non, .non] 1 3 cInt1) : BodyOk P w K mg base "Form.__init__" s_Form___init__ nFm 3 3 (cFm R) := by
  intro f cdv A outer s H E hr ds M Φ hl hc
  obtain ⟨a, ps, n, rfl, hp, hlen, hM, hc⟩ := hc
  refine wss_cons (ws_if (wt_not (wt_val (we_call F1 (hr.mono (by omega)) (wa_cons (we_unp (we_var 1 rfl ⟨_, rfl, wa_nil ⟨rfl, .tup (ps.map ptA), by rw [pts_D]; rfl, sm_pts hp hlen, _, rfl, ?_⟩⟩)))))))
  rw [ptsB_of hp]
  refine wss_nil (wss_cons (ws_if (wt_not (wt_val (we_call F2 (hr.mono (by omega)) (wa_cons (we_var 2 rfl (wa_nil ⟨rfl, .int n, by rw [avD]; rfl, true, rfl, wss_nil ?_⟩))))))))
  refine wss_cons (ws_fld (C := R) (we_var 1 rfl (we_var 0 rfl ⟨a, _, rfl, hM, X.cl, X.na _ (by decide +kernel), by decide, ?_⟩)))
  rw [fput1]
  refine wss_cons (ws_fld (C := R) (we_var 2 rfl (we_var 0 rfl ⟨a, _, rfl, mset_same, X.cl, X.na _ (by decide +kernel), by show 1 < 1000; decide, ?_⟩)))
  rw [mset_mset, fput2]
  exact wss_nil hc
def cFmGet (R : Addr) (g : List Pt → Int → D) : Con := fun ds M Φ => ∃ ps n, ds = [fmD R ps n] ∧ Φ (g ps n) M
theorem insF {M : Mp} {ps : List Pt} {n : Int} : InsOf M R (fmD R ps n) (fmF ps n) := ⟨rfl, rfl⟩
theorem ok_fm_parts (X : Fo K mg R) : BodyOk P w K mg base "Form.parts" s_Form_parts ["self"] 1 0 (cFmGet R fun ps _ => .ptup (ps.map ptD)) := by
  intro f cdv A outer s H E hr ds M Φ hl hc
  obtain ⟨ps, n, rfl, hc⟩ := hc
  exact wss_cons (ws_ret (we_fld (C := R) (we_var 0 rfl ⟨_, _, insF, X.cl, X.na _ (by decide +kernel), rfl, Lets.of hc⟩)))
theorem ok_fm_number (X : Fo K mg R) : BodyOk P w K mg base "Form.number" s_Form_number ["self"] 1 0 (cFmGet R fun _ n => .int n) := by
  intro f cdv A outer s H E hr ds M Φ hl hc
  obtain ⟨ps, n, rfl, hc⟩ := hc
  exact wss_cons (ws_ret (we_fld (C := R) (we_var 0 rfl ⟨_, _, insF, X.cl, X.na _ (by decide +kernel), rfl, Lets.of hc⟩)))
/-- Form(e1, e2) -/
theorem we_form {X : Cx} {ρ : Rho} {M : Mp} {Φ : D → Mp → Prop} {e1 e2 : Expr} {p pos : Pos} {k : Nat} (F : Kc X.prog X.w X.K X.mg X.base "Form" R [] k 3 (cFm R)) (hr : Room (k + 1) X.A)
    (q : WA X ρ M [e1, e2] fun ds M1 => ∃ ps n, ds = [.ptup (ps.map ptD), .int n] ∧ Pts ps ∧ ps.length ≤ 1000 ∧ Φ (fmD R ps n) M1) (hg : Gl X "Form" := by rfl)
    (he : starEach [e1, e2] X.env = (false, eval e1 X.env) :: starEach [e2] X.env := by rfl) (hpl : (backTo pos (starEach [e2] X.env)).any (·.1) = false := by rfl) : WE X ρ M (.Call (.Name "Form" p) [e1, e2] [] pos) Φ :=
  we_make F hr (q.imp fun ds M1 ⟨ps, n, e1, h1, h2, h3⟩ a ha => ⟨by rw [e1]; rfl, a, ps, n, by rw [e1]; rfl, h1, h2, mset_same, rfl, by
    rw [mset_mset]
    exact ⟨_, M1, les_new ha, .ins mset_same ha, h3⟩⟩) hg (he := he) (hpl := hpl)
def cFmEq (R : Addr) : Con := fun ds M Φ => ∃ ps n qs m, ds = [fmD R ps n, fmD R qs m] ∧ Pts ps ∧ Pts qs ∧ Φ (.bl (decide (ps = qs) && decide (n = m))) M
theorem ok_fm_eq (F : Fx w K mg) (X : Fo K mg R) (XO : OwnC K R) (P1 : Pc P w K mg base R "parts" 1 (cFmGet R fun ps _ => .ptup (ps.map ptD))) (P2 : Pc P w K mg base R "number" 1 (cFmGet R fun _ n => .int n)) : BodyOk P w K mg base "Form.__eq__" s_Form___eq__ ["self", "other"] 2 2 (cFmEq R) := by
  intro f cdv A outer s H E hr ds M Φ hl hc
  obtain ⟨ps, n, qs, m, rfl, hp, hq, hc⟩ := hc
  have z2 : 2 ≤ sizeLine := by rw [sizeLine_eq]; decide
  have c2 : ∀ {ps : List Pt} {n : Int}, Pts ps → CmpD (.tup [.tup (ps.map ptD), .int n]) (.tuple [.tuple (ps.map ptP), .int n]) 4 := fun h => cmp_tup (cmps_cons (cmp_pts h) (Nat.le_refl _) (cmps_cons (cmp_int _) (Nat.zero_le _) cmps_nil))
  refine wss_cons (ws_ret (we_and (we_isi (F.bn _ (by decide +kernel)) (we_var 1 rfl (we_gref X.at_ (fun _ _ _ => .fn _) ⟨.ref R, .ref R, true, rfl, rfl, (by intro C h; cases h; exact XO), by unfold PySem.W.kitOne; simp, true, rfl, ?_⟩)))))
  refine we_one (we_eqD hr.units (we_tup (wa_cons (we_unp (we_prop P1 (hr.mono (by omega)) (we_var 0 rfl ⟨_, insF, ps, n, rfl, _, rfl, wa_cons (we_prop P2 (hr.mono (by omega)) (we_var 0 rfl ⟨_, insF, ps, n, rfl, wa_nil ⟨z2, ?_⟩⟩))⟩))))))
  refine we_tup (wa_cons (we_unp (we_prop P1 (hr.mono (by omega)) (we_var 1 rfl ⟨_, insF, qs, m, rfl, _, rfl, wa_cons (we_prop P2 (hr.mono (by omega)) (we_var 1 rfl ⟨_, insF, qs, m, rfl, wa_nil ⟨z2, _, _, (c2 hp).eq, (c2 hq).eq, (c2 hp).shaped (by decide), (c2 hq).shaped (by decide), Lets.of ?_⟩⟩))⟩))))
  simp only [PyData.eqv, PyData.eqvAll, Bool.and_true]
  rw [eqv_pts]
  exact hc
end
end W
namespace DL
open PySem PySem.Spec PyProof.Rows L2 SX
theorem of_len (s : String) : (Str.ofString s).length = s.toList.length := by
  rw [Str.ofString_eq_toList]
  show (s.toList.map Char.toNat).toArray.size = _
  simp
theorem neg_txt (m : Nat) : toString (Int.negSucc m) = "-" ++ toString ((m + 1 : Nat) : Int) := rfl
theorem sh_intW {i : Int} (h : i.natAbs < 10 ^ 39) : ShD (.int i) 41 := by
  rcases Int.eq_nat_or_neg i with ⟨n, rfl | rfl⟩
  · have h : n < 10 ^ 39 := by simpa using h
    exact sh_natW (Nat.lt_trans h (by decide))
  · have h : n < 10 ^ 39 := by simpa using h
    cases n with
    | zero => exact sh_natW (n := 0) (by decide)
    | succ m =>
      rw [show (-((m + 1 : Nat) : Int)) = Int.negSucc m from rfl]
      refine ⟨?_, ?_⟩
      · simp only [PyData.showable, decide_eq_true_eq]
        show (m + 1).log2 < 1920
        have := (Nat.log2_lt (by omega : m + 1 ≠ 0)).mpr (show m + 1 < 2 ^ 140 from Nat.lt_trans h (by decide))
        omega
      · simp only [PyData.shown]
        rw [neg_txt, of_len, String.toList_append, List.length_append]
        have e : (toString ((m + 1 : Nat) : Int)).toList.length ≤ 39 := by
          have q := of_len (toString ((m + 1 : Nat) : Int))
          rw [num_S, S_len] at q
          rw [← q]
          exact TL.numL_len (k := 39) (by decide) h
        have e1 : ("-" : String).toList.length = 1 := by decide
        omega
mutual
/-- its parts can be shown, and are short; a dict is nowhere within -/
def AvI : AV → Prop
  | .int i => i.natAbs < 10 ^ 39
  | .str x => StG x
  | .tup l => AvsI l
  | .lst l => AvsI l
  | .dic => False
  | .dct _ _ _ => False
  | _ => True
def AvsI : List AV → Prop
  | [] => True
  | v :: l => AvI v ∧ AvsI l
end
theorem avsI_all : ∀ {l : List AV}, AvsI l ↔ ∀ v ∈ l, AvI v
  | [] => by simp [AvsI]
  | v :: l => by simp [AvsI, avsI_all (l := l)]
mutual
theorem avI_ok : ∀ {v : AV}, AvI v → CmpD (avD v) (avP v) (avDp v) ∧ ShD (avP v) (avLn v)
  | .non, _ => by rw [avD, avP, avDp, avLn]; exact ⟨cmp_non, sh_non⟩
  | .bl b, _ => by rw [avD, avP, avDp, avLn]; exact ⟨cmp_bl b, sh_bl b⟩
  | .int i, h => by
    rw [avD, avP, avDp, avLn]
    exact ⟨cmp_int i, sh_intW h⟩
  | .str x, h => by rw [avD, avP, avDp, avLn]; exact ⟨cmp_str h.1, h.2⟩
  | .tup l, h => by
    obtain ⟨h1, h2, h3⟩ := avsI_ok (l := l) h
    rw [avD, avP, avDp, avLn]
    exact ⟨cmp_tup h1, ⟨by simp only [PyData.showable]; exact h2, by
      simp only [PyData.shown]
      have q := tupleText_len_le (PyData.shownAll (avsP l))
      omega⟩⟩
  | .lst l, h => by
    obtain ⟨h1, h2, h3⟩ := avsI_ok (l := l) h
    rw [avD, avP, avDp, avLn]
    exact ⟨cmp_lst h1, ⟨by simp only [PyData.showable]; exact h2, by
      simp only [PyData.shown]
      have q := listText_len_le (PyData.shownAll (avsP l))
      omega⟩⟩
  | .dic, h => h.elim
  | .dct _ _ _, h => h.elim
theorem avsI_ok : ∀ {l : List AV}, AvsI l → CmpDs (avsD l) (avsP l) (avsDp l) ∧ PyData.showableAll (avsP l) = true ∧ ((PyData.shownAll (avsP l)).map (·.length)).sum + 2 * (PyData.shownAll (avsP l)).length ≤ avsLn l
  | [], _ => by rw [avsD, avsP, avsDp, avsLn]; exact ⟨cmps_nil, by simp [PyData.showableAll], by simp [PyData.shownAll]⟩
  | v :: l, h => by
    obtain ⟨a1, a2⟩ := avI_ok (v := v) h.1
    obtain ⟨b1, b2, b3⟩ := avsI_ok (l := l) h.2
    rw [avsD, avsP, avsDp, avsLn]
    refine ⟨cmps_cons ⟨a1.eq, a1.lay, Nat.le_refl _⟩ (Nat.le_trans a1.dep (Nat.le_max_left _ _)) ⟨b1.eq, b1.lay, Nat.le_trans b1.dep (Nat.le_max_right _ _)⟩, ?_, ?_⟩
    · simp only [PyData.showableAll, a2.ok, b2, Bool.and_self]
    · simp only [PyData.shownAll, List.map_cons, List.sum_cons, List.length_cons]
      have := a2.le
      omega
end
theorem rpI_of {v : AV} (h : AvI v) (hd : avDp v ≤ 60) (hl : avLn v ≤ sizeLine) : RpD v := by
  obtain ⟨a, b⟩ := avI_ok h
  exact .inl ⟨_, a, hd, b.ok, Nat.le_trans b.le hl⟩
end DL
namespace W
open PySem PySem.Spec PyProof.Rows L2 DL SX
theorem gives_B {X : Cx} {k : Nat} {B g : Addr} {cdg : Value} (hm : X.mg "CrowdError" = some (.ref B)) : Gives X k B g "_law_caught" ["_law_look", "_law_caught_here", "error"] (defScope s__law_caught) cdg (defBody s__law_caught) := by
  intro pins σ H s f Q I hr h
  exact XL.caughtB (X := X) (Ng := ["_law_look", "_law_caught_here", "error"]) (a := "_law_look") (here := "_law_caught_here") (n := "error") (x := "CrowdError") I hr (fun E ps b sc f c' A outer s H hr => tbL_pe E ps b sc f c' A outer s H hr) (Or.inl rfl) (Or.inl rfl) (Or.inl rfl) (Or.inl rfl) (by decide) (by decide) (by decide) (by decide) (by decide) (by decide) (by decide +kernel) rfl rfl ⟨rfl, by decide, .inl hm⟩ rfl h
end W
namespace W
open PySem PySem.Spec PyProof.Rows L2 DL SX PL SlX
section
variable {P : Program} {w : World} {K : PySem.W.Frag} {mg : Str → Option Value} {base : Heap} {C R U V : Addr}
/-- what is known of an error -/
structure Ek (P : Program) (K : PySem.W.Frag) (mg : Str → Option Value) (B : Addr) (x : Str) (U : Addr) : Prop where
  er : XL.Er P K mg x U
  ev : XL.ErV K U
  at_ : mg x = some (.ref U)
  ex : PySem.W.exmOne K (.ref U) (.ref B) = some true
  no : PySem.W.kitOne K (.type "NoneType") (.ref U) = some false
theorem kit_self {U : Addr} : PySem.W.kitOne K (.ref U) (.ref U) = some true := by
  unfold PySem.W.kitOne
  simp
/-- what is caught: nothing, or the error with the value -/
def ctD (U : Addr) (ok : Bool) (v : D) : D := if ok = true then .non else .exc U [("value", v)]
/-- isinstance(what is caught, the error's class) -/
theorem we_isCt {X : Cx} {ρ : Rho} {M : Mp} {Φ : D → Mp → Prop} {a b : Expr} {pos p : Pos} {B U : Addr} {x : Str} (E : Ek X.prog X.K X.mg B x U) (hm : X.mg "isinstance" = none) {ok : Bool} {v : D} (h : WE X ρ M a fun d M1 => d = ctD U ok v ∧ WE X ρ M1 b fun y M2 => y = .fn U ∧ Φ (.bl (!ok)) M2) (hg : Gl X "isinstance" := by rfl)
    (ha : starEach [a, b] X.env = (false, eval a X.env) :: starEach [b] X.env := by rfl) (hb : starEach [b] X.env = (false, eval b X.env) :: starEach [] X.env := by rfl) (hpl : (backTo pos (starEach [b] X.env)).any (·.1) = false := by rfl) : WE X ρ M (.Call (.Name "isinstance" p) [a, b] [] pos) Φ := by
  cases ok with
  | true => exact we_isi hm (h.imp fun d M1 ⟨e, h⟩ => h.imp fun y M2 ⟨e2, h⟩ => ⟨.type "NoneType", .ref U, false, by rw [e]; rfl, by rw [e2]; rfl, (by intro C h; cases h), E.no, h⟩) hg ha hb hpl
  | false => exact we_isX hm (h.imp fun d M1 ⟨e, h⟩ => h.imp fun y M2 ⟨e2, h⟩ => ⟨U, [("value", v)], .ref U, true, e, by rw [e2]; rfl, E.ev, kit_self, h⟩) hg ha hb hpl
theorem WEx.imp {X : Cx} {ρ : Rho} {M : Mp} {e : Expr} {Φ Φ' : D → Mp → Prop} {Ξ Ξ' : Xi} (h : WEx X ρ M e Φ Ξ) (f : ∀ d M1, Φ d M1 → Φ' d M1) (g : ∀ c fs M1, Ξ c fs M1 → Ξ' c fs M1) : WEx X ρ M e Φ' Ξ' := .mk fun σ H Q E en w k t kx =>
  h.run σ H Q E en w (fun v d H1 M1 e1 w1 r1 z => k v d H1 M1 e1 w1 r1 (f d M1 z)) t fun c fs vs d H1 M1 x w1 h1 m r z => kx c fs vs d H1 M1 x w1 h1 m r (g c fs M1 z)
/-- a lambda that ends well, or raises the error at U with the value -/
def LamOk (X : Cx) (k : Nat) (U : Addr) (R : Rho → Prop) (ok : Bool) (v : D) (x : D) : Prop := ∃ params body scope, x = .lam (X.env.qual ++ "<lambda>") params body scope (cloFrom X.env.cells scope.names []) ∧ LamX.LamS X.env.scope scope ∧
  (∀ (q : Str) (cl : List (Str × Addr)) (pm cv ctv : Value), bindArgs (PySem.W.kla_fn "<lambda>" q params body scope cl pm cv ctv) ⟨[], []⟩ = pure []) ∧
  ∀ ρ M1, R ρ → ∀ (f c' : Addr) (A : Around) (outer : List Env) (s : Shared) (H0 : Hp) (E : XK), Room k (A.deeper (LamX.lamEnv X scope s.heap.objs.size f c')) → WEx (LamX.lamCx X A outer s H0 E scope f c') ρ M1 body (fun _ M2 => M2 = M1 ∧ ok = true) (fun c fs M2 => M2 = M1 ∧ ok = false ∧ c = U ∧ fs = ([(("value" : Str), v)] : List (Str × D)))
/-- a lambda is made -/
theorem we_lamL {X : Cx} {ρ : Rho} {M : Mp} {Φ : D → Mp → Prop} {pos : Pos} {T1 c : Addr} {params : Arguments} {body : Expr} {scope : Scope} {k : Nat} {U : Addr} {ok : Bool} {v : D} (R : Rho → Prop) (TB : LamX.TabB X.base X.mg c T1) (hM : M T1 = some (.tbl (X.env.qual ++ "<lambda>"))) (hcode : X.env.code = .ref c) (hex : X.ex = [])
    (hfree : ∀ y ∈ scope.names, y.2 = NameKind.free → ∃ c, X.env.cells.lookup y.1 = some c) (S : LamX.LamS X.env.scope scope)
    (hb : ∀ ρ M1, R ρ → ∀ (f c' : Addr) (A : Around) (outer : List Env) (s : Shared) (H0 : Hp) (E : XK), Room k (A.deeper (LamX.lamEnv X scope s.heap.objs.size f c')) → WEx (LamX.lamCx X A outer s H0 E scope f c') ρ M1 body (fun _ M2 => M2 = M1 ∧ ok = true) (fun c fs M2 => M2 = M1 ∧ ok = false ∧ c = U ∧ fs = ([(("value" : Str), v)] : List (Str × D))))
    (h : ∀ x, LamOk X k U R ok v x → Φ x M) (hdef : defaultsOf params X.env = ([], []) := by rfl) (bind : ∀ (q : Str) (cl : List (Str × Addr)) (pm cv ctv : Value), bindArgs (PySem.W.kla_fn "<lambda>" q params body scope cl pm cv ctv) ⟨[], []⟩ = pure [] := by intros; rfl) : WE X ρ M (.Lambda params body scope pos) Φ :=
  we_lam TB hcode hex hM hdef hfree (h _ ⟨params, body, scope, rfl, S, bind, hb⟩)
/-- `_law_caught(e)` -/
theorem we_ctL {X : Cx} {ρ : Rho} {M : Mp} {Φ : D → Mp → Prop} {e : Expr} {pos p : Pos} {k : Nat} {B U : Addr} {x : Str} {R : Rho → Prop} {ok : Bool} {v : D} (E : Ek X.prog X.K X.mg B x U) (T : Ct X.K X.mg "_law_caught" s__law_caught "_law_look") (gB : X.mg "CrowdError" = some (.ref B)) (hr : Room (k + 2) X.A)
    (h : WE X ρ M e fun d M1 => LamOk X k U R ok v d ∧ R ρ ∧ Φ (ctD U ok v) M1)
    (hg : Gl X "_law_caught" := by rfl) (he : starEach [e] X.env = (false, eval e X.env) :: starEach [] X.env := by rfl) (hpl : (backTo pos (starEach [] X.env)).any (·.1) = false := by rfl) : WE X ρ M (.Call (.Name "_law_caught" p) [e] [] pos) Φ := by
  have Sg : FnScope ["_law_look", "_law_caught_here", "error"] ["_law_look"] (defScope s__law_caught) := ⟨rfl, rfl, rfl, by decide +kernel, rfl, by decide +kernel, by decide +kernel⟩
  refine we_ct T Sg (fun g cdg => gives_B gB) hr (h.imp fun d M1 hz => ?_) hg (by decide) he hpl
  obtain ⟨⟨params, body, scope, e1, S, bind, hb⟩, hR, hz⟩ := hz
  refine ⟨params, body, scope, e1, S, bind, fun f c' A outer s H0 EX hr2 => WEx.imp (hb ρ M1 hR f c' A outer s H0 EX hr2) ?_ ?_⟩
  · rintro d M2 ⟨rfl, h2⟩
    subst h2; exact hz
  · rintro c fs M2 ⟨rfl, h2, rfl, rfl⟩
    subst h2; exact ⟨E.ex, hz⟩
theorem hfree_of {qual : Str} {sc lsc : Scope} {L f : Addr} {cd : Value} (h : (lsc.names.all fun y => !decide (y.2 = NameKind.free) || decide (sc.names.lookup y.1 = some .cell)) = true) : ∀ y ∈ lsc.names, y.2 = NameKind.free → ∃ c, (envOfC qual sc L f cd).cells.lookup y.1 = some c := fun y hy e => by
  have q := List.all_eq_true.mp h y hy
  rw [e] at q
  simp only [decide_true, Bool.not_true, Bool.false_or, decide_eq_true_eq] at q
  exact cell_has q
end
end W
namespace DL
open PySem PySem.Spec PyProof.Rows L2
mutual
inductive FzN (M M' : Mp) : D → D → Prop where
  | of {d d' : D} (f : Fz M M' d d') : FzN M M' d d'
  | lst {ds ds' : List D} (f : FzNs M M' ds ds') : FzN M M' (.lst ds) (.lst ds')
inductive FzNs (M M' : Mp) : List D → List D → Prop where
  | nil : FzNs M M' [] []
  | cons {d d' : D} {ds ds' : List D} (f : FzN M M' d d') (t : FzNs M M' ds ds') : FzNs M M' (d :: ds) (d' :: ds')
end
section
variable {K : PySem.W.Frag} {M M' : Mp} {Z : Zn} {H : Hp}
mutual
theorem FzN.rep (l : Les M' M) (w : Wd K M Z H) : ∀ {v : V} {d d' : D}, FzN M M' d d' → Rep K M Z H v d → Rep K M' Z H v d'
  | _, _, _, .of f, r => f.rep l w r
  | _, _, _, .lst f, .lst h m r => .lst h (l.x _ _ h m).2 (FzNs.rep l w f r)
theorem FzNs.rep (l : Les M' M) (w : Wd K M Z H) : ∀ {vs : List V} {ds ds' : List D}, FzNs M M' ds ds' → Reps K M Z H vs ds → Reps K M' Z H vs ds'
  | _, _, _, .nil, .nil => .nil
  | _, _, _, .cons f t, .cons r u => .cons (FzN.rep l w f r) (FzNs.rep l w t u)
end
inductive FzG (M M' : Mp) : List (Str × D) → List (Str × D) → Prop where
  | nil : FzG M M' [] []
  | cons {k : Str} {d d' : D} {r r' : List (Str × D)} : FzN M M' d d' → FzG M M' r r' → FzG M M' ((k, d) :: r) ((k, d') :: r')
theorem FzG.same : ∀ {k : Str} {d : D} {r r' : List (Str × D)}, FzG M M' r r' → FzG M M' ((k, d) :: r) ((k, d) :: r') := fun h => .cons (.of (.same _)) h
theorem FzG.rep (l : Les M' M) (w : Wd K M Z H) : ∀ {vs : List (Str × V)} {fs fs' : List (Str × D)}, FzG M M' fs fs' → RepF K M Z H vs fs → RepF K M' Z H vs fs'
  | _, _, _, .nil, .nil => .nil
  | _, _, _, .cons f t, .cons r u => .cons (f.rep l w r) (FzG.rep l w t u)
end
end DL
namespace DL
open PySem PySem.Spec PyProof.Rows L2
inductive FzEN (M M' : Mp) : Rho → Rho → Prop where
  | nil : FzEN M M' [] []
  | val {d d' : D} {ρ ρ' : Rho} : FzN M M' d d' → FzEN M M' ρ ρ' → FzEN M M' (some d :: ρ) (some d' :: ρ')
  | drop {o : Option D} {ρ ρ' : Rho} : FzEN M M' ρ ρ' → FzEN M M' (o :: ρ) (none :: ρ')
theorem FzEN.env {K : PySem.W.Frag} {M M' : Mp} {Z : Zn} {H : Hp} (l : Les M' M) (w : Wd K M Z H) : ∀ {σ : L2.St} {ρ ρ' : Rho}, FzEN M M' ρ ρ' → EnvR K M Z H σ ρ → EnvR K M' Z H σ ρ'
  | _, _, _, .nil, .nil => .nil
  | _, _, _, .drop t, .any u => .any (FzEN.env l w t u)
  | _, _, _, .drop t, .val r u => .any (FzEN.env l w t u)
  | _, _, _, .val f t, .val r u => .val (f.rep l w r) (FzEN.env l w t u)
/-- new objects stand at qs, all else is as it was -/
structure FamM (M M' : Mp) (qs : List Addr) (g : Nat → MO) : Prop where
  nd : qs.Nodup
  new : ∀ q ∈ qs, M q = none
  out : ∀ b, b ∉ qs → M' b = M b
  inn : ∀ i q, qs[i]? = some q → M' q = some (g i)
theorem FamM.nil {M : Mp} {g : Nat → MO} : FamM M M [] g := ⟨.nil, (by intro _ h; cases h), fun _ _ => rfl, (by intro i q h; simp at h)⟩
theorem FamM.snoc {M M' : Mp} {qs : List Addr} {g : Nat → MO} {q : Addr} {o : MO} (F : FamM M M' qs g) (hq : M' q = none) (hg : g qs.length = o) : FamM M (mset M' q o) (qs ++ [q]) g := by
  have hn : q ∉ qs := fun h => by
    obtain ⟨i, hi, e⟩ := List.getElem_of_mem h
    have := F.inn i q (by rw [List.getElem?_eq_getElem hi, e])
    rw [hq] at this; cases this
  refine ⟨List.nodup_append.mpr ⟨F.nd, List.pairwise_singleton _ _, fun x hx y hy e => hn (by rw [← List.mem_singleton.mp hy, ← e]; exact hx)⟩, fun x hx => ?_, fun b hb => ?_, fun i x hx => ?_⟩
  · rcases List.mem_append.mp hx with h | h
    · exact F.new x h
    · rw [List.mem_singleton.mp h, ← F.out q hn]; exact hq
  · rw [mset_ne (fun e => hb (by rw [e]; exact List.mem_append_right _ (List.mem_singleton.mpr rfl)))]
    exact F.out b fun h => hb (List.mem_append_left _ h)
  · rcases Nat.lt_or_ge i qs.length with hi | hi
    · rw [List.getElem?_append_left hi] at hx
      rw [mset_ne (fun e => hn (by rw [← e]; exact List.mem_of_getElem? hx))]
      exact F.inn i x hx
    · rw [List.getElem?_append_right hi] at hx
      obtain ⟨h0, e⟩ := List.getElem?_eq_some_iff.mp hx
      rw [List.length_singleton] at h0
      rw [List.getElem_singleton] at e
      rw [← e, mset_same, show i = qs.length by omega, hg]
theorem FamM.same {M M' : Mp} {qs : List Addr} {g : Nat → MO} (F : FamM M M' qs g) {i j : Nat} {q : Addr} (hi : qs[i]? = some q) (hj : qs[j]? = some q) : i = j := by
  obtain ⟨h1, e1⟩ := List.getElem?_eq_some_iff.mp hi
  obtain ⟨h2, e2⟩ := List.getElem?_eq_some_iff.mp hj
  exact (List.getElem_inj F.nd).mp (e1.trans e2.symm)
theorem FamM.put {M M' : Mp} {qs : List Addr} {g g' : Nat → MO} {i : Nat} {q : Addr} {o : MO} (F : FamM M M' qs g) (hq : qs[i]? = some q) (h1 : g' i = o) (h2 : ∀ j, j < qs.length → j ≠ i → g' j = g j) : FamM M (mset M' q o) qs g' := by
  refine ⟨F.nd, F.new, fun b hb => ?_, fun j x hx => ?_⟩
  · rw [mset_ne (fun e => hb (by rw [e]; exact List.mem_of_getElem? hq))]
    exact F.out b hb
  · by_cases e : j = i
    · subst e
      rw [hq] at hx; cases hx
      rw [mset_same, h1]
    · rw [mset_ne (fun z => e (F.same (by rw [hx, z]) hq)), h2 j (List.getElem?_eq_some_iff.mp hx).1 e]
      exact F.inn j x hx
theorem FamM.ext {M M' : Mp} {qs : List Addr} {g g' : Nat → MO} (F : FamM M M' qs g) (h : ∀ i, i < qs.length → g' i = g i) : FamM M M' qs g' := ⟨F.nd, F.new, F.out, fun i q hq => by rw [h i (List.getElem?_eq_some_iff.mp hq).1]; exact F.inn i q hq⟩
end DL
namespace W
open PySem PySem.Spec PyProof.Rows L2 DL SX PL SlX
/-- a value that can be shown, up to a length and a depth -/
structure GdA (b k : Nat) (v : AV) : Prop where
  g : AvI v
  s : SmA v
  d : avDp v ≤ k
  l : avLn v ≤ b
theorem GdA.mono {b b' k k' : Nat} {v : AV} (h : GdA b k v) (hb : b ≤ b') (hk : k ≤ k') : GdA b' k' v := ⟨h.g, h.s, Nat.le_trans h.d hk, Nat.le_trans h.l hb⟩
theorem avsLn_le {b : Nat} : ∀ {l : List AV}, (∀ v ∈ l, avLn v ≤ b) → avsLn l ≤ l.length * (b + 2)
  | [], _ => by rw [avsLn]; omega
  | v :: l, h => by
    have h1 := h v List.mem_cons_self
    have h2 := avsLn_le fun u hu => h u (List.mem_cons_of_mem _ hu)
    rw [avsLn, List.length_cons, Nat.succ_mul]
    omega
theorem avsDp_le {k : Nat} : ∀ {l : List AV}, (∀ v ∈ l, avDp v ≤ k) → avsDp l ≤ k
  | [], _ => by rw [avsDp]; omega
  | v :: l, h => by
    have h1 := h v List.mem_cons_self
    have h2 := avsDp_le fun u hu => h u (List.mem_cons_of_mem _ hu)
    rw [avsDp]
    omega
theorem gd_tup {b k n : Nat} {l : List AV} (h : ∀ v ∈ l, GdA b k v) (hn : l.length ≤ n) (h1 : n ≤ 1000) : GdA (n * (b + 2) + 3) (k + 1) (.tup l) := by
  refine ⟨by rw [AvI]; exact avsI_all.mpr fun v hv => (h v hv).g, .tup (by omega) fun u hu => (h u hu).s, ?_, ?_⟩
  · rw [avDp]; have := avsDp_le fun v hv => (h v hv).d; omega
  · rw [avLn]
    have := avsLn_le fun v hv => (h v hv).l
    have := Nat.mul_le_mul_right (b + 2) hn
    omega
theorem gd_lst {b k n : Nat} {l : List AV} (h : ∀ v ∈ l, GdA b k v) (hn : l.length ≤ n) : GdA (n * (b + 2) + 3) (k + 1) (.lst l) := by
  refine ⟨by rw [AvI]; exact avsI_all.mpr fun v hv => (h v hv).g, .oth rfl rfl, ?_, ?_⟩
  · rw [avDp]; have := avsDp_le fun v hv => (h v hv).d; omega
  · rw [avLn]
    have := avsLn_le fun v hv => (h v hv).l
    have := Nat.mul_le_mul_right (b + 2) hn
    omega
theorem gd_str {x : Str} (h : StG x) (hl : x.cps.toList.length ≤ 1000000) : GdA 41 0 (.str x) := ⟨by rw [AvI]; exact h, .str hl, by rw [avDp]; omega, by rw [avLn]; omega⟩
theorem gd_int {i : Int} (h : i.natAbs < 10 ^ 39) : GdA 41 0 (.int i) := ⟨by rw [AvI]; exact h, .oth rfl rfl, by rw [avDp]; omega, by rw [avLn]; omega⟩
theorem gd_non : GdA 41 0 .non := ⟨by simp [AvI], .oth rfl rfl, by rw [avDp]; omega, by rw [avLn]; omega⟩
theorem gd_bl (c : Bool) : GdA 41 0 (.bl c) := ⟨by simp [AvI], .oth rfl rfl, by rw [avDp]; omega, by rw [avLn]; omega⟩
/-- what is handed on -/
def FitV (v : AV) : Prop := RpD v ∧ SmA v
theorem GdA.fit {b k : Nat} {v : AV} (h : GdA b k v) (hb : b ≤ 100000) (hk : k ≤ 50) : FitV v := ⟨rpI_of h.g (by have := h.d; omega) (by have := h.l; rw [sizeLine_eq]; omega), h.s⟩
theorem forall1 {α : Type} {p : α → Prop} {a : α} (h1 : p a) : ∀ x ∈ [a], p x := fun x hx => by rw [List.mem_singleton.mp hx]; exact h1
theorem forall2 {α : Type} {p : α → Prop} {a b : α} (h1 : p a) (h2 : p b) : ∀ x ∈ [a, b], p x := List.forall_mem_cons.mpr ⟨h1, List.forall_mem_cons.mpr ⟨h2, fun _ h => (nomatch h)⟩⟩
theorem st_fit {x : Str} (h1 : x.cps.toList.all (fun c => decide (c < 0x110000)) = true) (h2 : (PyData.str x).showable = true) (h3 : (PyData.str x).shown.length ≤ 41) (h4 : x.cps.toList.length ≤ 1000000) : GdA 41 0 (.str x) := gd_str (stG_of h1 h2 h3) h4
theorem msetComm {M : Mp} {p q : Addr} {o u : MO} (h : p ≠ q) : mset (mset M q u) p o = mset (mset M p o) q u := by
  funext b
  unfold mset
  by_cases h1 : b = p
  · rw [if_pos h1, if_neg (fun e => h (h1.symm.trans e)), if_pos h1]
  · rw [if_neg h1]
    by_cases h2 : b = q
    · rw [if_pos h2, if_pos h2]
    · rw [if_neg h2, if_neg h2, if_neg h1]
theorem upT_mk {ms : List Mk} {ys : List (List Str)} (u : UpT (ms.map mkL) ys) : ∃ ns : List Mk, ys = ns.map mkL ∧ ns.Pairwise (fun a b => ltM a b = true) ∧ (∀ m, m ∈ ns ↔ m ∈ ms) ∧ ns.length < 64 := by
  obtain ⟨h1, h2, h3⟩ := u
  obtain ⟨ns, rfl, hn⟩ := pull_map mkL ms (m := ys) fun x hx => (h2 x).mp hx
  refine ⟨ns, rfl, List.pairwise_map.mp h1, fun m => ⟨hn m, fun hm => ?_⟩, by rwa [List.length_map] at h3⟩
  obtain ⟨y, hy, e⟩ := List.mem_map.mp ((h2 (mkL m)).mpr (List.mem_map_of_mem hm))
  rw [← mkL_inj e]; exact hy
theorem nodup_sub {α : Type} [DecidableEq α] {l m : List α} (h : l.Nodup) (s : ∀ x ∈ l, x ∈ m) : l.length ≤ m.length := nd_leG l m h s
theorem ltM_nodup {ns : List Mk} (h : ns.Pairwise fun a b => ltM a b = true) : ns.Nodup := h.imp fun {a b} h e => by subst e; rw [ltM_irr] at h; cases h
theorem sz2x {a b : D} : ([a, b] : List D).length ≤ sizeLine := by show 2 ≤ sizeLine; decide
section
variable {P : Program} {w : World} {K : PySem.W.Frag} {mg : Str → Option Value} {base : Heap} {C R U V : Addr}
/-- pots that have been made -/
structure PotsAt (M M' : Mp) (qs : List Addr) : Prop where
  out : ∀ b, b ∉ qs → M' b = M b
  new : ∀ q ∈ qs, M q = none
  pot : ∀ q ∈ qs, ∃ a c, M' q = some (potL a c 0) ∧ cOk c
  nd : qs.Nodup
theorem PotsAt.snoc {M M' : Mp} {qs : List Addr} (h : PotsAt M M' qs) {p : Addr} {a c : Int} (hp : M' p = none) (co : cOk c) : PotsAt M (mset M' p (potL a c 0)) (qs ++ [p]) := by
  have np : p ∉ qs := fun hq => by
    obtain ⟨a, c, e, _⟩ := h.pot p hq
    rw [e] at hp; cases hp
  refine ⟨fun b hb => ?_, fun q hq => ?_, fun q hq => ?_, List.nodup_append.mpr ⟨h.nd, List.pairwise_singleton _ _, fun x hx y hy e => np (by rw [← List.mem_singleton.mp hy, ← e]; exact hx)⟩⟩
  · have h1 : b ∉ qs := fun z => hb (List.mem_append_left _ z)
    have h2 : b ≠ p := fun z => hb (List.mem_append_right _ (List.mem_singleton.mpr z))
    rw [mset_ne h2, h.out b h1]
  · rcases List.mem_append.mp hq with hq | hq
    · exact h.new q hq
    · rw [List.mem_singleton.mp hq, ← h.out p np]; exact hp
  · rcases List.mem_append.mp hq with hq | hq
    · have : q ≠ p := fun z => np (by rw [← z]; exact hq)
      obtain ⟨a', c', e, co'⟩ := h.pot q hq
      exact ⟨a', c', by rw [mset_ne this]; exact e, co'⟩
    · rw [List.mem_singleton.mp hq]; exact ⟨a, c, mset_same, co⟩
def cPots : Con := fun ds M Φ => ∃ ns m, ds = [scrD ns, .int (m : Nat)] ∧ 1 ≤ m ∧ m ≤ 1000 ∧ ∀ qs M', PotsAt M M' qs → qs.length ≤ m → Φ (.lst (qs.map D.ob)) M'
abbrev nPots : List Str := ["_law_script", "_law_limit", "_law_k"]
theorem ok_pots (F : Fx w K mg) (F1 : Fc P w K mg base "_law_pot" [] 1 2 cPotH) : BodyOk P w K mg base "_law_pots" s__law_pots nPots 2 1 cPots := by
  intro f cdv A outer s H E hr ds M Φ hl hc
  obtain ⟨ns, m, rfl, m1, m2, hc⟩ := hc
  have nd : nPots.Nodup := by decide +kernel
  refine wss_cons (ws_ret (we_lc nd (blkOk_by (N := nPots) (sc := defScope s__law_pots) (own := [("_law_k", 2)]) (by decide +kernel)) (fun _ _ _ _ _ => pg_name (i := 2) nd rfl (Or.inl rfl)) (gt_name (by decide)) (fun _ _ _ _ _ => pts_nil) tk_nil (wi_range1 (F.bn _ (by decide +kernel)) (wa_cons (we_max2 (F.bn _ (by decide +kernel)) (we_int (we_min2 (F.bn _ (by decide +kernel)) (we_var 1 rfl (we_len (F.bn _ (by decide +kernel)) (we_var 0 rfl ⟨_, lenR, _, _, rfl, rfl, _, _, rfl, rfl, wa_nil ⟨_, rfl, ?_, ?_, ?_⟩⟩))))))))))
  · split <;> split <;> omega
  · split <;> split <;> omega
  refine ⟨?_, fun i acc M2 => ∃ qs : List Addr, qs.length = i ∧ acc = qs.map D.ob ∧ PotsAt M M2 qs, ⟨[], rfl, rfl, ⟨fun _ _ => rfl, fun q h => (nomatch h), fun q h => (nomatch h), .nil⟩⟩, ?_, ?_⟩
  · rw [rngD_len, sizeLine_eq]; split <;> split <;> omega
  · rintro i x acc M2 hx ⟨qs, hql, rfl, hF⟩
    obtain ⟨hi, rfl⟩ := rngD_get hx
    have hi2 : i ≤ 1000 := by
      revert hi
      split <;> split <;> omega
    intro s1 H1 C' cl fp
    refine we_call F1 (hr.mono (by omega)) (wa_cons (we_var 0 rfl (wa_cons (we_var 2 rfl (wa_nil ⟨rfl, ns, i, by rw [Int.zero_add]; rfl, hi2, fun q a c hq co => ⟨qs ++ [q], by rw [List.length_append, hql]; rfl, by rw [List.map_append]; rfl, hF.snoc hq co⟩⟩)))))
  · rintro acc M2 ⟨qs, hql, rfl, hF⟩
    rw [rngD_len] at hql
    exact Lets.of (hc qs M2 hF (by rw [hql]; split <;> split <;> omega))
end
end W
namespace DL
open PySem PySem.Spec PyProof.Rows L2
theorem vals_keyN {xs : List (NestedKey × Addr × V)} {ys : List (NestedKey × Addr × Value)} (r : Paired PrN xs ys) : Vals (xs.map fun x => V.ref x.2.1) (ys.map fun y => Value.ref y.2.1) := by
  induction r with
  | nil => exact .nil
  | @cons x y xs ys h t ih =>
    obtain ⟨_, e2, _⟩ := h
    rw [List.map_cons, List.map_cons]
    exact .cons (by rw [e2]; exact (show RelV (V.ref y.2.1) (Value.ref y.2.1) from rfl)) ih
theorem ents_len {w : World} {xs : List (NestedKey × Addr × V)} {ys : List (NestedKey × Addr × Value)} {es : Array DictEntry} (pr : Paired PrN xs ys) (he : es.toList = ys.map (entN w)) : es.size = xs.length ∧ es.size = ys.length := by
  have a : es.toList.length = ys.length := by rw [he, List.length_map]
  have b : xs.length = ys.length := Paired.length pr
  rw [Array.length_toList] at a
  omega
theorem ents_at {w : World} {ys : List (NestedKey × Addr × Value)} {es : Array DictEntry} (he : es.toList = ys.map (entN w)) {j : Nat} (hj : j < es.size) (hy : j < ys.length) : es[j] = entN w ys[j] := by
  have e1 : es.toList[j]? = (ys.map (entN w))[j]? := by rw [he]
  rw [Array.getElem?_toList, Array.getElem?_eq_getElem hj, List.getElem?_map, List.getElem?_eq_getElem hy] at e1
  exact Option.some.inj e1
theorem RepN.keysR {K : PySem.W.Frag} {M : Mp} {Z : Zn} {H H' : Hp} {M' : Mp} {Z' : Zn} (x : ExI M Z H M' Z' H') {xs : List (NestedKey × Addr × V)} {kvs : List (D × D)} (r : RepN K M Z H xs kvs) : Reps K M' Z' H' (xs.map fun y => V.ref y.2.1) (keysN kvs) := by
  induction r using RepN.ind with
  | nil => exact .nil
  | cons hk dp rk r t ih => exact .cons (rk.monoI x) ih
end DL
namespace DL
open PySem PySem.Spec PyProof.Rows L2
theorem kdl_collect {prog : Program} {w : World} {A : Around} {E : Value → Shared → Prop} {s : Shared} {T : String} {r d : Addr} {n : Nat} {P : Nat → Value → Prop} {OK : Heap → Prop} {R : List Value → Shared → Prop} (K : PySem.W.KdlSrc prog w T r d n P OK) (hh : A.handled = none) (hok : OK s.heap) (hn : n ≤ sizeLine)
    (h : ∀ (h' : Heap) (tk : Nat) (acc : Array Value), (∀ b o, s.heap.get? b = some o → h'.get? b = some o) → ItemsOf P acc n → R acc.toList { s with heap := h', toks := tk }) : wpAny (model prog w) A (collect (.ref r)) R E s := by
  obtain ⟨hr, hd⟩ := K.there _ hok
  unfold collect
  refine wpAny_bind (wpAny_runValue (codeAny_builtin entry_proto_collect' ?_))
  rw [Around.under_plainId PySem.F.plain_proto_collect _]
  show wpAny _ A.in1 (newList [] >>= fun l => again (.builtin "list.__iadd__" ⟨[l, .ref r], []⟩)) _ _ s
  refine wpAny_bind (wpAny_newObj_type ?_)
  refine wpAny_pure ⟨plainId_quiet PySem.F.plain_list_iadd _, codeAny_builtin entry_list_iadd' ?_⟩
  rw [Around.under_plainId PySem.F.plain_list_iadd _]
  have hS₁ : (s.heap.push { cls := .type "list", data := .seq ([] : List Value).toArray }).get? s.heap.objs.size = some { cls := .type "list", data := .seq #[] } := Heap.get?_push_size _ rfl
  show wpAny _ A.in1 (Builtin.List.listExtendWith (.ref s.heap.objs.size) (.ref r) (.ref s.heap.objs.size)) _ _ _
  have key := PySem.W.kdl_extend (A := A) (s := { s with heap := s.heap.push { cls := .type "list", data := .seq ([] : List Value).toArray } })
    (R := fun (q : Result) (s' : Shared) => ∃ (h' : Heap) (tk : Nat) (acc' : Array Value) (c' : Nat), q = .ok (.ret (.ref s.heap.objs.size)) ∧ s' = { s with heap := h', toks := tk } ∧
      (∀ b o, s.heap.get? b = some o → h'.get? b = some o) ∧ h'.get? s.heap.objs.size = some { cls := .type "list", dict := none, data := .seq acc' c', slots := #[] } ∧ ItemsOf P acc' n)
    K hh (K.keep _ _ hok fun b _ o e => Heap.get?_push_of_some _ e) s.heap.objs.size (Nat.ne_of_gt hr) (Nat.ne_of_gt hd) (.ref s.heap.objs.size) 0 hS₁
    (fun h' tk acc' c' hk hS' hacc => ⟨h', tk, acc', c', rfl, rfl, fun b o e => hk b o (Nat.ne_of_lt (Heap.lt_size e)) (Heap.get?_push_of_some _ e), hS', hacc⟩) hn
  refine wpAny_mono key (fun fin s' x => ?_) fun e s' x => ?_
  · cases fin with
    | done f =>
      obtain ⟨h', tk, acc', c', e, rfl, hk, hS', hacc⟩ := x
      cases e
      show wpAny _ A (load s.heap.objs.size >>= _) _ _ _
      refine wpAny_bind (wpAny_load hS' ?_)
      exact wpAny_pure (h h' tk acc' hk hacc)
    | again c₁ =>
      refine ⟨x.1, codeAny_mono x.2 fun q s₂ y => ?_⟩
      obtain ⟨h', tk, acc', c', rfl, rfl, hk, hS', hacc⟩ := y
      show wpAny _ A (load s.heap.objs.size >>= _) _ _ _
      refine wpAny_bind (wpAny_load hS' ?_)
      exact wpAny_pure (h h' tk acc' hk hacc)
  · obtain ⟨_, _, _, _, e', _⟩ := x
    cases e'
section
variable {X : Cx} {pins : List (Addr × Obj)} {σ : L2.St} {H : Hp} {s : Shared}
theorem star_dictN {a : Addr} {xs : List (NestedKey × Addr × V)} {E : Value → Shared → Prop} {Q : List Value → Shared → Prop} (hc : X.calm = true) (I : Inv X pins σ H s) (h : Rd H a (DNo X.w a xs)) (hQ : ∀ us s', Inv X pins σ H s' → Vals (xs.map fun x => V.ref x.2.1) us → Q us s') : PySem.W.StarOf (model X.prog X.w) X.A E (.ref a) Q s := by
  obtain ⟨z, hs0, ys, pr, o, es, ep, ho, hx, hdt, he0, _⟩ := dnf_rd I h
  obtain ⟨l1, l2⟩ := ents_len pr he0
  have hT : s.TypeIs (.ref a) "dict" := ⟨o, ho, hx.1⟩
  have zz : wpAny (model X.prog X.w) X.A (collect (.ref a)) Q E s := by
    refine kdl_collect (KdlSrc.rawDict (d := a) (es := es) (ep := ep) hs0) (I.ok.hd hc) ⟨o, ho, hx, hdt⟩ (by omega) fun h' tk acc hk hacc => ?_
    have ea : acc.toList = ys.map fun y => Value.ref y.2.1 := by
      have hsz := hacc.1
      refine List.ext_getElem (by rw [Array.length_toList, List.length_map]; omega) fun j h1 h2 => ?_
      rw [Array.length_toList] at h1
      obtain ⟨hj, hv⟩ := hacc.2 j acc[j] (Array.getElem?_eq_getElem h1)
      rw [Array.getElem_toList, hv, List.getElem_map, ents_at he0 hj (by omega)]
      rfl
    rw [ea]
    exact hQ _ _ (I.kept (t' := tk) hk) (vals_keyN pr)
  unfold PySem.W.StarOf notIterableAtAll
  exact wpAny_bind (wpAny_specialOf hT PySem.F.slot_dict_iter.lookup (wpAny_pure ⟨rfl, zz⟩))
end
section
variable {X : Cx} {e : Expr} {es : List Expr} {te : TE} {t : L2.TA} {p : Pos}
def tStarN (w : World) (te : TE) (t : L2.TA) : L2.TA := fun σ H Q => te σ H fun x H1 => ∃ d xs, x = V.ref d ∧ Rd H1 d (DNo w d xs) ∧ t σ H1 fun ys H2 => Q ((xs.map fun x => V.ref x.2.1) ++ ys) H2
theorem pa_starN (hc : X.calm = true) (he : PE X e te) (hr : PA X es t) (hs : starEach (.Starred e p :: es) X.env = (true, eval e X.env) :: starEach es X.env := by rfl) : PA X (.Starred e p :: es) (tStarN X.w te t) := by
  refine ⟨fun pos pins s σ H Q I h => ?_⟩
  refine PySem.W.items_star (thn (he.run pins s σ H _ I h) fun v s1 ⟨y, H1, I1, ry, a, xs, ey, hx, q⟩ => ?_) hs
  subst ey
  obtain rfl : v = Value.ref a := ry
  refine star_dictN hc I1 hx fun us s2 I2 rv => ?_
  exact thn (hr.run pos pins s2 σ H1 _ I2 q) fun ws s3 ⟨vs, H3, I3, r3, q3⟩ => ⟨_, H3, I3, rv.append r3, q3⟩
end
section
variable {X : Cx} {ρ : Rho} {M : Mp} {e : Expr} {es : List Expr}
theorem wa_starN {sp : Pos} {ΦA : List D → Mp → Prop} (h : WE X ρ M e fun d M1 => ∃ kvs, d = .fdN X.w kvs ∧ WA X ρ M1 es fun ds M2 => ∀ ys, ys = keysN kvs ++ ds → ΦA ys M2) (hc : X.calm = true := by rfl) (hs : starEach (.Starred e sp :: es) X.env = (true, eval e X.env) :: starEach es X.env := by rfl) : WA X ρ M (.Starred e sp :: es) ΦA := .mk fun σ H Q en w k =>
  aOf (pa_starN hc pe_sem pa_sem hs) (h.run σ H _ en w fun v d H1 M1 e1 w1 r1 hz => by
    obtain ⟨kvs, rfl, hz⟩ := hz
    cases r1 with
    | @fdN q o0 _ xs _ hH mq rs =>
    exact ⟨q, xs, rfl, .inr ⟨_, hH⟩, hz.run σ H1 _ (en.mono e1) w1 fun us ds H2 M2 e2 w2 r2 hy => k _ (keysN kvs ++ ds) H2 M2 (e1.trans e2) w2 ((rs.keysR e2.i).append r2) (hy _ rfl)⟩)
end
end DL
namespace DL
open PySem PySem.Spec PyProof.Rows L2
section
variable {M : Model} {prog : Program} {w : World} {A : Around} {E : Value → Shared → Prop} {s : Shared} {K : PySem.W.Frag} {x y f C : Addr} {ox : Obj} {od : Option Obj}
theorem binop_here {op : Operator} {b : Value} {Q : Value → Shared → Prop} (X : K.In s.heap) (I : PySem.W.InstAt s.heap x ox C od) (hb : PySem.W.Looks (model prog w) s.heap (typeOf b) (.ref C)) (hc : PySem.W.selfFirst K C = true)
    (hs : PySem.W.findIn K (.ref C) (PySem.dunder op.info.2) = some (some (.ref f))) (hf : PySem.W.isFn K (.ref f) = true)
    (h : wpAny (model prog w) A (call (.ref f) [.ref x, b]) (PySem.W.CmpBack Q) E s) : wpAny (model prog w) A (binaryOp op (.ref x) b) Q E s := by
  obtain ⟨cd, hcd, hm⟩ := PySem.W.any_some hc
  obtain ⟨rest, hm⟩ : ∃ rest, cd.mro = .ref C :: rest := by
    cases q : cd.mro with
    | nil => rw [q] at hm; cases hm
    | cons a r => rw [q] at hm; exact ⟨r, by rw [List.head?_cons] at hm; cases (beq_iff_eq.mp hm); rfl⟩
  unfold binaryOp
  refine wpAny_holding (wpAny_bind ?_)
  unfold binaryOp1
  refine wpAny_bind (I.type.here (wpAny_bind (hb.here (wpAny_bind ((PySem.W.fills_K X hcd hm hs).here ?_)))))
  simp only [beq_self_eq_true, if_true]
  refine wpAny_bind (wpAny_pure ?_)
  simp only [Bool.and_false, Bool.false_eq_true, if_false, Bool.false_and]
  refine wpAny_bind (wpAny_pure ?_)
  simp only [Bool.false_eq_true, if_false]
  refine wpAny_bind (m := tryMethod (.ref x) _ b) ?_
  unfold tryMethod
  refine wpAny_bind (PySem.W.special_fn X I hs (beq_iff_eq.mp hf) (wpAny_mono h (fun v s' hv => ?_) fun _ _ e => e))
  cases v <;> first | exact hv.elim | exact wpAny_pure (wpAny_pure (wpAny_pure hv))
end
section
variable {X : Cx} {ρ : Rho} {M : Mp} {Φ : D → Mp → Prop} {a b : Expr} {pos : Pos} {C : Addr} {k : Nat} {c : Con} {nm : Str}
def rBinO (X : Cx) (C : Addr) (c : Con) : R2 := fun v u H Q => ∃ p q dx dy fs gs, v = V.ref p ∧ u = V.ref q ∧ H p = some (.ins C dx fs) ∧ H q = some (.ins C dy gs) ∧ spD X.K 2 c [v, u] H (fun z H' => (∃ r, z = .ref r) ∧ Q z H') E0
theorem op_binO {op : Operator} (F : Mc X.prog X.w X.K X.mg X.base C nm [] k 2 c) (hn : PySem.dunder op.info.2 = nm) (hr : Room k X.A) (hc : PySem.W.selfFirst X.K C = true) : OpR X (binaryOp op) (rBinO X C c) := by
  intro pins s σ H v u v' u' Q I rv ru hq
  obtain ⟨p, q, dx, dy, fs, gs, rfl, rfl, ha, hb, hq⟩ := hq
  cases rv
  cases ru
  obtain ⟨f, fd, ps, dvs, ds, F', hme, hbd, hd, hdd⟩ := F.ex
  obtain ⟨mA, J, _⟩ := ins_get I.hok ha
  obtain ⟨mB, J', _⟩ := ins_get I.hok hb
  obtain ⟨od, J, _⟩ := J.look
  obtain ⟨od', J', _⟩ := J'.look
  have hl := F'.len _ _ _ _ hq
  have r2 : Vals [V.ref p, V.ref q] [Value.ref p, Value.ref q] := .cons rfl (.cons rfl .nil)
  have d0 : ds = [] := by
    have r0 : Reps X.K (fun _ => none) (fun _ => False) (fun _ => none) dvs [] := hdd _ _ _
    cases r0
    cases hd
    rfl
  have v0 : dvs = [] := by
    have r0 : Reps X.K (fun _ => none) (fun _ => False) (fun _ => none) dvs [] := hdd _ _ _
    cases r0
    rfl
  subst d0 v0
  refine binop_here I.kIn J J'.type hc (by rw [hn]; exact hme.at_) hme.fn ?_
  refine wpAny_mono (run_fn F' hr hbd .nil pass0 I (vs := [.ref p, .ref q]) r2 hq) (fun r s' hz => ?_) fun _ _ e => e
  obtain ⟨z, H', I', rz, ⟨g, rfl⟩, qz⟩ := hz
  cases rz
  exact ⟨.ref g, H', I', rfl, qz⟩
theorem rd_binO {x y : D} (h : ∃ fs gs, InsOf M C x fs ∧ InsOf M C y gs ∧ c [x, y] M fun d M3 => (∃ C' fs, d = .ins C' fs) ∧ Φ d M3) : RD X.K (rBinO X C c) x y M Φ := fun Z v u H Q w r1 r2 k => by
  obtain ⟨fs, gs, h1, h2, h⟩ := h
  obtain ⟨p, dx, vs, rfl, hp, _⟩ := r1.asIns w h1
  obtain ⟨q, dy, us, rfl, hq, _⟩ := r2.asIns w h2
  refine ⟨p, q, dx, dy, vs, us, rfl, rfl, hp, hq, [x, y], M, Z, _, rfl, .cons r1 (.cons r2 .nil), w, h, fun z d H' M' e w' r' hz => ?_⟩
  obtain ⟨⟨C', fs', rfl⟩, hz⟩ := hz
  refine ⟨?_, k _ _ H' M' e w' r' hz⟩
  cases r' with
  | ins h m r => exact ⟨_, rfl⟩
/-- a * b, a + b of instances -/
theorem we_binO {op : Operator} (F : Mc X.prog X.w X.K X.mg X.base C nm [] k 2 c) (hr : Room k X.A) (hc : PySem.W.selfFirst X.K C = true)
    (h : WE X ρ M a fun x M1 => WE X ρ M1 b fun y M2 => ∃ fs gs, InsOf M2 C x fs ∧ InsOf M2 C y gs ∧ c [x, y] M2 fun d M3 => (∃ C' fs, d = .ins C' fs) ∧ Φ d M3) (hn : PySem.dunder op.info.2 = nm := by rfl) : WE X ρ M (.BinOp a op b pos) Φ :=
  we_op (op_binO F hn hr hc) (h.imp fun _ _ h => h.imp fun _ _ h => rd_binO h)
end
end DL
namespace DL
open PySem PySem.Spec PyProof.Rows L2
section
variable {prog : Program} {w : World} {A : Around} {E : Value → Shared → Prop} {s : Shared} {x : Addr} {ox : Obj} {i : Int} {t : Tok} {Q : Option Value → Shared → Prop}
theorem int_no_sub (hx : s.heap.get? x = some ox) (hd : ox.data = .plain) (h : Q none s) : wpAny (model prog w) A (tryMethod (.int i t) "__sub__" (.ref x)) Q E s := by
  have hT : s.TypeIs (.int i t) "int" := rfl
  unfold tryMethod
  refine wpAny_bind (wpAny_callSpecial?_slot (name := Str.ofString "__sub__") hT PySem.F.slot_int_sub (wpAny_call_entry PySem.F.slot_int_sub hT PySem.F.entry_int_sub ?_ (PySem.F.args_int_sub_2 _ _)))
  unfold Builtin.«int.__sub__»
  show wpAny _ _ (Builtin.Int.intBinary "__sub__" _ _ _) _ _ _
  unfold Builtin.Int.intBinary slotArgs Builtin.Int.intOfSelf asInt?
  repeat (any_goals (first | assumption | wp_step))
  rw [hd]
  repeat (any_goals (first | assumption | wp_step))
  exact ⟨_, rfl, wpAny_pure h⟩
theorem int_no_mul (hx : s.heap.get? x = some ox) (hd : ox.data = .plain) (h : Q none s) : wpAny (model prog w) A (tryMethod (.int i t) "__mul__" (.ref x)) Q E s := by
  have hT : s.TypeIs (.int i t) "int" := rfl
  unfold tryMethod
  refine wpAny_bind (wpAny_callSpecial?_slot (name := Str.ofString "__mul__") hT PySem.F.slot_int_mul (wpAny_call_entry PySem.F.slot_int_mul hT PySem.F.entry_int_mul ?_ (PySem.F.args_int_mul_2 _ _)))
  unfold Builtin.«int.__mul__»
  show wpAny _ _ (Builtin.Int.intBinary "__mul__" _ _ _) _ _ _
  unfold Builtin.Int.intBinary slotArgs Builtin.Int.intOfSelf asInt?
  repeat (any_goals (first | assumption | wp_step))
  rw [hd]
  repeat (any_goals (first | assumption | wp_step))
  exact ⟨_, rfl, wpAny_pure h⟩
end
end DL
namespace DL
open PySem PySem.Spec PyProof.Rows L2
/-- an operator that integers have and decline -/
structure IntOp (op : Operator) : Prop where
  f : ∀ K : PySem.W.Frag, ∃ fo, PySem.W.findIn K (.type "int") (PySem.dunder op.info.2) = some fo
  r : ∀ K : PySem.W.Frag, ∃ ro, PySem.W.findIn K (.type "int") (dunderR op.info.2) = some ro
  no : ∀ {prog : Program} {w : World} {A : Around} {E : Value → Shared → Prop} {s : Shared} {x : Addr} {ox : Obj} {i : Int} {t : Tok} {Q : Option Value → Shared → Prop}, s.heap.get? x = some ox → ox.data = .plain → Q none s → wpAny (model prog w) A (tryMethod (.int i t) (PySem.dunder op.info.2) (.ref x)) Q E s
theorem io_sub : IntOp .Sub := ⟨fun K => ⟨_, (show fastLookup "int" "__sub__" = some (some (.builtin "int.__sub__")) by kernel_rfl)⟩, fun K => ⟨_, (show fastLookup "int" "__rsub__" = some (some (.builtin "int.__rsub__")) by kernel_rfl)⟩, int_no_sub⟩
theorem io_mul : IntOp .Mult := ⟨fun K => ⟨_, (show fastLookup "int" "__mul__" = some (some (.builtin "int.__mul__")) by kernel_rfl)⟩, fun K => ⟨_, (show fastLookup "int" "__rmul__" = some (some (.builtin "int.__rmul__")) by kernel_rfl)⟩, int_no_mul⟩
theorem int_sub {K : PySem.W.Frag} {C : Addr} : PySem.W.subIn K (.type "int") (.ref C) = some false := by
  unfold PySem.W.subIn
  have e : fastBuiltinMro "int" = some [.type "int", .type "object"] := by kernel_rfl
  show (fastBuiltinMro "int").map _ = _
  rw [e]; rfl
section
variable {X : Cx} {ρ : Rho} {M : Mp} {Φ : D → Mp → Prop} {Ξ : Addr → List (Str × D) → Mp → Prop} {a b o e fe : Expr} {es : List Expr} {pos : Pos} {C : Addr} {k k2 n2 : Nat} {c c2 : Con} {cx : ConX} {nm nmr : Str}
theorem no_dvs {n : Nat} (F : Mc X.prog X.w X.K X.mg X.base C nm [] k n c) : ∃ (f : Addr) (fd : FuncData) (ps : List Str), FnOk X.prog X.w X.K X.mg X.base CX0 k f fd ps (spD X.K n c) ∧ Meth X.K C nm f ∧ Binds X.K fd ps [] := by
  obtain ⟨f, fd, ps, dvs, ds, F', hme, hbd, hd, hdd⟩ := F.ex
  have r0 : Reps X.K (fun _ => none) (fun _ => False) (fun _ => none) dvs [] := hdd _ _ _
  cases r0
  cases hd
  exact ⟨f, fd, ps, F', hme, hbd⟩
def rBinI (X : Cx) (C : Addr) (c : Con) : R2 := fun v u H Q => ∃ p dx fs i, v = V.ref p ∧ u = V.int i ∧ H p = some (.ins C dx fs) ∧ spD X.K 2 c [v, u] H (fun z H' => (∃ r, z = .ref r) ∧ Q z H') E0
theorem op_binI {op : Operator} (io : IntOp op) (F : Mc X.prog X.w X.K X.mg X.base C nm [] k 2 c) (G : ∃ g, Meth X.K C nmr g) (hn : PySem.dunder op.info.2 = nm) (hnr : dunderR op.info.2 = nmr) (hr : Room k X.A) (hc : PySem.W.selfFirst X.K C = true) : OpR X (binaryOp op) (rBinI X C c) := by
  intro pins s σ H v u v' u' Q I rv ru hq
  obtain ⟨p, dx, fs, i, rfl, rfl, ha, hq⟩ := hq
  cases rv
  obtain ⟨t, rfl⟩ := ru
  obtain ⟨f, fd, ps, F', hme, hbd⟩ := no_dvs F
  obtain ⟨g, hmg⟩ := G
  obtain ⟨mA, J, _⟩ := ins_get I.hok ha
  obtain ⟨od, J, _⟩ := J.look
  obtain ⟨m, fr⟩ := I.fr
  obtain ⟨fo, h1⟩ := io.f X.K
  obtain ⟨ro, h2⟩ := io.r X.K
  have r2 : Vals [V.ref p, V.int i] [Value.ref p, Value.int i t] := .cons rfl (.cons ⟨t, rfl⟩ .nil)
  refine PySem.W.ksp_binT fr I.ok.mod.kin J (T := "int") rfl hc (by rw [hn]; exact hme.at_) hme.fn (by rw [hnr]; exact hmg.at_) (.inr ⟨g, rfl⟩) h1 h2 int_sub ?_
  refine wpAny_mono (run_fn F' hr hbd .nil pass0 I (vs := [.ref p, .int i]) r2 hq) (fun r s' hz => ?_) fun _ _ e => e
  obtain ⟨z, H', I', rz, ⟨g, rfl⟩, qz⟩ := hz
  cases rz
  exact ⟨.ref g, H', I', rfl, qz⟩
theorem we_binI {op : Operator} (io : IntOp op) (F : Mc X.prog X.w X.K X.mg X.base C nm [] k 2 c) (G : ∃ g, Meth X.K C nmr g) (hr : Room k X.A) (hc : PySem.W.selfFirst X.K C = true)
    (h : WE X ρ M a fun x M1 => WE X ρ M1 b fun y M2 => ∃ fs i, InsOf M2 C x fs ∧ y = .int i ∧ c [x, y] M2 fun d M3 => (∃ C' fs, d = .ins C' fs) ∧ Φ d M3) (hn : PySem.dunder op.info.2 = nm := by rfl) (hnr : dunderR op.info.2 = nmr := by rfl) : WE X ρ M (.BinOp a op b pos) Φ :=
  we_op (op_binI io F G hn hnr hr hc) (h.imp fun _ _ h => h.imp fun _ _ h Z v u H Q w r1 r2 k => by
    obtain ⟨fs, i, h1, rfl, h⟩ := h
    obtain ⟨p, dx, vs, rfl, hp, _⟩ := r1.asIns w h1
    cases r2
    refine ⟨p, dx, vs, i, rfl, rfl, hp, [_, .int i], _, Z, _, rfl, .cons r1 (.cons (.int i) .nil), w, h, fun z d H' M' e w' r' hz => ?_⟩
    obtain ⟨⟨C', fs', rfl⟩, hz⟩ := hz
    refine ⟨?_, k _ _ H' M' e w' r' hz⟩
    cases r' with
    | ins h m r => exact ⟨_, rfl⟩)
end
end DL
namespace W
open PySem PySem.Spec PyProof.Rows L2 DL SX PL SlX
def mkN (m : Mk) : NestedKey := .tup [.text m.1, .text m.2]
theorem mkN_nk (m : Mk) : nkD (mkD m) = some (mkN m) := rfl
theorem mkN_dp (m : Mk) : (mkN m).depth ≤ 8 := by
  show NestedKey.depth (.tup [.text m.1, .text m.2]) ≤ 8
  simp [NestedKey.depth, NestedKey.depthAll]
theorem mkN_inj {a b : Mk} (h : mkN a = mkN b) : a = b := by
  unfold mkN at h
  simp only [NestedKey.tup.injEq, List.cons.injEq, NestedKey.text.injEq, and_true] at h
  exact Prod.ext h.1 h.2
theorem keyD_mk (m : Mk) : KeyD (mkD m) := ⟨_, mkN m, rfl, mkN_nk m, mkN_dp m⟩
section
variable {α : Type}
def kvG (f : α → D) (l : List (Mk × α)) : List (D × D) := l.map fun q => (mkD q.1, f q.2)
def lk (l : List (Mk × α)) (m : Mk) : Option α := (l.find? fun q => decide (q.1 = m)).map (·.2)
def put (l : List (Mk × α)) (m : Mk) (v : α) : List (Mk × α) := if (l.any fun q => decide (q.1 = m)) = true then l.map (fun q => if q.1 = m then (q.1, v) else q) else l ++ [(m, v)]
def del (l : List (Mk × α)) (m : Mk) : List (Mk × α) := l.filter fun q => decide (q.1 ≠ m)
theorem some_mk {a b : Mk} : (some (mkN a) = some (mkN b)) ↔ a = b := ⟨fun h => mkN_inj (Option.some.inj h), fun h => by rw [h]⟩
theorem val_kv (f : α → D) (l : List (Mk × α)) (m : Mk) : valDN (kvG f l) (mkN m) = (lk l m).map f := by
  unfold valDN kvG lk
  induction l with
  | nil => rfl
  | cons q l ih =>
    rw [List.map_cons]
    by_cases h : q.1 = m
    · rw [List.find?_cons_of_pos (by show decide (nkD (mkD q.1) = some (mkN m)) = true; rw [mkN_nk, h]; simp), List.find?_cons_of_pos (by simpa using h)]; rfl
    · rw [List.find?_cons_of_neg (by show ¬ decide (nkD (mkD q.1) = some (mkN m)) = true; rw [mkN_nk, decide_eq_true_eq, some_mk]; exact h), List.find?_cons_of_neg (by simpa using h)]
      exact ih
theorem items_kv (f : α → D) (l : List (Mk × α)) : itemsN (kvG f l) = l.map fun q => D.tup [mkD q.1, f q.2] := by
  unfold itemsN kvG; rw [List.map_map]; rfl
theorem keys_kv (f : α → D) (l : List (Mk × α)) : keysN (kvG f l) = (l.map Prod.fst).map mkD := by
  unfold keysN kvG; rw [List.map_map, List.map_map]; rfl
theorem keyD_kv {f : α → D} {l : List (Mk × α)} : ∀ q ∈ kvG f l, KeyD q.1 := fun q hq => by
  obtain ⟨x, _, rfl⟩ := List.mem_map.mp hq
  exact keyD_mk _
theorem nd_kv {f : α → D} {l : List (Mk × α)} (h : (l.map Prod.fst).Nodup) : ((kvG f l).map fun q => nkD q.1).Nodup := by
  have e : ((kvG f l).map fun q => nkD q.1) = (l.map Prod.fst).map fun m => some (mkN m) := by unfold kvG; rw [List.map_map, List.map_map]; rfl
  rw [e]
  exact List.pairwise_map.mpr (h.imp fun h z => h (some_mk.mp z))
theorem lk_cons (q : Mk × α) (l : List (Mk × α)) (m : Mk) : lk (q :: l) m = if q.1 = m then some q.2 else lk l m := by
  unfold lk
  by_cases h : q.1 = m
  · rw [if_pos h, List.find?_cons_of_pos (by simpa using h)]; rfl
  · rw [if_neg h, List.find?_cons_of_neg (by simpa using h)]
theorem lk_none {l : List (Mk × α)} {m : Mk} : lk l m = none ↔ m ∉ l.map Prod.fst := by
  induction l with
  | nil => simp [lk]
  | cons q l ih =>
    rw [lk_cons]
    by_cases h : q.1 = m
    · rw [if_pos h]; simp [h]
    · rw [if_neg h, ih, List.map_cons, List.mem_cons]
      exact ⟨fun z w => w.elim (fun e => h e.symm) z, fun z w => z (.inr w)⟩
theorem lk_mem {l : List (Mk × α)} {m : Mk} {v : α} (h : lk l m = some v) : (m, v) ∈ l := by
  induction l with
  | nil => simp [lk] at h
  | cons q l ih =>
    rw [lk_cons] at h
    by_cases e : q.1 = m
    · rw [if_pos e] at h
      cases h
      rw [← e]; exact List.mem_cons_self
    · rw [if_neg e] at h
      exact List.mem_cons_of_mem _ (ih h)
theorem lk_of {l : List (Mk × α)} (nd : (l.map Prod.fst).Nodup) {q : Mk × α} (h : q ∈ l) : lk l q.1 = some q.2 := by
  induction l with
  | nil => cases h
  | cons x l ih =>
    rw [List.map_cons] at nd
    have nd := List.nodup_cons.mp nd
    rw [lk_cons]
    rcases List.mem_cons.mp h with rfl | h
    · rw [if_pos rfl]
    · rw [if_neg (fun e => nd.1 (by rw [e]; exact List.mem_map_of_mem h))]
      exact ih nd.2 h
end
def kvI (l : List Pt) : List (D × D) := kvG D.int l
theorem items_I (l : List Pt) : itemsN (kvI l) = l.map ptD := items_kv _ _
def co (l : List Pt) (m : Mk) : Int := (lk l m).getD 0
structure IsSum (ps qs : List Pt) (t : Int) (rs : List Pt) : Prop where
  up : (rs.map Prod.fst).Pairwise fun a b => ltM a b = true
  nz : ∀ p ∈ rs, p.2 ≠ 0
  eq : ∀ m, co rs m = co ps m + t * co qs m
theorem up_nd {rs : List Pt} (h : (rs.map Prod.fst).Pairwise fun a b => ltM a b = true) : (rs.map Prod.fst).Nodup := ltM_nodup h
theorem co_mem {rs : List Pt} (nd : (rs.map Prod.fst).Nodup) {p : Pt} (h : p ∈ rs) : co rs p.1 = p.2 := by unfold co; rw [lk_of nd h]; rfl
theorem co_ne {rs : List Pt} {m : Mk} (h : co rs m ≠ 0) : (m, co rs m) ∈ rs := by
  unfold co at h ⊢
  cases e : lk rs m with
  | none => rw [e] at h; exact absurd rfl h
  | some v => exact lk_mem e
theorem asc_ext : ∀ {rs rs' : List Pt}, (rs.map Prod.fst).Pairwise (fun a b => ltM a b = true) → (rs'.map Prod.fst).Pairwise (fun a b => ltM a b = true) → (∀ p, p ∈ rs ↔ p ∈ rs') → rs = rs'
  | [], [], _, _, _ => rfl
  | [], p :: rs', _, _, h => by have := (h p).mpr List.mem_cons_self; cases this
  | p :: rs, [], _, _, h => by have := (h p).mp List.mem_cons_self; cases this
  | p :: rs, q :: rs', h1, h2, h => by
    rw [List.map_cons, List.pairwise_cons] at h1 h2
    have lt1 : ∀ x ∈ rs, ltM p.1 x.1 = true := fun x hx => h1.1 _ (List.mem_map_of_mem hx)
    have lt2 : ∀ x ∈ rs', ltM q.1 x.1 = true := fun x hx => h2.1 _ (List.mem_map_of_mem hx)
    have e : p = q := by
      rcases List.mem_cons.mp ((h p).mp List.mem_cons_self) with e | hp
      · exact e
      · rcases List.mem_cons.mp ((h q).mpr List.mem_cons_self) with e | hq
        · exact e.symm
        · have a := lt2 p hp
          have b := lt1 q hq
          have c := ltM_tr a b
          rw [ltM_irr] at c; cases c
    subst e
    rw [asc_ext h1.2 h2.2 fun x => ?_]
    have hx := h x
    rw [List.mem_cons, List.mem_cons] at hx
    constructor
    · intro hr
      rcases hx.mp (.inr hr) with e | h'
      · have a := lt1 x hr
        rw [e, ltM_irr] at a; cases a
      · exact h'
    · intro hr
      rcases hx.mpr (.inr hr) with e | h'
      · have a := lt2 x hr
        rw [e, ltM_irr] at a; cases a
      · exact h'
theorem co_ext {rs rs' : List Pt} (u1 : (rs.map Prod.fst).Pairwise fun a b => ltM a b = true) (u2 : (rs'.map Prod.fst).Pairwise fun a b => ltM a b = true) (n1 : ∀ p ∈ rs, p.2 ≠ 0) (n2 : ∀ p ∈ rs', p.2 ≠ 0) (h : ∀ m, co rs m = co rs' m) : rs = rs' := by
  refine asc_ext u1 u2 fun p => ⟨fun hp => ?_, fun hp => ?_⟩
  · have e := co_mem (up_nd u1) hp
    rw [h] at e
    have := co_ne (rs := rs') (m := p.1) (by rw [e]; exact n1 p hp)
    rw [e] at this; exact this
  · have e := co_mem (up_nd u2) hp
    rw [← h] at e
    have := co_ne (rs := rs) (m := p.1) (by rw [e]; exact n2 p hp)
    rw [e] at this; exact this
theorem IsSum.uni {ps qs rs rs' : List Pt} {t : Int} (h1 : IsSum ps qs t rs) (h2 : IsSum ps qs t rs') : rs = rs' := co_ext h1.up h2.up h1.nz h2.nz fun m => (h1.eq m).trans (h2.eq m).symm
theorem IsSum.key {ps qs rs : List Pt} {t : Int} (h : IsSum ps qs t rs) {p : Pt} (hp : p ∈ rs) : p.1 ∈ ps.map Prod.fst ∨ p.1 ∈ qs.map Prod.fst := by
  have e := co_mem (up_nd h.up) hp
  rw [h.eq] at e
  by_cases h1 : co ps p.1 = 0
  · by_cases h2 : co qs p.1 = 0
    · rw [h1, h2] at e
      exact absurd (by rw [← e]; simp) (h.nz p hp)
    · exact .inr (List.mem_map.mpr ⟨_, co_ne h2, rfl⟩)
  · exact .inl (List.mem_map.mpr ⟨_, co_ne h1, rfl⟩)
theorem IsSum.pts {ps qs rs : List Pt} {t : Int} (h : IsSum ps qs t rs) (h1 : Pts ps) (h2 : Pts qs) : Pts rs := ⟨fun p hp => by
  rcases h.key hp with k | k
  · obtain ⟨x, hx, e⟩ := List.mem_map.mp k
    have := h1.ok x hx
    rw [e] at this
    exact ⟨this.1, this.2.1, h.nz p hp⟩
  · obtain ⟨x, hx, e⟩ := List.mem_map.mp k
    have := h2.ok x hx
    rw [e] at this
    exact ⟨this.1, this.2.1, h.nz p hp⟩, h.up⟩
theorem IsSum.few {ps qs rs : List Pt} {t : Int} (h : IsSum ps qs t rs) : rs.length ≤ ps.length + qs.length := by
  have := nodup_sub (up_nd h.up) (m := ps.map Prod.fst ++ qs.map Prod.fst) fun x hx => by
    obtain ⟨p, hp, rfl⟩ := List.mem_map.mp hx
    exact List.mem_append.mpr (h.key hp)
  rw [List.length_map, List.length_append, List.length_map, List.length_map] at this
  exact this
/-- what a loop over a list of marks, all that matter, has made -/
theorem isSum_of {ps qs : List Pt} {t : Int} {ms : List Mk} {g : Mk → Int} (up : ms.Pairwise fun a b => ltM a b = true) (hg : ∀ m, g m = co ps m + t * co qs m) (all : ∀ m, g m ≠ 0 → m ∈ ms) : IsSum ps qs t ((ms.map fun m => (m, g m)).filter fun p => decide (p.2 ≠ 0)) := by
  have u0 : ((ms.map fun m => (m, g m)).map Prod.fst).Pairwise fun a b => ltM a b = true := by rw [List.map_map, show (Prod.fst ∘ fun m : Mk => (m, g m)) = id from rfl, List.map_id]; exact up
  have u1 : (((ms.map fun m => (m, g m)).filter fun p => decide (p.2 ≠ 0)).map Prod.fst).Pairwise fun a b => ltM a b = true := List.Pairwise.sublist (List.filter_sublist.map Prod.fst) u0
  refine ⟨u1, fun p hp => by simpa using (List.mem_filter.mp hp).2, fun m => ?_⟩
  rw [← hg]
  by_cases h : g m = 0
  · have : lk ((ms.map fun m => (m, g m)).filter fun p => decide (p.2 ≠ 0)) m = none := by
      rw [lk_none]
      intro z
      obtain ⟨p, hp, rfl⟩ := List.mem_map.mp z
      obtain ⟨h1, h2⟩ := List.mem_filter.mp hp
      obtain ⟨k, _, rfl⟩ := List.mem_map.mp h1
      simp at h2
      exact h2 h
    unfold co
    rw [this, h]; rfl
  · have : (m, g m) ∈ (ms.map fun m => (m, g m)).filter fun p => decide (p.2 ≠ 0) := List.mem_filter.mpr ⟨List.mem_map.mpr ⟨m, all m h, rfl⟩, by simpa using h⟩
    exact co_mem (up_nd u1) this
end W
namespace W
open PySem PySem.Spec PyProof.Rows L2 DL SX PL SlX
theorem pt_blk {X : Cx} {scope : Scope} {c : Expr} (s : Shared) (H0 : Hp) (C : Addr) (cl : List (Str × Addr)) (fp : List Addr) : PTs (X.blk s H0 scope (compEnvC scope cl C X.env) fp) [c] (tBlk X scope c) := pts_one ⟨fun pins s' σ' H' Q' I q => q s H0 C cl fp pins s' I⟩
theorem filt_snocG {α : Type} {f : α → Bool} {l : List α} {j : Nat} {z : α} (h : l[j]? = some z) : (l.take (j + 1)).filter f = (l.take j).filter f ++ if f z = true then [z] else [] := by
  rw [take_snoc h, List.filter_append]
  congr 1
  rw [List.filter_cons]
  split <;> rfl
end W
namespace W
open PySem PySem.Spec PyProof.Rows L2 DL SX PL SlX
def BdI (i : Int) : Prop := i.natAbs ≤ 10 ^ 60
def BdP (ps : List Pt) : Prop := ∀ p ∈ ps, BdI p.2
theorem bd0 : BdI 0 := by unfold BdI; decide +kernel
theorem cmulB {i j : Int} (h1 : BdI i) (h2 : BdI j) : CMulW i j := by
  have key : ∀ x : Int, BdI x → x.natAbs.log2 < 250 := fun x h => by
    by_cases h0 : x.natAbs = 0
    · rw [h0]; decide
    · exact (Nat.log2_lt h0).mpr (Nat.lt_of_le_of_lt h (by decide +kernel))
  have := key i h1
  have := key j h2
  unfold CMulW
  omega
theorem BdP.co {ps : List Pt} (h : BdP ps) (m : Mk) : BdI (co ps m) := by
  by_cases e : W.co ps m = 0
  · rw [e]; exact bd0
  · exact h _ (co_ne e)
theorem getD_co (l : List Pt) (m : Mk) : (valDN (kvI l) (mkN m)).getD (.int 0) = .int (co l m) := by
  unfold kvI
  rw [val_kv]
  unfold co
  cases lk l m <;> rfl
theorem frz2 {M : Mp} {q1 q2 : Addr} {o1 o2 : MO} (h1 : M q1 = none) (h2 : mset M q1 o1 q2 = none) : mdel (mdel (mset (mset M q1 o1) q2 o2) q1) q2 = M := by
  funext b
  unfold mdel mset
  by_cases e2 : b = q2
  · rw [if_pos e2]
    have ne : q2 ≠ q1 := fun e => by rw [e, mset_same] at h2; cases h2
    rw [mset_ne ne] at h2
    rw [e2, h2]
  · rw [if_neg e2]
    by_cases e1 : b = q1
    · rw [if_pos e1, e1, h1]
    · rw [if_neg e1, if_neg e2, if_neg e1]
theorem strs_mk (ns : List Mk) : (ns.map mkL).map (fun z => D.tup (z.map D.str)) = ns.map mkD := by rw [List.map_map]; rfl
section
variable {P : Program} {w : World} {K : PySem.W.Frag} {mg : Str → Option Value} {base : Heap} {C R U V : Addr}
abbrev nPut : List Str := ["one", "other", "times", "here", "there", "found", "mark", "many"]
def cPut (R : Addr) : Con := fun ds M Φ => ∃ ps n qs m t, ds = [fmD R ps n, fmD R qs m, .int t] ∧ Pts ps ∧ Pts qs ∧ ps.length ≤ 20 ∧ qs.length ≤ 20 ∧ BdP qs ∧ BdI m ∧ BdI t ∧ ∀ rs, IsSum ps qs t rs → Φ (fmD R rs (n + t * m)) M
theorem ok_put (F : Fx w K mg) (P1 : Pc P w K mg base R "parts" 1 (cFmGet R fun ps _ => .ptup (ps.map ptD))) (P2 : Pc P w K mg base R "number" 1 (cFmGet R fun _ n => .int n)) (KF : Kc P w K mg base "Form" R [] 4 3 (cFm R)) :
    BodyOk P w K mg base "put_together" s_put_together nPut 3 5 (cPut R) := by
  intro f cdv A outer s H E hr ds M Φ hl hc
  obtain ⟨ps, n, qs, m, t, rfl, hp, hq, lp, lq, bq, bm, bt, hc⟩ := hc
  have nd : nPut.Nodup := by decide +kernel
  have gD : mg "dict" = none := F.bn _ (by decide +kernel)
  have gS : mg "sorted" = none := F.bn _ (by decide +kernel)
  have gE : mg "set" = none := F.bn _ (by decide +kernel)
  have gT : mg "tuple" = none := F.bn _ (by decide +kernel)
  have u9 : (A.deeper (envOfC "put_together" (defScope s_put_together) s.heap.objs.size f cdv)).units + 9 < cLine := by have := hr.units; omega
  refine wss_cons (ws_asg (we_tup (wa_cons (we_dictPN hr.units gD (we_prop P1 (hr.mono (by omega)) (we_var 0 rfl ⟨_, insF, ps, n, rfl, kvI ps, .inr (by rw [items_I]), keyD_kv, nd_kv (up_nd hp.up), fun q1 h1 =>
    wa_cons (we_dictPN hr.units gD (we_prop P1 (hr.mono (by omega)) (we_var 1 rfl ⟨_, insF, qs, m, rfl, kvI qs, .inr (by rw [items_I]), keyD_kv, nd_kv (up_nd hq.up), fun q2 h2 => wa_nil ⟨sz2x, wg_tup ⟨rfl, rfl, wgs_cons (wg_name 3 (wgs_cons (wg_name 4 (wgs_nil ⟨rfl, ?_⟩) nd)) nd)⟩⟩⟩)))⟩))))))
  have ne : q2 ≠ q1 := fun e => by rw [e, mset_same] at h2; cases h2
  have m1 : mset (mset M q1 (.dN w (kvI ps))) q2 (.dN w (kvI qs)) q1 = some (.dN w (kvI ps)) := by rw [mset_ne (Ne.symm ne)]; exact mset_same
  have m2 : mdel (mset (mset M q1 (.dN w (kvI ps))) q2 (.dN w (kvI qs))) q1 q2 = some (.dN w (kvI qs)) := by rw [mdel_ne ne]; exact mset_same
  have fz := frz2 (o1 := .dN w (kvI ps)) (o2 := .dN w (kvI qs)) h1 h2
  show WSs _ [some (fmD R ps n), some (fmD R qs m), some (.int t), some (.ob q1), some (.ob q2), none, none, none] (mset (mset M q1 (.dN w (kvI ps))) q2 (.dN w (kvI qs))) _ _
  refine wss_frzN (i := 3) rfl m1 ?_
  refine wss_frzN (i := 4) rfl m2 ?_
  rw [fz]
  refine wss_cons (ws_setLc 5 nd (blkOk_by (N := nPut) (sc := defScope s_put_together) (own := [("mark", 6)]) (by decide +kernel)) (fun _ _ _ _ _ => pg_name (i := 6) nd rfl (Or.inl rfl)) (gt_name (by decide)) (fun _ _ _ _ _ => pts_nil) tk_nil
    (wi_list (we_sortedSetTx hr.units gS gE (we_lst (wa_starN (we_var 3 rfl ⟨_, rfl, wa_starN (we_var 4 rfl ⟨_, rfl, wa_nil fun ys e ys2 e2 => ?_⟩)⟩))))) rfl)
  rw [List.append_nil] at e
  subst e
  have eys : ys2 = ((ps.map Prod.fst ++ qs.map Prod.fst).map mkL).map fun z => D.tup (z.map D.str) := by
    rw [e2, strs_mk, List.map_append]
    show keysN (kvG D.int ps) ++ keysN (kvG D.int qs) = _
    rw [keys_kv, keys_kv]
  have lz : ((ps.map Prod.fst ++ qs.map Prod.fst).map mkL).length ≤ 40 := by rw [List.length_map, List.length_append, List.length_map, List.length_map]; omega
  refine ⟨by rw [eys, List.length_map, sizeLine_eq]; omega, (ps.map Prod.fst ++ qs.map Prod.fst).map mkL, by rw [eys]; exact rfl, by omega, fun z => ?_, fun zs hz => ?_⟩
  · obtain ⟨k, _, e⟩ := List.mem_map.mp z
    cases e
  obtain ⟨ns, rfl, up, hns, lns⟩ := upT_mk hz
  rw [strs_mk]
  refine ⟨_, .inl rfl, ?_⟩
  refine ⟨by rw [List.length_map, sizeLine_eq]; omega, fun i acc M' => M' = M ∧ acc = ((ns.take i).map fun k => (k, co ps k + t * co qs k)).map ptD, ⟨rfl, rfl⟩, ?_, ?_⟩
  · rintro i x acc M' hx ⟨rfl, rfl⟩
    rw [List.getElem?_map] at hx
    obtain ⟨u, hu, rfl⟩ := Option.map_eq_some_iff.mp hx
    intro s1 H1 C' cl fp
    refine we_tup (wa_cons (we_var 6 rfl (wa_cons (we_addI (we_getNR u9 (we_var 3 rfl ⟨_, rfl, we_var 6 rfl (we_int ⟨_, mkN u, rfl, mkN_nk u, mkN_dp u, ?_⟩)⟩))))))
    rw [getD_co]
    refine we_mulI (we_var 2 rfl (we_getNR u9 (we_var 4 rfl ⟨_, rfl, we_var 6 rfl (we_int ⟨_, mkN u, rfl, mkN_nk u, mkN_dp u, ?_⟩)⟩)))
    rw [getD_co]
    refine ⟨t, co qs u, rfl, rfl, cmulB bt (bq.co u), co ps u, t * co qs u, rfl, rfl, wa_nil ⟨sz2x, rfl, ?_⟩⟩
    rw [take_snoc hu, List.map_append, List.map_append]; rfl
  rintro acc M' ⟨rfl, rfl⟩
  rw [List.length_map, List.take_length]
  have hs : IsSum ps qs t ((ns.map fun k => (k, co ps k + t * co qs k)).filter fun p => decide (p.2 ≠ 0)) := isSum_of (g := fun k => co ps k + t * co qs k) up (fun _ => rfl) fun k hk => by
    rw [hns, List.mem_append]
    by_cases h1 : co ps k = 0
    · by_cases h2 : co qs k = 0
      · rw [h1, h2] at hk; simp at hk
      · exact .inr (List.mem_map.mpr ⟨_, co_ne h2, rfl⟩)
    · exact .inl (List.mem_map.mpr ⟨_, co_ne h1, rfl⟩)
  have hc := hc _ hs
  have hpts := hs.pts hp hq
  have hlen := hs.few
  have lfs : (ns.map fun k => (k, co ps k + t * co qs k)).length ≤ 64 := by rw [List.length_map]; omega
  generalize (ns.map fun k => (k, co ps k + t * co qs k)) = fs at hc hs hpts hlen lfs ⊢
  refine wss_cons (ws_ret (we_form KF (hr.mono (by omega)) (wa_cons (we_tupleP gT (we_lc nd (blkOk_by (N := nPut) (sc := defScope s_put_together) (own := [("mark", 6), ("many", 7)]) (by decide +kernel)) (fun _ _ _ _ _ => pg_tup rfl (pgs_cons (pg_name (i := 6) nd rfl (Or.inl rfl)) (pgs_cons (pg_name (i := 7) nd rfl (Or.inl rfl)) pgs_nil)) rfl rfl) (gt_two (by decide) (by decide)) pt_blk tk_one
    (wi_list (we_var 5 rfl ⟨_, .inl rfl, ?_⟩)))))))
  refine ⟨by rw [List.length_map, sizeLine_eq]; omega, fun i acc M2 => M2 = M' ∧ acc = ((fs.take i).filter fun p => decide (p.2 ≠ 0)).map ptD, ⟨rfl, rfl⟩, ?_, ?_⟩
  · rintro i x acc M2 hx ⟨rfl, rfl⟩
    rw [List.getElem?_map] at hx
    obtain ⟨u, hu, rfl⟩ := Option.map_eq_some_iff.mp hx
    refine ⟨_, _, rfl, ?_⟩
    intro s1 H1 C' cl fp
    refine wt_neS (we_var 7 rfl (we_int ⟨decide (u.2 = 0), rfl, ?_⟩))
    by_cases hz0 : u.2 = 0
    · rw [decide_eq_true hz0, if_neg (by simp)]
      exact ⟨rfl, by rw [filt_snocG hu, if_neg (by simp [hz0])]; simp⟩
    · rw [decide_eq_false hz0, if_pos (show (!false) = true from rfl)]
      intro s1 H1 C' cl fp
      refine we_tup (wa_cons (we_var 6 rfl (wa_cons (we_var 7 rfl (wa_nil ⟨sz2x, rfl, ?_⟩)))))
      rw [filt_snocG hu, if_pos (by simp [hz0]), List.map_append]; rfl
  rintro acc M2 ⟨rfl, rfl⟩
  rw [List.length_map, List.take_length]
  refine ⟨_, rfl, ?_⟩
  refine wa_cons (we_addI (we_prop P2 (hr.mono (by omega)) (we_var 0 rfl ⟨_, insF, ps, n, rfl, we_mulI (we_var 2 rfl (we_prop P2 (hr.mono (by omega)) (we_var 1 rfl ⟨_, insF, qs, m, rfl, ⟨t, m, rfl, rfl, cmulB bt bm, n, t * m, rfl, rfl, wa_nil ⟨_, _, rfl, hpts, Nat.le_trans hlen (by omega), Lets.of hc⟩⟩⟩)))⟩)))
end
end W
namespace W
open PySem PySem.Spec PyProof.Rows L2 DL SX PL SlX
theorem isSum_mul {ps : List Pt} {i : Int} (h : Pts ps) : IsSum [] ps i (if i = 0 then [] else ps.map fun p => (p.1, p.2 * i)) := by
  by_cases h0 : i = 0
  · rw [if_pos h0]
    exact ⟨.nil, (fun p hp => (nomatch hp)), fun m => by rw [h0]; show (0 : Int) = 0 + 0 * _; simp⟩
  · rw [if_neg h0]
    have e : (ps.map fun p => (p.1, p.2 * i)).map Prod.fst = ps.map Prod.fst := by rw [List.map_map]; rfl
    refine ⟨by rw [e]; exact h.up, fun p hp => ?_, fun m => ?_⟩
    · obtain ⟨q, hq, rfl⟩ := List.mem_map.mp hp
      exact Int.mul_ne_zero (h.ok q hq).2.2 h0
    · have z : ∀ ps : List Pt, co (ps.map fun p => (p.1, p.2 * i)) m = i * co ps m := fun ps => by
        induction ps with
        | nil => show (0 : Int) = i * 0; simp
        | cons p ps ih =>
          unfold co at ih ⊢
          rw [List.map_cons, lk_cons, lk_cons]
          by_cases e : p.1 = m
          · rw [if_pos e, if_pos e]
            show p.2 * i = i * p.2
            exact Int.mul_comm _ _
          · rw [if_neg e, if_neg e]; exact ih
      rw [z]
      show _ = (0 : Int) + _
      omega
theorem co_neg : BdI (-1) := by unfold BdI; decide +kernel
theorem bd1 : BdI 1 := by unfold BdI; decide +kernel
section
variable {P : Program} {w : World} {K : PySem.W.Frag} {mg : Str → Option Value} {base : Heap} {C R U V : Addr}
def cIntF (R : Addr) : Con := fun ds M Φ => ∃ ps n, ds = [fmD R ps n, .non, .non] ∧ Φ (.bl false) M
theorem ok_int_f (F : Fx w K mg) (XO : OwnC K R) (hk : PySem.W.kitOne K (.ref R) (.type "int") = some false) : BodyOk P w K mg base "is_integer" s_is_integer ["value", "low", "high"] 3 0 (cIntF R) := by
  intro f cdv A outer s H E hr ds M Φ hl hc
  obtain ⟨ps, n, rfl, hc⟩ := hc
  refine wss_cons (ws_if (wt_ww (ww_or (wt_not (wt_val (we_isi (F.bn _ (by decide +kernel)) (we_var 0 rfl (we_bty (F.bn _ (by decide +kernel)) rfl ⟨.ref R, _, false, rfl, rfl, (by intro C h; cases h; exact XO), hk, _, rfl, ?_⟩))))))))
  exact wss_cons (ws_ret (we_bl (Lets.of hc)))
abbrev nSO : List Str := ["self", "other"]
/-- f + i, f - i -/
def cShI (R : Addr) (g : Int → Int → Int) : Con := fun ds M Φ => ∃ ps n i, ds = [fmD R ps n, .int i] ∧ Pts ps ∧ ps.length ≤ 1000 ∧ Φ (fmD R ps (g n i)) M
/-- f + g, f - g -/
def cShF (R : Addr) (t : Int) : Con := fun ds M Φ => ∃ ps n qs m, ds = [fmD R ps n, fmD R qs m] ∧ Pts ps ∧ Pts qs ∧ ps.length ≤ 20 ∧ qs.length ≤ 20 ∧ BdP qs ∧ BdI m ∧ ∀ rs, IsSum ps qs t rs → Φ (fmD R rs (n + t * m)) M
theorem ok_sub_i (F : Fx w K mg) (P1 : Pc P w K mg base R "parts" 1 (cFmGet R fun ps _ => .ptup (ps.map ptD))) (P2 : Pc P w K mg base R "number" 1 (cFmGet R fun _ n => .int n)) (KF : Kc P w K mg base "Form" R [] 4 3 (cFm R)) (FI : Fc P w K mg base "is_integer" [.non, .non] 1 3 cInt1) :
    BodyOk P w K mg base "Form.__sub__" s_Form___sub__ nSO 2 5 (cShI R fun n i => n - i) := by
  intro f cdv A outer s H E hr ds M Φ hl hc
  obtain ⟨ps, n, i, rfl, hp, lp, hc⟩ := hc
  refine wss_cons (ws_if (wt_val (we_call FI (hr.mono (by omega)) (wa_cons (we_var 1 rfl (wa_nil ⟨rfl, .int i, by rw [avD]; rfl, true, rfl, ?_⟩))))))
  refine wss_cons (ws_ret (we_form KF (hr.mono (by omega)) (wa_cons (we_prop P1 (hr.mono (by omega)) (we_var 0 rfl ⟨_, insF, ps, n, rfl, wa_cons (we_subI (we_prop P2 (hr.mono (by omega)) (we_var 0 rfl ⟨_, insF, ps, n, rfl, we_var 1 rfl ⟨n, i, rfl, rfl, wa_nil ⟨_, _, rfl, hp, lp, Lets.of hc⟩⟩⟩)))⟩)))))
theorem ok_add_f (F : Fx w K mg) (X : Fo K mg R) (XO : OwnC K R) (FI : Fc P w K mg base "is_integer" [.non, .non] 1 3 (cIntF R)) (FP : Fc P w K mg base "put_together" [] 6 3 (cPut R)) :
    BodyOk P w K mg base "Form.__add__" s_Form___add__ nSO 2 6 (cShF R 1) := by
  intro f cdv A outer s H E hr ds M Φ hl hc
  obtain ⟨ps, n, qs, m, rfl, hp, hq, lp, lq, bq, bm, hc⟩ := hc
  refine wss_cons (ws_if (wt_val (we_call FI (hr.mono (by omega)) (wa_cons (we_var 1 rfl (wa_nil ⟨rfl, qs, m, rfl, false, rfl, ?_⟩))))))
  refine wss_nil (wss_cons (ws_if (wt_not (wt_val (we_isi (F.bn _ (by decide +kernel)) (we_var 1 rfl (we_gref X.at_ (fun _ _ _ => .fn _) ⟨.ref R, .ref R, true, rfl, rfl, (by intro C h; cases h; exact XO), by unfold PySem.W.kitOne; simp, true, rfl, ?_⟩)))))))
  refine wss_nil (wss_cons (ws_ret (we_call FP (hr.mono (by omega)) (wa_cons (we_var 0 rfl (wa_cons (we_var 1 rfl (wa_cons (we_int (wa_nil ⟨rfl, ps, n, qs, m, 1, rfl, hp, hq, lp, lq, bq, bm, bd1, fun rs hs => Lets.of (hc rs hs)⟩))))))))))
theorem ok_sub_f (F : Fx w K mg) (X : Fo K mg R) (XO : OwnC K R) (FI : Fc P w K mg base "is_integer" [.non, .non] 1 3 (cIntF R)) (FP : Fc P w K mg base "put_together" [] 6 3 (cPut R)) :
    BodyOk P w K mg base "Form.__sub__" s_Form___sub__ nSO 2 6 (cShF R (-1)) := by
  intro f cdv A outer s H E hr ds M Φ hl hc
  obtain ⟨ps, n, qs, m, rfl, hp, hq, lp, lq, bq, bm, hc⟩ := hc
  refine wss_cons (ws_if (wt_val (we_call FI (hr.mono (by omega)) (wa_cons (we_var 1 rfl (wa_nil ⟨rfl, qs, m, rfl, false, rfl, ?_⟩))))))
  refine wss_nil (wss_cons (ws_if (wt_not (wt_val (we_isi (F.bn _ (by decide +kernel)) (we_var 1 rfl (we_gref X.at_ (fun _ _ _ => .fn _) ⟨.ref R, .ref R, true, rfl, rfl, (by intro C h; cases h; exact XO), by unfold PySem.W.kitOne; simp, true, rfl, ?_⟩)))))))
  refine wss_nil (wss_cons (ws_ret (we_call FP (hr.mono (by omega)) (wa_cons (we_var 0 rfl (wa_cons (we_var 1 rfl (wa_cons (we_negI (we_int ⟨1, rfl, wa_nil ⟨rfl, ps, n, qs, m, -1, rfl, hp, hq, lp, lq, bq, bm, co_neg, fun rs hs => Lets.of (hc rs hs)⟩⟩))))))))))
abbrev nMl : List Str := ["self", "many", "mark", "its"]
def cMul (R : Addr) : Con := fun ds M Φ => ∃ ps n i, ds = [fmD R ps n, .int i] ∧ Pts ps ∧ ps.length ≤ 1000 ∧ BdP ps ∧ BdI n ∧ BdI i ∧ ∀ rs, IsSum [] ps i rs → Φ (fmD R rs (n * i)) M
theorem ok_mul (F : Fx w K mg) (P1 : Pc P w K mg base R "parts" 1 (cFmGet R fun ps _ => .ptup (ps.map ptD))) (P2 : Pc P w K mg base R "number" 1 (cFmGet R fun _ n => .int n)) (KF : Kc P w K mg base "Form" R [] 4 3 (cFm R)) (FI : Fc P w K mg base "is_integer" [.non, .non] 1 3 cInt1) :
    BodyOk P w K mg base "Form.__mul__" s_Form___mul__ nMl 2 5 (cMul R) := by
  intro f cdv A outer s H E hr ds M Φ hl hc
  obtain ⟨ps, n, i, rfl, hp, lp, bp, bn, bi, hc⟩ := hc
  have nd : nMl.Nodup := by decide +kernel
  have gT : mg "tuple" = none := F.bn _ (by decide +kernel)
  have hs := isSum_mul (i := i) hp
  have hc := hc _ hs
  have hpts := hs.pts (ps := []) ⟨fun p hp => (nomatch hp), .nil⟩ hp
  have hlen : (if i = 0 then [] else ps.map fun p => (p.1, p.2 * i)).length ≤ 1000 := by split <;> simp <;> omega
  refine wss_cons (ws_if (wt_not (wt_val (we_call FI (hr.mono (by omega)) (wa_cons (we_var 1 rfl (wa_nil ⟨rfl, .int i, by rw [avD]; rfl, true, rfl, wss_nil ?_⟩)))))))
  refine wss_cons (ws_ret (we_form KF (hr.mono (by omega)) (wa_cons (we_tupleP gT (we_lc nd (blkOk_by (N := nMl) (sc := defScope s_Form___mul__) (own := [("mark", 2), ("its", 3)]) (by decide +kernel)) (fun _ _ _ _ _ => pg_tup rfl (pgs_cons (pg_name (i := 2) nd rfl (Or.inl rfl)) (pgs_cons (pg_name (i := 3) nd rfl (Or.inl rfl)) pgs_nil)) rfl rfl) (gt_two (by decide) (by decide)) pt_blk tk_one
    (wi_tup (we_unp (we_prop P1 (hr.mono (by omega)) (we_var 0 rfl ⟨_, insF, ps, n, rfl, _, rfl, _, rfl, ?_⟩)))))))))
  refine ⟨by rw [List.length_map, sizeLine_eq]; omega, fun j acc M2 => M2 = M ∧ acc = (if i = 0 then [] else (ps.take j).map fun p => (p.1, p.2 * i)).map ptD, ⟨rfl, by simp⟩, ?_, ?_⟩
  · rintro j x acc M2 hx ⟨rfl, rfl⟩
    rw [List.getElem?_map] at hx
    obtain ⟨u, hu, rfl⟩ := Option.map_eq_some_iff.mp hx
    refine ⟨_, _, rfl, ?_⟩
    intro s1 H1 C' cl fp
    refine wt_neS (we_var 1 rfl (we_int ⟨decide (i = 0), rfl, ?_⟩))
    by_cases hz0 : i = 0
    · rw [decide_eq_true hz0, if_neg (by simp)]
      exact ⟨rfl, by rw [if_pos hz0, if_pos hz0]⟩
    · rw [decide_eq_false hz0, if_pos (show (!false) = true from rfl)]
      intro s1 H1 C' cl fp
      refine we_tup (wa_cons (we_var 2 rfl (wa_cons (we_mulI (we_var 3 rfl (we_var 1 rfl ⟨u.2, i, rfl, rfl, cmulB (bp u (List.mem_of_getElem? hu)) bi, wa_nil ⟨sz2x, rfl, ?_⟩⟩))))))
      rw [if_neg hz0, if_neg hz0, take_snoc hu, List.map_append, List.map_append]; rfl
  rintro acc M2 ⟨rfl, rfl⟩
  rw [List.length_map, List.take_length]
  refine ⟨_, rfl, ?_⟩
  exact wa_cons (we_mulI (we_prop P2 (hr.mono (by omega)) (we_var 0 rfl ⟨_, insF, ps, n, rfl, we_var 1 rfl ⟨n, i, rfl, rfl, cmulB bn bi, wa_nil ⟨_, _, rfl, hpts, hlen, Lets.of hc⟩⟩⟩)))
end
end W
namespace W
open PySem PySem.Spec PyProof.Rows L2 DL SX PL SlX
abbrev Row := List Pt × Int
theorem s_assoc (x y z : Str) : x ++ y ++ z = x ++ (y ++ z) := TL.ext_tl (by simp only [TL.tl_append, List.append_assoc])
def J (ws : List Str) : Str := Str.join " " ws
theorem J_cons (x : Str) {ws : List Str} (h : ws ≠ []) : J (x :: ws) = x ++ " " ++ J ws := by
  cases ws with
  | nil => exact absurd rfl h
  | cons y r => rfl
theorem J_app : ∀ {a b : List Str}, a ≠ [] → b ≠ [] → J (a ++ b) = J a ++ " " ++ J b
  | [], _, h, _ => absurd rfl h
  | [x], b, _, hb => by
    show J (x :: b) = _
    rw [J_cons x hb]; rfl
  | x :: y :: r, b, _, hb => by
    show J (x :: ((y :: r) ++ b)) = _
    rw [J_cons x (by simp), J_app (List.cons_ne_nil _ _) hb, J_cons x (ws := y :: r) (by simp)]
    simp only [s_assoc]
theorem J_flat : ∀ {xss : List (List Str)}, (∀ xs ∈ xss, xs ≠ []) → J (xss.map J) = J xss.flatten
  | [], _ => rfl
  | [xs], _ => by show J xs = J (xs ++ []); rw [List.append_nil]
  | xs :: ys :: r, h => by
    have h1 : (ys :: r).flatten ≠ [] := by
      have := h ys (List.mem_cons_of_mem _ List.mem_cons_self)
      cases e : ys with
      | nil => exact absurd e this
      | cons a b => simp
    show J (J xs :: (ys :: r).map J) = J (xs ++ (ys :: r).flatten)
    rw [J_cons _ (by simp), J_flat (fun z hz => h z (List.mem_cons_of_mem _ hz)), J_app (h xs List.mem_cons_self) h1]
def ab (i : Int) : Int := if i < 0 then -i else i
/-- the words of a term without its sign -/
def mkT (m : Mk) : Str := m.1 ++ "." ++ m.2
def tmW (k : Int) (m : Mk) : List Str := if k = 1 then [mkT m] else [(toString k : String), mkT m]
abbrev Tm := Int × List Str
def termsW (f : Row) : List Tm := (f.1.map fun p => (p.2, tmW (ab p.2) p.1)) ++ if f.2 ≠ 0 ∨ f.1 = [] then [(f.2, [Str.ofString (toString (ab f.2))])] else []
def headW : List Str → Bool → List Str
  | w :: ws, true => ("-" ++ w) :: ws
  | ws, _ => ws
def sgW (i : Int) : Str := if i < 0 then "-" else "+"
def wordsF (f : Row) : List Str := match termsW f with
  | [] => []
  | q :: r => headW q.2 (decide (q.1 < 0)) ++ (r.map fun z => sgW z.1 :: z.2).flatten
/-- the text of a Form -/
def T (f : Row) : Str := J (wordsF f)
theorem tmW_ne (k : Int) (m : Mk) : tmW k m ≠ [] := by
  unfold tmW
  split <;> simp
theorem terms_ne (f : Row) : termsW f ≠ [] := by
  unfold termsW
  by_cases h : f.1 = []
  · rw [if_pos (.inr h)]; simp
  · simp [h]
theorem terms_w (f : Row) : ∀ q ∈ termsW f, q.2 ≠ [] := by
  intro q hq
  unfold termsW at hq
  rcases List.mem_append.mp hq with hq | hq
  · obtain ⟨p, _, rfl⟩ := List.mem_map.mp hq
    exact tmW_ne _ _
  · split at hq
    · rw [List.mem_singleton.mp hq]; simp
    · cases hq
theorem headW_ne {ws : List Str} (h : ws ≠ []) (b : Bool) : headW ws b ≠ [] := by
  cases ws with
  | nil => exact absurd rfl h
  | cons w r => cases b <;> simp [headW]
theorem J_head {ws : List Str} (h : ws ≠ []) (b : Bool) : J (headW ws b) = (if b = true then ("-" : Str) else "") ++ J ws := by
  have e0 : ∀ x : Str, ("" : Str) ++ x = x := fun x => TL.ext_tl (by rw [TL.tl_append]; rfl)
  cases ws with
  | nil => exact absurd rfl h
  | cons w r =>
    cases b with
    | false => rw [if_neg (by simp), e0]; rfl
    | true =>
      rw [if_pos rfl]
      show J (("-" ++ w) :: r) = _
      cases r with
      | nil => rfl
      | cons y r =>
        rw [J_cons _ (by simp), J_cons w (by simp)]
        simp only [s_assoc]
/-- as the package writes it -/
theorem T_pkg {f : Row} {q : Tm} {r : List Tm} (e : termsW f = q :: r) : T f = J (((if decide (q.1 < 0) = true then ("-" : Str) else "") ++ J q.2) :: r.map fun z => sgW z.1 ++ " " ++ J z.2) := by
  have hw : ∀ z ∈ q :: r, z.2 ≠ [] := fun z hz => terms_w f z (by rw [e]; exact hz)
  have hq := hw q List.mem_cons_self
  unfold T wordsF
  rw [e]
  show J (headW q.2 (decide (q.1 < 0)) ++ (r.map fun z => sgW z.1 :: z.2).flatten) = _
  have e2 : (r.map fun z => sgW z.1 ++ " " ++ J z.2) = (r.map fun z => sgW z.1 :: z.2).map J := by
    rw [List.map_map]
    exact List.map_congr_left fun z hz => (J_cons _ (hw z (List.mem_cons_of_mem _ hz))).symm
  rw [e2, ← J_head hq]
  show _ = J ((headW q.2 (decide (q.1 < 0)) :: (r.map fun z => sgW z.1 :: z.2)).map J)
  rw [J_flat (fun xs hxs => ?_)]
  · rfl
  · rcases List.mem_cons.mp hxs with rfl | hxs
    · exact headW_ne hq _
    · obtain ⟨z, _, rfl⟩ := List.mem_map.mp hxs
      simp
end W
namespace DL
open PySem PySem.Spec PyProof.Rows L2
def tTupF (t : L2.TA) : TE := fun σ H Q => t σ H fun xs H1 => xs.length ≤ sizeLine ∧ ∀ p o, H1 p = none → o.dict = none → Q (.ref p) (upd H1 p (.frz o (.tup xs)))
section
variable {X : Cx} {ρ : Rho} {M : Mp} {Φ : D → Mp → Prop} {es : List Expr} {pos : Pos} {t : L2.TA}
theorem pe_tupF {k1 : Nat} (h : PA X es t) : PE X (.Tuple es k1 pos) (tTupF t) := by
  refine ⟨fun pins s σ H Q I hq => ?_⟩
  refine wpAny_Tuple_spliced (thn (h.run pos pins s σ H _ I hq) fun us s1 ⟨xs, H1, I1, r, z, q⟩ => ⟨by rw [← r.length]; exact z, ?_⟩)
  have hf : H1 s1.heap.objs.size = none := I1.hok.fresh (Nat.le_refl _)
  refine ⟨.ref s1.heap.objs.size, _, I1.laid (o := .frz { cls := .type "tuple", data := .seq us.toArray } (.tup xs)) (t' := s1.toks) (fun b u e => Heap.get?_push_of_some _ e) (Nat.le_refl _) ?_, rfl, q _ _ hf rfl⟩
  exact ⟨Heap.get?_push_size _ rfl, z, us, r, ⟨_, Heap.get?_push_size _ rfl, rfl, _, rfl⟩⟩
theorem we_tupF {k1 : Nat} (h : WA X ρ M es fun ds M1 => ds.length ≤ sizeLine ∧ Φ (.ptup ds) M1) : WE X ρ M (.Tuple es k1 pos) Φ := .mk fun σ H Q en w k =>
  eOf (pe_tupF pa_sem) (h.run σ H _ en w fun vs ds H1 M1 e1 w1 r1 hz => ⟨by rw [r1.length]; exact hz.1, fun p o hp hd => (k.step e1).new w1 hp (.ptup upd_same hd (w1.fresh hp) (r1.mono (Ext.new w1 hp))) hz.2⟩)
end
end DL
namespace DL
open PySem PySem.Spec PyProof.Rows L2
section
variable {X : Cx} {ρ : Rho} {M : Mp} {Φ : D → Mp → Prop} {Θ : Bool → Mp → Prop} {a b : Expr} {pos : Pos}
def rEqNil (K : PySem.W.Frag) : R2 := fun x y H Q => ∃ p q xs, x = V.ref p ∧ y = V.ref q ∧ SqL K H p xs ∧ SqL K H q [] ∧ Q (.bl xs.isEmpty) H
theorem op_eqNil (hu : X.A.units + 64 < cLine) : OpR X (compareOp .Eq) (rEqNil X.K) := by
  intro pins s σ H x y v u Q I rx ry h
  obtain ⟨p, q, xs, rfl, rfl, h1, h2, hq⟩ := h
  obtain rfl : v = Value.ref p := rx
  obtain rfl : u = Value.ref q := ry
  obtain ⟨i1, r1, l1, _⟩ := I.list h1
  obtain ⟨i2, r2, l2, _⟩ := I.list h2
  obtain ⟨o1, n1, g1, c1, d1, e1⟩ := l1
  obtain ⟨o2, n2, g2, c2, d2, e2⟩ := l2
  have l1 : s.heap.IsList p i1.toArray := ⟨o1, g1, c1, n1, e1⟩
  have l2 : s.heap.IsList q i2.toArray := ⟨o2, g2, c2, n2, e2⟩
  cases r2
  cases r1 with
  | nil =>
    refine SeqAt.eq_listAt (e := fun _ => true) l1 l2 rfl (by omega) (fun j h1 _ => absurd h1 (by simp)) ⟨.bl _, H, I, rfl, ?_⟩
    simpa using hq
  | cons ra rb =>
    exact SeqAt.eq_list_lengthsAt l1 l2 (by simp) (by omega) ⟨.bl _, H, I, rfl, hq⟩
theorem rd_eqNil {x y : D} (h : ∃ xs, x = .lst xs ∧ y = .lst [] ∧ Φ (.bl xs.isEmpty) M) : RD X.K (rEqNil X.K) x y M Φ := fun Z v u H Q w r1 r2 k => by
  obtain ⟨xs, rfl, rfl, h⟩ := h
  obtain ⟨p, vs, rfl, hp, rs⟩ := r1.lstKeep (.inl rfl)
  obtain ⟨q, us, rfl, hq, ts⟩ := r2.lstKeep (.inl rfl)
  cases ts
  refine ⟨p, q, vs, rfl, rfl, hp _ _ _ ExI.refl, hq _ _ _ ExI.refl, ?_⟩
  rw [isEmpty_len rs.length]
  exact k.now w (.bl _) h
theorem wt_eqNilA {lp : Pos} (hu : X.A.units + 64 < cLine) (h : WE X ρ M a fun x M1 => ∃ xs, x = .lst xs ∧ Θ xs.isEmpty M1) : WT X ρ M (.Compare a [.Eq] [.List [] lp] pos) Θ :=
  wt_cmp (op_eqNil hu) (nomark _) (h.imp fun x M1 ⟨xs, e, h⟩ => we_lst (wa_nil ⟨Nat.zero_le _, rd_eqNil ⟨xs, e, rfl, _, rfl, h⟩⟩))
end
end DL
namespace W
open PySem PySem.Spec PyProof.Rows L2 DL SX PL SlX
theorem s_nil (x : Str) : (Str.empty : Str) ++ x = x := TL.ext_tl (by rw [TL.tl_append]; rfl)
theorem s_len (x y : Str) : (x ++ y).length = x.length + y.length := by rw [TL.len_tl, TL.len_tl, TL.len_tl, TL.tl_append, List.length_append]
def BdM (m : Mk) : Prop := m.1.length ≤ 8 ∧ m.2.length ≤ 9
theorem num_short {k : Int} (h0 : 0 ≤ k) (h : BdI k) : (Str.ofString (toString k)).length ≤ 61 := by
  obtain ⟨n, rfl⟩ := Int.eq_ofNat_of_zero_le h0
  rw [num_S, S_len]
  exact TL.numL_len (by decide) (Nat.lt_of_le_of_lt (show n ≤ 10 ^ 60 from h) (by decide +kernel))
theorem bd_log {k : Int} (h : BdI k) : k.natAbs.log2 < 1920 := by
  by_cases h0 : k.natAbs = 0
  · rw [h0]; decide
  · exact Nat.lt_of_lt_of_le ((Nat.log2_lt h0).mpr (Nat.lt_of_le_of_lt h (show 10 ^ 60 < 2 ^ 250 by decide +kernel))) (by decide)
theorem mkT_len {m : Mk} (h : BdM m) : (mkT m).length ≤ 18 := by
  unfold mkT
  rw [s_len, s_len, show ("." : Str).length = 1 by decide +kernel]
  have := h.1; have := h.2
  omega
section
variable {P : Program} {w : World} {K : PySem.W.Frag} {mg : Str → Option Value} {base : Heap} {C R U V : Addr}
abbrev nTT : List Str := ["many", "mark", "name", "word", "text"]
def cTT : Con := fun ds M Φ => ∃ k m, ds = [.int k, mkD m] ∧ 0 ≤ k ∧ BdI k ∧ BdM m ∧ Φ (.str (J (tmW k m))) M
theorem ok_term_text (gDo : ∃ t, mg "DOT" = some (.str "." t)) : BodyOk P w K mg base "term_text" s_term_text nTT 2 0 cTT := by
  intro f cdv A outer s H E hr ds M Φ hl hc
  obtain ⟨k, m, rfl, hk0, hkb, bm, hc⟩ := hc
  have hk := bd_log hkb
  have nd : nTT.Nodup := by decide +kernel
  have l1 := bm.1
  have l2 := bm.2
  have lt := mkT_len bm
  have z : ∀ {n : Nat}, n ≤ 3000 → n ≤ sizeLine := fun h => by rw [sizeLine_eq]; omega
  refine wss_cons (ws_asg (we_var 1 rfl (wg_tup ⟨rfl, rfl, wgs_cons (wg_name 2 (wgs_cons (wg_name 3 (wgs_nil ⟨rfl, ?_⟩) nd)) nd)⟩)))
  refine wss_cons (ws_set 4 nd (we_fstr (we_fmt (we_var 2 rfl (.inl ⟨m.1, rfl, z (by omega), m.1, rfl, by rw [s_nil]; exact z (by omega), we_fmt (we_gstr gDo (.inl ⟨_, rfl, z (by decide +kernel), ".", rfl, ?_, we_fmt (we_var 3 rfl (.inl ⟨m.2, rfl, z (by omega), m.2, rfl, ?_, ?_⟩))⟩))⟩)))))
  · rw [s_nil, s_len, show ("." : Str).length = 1 by decide +kernel]; exact z (by omega)
  · rw [s_nil]
    exact z (by have := lt; unfold mkT at this; omega)
  have e : (Str.empty ++ m.1 ++ "." ++ m.2 : Str) = mkT m := by rw [s_nil]; rfl
  rw [e]
  refine wss_cons (ws_ret (we_if (wt_eqS (we_var 0 rfl (we_int ⟨decide (k = 1), rfl, ?_⟩)))))
  by_cases h1 : k = 1
  · rw [decide_eq_true h1]
    have : J (tmW k m) = mkT m := by unfold tmW; rw [if_pos h1]; rfl
    rw [this] at hc
    exact we_var 4 rfl (Lets.of hc)
  · rw [decide_eq_false h1]
    have e2 : J (tmW k m) = (Str.ofString (toString k)) ++ " " ++ mkT m := by unfold tmW; rw [if_neg h1]; rfl
    rw [e2] at hc
    have ln := num_short hk0 hkb
    refine we_fstr (we_fmt (we_var 0 rfl (.inr ⟨k, rfl, hk, _, rfl, ?_, we_str ⟨" ", rfl, ?_, we_fmt (we_var 4 rfl (.inl ⟨_, rfl, z (by omega), _, rfl, ?_, Lets.of ?_⟩))⟩⟩)))
    · rw [s_nil]; exact z (by omega)
    · rw [s_nil, s_len, show (" " : Str).length = 1 by decide +kernel]; exact z (by omega)
    · rw [s_nil, s_len, s_len, show (" " : Str).length = 1 by decide +kernel]; exact z (by omega)
    · rw [s_nil]; exact hc
theorem tmW_len {k : Int} {m : Mk} (h0 : 0 ≤ k) (h : BdI k) (hm : BdM m) : (J (tmW k m)).length ≤ 90 := by
  have := mkT_len hm
  unfold tmW
  split
  · show (mkT m).length ≤ 90
    omega
  · show (Str.ofString (toString k) ++ " " ++ mkT m).length ≤ 90
    rw [s_len, s_len, show (" " : Str).length = 1 by decide +kernel]
    have := num_short h0 h
    omega
def tmD (z : Tm) : D := .tup [.int z.1, .str (J z.2)]
def BdR (f : Row) : Prop := (∀ p ∈ f.1, BdM p.1 ∧ BdI p.2) ∧ f.1.length ≤ 20 ∧ BdI f.2
theorem ab_nn (i : Int) : 0 ≤ ab i := by unfold ab; split <;> omega
theorem ab_bd {i : Int} (h : BdI i) : BdI (ab i) := by
  have e : (ab i).natAbs = i.natAbs := by unfold ab; split <;> omega
  unfold BdI at h ⊢
  rw [e]; exact h
theorem terms_len {f : Row} (h : BdR f) : (∀ z ∈ termsW f, (J z.2).length ≤ 90) ∧ (termsW f).length ≤ 21 := by
  obtain ⟨h1, h2, h3⟩ := h
  refine ⟨fun z hz => ?_, ?_⟩
  · unfold termsW at hz
    rcases List.mem_append.mp hz with hz | hz
    · obtain ⟨p, hp, rfl⟩ := List.mem_map.mp hz
      exact tmW_len (ab_nn _) (ab_bd (h1 p hp).2) (h1 p hp).1
    · split at hz
      · rw [List.mem_singleton.mp hz]
        show (Str.ofString (toString (ab f.2))).length ≤ 90
        have := num_short (ab_nn _) (ab_bd h3)
        omega
      · cases hz
  · unfold termsW
    rw [List.length_append, List.length_map]
    split <;> simp <;> omega
abbrev nFt : List Str := ["self", "terms", "first", "mark", "many", "word"]
def brF : List Stmt := match ((defBody s_Form_text)[1]? : Option Stmt) with
  | some (Stmt.If _ a _ _) => a
  | _ => []
def cFtx (R : Addr) : Con := fun ds M Φ => ∃ ps n, ds = [fmD R ps n] ∧ BdR (ps, n) ∧ Φ (.str (T (ps, n))) M
theorem ok_form_text (F : Fx w K mg) (gMi : ∃ t, mg "MINUS" = some (.str "-" t)) (gPl : ∃ t, mg "PLUS" = some (.str "+" t)) (gBl : ∃ t, mg "BLANK" = some (.str " " t)) (P1 : Pc P w K mg base R "parts" 1 (cFmGet R fun ps _ => .ptup (ps.map ptD))) (P2 : Pc P w K mg base R "number" 1 (cFmGet R fun _ n => .int n)) (FT : Fc P w K mg base "term_text" [] 1 2 cTT) :
    BodyOk P w K mg base "Form.text" s_Form_text nFt 1 2 (cFtx R) := by
  intro f cdv A outer s H E hr ds M Φ hl hc
  obtain ⟨ps, n, rfl, br, hc⟩ := hc
  obtain ⟨bp, lp, bn⟩ := br
  have lp : ps.length ≤ 20 := lp
  have bn : BdI n := bn
  have nd : nFt.Nodup := by decide +kernel
  have gA : mg "abs" = none := F.bn _ (by decide +kernel)
  have gS : mg "str" = none := F.bn _ (by decide +kernel)
  refine wss_cons (ws_setLc 1 nd (blkOk_by (N := nFt) (sc := defScope s_Form_text) (own := [("many", 4), ("mark", 3)]) (by decide +kernel)) (fun _ _ _ _ _ => pg_tup rfl (pgs_cons (pg_name (i := 3) nd rfl (Or.inl rfl)) (pgs_cons (pg_name (i := 4) nd rfl (Or.inl rfl)) pgs_nil)) rfl rfl) (gt_two (by decide) (by decide)) (fun _ _ _ _ _ => pts_nil) tk_nil
    (wi_tup (we_unp (we_prop P1 (hr.mono (by omega)) (we_var 0 rfl ⟨_, insF, ps, n, rfl, _, rfl, _, rfl, ?_⟩)))) rfl)
  refine ⟨by rw [List.length_map, sizeLine_eq]; omega, fun j acc M2 => M2 = M ∧ acc = ((ps.take j).map fun p => ((p.2, tmW (ab p.2) p.1) : Tm)).map tmD, ⟨rfl, rfl⟩, ?_, ?_⟩
  · rintro j x acc M2 hx ⟨rfl, rfl⟩
    rw [List.getElem?_map] at hx
    obtain ⟨u, hu, rfl⟩ := Option.map_eq_some_iff.mp hx
    obtain ⟨b1, b2⟩ := bp u (List.mem_of_getElem? hu)
    refine ⟨_, _, rfl, ?_⟩
    intro s1 H1 C' cl fp
    refine we_tup (wa_cons (we_var 4 rfl (wa_cons (we_call FT (hr.mono (by omega)) (wa_cons (we_abs gA (we_var 4 rfl ⟨u.2, rfl, wa_cons (we_var 3 rfl (wa_nil ⟨rfl, ab u.2, u.1, rfl, ab_nn _, ab_bd b2, b1, wa_nil ⟨sz2x, rfl, ?_⟩⟩))⟩)))))))
    rw [take_snoc hu, List.map_append, List.map_append]; rfl
  rintro acc M2 ⟨rfl, rfl⟩
  rw [List.length_map, List.take_length]
  have fin : ∀ (ts : List Tm), ts = termsW (ps, n) → WSs (bx P w K mg base nFt "Form.text" (defScope s_Form_text) f cdv A outer s H E) [some (fmD R ps n), some (.lst (ts.map tmD)), none, none, none, none] M2 ((defBody s_Form_text).drop 2) { nx := fun _ M' => Φ .non M', rt := Lets Φ } := by
    intro ts hts
    obtain ⟨hz, hlen⟩ := terms_len (f := (ps, n)) ⟨bp, lp, bn⟩
    rw [← hts] at hz hlen
    cases ts with
    | nil => exact absurd hts.symm (terms_ne _)
    | cons q r =>
    have tp := T_pkg hts.symm
    rw [tp] at hc
    have lq := hz q List.mem_cons_self
    have z : ∀ {n : Nat}, n ≤ 3000 → n ≤ sizeLine := fun h => by rw [sizeLine_eq]; omega
    have first : ∀ {Ψ : DE} {ss : List Stmt}, WSs (bx P w K mg base nFt "Form.text" (defScope s_Form_text) f cdv A outer s H E) [some (fmD R ps n), some (.lst ((q :: r).map tmD)), some (.str ((if decide (q.1 < 0) = true then ("-" : Str) else "") ++ J q.2)), none, none, none] M2 ((defBody s_Form_text).drop 3) { nx := fun _ M' => Φ .non M', rt := Lets Φ } → WSs (bx P w K mg base nFt "Form.text" (defScope s_Form_text) f cdv A outer s H E) [some (fmD R ps n), some (.lst ((q :: r).map tmD)), none, none, none, none] M2 ((defBody s_Form_text).drop 2) { nx := fun _ M' => Φ .non M', rt := Lets Φ } := by
      intro Ψ ss h
      refine wss_cons (ws_set 2 nd (we_fstr (we_fmt (we_if (wt_ltI (we_ix (we_ix (we_var 1 rfl (we_int ⟨0, _, rfl, .inl ⟨_, rfl, atI_nat (j := 0) rfl⟩, we_int ⟨0, _, rfl, ixT (atI_nat (j := 0) rfl), we_int ⟨q.1, 0, rfl, rfl, ?_⟩⟩⟩)))))))))
      by_cases hneg : q.1 < 0
      · rw [decide_eq_true hneg] at h ⊢
        refine we_gstr gMi (.inl ⟨_, rfl, z (by decide +kernel), "-", rfl, by rw [s_nil]; exact z (by decide +kernel), we_fmt (we_ix (we_ix (we_var 1 rfl (we_int ⟨0, _, rfl, .inl ⟨_, rfl, atI_nat (j := 0) rfl⟩, we_int ⟨1, _, rfl, ixT (atI_nat (j := 1) rfl), .inl ⟨_, rfl, z (by omega), _, rfl, ?_, ?_⟩⟩⟩))))⟩)
        · rw [s_nil, s_len, show ("-" : Str).length = 1 by decide +kernel]; exact z (by omega)
        · rw [s_nil]; exact h
      · rw [decide_eq_false hneg] at h ⊢
        refine we_str (.inl ⟨_, rfl, z (by decide +kernel), "", rfl, by rw [s_nil]; exact z (by decide +kernel), we_fmt (we_ix (we_ix (we_var 1 rfl (we_int ⟨0, _, rfl, .inl ⟨_, rfl, atI_nat (j := 0) rfl⟩, we_int ⟨1, _, rfl, ixT (atI_nat (j := 1) rfl), .inl ⟨_, rfl, z (by omega), _, rfl, ?_, ?_⟩⟩⟩))))⟩)
        · rw [s_nil, s_len, show ("" : Str).length = 0 by decide +kernel]; exact z (by omega)
        · rw [s_nil]; exact h
    refine first (Ψ := { nx := fun _ M' => Φ .non M', rt := Lets Φ }) (ss := []) ?_
    have lF : ((if decide (q.1 < 0) = true then ("-" : Str) else "") ++ J q.2).length ≤ 91 := by
      rw [s_len]
      have : (if decide (q.1 < 0) = true then ("-" : Str) else "").length ≤ 1 := by split <;> decide +kernel
      omega
    revert lF
    generalize (if decide (q.1 < 0) = true then ("-" : Str) else "") ++ J q.2 = F1 at hc
    intro lF
    refine wss_cons (ws_ret (we_join (we_gstr gBl ⟨_, rfl, we_lst (wa_cons (we_var 2 rfl (wa_star (we_lc nd (blkOk_by (N := nFt) (sc := defScope s_Form_text) (own := [("many", 4), ("word", 5)]) (by decide +kernel)) (fun _ _ _ _ _ => pg_tup rfl (pgs_cons (pg_name (i := 4) nd rfl (Or.inl rfl)) (pgs_cons (pg_name (i := 5) nd rfl (Or.inl rfl)) pgs_nil)) rfl rfl) (gt_two (by decide) (by decide)) (fun _ _ _ _ _ => pts_nil) tk_nil
      (wi_list (we_slice (we_var 1 rfl (we_int ⟨_, rfl, _, .inl ⟨_, rfl, rfl⟩, _, .inl rfl, ?_⟩))))))))⟩)))
    rw [cut_fr1, show ((q :: r).map tmD).drop 1 = r.map tmD from rfl]
    have hz' : ∀ u ∈ r, (J u.2).length ≤ 90 := fun u hu => hz u (List.mem_cons_of_mem _ hu)
    have lr : r.length ≤ 20 := by have := hlen; rw [List.length_cons] at this; omega
    have lsg : ∀ u : Tm, (sgW u.1).length = 1 := fun u => by unfold sgW; split <;> decide +kernel
    refine ⟨by rw [List.length_map, sizeLine_eq]; omega, fun j acc M3 => M3 = M2 ∧ acc = ((r.take j).map fun u => (sgW u.1 ++ " " ++ J u.2 : Str)).map D.str, ⟨rfl, rfl⟩, ?_, ?_⟩
    · rintro j x acc M3 hx ⟨rfl, rfl⟩
      rw [List.getElem?_map] at hx
      obtain ⟨u, hu, rfl⟩ := Option.map_eq_some_iff.mp hx
      have lu := hz' u (List.mem_of_getElem? hu)
      refine ⟨_, _, rfl, ?_⟩
      intro s1 H1 C' cl fp
      have body : Φ (.str (sgW u.1 ++ " " ++ J u.2)) M3 → Φ (.str (sgW u.1 ++ " " ++ J u.2)) M3 := id
      refine we_fstr (we_fmt (we_if (wt_ltI (we_var 4 rfl (we_int ⟨u.1, 0, rfl, rfl, ?_⟩)))))
      have e1 : ((r.take j).map fun u => (sgW u.1 ++ " " ++ J u.2 : Str)).map D.str ++ [D.str (sgW u.1 ++ " " ++ J u.2)] = ((r.take (j + 1)).map fun u => (sgW u.1 ++ " " ++ J u.2 : Str)).map D.str := by
        rw [take_snoc hu, List.map_append, List.map_append]; rfl
      by_cases hneg : u.1 < 0
      · rw [decide_eq_true hneg]
        have es : sgW u.1 = "-" := by unfold sgW; rw [if_pos hneg]
        rw [es] at e1
        refine we_gstr gMi (.inl ⟨_, rfl, z (by decide +kernel), "-", rfl, by rw [s_nil]; exact z (by decide +kernel), we_str ⟨" ", rfl, ?_, we_fmt (we_var 5 rfl (.inl ⟨_, rfl, z (by omega), _, rfl, ?_, ?_⟩))⟩⟩)
        · rw [s_nil, s_len, show (" " : Str).length = 1 by decide +kernel, show ("-" : Str).length = 1 by decide +kernel]; exact z (by omega)
        · rw [s_nil, s_len, s_len, show (" " : Str).length = 1 by decide +kernel, show ("-" : Str).length = 1 by decide +kernel]; exact z (by omega)
        · rw [s_nil]; exact ⟨rfl, e1⟩
      · rw [decide_eq_false hneg]
        have es : sgW u.1 = "+" := by unfold sgW; rw [if_neg hneg]
        rw [es] at e1
        refine we_gstr gPl (.inl ⟨_, rfl, z (by decide +kernel), "+", rfl, by rw [s_nil]; exact z (by decide +kernel), we_str ⟨" ", rfl, ?_, we_fmt (we_var 5 rfl (.inl ⟨_, rfl, z (by omega), _, rfl, ?_, ?_⟩))⟩⟩)
        · rw [s_nil, s_len, show (" " : Str).length = 1 by decide +kernel, show ("+" : Str).length = 1 by decide +kernel]; exact z (by omega)
        · rw [s_nil, s_len, s_len, show (" " : Str).length = 1 by decide +kernel, show ("+" : Str).length = 1 by decide +kernel]; exact z (by omega)
        · rw [s_nil]; exact ⟨rfl, e1⟩
    rintro acc M3 ⟨rfl, rfl⟩
    rw [List.length_map, List.take_length]
    refine ⟨_, .inl rfl, wa_nil fun ys hy => ?_⟩
    subst hy
    rw [List.append_nil]
    refine ⟨by rw [List.length_cons, List.length_map, List.length_map, sizeLine_eq]; omega, F1 :: (r.map fun (u : Tm) => (sgW u.1 ++ " " ++ J u.2 : Str)), .inl rfl, ?_, ?_⟩
    · have hs : ∀ (l : List Tm), (∀ u ∈ l, (J u.2).length ≤ 90) → ((l.map fun (u : Tm) => (sgW u.1 ++ " " ++ J u.2 : Str)).map (·.length)).sum ≤ 92 * l.length := by
        intro l
        induction l with
        | nil => intro _; exact Nat.zero_le _
        | cons u l ih =>
          intro h
          have h1 := ih fun x hx => h x (List.mem_cons_of_mem _ hx)
          have h2 := h u List.mem_cons_self
          have h3 : (sgW u.1 ++ " " ++ J u.2 : Str).length ≤ 92 := by rw [s_len, s_len, lsg u, show (" " : Str).length = 1 by decide +kernel]; omega
          simp only [List.map_cons, List.sum_cons, List.length_cons]
          omega
      have h1 := hs r hz'
      rw [show (" " : Str).length = 1 by decide +kernel]
      simp only [List.map_cons, List.sum_cons, List.length_cons, List.length_map] at h1 ⊢
      omega
    · rw [TL.join_eq]; exact Lets.of hc
  have lT : (ps.map fun p => ((p.2, tmW (ab p.2) p.1) : Tm)).length = ps.length := List.length_map ..
  have body : ∀ Ψ : DE, termsW (ps, n) = (ps.map fun p => ((p.2, tmW (ab p.2) p.1) : Tm)) ++ [(n, [Str.ofString (toString (ab n))])] → Ψ.nx [some (fmD R ps n), some (.lst ((termsW (ps, n)).map tmD)), none, none, none, none] M2 → WSs (bx P w K mg base nFt "Form.text" (defScope s_Form_text) f cdv A outer s H E) [some (fmD R ps n), some (.lst ((ps.map fun p => ((p.2, tmW (ab p.2) p.1) : Tm)).map tmD)), none, none, none, none] M2 brF Ψ := by
    intro Ψ ht hΨ
    refine wss_cons (ws_set 1 nd (we_lst (wa_star (we_var 1 rfl ⟨_, .inl rfl, wa_cons (we_tup (wa_cons (we_prop P2 (hr.mono (by omega)) (we_var 0 rfl ⟨_, insF, ps, n, rfl, wa_cons (we_strI gS (we_abs gA (we_prop P2 (hr.mono (by omega)) (we_var 0 rfl ⟨_, insF, ps, n, rfl, n, rfl, ab n, rfl, bd_log (ab_bd bn), wa_nil ⟨sz2x, wa_nil fun ys hy => ?_⟩⟩))))⟩))))⟩))))
    subst hy
    have e : ((ps.map fun p => ((p.2, tmW (ab p.2) p.1) : Tm)).map tmD) ++ [D.tup [D.int n, D.str (Str.ofString (toString (ab n)))]] = (termsW (ps, n)).map tmD := by
      rw [ht, List.map_append]; rfl
    refine ⟨?_, ?_⟩
    · rw [List.length_append, List.length_map, List.length_map, List.length_singleton, sizeLine_eq]; omega
    · rw [← e] at hΨ
      exact wss_nil hΨ
  refine wss_cons (ws_if (wt_ww (ww_or (wt_neS (we_prop P2 (hr.mono (by omega)) (we_var 0 rfl ⟨_, insF, ps, n, rfl, we_int ⟨decide (n = 0), rfl, ?_⟩⟩))))))
  by_cases hn : n = 0
  · rw [decide_eq_true hn]
    refine ww_or1 (wt_eqNilA hr.units (we_var 1 rfl ⟨_, rfl, ?_⟩))
    by_cases hp : ps = []
    · subst hp
      refine body _ ?_ (fin _ rfl)
      unfold termsW; rw [if_pos (.inr rfl)]
    · have e : (List.isEmpty (List.map tmD (List.map (fun p => ((p.2, tmW (ab p.2) p.1) : Tm)) ps))) = false := by
        cases ps with
        | nil => exact absurd rfl hp
        | cons _ _ => rfl
      rw [e]
      refine wss_nil (fin _ ?_)
      unfold termsW; rw [if_neg (by rintro (h | h); exact h hn; exact hp h), List.append_nil]
  · rw [decide_eq_false hn]
    refine body _ ?_ (fin _ rfl)
    unfold termsW; rw [if_pos (.inl hn)]
end
end W
namespace DL
open PySem PySem.Spec PyProof.Rows L2
theorem keyD_inv {K : PySem.W.Frag} {M : Mp} {Z : Zn} {H : Hp} {v : V} {k : Key} (r : Rep K M Z H v (keyD k)) : v = kV k := by
  cases k with
  | inl i => cases r; rfl
  | inr x => cases r; rfl
theorem putKD_len (kvs : List (Key × D)) (k : Key) (d : D) : (putKD kvs k d).length ≤ kvs.length + 1 := by
  unfold putKD
  split
  · rw [List.length_map]; omega
  · rw [List.length_append]; exact Nat.le_refl _
section
variable {X : Cx} {ρ : Rho} {M : Mp} {Φ : D → Mp → Prop} {Θ : Bool → Mp → Prop} {a b kx vx tg iter : Expr} {pos : Pos} {scope : Scope}
def DcI (X : Cx) (scope : Scope) (ρ : Rho) (vs : List Nat) (G : D → Rho → (Rho → Prop) → Prop) (T : Rho → Mp → (Bool → Mp → Prop) → Prop) (kx vx : Expr) (Φ : D → Mp → Prop) (ds : List D) (M1 : Mp) : Prop :=
  ds.length ≤ 1000000 ∧ ∃ I : Nat → List (Key × D) → Mp → Prop, I 0 [] M1 ∧
    (∀ i x acc M', ds[i]? = some x → I i acc M' → G x (wipeR ρ vs) fun ρ2 => T ρ2 M' fun b M2 => if b = true then WEb X scope ρ2 M2 kx (fun y M3 => WEb X scope ρ2 M3 vx fun z M4 => ∃ k, y = keyD k ∧ I (i + 1) (putKD acc k z) M4) else I (i + 1) acc M2) ∧
    ∀ acc M', I ds.length acc M' → Φ (.dK acc) M'
end
end DL
namespace DL
open PySem PySem.Spec PyProof.Rows L2
def MutK (Φ : D → Mp → Prop) : D → Mp → Prop := fun d M => ∃ acc, d = .dK acc ∧ ∀ p, M p = none → Φ (.ob p) (mset M p (.dK acc))
section
variable {X : Cx} {ρ : Rho} {M : Mp} {kx vx tg iter : Expr} {pos : Pos} {scope : Scope}
theorem dc_runM {g : TG} {tt : TT} {vs : List Nat} {G : D → Rho → (Rho → Prop) → Prop} {T : Rho → Mp → (Bool → Mp → Prop) → Prop} {Φ : D → Mp → Prop} (hg : GT X.K g vs G) (ht : TK X tt T)
    (h : WI X ρ M tg iter (DcI X scope ρ vs G T kx vx (MutK Φ))) {Z : Zn} {σ : L2.St} {H : Hp} {Q : VK} (en : EnvR X.K M Z H σ ρ) (w : Wd X.K M Z H) (k : KE X.K M Z H Φ Q) : tDc (iSem X tg iter) g tt (eBlk X scope kx) (eBlk X scope vx) vs σ H Q :=
  h.run σ H _ en w fun J ds H1 M1 e1 w1 sq hz => by
    obtain ⟨hn, I, h0, turn, done⟩ := hz
    intro Dd hD
    have zne : ∀ b, Z b → b ≠ Dd := w1.zne hD
    refine ⟨fun i m H' => m = ds.length - i ∧ i ≤ ds.length ∧ ∃ accV acc M', ExI M1 Z H1 M' (hid Z Dd) H' ∧ (∀ b, Z b → H' b = H1 b ∧ M' b = M1 b) ∧ Wd X.K M' (hid Z Dd) H' ∧ H' Dd = some (.dK accV) ∧ RepK X.K M' (hid Z Dd) H' accV acc ∧ acc.length ≤ i ∧ I i acc M',
      ⟨ds.length, by simp, Nat.zero_le _, [], [], M1, hide_x hD, fun b z => ⟨upd_ne (zne b z), rfl⟩, hide_w w1 hD, upd_same, .nil, Nat.zero_le _, h0⟩, ?_⟩
    rintro i m H' ⟨rfl, hi, accV, acc, M', x', zk, w', hA, rA, la, inv⟩
    obtain ⟨s1, s2⟩ := sq i M' (hid Z Dd) H' x' w'
    by_cases hlt : i < ds.length
    · have hd : ds[i]? = some ds[i] := List.getElem?_eq_getElem hlt
      obtain ⟨go, yl⟩ := s2 _ hd
      refine .inr ⟨go, fun H2 => ∃ accV acc M2, ExI M1 Z H1 M2 (hid Z Dd) H2 ∧ (∀ b, Z b → H2 b = H1 b ∧ M2 b = M1 b) ∧ Wd X.K M2 (hid Z Dd) H2 ∧ H2 Dd = some (.dK accV) ∧ RepK X.K M2 (hid Z Dd) H2 accV acc ∧ acc.length ≤ i + 1 ∧ I (i + 1) acc M2,
        fun H2 ⟨aV, a, M2, x2, z2, w2, hA2, rA2, l2, i2⟩ => ⟨ds.length - (i + 1), by omega, rfl, hlt, aV, a, M2, x2, z2, w2, hA2, rA2, l2, i2⟩, fun v H2 y => ?_⟩
      obtain ⟨x2, w2, r2⟩ := yl v H2 y
      have en2 : EnvR X.K M' (hid Z Dd) H2 (wipe σ vs) (wipeR ρ vs) := env_wipe ((en.mono e1).monoI (x'.trans x2.i)) vs
      refine hg M' (hid Z Dd) H2 v _ σ _ _ _ en2 r2 (turn i _ acc M' hd inv) fun σ3 ρ3 en3 wp3 hT => ⟨wp3, ?_⟩
      refine ht M' H2 σ3 ρ3 _ _ en3 w2 hT fun b H3 M3 x3 w3 hb => ?_
      have x23 : Ext M' (hid Z Dd) H' M3 H3 := x2.trans x3
      have zk3 : ∀ b, Z b → H3 b = H1 b ∧ M3 b = M1 b := fun b z => ⟨(x23.2 b (.inl z)).1.trans (zk b z).1, (x23.2 b (.inl z)).2.trans (zk b z).2⟩
      cases b with
      | false => exact ⟨accV, acc, M3, x'.trans x23.i, zk3, w3, (x23.2 Dd (.inr rfl)).1.trans hA, rA.mono x23, Nat.le_succ_of_le la, hb⟩
      | true =>
        intro s H0 C cl fp
        refine (hb s H0 C cl fp).run σ3 H3 _ (en3.mono x3) w3 fun yv yd H4 M4 x4 w4 r4 hI => ?_
        intro s' H0' C' cl' fp'
        refine (hI s' H0' C' cl' fp').run σ3 H4 _ (en3.mono (x3.trans x4)) w4 fun zv zd H5 M5 x5 w5 r5 hI2 => ?_
        obtain ⟨ky, rfl, hI2⟩ := hI2
        have ev := keyD_inv r4
        have x25 := (x23.trans x4).trans x5
        have hA5 : H5 Dd = some (.dK accV) := (x25.2 Dd (.inr rfl)).1.trans hA
        refine ⟨accV, ky, ev, hA5, by rw [rA.length, sizeLine_eq]; omega, putK accV ky zv, putKD acc ky zd, M5, (x'.trans x25.i).trans hidput_x, fun b z => ⟨(upd_ne (zne b z)).trans ((x25.2 b (.inl z)).1.trans (zk b z).1), (x25.2 b (.inl z)).2.trans (zk b z).2⟩, hidput_w w5, upd_same, ?_, Nat.le_trans (putKD_len _ _ _) (by omega), hI2⟩
        exact RepK.put (r5.monoI hidput_x) ((rA.mono x25).monoI hidput_x)
    · have e : i = ds.length := by omega
      refine .inl ⟨s1 e, ?_⟩
      have mD : M' Dd = none := (w'.2 Dd (.inr rfl)).1
      have tx : ExI M' (hid Z Dd) H' (mset M' Dd (.dK acc)) Z H' := fun b u q m => ⟨q, by rw [mset_ne (fun e => m.2 (.inr e))]; exact m.1, fun z => m.2 (.inl z)⟩
      obtain ⟨acc2, e2, hd⟩ := done _ _ (e ▸ inv)
      cases e2
      refine k _ (.ob Dd) H' (mset M' Dd (.dK acc)) (e1.trans ⟨x'.trans tx, fun b z => ⟨(zk b z).1, by rw [mset_ne (zne b z)]; exact (zk b z).2⟩⟩) ⟨fun a u ea => ?_, fun b z => ?_⟩ (.ob Dd) (hd Dd mD)
      · by_cases ha : a = Dd
        · rw [ha, mset_same] at ea; cases ea; rw [ha]
          exact ⟨accV, hA, rA.monoI tx⟩
        · rw [mset_ne ha] at ea
          exact (w'.1 a u ea).stepI tx rfl
      · obtain ⟨m, u, q⟩ := w'.2 b (.inl z)
        exact ⟨by rw [mset_ne (zne b z)]; exact m, u, q⟩
theorem we_dcM {own : List (Str × Nat)} {g : TG} {tt : TT} {ifs : List Expr} {G : D → Rho → (Rho → Prop) → Prop} {T : Rho → Mp → (Bool → Mp → Prop) → Prop} {Φ : D → Mp → Prop} (hN : X.N.Nodup) (ok : BlkOk X.N X.env.scope scope own)
    (pg : ∀ (s : Shared) (H : Hp) (C : Addr) (cl : List (Str × Addr)) (fp : List Addr), PG (X.blk s H scope (compEnvC scope cl C X.env) fp) tg g) (hg : GT X.K g (own.map (·.2)) G)
    (pt : ∀ (s : Shared) (H : Hp) (C : Addr) (cl : List (Str × Addr)) (fp : List Addr), PTs (X.blk s H scope (compEnvC scope cl C X.env) fp) ifs tt) (ht : TK X tt T)
    (h : WI X ρ M tg iter (DcI X scope ρ (own.map (·.2)) G T kx vx (MutK Φ))) (hc : X.calm = true := by rfl) (hs : ∀ x, foldedSetIterable iter X.env x = pure x := by intro _; rfl) : WE X ρ M (.DictComp kx vx [⟨tg, iter, ifs, 0⟩] scope pos) Φ := .mk fun σ H Q en w k =>
  eOf (pe_dc hc hN pi_sem ok pg pt (fun s H0 C cl fp => ⟨fun pins s' σ' H' Q' I q => q s H0 C cl fp pins s' I⟩) (fun s H0 C cl fp => ⟨fun pins s' σ' H' Q' I q => q s H0 C cl fp pins s' I⟩) hs) (dc_runM hg ht h en w k)
end
end DL
namespace W
open PySem PySem.Spec PyProof.Rows L2 DL SX PL SlX
theorem unitsL1 {k : Nat} {A : Around} (r : Room k A) : A.units + 1 < cLine := by have := r.un; omega
abbrev fmR (R : Addr) (f : Row) : D := fmD R f.1 f.2
def kvT (R : Addr) (fs : List Row) : List (Key × D) := fs.map fun f => (Sum.inr (T f), fmR R f)
theorem kvT_put {R : Addr} {fs : List Row} {f : Row} (h : T f ∉ fs.map T) : putKD (kvT R fs) (.inr (T f)) (fmR R f) = kvT R (fs ++ [f]) := by
  unfold putKD
  rw [if_neg]
  · unfold kvT; rw [List.map_append]; rfl
  · intro hc
    obtain ⟨kv, h1, h2⟩ := List.any_eq_true.mp hc
    obtain ⟨g, hg, rfl⟩ := List.mem_map.mp h1
    exact h (Sum.inr.inj (of_decide_eq_true h2) ▸ List.mem_map_of_mem hg)
theorem kvT_at {R : Addr} : ∀ {fs : List Row} {f : Row}, (fs.map T).Nodup → f ∈ fs → valK (kvT R fs) (.inr (T f)) = some (fmR R f)
  | g :: fs, f, nd, h => by
    unfold kvT valK
    rw [List.map_cons]
    rw [List.map_cons] at nd
    obtain ⟨n1, n2⟩ := List.nodup_cons.mp nd
    by_cases e : T g = T f
    · rw [List.find?_cons_of_pos (by exact decide_eq_true (congrArg Sum.inr e))]
      rcases List.mem_cons.mp h with rfl | h
      · rfl
      · exact absurd (e ▸ List.mem_map_of_mem h) n1
    · have hne : ¬ decide ((Sum.inr (T g) : Key) = .inr (T f)) = true := fun h2 => e (Sum.inr.inj (of_decide_eq_true h2))
      rw [List.find?_cons_of_neg (p := fun kv : Key × D => decide (kv.1 = .inr (T f))) hne]
      exact kvT_at n2 ((List.mem_cons.mp h).resolve_left fun z => e (by rw [z]))
theorem nodup_of_map {α β : Type} {f : α → β} {l : List α} (h : (l.map f).Nodup) : l.Nodup := (List.pairwise_map.mp h).imp fun h e => h (by rw [e])
theorem ptD_inj {p q : Pt} (h : ptD p = ptD q) : p = q := by
  obtain ⟨⟨a, b⟩, i⟩ := p
  obtain ⟨⟨c, d⟩, j⟩ := q
  simp only [ptD, mkD, D.tup.injEq, List.cons.injEq, D.str.injEq, D.int.injEq, and_true] at h
  obtain ⟨⟨rfl, rfl⟩, rfl⟩ := h
  rfl
theorem pts_inj : ∀ {ps qs : List Pt}, ps.map ptD = qs.map ptD → ps = qs
  | [], [], _ => rfl
  | [], _ :: _, h => by cases h
  | _ :: _, [], h => by cases h
  | p :: ps, q :: qs, h => by
    rw [List.map_cons, List.map_cons] at h
    injection h with h1 h2
    rw [ptD_inj h1, pts_inj h2]
theorem inj_fm {R : Addr} {f g : Row} (h : fmR R f = fmR R g) : f = g := by
  obtain ⟨ps, n⟩ := f
  obtain ⟨qs, m⟩ := g
  have h : D.ins R (fmF ps n) = D.ins R (fmF qs m) := h
  injection h with _ h
  unfold fmF at h
  simp only [List.cons.injEq, Prod.mk.injEq, true_and, and_true, D.ptup.injEq, D.int.injEq] at h
  rw [pts_inj h.1, h.2]
theorem back_T {fs : List Row} : ∀ {ys : List Str}, (∀ y ∈ ys, y ∈ fs.map T) → ∃ gs : List Row, gs.map T = ys ∧ ∀ g ∈ gs, g ∈ fs
  | [], _ => ⟨[], rfl, fun g hg => absurd hg List.not_mem_nil⟩
  | y :: ys, h => by
    obtain ⟨gs, e, hg⟩ := back_T (ys := ys) fun z hz => h z (List.mem_cons_of_mem _ hz)
    obtain ⟨f, hf, e2⟩ := List.mem_map.mp (h y List.mem_cons_self)
    exact ⟨f :: gs, by rw [List.map_cons, e, e2], fun g hg2 => (List.mem_cons.mp hg2).elim (fun z => z ▸ hf) (hg g)⟩
section
variable {P : Program} {w : World} {K : PySem.W.Frag} {mg : Str → Option Value} {base : Heap} {C R U V : Addr}
def cByT (R : Addr) : Con := fun ds M Φ => ∃ fs : List Row, ds = [.lst (fs.map (fmR R))] ∧ fs.length ≤ 60 ∧ (∀ f ∈ fs, BdR f) ∧ (fs.map T).Nodup ∧ ∀ ys : List Row, ys.Perm fs → sortedS (ys.map T) = true → Φ (.lst (ys.map (fmR R))) M
abbrev nByT : List Str := ["some", "table", "form", "text"]
theorem ok_by_texts (F : Fx w K mg) (P1 : Pc P w K mg base R "text" 3 (cFtx R)) : BodyOk P w K mg base "by_texts" s_by_texts nByT 1 4 (cByT R) := by
  intro f' cdv A outer s H E hr ds M Φ hl hc
  obtain ⟨fs, rfl, l60, hb, hn, hc⟩ := hc
  have nd : nByT.Nodup := by decide +kernel
  refine wss_cons (ws_set 1 nd (we_dcM nd (blkOk_by (N := nByT) (sc := defScope s_by_texts) (own := [("form", 2)]) (by decide +kernel)) (fun _ _ _ _ _ => pg_name (i := 2) nd rfl (Or.inl rfl)) (gt_name (by decide)) (fun _ _ _ _ _ => pts_nil) tk_nil (wi_list (we_var 0 rfl ⟨_, .inl rfl, ?_⟩))))
  refine ⟨by rw [List.length_map]; omega, fun i acc M' => M' = M ∧ acc = kvT R (fs.take i), ⟨rfl, rfl⟩, ?_, ?_⟩
  · rintro i x acc M' hx ⟨rfl, rfl⟩
    rw [List.getElem?_map] at hx
    obtain ⟨f, hf, rfl⟩ := Option.map_eq_some_iff.mp hx
    intro s1 H1 C1 cl1 fp1
    refine we_prop P1 (hr.mono (by omega)) (we_var 2 rfl ⟨_, insF, f.1, f.2, rfl, hb f (List.mem_of_getElem? hf), ?_⟩)
    intro s2 H2 C2 cl2 fp2
    refine we_var 2 rfl ⟨.inr (T f), rfl, rfl, ?_⟩
    rw [take_snoc hf]
    refine kvT_put fun hm => ?_
    obtain ⟨g, hg, e⟩ := List.mem_map.mp hm
    obtain ⟨j, hj, e2⟩ := List.mem_iff_getElem.mp hg
    rw [List.length_take] at hj
    rw [List.getElem_take] at e2
    obtain ⟨h1, h2⟩ := List.getElem?_eq_some_iff.mp hf
    have := (List.getElem_inj (xs := fs.map T) (i := j) (j := i) (h₀ := by rw [List.length_map]; omega) (h₁ := by rw [List.length_map]; exact h1) hn).mp (by rw [List.getElem_map, List.getElem_map, e2, h2, e])
    omega
  rintro acc M' ⟨rfl, rfl⟩
  rw [List.length_map, List.take_length]
  refine ⟨_, rfl, fun q hq => ?_⟩
  refine wss_frz (i := 1) rfl mset_same ?_
  rw [mdel_mset hq]
  refine wss_cons (ws_ret (we_lc nd (blkOk_by (N := nByT) (sc := defScope s_by_texts) (own := [("text", 3)]) (by decide +kernel)) (fun _ _ _ _ _ => pg_name (i := 3) nd rfl (Or.inl rfl)) (gt_name (by decide)) (fun _ _ _ _ _ => pts_nil) tk_nil (wi_list (we_sortedSetS (F.bn _ (by decide +kernel)) (F.bn _ (by decide +kernel)) (we_lc nd (blkOk_by (N := nByT) (sc := defScope s_by_texts) (own := [("text", 3)]) (by decide +kernel)) (fun _ _ _ _ _ => pg_name (i := 3) nd rfl (Or.inl rfl)) (gt_name (by decide)) (fun _ _ _ _ _ => pts_nil) tk_nil (wi_fkeys (we_var 1 rfl ⟨_, rfl, ?_⟩)))))))
  have ek : keysD (kvT R fs) = (fs.map T).map D.str := by unfold keysD kvT; rw [List.map_map, List.map_map]; rfl
  rw [ek]
  refine ⟨by rw [List.length_map, List.length_map, sizeLine_eq]; omega, fun i acc M2 => M2 = M' ∧ acc = ((fs.map T).take i).map D.str, ⟨rfl, rfl⟩, ?_, ?_⟩
  · rintro i x acc M2 hx ⟨rfl, rfl⟩
    rw [List.getElem?_map] at hx
    obtain ⟨z, hz, rfl⟩ := Option.map_eq_some_iff.mp hx
    intro s1 H1 C1 cl fp
    refine we_strS (F.bn _ (by decide +kernel)) (we_var 3 rfl ⟨z, rfl, rfl, ?_⟩)
    rw [take_snoc hz, List.map_append]; rfl
  rintro acc M2 ⟨rfl, rfl⟩
  rw [List.length_map, List.take_length]
  refine ⟨_, rfl, by rw [List.length_map]; omega, fun ys hy hs => ⟨_, .inl rfl, ?_⟩⟩
  have hyp : ys.Perm (fs.map T) := hy.trans ((List.perm_ext_iff_of_nodup (dedZ_nd _ _ .nil) hn).mpr fun z => by rw [dedZ_mem]; simp)
  obtain ⟨gs, rfl, hgs⟩ := back_T (fs := fs) (ys := ys) fun y hy2 => hyp.mem_iff.mp hy2
  have gnd : (gs.map T).Nodup := hyp.nodup_iff.mpr hn
  have gp : gs.Perm fs := (List.perm_ext_iff_of_nodup (nodup_of_map gnd) (nodup_of_map hn)).mpr fun g => ⟨hgs g, fun hg => by
    obtain ⟨g2, h2, e⟩ := List.mem_map.mp (hyp.mem_iff.mpr (List.mem_map_of_mem hg))
    have := kvT_at (R := R) hn hg
    rw [← e, kvT_at hn (hgs g2 h2)] at this
    exact inj_fm (Option.some.inj this) ▸ h2⟩
  refine ⟨by rw [List.length_map, List.length_map, sizeLine_eq, gp.length_eq]; omega, fun i acc M3 => M3 = M2 ∧ acc = (gs.take i).map (fmR R), ⟨rfl, rfl⟩, ?_, ?_⟩
  · rintro i x acc M3 hx ⟨rfl, rfl⟩
    rw [List.map_map, List.getElem?_map] at hx
    obtain ⟨g, hg, rfl⟩ := Option.map_eq_some_iff.mp hx
    intro s1 H1 C1 cl fp
    refine we_fget (unitsL1 hr) (we_var 1 rfl (we_var 3 rfl ⟨_, .inr (T g), _, rfl, rfl, kvT_at hn (hgs g (List.mem_of_getElem? hg)), rfl, ?_⟩))
    rw [take_snoc hg, List.map_append]; rfl
  rintro acc M3 ⟨rfl, rfl⟩
  rw [List.length_map, List.length_map, List.take_length]
  exact Lets.of (hc gs gp hs)
end
end W
namespace DL
open PySem PySem.Spec PyProof.Rows L2
section
variable {X : Cx} {ρ : Rho} {M : Mp} {elt tg iter tg1 iter1 : Expr} {pos : Pos} {scope : Scope}
def WIb (X : Cx) (scope : Scope) (ρ : Rho) (M : Mp) (tg e : Expr) (Φ : List D → Mp → Prop) : Prop := ∀ s H0 C cl fp, WI (X.blk s H0 scope (compEnvC scope cl C X.env) fp) ρ M tg e Φ
def iBlk (X : Cx) (scope : Scope) (tg e : Expr) : TI := fun σ H R => ∀ s H0 C cl fp, iSem (X.blk s H0 scope (compEnvC scope cl C X.env) fp) tg e σ H R
def Lc2 (X : Cx) (scope : Scope) (ρ : Rho) (vs vs1 : List Nat) (G G1 : D → Rho → (Rho → Prop) → Prop) (tg1 iter1 elt : Expr) (Φ : D → Mp → Prop) (ds : List D) (M1 : Mp) : Prop :=
  ∃ I : Nat → List D → Mp → Prop, I 0 [] M1 ∧
    (∀ i x acc M', ds[i]? = some x → I i acc M' → G x (wipeR ρ vs) fun ρ2 => WIb X scope ρ2 M' tg1 iter1 fun es M2 => acc.length + es.length ≤ sizeLine ∧ ∃ J : Nat → List D → Mp → Prop, J 0 acc M2 ∧
      (∀ j y acc' M3, es[j]? = some y → J j acc' M3 → G1 y (wipeR ρ2 vs1) fun ρ3 => WEb X scope ρ3 M3 elt fun z M4 => J (j + 1) (acc' ++ [z]) M4) ∧ ∀ acc' M3, J es.length acc' M3 → I (i + 1) acc' M3) ∧
    ∀ acc M', I ds.length acc M' → Φ (.lst acc) M'
theorem lc2_run {g g1 : TG} {vs vs1 : List Nat} {G G1 : D → Rho → (Rho → Prop) → Prop} {Φ : D → Mp → Prop} (hg : GT X.K g vs G) (hg1 : GT X.K g1 vs1 G1)
    (h : WI X ρ M tg iter (Lc2 X scope ρ vs vs1 G G1 tg1 iter1 elt Φ)) {Z : Zn} {σ : L2.St} {H : Hp} {Q : VK} (en : EnvR X.K M Z H σ ρ) (w : Wd X.K M Z H) (k : KE X.K M Z H Φ Q) : tLc2 (iSem X tg iter) g tYes (iBlk X scope tg1 iter1) g1 tYes (eBlk X scope elt) vs vs1 σ H Q :=
  h.run σ H _ en w fun Jt ds H1 M1 e1 w1 sq hz => by
    obtain ⟨I, h0, turn, done⟩ := hz
    intro Dd hD
    have zne : ∀ b, Z b → b ≠ Dd := w1.zne hD
    refine ⟨fun i m H' => m = ds.length - i ∧ i ≤ ds.length ∧ ∃ accV acc M', ExI M1 Z H1 M' (hid Z Dd) H' ∧ (∀ b, Z b → H' b = H1 b ∧ M' b = M1 b) ∧ Wd X.K M' (hid Z Dd) H' ∧ H' Dd = some (.lst accV) ∧ Reps X.K M' (hid Z Dd) H' accV acc ∧ I i acc M',
      ⟨ds.length, by simp, Nat.zero_le _, [], [], M1, hide_x hD, fun b z => ⟨upd_ne (zne b z), rfl⟩, hide_w w1 hD, upd_same, .nil, h0⟩, ?_⟩
    rintro i m H' ⟨rfl, hi, accV, acc, M', x', zk, w', hA, rA, inv⟩
    obtain ⟨s1, s2⟩ := sq i M' (hid Z Dd) H' x' w'
    by_cases hlt : i < ds.length
    · have hd : ds[i]? = some ds[i] := List.getElem?_eq_getElem hlt
      obtain ⟨go, yl⟩ := s2 _ hd
      refine .inr ⟨go, fun H2 => ∃ accV acc M2, ExI M1 Z H1 M2 (hid Z Dd) H2 ∧ (∀ b, Z b → H2 b = H1 b ∧ M2 b = M1 b) ∧ Wd X.K M2 (hid Z Dd) H2 ∧ H2 Dd = some (.lst accV) ∧ Reps X.K M2 (hid Z Dd) H2 accV acc ∧ I (i + 1) acc M2,
        fun H2 ⟨aV, a, M2, x2, z2, w2, hA2, rA2, i2⟩ => ⟨ds.length - (i + 1), by omega, rfl, hlt, aV, a, M2, x2, z2, w2, hA2, rA2, i2⟩, fun v H2 y => ?_⟩
      obtain ⟨x2, w2, r2⟩ := yl v H2 y
      have en2 : EnvR X.K M' (hid Z Dd) H2 (wipe σ vs) (wipeR ρ vs) := env_wipe ((en.mono e1).monoI (x'.trans x2.i)) vs
      refine hg M' (hid Z Dd) H2 v _ σ _ _ _ en2 r2 (turn i _ acc M' hd inv) fun σ3 ρ3 en3 wp3 hT => ⟨wp3, ?_⟩
      unfold tYes
      dsimp only
      rw [if_pos rfl]
      intro s H0 C cl fp
      refine (hT s H0 C cl fp).run σ3 H2 _ en3 w2 fun J1 es H4 M4 e4 w4 sq1 hz1 => ?_
      obtain ⟨hn, J, j0, turn1, done1⟩ := hz1
      have x24 : Ext M' (hid Z Dd) H' M4 H4 := x2.trans e4
      have zk4 : ∀ b, Z b → H4 b = H1 b ∧ M4 b = M1 b := fun b z => ⟨(x24.2 b (.inl z)).1.trans (zk b z).1, (x24.2 b (.inl z)).2.trans (zk b z).2⟩
      have xo : ExI M1 Z H1 M4 (hid Z Dd) H4 := x'.trans x24.i
      refine ⟨fun j k' H5 => k' = es.length - j ∧ j ≤ es.length ∧ ∃ aV a M5, ExI M4 (hid Z Dd) H4 M5 (hid Z Dd) H5 ∧ (∀ b, Z b → H5 b = H1 b ∧ M5 b = M1 b) ∧ Wd X.K M5 (hid Z Dd) H5 ∧ H5 Dd = some (.lst aV) ∧ Reps X.K M5 (hid Z Dd) H5 aV a ∧ a.length ≤ acc.length + j ∧ J j a M5,
        ⟨es.length, by simp, Nat.zero_le _, accV, acc, M4, (Ext.refl).i, zk4, w4, (x24.2 Dd (.inr rfl)).1.trans hA, rA.mono x24, Nat.le_refl _, j0⟩, ?_⟩
      rintro j k' H5 ⟨rfl, hj, aV, a, M5, x5, zk5, w5, hA5, rA5, la, inv1⟩
      obtain ⟨t1, t2⟩ := sq1 j M5 (hid Z Dd) H5 x5 w5
      by_cases hlt1 : j < es.length
      · have hd1 : es[j]? = some es[j] := List.getElem?_eq_getElem hlt1
        obtain ⟨go1, yl1⟩ := t2 _ hd1
        refine .inr ⟨go1, fun H6 => ∃ aV a M6, ExI M4 (hid Z Dd) H4 M6 (hid Z Dd) H6 ∧ (∀ b, Z b → H6 b = H1 b ∧ M6 b = M1 b) ∧ Wd X.K M6 (hid Z Dd) H6 ∧ H6 Dd = some (.lst aV) ∧ Reps X.K M6 (hid Z Dd) H6 aV a ∧ a.length ≤ acc.length + (j + 1) ∧ J (j + 1) a M6,
          fun H6 ⟨aV, a, M6, q1, q2, q3, q4, q5, q6, q7⟩ => ⟨es.length - (j + 1), by omega, rfl, hlt1, aV, a, M6, q1, q2, q3, q4, q5, q6, q7⟩, fun v6 H6 y6 => ?_⟩
        obtain ⟨x6, w6, r6⟩ := yl1 v6 H6 y6
        have en6 : EnvR X.K M5 (hid Z Dd) H6 (wipe σ3 vs1) (wipeR ρ3 vs1) := env_wipe ((en3.mono e4).monoI (x5.trans x6.i)) vs1
        refine hg1 M5 (hid Z Dd) H6 v6 _ σ3 _ _ _ en6 r6 (turn1 j _ a M5 hd1 inv1) fun σ7 ρ7 en7 wp7 hT7 => ⟨wp7, ?_⟩
        dsimp only
        rw [if_pos rfl]
        intro s' H0' C' cl' fp'
        refine (hT7 s' H0' C' cl' fp').run σ7 H6 _ en7 w6 fun yv yd H8 M8 e8 w8 r8 hI => ?_
        have x58 : Ext M5 (hid Z Dd) H5 M8 H8 := x6.trans e8
        have hA8 : H8 Dd = some (.lst aV) := (x58.2 Dd (.inr rfl)).1.trans hA5
        have zk8 : ∀ b, Z b → H8 b = H1 b ∧ M8 b = M1 b := fun b z => ⟨(x58.2 b (.inl z)).1.trans (zk5 b z).1, (x58.2 b (.inl z)).2.trans (zk5 b z).2⟩
        refine ⟨aV, hA8, by rw [rA5.length]; omega, aV ++ [yv], a ++ [yd], M8, (x5.trans x58.i).trans hidput_x, fun b z => ⟨(upd_ne (zne b z)).trans (zk8 b z).1, (zk8 b z).2⟩, hidput_w w8, upd_same, ?_, by rw [List.length_append, List.length_singleton]; omega, hI⟩
        exact (((rA5.mono x58).append (.cons r8 .nil))).monoI hidput_x
      · have e : j = es.length := by omega
        exact .inl ⟨t1 e, aV, a, M5, xo.trans x5, zk5, w5, hA5, rA5, done1 _ _ (e ▸ inv1)⟩
    · have e : i = ds.length := by omega
      refine .inl ⟨s1 e, ?_⟩
      refine k _ (.lst acc) H' M' (e1.trans ⟨x'.trans show_x, zk⟩) (show_w w') (.lst hA ⟨(w'.2 Dd (.inr rfl)).1, fun z => zne Dd z rfl⟩ (rA.monoI show_x)) (done _ _ (e ▸ inv))
/-- [elt for x in iter for y in iter1] -/
theorem we_lc2 {own : List (Str × Nat)} {vs1 : List Nat} {g g1 : TG} {G G1 : D → Rho → (Rho → Prop) → Prop} {Φ : D → Mp → Prop} (hN : X.N.Nodup) (ok : BlkOk X.N X.env.scope scope own) (hv : ∀ i ∈ vs1, i ∈ own.map (·.2))
    (pg : ∀ (s : Shared) (H : Hp) (C : Addr) (cl : List (Str × Addr)) (fp : List Addr), PG (X.blk s H scope (compEnvC scope cl C X.env) fp) tg g) (hg : GT X.K g (own.map (·.2)) G)
    (pg1 : ∀ (s : Shared) (H : Hp) (C : Addr) (cl : List (Str × Addr)) (fp : List Addr), PG (X.blk s H scope (compEnvC scope cl C X.env) fp) tg1 g1) (hg1 : GT X.K g1 vs1 G1)
    (h : WI X ρ M tg iter (Lc2 X scope ρ (own.map (·.2)) vs1 G G1 tg1 iter1 elt Φ)) (hc : X.calm = true := by rfl) (hs : ∀ x, foldedSetIterable iter X.env x = pure x := by intro _; rfl) (hs1 : ∀ env x, foldedSetIterable iter1 env x = pure x := by intro _ _; rfl) : WE X ρ M (.ListComp elt [⟨tg, iter, [], 0⟩, ⟨tg1, iter1, [], 0⟩] scope pos) Φ := .mk fun σ H Q en w k =>
  eOf (pe_lc2 hc hN pi_sem ok hv pg (fun _ _ _ _ _ => pts_nil) (fun s H0 C cl fp => ⟨fun pins s' σ' H' Q' I q => q s H0 C cl fp pins s' I⟩) pg1 (fun _ _ _ _ _ => pts_nil) (fun s H0 C cl fp => ⟨fun pins s' σ' H' Q' I q => q s H0 C cl fp pins s' I⟩) hs hs1) (lc2_run hg hg1 h en w k)
end
end DL
namespace W
open PySem PySem.Spec PyProof.Rows L2 DL SX PL SlX
/-- the names of the marks of Forms -/
def nmF (fs : List Row) : List Str := fs.flatMap fun f => f.1.map fun p => p.1.1
section
variable {P : Program} {w : World} {K : PySem.W.Frag} {mg : Str → Option Value} {base : Heap} {C R U V : Addr}
def cNmF (R : Addr) : Con := fun ds M Φ => ∃ fs : List Row, ds = [.lst (fs.map (fmR R))] ∧ (nmF fs).length < 900 ∧ fs.length ≤ 60 ∧ Φ (.lst ((nmsOf (nmF fs)).map D.str)) M
abbrev nNmF : List Str := ["some", "form", "mark", "many"]
theorem nmF_take {fs : List Row} (i : Nat) : (nmF (fs.take i)).length ≤ (nmF fs).length := by
  have : nmF fs = nmF (fs.take i) ++ nmF (fs.drop i) := by
    unfold nmF
    rw [← List.flatMap_append, List.take_append_drop]
  rw [this, List.length_append]; omega
theorem ok_names_f (F : Fx w K mg) (P1 : Pc P w K mg base R "parts" 1 (cFmGet R fun ps _ => .ptup (ps.map ptD))) : BodyOk P w K mg base "names_in" s_names_in nNmF 1 2 (cNmF R) := by
  intro f' cdv A outer s H E hr ds M Φ hl hc
  obtain ⟨fs, rfl, l9, l60, hc⟩ := hc
  have nd : nNmF.Nodup := by decide +kernel
  refine wss_cons (ws_ret (we_sortedSetS (F.bn _ (by decide +kernel)) (F.bn _ (by decide +kernel)) (we_lc2 nd (blkOk_by (N := nNmF) (sc := defScope s_names_in) (own := [("form", 1), ("mark", 2), ("many", 3)]) (by decide +kernel)) (vs1 := [2, 3]) (by decide) (fun _ _ _ _ _ => pg_name (i := 1) nd rfl (Or.inl rfl)) (gt_name (by decide)) (fun _ _ _ _ _ => pg_tup rfl (pgs_cons (pg_name (i := 2) nd rfl (Or.inl rfl)) (pgs_cons (pg_name (i := 3) nd rfl (Or.inl rfl)) pgs_nil)) rfl rfl) (gt_two (by decide) (by decide)) (wi_list (we_var 0 rfl ⟨_, .inl rfl, ?_⟩)))))
  refine ⟨fun i acc M2 => M2 = M ∧ acc = (nmF (fs.take i)).map D.str, ⟨rfl, rfl⟩, ?_, ?_⟩
  · rintro i x acc M2 hx ⟨hM2, rfl⟩
    obtain rfl : M = M2 := hM2.symm
    rw [List.getElem?_map] at hx
    obtain ⟨f, hf, rfl⟩ := Option.map_eq_some_iff.mp hx
    have e1 : nmF (fs.take (i + 1)) = nmF (fs.take i) ++ f.1.map fun p => p.1.1 := by
      unfold nmF
      rw [take_snoc hf, List.flatMap_append, List.flatMap_cons, List.flatMap_nil, List.append_nil]
    have l1 := nmF_take (fs := fs) (i + 1)
    rw [e1, List.length_append, List.length_map] at l1
    intro s1 H1 C1 cl1 fp1
    refine wi_tup (we_unp (we_prop P1 (hr.mono (by omega)) (we_var 1 rfl ⟨_, insF, f.1, f.2, rfl, _, rfl, _, rfl, ?_⟩)))
    refine ⟨by rw [List.length_map, List.length_map, sizeLine_eq]; omega, fun j acc' M3 => M3 = M ∧ acc' = (nmF (fs.take i) ++ (f.1.take j).map fun p => p.1.1).map D.str, ⟨rfl, by simp⟩, ?_, ?_⟩
    · rintro j u acc' M3 hu ⟨hM3, rfl⟩
      obtain rfl : M = M3 := hM3.symm
      rw [List.getElem?_map] at hu
      obtain ⟨p, hp, rfl⟩ := Option.map_eq_some_iff.mp hu
      refine ⟨_, _, rfl, ?_⟩
      intro s2 H2 C2 cl2 fp2
      refine we_strS (F.bn _ (by decide +kernel)) (we_ix (we_var 2 rfl (we_int ⟨((0 : Nat) : Int), _, rfl, ixT (atI_nat rfl), p.1.1, rfl, rfl, ?_⟩)))
      rw [take_snoc hp, List.map_append, List.map_append, List.map_append, List.map_append, List.append_assoc]; rfl
    · rintro acc' M3 ⟨hM3, rfl⟩
      rw [List.length_map, List.take_length]
      exact ⟨hM3, by rw [e1]⟩
  · rintro acc M2 ⟨hM2, rfl⟩
    obtain rfl : M = M2 := hM2.symm
    rw [List.length_map, List.take_length]
    refine ⟨nmF fs, rfl, by omega, fun ys hy hs => Lets.of ?_⟩
    rw [nmsOf_uniq hy hs]
    exact hc
end
end W
namespace DL
open PySem PySem.Spec PyProof.Rows L2
section
variable {X : Cx} {e : Expr} {es : List Expr} {te : TE} {t : L2.TA} {p apos cpos : Pos}
def tStarVN (w : World) (te : TE) (t : L2.TA) : L2.TA := fun σ H Q => te σ H fun x H1 => ∃ d xs, x = V.ref d ∧ Rd H1 d (DNo w d xs) ∧ t σ H1 fun ys H2 => Q ((xs.map fun x => x.2.2) ++ ys) H2
theorem pa_starVN (hc : X.calm = true) (he : PE X e te) (hr : PA X es t) (hbase : attributeBase e "values" X.env (eval e X.env) = eval e X.env := by rfl) (hline : (apos.endLine == cpos.line) = true := by rfl)
    (hs : starEach (.Starred (.Call (.Attribute e "values" apos) [] [] cpos) p :: es) X.env = (true, eval (.Call (.Attribute e "values" apos) [] [] cpos) X.env) :: starEach es X.env := by rfl) : PA X (.Starred (.Call (.Attribute e "values" apos) [] [] cpos) p :: es) (tStarVN X.w te t) := by
  refine ⟨fun pos pins s σ H Q I h => ?_⟩
  refine PySem.W.items_star ?_ hs
  refine wpAny_Call_method (T := "dict") (id := "dict.values") hbase rfl hline PySem.F.plainAttrs_dict PySem.F.slot_dict_values PySem.F.type_dict_values (thn (he.run pins s σ H _ I h) fun u s1 ⟨x, H1, I1, rx, d, xs, ex, hd, q⟩ => ?_)
  subst ex
  cases (show u = Value.ref d from rx)
  obtain ⟨z, hs0, ys, pr, o, es', ep, ho, hx, hdt, he0, _⟩ := dnf_rd I1 hd
  have raw : s1.heap.DictRaw d es' ep := ⟨o, ho, hx, hdt⟩
  have I2 : Inv X pins σ H1 { s1 with heap := s1.heap.push { cls := .type "dict_values", data := .fields #[.ref d] } } := I1.kept (t' := s1.toks) fun b ob q => Heap.get?_push_of_some _ q
  obtain ⟨l1, l2⟩ := ents_len pr he0
  refine ⟨raw.typeIs, fun b q => by cases q; exact ⟨o, ho, hx.2.1⟩, ?_⟩
  show wpAny _ _ (callWith cpos (.builtin "dict.values") [.ref d] [] []) _ X.xe s1
  refine method_meetsIn PySem.F.slot_dict_values PySem.F.entry_dict_values rfl (PySem.evalArgs_none ⟨rfl, raw.typeIs, PySem.F.args_dict_values_1 _, _, meets_dict_values_raw d hs0, ⟨es', ep, raw⟩, ?_⟩)
  have hT : ({ s1 with heap := s1.heap.push { cls := .type "dict_values", data := .fields #[.ref d] } } : Shared).TypeIs (.ref s1.heap.objs.size) "dict_values" := ⟨_, Heap.get?_push_size _ rfl, rfl⟩
  unfold PySem.W.StarOf notIterableAtAll
  refine wpAny_bind (wpAny_specialOf hT PySem.F.slot_dict_values_iter.lookup (wpAny_pure ⟨rfl, ?_⟩))
  refine kdl_collect (KdlSrc.rawValues (d := d) (es := es') (ep := ep)) (I1.ok.hd hc) ⟨⟨_, Heap.get?_push_size _ rfl, rfl, rfl⟩, raw.at fun o q => Heap.get?_push_of_some _ q⟩ (by omega) fun h' tk acc hk hacc => ?_
  have ea : acc.toList = ys.map fun y => y.2.2 := by
    have hsz := hacc.1
    refine List.ext_getElem (by rw [Array.length_toList, List.length_map]; omega) fun j h1 h2 => ?_
    rw [Array.length_toList] at h1
    obtain ⟨hj, hv⟩ := hacc.2 j acc[j] (Array.getElem?_eq_getElem h1)
    rw [Array.getElem_toList, hv, List.getElem_map, ents_at he0 hj (by omega)]
    rfl
  rw [ea]
  have I3 : Inv X pins σ H1 { s1 with heap := h', toks := tk } := I2.kept (t' := tk) hk
  exact thn (hr.run pos pins _ σ H1 _ I3 q) fun ws s3 ⟨vs, H3, I4, r3, q3⟩ => ⟨_, H3, I4, (vals_prN pr).append r3, q3⟩
end
section
variable {X : Cx} {ρ : Rho} {M : Mp} {e : Expr} {es : List Expr}
theorem wa_starVN {sp apos cpos : Pos} {ΦA : List D → Mp → Prop} (h : WE X ρ M e fun d M1 => ∃ kvs, d = .fdN X.w kvs ∧ WA X ρ M1 es fun ds M2 => ∀ ys, ys = kvs.map (·.2) ++ ds → ΦA ys M2) (hc : X.calm = true := by rfl) (hbase : attributeBase e "values" X.env (eval e X.env) = eval e X.env := by rfl) (hline : (apos.endLine == cpos.line) = true := by rfl)
    (hs : starEach (.Starred (.Call (.Attribute e "values" apos) [] [] cpos) sp :: es) X.env = (true, eval (.Call (.Attribute e "values" apos) [] [] cpos) X.env) :: starEach es X.env := by rfl) : WA X ρ M (.Starred (.Call (.Attribute e "values" apos) [] [] cpos) sp :: es) ΦA := .mk fun σ H Q en w k =>
  aOf (pa_starVN hc pe_sem pa_sem hbase hline hs) (h.run σ H _ en w fun v d H1 M1 e1 w1 r1 hz => by
    obtain ⟨kvs, rfl, hz⟩ := hz
    cases r1 with
    | @fdN q o0 _ xs _ hH mq rs =>
    exact ⟨q, xs, rfl, .inr ⟨_, hH⟩, hz.run σ H1 _ (en.mono e1) w1 fun us ds H2 M2 e2 w2 r2 hy => k _ (kvs.map (·.2) ++ ds) H2 M2 (e1.trans e2) w2 ((rs.vals e2.i).append r2) (hy _ rfl)⟩)
end
end DL
namespace W
open PySem PySem.Spec PyProof.Rows L2 DL SX PL SlX
def nwB (f g : Row) (rs : List Pt) (names : List Str) (word : Str) : Bool := names.all (fun n => decide (0 ≤ co rs (n, word))) && decide (0 ≤ (rs.map (·.2)).sum + (g.2 - f.2))
theorem nw_neg {f g : Row} {rs : List Pt} {names : List Str} {word n : Str} (h : n ∈ names) (h2 : co rs (n, word) < 0) : nwB f g rs names word = false := by
  unfold nwB
  rw [Bool.and_eq_false_iff]
  left
  exact List.all_eq_false.mpr ⟨n, h, by simp; omega⟩
theorem nw_pos {f g : Row} {rs : List Pt} {names : List Str} {word : Str} (h : ∀ n ∈ names, 0 ≤ co rs (n, word)) : nwB f g rs names word = decide (0 ≤ (rs.map (·.2)).sum + (g.2 - f.2)) := by
  unfold nwB
  rw [List.all_eq_true.mpr fun n hn => decide_eq_true (h n hn), Bool.true_and]
section
variable {P : Program} {w : World} {K : PySem.W.Frag} {mg : Str → Option Value} {base : Heap} {C R U V : Addr}
abbrev nNw : List Str := ["form", "other", "names", "word", "more", "name", "people", "rows"]
def cNw (R : Addr) : Con := fun ds M Φ => ∃ (f g : Row) (names : List Str) (word : Str), ds = [fmR R f, fmR R g, .tup (names.map D.str), .str word] ∧ word ≠ "rows" ∧ Pts f.1 ∧ Pts g.1 ∧ f.1.length ≤ 20 ∧ g.1.length ≤ 20 ∧ BdP f.1 ∧ BdI f.2 ∧ ∀ rs, IsSum g.1 f.1 (-1) rs → Φ (.bl (nwB f g rs names word)) M
theorem ok_nw (F : Fx w K mg) (gD : mg "dict" = none) (XS : PySem.W.selfFirst K R = true) (gPE : ∃ t, mg "PEOPLE" = some (.str "people" t)) (gRO : ∃ t, mg "ROWS" = some (.str "rows" t)) (P1 : Pc P w K mg base R "parts" 1 (cFmGet R fun ps _ => .ptup (ps.map ptD))) (P2 : Pc P w K mg base R "number" 1 (cFmGet R fun _ n => .int n)) (SF : Mc P w K mg base R "__sub__" [] 7 2 (cShF R (-1))) :
    BodyOk P w K mg base "is_nowhere_greater" s_is_nowhere_greater nNw 4 7 (cNw R) := by
  intro f' cdv A outer s H E hr ds M Φ hl hc
  obtain ⟨f, g, names, word, rfl, hw, pf, pg, lf, lg, bf, bn, hc⟩ := hc
  have nd : nNw.Nodup := by decide +kernel
  have u9 : (A.deeper (envOfC "is_nowhere_greater" (defScope s_is_nowhere_greater) s.heap.objs.size f' cdv)).units + 9 < cLine := by have := hr.units; omega
  refine wss_cons (ws_set 4 nd (we_dictPN hr.units gD (we_prop P1 (hr.mono (by omega)) (we_binO SF (hr.mono (by omega)) XS (we_var 1 rfl (we_var 0 rfl ⟨_, _, insF, insF, g.1, g.2, f.1, f.2, rfl, pg, pf, lg, lf, bf, bn, fun rs hs => ⟨⟨R, _, rfl⟩, _, insF, rs, _, rfl, kvI rs, .inr (by rw [items_I]), keyD_kv, nd_kv (up_nd (hs.pts pg pf).up), fun q hq => ?_⟩⟩))))))
  have hc := hc rs hs
  refine wss_frzN (i := 4) rfl mset_same ?_
  rw [mdel_mset hq]
  refine wss_cons (ws_for PassesOwn.never (wi_tup (we_var 2 rfl ⟨_, rfl, ?_⟩)))
  refine ⟨fun i ρ' M2 => ∃ o5 o6 o7, ρ' = [some (fmR R f), some (fmR R g), some (.tup (names.map D.str)), some (.str word), some (.fdN w (kvI rs)), o5, o6, o7] ∧ M2 = M ∧ ∀ n ∈ names.take i, 0 ≤ co rs (n, word), ⟨_, _, _, rfl, rfl, fun n hn => absurd hn (by simp)⟩, ?_, ?_⟩
  · rintro i x ρ' M2 hx ⟨o5, o6, o7, rfl, rfl, hi⟩
    rw [List.getElem?_map] at hx
    obtain ⟨n, hn, rfl⟩ := Option.map_eq_some_iff.mp hx
    refine wg_name 5 ?_ nd
    refine wss_cons (ws_par 6 7 nd (wa_cons (we_getNR u9 (we_var 4 rfl ⟨_, rfl, we_tup (wa_cons (we_var 5 rfl (wa_cons (we_gstr gPE (wa_nil ⟨sz2x, we_int ⟨_, mkN (n, "people"), rfl, mkN_nk (n, "people"), mkN_dp _, ?_⟩⟩)))))⟩))))
    rw [getD_co]
    refine wa_cons (we_getNR u9 (we_var 4 rfl ⟨_, rfl, we_tup (wa_cons (we_var 5 rfl (wa_cons (we_gstr gRO (wa_nil ⟨sz2x, we_int ⟨_, mkN (n, "rows"), rfl, mkN_nk (n, "rows"), mkN_dp _, ?_⟩⟩)))))⟩))
    rw [getD_co]
    refine wa_nil ⟨_, _, rfl, ?_⟩
    refine wss_cons (ws_if (wt_ww (ww_or (wt_ww (ww_and (wt_eqS (we_var 3 rfl (we_gstr gRO ⟨_, rfl, ?_⟩))))))))
    rw [decide_eq_false hw]
    refine ww_or1 (wt_ww (ww_and (wt_neS (we_var 3 rfl (we_gstr gRO ⟨decide (word = "rows"), rfl, ?_⟩)))))
    rw [decide_eq_false hw]
    refine ww_and1 (wt_ltI (we_getNR u9 (we_var 4 rfl ⟨_, rfl, we_tup (wa_cons (we_var 5 rfl (wa_cons (we_var 3 rfl (wa_nil ⟨sz2x, we_int ⟨_, mkN (n, word), rfl, mkN_nk (n, word), mkN_dp _, ?_⟩⟩)))))⟩)))
    rw [getD_co]
    refine we_int ⟨_, _, rfl, rfl, ?_⟩
    by_cases hneg : co rs (n, word) < 0
    · rw [decide_eq_true hneg]
      rw [nw_neg (List.mem_of_getElem? hn) hneg] at hc
      exact wss_cons (ws_ret (we_bl (Lets.of hc)))
    · rw [decide_eq_false hneg]
      refine wss_nil (wss_nil ⟨_, _, _, rfl, rfl, fun m hm => ?_⟩)
      rw [take_snoc hn] at hm
      rcases List.mem_append.mp hm with hm | hm
      · exact hi m hm
      · rw [List.mem_singleton.mp hm]; omega
  · rintro ρ' M2 ⟨o5, o6, o7, rfl, rfl, hi⟩
    rw [List.length_map, List.take_length] at hi
    rw [nw_pos hi] at hc
    have hf := hs.few
    refine wss_cons (ws_ret (we_geI (we_sum (F.bn _ (by decide +kernel)) (we_lst (wa_starVN (we_var 4 rfl ⟨_, rfl, wa_cons (we_subI (we_prop P2 (hr.mono (by omega)) (we_var 1 rfl ⟨_, insF, g.1, g.2, rfl, we_prop P2 (hr.mono (by omega)) (we_var 0 rfl ⟨_, insF, f.1, f.2, rfl, _, _, rfl, rfl, wa_nil fun ys e => ?_⟩)⟩)))⟩))))))
    have ev : (kvI rs).map (·.2) = (rs.map (·.2)).map D.int := by
      unfold kvI kvG
      rw [List.map_map, List.map_map]; rfl
    have e : ys = (rs.map (·.2) ++ [g.2 - f.2]).map D.int := by rw [e, ev, List.map_append]; rfl
    refine ⟨by rw [e, List.length_map, List.length_append, List.length_map, sizeLine_eq]; simp; omega, rs.map (·.2) ++ [g.2 - f.2], by rw [e]; rfl, we_int ⟨_, _, rfl, rfl, Lets.of ?_⟩⟩
    rw [List.sum_append]
    have es : (rs.map (·.2)).sum + [g.2 - f.2].sum = (rs.map (·.2)).sum + (g.2 - f.2) := by simp
    rw [es]
    exact hc
end
end W
namespace DL
open PySem PySem.Spec PyProof.Rows L2
def Mut (Φ : D → Mp → Prop) : D → Mp → Prop := fun d M => ∃ acc, d = .lst acc ∧ ∀ p, M p = none → Φ (.ob p) (mset M p (.lst acc))
section
variable {X : Cx} {ρ : Rho} {M : Mp} {elt tg iter : Expr} {pos : Pos} {scope : Scope}
theorem lc_runM {g : TG} {tt : TT} {vs : List Nat} {G : D → Rho → (Rho → Prop) → Prop} {T : Rho → Mp → (Bool → Mp → Prop) → Prop} {Φ : D → Mp → Prop} (hg : GT X.K g vs G) (ht : TK X tt T)
    (h : WI X ρ M tg iter (LcI X scope ρ vs G T elt (Mut Φ))) {Z : Zn} {σ : L2.St} {H : Hp} {Q : VK} (en : EnvR X.K M Z H σ ρ) (w : Wd X.K M Z H) (k : KE X.K M Z H Φ Q) : tLc (iSem X tg iter) g tt (eBlk X scope elt) vs σ H Q :=
  h.run σ H _ en w fun J ds H1 M1 e1 w1 sq hz => by
    obtain ⟨hn, I, h0, turn, done⟩ := hz
    intro Dd hD
    have zne : ∀ b, Z b → b ≠ Dd := w1.zne hD
    refine ⟨fun i m H' => m = ds.length - i ∧ i ≤ ds.length ∧ ∃ accV acc M', ExI M1 Z H1 M' (hid Z Dd) H' ∧ (∀ b, Z b → H' b = H1 b ∧ M' b = M1 b) ∧ Wd X.K M' (hid Z Dd) H' ∧ H' Dd = some (.lst accV) ∧ Reps X.K M' (hid Z Dd) H' accV acc ∧ acc.length ≤ i ∧ I i acc M',
      ⟨ds.length, by simp, Nat.zero_le _, [], [], M1, hide_x hD, fun b z => ⟨upd_ne (zne b z), rfl⟩, hide_w w1 hD, upd_same, .nil, Nat.zero_le _, h0⟩, ?_⟩
    rintro i m H' ⟨rfl, hi, accV, acc, M', x', zk, w', hA, rA, la, inv⟩
    obtain ⟨s1, s2⟩ := sq i M' (hid Z Dd) H' x' w'
    by_cases hlt : i < ds.length
    · have hd : ds[i]? = some ds[i] := List.getElem?_eq_getElem hlt
      obtain ⟨go, yl⟩ := s2 _ hd
      refine .inr ⟨go, fun H2 => ∃ accV acc M2, ExI M1 Z H1 M2 (hid Z Dd) H2 ∧ (∀ b, Z b → H2 b = H1 b ∧ M2 b = M1 b) ∧ Wd X.K M2 (hid Z Dd) H2 ∧ H2 Dd = some (.lst accV) ∧ Reps X.K M2 (hid Z Dd) H2 accV acc ∧ acc.length ≤ i + 1 ∧ I (i + 1) acc M2,
        fun H2 ⟨aV, a, M2, x2, z2, w2, hA2, rA2, l2, i2⟩ => ⟨ds.length - (i + 1), by omega, rfl, hlt, aV, a, M2, x2, z2, w2, hA2, rA2, l2, i2⟩, fun v H2 y => ?_⟩
      obtain ⟨x2, w2, r2⟩ := yl v H2 y
      have en2 : EnvR X.K M' (hid Z Dd) H2 (wipe σ vs) (wipeR ρ vs) := env_wipe ((en.mono e1).monoI (x'.trans x2.i)) vs
      refine hg M' (hid Z Dd) H2 v _ σ _ _ _ en2 r2 (turn i _ acc M' hd inv) fun σ3 ρ3 en3 wp3 hT => ⟨wp3, ?_⟩
      refine ht M' H2 σ3 ρ3 _ _ en3 w2 hT fun b H3 M3 x3 w3 hb => ?_
      have x23 : Ext M' (hid Z Dd) H' M3 H3 := x2.trans x3
      have zk3 : ∀ b, Z b → H3 b = H1 b ∧ M3 b = M1 b := fun b z => ⟨(x23.2 b (.inl z)).1.trans (zk b z).1, (x23.2 b (.inl z)).2.trans (zk b z).2⟩
      cases b with
      | false => exact ⟨accV, acc, M3, x'.trans x23.i, zk3, w3, (x23.2 Dd (.inr rfl)).1.trans hA, rA.mono x23, Nat.le_succ_of_le la, hb⟩
      | true =>
        intro s H0 C cl fp
        refine (hb s H0 C cl fp).run σ3 H3 _ (en3.mono x3) w3 fun yv yd H4 M4 x4 w4 r4 hI => ?_
        have x24 := x23.trans x4
        have hA4 : H4 Dd = some (.lst accV) := (x24.2 Dd (.inr rfl)).1.trans hA
        refine ⟨accV, hA4, by rw [rA.length]; omega, accV ++ [yv], acc ++ [yd], M4, (x'.trans x24.i).trans hidput_x, fun b z => ⟨(upd_ne (zne b z)).trans ((x4.2 b (.inl z)).1.trans (zk3 b z).1), (x4.2 b (.inl z)).2.trans (zk3 b z).2⟩, hidput_w w4, upd_same, ?_, by rw [List.length_append, List.length_singleton]; omega, hI⟩
        exact (((rA.mono x24).append (.cons r4 .nil))).monoI hidput_x
    · have e : i = ds.length := by omega
      refine .inl ⟨s1 e, ?_⟩
      have mD : M' Dd = none := (w'.2 Dd (.inr rfl)).1
      have tx : ExI M' (hid Z Dd) H' (mset M' Dd (.lst acc)) Z H' := fun b u q m => ⟨q, by rw [mset_ne (fun e => m.2 (.inr e))]; exact m.1, fun z => m.2 (.inl z)⟩
      obtain ⟨acc2, e2, hd⟩ := done _ _ (e ▸ inv)
      cases e2
      refine k _ (.ob Dd) H' (mset M' Dd (.lst acc)) (e1.trans ⟨x'.trans tx, fun b z => ⟨(zk b z).1, by rw [mset_ne (zne b z)]; exact (zk b z).2⟩⟩) ⟨fun a u ea => ?_, fun b z => ?_⟩ (.ob Dd) (hd Dd mD)
      · by_cases ha : a = Dd
        · rw [ha, mset_same] at ea; cases ea; rw [ha]
          exact ⟨accV, hA, rA.monoI tx⟩
        · rw [mset_ne ha] at ea
          exact (w'.1 a u ea).stepI tx rfl
      · obtain ⟨m, u, q⟩ := w'.2 b (.inl z)
        exact ⟨by rw [mset_ne (zne b z)]; exact m, u, q⟩
/-- the list is changed further: y = [elt for x in iter] -/
theorem ws_setLcM (i : Nat) {y : Str} {py spos : Pos} {own : List (Str × Nat)} {g : TG} {tt : TT} {ifs : List Expr} {G : D → Rho → (Rho → Prop) → Prop} {T : Rho → Mp → (Bool → Mp → Prop) → Prop} {Ψ : DE} (hN : X.N.Nodup) (ok : BlkOk X.N X.env.scope scope own)
    (pg : ∀ (s : Shared) (H : Hp) (C : Addr) (cl : List (Str × Addr)) (fp : List Addr), PG (X.blk s H scope (compEnvC scope cl C X.env) fp) tg g) (hg : GT X.K g (own.map (·.2)) G)
    (pt : ∀ (s : Shared) (H : Hp) (C : Addr) (cl : List (Str × Addr)) (fp : List Addr), PTs (X.blk s H scope (compEnvC scope cl C X.env) fp) ifs tt) (ht : TK X tt T)
    (h : WI X ρ M tg iter (LcI X scope ρ (own.map (·.2)) G T elt (Mut fun d M1 => Ψ.nx (ρ.set i (some d)) M1)))
    (hsw : swapsWith (.ListComp elt [⟨tg, iter, ifs, 0⟩] scope pos) (some (.Name y py)) spos.line X.env = pure true) (hy : X.N[i]? = some y := by rfl) (hyl : X.env.scope.names.lookup y = some .local := by rfl)
    (hc : X.calm = true := by rfl) (hs : ∀ x, foldedSetIterable iter X.env x = pure x := by intro _; rfl) : WS X ρ M (.Assign [.Name y py] (.ListComp elt [⟨tg, iter, ifs, 0⟩] scope pos) spos) Ψ := .mk fun σ H E en w k =>
  sOf (ps_setLc hc hN hy hyl hsw pi_sem ok pg pt (fun s H0 C cl fp => ⟨fun pins s' σ' H' Q' I q => q s H0 C cl fp pins s' I⟩) hs) (lc_runM (Φ := fun d M1 => Ψ.nx (ρ.set i (some d)) M1) hg ht h en w fun v d H' M' x w' r z => k.nx _ _ H' M' x w' ((en.mono x).set r i) z)
end
end DL
namespace W
open PySem PySem.Spec PyProof.Rows L2 DL SX PL SlX
def stepP (nw : Row → Row → Bool) (us : List Row) (f : Row) : List Row := if us.any (fun g => nw f g) = true then us else (us.filter fun g => !nw g f) ++ [f]
def prF (nw : Row → Row → Bool) (ys : List Row) : List Row := ys.foldl (stepP nw) []
theorem stepP_sub {nw : Row → Row → Bool} {us : List Row} {f g : Row} (h : g ∈ stepP nw us f) : g ∈ us ∨ g = f := by
  unfold stepP at h
  split at h
  · exact .inl h
  · rcases List.mem_append.mp h with h | h
    · exact .inl (List.mem_filter.mp h).1
    · exact .inr (List.mem_singleton.mp h)
theorem stepP_len (nw : Row → Row → Bool) (us : List Row) (f : Row) : (stepP nw us f).length ≤ us.length + 1 := by
  unfold stepP
  split
  · omega
  · have := List.length_filter_le (fun g => !nw g f) us
    rw [List.length_append, List.length_singleton]; omega
theorem prF_sub {nw : Row → Row → Bool} : ∀ {ys us : List Row} {g : Row}, g ∈ ys.foldl (stepP nw) us → g ∈ us ∨ g ∈ ys
  | [], _, _, h => .inl h
  | y :: ys, us, g, h => by
    rcases prF_sub (ys := ys) h with h | h
    · exact (stepP_sub h).elim .inl fun e => .inr (e ▸ List.mem_cons_self)
    · exact .inr (List.mem_cons_of_mem _ h)
theorem prF_len (nw : Row → Row → Bool) : ∀ (ys us : List Row), (ys.foldl (stepP nw) us).length ≤ us.length + ys.length
  | [], us => Nat.le_refl _
  | y :: ys, us => by
    have h1 := prF_len nw ys (stepP nw us y)
    have h2 := stepP_len nw us y
    rw [List.foldl_cons, List.length_cons]; omega
section
variable {P : Program} {w : World} {K : PySem.W.Frag} {mg : Str → Option Value} {base : Heap} {C R U V : Addr}
theorem pt_bkX {X : Cx} {scope : Scope} {c : Expr} (s : Shared) (H0 : Hp) (C : Addr) (cl : List (Str × Addr)) (fp : List Addr) : PTs (X.blk s H0 scope (compEnvC scope cl C X.env) fp) [c] (tBlk X scope c) := pts_one ⟨fun pins s' σ' H' Q' I q => q s H0 C cl fp pins s' I⟩
abbrev nPr : List Str := ["some", "names", "word", "unlike", "form", "other"]
/-- what is wanted of Forms -/
structure FmOk (f : Row) : Prop where
  (p : Pts f.1) (l : f.1.length ≤ 20) (b : BdP f.1) (n : BdI f.2) (t : BdR f)
def cPrn (R : Addr) : Con := fun ds M Φ => ∃ (fs : List Row) (names : List Str) (word : Str) (nw : Row → Row → Bool), ds = [.lst (fs.map (fmR R)), .tup (names.map D.str), .str word] ∧ word ≠ "rows" ∧ fs.length ≤ 60 ∧ (∀ f ∈ fs, FmOk f) ∧ (fs.map T).Nodup ∧ (∀ f ∈ fs, ∀ g ∈ fs, ∀ rs, IsSum g.1 f.1 (-1) rs → nwB f g rs names word = nw f g) ∧ ∀ ys : List Row, ys.Perm fs → sortedS (ys.map T) = true → Φ (.lst ((prF nw ys).map (fmR R))) M
theorem ok_pruned (F : Fx w K mg) (gA : mg "any" = none) (F1 : Fc P w K mg base "by_texts" [] 5 1 (cByT R)) (F2 : Fc P w K mg base "is_nowhere_greater" [] 8 4 (cNw R)) : BodyOk P w K mg base "pruned" s_pruned nPr 3 8 (cPrn R) := by
  intro f' cdv A outer s H E hr ds M Φ hl hc
  obtain ⟨fs, names, word, nw, rfl, hw, l60, hok, hn, hnw, hc⟩ := hc
  have nd : nPr.Nodup := by decide +kernel
  refine wss_cons (ws_set 3 nd (we_lst (wa_nil ⟨Nat.zero_le _, ?_⟩)))
  refine wss_cons (ws_for PassesOwn.never (wi_list (we_call F1 (hr.mono (by omega)) (wa_cons (we_var 0 rfl (wa_nil ⟨rfl, fs, rfl, l60, fun f hf => (hok f hf).t, hn, fun ys hp hs => ⟨_, .inl rfl, ?_⟩⟩))))))
  have hc := hc ys hp hs
  have mem : ∀ {g}, g ∈ ys → g ∈ fs := fun h => hp.mem_iff.mp h
  have yl : ys.length ≤ 60 := by rw [hp.length_eq]; exact l60
  refine ⟨fun i ρ' M2 => ∃ x o4 o5, ρ' = [some (.lst (fs.map (fmR R))), some (.tup (names.map D.str)), some (.str word), some x, o4, o5] ∧ ((x = .lst ((prF nw (ys.take i)).map (fmR R)) ∧ M2 = M) ∨ ∃ q, x = .ob q ∧ M q = none ∧ M2 = mset M q (.lst ((prF nw (ys.take i)).map (fmR R)))), ⟨_, _, _, rfl, .inl ⟨rfl, rfl⟩⟩, ?_, ?_⟩
  · rintro i x ρ' M2 hx ⟨x3, o4, o5, rfl, h3⟩
    rw [List.getElem?_map] at hx
    obtain ⟨f, hf, rfl⟩ := Option.map_eq_some_iff.mp hx
    have hfm := List.mem_of_getElem? hf
    generalize hus : prF nw (ys.take i) = us at h3
    have sub : ∀ g ∈ us, g ∈ fs := fun g hg => by
      rw [← hus] at hg
      exact mem ((prF_sub hg).elim (fun h => absurd h List.not_mem_nil) fun h => List.mem_of_mem_take h)
    have ulen : us.length ≤ 60 := by
      have := prF_len nw (ys.take i) []
      rw [List.length_take] at this
      have e : (List.foldl (stepP nw) [] (ys.take i)) = us := hus
      rw [e] at this
      simp at this; omega
    have next : prF nw (ys.take (i + 1)) = stepP nw us f := by
      unfold prF
      rw [take_snoc hf, List.foldl_append]
      have e : (List.foldl (stepP nw) [] (ys.take i)) = us := hus
      rw [e]; rfl
    refine wg_name 4 ?_ nd
    have norm : ∀ {ss : List Stmt} {Ψ : DE}, WSs (bx P w K mg base nPr "pruned" (defScope s_pruned) f' cdv A outer s H E) [some (.lst (fs.map (fmR R))), some (.tup (names.map D.str)), some (.str word), some (.lst (us.map (fmR R))), some (fmR R f), none] M ss Ψ → WSs (bx P w K mg base nPr "pruned" (defScope s_pruned) f' cdv A outer s H E) [some (.lst (fs.map (fmR R))), some (.tup (names.map D.str)), some (.str word), some x3, some (fmR R f), o5] M2 ss Ψ := fun {ss Ψ} h => by
      rcases h3 with ⟨rfl, rfl⟩ | ⟨q, rfl, hq, rfl⟩
      · exact wss_let (M' := M2) (ρ' := [some (.lst (fs.map (fmR R))), some (.tup (names.map D.str)), some (.str word), some (.lst (us.map (fmR R))), some (fmR R f), none]) (fun b => .inl rfl) (.val (.same _) (.val (.same _) (.val (.same _) (.val (.same _) (.val (.same _) (.drop .nil)))))) h
      · exact wss_let (M' := M) (ρ' := [some (.lst (fs.map (fmR R))), some (.tup (names.map D.str)), some (.str word), some (.lst (us.map (fmR R))), some (fmR R f), none]) (les_new hq) (.val (.same _) (.val (.same _) (.val (.same _) (.val (.lst mset_same hq) (.val (.same _) (.drop .nil)))))) h
    refine norm ?_
    refine wss_cons (ws_if (wt_not (wt_val (we_anyB gA (we_lc nd (blkOk_by (N := nPr) (sc := defScope s_pruned) (own := [("other", 5)]) (by decide +kernel)) (fun _ _ _ _ _ => pg_name (i := 5) nd rfl (Or.inl rfl)) (gt_name (by decide)) (fun _ _ _ _ _ => pts_nil) tk_nil (wi_list (we_var 3 rfl ⟨_, .inl rfl, ?_⟩)))))))
    refine ⟨by rw [List.length_map, sizeLine_eq]; omega, fun k acc M3 => M3 = M ∧ acc = ((us.take k).map fun g => nw f g).map D.bl, ⟨rfl, rfl⟩, ?_, ?_⟩
    · rintro k x acc M3 hx ⟨hM3, rfl⟩
      obtain rfl : M = M3 := hM3.symm
      rw [List.getElem?_map] at hx
      obtain ⟨g, hg, rfl⟩ := Option.map_eq_some_iff.mp hx
      have hgs := sub g (List.mem_of_getElem? hg)
      have fo := hok f (mem hfm)
      have go := hok g hgs
      intro s1 H1 C1 cl1 fp1
      refine we_call F2 (hr.mono (by omega)) (wa_cons (we_var 4 rfl (wa_cons (we_var 5 rfl (wa_cons (we_var 1 rfl (wa_cons (we_var 2 rfl (wa_nil ⟨rfl, f, g, names, word, rfl, hw, fo.p, go.p, fo.l, go.l, fo.b, fo.n, fun rs hs => ?_⟩)))))))))
      rw [hnw f (mem hfm) g hgs rs hs]
      refine ⟨rfl, ?_⟩
      rw [take_snoc hg, List.map_append, List.map_append]; rfl
    rintro acc M3 ⟨hM3, rfl⟩
    obtain rfl : M = M3 := hM3.symm
    rw [List.length_map, List.take_length]
    refine ⟨_, rfl, _, rfl, ?_⟩
    have eany : (us.map fun g => nw f g).any id = us.any fun g => nw f g := by rw [List.any_map]; rfl
    rw [eany]
    cases hb : us.any fun g => nw f g with
    | true =>
      refine wss_nil (wss_nil ⟨_, _, _, rfl, .inl ⟨?_, rfl⟩⟩)
      rw [next]; unfold stepP; rw [if_pos hb]
    | false =>
      refine wss_cons (ws_setLcM 3 nd (blkOk_by (N := nPr) (sc := defScope s_pruned) (own := [("other", 5)]) (by decide +kernel)) (fun _ _ _ _ _ => pg_name (i := 5) nd rfl (Or.inl rfl)) (gt_name (by decide)) pt_bkX tk_one (wi_list (we_var 3 rfl ⟨_, .inl rfl, ?_⟩)) rfl)
      refine ⟨by rw [List.length_map, sizeLine_eq]; omega, fun k acc M3 => M3 = M ∧ acc = ((us.take k).filter fun g => !nw g f).map (fmR R), ⟨rfl, rfl⟩, ?_, ?_⟩
      · rintro k x acc M3 hx ⟨hM3, rfl⟩
        obtain rfl : M = M3 := hM3.symm
        rw [List.getElem?_map] at hx
        obtain ⟨g, hg, rfl⟩ := Option.map_eq_some_iff.mp hx
        have hgs := sub g (List.mem_of_getElem? hg)
        have fo := hok f (mem hfm)
        have go := hok g hgs
        intro s1 H1 C1 cl1 fp1
        refine wt_not (wt_val (we_call F2 (hr.mono (by omega)) (wa_cons (we_var 5 rfl (wa_cons (we_var 4 rfl (wa_cons (we_var 1 rfl (wa_cons (we_var 2 rfl (wa_nil ⟨rfl, g, f, names, word, rfl, hw, go.p, fo.p, go.l, fo.l, go.b, go.n, fun rs hs => ?_⟩)))))))))))
        rw [hnw g hgs f (mem hfm) rs hs]
        refine ⟨_, rfl, ?_⟩
        have tk : (us.take (k + 1)).filter (fun g => !nw g f) = (us.take k).filter (fun g => !nw g f) ++ if (!nw g f) = true then [g] else [] := by
          rw [take_snoc hg, List.filter_append, List.filter_cons, List.filter_nil]
        cases hg2 : nw g f with
        | true => exact ⟨rfl, by rw [tk, hg2]; simp⟩
        | false =>
          intro s2 H2 C2 cl2 fp2
          exact we_var 5 rfl ⟨rfl, by rw [tk, hg2]; simp⟩
      rintro acc M3 ⟨hM3, rfl⟩
      obtain rfl : M = M3 := hM3.symm
      rw [List.length_map, List.take_length]
      have fl := List.length_filter_le (fun g => !nw g f) us
      refine ⟨_, rfl, fun q hq => ?_⟩
      refine wss_cons (ws_expr (we_append (we_var 3 rfl ⟨q, _, rfl, mset_same, we_var 4 rfl ⟨_, mset_same, by rw [List.length_map, sizeLine_eq]; omega, ?_⟩⟩)))
      rw [mset_mset]
      refine wss_nil (wss_nil ⟨_, _, _, rfl, .inr ⟨q, rfl, hq, ?_⟩⟩)
      rw [next]; unfold stepP; rw [if_neg (by rw [hb]; simp), List.map_append]; rfl
  · rintro ρ' M2 ⟨x3, o4, o5, rfl, h3⟩
    rw [List.length_map, List.take_length] at h3
    rcases h3 with ⟨rfl, rfl⟩ | ⟨q, rfl, hq, rfl⟩
    · exact wss_cons (ws_ret (we_var 3 rfl (Lets.of hc)))
    · refine wss_let (M' := M) (ρ' := [some (.lst (fs.map (fmR R))), some (.tup (names.map D.str)), some (.str word), some (.lst ((prF nw ys).map (fmR R))), none, none]) (les_new hq) (.val (.same _) (.val (.same _) (.val (.same _) (.val (.lst mset_same hq) (.drop (.drop .nil)))))) ?_
      exact wss_cons (ws_ret (we_var 3 rfl (Lets.of hc)))
end
end W
namespace W
open PySem PySem.Spec PyProof.Rows L2 DL SX PL SlX
abbrev lsN : List Str := ["own_forms", "own_people"]
def LsD (L R : Addr) (fs : List Row) (pe : Row) : D := .slo L [some (.lst (fs.map (fmR R))), some (fmR R pe)]
def mulR (i : Int) (f : Row) : Row := (if i = 0 then [] else f.1.map fun p => (p.1, p.2 * i), f.2 * i)
theorem mulR_is {i : Int} {f : Row} (h : Pts f.1) {rs : List Pt} (hs : IsSum [] f.1 i rs) : (rs, f.2 * i) = mulR i f := by
  unfold mulR
  rw [hs.uni (isSum_mul h)]
section
variable {P : Program} {w : World} {K : PySem.W.Frag} {mg : Str → Option Value} {base : Heap} {C R U V L : Addr}
def cDoAdd : Con := fun ds M Φ => ∃ word : Str, ds = [.str "beside", .str word] ∧ Φ (.bl (!decide (word = "circle"))) M
theorem ok_do_add (F : Fx w K mg) (gPE : ∃ t, mg "PEOPLE" = some (.str "people" t)) (gCI : ∃ t, mg "CIRCLE" = some (.str "circle" t)) (gBE : ∃ t, mg "BESIDE" = some (.str "beside" t)) : BodyOk P w K mg base "do_add" s_do_add ["how", "word"] 2 0 cDoAdd := by
  intro f' cdv A outer s H E hr ds M Φ hl hc
  obtain ⟨word, rfl, hc⟩ := hc
  refine wss_cons (ws_if (wt_eqS (we_var 1 rfl (we_gstr gPE ⟨_, rfl, ?_⟩))))
  by_cases hp : word = "people"
  · rw [decide_eq_true hp]
    have e : (!decide (word = ("circle" : Str))) = true := by rw [hp]; decide +kernel
    rw [e] at hc
    exact wss_cons (ws_ret (we_bl (Lets.of hc)))
  · rw [decide_eq_false hp]
    refine wss_nil (wss_cons (ws_ret (we_if (wt_neS (we_var 0 rfl (we_gstr gBE ⟨decide (("beside" : Str) = "beside"), rfl, ?_⟩))))))
    rw [decide_eq_true (rfl : ("beside" : Str) = "beside")]
    exact we_neS (we_var 1 rfl (we_gstr gCI ⟨decide (word = "circle"), rfl, Lets.of hc⟩))
def cLsI (L : Addr) : ConX := fun ds M Φ _ => ∃ (a : Addr) (x y : D), ds = [.ob a, x, y] ∧ M a = some (.slo L []) ∧ Φ .non (mset M a (.slo L [some x, some y]))
theorem ok_ls_init (S : SlC K L lsN) : BodyX P w K mg base "Lists.__init__" s_Lists___init__ ["self", "forms_here", "people"] 3 1 (cLsI L) := by
  intro f cdv A outer s H E' hr ds M Φ Ξ hl hc
  obtain ⟨a, x, y, rfl, hM, hc⟩ := hc
  refine wssx_cons (WS.up (ws_sfld S (we_var 1 rfl (we_var 0 rfl ⟨a, _, 0, rfl, hM, rfl, ?_⟩))))
  refine wssx_cons (WS.up (ws_sfld S (we_var 2 rfl (we_var 0 rfl ⟨a, _, 1, rfl, mset_same, rfl, ?_⟩))))
  rw [mset_mset, show putO 1 y (putO 0 x []) = [some x, some y] from rfl]
  exact wssx_nil hc
end
section
variable {X : Cx} {ρ : Rho} {M : Mp} {Φ : D → Mp → Prop} {e1 e2 : Expr} {p pos : Pos} {k : Nat} {L : Addr}
/-- Lists(e1, e2) -/
theorem we_lists (F : Ksx X.prog X.w X.K X.mg X.base "Lists" L [] k 3 (cLsI L)) (hr : Room (k + 1) X.A)
    (h : WA X ρ M [e1, e2] fun ds M1 => ∃ x y, ds = [x, y] ∧ Φ (.slo L [some x, some y]) M1) (hg : Gl X "Lists" := by rfl)
    (he : starEach [e1, e2] X.env = (false, eval e1 X.env) :: starEach [e2] X.env := by rfl) (hpl : (backTo pos (starEach [e2] X.env)).any (·.1) = false := by rfl) : WE X ρ M (.Call (.Name "Lists" p) [e1, e2] [] pos) Φ :=
  we_makeS F hr (h.imp fun ds M1 ⟨x, y, e, h1⟩ a ha => ⟨by rw [e]; rfl, a, x, y, by rw [e]; rfl, mset_same, rfl, (by rw [mset_mset]; exact ⟨_, M1, les_new ha, .slo mset_same ha, h1⟩)⟩) hg (he := he) (hpl := hpl)
end
section
variable {P : Program} {w : World} {K : PySem.W.Frag} {mg : Str → Option Value} {base : Heap} {C R U V L : Addr}
theorem ls_of {M : Mp} {fs : List Row} {pe : Row} : SloOf M L (LsD L R fs pe) [some (.lst (fs.map (fmR R))), some (fmR R pe)] := ⟨rfl, rfl⟩
abbrev nCopL : List Str := ["self", "how", "names", "word", "many", "people", "form", "some"]
/-- one Form, copied, beside one another -/
def cCopL (L R : Addr) : Con := fun ds M Φ => ∃ (f pe : Row) (nm : D) (word : Str) (n : Int), ds = [LsD L R [f] pe, .str "beside", nm, .str word, .int n] ∧ FmOk f ∧ FmOk pe ∧ BdI n ∧ BdR (mulR n f) ∧ Φ (LsD L R [if word = "circle" then f else mulR n f] (mulR n pe)) M
theorem ok_copL (F : Fx w K mg) (S : SlC K L lsN) (XS : PySem.W.selfFirst K R = true) (gRO : ∃ t, mg "ROWS" = some (.str "rows" t)) (G : ∃ g, Meth K R "__rmul__" g) (KL : Ksx P w K mg base "Lists" L [] 2 3 (cLsI L)) (MU : Mc P w K mg base R "__mul__" [] 6 2 (cMul R)) (F1 : Fc P w K mg base "do_add" [] 1 2 cDoAdd) (F2 : Fc P w K mg base "by_texts" [] 5 1 (cByT R)) :
    BodyOk P w K mg base "Lists.copied" s_Lists_copied nCopL 5 6 (cCopL L R) := by
  intro f' cdv A outer s H E hr ds M Φ hl hc
  obtain ⟨f, pe, nm, word, n, rfl, fo, po, bn, bm, hc⟩ := hc
  have nd : nCopL.Nodup := by decide +kernel
  refine wss_cons (ws_set 5 nd (we_binI io_mul MU G (hr.mono (by omega)) XS (we_sfld S (we_var 0 rfl ⟨_, 1, _, ls_of, rfl, rfl, we_var 4 rfl ⟨_, n, insF, rfl, pe.1, pe.2, n, rfl, po.p, by have := po.l; omega, po.b, po.n, bn, fun rs hs => ⟨⟨R, _, rfl⟩, ?_⟩⟩⟩))))
  have e1 : fmD R rs (pe.2 * n) = fmR R (mulR n pe) := by rw [← mulR_is po.p hs]
  rw [e1]
  refine wss_cons (ws_if (wt_val (we_call F1 (hr.mono (by omega)) (wa_cons (we_var 1 rfl (wa_cons (we_var 3 rfl (wa_nil ⟨rfl, word, rfl, _, rfl, ?_⟩))))))))
  by_cases hci : word = "circle"
  · rw [decide_eq_true hci]
    rw [if_pos hci] at hc
    have hw : word ≠ "rows" := by rw [hci]; decide +kernel
    refine wss_nil (wss_cons (ws_if (wt_ww (ww_or (wt_neS (we_var 3 rfl (we_gstr gRO ⟨decide (word = "rows"), rfl, ?_⟩)))))))
    rw [decide_eq_false hw]
    exact wss_cons (ws_ret (we_lists KL (hr.mono (by omega)) (wa_cons (we_sfld S (we_var 0 rfl ⟨_, 0, _, ls_of, rfl, rfl, wa_cons (we_var 5 rfl (wa_nil ⟨_, _, rfl, Lets.of hc⟩))⟩)))))
  · rw [decide_eq_false hci]
    rw [if_neg hci] at hc
    refine wss_cons (ws_ret (we_lists KL (hr.mono (by omega)) (wa_cons (we_call F2 (hr.mono (by omega)) (wa_cons (we_lc nd (blkOk_by (N := nCopL) (sc := defScope s_Lists_copied) (own := [("form", 6)]) (by decide +kernel)) (fun _ _ _ _ _ => pg_name (i := 6) nd rfl (Or.inl rfl)) (gt_name (by decide)) (fun _ _ _ _ _ => pts_nil) tk_nil (wi_list (we_sfld S (we_var 0 rfl ⟨_, 0, _, ls_of, rfl, rfl, _, .inl rfl, ?_⟩)))))))))
    refine ⟨by show 1 ≤ _; rw [sizeLine_eq]; omega, fun i acc M2 => M2 = M ∧ acc = ([mulR n f].take i).map (fmR R), ⟨rfl, rfl⟩, ?_, ?_⟩
    · rintro i x acc M2 hx ⟨hM2, rfl⟩
      obtain rfl : M = M2 := hM2.symm
      match i, hx with
      | 0, hx =>
        cases hx
        intro s1 H1 C1 cl1 fp1
        refine we_binI io_mul MU G (hr.mono (by omega)) XS (we_var 6 rfl (we_var 4 rfl ⟨_, n, insF, rfl, f.1, f.2, n, rfl, fo.p, by have := fo.l; omega, fo.b, fo.n, bn, fun rs hs => ⟨⟨R, _, rfl⟩, rfl, ?_⟩⟩))
        have e1 : fmD R rs (f.2 * n) = fmR R (mulR n f) := by rw [← mulR_is fo.p hs]
        rw [e1]; rfl
      | i + 1, hx => simp at hx
    · rintro acc M2 ⟨hM2, rfl⟩
      obtain rfl : M = M2 := hM2.symm
      refine wa_nil ⟨rfl, [mulR n f], rfl, by simp, fun g hg => by rw [List.mem_singleton.mp hg]; exact bm, by simp, fun ys hp _ => ?_⟩
      rw [List.perm_singleton.mp hp]
      exact wa_cons (we_var 5 rfl (wa_nil ⟨_, _, rfl, Lets.of hc⟩))
end
end W
namespace W
open PySem PySem.Spec PyProof.Rows L2 DL SX PL SlX
section
variable {P : Program} {w : World} {K : PySem.W.Frag} {mg : Str → Option Value} {base : Heap} {C R U V L : Addr}
abbrev nLsm : List Str := ["one", "other", "names", "word", "some", "here", "there", "mine", "its", "name", "found", "above", "form", "beside"]
def cLsum (R : Addr) : Con := fun ds M Φ => ∃ (f g : Row) (nm : D) (word : Str), ds = [.lst [fmR R f], .lst [fmR R g], nm, .str word] ∧ FmOk f ∧ FmOk g ∧ ∀ rs, IsSum f.1 g.1 1 rs → BdR (rs, f.2 + 1 * g.2) ∧ Φ (.lst [fmR R (rs, f.2 + 1 * g.2)]) M
theorem nmF_one (f : Row) : (nmF [f]).length = f.1.length := by unfold nmF; rw [List.flatMap_cons, List.flatMap_nil, List.append_nil, List.length_map]
theorem ok_lsum (F : Fx w K mg) (XS : PySem.W.selfFirst K R = true) (AF : Mc P w K mg base R "__add__" [] 7 2 (cShF R 1)) (FN : Fc P w K mg base "names_in_forms" [] 3 1 (cNmF R)) (F2 : Fc P w K mg base "by_texts" [] 5 1 (cByT R)) :
    BodyOk P w K mg base "least_sums" s_least_sums nLsm 4 7 (cLsum R) := by
  intro f' cdv A outer s H E hr ds M Φ hl hc
  obtain ⟨f, g, nm, word, rfl, fo, go, hc⟩ := hc
  have nd : nLsm.Nodup := by decide +kernel
  refine wss_cons (ws_asg (we_tup (wa_cons (we_lc2 nd (blkOk_by (N := nLsm) (sc := defScope s_least_sums) (own := [("mine", 7), ("its", 8)]) (by decide +kernel)) (vs1 := [8]) (by decide) (fun _ _ _ _ _ => pg_name (i := 7) nd rfl (Or.inl rfl)) (gt_name (by decide)) (fun _ _ _ _ _ => pg_name (i := 8) nd rfl (Or.inl rfl)) (gt_name (by decide)) (wi_list (we_var 0 rfl ⟨_, .inl rfl, ?_⟩))))))
  refine ⟨fun i acc M2 => M2 = M ∧ ((i = 0 ∧ acc = []) ∨ (i = 1 ∧ ∃ rs, IsSum f.1 g.1 1 rs ∧ acc = [fmR R (rs, f.2 + 1 * g.2)])), ⟨rfl, .inl ⟨rfl, rfl⟩⟩, ?_, ?_⟩
  · rintro i x acc M2 hx ⟨hM2, h0⟩
    obtain rfl : M = M2 := hM2.symm
    match i, hx with
    | i + 1, hx => simp at hx
    | 0, hx =>
    obtain rfl : acc = [] := h0.elim (fun h => h.2) fun h => absurd h.1 (by decide)
    cases hx
    intro s1 H1 C1 cl1 fp1
    refine wi_list (we_var 1 rfl ⟨_, .inl rfl, ?_⟩)
    refine ⟨by show 0 + 1 ≤ _; rw [sizeLine_eq]; omega, fun j acc' M3 => M3 = M ∧ ((j = 0 ∧ acc' = []) ∨ (j = 1 ∧ ∃ rs, IsSum f.1 g.1 1 rs ∧ acc' = [fmR R (rs, f.2 + 1 * g.2)])), ⟨rfl, .inl ⟨rfl, rfl⟩⟩, ?_, ?_⟩
    · rintro j u acc' M3 hu ⟨hM3, h1⟩
      obtain rfl : M = M3 := hM3.symm
      match j, hu with
      | j + 1, hu => simp at hu
      | 0, hu =>
      obtain rfl : acc' = [] := h1.elim (fun h => h.2) fun h => absurd h.1 (by decide)
      cases hu
      intro s2 H2 C2 cl2 fp2
      exact we_binO AF (hr.mono (by omega)) XS (we_var 7 rfl (we_var 8 rfl ⟨_, _, insF, insF, f.1, f.2, g.1, g.2, rfl, fo.p, go.p, fo.l, go.l, go.b, go.n, fun rs hs => ⟨⟨R, _, rfl⟩, rfl, .inr ⟨rfl, rs, hs, rfl⟩⟩⟩))
    · rintro acc' M3 ⟨hM3, h1⟩
      exact ⟨hM3, .inr ⟨rfl, (h1.resolve_left fun h => absurd h.1 (by simp)).2⟩⟩
  rintro acc M2 ⟨hM2, h0⟩
  obtain rfl : M = M2 := hM2.symm
  obtain ⟨rs, hs, rfl⟩ := (h0.resolve_left fun h => absurd h.1 (by simp)).2
  obtain ⟨hb, hc⟩ := hc rs hs
  have lf := nmF_one f
  have lg := nmF_one g
  have l1 := fo.l
  have l2 := go.l
  refine wa_cons (we_call FN (hr.mono (by omega)) (wa_cons (we_var 0 rfl (wa_nil ⟨rfl, [f], rfl, by omega, by simp, ?_⟩))))
  refine wa_cons (we_call FN (hr.mono (by omega)) (wa_cons (we_var 1 rfl (wa_nil ⟨rfl, [g], rfl, by omega, by simp, wa_nil ⟨by rw [sizeLine_eq]; show 3 ≤ _; omega, ?_⟩⟩))))
  refine wg_tup ⟨rfl, rfl, wgs_cons (wg_name 4 (wgs_cons (wg_name 5 (wgs_cons (wg_name 6 (wgs_nil ⟨rfl, ?_⟩) nd)) nd)) nd)⟩
  refine wss_cons (ws_if (wt_ww (ww_or (wt_eqS (we_len (F.bn _ (by decide +kernel)) (we_var 0 rfl ⟨_, lenL, we_int ⟨_, rfl, ?_⟩⟩))))))
  rw [decide_eq_true (show ((([fmR R f] : List D).length : Nat) : Int) = 1 from rfl)]
  refine wss_cons (ws_ret (we_call F2 (hr.mono (by omega)) (wa_cons (we_var 4 rfl (wa_nil ⟨rfl, [(rs, f.2 + 1 * g.2)], rfl, by simp, fun z hz => by rw [List.mem_singleton.mp hz]; exact hb, by simp, fun ys hp _ => ?_⟩)))))
  rw [List.perm_singleton.mp hp]
  exact Lets.of hc
abbrev nJnL : List Str := ["self", "how", "names", "word", "other", "people", "mine", "its", "some"]
def cJnL (L R : Addr) : Con := fun ds M Φ => ∃ (f pe g qe : Row) (nm : D) (word : Str), ds = [LsD L R [f] pe, .str "beside", nm, .str word, LsD L R [g] qe] ∧ word ≠ "circle" ∧ FmOk f ∧ FmOk g ∧ FmOk pe ∧ FmOk qe ∧ ∀ rs rs2, IsSum f.1 g.1 1 rs → IsSum pe.1 qe.1 1 rs2 → BdR (rs, f.2 + 1 * g.2) ∧ Φ (LsD L R [(rs, f.2 + 1 * g.2)] (rs2, pe.2 + 1 * qe.2)) M
theorem ok_jnL (F : Fx w K mg) (S : SlC K L lsN) (XS : PySem.W.selfFirst K R = true) (KL : Ksx P w K mg base "Lists" L [] 2 3 (cLsI L)) (AF : Mc P w K mg base R "__add__" [] 7 2 (cShF R 1)) (F1 : Fc P w K mg base "do_add" [] 1 2 cDoAdd) (F2 : Fc P w K mg base "least_sums" [] 8 4 (cLsum R)) :
    BodyOk P w K mg base "Lists.joined" s_Lists_joined nJnL 5 8 (cJnL L R) := by
  intro f' cdv A outer s H E hr ds M Φ hl hc
  obtain ⟨f, pe, g, qe, nm, word, rfl, hw, fo, go, po, qo, hc⟩ := hc
  have nd : nJnL.Nodup := by decide +kernel
  refine wss_cons (ws_set 5 nd (we_binO AF (hr.mono (by omega)) XS (we_sfld S (we_var 0 rfl ⟨_, 1, _, ls_of, rfl, rfl, we_sfld S (we_var 4 rfl ⟨_, 1, _, ls_of, rfl, rfl, _, _, insF, insF, pe.1, pe.2, qe.1, qe.2, rfl, po.p, qo.p, po.l, qo.l, qo.b, qo.n, fun rs2 hs2 => ⟨⟨R, _, rfl⟩, ?_⟩⟩)⟩))))
  refine wss_cons (ws_if (wt_val (we_call F1 (hr.mono (by omega)) (wa_cons (we_var 1 rfl (wa_cons (we_var 3 rfl (wa_nil ⟨rfl, word, rfl, _, rfl, ?_⟩))))))))
  rw [decide_eq_false hw]
  refine wss_cons (ws_ret (we_lists KL (hr.mono (by omega)) (wa_cons (we_call F2 (hr.mono (by omega)) (wa_cons (we_sfld S (we_var 0 rfl ⟨_, 0, _, ls_of, rfl, rfl, wa_cons (we_sfld S (we_var 4 rfl ⟨_, 0, _, ls_of, rfl, rfl, wa_cons (we_var 2 rfl (wa_cons (we_var 3 rfl (wa_nil ⟨rfl, f, g, nm, word, rfl, fo, go, fun rs hs => ?_⟩))))⟩))⟩)))))))
  obtain ⟨hb, hz⟩ := hc rs rs2 hs hs2
  exact ⟨hb, wa_cons (we_var 5 rfl (wa_nil ⟨_, _, rfl, Lets.of hz⟩))⟩
end
end W
namespace W
open PySem PySem.Spec PyProof.Rows L2 DL SX PL SlX
theorem nk_strs : ∀ zs : List Str, nkDs (zs.map D.str) = some (zs.map NestedKey.text)
  | [] => rfl
  | z :: zs => by
    rw [List.map_cons, List.map_cons]
    show (nkD (.str z)).bind (fun k => (nkDs (zs.map D.str)).map (k :: ·)) = _
    rw [nk_strs zs]; rfl
theorem nk_tupS (zs : List Str) : nkD (.tup (zs.map D.str)) = some (.tup (zs.map NestedKey.text)) := by
  show (nkDs (zs.map D.str)).map NestedKey.tup = _
  rw [nk_strs]; rfl
theorem dp_strs : ∀ zs : List Str, NestedKey.depthAll (zs.map NestedKey.text) = 0
  | [] => rfl
  | z :: zs => by
    rw [List.map_cons]
    show max (NestedKey.depth (.text z)) (NestedKey.depthAll (zs.map NestedKey.text)) = 0
    rw [dp_strs zs]; rfl
theorem dp_tupS (zs : List Str) : (NestedKey.tup (zs.map NestedKey.text)).depth ≤ 8 := by
  show NestedKey.depthAll (zs.map NestedKey.text) + 1 ≤ 8
  rw [dp_strs]; decide
/-- one list of one Form, with its people -/
abbrev Ls1 := Row × Row
abbrev lsD1 (L R : Addr) (x : Ls1) : D := LsD L R [x.1] x.2
def nmK (x : Ls1) : D := .tup ((nmsOf (nmF [x.1])).map D.str)
def byK (L R : Addr) (xs : List Ls1) : List (D × D) := xs.map fun x => (nmK x, .lst [lsD1 L R x])
theorem byK_no {L R : Addr} {xs : List Ls1} {k : NestedKey} (h : ∀ x ∈ xs, nkD (nmK x) ≠ some k) : (byK L R xs).find? (fun q => decide (nkD q.1 = some k)) = none := List.find?_eq_none.mpr fun q hq hd => by
  obtain ⟨x, hx, rfl⟩ := List.mem_map.mp hq
  exact h x hx (of_decide_eq_true hd)
theorem nmK_inj {x y : Ls1} (h : nkD (nmK x) = nkD (nmK y)) : nmsOf (nmF [x.1]) = nmsOf (nmF [y.1]) := by
  unfold nmK at h
  rw [nk_tupS, nk_tupS] at h
  have h := Option.some.inj h
  simp only [NestedKey.tup.injEq] at h
  exact (List.map_inj_right (f := NestedKey.text) fun a b e => by simpa using e).mp h
section
variable {P : Program} {w : World} {K : PySem.W.Frag} {mg : Str → Option Value} {base : Heap} {C R U V L : Addr}
abbrev nByN : List Str := ["rows", "found", "here", "names"]
def cByN (L R : Addr) : Con := fun ds M Φ => ∃ xs : List Ls1, ds = [.lst (xs.map (lsD1 L R))] ∧ xs.length ≤ 10 ∧ (∀ x ∈ xs, x.1.1.length ≤ 20) ∧ (xs.map fun x => nmsOf (nmF [x.1])).Nodup ∧ Φ (.lst (xs.map fun x => .lst [lsD1 L R x])) M
theorem ok_by_names (F : Fx w K mg) (S : SlC K L lsN) (FN : Fc P w K mg base "names_in_forms" [] 3 1 (cNmF R)) : BodyOk P w K mg base "by_names" s_by_names nByN 1 3 (cByN L R) := by
  intro f' cdv A outer s H E hr ds M Φ hl hc
  obtain ⟨xs, rfl, l10, hfw, hn, hc⟩ := hc
  have nd : nByN.Nodup := by decide +kernel
  have u9 : (A.deeper (envOfC "by_names" (defScope s_by_names) s.heap.objs.size f' cdv)).units + 9 < cLine := by have := hr.units; omega
  refine wss_cons (ws_asg (we_dnewN fun q hq => wg_name 1 ?_ nd))
  refine wss_cons (ws_for PassesOwn.never (wi_list (we_var 0 rfl ⟨_, .inl rfl, ?_⟩)))
  refine ⟨fun i ρ' M2 => ∃ o2 o3, ρ' = [some (.lst (xs.map (lsD1 L R))), some (.ob q), o2, o3] ∧ M2 = mset M q (.dN w (byK L R (xs.take i))), ⟨_, _, rfl, rfl⟩, ?_, ?_⟩
  · rintro i x ρ' M2 hx ⟨o2, o3, rfl, rfl⟩
    rw [List.getElem?_map] at hx
    obtain ⟨y, hy, rfl⟩ := Option.map_eq_some_iff.mp hx
    have hym := List.mem_of_getElem? hy
    have lf := nmF_one y.1
    have lf2 := hfw y hym
    have hno : ∀ z ∈ xs.take i, nkD (nmK z) ≠ some (.tup ((nmsOf (nmF [y.1])).map NestedKey.text)) := fun z hz e => by
      have e2 := nmK_inj (x := z) (y := y) (by rw [e]; unfold nmK; rw [nk_tupS])
      obtain ⟨j, hj, ez⟩ := List.mem_iff_getElem.mp hz
      rw [List.length_take] at hj
      rw [List.getElem_take] at ez
      obtain ⟨h1, h2⟩ := List.getElem?_eq_some_iff.mp hy
      have := (List.getElem_inj (xs := xs.map fun x => nmsOf (nmF [x.1])) (i := j) (j := i) (h₀ := by rw [List.length_map]; omega) (h₁ := by rw [List.length_map]; exact h1) hn).mp (by rw [List.getElem_map, List.getElem_map, ez, h2, e2])
      omega
    refine wg_name 2 ?_ nd
    refine wss_cons (ws_set 3 nd (we_tupleOf (F.bn _ (by decide +kernel)) (we_call FN (hr.mono (by omega)) (wa_cons (we_sfld S (we_var 2 rfl ⟨_, 0, _, ls_of, rfl, rfl, wa_nil ⟨rfl, [y.1], rfl, by omega, by simp, _, .inl rfl, ?_⟩⟩))))))
    refine wss_cons (ws_asg (we_lst (wa_star (we_dgetN u9 (we_var 1 rfl ⟨q, _, rfl, mset_same, we_var 3 rfl (we_lst (wa_nil ⟨Nat.zero_le _, byK L R (xs.take i), _, _, rfl, nk_tupS _, dp_tupS _, mset_same, [], .inl ?_, wa_cons (we_var 2 rfl (wa_nil fun ys e => ⟨by rw [e]; show 1 ≤ _; rw [sizeLine_eq]; omega, ?_⟩))⟩))⟩)))))
    · show LstOf _ ((valDN _ _).getD (.lst [])) []
      unfold valDN
      rw [byK_no hno]; rfl
    subst e
    refine wg_dputN u9 (we_var 1 rfl (we_var 3 rfl ⟨q, byK L R (xs.take i), _, _, rfl, rfl, nk_tupS _, dp_tupS _, mset_same, ?_, ?_⟩))
    · unfold byK
      rw [List.length_map, List.length_take, sizeLine_eq]; omega
    rw [mset_mset]
    have ep : putDN (byK L R (xs.take i)) (.tup ((nmsOf (nmF [y.1])).map D.str)) (.tup ((nmsOf (nmF [y.1])).map NestedKey.text)) (.lst ([] ++ [lsD1 L R y])) = byK L R (xs.take (i + 1)) := by
      unfold putDN
      rw [if_neg, take_snoc hy]
      · unfold byK; rw [List.map_append]; rfl
      · intro h
        obtain ⟨z, hz, hd⟩ := List.any_eq_true.mp h
        obtain ⟨x, hx, rfl⟩ := List.mem_map.mp hz
        exact hno x hx (of_decide_eq_true hd)
    exact wss_nil ⟨_, _, rfl, by rw [← ep]; rfl⟩
  · rintro ρ' M2 ⟨o2, o3, rfl, rfl⟩
    rw [List.length_map, List.take_length]
    refine wss_cons (ws_ret (we_listValsN (F.bn _ (by decide +kernel)) (we_var 1 rfl ⟨q, _, rfl, mset_same, ?_⟩)))
    have ev : (byK L R xs).map (·.2) = xs.map fun x => D.lst [lsD1 L R x] := by unfold byK; rw [List.map_map]; rfl
    rw [ev]
    exact ⟨_, M, les_new hq, .same _, hc⟩
end
end W
namespace W
open PySem PySem.Spec PyProof.Rows L2 DL SX PL SlX
section
variable {P : Program} {w : World} {K : PySem.W.Frag} {mg : Str → Option Value} {base : Heap} {C R U V L : Addr}
abbrev mkR (a b : Str) : Row := ([((a, b), 1)], 0)
def cMkF (R : Addr) : Con := fun ds M Φ => ∃ (a b : Str), ds = [.str a, .str b] ∧ Pts (mkR a b).1 ∧ Φ (fmR R (mkR a b)) M
theorem ok_mark_form (KF : Kc P w K mg base "Form" R [] 4 3 (cFm R)) : BodyOk P w K mg base "mark_form" s_mark_form ["name", "word"] 2 5 (cMkF R) := by
  intro f' cdv A outer s H E hr ds M Φ hl hc
  obtain ⟨a, b, rfl, hp, hc⟩ := hc
  exact wss_cons (ws_ret (we_form KF (hr.mono (by omega)) (wa_cons (we_tupF (wa_cons (we_tup (wa_cons (we_tup (wa_cons (we_var 0 rfl (wa_cons (we_var 1 rfl (wa_nil ⟨by rw [sizeLine_eq]; show 2 ≤ _; omega, wa_cons (we_int (wa_nil ⟨by rw [sizeLine_eq]; show 2 ≤ _; omega, wa_nil ⟨by rw [sizeLine_eq]; show 1 ≤ _; omega, wa_cons (we_int (wa_nil ⟨_, 0, rfl, hp, by simp, Lets.of hc⟩))⟩⟩))⟩)))))))))))))
end
end W
namespace W
open PySem PySem.Spec PyProof.Rows L2 DL SX PL SlX
abbrev tX : PL.T := .name [120]
abbrev tC : PL.T := .cop false 2 .one
abbrev tR : PL.T := .row false [tX, tC]
abbrev xR (z : Str) (n : Int) : Row := ([(("x", z), 1)], n)
abbrev cR (n : Int) : Row := ([], n)
def lisL : List Str := ["people", "circle", "strangers", "rows"]
theorem lis_words {z : Str} (h : z ∈ lisL) : z ∈ wordsL := by
  simp only [lisL, wordsL, List.mem_cons, List.not_mem_nil, or_false] at h ⊢
  rcases h with h | h | h | h <;> simp [h]
theorem bdi_small {n : Int} (h : n.natAbs ≤ 100) : BdI n := Nat.le_trans h (by decide)
theorem bdi_1 : BdI 1 := bdi_small (by decide)
theorem pts_nilF : Pts [] := ⟨fun p h => absurd h List.not_mem_nil, .nil⟩
theorem fm_x : fmN "x" = true := by decide +kernel
theorem pts_x {z : Str} (h : z ∈ wordsL) : Pts (xR z 0).1 := ⟨fun p hp => by rw [List.mem_singleton.mp hp]; exact ⟨fm_x, h, by show (1 : Int) ≠ 0; decide⟩, List.pairwise_singleton _ _⟩
theorem fo_c {n : Int} (h : n.natAbs ≤ 100) : FmOk (cR n) := ⟨pts_nilF, Nat.zero_le _, fun p h => absurd h List.not_mem_nil, bdi_small h, ⟨fun p h => absurd h List.not_mem_nil, Nat.zero_le _, bdi_small h⟩⟩
theorem wd_len {z : Str} (h : z ∈ wordsL) : z.length ≤ 9 := (words_all h).2
theorem fo_x {z : Str} (hz : z ∈ wordsL) {n : Int} (h : n.natAbs ≤ 100) : FmOk (xR z n) := ⟨pts_x hz, by show 1 ≤ 20; decide, fun p hp => by rw [List.mem_singleton.mp hp]; exact bdi_1, bdi_small h, ⟨fun p hp => by rw [List.mem_singleton.mp hp]; exact ⟨⟨by show ("x" : Str).length ≤ 8; decide +kernel, wd_len hz⟩, bdi_1⟩, by show 1 ≤ 20; decide, bdi_small h⟩⟩
theorem co_nil (m : Mk) : co [] m = 0 := rfl
theorem sum_left {ps rs : List Pt} {t : Int} (h : Pts ps) (s : IsSum ps [] t rs) : rs = ps :=
  s.uni ⟨h.up, fun p hp => (h.ok p hp).2.2, fun m => by rw [co_nil, Int.mul_zero, Int.add_zero]⟩
/-- the Form of a part of x + [2 1] -/
def fmT (z : Str) : PL.T → Row
  | .name _ => xR z 0
  | .cop _ _ _ => if z = "circle" then cR 1 else cR 2
  | .row _ _ => if z = "circle" then xR z 0 else xR z 2
  | .one => cR 1
def peT : PL.T → Row
  | .name _ => xR "people" 0
  | .cop _ _ _ => cR 2
  | .row _ _ => xR "people" 2
  | .one => cR 1
def trees : List PL.T := [.one, tX, tC, tR]
theorem fo_T {z : Str} (hz : z ∈ wordsL) (t : PL.T) : FmOk (fmT z t) := by
  cases t with
  | one => exact fo_c (by decide)
  | name x => exact fo_x hz (by decide)
  | cop s n u => show FmOk (if z = "circle" then cR 1 else cR 2); split; exact fo_c (by decide); exact fo_c (by decide)
  | row s ts => show FmOk (if z = "circle" then xR z 0 else xR z 2); split; exact fo_x hz (by decide); exact fo_x hz (by decide)
theorem fo_P (t : PL.T) : FmOk (peT t) := by
  have hp : ("people" : Str) ∈ wordsL := by decide +kernel
  cases t with
  | one => exact fo_c (by decide)
  | name x => exact fo_x hp (by decide)
  | cop s n u => exact fo_c (by decide)
  | row s ts => exact fo_x hp (by decide)
theorem mul_cR (n k : Int) : mulR n (cR k) = cR (k * n) := by
  unfold mulR
  by_cases h : n = 0
  · rw [if_pos h]
  · rw [if_neg h]; rfl
theorem mul_one (f : Row) : mulR 1 f = f := by
  unfold mulR
  rw [if_neg (by decide)]
  obtain ⟨ps, n⟩ := f
  show (ps.map fun p => (p.1, p.2 * 1), n * 1) = (ps, n)
  rw [Int.mul_one]
  congr 1
  conv => rhs; rw [← List.map_id ps]
  exact List.map_congr_left fun p _ => by rw [Int.mul_one]; rfl
theorem good_x : Good tX := by
  refine ⟨by decide, by decide, fun c hc => ?_⟩
  rw [List.mem_singleton.mp hc]; decide
theorem good_c : Good tC := ⟨by decide, by decide, trivial⟩
theorem good_r : Good tR := ⟨by decide, good_x, good_c, trivial⟩
theorem txt_r : tS (txt tR) = .str "(x + [2 1])" := congrArg D.str (by decide +kernel)
theorem nm_r : nmT tR = [("x" : Str)] := by decide +kernel
end W
namespace L2
open PySem PySem.Spec PyProof.Rows PySem.SeqAt GQ
open MeetsSeq MeetsSeq2 MeetsSeq3 SeqRoads2
open AutoSeq1 (wpAny_loadPart')
section
variable {prog : Program} {w : World} {A : Around} {R : Result → Shared → Prop}
/-- at each turn the list is read anew: N items -/
def ListC (prog : Program) (w : World) (A : Around) (E : Value → Shared → Prop) (l : Addr) (x : Value) (N : Nat) (I : Nat → Shared → Prop) (J : Shared → Prop) : Prop :=
  ∀ i s, I i s → ∃ (items : Array Value) (n : Nat) (dd : Option Addr) (sl : Array (Option Value)), s.heap.get? l = some { cls := .type "list", dict := dd, data := .seq items n, slots := sl } ∧ items.size = N ∧
    ∀ (h1 : i < items.size), wpAny (model prog w) A.in1 (eqBool items[i] x) (fun r s' => (r = true ∧ J s') ∨ (r = false ∧ I (i + 1) s')) E s
theorem in_loopG (l : Addr) (x : Value) (N : Nat) (I : Nat → Shared → Prop) (J : Shared → Prop) (hl : ListC prog w A (fun e s' => R (.error e) s') l x N I J)
    (fin0 : ∀ s, I N s → R (.ok (.ret (.bool false))) s) (fin1 : ∀ s, J s → R (.ok (.ret (.bool true))) s) (k : Nat) :
    ∀ i : Nat, N - i = k → i ≤ N → ∀ s, I i s →
      wpAny (model prog w) A.in1 (Builtin.«list.__contains__.loop» ⟨[.ref l, x, rawInt i], []⟩) (FinOf prog w A R) (fun e s' => R (.error e) s') s := by
  induction k with
  | zero =>
    intro i hk hi s h
    obtain ⟨items, n, dd, sl, hl1, hs1, _⟩ := hl _ _ h
    have hi' : i = N := by omega
    have hR : R (.ok (.ret (.bool false))) s := fin0 s (hi' ▸ h)
    obtain ⟨hp, g, d, tk, os⟩ := s
    wp_walk using wpAny_loadPart' hl1
    have hi1 : items[((i : Nat) : Int).toNat]? = none := by simp; omega
    rw [hi1]
    wp_walk
    exact hR
  | succ k ih =>
    intro i hk hi s h
    obtain ⟨items, n, dd, sl, hl1, hs1, turn⟩ := hl _ _ h
    have hlt : i < items.size := by omega
    have ht := turn hlt
    obtain ⟨hp, g, d, tk, os⟩ := s
    wp_walk using wpAny_loadPart' hl1
    have hi1 : items[((i : Nat) : Int).toNat]? = some items[i] := by simp [hlt]
    have hc : ((i : Int) + 1) = ((i + 1 : Nat) : Int) := by omega
    rw [hi1]
    refine wpAny_bind (wpAny_mono ht (fun r s2 h2 => ?_) fun _ _ x => x)
    rcases h2 with ⟨hr, h2⟩ | ⟨hr, h2⟩
    · subst hr
      have := fin1 s2 h2
      obtain ⟨hp2, g2, d2, tk2, os2⟩ := s2
      wp_walk
      exact this
    · subst hr
      have hrec := ih (i + 1) (by omega) (by omega) s2 h2
      obtain ⟨hp2, g2, d2, tk2, os2⟩ := s2
      wp_walk
      rw [hc]
      exact ⟨plainId_quiet plain_contains_loop _, codeAny_builtin entry_contains_loop (by
        rw [Around.under_plainId plain_contains_loop _]
        exact hrec)⟩
theorem list_inG (l : Addr) (x : Value) (N : Nat) (I : Nat → Shared → Prop) (J : Shared → Prop) (hl : ListC prog w A (fun e s' => R (.error e) s') l x N I J)
    (fin0 : ∀ s, I N s → R (.ok (.ret (.bool false))) s) (fin1 : ∀ s, J s → R (.ok (.ret (.bool true))) s) {s : Shared} (h : I 0 s) :
    wpAny (model prog w) A.in1 (Builtin.«list.__contains__» ⟨[.ref l, x], []⟩) (FinOf prog w A R) (fun e s' => R (.error e) s') s := by
  obtain ⟨items, n, dd, sl, hl1, hs1, _⟩ := hl _ _ h
  have hrec := in_loopG (A := A) (R := R) l x N I J hl fin0 fin1 _ 0 rfl (Nat.zero_le _) s h
  obtain ⟨hp, g, d, tk, os⟩ := s
  wp_walk using wpAny_loadPart' hl1
  exact ⟨plainId_quiet plain_contains_loop _, codeAny_builtin entry_contains_loop (by
    rw [Around.under_plainId plain_contains_loop _]
    exact hrec)⟩
end
end L2
namespace DL
open PySem PySem.Spec PyProof.Rows L2 GQ
section
variable {X : Cx} {ρ : Rho} {M : Mp} {Φ : D → Mp → Prop} {a b : Expr} {pos : Pos} {C : Addr} {k : Nat} {c : Con}
/-- in a list of one -/
def rInU (X : Cx) (C : Addr) (c : Con) : R2 := fun v u H Q => ∃ p l q dx dy fs gs, v = V.ref p ∧ u = V.ref l ∧ SqL X.K H l [V.ref q] ∧ H p = some (.ins C dx fs) ∧ H q = some (.ins C dy gs) ∧ spD X.K 2 c [V.ref q, V.ref p] H (fun z H' => ∃ b, z = .bl b ∧ SqL X.K H' l [V.ref q] ∧ Q (.bl b) H') E0 ∧ (q = p → Q (.bl true) H)
theorem op_inU (F : Mc X.prog X.w X.K X.mg X.base C "__eq__" [] k 2 c) (hr : Room (k + 1) X.A) : OpR X (compareOp .In) (rInU X C c) := by
  intro pins s σ H v u v' u' Q I rv ru hq
  obtain ⟨p, l, q, dx, dy, fs, gs, rfl, rfl, hl, ha, hb, hq, qt⟩ := hq
  cases rv
  cases ru
  obtain ⟨f, fd, ps, dvs, ds, F', hme, hbd, hd, hdd⟩ := F.ex
  have d0 : ds = [] := by
    have r0 : Reps X.K (fun _ => none) (fun _ => False) (fun _ => none) dvs [] := hdd _ _ _
    cases r0
    cases hd
    rfl
  subst d0
  have sb : Sub X k X.A.in1 := ⟨hr.in1, rfl⟩
  have lst : ∀ {H' : Hp} {s' : Shared}, Inv X pins σ H' s' → SqL X.K H' l [V.ref q] → ∃ (items : Array Value) (n : Nat) (dd : Option Addr) (sl : Array (Option Value)), s'.heap.get? l = some { cls := .type "list", dict := dd, data := .seq items n, slots := sl } ∧ items.size = 1 ∧ items[0]? = some (.ref q) := fun {H' s'} J h => by
    obtain ⟨its, rv, ⟨o, n, ho, hcl, hd, hdat⟩, hz⟩ := J.list h
    have e : its = [Value.ref q] := by
      cases rv with
      | cons r t => cases t; cases r; rfl
    subst e
    obtain ⟨cls, dd, data, sl⟩ := o
    simp only at hcl hd hdat
    subst hcl hdat
    exact ⟨_, n, dd, sl, ho, rfl, rfl⟩
  let IL : Nat → Shared → Prop := fun i s' => (i = 0 ∧ Inv X pins σ H s') ∨ (i = 1 ∧ ∃ H', Inv X pins σ H' s' ∧ SqL X.K H' l [V.ref q] ∧ Q (.bl false) H')
  let JL : Shared → Prop := fun s' => ∃ H', Inv X pins σ H' s' ∧ Q (.bl true) H'
  have LC : ListC X.prog X.w X.A X.xe l (.ref p) 1 IL JL := by
    rintro i s' (⟨rfl, J⟩ | ⟨rfl, H', J, hs', _⟩)
    · obtain ⟨items, n, dd, sl, h1, h2, h3⟩ := lst J hl
      refine ⟨items, n, dd, sl, h1, h2, fun h0 => ?_⟩
      have e0 : items[0] = Value.ref q := by
        rw [Array.getElem?_eq_getElem h0] at h3
        exact Option.some.inj h3
      rw [e0]
      by_cases hpq : q = p
      · subst hpq
        exact SeqAt.EqAt.same (A := X.A.in1) (s := s') (.ref q) X.prog X.w X.xe _ (.inl ⟨rfl, H, J, qt rfl⟩)
      · refine eqBool_refG hpq ?_
        obtain ⟨mA, G, _⟩ := ins_get J.hok hb
        obtain ⟨mB, G', _⟩ := ins_get J.hok ha
        obtain ⟨od, G, _⟩ := G.look
        obtain ⟨od', G', _⟩ := G'.look
        obtain ⟨m, hF⟩ := J.fr
        refine PySem.W.cmp_K (op := .Eq) (tb := .ref C) sb.room.units0 hF J.ok.mod.kin G G'.type (by simp [PySem.W.notFirst]) hme.at_ hme.fn ?_
        have e0 : Env0 X.prog X.w X.K X.mg X.base X.A.in1 X.stack s' H := by
          have e := J.env0
          exact ⟨by rw [sb.fr]; exact e.frames, e.mod, e.bs, e.bsz, e.funs, e.frf, e.hok, e.bare⟩
        have hl2 := F'.len _ _ _ _ hq
        have r2 : Vals [V.ref q, V.ref p] [Value.ref q, Value.ref p] := .cons rfl (.cons rfl .nil)
        refine wpAny_call (codeAny_mono (F'.run X.A.in1 X.stack s' H ⟨[.ref q, .ref p], []⟩ [.ref q, .ref p] [.ref q, .ref p] _ E0 sb.room e0 (by
          have := hbd s' [.ref q, .ref p] J.kIn (by simpa using hl2)
          simpa using this) r2 hq) fun r s2 hq => ?_)
        cases r with
        | error e => exact (pass0 pins σ H s' e s2 J hq)
        | ok fl =>
          cases fl with
          | ret w =>
            obtain ⟨z, H', I', rz, bb, ez, sl', qz⟩ := J.after hq
            subst ez
            cases rz
            refine ⟨bb, rfl, ?_⟩
            cases bb with
            | true => exact .inl ⟨rfl, H', I', qz⟩
            | false => exact .inr ⟨rfl, .inr ⟨rfl, H', I', sl', qz⟩⟩
          | next => exact False.elim hq
          | brk => exact False.elim hq
          | cont => exact False.elim hq
    · obtain ⟨items, n, dd, sl, h1, h2, h3⟩ := lst J hs'
      exact ⟨items, n, dd, sl, h1, h2, fun h0 => absurd h0 (by omega)⟩
  obtain ⟨items, n, dd, sl, h1, h2, _⟩ := lst I hl
  show wpAny _ X.A (do return Value.bool (← contains (.ref l) (.ref p))) _ _ s
  have hT : s.TypeIs (.ref l) "list" := ⟨_, h1, rfl⟩
  refine wpAny_bind (wpAny_contains_slot hT PySem.F.slot_list_contains (wpAny_mono (call_meetsIn (Q := fun v s' => ∃ b, v = .bool b ∧ ∃ H', Inv X pins σ H' s' ∧ Q (.bl b) H') PySem.F.slot_list_contains hT PySem.F.entry_list_contains (PySem.F.args_list_contains_2 _ _)
    (S := fun A' R s' => A' = X.A ∧ IL 0 s' ∧ (∀ s2, IL 1 s2 → R (.ok (.ret (.bool false))) s2) ∧ (∀ s2, JL s2 → R (.ok (.ret (.bool true))) s2) ∧ ∀ e s2, X.xe e s2 → R (.error e) s2) (fun A' R s' hS => ?_) ⟨rfl, .inl ⟨rfl, I⟩, fun s2 h => ?_, fun s2 h => ?_, fun e s2 h => h⟩) (fun v s' hv => ?_) fun _ _ e => e))
  · obtain ⟨rfl, h0, hf, ht, he⟩ := hS
    exact list_inG (A := X.A) (R := R) l (.ref p) 1 IL JL (fun i s2 hi => by
      obtain ⟨items, n, dd, sl, h1, h2, h3⟩ := LC i s2 hi
      exact ⟨items, n, dd, sl, h1, h2, fun h4 => wpAny_mono (h3 h4) (fun _ _ x => x) fun e s3 x => he e s3 x⟩) hf ht h0
  · rcases h with ⟨h, _⟩ | ⟨_, H', J, _, hq⟩
    · exact absurd h (by omega)
    · exact ⟨false, rfl, H', J, hq⟩
  · obtain ⟨H', J, hq⟩ := h
    exact ⟨true, rfl, H', J, hq⟩
  · obtain ⟨b, rfl, H', J, hq⟩ := hv
    exact wpAny_truthy_bool (wpAny_pure ⟨.bl b, H', J, rfl, hq⟩)
theorem rd_inU {x y : D} (h : ∃ d fs gs, (y = .lst [d] ∨ y = .rol [d]) ∧ InsOf M C x fs ∧ InsOf M C d gs ∧ (c [d, x] M fun z M3 => ∃ b, z = .bl b ∧ Φ (.bl b) M3) ∧ ((∀ Z v H, Rep X.K M Z H v x → Rep X.K M Z H v d → False) ∨ Φ (.bl true) M)) : RD X.K (rInU X C c) x y M Φ := fun Z v u H Q w r1 r2 k => by
  obtain ⟨d, fs, gs, hy, h1, h2, h, hs⟩ := h
  obtain ⟨p, dx, vs, rfl, hp, _⟩ := r1.asIns w h1
  obtain ⟨l, us, rfl, hl, rs⟩ := r2.lstKeep hy
  cases rs with
  | cons rq t =>
    cases t
    obtain ⟨q, dy, ws, rfl, hq, _⟩ := rq.asIns w h2
    refine ⟨p, l, q, dx, dy, vs, ws, rfl, rfl, hl _ _ _ ExI.refl, hp, hq, ⟨[d, x], M, Z, _, rfl, .cons rq (.cons r1 .nil), w, h, fun z e H' M' ex w' r' hz => ?_⟩, fun e => ?_⟩
    · obtain ⟨b, rfl, hz⟩ := hz
      cases r'
      exact ⟨b, rfl, hl _ _ _ ex.i, k _ _ H' M' ex w' (.bl _) hz⟩
    · subst e
      rcases hs with hs | hs
      · exact (hs _ _ _ r1 rq).elim
      · exact k.now w (.bl _) hs
/-- x in [y], by an own == -/
theorem we_inU (F : Mc X.prog X.w X.K X.mg X.base C "__eq__" [] k 2 c) (hr : Room (k + 1) X.A) (h : WE X ρ M a fun x M1 => WE X ρ M1 b fun y M2 => ∃ d fs gs, (y = .lst [d] ∨ y = .rol [d]) ∧ InsOf M2 C x fs ∧ InsOf M2 C d gs ∧ (c [d, x] M2 fun z M3 => ∃ b, z = .bl b ∧ Φ (.bl b) M3) ∧ ((∀ Z v H, Rep X.K M2 Z H v x → Rep X.K M2 Z H v d → False) ∨ Φ (.bl true) M2)) (hm : behindInMarks .In b = false := by rfl) : WE X ρ M (.Compare a [.In] [b] pos) Φ :=
  we_cmp (op_inU F hr) hm (h.imp fun _ _ h => h.imp fun _ _ h => rd_inU h)
end
end DL
namespace DL
open PySem PySem.Spec PyProof.Rows L2
section
variable {X : Cx} {ρ : Rho} {M : Mp} {elt tg iter tg1 iter1 : Expr} {pos : Pos} {scope : Scope}
/-- y = [elt for x in iter for y in iter1] -/
theorem ws_setLc2 (i : Nat) {y : Str} {py spos : Pos} {own : List (Str × Nat)} {vs1 : List Nat} {g g1 : TG} {G G1 : D → Rho → (Rho → Prop) → Prop} {Ψ : DE} (hN : X.N.Nodup) (ok : BlkOk X.N X.env.scope scope own) (hv : ∀ i ∈ vs1, i ∈ own.map (·.2))
    (pg : ∀ (s : Shared) (H : Hp) (C : Addr) (cl : List (Str × Addr)) (fp : List Addr), PG (X.blk s H scope (compEnvC scope cl C X.env) fp) tg g) (hg : GT X.K g (own.map (·.2)) G)
    (pg1 : ∀ (s : Shared) (H : Hp) (C : Addr) (cl : List (Str × Addr)) (fp : List Addr), PG (X.blk s H scope (compEnvC scope cl C X.env) fp) tg1 g1) (hg1 : GT X.K g1 vs1 G1)
    (h : WI X ρ M tg iter (Lc2 X scope ρ (own.map (·.2)) vs1 G G1 tg1 iter1 elt fun d M1 => Ψ.nx (ρ.set i (some d)) M1))
    (hsw : swapsWith (.ListComp elt [⟨tg, iter, [], 0⟩, ⟨tg1, iter1, [], 0⟩] scope pos) (some (.Name y py)) spos.line X.env = pure true) (hy : X.N[i]? = some y := by rfl) (hyl : X.env.scope.names.lookup y = some .local := by rfl)
    (hc : X.calm = true := by rfl) (hs : ∀ x, foldedSetIterable iter X.env x = pure x := by intro _; rfl) (hs1 : ∀ env x, foldedSetIterable iter1 env x = pure x := by intro _ _; rfl) : WS X ρ M (.Assign [.Name y py] (.ListComp elt [⟨tg, iter, [], 0⟩, ⟨tg1, iter1, [], 0⟩] scope pos) spos) Ψ := .mk fun σ H E en w k =>
  sOf (ps_setLc2 hc hN hy hyl hsw pi_sem ok hv pg (fun _ _ _ _ _ => pts_nil) (fun s H0 C cl fp => ⟨fun pins s' σ' H' Q' I q => q s H0 C cl fp pins s' I⟩) pg1 (fun _ _ _ _ _ => pts_nil) (fun s H0 C cl fp => ⟨fun pins s' σ' H' Q' I q => q s H0 C cl fp pins s' I⟩) hs hs1) (lc2_run hg hg1 h en w fun v d H' M' x w' r z => k.nx _ _ H' M' x w' ((en.mono x).set r i) z)
end
end DL
namespace W
open PySem PySem.Spec PyProof.Rows L2 DL SX PL SlX
theorem insN {M : Mp} {C : Addr} {t : PL.T} : InsOf M C (planN C t) (fldsN C t) := by rw [planN_ins]; exact ⟨rfl, rfl⟩
section
variable {P : Program} {w : World} {K : PySem.W.Frag} {mg : Str → Option Value} {base : Heap} {C R U V L : Addr}
def cGetN (C : Addr) (g : PL.T → D) : Con := fun ds M Φ => ∃ t, ds = [planN C t] ∧ Φ (g t) M
theorem ok_word_n (X : Px K mg C) : BodyOk P w K mg base "Plan.word" s_Plan_word ["self"] 1 0 (cGetN C fun t => .str (wordT t)) := by
  intro f cdv A outer s H E hr ds M Φ hl hc
  obtain ⟨t, rfl, hc⟩ := hc
  exact wss_cons (ws_ret (we_fld (C := C) (we_var 0 rfl ⟨_, _, insN, X.cl, X.na _ (by decide +kernel), lk_word, Lets.of hc⟩)))
theorem ok_text_n (X : Px K mg C) : BodyOk P w K mg base "Plan.text" s_Plan_text ["self"] 1 0 (cGetN C fun t => tS (txt t)) := by
  intro f cdv A outer s H E hr ds M Φ hl hc
  obtain ⟨t, rfl, hc⟩ := hc
  exact wss_cons (ws_ret (we_fld (C := C) (we_var 0 rfl ⟨_, _, insN, X.cl, X.na _ (by decide +kernel), lk_text, Lets.of hc⟩)))
theorem ok_names_g (X : Px K mg C) : BodyOk P w K mg base "Plan.names" s_Plan_names ["self"] 1 0 (cGetN C fun t => .tup ((nmT t).map D.str)) := by
  intro f cdv A outer s H E hr ds M Φ hl hc
  obtain ⟨t, rfl, hc⟩ := hc
  exact wss_cons (ws_ret (we_fld (C := C) (we_var 0 rfl ⟨_, _, insN, X.cl, X.na _ (by decide +kernel), lk_names, Lets.of hc⟩)))
theorem tS_x : tS (txt tX) = .str "x" := congrArg D.str (by decide +kernel)
def cPeF (C R : Addr) : Con := fun ds M Φ => ∃ t : PL.T, ds = [planN C t] ∧ (t = .one ∨ t = tX) ∧ Φ (fmR R (peT t)) M
theorem ok_people_form (gNA : ∃ t, mg "NAME" = some (.str "name" t)) (gPE : ∃ t, mg "PEOPLE" = some (.str "people" t)) (Pw : Pc P w K mg base C "word" 1 (cGetN C fun t => .str (wordT t))) (Pt : Pc P w K mg base C "text" 1 (cGetN C fun t => tS (txt t))) (FM : Fc P w K mg base "mark_form" [] 6 2 (cMkF R)) (KF : Kc P w K mg base "Form" R [] 4 3 (cFm R)) :
    BodyOk P w K mg base "people_form" s_people_form ["plan"] 1 6 (cPeF C R) := by
  intro f' cdv A outer s H E hr ds M Φ hl hc
  obtain ⟨t, rfl, ht, hc⟩ := hc
  rcases ht with rfl | rfl
  · refine wss_cons (ws_ret (we_if (wt_eqS (we_prop Pw (hr.mono (by omega)) (we_var 0 rfl ⟨_, insN, _, rfl, we_gstr gNA ⟨decide (wordT PL.T.one = "name"), rfl, ?_⟩⟩)))))
    rw [show decide (wordT PL.T.one = "name") = false by decide +kernel]
    exact we_form KF (hr.mono (by omega)) (wa_cons (we_tupF (wa_nil ⟨Nat.zero_le _, wa_cons (we_int (wa_nil ⟨[], 1, rfl, pts_nilF, Nat.zero_le _, Lets.of hc⟩))⟩)))
  · refine wss_cons (ws_ret (we_if (wt_eqS (we_prop Pw (hr.mono (by omega)) (we_var 0 rfl ⟨_, insN, _, rfl, we_gstr gNA ⟨decide (wordT tX = "name"), rfl, ?_⟩⟩)))))
    rw [show decide (wordT tX = "name") = true by decide +kernel]
    exact we_call FM (hr.mono (by omega)) (wa_cons (we_prop Pt (hr.mono (by omega)) (we_var 0 rfl ⟨_, insN, _, rfl, wa_cons (we_gstr gPE (wa_nil ⟨rfl, "x", "people", congrArg (fun d => [d, D.str "people"]) tS_x, pts_x (by decide +kernel), Lets.of hc⟩))⟩)))
abbrev nGr : List Str := ["rows", "plan", "word", "people", "here", "some", "form", "unlike"]
abbrev scGr : Scope := { kind := .function, names := [(".0", .local), ("here", .cell), ("all", .globalImplicit), ("unlike", .free)], isGenerator := false, isCoroutine := false }
def cGr (C L R : Addr) : Con := fun ds M Φ => ∃ (x0 : Ls1) (r : List Ls1) (t : PL.T) (word : Str) (nw : Row → Row → Bool) (g pe : Row), ds = [.lst ((x0 :: r).map (lsD1 L R)), planN C t, .str word] ∧ word ≠ "rows" ∧ r.length ≤ 1 ∧ (∀ x ∈ x0 :: r, FmOk x.1 ∧ FmOk x.2) ∧
  (((x0 :: r).map (·.1)).map T).Nodup ∧ (∀ f ∈ (x0 :: r).map (·.1), ∀ g ∈ (x0 :: r).map (·.1), ∀ rs, IsSum g.1 f.1 (-1) rs → nwB f g rs (nmT t) word = nw f g) ∧ (∀ ys : List Row, ys.Perm ((x0 :: r).map (·.1)) → sortedS (ys.map T) = true → prF nw ys = [g]) ∧ g ∈ (x0 :: r).map (·.1) ∧
  (r = [] → pe = x0.2) ∧ (∀ y rs, r = [y] → IsSum x0.2.1 y.2.1 1 rs → pe = (rs, x0.2.2 + 1 * y.2.2)) ∧ Φ (LsD L R [g] pe) M
theorem ok_greatest (F : Fx w K mg) (gA : mg "any" = none) (S : SlC K L lsN) (XS : PySem.W.selfFirst K R = true) (KL : Ksx P w K mg base "Lists" L [] 2 3 (cLsI L)) (AF : Mc P w K mg base R "__add__" [] 7 2 (cShF R 1)) (EQ : Mc P w K mg base R "__eq__" [] 3 2 (cFmEq R)) (Pn : Pc P w K mg base C "names" 1 (cGetN C fun t => .tup ((nmT t).map D.str))) (FP : Fc P w K mg base "pruned" [] 9 3 (cPrn R)) :
    BodyOk P w K mg base "greatest_of" s_greatest_of nGr 3 9 (cGr C L R) := by
  intro f' cdv A outer s H E hr ds M Φ hl hc
  obtain ⟨x0, r, t, word, nw, g, pe, rfl, hw, hr1, hok, hnd, hnw, hpr, hg, hp0, hp1, hc⟩ := hc
  have nd : nGr.Nodup := by decide +kernel
  have o0 := hok x0 List.mem_cons_self
  have l2 : (x0 :: r).length ≤ 2 := by rw [List.length_cons]; omega
  refine wss_cons (ws_set 3 nd (we_sfld S (we_ix (we_var 0 rfl (we_int ⟨((0 : Nat) : Int), _, rfl, ixL (atI_nat (j := 0) rfl), ⟨_, 1, _, ls_of, rfl, rfl, ?_⟩⟩)))))
  refine wss_cons (ws_for PassesOwn.never (wi_list (we_slice (we_var 0 rfl (we_int ⟨_, rfl, _, .inl ⟨_, rfl, rfl⟩, _, .inl rfl, ?_⟩)))))
  rw [cut_fr1]
  refine ⟨fun i ρ' M2 => ∃ o4 p, ρ' = [some (.lst ((x0 :: r).map (lsD1 L R))), some (planN C t), some (.str word), some (fmR R p), o4, none, none, none] ∧ M2 = M ∧ ((i = 0 ∧ p = x0.2) ∨ (i = 1 ∧ ∃ y rs, r = [y] ∧ IsSum x0.2.1 y.2.1 1 rs ∧ p = (rs, x0.2.2 + 1 * y.2.2))), ⟨_, _, rfl, rfl, .inl ⟨rfl, rfl⟩⟩, ?_, ?_⟩
  · rintro i x ρ' M2 hx ⟨o4, p, rfl, rfl, hp⟩
    obtain ⟨y, rfl⟩ : ∃ y, r = [y] := by
      cases r with
      | nil => simp at hx
      | cons y r' =>
        cases r' with
        | nil => exact ⟨y, rfl⟩
        | cons z r2 => simp at hr1
    match i, hx with
    | i + 1, hx => simp at hx
    | 0, hx =>
    obtain rfl : p = x0.2 := hp.elim (fun h => h.2) fun h => absurd h.1 (by decide)
    cases hx
    have oy := hok y (by simp)
    refine wg_name 4 ?_ nd
    refine wss_cons (ws_set 3 nd (we_binO AF (hr.mono (by omega)) XS (we_var 3 rfl (we_sfld S (we_var 4 rfl ⟨_, 1, _, ls_of, rfl, rfl, _, _, insF, insF, x0.2.1, x0.2.2, y.2.1, y.2.2, rfl, o0.2.p, oy.2.p, o0.2.l, oy.2.l, oy.2.b, oy.2.n, fun rs hs => ⟨⟨R, _, rfl⟩, ?_⟩⟩)))))
    exact wss_nil ⟨_, (rs, x0.2.2 + 1 * y.2.2), rfl, rfl, .inr ⟨rfl, y, rs, rfl, hs, rfl⟩⟩
  · rintro ρ' M2 ⟨o4, p, rfl, rfl, hp⟩
    have ep : p = pe := by
      rcases hp with ⟨h0, rfl⟩ | ⟨h1, y, rs, hy, hs, rfl⟩
      · refine (hp0 ?_).symm
        cases r with
        | nil => rfl
        | cons y r' => simp at h0
      · exact (hp1 y rs hy hs).symm
    subst ep
    clear hp hp0 hp1
    refine wss_cons (ws_setLc2 5 nd (blkOk_by (N := nGr) (sc := defScope s_greatest_of) (own := [("here", 4), ("form", 6)]) (by decide +kernel)) (vs1 := [6]) (by decide) (fun _ _ _ _ _ => pg_name (i := 4) nd rfl (Or.inl rfl)) (gt_name (by decide)) (fun _ _ _ _ _ => pg_name (i := 6) nd rfl (Or.inl rfl)) (gt_name (by decide)) (wi_list (we_var 0 rfl ⟨_, .inl rfl, ?_⟩)) rfl)
    refine ⟨fun i acc M3 => M3 = M2 ∧ acc = (((x0 :: r).map (·.1)).take i).map (fmR R), ⟨rfl, rfl⟩, ?_, ?_⟩
    · rintro i x acc M3 hx ⟨hM3, rfl⟩
      obtain rfl : M2 = M3 := hM3.symm
      rw [List.getElem?_map] at hx
      obtain ⟨y, hy, rfl⟩ := Option.map_eq_some_iff.mp hx
      intro s1 H1 C1 cl1 fp1
      refine wi_list (we_sfld S (we_var 4 rfl ⟨_, 0, _, ls_of, rfl, rfl, _, .inl rfl, ?_⟩))
      have hy1 : ((x0 :: r).map (·.1))[i]? = some y.1 := by rw [List.getElem?_map, hy]; rfl
      refine ⟨?_, fun j acc' M4 => M4 = M2 ∧ acc' = (((x0 :: r).map (·.1)).take i).map (fmR R) ++ ([fmR R y.1].take j), ⟨rfl, by simp⟩, ?_, ?_⟩
      · have := List.length_take_le i ((x0 :: r).map (·.1))
        rw [List.length_map]
        show _ + 1 ≤ _
        rw [sizeLine_eq]
        have h3 : (((x0 :: r).map (·.1)).take i).length ≤ ((x0 :: r).map (·.1)).length := by rw [List.length_take]; omega
        rw [List.length_map] at h3
        omega
      · rintro j u acc' M4 hu ⟨hM4, rfl⟩
        obtain rfl : M2 = M4 := hM4.symm
        match j, hu with
        | j + 1, hu => simp at hu
        | 0, hu =>
        cases hu
        intro s2 H2 C2 cl2 fp2
        exact we_var 6 rfl ⟨rfl, by simp⟩
      · rintro acc' M4 ⟨hM4, rfl⟩
        exact ⟨hM4, by rw [take_snoc hy1, List.map_append]; rfl⟩
    rintro acc M3 ⟨hM3, rfl⟩
    obtain rfl : M2 = M3 := hM3.symm
    rw [List.length_map, show (x0 :: r).length = ((x0 :: r).map (·.1)).length by rw [List.length_map], List.take_length]
    refine wss_cons (ws_set 7 nd (we_call FP (hr.mono (by omega)) (wa_cons (we_var 5 rfl (wa_cons (we_prop Pn (hr.mono (by omega)) (we_var 1 rfl ⟨_, insN, t, rfl, wa_cons (we_var 2 rfl (wa_nil ⟨rfl, (x0 :: r).map (·.1), nmT t, word, nw, rfl, hw, by rw [List.length_map]; omega, ?_, hnd, hnw, fun ys hp hs => ?_⟩))⟩)))))))
    · intro f hf
      obtain ⟨x, hx, rfl⟩ := List.mem_map.mp hf
      exact (hok x hx).1
    rw [hpr ys hp hs]
    refine wss_cons (ws_if (wt_val (we_anyB gA (we_lc nd (blkOk_by (N := nGr) (sc := defScope s_greatest_of) (own := [("here", 4)]) (by decide +kernel)) (fun _ _ _ _ _ => pg_name (i := 4) nd rfl (Or.inr rfl)) (gt_name (by decide)) (fun _ _ _ _ _ => pts_nil) tk_nil (wi_list (we_var 0 rfl ⟨_, .inl rfl, ?_⟩))))))
    refine ⟨by rw [List.length_map, sizeLine_eq]; omega, fun i acc M4 => M4 = M2 ∧ ∃ bs : List Bool, acc = bs.map D.bl ∧ bs.length = min i (x0 :: r).length ∧ ∀ j x, j < i → (x0 :: r)[j]? = some x → x.1 = g → bs[j]? = some true, ⟨rfl, [], rfl, by simp, fun j x h => absurd h (Nat.not_lt_zero j)⟩, ?_, ?_⟩
    · rintro i x acc M4 hx ⟨hM4, bs, rfl, hbl, hbs⟩
      obtain rfl : M2 = M4 := hM4.symm
      rw [List.getElem?_map] at hx
      obtain ⟨y, hy, rfl⟩ := Option.map_eq_some_iff.mp hx
      have hil := (List.getElem?_eq_some_iff.mp hy).1
      have hbl2 : bs.length = i := by rw [hbl]; omega
      have next : ∀ b : Bool, (y.1 = g → b = true) → (M2 = M2 ∧ ∃ bs' : List Bool, bs.map D.bl ++ [D.bl b] = bs'.map D.bl ∧ bs'.length = min (i + 1) (x0 :: r).length ∧ ∀ j x, j < i + 1 → (x0 :: r)[j]? = some x → x.1 = g → bs'[j]? = some true) := fun b hb => by
        refine ⟨rfl, bs ++ [b], by rw [List.map_append]; rfl, by rw [List.length_append, List.length_singleton]; omega, fun j u hj hu he => ?_⟩
        by_cases h : j < i
        · rw [List.getElem?_append_left (by omega)]; exact hbs j u h hu he
        · have eji : j = i := by omega
          rw [eji] at hu ⊢
          rw [hy] at hu
          have exy : y = u := Option.some.inj hu
          rw [List.getElem?_append_right (by omega), hbl2, hb (by rw [exy]; exact he)]; simp
      intro s1 H1 C1 cl1 fp1
      refine we_all (F.bn _ (by decide +kernel)) (we_lc nd (blkOk_by (N := nGr) (sc := relS scGr (defScope s_greatest_of)) (own := [("form", 6)]) (by decide +kernel)) (fun _ _ _ _ _ => pg_name (i := 6) nd rfl (Or.inl rfl)) (gt_name (by decide)) (fun _ _ _ _ _ => pts_nil) tk_nil (wi_list (we_var 7 rfl ⟨_, .inl rfl, ?_⟩)))
      refine ⟨by show 1 ≤ _; rw [sizeLine_eq]; omega, fun k acc M5 => M5 = M2 ∧ ((k = 0 ∧ acc = []) ∨ (k = 1 ∧ ∃ b : Bool, acc = [D.bl b] ∧ (y.1 = g → b = true))), ⟨rfl, .inl ⟨rfl, rfl⟩⟩, ?_, ?_⟩
      · rintro k u acc M5 hu ⟨hM5, hk⟩
        obtain rfl : M2 = M5 := hM5.symm
        match k, hu with
        | k + 1, hu => simp at hu
        | 0, hu =>
        obtain rfl : acc = [] := hk.elim (fun h => h.2) fun h => absurd h.1 (by decide)
        cases hu
        have gp : Pts g.1 := by
          obtain ⟨x, hx, e⟩ := List.mem_map.mp hg
          rw [← e]; exact (hok x hx).1.p
        have yp := (hok y (List.mem_of_getElem? hy)).1.p
        intro s2 H2 C2 cl2 fp2
        refine we_inU EQ (hr.mono (by omega)) (we_var 6 rfl (we_sfld S (we_var 4 rfl ⟨_, 0, _, ls_of, rfl, rfl, fmR R y.1, _, _, .inl rfl, insF, insF, ⟨y.1.1, y.1.2, g.1, g.2, rfl, yp, gp, _, rfl, rfl, .inr ⟨rfl, _, rfl, fun e => ?_⟩⟩, .inr ⟨rfl, .inr ⟨rfl, true, rfl, fun _ => rfl⟩⟩⟩)))
        rw [e]; simp
      · rintro acc M5 ⟨hM5, hk⟩
        obtain ⟨b, rfl, hb⟩ := (hk.resolve_left fun h => absurd h.1 (by simp)).2
        refine ⟨[b], rfl, ?_⟩
        rw [show ([b].all id) = b by simp]
        obtain rfl : M2 = M5 := hM5.symm
        exact next b hb
    rintro acc M4 ⟨hM4, bs, rfl, hbl, hbs⟩
    obtain rfl : M2 = M4 := hM4.symm
    have hany : bs.any id = true := by
      obtain ⟨x, hx, e⟩ := List.mem_map.mp hg
      obtain ⟨j, hj, ej⟩ := List.mem_iff_getElem.mp hx
      have := hbs j x (by rw [List.length_map]; exact hj) (by rw [List.getElem?_eq_getElem hj, ej]) e
      exact List.any_eq_true.mpr ⟨true, List.mem_of_getElem? this, rfl⟩
    refine ⟨_, rfl, _, rfl, ?_⟩
    rw [hany]
    exact wss_cons (ws_ret (we_lists KL (hr.mono (by omega)) (wa_cons (we_var 7 rfl (wa_cons (we_var 3 rfl (wa_nil ⟨_, _, rfl, Lets.of hc⟩)))))))
end
end W
namespace W
open PySem PySem.Spec PyProof.Rows L2 DL SX PL SlX
section
variable {P : Program} {w : World} {K : PySem.W.Frag} {mg : Str → Option Value} {base : Heap} {C R U V L : Addr}
abbrev nJa : List Str := ["rows", "plan", "word", "found", "here"]
def cJoA (C L R : Addr) : Con := fun ds M Φ => ∃ (x0 : Ls1) (r : List Ls1) (t : PL.T) (word : Str), ds = [.lst ((x0 :: r).map (lsD1 L R)), planN C t, .str word] ∧ wordT t = "beside" ∧ r.length ≤ 1 ∧ (∀ x ∈ x0 :: r, FmOk x.1 ∧ FmOk x.2) ∧ (r = [] → Φ (lsD1 L R x0) M) ∧
  (∀ y, r = [y] → word ≠ "circle" ∧ ∀ rs rs2, IsSum x0.1.1 y.1.1 1 rs → IsSum x0.2.1 y.2.1 1 rs2 → BdR (rs, x0.1.2 + 1 * y.1.2) ∧ Φ (LsD L R [(rs, x0.1.2 + 1 * y.1.2)] (rs2, x0.2.2 + 1 * y.2.2)) M)
theorem ok_joined_all (F : Fx w K mg) (S : SlC K L lsN) (gMF : ∃ t, mg "MOST_FORMS" = some (.int 40 t)) (Pw : Pc P w K mg base C "word" 1 (cGetN C fun t => .str (wordT t))) (Pn : Pc P w K mg base C "names" 1 (cGetN C fun t => .tup ((nmT t).map D.str))) (FD : Fc P w K mg base "do_add" [] 1 2 cDoAdd) (FJ : Mg P w K mg base L "joined" 9 5 (cJnL L R)) :
    BodyOk P w K mg base "joined_all" s_joined_all nJa 3 9 (cJoA C L R) := by
  intro f' cdv A outer s H E hr ds M Φ hl hc
  obtain ⟨x0, r, t, word, rfl, ht, hr1, hok, h0, h1⟩ := hc
  have nd : nJa.Nodup := by decide +kernel
  have o0 := hok x0 List.mem_cons_self
  refine wss_cons (ws_set 3 nd (we_ix (we_var 0 rfl (we_int ⟨((0 : Nat) : Int), _, rfl, ixL (atI_nat (j := 0) rfl), ?_⟩))))
  refine wss_cons (ws_for PassesOwn.never (wi_list (we_slice (we_var 0 rfl (we_int ⟨_, rfl, _, .inl ⟨_, rfl, rfl⟩, _, .inl rfl, ?_⟩)))))
  rw [cut_fr1]
  refine ⟨fun i ρ' M2 => ∃ o4 p, ρ' = [some (.lst ((x0 :: r).map (lsD1 L R))), some (planN C t), some (.str word), some p, o4] ∧ M2 = M ∧ ((i = 0 ∧ p = lsD1 L R x0) ∨ (i = 1 ∧ ∃ y, r = [y] ∧ Φ p M)), ⟨_, _, rfl, rfl, .inl ⟨rfl, rfl⟩⟩, ?_, ?_⟩
  · rintro i x ρ' M2 hx ⟨o4, p, rfl, rfl, hp⟩
    obtain ⟨y, rfl⟩ : ∃ y, r = [y] := by
      cases r with
      | nil => simp at hx
      | cons y r' =>
        cases r' with
        | nil => exact ⟨y, rfl⟩
        | cons z r2 => simp at hr1
    match i, hx with
    | i + 1, hx => simp at hx
    | 0, hx =>
    obtain rfl : p = lsD1 L R x0 := hp.elim (fun h => h.2) fun h => absurd h.1 (by decide)
    cases hx
    have oy := hok y (by simp)
    obtain ⟨hw, h1⟩ := h1 y rfl
    refine wg_name 4 ?_ nd
    refine wss_cons (ws_set 3 nd (we_smeth FJ (hr.mono (by omega)) (we_var 3 rfl ⟨_, ls_of, wa_cons (we_prop Pw (hr.mono (by omega)) (we_var 1 rfl ⟨_, insN, t, rfl, wa_cons (we_prop Pn (hr.mono (by omega)) (we_var 1 rfl ⟨_, insN, t, rfl, wa_cons (we_var 2 rfl (wa_cons (we_var 4 rfl (wa_nil ⟨rfl, x0.1, x0.2, y.1, y.2, _, word, congrArg (fun s => [lsD1 L R x0, D.str s, D.tup ((nmT t).map D.str), D.str word, lsD1 L R y]) ht, hw, o0.1, oy.1, o0.2, oy.2, fun rs rs2 hs hs2 => ?_⟩))))⟩))⟩))⟩)))
    obtain ⟨hb, hz⟩ := h1 rs rs2 hs hs2
    refine ⟨hb, ?_⟩
    refine wss_cons (ws_if (wt_ww (ww_and (wt_val (we_call FD (hr.mono (by omega)) (wa_cons (we_prop Pw (hr.mono (by omega)) (we_var 1 rfl ⟨_, insN, t, rfl, wa_cons (we_var 2 rfl (wa_nil ⟨rfl, word, congrArg (fun s => [D.str s, D.str word]) ht, _, rfl, ?_⟩))⟩))))))))
    rw [decide_eq_false hw]
    refine ww_and1 (wt_gtI (we_len (F.bn _ (by decide +kernel)) (we_sfld S (we_var 3 rfl ⟨_, 0, _, ls_of, rfl, rfl, _, lenL, we_gint gMF ⟨_, _, rfl, rfl, ?_⟩⟩))))
    refine wss_nil (wss_nil ⟨_, _, rfl, rfl, .inr ⟨rfl, y, rfl, hz⟩⟩)
  · rintro ρ' M2 ⟨o4, p, rfl, rfl, hp⟩
    refine wss_cons (ws_ret (we_var 3 rfl (Lets.of ?_)))
    rcases hp with ⟨e0, rfl⟩ | ⟨_, y, _, hz⟩
    · refine h0 ?_
      cases r with
      | nil => rfl
      | cons y r' => simp at e0
    · exact hz
end
end W
namespace W
open PySem PySem.Spec PyProof.Rows L2 DL SX PL SlX
/-- the lists of the parts, copied -/
def rowOf (z : Str) (q : Nat × PL.T) : Ls1 := (if z = "circle" then fmT z q.2 else mulR (q.1 : Nat) (fmT z q.2), mulR (q.1 : Nat) (peT q.2))
theorem row_c {z : Str} : (kids tC).map (rowOf z) = [(fmT z tC, peT tC)] := by
  show [rowOf z (2, .one)] = _
  unfold rowOf
  show [(if z = "circle" then cR 1 else mulR 2 (cR 1), mulR 2 (cR 1))] = [((if z = "circle" then cR 1 else cR 2), cR 2)]
  rw [mul_cR]; rfl
theorem row_r {z : Str} : (kids tR).map (rowOf z) = [(xR z 0, xR "people" 0), (fmT z tC, peT tC)] := by
  show [rowOf z (1, tX), rowOf z (1, tC)] = _
  unfold rowOf
  show [(if z = "circle" then xR z 0 else mulR 1 (xR z 0), mulR 1 (xR "people" 0)), (if z = "circle" then fmT z tC else mulR 1 (fmT z tC), mulR 1 (cR 2))] = _
  rw [mul_one, mul_one, mul_one, mul_one, ite_self, ite_self]; rfl
/-- which of them is nowhere greater, by circle -/
def nwT (f g : Row) : Bool := decide (f = cR 1) || decide (g ≠ cR 1)
theorem xR_ne (z : Str) (n m : Int) : xR z n ≠ cR m := fun h => by
  have := congrArg (fun f : Row => f.1.length) h
  cases this
theorem nw_cc {ns : List Str} {rs : List Pt} (h : IsSum (cR 1).1 (cR 1).1 (-1) rs) : nwB (cR 1) (cR 1) rs ns "circle" = true := by
  have e := sum_left pts_nilF h
  subst e
  rw [nw_pos fun n _ => by rw [co_nil]; decide]; rfl
theorem nw_xx {ns : List Str} {rs : List Pt} (h : IsSum (xR "circle" 0).1 (xR "circle" 0).1 (-1) rs) : nwB (xR "circle" 0) (xR "circle" 0) rs ns "circle" = true := by
  have e : rs = [] := h.uni ⟨.nil, fun p hp => absurd hp List.not_mem_nil, fun m => by rw [co_nil]; omega⟩
  subst e
  rw [nw_pos fun n _ => by rw [co_nil]; decide]; rfl
theorem nw_cx {ns : List Str} {rs : List Pt} (h : IsSum (xR "circle" 0).1 (cR 1).1 (-1) rs) : nwB (cR 1) (xR "circle" 0) rs ns "circle" = true := by
  have e := sum_left (pts_x (by decide +kernel)) h
  subst e
  rw [nw_pos fun n _ => ?_]; rfl
  unfold co
  rw [lk_cons]
  split
  · show (0 : Int) ≤ 1; decide
  · show (0 : Int) ≤ 0; decide
theorem nw_xc {rs : List Pt} (h : IsSum (cR 1).1 (xR "circle" 0).1 (-1) rs) : nwB (xR "circle" 0) (cR 1) rs [("x" : Str)] "circle" = false := by
  refine nw_neg (n := "x") (by simp) ?_
  rw [h.eq]
  decide +kernel
theorem perm_two {a b : Row} {ys : List Row} (hn : a ≠ b) (h : ys.Perm [a, b]) : ys = [a, b] ∨ ys = [b, a] := by
  have hl := h.length_eq
  match ys, hl with
  | [p, q], _ =>
    have hnd : ([p, q] : List Row).Nodup := h.nodup_iff.mpr (by simp [hn])
    have hp : p = a ∨ p = b := by have := h.mem_iff.mp (List.mem_cons_self (a := p) (l := [q])); simpa using this
    have hq : q = a ∨ q = b := by have := h.mem_iff.mp (show q ∈ [p, q] by simp); simpa using this
    have hpq : p ≠ q := by simpa using hnd
    rcases hp with rfl | rfl <;> rcases hq with rfl | rfl
    · exact absurd rfl hpq
    · exact .inl rfl
    · exact .inr rfl
    · exact absurd rfl hpq
theorem pr_two {ys : List Row} (h : ys.Perm [xR "circle" 0, cR 1]) : prF nwT ys = [xR "circle" 0] := by
  rcases perm_two (xR_ne _ _ _) h with rfl | rfl <;> decide +kernel
section
variable {P : Program} {w : World} {K : PySem.W.Frag} {mg : Str → Option Value} {base : Heap} {C R U V L : Addr}
abbrev nLo : List Str := ["plan", "word", "rows", "many", "part", "some", "found"]
def cLo (C L R : Addr) (h : Nat) : Con := fun ds M Φ => ∃ (t : PL.T) (z : Str), ds = [planN C t, .str z] ∧ (t = .one ∨ t = tX ∨ t = tC ∨ t = tR) ∧ ht t ≤ h ∧ z ∈ lisL ∧ Φ (LsD L R [fmT z t] (peT t)) M
theorem leaf_in {t : PL.T} (h : t = .one ∨ t = tX) : wordT t ∈ (["one", "name"] : List Str) := by rcases h with rfl | rfl <;> decide +kernel
theorem row_nin {t : PL.T} (h : t = tC ∨ t = tR) : wordT t ∉ (["one", "name"] : List Str) := by rcases h with rfl | rfl <;> decide +kernel
theorem wd_b {t : PL.T} (h : t = tC ∨ t = tR) : wordT t = "beside" := by rcases h with rfl | rfl <;> rfl
theorem kids_h {t : PL.T} {h : Nat} (ht2 : t = tC ∨ t = tR) (hh : ht t ≤ h) : ∃ j, h = j + 1 ∧ ∀ q ∈ kids t, (q.2 = .one ∨ q.2 = tX ∨ q.2 = tC ∨ q.2 = tR) ∧ ht q.2 ≤ j ∧ (q.1 = 1 ∨ q = (2, .one)) := by
  rcases ht2 with rfl | rfl
  · have h1 : 1 ≤ h := Nat.le_trans (by decide) hh
    refine ⟨h - 1, by omega, fun q hq => ?_⟩
    have : q = (2, PL.T.one) := List.mem_singleton.mp hq
    subst this
    exact ⟨.inl rfl, Nat.zero_le _, .inr rfl⟩
  · have h1 : 2 ≤ h := Nat.le_trans (by decide) hh
    refine ⟨h - 1, by omega, fun q hq => ?_⟩
    have : q = (1, tX) ∨ q = (1, tC) := by
      have e : kids tR = [(1, tX), (1, tC)] := rfl
      rw [e] at hq
      simpa using hq
    rcases this with rfl | rfl
    · exact ⟨.inr (.inl rfl), Nat.zero_le _, .inl rfl⟩
    · exact ⟨.inr (.inr (.inl rfl)), by show ht tC ≤ _; have : ht tC = 1 := rfl; omega, .inl rfl⟩
theorem rows_ok {z : Str} (hz : z ∈ wordsL) {t : PL.T} (ht2 : t = tC ∨ t = tR) : ∀ x ∈ (kids t).map (rowOf z), FmOk x.1 ∧ FmOk x.2 := by
  have hp : ("people" : Str) ∈ wordsL := by decide +kernel
  rcases ht2 with rfl | rfl
  · rw [row_c]
    intro x hx
    rw [List.mem_singleton.mp hx]
    exact ⟨fo_T hz tC, fo_P tC⟩
  · rw [row_r]
    intro x hx
    rcases List.mem_cons.mp hx with rfl | hx
    · exact ⟨fo_x hz (by decide), fo_x hp (by decide)⟩
    · rw [List.mem_singleton.mp hx]
      exact ⟨fo_T hz tC, fo_P tC⟩
theorem ok_lists_of (h : Nat) (F : Fx w K mg) (X : Px K mg C) (S : SlC K L lsN) (gON : ∃ t, mg "ONE" = some (.str "one" t)) (gNA : ∃ t, mg "NAME" = some (.str "name" t)) (gRO : ∃ t, mg "ROWS" = some (.str "rows" t)) (gMF : ∃ t, mg "MOST_FORMS" = some (.int 40 t))
    (KL : Ksx P w K mg base "Lists" L [] 2 3 (cLsI L)) (Pw : Pc P w K mg base C "word" 1 (cGetN C fun t => .str (wordT t))) (Pn : Pc P w K mg base C "names" 1 (cGetN C fun t => .tup ((nmT t).map D.str))) (Pt : Pc P w K mg base C "text" 1 (cGetN C fun t => tS (txt t)))
    (FD : Fc P w K mg base "do_add" [] 1 2 cDoAdd) (FM : Fc P w K mg base "mark_form" [] 6 2 (cMkF R)) (FPe : Fc P w K mg base "people_form" [] 7 1 (cPeF C R)) (FC : Mg P w K mg base L "copied" 7 5 (cCopL L R)) (FB : Fc P w K mg base "by_names" [] 4 1 (cByN L R)) (FJ : Fc P w K mg base "joined_all" [] 10 3 (cJoA C L R)) (FG : Fc P w K mg base "greatest_of" [] 10 3 (cGr C L R))
    (FL : ∀ j, h = j + 1 → Fc P w K mg base "lists_of" [] (j + 12) 2 (cLo C L R j)) : BodyOk P w K mg base "lists_of" s_lists_of nLo 2 (h + 11) (cLo C L R h) := by
  intro f' cdv A outer s H E hr ds M Φ hl hc
  obtain ⟨t, z, rfl, ht0, hh, hz, hc⟩ := hc
  have nd : nLo.Nodup := by decide +kernel
  have zw := lis_words hz
  have hu := hr.units
  refine wss_cons (ws_if (wt_inS (we_prop Pw (hr.mono (by omega)) (we_var 0 rfl ⟨_, insN, t, rfl, we_tup (wa_cons (we_gstr gON (wa_cons (we_gstr gNA (wa_nil ⟨sz2x, wordT t, ["one", "name"], rfl, .inl rfl, ?_⟩)))))⟩))))
  by_cases lf : t = .one ∨ t = tX
  · rw [decide_eq_true (leaf_in lf)]
    refine wss_cons (ws_ret (we_lists KL (hr.mono (by omega)) (wa_cons (we_lst (wa_cons (we_if (wt_eqS (we_prop Pw (hr.mono (by omega)) (we_var 0 rfl ⟨_, insN, t, rfl, we_gstr gON ⟨decide (wordT t = "one"), rfl, ?_⟩⟩)))))))))
    rcases lf with rfl | rfl
    · rw [show decide (wordT PL.T.one = "one") = true by decide +kernel]
      exact we_call FPe (hr.mono (by omega)) (wa_cons (we_var 0 rfl (wa_nil ⟨rfl, .one, rfl, .inl rfl, wa_nil ⟨by show 1 ≤ sizeLine; decide, wa_cons (we_call FPe (hr.mono (by omega)) (wa_cons (we_var 0 rfl (wa_nil ⟨rfl, .one, rfl, .inl rfl, wa_nil ⟨_, _, rfl, Lets.of hc⟩⟩))))⟩⟩)))
    · rw [show decide (wordT tX = "one") = false by decide +kernel]
      exact we_call FM (hr.mono (by omega)) (wa_cons (we_prop Pt (hr.mono (by omega)) (we_var 0 rfl ⟨_, insN, _, rfl, wa_cons (we_var 1 rfl (wa_nil ⟨rfl, "x", z, congrArg (fun d => [d, D.str z]) tS_x, pts_x zw, wa_nil ⟨by show 1 ≤ sizeLine; decide, wa_cons (we_call FPe (hr.mono (by omega)) (wa_cons (we_var 0 rfl (wa_nil ⟨rfl, tX, rfl, .inr rfl, wa_nil ⟨_, _, rfl, Lets.of hc⟩⟩))))⟩⟩))⟩)))
  have nl : t = tC ∨ t = tR := by
    rcases ht0 with h | h | h | h
    · exact absurd (.inl h) lf
    · exact absurd (.inr h) lf
    · exact .inl h
    · exact .inr h
  rw [decide_eq_false (row_nin nl)]
  have wb := wd_b nl
  obtain ⟨j, hj, hk⟩ := kids_h nl hh
  refine wss_nil (wss_cons (ws_setLc 2 nd (blkOk_by (N := nLo) (sc := defScope s_lists_of) (own := [("many", 3), ("part", 4)]) (by decide +kernel)) (fun _ _ _ _ _ => pg_tup rfl (pgs_cons (pg_name (i := 3) nd rfl (Or.inl rfl)) (pgs_cons (pg_name (i := 4) nd rfl (Or.inl rfl)) pgs_nil)) rfl rfl) (gt_two (by decide) (by decide)) (fun _ _ _ _ _ => pts_nil) tk_nil (wi_list (we_fld (C := C) (we_var 0 rfl ⟨_, _, insN, X.cl, X.na _ (by decide +kernel), lk_groups, _, .inl rfl, ?_⟩))) rfl))
  have kl : (kids t).length ≤ 2 := by rcases nl with rfl | rfl <;> decide
  refine ⟨by rw [subsN, List.length_map, sizeLine_eq]; omega, fun i acc M2 => M2 = M ∧ acc = (((kids t).map (rowOf z)).take i).map (lsD1 L R), ⟨rfl, rfl⟩, ?_, ?_⟩
  · rintro i x acc M2 hx ⟨hM2, rfl⟩
    obtain rfl : M = M2 := hM2.symm
    rw [subsN, List.getElem?_map] at hx
    obtain ⟨q, hq, rfl⟩ := Option.map_eq_some_iff.mp hx
    obtain ⟨k1, k2, k3⟩ := hk q (List.mem_of_getElem? hq)
    have hq2 : ((kids t).map (rowOf z))[i]? = some (rowOf z q) := by rw [List.getElem?_map, hq]; rfl
    refine ⟨_, _, rfl, ?_⟩
    intro s1 H1 C1 cl1 fp1
    refine we_smeth FC (hr.mono (by omega)) (we_call (FL j hj) (hr.mono (by omega)) (wa_cons (we_var 4 rfl (wa_cons (we_var 1 rfl (wa_nil ⟨rfl, q.2, z, rfl, k1, k2, hz, ?_⟩))))))
    refine ⟨_, ls_of, wa_cons (we_prop Pw (hr.mono (by omega)) (we_var 0 rfl ⟨_, insN, t, rfl, wa_cons (we_prop Pn (hr.mono (by omega)) (we_var 0 rfl ⟨_, insN, t, rfl, wa_cons (we_var 1 rfl (wa_cons (we_var 3 rfl (wa_nil ⟨rfl, fmT z q.2, peT q.2, _, z, (q.1 : Nat), congrArg (fun s => [lsD1 L R (fmT z q.2, peT q.2), D.str s, D.tup ((nmT t).map D.str), D.str z, D.int (q.1 : Nat)]) wb, fo_T zw _, fo_P _, ?_, ?_, rfl, ?_⟩))))⟩))⟩))⟩
    · rcases k3 with e | e <;> rw [e] <;> exact bdi_small (by decide)
    · rcases k3 with e | e
      · rw [e]
        show BdR (mulR 1 (fmT z q.2))
        rw [mul_one]; exact (fo_T zw _).t
      · rw [e]
        show BdR (mulR 2 (cR 1))
        rw [mul_cR]; exact (fo_c (by decide)).t
    · rw [take_snoc hq2, List.map_append]; rfl
  rintro acc M2 ⟨hM2, rfl⟩
  obtain rfl : M = M2 := hM2.symm
  have e0 : (subsN C t).length = ((kids t).map (rowOf z)).length := by rw [subsN, List.length_map, List.length_map]
  rw [e0, List.take_length]
  have xok := rows_ok zw nl
  generalize hxs : (kids t).map (rowOf z) = xs at xok
  have tail : ∀ o3 o4 o5, WSs (bx P w K mg base nLo "lists_of" (defScope s_lists_of) f' cdv A outer s H E) [some (planN C t), some (.str z), some (.lst (xs.map (lsD1 L R))), o3, o4, o5, some (LsD L R [fmT z t] (peT t))] M ((defBody s_lists_of).drop 3) { nx := fun _ M' => Φ .non M', rt := Lets Φ } := fun o3 o4 o5 => by
    refine wss_cons (ws_if (wt_gtI (we_len (F.bn _ (by decide +kernel)) (we_sfld S (we_var 6 rfl ⟨_, 0, _, ls_of, rfl, rfl, _, lenL, we_gint gMF ⟨_, _, rfl, rfl, ?_⟩⟩)))))
    exact wss_nil (wss_cons (ws_ret (we_var 6 rfl (Lets.of hc))))
  refine wss_cons (ws_if (wt_val (we_call FD (hr.mono (by omega)) (wa_cons (we_prop Pw (hr.mono (by omega)) (we_var 0 rfl ⟨_, insN, t, rfl, wa_cons (we_var 1 rfl (wa_nil ⟨rfl, z, congrArg (fun s => [D.str s, D.str z]) wb, _, rfl, ?_⟩))⟩))))))
  by_cases hcz : z = "circle"
  · rw [decide_eq_true hcz]
    refine wss_cons (ws_set 6 nd (we_if (wt_eqS (we_var 1 rfl (we_gstr gRO ⟨decide (z = "rows"), rfl, ?_⟩)))))
    rw [decide_eq_false (show z ≠ "rows" by rw [hcz]; decide +kernel)]
    refine we_call FG (hr.mono (by omega)) (wa_cons (we_var 2 rfl (wa_cons (we_var 0 rfl (wa_cons (we_var 1 rfl (wa_nil ⟨rfl, ?_⟩)))))))
    subst hcz
    have hnr : ("circle" : Str) ≠ "rows" := by decide +kernel
    rcases nl with rfl | rfl
    · rw [row_c] at hxs
      subst hxs
      refine ⟨(fmT "circle" tC, peT tC), [], tC, "circle", fun _ _ => true, cR 1, cR 2, rfl, hnr, Nat.zero_le _, xok, List.pairwise_singleton _ _, ?_, fun ys hp _ => ?_, List.mem_singleton.mpr rfl, fun _ => rfl, fun y rs h => (nomatch h), wss_nil (tail _ _ _)⟩
      · intro f hf g hg rs hs
        have ef : f = cR 1 := List.mem_singleton.mp hf
        have eg : g = cR 1 := List.mem_singleton.mp hg
        subst ef; subst eg
        exact nw_cc hs
      · have e : ys = [cR 1] := List.perm_singleton.mp hp
        rw [e]; rfl
    · rw [row_r] at hxs
      subst hxs
      refine ⟨(xR "circle" 0, xR "people" 0), [(fmT "circle" tC, peT tC)], tR, "circle", nwT, xR "circle" 0, xR "people" 2, rfl, hnr, Nat.le_refl _, xok, ?_, ?_, fun ys hp _ => pr_two hp, List.mem_cons_self, fun h => (nomatch h), fun y rs h hs => ?_, wss_nil (tail _ _ _)⟩
      · show ([T (xR "circle" 0), T (cR 1)] : List Str).Nodup
        decide +kernel
      · intro f hf g hg rs hs
        have ef : f = xR "circle" 0 ∨ f = cR 1 := by
          rcases List.mem_cons.mp hf with h | h
          · exact .inl h
          · exact .inr (List.mem_singleton.mp h)
        have eg : g = xR "circle" 0 ∨ g = cR 1 := by
          rcases List.mem_cons.mp hg with h | h
          · exact .inl h
          · exact .inr (List.mem_singleton.mp h)
        rw [nm_r]
        rcases ef with rfl | rfl <;> rcases eg with rfl | rfl
        · rw [nw_xx hs]; decide +kernel
        · rw [nw_xc hs]; decide +kernel
        · rw [nw_cx hs]; decide +kernel
        · rw [nw_cc hs]; decide +kernel
      · cases h
        have e := sum_left (pts_x (by decide +kernel)) hs
        subst e; rfl
  · rw [decide_eq_false hcz]
    have eC : fmT z tC = cR 2 := if_neg hcz
    have eR : fmT z tR = xR z 2 := if_neg hcz
    have xl : xs.length ≤ 2 := by rw [← hxs, List.length_map]; exact kl
    have hnd : (xs.map fun x => nmsOf (nmF [x.1])).Nodup := by
      rcases nl with rfl | rfl
      · rw [row_c] at hxs
        subst hxs
        exact List.pairwise_singleton _ _
      · rw [row_r, eC] at hxs
        subst hxs
        show ([["x"], []] : List (List Str)).Nodup
        decide +kernel
    refine wss_cons (ws_set 6 nd (we_call FJ (hr.mono (by omega)) (wa_cons (we_lc nd (blkOk_by (N := nLo) (sc := defScope s_lists_of) (own := [("some", 5)]) (by decide +kernel)) (fun _ _ _ _ _ => pg_name (i := 5) nd rfl (Or.inl rfl)) (gt_name (by decide)) (fun _ _ _ _ _ => pts_nil) tk_nil (wi_list (we_call FB (hr.mono (by omega)) (wa_cons (we_var 2 rfl (wa_nil ⟨rfl, xs, rfl, by omega, fun x hx => (xok x hx).1.l, hnd, _, .inl rfl, ?_⟩)))))))))
    refine ⟨by rw [List.length_map, sizeLine_eq]; omega, fun i acc M2 => M2 = M ∧ acc = (xs.take i).map (lsD1 L R), ⟨rfl, rfl⟩, ?_, ?_⟩
    · rintro i x acc M2 hx ⟨hM2, rfl⟩
      obtain rfl : M = M2 := hM2.symm
      rw [List.getElem?_map] at hx
      obtain ⟨y, hy, rfl⟩ := Option.map_eq_some_iff.mp hx
      intro s1 H1 C1 cl1 fp1
      refine we_call FJ (hr.mono (by omega)) (wa_cons (we_var 5 rfl (wa_cons (we_var 0 rfl (wa_cons (we_var 1 rfl (wa_nil ⟨rfl, y, [], t, z, rfl, wb, Nat.zero_le _, fun x hx => ?_, fun _ => ⟨rfl, ?_⟩, fun y h => (nomatch h)⟩)))))))
      · rw [List.mem_singleton.mp hx]; exact xok y (List.mem_of_getElem? hy)
      · rw [take_snoc hy, List.map_append]; rfl
    rintro acc M2 ⟨hM2, rfl⟩
    obtain rfl : M = M2 := hM2.symm
    rw [List.length_map, List.take_length]
    refine wa_cons (we_var 0 rfl (wa_cons (we_var 1 rfl (wa_nil ⟨rfl, ?_⟩))))
    rcases nl with rfl | rfl
    · rw [row_c, eC] at hxs
      subst hxs
      rw [eC] at tail
      exact ⟨(cR 2, peT tC), [], tC, z, rfl, wb, Nat.zero_le _, xok, fun _ => wss_nil (tail _ _ _), fun y h => (nomatch h)⟩
    · rw [row_r, eC] at hxs
      subst hxs
      rw [eR] at tail
      refine ⟨(xR z 0, xR "people" 0), [(cR 2, peT tC)], tR, z, rfl, wb, Nat.le_refl _, xok, fun h => (nomatch h), fun y h => ?_⟩
      cases h
      refine ⟨hcz, fun rs rs2 hs hs2 => ?_⟩
      have e1 := sum_left (pts_x zw) hs
      have e2 := sum_left (pts_x (by decide +kernel)) hs2
      subst e1; subst e2
      exact ⟨(fo_x zw (n := 2) (by decide)).t, wss_nil (tail _ _ _)⟩
end
end W
namespace DL
open PySem PySem.Spec PyProof.Rows L2 SX
/-- a value of any kind in the heap -/
inductive OdH (K : PySem.W.Frag) (H : Hp) : V → PyData → Prop
  | dp {v : V} {p : PyData} : Dp K H v p → p.canLay0 = true → OdH K H v p
  | dic {a : Addr} : H a = some (.dK []) → OdH K H (.ref a) (.dict [])
  | dct {a : Addr} {x y : Str} {n : Int} : H a = some (.dT [([.inr x, .inr y], .int n)]) → OdH K H (.ref a) (dctP x y n)
section
variable {X : Cx} {pins : List (Addr × Obj)} {σ : L2.St} {H : Hp} {s : Shared}
theorem OdH.reads (I : L2.Inv X pins σ H s) {v : V} {p : PyData} {u : Value} (h : OdH X.K H v p) (r : RelV v u) : ∃ as, Reads s.heap u p as ∧ (p.hasDict = true → sysModules ∉ as) := by
  cases h with
  | dp hd hc =>
    obtain ⟨as, rd⟩ := Dp.reads I p v u hd r
    exact ⟨as, rd, fun z => by rw [PyData.hasDict_of_canLay p hc] at z; cases z⟩
  | dic ha =>
    rename_i a
    obtain rfl : u = Value.ref a := r
    obtain ⟨_, hs, vs, kv, o, es, ep, ho, hx, hd, hk, hp, _⟩ := I.hok a _ ha
    cases kv
    have e0 : es.toList = [] := by
      cases hp' : es.toList with
      | nil => rfl
      | cons q r => rw [hp'] at hp; cases hp
    refine ⟨_, Reads.dict ho hx.1 hd (by rw [e0]; exact .nil) (by rw [e0]; exact .nil), fun _ z => ?_⟩
    rcases List.mem_cons.mp z with z | z
    · rw [← z] at hs; simp at hs
    · cases z
  | dct ha =>
    rename_i a x y n
    obtain rfl : u = Value.ref a := r
    obtain ⟨_, hs0, ys, kv, o, es, ep, ho, hx, hd, hk, _⟩ := I.hok a _ ha
    cases kv with
    | @cons _ q _ qs pr t =>
      cases t
      obtain ⟨e1, e2, e3⟩ := pr
      obtain ⟨_, its, ri, o2, h1, h2, n2, h3⟩ := (show ObjOk X.prog X.w H s.heap q.2.1 (.tup [V.str x, V.str y]) from I.hok q.2.1 _ e2)
      cases ri with
      | @cons _ w1 _ _ p1 r2 =>
        cases r2 with
        | @cons _ w2 _ _ p2 r3 =>
          cases r3
          obtain ⟨t1, rfl⟩ := p1
          obtain ⟨t2, rfl⟩ := p2
          obtain ⟨t3, e3⟩ := e3
          have rk : Reads s.heap (.ref q.2.1) (.tuple [.str x, .str y]) ([] ++ ([] ++ [])) := Reads.tuple h1 h2 h3 (.cons (.str x t1) (.cons (.str y t2) .nil))
          have rd : Reads s.heap (.ref a) (dctP x y n) (a :: (([] ++ ([] ++ [])) ++ []) ++ ([] ++ [])) := Reads.dict ho hx.1 hd (by rw [hk]; exact .cons rk .nil) (by rw [hk]; show ReadsAll s.heap [q.2.2] [.int n] ([] ++ []); rw [e3]; exact .cons (.int n t3) .nil)
          refine ⟨_, rd, fun _ z => ?_⟩
          rcases List.mem_cons.mp z with z | z
          · rw [← z] at hs0; simp at hs0
          · cases z
end
section
variable {prog : Program} {w : World} {A : Around} {E : Value → Shared → Prop} {s : Shared} {Q : Value → Shared → Prop} {a : Addr} {o : Obj} {u : Value} {p : PyData} {as : List Addr} {n : Nat}
/-- repr of a list of one value -/
theorem repr_list1 (h1 : s.heap.get? a = some o) (h2 : o.cls = .type "list") (h3 : o.data = .seq [u].toArray n) (r : Reads s.heap u p as) (hs : p.showable = true) (hsm : p.hasDict = true → sysModules ∉ as) (hg : A.guards = some []) (hu : A.units + (p.depth + 2) < cLine)
    (hz : (listText [p.shown]).length ≤ sizeLine) (hQ : ∀ h' t tk, (∀ b o, s.heap.get? b = some o → h'.get? b = some o) → Q (.str (listText [p.shown]) t) { s with heap := h', toks := tk }) : wpAny (model prog w) A (call (.builtin "repr") [.ref a]) Q E s := by
  have r1 : ReadsAll s.heap [u] [p] (as ++ []) := .cons r .nil
  have es : PyData.shownAll [p] = [p.shown] := by simp only [PyData.shownAll]
  have ed : PyData.depthAll [p] = p.depth := by simp [PyData.depthAll]
  obtain ⟨bs, hb, hk⟩ := ReprAllK.of_readsAll (prog := prog) (w := w) r1 (by simp only [PyData.showableAll, hs, Bool.and_self]) (fun hx hm => by
    rw [List.append_nil] at hm
    exact hsm (by simpa [PyData.hasDictAll] using hx) hm) (fun t ht => by rw [es] at ht; exact Nat.le_trans (listText_mem_le ht) hz)
  rw [es, ed] at hk
  rw [ed] at hb
  have hna : a ∉ bs := not_mem_of_deeper (.list h1 h2 h3 r1) (by simp only [PyData.depth, ed]; omega) hb
  refine call_repr_slot (by omega) ⟨o, h1, h2⟩ F.slot_list_repr.toG ?_
  exact call_list_reprK (x := u) (l := []) h1 h2 h3 hna (by simp) (fun i y e => hk.item i y (by simpa using e)) hg (fun b _ => Clear.nil b) (by show A.units + 1 + (p.depth + 1) < cLine; omega) (fun _ _ z => z) (fun h' t tk k => ⟨_, _, rfl, hQ h' t tk k⟩) hz
/-- repr of a dict of one text key -/
theorem repr_dict1 {k : Str} {tk : Tok} {e : DictEntry} {es : Array DictEntry} (h1 : s.heap.get? a = some o) (h2 : o.cls = .type "dict") (h3 : o.data = .dict es n) (he : es.toList = [e]) (hk : e.key = .str k tk) (hv : e.val = u) (hsys : (a == sysModules) = false) (r : Reads s.heap u p as)
    (hs : (PyData.dict [(.str k, p)]).showable = true) (hsm : p.hasDict = true → sysModules ∉ as) (hg : A.guards = some []) (hu : A.units + (p.depth + 2) < cLine)
    (hz : (PyData.dict [(.str k, p)]).shown.length ≤ sizeLine) (hQ : ∀ h' t tk, (∀ b o, s.heap.get? b = some o → h'.get? b = some o) → Q (.str (PyData.dict [(.str k, p)]).shown t) { s with heap := h', toks := tk }) : wpAny (model prog w) A (call (.builtin "repr") [.ref a]) Q E s := by
  have z1 : (es.toList.map (·.key)) = [Value.str k tk] := by rw [he, ← hk]; rfl
  have z2 : (es.toList.map (·.val)) = [u] := by rw [he, ← hv]; rfl
  have r1 : ReadsAll s.heap (es.toList.map (·.key)) ([(PyData.str k, p)].map (·.1)) ([] ++ []) := by rw [z1]; exact .cons (.str k tk) .nil
  have r2 : ReadsAll s.heap (es.toList.map (·.val)) ([(PyData.str k, p)].map (·.2)) (as ++ []) := by rw [z2]; exact .cons r .nil
  have rd := Reads.dict h1 h2 h3 r1 r2
  obtain ⟨s1, s2⟩ := PyData.showableKv_split [(PyData.str k, p)] (by simpa [PyData.showable] using hs)
  have hz' : (dictText (PyData.shownKv [(PyData.str k, p)])).length ≤ sizeLine := by simpa only [PyData.shown] using hz
  obtain ⟨b1, hb1, k1⟩ := ReprAllK.of_readsAll (prog := prog) (w := w) r1 s1 (fun hx => by simp [PyData.hasDictAll, PyData.hasDict] at hx) (fun t ht => by
    obtain ⟨q, hq, hl⟩ := PyData.shownKv_key_le _ t ht
    exact Nat.le_trans hl (Nat.le_trans (dictText_mem_le hq) hz'))
  obtain ⟨b2, hb2, k2⟩ := ReprAllK.of_readsAll (prog := prog) (w := w) r2 s2 (fun hx hm => by
    rw [List.append_nil] at hm
    exact hsm (by simpa [PyData.hasDictAll] using hx) hm) (fun t ht => by
    obtain ⟨q, hq, hl⟩ := PyData.shownKv_val_le _ t ht
    exact Nat.le_trans hl (Nat.le_trans (dictText_mem_le hq) hz'))
  have hb := (hb1.mono (PyData.depthAll_keys_le [(PyData.str k, p)])).append (hb2.mono (PyData.depthAll_vals_le [(PyData.str k, p)]))
  have ed : PyData.depthKv [(PyData.str k, p)] = p.depth := by simp [PyData.depthKv, PyData.depth]
  have hna : a ∉ b1 ++ b2 := not_mem_of_deeper rd (by simp only [PyData.depth]; omega) hb
  refine call_repr_slot (by omega) ⟨o, h1, h2⟩ F.slot_dict_repr ?_
  have hQ2 := hQ
  simp only [PyData.shown, PyData.shownKv_eq] at hQ2
  exact call_dict_reprK h1 h2 h3 hsys hna (ReprEntriesK.of_two es.toList _ _ (k1.more_le (fun b hb => List.mem_append_left _ hb) (PyData.depthAll_keys_le [(PyData.str k, p)])) (k2.more_le (fun b hb => List.mem_append_right _ hb) (PyData.depthAll_vals_le [(PyData.str k, p)]))) hg (fun b _ => Clear.nil b)
    (by rw [ed]; show A.units + 1 + (p.depth + 1) < cLine; omega) (fun _ _ z => z) (fun h' t tk kk => ⟨_, _, rfl, hQ2 h' t tk kk⟩) (by rw [← PyData.shownKv_eq]; exact hz')
end
end DL
namespace DL
open PySem PySem.Spec PyProof.Rows L2 SX
/-- one of any kind; (v, n); [v]; {"k": v} -/
inductive KV where
  | av (v : AV) | tp (v : AV) (n : Int) | ls (v : AV) | dc (k : Str) (v : AV)
def kvD : KV → D
  | .av v => avD v
  | .tp v n => .tup [avD v, .int n]
  | .ls v => .lst [avD v]
  | .dc k v => .dK [(.inr k, avD v)]
def kvPK : KV → PyData
  | .av v => avP v
  | .tp v n => .tuple [avP v, .int n]
  | .ls v => .list [avP v]
  | .dc k v => .dict [(.str k, avP v)]
def kvO : KV → AV
  | .av v => v
  | .tp v _ => v
  | .ls v => v
  | .dc _ v => v
structure KvOk (q : KV) : Prop where
  rp : RpD (kvO q)
  sh : (kvPK q).showable = true
  so : (avP (kvO q)).showable = true
  ln : (kvPK q).shown.length ≤ sizeLine
  dp : (kvPK q).depth ≤ 60
inductive KvH (K : PySem.W.Frag) (H : Hp) : V → PyData → Prop
  | od {v : V} {p : PyData} : OdH K H v p → KvH K H v p
  | tup {a : Addr} {v : V} {p : PyData} {n : Int} : SqT K H a [v, .int n] → OdH K H v p → KvH K H (.ref a) (.tuple [p, .int n])
  | lst {a : Addr} {v : V} {p : PyData} : SqL K H a [v] → OdH K H v p → p.showable = true → KvH K H (.ref a) (.list [p])
  | dic {a : Addr} {v : V} {p : PyData} {k : Str} : H a = some (.dK [(.inr k, v)]) → OdH K H v p → KvH K H (.ref a) (.dict [(.str k, p)])
section
variable {K : PySem.W.Frag} {M : Mp} {Z : Zn} {H : Hp}
theorem Rep.od {v : V} {o : AV} (r : Rep K M Z H v (avD o)) (h : RpD o) : OdH K H v (avP o) := by
  rcases h with ⟨k, c, _⟩ | rfl | ⟨x, y, n, rfl, _⟩
  · exact .dp (r.dp c.eq) c.lay
  · rw [avD] at r
    cases r with
    | dK h m r => cases r; rw [avP]; exact .dic h
  · rw [avD] at r
    cases r with
    | dT h m r =>
      cases r with
      | cons r1 t =>
        cases t
        cases r1
        rw [avP]; exact .dct h
theorem Rep.kv {v : V} {q : KV} (r : Rep K M Z H v (kvD q)) (h : KvOk q) : KvH K H v (kvPK q) := by
  cases q with
  | av o => exact .od (Rep.od (o := o) r h.rp)
  | tp o n =>
    have r : Rep K M Z H v (.tup [avD o, .int n]) := r
    cases r with
    | tup h1 m r =>
      cases r with
      | cons r1 r =>
        cases r with
        | cons r2 r =>
          cases r; cases r2
          exact .tup (.inl h1) (r1.od h.rp)
    | tupK h1 r =>
      cases r with
      | cons r1 r =>
        cases r with
        | cons r2 r =>
          cases r; cases r2
          exact .tup (.inr h1) (r1.od h.rp)
  | ls o =>
    have r : Rep K M Z H v (.lst [avD o]) := r
    cases r with
    | lst h1 m r =>
      cases r with
      | cons r1 r =>
        cases r
        exact .lst (.inl (.inl h1)) (r1.od h.rp) h.so
  | dc k o =>
    have r : Rep K M Z H v (.dK [(.inr k, avD o)]) := r
    cases r with
    | dK h1 m r =>
      cases r with
      | cons r1 r =>
        cases r
        exact .dic h1 (r1.od h.rp)
end
theorem dct_depth (x y : Str) (n : Int) : (dctP x y n).depth ≤ 8 := by simp [PyData.depth, PyData.depthKv, PyData.depthAll]
section
variable {X : Cx} {ρ : Rho} {M : Mp} {Φ : D → Mp → Prop} {e : Expr} {pos p : Pos}
theorem cr_reprK (hg : X.A.guards = some []) (hu : X.A.units + 70 < cLine) : CallR X (.builtin "repr") (fun xs H Q => ∃ v q, xs = [v] ∧ KvH X.K H v q ∧ q.showable = true ∧ q.shown.length ≤ sizeLine ∧ q.depth ≤ 60 ∧ Q (.str q.shown) H) := by
  intro pins s σ H xs us Q I r h
  obtain ⟨v, q, rfl, hk, hs, hz, hd, h⟩ := h
  cases hk with
  | od ho =>
    cases ho with
    | dp h1 h2 => exact cr_reprA hg (by omega) pins s σ H _ us Q I r (.inl ⟨_, _, rfl, h1, hs, h2, hd, hz, h⟩)
    | dic h1 => exact cr_reprA hg (by omega) pins s σ H _ us Q I r (.inr (.inl ⟨_, rfl, h1, h⟩))
    | dct h1 => exact cr_reprA hg (by omega) pins s σ H _ us Q I r (.inr (.inr ⟨_, _, _, hs, hz, dct_depth _ _ _, _, rfl, h1, h⟩))
  | tup ht ho =>
    rename_i a v p n
    obtain ⟨u, rfl, ru⟩ := vals1 r
    obtain rfl : u = Value.ref a := ru
    obtain ⟨its, rv, ⟨o, h1, h2, m, h3⟩, _⟩ := I.tuple ht
    cases rv with
    | cons r1 r2 =>
      cases r2 with
      | cons r2 r3 =>
        cases r3
        obtain ⟨t, rfl⟩ := r2
        obtain ⟨as, rd, hm⟩ := ho.reads I r1
        refine repr_of_reads' (Reads.tuple h1 h2 h3 (.cons rd (.cons (.int n t) .nil))) hs (fun z => ?_) hg (by omega) (fun _ _ z => z) (fun h' t tk kp => ⟨.str _, H, I.kept kp, ⟨t, rfl⟩, h⟩) hz
        rw [List.append_nil, List.append_nil]
        exact hm (by simpa [PyData.hasDict, PyData.hasDictAll] using z)
  | lst ht ho hso =>
    rename_i a v p
    obtain ⟨u, rfl, ru⟩ := vals1 r
    obtain rfl : u = Value.ref a := ru
    obtain ⟨its, rv, ⟨o, m, h1, h2, _, h3⟩, _⟩ := I.list ht
    obtain ⟨w, rfl, r1⟩ := vals1 rv
    obtain ⟨as, rd, hm⟩ := ho.reads I r1
    have e : (PyData.list [p]).shown = listText [p.shown] := by simp only [PyData.shown, PyData.shownAll]
    have ed : (PyData.list [p]).depth = p.depth + 1 := by simp [PyData.depth, PyData.depthAll]
    rw [e] at hz h
    exact repr_list1 h1 h2 h3 rd hso hm hg (by omega) hz (fun h' t tk kp => ⟨.str _, H, I.kept kp, ⟨t, rfl⟩, h⟩)
  | dic ht ho =>
    rename_i a v p k
    obtain ⟨u, rfl, ru⟩ := vals1 r
    obtain rfl : u = Value.ref a := ru
    obtain ⟨_, hs0, vs, kv, o, es, ep, h1, hx, h3, _, hp, _⟩ := I.hok a _ ht
    cases kv with
    | cons k1 k2 =>
      cases k2
      obtain ⟨e1, e2⟩ := k1
      have hp2 := hp
      cases hq : es.toList with
      | nil => rw [hq] at hp2; cases hp2
      | cons en rest =>
        rw [hq] at hp2
        cases hp2 with
        | cons y1 y2 y3 =>
          cases y3
          have y1 := keyIs_rel y1
          rw [← e1] at y1
          obtain ⟨tk, y1⟩ := (show ∃ t, en.key = Value.str k t from y1)
          obtain ⟨as, rd, hm⟩ := ho.reads I e2
          have ed : (PyData.dict [(.str k, p)]).depth = p.depth + 1 := by simp [PyData.depth, PyData.depthKv]
          exact repr_dict1 h1 hx.1 h3 hq y1 y2 hs0 rd hs hm hg (by omega) hz (fun h' t tk kp => ⟨.str _, H, I.kept kp, ⟨t, rfl⟩, h⟩)
theorem we_reprK (hm : X.mg "repr" = none) (hg0 : X.A.guards = some []) (hu : X.A.units + 70 < cLine) (h : WE X ρ M e fun d M1 => ∃ q, d = kvD q ∧ KvOk q ∧ Φ (.str (kvPK q).shown) M1) (hg : Gl X "repr" := by rfl)
    (he : starEach [e] X.env = (false, eval e X.env) :: starEach [] X.env := by rfl) (hpl : (backTo pos (starEach [] X.env)).any (·.1) = false := by rfl) : WE X ρ M (.Call (.Name "repr" p) [e] [] pos) Φ :=
  we_callB (cr_reprK hg0 hu) hm (by decide +kernel) (wa_cons (h.imp fun d M1 h => wa_nil fun Z vs H Q w rr k => by
    obtain ⟨v, rfl, r⟩ := rr.one
    obtain ⟨q, rfl, ok, h⟩ := h
    exact ⟨v, kvPK q, rfl, r.kv ok, ok.sh, ok.ln, ok.dp, k.now w (.str _) h⟩) he) hg (he := he) (hpl := hpl)
end
end DL
namespace W
open PySem PySem.Spec PyProof.Rows L2 DL SX PL SlX
def kvT9 : KV → String
  | .av v => avT v
  | .tp _ _ => "tuple"
  | .ls _ => "list"
  | .dc _ _ => "dict"
theorem kvTy9 (M : Mp) (q : KV) : TyD M (kvD q) (.type (kvT9 q)) := by
  cases q with
  | av v => exact avTy M v
  | tp v n => rfl
  | ls v => rfl
  | dc k v => rfl
def isSt : KV → Option Str
  | .av (.str x) => some x
  | _ => none
theorem isSt_some {q : KV} {x : Str} (h : isSt q = some x) : q = .av (.str x) := by
  unfold isSt at h
  split at h
  · cases h; rfl
  · cases h
theorem kitS (K : PySem.W.Frag) {q : KV} (h : isSt q = none) : PySem.W.kitOne K (.type (kvT9 q)) (.type "str") = some false := by
  cases q with
  | av v => cases v <;> first | rfl | cases h
  | tp v n => rfl
  | ls v => rfl
  | dc k v => rfl
def tpOf : KV → Option (List AV)
  | .av (.tup l) => some l
  | .tp v n => some [v, .int n]
  | _ => none
theorem tpOf_some {q : KV} {l : List AV} (h : tpOf q = some l) : kvD q = .tup (l.map avD) := by
  unfold tpOf at h
  split at h
  · cases h; show avD (.tup _) = _; rw [avD, avsD_map]
  · cases h; simp only [kvD, List.map_cons, List.map_nil, avD]
  · cases h
theorem kitT (K : PySem.W.Frag) (q : KV) : PySem.W.kitOne K (.type (kvT9 q)) (.type "tuple") = some (tpOf q).isSome := by
  cases q with
  | av v => cases v <;> rfl
  | tp v n => rfl
  | ls v => rfl
  | dc k v => rfl
/-- is it one of these words -/
def inK (xs : List Str) (q : KV) : Bool := match isSt q with
  | some x => decide (x ∈ xs)
  | none => false
theorem inK_true {xs : List Str} {q : KV} (h : inK xs q = true) : ∃ x, q = .av (.str x) ∧ x ∈ xs := by
  unfold inK at h
  cases e : isSt q with
  | none => rw [e] at h; cases h
  | some x => rw [e] at h; exact ⟨x, isSt_some e, of_decide_eq_true h⟩
def ltZ (a b : Str) : Bool := decide (a.cps.toList < b.cps.toList)
def stsV (l : List AV) : List Str := l.filterMap fun v => match v with
  | .str x => some x
  | _ => none
/-- are these values names that ascend -/
def nmsA (l : List AV) : Bool := decide (l.length ≤ 6) && (l.all nmB && (adj ltZ (stsV l)).all id)
def nmsK (q : KV) : Bool := match tpOf q with
  | some l => nmsA l
  | none => false
theorem sts_all : ∀ {l : List AV}, l.all nmB = true → l = (stsV l).map AV.str ∧ ∀ x ∈ stsV l, fmN x = true
  | [], _ => ⟨rfl, fun q h => by simp [stsV] at h⟩
  | v :: l, h => by
    rw [List.all_cons, Bool.and_eq_true] at h
    obtain ⟨h1, h2⟩ := sts_all h.2
    cases v with
    | str x =>
      have e : stsV (.str x :: l) = x :: stsV l := rfl
      rw [e]
      refine ⟨by rw [List.map_cons, ← h1], fun z hz => ?_⟩
      rcases List.mem_cons.mp hz with rfl | hz
      · exact h.1
      · exact h2 z hz
    | _ => exact absurd h.1 (by intro z; cases z)
theorem sts_map : ∀ ns : List Str, stsV (ns.map AV.str) = ns
  | [] => rfl
  | n :: ns => by
    show n :: stsV (ns.map AV.str) = _
    rw [sts_map ns]
theorem nmsA_some {l : List AV} (h : nmsA l = true) : ∃ ns : List Str, l = ns.map AV.str ∧ ns.length ≤ 6 ∧ (∀ n ∈ ns, fmN n = true) ∧ (adj ltZ ns).all id = true := by
  unfold nmsA at h
  rw [Bool.and_eq_true, Bool.and_eq_true] at h
  obtain ⟨h1, h2, h3⟩ := h
  obtain ⟨e, h4⟩ := sts_all h2
  refine ⟨stsV l, e, ?_, h4, h3⟩
  have := of_decide_eq_true h1
  rw [e, List.length_map] at this; exact this
theorem nmsA_len {l : List AV} (h : ¬ l.length ≤ 6) : nmsA l = false := by unfold nmsA; rw [decide_eq_false h]; rfl
theorem nmsA_bad {l : List AV} (h : l.all nmB = false) : nmsA l = false := by unfold nmsA; rw [h]; simp
theorem nmsA_asc {l : List AV} (h1 : l.length ≤ 6) (h2 : l.all nmB = true) : nmsA l = (adj ltZ (stsV l)).all id := by unfold nmsA; rw [decide_eq_true h1, h2]; rfl
/-- its texts are not too long -/
def SmK (q : KV) : Prop := ∀ l, tpOf q = some l → l.length ≤ 1000 ∧ ∀ u ∈ l, shS u
theorem map_strD (ns : List Str) : (ns.map AV.str).map avD = ns.map D.str := by
  rw [List.map_map]
  exact List.map_congr_left fun n _ => by show avD (.str n) = _; rw [avD]
section
variable {P : Program} {w : World} {K : PySem.W.Frag} {mg : Str → Option Value} {base : Heap} {C R U V L : Addr}
def cAscY : Con := fun ds M Φ => ∃ xs : List Str, ds = [.tup (xs.map D.str)] ∧ xs.length ≤ 1000 ∧ Φ (.bl ((adj ltZ xs).all id)) M
theorem ok_asc_y (F : Fx w K mg) : BodyOk P w K mg base "do_ascend" s_do_ascend nAscend 1 0 cAscY := by
  intro g cdv A outer s H E hr ds M Φ hl hc
  obtain ⟨xs, rfl, hn, hc⟩ := hc
  have nd : nAscend.Nodup := by decide +kernel
  have hz : (zipD (xs.map D.str) (DL.cutD (xs.map D.str) (some 1) none)).length = (adj ltZ xs).length := by
    simp only [zipD, adj, cut_fr1, List.length_map, List.length_zip, List.length_drop, List.length_zipWith]
  have hz2 : (adj ltZ xs).length ≤ 1000 := by simp only [adj, List.length_zipWith]; omega
  refine wss_cons (ws_ret (we_all (F.bn _ (by decide +kernel)) (we_lc nd (blkOk_by (N := nAscend) (sc := defScope s_do_ascend) (own := [("one", 1), ("other", 2)]) (by decide +kernel)) (fun _ _ _ _ _ => pg_tup rfl (pgs_cons (pg_name (i := 1) nd rfl (Or.inl rfl)) (pgs_cons (pg_name (i := 2) nd rfl (Or.inl rfl)) pgs_nil)) rfl rfl) (gt_two (by decide) (by decide)) (fun _ _ _ _ _ => pts_nil) tk_nil (wi_zipT (F.bn _ (by decide +kernel)) (we_var 0 rfl (we_slice (we_var 0 rfl (we_int ⟨_, rfl, _, .inr (.inl ⟨_, rfl, rfl⟩), _, _, rfl, rfl, ?_⟩))))))))
  refine ⟨by rw [hz, sizeLine_eq]; omega, fun i acc M' => M' = M ∧ acc = ((adj ltZ xs).take i).map D.bl, ⟨rfl, rfl⟩, ?_, ?_⟩
  · rintro i x acc M' hx ⟨rfl, rfl⟩
    obtain ⟨x1, x2, hx1, hx2, rfl⟩ := zipD_get hx
    rw [cut_fr1, List.getElem?_drop, List.getElem?_map] at hx2
    rw [List.getElem?_map] at hx1
    obtain ⟨u, hu, rfl⟩ := Option.map_eq_some_iff.mp hx1
    obtain ⟨v, hv, rfl⟩ := Option.map_eq_some_iff.mp hx2
    refine ⟨_, _, rfl, ?_⟩
    intro s1 H1 C' cl fp
    refine we_ltS (we_var 1 rfl (we_var 2 rfl ⟨u, v, rfl, rfl, ?_⟩))
    have e : (adj ltZ xs)[i]? = some (ltZ u v) := by
      unfold adj
      rw [List.getElem?_zipWith, hu, List.getElem?_drop, hv]
    exact ⟨rfl, by rw [take_snoc e, List.map_append]; rfl⟩
  · rintro acc M' ⟨rfl, rfl⟩
    rw [hz, List.take_length]
    exact ⟨_, rfl, Lets.of hc⟩
def cWordK : Con := fun ds M Φ => ∃ (q : KV) (zs : List Str), ds = [kvD q, .tup (zs.map D.str)] ∧ Φ (.bl (inK zs q)) M
theorem ok_word_k (F : Fx w K mg) : BodyOk P w K mg base "is_word" s_is_word ["value", "words"] 2 0 cWordK := by
  intro f cdv A outer s H E hr ds M Φ hl hc
  obtain ⟨q, zs, rfl, hc⟩ := hc
  unfold inK at hc
  cases e : isSt q with
  | none =>
    rw [e] at hc
    exact wss_cons (ws_ret (we_and (we_isi (F.bn _ (by decide +kernel)) (we_var 0 rfl (we_bty (F.bn _ (by decide +kernel)) rfl ⟨_, _, false, kvTy9 M q, rfl, (by intro C h; cases h), kitS K e, false, rfl, Lets.of hc⟩)))))
  | some x =>
    rw [e] at hc
    obtain rfl := isSt_some e
    refine wss_cons (ws_ret (we_and (we_isi (F.bn _ (by decide +kernel)) (we_var 0 rfl (we_bty (F.bn _ (by decide +kernel)) rfl ⟨_, _, true, kvTy9 M _, rfl, (by intro C h; cases h), kit_str (.str x), true, rfl, ?_⟩)))))
    exact we_one (we_inS (we_var 0 rfl (we_var 1 rfl ⟨x, zs, by show avD (.str x) = _; rw [avD], .inl rfl, Lets.of hc⟩)))
def cLisOk : Con := fun ds M Φ => ∃ z : Str, ds = [.str z] ∧ z ∈ lisL ∧ Φ .non M
theorem ok_check_listed {W : Addr} (gW : mg "LISTED" = some (.ref W)) (rW : ∀ M Z H, Rep K M Z H (.ref W) (.tup (lisL.map D.str))) (F1 : Fc P w K mg base "is_word" [] 1 2 cWordK) : BodyOk P w K mg base "check_listed" s_check_listed ["value"] 1 2 cLisOk := by
  intro f cdv A outer s H E hr ds M Φ hl hc
  obtain ⟨z, rfl, hz, hc⟩ := hc
  refine wss_cons (ws_if (wt_not (wt_val (we_call F1 (hr.mono (by omega)) (wa_cons (we_var 0 rfl (wa_cons (we_gref gW rW (wa_nil ⟨rfl, .av (.str z), lisL, by show _ = [avD (.str z), _]; rw [avD]; rfl, _, rfl, ?_⟩)))))))))
  rw [show inK lisL (.av (.str z)) = true from decide_eq_true hz]
  exact wss_nil (wss_nil hc)
def cLisX (U : Addr) : ConX := fun ds M Φ Ξ => ∃ q, ds = [kvD q] ∧ inK lisL q = false ∧ Ξ U [("value", kvD q)] M
theorem ok_check_listed_x {W : Addr} (E1 : XL.Er P K mg "BadWord" U) (gW : mg "LISTED" = some (.ref W)) (rW : ∀ M Z H, Rep K M Z H (.ref W) (.tup (lisL.map D.str))) (F1 : Fc P w K mg base "is_word" [] 1 2 cWordK) : BodyX P w K mg base "check_listed" s_check_listed ["value"] 1 3 (cLisX U) := by
  intro f cdv A outer s H E hr ds M Φ Ξ hl hc
  obtain ⟨q, rfl, hq, hc⟩ := hc
  refine wssx_cons (wsx_if (WT.up (wt_not (wt_val (we_call F1 (hr.mono (by omega)) (wa_cons (we_var 0 rfl (wa_cons (we_gref gW rW (wa_nil ⟨rfl, q, lisL, rfl, _, rfl, ?_⟩))))))))))
  rw [hq]
  exact wssx_cons (wsx_raise rfl E1 hr (we_var 0 rfl ⟨_, _, Les.refl, .same _, hc⟩))
abbrev prP (n : Str) : List Pt := [((n, ("people" : Str)), 1), ((n, ("rows" : Str)), -1)]
abbrev prR (n : Str) : Row := (prP n, 0)
abbrev onR (n z : Str) : Row := ([((n, z), 1)], -1)
def rgN (z n : Str) : List Row := (if z = "rows" then [prR n] else []) ++ [onR n z]
def rgF (z : Str) (ns : List Str) : List Row := ns.flatMap (rgN z)
theorem lt_pr (n : Str) : ltM (n, "people") (n, "rows") = true := by
  show PySem.W.dataLt (encT [n, "people"]) (encT [n, "rows"]) = true
  unfold PySem.W.dataLt
  rw [encT_toks, encT_toks]
  show PyProof.Rows.lexLt itemOrd ([.inl 1, .inr n.cps.toList, .inl 1] ++ [.inr ("people" : Str).cps.toList, .inl 0]) ([.inl 1, .inr n.cps.toList, .inl 1] ++ [.inr ("rows" : Str).cps.toList, .inl 0]) = true
  rw [PySem.W.lex_pre]
  decide +kernel
theorem w_pe : ("people" : Str) ∈ wordsL := by decide +kernel
theorem w_ro : ("rows" : Str) ∈ wordsL := by decide +kernel
theorem i1 : (1 : Int) ≠ 0 := by decide
theorem im1 : (-1 : Int) ≠ 0 := by decide
theorem pts_two (n : Str) (hn : fmN n = true) : Pts (prP n) := by
  refine ⟨fun p hp => ?_, List.pairwise_cons.mpr ⟨fun b hb => ?_, List.pairwise_singleton _ _⟩⟩
  · rcases List.mem_cons.mp hp with rfl | hp
    · exact ⟨hn, w_pe, i1⟩
    · rw [List.mem_singleton.mp hp]; exact ⟨hn, w_ro, im1⟩
  · rw [List.mem_singleton.mp hb]; exact lt_pr n
theorem sum_pr {n : Str} (hn : fmN n = true) {rs : List Pt} (h : IsSum [((n, ("people" : Str)), 1)] [((n, ("rows" : Str)), 1)] (-1) rs) : rs = prP n := by
  refine h.uni ⟨(pts_two n hn).up, fun p hp => ((pts_two n hn).ok p hp).2.2, fun m => ?_⟩
  have hne : ((n, ("people" : Str)) : Mk) ≠ (n, ("rows" : Str)) := fun e => absurd (congrArg Prod.snd e) (show ("people" : Str) ≠ "rows" by decide +kernel)
  unfold co
  rw [lk_cons, lk_cons, lk_cons, lk_cons]
  show Option.getD (if ((n, ("people" : Str)) : Mk) = m then some 1 else if ((n, ("rows" : Str)) : Mk) = m then some (-1) else none) 0 = Option.getD (if ((n, ("people" : Str)) : Mk) = m then some 1 else none) 0 + -1 * Option.getD (if ((n, ("rows" : Str)) : Mk) = m then some 1 else none) 0
  by_cases h1 : ((n, ("people" : Str)) : Mk) = m
  · rw [if_pos h1, if_pos h1, if_neg (fun e => hne (h1.trans e.symm))]; rfl
  · rw [if_neg h1, if_neg h1]
    by_cases h2 : ((n, ("rows" : Str)) : Mk) = m
    · rw [if_pos h2, if_pos h2]; rfl
    · rw [if_neg h2, if_neg h2]; rfl
theorem pts_m {n z : Str} (hn : fmN n = true) (hz : z ∈ wordsL) : Pts (mkR n z).1 := ⟨fun p hp => by rw [List.mem_singleton.mp hp]; exact ⟨hn, hz, i1⟩, List.pairwise_singleton _ _⟩
theorem rgN_len (z n : Str) : (rgN z n).length ≤ 2 := by unfold rgN; split <;> simp
theorem rgF_len (z : Str) : ∀ ns : List Str, (rgF z ns).length ≤ 2 * ns.length
  | [] => Nat.le_refl _
  | n :: ns => by
    have h1 := rgN_len z n
    have h2 := rgF_len z ns
    unfold rgF at *
    rw [List.flatMap_cons, List.length_append, List.length_cons]; omega
abbrev nRgO : List Str := ["names", "word", "found", "name"]
def cRgO (R : Addr) : Con := fun ds M Φ => ∃ (ns : List Str) (z : Str), ds = [.tup (ns.map D.str), .str z] ∧ ns.length ≤ 6 ∧ (∀ n ∈ ns, fmN n = true) ∧ z ∈ lisL ∧ Φ (.lst ((rgF z ns).map (fmR R))) M
theorem ok_region_of (XS : PySem.W.selfFirst K R = true) (G : ∃ g, Meth K R "__rsub__" g) (gPE : ∃ t, mg "PEOPLE" = some (.str "people" t)) (gRO : ∃ t, mg "ROWS" = some (.str "rows" t)) (FM : Fc P w K mg base "mark_form" [] 6 2 (cMkF R)) (SF : Mc P w K mg base R "__sub__" [] 7 2 (cShF R (-1))) (SI : Mc P w K mg base R "__sub__" [] 6 2 (cShI R fun n i => n - i)) :
    BodyOk P w K mg base "region_of" s_region_of nRgO 2 7 (cRgO R) := by
  intro f' cdv A outer s H E hr ds M Φ hl hc
  obtain ⟨ns, z, rfl, l6, hn, hz, hc⟩ := hc
  have nd : nRgO.Nodup := by decide +kernel
  have zw := lis_words hz
  refine wss_cons (ws_set 2 nd (we_lstM (wa_nil ⟨Nat.zero_le _, fun q hq => ?_⟩)))
  refine wss_cons (ws_for PassesOwn.never (wi_tup (we_var 0 rfl ⟨_, rfl, ?_⟩)))
  refine ⟨fun i ρ' M2 => ∃ o3, ρ' = [some (.tup (ns.map D.str)), some (.str z), some (.ob q), o3] ∧ M2 = mset M q (.lst ((rgF z (ns.take i)).map (fmR R))), ⟨_, rfl, rfl⟩, ?_, ?_⟩
  · rintro i x ρ' M2 hx ⟨o3, rfl, rfl⟩
    rw [List.getElem?_map] at hx
    obtain ⟨n, hni, rfl⟩ := Option.map_eq_some_iff.mp hx
    have fn := hn n (List.mem_of_getElem? hni)
    have ll := rgF_len z (ns.take i)
    have lt : (ns.take i).length ≤ 6 := by rw [List.length_take]; omega
    have next : rgF z (ns.take (i + 1)) = rgF z (ns.take i) ++ rgN z n := by
      unfold rgF
      rw [take_snoc hni, List.flatMap_append, List.flatMap_cons, List.flatMap_nil, List.append_nil]
    refine wg_name 3 ?_ nd
    refine wss_cons (ws_if (wt_eqS (we_var 1 rfl (we_gstr gRO ⟨decide (z = "rows"), rfl, ?_⟩))))
    by_cases hro : z = "rows"
    · rw [decide_eq_true hro]
      refine wss_cons (ws_expr (we_append (we_var 2 rfl ⟨q, _, rfl, mset_same, we_binO SF (hr.mono (by omega)) XS (we_call FM (hr.mono (by omega)) (wa_cons (we_var 3 rfl (wa_cons (we_gstr gPE (wa_nil ⟨rfl, n, "people", rfl, pts_m fn (by decide +kernel), we_call FM (hr.mono (by omega)) (wa_cons (we_var 3 rfl (wa_cons (we_gstr gRO (wa_nil ⟨rfl, n, "rows", rfl, pts_m fn (by decide +kernel), ?_⟩)))))⟩))))))⟩)))
      refine ⟨_, _, insF, insF, _, 0, _, 0, rfl, pts_m fn (by decide +kernel), pts_m fn (by decide +kernel), by show 1 ≤ 20; decide, by show 1 ≤ 20; decide, fun p hp => by rw [List.mem_singleton.mp hp]; exact bdi_1, bdi_small (by decide), fun rs hs => ⟨⟨R, _, rfl⟩, _, mset_same, by rw [List.length_map, sizeLine_eq]; omega, ?_⟩⟩
      have e := sum_pr fn hs
      subst e
      rw [mset_mset]
      refine wss_nil ?_
      have e2 : (rgF z (ns.take i)).map (fmR R) ++ [fmD R (prP n) (0 + -1 * 0)] = (rgF z (ns.take i) ++ [prR n]).map (fmR R) := by rw [List.map_append]; rfl
      rw [e2]
      refine wss_cons (ws_expr (we_append (we_var 2 rfl ⟨q, _, rfl, mset_same, we_binI io_sub SI G (hr.mono (by omega)) XS (we_call FM (hr.mono (by omega)) (wa_cons (we_var 3 rfl (wa_cons (we_var 1 rfl (wa_nil ⟨rfl, n, z, rfl, pts_m fn zw, we_int ⟨_, 1, insF, rfl, _, 0, 1, rfl, pts_m fn zw, by show 1 ≤ 1000; decide, ⟨R, _, rfl⟩, _, mset_same, ?_, ?_⟩⟩))))))⟩)))
      · rw [List.length_map, sizeLine_eq]; rw [List.length_append, List.length_singleton]; omega
      rw [mset_mset]
      refine wss_nil ⟨_, rfl, ?_⟩
      rw [next]
      unfold rgN
      rw [if_pos hro, List.map_append, List.map_append, List.map_append, List.append_assoc]
      rfl
    · rw [decide_eq_false hro]
      refine wss_nil ?_
      refine wss_cons (ws_expr (we_append (we_var 2 rfl ⟨q, _, rfl, mset_same, we_binI io_sub SI G (hr.mono (by omega)) XS (we_call FM (hr.mono (by omega)) (wa_cons (we_var 3 rfl (wa_cons (we_var 1 rfl (wa_nil ⟨rfl, n, z, rfl, pts_m fn zw, we_int ⟨_, 1, insF, rfl, _, 0, 1, rfl, pts_m fn zw, by show 1 ≤ 1000; decide, ⟨R, _, rfl⟩, _, mset_same, ?_, ?_⟩⟩))))))⟩)))
      · rw [List.length_map, sizeLine_eq]; omega
      rw [mset_mset]
      refine wss_nil ⟨_, rfl, ?_⟩
      rw [next]
      unfold rgN
      rw [if_neg hro, List.map_append]
      rfl
  · rintro ρ' M2 ⟨o3, rfl, rfl⟩
    rw [List.length_map, List.take_length]
    refine wss_let (M' := M) (ρ' := [some (.tup (ns.map D.str)), some (.str z), some (.lst ((rgF z ns).map (fmR R))), none]) (les_new hq) (.val (.same _) (.val (.same _) (.val (.lst mset_same hq) (.drop .nil)))) ?_
    exact wss_cons (ws_ret (we_var 2 rfl (Lets.of hc)))
end
end W
namespace W
open PySem PySem.Spec PyProof.Rows L2 DL SX PL SlX
section
variable {P : Program} {w : World} {K : PySem.W.Frag} {mg : Str → Option Value} {base : Heap} {C R U V L : Addr}
def cFms (C R : Addr) : Con := fun ds M Φ => ∃ z : Str, ds = [planN C tR, .str z] ∧ z ∈ lisL ∧ Φ (.tup [fmR R (fmT z tR)]) M
theorem ok_forms (F : Fx w K mg) (S : SlC K L lsN) (FL : Fc P w K mg base "lists_of" [] 14 2 (cLo C L R 2)) (FC : Fc P w K mg base "check_listed" [] 3 1 cLisOk) : BodyOk P w K mg base "forms" s_forms ["plan", "word"] 2 14 (cFms C R) := by
  intro f cdv A outer s H E hr ds M Φ hl hc
  obtain ⟨z, rfl, hz, hc⟩ := hc
  refine wss_cons (ws_expr (we_call FC (hr.mono (by omega)) (wa_cons (we_var 1 rfl (wa_nil ⟨rfl, z, rfl, hz, ?_⟩)))))
  exact wss_cons (ws_ret (we_tupleOf (F.bn _ (by decide +kernel)) (we_sfld S (we_call FL (hr.mono (by omega)) (wa_cons (we_var 0 rfl (wa_cons (we_var 1 rfl (wa_nil ⟨rfl, tR, z, rfl, .inr (.inr (.inr rfl)), by decide, hz, _, 0, _, ls_of, rfl, rfl, _, .inl rfl, Lets.of hc⟩)))))))))
def cFmsX (U : Addr) : ConX := fun ds M Φ Ξ => ∃ d q, ds = [d, kvD q] ∧ inK lisL q = false ∧ Ξ U [("value", kvD q)] M
theorem ok_forms_x (FC : Fcx P w K mg base "check_listed" [] 4 1 (cLisX U)) : BodyX P w K mg base "forms" s_forms ["plan", "word"] 2 14 (cFmsX U) := by
  intro f cdv A outer s H E hr ds M Φ Ξ hl hc
  obtain ⟨d, q, rfl, hq, hc⟩ := hc
  exact wssx_cons (wsx_expr (wex_call FC (hr.mono (by omega)) (wa_cons (we_var 1 rfl (wa_nil ⟨rfl, q, rfl, hq, hc⟩)))))
abbrev nReg : List Str := ["names", "word", "name"]
def cReg (R : Addr) : Con := fun ds M Φ => ∃ (ns : List Str) (z : Str), ds = [.tup (ns.map D.str), .str z] ∧ ns.length ≤ 6 ∧ (∀ n ∈ ns, fmN n = true) ∧ (adj ltZ ns).all id = true ∧ z ∈ lisL ∧ Φ (.tup ((rgF z ns).map (fmR R))) M
theorem fmN_sh {x : Str} (h : fmN x = true) : shS (.str x) := fun y e => by cases e; exact Nat.le_trans (fmN_all h).2 (by decide)
theorem ok_region (F : Fx w K mg) (gMN : ∃ t, mg "MOST_NAMES_forms" = some (.int 6 t)) (FN : Fc P w K mg base "is_name" [] 1 1 cNameA) (FA : Fc P w K mg base "do_ascend" [] 1 1 cAscY) (FC : Fc P w K mg base "check_listed" [] 3 1 cLisOk) (FR : Fc P w K mg base "region_of" [] 8 2 (cRgO R)) :
    BodyOk P w K mg base "region" s_region nReg 2 8 (cReg R) := by
  intro f cdv A outer s H E hr ds M Φ hl hc
  obtain ⟨ns, z, rfl, l6, hn, ha, hz, hc⟩ := hc
  have nd : nReg.Nodup := by decide +kernel
  refine wss_cons (ws_if (wt_ww (ww_or (wt_not (wt_val (we_isi (F.bn _ (by decide +kernel)) (we_var 0 rfl (we_bty (F.bn _ (by decide +kernel)) rfl ⟨.type "tuple", _, true, rfl, rfl, (by intro C h; cases h), rfl, true, rfl, ?_⟩))))))))
  refine ww_or (wt_gtI (we_len (F.bn _ (by decide +kernel)) (we_var 0 rfl ⟨_, lenT, we_gint gMN ⟨_, _, rfl, rfl, ?_⟩⟩)))
  rw [decide_eq_false (show ¬ (6 : Int) < (((ns.map D.str).length : Nat) : Int) by rw [List.length_map]; omega)]
  refine ww_or1 (wt_not (wt_val (we_all (F.bn _ (by decide +kernel)) (we_lc nd (blkOk_by (N := nReg) (sc := defScope s_region) (own := [("name", 2)]) (by decide +kernel)) (fun _ _ _ _ _ => pg_name (i := 2) nd rfl (Or.inl rfl)) (gt_name (by decide)) (fun _ _ _ _ _ => pts_nil) tk_nil (wi_tup (we_var 0 rfl ⟨_, rfl, ?_⟩))))))
  refine ⟨by rw [List.length_map, sizeLine_eq]; omega, fun i acc M2 => M2 = M ∧ acc = (List.replicate i true).map D.bl, ⟨rfl, rfl⟩, ?_, ?_⟩
  · rintro i x acc M2 hx ⟨hM2, rfl⟩
    obtain rfl : M = M2 := hM2.symm
    rw [List.getElem?_map] at hx
    obtain ⟨n, hni, rfl⟩ := Option.map_eq_some_iff.mp hx
    have fn := hn n (List.mem_of_getElem? hni)
    intro s1 H1 C1 cl1 fp1
    refine we_call FN (hr.mono (by omega)) (wa_cons (we_var 2 rfl (wa_nil ⟨rfl, .str n, by rw [avD]; rfl, fmN_sh fn, ?_⟩)))
    rw [show nmB (.str n) = true from fn]
    exact ⟨rfl, by rw [List.replicate_succ', List.map_append]; rfl⟩
  rintro acc M2 ⟨hM2, rfl⟩
  obtain rfl : M = M2 := hM2.symm
  refine ⟨_, rfl, _, rfl, ?_⟩
  rw [List.all_eq_true.mpr fun b hb => by rw [List.eq_of_mem_replicate hb]; rfl]
  refine wss_nil (wss_cons (ws_if (wt_not (wt_val (we_call FA (hr.mono (by omega)) (wa_cons (we_var 0 rfl (wa_nil ⟨rfl, ns, rfl, by omega, _, rfl, ?_⟩))))))))
  rw [ha]
  refine wss_nil (wss_cons (ws_expr (we_call FC (hr.mono (by omega)) (wa_cons (we_var 1 rfl (wa_nil ⟨rfl, z, rfl, hz, ?_⟩))))))
  exact wss_cons (ws_ret (we_tupleOf (F.bn _ (by decide +kernel)) (we_call FR (hr.mono (by omega)) (wa_cons (we_var 0 rfl (wa_cons (we_var 1 rfl (wa_nil ⟨rfl, ns, z, rfl, l6, hn, hz, _, .inl rfl, Lets.of hc⟩))))))))
/-- refused -/
def cRegX (U V : Addr) : ConX := fun ds M Φ Ξ => ∃ q wq, ds = [kvD q, kvD wq] ∧ SmK q ∧ ((nmsK q = false ∧ Ξ U [("value", kvD q)] M) ∨ (nmsK q = true ∧ inK lisL wq = false ∧ Ξ V [("value", kvD wq)] M))
theorem ok_region_x (F : Fx w K mg) (E1 : XL.Er P K mg "BadNames" U) (gMN : ∃ t, mg "MOST_NAMES_forms" = some (.int 6 t)) (FN : Fc P w K mg base "is_name" [] 1 1 cNameA) (FA : Fc P w K mg base "do_ascend" [] 1 1 cAscY) (FC : Fcx P w K mg base "check_listed" [] 4 1 (cLisX V)) :
    BodyX P w K mg base "region" s_region nReg 2 8 (cRegX U V) := by
  intro f cdv A outer s H E hr ds M Φ Ξ hl hc
  obtain ⟨q, wq, rfl, sm, hc⟩ := hc
  have nd : nReg.Nodup := by decide +kernel
  refine wssx_cons (wsx_if (WT.up (wt_ww (ww_or (wt_not (wt_val (we_isi (F.bn _ (by decide +kernel)) (we_var 0 rfl (we_bty (F.bn _ (by decide +kernel)) rfl ⟨_, _, _, kvTy9 M q, rfl, (by intro C h; cases h), kitT K q, _, rfl, ?_⟩)))))))))
  cases ht : tpOf q with
  | none =>
    have e : nmsK q = false := by unfold nmsK; rw [ht]
    refine wssx_cons (wsx_raise rfl E1 hr (we_var 0 rfl ⟨_, _, Les.refl, .same _, hc.elim (fun h => h.2) fun h => absurd h.1 (by rw [e]; decide)⟩))
  | some l =>
    obtain ⟨l1000, hsh⟩ := sm l ht
    have eq : kvD q = .tup (l.map avD) := tpOf_some ht
    have ek : nmsK q = nmsA l := by unfold nmsK; rw [ht]
    have bad : nmsA l = false → Ξ U [("value", kvD q)] M := fun h => hc.elim (fun h => h.2) fun h2 => absurd h2.1 (by rw [ek, h]; decide)
    refine ww_or (wt_gtI (we_len (F.bn _ (by decide +kernel)) (we_var 0 (congrArg (fun d => some (some d)) eq) ⟨_, lenT, we_gint gMN ⟨_, _, rfl, rfl, ?_⟩⟩)))
    by_cases l6 : l.length ≤ 6
    · rw [decide_eq_false (show ¬ (6 : Int) < (((l.map avD).length : Nat) : Int) by rw [List.length_map]; omega)]
      refine ww_or1 (wt_not (wt_val (we_all (F.bn _ (by decide +kernel)) (we_lc nd (blkOk_by (N := nReg) (sc := defScope s_region) (own := [("name", 2)]) (by decide +kernel)) (fun _ _ _ _ _ => pg_name (i := 2) nd rfl (Or.inl rfl)) (gt_name (by decide)) (fun _ _ _ _ _ => pts_nil) tk_nil (wi_tup (we_var 0 (congrArg (fun d => some (some d)) eq) ⟨_, rfl, ?_⟩))))))
      refine ⟨by rw [List.length_map, sizeLine_eq]; omega, fun i acc M2 => M2 = M ∧ acc = ((l.take i).map nmB).map D.bl, ⟨rfl, rfl⟩, ?_, ?_⟩
      · rintro i x acc M2 hx ⟨hM2, rfl⟩
        obtain rfl : M = M2 := hM2.symm
        rw [List.getElem?_map] at hx
        obtain ⟨u, hu, rfl⟩ := Option.map_eq_some_iff.mp hx
        intro s1 H1 C1 cl1 fp1
        refine we_call FN (hr.mono (by omega)) (wa_cons (we_var 2 rfl (wa_nil ⟨rfl, u, rfl, hsh u (List.mem_of_getElem? hu), rfl, ?_⟩)))
        rw [take_snoc hu, List.map_append, List.map_append]; rfl
      rintro acc M2 ⟨hM2, rfl⟩
      obtain rfl : M = M2 := hM2.symm
      rw [List.length_map, List.take_length]
      refine ⟨_, rfl, _, rfl, ?_⟩
      have ea : (l.map nmB).all id = l.all nmB := by rw [List.all_map]; rfl
      rw [ea]
      cases hb : l.all nmB with
      | false => exact wssx_cons (wsx_raise rfl E1 hr (we_var 0 rfl ⟨_, _, Les.refl, .same _, bad (nmsA_bad hb)⟩))
      | true =>
        obtain ⟨el, hfm⟩ := sts_all hb
        have es : l.map avD = (stsV l).map D.str := by
          conv => lhs; rw [el]
          exact map_strD _
        have ls : (stsV l).length ≤ 1000 := by
          have := congrArg List.length el
          rw [List.length_map] at this; omega
        refine wssx_nil (wssx_cons (wsx_if (WT.up (wt_not (wt_val (we_call FA (hr.mono (by omega)) (wa_cons (we_var 0 (congrArg (fun d => some (some d)) eq) (wa_nil ⟨rfl, stsV l, by rw [es]; rfl, ls, _, rfl, ?_⟩)))))))))
        cases hs : (adj ltZ (stsV l)).all id with
        | false => exact wssx_cons (wsx_raise rfl E1 hr (we_var 0 rfl ⟨_, _, Les.refl, .same _, bad (by rw [nmsA_asc l6 hb, hs])⟩))
        | true =>
          have e1 : nmsK q = true := by rw [ek, nmsA_asc l6 hb, hs]
          obtain ⟨h1, h2⟩ : inK lisL wq = false ∧ Ξ V [("value", kvD wq)] M := hc.elim (fun h => absurd h.1 (by rw [e1]; decide)) fun h => h.2
          exact wssx_nil (wssx_cons (wsx_expr (wex_call FC (hr.mono (by omega)) (wa_cons (we_var 1 rfl (wa_nil ⟨rfl, wq, rfl, h1, h2⟩))))))
    · rw [decide_eq_true (show (6 : Int) < (((l.map avD).length : Nat) : Int) by rw [List.length_map]; omega)]
      exact wssx_cons (wsx_raise rfl E1 hr (we_var 0 rfl ⟨_, _, Les.refl, .same _, bad (nmsA_len l6)⟩))
end
end W
namespace W
open PySem PySem.Spec PyProof.Rows L2 DL SX PL SlX
section
variable {P : Program} {w : World} {K : PySem.W.Frag} {mg : Str → Option Value} {base : Heap} {C R U V : Addr}
def prD (ps : List Pt) (n : Int) : D := .tup [.tup (ps.map ptD), .int n]
def cFlat (R : Addr) : Con := fun ds M Φ => ∃ ps n, ds = [fmD R ps n] ∧ Φ (prD ps n) M
theorem ok_flat (F : Fx w K mg) (P1 : Pc P w K mg base R "parts" 1 (cFmGet R fun ps _ => .ptup (ps.map ptD))) (P2 : Pc P w K mg base R "number" 1 (cFmGet R fun _ n => .int n)) : BodyOk P w K mg base "_law_flat" s__law_flat ["_law_form"] 1 2 (cFlat R) := by
  intro f cdv A outer s H E hr ds M Φ hl hc
  obtain ⟨ps, n, rfl, hc⟩ := hc
  exact wss_cons (ws_ret (we_pw (we_tup (wa_cons (we_prop P1 (hr.mono (by omega)) (we_var 0 rfl ⟨_, insF, ps, n, rfl, wa_cons (we_prop P2 (hr.mono (by omega)) (we_var 0 rfl ⟨_, insF, ps, n, rfl, wa_nil ⟨sz2x, _, .tup (.cons (.ptup _) (.cons (.refl _) .nil)), Lets.of hc⟩⟩))⟩))))))
end
end W
namespace W
open PySem PySem.Spec PyProof.Rows L2 DL SX PL SlX
def odA : List AV := [.non, .bl true, .int 0, .int 1, .str "", .str "x", .str "people", .str "hall", .str "Rows", .str "rows ", .lst [], .dic, .tup [.int 0], .tup [.str "rows"], .lst [.str "x"], .tup [.str "x", .str "x"]]
def odB : List AV := [.tup [.str "y", .str "x"], .tup [.str ""], .tup [.str "X"], .tup [.str "abcdefghi"], .tup [.tup [.str "x"]]]
def odC : List AV := [.tup [.non], .tup [.str "x", .int 1]]
def odK : List KV := odA.map KV.av ++ (odB.map KV.av ++ .dc "x" (.int 1) :: odC.map KV.av)
theorem odA_ok : ∀ v ∈ odA ++ (odB ++ odC), v = .dic ∨ GdA 2000 6 v := by
  intro v hv
  simp only [odA, odB, odC, List.mem_append, List.mem_cons, List.not_mem_nil, or_false] at hv
  rcases hv with (rfl | rfl | rfl | rfl | rfl | rfl | rfl | rfl | rfl | rfl | rfl | rfl | rfl | rfl | rfl | rfl) | (rfl | rfl | rfl | rfl | rfl) | (rfl | rfl)
  · exact .inr (GdA.mono gd_non (by decide) (by decide))
  · exact .inr (GdA.mono (gd_bl true) (by decide) (by decide))
  · exact .inr (GdA.mono (gd_int (by decide)) (by decide) (by decide))
  · exact .inr (GdA.mono (gd_int (by decide)) (by decide) (by decide))
  · exact .inr (GdA.mono (st_fit (by decide +kernel) (by decide +kernel) (by decide +kernel) (by decide +kernel)) (by decide) (by decide))
  · exact .inr (GdA.mono (st_fit (by decide +kernel) (by decide +kernel) (by decide +kernel) (by decide +kernel)) (by decide) (by decide))
  · exact .inr (GdA.mono (st_fit (by decide +kernel) (by decide +kernel) (by decide +kernel) (by decide +kernel)) (by decide) (by decide))
  · exact .inr (GdA.mono (st_fit (by decide +kernel) (by decide +kernel) (by decide +kernel) (by decide +kernel)) (by decide) (by decide))
  · exact .inr (GdA.mono (st_fit (by decide +kernel) (by decide +kernel) (by decide +kernel) (by decide +kernel)) (by decide) (by decide))
  · exact .inr (GdA.mono (st_fit (by decide +kernel) (by decide +kernel) (by decide +kernel) (by decide +kernel)) (by decide) (by decide))
  · exact .inr (GdA.mono (gd_lst (b := 41) (k := 0) (n := 0) (fun _ h => absurd h List.not_mem_nil) (Nat.le_refl _)) (by decide) (by decide))
  · exact .inl rfl
  · exact .inr (GdA.mono (gd_tup (b := 41) (k := 0) (n := 1) (List.forall_mem_cons.mpr ⟨((gd_int (by decide))).mono (by decide) (by decide), (fun _ h => absurd h List.not_mem_nil)⟩) (Nat.le_refl _) (by decide)) (by decide) (by decide))
  · exact .inr (GdA.mono (gd_tup (b := 41) (k := 0) (n := 1) (List.forall_mem_cons.mpr ⟨((st_fit (by decide +kernel) (by decide +kernel) (by decide +kernel) (by decide +kernel))).mono (by decide) (by decide), (fun _ h => absurd h List.not_mem_nil)⟩) (Nat.le_refl _) (by decide)) (by decide) (by decide))
  · exact .inr (GdA.mono (gd_lst (b := 41) (k := 0) (n := 1) (List.forall_mem_cons.mpr ⟨((st_fit (by decide +kernel) (by decide +kernel) (by decide +kernel) (by decide +kernel))).mono (by decide) (by decide), (fun _ h => absurd h List.not_mem_nil)⟩) (Nat.le_refl _)) (by decide) (by decide))
  · exact .inr (GdA.mono (gd_tup (b := 41) (k := 0) (n := 2) (List.forall_mem_cons.mpr ⟨((st_fit (by decide +kernel) (by decide +kernel) (by decide +kernel) (by decide +kernel))).mono (by decide) (by decide), (List.forall_mem_cons.mpr ⟨((st_fit (by decide +kernel) (by decide +kernel) (by decide +kernel) (by decide +kernel))).mono (by decide) (by decide), (fun _ h => absurd h List.not_mem_nil)⟩)⟩) (Nat.le_refl _) (by decide)) (by decide) (by decide))
  · exact .inr (GdA.mono (gd_tup (b := 41) (k := 0) (n := 2) (List.forall_mem_cons.mpr ⟨((st_fit (by decide +kernel) (by decide +kernel) (by decide +kernel) (by decide +kernel))).mono (by decide) (by decide), (List.forall_mem_cons.mpr ⟨((st_fit (by decide +kernel) (by decide +kernel) (by decide +kernel) (by decide +kernel))).mono (by decide) (by decide), (fun _ h => absurd h List.not_mem_nil)⟩)⟩) (Nat.le_refl _) (by decide)) (by decide) (by decide))
  · exact .inr (GdA.mono (gd_tup (b := 41) (k := 0) (n := 1) (List.forall_mem_cons.mpr ⟨((st_fit (by decide +kernel) (by decide +kernel) (by decide +kernel) (by decide +kernel))).mono (by decide) (by decide), (fun _ h => absurd h List.not_mem_nil)⟩) (Nat.le_refl _) (by decide)) (by decide) (by decide))
  · exact .inr (GdA.mono (gd_tup (b := 41) (k := 0) (n := 1) (List.forall_mem_cons.mpr ⟨((st_fit (by decide +kernel) (by decide +kernel) (by decide +kernel) (by decide +kernel))).mono (by decide) (by decide), (fun _ h => absurd h List.not_mem_nil)⟩) (Nat.le_refl _) (by decide)) (by decide) (by decide))
  · exact .inr (GdA.mono (gd_tup (b := 41) (k := 0) (n := 1) (List.forall_mem_cons.mpr ⟨((st_fit (by decide +kernel) (by decide +kernel) (by decide +kernel) (by decide +kernel))).mono (by decide) (by decide), (fun _ h => absurd h List.not_mem_nil)⟩) (Nat.le_refl _) (by decide)) (by decide) (by decide))
  · exact .inr (GdA.mono (gd_tup (b := 150) (k := 1) (n := 1) (List.forall_mem_cons.mpr ⟨((gd_tup (b := 41) (k := 0) (n := 1) (List.forall_mem_cons.mpr ⟨((st_fit (by decide +kernel) (by decide +kernel) (by decide +kernel) (by decide +kernel))).mono (by decide) (by decide), (fun _ h => absurd h List.not_mem_nil)⟩) (Nat.le_refl _) (by decide))).mono (by decide) (by decide), (fun _ h => absurd h List.not_mem_nil)⟩) (Nat.le_refl _) (by decide)) (by decide) (by decide))
  · exact .inr (GdA.mono (gd_tup (b := 41) (k := 0) (n := 1) (List.forall_mem_cons.mpr ⟨(gd_non).mono (by decide) (by decide), (fun _ h => absurd h List.not_mem_nil)⟩) (Nat.le_refl _) (by decide)) (by decide) (by decide))
  · exact .inr (GdA.mono (gd_tup (b := 41) (k := 0) (n := 2) (List.forall_mem_cons.mpr ⟨((st_fit (by decide +kernel) (by decide +kernel) (by decide +kernel) (by decide +kernel))).mono (by decide) (by decide), (List.forall_mem_cons.mpr ⟨((gd_int (by decide))).mono (by decide) (by decide), (fun _ h => absurd h List.not_mem_nil)⟩)⟩) (Nat.le_refl _) (by decide)) (by decide) (by decide))
theorem odK_D : odK.map kvD = [.non, .bl true, .int 0, .int 1, .str "", .str "x", .str "people", .str "hall", .str "Rows", .str "rows ", .lst [], .dK [], .tup [.int 0], .tup [.str "rows"], .lst [.str "x"], .tup [.str "x", .str "x"]] ++ ([.tup [.str "y", .str "x"], .tup [.str ""], .tup [.str "X"], .tup [.str "abcdefghi"], .tup [.tup [.str "x"]]] ++ (.dK [(.inr "x", .int 1)]) :: [.tup [.non], .tup [.str "x", .int 1]]) := by
  simp only [odK, odA, odB, odC, List.map_append, List.map_cons, List.map_nil, kvD, avD, avsD]
section
variable {P : Program} {w : World} {K : PySem.W.Frag} {mg : Str → Option Value} {base : Heap}
def cOddK : Con := fun ds M Φ => ∃ p a c d, ds = [.ob p] ∧ M p = some (potL a c d) ∧ cOk c ∧ 0 ≤ d ∧ d < 100000 ∧ ∀ q a' d', q ∈ odK → d ≤ d' → d' ≤ d + 1 → Φ (kvD q) (mset M p (potL a' c d'))
theorem ok_odd_k (F : Fx w K mg) (F1 : Fc P w K mg base "_law_of" [] 2 2 cOf) : BodyOk P w K mg base "_law_odd" s__law_odd ["_law_pot_here", "_law_some"] 1 2 cOddK := by
  intro f cdv A outer s H E hr ds M Φ hl hc
  obtain ⟨p, a, c, d, rfl, hM, co, d0, d1, hc⟩ := hc
  have nd : (["_law_pot_here", "_law_some"] : List Str).Nodup := by decide +kernel
  refine wss_cons (ws_set 1 nd (we_lst (wa_cons (we_non (wa_cons (we_bl (wa_cons (we_int (wa_cons (we_int (wa_cons (we_str (wa_cons (we_str (wa_cons (we_str (wa_cons (we_str (wa_cons (we_str (wa_cons (we_str (wa_cons (we_lst (wa_nil ⟨by decide, wa_cons (we_dict0 (wa_cons (we_tup (wa_cons (we_int (wa_nil ⟨by decide, wa_cons (we_tup (wa_cons (we_str (wa_nil ⟨by decide, wa_cons (we_lst (wa_cons (we_str (wa_nil ⟨by decide, wa_cons (we_tup (wa_cons (we_str (wa_cons (we_str (wa_nil ⟨by decide, wa_nil ⟨by decide, wss_cons (ws_ret (we_call F1 (hr.mono (by decide)) (wa_cons (we_var 0 rfl (wa_cons (we_addL (we_var 1 rfl (we_lst (wa_cons (we_tup (wa_cons (we_str (wa_cons (we_str (wa_nil ⟨by decide, wa_cons (we_tup (wa_cons (we_str (wa_nil ⟨by decide, wa_cons (we_tup (wa_cons (we_str (wa_nil ⟨by decide, wa_cons (we_tup (wa_cons (we_str (wa_nil ⟨by decide, wa_cons (we_tup (wa_cons (we_tup (wa_cons (we_str (wa_nil ⟨by decide, wa_nil ⟨by decide, wa_cons (we_disp1K (we_str (we_int ⟨_, rfl, wa_cons (we_tup (wa_cons (we_non (wa_nil ⟨by decide, wa_cons (we_tup (wa_cons (we_str (wa_cons (we_int (wa_nil ⟨by decide, wa_nil ⟨by decide, _, _, rfl, rfl, by decide, wa_nil ⟨rfl, p, _, a, c, d, rfl, by simp, by decide, hM, co, d0, d1, fun x a' d' hx k1 k2 => Lets.of ?_⟩⟩⟩))))))⟩))))⟩)))⟩⟩))))))⟩))))⟩))))⟩))))⟩)))))))))))))))⟩⟩))))))⟩))))⟩))))⟩))))))⟩)))))))))))))))))))))))))
  have hx : x ∈ odK.map kvD := by rw [odK_D]; simpa using hx
  obtain ⟨q, hq, rfl⟩ := List.mem_map.mp hx
  exact hc q a' d' hq k1 k2
abbrev nLRg : List Str := ["_law_names", "_law_word", "_law_found", "_law_name"]
def rowA (f : Row) : AV := .tup [.tup (f.1.map ptA), .int f.2]
theorem rowA_D (f : Row) : avD (rowA f) = prD f.1 f.2 := by
  show avD (.tup [.tup (f.1.map ptA), .int f.2]) = .tup [.tup (f.1.map ptD), .int f.2]
  rw [avD, avsD_map, List.map_cons, List.map_cons, List.map_nil, pts_D, avD]
def cLRg : Con := fun ds M Φ => ∃ (ns : List Str) (z : Str), ds = [.tup (ns.map D.str), .str z] ∧ ns.length ≤ 6 ∧ Φ (.lst ((rgF z ns).map fun f => prD f.1 f.2)) M
theorem ok_lregion : BodyOk P w K mg base "_law_region" s__law_region nLRg 2 0 cLRg := by
  intro f cdv A outer s H E hr ds M Φ hl hc
  obtain ⟨ns, z, rfl, l6, hc⟩ := hc
  have nd : nLRg.Nodup := by decide +kernel
  have s1 : ∀ {x : D}, ([x] : List D).length ≤ sizeLine := by intros; show 1 ≤ sizeLine; decide
  have s2 : ∀ {x y : D}, ([x, y] : List D).length ≤ sizeLine := by intros; show 2 ≤ sizeLine; decide
  refine wss_cons (ws_set 2 nd (we_lstM (wa_nil ⟨Nat.zero_le _, fun q hq => ?_⟩)))
  refine wss_cons (ws_for PassesOwn.never (wi_tup (we_var 0 rfl ⟨_, rfl, ?_⟩)))
  refine ⟨fun i ρ' M2 => ∃ o3, ρ' = [some (.tup (ns.map D.str)), some (.str z), some (.ob q), o3] ∧ M2 = mset M q (.lst ((rgF z (ns.take i)).map fun f => prD f.1 f.2)), ⟨_, rfl, rfl⟩, ?_, ?_⟩
  · rintro i x ρ' M2 hx ⟨o3, rfl, rfl⟩
    rw [List.getElem?_map] at hx
    obtain ⟨n, hni, rfl⟩ := Option.map_eq_some_iff.mp hx
    have ll := rgF_len z (ns.take i)
    have lt : (ns.take i).length ≤ 6 := by rw [List.length_take]; omega
    have next : rgF z (ns.take (i + 1)) = rgF z (ns.take i) ++ rgN z n := by
      unfold rgF
      rw [take_snoc hni, List.flatMap_append, List.flatMap_cons, List.flatMap_nil, List.append_nil]
    refine wg_name 3 ?_ nd
    refine wss_cons (ws_if (wt_eqS (we_var 1 rfl (we_str ⟨decide (z = "rows"), rfl, ?_⟩))))
    by_cases hro : z = "rows"
    · rw [decide_eq_true hro]
      refine wss_cons (ws_expr (we_append (we_var 2 rfl ⟨q, _, rfl, mset_same, we_tup (wa_cons (we_tup (wa_cons (we_tup (wa_cons (we_tup (wa_cons (we_var 3 rfl (wa_cons (we_str (wa_nil ⟨s2, wa_cons (we_int (wa_nil ⟨s2, wa_cons (we_tup (wa_cons (we_tup (wa_cons (we_var 3 rfl (wa_cons (we_str (wa_nil ⟨s2, wa_cons (we_negI (we_int ⟨_, rfl, wa_nil ⟨s2, wa_nil ⟨s2, wa_cons (we_int (wa_nil ⟨s2, _, mset_same, ?_, ?_⟩))⟩⟩⟩))⟩))))))))⟩))⟩)))))))))))⟩)))
      · rw [List.length_map, sizeLine_eq]; omega
      rw [mset_mset]
      refine wss_nil ?_
      refine wss_cons (ws_expr (we_append (we_var 2 rfl ⟨q, _, rfl, mset_same, we_tup (wa_cons (we_tup (wa_cons (we_tup (wa_cons (we_tup (wa_cons (we_var 3 rfl (wa_cons (we_var 1 rfl (wa_nil ⟨s2, wa_cons (we_int (wa_nil ⟨s2, wa_nil ⟨s1, wa_cons (we_negI (we_int ⟨_, rfl, wa_nil ⟨s2, _, mset_same, ?_, ?_⟩⟩))⟩⟩))⟩)))))))))))⟩)))
      · rw [List.length_append, List.length_map, sizeLine_eq]; show _ + 1 < _; omega
      rw [mset_mset]
      refine wss_nil ⟨_, rfl, ?_⟩
      rw [next]
      unfold rgN
      rw [if_pos hro, List.map_append, List.map_append, List.append_assoc]
      rfl
    · rw [decide_eq_false hro]
      refine wss_nil ?_
      refine wss_cons (ws_expr (we_append (we_var 2 rfl ⟨q, _, rfl, mset_same, we_tup (wa_cons (we_tup (wa_cons (we_tup (wa_cons (we_tup (wa_cons (we_var 3 rfl (wa_cons (we_var 1 rfl (wa_nil ⟨s2, wa_cons (we_int (wa_nil ⟨s2, wa_nil ⟨s1, wa_cons (we_negI (we_int ⟨_, rfl, wa_nil ⟨s2, _, mset_same, ?_, ?_⟩⟩))⟩⟩))⟩)))))))))))⟩)))
      · rw [List.length_map, sizeLine_eq]; omega
      rw [mset_mset]
      refine wss_nil ⟨_, rfl, ?_⟩
      rw [next]
      unfold rgN
      rw [if_neg hro, List.map_append]
      rfl
  · rintro ρ' M2 ⟨o3, rfl, rfl⟩
    rw [List.length_map, List.take_length]
    refine wss_let (M' := M) (ρ' := [some (.tup (ns.map D.str)), some (.str z), some (.lst ((rgF z ns).map fun f => prD f.1 f.2)), none]) (les_new hq) (.val (.same _) (.val (.same _) (.val (.lst mset_same hq) (.drop .nil)))) ?_
    exact wss_cons (ws_ret (we_var 2 rfl (Lets.of hc)))
abbrev nLNm : List Str := ["_law_value", "_law_one", "_law_sign", "_law_other"]
abbrev scLNm : Scope := { kind := .function, names := [(".0", .local), ("_law_one", .local), ("len", .globalImplicit), ("all", .globalImplicit)], isGenerator := false, isCoroutine := false }
theorem strs_all : ∀ {l : List AV}, l.all isS = true → ∃ zs : List Str, l = zs.map AV.str
  | [], _ => ⟨[], rfl⟩
  | v :: l, hb => by
    rw [List.all_cons, Bool.and_eq_true] at hb
    obtain ⟨zs, rfl⟩ := strs_all hb.2
    cases v with
    | str x => exact ⟨x :: zs, rfl⟩
    | _ => exact absurd hb.1 (by simp [isS])
def cLNm : Con := fun ds M Φ => ∃ q : KV, ds = [kvD q] ∧ SmK q ∧ Φ (.bl (nmsK q)) M
theorem ok_lnames (F : Fx w K mg) : BodyOk P w K mg base "_law_are_names" s__law_are_names nLNm 1 0 cLNm := by
  intro f cdv A outer s H E hr ds M Φ hl hc
  obtain ⟨q, rfl, sm, hc⟩ := hc
  have nd : nLNm.Nodup := by decide +kernel
  refine wss_cons (ws_if (wt_ww (ww_or (wt_not (wt_val (we_isi (F.bn _ (by decide +kernel)) (we_var 0 rfl (we_bty (F.bn _ (by decide +kernel)) rfl ⟨_, _, _, kvTy9 M q, rfl, (by intro C h; cases h), kitT K q, _, rfl, ?_⟩))))))))
  cases ht : tpOf q with
  | none =>
    have e : nmsK q = false := by unfold nmsK; rw [ht]
    rw [e] at hc
    exact wss_cons (ws_ret (we_bl (Lets.of hc)))
  | some l =>
    obtain ⟨l1000, hsh⟩ := sm l ht
    have eq : kvD q = .tup (l.map avD) := tpOf_some ht
    have ek : nmsK q = nmsA l := by unfold nmsK; rw [ht]
    rw [ek] at hc
    rw [eq]
    have ret : ∀ {b : Bool}, nmsA l = b → Φ (.bl b) M := fun e => e ▸ hc
    refine ww_or (wt_gtI (we_len (F.bn _ (by decide +kernel)) (we_var 0 rfl ⟨_, lenT, we_int ⟨_, _, rfl, rfl, ?_⟩⟩)))
    by_cases l6 : l.length ≤ 6
    · rw [decide_eq_false (show ¬ (6 : Int) < (((l.map avD).length : Nat) : Int) by rw [List.length_map]; omega)]
      refine ww_or1 (wt_not (wt_val (we_all (F.bn _ (by decide +kernel)) (we_lc nd (blkOk_by (N := nLNm) (sc := defScope s__law_are_names) (own := [("_law_one", 1)]) (by decide +kernel)) (fun _ _ _ _ _ => pg_name (i := 1) nd rfl (Or.inl rfl)) (gt_name (by decide)) (fun _ _ _ _ _ => pts_nil) tk_nil (wi_tup (we_var 0 rfl ⟨_, rfl, ?_⟩))))))
      refine ⟨by rw [List.length_map, sizeLine_eq]; omega, fun i acc M2 => M2 = M ∧ acc = ((l.take i).map isS).map D.bl, ⟨rfl, rfl⟩, ?_, ?_⟩
      · rintro i x acc M2 hx ⟨hM2, rfl⟩
        obtain rfl : M = M2 := hM2.symm
        rw [List.getElem?_map] at hx
        obtain ⟨u, hu, rfl⟩ := Option.map_eq_some_iff.mp hx
        intro s1 H1 C1 cl1 fp1
        exact we_isi (F.bn _ (by decide +kernel)) (we_var 1 rfl (we_bty (F.bn _ (by decide +kernel)) rfl ⟨_, _, _, avTy _ u, rfl, (by intro C h; cases h), kit_str u, rfl, by rw [take_snoc hu, List.map_append, List.map_append]; rfl⟩))
      rintro acc M2 ⟨hM2, rfl⟩
      obtain rfl : M = M2 := hM2.symm
      rw [List.length_map, List.take_length]
      refine ⟨_, rfl, _, rfl, ?_⟩
      have ea : (l.map isS).all id = l.all isS := by rw [List.all_map]; rfl
      rw [ea]
      cases hb : l.all isS with
      | false =>
        refine wss_cons (ws_ret (we_bl (Lets.of (ret (nmsA_bad ?_)))))
        obtain ⟨x, hx, he⟩ := List.all_eq_false.mp hb
        exact List.all_eq_false.mpr ⟨x, hx, by cases x <;> simp_all [isS, nmB]⟩
      | true =>
        obtain ⟨zs, rfl⟩ := strs_all hb
        have es : (zs.map AV.str).map avD = zs.map D.str := map_strD zs
        rw [es]
        rw [List.length_map] at l6 l1000
        have enm : (zs.map AV.str).all nmB = zs.all fmN := by rw [List.all_map]; rfl
        have hsl : ∀ z ∈ zs, z.cps.toList.length ≤ 1000000 := fun z hz => hsh (.str z) (List.mem_map_of_mem hz) z rfl
        refine wss_nil (wss_cons (ws_if (wt_not (wt_val (we_all (F.bn _ (by decide +kernel)) (we_lc nd (blkOk_by (N := nLNm) (sc := defScope s__law_are_names) (own := [("_law_one", 1)]) (by decide +kernel)) (fun _ _ _ _ _ => pg_name (i := 1) nd rfl (Or.inl rfl)) (gt_name (by decide)) (fun _ _ _ _ _ => pts_nil) tk_nil (wi_tup (we_var 0 rfl ⟨_, rfl, ?_⟩))))))))
        refine ⟨by rw [List.length_map, sizeLine_eq]; omega, fun i acc M2 => M2 = M ∧ acc = ((zs.take i).map fmN).map D.bl, ⟨rfl, rfl⟩, ?_, ?_⟩
        · rintro i x acc M2 hx ⟨hM2, rfl⟩
          obtain rfl : M = M2 := hM2.symm
          rw [List.getElem?_map] at hx
          obtain ⟨a, ha, rfl⟩ := Option.map_eq_some_iff.mp hx
          have la := hsl a (List.mem_of_getElem? ha)
          have eS : (S a.cps.toList) = a := S_toList a
          have len : a.length = a.cps.toList.length := by rw [← eS, S_len, eS]
          have fin : ∀ {b : Bool}, fmN a = b → (M = M ∧ (((zs.take i).map fmN).map D.bl) ++ [D.bl b] = ((zs.take (i + 1)).map fmN).map D.bl) := fun e => ⟨rfl, by rw [take_snoc ha, List.map_append, List.map_append, ← e]; rfl⟩
          intro s1 H1 C1 cl1 fp1
          refine we_and (we_leLe (we_int (we_len (F.bn _ (by decide +kernel)) (we_var 1 rfl ⟨_, lenS (by rw [len, sizeLine_eq]; omega), _, _, rfl, rfl, ?_⟩))))
          by_cases h1 : (1 : Int) ≤ ((a.length : Nat) : Int)
          · rw [if_pos h1]
            refine we_int ⟨_, rfl, _, rfl, ?_⟩
            by_cases h8 : ((a.length : Nat) : Int) ≤ 8
            · rw [decide_eq_true h8]
              refine we_one (we_all (F.bn _ (by decide +kernel)) (we_lc nd (blkOk_by (N := nLNm) (sc := relS scLNm (defScope s__law_are_names)) (own := [("_law_sign", 2)]) (by decide +kernel)) (fun _ _ _ _ _ => pg_name (i := 2) nd rfl (Or.inl rfl)) (gt_name (by decide)) (fun _ _ _ _ _ => pts_nil) tk_nil (wi_str (we_var 1 rfl ⟨_, rfl, ?_⟩))))
              rw [← eS]
              refine ⟨by rw [signs_S, List.length_map, sizeLine_eq]; omega, fun j acc M3 => M3 = M ∧ acc = ((a.cps.toList.take j).map letter).map D.bl, ⟨rfl, rfl⟩, ?_, ?_⟩
              · rintro j z acc M3 hx ⟨hM3, rfl⟩
                obtain rfl : M = M3 := hM3.symm
                obtain ⟨c, hc1, rfl⟩ := signs_get hx
                intro s2 H2 C2 cl2 fp2
                refine we_inC (we_var 2 rfl (we_str ⟨c, _, rfl, rfl, rfl, ?_⟩))
                rw [mem_letters, take_snoc hc1, List.map_append, List.map_append]; rfl
              · rintro acc M3 ⟨hM3, rfl⟩
                rw [signs_S, List.length_map, List.take_length]
                obtain rfl : M = M3 := hM3.symm
                refine ⟨_, rfl, fin ?_⟩
                unfold fmN isNameL
                rw [decide_eq_true (show 1 ≤ a.cps.toList.length by omega), decide_eq_true (show a.cps.toList.length ≤ 8 by omega)]
                simp
            · rw [decide_eq_false h8]
              refine fin ?_
              unfold fmN isNameL
              rw [decide_eq_false (show ¬ a.cps.toList.length ≤ 8 by omega)]; simp
          · rw [if_neg h1]
            refine ⟨_, rfl, fin ?_⟩
            unfold fmN isNameL
            rw [decide_eq_false (show ¬ 1 ≤ a.cps.toList.length by omega)]; rfl
        rintro acc M2 ⟨hM2, rfl⟩
        obtain rfl : M = M2 := hM2.symm
        rw [List.length_map, List.take_length]
        refine ⟨_, rfl, _, rfl, ?_⟩
        have ea2 : (zs.map fmN).all id = zs.all fmN := by rw [List.all_map]; rfl
        rw [ea2]
        cases hb2 : zs.all fmN with
        | false => exact wss_cons (ws_ret (we_bl (Lets.of (ret (nmsA_bad (by rw [enm, hb2]))))))
        | true =>
          have hz : (zipD (zs.map D.str) (DL.cutD (zs.map D.str) (some 1) none)).length = (adj ltZ zs).length := by
            simp only [zipD, adj, cut_fr1, List.length_map, List.length_zip, List.length_drop, List.length_zipWith]
          have hz2 : (adj ltZ zs).length ≤ 1000 := by simp only [adj, List.length_zipWith]; omega
          refine wss_nil (wss_cons (ws_ret (we_all (F.bn _ (by decide +kernel)) (we_lc nd (blkOk_by (N := nLNm) (sc := defScope s__law_are_names) (own := [("_law_one", 1), ("_law_other", 3)]) (by decide +kernel)) (fun _ _ _ _ _ => pg_tup rfl (pgs_cons (pg_name (i := 1) nd rfl (Or.inl rfl)) (pgs_cons (pg_name (i := 3) nd rfl (Or.inl rfl)) pgs_nil)) rfl rfl) (gt_two (by decide) (by decide)) (fun _ _ _ _ _ => pts_nil) tk_nil (wi_zipT (F.bn _ (by decide +kernel)) (we_var 0 rfl (we_slice (we_var 0 rfl (we_int ⟨_, rfl, _, .inr (.inl ⟨_, rfl, rfl⟩), _, _, rfl, rfl, ?_⟩)))))))))
          refine ⟨by rw [hz, sizeLine_eq]; omega, fun i acc M3 => M3 = M ∧ acc = ((adj ltZ zs).take i).map D.bl, ⟨rfl, rfl⟩, ?_, ?_⟩
          · rintro i x acc M3 hx ⟨hM3, rfl⟩
            obtain rfl : M = M3 := hM3.symm
            obtain ⟨x1, x2, hx1, hx2, rfl⟩ := zipD_get hx
            rw [cut_fr1, List.getElem?_drop, List.getElem?_map] at hx2
            rw [List.getElem?_map] at hx1
            obtain ⟨u, hu, rfl⟩ := Option.map_eq_some_iff.mp hx1
            obtain ⟨v, hv, rfl⟩ := Option.map_eq_some_iff.mp hx2
            refine ⟨_, _, rfl, ?_⟩
            intro s1 H1 C1 cl1 fp1
            refine we_ltS (we_var 1 rfl (we_var 3 rfl ⟨u, v, rfl, rfl, ?_⟩))
            have e : (adj ltZ zs)[i]? = some (ltZ u v) := by
              unfold adj
              rw [List.getElem?_zipWith, hu, List.getElem?_drop, hv]
            exact ⟨rfl, by rw [take_snoc e, List.map_append]; rfl⟩
          · rintro acc M3 ⟨hM3, rfl⟩
            obtain rfl : M = M3 := hM3.symm
            rw [hz, List.take_length]
            refine ⟨_, rfl, Lets.of (ret ?_)⟩
            rw [nmsA_asc (by rw [List.length_map]; exact l6) (by rw [enm, hb2]), sts_map]
    · rw [decide_eq_true (show (6 : Int) < (((l.map avD).length : Nat) : Int) by rw [List.length_map]; omega)]
      exact wss_cons (ws_ret (we_bl (Lets.of (ret (nmsA_len l6)))))
end
end W
namespace W
open PySem PySem.Spec PyProof.Rows L2 DL SX PL SlX
def poolL : List Str := ["a", "b", "people", "rows", "x", "xy", "zzzzzzzz", "y"]
theorem pool_ok : ∀ n ∈ poolL, fmN n = true ∧ GdA 41 0 (.str n) := by
  intro n hn
  simp only [poolL, List.mem_cons, List.not_mem_nil, or_false] at hn
  rcases hn with rfl | rfl | rfl | rfl | rfl | rfl | rfl | rfl <;> exact ⟨by decide +kernel, st_fit (by decide +kernel) (by decide +kernel) (by decide +kernel) (by decide +kernel)⟩
/-- a value that can be shown and looked at -/
structure VK (q : KV) : Prop where
  ok : KvOk q
  sm : SmK q
theorem smk_gd {v : AV} (h : SmA v) : SmK (.av v) := fun l e => by
  cases v with
  | tup m =>
    obtain rfl : m = l := Option.some.inj e
    exact ⟨h.t.1, fun u hu => (h.t.2 u hu).s⟩
  | _ => cases e
theorem vk_gd {v : AV} {b k : Nat} (h : GdA b k v) (hb : b ≤ 100000) (hk : k ≤ 50) : VK (.av v) := by
  obtain ⟨c, s⟩ := avI_ok h.g
  have h1 := h.d
  have h2 := h.l
  refine ⟨⟨(h.fit hb hk).1, s.1, s.1, ?_, ?_⟩, smk_gd h.s⟩
  · have := s.2
    show (avP v).shown.length ≤ sizeLine
    rw [sizeLine_eq]; omega
  · show (avP v).depth ≤ 60
    have := c.dep
    omega
theorem vk_dic : VK (.av .dic) := ⟨⟨.inr (.inl rfl), by decide +kernel, by decide +kernel, by rw [sizeLine_eq]; decide +kernel, by decide +kernel⟩, fun l e => by cases e⟩
theorem vk_dk : VK (.dc "x" (.int 1)) := ⟨⟨((gd_int (i := 1) (by decide)).fit (by decide) (by decide)).1, by decide +kernel, by decide +kernel, by rw [sizeLine_eq]; decide +kernel, by decide +kernel⟩, fun l e => by cases e⟩
theorem vk_odd {q : KV} (h : q ∈ odK) : VK q := by
  have key : ∀ v ∈ odA ++ (odB ++ odC), VK (.av v) := fun v hv => by
    rcases odA_ok v hv with rfl | g
    · exact vk_dic
    · exact vk_gd g (by decide) (by decide)
  unfold odK at h
  rcases List.mem_append.mp h with h | h
  · obtain ⟨v, hv, rfl⟩ := List.mem_map.mp h
    exact key v (List.mem_append_left _ hv)
  · rcases List.mem_append.mp h with h | h
    · obtain ⟨v, hv, rfl⟩ := List.mem_map.mp h
      exact key v (List.mem_append_right _ (List.mem_append_left _ hv))
    · rcases List.mem_cons.mp h with rfl | h
      · exact vk_dk
      · obtain ⟨v, hv, rfl⟩ := List.mem_map.mp h
        exact key v (List.mem_append_right _ (List.mem_append_right _ hv))
/-- drawn names -/
structure NmD (ns : List Str) : Prop where
  few : ns.length ≤ 6
  pool : ∀ n ∈ ns, n ∈ poolL
  up : (adj ltZ ns).all id = true
theorem ltZ_tr {a b c : Str} (h1 : ltZ a b = true) (h2 : ltZ b c = true) : ltZ a c = true := decide_eq_true (List.lt_trans (of_decide_eq_true h1) (of_decide_eq_true h2))
theorem nmD_of {zs ys : List Str} (hz : ∀ z ∈ zs, z ∈ poolL) (hy : ys.Perm (dedZ [] zs)) (hs : sortedS ys = true) : NmD (ys.take 6) := by
  have h1 := sorted_pw ys hs
  have h2 : ys.Nodup := hy.nodup_iff.mpr (dedZ_nd _ _ .nil)
  have h3 : ys.Pairwise fun a b => ltZ a b = true := by
    refine List.Pairwise.imp ?_ (List.pairwise_and_iff.mpr ⟨h1, h2⟩)
    rintro a b ⟨hle, hne⟩
    by_cases h : a.cps.toList < b.cps.toList
    · exact decide_eq_true h
    · exact absurd (leZ_anti hle ((leZ_iff _ _).mpr (List.not_lt.mp h))) hne
  refine ⟨by rw [List.length_take]; omega, fun n hn => hz n ?_, (adj_iff (r := ltZ) (fun _ _ _ a b => ltZ_tr a b) _).mpr (h3.sublist (List.take_sublist _ _))⟩
  have := hy.mem_iff.mp (List.mem_of_mem_take hn)
  rw [dedZ_mem] at this
  simpa using this
theorem NmD.gd {ns : List Str} (h : NmD ns) : ∀ u ∈ ns.map AV.str, GdA 41 0 u := fun u hu => by
  obtain ⟨n, hn, rfl⟩ := List.mem_map.mp hu
  exact (pool_ok n (h.pool n hn)).2
theorem NmD.fm {ns : List Str} (h : NmD ns) : ∀ n ∈ ns, fmN n = true := fun n hn => (pool_ok n (h.pool n hn)).1
theorem vk_tup {ns : List Str} (h : NmD ns) : VK (.av (.tup (ns.map AV.str))) := vk_gd (gd_tup (n := 6) h.gd (by rw [List.length_map]; exact h.few) (by decide)) (by decide) (by decide)
theorem vk_lst {ns : List Str} (h : NmD ns) : VK (.av (.lst (ns.map AV.str))) := vk_gd (gd_lst (n := 6) h.gd (by rw [List.length_map]; exact h.few)) (by decide) (by decide)
theorem vk_pool : VK (.av (.tup (poolL.map AV.str))) := vk_gd (gd_tup (n := 8) (fun u hu => by
  obtain ⟨n, hn, rfl⟩ := List.mem_map.mp hu
  exact (pool_ok n hn).2) (by rw [List.length_map]; decide) (by decide)) (by decide) (by decide)
theorem D_tup (ns : List Str) : kvD (.av (.tup (ns.map AV.str))) = .tup (ns.map D.str) := by
  show avD (.tup (ns.map AV.str)) = _
  rw [avD, avsD_map, map_strD]
theorem D_lst (ns : List Str) : kvD (.av (.lst (ns.map AV.str))) = .lst (ns.map D.str) := by
  show avD (.lst (ns.map AV.str)) = _
  rw [avD, avsD_map, map_strD]
theorem D_str (z : Str) : kvD (.av (.str z)) = .str z := by show avD (.str z) = _; rw [avD]
/-- the words that are drawn -/
def wd3 : List Str := ["rows", "circle", "hall"]
theorem vk_wd {z : Str} (h : z ∈ wd3) : VK (.av (.str z)) := by
  simp only [wd3, List.mem_cons, List.not_mem_nil, or_false] at h
  rcases h with rfl | rfl | rfl <;> exact vk_gd (st_fit (by decide +kernel) (by decide +kernel) (by decide +kernel) (by decide +kernel)) (by decide) (by decide)
theorem nmsK_some {q : KV} (h : nmsK q = true) : ∃ ns : List Str, kvD q = .tup (ns.map D.str) ∧ ns.length ≤ 6 ∧ (∀ n ∈ ns, fmN n = true) ∧ (adj ltZ ns).all id = true := by
  unfold nmsK at h
  cases ht : tpOf q with
  | none => rw [ht] at h; cases h
  | some l =>
    rw [ht] at h
    obtain ⟨ns, rfl, h1, h2, h3⟩ := nmsA_some h
    exact ⟨ns, by rw [tpOf_some ht, map_strD], h1, h2, h3⟩
/-- the Forms of a region, shown -/
theorem lis_gd {z : Str} (h : z ∈ lisL) : GdA 41 0 (.str z) := by
  simp only [lisL, List.mem_cons, List.not_mem_nil, or_false] at h
  rcases h with rfl | rfl | rfl | rfl <;> exact st_fit (by decide +kernel) (by decide +kernel) (by decide +kernel) (by decide +kernel)
theorem pt_gdA {n z : Str} {i : Int} (hn : GdA 41 0 (.str n)) (hz : GdA 41 0 (.str z)) (hi : i.natAbs < 10 ^ 39) : GdA 276 2 (ptA ((n, z), i)) :=
  (gd_tup (n := 2) (forall2 (gd_tup (n := 2) (forall2 hn hz) (Nat.le_refl 2) (by decide)) ((gd_int hi).mono (by decide) (by decide))) (Nat.le_refl 2) (by decide)).mono (by decide) (by decide)
theorem row_gd {ps : List Pt} {i : Int} (h : ∀ p ∈ ps, GdA 276 2 (ptA p)) (hl : ps.length ≤ 2) (hi : i.natAbs < 10 ^ 39) : GdA 2000 4 (rowA (ps, i)) := by
  refine (gd_tup (n := 2) (b := 559) (k := 3) (forall2 (gd_tup (n := 2) (b := 276) (k := 2) (l := ps.map ptA) (fun u hu => ?_) (by rw [List.length_map]; exact hl) (by decide)) ((gd_int hi).mono (by decide) (by decide))) (Nat.le_refl 2) (by decide)).mono (by decide) (by decide)
  obtain ⟨p, hp, rfl⟩ := List.mem_map.mp hu
  exact h p hp
theorem rgN_gd {n z : Str} (hn : n ∈ poolL) (hz : z ∈ lisL) : ∀ f ∈ rgN z n, GdA 2000 4 (rowA f) := by
  have g := (pool_ok n hn).2
  have w1 : GdA 41 0 (.str "people") := lis_gd (by decide +kernel)
  have w2 : GdA 41 0 (.str "rows") := lis_gd (by decide +kernel)
  intro f hf
  unfold rgN at hf
  rcases List.mem_append.mp hf with hf | hf
  · split at hf
    · rw [List.mem_singleton.mp hf]
      exact row_gd (forall2 (pt_gdA g w1 (by decide)) (pt_gdA g w2 (by decide))) (Nat.le_refl 2) (by decide)
    · cases hf
  · rw [List.mem_singleton.mp hf]
    exact row_gd (forall1 (pt_gdA g (lis_gd hz) (by decide))) (by show 1 ≤ 2; decide) (by decide)
def rgV (z : Str) (ns : List Str) : AV := .lst ((rgF z ns).map rowA)
theorem rgV_D (z : Str) (ns : List Str) : avD (rgV z ns) = .lst ((rgF z ns).map fun f => prD f.1 f.2) := by
  unfold rgV
  rw [avD, avsD_map, List.map_map]
  exact congrArg D.lst (List.map_congr_left fun f _ => rowA_D f)
theorem rgV_rp {z : Str} {ns : List Str} (h : NmD ns) (hz : z ∈ lisL) : RpD (rgV z ns) := by
  refine ((gd_lst (n := 12) (b := 2000) (k := 4) (l := (rgF z ns).map rowA) (fun u hu => ?_) ?_).fit (by decide) (by decide)).1
  · obtain ⟨f, hf, rfl⟩ := List.mem_map.mp hu
    obtain ⟨n, hn, hf⟩ := List.mem_flatMap.mp hf
    exact rgN_gd (h.pool n hn) hz f hf
  · have := rgF_len z ns
    have := h.few
    rw [List.length_map]; omega
end W
namespace W
open PySem PySem.Spec PyProof.Rows L2 DL SX PL SlX
abbrev qR21 : Str := "_law_right.<locals>.<lambda>"
abbrev nRgt21 : List Str := ["_law_pot_here", "_law_pool", "_law_names", "_law_lap", "_law_word", "_law_found", "_law_flat_here", "_law_form", "_law_plan", "_law_some", "_law_is_kind", "_law_caught_here", "_law_other"]
theorem cut_to6 {α : Type} (xs : List α) : DL.cutD xs none (some 6) = xs.take 6 := by
  unfold DL.cutD
  rw [HT.sIx_none, show (6 : Int) = ((6 : Nat) : Int) from rfl, HT.sIx_nat, List.drop_zero, Nat.sub_zero]
  by_cases h : 6 ≤ xs.length
  · rw [Nat.min_eq_left h]
  · rw [Nat.min_eq_right (by omega), List.take_of_length_le (Nat.le_refl _), List.take_of_length_le (by omega)]
section
variable {P : Program} {w : World} {K : PySem.W.Frag} {mg : Str → Option Value} {base : Heap} {C R U V : Addr}
def cRgt21 (T : Addr) : Con := fun ds M Φ => ∃ p a c d, ds = [.ob p] ∧ M p = some (potL a c d) ∧ cOk c ∧ 0 ≤ d ∧ d < 10000 ∧ M T = some (.tbl qR21) ∧ ∀ a' d', d ≤ d' → d' ≤ d + 1000 → Φ (.bl true) (mset M p (potL a' c d'))
theorem ok_right21 {B cd T : Addr} (F : Fx w K mg) (TB : LamX.TabB base mg cd T) (gB : mg "CrowdError" = some (.ref B)) (E1 : Ek P K mg B "BadNames" U) (E2 : Ek P K mg B "BadWord" V) (Tc : Ct K mg "_law_caught" s__law_caught "_law_look")
    (FT : Fc P w K mg base "_law_take" [] 1 2 cTake) (F1 : Fc P w K mg base "_law_of" [] 2 2 cOf) (K1 : Kc P w K mg base "Plan" C [] 10 2 (cInitN C 2)) (FR : Fc P w K mg base "region" [] 9 2 (cReg R)) (FRx : Fcx P w K mg base "region" [] 9 2 (cRegX U V)) (FF : Fc P w K mg base "forms" [] 15 2 (cFms C R)) (FFx : Fcx P w K mg base "forms" [] 15 2 (cFmsX V))
    (FL : Fc P w K mg base "_law_flat" [] 3 1 (cFlat R)) (FLR : Fc P w K mg base "_law_region" [] 1 2 cLRg) (FO : Fc P w K mg base "_law_odd" [] 3 1 cOddK) (FN : Fc P w K mg base "_law_are_names" [] 1 1 cLNm) :
    BodyC P w K mg base "_law_right" s__law_right nRgt21 1 18 cd (cRgt21 T) := by
  intro f A outer s H EX hg hr ds M Φ hl hc
  obtain ⟨p, a, c, d, rfl, hM, co, d0, d1, hT, hc⟩ := hc
  have nd : nRgt21.Nodup := by decide +kernel
  have gR : mg "repr" = none := F.bn _ (by decide +kernel)
  have u70 : (A.deeper (envOfC "_law_right" (defScope s__law_right) s.heap.objs.size f (.ref cd))).units + 70 < cLine := by have := hr.un; omega
  have nT : T ≠ p := fun z => by rw [← z, hT] at hM; cases hM
  have tb : ∀ {o : MO}, mset M p o T = some (.tbl qR21) := fun {o} => by rw [mset_ne nT]; exact hT
  refine wss_cons (ws_par 1 2 nd (wa_cons (we_lst (wa_cons (we_str (wa_cons (we_str (wa_cons (we_str (wa_cons (we_str (wa_cons (we_str (wa_cons (we_str (wa_cons (we_str (wa_cons (we_str (wa_nil ⟨by show 8 ≤ sizeLine; decide, wa_cons (we_lstM (wa_nil ⟨Nat.zero_le _, fun q0 hq0 => wa_nil ⟨_, _, rfl, ?_⟩⟩))⟩))))))))))))))))))))
  have pq : p ≠ q0 := fun e => by rw [e, hq0] at hM; cases hM
  refine wss_cons (ws_for PassesOwn.never (wi_range1 (F.bn _ (by decide +kernel)) (wa_cons (we_call FT (hr.mono (by decide)) (wa_cons (we_var 0 rfl (wa_cons (we_int (wa_nil ⟨rfl, p, 9, a, c, d, rfl, by decide, by decide, by rw [mset_ne pq]; exact hM, co, d0, by omega, fun r a1 e1 r0 r9 k1 k2 => wa_nil ⟨_, rfl, by omega, by omega, ?_⟩⟩)))))))))
  obtain ⟨n, rfl⟩ := Int.eq_ofNat_of_zero_le r0
  rw [msetComm pq, show ((n : Nat) : Int).toNat = n by omega]
  have n9 : n < 9 := by omega
  refine ⟨fun i ρ' M' => ∃ o3 a' e' zs, ρ' = [some (.ob p), some (.lst (poolL.map D.str)), some (.ob q0), o3, none, none, none, none, none, none, none, none, none] ∧ M' = mset (mset M p (potL a' c e')) q0 (.lst (zs.map D.str)) ∧ e1 ≤ e' ∧ e' ≤ e1 + (i : Nat) ∧ zs.length = i ∧ ∀ z ∈ zs, z ∈ poolL, ⟨none, a1, e1, [], rfl, rfl, Int.le_refl _, by omega, rfl, fun z h => absurd h List.not_mem_nil⟩, ?_, ?_⟩
  · rintro i x ρ' M' hx ⟨o3, a', e', zs, rfl, rfl, l1, l2, hlen, hin⟩
    obtain ⟨hi, rfl⟩ := rngD_get hx
    have hi : i < n := hi
    refine wg_name 3 ?_ nd
    have mp : ∀ {a e : Int}, mset (mset M p (potL a c e)) q0 (.lst (zs.map D.str)) p = some (potL a c e) := fun {a e} => by rw [mset_ne pq, mset_same]
    refine wss_cons (ws_expr (we_append (we_var 2 rfl ⟨q0, _, rfl, mset_same, we_call F1 (hr.mono (by decide)) (wa_cons (we_var 0 rfl (wa_cons (we_var 1 rfl (wa_nil ⟨rfl, p, poolL.map D.str, a', c, e', rfl, by decide, by decide, mp, co, by omega, by omega, fun x a2 e2 hx2 k3 k4 => ?_⟩)))))⟩)))
    obtain ⟨z, hzp, rfl⟩ := List.mem_map.mp hx2
    rw [msetComm pq, mset_mset]
    refine ⟨zs.map D.str, mset_same, by rw [List.length_map, sizeLine_eq]; omega, ?_⟩
    rw [mset_mset]
    refine wss_nil ⟨_, a2, e2, zs ++ [z], rfl, by rw [List.map_append]; rfl, by omega, by omega, by rw [List.length_append, hlen]; rfl, fun y hy => ?_⟩
    rcases List.mem_append.mp hy with hy | hy
    · exact hin y hy
    · rw [List.mem_singleton.mp hy]; exact hzp
  rintro ρ' M' ⟨o3, a', e', zs, rfl, rfl, l1, l2, hlen, hin⟩
  rw [rngD_len] at hlen l2
  refine wss_fz (i := 2) (ds := zs.map D.str) rfl mset_same ?_
  have del : mdel (mset (mset M p (potL a' c e')) q0 (.lst (zs.map D.str))) q0 = mset M p (potL a' c e') := mdel_mset (by rw [mset_ne (Ne.symm pq)]; exact hq0)
  rw [del]
  refine wss_cons (ws_set 2 nd (we_tupleOf (F.bn _ (by decide +kernel)) (we_slice (we_sortedSetS (F.bn _ (by decide +kernel)) (F.bn _ (by decide +kernel)) (we_var 2 rfl ⟨zs, rfl, by omega, fun ys hy hs => we_int ⟨_, rfl, _, .inl ⟨_, rfl, rfl⟩, _, .inl rfl, ?_⟩⟩)))))
  rw [cut_to6, ← List.map_take]
  have hns := nmD_of hin hy hs
  generalize ys.take 6 = ns at hns
  refine wss_cons (ws_for PassesOwn.never (wi_tup (we_tup (wa_cons (we_str (wa_cons (we_str (wa_cons (we_str (wa_cons (we_str (wa_nil ⟨by decide, lisL.map D.str, rfl, ?_⟩))))))))))))
  refine ⟨fun i ρ' M' => ∃ o4 o5 o6 o7, ρ' = [some (.ob p), some (.lst (poolL.map D.str)), some (.tup (ns.map D.str)), o3, o4, o5, o6, o7, none, none, none, none, none] ∧ M' = mset M p (potL a' c e'), ⟨_, _, _, _, rfl, rfl⟩, ?_, ?_⟩
  · rintro i x ρ' M' hx ⟨o4, o5, o6, o7, rfl, rfl⟩
    rw [List.getElem?_map] at hx
    obtain ⟨z, hz, rfl⟩ := Option.map_eq_some_iff.mp hx
    have hzl := List.mem_of_getElem? hz
    have ll := rgF_len z ns
    have l6 := hns.few
    refine wg_name 4 ?_ nd
    refine wss_cons (ws_set 5 nd (we_call FR (hr.mono (by decide)) (wa_cons (we_var 2 rfl (wa_cons (we_var 4 rfl (wa_nil ⟨rfl, ns, z, rfl, l6, hns.fm, hns.up, hzl, ?_⟩)))))))
    refine wss_cons (ws_setLc 6 nd (blkOk_by (N := nRgt21) (sc := defScope s__law_right) (own := [("_law_form", 7)]) (by decide +kernel)) (fun _ _ _ _ _ => pg_name (i := 7) nd rfl (Or.inl rfl)) (gt_name (by decide)) (fun _ _ _ _ _ => pts_nil) tk_nil (wi_tup (we_var 5 rfl ⟨_, rfl, ?_⟩)) rfl)
    refine ⟨by rw [List.length_map, sizeLine_eq]; omega, fun j acc M2 => M2 = mset M p (potL a' c e') ∧ acc = ((rgF z ns).take j).map fun f => prD f.1 f.2, ⟨rfl, rfl⟩, ?_, ?_⟩
    · rintro j y acc M2 hy2 ⟨rfl, rfl⟩
      rw [List.getElem?_map] at hy2
      obtain ⟨g, hg2, rfl⟩ := Option.map_eq_some_iff.mp hy2
      intro s1 H1 C1 cl1 fp1
      refine we_call FL (hr.mono (by decide)) (wa_cons (we_var 7 rfl (wa_nil ⟨rfl, g.1, g.2, rfl, rfl, ?_⟩)))
      rw [take_snoc hg2, List.map_append]; rfl
    rintro acc M2 ⟨rfl, rfl⟩
    rw [List.length_map, List.take_length]
    refine wss_cons (ws_if (wt_ww (ww_or (wt_not (wt_val (we_isi (F.bn _ (by decide +kernel)) (we_var 5 rfl (we_bty (F.bn _ (by decide +kernel)) rfl ⟨.type "tuple", _, true, rfl, rfl, (by intro C h; cases h), rfl, true, rfl, ?_⟩))))))))
    refine ww_or1 (wt_neS (we_reprV gR hg hr.units (we_var 6 rfl ⟨rgV z ns, (rgV_D z ns).symm, rgV_rp hns hzl, we_reprV gR hg hr.units (we_call FLR (hr.mono (by decide)) (wa_cons (we_var 2 rfl (wa_cons (we_var 4 rfl (wa_nil ⟨rfl, ns, z, rfl, l6, rgV z ns, (rgV_D z ns).symm, rgV_rp hns hzl, _, rfl, ?_⟩))))))⟩)))
    rw [decide_eq_true rfl]
    exact wss_nil (wss_nil ⟨_, _, _, _, rfl, rfl⟩)
  rintro ρ' M' ⟨o4, o5, o6, o7, rfl, rfl⟩
  refine wss_cons (ws_set 8 nd (we_plan_n K1 (hr.mono (by decide)) (we_str ⟨tR, txt_r.symm, good_r, by decide, by decide, by decide, by decide, by decide, ?_⟩)))
  refine wss_cons (ws_for PassesOwn.never (wi_range1 (F.bn _ (by decide +kernel)) (wa_cons (we_int (wa_nil ⟨_, rfl, by decide, by decide, ?_⟩)))))
  refine ⟨fun i ρ' M' => ∃ o3 o4 o9 o10 o11 o12 a2 e2, ρ' = [some (.ob p), some (.lst (poolL.map D.str)), some (.tup (ns.map D.str)), o3, o4, o5, o6, o7, some (planN C tR), o9, o10, o11, o12] ∧ M' = mset M p (potL a2 c e2) ∧ e' ≤ e2 ∧ e2 ≤ e' + 4 * (i : Nat), ⟨_, _, _, _, _, _, a', e', rfl, rfl, Int.le_refl _, by omega⟩, ?_, ?_⟩
  · rintro i x ρ' M' hx ⟨o3, o4, o9, o10, o11, o12, a2, e2, rfl, rfl, j1, j2⟩
    obtain ⟨hi, rfl⟩ := rngD_get hx
    have hi : i < 16 := hi
    refine wg_name 3 ?_ nd
    refine wss_cons (ws_set 9 nd (we_call F1 (hr.mono (by decide)) (wa_cons (we_var 0 rfl (wa_cons (we_lst (wa_cons (we_var 2 rfl (wa_cons (we_var 2 rfl (wa_cons (we_call FO (hr.mono (by decide)) (wa_cons (we_var 0 rfl (wa_nil ⟨rfl, p, a2, c, e2, rfl, mset_same, co, by omega, by omega, fun o a3 e3 ho k5 k6 => wa_cons (we_listOf (F.bn _ (by decide +kernel)) (we_var 2 rfl ⟨_, .inr rfl, wa_cons (we_tupleOf (F.bn _ (by decide +kernel)) (we_var 1 rfl ⟨_, .inl rfl, wa_nil ⟨by show 5 ≤ sizeLine; decide, wa_nil ⟨rfl, p, _, a3, c, e3, rfl, by simp, by show 5 ≤ 1000000; decide, mset_same, co, by omega, by omega, fun x a4 e4 hx k7 k8 => ?_⟩⟩⟩))⟩))⟩)))))))))))))))
    rw [mset_mset, mset_mset]
    obtain ⟨q, rfl, hq⟩ : ∃ q, x = kvD q ∧ VK q := by
      simp only [List.mem_cons, List.not_mem_nil, or_false] at hx
      rcases hx with rfl | rfl | rfl | rfl | rfl
      · exact ⟨_, (D_tup ns).symm, vk_tup hns⟩
      · exact ⟨_, (D_tup ns).symm, vk_tup hns⟩
      · exact ⟨o, rfl, vk_odd ho⟩
      · exact ⟨_, (D_lst ns).symm, vk_lst hns⟩
      · exact ⟨_, (D_tup poolL).symm, vk_pool⟩
    clear hx
    refine wss_cons (ws_set 4 nd (we_call F1 (hr.mono (by decide)) (wa_cons (we_var 0 rfl (wa_cons (we_lst (wa_cons (we_str (wa_cons (we_str (wa_cons (we_str (wa_cons (we_call FO (hr.mono (by decide)) (wa_cons (we_var 0 rfl (wa_nil ⟨rfl, p, a4, c, e4, rfl, mset_same, co, by omega, by omega, fun o2 a5 e5 ho2 k9 k10 => wa_nil ⟨by show 4 ≤ sizeLine; decide, wa_nil ⟨rfl, p, _, a5, c, e5, rfl, by simp, by show 4 ≤ 1000000; decide, mset_same, co, by omega, by omega, fun x a6 e6 hx k11 k12 => ?_⟩⟩⟩)))))))))))))))))
    rw [mset_mset, mset_mset]
    obtain ⟨wq, rfl, hwv⟩ : ∃ q, x = kvD q ∧ VK q := by
      simp only [List.mem_cons, List.not_mem_nil, or_false] at hx
      rcases hx with rfl | rfl | rfl | rfl
      · exact ⟨_, (D_str "rows").symm, vk_wd (by decide +kernel)⟩
      · exact ⟨_, (D_str "circle").symm, vk_wd (by decide +kernel)⟩
      · exact ⟨_, (D_str "hall").symm, vk_wd (by decide +kernel)⟩
      · exact ⟨o2, rfl, vk_odd ho2⟩
    clear hx
    refine wss_cons (ws_set 10 nd (WE.imp (Φ' := fun d M9 => d = .bl (inK lisL wq) ∧ M9 = mset M p (potL a6 c e6)) ?kind fun d9 M9 h9 => ?_))
    case kind =>
      cases e9 : isSt wq with
      | none =>
        exact we_and (we_isi (F.bn _ (by decide +kernel)) (we_var 4 rfl (we_bty (F.bn _ (by decide +kernel)) rfl ⟨_, _, false, kvTy9 _ wq, rfl, (by intro C h; cases h), kitS K e9, false, rfl, by unfold inK; rw [e9]; exact ⟨rfl, rfl⟩⟩)))
      | some z9 =>
        obtain rfl := isSt_some e9
        refine we_and (we_isi (F.bn _ (by decide +kernel)) (we_var 4 rfl (we_bty (F.bn _ (by decide +kernel)) rfl ⟨_, _, true, kvTy9 _ _, rfl, (by intro C h; cases h), kit_str (.str z9), true, rfl, ?_⟩)))
        exact we_one (we_inS (we_var 4 rfl (we_tup (wa_cons (we_str (wa_cons (we_str (wa_cons (we_str (wa_cons (we_str (wa_nil ⟨by show 4 ≤ sizeLine; decide, z9, lisL, D_str z9, .inl rfl, rfl, rfl⟩))))))))))))
    obtain ⟨rfl, rfl⟩ := h9
    let RR : Rho → Prop := fun ρ => ρ[9]? = some (some (kvD q)) ∧ ρ[4]? = some (some (kvD wq)) ∧ ρ[8]? = some (some (planN C tR))
    have go : ∀ {b : Rho}, (∃ o3 o4 o9 o10 o11 o12, b = [some (.ob p), some (.lst (poolL.map D.str)), some (.tup (ns.map D.str)), o3, o4, o5, o6, o7, some (planN C tR), o9, o10, o11, o12]) → ∃ o3 o4 o9 o10 o11 o12 a2 e2, b = [some (.ob p), some (.lst (poolL.map D.str)), some (.tup (ns.map D.str)), o3, o4, o5, o6, o7, some (planN C tR), o9, o10, o11, o12] ∧ mset M p (potL a6 c e6) = mset M p (potL a2 c e2) ∧ e' ≤ e2 ∧ e2 ≤ e' + 4 * ((i + 1 : Nat) : Int) := fun ⟨o3, o4, o9, o10, o11, o12, e⟩ => ⟨o3, o4, o9, o10, o11, o12, a6, e6, e, rfl, by omega, by omega⟩
    cases hn : nmsK q with
    | false =>
      cases hw : inK lisL wq with
      | false =>
        refine wss_cons (ws_set 11 nd (we_ctL E1 Tc gB (hr.mono (by decide)) (we_lamL (k := 15) (U := U) (ok := false) (v := kvD q) RR TB tb rfl rfl (hfree_of (by rfl)) (LamX.lamS_by (by rfl)) ?l1 fun x1 hx1 => ⟨hx1, ⟨rfl, rfl, rfl⟩, ?_⟩)))
        case l1 =>
          rintro ρ M1 ⟨r0, r1, r2⟩ f c9 A outer s H0 E hr2
          exact wex_call FRx (hr2.mono (by decide)) (wa_cons (we_var 9 r0 (wa_cons (we_var 4 r1 (wa_nil ⟨rfl, q, wq, rfl, hq.sm, .inl ⟨hn, rfl, rfl, rfl, rfl⟩⟩)))))
        refine wss_cons (ws_set 12 nd (we_ctL E2 Tc gB (hr.mono (by decide)) (we_lamL (k := 15) (U := V) (ok := false) (v := kvD wq) RR TB tb rfl rfl (hfree_of (by rfl)) (LamX.lamS_by (by rfl)) ?l2 fun x1 hx1 => ⟨hx1, ⟨rfl, rfl, rfl⟩, ?_⟩)))
        case l2 =>
          rintro ρ M1 ⟨r0, r1, r2⟩ f c9 A outer s H0 E hr2
          exact wex_call FFx (hr2.mono (by decide)) (wa_cons (we_var 8 r2 (wa_cons (we_var 4 r1 (wa_nil ⟨rfl, _, wq, rfl, hw, rfl, rfl, rfl, rfl⟩)))))
        refine wss_cons (ws_if (wt_not (wt_val (we_call FN (hr.mono (by decide)) (wa_cons (we_var 9 rfl (wa_nil ⟨rfl, q, rfl, hq.sm, _, rfl, ?_⟩)))))))
        rw [hn]
        refine wss_cons (ws_if (wt_ww (ww_or (wt_not (wt_val (we_isCt (ok := false) (v := kvD q) E1 (F.bn _ (by decide +kernel)) (we_var 11 rfl ⟨rfl, we_gref E1.at_ (fun _ _ _ => .fn _) ⟨rfl, true, rfl, ?_⟩⟩)))))))
        refine ww_or1 (wt_neS (we_reprK gR hg u70 (we_valX (we_var 11 rfl ⟨_, _, kvD q, rfl, E1.ev, E1.ev.noV, by simp [List.lookup], q, rfl, hq.ok, we_reprK gR hg u70 (we_var 9 rfl ⟨q, rfl, hq.ok, true, (decide_eq_true rfl).symm, ?_⟩)⟩))))
        refine wss_nil (wss_nil (?_))
        refine wss_cons (ws_if (wt_neS (we_var 10 rfl (we_isN (we_var 12 rfl ⟨true, rfl, ?_⟩)))))
        refine wss_nil ?_
        refine wss_cons (ws_if (wt_ww (ww_and (wt_not (wt_val (we_var 10 rfl ⟨_, rfl, ?_⟩))))))
        refine ww_and1 (wt_ww (ww_or (wt_not (wt_val (we_isCt (ok := false) (v := kvD wq) E2 (F.bn _ (by decide +kernel)) (we_var 12 rfl ⟨rfl, we_gref E2.at_ (fun _ _ _ => .fn _) ⟨rfl, true, rfl, ?_⟩⟩))))))
        refine ww_or1 (wt_neS (we_reprK gR hg u70 (we_valX (we_var 12 rfl ⟨_, _, kvD wq, rfl, E2.ev, E2.ev.noV, by simp [List.lookup], wq, rfl, hwv.ok, we_reprK gR hg u70 (we_var 4 rfl ⟨wq, rfl, hwv.ok, true, (decide_eq_true rfl).symm, ?_⟩)⟩))))
        exact wss_nil (wss_nil (go ⟨_, _, _, _, _, _, rfl⟩))
      | true =>
        refine wss_cons (ws_set 11 nd (we_ctL E1 Tc gB (hr.mono (by decide)) (we_lamL (k := 15) (U := U) (ok := false) (v := kvD q) RR TB tb rfl rfl (hfree_of (by rfl)) (LamX.lamS_by (by rfl)) ?l3 fun x1 hx1 => ⟨hx1, ⟨rfl, rfl, rfl⟩, ?_⟩)))
        case l3 =>
          rintro ρ M1 ⟨r0, r1, r2⟩ f c9 A outer s H0 E hr2
          exact wex_call FRx (hr2.mono (by decide)) (wa_cons (we_var 9 r0 (wa_cons (we_var 4 r1 (wa_nil ⟨rfl, q, wq, rfl, hq.sm, .inl ⟨hn, rfl, rfl, rfl, rfl⟩⟩)))))
        refine wss_cons (ws_set 12 nd (we_ctL E2 Tc gB (hr.mono (by decide)) (we_lamL (k := 15) (U := V) (ok := true) (v := .non) RR TB tb rfl rfl (hfree_of (by rfl)) (LamX.lamS_by (by rfl)) ?l4 fun x1 hx1 => ⟨hx1, ⟨rfl, rfl, rfl⟩, ?_⟩)))
        case l4 =>
          rintro ρ M1 ⟨r0, r1, r2⟩ f c9 A outer s H0 E hr2
          obtain ⟨z, rfl, hz⟩ := inK_true hw
          exact WE.up (we_call FF (hr2.mono (by decide)) (wa_cons (we_var 8 r2 (wa_cons (we_var 4 r1 (wa_nil ⟨rfl, z, by rw [D_str]; rfl, hz, rfl, rfl⟩))))))
        refine wss_cons (ws_if (wt_not (wt_val (we_call FN (hr.mono (by decide)) (wa_cons (we_var 9 rfl (wa_nil ⟨rfl, q, rfl, hq.sm, _, rfl, ?_⟩)))))))
        rw [hn]
        refine wss_cons (ws_if (wt_ww (ww_or (wt_not (wt_val (we_isCt (ok := false) (v := kvD q) E1 (F.bn _ (by decide +kernel)) (we_var 11 rfl ⟨rfl, we_gref E1.at_ (fun _ _ _ => .fn _) ⟨rfl, true, rfl, ?_⟩⟩)))))))
        refine ww_or1 (wt_neS (we_reprK gR hg u70 (we_valX (we_var 11 rfl ⟨_, _, kvD q, rfl, E1.ev, E1.ev.noV, by simp [List.lookup], q, rfl, hq.ok, we_reprK gR hg u70 (we_var 9 rfl ⟨q, rfl, hq.ok, true, (decide_eq_true rfl).symm, ?_⟩)⟩))))
        refine wss_nil (wss_nil (?_))
        refine wss_cons (ws_if (wt_neS (we_var 10 rfl (we_isN (we_var 12 rfl ⟨true, rfl, ?_⟩)))))
        refine wss_nil ?_
        refine wss_cons (ws_if (wt_ww (ww_and (wt_not (wt_val (we_var 10 rfl ⟨_, rfl, ?_⟩))))))
        exact wss_nil (wss_nil (go ⟨_, _, _, _, _, _, rfl⟩))
    | true =>
      cases hw : inK lisL wq with
      | false =>
        refine wss_cons (ws_set 11 nd (we_ctL E2 Tc gB (hr.mono (by decide)) (we_lamL (k := 15) (U := V) (ok := false) (v := kvD wq) RR TB tb rfl rfl (hfree_of (by rfl)) (LamX.lamS_by (by rfl)) ?l5 fun x1 hx1 => ⟨hx1, ⟨rfl, rfl, rfl⟩, ?_⟩)))
        case l5 =>
          rintro ρ M1 ⟨r0, r1, r2⟩ f c9 A outer s H0 E hr2
          exact wex_call FRx (hr2.mono (by decide)) (wa_cons (we_var 9 r0 (wa_cons (we_var 4 r1 (wa_nil ⟨rfl, q, wq, rfl, hq.sm, .inr ⟨hn, hw, rfl, rfl, rfl, rfl⟩⟩)))))
        refine wss_cons (ws_set 12 nd (we_ctL E2 Tc gB (hr.mono (by decide)) (we_lamL (k := 15) (U := V) (ok := false) (v := kvD wq) RR TB tb rfl rfl (hfree_of (by rfl)) (LamX.lamS_by (by rfl)) ?l6 fun x1 hx1 => ⟨hx1, ⟨rfl, rfl, rfl⟩, ?_⟩)))
        case l6 =>
          rintro ρ M1 ⟨r0, r1, r2⟩ f c9 A outer s H0 E hr2
          exact wex_call FFx (hr2.mono (by decide)) (wa_cons (we_var 8 r2 (wa_cons (we_var 4 r1 (wa_nil ⟨rfl, _, wq, rfl, hw, rfl, rfl, rfl, rfl⟩)))))
        refine wss_cons (ws_if (wt_not (wt_val (we_call FN (hr.mono (by decide)) (wa_cons (we_var 9 rfl (wa_nil ⟨rfl, q, rfl, hq.sm, _, rfl, ?_⟩)))))))
        rw [hn]
        refine wss_cons (ws_if (wt_not (wt_val (we_var 10 rfl ⟨_, rfl, ?_⟩))))
        refine wss_cons (ws_if (wt_ww (ww_or (wt_not (wt_val (we_isCt (ok := false) (v := kvD wq) E2 (F.bn _ (by decide +kernel)) (we_var 11 rfl ⟨rfl, we_gref E2.at_ (fun _ _ _ => .fn _) ⟨rfl, true, rfl, ?_⟩⟩)))))))
        refine ww_or1 (wt_neS (we_reprK gR hg u70 (we_valX (we_var 11 rfl ⟨_, _, kvD wq, rfl, E2.ev, E2.ev.noV, by simp [List.lookup], wq, rfl, hwv.ok, we_reprK gR hg u70 (we_var 4 rfl ⟨wq, rfl, hwv.ok, true, (decide_eq_true rfl).symm, ?_⟩)⟩))))
        refine wss_nil (wss_nil (wss_nil (?_)))
        refine wss_cons (ws_if (wt_neS (we_var 10 rfl (we_isN (we_var 12 rfl ⟨true, rfl, ?_⟩)))))
        refine wss_nil ?_
        refine wss_cons (ws_if (wt_ww (ww_and (wt_not (wt_val (we_var 10 rfl ⟨_, rfl, ?_⟩))))))
        refine ww_and1 (wt_ww (ww_or (wt_not (wt_val (we_isCt (ok := false) (v := kvD wq) E2 (F.bn _ (by decide +kernel)) (we_var 12 rfl ⟨rfl, we_gref E2.at_ (fun _ _ _ => .fn _) ⟨rfl, true, rfl, ?_⟩⟩))))))
        refine ww_or1 (wt_neS (we_reprK gR hg u70 (we_valX (we_var 12 rfl ⟨_, _, kvD wq, rfl, E2.ev, E2.ev.noV, by simp [List.lookup], wq, rfl, hwv.ok, we_reprK gR hg u70 (we_var 4 rfl ⟨wq, rfl, hwv.ok, true, (decide_eq_true rfl).symm, ?_⟩)⟩))))
        exact wss_nil (wss_nil (go ⟨_, _, _, _, _, _, rfl⟩))
      | true =>
        refine wss_cons (ws_set 11 nd (we_ctL E1 Tc gB (hr.mono (by decide)) (we_lamL (k := 15) (U := U) (ok := true) (v := .non) RR TB tb rfl rfl (hfree_of (by rfl)) (LamX.lamS_by (by rfl)) ?l7 fun x1 hx1 => ⟨hx1, ⟨rfl, rfl, rfl⟩, ?_⟩)))
        case l7 =>
          rintro ρ M1 ⟨r0, r1, r2⟩ f c9 A outer s H0 E hr2
          obtain ⟨ms, em, m6, mf, ma⟩ := nmsK_some hn
          obtain ⟨z, rfl, hz⟩ := inK_true hw
          exact WE.up (we_call FR (hr2.mono (by decide)) (wa_cons (we_var 9 r0 (wa_cons (we_var 4 r1 (wa_nil ⟨rfl, ms, z, by rw [em, D_str]; rfl, m6, mf, ma, hz, rfl, rfl⟩))))))
        refine wss_cons (ws_set 12 nd (we_ctL E2 Tc gB (hr.mono (by decide)) (we_lamL (k := 15) (U := V) (ok := true) (v := .non) RR TB tb rfl rfl (hfree_of (by rfl)) (LamX.lamS_by (by rfl)) ?l8 fun x1 hx1 => ⟨hx1, ⟨rfl, rfl, rfl⟩, ?_⟩)))
        case l8 =>
          rintro ρ M1 ⟨r0, r1, r2⟩ f c9 A outer s H0 E hr2
          obtain ⟨z, rfl, hz⟩ := inK_true hw
          exact WE.up (we_call FF (hr2.mono (by decide)) (wa_cons (we_var 8 r2 (wa_cons (we_var 4 r1 (wa_nil ⟨rfl, z, by rw [D_str]; rfl, hz, rfl, rfl⟩))))))
        refine wss_cons (ws_if (wt_not (wt_val (we_call FN (hr.mono (by decide)) (wa_cons (we_var 9 rfl (wa_nil ⟨rfl, q, rfl, hq.sm, _, rfl, ?_⟩)))))))
        rw [hn]
        refine wss_cons (ws_if (wt_not (wt_val (we_var 10 rfl ⟨_, rfl, ?_⟩))))
        refine wss_cons (ws_if (wt_notN (we_var 11 rfl ?_)))
        refine wss_nil (wss_nil (wss_nil (?_)))
        refine wss_cons (ws_if (wt_neS (we_var 10 rfl (we_isN (we_var 12 rfl ⟨true, rfl, ?_⟩)))))
        refine wss_nil ?_
        refine wss_cons (ws_if (wt_ww (ww_and (wt_not (wt_val (we_var 10 rfl ⟨_, rfl, ?_⟩))))))
        exact wss_nil (wss_nil (go ⟨_, _, _, _, _, _, rfl⟩))
  · rintro ρ' M' ⟨o3, o4, o9, o10, o11, o12, a2, e2, rfl, rfl, j1, j2⟩
    rw [rngD_len] at j2
    refine wss_cons (ws_ret (we_eqS (we_len (F.bn _ (by decide +kernel)) (we_call FR (hr.mono (by decide)) (wa_cons (we_tup (wa_nil ⟨Nat.zero_le _, wa_cons (we_str (wa_nil ⟨rfl, [], "rows", rfl, Nat.zero_le _, fun n h => absurd h List.not_mem_nil, rfl, by decide +kernel, _, lenT, we_int ⟨true, rfl, Lets.of (hc a2 e2 (by omega) ?_)⟩⟩))⟩)))))))
    have : e2 ≤ e' + 4 * 16 := j2
    omega
def cLaw (T : Addr) : Con := fun ds M Φ => ∃ ns, ds = [scrD ns] ∧ M T = some (.tbl qR21) ∧ ∀ M', Φ (.bl true) M'
abbrev nLaw : List Str := ["_law_script", "_law_pot_here"]
theorem ok_law21 {T : Addr} (F : Fx w K mg) (F1 : Fc P w K mg base "_law_pots" [] 2 2 cPots) (F2 : Gc P w K mg base "_law_right" 19 1 (cRgt21 T)) : BodyG P w K mg base "law" s_law nLaw 1 19 (cLaw T) := by
  intro f cdv A outer s H E hgd hr ds M Φ hl hc
  obtain ⟨ns, rfl, hT, hc⟩ := hc
  have nd : nLaw.Nodup := by decide +kernel
  refine wss_cons (ws_ret (we_all (F.bn _ (by decide +kernel)) (we_lc nd (blkOk_by (N := nLaw) (sc := defScope s_law) (own := [("_law_pot_here", 1)]) (by decide +kernel)) (fun _ _ _ _ _ => pg_name (i := 1) nd rfl (Or.inl rfl)) (gt_name (by decide)) (fun _ _ _ _ _ => pts_nil) tk_nil (wi_list (we_call F1 (hr.mono (by decide)) (wa_cons (we_var 0 rfl (wa_cons (we_int (wa_nil ⟨rfl, ns, 6, rfl, by decide, by decide, fun qs M1 hF hql => ⟨_, .inl rfl, ?_⟩⟩))))))))))
  have nTq : T ∉ qs := fun h => by have := hF.new T h; rw [hT] at this; cases this
  refine ⟨by rw [List.length_map, sizeLine_eq]; omega, fun i acc M2 => acc = (List.replicate i true).map D.bl ∧ M2 T = some (.tbl qR21) ∧ ∀ j q, i ≤ j → qs[j]? = some q → ∃ a c, M2 q = some (potL a c 0) ∧ cOk c, ⟨rfl, by rw [hF.out T nTq]; exact hT, fun j q _ hq => hF.pot q (List.mem_of_getElem? hq)⟩, ?_, ?_⟩
  · rintro i x acc M2 hx ⟨rfl, hT2, hq2⟩
    rw [List.getElem?_map] at hx
    obtain ⟨q, hq, rfl⟩ := Option.map_eq_some_iff.mp hx
    obtain ⟨a, c, hqM, co⟩ := hq2 i q (Nat.le_refl _) hq
    intro s1 H1 C' cl fp
    have nq : T ≠ q := fun z => by rw [z, hqM] at hT2; cases hT2
    refine we_callG F2 hgd (hr.mono (by decide)) (wa_cons (we_var 1 rfl (wa_nil ⟨rfl, q, a, c, 0, rfl, hqM, co, by decide, by decide, hT2, fun a' d' k1 k2 => ⟨by rw [List.replicate_succ', List.map_append]; rfl, by rw [mset_ne nq]; exact hT2, fun j z hj hz => ?_⟩⟩)))
    have nz : z ≠ q := fun e => by
      rw [e] at hz
      have hi := (List.getElem?_eq_some_iff.mp hq)
      have hj2 := (List.getElem?_eq_some_iff.mp hz)
      obtain ⟨h1, g1⟩ := hi
      obtain ⟨h2, g2⟩ := hj2
      exact absurd (g1.trans g2.symm) (List.pairwise_iff_getElem.mp hF.nd i j h1 h2 (by omega))
    rw [mset_ne nz]
    exact hq2 j z (by omega) hz
  · rintro acc M2 ⟨rfl, hT2, hq2⟩
    refine ⟨_, rfl, ?_⟩
    rw [List.all_eq_true.mpr fun b hb => by rw [List.eq_of_mem_replicate hb]; rfl]
    exact Lets.of (hc _)
end
end W
namespace DL
open PySem PySem.Spec PyProof.Rows L2
section
variable {P : Program} {w : World} {K : PySem.W.Frag} {mg : Str → Option Value} {base : Heap} {x qual : Str} {st : Stmt} {N ps : List Str} {k : Nat} {c : Con} {cx : ConX} {dd : List D} {dvs : List V} {C f : Addr} {fd : FuncData}
theorem kcD (F : FunD K "__init__" qual (defArgs st) (defBody st) (defScope st) dvs [] f fd) (hm : mg x = some (.ref C)) (me : Mk K C f) (S : FnScope N ps (defScope st)) (nn jj : Nat) (hd : dvs ≠ []) (hn : nn + (dvs.length - jj) = ps.length) (hr : ∀ M Z H, Reps K M Z H (dvs.drop jj) dd)
    (hb : ∀ (T : Addr) (kV doc pm : Value) (an : Option Addr) (cdv ct : Value) (us its : List Value), us.length = nn → its.length = dvs.length →
      ∃ k, bindArgs (PySem.W.fnOf "__init__" qual (defArgs st) (defBody st) (defScope st) (.ref T) kV doc pm an cdv ct) ⟨us, []⟩ = seqItems? (.ref T) >>= k ∧ k (some its.toArray) = pure (ps.zip (us ++ its.drop jj)))
    (h : BodyOk P w K mg base qual st N ps.length k c) : Kc P w K mg base x C dd (k + 1) ps.length c := by
  obtain ⟨ds, hv, hB⟩ := F.binds1 (ps := ps) nn jj hd hn hb
  exact ⟨hm, f, fd, ps, dvs.drop jj, ds, fn_ok F S (h f), me, hB, hv, hr⟩
end
end DL
namespace W
open PySem PySem.Spec PyProof.Rows L2 DL He HK
section
variable {P : Program} {w : World} {K : PySem.W.Frag} {mg : Str → Option Value} {base h : Heap}
theorem mkFx (X : K.In h) (G : h.Ns mainGlobals mg) (c : Says spec w K) : Fx w K mg where
  bn := fun x hx => free_ok X G (c.fa (mem_bn hx))
  gONE := str_ok X G (c.fa (f := .str "ONE" "one") (mem_co 0 rfl))
  gNAME := str_ok X G (c.fa (f := .str "NAME" "name") (mem_co 1 rfl))
  gBESIDE := str_ok X G (c.fa (f := .str "BESIDE" "beside") (mem_co 2 rfl))
  gINTRODUCED := str_ok X G (c.fa (f := .str "INTRODUCED" "introduced") (mem_co 3 rfl))
  gBLANK := str_ok X G (c.fa (f := .str "BLANK" " ") (mem_co 4 rfl))
  gLETTERS := str_ok X G (c.fa (f := .str "LETTERS" "abcdefghijklmnopqrstuvwxyz") (mem_co 5 rfl))
  gFIGURES := str_ok X G (c.fa (f := .str "FIGURES" "0123456789") (mem_co 6 rfl))
  gMOST_LETTERS := int_ok X G (c.fa (f := .int "MOST_LETTERS" 8) (mem_co 7 rfl))
  gPERSON := str_ok X G (c.fa (f := .str "PERSON" "1") (mem_co 8 rfl))
  gLEAST_MANY := int_ok X G (c.fa (f := .int "LEAST_MANY" 2) (mem_co 9 rfl))
  gMOST_MANY := int_ok X G (c.fa (f := .int "MOST_MANY" (10 ^ 30)) (mem_co 10 rfl))
  gMOST_NAMES := int_ok X G (c.fa (f := .int "MOST_NAMES_plans" 3) (mem_co 11 rfl))
  gMOST_DEPTH := int_ok X G (c.fa (f := .int "MOST_DEPTH" 60) (mem_co 12 rfl))
  gSIGNS := let ⟨kvs, h1, h2⟩ := c.ta 0 (x := "SIGNS") (qs := tSigns) rfl (by decide +kernel); ⟨_, kvs, glo_ok X G (c.fa (f := .glo "SIGNS") (mem_glo (by decide +kernel))), h1, h2⟩
  gAROUND := let ⟨kvs, h1, h2⟩ := c.ta 1 (x := "AROUND") (qs := tAround) rfl (by decide +kernel); ⟨_, kvs, glo_ok X G (c.fa (f := .glo "AROUND") (mem_glo (by decide +kernel))), h1, h2⟩
  gTURNED := let ⟨kvs, h1, h2⟩ := c.ta 2 (x := "TURNED") (qs := tTurned) rfl (by decide +kernel); ⟨_, kvs, glo_ok X G (c.fa (f := .glo "TURNED") (mem_glo (by decide +kernel))), h1, h2⟩
theorem mkPx (X : K.In h) (G : h.Ns mainGlobals mg) (c : Says spec w K) : Px K mg (ga K "Plan") where
  at_ := glo_ok X G (c.fa (f := .glo "Plan") (mem_glo (by decide +kernel)))
  cl := cls_ok (c.fa (f := .cls "Plan") (mem_co 13 rfl))
  na := fun f hf => noat_ok (c.fa (mem_na hf))
  init := ⟨_, mkr_ok (c.fa (f := .mkr "Plan") (mem_co 15 rfl)), ⟨c.dd 1 rfl⟩⟩
  text := ⟨_, _, propB_ok (c.pr (q := ("Plan", "text")) (by decide +kernel)), ⟨c.dd 2 rfl⟩⟩
  names := ⟨_, _, propB_ok (c.pr (q := ("Plan", "names")) (by decide +kernel)), ⟨c.dd 3 rfl⟩⟩
  word := ⟨_, _, propB_ok (c.pr (q := ("Plan", "word")) (by decide +kernel)), ⟨c.dd 4 rfl⟩⟩
  many := ⟨_, _, propB_ok (c.pr (q := ("Plan", "many")) (by decide +kernel)), ⟨c.dd 5 rfl⟩⟩
  invert := ⟨_, meth_ok (c.fa (f := .meth "Plan" "__invert__") (mem_co 14 rfl)), ⟨c.dd 6 rfl⟩⟩
theorem mkDf (X : K.In h) (G : h.Ns mainGlobals mg) (c : Says spec w K) (i : Nat) {x : Str} {st : Stmt} (hd : dds[i]? = some (gl x st)) (hx : x ∈ globsA) : Df K mg x st [] :=
  let ⟨fd, F⟩ := c.dd i hd
  ⟨_, fd, F, glo_ok X G (c.fa (mem_glo hx))⟩
theorem mkFo (X : K.In h) (G : h.Ns mainGlobals mg) (c : Says spec w K) : Fo K mg (ga K "Form") where
  at_ := glo_ok X G (c.fa (f := .glo "Form") (mem_glo (by decide +kernel)))
  cl := cls_ok (c.fa (f := .cls "Form") (mem_co 29 rfl))
  na := fun f hf => by
    rcases List.mem_cons.mp hf with rfl | hf
    · exact noat_ok (c.fa (f := .noat "Form" "own_parts") (mem_co 30 rfl))
    rw [List.mem_singleton.mp hf]; exact noat_ok (c.fa (f := .noat "Form" "own_number") (mem_co 31 rfl))
theorem shX : XL.Shape (defArgs s_CrowdError___init__) (defBody s_CrowdError___init__) (defScope s_CrowdError___init__) where
  args := ⟨_, _, rfl⟩
  body := ⟨_, _, _, _, _, _, _, _, _, _, rfl, fun _ _ _ _ _ => ⟨_, rfl⟩⟩
  kind := rfl
  co := rfl
  gen := rfl
  cellless := by decide +kernel
  self := by rfl
  value := by rfl
  cls := fun _ _ _ _ _ => rfl
  sup := fun _ _ _ _ _ => rfl
  inter := fun _ _ _ _ _ => rfl
  kself := fun _ _ _ _ _ => rfl
  kvalue := fun _ _ _ _ _ => rfl
theorem mkEk (X : K.In h) (G : h.Ns mainGlobals mg) (c : Says spec w K) (hf : (P.main.file == "/claim/cut.py") = true) (hs : (P.main.scope.names.lookup ("super" : Str)).isSome = false) {x : Str} (hx : x ∈ spec.er) (hg : x ∈ globsA) : Ek P K mg (ga K "CrowdError") x (ga K x) := by
  have hm := glo_ok X G (c.fa (f := .glo x) (mem_glo hg))
  obtain ⟨a, b, d, e⟩ := c.err (P := P) (mg := mg) (file := "/claim/cut.py") (st := s_CrowdError___init__) rfl shX hf hs (free_ok X G (c.fa (f := .free "super") (mem_co 16 rfl))) hx hm
  exact ⟨a, b, hm, e, d⟩
theorem mkDc (X : K.In h) (G : h.Ns mainGlobals mg) (c : Says spec w K) (i : Nat) {x : Str} {st : Stmt} {p : Addr × Addr} (hd : dds[i]? = some (gl x st)) (hg : mg x = some (.ref (ga K x))) (ht : PySem.W.tabIn K x = some p) : Dc K mg x st p.1 := by
  obtain ⟨fd, F⟩ := c.dd i hd
  obtain ⟨oc, od, dV, kV, doc, pm, an, cdv, ct, osl, e, lk, r⟩ := F.ex
  exact ⟨_, fd, F, hg, PySem.W.law_code X G ht hg (X _ _ lk) rfl⟩
theorem chain {C B U_BadNames U_BadWord c1 T1 : Addr} {f : Addr} {fd : FuncData} (F : Fx w K mg) (X : Px K mg C) {RF : Addr} (XR : Fo K mg RF) (gDo : ∃ t, mg "DOT" = some (.str "." t)) (gMi : ∃ t, mg "MINUS" = some (.str "-" t)) (gPl : ∃ t, mg "PLUS" = some (.str "+" t)) (gPE : ∃ t, mg "PEOPLE" = some (.str "people" t)) (gCI : ∃ t, mg "CIRCLE" = some (.str "circle" t)) (gRO : ∃ t, mg "ROWS" = some (.str "rows" t)) (gP : ∃ t, mg "PAIR" = some (.int 2 t)) (gMF : ∃ t, mg "MOST_FORMS" = some (.int 40 t)) (gMN : ∃ t, mg "MOST_NAMES_forms" = some (.int 6 t)) (gA : mg "any" = none) (gD : mg "dict" = none) {aWo : Addr} (gWo : mg "WORDS" = some (.ref aWo)) (rW : ∀ M Z H, Rep K M Z H (.ref aWo) (.tup (wordsL.map DL.D.str))) {aLi : Addr} (gLi : mg "LISTED" = some (.ref aLi)) (rL : ∀ M Z H, Rep K M Z H (.ref aLi) (.tup (lisL.map DL.D.str))) (DNP : ∃ (f : Addr) (fd : FuncData), FunD K "names_in" "names_in" (defArgs s_names_in_first) (defBody s_names_in_first) (defScope s_names_in_first) [] [] f fd ∧ mg "names_in_plans" = some (.ref f)) (DNF : ∃ (f : Addr) (fd : FuncData), FunD K "names_in" "names_in" (defArgs s_names_in) (defBody s_names_in) (defScope s_names_in) [] [] f fd ∧ mg "names_in_forms" = some (.ref f)) {aE : Addr} (XI : ∃ f, L2.Mk K RF f ∧ ∃ fd : FuncData, FunD K "__init__" "Form.__init__" (defArgs s_Form___init__) (defBody s_Form___init__) (defScope s_Form___init__) [V.ref aE, V.int 0] [] f fd) (XE : PySem.W.selfFirst K RF = true ∧ OwnC K RF ∧ PySem.W.findIn K (.ref RF) "__ne__" = some (some (.builtin "object.__ne__"))) {LF : Addr} (SL : SlC K LF lsN) (gLs : mg "Lists" = some (.ref LF)) (LI : ∃ f, L2.Mk K LF f ∧ Md K LF "__init__" "Lists.__init__" s_Lists___init__ f) (LC : ∃ f, Meth K LF "copied" f ∧ Md K LF "copied" "Lists.copied" s_Lists_copied f) (LJ : ∃ f, Meth K LF "joined" f ∧ Md K LF "joined" "Lists.joined" s_Lists_joined f) (H_eq : ∃ f, Meth K RF "__eq__" f ∧ Md K RF "__eq__" "Form.__eq__" s_Form___eq__ f) (H_add : ∃ f, Meth K RF "__add__" f ∧ Md K RF "__add__" "Form.__add__" s_Form___add__ f) (H_sub : ∃ f, Meth K RF "__sub__" f ∧ Md K RF "__sub__" "Form.__sub__" s_Form___sub__ f) (H_rsub : ∃ f, Meth K RF "__rsub__" f ∧ Md K RF "__rsub__" "Form.__rsub__" s_Form___rsub__ f) (H_mul : ∃ f, Meth K RF "__mul__" f ∧ Md K RF "__mul__" "Form.__mul__" s_Form___mul__ f) (H_rmul : ∃ f, Meth K RF "__rmul__" f ∧ Md K RF "__rmul__" "Form.__rmul__" s_Form___rmul__ f) (P_parts : ∃ p f, PropOf K RF "parts" p f ∧ Md K RF "parts" "Form.parts" s_Form_parts f) (P_number : ∃ p f, PropOf K RF "number" p f ∧ Md K RF "number" "Form.number" s_Form_number f) (P_text : ∃ p f, PropOf K RF "text" p f ∧ Md K RF "text" "Form.text" s_Form_text f) (gB : mg "CrowdError" = some (.ref B)) (E_BadNames : Ek P K mg B "BadNames" U_BadNames) (E_BadWord : Ek P K mg B "BadWord" U_BadWord) (hkI : PySem.W.kitOne K (.ref RF) (.type "int") = some false) (D__law_right : Dc K mg "_law_right" s__law_right c1) (TB__law_right : LamX.TabB base mg c1 T1) (DI : Df K mg "is_integer" s_is_integer [.non, .non]) (D : ∀ (i : Nat) {x : Str} {st : Stmt}, dds[i]? = some (gl x st) → x ∈ globsA → Df K mg x st [])
    (L : FunD K "law" "law" (defArgs s_law) (defBody s_law) (defScope s_law) [] [] f fd) : FnG P w K mg base 20 f fd ["_law_script"] (spD K 1 (cLaw T1)) := by
  have fName : Fc P w K mg base "is_name" [] 1 1 cIsName := (D 20 rfl (by decide +kernel)).fc (N := ["value", "letter"]) (ps := ["value"]) ⟨rfl, rfl, rfl, by decide +kernel, rfl, by decide +kernel, by decide +kernel⟩ (fun _ _ _ _ _ _ us hl => match us, hl with | [_], _ => rfl) (ok_is_name F)
  have fNum : Fc P w K mg base "number_in" [] 1 1 cNumberIn := (D 21 rfl (by decide +kernel)).fc (N := ["text", "figure"]) (ps := ["text"]) ⟨rfl, rfl, rfl, by decide +kernel, rfl, by decide +kernel, by decide +kernel⟩ (fun _ _ _ _ _ _ us hl => match us, hl with | [_], _ => rfl) (ok_number_in F)
  have fPar : Fc P w K mg base "parted" [] 1 2 cParted := (D 22 rfl (by decide +kernel)).fc (N := ["text", "sign", "found", "depth", "begin", "at", "letter"]) (ps := ["text", "sign"]) ⟨rfl, rfl, rfl, by decide +kernel, rfl, by decide +kernel, by decide +kernel⟩ (fun _ _ _ _ _ _ us hl => match us, hl with | [_, _], _ => rfl) (ok_parted F)
  have fCop : Fc P w K mg base "copies_in" [] 2 1 cCopiesIn := (D 23 rfl (by decide +kernel)).fc (N := ["text", "word", "head", "end", "number", "blank", "rest", "many"]) (ps := ["text"]) ⟨rfl, rfl, rfl, by decide +kernel, rfl, by decide +kernel, by decide +kernel⟩ (fun _ _ _ _ _ _ us hl => match us, hl with | [_], _ => rfl) (ok_copies_in F fNum)
  have fRow : Fc P w K mg base "row_in" [] 2 1 cRowIn := (D 24 rfl (by decide +kernel)).fc (N := ["text", "word", "sign", "parts", "part"]) (ps := ["text"]) ⟨rfl, rfl, rfl, by decide +kernel, rfl, by decide +kernel, by decide +kernel⟩ (fun _ _ _ _ _ _ us hl => match us, hl with | [_], _ => rfl) (ok_row_in F fPar)
  have fGrp : Fc P w K mg base "groups_in" [] 3 1 cGroupsIn := (D 25 rfl (by decide +kernel)).fc (N := ["text", "found"]) (ps := ["text"]) ⟨rfl, rfl, rfl, by decide +kernel, rfl, by decide +kernel, by decide +kernel⟩ (fun _ _ _ _ _ _ us hl => match us, hl with | [_], _ => rfl) (ok_groups_in F fName fCop fRow)
  have fPt : ∀ h, Fc P w K mg base "is_plan_text" [] (h + 4) 2 (cPlanText h) := by
    intro h
    induction h with
    | zero => exact (D 26 rfl (by decide +kernel)).fc (N := ["text", "depth", "found", "many", "part"]) (ps := ["text", "depth"]) ⟨rfl, rfl, rfl, by decide +kernel, rfl, by decide +kernel, by decide +kernel⟩ (fun _ _ _ _ _ _ us hl => match us, hl with | [_, _], _ => rfl) (ok_is_plan_text 0 F fGrp (fun j hj => by omega))
    | succ h ih => exact (D 26 rfl (by decide +kernel)).fc (N := ["text", "depth", "found", "many", "part"]) (ps := ["text", "depth"]) ⟨rfl, rfl, rfl, by decide +kernel, rfl, by decide +kernel, by decide +kernel⟩ (fun _ _ _ _ _ _ us hl => match us, hl with | [_, _], _ => rfl) (ok_is_plan_text (h + 1) F fGrp (fun j hj => by cases hj; exact ih))
  have fNm : ∀ h, Fc P w K mg base "names_in_plans" [] (h + 4) 1 (cNamesN h) := by
    obtain ⟨af, ad, aF, am⟩ := DNP
    have S0 : FnScope nNin ["text"] (defScope s_names_in_first) := ⟨rfl, rfl, rfl, by decide +kernel, rfl, by decide +kernel, by decide +kernel⟩
    intro h
    induction h with
    | zero => exact ⟨af, ad, ["text"], [], [], fn_ok aF S0 (ok_names_n 0 F fGrp (fun j hj => by omega) af), am, aF.kp, aF.bindsN (ps := ["text"]) (fun _ _ _ _ _ _ us hl => match us, hl with | [_], _ => rfl), .nil, fun _ _ _ => .nil⟩
    | succ h ih => exact ⟨af, ad, ["text"], [], [], fn_ok aF S0 (ok_names_n (h + 1) F fGrp (fun j hj => by cases hj; exact ih) af), am, aF.kp, aF.bindsN (ps := ["text"]) (fun _ _ _ _ _ _ us hl => match us, hl with | [_], _ => rfl), .nil, fun _ _ _ => .nil⟩
  obtain ⟨fi, mk, mi⟩ := X.init
  have kPlan : ∀ h, Kc P w K mg base "Plan" C [] (2 * h + 6) 2 (cInitN C h) := by
    intro h
    induction h with
    | zero => exact mi.kc X.at_ mk (N := nInit) (ps := ["self", "text"]) ⟨rfl, rfl, rfl, by decide +kernel, rfl, by decide +kernel, by decide +kernel⟩ (fun _ _ _ _ _ _ us hl => match us, hl with | [_, _], _ => rfl) (ok_init_n 0 F X (fPt 0) (fNm 0) fGrp (fun j hj => by omega))
    | succ h ih => exact mi.kc X.at_ mk (N := nInit) (ps := ["self", "text"]) ⟨rfl, rfl, rfl, by decide +kernel, rfl, by decide +kernel, by decide +kernel⟩ (fun _ _ _ _ _ _ us hl => match us, hl with | [_, _], _ => rfl) (ok_init_n (h + 1) F X (fPt (h + 1)) (fNm (h + 1)) fGrp (fun j hj => by cases hj; exact ih))
  obtain ⟨p1, g1, pr1, m1⟩ := X.text
  obtain ⟨p2, g2, pr2, m2⟩ := X.names
  obtain ⟨p3, g3, pr3, m3⟩ := X.word
  have pTxN : Pc P w K mg base C "text" 1 (cGetN C fun t => tS (PL.txt t)) := m1.pc X.cl pr1 (N := ["self"]) ⟨rfl, rfl, rfl, by decide +kernel, rfl, by decide +kernel, by decide +kernel⟩ (fun _ _ _ _ _ _ us hl => match us, hl with | [_], _ => rfl) (ok_text_n X)
  have pWdN : Pc P w K mg base C "word" 1 (cGetN C fun t => .str (wordT t)) := m3.pc X.cl pr3 (N := ["self"]) ⟨rfl, rfl, rfl, by decide +kernel, rfl, by decide +kernel, by decide +kernel⟩ (fun _ _ _ _ _ _ us hl => match us, hl with | [_], _ => rfl) (ok_word_n X)
  have pNmN : Pc P w K mg base C "names" 1 (cGetN C fun t => .tup ((PL.nmT t).map DL.D.str)) := m2.pc X.cl pr2 (N := ["self"]) ⟨rfl, rfl, rfl, by decide +kernel, rfl, by decide +kernel, by decide +kernel⟩ (fun _ _ _ _ _ _ us hl => match us, hl with | [_], _ => rfl) (ok_names_g X)
  have FI1 : Fc P w K mg base "is_integer" [.non, .non] 1 3 (cInt1) := DI.fcD (N := ["value", "low", "high"]) (ps := ["value", "low", "high"]) ⟨rfl, rfl, rfl, by decide +kernel, rfl, by decide +kernel, by decide +kernel⟩ 1 0 (by simp) rfl (fun _ _ _ => .cons .non (.cons .non .nil)) (fun _ _ _ _ _ _ _ us its h1 h2 => match us, its, h1, h2 with | [_], [_, _], _, _ => ⟨_, rfl, rfl⟩) (ok_int1 F)
  obtain ⟨XS, XO, _⟩ := XE
  have FIF : Fc P w K mg base "is_integer" [.non, .non] 1 3 (cIntF RF) := DI.fcD (N := ["value", "low", "high"]) (ps := ["value", "low", "high"]) ⟨rfl, rfl, rfl, by decide +kernel, rfl, by decide +kernel, by decide +kernel⟩ 1 0 (by simp) rfl (fun _ _ _ => .cons .non (.cons .non .nil)) (fun _ _ _ _ _ _ _ us its h1 h2 => match us, its, h1, h2 with | [_], [_, _], _, _ => ⟨_, rfl, rfl⟩) (ok_int_f F XO hkI)
  have fTk : Fc P w K mg base "_law_take" [] 1 2 cTake := (D 27 rfl (by decide +kernel)).fc (N := nTake) (ps := ["_law_pot_here", "_law_upto"]) ⟨rfl, rfl, rfl, by decide +kernel, rfl, by decide +kernel, by decide +kernel⟩ (fun _ _ _ _ _ _ us hl => match us, hl with | [_, _], _ => rfl) (ok_take F)
  have fOf : Fc P w K mg base "_law_of" [] 2 2 (cOf) := (D 28 rfl (by decide +kernel)).fc (N := ["_law_pot_here", "_law_some"]) (ps := ["_law_pot_here", "_law_some"]) ⟨rfl, rfl, rfl, by decide +kernel, rfl, by decide +kernel, by decide +kernel⟩ (fun _ _ _ _ _ _ us hl => match us, hl with | [_, _], _ => rfl) (ok_of F fTk)
  have fPot : Fc P w K mg base "_law_pot" [] 1 2 (cPotH) := (D 29 rfl (by decide +kernel)).fc (N := nPotH) (ps := ["_law_script", "_law_k"]) ⟨rfl, rfl, rfl, by decide +kernel, rfl, by decide +kernel, by decide +kernel⟩ (fun _ _ _ _ _ _ us hl => match us, hl with | [_, _], _ => rfl) (ok_potH F)
  have fPs : Fc P w K mg base "_law_pots" [] 2 2 (cPots) := (D 30 rfl (by decide +kernel)).fc (N := nPots) (ps := ["_law_script", "_law_limit"]) ⟨rfl, rfl, rfl, by decide +kernel, rfl, by decide +kernel, by decide +kernel⟩ (fun _ _ _ _ _ _ us hl => match us, hl with | [_, _], _ => rfl) (ok_pots F fPot)
  have fIt : Fc P w K mg base "is_tuple" [] 1 2 (cTupA) := (D 31 rfl (by decide +kernel)).fc (N := ["value", "many"]) (ps := ["value", "many"]) ⟨rfl, rfl, rfl, by decide +kernel, rfl, by decide +kernel, by decide +kernel⟩ (fun _ _ _ _ _ _ us hl => match us, hl with | [_, _], _ => rfl) (ok_tup_a F)
  have fNa : Fc P w K mg base "is_name" [] 1 1 (cNameA) := (D 20 rfl (by decide +kernel)).fc (N := ["value", "letter"]) (ps := ["value"]) ⟨rfl, rfl, rfl, by decide +kernel, rfl, by decide +kernel, by decide +kernel⟩ (fun _ _ _ _ _ _ us hl => match us, hl with | [_], _ => rfl) (ok_name_a F F.gLETTERS F.gMOST_LETTERS)
  have fWd : Fc P w K mg base "is_word" [] 1 2 (cWordA) := (D 32 rfl (by decide +kernel)).fc (N := ["value", "words"]) (ps := ["value", "words"]) ⟨rfl, rfl, rfl, by decide +kernel, rfl, by decide +kernel, by decide +kernel⟩ (fun _ _ _ _ _ _ us hl => match us, hl with | [_, _], _ => rfl) (ok_word_a F)
  have fWk : Fc P w K mg base "is_word" [] 1 2 (cWordK) := (D 32 rfl (by decide +kernel)).fc (N := ["value", "words"]) (ps := ["value", "words"]) ⟨rfl, rfl, rfl, by decide +kernel, rfl, by decide +kernel, by decide +kernel⟩ (fun _ _ _ _ _ _ us hl => match us, hl with | [_, _], _ => rfl) (ok_word_k F)
  have fMk : Fc P w K mg base "is_mark" [] 2 1 (cMarkA) := (D 33 rfl (by decide +kernel)).fc (N := ["value"]) (ps := ["value"]) ⟨rfl, rfl, rfl, by decide +kernel, rfl, by decide +kernel, by decide +kernel⟩ (fun _ _ _ _ _ _ us hl => match us, hl with | [_], _ => rfl) (ok_mark_a F gP gWo rW fIt fNa fWd)
  have fAs : Fc P w K mg base "do_ascend" [] 1 1 (cAscM) := (D 34 rfl (by decide +kernel)).fc (N := nAscend) (ps := ["values"]) ⟨rfl, rfl, rfl, by decide +kernel, rfl, by decide +kernel, by decide +kernel⟩ (fun _ _ _ _ _ _ us hl => match us, hl with | [_], _ => rfl) (ok_asc_m F)
  have fAy : Fc P w K mg base "do_ascend" [] 1 1 (cAscY) := (D 34 rfl (by decide +kernel)).fc (N := nAscend) (ps := ["values"]) ⟨rfl, rfl, rfl, by decide +kernel, rfl, by decide +kernel, by decide +kernel⟩ (fun _ _ _ _ _ _ us hl => match us, hl with | [_], _ => rfl) (ok_asc_y F)
  have fPa : Fc P w K mg base "are_parts" [] 3 1 (cPartsA) := (D 35 rfl (by decide +kernel)).fc (N := nAreP) (ps := ["value"]) ⟨rfl, rfl, rfl, by decide +kernel, rfl, by decide +kernel, by decide +kernel⟩ (fun _ _ _ _ _ _ us hl => match us, hl with | [_], _ => rfl) (ok_parts_a F gP fIt fMk FI1 fAs)
  obtain ⟨XIf, XIm, XIx, XId⟩ := XI
  have kF : Kc P w K mg base "Form" RF [] 4 3 (cFm RF) := kcD (x := "Form") XId XR.at_ XIm (N := nFm) (ps := nFm) ⟨rfl, rfl, rfl, by decide +kernel, rfl, by decide +kernel, by decide +kernel⟩ 3 2 (by simp) rfl (fun _ _ _ => .nil) (fun _ _ _ _ _ _ _ us its h1 h2 => match us, its, h1, h2 with | [_, _, _], [_, _], _, _ => ⟨_, rfl, rfl⟩) (ok_fm F XR fPa FI1)
  obtain ⟨pPp, pPg, pPpr, pPm⟩ := P_parts
  have pP : Pc P w K mg base RF "parts" 1 (cFmGet RF fun ps _ => .ptup (ps.map ptD)) := pPm.pc XR.cl pPpr (N := ["self"]) ⟨rfl, rfl, rfl, by decide +kernel, rfl, by decide +kernel, by decide +kernel⟩ (fun _ _ _ _ _ _ us hl => match us, hl with | [_], _ => rfl) (ok_fm_parts XR)
  obtain ⟨pNp, pNg, pNpr, pNm⟩ := P_number
  have pN : Pc P w K mg base RF "number" 1 (cFmGet RF fun _ n => .int n) := pNm.pc XR.cl pNpr (N := ["self"]) ⟨rfl, rfl, rfl, by decide +kernel, rfl, by decide +kernel, by decide +kernel⟩ (fun _ _ _ _ _ _ us hl => match us, hl with | [_], _ => rfl) (ok_fm_number XR)
  obtain ⟨h_eqf, h_eqm, h_eqd⟩ := H_eq
  obtain ⟨h_addf, h_addm, h_addd⟩ := H_add
  obtain ⟨h_subf, h_subm, h_subd⟩ := H_sub
  obtain ⟨h_rsubf, h_rsubm, h_rsubd⟩ := H_rsub
  obtain ⟨h_mulf, h_mulm, h_muld⟩ := H_mul
  obtain ⟨h_rmulf, h_rmulm, h_rmuld⟩ := H_rmul
  have fTt : Fc P w K mg base "term_text" [] 1 2 (cTT) := (D 36 rfl (by decide +kernel)).fc (N := nTT) (ps := ["many", "mark"]) ⟨rfl, rfl, rfl, by decide +kernel, rfl, by decide +kernel, by decide +kernel⟩ (fun _ _ _ _ _ _ us hl => match us, hl with | [_, _], _ => rfl) (ok_term_text gDo)
  obtain ⟨pTp, pTg, pTpr, pTm⟩ := P_text
  have pT : Pc P w K mg base RF "text" 3 (cFtx RF) := pTm.pc XR.cl pTpr (N := nFt) ⟨rfl, rfl, rfl, by decide +kernel, rfl, by decide +kernel, by decide +kernel⟩ (fun _ _ _ _ _ _ us hl => match us, hl with | [_], _ => rfl) (ok_form_text F gMi gPl F.gBLANK pP pN fTt)
  have fPut : Fc P w K mg base "put_together" [] 6 3 (cPut RF) := (D 37 rfl (by decide +kernel)).fc (N := nPut) (ps := ["one", "other", "times"]) ⟨rfl, rfl, rfl, by decide +kernel, rfl, by decide +kernel, by decide +kernel⟩ (fun _ _ _ _ _ _ us hl => match us, hl with | [_, _, _], _ => rfl) (ok_put F pP pN kF)
  have mEq : Mc P w K mg base RF "__eq__" [] 3 2 (cFmEq RF) := h_eqd.mc XR.cl h_eqm (N := ["self", "other"]) (ps := ["self", "other"]) ⟨rfl, rfl, rfl, by decide +kernel, rfl, by decide +kernel, by decide +kernel⟩ (fun _ _ _ _ _ _ us hl => match us, hl with | [_, _], _ => rfl) (ok_fm_eq F XR XO pP pN)
  have mAF : Mc P w K mg base RF "__add__" [] 7 2 (cShF RF 1) := h_addd.mc XR.cl h_addm (N := nSO) (ps := ["self", "other"]) ⟨rfl, rfl, rfl, by decide +kernel, rfl, by decide +kernel, by decide +kernel⟩ (fun _ _ _ _ _ _ us hl => match us, hl with | [_, _], _ => rfl) (ok_add_f F XR XO FIF fPut)
  have mSI : Mc P w K mg base RF "__sub__" [] 6 2 (cShI RF fun n i => n - i) := h_subd.mc XR.cl h_subm (N := nSO) (ps := ["self", "other"]) ⟨rfl, rfl, rfl, by decide +kernel, rfl, by decide +kernel, by decide +kernel⟩ (fun _ _ _ _ _ _ us hl => match us, hl with | [_, _], _ => rfl) (ok_sub_i F pP pN kF FI1)
  have mSF : Mc P w K mg base RF "__sub__" [] 7 2 (cShF RF (-1)) := h_subd.mc XR.cl h_subm (N := nSO) (ps := ["self", "other"]) ⟨rfl, rfl, rfl, by decide +kernel, rfl, by decide +kernel, by decide +kernel⟩ (fun _ _ _ _ _ _ us hl => match us, hl with | [_, _], _ => rfl) (ok_sub_f F XR XO FIF fPut)
  have mMu : Mc P w K mg base RF "__mul__" [] 6 2 (cMul RF) := h_muld.mc XR.cl h_mulm (N := nMl) (ps := ["self", "many"]) ⟨rfl, rfl, rfl, by decide +kernel, rfl, by decide +kernel, by decide +kernel⟩ (fun _ _ _ _ _ _ us hl => match us, hl with | [_, _], _ => rfl) (ok_mul F pP pN kF FI1)
  have fBt : Fc P w K mg base "by_texts" [] 5 1 (cByT RF) := (D 38 rfl (by decide +kernel)).fc (N := nByT) (ps := ["some"]) ⟨rfl, rfl, rfl, by decide +kernel, rfl, by decide +kernel, by decide +kernel⟩ (fun _ _ _ _ _ _ us hl => match us, hl with | [_], _ => rfl) (ok_by_texts F pT)
  have fNf : Fc P w K mg base "names_in_forms" [] 3 1 (cNmF RF) := by
    obtain ⟨af, ad, aF, am⟩ := DNF
    have S0 : FnScope nNmF ["some"] (defScope s_names_in) := ⟨rfl, rfl, rfl, by decide +kernel, rfl, by decide +kernel, by decide +kernel⟩
    exact ⟨af, ad, ["some"], [], [], fn_ok aF S0 (ok_names_f F pP af), am, aF.kp, aF.bindsN (ps := ["some"]) (fun _ _ _ _ _ _ us hl => match us, hl with | [_], _ => rfl), .nil, fun _ _ _ => .nil⟩
  have fNw : Fc P w K mg base "is_nowhere_greater" [] 8 4 (cNw RF) := (D 39 rfl (by decide +kernel)).fc (N := nNw) (ps := ["form", "other", "names", "word"]) ⟨rfl, rfl, rfl, by decide +kernel, rfl, by decide +kernel, by decide +kernel⟩ (fun _ _ _ _ _ _ us hl => match us, hl with | [_, _, _, _], _ => rfl) (ok_nw F gD XS gPE gRO pP pN mSF)
  have fPr : Fc P w K mg base "pruned" [] 9 3 (cPrn RF) := (D 40 rfl (by decide +kernel)).fc (N := nPr) (ps := ["some", "names", "word"]) ⟨rfl, rfl, rfl, by decide +kernel, rfl, by decide +kernel, by decide +kernel⟩ (fun _ _ _ _ _ _ us hl => match us, hl with | [_, _, _], _ => rfl) (ok_pruned F gA fBt fNw)
  have fDa : Fc P w K mg base "do_add" [] 1 2 (cDoAdd) := (D 41 rfl (by decide +kernel)).fc (N := ["how", "word"]) (ps := ["how", "word"]) ⟨rfl, rfl, rfl, by decide +kernel, rfl, by decide +kernel, by decide +kernel⟩ (fun _ _ _ _ _ _ us hl => match us, hl with | [_, _], _ => rfl) (ok_do_add F gPE gCI F.gBESIDE)
  obtain ⟨lif, lim, lid⟩ := LI
  have kLs : Ksx P w K mg base "Lists" LF [] 2 3 (cLsI LF) := lid.ks gLs lim (N := ["self", "forms_here", "people"]) (ps := ["self", "forms_here", "people"]) ⟨rfl, rfl, rfl, by decide +kernel, rfl, by decide +kernel, by decide +kernel⟩ (fun _ _ _ _ _ _ us hl => match us, hl with | [_, _, _], _ => rfl) (ok_ls_init SL)
  obtain ⟨lCof, lCom, lCod⟩ := LC
  have lCo : Mg P w K mg base LF "copied" 7 5 (cCopL LF RF) := lCod.sm SL.sc lCom (N := nCopL) (ps := ["self", "how", "names", "word", "many"]) ⟨rfl, rfl, rfl, by decide +kernel, rfl, by decide +kernel, by decide +kernel⟩ (fun _ _ _ _ _ _ us hl => match us, hl with | [_, _, _, _, _], _ => rfl) (ok_copL F SL XS gRO ⟨_, h_rmulm⟩ kLs mMu fDa fBt)
  have fLs : Fc P w K mg base "least_sums" [] 8 4 (cLsum RF) := (D 42 rfl (by decide +kernel)).fc (N := nLsm) (ps := ["one", "other", "names", "word"]) ⟨rfl, rfl, rfl, by decide +kernel, rfl, by decide +kernel, by decide +kernel⟩ (fun _ _ _ _ _ _ us hl => match us, hl with | [_, _, _, _], _ => rfl) (ok_lsum F XS mAF fNf fBt)
  obtain ⟨lJof, lJom, lJod⟩ := LJ
  have lJo : Mg P w K mg base LF "joined" 9 5 (cJnL LF RF) := lJod.sm SL.sc lJom (N := nJnL) (ps := ["self", "how", "names", "word", "other"]) ⟨rfl, rfl, rfl, by decide +kernel, rfl, by decide +kernel, by decide +kernel⟩ (fun _ _ _ _ _ _ us hl => match us, hl with | [_, _, _, _, _], _ => rfl) (ok_jnL F SL XS kLs mAF fDa fLs)
  have fBn : Fc P w K mg base "by_names" [] 4 1 (cByN LF RF) := (D 43 rfl (by decide +kernel)).fc (N := nByN) (ps := ["rows"]) ⟨rfl, rfl, rfl, by decide +kernel, rfl, by decide +kernel, by decide +kernel⟩ (fun _ _ _ _ _ _ us hl => match us, hl with | [_], _ => rfl) (ok_by_names F SL fNf)
  have fMf : Fc P w K mg base "mark_form" [] 6 2 (cMkF RF) := (D 44 rfl (by decide +kernel)).fc (N := ["name", "word"]) (ps := ["name", "word"]) ⟨rfl, rfl, rfl, by decide +kernel, rfl, by decide +kernel, by decide +kernel⟩ (fun _ _ _ _ _ _ us hl => match us, hl with | [_, _], _ => rfl) (ok_mark_form kF)
  have fPf : Fc P w K mg base "people_form" [] 7 1 (cPeF C RF) := (D 45 rfl (by decide +kernel)).fc (N := ["plan"]) (ps := ["plan"]) ⟨rfl, rfl, rfl, by decide +kernel, rfl, by decide +kernel, by decide +kernel⟩ (fun _ _ _ _ _ _ us hl => match us, hl with | [_], _ => rfl) (ok_people_form F.gNAME gPE pWdN pTxN fMf kF)
  have fGt : Fc P w K mg base "greatest_of" [] 10 3 (cGr C LF RF) := (D 46 rfl (by decide +kernel)).fc (N := nGr) (ps := ["rows", "plan", "word"]) ⟨rfl, rfl, rfl, by decide +kernel, rfl, by decide +kernel, by decide +kernel⟩ (fun _ _ _ _ _ _ us hl => match us, hl with | [_, _, _], _ => rfl) (ok_greatest F gA SL XS kLs mAF mEq pNmN fPr)
  have fJa : Fc P w K mg base "joined_all" [] 10 3 (cJoA C LF RF) := (D 47 rfl (by decide +kernel)).fc (N := nJa) (ps := ["rows", "plan", "word"]) ⟨rfl, rfl, rfl, by decide +kernel, rfl, by decide +kernel, by decide +kernel⟩ (fun _ _ _ _ _ _ us hl => match us, hl with | [_, _, _], _ => rfl) (ok_joined_all F SL gMF pWdN pNmN fDa lJo)
  have fLo : ∀ h, Fc P w K mg base "lists_of" [] (h + 12) 2 ((cLo C LF RF h)) := by
    intro h
    induction h with
    | zero => exact (D 48 rfl (by decide +kernel)).fc (N := nLo) (ps := ["plan", "word"]) ⟨rfl, rfl, rfl, by decide +kernel, rfl, by decide +kernel, by decide +kernel⟩ (fun _ _ _ _ _ _ us hl => match us, hl with | [_, _], _ => rfl) (ok_lists_of 0 F X SL F.gONE F.gNAME gRO gMF kLs pWdN pNmN pTxN fDa fMf fPf lCo fBn fJa fGt (fun j hj => by omega))
    | succ h ih => exact (D 48 rfl (by decide +kernel)).fc (N := nLo) (ps := ["plan", "word"]) ⟨rfl, rfl, rfl, by decide +kernel, rfl, by decide +kernel, by decide +kernel⟩ (fun _ _ _ _ _ _ us hl => match us, hl with | [_, _], _ => rfl) (ok_lists_of (h + 1) F X SL F.gONE F.gNAME gRO gMF kLs pWdN pNmN pTxN fDa fMf fPf lCo fBn fJa fGt (fun j hj => by cases hj; exact ih))
  have fCl : Fc P w K mg base "check_listed" [] 3 1 (cLisOk) := (D 49 rfl (by decide +kernel)).fc (N := ["value"]) (ps := ["value"]) ⟨rfl, rfl, rfl, by decide +kernel, rfl, by decide +kernel, by decide +kernel⟩ (fun _ _ _ _ _ _ us hl => match us, hl with | [_], _ => rfl) (ok_check_listed gLi rL fWk)
  have xCl : Fcx P w K mg base "check_listed" [] 4 1 (cLisX U_BadWord) := (D 49 rfl (by decide +kernel)).fx (N := ["value"]) (ps := ["value"]) ⟨rfl, rfl, rfl, by decide +kernel, rfl, by decide +kernel, by decide +kernel⟩ (fun _ _ _ _ _ _ us hl => match us, hl with | [_], _ => rfl) (ok_check_listed_x E_BadWord.er gLi rL fWk)
  have fFo : Fc P w K mg base "forms" [] 15 2 (cFms C RF) := (D 50 rfl (by decide +kernel)).fc (N := ["plan", "word"]) (ps := ["plan", "word"]) ⟨rfl, rfl, rfl, by decide +kernel, rfl, by decide +kernel, by decide +kernel⟩ (fun _ _ _ _ _ _ us hl => match us, hl with | [_, _], _ => rfl) (ok_forms F SL (fLo 2) fCl)
  have xFo : Fcx P w K mg base "forms" [] 15 2 (cFmsX U_BadWord) := (D 50 rfl (by decide +kernel)).fx (N := ["plan", "word"]) (ps := ["plan", "word"]) ⟨rfl, rfl, rfl, by decide +kernel, rfl, by decide +kernel, by decide +kernel⟩ (fun _ _ _ _ _ _ us hl => match us, hl with | [_, _], _ => rfl) (ok_forms_x xCl)
  have fRo : Fc P w K mg base "region_of" [] 8 2 (cRgO RF) := (D 51 rfl (by decide +kernel)).fc (N := nRgO) (ps := ["names", "word"]) ⟨rfl, rfl, rfl, by decide +kernel, rfl, by decide +kernel, by decide +kernel⟩ (fun _ _ _ _ _ _ us hl => match us, hl with | [_, _], _ => rfl) (ok_region_of XS ⟨_, h_rsubm⟩ gPE gRO fMf mSF mSI)
  have fRg : Fc P w K mg base "region" [] 9 2 (cReg RF) := (D 52 rfl (by decide +kernel)).fc (N := nReg) (ps := ["names", "word"]) ⟨rfl, rfl, rfl, by decide +kernel, rfl, by decide +kernel, by decide +kernel⟩ (fun _ _ _ _ _ _ us hl => match us, hl with | [_, _], _ => rfl) (ok_region F gMN fNa fAy fCl fRo)
  have xRg : Fcx P w K mg base "region" [] 9 2 (cRegX U_BadNames U_BadWord) := (D 52 rfl (by decide +kernel)).fx (N := nReg) (ps := ["names", "word"]) ⟨rfl, rfl, rfl, by decide +kernel, rfl, by decide +kernel, by decide +kernel⟩ (fun _ _ _ _ _ _ us hl => match us, hl with | [_, _], _ => rfl) (ok_region_x F E_BadNames.er gMN fNa fAy xCl)
  have fFl : Fc P w K mg base "_law_flat" [] 3 1 (cFlat RF) := (D 53 rfl (by decide +kernel)).fc (N := ["_law_form"]) (ps := ["_law_form"]) ⟨rfl, rfl, rfl, by decide +kernel, rfl, by decide +kernel, by decide +kernel⟩ (fun _ _ _ _ _ _ us hl => match us, hl with | [_], _ => rfl) (ok_flat F pP pN)
  have fLr : Fc P w K mg base "_law_region" [] 1 2 (cLRg) := (D 54 rfl (by decide +kernel)).fc (N := nLRg) (ps := ["_law_names", "_law_word"]) ⟨rfl, rfl, rfl, by decide +kernel, rfl, by decide +kernel, by decide +kernel⟩ (fun _ _ _ _ _ _ us hl => match us, hl with | [_, _], _ => rfl) (ok_lregion)
  have fOd : Fc P w K mg base "_law_odd" [] 3 1 (cOddK) := (D 55 rfl (by decide +kernel)).fc (N := ["_law_pot_here", "_law_some"]) (ps := ["_law_pot_here"]) ⟨rfl, rfl, rfl, by decide +kernel, rfl, by decide +kernel, by decide +kernel⟩ (fun _ _ _ _ _ _ us hl => match us, hl with | [_], _ => rfl) (ok_odd_k F fOf)
  have fLn : Fc P w K mg base "_law_are_names" [] 1 1 (cLNm) := (D 56 rfl (by decide +kernel)).fc (N := nLNm) (ps := ["_law_value"]) ⟨rfl, rfl, rfl, by decide +kernel, rfl, by decide +kernel, by decide +kernel⟩ (fun _ _ _ _ _ _ us hl => match us, hl with | [_], _ => rfl) (ok_lnames F)
  have tCt : Ct K mg "_law_caught" s__law_caught "_law_look" := ⟨D 57 rfl (by decide +kernel), (fun _ _ _ _ _ _ us hl => match us, hl with | [_], _ => rfl)⟩
  have gRi : Gc P w K mg base "_law_right" 19 1 (cRgt21 T1) := D__law_right.gc (N := nRgt21) (ps := ["_law_pot_here"]) ⟨rfl, rfl, rfl, by decide +kernel, rfl, by decide +kernel, by decide +kernel⟩ (fun _ _ _ _ _ _ us hl => match us, hl with | [_], _ => rfl) (ok_right21 F TB__law_right gB E_BadNames E_BadWord tCt fTk fOf (kPlan 2) fRg xRg fFo xFo fFl fLr fOd fLn)
  exact fnG_ok (N := nLaw) (ps := ["_law_script"]) L ⟨rfl, rfl, rfl, by decide +kernel, rfl, by decide +kernel, by decide +kernel⟩ (ok_law21 F fPs gRi)
theorem spLaw_okT {H : Hp} {a : Addr} {ns : List Int} {E : XK} {cs : List (Addr × Addr)} {T1 : Addr} (hO : OnlyT cs H) (m0 : T1 ∈ cs.map (·.2)) (hS : SqL K H a (ns.map V.int)) : spD K 1 (cLaw T1) [.ref a] H (fun v _ => v = .bl true) E := by
  have at_ : ∀ {T : Addr}, T ∈ cs.map (·.2) → H T = some (.tbl #[]) := fun hT => by
    obtain ⟨p, hp, rfl⟩ := List.mem_map.mp hT
    exact hO.1 p hp
  have rm : ∀ {M : Mp} {Z : Zn} {T : Addr} (qn : Str), T ∈ cs.map (·.2) → RepM K M Z H T (.tbl qn) := fun qn hT => ⟨#[], at_ hT, True.intro, fun pos cv hc => by
    have z : codeAmong pos [] = some cv := hc
    simp [codeAmong] at z⟩
  have ne : ∀ {T : Addr}, T ∈ cs.map (·.2) → Rd H a (.lst (ns.map V.int)) → a ≠ T := fun hT hr z => by
    have q := at_ hT
    rw [← z] at q
    rcases hr with r | ⟨o, r⟩
    · rw [q] at r; cases r
    · rw [q] at r; cases r
  refine ⟨[scrD ns], fun b => if b = T1 then some (MO.tbl qR21) else none, fun _ => False, fun d _ => d = .bl true, rfl, .cons ?_ .nil, ⟨fun b o e => ?_, fun b z => z.elim⟩, ⟨ns, rfl, by show (if T1 = T1 then some (MO.tbl qR21) else none) = _; rw [if_pos rfl], fun _ => rfl⟩, fun v d H' M' x w' r e => ?_⟩
  · rcases hS with h1 | h1
    · refine .rol h1 ⟨?_, id⟩ (Reps.ofInts ns)
      show (if a = T1 then some (MO.tbl qR21) else none) = none
      rw [if_neg (ne m0 h1)]
    · exact .rolK h1 (Reps.ofInts ns)
  · have e : (if b = T1 then some (MO.tbl qR21) else none) = some o := e
    by_cases h0 : b = T1
    · rw [if_pos h0] at e
      cases e; rw [h0]; exact rm _ m0
    rw [if_neg h0] at e; cases e
  · subst e; cases r; rfl
theorem facts {f : Addr} (X : K.In h) (G : h.Ns mainGlobals mg) (hfa : mg ("law" : Str) = some (.ref f)) (c : Says spec w K) (hf : (P.main.file == "/claim/cut.py") = true) (hs : (P.main.scope.names.lookup ("super" : Str)).isSome = false) :
    ∃ (fd : FuncData) (T1 : Addr) (cs : List (Addr × Addr)), (∀ (s : Shared) (v : Value), BindsTo s fd ⟨[v], []⟩ [("_law_script", v)]) ∧ (∀ p ∈ cs, K.lookup p.2 = none ∧ ∃ y ∈ tbsA, PySem.W.tabIn K y = some p) ∧ (T1 ∈ cs.map (·.2)) ∧ ∀ base : Heap, K.In base → base.Ns mainGlobals mg → (∀ p ∈ cs, LamX.TabB base mg p.1 p.2) → FnG P w K mg base 20 f fd ["_law_script"] (spD K 1 (cLaw T1)) := by
  obtain ⟨fd, L⟩ := c.dd 61 (d := gl "law" s_law) rfl
  have e := hfa.symm.trans (glo_ok X G (c.fa (f := .glo "law") (mem_glo (by decide +kernel))))
  cases e
  have b := FunD.bindsA (ps := ["_law_script"]) L fun _ _ _ _ _ _ us hl => match us, hl with | [_], _ => rfl
  obtain ⟨fi, DI⟩ := c.dd 0 rfl
  obtain ⟨p0, t0, l0⟩ := c.tbs (x := "_law_right") (by decide +kernel)
  have g0 := glo_ok X G (c.fa (f := .glo "_law_right") (mem_co 28 rfl))
  have d0 := mkDc X G c 60 (x := "_law_right") (st := s__law_right) rfl g0 t0
  refine ⟨fd, p0.2, [p0], fun s v => b s [v] rfl, fun p hp => ?_, (by simp), fun base _ _ TB => ?_⟩
  · simp only [List.mem_cons, List.not_mem_nil, or_false] at hp
    rcases hp with rfl
    · exact ⟨l0, _, by decide +kernel, t0⟩
  · exact chain (mkFx X G c) (mkPx X G c) (mkFo X G c) (str_ok X G (c.fa (f := .str "DOT" ".") (mem_co 19 rfl))) (str_ok X G (c.fa (f := .str "MINUS" "-") (mem_co 20 rfl))) (str_ok X G (c.fa (f := .str "PLUS" "+") (mem_co 21 rfl))) (str_ok X G (c.fa (f := .str "PEOPLE" "people") (mem_co 22 rfl))) (str_ok X G (c.fa (f := .str "CIRCLE" "circle") (mem_co 23 rfl))) (str_ok X G (c.fa (f := .str "ROWS" "rows") (mem_co 24 rfl))) (int_ok X G (c.fa (f := .int "PAIR" 2) (mem_co 25 rfl))) (int_ok X G (c.fa (f := .int "MOST_FORMS" 40) (mem_co 26 rfl))) (int_ok X G (c.fa (f := .int "MOST_NAMES_forms" 6) (mem_co 27 rfl))) (free_ok X G (c.fa (f := .free "any") (mem_co 17 rfl))) (free_ok X G (c.fa (f := .free "dict") (mem_co 18 rfl))) (glo_ok X G (c.fa (f := .glo "WORDS") (mem_glo (by decide +kernel)))) (c.txs (x := "WORDS") (zs := wordsL) (by decide +kernel)) (glo_ok X G (c.fa (f := .glo "LISTED") (mem_glo (by decide +kernel)))) (c.txs (x := "LISTED") (zs := lisL) (by decide +kernel)) (let ⟨fd, F⟩ := c.dd 58 rfl; ⟨_, fd, F, glo_ok X G (c.fa (f := .glo "names_in_plans") (mem_glo (by decide +kernel)))⟩) (let ⟨fd, F⟩ := c.dd 59 rfl; ⟨_, fd, F, glo_ok X G (c.fa (f := .glo "names_in_forms") (mem_glo (by decide +kernel)))⟩) ⟨_, mkr_ok (c.fa (f := .mkr "Form") (mem_co 32 rfl)), c.dd 15 rfl⟩ (c.eqs (List.mem_singleton.mpr rfl)) (c.sl (x := "Lists") (fs := lsN) (List.mem_singleton.mpr rfl)) (glo_ok X G (c.fa (f := .glo "Lists") (mem_glo (by decide +kernel)))) ⟨_, mkr_ok (c.fa (f := .mkr "Lists") (mem_co 39 rfl)), ⟨c.dd 16 rfl⟩⟩ ⟨_, meth_ok (c.fa (f := .meth "Lists" "copied") (mem_co 40 rfl)), ⟨c.dd 13 rfl⟩⟩ ⟨_, meth_ok (c.fa (f := .meth "Lists" "joined") (mem_co 41 rfl)), ⟨c.dd 14 rfl⟩⟩ ⟨_, meth_ok (c.fa (f := .meth "Form" "__eq__") (mem_co 33 rfl)), ⟨c.dd 7 rfl⟩⟩ ⟨_, meth_ok (c.fa (f := .meth "Form" "__add__") (mem_co 34 rfl)), ⟨c.dd 8 rfl⟩⟩ ⟨_, meth_ok (c.fa (f := .meth "Form" "__sub__") (mem_co 35 rfl)), ⟨c.dd 9 rfl⟩⟩ ⟨_, meth_ok (c.fa (f := .meth "Form" "__rsub__") (mem_co 36 rfl)), ⟨c.dd 10 rfl⟩⟩ ⟨_, meth_ok (c.fa (f := .meth "Form" "__mul__") (mem_co 37 rfl)), ⟨c.dd 11 rfl⟩⟩ ⟨_, meth_ok (c.fa (f := .meth "Form" "__rmul__") (mem_co 38 rfl)), ⟨c.dd 12 rfl⟩⟩ ⟨_, _, propB_ok (c.pr (q := ("Form", "parts")) (by decide +kernel)), ⟨c.dd 17 rfl⟩⟩ ⟨_, _, propB_ok (c.pr (q := ("Form", "number")) (by decide +kernel)), ⟨c.dd 18 rfl⟩⟩ ⟨_, _, propB_ok (c.pr (q := ("Form", "text")) (by decide +kernel)), ⟨c.dd 19 rfl⟩⟩ (glo_ok X G (c.fa (f := .glo "CrowdError") (mem_glo (by decide +kernel)))) (mkEk X G c hf hs (x := "BadNames") (by decide +kernel) (by decide +kernel)) (mkEk X G c hf hs (x := "BadWord") (by decide +kernel) (by decide +kernel)) (c.kiI (x := "Form") (by decide +kernel)) d0 (TB p0 (by simp)) ⟨_, fi, DI, glo_ok X G (c.fa (f := .glo "is_integer") (mem_glo (by decide +kernel)))⟩ (fun i {x st} hd hx => mkDf X G c i hd hx) L
end
end W
open PySem PySem.W PySem.Calls PyProof.Rows
theorem PySem.Challenge.cw_greetall_k21_regions_holds : PySem.Challenge.rw_greetall_k21_regions.Holds := by
  w_on; o_law
  refine HandSHeadRun.head_any (r := W.R) (q := view W.R.prog [115, 116]) (H := W.hk) (ob := W.ob) (M := 12000) (loose := W.names0 ++ W.names1 ++ W.names2 ++ W.names3) (d := HandSHeadRun.topDef W.R.prog 116) (kwd := []) W.ob_eq
    (by kernel_rfl) (fun s => by kernel_rfl) W.run (by kernel_rfl) (by kernel_rfl) (by kernel_rfl) (by rfl) (by first | assumption | decide +kernel) (by decide +kernel) ⟨rfl, rfl, rfl, rfl, rfl, by decide +kernel⟩ ?hw ?hc
  case hw => w_witness2
  case hc =>
    refine DL.walk_ofGT (l := PySem.Challenge.rw_greetall_k21_regions) (n := 63) (k := 20) (x := "_law_script") (names := W.tbsA) rfl (by decide) (by kernel_rfl) ⟨rfl, by decide, by decide⟩ (by decide +kernel) ?F
    intro w mg fa h Y G hmg0
    obtain ⟨K, KX, c⟩ := Y
    have hmg : mg ("law" : PySem.Str) = some (.ref fa) := by
      have e : (HandSHeadRun.topDef W.R.prog 116).name = ("law" : PySem.Str) := by kernel_rfl
      rw [← e]
      exact hmg0
    obtain ⟨fd, T1, cs, hb, ht, m0, hF⟩ := W.facts (P := (PySem.Challenge.rw_greetall_k21_regions).prog) (w := w) KX G hmg c (by rfl) (by decide +kernel)
    exact ⟨K, fd, DL.spD K 1 (W.cLaw T1), cs, KX, hb, ht, fun H a ns hl hO hS => W.spLaw_okT hO m0 hS, hF⟩
