import PyProof.Rows.All
import Wide.All
import OpenK.AllK
import Wide.FinOn
import HandS.ForMost
import HandS.ForExc
import HandS.ExcInit
import HandS.IsInst
import KE.KExcSuper
import KE.KSuper
import KE.KSuperObj
import HandS.TryOnly
import KE.KExcIs
import KE.KIsAll
import HandS.Lambda
import KE.KeyNested
import KE.KDictKeyed
import HandS.Defaults
import HandS.Wide
import HandS.Flow
import HandS.Zip
import HandS.StrMore
import HandS.FStr
import HandS.Conv
import HandS.More
import HandS.Property
import HandS.OwnEq
import HandS.Slots
import HandS.TupAny
import HandS.Star
import HandS.Strs
import KE.GoesMore
import HandS.Style
import HandS.RaiseMore
import HandS.HeadEnd
import HandS.SortRule
import HandS.TupSets
import PyProof.ReprLen
import HandS.Codes
import KE.KUnpackStar
import HandS.Small
import HandS.Deep
import HandS.List
import HandS.ClsMeth
import HandS.Head0
import HandS.Head1
import HandS.Head2
import HandS.HeadHook1
import HandS.HeadHook2
import HandS.HeadHook3
import KE.KNest
import HandS.EndOwn
import HandS.SetFor
import KE.DataMinMax
import KE.GoesEnum
import HandS.NoneIn
import KE.SortData
import PyProof.Rows.SortShellAny
import KE.BitLaws
import HandS.ExcValue
import HandS.Iter
import KE.KDictWalk
import KE.KDictCopyH
import HandS.TupMul
import PyProof.Rows.CountFlat
import KE.KAssignIn
import HandS.SlotsOwn
import HandS.ListItems
import KE.KRevSl
import KE.KDictItemsList
import KE.KDictDisplayH
import OpenK.KMeth
import KE.KOpsOwn
import PyProof.EqAt
import PyProof.StrLawsRepr
import PySem.Challenge.RW_greetall_k19_texts_of_forms
set_option Elab.async false
set_option linter.all false
set_option maxRecDepth 100000
set_option maxHeartbeats 0
namespace XL
end XL
namespace DL
end DL
namespace HK
end HK
namespace PL
end PL
namespace W
end W
namespace PySem
end PySem
namespace XL
open PySem PySem.W PySem.Calls PyProof.Rows PySem.HandSPX
/-- what the written part says of the base class at B and its __init__ at fI, whose cell of the class stands at cl -/
structure CrTxt (P : Program) (K : Frag) (q : Str) (a : Arguments) (b : List Stmt) (sc : Scope) (B fI cl : Addr) : Prop where
  fn : ∃ (oc : Value) (od : Option Addr) (doc pm : Value) (an : Option Addr) (cc : Addr) (ct : Value) (osl : Array (Option Value)) (occ : Obj) (vs : Array Value) (file : Str) (tf : Tok),
    K.lookup fI = some ⟨oc, od, .func (ksFn "__init__" q a b sc .none .none doc pm an (.ref cc) ct cl), osl⟩ ∧ codeIn K (.ref cc) q = true ∧ K.lookup cc = some occ ∧ occ.data = .fields vs ∧ vs[2]? = some (.str file tf) ∧ (P.main.file == file) = true
  cell : ∃ o, K.lookup cl = some o ∧ o.data = .cell (some (.ref B))
  bcls : ∃ o cd, K.lookup B = some o ∧ o.data = .cls cd
  typ : typeIn K (.ref fI) = some (.type "function")
  sup : (P.main.scope.names.lookup ("super" : Str)).isSome = false
  nsS : nsIn K cStatics "thirdparty.any" = some none
/-- what it says of one of the errors, at C -/
structure ErTxt (K : Frag) (mg : Str → Option Value) (x : Str) (C B fI : Addr) : Prop where
  gC : mg x = some (.ref C)
  cls : ∃ nm q N bs bm sn sub ab col dd k0 k1 k2 k3 k5, K.lookup C = some (excClassObj nm q C N bs bm true sn sub ab col dd k0 k1 k2 k3 k5 "ValueError.__new__") ∧ refsVE bm = true
  ini : excInitIn K C [.type "ValueError", .type "Exception", .type "BaseException", .type "object"] "ValueError.__new__" = true
  sa : findIn K (.ref C) "__setattr__" = some (some (.builtin "object.__setattr__"))
  ga : findIn K (.ref C) "__getattribute__" = some (some (.builtin "BaseException.__getattribute__"))
  gg : findIn K (.ref C) "__getattr__" = some none
  noV : findIn K (.ref C) "value" = some none
  iC : findIn K (.ref C) "__init__" = some (some (.ref fI))
  kC : keepIn K (.ref C) = true
  exC : subIn K (.ref C) (.type "BaseException") = some true
  veC : subIn K (.ref C) (.type "ValueError") = some true
  sB : subIn K (.ref C) (.ref B) = some true
  tyC : typeIn K (.ref C) = some (.type "type")
  hdC : hasDictIn K C = true
  sup : ks_superIn K C B "__init__" = some (some (.builtin "ValueError.__init__"))
end XL
namespace XL
open PySem PySem.W PySem.Calls PyProof.Rows PySem.HandSPX L2
theorem Mod.keeps {K : Frag} {mg : Str → Option Value} {h h' : Heap} (M : L2.Mod K mg h) (k : ∀ b o, h.get? b = some o → h'.get? b = some o) : L2.Mod K mg h' := by
  obtain ⟨mb, nb, hmb⟩ := M.blt
  exact ⟨M.kin.keeps k, M.glob.keeps k, ⟨mb, nb.keeps k, hmb⟩, M.nolimit.keeps k⟩
end XL
namespace XL
open PySem PySem.W PySem.Calls PyProof.Rows PySem.HandSPX L2
/-- an error object: its class, its own dict -/
def XV (a : Addr) (cls : Value) (d : Option Addr) : HO := .ext fun h => ∃ oe vs, h.get? a = some oe ∧ Zc cls d oe ∧ oe.data = .fields vs
end XL
namespace XL
open PySem PySem.W PySem.Calls PyProof.Rows PySem.HandSPX L2
/-- what isinstance and a field ask of the class at C -/
structure ErV (K : Frag) (C : Addr) : Prop where
  cl : (clsIn K C).isSome = true
  ga : findIn K (.ref C) "__getattribute__" = some (some (.builtin "BaseException.__getattribute__"))
  gg : findIn K (.ref C) "__getattr__" = some none
  exC : subIn K (.ref C) (.type "BaseException") = some true
  hdC : hasDictIn K C = true
  noV : findIn K (.ref C) "value" = some none
  ha : findIn K (.ref C) "__class__" = some (some (.builtin "object.__class__"))
  hn : specialIn K (.builtin "object.__class__") "__get__" = some (some (.builtin "getset_descriptor.__get__"))
  ht : takesIn K (.builtin "object.__class__") = some true
  hm : mroIn K C (.type "object") = some true
end XL
namespace XL
open PySem PySem.W PySem.Calls PyProof.Rows PySem.HandSPX L2 LamX
/-- a lambda at f, its code object at c' -/
def LamO (f : Addr) (q : Str) (params : Arguments) (body : Expr) (scope : Scope) (cells : List (Str × Addr)) (c' : Addr) : HO := .ext fun h => ∃ pm ctv, h.get? f = some (W.kla_obj "<lambda>" q params body scope cells pm c' ctv)
end XL
namespace DL
open PySem L2
/-- a value as data: immutable things by what they hold, mutable ones by their address -/
inductive D where
  | non | bl (b : Bool) | int (i : Int) | str (x : Str)
  | lst (xs : List D) | rol (xs : List D) | tup (xs : List D)
  | dK (kvs : List (Key × D)) | dT (kvs : List (List Key × D))
  | ins (C : Addr) (fs : List (Str × D))
  | ty (n : String) | fn (a : Addr) | ob (a : Addr)
  | key (ks : List Key)
  | fig (C : Addr) (ns : List Int)
  | exc (C : Addr) (fs : List (Str × D))
  | lam (q : Str) (params : Arguments) (body : Expr) (scope : Scope) (cells : List (Str × Addr))
  | fdK (kvs : List (Key × D))
  | slo (C : Addr) (os : List (Option D))
  | fdN (w : World) (kvs : List (D × D))
  | ptup (xs : List D)
/-- a mutable object's content -/
inductive MO where
  | lst (xs : List D) | dK (kvs : List (Key × D)) | dT (kvs : List (List Key × D)) | ins (C : Addr) (fs : List (Str × D)) | tbl (q : Str) | fdK (kvs : List (Key × D)) | slo (C : Addr) (os : List (Option D)) | dN (w : World) (kvs : List (D × D))
abbrev Mp := Addr → Option MO
abbrev Rho := List (Option D)
/-- addresses that stand hidden: nothing that the code reads leads there -/
abbrev Zn := Addr → Prop
/-- neither mutable nor hidden -/
def Im (M : Mp) (Z : Zn) (a : Addr) : Prop := M a = none ∧ ¬ Z a
/-- a written tuple without a dict of its own -/
def WrP (K : PySem.W.Frag) (a : Addr) (xs : List V) : Prop := ∃ (o : Obj) (its : Array Value) (n : Nat), K.lookup a = some o ∧ o.cls = .type "tuple" ∧ o.dict = none ∧ o.data = .seq its n ∧ its.size ≤ sizeLine ∧ Vals xs its.toList
/-- a list, a tuple of the written part -/
def WrL (K : PySem.W.Frag) (a : Addr) (xs : List V) : Prop := ∃ (o : Obj) (its : Array Value) (n : Nat), K.lookup a = some o ∧ o.cls = .type "list" ∧ o.dict = none ∧ o.data = .seq its n ∧ its.size ≤ sizeLine ∧ Vals xs its.toList
def WrT (K : PySem.W.Frag) (a : Addr) (xs : List V) : Prop := ∃ (o : Obj) (its : Array Value) (n : Nat), K.lookup a = some o ∧ o.cls = .type "tuple" ∧ o.data = .seq its n ∧ its.size ≤ sizeLine ∧ Vals xs its.toList
mutual
/-- data as a key -/
def nkD : D → Option NestedKey
  | .non => some .none
  | .bl b => some (.num (if b = true then 1 else 0))
  | .int i => some (.num i)
  | .str x => some (.text x)
  | .tup ds => (nkDs ds).map .tup
  | _ => none
def nkDs : List D → Option (List NestedKey)
  | [] => some []
  | d :: ds => (nkD d).bind fun k => (nkDs ds).map (k :: ·)
end
def entN (w : World) (x : NestedKey × Addr × Value) : DictEntry := entryOfKey (nestedKind default w) x
/-- at a stands the dict with these entries: what is said speaks of this object alone -/
def DNf (w : World) (a : Addr) (xs : List (NestedKey × Addr × V)) (h : Heap) : Prop := xs.length ≤ sizeLine ∧ (a == sysModules) = false ∧ ∃ ys : List (NestedKey × Addr × Value),
  Paired (fun (p : NestedKey × Addr × V) (q : NestedKey × Addr × Value) => p.1 = q.1 ∧ p.2.1 = q.2.1 ∧ RelV p.2.2 q.2.2) xs ys ∧ ∃ o es ep, h.get? a = some o ∧ o.ExactDict ∧ o.data = .dict es ep ∧ es.toList = ys.map (entN w) ∧ (ys.map (·.1)).Nodup
def DNo (w : World) (a : Addr) (xs : List (NestedKey × Addr × V)) : HO := .ext (DNf w a xs)
mutual
/-- the value v stands for the data d -/
inductive Rep (K : PySem.W.Frag) (M : Mp) (Z : Zn) (H : Hp) : V → D → Prop where
  | non : Rep K M Z H .non .non
  | bl (b : Bool) : Rep K M Z H (.bl b) (.bl b)
  | int (i : Int) : Rep K M Z H (.int i) (.int i)
  | str (x : Str) : Rep K M Z H (.str x) (.str x)
  | ty (n : String) : Rep K M Z H (.ty n) (.ty n)
  | fn (a : Addr) : Rep K M Z H (.ref a) (.fn a)
  | ob (a : Addr) : Rep K M Z H (.ref a) (.ob a)
  | lst {a : Addr} {vs : List V} {ds : List D} (h : H a = some (.lst vs)) (m : Im M Z a) (r : Reps K M Z H vs ds) : Rep K M Z H (.ref a) (.lst ds)
  | rol {a : Addr} {vs : List V} {ds : List D} (h : Rd H a (.lst vs)) (m : Im M Z a) (r : Reps K M Z H vs ds) : Rep K M Z H (.ref a) (.rol ds)
  | rolK {a : Addr} {vs : List V} {ds : List D} (h : WrL K a vs) (r : Reps K M Z H vs ds) : Rep K M Z H (.ref a) (.rol ds)
  | tup {a : Addr} {vs : List V} {ds : List D} (h : Rd H a (.tup vs)) (m : Im M Z a) (r : Reps K M Z H vs ds) : Rep K M Z H (.ref a) (.tup ds)
  | tupK {a : Addr} {vs : List V} {ds : List D} (h : WrT K a vs) (r : Reps K M Z H vs ds) : Rep K M Z H (.ref a) (.tup ds)
  | dK {a : Addr} {vs : List (Key × V)} {ds : List (Key × D)} (h : H a = some (.dK vs)) (m : Im M Z a) (r : RepK K M Z H vs ds) : Rep K M Z H (.ref a) (.dK ds)
  | dT {a : Addr} {vs : List (List Key × V)} {ds : List (List Key × D)} (h : H a = some (.dT vs)) (m : Im M Z a) (r : RepT K M Z H vs ds) : Rep K M Z H (.ref a) (.dT ds)
  | ins {a C dx : Addr} {vs : List (Str × V)} {ds : List (Str × D)} (h : H a = some (.ins C dx vs)) (m : Im M Z a) (r : RepF K M Z H vs ds) : Rep K M Z H (.ref a) (.ins C ds)
  | key {a : Addr} {ks : List Key} (h : H a = some (.tup (ks.map kV))) (m : Im M Z a) : Rep K M Z H (.ref a) (.key ks)
  | fig {a C dx : Addr} {ns : List Int} (h : H a = some (SlX.SlO a C dx (ns.map fun i => some (V.int i)))) (hd : H dx = some (.xd [])) (m : Im M Z a) (md : Im M Z dx) : Rep K M Z H (.ref a) (.fig C ns)
  | exc {a C dd : Addr} {vs : List (Str × V)} {ds : List (Str × D)} (h : H a = some (XL.XV a (.ref C) (some dd))) (hd : H dd = some (.xd vs)) (m : Im M Z a) (md : Im M Z dd) (r : RepF K M Z H vs ds) : Rep K M Z H (.ref a) (.exc C ds)
  | lam {a c : Addr} {q : Str} {ps : Arguments} {b : Expr} {sc : Scope} {cl : List (Str × Addr)} (h : H a = some (XL.LamO a q ps b sc cl c)) (hc : H c = some (LamX.CodeO c q)) (m : Im M Z a) (mc : Im M Z c) : Rep K M Z H (.ref a) (.lam q ps b sc cl)
  | fdK {a : Addr} {o : Obj} {vs : List (Key × V)} {ds : List (Key × D)} (h : H a = some (.frz o (.dK vs))) (m : Im M Z a) (r : RepK K M Z H vs ds) : Rep K M Z H (.ref a) (.fdK ds)
  | slo {a C dx : Addr} {vs : List (Option V)} {os : List (Option D)} (h : H a = some (SlX.SlO a C dx vs)) (hd : H dx = some (.xd [])) (m : Im M Z a) (md : Im M Z dx) (r : RepO K M Z H vs os) : Rep K M Z H (.ref a) (.slo C os)
  | fdN {a : Addr} {o : Obj} {w : World} {xs : List (NestedKey × Addr × V)} {ds : List (D × D)} (h : H a = some (.frz o (DNo w a xs))) (m : Im M Z a) (r : RepN K M Z H xs ds) : Rep K M Z H (.ref a) (.fdN w ds)
  | ptup {a : Addr} {o : Obj} {vs : List V} {ds : List D} (h : H a = some (.frz o (.tup vs))) (hd : o.dict = none) (m : Im M Z a) (r : Reps K M Z H vs ds) : Rep K M Z H (.ref a) (.ptup ds)
  | ptupK {a : Addr} {vs : List V} {ds : List D} (h : WrP K a vs) (r : Reps K M Z H vs ds) : Rep K M Z H (.ref a) (.ptup ds)
inductive RepN (K : PySem.W.Frag) (M : Mp) (Z : Zn) (H : Hp) : List (NestedKey × Addr × V) → List (D × D) → Prop where
  | nil : RepN K M Z H [] []
  | cons {k : NestedKey} {a : Addr} {v : V} {dk d : D} {xs : List (NestedKey × Addr × V)} {kvs : List (D × D)} (hk : nkD dk = some k) (dp : k.depth ≤ 8) (rk : Rep K M Z H (.ref a) dk) (r : Rep K M Z H v d) (t : RepN K M Z H xs kvs) : RepN K M Z H ((k, a, v) :: xs) ((dk, d) :: kvs)
inductive RepO (K : PySem.W.Frag) (M : Mp) (Z : Zn) (H : Hp) : List (Option V) → List (Option D) → Prop where
  | nil : RepO K M Z H [] []
  | val {v : V} {d : D} {vs : List (Option V)} {os : List (Option D)} (r : Rep K M Z H v d) (t : RepO K M Z H vs os) : RepO K M Z H (some v :: vs) (some d :: os)
  | any {o : Option V} {vs : List (Option V)} {os : List (Option D)} (t : RepO K M Z H vs os) : RepO K M Z H (o :: vs) (none :: os)
inductive Reps (K : PySem.W.Frag) (M : Mp) (Z : Zn) (H : Hp) : List V → List D → Prop where
  | nil : Reps K M Z H [] []
  | cons {v : V} {d : D} {vs : List V} {ds : List D} (r : Rep K M Z H v d) (t : Reps K M Z H vs ds) : Reps K M Z H (v :: vs) (d :: ds)
inductive RepK (K : PySem.W.Frag) (M : Mp) (Z : Zn) (H : Hp) : List (Key × V) → List (Key × D) → Prop where
  | nil : RepK K M Z H [] []
  | cons {k : Key} {v : V} {d : D} {vs : List (Key × V)} {ds : List (Key × D)} (r : Rep K M Z H v d) (t : RepK K M Z H vs ds) : RepK K M Z H ((k, v) :: vs) ((k, d) :: ds)
inductive RepT (K : PySem.W.Frag) (M : Mp) (Z : Zn) (H : Hp) : List (List Key × V) → List (List Key × D) → Prop where
  | nil : RepT K M Z H [] []
  | cons {k : List Key} {v : V} {d : D} {vs : List (List Key × V)} {ds : List (List Key × D)} (r : Rep K M Z H v d) (t : RepT K M Z H vs ds) : RepT K M Z H ((k, v) :: vs) ((k, d) :: ds)
inductive RepF (K : PySem.W.Frag) (M : Mp) (Z : Zn) (H : Hp) : List (Str × V) → List (Str × D) → Prop where
  | nil : RepF K M Z H [] []
  | cons {k : Str} {v : V} {d : D} {vs : List (Str × V)} {ds : List (Str × D)} (r : Rep K M Z H v d) (t : RepF K M Z H vs ds) : RepF K M Z H ((k, v) :: vs) ((k, d) :: ds)
end
/-- what is immutable stays, what is hidden stays -/
def Ext (M : Mp) (Z : Zn) (H : Hp) (M' : Mp) (H' : Hp) : Prop := (∀ b o, H b = some o → Im M Z b → H' b = some o ∧ Im M' Z b) ∧ ∀ b, Z b → H' b = H b ∧ M' b = M b
theorem Ext.refl {M : Mp} {Z : Zn} {H : Hp} : Ext M Z H M H := ⟨fun _ _ h m => ⟨h, m⟩, fun _ _ => ⟨rfl, rfl⟩⟩
theorem Ext.trans {M M1 M2 : Mp} {Z : Zn} {H H1 H2 : Hp} (a : Ext M Z H M1 H1) (b : Ext M1 Z H1 M2 H2) : Ext M Z H M2 H2 := ⟨fun c o h m =>
  b.1 c o (a.1 c o h m).1 (a.1 c o h m).2, fun c z => ⟨(b.2 c z).1.trans (a.2 c z).1, (b.2 c z).2.trans (a.2 c z).2⟩⟩
theorem Ext.rd {M M' : Mp} {Z : Zn} {H H' : Hp} {a : Addr} {u : HO} (e : Ext M Z H M' H') (h : Rd H a u) (m : Im M Z a) : Rd H' a u := by
  rcases h with h | ⟨o, h⟩
  · exact .inl (e.1 _ _ h m).1
  · exact .inr ⟨o, (e.1 _ _ h m).1⟩
theorem Ext.md {M M' : Mp} {Z : Zn} {H H' : Hp} {a : Addr} {u : HO} (e : Ext M Z H M' H') (h : Rd H a u) (m : Im M Z a) : Im M' Z a := by
  rcases h with h | ⟨o, h⟩
  · exact (e.1 _ _ h m).2
  · exact (e.1 _ _ h m).2
/-- .. among other hidden ones -/
def ExI (M : Mp) (Z : Zn) (H : Hp) (M' : Mp) (Z' : Zn) (H' : Hp) : Prop := ∀ b o, H b = some o → Im M Z b → H' b = some o ∧ Im M' Z' b
theorem Ext.i {M M' : Mp} {Z : Zn} {H H' : Hp} (e : Ext M Z H M' H') : ExI M Z H M' Z H' := e.1
theorem ExI.refl {M : Mp} {Z : Zn} {H : Hp} : ExI M Z H M Z H := fun _ _ h m => ⟨h, m⟩
theorem ExI.trans {M M1 M2 : Mp} {Z Z1 Z2 : Zn} {H H1 H2 : Hp} (a : ExI M Z H M1 Z1 H1) (b : ExI M1 Z1 H1 M2 Z2 H2) : ExI M Z H M2 Z2 H2 := fun c o h m => b c o (a c o h m).1 (a c o h m).2
theorem ExI.rd {M M' : Mp} {Z Z' : Zn} {H H' : Hp} {a : Addr} {u : HO} (e : ExI M Z H M' Z' H') (h : Rd H a u) (m : Im M Z a) : Rd H' a u := by
  rcases h with h | ⟨o, h⟩
  · exact .inl (e _ _ h m).1
  · exact .inr ⟨o, (e _ _ h m).1⟩
theorem ExI.md {M M' : Mp} {Z Z' : Zn} {H H' : Hp} {a : Addr} {u : HO} (e : ExI M Z H M' Z' H') (h : Rd H a u) (m : Im M Z a) : Im M' Z' a := by
  rcases h with h | ⟨o, h⟩
  · exact (e _ _ h m).2
  · exact (e _ _ h m).2
section
variable {K : PySem.W.Frag} {M M' : Mp} {Z Z' : Zn} {H H' : Hp}
mutual
theorem Rep.monoI (e : ExI M Z H M' Z' H') : ∀ {v : V} {d : D}, Rep K M Z H v d → Rep K M' Z' H' v d
  | _, _, .non => .non
  | _, _, .bl b => .bl b
  | _, _, .int i => .int i
  | _, _, .str x => .str x
  | _, _, .ty n => .ty n
  | _, _, .fn a => .fn a
  | _, _, .ob a => .ob a
  | _, _, .lst h m r => .lst (e _ _ h m).1 (e _ _ h m).2 (Reps.monoI e r)
  | _, _, .rol h m r => .rol (e.rd h m) (e.md h m) (Reps.monoI e r)
  | _, _, .rolK h r => .rolK h (Reps.monoI e r)
  | _, _, .tup h m r => .tup (e.rd h m) (e.md h m) (Reps.monoI e r)
  | _, _, .tupK h r => .tupK h (Reps.monoI e r)
  | _, _, .dK h m r => .dK (e _ _ h m).1 (e _ _ h m).2 (RepK.monoI e r)
  | _, _, .dT h m r => .dT (e _ _ h m).1 (e _ _ h m).2 (RepT.monoI e r)
  | _, _, .ins h m r => .ins (e _ _ h m).1 (e _ _ h m).2 (RepF.monoI e r)
  | _, _, .key h m => .key (e _ _ h m).1 (e _ _ h m).2
  | _, _, .fig h hd m md => .fig (e _ _ h m).1 (e _ _ hd md).1 (e _ _ h m).2 (e _ _ hd md).2
  | _, _, .exc h hd m md r => .exc (e _ _ h m).1 (e _ _ hd md).1 (e _ _ h m).2 (e _ _ hd md).2 (RepF.monoI e r)
  | _, _, .lam h hc m mc => .lam (e _ _ h m).1 (e _ _ hc mc).1 (e _ _ h m).2 (e _ _ hc mc).2
  | _, _, .fdK h m r => .fdK (e _ _ h m).1 (e _ _ h m).2 (RepK.monoI e r)
  | _, _, .slo h hd m md r => .slo (e _ _ h m).1 (e _ _ hd md).1 (e _ _ h m).2 (e _ _ hd md).2 (RepO.monoI e r)
  | _, _, .fdN h m r => .fdN (e _ _ h m).1 (e _ _ h m).2 (RepN.monoI e r)
  | _, _, .ptup h hd m r => .ptup (e _ _ h m).1 hd (e _ _ h m).2 (Reps.monoI e r)
  | _, _, .ptupK h r => .ptupK h (Reps.monoI e r)
theorem RepN.monoI (e : ExI M Z H M' Z' H') : ∀ {xs : List (NestedKey × Addr × V)} {kvs : List (D × D)}, RepN K M Z H xs kvs → RepN K M' Z' H' xs kvs
  | _, _, .nil => .nil
  | _, _, .cons hk dp rk r t => .cons hk dp (Rep.monoI e rk) (Rep.monoI e r) (RepN.monoI e t)
theorem RepO.monoI (e : ExI M Z H M' Z' H') : ∀ {v : List (Option V)} {d : List (Option D)}, RepO K M Z H v d → RepO K M' Z' H' v d
  | _, _, .nil => .nil
  | _, _, .val r t => .val (Rep.monoI e r) (RepO.monoI e t)
  | _, _, .any t => .any (RepO.monoI e t)
theorem Reps.monoI (e : ExI M Z H M' Z' H') : ∀ {v : List V} {d : List D}, Reps K M Z H v d → Reps K M' Z' H' v d
  | _, _, .nil => .nil
  | _, _, .cons r t => .cons (Rep.monoI e r) (Reps.monoI e t)
theorem RepK.monoI (e : ExI M Z H M' Z' H') : ∀ {v : List (Key × V)} {d : List (Key × D)}, RepK K M Z H v d → RepK K M' Z' H' v d
  | _, _, .nil => .nil
  | _, _, .cons r t => .cons (Rep.monoI e r) (RepK.monoI e t)
theorem RepT.monoI (e : ExI M Z H M' Z' H') : ∀ {v : List (List Key × V)} {d : List (List Key × D)}, RepT K M Z H v d → RepT K M' Z' H' v d
  | _, _, .nil => .nil
  | _, _, .cons r t => .cons (Rep.monoI e r) (RepT.monoI e t)
theorem RepF.monoI (e : ExI M Z H M' Z' H') : ∀ {v : List (Str × V)} {d : List (Str × D)}, RepF K M Z H v d → RepF K M' Z' H' v d
  | _, _, .nil => .nil
  | _, _, .cons r t => .cons (Rep.monoI e r) (RepF.monoI e t)
end
end
theorem Reps.length {K : PySem.W.Frag} {M : Mp} {Z : Zn} {H : Hp} : ∀ {vs : List V} {ds : List D}, Reps K M Z H vs ds → vs.length = ds.length
  | _, _, .nil => rfl
  | _, _, .cons _ t => by rw [List.length_cons, List.length_cons, t.length]
theorem Reps.get {K : PySem.W.Frag} {M : Mp} {Z : Zn} {H : Hp} : ∀ {vs : List V} {ds : List D} {i : Nat} {d : D}, Reps K M Z H vs ds → ds[i]? = some d → ∃ v, vs[i]? = some v ∧ Rep K M Z H v d
  | _, _, _, _, .nil, e => by simp at e
  | _, _, 0, _, .cons r _, e => by simp at e; subst e; exact ⟨_, rfl, r⟩
  | _, _, i + 1, d, .cons _ t, e => by
    obtain ⟨u, h1, h2⟩ := Reps.get (i := i) (d := d) t (by simpa using e)
    exact ⟨u, by simpa using h1, h2⟩
theorem Reps.drop {K : PySem.W.Frag} {M : Mp} {Z : Zn} {H : Hp} : ∀ {vs : List V} {ds : List D} (n : Nat), Reps K M Z H vs ds → Reps K M Z H (vs.drop n) (ds.drop n)
  | _, _, 0, r => r
  | _, _, _ + 1, .nil => .nil
  | _, _, n + 1, .cons _ t => Reps.drop n t
theorem Reps.take {K : PySem.W.Frag} {M : Mp} {Z : Zn} {H : Hp} : ∀ {vs : List V} {ds : List D} (n : Nat), Reps K M Z H vs ds → Reps K M Z H (vs.take n) (ds.take n)
  | _, _, 0, _ => .nil
  | _, _, _ + 1, .nil => .nil
  | _, _, n + 1, .cons r t => .cons r (Reps.take n t)
theorem Reps.ofStrs {K : PySem.W.Frag} {M : Mp} {Z : Zn} {H : Hp} : ∀ (ns : List Str), Reps K M Z H (ns.map V.str) (ns.map D.str)
  | [] => .nil
  | _ :: r => .cons (.str _) (Reps.ofStrs r)
/-- a mutable object is held -/
def RepM (K : PySem.W.Frag) (M : Mp) (Z : Zn) (H : Hp) (a : Addr) : MO → Prop
  | .lst ds => ∃ vs, H a = some (.lst vs) ∧ Reps K M Z H vs ds
  | .dK ds => ∃ vs, H a = some (.dK vs) ∧ RepK K M Z H vs ds
  | .dT ds => ∃ vs, H a = some (.dT vs) ∧ RepT K M Z H vs ds
  | .ins C ds => ∃ dx vs, H a = some (.ins C dx vs) ∧ RepF K M Z H vs ds
  | .fdK ds => ∃ o vs, H a = some (.frz o (.dK vs)) ∧ RepK K M Z H vs ds
  | .slo C os => ∃ dx vs, H a = some (SlX.SlO a C dx vs) ∧ H dx = some (.xd []) ∧ Im M Z dx ∧ RepO K M Z H vs os
  | .dN w ds => ∃ xs, H a = some (DNo w a xs) ∧ RepN K M Z H xs ds
  | .tbl q => ∃ ps, H a = some (.tbl ps) ∧ TriplesOk ps.toList ∧ ∀ (pos : Pos) (cv : Value), codeAmong pos ps.toList = some cv → ∃ c, cv = .ref c ∧ H c = some (LamX.CodeO c q) ∧ Im M Z c
/-- the mutable objects are held, the hidden ones stand -/
def Wd (K : PySem.W.Frag) (M : Mp) (Z : Zn) (H : Hp) : Prop := (∀ a o, M a = some o → RepM K M Z H a o) ∧ ∀ a, Z a → M a = none ∧ ∃ u, H a = some u
theorem RepM.there {K : PySem.W.Frag} {M : Mp} {Z : Zn} {H : Hp} {a : Addr} {o : MO} (h : RepM K M Z H a o) : ∃ u, H a = some u := by
  cases o with
  | lst ds => obtain ⟨vs, e, _⟩ := h; exact ⟨_, e⟩
  | dK ds => obtain ⟨vs, e, _⟩ := h; exact ⟨_, e⟩
  | dT ds => obtain ⟨vs, e, _⟩ := h; exact ⟨_, e⟩
  | ins C ds => obtain ⟨dx, vs, e, _⟩ := h; exact ⟨_, e⟩
  | tbl q => obtain ⟨ps, e, _⟩ := h; exact ⟨_, e⟩
  | fdK ds => obtain ⟨o, vs, e, _⟩ := h; exact ⟨_, e⟩
  | slo C os => obtain ⟨dx, vs, e, _⟩ := h; exact ⟨_, e⟩
  | dN w ds => obtain ⟨xs, e, _⟩ := h; exact ⟨_, e⟩
theorem RepM.stepI {K : PySem.W.Frag} {M M' : Mp} {Z Z' : Zn} {H H' : Hp} {a : Addr} {o : MO} (h : RepM K M Z H a o) (e : ExI M Z H M' Z' H') (k : H' a = H a) : RepM K M' Z' H' a o := by
  cases o with
  | lst ds => obtain ⟨vs, q, r⟩ := h; exact ⟨vs, k.trans q, r.monoI e⟩
  | dK ds => obtain ⟨vs, q, r⟩ := h; exact ⟨vs, k.trans q, r.monoI e⟩
  | dT ds => obtain ⟨vs, q, r⟩ := h; exact ⟨vs, k.trans q, r.monoI e⟩
  | ins C ds => obtain ⟨dx, vs, q, r⟩ := h; exact ⟨dx, vs, k.trans q, r.monoI e⟩
  | fdK ds => obtain ⟨o, vs, q, r⟩ := h; exact ⟨o, vs, k.trans q, r.monoI e⟩
  | slo C os => obtain ⟨dx, vs, q, hd, md, r⟩ := h; exact ⟨dx, vs, k.trans q, (e _ _ hd md).1, (e _ _ hd md).2, r.monoI e⟩
  | dN w ds => obtain ⟨xs, q, r⟩ := h; exact ⟨xs, k.trans q, r.monoI e⟩
  | tbl q => obtain ⟨ps, y, ht, ha⟩ := h; exact ⟨ps, k.trans y, ht, fun pos cv z => let ⟨c, e1, e2, e3⟩ := ha pos cv z; ⟨c, e1, (e c _ e2 e3).1, (e c _ e2 e3).2⟩⟩
theorem RepM.step {K : PySem.W.Frag} {M M' : Mp} {Z : Zn} {H H' : Hp} {a : Addr} {o : MO} (h : RepM K M Z H a o) (e : Ext M Z H M' H') (k : H' a = H a) : RepM K M' Z H' a o := h.stepI e.i k
/-- the slots -/
inductive EnvR (K : PySem.W.Frag) (M : Mp) (Z : Zn) (H : Hp) : St → Rho → Prop where
  | nil : EnvR K M Z H [] []
  | val {v : V} {d : D} {σ : St} {ρ : Rho} (r : Rep K M Z H v d) (t : EnvR K M Z H σ ρ) : EnvR K M Z H (some v :: σ) (some d :: ρ)
  | any {o : Option V} {σ : St} {ρ : Rho} (t : EnvR K M Z H σ ρ) : EnvR K M Z H (o :: σ) (none :: ρ)
theorem EnvR.monoI {K : PySem.W.Frag} {M M' : Mp} {Z Z' : Zn} {H H' : Hp} (e : ExI M Z H M' Z' H') : ∀ {σ : St} {ρ : Rho}, EnvR K M Z H σ ρ → EnvR K M' Z' H' σ ρ
  | _, _, .nil => .nil
  | _, _, .val r t => .val (r.monoI e) (EnvR.monoI e t)
  | _, _, .any t => .any (EnvR.monoI e t)
theorem EnvR.get {K : PySem.W.Frag} {M : Mp} {Z : Zn} {H : Hp} : ∀ {σ : St} {ρ : Rho} {i : Nat} {d : D}, EnvR K M Z H σ ρ → ρ[i]? = some (some d) → ∃ v, σ[i]? = some (some v) ∧ Rep K M Z H v d
  | _, _, _, _, .nil, e => by simp at e
  | _, _, 0, _, .val r _, e => by simp at e; subst e; exact ⟨_, rfl, r⟩
  | _, _, 0, _, .any _, e => by simp at e
  | _, _, i + 1, d, .val _ t, e => EnvR.get (i := i) t (by simpa using e)
  | _, _, i + 1, d, .any t, e => EnvR.get (i := i) t (by simpa using e)
theorem EnvR.set {K : PySem.W.Frag} {M : Mp} {Z : Zn} {H : Hp} {v : V} {d : D} (r : Rep K M Z H v d) : ∀ {σ : St} {ρ : Rho} (i : Nat), EnvR K M Z H σ ρ → EnvR K M Z H (σ.set i (.some v)) (ρ.set i (.some d))
  | _, _, _, .nil => .nil
  | _, _, 0, .val _ t => .val r t
  | _, _, 0, .any t => .val r t
  | _, _, i + 1, .val q t => .val q (EnvR.set r i t)
  | _, _, i + 1, .any t => .any (EnvR.set r i t)
theorem EnvR.empty {K : PySem.W.Frag} {M : Mp} {Z : Zn} {H : Hp} : ∀ (n : Nat), EnvR K M Z H (List.replicate n .none) (List.replicate n .none)
  | 0 => .nil
  | n + 1 => .any (EnvR.empty n)
theorem EnvR.start {K : PySem.W.Frag} {M : Mp} {Z : Zn} {H : Hp} {σ : St} {ρ : Rho} (t : EnvR K M Z H σ ρ) : ∀ {vs : List V} {ds : List D}, Reps K M Z H vs ds → EnvR K M Z H (vs.map Option.some ++ σ) (ds.map Option.some ++ ρ)
  | _, _, .nil => t
  | _, _, .cons r q => .val r (EnvR.start t q)
/-- the slots at a def's entry -/
def start (N : List Str) (ds : List D) : Rho := ds.map some ++ List.replicate (N.length - ds.length) none
theorem env_start {K : PySem.W.Frag} {M : Mp} {Z : Zn} {H : Hp} {N : List Str} {vs : List V} {ds : List D} (r : Reps K M Z H vs ds) : EnvR K M Z H (L2.start N vs) (start N ds) := by
  unfold L2.start start
  rw [r.length]
  exact EnvR.start (EnvR.empty _) r
end DL
namespace DL
open PySem L2
section
variable (X : Cx)
def ssSem (st : List Stmt) : TS := fun D σ H => ∀ pins s, Inv X pins σ H s → wpAny (model X.prog X.w) X.A (execs st X.env) (SP X pins D) X.xe s
end
section
variable {X : Cx} {e tg : Expr} {es : List Expr} {st : Stmt} {sts : List Stmt} {σ : L2.St} {H : Hp}
theorem pss_sem : PSs X sts (ssSem X sts) := ⟨fun pins s σ H D I h => h pins s I⟩
end
def KE (K : PySem.W.Frag) (M : Mp) (Z : Zn) (H : Hp) (Φ : D → Mp → Prop) (Q : VK) : Prop := ∀ v d H' M', Ext M Z H M' H' → Wd K M' Z H' → Rep K M' Z H' v d → Φ d M' → Q v H'
def KT (K : PySem.W.Frag) (M : Mp) (Z : Zn) (H : Hp) (Φ : Bool → Mp → Prop) (Q : Bool → Hp → Prop) : Prop := ∀ b H' M', Ext M Z H M' H' → Wd K M' Z H' → Φ b M' → Q b H'
def KA (K : PySem.W.Frag) (M : Mp) (Z : Zn) (H : Hp) (Φ : List D → Mp → Prop) (Q : List V → Hp → Prop) : Prop := ∀ vs ds H' M', Ext M Z H M' H' → Wd K M' Z H' → Reps K M' Z H' vs ds → Φ ds M' → Q vs H'
def KG (K : PySem.W.Frag) (M : Mp) (Z : Zn) (H : Hp) (Φ : Rho → Mp → Prop) (Q : L2.St → Hp → Prop) : Prop := ∀ σ' ρ' H' M', Ext M Z H M' H' → Wd K M' Z H' → EnvR K M' Z H' σ' ρ' → Φ ρ' M' → Q σ' H'
/-- what is wanted behind a statement -/
structure DE where
  nx : Rho → Mp → Prop
  rt : D → Mp → Prop
  bk : Rho → Mp → Prop := fun _ _ => False
  ct : Rho → Mp → Prop := fun _ _ => False
structure KS (K : PySem.W.Frag) (M : Mp) (Z : Zn) (H : Hp) (Ψ : DE) (E : Ends) : Prop where
  nx : KG K M Z H Ψ.nx E.nx
  rt : KE K M Z H Ψ.rt E.rt
  bk : KG K M Z H Ψ.bk E.bk
  ct : KG K M Z H Ψ.ct E.ct
section
variable {K : PySem.W.Frag} {M M1 : Mp} {Z : Zn} {H H1 : Hp}
theorem KE.step {Φ : D → Mp → Prop} {Q : VK} (k : KE K M Z H Φ Q) (e : Ext M Z H M1 H1) : KE K M1 Z H1 Φ Q := fun v d H' M' x w r h => k v d H' M' (e.trans x) w r h
theorem KT.step {Φ : Bool → Mp → Prop} {Q : Bool → Hp → Prop} (k : KT K M Z H Φ Q) (e : Ext M Z H M1 H1) : KT K M1 Z H1 Φ Q := fun b H' M' x w h => k b H' M' (e.trans x) w h
theorem KA.step {Φ : List D → Mp → Prop} {Q : List V → Hp → Prop} (k : KA K M Z H Φ Q) (e : Ext M Z H M1 H1) : KA K M1 Z H1 Φ Q := fun v d H' M' x w r h => k v d H' M' (e.trans x) w r h
theorem KG.step {Φ : Rho → Mp → Prop} {Q : L2.St → Hp → Prop} (k : KG K M Z H Φ Q) (e : Ext M Z H M1 H1) : KG K M1 Z H1 Φ Q := fun v d H' M' x w r h => k v d H' M' (e.trans x) w r h
theorem KS.step {Ψ : DE} {E : Ends} (k : KS K M Z H Ψ E) (e : Ext M Z H M1 H1) : KS K M1 Z H1 Ψ E := ⟨k.nx.step e, k.rt.step e, k.bk.step e, k.ct.step e⟩
end
structure WSs (X : Cx) (ρ : Rho) (M : Mp) (st : List Stmt) (Ψ : DE) : Prop where
  run : ∀ {Z : Zn} σ H (E : Ends), EnvR X.K M Z H σ ρ → Wd X.K M Z H → KS X.K M Z H Ψ E → ssSem X st E σ H
end DL
namespace DL
open PySem PySem.Spec PyProof.Rows L2
/-- a def's contract: arguments, mutable objects, what is wanted behind -/
abbrev Con := List D → Mp → (D → Mp → Prop) → Prop
/-- its promise in the hand layer -/
def spD (K : PySem.W.Frag) (n : Nat) (c : Con) : Sp := fun vs H Q _ => ∃ ds M Z Φ, ds.length = n ∧ Reps K M Z H vs ds ∧ Wd K M Z H ∧ c ds M Φ ∧ KE K M Z H Φ Q
/-- M' has no more than M -/
def Les (M' M : Mp) : Prop := ∀ b, M' b = M b ∨ M' b = none
theorem Les.refl {M : Mp} : Les M M := fun _ => .inl rfl
theorem Les.x {M M' : Mp} {Z : Zn} {H : Hp} (l : Les M' M) : ExI M Z H M' Z H := fun b o q m => by
  refine ⟨q, ?_, m.2⟩
  rcases l b with e | e
  · rw [e]; exact m.1
  · exact e
theorem Les.w {K : PySem.W.Frag} {M M' : Mp} {Z : Zn} {H : Hp} (l : Les M' M) (w : Wd K M Z H) : Wd K M' Z H := by
  refine ⟨fun a o e => ?_, fun b z => ?_⟩
  · rcases l a with q | q
    · rw [q] at e; exact (w.1 a o e).stepI l.x rfl
    · rw [q] at e; cases e
  · obtain ⟨m, u⟩ := w.2 b z
    rcases l b with q | q
    · exact ⟨q.trans m, u⟩
    · exact ⟨q, u⟩
theorem Les.ext {K : PySem.W.Frag} {M M' : Mp} {Z : Zn} {H : Hp} (l : Les M' M) (w : Wd K M Z H) : Ext M Z H M' H := by
  refine ⟨l.x, fun b z => ⟨rfl, ?_⟩⟩
  have m := (w.2 b z).1
  rcases l b with q | q
  · exact q
  · rw [q, m]
/-- d, read while M stands, is d' where only M' is left -/
inductive Fz (M M' : Mp) : D → D → Prop where
  | same (d : D) : Fz M M' d d
  | lst {a : Addr} {ds : List D} : M a = some (.lst ds) → M' a = none → Fz M M' (.ob a) (.lst ds)
  | dK {a : Addr} {ds : List (Key × D)} : M a = some (.dK ds) → M' a = none → Fz M M' (.ob a) (.dK ds)
  | dT {a : Addr} {ds : List (List Key × D)} : M a = some (.dT ds) → M' a = none → Fz M M' (.ob a) (.dT ds)
  | ins {a C : Addr} {fs : List (Str × D)} : M a = some (.ins C fs) → M' a = none → Fz M M' (.ob a) (.ins C fs)
  | fdK {a : Addr} {ds : List (Key × D)} : M a = some (.fdK ds) → M' a = none → Fz M M' (.ob a) (.fdK ds)
  | slo {a C : Addr} {os : List (Option D)} : M a = some (.slo C os) → M' a = none → Fz M M' (.ob a) (.slo C os)
theorem Fz.rep {K : PySem.W.Frag} {M M' : Mp} {Z : Zn} {H : Hp} {v : V} {d d' : D} (f : Fz M M' d d') (l : Les M' M) (w : Wd K M Z H) (r : Rep K M Z H v d) : Rep K M' Z H v d' := by
  cases f with
  | same d => exact r.monoI l.x
  | lst h h' =>
    cases r
    obtain ⟨vs, e, r⟩ := w.1 _ _ h
    exact .lst e ⟨h', fun z => by have := (w.2 _ z).1; rw [h] at this; cases this⟩ (r.monoI l.x)
  | dK h h' =>
    cases r
    obtain ⟨vs, e, r⟩ := w.1 _ _ h
    exact .dK e ⟨h', fun z => by have := (w.2 _ z).1; rw [h] at this; cases this⟩ (r.monoI l.x)
  | dT h h' =>
    cases r
    obtain ⟨vs, e, r⟩ := w.1 _ _ h
    exact .dT e ⟨h', fun z => by have := (w.2 _ z).1; rw [h] at this; cases this⟩ (r.monoI l.x)
  | ins h h' =>
    cases r
    obtain ⟨dx, vs, e, r⟩ := w.1 _ _ h
    exact .ins e ⟨h', fun z => by have := (w.2 _ z).1; rw [h] at this; cases this⟩ (r.monoI l.x)
  | fdK h h' =>
    cases r
    obtain ⟨o, vs, e, r⟩ := w.1 _ _ h
    exact .fdK e ⟨h', fun z => by have := (w.2 _ z).1; rw [h] at this; cases this⟩ (r.monoI l.x)
  | slo h h' =>
    cases r
    obtain ⟨dx, vs, e, hd, md, r⟩ := w.1 _ _ h
    exact .slo e hd ⟨h', fun z => by have := (w.2 _ z).1; rw [h] at this; cases this⟩ (l.x _ _ hd md).2 (r.monoI l.x)
/-- the end, some objects let go -/
def Lets (Φ : D → Mp → Prop) : D → Mp → Prop := fun d M => ∃ d' M', Les M' M ∧ Fz M M' d d' ∧ Φ d' M'
theorem Lets.of {Φ : D → Mp → Prop} {d : D} {M : Mp} (h : Φ d M) : Lets Φ d M := ⟨d, M, Les.refl, .same d, h⟩
theorem lets_k {K : PySem.W.Frag} {M : Mp} {Z : Zn} {H : Hp} {Φ : D → Mp → Prop} {Q : VK} (k : KE K M Z H Φ Q) : KE K M Z H (Lets Φ) Q := fun v d H' M' x w r z => by
  obtain ⟨d', M2, l, f, z⟩ := z
  exact k v d' H' M2 (x.trans (l.ext w)) (l.w w) (f.rep l w r) z
/-- slots, some objects let go -/
inductive FzE (M M' : Mp) : Rho → Rho → Prop where
  | nil : FzE M M' [] []
  | val {d d' : D} {ρ ρ' : Rho} : Fz M M' d d' → FzE M M' ρ ρ' → FzE M M' (some d :: ρ) (some d' :: ρ')
  | drop {o : Option D} {ρ ρ' : Rho} : FzE M M' ρ ρ' → FzE M M' (o :: ρ) (none :: ρ')
theorem FzE.env {K : PySem.W.Frag} {M M' : Mp} {Z : Zn} {H : Hp} (l : Les M' M) (w : Wd K M Z H) : ∀ {σ : L2.St} {ρ ρ' : Rho}, FzE M M' ρ ρ' → EnvR K M Z H σ ρ → EnvR K M' Z H σ ρ'
  | _, _, _, .nil, .nil => .nil
  | _, _, _, .val f t, .val r u => .val (f.rep l w r) (FzE.env l w t u)
  | _, _, _, .drop t, .val r u => .any (FzE.env l w t u)
  | _, _, _, .drop t, .any u => .any (FzE.env l w t u)
theorem FzE.refl {M M' : Mp} : ∀ (ρ : Rho), FzE M M' ρ ρ
  | [] => .nil
  | some d :: ρ => .val (.same d) (FzE.refl ρ)
  | none :: ρ => .drop (FzE.refl ρ)
section
variable {P : Program} {w : World} {K : PySem.W.Frag} {mg : Str → Option Value} {base : Heap} {x qual : Str} {params : Arguments} {body : List Stmt} {scope : Scope} {dvs : List V} {kws : List (Str × V)} {f : Addr} {fd : FuncData}
/-- the context of a body -/
abbrev bx (P : Program) (w : World) (K : PySem.W.Frag) (mg : Str → Option Value) (base : Heap) (N : List Str) (qual : Str) (scope : Scope) (f : Addr) (cdv : Value) (A : Around) (outer : List Env) (s : Shared) (H : Hp) (E : XK) : Cx :=
  (cxOf CX0 P w K mg base N qual scope f cdv A outer s H E).nox
theorem fn_ok {N ps : List Str} {k : Nat} {c : Con} (F : FunD K x qual params body scope dvs kws f fd) (S : FnScope N ps scope)
    (h : ∀ (cdv : Value) (A : Around) (outer : List Env) (s : Shared) (H : Hp) (E : XK), Room k (A.deeper (envOfC qual scope s.heap.objs.size f cdv)) → ∀ ds M Φ, ds.length = ps.length → c ds M Φ →
      WSs (bx P w K mg base N qual scope f cdv A outer s H E) (start N ds) M body { nx := fun _ M' => Φ .non M', rt := Lets Φ }) : FnOk P w K mg base CX0 (k + 1) f fd ps (spD K ps.length c) := by
  refine F.ok S (fun vs H Q E q => ?_) (fun cdv A outer s H vs Q E hr q => ?_)
  · obtain ⟨ds, M, Z, Φ, hl, r, _⟩ := q
    rw [r.length, hl]
  · obtain ⟨ds, M, Z, Φ, hl, r, wd, hc, k⟩ := q
    refine ⟨_, PSs.nox (pss_sem (X := bx P w K mg base N qual scope f cdv A outer s H E)), ?_⟩
    exact (h cdv A outer s H E hr ds M Φ hl hc).run (L2.start N vs) H _ (env_start r) wd ⟨fun σ' ρ' H' M' x w' en z => k _ .non H' M' x w' .non z, lets_k k, fun _ _ _ _ _ _ _ z => z.elim, fun _ _ _ _ _ _ _ z => z.elim⟩
end
section
variable {X : Cx} {ρ : Rho} {M : Mp} {Φ : D → Mp → Prop} {e o : Expr} {es : List Expr} {pos p apos : Pos} {x m : Str} {dd : List D} {k n : Nat} {c : Con}
theorem RepF.lookup {K : PySem.W.Frag} {M : Mp} {Z : Zn} {H : Hp} (f : Str) : ∀ {vs : List (Str × V)} {ds : List (Str × D)}, RepF K M Z H vs ds → (ds.lookup f = none → vs.lookup f = none) ∧ ∀ d, ds.lookup f = some d → ∃ v, vs.lookup f = some v ∧ Rep K M Z H v d
  | _, _, .nil => ⟨fun _ => rfl, fun d e => by cases e⟩
  | _, _, .cons (k := g) (v := v) (d := d) (vs := vs) (ds := ds) r t => by
    rw [List.lookup_cons, List.lookup_cons]
    cases hg : f == g with
    | true =>
      refine ⟨fun e => ?_, fun d e => ?_⟩
      · cases e
      · cases e; exact ⟨_, rfl, r⟩
    | false => exact RepF.lookup f t
theorem RepF.length {K : PySem.W.Frag} {M : Mp} {Z : Zn} {H : Hp} : ∀ {vs : List (Str × V)} {ds : List (Str × D)}, RepF K M Z H vs ds → vs.length = ds.length
  | _, _, .nil => rfl
  | _, _, .cons _ t => by rw [List.length_cons, List.length_cons, t.length]
/-- the method m of the class at C has this contract (self among the arguments) -/
structure Mc (P : Program) (w : World) (K : PySem.W.Frag) (mg : Str → Option Value) (base : Heap) (C : Addr) (m : Str) (dd : List D) (k n : Nat) (c : Con) : Prop where
  cl : Cls K C
  ex : ∃ (f : Addr) (fd : FuncData) (ps : List Str) (dvs : List V) (ds : List Value), FnOk P w K mg base CX0 k f fd ps (spD K n c) ∧ Meth K C m f ∧ Binds K fd ps ds ∧ Vals dvs ds ∧ ∀ M Z H, Reps K M Z H dvs dd
end
end DL
namespace DL
open PySem PySem.Spec PyProof.Rows L2
section
variable {X : Cx} {ρ : Rho} {M : Mp} {Φ : D → Mp → Prop} {Θ : Bool → Mp → Prop} {a b e : Expr} {pos : Pos} {K : PySem.W.Frag}
/-- the answer of == between scalars -/
def EqS : D → D → Bool → Prop
  | .int i, .int j, c => c = decide (i = j)
  | .str i, .str j, c => c = decide (i = j)
  | .bl i, .bl j, c => c = decide (i = j)
  | .non, .non, c => c = true
  | .non, .int _, c => c = false
  | .int _, .non, c => c = false
  | .non, .str _, c => c = false
  | .str _, .non, c => c = false
  | .int _, .str _, c => c = false
  | .str _, .int _, c => c = false
  | _, _, _ => False
theorem EqS.rep {x y : D} {c : Bool} {M : Mp} {Z : Zn} {H : Hp} {v u : V} (h : EqS x y c) (r1 : Rep K M Z H v x) (r2 : Rep K M Z H u y) : scal v u = true ∧ decide (v = u) = c := by
  cases r1 <;> cases r2 <;> first
    | (cases h; exact ⟨rfl, by simp⟩)
    | (exact False.elim h)
    | (cases h; exact ⟨rfl, rfl⟩)
mutual
def toPy : D → Option PyData
  | .non => some .none
  | .bl b => some (.bool b)
  | .int i => some (.int i)
  | .str x => some (.str x)
  | .lst xs => (toPys xs).map .list
  | .rol xs => (toPys xs).map .list
  | .tup xs => (toPys xs).map .tuple
  | _ => none
def toPys : List D → Option (List PyData)
  | [] => some []
  | x :: xs => (toPy x).bind fun d => (toPys xs).map fun ds => d :: ds
end
mutual
theorem Rep.dp {M : Mp} {Z : Zn} {H : Hp} : ∀ {v : V} {d : D} {p : PyData}, Rep K M Z H v d → toPy d = some p → Dp K H v p
  | _, _, _, .non, e => by cases e; exact .non
  | _, _, _, .bl b, e => by cases e; exact .bl b
  | _, _, _, .int i, e => by cases e; exact .int i
  | _, _, _, .str x, e => by cases e; exact .str x
  | _, _, _, .ty n, e => by simp [toPy] at e
  | _, _, _, .fn n, e => by simp [toPy] at e
  | _, _, _, .ob n, e => by simp [toPy] at e
  | _, _, _, .dK h m r, e => by simp [toPy] at e
  | _, _, _, .dT h m r, e => by simp [toPy] at e
  | _, _, _, .ins h m r, e => by simp [toPy] at e
  | _, _, _, .key h m, e => by simp [toPy] at e
  | _, _, _, .fig h hd m md, e => by simp [toPy] at e
  | _, _, _, .exc h hd m md r, e => by simp [toPy] at e
  | _, _, _, .lam h hc m mc, e => by simp [toPy] at e
  | _, _, _, .fdK h m r, e => by simp [toPy] at e
  | _, _, _, .fdN h m r, e => by simp [toPy] at e
  | _, _, _, .ptup h hd m r, e => by simp [toPy] at e
  | _, _, _, .ptupK h r, e => by simp [toPy] at e
  | _, _, _, .slo h hd m md r, e => by simp [toPy] at e
  | _, _, _, .lst h m r, e => by
    obtain ⟨ps, e1, rfl⟩ := Option.map_eq_some_iff.mp (by simpa only [toPy] using e)
    exact .lst (.inl (.inl h)) (Reps.dp r e1)
  | _, _, _, .rol h m r, e => by
    obtain ⟨ps, e1, rfl⟩ := Option.map_eq_some_iff.mp (by simpa only [toPy] using e)
    exact .lst (.inl h) (Reps.dp r e1)
  | _, _, _, .rolK h r, e => by
    obtain ⟨ps, e1, rfl⟩ := Option.map_eq_some_iff.mp (by simpa only [toPy] using e)
    exact .lst (.inr h) (Reps.dp r e1)
  | _, _, _, .tup h m r, e => by
    obtain ⟨ps, e1, rfl⟩ := Option.map_eq_some_iff.mp (by simpa only [toPy] using e)
    exact .tup (.inl h) (Reps.dp r e1)
  | _, _, _, .tupK h r, e => by
    obtain ⟨ps, e1, rfl⟩ := Option.map_eq_some_iff.mp (by simpa only [toPy] using e)
    exact .tup (.inr h) (Reps.dp r e1)
theorem Reps.dp {M : Mp} {Z : Zn} {H : Hp} : ∀ {vs : List V} {ds : List D} {ps : List PyData}, Reps K M Z H vs ds → toPys ds = some ps → DpAll K H vs ps
  | _, _, _, .nil, e => by cases (show some [] = some _ from (by simpa only [toPys] using e)); exact .nil
  | _, _, _, .cons r t, e => by
    simp only [toPys] at e
    obtain ⟨p, e1, e2⟩ := Option.bind_eq_some_iff.mp e
    obtain ⟨qs, e3, rfl⟩ := Option.map_eq_some_iff.mp e2
    exact .cons (Rep.dp r e1) (Reps.dp t e3)
end
/-- the items of a slice -/
def cutD {α : Type} (xs : List α) (lo hi : Option Int) : List α := (xs.drop (HT.sIx xs.length 0 lo)).take (HT.sIx xs.length xs.length hi - HT.sIx xs.length 0 lo)
theorem Reps.cut {M : Mp} {Z : Zn} {H : Hp} {vs : List V} {ds : List D} (r : Reps K M Z H vs ds) (lo hi : Option Int) : Reps K M Z H (cutV vs lo hi) (cutD ds lo hi) := by
  unfold cutV cutD
  rw [r.length]
  exact (r.drop _).take _
end
end DL
namespace DL
open PySem PySem.Spec PyProof.Rows L2
section
variable {K : PySem.W.Frag} {M : Mp} {Z : Zn} {H : Hp}
theorem Reps.set {v : V} {d : D} (r : Rep K M Z H v d) : ∀ {vs : List V} {ds : List D} (j : Nat), Reps K M Z H vs ds → Reps K M Z H (vs.set j v) (ds.set j d)
  | _, _, _, .nil => .nil
  | _, _, 0, .cons _ t => .cons r t
  | _, _, j + 1, .cons q t => .cons q (Reps.set r j t)
theorem Reps.one {vs : List V} {d : D} (r : Reps K M Z H vs [d]) : ∃ v, vs = [v] ∧ Rep K M Z H v d := by
  cases r with
  | cons r t => cases t; exact ⟨_, rfl, r⟩
theorem Reps.two {vs : List V} {d e : D} (r : Reps K M Z H vs [d, e]) : ∃ v u, vs = [v, u] ∧ Rep K M Z H v d ∧ Rep K M Z H u e := by
  cases r with
  | cons r t =>
    obtain ⟨u, rfl, r2⟩ := t.one
    exact ⟨_, u, rfl, r, r2⟩
end
section
variable {X : Cx} {ρ : Rho} {M : Mp} {Φ : D → Mp → Prop} {Θ : Bool → Mp → Prop} {a b e o : Expr} {es : List Expr} {pos p apos : Pos} {x : Str}
/-- the class of data, as the fragment's deciders take it -/
def TyD (M : Mp) : D → Value → Prop
  | .non, t => t = .type "NoneType"
  | .bl _, t => t = .type "bool"
  | .int _, t => t = .type "int"
  | .str _, t => t = .type "str"
  | .lst _, t => t = .type "list"
  | .tup _, t => t = .type "tuple"
  | .dK _, t => t = .type "dict"
  | .dT _, t => t = .type "dict"
  | .ins C _, t => t = .ref C
  | _, _ => False
/-- what isinstance asks of an own class -/
structure OwnC (K : PySem.W.Frag) (C : Addr) : Prop where
  cl : Cls K C
  ha : PySem.W.findIn K (.ref C) "__class__" = some (some (.builtin "object.__class__"))
  hn : PySem.W.specialIn K (.builtin "object.__class__") "__get__" = some (some (.builtin "getset_descriptor.__get__"))
  htk : PySem.W.takesIn K (.builtin "object.__class__") = some true
  hm : PySem.W.mroIn K C (.type "object") = some true
theorem TyD.rep {K : PySem.W.Frag} {M : Mp} {Z : Zn} {H : Hp} {v : V} {d : D} {t : Value} (r : Rep K M Z H v d) (h : TyD M d t) (own : ∀ C, t = .ref C → OwnC K C) : TyX K H v t := by
  cases r with
  | non => cases h; exact .base .non
  | bl b => cases h; exact .base (.bl b)
  | int i => cases h; exact .base (.int i)
  | str x => cases h; exact .base (.str x)
  | lst h1 m r => cases h; exact .base (.lst h1)
  | tup h1 m r =>
    cases h
    rcases h1 with h1 | ⟨o, h1⟩
    · exact .base (.tup h1)
    · exact .fTuple h1
  | tupK h1 r =>
    cases h
    obtain ⟨o, its, n, hk, hc, _⟩ := h1
    exact .kTuple hk hc
  | dK h1 m r => cases h; exact .base (.dK h1)
  | dT h1 m r => cases h; exact .base (.dT h1)
  | ins h1 m r =>
    cases h
    obtain ⟨cl, ha, hn, htk, hm⟩ := own _ rfl
    exact .base (.ins h1 cl ha hn htk hm)
  | _ => cases h
end
end DL
namespace DL
open PySem PySem.Spec PyProof.Rows L2
/-- at a a dict of the top: these texts with these values, in this order -/
def WrD (K : PySem.W.Frag) (w : World) (a : Addr) (kvs : List (Str × V)) : Prop := ∃ es n, K.lookup a = some ⟨.type "dict", none, .dict es n, #[]⟩ ∧ (a == sysModules) = false ∧ PySem.W.KeysLit w.params es.toList ∧
  Paired (fun (p : Str × V) (e : DictEntry) => (∃ t, e.key = .str p.1 t) ∧ RelV p.2 e.val) kvs es.toList ∧ (kvs.map (·.1)).Nodup
section
variable {X : Cx} {ρ : Rho} {M : Mp} {a : Addr} {e f : Expr} {pos p apos : Pos} {x : Str} {kvs : List (Str × V)}
theorem RepF.get {K : PySem.W.Frag} {M : Mp} {Z : Zn} {H : Hp} : ∀ {vs : List (Str × V)} {ds : List (Str × D)} {i : Nat} {k : Str} {d : D}, RepF K M Z H vs ds → ds[i]? = some (k, d) → ∃ v, vs[i]? = some (k, v) ∧ Rep K M Z H v d
  | _, _, _, _, _, .nil, e => by simp at e
  | _, _, 0, _, _, .cons r _, e => by simp at e; obtain ⟨rfl, rfl⟩ := e; exact ⟨_, rfl, r⟩
  | _, _, i + 1, k, d, .cons _ t, e => by
    obtain ⟨u, h1, h2⟩ := RepF.get (i := i) (d := d) t (by simpa using e)
    exact ⟨u, by simpa using h1, h2⟩
end
end DL
namespace DL
open PySem PySem.Spec PyProof.Rows L2
section
variable {P : Program} {w : World} {K : PySem.W.Frag} {mg : Str → Option Value} {base : Heap} {x : Str} {st : Stmt} {N ps : List Str} {j k n : Nat} {c : Con} {dd : List D} {C : Addr} {m : Str}
/-- a body keeps a contract -/
def BodyOk (P : Program) (w : World) (K : PySem.W.Frag) (mg : Str → Option Value) (base : Heap) (qual : Str) (st : Stmt) (N : List Str) (n k : Nat) (c : Con) : Prop :=
  ∀ (f : Addr) (cdv : Value) (A : Around) (outer : List Env) (s : Shared) (H : Hp) (E : XK), Room k (A.deeper (envOfC qual (defScope st) s.heap.objs.size f cdv)) → ∀ ds M Φ, ds.length = n → c ds M Φ →
      WSs (bx P w K mg base N qual (defScope st) f cdv A outer s H E) (start N ds) M (defBody st) { nx := fun _ M' => Φ .non M', rt := Lets Φ }
end
/-- the method m of the class C of the name x is the statement st -/
structure Md (K : PySem.W.Frag) (C : Addr) (m qual : Str) (st : Stmt) (f : Addr) : Prop where
  ex : ∃ fd : FuncData, FunD K m qual (defArgs st) (defBody st) (defScope st) [] [] f fd
section
variable {P : Program} {w : World} {K : PySem.W.Frag} {mg : Str → Option Value} {base : Heap} {x qual : Str} {st : Stmt} {N ps : List Str} {j k n : Nat} {c : Con} {dd : List D} {C : Addr} {m : Str} {f p : Addr}
theorem Md.mc (D : Md K C m qual st f) (cl : Cls K C) (me : Meth K C m f) (S : FnScope N ps (defScope st))
    (hb : ∀ (kV doc pm : Value) (an : Option Addr) (cdv ct : Value) (us : List Value), us.length = ps.length → bindArgs (PySem.W.fnOf m qual (defArgs st) (defBody st) (defScope st) .none kV doc pm an cdv ct) ⟨us, []⟩ = pure (ps.zip us))
    (h : BodyOk P w K mg base qual st N ps.length k c) : Mc P w K mg base C m [] (k + 1) ps.length c := by
  obtain ⟨fd, F⟩ := D.ex
  exact ⟨cl, f, fd, ps, [], [], fn_ok F S (h f), me, F.bindsN hb, .nil, fun _ _ _ => .nil⟩
end
end DL
namespace DL
open PySem PySem.Spec PyProof.Rows L2
/-- lists of such -/
structure CmpDs (ds : List D) (ps : List PyData) (k : Nat) : Prop where
  eq : toPys ds = some ps
  lay : PyData.canLayAll0 ps = true
  dep : PyData.depthAll ps ≤ k
theorem CmpDs.length {k : Nat} : ∀ {ds : List D} {ps : List PyData}, CmpDs ds ps k → ps.length = ds.length
  | [], ps, h => by
    have := h.eq
    simp only [toPys, Option.some.injEq] at this
    rw [← this]; rfl
  | d :: ds, ps, h => by
    have := h.eq
    simp only [toPys] at this
    obtain ⟨p, e1, e2⟩ := Option.bind_eq_some_iff.mp this
    obtain ⟨qs, e3, rfl⟩ := Option.map_eq_some_iff.mp e2
    have l := h.lay
    have dd := h.dep
    simp only [PyData.canLayAll0, Bool.and_eq_true, PyData.depthAll] at l dd
    rw [List.length_cons, List.length_cons, CmpDs.length (k := k) ⟨e3, l.2, by omega⟩]
end DL
namespace DL
open PySem PySem.Spec PyProof.Rows L2
/-- as FnOk, where nothing is being shown -/
structure FnG (P : Program) (w : World) (K : PySem.W.Frag) (mg : Str → Option Value) (base : Heap) (k : Nat) (f : Addr) (fd : FuncData) (ps : List Str) (sp : Sp) : Prop where
  len : ∀ vs H Q E, sp vs H Q E → vs.length = ps.length
  run : ∀ (A : Around) (outer : List Env) (s : Shared) (H : Hp) (args : Args) (us : List Value) (vs : List V) (Q : VK) (E : XK), A.guards = some [] → Room k A → Env0 P w K mg base A outer s H → BindsTo s fd args (ps.zip us) → Vals vs us → sp vs H Q E →
    codeAny (model P w) A (.call (.ref f) args) (CR CX0 outer P w H s Q E) s
section
variable {P : Program} {w : World} {K : PySem.W.Frag} {mg : Str → Option Value} {base : Heap} {x qual : Str} {st : Stmt} {kws : List (Str × V)} {f : Addr} {fd : FuncData} {N ps : List Str} {k n : Nat} {c : Con}
theorem FnOk.g {sp : Sp} (F : FnOk P w K mg base CX0 k f fd ps sp) : FnG P w K mg base k f fd ps sp := ⟨F.len, fun A outer s H args us vs Q E _ => F.run A outer s H args us vs Q E⟩
end
end DL
namespace DL
open PySem PySem.Spec PyProof.Rows L2
section
variable {X : Cx} {ρ : Rho} {M : Mp} {Φ : D → Mp → Prop} {Θ : Bool → Mp → Prop} {a b e o i : Expr} {es : List Expr} {pos p : Pos}
def valD (kvs : List (List Key × D)) (k : List Key) : Option D := (kvs.find? fun kv => decide (kv.1 = k)).map (·.2)
theorem RepT.length {K : PySem.W.Frag} {M : Mp} {Z : Zn} {H : Hp} : ∀ {vs : List (List Key × V)} {ds : List (List Key × D)}, RepT K M Z H vs ds → vs.length = ds.length
  | _, _, .nil => rfl
  | _, _, .cons _ t => by rw [List.length_cons, List.length_cons, RepT.length t]
theorem RepT.val {K : PySem.W.Frag} {M : Mp} {Z : Zn} {H : Hp} {k : List Key} {d : D} : ∀ {vs : List (List Key × V)} {ds : List (List Key × D)}, RepT K M Z H vs ds → valD ds k = some d → ∃ v, valV vs k = some v ∧ Rep K M Z H v d
  | _, _, .nil, h => by cases h
  | _, _, .cons (k := j) (v := v) (d := d0) (vs := vs) (ds := ds) r t, h => by
    by_cases e : j = k
    · have h2 : some d0 = some d := by rw [← h]; unfold valD; rw [List.find?_cons_of_pos (by simpa using e)]; rfl
      cases h2
      exact ⟨v, valV_pos (p := (j, v)) e, r⟩
    · have h2 : valD ds k = some d := by rw [← h]; unfold valD; rw [List.find?_cons_of_neg (by simpa using e)]
      obtain ⟨u, hu, ru⟩ := RepT.val t h2
      exact ⟨u, by rw [valV_neg (p := (j, v)) e]; exact hu, ru⟩
theorem RepT.any {K : PySem.W.Frag} {M : Mp} {Z : Zn} {H : Hp} {k : List Key} : ∀ {vs : List (List Key × V)} {ds : List (List Key × D)}, RepT K M Z H vs ds → (vs.any fun kv => decide (kv.1 = k)) = ds.any fun kv => decide (kv.1 = k)
  | _, _, .nil => rfl
  | _, _, .cons r t => by rw [List.any_cons, List.any_cons, RepT.any t]
end
end DL
namespace DL
open PySem PySem.Spec PyProof.Rows L2 SlX
/-- a class with these slots -/
structure SlC (K : PySem.W.Frag) (C : Addr) (fs : List Str) : Prop where
  sc : SCls K C
  sl : ∀ (i : Nat) (f : Str), fs[i]? = some f → ∃ p, Slot1 K C f p i
end DL
namespace DL
open PySem PySem.Spec PyProof.Rows L2
/-- C.m is a staticmethod: its record at p, its def at f -/
structure CStat (K : PySem.W.Frag) (C : Addr) (mc : Value) (m : Str) (p f : Addr) : Prop where
  at_ : PySem.W.findCls K (.ref C) mc m = some (.get (.builtin "staticmethod.__get__") (.ref p) .none (.ref C))
  rc : ∃ rest, PySem.W.recIn K p "staticmethod" = some (.ref f :: rest)
  keep : PySem.W.keepIn K (.ref f) = true
end DL
namespace HK
open PySem PySem.Spec PyProof.Rows L2 DL He
/-- a def of the text: where it stands -/
structure Dd where
  adr : PySem.W.Frag → Addr
  name : Str
  qual : Str
  st : Stmt
  dfl : List V := []
  dfg : List Str := []
  dfn : Nat := 0
  dfk : List (Str × V) := []
  dfz : List V := []
/-- where the default of that number stands, of whatever kind -/
def dfA (K : PySem.W.Frag) (f : Addr) (i : Nat) : Addr := match K.lookup f with
  | some ⟨_, _, .func fd, _⟩ => (match fd.defaults with
    | .ref T => (match K.lookup T with
      | some ⟨_, _, .seq its _, _⟩ => (match its.toList[i]? with
        | some (.ref a) => a
        | _ => 0)
      | _ => 0)
    | _ => 0)
  | _ => 0
/-- the defaults: shown ones, then what stands under names -/
def Dd.dvs (d : Dd) (K : PySem.W.Frag) : List V := d.dfl ++ ((d.dfg.map fun x => V.ref (ga K x)) ++ (((List.range d.dfn).map fun i => V.ref (dfA K (d.adr K) i)) ++ d.dfz))
/-- a name of the module, or the first default of Form.__init__ -/
def txA (K : PySem.W.Frag) (x : Str) : Addr := if x = "@Form" then dfA K (ma K (ga K "Form") "__init__") 0 else ga K x
def fnA (K : PySem.W.Frag) (a : Addr) : FnW := match K.lookup a with
  | some ⟨_, _, .func fd, _⟩ => some (fd.name, fd.qualname, fd.params, fd.body, fd.scope, fd.globals, fd.closure, fd.builtins)
  | _ => none
def Dd.val (d : Dd) : FnW := some (d.name, d.qual, defArgs d.st, .stmts (defBody d.st), defScope d.st, mainGlobals, [], builtinsNs)
def Dd.ok (K : PySem.W.Frag) (d : Dd) : Bool := PySem.W.keepIn K (.ref (d.adr K)) && (match K.lookup (d.adr K) with
  | some ⟨_, _, .func fd, _⟩ => PySem.W.codeIn K fd.code d.qual && (dflB K fd.defaults (d.dvs K) && kwdB K fd.kwdefaults d.dfk)
  | _ => false)
theorem Dd.funD {K : PySem.W.Frag} {d : Dd} (e : fnA K (d.adr K) = d.val) (c : d.ok K = true) : ∃ fd, FunD K d.name d.qual (defArgs d.st) (defBody d.st) (defScope d.st) (d.dvs K) d.dfk (d.adr K) fd := by
  obtain ⟨kp, c2⟩ := Bool.and_eq_true_iff.mp c
  unfold fnA at e
  cases q : K.lookup (d.adr K) with
  | none => rw [q] at c2; cases c2
  | some o =>
    obtain ⟨oc, od, dt, osl⟩ := o
    rw [q] at c2 e
    cases dt with
    | func fd =>
      obtain ⟨x1, x2, x3, x4, x5, x6, x7, x8, x9, x10, x11, x12, x13, x14, x15⟩ := fd
      have e2 : (some (x1, x2, x3, x4, x5, x6, x7, x15) : FnW) = some (d.name, d.qual, defArgs d.st, .stmts (defBody d.st), defScope d.st, mainGlobals, [], builtinsNs) := e
      simp only [Option.some.injEq, Prod.mk.injEq] at e2
      obtain ⟨h1, h2, h3, h4, h5, h6, h7, h8⟩ := e2
      subst h1 h2 h3 h4 h5 h6 h7 h8
      obtain ⟨y1, y2⟩ := Bool.and_eq_true_iff.mp (show (PySem.W.codeIn K x13 d.qual && (dflB K x8 (d.dvs K) && kwdB K x9 d.dfk)) = true from c2)
      obtain ⟨y3, y4⟩ := Bool.and_eq_true_iff.mp y2
      exact ⟨_, ⟨oc, od, x8, x9, x10, x11, x12, x13, x14, osl, rfl, q, y1, dflB_ok y3, kwdB_ok y4⟩, kp⟩
    | _ => cases c2
/-- the getter of a property -/
def pgA (C m : Str) (K : PySem.W.Frag) : Addr := match PySem.W.recIn K (ma K (ga K C) m) "property" with
  | some (.ref g :: _) => g
  | _ => 0
def propB (K : PySem.W.Frag) (q : Str × Str) : Bool := eqO (PySem.W.findIn K (.ref (ga K q.1)) q.2) (some (some (.ref (ma K (ga K q.1) q.2)))) && (eqO (PySem.W.specialIn K (.ref (ma K (ga K q.1) q.2)) "__get__") (some (some (.builtin "property.__get__"))) &&
  (decide (PySem.W.takesIn K (.ref (ma K (ga K q.1) q.2)) = some true) && (match PySem.W.recIn K (ma K (ga K q.1) q.2) "property" with
  | some (.ref _ :: _) => true
  | _ => false)))
/-- a value: a text, a tuple of texts, an int -/
inductive Dt where
  | s (z : Str) | t (zs : List Str) | i (n : Int)
def Dt.d : Dt → D
  | .s z => .str z
  | .t zs => .tup (zs.map D.str)
  | .i n => .int n
def Dt.ok (K : PySem.W.Frag) : Dt → Value → Bool
  | .s z, .str y _ => decide (y = z)
  | .i n, .int m _ => decide (m = n)
  | .t zs, .ref b => (match K.lookup b with
    | some ⟨.type c, _, .seq its _, _⟩ => decide (c = "tuple") && (decide (its.size ≤ sizeLine) && relAll (zs.map V.str) its.toList)
    | _ => false)
  | _, _ => false
theorem Dt.rep {K : PySem.W.Frag} {x : Dt} {u : Value} (h : x.ok K u = true) : ∃ v, RelV v u ∧ ∀ M Z H, Rep K M Z H v x.d := by
  cases x with
  | s z =>
    cases u with
    | str y t =>
      obtain rfl : y = z := of_decide_eq_true h
      exact ⟨.str y, ⟨t, rfl⟩, fun _ _ _ => .str y⟩
    | _ => cases h
  | i n =>
    cases u with
    | int y t =>
      obtain rfl : y = n := of_decide_eq_true h
      exact ⟨.int y, ⟨t, rfl⟩, fun _ _ _ => .int y⟩
    | _ => cases h
  | t zs =>
    cases u with
    | ref b =>
      refine ⟨.ref b, rfl, fun M Z H => ?_⟩
      cases q : K.lookup b with
      | none => simp only [Dt.ok, q] at h; cases h
      | some o =>
        obtain ⟨oc, od, dt, osl⟩ := o
        simp only [Dt.ok, q] at h
        cases oc with
        | type c =>
          cases dt with
          | seq its n =>
            obtain ⟨h1, h2⟩ := Bool.and_eq_true_iff.mp (show (decide (c = "tuple") && (decide (its.size ≤ sizeLine) && relAll (zs.map V.str) its.toList)) = true from h)
            obtain ⟨h3, h4⟩ := Bool.and_eq_true_iff.mp h2
            exact .tupK ⟨_, its, n, q, congrArg Value.type (of_decide_eq_true h1), rfl, of_decide_eq_true h3, relAll_ok h4⟩ (Reps.ofStrs zs)
          | _ => cases h
        | _ => cases dt <;> cases h
    | _ => cases h
def entsB (K : PySem.W.Frag) : List (Str × Dt) → List DictEntry → Bool
  | [], [] => true
  | q :: qs, e :: es => (match e.key with
    | .str x _ => decide (x = q.1)
    | _ => false) && (q.2.ok K e.val && entsB K qs es)
  | _, _ => false
theorem entsB_ok {K : PySem.W.Frag} : ∀ {qs : List (Str × Dt)} {es : List DictEntry}, entsB K qs es = true → ∃ kvs : List (Str × V), Paired (fun (p : Str × V) (e : DictEntry) => (∃ t, e.key = .str p.1 t) ∧ RelV p.2 e.val) kvs es ∧ kvs.map (·.1) = qs.map (·.1) ∧ ∀ M Z H, RepF K M Z H kvs (qs.map fun q => (q.1, q.2.d))
  | [], [], _ => ⟨[], .nil, rfl, fun _ _ _ => .nil⟩
  | [], _ :: _, h => by cases h
  | _ :: _, [], h => by cases h
  | q :: qs, e :: es, h => by
    obtain ⟨h1, h2⟩ := Bool.and_eq_true_iff.mp (show ((match e.key with | .str x _ => decide (x = q.1) | _ => false) && (q.2.ok K e.val && entsB K qs es)) = true from h)
    obtain ⟨h3, h4⟩ := Bool.and_eq_true_iff.mp h2
    obtain ⟨kvs, a1, a2, a3⟩ := entsB_ok h4
    obtain ⟨v, b1, b2⟩ := Dt.rep h3
    refine ⟨(q.1, v) :: kvs, .cons ⟨?_, b1⟩ a1, by rw [List.map_cons, List.map_cons, a2], fun M Z H => .cons (b2 M Z H) (a3 M Z H)⟩
    cases hk : e.key with
    | str x t =>
      rw [hk] at h1
      exact ⟨t, by rw [of_decide_eq_true h1]⟩
    | _ => rw [hk] at h1; cases h1
def dicB (K : PySem.W.Frag) (q : Str × List (Str × Dt)) : Bool := match K.lookup (ga K q.1) with
  | some ⟨_, _, .dict es _, _⟩ => entsB K q.2 es.toList
  | _ => false
theorem dicB_ok {K : PySem.W.Frag} {w : World} {x : Str} {qs : List (Str × Dt)} (h : dicB K (x, qs) = true) (hk : dicW K (ga K x) = some (keysIn w.params (qs.map (·.1)))) (nd : (qs.map (·.1)).Nodup) :
    ∃ kvs, WrD K w (ga K x) kvs ∧ ∀ M Z H, RepF K M Z H kvs (qs.map fun q => (q.1, q.2.d)) := by
  obtain ⟨es, n, h1, h2, h3⟩ := dicW_ok hk
  unfold dicB at h
  rw [h1] at h
  obtain ⟨kvs, a1, a2, a3⟩ := entsB_ok (show entsB K qs es.toList = true from h)
  exact ⟨kvs, ⟨es, n, h1, h3, h2, a1, by rw [a2]; exact nd⟩, a3⟩
def slAll (K : PySem.W.Frag) (G : Addr) : Nat → List Str → Bool
  | _, [] => true
  | i, f :: fs => eqO (PySem.W.findIn K (.ref G) f) (some (some (.ref (ma K G f)))) && (eqO (PySem.W.specialIn K (.ref (ma K G f)) "__get__") (some (some (.builtin "member_descriptor.__get__"))) && (decide (PySem.W.takesIn K (.ref (ma K G f)) = some true) && (decide (PySem.W.typeIn K (.ref (ma K G f)) = some (.type "member_descriptor")) && (decide (PySem.W.slotIn K (ma K G f) G = some i) && (decide (i < 1000) && slAll K G (i + 1) fs)))))
theorem slAll_ok {K : PySem.W.Frag} {G : Addr} : ∀ {fs : List Str} {k : Nat}, slAll K G k fs = true → ∀ (i : Nat) (f : Str), fs[i]? = some f → ∃ p, SlX.Slot1 K G f p (k + i)
  | [], _, _, i, f, h => by simp at h
  | f0 :: fs, k, hb, i, f, h => by
    obtain ⟨h1, hb⟩ := Bool.and_eq_true_iff.mp (show (eqO (PySem.W.findIn K (.ref G) f0) (some (some (.ref (ma K G f0)))) && (eqO (PySem.W.specialIn K (.ref (ma K G f0)) "__get__") (some (some (.builtin "member_descriptor.__get__"))) && (decide (PySem.W.takesIn K (.ref (ma K G f0)) = some true) && (decide (PySem.W.typeIn K (.ref (ma K G f0)) = some (.type "member_descriptor")) && (decide (PySem.W.slotIn K (ma K G f0) G = some k) && (decide (k < 1000) && slAll K G (k + 1) fs)))))) = true from hb)
    obtain ⟨h2, hb⟩ := Bool.and_eq_true_iff.mp hb
    obtain ⟨h3, hb⟩ := Bool.and_eq_true_iff.mp hb
    obtain ⟨h4, hb⟩ := Bool.and_eq_true_iff.mp hb
    obtain ⟨h5, hb⟩ := Bool.and_eq_true_iff.mp hb
    obtain ⟨h6, hb⟩ := Bool.and_eq_true_iff.mp hb
    cases i with
    | zero =>
      obtain rfl := Option.some.inj h
      exact ⟨_, eqO_ok h1, eqO_ok h2, of_decide_eq_true h3, of_decide_eq_true h4, of_decide_eq_true h5, of_decide_eq_true h6⟩
    | succ i =>
      obtain ⟨p, q⟩ := slAll_ok hb i f h
      exact ⟨p, by rw [show k + (i + 1) = k + 1 + i by omega]; exact q⟩
def slB (K : PySem.W.Frag) (q : Str × List Str) : Bool := PySem.W.plainGet K (ga K q.1) Str.empty && (PySem.W.isClsIn K (ga K q.1) && (PySem.W.plainOver K (ga K q.1) && (eqO (PySem.W.findIn K (.ref (ga K q.1)) "__setattr__") (some (some (.builtin "object.__setattr__"))) && slAll K (ga K q.1) 0 q.2)))
theorem slB_ok {K : PySem.W.Frag} {x : Str} {fs : List Str} (h : slB K (x, fs) = true) : SlC K (ga K x) fs := by
  obtain ⟨h1, h⟩ := Bool.and_eq_true_iff.mp h
  obtain ⟨h2, h⟩ := Bool.and_eq_true_iff.mp h
  obtain ⟨h3, h⟩ := Bool.and_eq_true_iff.mp h
  obtain ⟨h4, h⟩ := Bool.and_eq_true_iff.mp h
  refine ⟨⟨h1, h2, h3, eqO_ok h4⟩, fun i f hf => ?_⟩
  obtain ⟨p, q⟩ := slAll_ok h i f hf
  exact ⟨p, by rw [Nat.zero_add] at q; exact q⟩
def eqB (K : PySem.W.Frag) (x : Str) : Bool := PySem.W.selfFirst K (ga K x) && ((Fa.cls x).ok K && (eqO (PySem.W.findIn K (.ref (ga K x)) "__class__") (some (some (.builtin "object.__class__"))) && (eqO (PySem.W.specialIn K (.builtin "object.__class__") "__get__") (some (some (.builtin "getset_descriptor.__get__"))) &&
  (decide (PySem.W.takesIn K (.builtin "object.__class__") = some true) && (decide (PySem.W.mroIn K (ga K x) (.type "object") = some true) && eqO (PySem.W.findIn K (.ref (ga K x)) "__ne__") (some (some (.builtin "object.__ne__"))))))))
def nonV : Value → Bool
  | .none => true
  | _ => false
/-- the class of errors at C -/
def excB (K : PySem.W.Frag) (C : Addr) : Bool := match K.lookup C with
  | some ⟨.type t, _, .cls cd, sl⟩ => decide (t = "type") && (match cd.mro, sl.toList with
    | .ref C' :: bm, [_, _, _, _, some (.builtin n), _] => decide (C' = C) && (decide (n = "ValueError.__new__") && (!cd.hasDel && (cd.hasDict && PySem.HandSPX.refsVE bm)))
    | _, _ => false)
  | _ => false
/-- what XL.ErTxt and XL.ErV ask of the class of the name x -/
def erB (K : PySem.W.Frag) (x : Str) : Bool := [excB K (ga K x), PySem.W.excInitIn K (ga K x) [.type "ValueError", .type "Exception", .type "BaseException", .type "object"] "ValueError.__new__",
  eqO (PySem.W.findIn K (.ref (ga K x)) "__setattr__") (some (some (.builtin "object.__setattr__"))), eqO (PySem.W.findIn K (.ref (ga K x)) "__getattribute__") (some (some (.builtin "BaseException.__getattribute__"))), eqO (PySem.W.findIn K (.ref (ga K x)) "__getattr__") (some none),
  eqO (PySem.W.findIn K (.ref (ga K x)) "value") (some none), eqO (PySem.W.findIn K (.ref (ga K x)) "__init__") (some (some (.ref (ma K (ga K "CrowdError") "__init__")))), PySem.W.keepIn K (.ref (ga K x)), decide (PySem.W.subIn K (.ref (ga K x)) (.type "BaseException") = some true), decide (PySem.W.subIn K (.ref (ga K x)) (.type "ValueError") = some true),
  decide (PySem.W.subIn K (.ref (ga K x)) (.ref (ga K "CrowdError")) = some true), decide (PySem.W.typeIn K (.ref (ga K x)) = some (.type "type")), PySem.W.hasDictIn K (ga K x), eqO (PySem.W.ks_superIn K (ga K x) (ga K "CrowdError") "__init__") (some (some (.builtin "ValueError.__init__"))),
  (PySem.W.clsIn K (ga K x)).isSome, eqO (PySem.W.findIn K (.ref (ga K x)) "__class__") (some (some (.builtin "object.__class__"))), eqO (PySem.W.specialIn K (.builtin "object.__class__") "__get__") (some (some (.builtin "getset_descriptor.__get__"))), decide (PySem.W.takesIn K (.builtin "object.__class__") = some true), decide (PySem.W.mroIn K (ga K x) (.type "object") = some true), decide (PySem.W.kitOne K (.type "NoneType") (.ref (ga K x)) = some false), decide (PySem.W.exmOne K (.ref (ga K x)) (.ref (ga K "CrowdError")) = some true)].all id
/-- a def with a closure, the closure left out -/
def fnZ (K : PySem.W.Frag) (a : Addr) : FnW := match K.lookup a with
  | some ⟨_, _, .func fd, _⟩ => some (fd.name, fd.qualname, fd.params, fd.body, fd.scope, fd.globals, [], fd.builtins)
  | _ => none
def crA (K : PySem.W.Frag) : Addr := ma K (ga K "CrowdError") "__init__"
def crVal (st : Stmt) : FnW := some ("__init__", "CrowdError.__init__", defArgs st, .stmts (defBody st), defScope st, mainGlobals, [], builtinsNs)
/-- what XL.CrTxt asks besides -/
def crB (K : PySem.W.Frag) (file : Str) : Bool := (match K.lookup (crA K) with
    | some ⟨_, _, .func fd, _⟩ => (match fd.closure, fd.code with
      | [(y, cl)], .ref cc => decide (y = "__class__") && (nonV fd.defaults && (nonV fd.kwdefaults && (PySem.W.codeIn K (.ref cc) "CrowdError.__init__" && ((match K.lookup cc with
        | some ⟨_, _, .fields vs, _⟩ => (match (vs[2]? : Option Value) with
          | some (.str f _) => decide (f = file)
          | _ => false)
        | _ => false) && (match K.lookup cl with
        | some ⟨_, _, .cell (some (.ref b)), _⟩ => decide (b = ga K "CrowdError")
        | _ => false)))))
      | _, _ => false)
    | _ => false) && ((PySem.W.clsIn K (ga K "CrowdError")).isSome && (decide (PySem.W.typeIn K (.ref (crA K)) = some (.type "function")) && eqO (PySem.W.nsIn K cStatics "thirdparty.any") (some none)))
/-- isinstance of classes -/
def kyV (K : PySem.W.Frag) (y : Str) : Value := if y = "@int" then .type "int" else .ref (ga K y)
def kiB (K : PySem.W.Frag) (q : Str × Str × Bool) : Bool := decide (PySem.W.kitOne K (.ref (ga K q.1)) (kyV K q.2.1) = some q.2.2)
/-- a def that makes lambdas: its table is none of what is known -/
def tbB (K : PySem.W.Frag) (x : Str) : Bool := match PySem.W.tabIn K x with
  | some p => (K.lookup p.2).isNone
  | none => false
/-- two such have two tables -/
def tdB (K : PySem.W.Frag) (q : Str × Str) : Bool := decide ((PySem.W.tabIn K q.1).map (·.2) ≠ (PySem.W.tabIn K q.2).map (·.2))
/-- the def of a staticmethod -/
def stA (m : Str) (K : PySem.W.Frag) : Addr := match PySem.W.recIn K (ma K (ga K "Form") m) "staticmethod" with
  | some (.ref g :: _) => g
  | _ => 0
def stB (K : PySem.W.Frag) (m : Str) : Bool := PySem.W.readsIn K (ga K "Form") (.type "type") && (eqO (PySem.W.specialIn K (.ref (ga K "Form")) "__getattribute__") (some (some (.builtin "type.__getattribute__"))) && ((match PySem.W.findCls K (.ref (ga K "Form")) (.type "type") m with
  | some (.get (.builtin n) (.ref p) .none (.ref C)) => decide (n = "staticmethod.__get__") && (decide (p = ma K (ga K "Form") m) && decide (C = ga K "Form"))
  | _ => false) && ((match PySem.W.recIn K (ma K (ga K "Form") m) "staticmethod" with
  | some (.ref _ :: _) => true
  | _ => false) && PySem.W.keepIn K (.ref (stA m K)))))
theorem stB_ok {K : PySem.W.Frag} {m : Str} (h : stB K m = true) : ClX.CRead K (ga K "Form") (.type "type") ∧ CStat K (ga K "Form") (.type "type") m (ma K (ga K "Form") m) (stA m K) := by
  obtain ⟨h1, h⟩ := Bool.and_eq_true_iff.mp h
  obtain ⟨h2, h⟩ := Bool.and_eq_true_iff.mp h
  obtain ⟨h3, h⟩ := Bool.and_eq_true_iff.mp h
  obtain ⟨h4, h5⟩ := Bool.and_eq_true_iff.mp h
  refine ⟨⟨h1, eqO_ok h2⟩, ⟨?_, ?_, h5⟩⟩
  · split at h3
    · rename_i n p C e
      obtain ⟨g1, g⟩ := Bool.and_eq_true_iff.mp h3
      obtain ⟨g2, g3⟩ := Bool.and_eq_true_iff.mp g
      rw [e, of_decide_eq_true g1, of_decide_eq_true g2, of_decide_eq_true g3]
    · cases h3
  · unfold stA
    split at h4
    · rename_i g r e
      exact ⟨r, by rw [e]⟩
    · cases h4
/-- an empty tuple without a dict of its own -/
def tpB (K : PySem.W.Frag) (a : Addr) : Bool := match K.lookup a with
  | some ⟨.type n, none, .seq its _, _⟩ => decide (n = "tuple") && decide (its.toList = [])
  | _ => false
def prX (K : PySem.W.Frag) (q : Str × Str) : Bool := if q.1 = "@st" then stB K q.2 else if q.1 = "@tup" then tpB K (dfA K (ma K (ga K "Form") "__init__") 0) else propB K q
structure Sp where
  fa : List Fa
  dd : List Dd
  pr : List (Str × Str)
  ta : List (Str × List (Str × Dt))
  sl : List (Str × List Str)
  eq : List Str
  tx : List (Str × List Str)
  er : List Str := []
  ki : List (Str × Str × Bool) := []
  tb : List Str := []
  td : List (Str × Str) := []
  ba : List (Str × Stmt) := []
abbrev Al : Type := Bool × List FnW × List (Option (List (Option (Str × Int)))) × List FnW
def bosK (S : Sp) (K : PySem.W.Frag) : Bool := (S.fa.all fun f => f.ok K) && ((S.dd.all fun d => d.ok K) && ((S.pr.all fun q => prX K q) && ((S.ta.all fun q => dicB K q) && ((S.sl.all fun q => slB K q) && ((S.eq.all fun x => eqB K x) && ((S.tx.all fun q => (Dt.t q.2).ok K (.ref (txA K q.1))) && ((S.er.all fun x => erB K x) && ((S.ki.all fun q => kiB K q) && ((S.tb.all fun x => tbB K x) && ((S.td.all fun q => tdB K q) && S.ba.all fun q => crB K q.1))))))))))
def obsK (S : Sp) (K : PySem.W.Frag) : Al := (bosK S K, S.dd.map (fun d => fnA K (d.adr K)), S.ta.map (fun q => dicW K (ga K q.1)), S.ba.map fun _ => fnZ K (crA K))
def valK (S : Sp) (w : World) : Al := (true, S.dd.map Dd.val, S.ta.map (fun q => some (keysIn w.params (q.2.map (·.1)))), S.ba.map fun q => crVal q.2)
def Says (S : Sp) (w : World) (K : PySem.W.Frag) : Prop := obsK S K = valK S w
/-- what these names of the module reach, step by step -/
def lv0 (ns : List Str) (g : Addr → Option Obj) : List Addr := match g mainGlobals with
  | some ⟨_, _, .dict es _, _⟩ => es.toList.flatMap fun e => match e.key with
    | .str y _ => if ns.contains y then refV e.val else []
    | _ => []
  | _ => []
def refsX (o : Obj) : List Addr := refsD o ++ match o.data with
  | .func fd => fd.closure.map (·.2)
  | _ => []
def lvs (g : Addr → Option Obj) : Nat → List Addr → List Addr
  | 0, l => l
  | n + 1, l => l ++ lvs g n (l.flatMap fun a => match g a with
    | some o => refsX o
    | none => [])
def asN (n : Nat) (ns ms : List Str) (g : Addr → Option Obj) : List Addr := mainGlobals :: cStatics :: (lvs g n (lv0 ns g) ++ lvs g 1 (lv0 ms g))
def obsG (n : Nat) (ns ms : List Str) (S : Sp) (g : Addr → Option Obj) : Al := obsK S (frG g (asN n ns ms g))
def hook (n : Nat) (ns ms : List Str) (S : Sp) : PySem.W.Hook where
  α := Al
  obs := fun s => obsG n ns ms S s.heap.get?
  val := fun w => valK S w
  says := fun w h => ∃ K : PySem.W.Frag, K.In h ∧ Says S w K
  of := fun _ _ e => ⟨_, frG_in, e⟩
  keeps := fun _ _ _ ⟨K, hK, c⟩ k => ⟨K, PySem.W.Frag.In.keeps hK k, c⟩
section
variable {S : Sp} {w : World} {K : PySem.W.Frag}
theorem Says.bos (c : Says S w K) : (((((((((((S.fa.all fun f => f.ok K) = true ∧ (S.dd.all fun d => d.ok K) = true) ∧ (S.pr.all fun q => prX K q) = true) ∧ (S.ta.all fun q => dicB K q) = true) ∧ (S.sl.all fun q => slB K q) = true) ∧ (S.eq.all fun x => eqB K x) = true) ∧ (S.tx.all fun q => (Dt.t q.2).ok K (.ref (txA K q.1))) = true) ∧ (S.er.all fun x => erB K x) = true) ∧ (S.ki.all fun q => kiB K q) = true) ∧ (S.tb.all fun x => tbB K x) = true) ∧ (S.ba.all fun q => crB K q.1) = true) ∧ (S.td.all fun q => tdB K q) = true := by
  have b : bosK S K = true := congrArg (fun z : Al => z.1) c
  unfold bosK at b
  simp only [Bool.and_eq_true] at b
  obtain ⟨a1, a2, a3, a4, a5, a6, a7, a8, a9, a10, a12, a11⟩ := b
  exact ⟨⟨⟨⟨⟨⟨⟨⟨⟨⟨⟨a1, a2⟩, a3⟩, a4⟩, a5⟩, a6⟩, a7⟩, a8⟩, a9⟩, a10⟩, a11⟩, a12⟩
theorem Says.fa (c : Says S w K) {f : Fa} (h : f ∈ S.fa) : f.ok K = true := List.all_eq_true.mp c.bos.1.1.1.1.1.1.1.1.1.1.1 f h
theorem Says.prG (c : Says S w K) {q : Str × Str} (h : q ∈ S.pr) : prX K q = true := List.all_eq_true.mp c.bos.1.1.1.1.1.1.1.1.1.2 q h
theorem Says.pr (c : Says S w K) {q : Str × Str} (h : q ∈ S.pr) (h1 : decide (q.1 = "@st") = false := by decide +kernel) (h2 : decide (q.1 = "@tup") = false := by decide +kernel) : propB K q = true := by
  have z := c.prG h
  unfold prX at z
  rwa [if_neg (of_decide_eq_false h1), if_neg (of_decide_eq_false h2)] at z
theorem Says.st (c : Says S w K) {m : Str} (h : (("@st" : Str), m) ∈ S.pr) : ClX.CRead K (ga K "Form") (.type "type") ∧ CStat K (ga K "Form") (.type "type") m (ma K (ga K "Form") m) (stA m K) := by
  have z := c.prG h
  unfold prX at z
  rw [if_pos rfl] at z
  exact stB_ok z
theorem Says.dd (c : Says S w K) (i : Nat) {d : Dd} (h : S.dd[i]? = some d) : ∃ fd, FunD K d.name d.qual (defArgs d.st) (defBody d.st) (defScope d.st) (d.dvs K) d.dfk (d.adr K) fd := by
  have e : S.dd.map (fun d => fnA K (d.adr K)) = S.dd.map Dd.val := congrArg (fun z : Al => z.2.1) c
  have e2 : (S.dd.map fun d => fnA K (d.adr K))[i]? = (S.dd.map Dd.val)[i]? := by rw [e]
  rw [List.getElem?_map, List.getElem?_map, h] at e2
  exact Dd.funD (Option.some.inj e2) (List.all_eq_true.mp c.bos.1.1.1.1.1.1.1.1.1.1.2 d (List.mem_of_getElem? h))
theorem Says.ta (c : Says S w K) (i : Nat) {x : Str} {qs : List (Str × Dt)} (h : S.ta[i]? = some (x, qs)) (nd : (qs.map (·.1)).Nodup) : ∃ kvs, WrD K w (ga K x) kvs ∧ ∀ M Z H, RepF K M Z H kvs (qs.map fun q => (q.1, q.2.d)) := by
  have e : S.ta.map (fun q => dicW K (ga K q.1)) = S.ta.map fun q => some (keysIn w.params (q.2.map (·.1))) := congrArg (fun z : Al => z.2.2.1) c
  have e2 : (S.ta.map fun q => dicW K (ga K q.1))[i]? = (S.ta.map fun q => some (keysIn w.params (q.2.map (·.1))))[i]? := by rw [e]
  rw [List.getElem?_map, List.getElem?_map, h] at e2
  exact dicB_ok (List.all_eq_true.mp c.bos.1.1.1.1.1.1.1.1.2 _ (List.mem_of_getElem? h)) (Option.some.inj e2) nd
theorem Says.sl (c : Says S w K) {x : Str} {fs : List Str} (h : (x, fs) ∈ S.sl) : SlC K (ga K x) fs := slB_ok (List.all_eq_true.mp c.bos.1.1.1.1.1.1.1.2 _ h)
end
def Sp.app (S T : Sp) : Sp := ⟨S.fa ++ T.fa, S.dd ++ T.dd, S.pr ++ T.pr, S.ta ++ T.ta, S.sl ++ T.sl, S.eq ++ T.eq, S.tx ++ T.tx, S.er ++ T.er, S.ki ++ T.ki, S.tb ++ T.tb, S.td ++ T.td, S.ba ++ T.ba⟩
def Sp.lo (S : Sp) (a b : Nat) : Sp := ⟨S.fa.take a, S.dd.take b, S.pr, S.ta, S.sl, S.eq, S.tx, [], [], [], [], []⟩
def Sp.hi (S : Sp) (a b : Nat) : Sp := ⟨S.fa.drop a, S.dd.drop b, [], [], [], [], [], S.er, S.ki, S.tb, S.td, S.ba⟩
theorem Sp.cut (S : Sp) (a b : Nat) : (S.lo a b).app (S.hi a b) = S := by
  obtain ⟨fa, dd, pr, ta, sl, eq, tx, er, ki, tb, td, ba⟩ := S
  unfold Sp.app Sp.lo Sp.hi
  simp only [List.take_append_drop, List.append_nil, List.nil_append]
theorem obsK_app {S T : Sp} {w : World} {K : PySem.W.Frag} (h1 : obsK S K = valK S w) (h2 : obsK T K = valK T w) : obsK (S.app T) K = valK (S.app T) w := by
  have a1 : bosK S K = true := congrArg (fun z : Al => z.1) h1
  have a2 : bosK T K = true := congrArg (fun z : Al => z.1) h2
  have b1 : S.dd.map (fun d => fnA K (d.adr K)) = S.dd.map Dd.val := congrArg (fun z : Al => z.2.1) h1
  have b2 : T.dd.map (fun d => fnA K (d.adr K)) = T.dd.map Dd.val := congrArg (fun z : Al => z.2.1) h2
  have c1 : S.ta.map (fun q => dicW K (ga K q.1)) = S.ta.map fun q => some (keysIn w.params (q.2.map (·.1))) := congrArg (fun z : Al => z.2.2.1) h1
  have c2 : T.ta.map (fun q => dicW K (ga K q.1)) = T.ta.map fun q => some (keysIn w.params (q.2.map (·.1))) := congrArg (fun z : Al => z.2.2.1) h2
  have d1 : S.ba.map (fun _ => fnZ K (crA K)) = S.ba.map fun q => crVal q.2 := congrArg (fun z : Al => z.2.2.2) h1
  have d2 : T.ba.map (fun _ => fnZ K (crA K)) = T.ba.map fun q => crVal q.2 := congrArg (fun z : Al => z.2.2.2) h2
  have a : bosK (S.app T) K = true := by
    unfold bosK at a1 a2 ⊢
    unfold Sp.app
    simp only [Bool.and_eq_true] at a1 a2
    simp only [List.all_append, a1, a2, Bool.and_self, Bool.and_true, Bool.true_and]
  unfold obsK valK
  rw [a]
  unfold Sp.app
  simp only [List.map_append, b1, b2, c1, c2, d1, d2]
theorem map_pair {α β γ δ ε ζ : Type} {X : Option α} {p : α → β} {q : α → γ} {o1 : α → δ} {o2 : α → ε} {o : α → ζ} {u : β} {v : γ} {w1 : δ} {w2 : ε} {w : ζ} (h1 : X.map (fun s => (p s, q s, o1 s)) = some (u, v, w1)) (h2 : X.map (fun s => (p s, q s, o2 s)) = some (u, v, w2)) (k : ∀ s, o1 s = w1 → o2 s = w2 → o s = w) : X.map (fun s => (p s, q s, o s)) = some (u, v, w) := by
  cases X with
  | none => cases h1
  | some s =>
    have e1 := Option.some.inj h1
    have e2 := Option.some.inj h2
    show some (p s, q s, o s) = _
    rw [show p s = u from congrArg (fun z => z.1) e1, show q s = v from congrArg (fun z => z.2.1) e1, k s (congrArg (fun z => z.2.2) e1) (congrArg (fun z => z.2.2) e2)]
abbrev obT (n : Nat) (ns ms : List Str) (S : Sp) (s : PySem.W.SharedT) : Al := obsG n ns ms S (HandSHeadRun.getT s)
theorem run_cut {r : PySem.W.OpenRow} {q : Program} {n M : Nat} {ns ms loose : List Str} {S : Sp} {w : World} (a b : Nat) (h1 : HandSHeadRun.RunEq r q (hook n ns ms (S.lo a b)) (obT n ns ms (S.lo a b)) M loose w) (h2 : HandSHeadRun.RunEq r q (hook n ns ms (S.hi a b)) (obT n ns ms (S.hi a b)) M loose w) : HandSHeadRun.RunEq r q (hook n ns ms S) (obT n ns ms S) M loose w := fun os => by
  refine map_pair (h1 os) (h2 os) fun s e1 e2 => ?_
  have := obsK_app (S := S.lo a b) (T := S.hi a b) (w := w) e1 e2
  rw [Sp.cut] at this
  exact this
end HK
namespace PL
open PySem SX TL
/-- a plan: a person, an unknown crowd, so many copies, a row; false: beside, true: introduced -/
inductive T where
  | one | name (x : List Nat) | cop (s : Bool) (n : Nat) (t : T) | row (s : Bool) (ts : List T)
def cls (s : Bool) : Nat := if s then 125 else 93
mutual
def ht : T → Nat
  | .one => 0
  | .name _ => 0
  | .cop _ _ t => ht t + 1
  | .row _ ts => hts ts + 1
def hts : List T → Nat
  | [] => 0
  | t :: ts => max (ht t) (hts ts)
end
def wgt (c : Nat) : Int := (if c = 40 ∨ c = 91 ∨ c = 123 then 1 else 0) - (if c = 41 ∨ c = 93 ∨ c = 125 then 1 else 0)
def dep : List Nat → Int
  | [] => 0
  | c :: r => wgt c + dep r
/-- the rest of the walk through L: at place i, depth d, begin b, found f -/
def G (L S : List Nat) : List Nat → Nat → Int → Nat → List (List Nat) → List (List Nat)
  | [], _, _, b, f => f ++ [L.drop b]
  | c :: r, i, d, b, f => if d + wgt c = 0 ∧ pre S (c :: r) = true then G L S r (i + 1) (d + wgt c) (i + S.length) (f ++ [(L.take i).drop b]) else G L S r (i + 1) (d + wgt c) b f
end PL
namespace W
open PySem PySem.Spec PyProof.Rows L2 DL
abbrev pw : Program := PySem.Challenge.pw_greetall_k19_texts_of_forms
def top (i : Nat) : Stmt := pw.main.body.getD i (.Pass ⟨0, 0, 0, 0⟩)
abbrev s_CrowdError___init__ : Stmt := inClass (top 1) 0
abbrev s_is_integer : Stmt := top 17
abbrev s_is_name : Stmt := top 18
abbrev s_is_tuple : Stmt := top 19
abbrev s_is_word : Stmt := top 20
abbrev s_do_ascend : Stmt := top 21
abbrev s_number_in : Stmt := top 22
abbrev s_is_mark : Stmt := top 28
abbrev s_are_parts : Stmt := top 29
abbrev s_Form___init__ : Stmt := inClass (top 30) 0
abbrev s_Form_parts : Stmt := inClass (top 30) 1
abbrev s_Form_number : Stmt := inClass (top 30) 2
abbrev s_Form_text : Stmt := inClass (top 30) 3
abbrev s_Form_of : Stmt := inClass (top 30) 4
abbrev s_Form___add__ : Stmt := inClass (top 30) 6
abbrev s_Form___sub__ : Stmt := inClass (top 30) 8
abbrev s_Form___eq__ : Stmt := inClass (top 30) 13
abbrev s_term_text : Stmt := top 31
abbrev s_put_together : Stmt := top 32
abbrev s_mark_in : Stmt := top 33
abbrev s_term_in : Stmt := top 34
abbrev s_words_of : Stmt := top 35
abbrev s_form_told : Stmt := top 36
abbrev s__law_pot : Stmt := top 38
abbrev s__law_take : Stmt := top 39
abbrev s__law_of : Stmt := top 40
abbrev s__law_pots : Stmt := top 41
abbrev s__law_caught : Stmt := top 42
abbrev s__law_flat : Stmt := top 43
abbrev s__law_form_text : Stmt := top 44
abbrev s__law_drawn : Stmt := top 45
abbrev s__law_integer : Stmt := top 46
abbrev s__law_term : Stmt := top 47
abbrev s__law_pair_in : Stmt := top 48
abbrev s__law_bent_text : Stmt := top 49
abbrev s__law_right : Stmt := top 50
abbrev s_law : Stmt := top 51
end W
namespace W
open PySem PySem.Spec PyProof.Rows L2 DL
def bns : List Str := ["isinstance", "int", "bool", "str", "len", "all", "sum", "range", "enumerate", "sorted", "tuple", "list", "dict", "set", "zip", "repr", "abs", "max", "min", "any"]
end W
namespace W
open PySem PySem.Spec PyProof.Rows L2 DL He HK
def gl (x : Str) (st : Stmt) : Dd := ⟨fun K => ga K x, x, x, st, [], [], 0, [], []⟩
def dds : List Dd := [
  ⟨fun K => ga K "is_integer", "is_integer", "is_integer", s_is_integer, [.non, .non], [], 0, [], []⟩, ⟨fun K => ma K (ga K "Form") "__eq__", "__eq__", "Form.__eq__", s_Form___eq__, [], [], 0, [], []⟩, ⟨fun K => ma K (ga K "Form") "__add__", "__add__", "Form.__add__", s_Form___add__, [], [], 0, [], []⟩, ⟨fun K => ma K (ga K "Form") "__sub__", "__sub__", "Form.__sub__", s_Form___sub__, [], [], 0, [], []⟩, ⟨fun K => ma K (ga K "Form") "__init__", "__init__", "Form.__init__", s_Form___init__, [], [], 1, [], [.int 0]⟩, ⟨pgA "Form" "parts", "parts", "Form.parts", s_Form_parts, [], [], 0, [], []⟩, ⟨pgA "Form" "number", "number", "Form.number", s_Form_number, [], [], 0, [], []⟩, ⟨pgA "Form" "text", "text", "Form.text", s_Form_text, [], [], 0, [], []⟩,
  gl "_law_take" s__law_take, gl "_law_of" s__law_of, gl "_law_pot" s__law_pot, gl "_law_pots" s__law_pots, gl "is_tuple" s_is_tuple, gl "is_name" s_is_name, gl "is_word" s_is_word, gl "is_mark" s_is_mark,
  gl "do_ascend" s_do_ascend, gl "are_parts" s_are_parts, gl "term_text" s_term_text, gl "put_together" s_put_together, gl "number_in" s_number_in, gl "mark_in" s_mark_in, gl "words_of" s_words_of, gl "term_in" s_term_in,
  gl "form_told" s_form_told, gl "_law_flat" s__law_flat, gl "_law_form_text" s__law_form_text, gl "_law_drawn" s__law_drawn, gl "_law_integer" s__law_integer, gl "_law_term" s__law_term, gl "_law_pair_in" s__law_pair_in, gl "_law_bent_text" s__law_bent_text,
  gl "_law_caught" s__law_caught, ⟨stA "of", "of", "Form.of", s_Form_of, [], [], 0, [], []⟩, gl "_law_right" s__law_right, gl "law" s_law]
def globs0 : List Str := ["is_integer", "_law_take", "_law_of", "_law_pot", "_law_pots", "is_tuple", "is_name", "is_word", "is_mark", "do_ascend", "are_parts", "term_text", "put_together", "number_in", "mark_in", "words_of", "term_in", "form_told"]
def globs1 : List Str := ["_law_flat", "_law_form_text", "_law_drawn", "_law_integer", "_law_term", "_law_pair_in", "_law_bent_text", "_law_caught", "law", "Form", "CrowdError", "WORDS", "BadText"]
def globsA : List Str := globs0 ++ globs1
def tbsA : List Str := ["_law_right"]
def consts : List Fa := [.str "DOT" ".", .str "MINUS" "-", .str "PLUS" "+", .str "BLANK" " ", .str "FIGURES" "0123456789", .int "PAIR" 2, .int "MOST_LETTERS" 8, .str "LETTERS" "abcdefghijklmnopqrstuvwxyz", .free "super", .glo "_law_right", .cls "Form", .noat "Form" "own_parts", .noat "Form" "own_number", .mkr "Form", .meth "Form" "__eq__", .meth "Form" "__add__", .meth "Form" "__sub__"]
def fas : List Fa := bns.map Fa.free ++ (globsA.map Fa.glo ++ consts)
def spec : HK.Sp := ⟨fas, dds, [("Form", "parts"), ("Form", "number"), ("Form", "text"), ("@st", "of"), ("@tup", "")], [], [], ["Form"], [("WORDS", ["people", "circle", "strangers", "rows", "hall"])], ["BadText"], [("Form", "@int", false)], ["_law_right"], [], [("/claim/cut.py", s_CrowdError___init__)]⟩
abbrev hk : PySem.W.Hook := hook 5 globsA tbsA spec
def ob (s : PySem.W.SharedT) : HK.Al := obsG 5 globsA tbsA spec (HandSHeadRun.getT s)
def names0 : List PySem.Str := ["__name__", "CrowdError", "BadNumber", "BadValues", "BadParts", "BadText", "PEOPLE", "CIRCLE", "STRANGERS", "ROWS", "HALL", "WORDS", "BLANK", "LETTERS", "FIGURES", "MOST_LETTERS", "is_integer", "is_name", "is_tuple", "is_word", "do_ascend", "number_in", "PAIR", "DOT", "PLUS", "MINUS", "is_mark", "are_parts"]
def names1 : List PySem.Str := ["Form", "term_text", "put_together", "mark_in", "term_in", "words_of", "form_told", "_law_pot", "_law_take", "_law_of", "_law_pots", "_law_caught", "_law_flat", "_law_form_text", "_law_drawn", "_law_integer", "_law_term", "_law_pair_in", "_law_bent_text", "_law_right"]
abbrev R : PySem.W.OpenRow := PySem.W.OpenLaw.row PySem.Challenge.rw_greetall_k19_texts_of_forms
theorem run0a (w : World) : HandSHeadRun.RunEq R (PySem.W.view R.prog [50, 51]) (hook 5 globsA tbsA (Sp.lo spec 40 0)) (obT 5 globsA tbsA (Sp.lo spec 40 0)) 9000 (names0 ++ names1) (w.withFollow "special-get-raises" false) := by
  intro os
  kernel_rfl
theorem run0b (w : World) : HandSHeadRun.RunEq R (PySem.W.view R.prog [50, 51]) (hook 5 globsA tbsA (Sp.lo spec 40 0)) (obT 5 globsA tbsA (Sp.lo spec 40 0)) 9000 (names0 ++ names1) (w.withFollow "special-get-raises" true) := by
  intro os
  kernel_rfl
theorem run0 (w : World) : HandSHeadRun.RunEq R (PySem.W.view R.prog [50, 51]) (hook 5 globsA tbsA (Sp.lo spec 40 0)) (obT 5 globsA tbsA (Sp.lo spec 40 0)) 9000 (names0 ++ names1) w :=
  PySem.W.byRow2 "special-get-raises" (P := fun w => HandSHeadRun.RunEq R (PySem.W.view R.prog [50, 51]) (hook 5 globsA tbsA (Sp.lo spec 40 0)) (obT 5 globsA tbsA (Sp.lo spec 40 0)) 9000 (names0 ++ names1) w) run0a run0b w
theorem run1a (w : World) : HandSHeadRun.RunEq R (PySem.W.view R.prog [50, 51]) (hook 5 globsA tbsA (Sp.hi spec 40 0)) (obT 5 globsA tbsA (Sp.hi spec 40 0)) 9000 (names0 ++ names1) (w.withFollow "special-get-raises" false) := by
  intro os
  kernel_rfl
theorem run1b (w : World) : HandSHeadRun.RunEq R (PySem.W.view R.prog [50, 51]) (hook 5 globsA tbsA (Sp.hi spec 40 0)) (obT 5 globsA tbsA (Sp.hi spec 40 0)) 9000 (names0 ++ names1) (w.withFollow "special-get-raises" true) := by
  intro os
  kernel_rfl
theorem run1 (w : World) : HandSHeadRun.RunEq R (PySem.W.view R.prog [50, 51]) (hook 5 globsA tbsA (Sp.hi spec 40 0)) (obT 5 globsA tbsA (Sp.hi spec 40 0)) 9000 (names0 ++ names1) w :=
  PySem.W.byRow2 "special-get-raises" (P := fun w => HandSHeadRun.RunEq R (PySem.W.view R.prog [50, 51]) (hook 5 globsA tbsA (Sp.hi spec 40 0)) (obT 5 globsA tbsA (Sp.hi spec 40 0)) 9000 (names0 ++ names1) w) run1a run1b w
theorem run (w : World) : HandSHeadRun.RunEq R (PySem.W.view R.prog [50, 51]) hk ob 9000 (names0 ++ names1) w := run_cut 40 0 (run0 w) (run1 w)
end W
namespace XL
open PySem PySem.W PySem.Calls PyProof.Rows PySem.HandSPX
def iA (p1 p2 : Pos) : Arguments := { posonlyargs := [], args := [{ arg := "self", annotation := none, pos := p1 }, { arg := "value", annotation := none, pos := p2 }], vararg := none, kwonlyargs := [], kw_defaults := [], kwarg := none, defaults := [] }
def iB (q1 q2 q3 q4 q5 q6 q7 q8 q9 q10 : Pos) : List Stmt :=
  [.Expr (.Call (.Attribute (.Call (.Name "super" q1) [] [] q2) "__init__" q3) [.Name "value" q4] [] q5) q6, .Assign [.Attribute (.Name "self" q7) "value" q8] (.Name "value" q9) q10]
/-- the text of __init__ -/
structure Shape (a : Arguments) (b : List Stmt) (sc : Scope) : Prop where
  args : ∃ p1 p2, a = iA p1 p2
  body : ∃ q1 q2 q3 q4 q5 q6 q7 q8 q9 q10, b = iB q1 q2 q3 q4 q5 q6 q7 q8 q9 q10 ∧ ∀ (q : Str) (L f : Addr) (cd : Value) (cc : Addr), ∃ pl : Sem Bool, eval (.Call (.Attribute (.Call (.Name "super" q1) [] [] q2) "__init__" q3) [.Name "value" q4] [] q5) (ksEnv q sc L f cd cc) = (do
    let ov ← attributeBase (.Call (.Name "super" q1) [] [] q2) "__init__" (ksEnv q sc L f cd cc) (eval (.Call (.Name "super" q1) [] [] q2) (ksEnv q sc L f cd cc))
    standAt q3.atName
    let (fn, first) ← holding [ov] (getMethod ov "__init__" pl)
    callWith q5 fn first (backTo q5 (starEach [.Name "value" q4] (ksEnv q sc L f cd cc))) [])
  kind : sc.kind = .function
  co : sc.isCoroutine = false
  gen : sc.isGenerator = false
  cellless : ∀ y ∈ sc.names, y.2 ≠ NameKind.cell
  self : sc.names.lookup ("self" : Str) = some .local
  value : sc.names.lookup ("value" : Str) = some .local
  cls : ∀ (q : Str) (L f : Addr) (cd : Value) (cc : Addr), (ksEnv q sc L f cd cc).kindOf "__class__" = some .free
  sup : ∀ (q : Str) (L f : Addr) (cd : Value) (cc : Addr), (ksEnv q sc L f cd cc).kindOf "super" = some .globalImplicit
  inter : ∀ (q : Str) (L f : Addr) (cd : Value) (cc : Addr), interactive (ksEnv q sc L f cd cc) = false
  kself : ∀ (q : Str) (L f : Addr) (cd : Value) (cc : Addr), (ksEnv q sc L f cd cc).kindOf "self" = some .local
  kvalue : ∀ (q : Str) (L f : Addr) (cd : Value) (cc : Addr), (ksEnv q sc L f cd cc).kindOf "value" = some .local
/-- what __init__ leaves of a fresh error at x -/
structure InitEnd (h h' : Heap) (x C dx t1 : Addr) (v : Value) : Prop where
  keep : ∀ b o, h.get? b = some o → h'.get? b = some o
  obj : h'.get? x = some { cls := .ref C, dict := some dx, data := .fields #[.ref t1, .none, .none, .none, .bool false, .none] }
  dbig : h.objs.size ≤ dx
  dne : dx ≠ x
  ns : h'.Ns1 dx (fun y => if y = "value" then some v else none)
theorem one_size (v : Value) : [v].length ≤ sizeLine := by
  rw [sizeLine_eq]
  exact (by decide : 1 ≤ 16777216)
theorem at_of_any {α : Type} {M : Model} {A : Around} {c : Code} {t : Sem α} {Q : α → Shared → Prop} {E : Value → Shared → Prop} {s : Shared} (h : wpAny M A t Q E s) : PySem.wpAt M A c t Q E s := fun Γ p _ hA => h Γ p hA
theorem ldC {M : Model} {A : Around} {s : Shared} {E : Value → Shared → Prop} {env : Env} {m : Str → Option Value} {x : Str} {pos : Pos} {v : Value} {Q : Value → Shared → Prop} (hn : s.heap.Ns env.locals m) (hv : m x = some v) (h : Q v s)
    (hk : env.scope.kind = .function) (hl : env.kindOf x = some .local) (hd : (x == ("__debug__" : Str)) = false) : wpAny M A (eval (.Name x pos) env) Q E s := wpAny_Name (wpAny_loadName_local hk hl hn hv h) hd
section
variable {prog : Program} {w : World} {A : Around} {E : Value → Shared → Prop} {R : Result → Shared → Prop} {K : Frag} {mg : Str → Option Value} {C B fI cl : Addr} {q x : Str} {a : Arguments} {b : List Stmt} {sc : Scope}
theorem crowd_init (T : CrTxt prog K q a b sc B fI cl) (S : Shape a b sc) (G : ErTxt K mg x C B fI) {h0 : Heap} (M : L2.Mod K mg h0) (hms : mg "super" = none) {hp : Heap} {g : Array GenState} {dr : Drawn} {tk0 : Nat} {os : OsState} {xo t0 : Addr} {v : Value} (k0 : ∀ b o, h0.get? b = some o → hp.get? b = some o) (hsz : h0.objs.size ≤ hp.objs.size)
    (hlim : hp.NoLimit) (hx : hp.get? xo = some (excO C t0)) (hnx : h0.get? xo = none) (hroom : A.depth < recursionLimit)
    (hq : ∀ h' tk dx t1, InitEnd h0 h' xo C dx t1 v → R (.ok (.ret .none)) ⟨h', g, dr, tk, os⟩) :
    codeAny (model prog w) A (.call (.ref fI) ⟨[.ref xo, v], []⟩) R ⟨hp, g, dr, tk0, os⟩ := by
  obtain ⟨oc, od, doc, pm, an, cc, ct, osl, occ, vs, file, tf, ho, hcd, hcc, hvs, hv2, hfile⟩ := T.fn
  obtain ⟨oce, hce, hced⟩ := T.cell
  obtain ⟨oB, cdB, hB, hBd⟩ := T.bcls
  obtain ⟨p1, p2, rfl⟩ := S.args
  obtain ⟨q1, q2, q3, q4, q5, q6, q7, q8, q9, q10, rfl, meth⟩ := S.body
  obtain ⟨nm, qn, N, bs, bm, sn, sub, ab, col, dd, y0, y1, y2, y3, y5, hC, hbm⟩ := G.cls
  have hcl : clsIn K C = some { name := nm, bases := bs, mro := .ref C :: bm, ns := N, qualname := qn, hasDict := true, slotNames := sn, subclasses := sub, abstract := ab, collection := col, hasDel := false } := by unfold clsIn; rw [hC] <;> rfl
  have X0 := M.kin
  have X : K.In hp := fun b o e => k0 b o (X0 b o e)
  refine ks_codeAny_call_defAt (binds := [("self", .ref xo), ("value", v)]) hroom (X _ _ ho) rfl hlim (codeRec_of X hcd) rfl (BindsTo.of_eq (by first | rfl | with_unfolding_all rfl)) S.cellless ?_ (fun h₁ hn k1 => ?_) S.co S.gen S.kind
  · intro y hy
    rcases List.mem_cons.mp hy with rfl | hy
    · exact S.self
    · rw [List.mem_singleton.mp hy]; exact S.value
  have X1 : K.In h₁ := fun b o e => k1 b o (X b o e)
  have k01 : ∀ b o, h0.get? b = some o → h₁.get? b = some o := fun b o e => k1 b o (k0 b o e)
  have hx1 : h₁.get? xo = some (excO C t0) := k1 _ _ hx
  have hxL : hp.objs.size ≠ xo := Nat.ne_of_gt (Heap.lt_size hx)
  obtain ⟨mb, nb, hmb⟩ := M.blt
  show PySem.wpAt _ (A.deeper (ksEnv q sc hp.objs.size fI (.ref cc) cl)) (Code.func (iB q1 q2 q3 q4 q5 q6 q7 q8 q9 q10) (ksEnv q sc hp.objs.size fI (.ref cc) cl)) (execs (iB q1 q2 q3 q4 q5 q6 q7 q8 q9 q10) (ksEnv q sc hp.objs.size fI (.ref cc) cl)) _ _ _
  obtain ⟨pl, hpl⟩ := meth q hp.objs.size fI (.ref cc) cl
  refine ks_wpAt_execs_cons (ks_wpAt_Expr_any (hi := S.inter _ _ _ _ _) (ks_wpAt_MethodCall (pl := pl) (he := hpl) (ks_wpAt_super_base (f := fI) (cc := cc) (S.sup _ _ _ _ _) (S.cls _ _ _ _ _) (by decide) rfl (X1 _ _ ho) rfl rfl rfl (X1 _ _ hcc) hvs hv2 hfile T.sup ?_)))
  refine ks_loadName_global S.kind (S.sup _ _ _ _ _) (Calls.loadGlobal_builtin (M.glob.keeps k01) hms (nb.keeps k01) ((hmb "super" (by decide)).trans rfl) ?_)
  refine ⟨rfl, wpAny_loadName_free S.kind (S.cls _ _ _ _ _) (c := cl) (v := .ref B) rfl ⟨oce, X1 _ _ hce, hced⟩ ?_⟩
  refine wpAny_loadName_local S.kind (S.kself _ _ _ _ _) hn (v := .ref xo) rfl ?_
  refine ks_wpAny_isType_cls (X1 _ _ hB) hBd ⟨rfl, ?_⟩
  refine ks_wpAny_call_super (X1 _ _ hB) hBd hx1 rfl (fun c => by intro h; cases h) (looks_subIn X1 G.sB) fun h2 hso k2 => ?_
  have hn2 := hn.keeps k2
  have hL : h0.objs.size ≤ hp.objs.size := hsz
  have fr2 : Fr h0 hp.objs.size h2 (fun x => List.lookup x [(("self" : Str), Value.ref xo), (("value" : Str), v)].reverse) := ⟨hn2, fun b o e => k2 b o (k01 b o e), hL⟩
  have hxso : h₁.objs.size ≠ xo := Nat.ne_of_gt (Heap.lt_size hx1)
  have nw2 : News h0 hp.objs.size h2 [(h₁.objs.size, ks_superObj B xo C), (xo, excO C t0)] := fun p hp => by
    rcases List.mem_cons.mp hp with rfl | hp
    · refine ⟨hso, Ne.symm (Nat.ne_of_lt hn.lt), ?_⟩
      cases e : h0.get? h₁.objs.size with
      | none => rfl
      | some o => exact absurd (Heap.lt_size (k01 _ _ e)) (Nat.lt_irrefl _)
    · rw [List.mem_singleton.mp hp]
      exact ⟨k2 _ _ hx1, fun z => hxL z.symm, hnx⟩
  refine kxs_method (odx := none) kxs_ValueError fr2 X0 nw2 List.mem_cons_self ⟨k2 _ _ hx1, rfl, rfl, trivial⟩ T.nsS G.sup G.veC (by decide) fun q3' h3 fr3 nw3 lt3 => ?_
  refine kxs_callWith1 nw3 List.mem_cons_self ?_
  refine spliced_cons (ldC (m := fun x => List.lookup x [(("self" : Str), Value.ref xo), (("value" : Str), v)].reverse) (v := v) fr3.ns rfl ?_ S.kind (S.kvalue _ _ _ _ _) (by decide))
  refine spliced_nil ⟨kxs_at nw3 List.mem_cons_self, ?_⟩
  refine kxs_call (C := C) (t := t0) (dv := none) (c2 := .none) fr3 X0 nw3 F.excBase_ValueError G.ini List.mem_cons_self (UpdF.tail (fun z => ?_) (UpdF.tail hxso (UpdF.head (fun p hp => by cases hp)))) (one_size v) fun t' h' fr' nw' lt' => ?_
  · exact Nat.ne_of_gt (lt3 (xo, excO C t0) (List.mem_cons_of_mem _ List.mem_cons_self)) z
  have X5 : K.In h' := fun b o e => fr'.keep b o (X0 b o e)
  have hx5 : h'.get? xo = some (excO C t') := (nw' (xo, excObj C t' none .none) (List.mem_cons_of_mem _ (List.mem_cons_of_mem _ (List.mem_cons_of_mem _ List.mem_cons_self)))).1
  -- self.value = value
  refine at_of_any (wpAny_execs_cons (plainObj_wpAny_Assign_Attribute ?_))
  refine ldC fr'.ns (v := v) rfl ?_ S.kind (S.kvalue _ _ _ _ _) (by decide)
  refine ldC fr'.ns (v := .ref xo) rfl ?_ S.kind (S.kself _ _ _ _ _) (by decide)
  refine set_plain X5 (ox := excO C t') (od := none) ⟨hx5, rfl, rfl, trivial⟩ G.sa ?_
  refine exc_osa X5 hx5 hcl (show refsVE (.ref C :: bm) = true from hbm) rfl G.noV (fun h6 tk6 dx k6 dn dne hx6 hn6 => ?_)
  have zz : hp.objs.size < h'.objs.size := fr'.ns.lt
  refine wpAny_execs_nil (hq h6 tk6 dx t' ⟨fun b o e => k6 b o (fun z => ?_) (fr'.keep b o e), hx6, Nat.le_trans (Nat.le_trans hsz (Nat.le_of_lt zz)) dn, dne, hn6⟩)
  rw [z, hnx] at e; cases e
end
end XL
namespace XL
open PySem PySem.W PySem.Calls PyProof.Rows PySem.HandSPX L2
/-- a made error -/
structure OwnMade (h h' : Heap) (e C d : Addr) (v : Value) : Prop where
  keep : ∀ b o, h.get? b = some o → h'.get? b = some o
  new : h.objs.size ≤ e
  obj : ∃ oe vs, h'.get? e = some oe ∧ oe.cls = .ref C ∧ oe.dict = some d ∧ oe.data = .fields vs ∧ vs[1]? = some .none
  dbig : h.objs.size ≤ d
  dne : d ≠ e
  ns : h'.Ns1 d (fun y => if y = "value" then some v else none)
/-- one of the errors, at C, under the name x -/
structure Er (P : Program) (K : Frag) (mg : Str → Option Value) (x : Str) (C : Addr) : Prop where
  ex : ∃ (B fI cl : Addr) (q : Str) (a : Arguments) (b : List Stmt) (sc : Scope), CrTxt P K q a b sc B fI cl ∧ Shape a b sc ∧ ErTxt K mg x C B fI
  sup : mg "super" = none
section
variable {prog : Program} {w : World} {A : Around} {R : Result → Shared → Prop} {K : Frag} {mg : Str → Option Value} {C : Addr} {x : Str}
theorem crowd_made (T : Er prog K mg x C) {hp : Heap} {g : Array GenState} {dr : Drawn} {tk : Nat} {os : OsState} {v : Value} (M : L2.Mod K mg hp) (hroom : A.depth + 1 < recursionLimit)
    (hq : ∀ h' tk e d, OwnMade hp h' e C d v → R (.ok (.ret (.ref e))) ⟨h', g, dr, tk, os⟩) :
    codeAny (model prog w) A (.call (.ref C) ⟨[v], []⟩) R ⟨hp, g, dr, tk, os⟩ := by
  obtain ⟨B, fI, cl, q, a, b, sc, T1, S, G⟩ := T.ex
  obtain ⟨nm, qn, N, bs, bm, sn, sub, ab, col, dd, k0, k1, k2, k3, k5, hC, hbm⟩ := G.cls
  have X := M.kin
  have k : ∀ b o, hp.get? b = some o → ((hp.push (kdv_tup [v])).push (excO C hp.objs.size)).get? b = some o := fun b o e => Heap.get?_push_of_some _ (Heap.get?_push_of_some _ e)
  have hget : ((hp.push (kdv_tup [v])).push (excO C hp.objs.size)).get? (hp.objs.size + 1) = some (excO C hp.objs.size) := by heap_get
  have hnx : hp.get? (hp.objs.size + 1) = none := by
    cases e : hp.get? (hp.objs.size + 1) with
    | none => rfl
    | some o => exact absurd (Nat.lt_of_succ_lt (Heap.lt_size e)) (Nat.lt_irrefl _)
  refine call_own F.excBase_ValueError (fun X => refsVE_contains X bm hbm) (X _ _ hC) (looks_findIn X G.iC) (fun self => bind_fn X self T1.typ) (one_size v) ?_
  refine crowd_init T1 S G M T.sup k (by rw [Heap.size_push, Heap.size_push]; omega) (M.nolimit.keeps k) hget hnx hroom fun h' tk' dx t1 I => ?_
  exact ⟨rfl, hq h' tk' (hp.objs.size + 1) dx ⟨I.keep, Nat.le_succ _, ⟨_, _, I.obj, rfl, rfl, rfl, rfl⟩, I.dbig, I.dne, I.ns⟩⟩
end
theorem relO_value {v : V} {v' : Value} (r : RelV v v') (f : Str) : RelO (List.lookup f [(("value" : Str), v)]) (if f = "value" then some v' else none) := by
  by_cases hw : f = "value"
  · subst hw
    rw [if_pos rfl]
    have q : List.lookup ("value" : Str) [(("value" : Str), v)] = some v := by simp [List.lookup]
    rw [q]
    exact r
  · rw [if_neg hw]
    have qw : (f == ("value" : Str)) = false := by simpa using hw
    have q2 : List.lookup f [(("value" : Str), v)] = none := by simp [List.lookup, qw]
    rw [q2]
    trivial
section
variable {X : Cx} {C : Addr} {x : Str}
/-- C(e) -/
def tMkE (C : Addr) (ta : TA) : L2.St → Hp → XK → Prop := fun σ H Q => ta σ H fun vs H1 => ∃ v, vs = [v] ∧ ∀ d, H1 d = none → Q (.ref C) (some d) (upd H1 d (.xd [(("value" : Str), v)]))
theorem pmk_err {a : Expr} {ta : TA} {p pos : Pos} {k : Nat} (T : Er X.prog X.K X.mg x C) (hr : Room k X.A) (ha : PA X [a] ta) (hg : Gl X x) (hdb : (x == ("__debug__" : Str)) = false)
    (he : starEach (a :: []) X.env = (false, eval a X.env) :: starEach [] X.env := by rfl) (hpl : (backTo pos (starEach [] X.env)).any (·.1) = false := by rfl) :
    PMk X (.Call (.Name x p) [a] [] pos) (tMkE C ta) := by
  intro pins s σ H Q I h
  obtain ⟨B, fI, cl, q, aa, b, sc, T1, S, G⟩ := T.ex
  refine wpAny_Call_Name_kw (ld_glob I hg G.gC ?_ hdb)
  refine PySem.W.callWith_K (h₀ := X.base) I.ok.mod.kin G.kC (thn (ha.run pos pins s σ H _ I h) fun us s1 hh => ?_) he hpl
  obtain ⟨vs, H1, I1, r1, v, ev, q1⟩ := hh
  subst ev
  refine ⟨I1.kIn, ?_⟩
  cases r1 with
  | cons rv rn =>
    rename_i v' us'
    cases rn
    show wpAny _ _ (call (.ref C) [v']) _ _ _
    obtain ⟨hp, g, dr, tk, os⟩ := s1
    refine wpAny_call (crowd_made T (Mod.keeps I1.mod I1.bk) (by have := hr.dp; omega) fun h' tk' e d M => ?_)
    show MkP X pins σ Q (.ref e) ⟨h', g, dr, tk', os⟩
    obtain ⟨oe, fv, hoe, hc, hd, hdat, h1⟩ := M.obj
    have hns := M.ns
    obtain ⟨G', g1, g2⟩ := restrict h' fun b => decide (b ≠ e)
    have gk : ∀ b, b ≠ e → G'.get? b = h'.get? b := fun b hb => g1 b (decide_eq_true hb)
    have ge : G'.get? e = none := g2 e (by simp)
    have old : ∀ b o, hp.get? b = some o → G'.get? b = some o := fun b o q => (gk b (Nat.ne_of_lt (Nat.lt_of_lt_of_le (Heap.lt_size q) M.new))).trans (M.keep b o q)
    have ob : ObjOk X.prog X.w (upd H1 d (.xd [(("value" : Str), v)])) G' d (.xd [(("value" : Str), v)]) :=
      ⟨_, hns.at (fun o q => (gk d M.dne).trans q), fun f => relO_value rv f⟩
    have J : Inv X pins σ (upd H1 d (.xd [(("value" : Str), v)])) ⟨G', g, dr, tk', os⟩ := I1.laid (t' := tk') old M.dbig ob
    refine ⟨e, oe, fv, ⟨G', g, dr, tk', os⟩, _, .ref C, some d, rfl, J, fun b o q => ?_, ge, hoe, ⟨hc, hd⟩, hdat, h1, ?_, rfl, I1.bare, raises_own G.exC G.tyC, q1 d (I1.hok.fresh M.dbig)⟩
    · by_cases hb : b = e
      · have q' : G'.get? b = some o := q
        rw [hb, ge] at q'; cases q'
      · exact (gk b hb).symm.trans q
    · rw [upd_ne (Ne.symm M.dne)]
      exact I1.hok.fresh M.new
/-- raise C(e) -/
theorem ps_raiseE {a : Expr} {ta : TA} {W : WX} {p pos pos2 : Pos} {k : Nat} (hc : X.calm = true) (T : Er X.prog X.K X.mg x C) (hr : Room k X.A) (tk : Takes X W) (ha : PA X [a] ta) (hg : Gl X x) (hdb : (x == ("__debug__" : Str)) = false)
    (he : starEach (a :: []) X.env = (false, eval a X.env) :: starEach [] X.env := by rfl) (hpl : (backTo pos (starEach [] X.env)).any (·.1) = false := by rfl) :
    PS X (.Raise (some (.Call (.Name x p) [a] [] pos)) none pos2) (fun _ σ H => tMkE C ta σ H fun cls d H' => W cls d σ H') := ps_raise hc tk (pmk_err T hr ha hg hdb he hpl)
end
end XL
namespace XL
open PySem PySem.W PySem.Calls PyProof.Rows PySem.HandSPX L2
theorem xv_ok {P : Program} {w : World} {H : Hp} {h : Heap} {a : Addr} {cls : Value} {d : Option Addr} {oe : Obj} {vs : Array Value} (e : h.get? a = some oe) (z : Zc cls d oe) (f : oe.data = .fields vs) : ObjOk P w H h a (XV a cls d) := by
  unfold XV ObjOk
  refine ⟨⟨oe, vs, e, z, f⟩, ⟨oe, e⟩, fun h1 h2 p k => ?_⟩
  obtain ⟨oe, vs, e, r⟩ := p
  exact ⟨oe, vs, k _ e, r⟩
theorem xv_get {P : Program} {w : World} {H : Hp} {h : Heap} {a : Addr} {cls : Value} {d : Option Addr} (k : HOk P w H h) (e : H a = some (XV a cls d)) : ∃ oe vs, h.get? a = some oe ∧ Zc cls d oe ∧ oe.data = .fields vs := by
  have := k a _ e
  unfold XV ObjOk at this
  exact this.1
theorem paired_imp {α β : Type} {R R' : α → β → Prop} (k : ∀ x y, R x y → R' x y) : ∀ {xs : List α} {ys : List β}, Paired R xs ys → Paired R' xs ys
  | _, _, .nil => .nil
  | _, _, .cons h t => .cons (k _ _ h) (paired_imp k t)
theorem objOk_give {P : Program} {w : World} {H : Hp} {h : Heap} {a b : Addr} {o u : HO} (hn : H a = none) (k : ObjOk P w H h b u) : ObjOk P w (upd H a o) h b u := by
  have up : ∀ {c : Addr} {z : HO}, H c = some z → upd H a o c = some z := fun {c z} e => by
    rw [upd_ne (fun q => by rw [q, hn] at e; cases e)]; exact e
  induction u with
  | dT kvs =>
    obtain ⟨h1, h2, xs, h3, r⟩ := k
    refine ⟨h1, h2, xs, ?_, r⟩
    exact paired_imp (fun p q ⟨y1, y2, y3⟩ => ⟨y1, up y2, y3⟩) h3
  | ins C dx fs =>
    obtain ⟨h1, r⟩ := k
    exact ⟨up h1, r⟩
  | frz o u ih => exact ⟨k.1, ih k.2⟩
  | lst xs => exact k
  | tup xs => exact k
  | dK xs => exact k
  | set S n => exact k
  | own x => exact k
  | xd fs => exact k
  | rng lo hi => exact k
  | tbl ps => exact k
  | met f x => exact k
  | ext φ => exact k
theorem inv_give {X : Cx} {pins : List (Addr × Obj)} {σ : L2.St} {H : Hp} {s : Shared} {a : Addr} {o : HO} (I : L2.Inv X pins σ H s) (hn : H a = none) (hnb : ∀ xs, o ≠ HO.tbl xs) (h0 : X.s_0.heap.get? a = none) (nL : a ≠ X.env.locals) (nC : ∀ v, ¬ s.heap.IsCell a v)
    (nP : ∀ p ∈ X.pn ++ pins, p.1 ≠ a) (ob : ObjOk X.prog X.w (upd H a o) s.heap a o) : L2.Inv X pins σ (upd H a o) s := by
  refine ⟨I.ok, I.os, I.bare, ⟨I.base.keep, I.base.slot, fun b u e f g => ?_, I.base.there, fun b xs e => ?_, fun b u z e => ?_, fun b ps e => ?_⟩, I.loc, I.cell, ?_, fun x c e => ?_, fun p hp => ?_, fun b u e => ?_, I.len⟩
  · by_cases q : b = a
    · rw [q, h0] at e; cases e
    · rw [upd_ne q]; exact I.base.free b u e f g
  · have z := I.base.tups b xs e
    rw [upd_ne (fun q => by rw [q, hn] at z; cases z)]; exact z
  · have y := I.base.frzs b u z e
    rw [upd_ne (fun q => by rw [q, hn] at y; cases y)]; exact y
  · obtain ⟨more, y⟩ := I.base.tbls b ps e
    exact ⟨more, by rw [upd_ne (fun q => by rw [q, hn] at y; cases y)]; exact y⟩
  · rw [upd_ne (Ne.symm nL)]; exact I.free
  · rw [upd_ne (fun q => ?_)]
    · exact I.freeC x c e
    · obtain ⟨v, hv⟩ := I.cell x c e
      rw [q] at hv; exact nC v hv
  · obtain ⟨p1, p2, r⟩ := I.pin p hp
    exact ⟨p1, by rw [upd_ne (nP p hp)]; exact p2, r⟩
  · by_cases q : b = a
    · rw [q, upd_same] at e
      cases e
      rw [q]; exact ob
    · rw [upd_ne q] at e
      exact objOk_give hn (I.hok b u e)
end XL
namespace XL
open PySem PySem.W PySem.Calls PyProof.Rows PySem.HandSPX L2
def endsV (i : Nat) (a : Addr) (cls : Value) (d : Option Addr) (D : Ends) : Ends :=
  { nx := fun σ' H' => D.nx (σ'.set i none) (upd H' a (XV a cls d)), rt := fun v H' => D.rt v (upd H' a (XV a cls d)), bk := fun σ' H' => D.bk (σ'.set i none) (upd H' a (XV a cls d)), ct := fun σ' H' => D.ct (σ'.set i none) (upd H' a (XV a cls d)) }
def wAsV (K : Frag) (c : Value) (i : Nat) (ts : Addr → Value → Option Addr → TS) (Wout : WX) (D : Ends) : WX := fun cls d σ H =>
  ∃ b, exmOne K cls c = some b ∧ (b = true → ∀ a, H a = none → ts a cls d (endsV i a cls d D) (σ.set i (some (.ref a))) H) ∧ (b = false → Wout cls d σ H)
theorem ps_try_asV {X : Cx} {x n : Str} {c : Value} {i : Nat} {body suite : List Stmt} {b₀ : Stmt} {np pos pos' : Pos} {tb : WX → TS} {ts : Addr → Value → Option Addr → TS} {Wout : WX}
    (hs : X.stack = X.env :: X.outer) (hf : X.env.frame = some X.env.locals) (hex : X.ex = []) (hN : X.N.Nodup) (hi : X.N[i]? = some n) (hln : X.env.kindOf n = some .local) (hc : Names X x c) (tk : Takes X Wout)
    (hb : ∀ (W : WX) (pn : List (Addr × Obj)) (xe : Value → Shared → Prop), Takes (X.tr pn xe) W → PassesOwn (model X.prog X.w) X.A X.env xe → PSs (X.tr pn xe) body (tb W))
    (hsu : ∀ (a : Addr) (oe : Obj) (cls : Value) (d : Option Addr) (pn : List (Addr × Obj)), Zc cls d oe → (∃ vs, oe.data = .fields vs) → PSs (X.suite a ((a, oe) :: pn)) (b₀ :: suite) (ts a cls d)) :
    PS X (.Try body [.ExceptHandler (some (.Name x np)) (some n) (b₀ :: suite) pos'] [] [] pos) (fun D σ H => tb (wAsV X.K c i ts Wout D) D σ H) := ⟨fun pins s σ H D I h => by
  have ok := I.ok
  have hfr : X.A.frames = some (X.env :: X.outer) := by rw [ok.frames, hs]
  have hloc : X.env.kindOf n = some .local ∨ X.env.kindOf n = some .cell := Or.inl hln
  refine wpAny_Try_except (wpAny_mono ((hb (wAsV X.K c i ts Wout D) (X.pn ++ pins) (fun e s₁ => wpAny (model X.prog X.w) X.A (noteFrame e X.env) (fun _ s₂ => wpAny (model X.prog X.w) X.A (setFlight e none) (fun _ s₃ =>
    wpAny (model X.prog X.w) X.A (handleBy e X.env [.ExceptHandler (some (.Name x np)) (some n) (b₀ :: suite) pos']) (SP X pins D) X.xe s₃) X.xe s₂) X.xe s₁) ?_ PassesOwn.looking).run [] s σ H D (I.toTry _) h) (fun f s1 hsp => ?_) (fun e s1 he => he))
  · intro u s' xx
    obtain ⟨a, B, sI, pins', σ', H', cls, d, rfl, J', nb, up, sky, na, os, ag, b, hb1, hyes, hno⟩ := xx
    have J := J'.ofTry ok
    have sky' : Sky B (X.env :: X.outer) a (Zc cls d) X.env.locals s'.heap := by rw [← hs]; exact sky
    refine Sky.land Zc.steady hfr hf sky' fun h3 fl3 up3 => ?_
    have J3 := J.landed (s' := ⟨h3, s'.gens, s'.drawn, s'.toks, s'.os⟩) nb fl3.1 (up.trans up3) os ag
    obtain ⟨oe3, vs3, he3, hz3, hd3⟩ := fl3.there
    have ha0 : B.get? a = none := fl3.2.1
    have nfr : a ∉ frs (X.env :: X.outer) := fun hm => by
      obtain ⟨_, o', e', hnf⟩ := fl3.2.2.1.mem hm
      rw [he3] at e'; cases e'
      exact hnf _ hd3
    have nL : a ≠ X.env.locals := fun z => nfr (List.mem_filterMap.mpr ⟨X.env, List.mem_cons_self, by rw [hf, z]⟩)
    have nF : a ∉ X.fs := fun hm => by
      obtain ⟨e, he, q⟩ := List.mem_filterMap.mp hm
      exact nfr (List.mem_filterMap.mpr ⟨e, List.mem_cons_of_mem _ he, q⟩)
    have nfr' : a ∉ frs X.stack := by rw [hs]; exact nfr
    have hsI : sI.heap.get? a = none := by
      cases e : sI.heap.get? a with
      | none => rfl
      | some o => have := nb a o e nfr'; rw [ha0] at this; cases this
    have hs0 : X.s_0.heap.get? a = none := by
      cases e : X.s_0.heap.get? a with
      | none => rfl
      | some o =>
        obtain ⟨o', q⟩ := J.base.there a o e (by rw [hex]; exact List.not_mem_nil)
        rw [hsI] at q; cases q
    have hpn : ∀ p ∈ X.pn ++ pins, p.1 ≠ a := fun p hp z => by
      have q := (J.pin p hp).1
      rw [z, hsI] at q; cases q
    have S3 := J3.suite he3 hd3 na nL nF
    refine wpAny_handleBy_cons (codeAny_handlers_test ?_) ?_
    · have LT : ∀ A Q E s, (∀ b o, h3.get? b = some o → s.heap.get? b = some o) → Q cls s → wpAny (model X.prog X.w) A (typeOf (Value.ref a)) Q E s := fun A Q E s k q => wpAny_typeOf_ref (k a oe3 he3) (by rw [hz3.1]; exact q)
      have LM := W.exm_one J3.kIn LT hb1
      have test : ∀ {Q : Value → Shared → Prop} {E : Value → Shared → Prop}, Q c ⟨h3, s'.gens, s'.drawn, s'.toks, s'.os⟩ → wpAny (model X.prog X.w) (X.A.mark (some (Value.ref a))) (eval (.Name x np) X.env) Q E ⟨h3, s'.gens, s'.drawn, s'.toks, s'.os⟩ := fun {Q E} q => by
        obtain ⟨hg, hdbg, hm | ⟨hm, hv, hnn⟩⟩ := hc
        · exact ld_glob S3 hg hm q hdbg
        · exact ld_blt S3 hg hm hv q hnn hdbg
      refine test (LM.here ?_)
      cases b with
      | false =>
        refine wpAny_handleBy_nil ?_
        obtain ⟨k1, k2, k3, oe, vs, T, oT, ts', he, hz, hd, h1, hr⟩ := id fl3
        refine wpAny_bind (wpAny_field he hd h1 ?_)
        rw [if_neg (by simp)]
        refine wpAny_bind ?_
        show wpAny _ _ (setFlight (Value.ref a) X.env.frame) _ _ _
        rw [hf]
        refine HandSPX.setFlight_upZ fl3 fun h4 hh4 up4 => wpAny_throw (tk _ _ ⟨a, B, sI, pins, σ', H', cls, d, rfl, J, nb, (up.trans up3).trans up4, .inr (.inr ?_), na, os, ag, hno rfl⟩)
        rw [hs]; exact hh4
      | true =>
        refine codeAny_handlers_suite_as ?_
        refine HandSPX.lands_againZ fl3 fun h4 fl4 up4 => ?_
        have J4 := J.landed (s' := ⟨h4, s'.gens, s'.drawn, s'.toks, s'.os⟩) nb fl4.1 ((up.trans up3).trans up4) os ag
        obtain ⟨oe4, vs4, he4, hz4, hd4⟩ := fl4.there
        have S4 := J4.suite he4 hd4 na nL nF
        refine store_ok (X := X.suite a ((a, oe4) :: (X.pn ++ pins))) (v := .ref a) S4 hN hi hloc rfl (fun s5 S5 => ?_) (Or.inr hln)
        refine wpAny_mono ((hsu a oe4 cls d (X.pn ++ pins) hz4 ⟨vs4, hd4⟩).run [] s5 (σ'.set i (some (.ref a))) H' (endsV i a cls d D) S5 (hyes rfl a na)) (fun f s6 hsp => ?_) (fun _ _ z => z.elim)
        have giv : ∀ {σ6 : L2.St} {H6 : Hp} {s6 : Shared}, L2.Inv (X.suite a ((a, oe4) :: (X.pn ++ pins))) [] σ6 H6 s6 → L2.Inv X pins σ6 (upd H6 a (XV a cls d)) s6 := fun {σ6 H6 s6} S6 => by
          obtain ⟨p1, p2, p3, p4, p5⟩ := S6.pin (a, oe4) (List.mem_append_left _ List.mem_cons_self)
          refine inv_give (S6.unsuite ok) p2 (fun xs z => by cases z) hs0 nL (fun v hv => ?_) hpn (xv_ok p1 hz4 hd4)
          obtain ⟨o, y1, y2⟩ := hv
          rw [p1] at y1; cases y1
          exact p5 _ y2
        have end_ : ∀ {σ6 : L2.St} {H6 : Hp} {s6 : Shared} {Q : Unit → Shared → Prop}, L2.Inv (X.suite a ((a, oe4) :: (X.pn ++ pins))) [] σ6 H6 s6 → (∀ s7, L2.Inv X pins (σ6.set i none) (upd H6 a (XV a cls d)) s7 → Q () s7) → wpAny (model X.prog X.w) X.A (do bindName X.env n Value.none; unbindBehindTheSuite X.env n pos') Q X.xe s6 :=
          fun {σ6 H6 s6 Q} S6 hq => gone_ok (giv S6) hN hi hln hq
        cases f with
        | next => obtain ⟨σ6, H6, S6, q6⟩ := hsp; exact end_ S6 fun s7 J7 => ⟨_, _, J7, q6⟩
        | brk => obtain ⟨σ6, H6, S6, q6⟩ := hsp; exact end_ S6 fun s7 J7 => ⟨_, _, J7, q6⟩
        | cont => obtain ⟨σ6, H6, S6, q6⟩ := hsp; exact end_ S6 fun s7 J7 => ⟨_, _, J7, q6⟩
        | ret u => obtain ⟨v6, σ6, H6, S6, r6, q6⟩ := hsp; exact end_ S6 fun s7 J7 => ⟨v6, _, _, J7, r6, q6⟩
    · intro q
      cases q
  · cases f with
    | next => obtain ⟨σ', H', J', q⟩ := hsp; exact wpAny_execs_nil ⟨σ', H', J'.ofTry ok, q⟩
    | brk => obtain ⟨σ', H', J', q⟩ := hsp; exact ⟨σ', H', J'.ofTry ok, q⟩
    | cont => obtain ⟨σ', H', J', q⟩ := hsp; exact ⟨σ', H', J'.ofTry ok, q⟩
    | ret u => obtain ⟨v, σ', H', J', r, q⟩ := hsp; exact ⟨v, σ', H', J'.ofTry ok, r, q⟩⟩
end XL
namespace XL
open PySem PySem.W PySem.Calls PyProof.Rows PySem.HandSPX L2
section
variable {X : Cx} {C : Addr}
theorem xv_inst {pins : List (Addr × Obj)} {σ : L2.St} {H : Hp} {s : Shared} {a dd : Addr} {fs : List (Str × V)} (I : L2.Inv X pins σ H s) (e : H a = some (XV a (.ref C) (some dd))) (ed : H dd = some (.xd fs)) :
    ∃ oe od mA, InstAt s.heap a oe C (some od) ∧ s.heap.get? dd = some od ∧ s.heap.Ns1 dd mA ∧ ∀ f, RelO (fs.lookup f) (mA f) := by
  obtain ⟨oe, vs, h1, z, h2⟩ := xv_get I.hok e
  have hx : ObjOk X.prog X.w H s.heap dd (.xd fs) := I.hok dd _ ed
  obtain ⟨mA, hns, hr⟩ := hx
  obtain ⟨od, ho, hl⟩ := lookIn_ns hns
  refine ⟨oe, od, mA, ⟨h1, z.1, by unfold PySem.W.notCls; rw [h2] <;> rfl, by rw [z.2]; exact ho⟩, ho, hns, hr⟩
theorem call_isV (c : V) (cv : Value) (hcv : ∀ u, RelV c u → u = cv) : CallR X (.builtin "isinstance") (fun xs H Q => ∃ a C dd fs b, xs = [.ref a, c] ∧ ErV X.K C ∧ H a = some (XV a (.ref C) (some dd)) ∧ H dd = some (.xd fs) ∧ kitOne X.K (.ref C) cv = some b ∧ Q (.bl b) H) := by
  intro pins s σ H xs us Q I r h
  obtain ⟨a, C, dd, fs, b, rfl, E, ea, ed, hk, q⟩ := h
  obtain ⟨oe, od, mA, J, _⟩ := xv_inst I ea ed
  cases r with
  | cons r1 r2 =>
    cases r2 with
    | cons r3 r4 =>
      cases r4
      obtain rfl : _ = Value.ref a := r1
      obtain rfl := hcv _ r3
      exact kia_one (kitx_exc E.cl E.ga E.gg E.exC E.ha E.hn E.ht E.hm) I.kIn J hk (by intro z; cases z) fun tk => ⟨.bl b, H, I.kept fun _ _ z => z, rfl, q⟩
theorem pe_valV {e : Expr} {te : TE} {pos : Pos} {n : Str} (he : PE X e te) (hb : attributeBase e n X.env (eval e X.env) = eval e X.env) :
    PE X (.Attribute e n pos) (fun σ H Q => te σ H fun x H1 => ∃ (a C dd : Addr) (fs : List (Str × V)) (v : V), x = .ref a ∧ ErV X.K C ∧ findIn X.K (.ref C) n = some none ∧ H1 a = some (XV a (.ref C) (some dd)) ∧ H1 dd = some (.xd fs) ∧ fs.lookup n = some v ∧ Q v H1) := by
  refine ⟨fun pins s σ H Q I h => ?_⟩
  refine attr_of hb (thn (he.run pins s σ H _ I h) fun u s1 hh => ?_)
  obtain ⟨x, H1, I1, rx, a, C, dd, fs, v, rfl, E, hno, ea, ed, hl, q⟩ := hh
  obtain rfl : u = Value.ref a := rx
  obtain ⟨oe, od, mA, J, ho, hns, hr⟩ := xv_inst I1 ea ed
  obtain ⟨od', ho', hlo⟩ := lookIn_ns hns
  rw [ho] at ho'; cases ho'
  obtain ⟨u, hu, ru⟩ := RelO.some_of (v := v) (o := mA n) (by rw [← hl]; exact hr n)
  exact HandSPX.exc_get I1.kIn J E.ga E.gg E.exC (PySem.W.findObj_own E.hdC hno rfl (by rw [hlo, hu])) (handed_of ru) ⟨v, H1, I1.tok _, ru, q⟩
end
end XL
namespace XL
open PySem PySem.W PySem.Calls PyProof.Rows PySem.HandSPX L2 LamX
theorem lamO_ok {P : Program} {w : World} {H : Hp} {h : Heap} {f : Addr} {q : Str} {params : Arguments} {body : Expr} {scope : Scope} {cells : List (Str × Addr)} {c' : Addr} {pm ctv : Value} (e : h.get? f = some (W.kla_obj "<lambda>" q params body scope cells pm c' ctv)) : ObjOk P w H h f (LamO f q params body scope cells c') := by
  unfold LamO ObjOk
  refine ⟨⟨pm, ctv, e⟩, ⟨_, e⟩, fun h1 h2 p k => ?_⟩
  obtain ⟨pm, ctv, e⟩ := p
  exact ⟨pm, ctv, k _ e⟩
theorem lamO_get {P : Program} {w : World} {H : Hp} {h : Heap} {f : Addr} {q : Str} {params : Arguments} {body : Expr} {scope : Scope} {cells : List (Str × Addr)} {c' : Addr} (k : HOk P w H h) (e : H f = some (LamO f q params body scope cells c')) : ∃ pm ctv, h.get? f = some (W.kla_obj "<lambda>" q params body scope cells pm c' ctv) := by
  have := k f _ e
  unfold LamO ObjOk at this
  exact this.1
theorem give_lam {X : Cx} {pins : List (Addr × Obj)} {σ : L2.St} {H H1 : Hp} {s s1 : Shared} {f : Addr} {q : Str} {params : Arguments} {body : Expr} {scope : Scope} {cells : List (Str × Addr)} {c' : Addr} {pm ctv : Value} (I : L2.Inv X pins σ H s) (I1 : L2.Inv X pins σ H1 s1) (hex : X.ex = []) (hf : s.heap.objs.size ≤ f) (hn : H1 f = none)
    (e : s1.heap.get? f = some (W.kla_obj "<lambda>" q params body scope cells pm c' ctv)) : L2.Inv X pins σ (upd H1 f (LamO f q params body scope cells c')) s1 := by
  have old : ∀ b o, s.heap.get? b = some o → b ≠ f := fun b o k z => by
    have := Heap.lt_size k
    rw [z] at this
    exact absurd this (Nat.not_lt.mpr hf)
  refine inv_give I1 hn (fun xs z => by cases z) ?_ (fun z => ?_) (fun v hv => ?_) (fun p hp => old p.1 p.2 (I.pin p hp).1) (lamO_ok e)
  · cases k : X.s_0.heap.get? f with
    | none => rfl
    | some o =>
      obtain ⟨o', k'⟩ := I.base.there f o k (by rw [hex]; exact List.not_mem_nil)
      exact absurd rfl (old f o' k')
  · have := I.lt
    rw [← z] at this
    exact absurd this (Nat.not_lt.mpr hf)
  · obtain ⟨o, y1, y2⟩ := hv
    rw [e] at y1; cases y1
    cases y2
end XL
namespace DL
open PySem L2
def mset (M : Mp) (a : Addr) (o : MO) : Mp := fun b => if b = a then some o else M b
def mdel (M : Mp) (a : Addr) : Mp := fun b => if b = a then none else M b
theorem mset_same {M : Mp} {a : Addr} {o : MO} : mset M a o a = some o := if_pos rfl
theorem mset_ne {M : Mp} {a b : Addr} {o : MO} (h : b ≠ a) : mset M a o b = M b := if_neg h
theorem mdel_same {M : Mp} {a : Addr} : mdel M a a = none := if_pos rfl
theorem mdel_ne {M : Mp} {a b : Addr} (h : b ≠ a) : mdel M a b = M b := if_neg h
theorem mset_mset {M : Mp} {a : Addr} {o u : MO} : mset (mset M a o) a u = mset M a u := by
  funext b; unfold mset; split <;> rfl
theorem mdel_mset {M : Mp} {a : Addr} {o : MO} (h : M a = none) : mdel (mset M a o) a = M := by
  funext b; unfold mdel
  by_cases e : b = a
  · rw [if_pos e, e, h]
  · rw [if_neg e, mset_ne e]
section
variable {K : PySem.W.Frag} {M M' : Mp} {Z : Zn} {H H' : Hp}
theorem Rep.mono (e : Ext M Z H M' H') {v : V} {d : D} (r : Rep K M Z H v d) : Rep K M' Z H' v d := r.monoI e.i
theorem RepO.mono (e : Ext M Z H M' H') {v : List (Option V)} {d : List (Option D)} (r : RepO K M Z H v d) : RepO K M' Z H' v d := r.monoI e.i
theorem Reps.mono (e : Ext M Z H M' H') {v : List V} {d : List D} (r : Reps K M Z H v d) : Reps K M' Z H' v d := r.monoI e.i
theorem RepK.mono (e : Ext M Z H M' H') {v : List (Key × V)} {d : List (Key × D)} (r : RepK K M Z H v d) : RepK K M' Z H' v d := r.monoI e.i
theorem RepT.mono (e : Ext M Z H M' H') {v : List (List Key × V)} {d : List (List Key × D)} (r : RepT K M Z H v d) : RepT K M' Z H' v d := r.monoI e.i
theorem RepF.mono (e : Ext M Z H M' H') {v : List (Str × V)} {d : List (Str × D)} (r : RepF K M Z H v d) : RepF K M' Z H' v d := r.monoI e.i
end
theorem Reps.append {K : PySem.W.Frag} {M : Mp} {Z : Zn} {H : Hp} : ∀ {vs ws : List V} {ds es : List D}, Reps K M Z H vs ds → Reps K M Z H ws es → Reps K M Z H (vs ++ ws) (ds ++ es)
  | _, _, _, _, .nil, s => s
  | _, _, _, _, .cons r t, s => .cons r (Reps.append t s)
theorem Reps.ints {K : PySem.W.Frag} {M : Mp} {Z : Zn} {H : Hp} : ∀ {vs : List V} {ns : List Int}, Reps K M Z H vs (ns.map D.int) → vs = ns.map V.int
  | _, [], .nil => rfl
  | _, _ :: _, .cons (.int _) t => by rw [List.map_cons, Reps.ints t]
theorem Reps.ofInts {K : PySem.W.Frag} {M : Mp} {Z : Zn} {H : Hp} : ∀ (ns : List Int), Reps K M Z H (ns.map V.int) (ns.map D.int)
  | [] => .nil
  | _ :: r => .cons (.int _) (Reps.ofInts r)
theorem Reps.bls {K : PySem.W.Frag} {M : Mp} {Z : Zn} {H : Hp} : ∀ {vs : List V} {ns : List Bool}, Reps K M Z H vs (ns.map D.bl) → vs = ns.map V.bl
  | _, [], .nil => rfl
  | _, _ :: _, .cons (.bl _) t => by rw [List.map_cons, Reps.bls t]
theorem Reps.strs {K : PySem.W.Frag} {M : Mp} {Z : Zn} {H : Hp} : ∀ {vs : List V} {ns : List Str}, Reps K M Z H vs (ns.map D.str) → vs = ns.map V.str
  | _, [], .nil => rfl
  | _, _ :: _, .cons (.str _) t => by rw [List.map_cons, Reps.strs t]
@[elab_as_elim] theorem RepN.ind {K : PySem.W.Frag} {M : Mp} {Z : Zn} {H : Hp} {motive : (xs : List (NestedKey × Addr × V)) → (kvs : List (D × D)) → RepN K M Z H xs kvs → Prop} (nil : motive [] [] .nil)
    (cons : ∀ {k : NestedKey} {a : Addr} {v : V} {dk d : D} {xs : List (NestedKey × Addr × V)} {kvs : List (D × D)} (hk : nkD dk = some k) (dp : k.depth ≤ 8) (rk : Rep K M Z H (.ref a) dk) (r : Rep K M Z H v d) (t : RepN K M Z H xs kvs), motive xs kvs t → motive _ _ (.cons hk dp rk r t)) :
    ∀ {xs : List (NestedKey × Addr × V)} {kvs : List (D × D)} (t : RepN K M Z H xs kvs), motive xs kvs t
  | _, _, .nil => nil
  | _, _, .cons hk dp rk r t => cons hk dp rk r t (RepN.ind nil cons t)
theorem Wd.fresh {K : PySem.W.Frag} {M : Mp} {Z : Zn} {H : Hp} (w : Wd K M Z H) {a : Addr} (h : H a = none) : Im M Z a := by
  refine ⟨?_, fun z => ?_⟩
  · cases e : M a with
    | none => rfl
    | some o =>
      obtain ⟨u, q⟩ := (w.1 a o e).there
      rw [h] at q; cases q
  · obtain ⟨_, u, q⟩ := w.2 a z
    rw [h] at q; cases q
section
variable {K : PySem.W.Frag} {M : Mp} {Z : Zn} {H : Hp} {p : Addr} {o : HO} {u v : MO}
theorem Wd.zne (w : Wd K M Z H) (h : H p = none) : ∀ b, Z b → b ≠ p := fun b z e => by
  obtain ⟨_, u, q⟩ := w.2 b z
  rw [e, h] at q; cases q
theorem Wd.zneM (w : Wd K M Z H) (h : M p = some v) : ∀ b, Z b → b ≠ p := fun b z e => by
  have q := (w.2 b z).1
  rw [e, h] at q; cases q
/-- a new immutable object -/
theorem Ext.new (w : Wd K M Z H) (h : H p = none) : Ext M Z H M (upd H p o) := ⟨fun b u q m => ⟨by rw [upd_ne (ne_of_none q h)]; exact q, m⟩, fun b z => ⟨upd_ne (w.zne h b z), rfl⟩⟩
theorem Wd.new (w : Wd K M Z H) (h : H p = none) : Wd K M Z (upd H p o) := ⟨fun a u e => by
  obtain ⟨z, q⟩ := (w.1 a u e).there
  exact (w.1 a u e).step (Ext.new w h) (upd_ne (ne_of_none q h)), fun b z => by
  obtain ⟨m, u, q⟩ := w.2 b z
  exact ⟨m, u, by rw [upd_ne (w.zne h b z)]; exact q⟩⟩
/-- a new mutable object -/
theorem Ext.newM (w : Wd K M Z H) (h : H p = none) : Ext M Z H (mset M p u) (upd H p o) := ⟨fun b z q m => ⟨by rw [upd_ne (ne_of_none q h)]; exact q, by rw [mset_ne (ne_of_none q h)]; exact m.1, m.2⟩, fun b z => ⟨upd_ne (w.zne h b z), mset_ne (w.zne h b z)⟩⟩
theorem Wd.newM (w : Wd K M Z H) (h : H p = none) (r : RepM K (mset M p u) Z (upd H p o) p u) : Wd K (mset M p u) Z (upd H p o) := ⟨fun a z e => by
  by_cases ha : a = p
  · subst ha; rw [mset_same] at e; cases e; exact r
  · rw [mset_ne ha] at e
    exact (w.1 a z e).step (Ext.newM w h) (upd_ne ha), fun b z => by
  obtain ⟨m, u, q⟩ := w.2 b z
  exact ⟨by rw [mset_ne (w.zne h b z)]; exact m, u, by rw [upd_ne (w.zne h b z)]; exact q⟩⟩
/-- a mutable object changed -/
theorem Ext.put (w : Wd K M Z H) (h : M p = some v) : Ext M Z H (mset M p u) (upd H p o) := ⟨fun b z q m => by
  have n : b ≠ p := fun e => by have m := m.1; rw [e, h] at m; cases m
  exact ⟨by rw [upd_ne n]; exact q, by rw [mset_ne n]; exact m.1, m.2⟩, fun b z => ⟨upd_ne (w.zneM h b z), mset_ne (w.zneM h b z)⟩⟩
theorem Wd.put (w : Wd K M Z H) (h : M p = some v) (r : RepM K (mset M p u) Z (upd H p o) p u) : Wd K (mset M p u) Z (upd H p o) := ⟨fun a z e => by
  by_cases ha : a = p
  · subst ha; rw [mset_same] at e; cases e; exact r
  · rw [mset_ne ha] at e
    exact (w.1 a z e).step (Ext.put w h) (upd_ne ha), fun b z => by
  obtain ⟨m, u, q⟩ := w.2 b z
  exact ⟨by rw [mset_ne (w.zneM h b z)]; exact m, u, by rw [upd_ne (w.zneM h b z)]; exact q⟩⟩
end
theorem EnvR.mono {K : PySem.W.Frag} {M M' : Mp} {Z : Zn} {H H' : Hp} (e : Ext M Z H M' H') {σ : St} {ρ : Rho} (r : EnvR K M Z H σ ρ) : EnvR K M' Z H' σ ρ := r.monoI e.i
theorem EnvR.unset {K : PySem.W.Frag} {M : Mp} {Z : Zn} {H : Hp} {o : Option V} : ∀ {σ : St} {ρ : Rho} (i : Nat), EnvR K M Z H σ ρ → EnvR K M Z H (σ.set i o) (ρ.set i .none)
  | _, _, _, .nil => .nil
  | _, _, 0, .val _ t => .any t
  | _, _, 0, .any t => .any t
  | _, _, i + 1, .val q t => .val q (EnvR.unset i t)
  | _, _, i + 1, .any t => .any (EnvR.unset i t)
end DL
namespace DL
open PySem L2
section
variable (X : Cx)
def eSem (e : Expr) : TE := fun σ H Q => ∀ pins s, Inv X pins σ H s → wpAny (model X.prog X.w) X.A (eval e X.env) (EP X pins σ Q) X.xe s
def tSem (e : Expr) : TT := fun σ H Q => ∀ pins s, Inv X pins σ H s → wpAny (model X.prog X.w) X.A (isTrue e X.env (eval e X.env)) (TP X pins σ Q) X.xe s
def wSem (e : Expr) : TT := fun σ H Q => ∀ (whole : Sem Value) pins s, Inv X pins σ H s → wpAny (model X.prog X.w) X.A (isTrue e X.env whole) (TP X pins σ Q) X.xe s
def aSem (es : List Expr) : TA := fun σ H Q => ∀ pos pins s, Inv X pins σ H s → wpAny (model X.prog X.w) X.A (spliced (backTo pos (starEach es X.env))) (AP X pins σ Q) X.xe s
def sSem (st : Stmt) : TS := fun D σ H => ∀ pins s, Inv X pins σ H s → wpAny (model X.prog X.w) X.A (exec st X.env) (SP X pins D) X.xe s
def gSem (tg : Expr) : TG := fun v σ H Q => ∀ pins s u, Inv X pins σ H s → RelV v u → wpAny (model X.prog X.w) X.A (assign tg X.env u) (fun _ s' => ∃ σ' H', Inv X pins σ' H' s' ∧ Q σ' H') X.xe s
def gsSem (ts : List Expr) : TGs := fun vs σ H Q => ∀ pins s us, Inv X pins σ H s → Vals vs us → wpAny (model X.prog X.w) X.A (assignInOrder ((assignEach ts X.env).map (·.2)) us) (fun _ s' => ∃ σ' H', Inv X pins σ' H' s' ∧ Q σ' H') X.xe s
def iSem (tg iter : Expr) : TI := fun σ H R => ∀ pins s, Inv X pins σ H s → wpAny (model X.prog X.w) X.A (eval iter X.env) (fun v s1 => wpAny (model X.prog X.w) X.A (pyIter v) (PIE X pins σ tg R) X.xe s1) X.xe s
end
section
variable {X : Cx} {e tg : Expr} {es : List Expr} {st : Stmt} {sts : List Stmt} {σ : L2.St} {H : Hp}
theorem pe_sem : PE X e (eSem X e) := ⟨fun pins s σ H Q I h => h pins s I⟩
theorem pt_sem : PT X e (tSem X e) := ⟨fun pins s σ H Q I h => h pins s I⟩
theorem pw_sem : PW X e (wSem X e) := ⟨fun wh pins s σ H Q I h => h wh pins s I⟩
theorem pa_sem : PA X es (aSem X es) := ⟨fun pos pins s σ H Q I h => h pos pins s I⟩
theorem ps_sem : PS X st (sSem X st) := ⟨fun pins s σ H D I h => h pins s I⟩
theorem pg_sem : PG X tg (gSem X tg) := ⟨fun pins s σ H v u Q I r h => h pins s u I r⟩
theorem pgs_sem : PGs X es (gsSem X es) := ⟨fun pins s σ H v u Q I r h => h pins s u I r⟩
theorem pi_sem : PI X tg e (iSem X tg e) := ⟨fun pins s σ H R I h => h pins s I⟩
theorem eOf {t : TE} {Q : VK} (h : PE X e t) (q : t σ H Q) : eSem X e σ H Q := fun pins s I => h.run pins s σ H Q I q
theorem tOf {t : TT} {Q : Bool → Hp → Prop} (h : PT X e t) (q : t σ H Q) : tSem X e σ H Q := fun pins s I => h.run pins s σ H Q I q
theorem wOf {t : TT} {Q : Bool → Hp → Prop} (h : PW X e t) (q : t σ H Q) : wSem X e σ H Q := fun wh pins s I => h.run wh pins s σ H Q I q
theorem aOf {t : TA} {Q : List V → Hp → Prop} (h : PA X es t) (q : t σ H Q) : aSem X es σ H Q := fun pos pins s I => h.run pos pins s σ H Q I q
theorem sOf {t : TS} {D : Ends} (h : PS X st t) (q : t D σ H) : sSem X st D σ H := fun pins s I => h.run pins s σ H D I q
theorem ssOf {t : TS} {D : Ends} (h : PSs X sts t) (q : t D σ H) : ssSem X sts D σ H := fun pins s I => h.run pins s σ H D I q
theorem gOf {t : TG} {v : V} {Q : L2.St → Hp → Prop} (h : PG X tg t) (q : t v σ H Q) : gSem X tg v σ H Q := fun pins s u I r => h.run pins s σ H v u Q I r q
theorem gsOf {t : TGs} {vs : List V} {Q : L2.St → Hp → Prop} (h : PGs X es t) (q : t vs σ H Q) : gsSem X es vs σ H Q := fun pins s u I r => h.run pins s σ H vs u Q I r q
end
section
variable {K : PySem.W.Frag} {M M1 : Mp} {Z : Zn} {H H1 : Hp}
theorem KE.now {Φ : D → Mp → Prop} {Q : VK} {v : V} {d : D} (k : KE K M Z H Φ Q) (w : Wd K M Z H) (r : Rep K M Z H v d) (h : Φ d M) : Q v H := k v d H M Ext.refl w r h
theorem KE.new {Φ : D → Mp → Prop} {Q : VK} {p : Addr} {o : HO} {d : D} (k : KE K M Z H Φ Q) (w : Wd K M Z H) (hp : H p = none) (r : Rep K M Z (upd H p o) (.ref p) d) (h : Φ d M) : Q (.ref p) (upd H p o) :=
  k _ d _ M (Ext.new w hp) (w.new hp) r h
theorem KT.now {Φ : Bool → Mp → Prop} {Q : Bool → Hp → Prop} {b : Bool} (k : KT K M Z H Φ Q) (w : Wd K M Z H) (h : Φ b M) : Q b H := k b H M Ext.refl w h
end
structure WE (X : Cx) (ρ : Rho) (M : Mp) (e : Expr) (Φ : D → Mp → Prop) : Prop where
  run : ∀ {Z : Zn} σ H (Q : VK), EnvR X.K M Z H σ ρ → Wd X.K M Z H → KE X.K M Z H Φ Q → eSem X e σ H Q
structure WT (X : Cx) (ρ : Rho) (M : Mp) (e : Expr) (Φ : Bool → Mp → Prop) : Prop where
  run : ∀ {Z : Zn} σ H (Q : Bool → Hp → Prop), EnvR X.K M Z H σ ρ → Wd X.K M Z H → KT X.K M Z H Φ Q → tSem X e σ H Q
structure WW (X : Cx) (ρ : Rho) (M : Mp) (e : Expr) (Φ : Bool → Mp → Prop) : Prop where
  run : ∀ {Z : Zn} σ H (Q : Bool → Hp → Prop), EnvR X.K M Z H σ ρ → Wd X.K M Z H → KT X.K M Z H Φ Q → wSem X e σ H Q
structure WA (X : Cx) (ρ : Rho) (M : Mp) (es : List Expr) (Φ : List D → Mp → Prop) : Prop where
  run : ∀ {Z : Zn} σ H (Q : List V → Hp → Prop), EnvR X.K M Z H σ ρ → Wd X.K M Z H → KA X.K M Z H Φ Q → aSem X es σ H Q
structure WS (X : Cx) (ρ : Rho) (M : Mp) (st : Stmt) (Ψ : DE) : Prop where
  run : ∀ {Z : Zn} σ H (E : Ends), EnvR X.K M Z H σ ρ → Wd X.K M Z H → KS X.K M Z H Ψ E → sSem X st E σ H
structure WG (X : Cx) (tg : Expr) (d : D) (ρ : Rho) (M : Mp) (Φ : Rho → Mp → Prop) : Prop where
  run : ∀ {Z : Zn} σ H v (Q : L2.St → Hp → Prop), EnvR X.K M Z H σ ρ → Wd X.K M Z H → Rep X.K M Z H v d → KG X.K M Z H Φ Q → gSem X tg v σ H Q
structure WGs (X : Cx) (tg : List Expr) (ds : List D) (ρ : Rho) (M : Mp) (Φ : Rho → Mp → Prop) : Prop where
  run : ∀ {Z : Zn} σ H vs (Q : L2.St → Hp → Prop), EnvR X.K M Z H σ ρ → Wd X.K M Z H → Reps X.K M Z H vs ds → KG X.K M Z H Φ Q → gsSem X tg vs σ H Q
section
variable {X : Cx} {ρ : Rho} {M : Mp} {Φ : D → Mp → Prop} {e a b : Expr} {pos : Pos}
/-- weaken the end -/
theorem WE.imp {Φ' : D → Mp → Prop} (h : WE X ρ M e Φ') (k : ∀ d M', Φ' d M' → Φ d M') : WE X ρ M e Φ := .mk fun σ H Q en w q => h.run σ H Q en w fun v d H' M' x w' r z => q v d H' M' x w' r (k d M' z)
theorem WA.imp {es : List Expr} {Φ Φ' : List D → Mp → Prop} (h : WA X ρ M es Φ') (k : ∀ d M', Φ' d M' → Φ d M') : WA X ρ M es Φ := .mk fun σ H Q en w q => h.run σ H Q en w fun v d H' M' x w' r z => q v d H' M' x w' r (k d M' z)
theorem WT.imp {Φ Φ' : Bool → Mp → Prop} (h : WT X ρ M e Φ') (k : ∀ d M', Φ' d M' → Φ d M') : WT X ρ M e Φ := .mk fun σ H Q en w q => h.run σ H Q en w fun b H' M' x w' z => q b H' M' x w' (k b M' z)
theorem we_var (i : Nat) {x : Str} {d : D} (hr : ρ[i]? = some (some d)) (h : Φ d M) (hN : X.N[i]? = some x := by rfl) (hv : Vis X.env.scope x := by first | exact Or.inl rfl | exact Or.inr (Or.inl rfl) | exact Or.inr (Or.inr rfl))
    (hd : (x == ("__debug__" : Str)) = false := by decide) (hcd : (x == ("__classdict__" : Str)) = false := by decide) : WE X ρ M (.Name x pos) Φ := .mk fun σ H Q en w k => by
  obtain ⟨v, e1, r⟩ := en.get hr
  exact eOf (pe_var hN hv hd hcd) ⟨v, e1, k.now w r h⟩
theorem we_int {i : Int} {j : Nat} (h : Φ (.int i) M) : WE X ρ M (.Constant (.int i) j pos) Φ := .mk fun σ H Q en w k => eOf pe_int (k.now w (.int i) h)
theorem we_bl {i : Bool} {j : Nat} (h : Φ (.bl i) M) : WE X ρ M (.Constant (.bool i) j pos) Φ := .mk fun σ H Q en w k => eOf pe_bl (k.now w (.bl i) h)
theorem we_non {j : Nat} (h : Φ .non M) : WE X ρ M (.Constant .none j pos) Φ := .mk fun σ H Q en w k => eOf pe_non (k.now w .non h)
theorem we_str {i : Str} {j : Nat} (h : Φ (.str i) M) : WE X ρ M (.Constant (.str i) j pos) Φ := .mk fun σ H Q en w k => eOf pe_str (k.now w (.str i) h)
/-- a module's constant -/
theorem we_gint {x : Str} {i : Int} (hm : ∃ t, X.mg x = some (.int i t)) (h : Φ (.int i) M) (hg : Gl X x := by rfl) (hd : (x == ("__debug__" : Str)) = false := by decide) : WE X ρ M (.Name x pos) Φ := .mk fun σ H Q en w k => by
  obtain ⟨t, hm⟩ := hm
  exact eOf (pe_glob (v := .int i) hg hm ⟨t, rfl⟩ hd) (k.now w (.int i) h)
theorem we_gstr {x : Str} {i : Str} (hm : ∃ t, X.mg x = some (.str i t)) (h : Φ (.str i) M) (hg : Gl X x := by rfl) (hd : (x == ("__debug__" : Str)) = false := by decide) : WE X ρ M (.Name x pos) Φ := .mk fun σ H Q en w k => by
  obtain ⟨t, hm⟩ := hm
  exact eOf (pe_glob (v := .str i) hg hm ⟨t, rfl⟩ hd) (k.now w (.str i) h)
theorem we_gref {x : Str} {a : Addr} {d : D} (hm : X.mg x = some (.ref a)) (hr : ∀ M Z H, Rep X.K M Z H (.ref a) d) (h : Φ d M) (hg : Gl X x := by rfl) (hd : (x == ("__debug__" : Str)) = false := by decide) : WE X ρ M (.Name x pos) Φ := .mk fun σ H Q en w k =>
  eOf (pe_glob (v := .ref a) hg hm rfl hd) (k.now w (hr _ _ _) h)
/-- a built-in class as a value -/
theorem we_bty {x : Str} {n : String} (hm : X.mg x = none) (hv : bootBuiltins x = some (.type n)) (h : Φ (.ty n) M) (hg : Gl X x := by rfl) (hn : x ≠ "__name__" := by decide) (hd : (x == ("__debug__" : Str)) = false := by decide) : WE X ρ M (.Name x pos) Φ := .mk fun σ H Q en w k =>
  eOf (pe_bltn (v := .ty n) hg hm hv rfl hn hd) (k.now w (.ty n) h)
def RD (K : PySem.W.Frag) (r : R2) (x y : D) (M : Mp) (Φ : D → Mp → Prop) : Prop := ∀ (Z : Zn) v u H Q, Wd K M Z H → Rep K M Z H v x → Rep K M Z H u y → KE K M Z H Φ Q → r v u H Q
def RU (K : PySem.W.Frag) (r : V → Hp → VK → Prop) (x : D) (M : Mp) (Φ : D → Mp → Prop) : Prop := ∀ (Z : Zn) v H Q, Wd K M Z H → Rep K M Z H v x → KE K M Z H Φ Q → r v H Q
def RC (K : PySem.W.Frag) (r : List V → Hp → VK → Prop) (xs : List D) (M : Mp) (Φ : D → Mp → Prop) : Prop := ∀ (Z : Zn) vs H Q, Wd K M Z H → Reps K M Z H vs xs → KE K M Z H Φ Q → r vs H Q
theorem bind2 {Ψ : D → D → Mp → Prop} (h : WE X ρ M a fun x M1 => WE X ρ M1 b fun y M2 => Ψ x y M2) {Z : Zn} {σ : L2.St} {H : Hp} {R : V → V → Hp → Prop} (en : EnvR X.K M Z H σ ρ) (w : Wd X.K M Z H)
    (k : ∀ v u x y H2 M2, Ext M Z H M2 H2 → Wd X.K M2 Z H2 → Rep X.K M2 Z H2 v x → Rep X.K M2 Z H2 u y → Ψ x y M2 → R v u H2) : eSem X a σ H fun x H1 => eSem X b σ H1 fun y H2 => R x y H2 :=
  h.run σ H _ en w fun v x H1 M1 e1 w1 r1 hb => hb.run σ H1 _ (en.mono e1) w1 fun u y H2 M2 e2 w2 r2 hr => k v u x y H2 M2 (e1.trans e2) w2 (r1.mono e2) r2 hr
theorem we_op {op : Operator} {r : R2} (ho : OpR X (binaryOp op) r) (h : WE X ρ M a fun x M1 => WE X ρ M1 b fun y M2 => RD X.K r x y M2 Φ) : WE X ρ M (.BinOp a op b pos) Φ := .mk fun σ H Q en w k =>
  eOf (pe_op ho pe_sem pe_sem) (bind2 h en w fun v u x y H2 M2 e w2 r1 r2 hr => hr _ v u H2 Q w2 r1 r2 (k.step e))
theorem we_cmp {op : CmpOp} {r : R2} (ho : OpR X (compareOp op) r) (hm : behindInMarks op b = false) (h : WE X ρ M a fun x M1 => WE X ρ M1 b fun y M2 => RD X.K r x y M2 Φ) : WE X ρ M (.Compare a [op] [b] pos) Φ := .mk fun σ H Q en w k =>
  eOf (pe_cmpR ho pe_sem pe_sem hm) (bind2 h en w fun v u x y H2 M2 e w2 r1 r2 hr => hr _ v u H2 Q w2 r1 r2 (k.step e))
theorem we_un {op : UnaryOp} {r : V → Hp → VK → Prop} (ho : UnR X (unaryOp op) r) (h : WE X ρ M a fun x M1 => RU X.K r x M1 Φ) : WE X ρ M (.UnaryOp op a pos) Φ := .mk fun σ H Q en w k =>
  eOf (pe_un ho pe_sem) (h.run σ H _ en w fun v x H1 M1 e1 w1 r1 hr => hr _ v H1 Q w1 r1 (k.step e1))
/-- one comparison as a test -/
theorem wt_cmp {op : CmpOp} {r : R2} {Φ : Bool → Mp → Prop} (ho : OpR X (compareOp op) r) (hm : behindInMarks op b = false) (h : WE X ρ M a fun x M1 => WE X ρ M1 b fun y M2 => RD X.K r x y M2 fun d M3 => ∃ c, d = .bl c ∧ Φ c M3) : WT X ρ M (.Compare a [op] [b] pos) Φ := .mk fun σ H Q en w k =>
  tOf (pt_cmpR ho pe_sem pe_sem hm) (bind2 h en w fun v u x y H2 M2 e w2 r1 r2 hr => hr _ v u H2 _ w2 r1 r2 fun z d H3 M3 e3 w3 r3 hz => by
    obtain ⟨c, rfl, hz⟩ := hz
    cases r3
    exact ⟨c, rfl, k c H3 M3 (e.trans e3) w3 hz⟩)
/-- a value that is a bool, as a test -/
theorem wt_val {Φ : Bool → Mp → Prop} (h : WE X ρ M e fun d M1 => ∃ c, d = .bl c ∧ Φ c M1) (he : ∀ whole, isTrue e X.env whole = (do let v ← whole; standAt e.pos; holding [v] (truthy v)) := by intro _; rfl) : WT X ρ M e Φ := .mk fun σ H Q en w k =>
  tOf (pt_val pe_sem he) (h.run σ H _ en w fun v x H1 M1 e1 w1 r1 hz => by
    obtain ⟨c, rfl, hz⟩ := hz
    cases r1
    exact ⟨c, rfl, k c H1 M1 e1 w1 hz⟩)
theorem wt_not {Φ : Bool → Mp → Prop} (h : WT X ρ M a fun c M1 => Φ (!c) M1) : WT X ρ M (.UnaryOp .Not a pos) Φ := .mk fun σ H Q en w k =>
  tOf (pt_not pt_sem) (h.run σ H _ en w fun c H1 M1 e1 w1 hz => k _ H1 M1 e1 w1 hz)
theorem ww_and1 {Φ : Bool → Mp → Prop} (h : WT X ρ M a Φ) : WW X ρ M (.BoolOp .And [a] pos) Φ := .mk fun σ H Q en w k => wOf (pw_and1 pt_sem) (h.run σ H Q en w k)
theorem ww_or1 {Φ : Bool → Mp → Prop} (h : WT X ρ M a Φ) : WW X ρ M (.BoolOp .Or [a] pos) Φ := .mk fun σ H Q en w k => wOf (pw_or1 pt_sem) (h.run σ H Q en w k)
theorem ww_and {Φ : Bool → Mp → Prop} {rest : List Expr} (h : WT X ρ M a fun c M1 => if c = true then WW X ρ M1 (.BoolOp .And (b :: rest) pos) Φ else Φ false M1) : WW X ρ M (.BoolOp .And (a :: b :: rest) pos) Φ := .mk fun σ H Q en w k =>
  wOf (pw_and pt_sem pw_sem) (h.run σ H _ en w fun c H1 M1 e1 w1 hz => by
    cases c with
    | true => exact hz.run σ H1 Q (en.mono e1) w1 (k.step e1)
    | false => exact k false H1 M1 e1 w1 hz)
theorem ww_or {Φ : Bool → Mp → Prop} {rest : List Expr} (h : WT X ρ M a fun c M1 => if c = true then Φ true M1 else WW X ρ M1 (.BoolOp .Or (b :: rest) pos) Φ) : WW X ρ M (.BoolOp .Or (a :: b :: rest) pos) Φ := .mk fun σ H Q en w k =>
  wOf (pw_or pt_sem pw_sem) (h.run σ H _ en w fun c H1 M1 e1 w1 hz => by
    cases c with
    | true => exact k true H1 M1 e1 w1 hz
    | false => exact hz.run σ H1 Q (en.mono e1) w1 (k.step e1))
theorem wt_ww {Φ : Bool → Mp → Prop} (h : WW X ρ M e Φ) : WT X ρ M e Φ := .mk fun σ H Q en w k => tOf pw_sem.pt (h.run σ H Q en w k)
/-- as values (all but the last are bools) -/
theorem we_one {op : BoolOp} (h : WE X ρ M a Φ) : WE X ρ M (.BoolOp op [a] pos) Φ := .mk fun σ H Q en w k => eOf (pe_one pe_sem) (h.run σ H Q en w k)
theorem we_and {rest : List Expr} (h : WE X ρ M a fun d M1 => ∃ c, d = .bl c ∧ if c = true then WE X ρ M1 (.BoolOp .And (b :: rest) pos) Φ else Φ (.bl false) M1) : WE X ρ M (.BoolOp .And (a :: b :: rest) pos) Φ := .mk fun σ H Q en w k =>
  eOf (pe_and pe_sem pe_sem) (h.run σ H _ en w fun v x H1 M1 e1 w1 r1 hz => by
    obtain ⟨c, rfl, hz⟩ := hz
    cases r1
    refine ⟨c, rfl, ?_⟩
    cases c with
    | true => exact hz.run σ H1 Q (en.mono e1) w1 (k.step e1)
    | false => exact k.step e1 |>.now w1 (.bl false) hz)
theorem we_or {rest : List Expr} (h : WE X ρ M a fun d M1 => ∃ c, d = .bl c ∧ if c = true then Φ (.bl true) M1 else WE X ρ M1 (.BoolOp .Or (b :: rest) pos) Φ) : WE X ρ M (.BoolOp .Or (a :: b :: rest) pos) Φ := .mk fun σ H Q en w k =>
  eOf (pe_or pe_sem pe_sem) (h.run σ H _ en w fun v x H1 M1 e1 w1 r1 hz => by
    obtain ⟨c, rfl, hz⟩ := hz
    cases r1
    refine ⟨c, rfl, ?_⟩
    cases c with
    | true => exact k.step e1 |>.now w1 (.bl true) hz
    | false => exact hz.run σ H1 Q (en.mono e1) w1 (k.step e1))
theorem we_if {c : Expr} (h : WT X ρ M c fun b' M1 => if b' = true then WE X ρ M1 a Φ else WE X ρ M1 b Φ) : WE X ρ M (.IfExp c a b pos) Φ := .mk fun σ H Q en w k =>
  eOf (pe_ifExp pt_sem pe_sem pe_sem) (h.run σ H _ en w fun c H1 M1 e1 w1 hz => by
    cases c with
    | true => exact hz.run σ H1 Q (en.mono e1) w1 (k.step e1)
    | false => exact hz.run σ H1 Q (en.mono e1) w1 (k.step e1))
variable {es : List Expr} {ΦA : List D → Mp → Prop}
theorem wa_nil (h : ΦA [] M) : WA X ρ M [] ΦA := .mk fun σ H Q en w k => aOf pa_nil (k [] [] H M Ext.refl w .nil h)
theorem wa_cons (h : WE X ρ M e fun d M1 => WA X ρ M1 es fun ds M2 => ΦA (d :: ds) M2) (hs : starEach (e :: es) X.env = (false, eval e X.env) :: starEach es X.env := by rfl) : WA X ρ M (e :: es) ΦA := .mk fun σ H Q en w k =>
  aOf (pa_cons pe_sem pa_sem hs) (h.run σ H _ en w fun v d H1 M1 e1 w1 r1 hz => hz.run σ H1 _ (en.mono e1) w1 fun vs ds H2 M2 e2 w2 r2 hy => k (v :: vs) (d :: ds) H2 M2 (e1.trans e2) w2 (.cons (r1.mono e2) r2) hy)
theorem we_tup {k1 : Nat} (h : WA X ρ M es fun ds M1 => ds.length ≤ sizeLine ∧ Φ (.tup ds) M1) : WE X ρ M (.Tuple es k1 pos) Φ := .mk fun σ H Q en w k =>
  eOf (pe_tup pa_sem) (h.run σ H _ en w fun vs ds H1 M1 e1 w1 r1 hz => ⟨by rw [r1.length]; exact hz.1, fun p hp => (k.step e1).new w1 hp (.tup (.inl upd_same) (w1.fresh hp) (r1.mono (Ext.new w1 hp))) hz.2⟩)
theorem we_lst (h : WA X ρ M es fun ds M1 => ds.length ≤ sizeLine ∧ Φ (.lst ds) M1) : WE X ρ M (.List es pos) Φ := .mk fun σ H Q en w k =>
  eOf (pe_lst pa_sem) (h.run σ H _ en w fun vs ds H1 M1 e1 w1 r1 hz => ⟨by rw [r1.length]; exact hz.1, fun p hp => (k.step e1).new w1 hp (.lst upd_same (w1.fresh hp) (r1.mono (Ext.new w1 hp))) hz.2⟩)
/-- a list that will be changed -/
theorem we_lstM (h : WA X ρ M es fun ds M1 => ds.length ≤ sizeLine ∧ ∀ p, M1 p = none → Φ (.ob p) (mset M1 p (.lst ds))) : WE X ρ M (.List es pos) Φ := .mk fun σ H Q en w k =>
  eOf (pe_lst pa_sem) (h.run σ H _ en w fun vs ds H1 M1 e1 w1 r1 hz => ⟨by rw [r1.length]; exact hz.1, fun p hp =>
    (k.step e1) _ (.ob p) _ (mset M1 p (.lst ds)) (Ext.newM w1 hp) (w1.newM hp ⟨vs, upd_same, r1.mono (Ext.newM w1 hp)⟩) (.ob p) (hz.2 p (w1.fresh hp).1)⟩)
end
end DL
namespace DL
open PySem L2
section
variable {X : Cx} {ρ : Rho} {M : Mp} {Ψ : DE} {e a b tg : Expr} {st : Stmt} {rest : List Stmt} {pos : Pos}
theorem wss_nil (h : Ψ.nx ρ M) : WSs X ρ M [] Ψ := .mk fun σ H E en w k => ssOf pss_nil (k.nx σ ρ H M Ext.refl w en h)
theorem wss_cons (h : WS X ρ M st { Ψ with nx := fun ρ' M' => WSs X ρ' M' rest Ψ }) : WSs X ρ M (st :: rest) Ψ := .mk fun σ H E en w k =>
  ssOf (pss_cons ps_sem pss_sem) (h.run σ H _ en w ⟨fun σ1 ρ1 H1 M1 e1 w1 en1 hz => hz.run σ1 H1 E en1 w1 (k.step e1), k.rt, k.bk, k.ct⟩)
theorem ws_expr (h : WE X ρ M e fun _ M1 => Ψ.nx ρ M1) (hs : swapsWith e none pos.line X.env = pure false := by rfl) : WS X ρ M (.Expr e pos) Ψ := .mk fun σ H E en w k =>
  sOf (ps_expr pe_sem hs) (h.run σ H _ en w fun v d H1 M1 e1 w1 r1 hz => k.nx σ ρ H1 M1 e1 w1 (en.mono e1) hz)
theorem ws_ret (h : WE X ρ M e Ψ.rt) : WS X ρ M (.Return (some e) pos) Ψ := .mk fun σ H E en w k => sOf (ps_ret pe_sem) (h.run σ H _ en w k.rt)
theorem ws_if {c : Expr} {sa sb : List Stmt} (h : WT X ρ M c fun b' M1 => if b' = true then WSs X ρ M1 sa Ψ else WSs X ρ M1 sb Ψ) : WS X ρ M (.If c sa sb pos) Ψ := .mk fun σ H E en w k =>
  sOf (ps_if pt_sem pss_sem pss_sem) (h.run σ H _ en w fun c H1 M1 e1 w1 hz => by
    cases c with
    | true => exact hz.run σ H1 E (en.mono e1) w1 (k.step e1)
    | false => exact hz.run σ H1 E (en.mono e1) w1 (k.step e1))
/-- other slots' data, less known -/
theorem WS.imp {Ψ' : DE} (h : WS X ρ M st Ψ') (n : ∀ ρ' M', Ψ'.nx ρ' M' → Ψ.nx ρ' M') (r : ∀ d M', Ψ'.rt d M' → Ψ.rt d M') (bk : ∀ ρ' M', Ψ'.bk ρ' M' → Ψ.bk ρ' M') (ct : ∀ ρ' M', Ψ'.ct ρ' M' → Ψ.ct ρ' M') : WS X ρ M st Ψ := .mk fun σ H E en w k =>
  h.run σ H E en w ⟨fun σ' ρ' H' M' x w' en' z => k.nx σ' ρ' H' M' x w' en' (n _ _ z), fun v d H' M' x w' r' z => k.rt v d H' M' x w' r' (r _ _ z), fun σ' ρ' H' M' x w' en' z => k.bk σ' ρ' H' M' x w' en' (bk _ _ z), fun σ' ρ' H' M' x w' en' z => k.ct σ' ρ' H' M' x w' en' (ct _ _ z)⟩
variable {Φ : Rho → Mp → Prop} {d : D} {ds : List D} {es : List Expr}
theorem wg_name (i : Nat) {x : Str} (h : Φ (ρ.set i (some d)) M) (hN : X.N.Nodup) (hi : X.N[i]? = some x := by rfl) (hx : Loc X.env.scope x := by first | exact Or.inl rfl | exact Or.inr rfl)
    (hf : X.fn x = true ∨ X.env.scope.names.lookup x = some .local := by first | exact .inl rfl | exact .inr rfl) : WG X (.Name x pos) d ρ M Φ := .mk fun σ H v Q en w r k =>
  gOf (pg_name hN hi hx hf) (k _ _ H M Ext.refl w (en.set r i) h)
theorem wgs_nil (h : ds = [] ∧ Φ ρ M) : WGs X [] ds ρ M Φ := .mk fun σ H vs Q en w r k => by
  obtain ⟨rfl, h⟩ := h
  cases r
  exact gsOf pgs_nil ⟨rfl, k _ _ H M Ext.refl w en h⟩
theorem wgs_cons {t : Expr} (h : WG X t d ρ M fun ρ1 M1 => WGs X es ds ρ1 M1 Φ) (hs : (assignEach (t :: es) X.env).map (·.2) = assign t X.env :: (assignEach es X.env).map (·.2) := by rfl) : WGs X (t :: es) (d :: ds) ρ M Φ := .mk fun σ H vs Q en w r k => by
  cases r with
  | cons r1 r2 =>
    exact gsOf (pgs_cons pg_sem pgs_sem hs) ⟨_, _, rfl, h.run σ H _ _ en w r1 fun σ1 ρ1 H1 M1 e1 w1 en1 hz => hz.run σ1 H1 _ Q en1 w1 (r2.mono e1) (k.step e1)⟩
theorem Rep.asTup {K : PySem.W.Frag} {M : Mp} {Z : Zn} {H : Hp} {v : V} {ds : List D} (r : Rep K M Z H v (.tup ds)) : ∃ a vs, v = .ref a ∧ SqT K H a vs ∧ Reps K M Z H vs ds := by
  cases r with
  | tup h m r => exact ⟨_, _, rfl, .inl h, r⟩
  | tupK h r => exact ⟨_, _, rfl, .inr h, r⟩
/-- what can be read as a list -/
def LstOf (M : Mp) : D → List D → Prop
  | .lst xs, ds => ds = xs
  | .rol xs, ds => ds = xs
  | .ob a, ds => M a = some (.lst ds)
  | _, _ => False
theorem Rep.asLst {K : PySem.W.Frag} {M : Mp} {Z : Zn} {H : Hp} {v : V} {d : D} {ds : List D} (w : Wd K M Z H) (r : Rep K M Z H v d) (l : LstOf M d ds) : ∃ a vs, v = .ref a ∧ SqL K H a vs ∧ Reps K M Z H vs ds := by
  cases r with
  | lst h m r => cases l; exact ⟨_, _, rfl, .inl (.inl h), r⟩
  | rol h m r => cases l; exact ⟨_, _, rfl, .inl h, r⟩
  | rolK h r => cases l; exact ⟨_, _, rfl, .inr h, r⟩
  | ob a =>
    obtain ⟨vs, h, r⟩ := w.1 a _ l
    exact ⟨_, _, rfl, .inl (.inl h), r⟩
  | _ => cases l
theorem wg_tup {k1 n : Nat} (h : d = .tup ds ∧ ds.length = n ∧ WGs X es ds ρ M Φ) (hc : X.calm = true := by rfl) (hn : (assignEach es X.env).length = n := by rfl) (hst : (assignEach es X.env).findIdx? (·.1) = none := by rfl) : WG X (.Tuple es k1 pos) d ρ M Φ := .mk fun σ H v Q en w r k => by
  obtain ⟨rfl, hl, h⟩ := h
  obtain ⟨a, vs, rfl, hq, rs⟩ := r.asTup
  exact gOf (pg_tup hc pgs_sem hn hst) ⟨a, vs, rfl, hq, by rw [rs.length]; exact hl, h.run σ H vs Q en w rs k⟩
theorem ws_asg (h : WE X ρ M e fun d M1 => WG X tg d ρ M1 Ψ.nx) (hs : swapsWithSole [tg] e pos.line X.env = pure false := by rfl) (hw : swappedStores [tg] e X.env = pure none := by rfl)
    (h1 : (assignEach [tg] X.env).map (·.2) = [assign tg X.env] := by rfl) : WS X ρ M (.Assign [tg] e pos) Ψ := .mk fun σ H E en w k =>
  sOf (ps_asg pe_sem pg_sem hs hw h1) (h.run σ H _ en w fun v d H1 M1 e1 w1 r1 hz => hz.run σ H1 v _ (en.mono e1) w1 r1 (k.nx.step e1))
theorem ws_set (i : Nat) {x : Str} {pos' : Pos} (hN : X.N.Nodup) (h : WE X ρ M e fun d M1 => Ψ.nx (ρ.set i (some d)) M1) (hi : X.N[i]? = some x := by rfl) (hx : Loc X.env.scope x := by first | exact Or.inl rfl | exact Or.inr rfl)
    (hs : swapsWith e (some (.Name x pos')) pos.line X.env = pure false := by rfl) (hf : X.fn x = true ∨ X.env.scope.names.lookup x = some .local := by first | exact .inl rfl | exact .inr rfl) : WS X ρ M (.Assign [.Name x pos'] e pos) Ψ := .mk fun σ H E en w k =>
  sOf (ps_set hN hi hx pe_sem hs hf) (h.run σ H _ en w fun v d H1 M1 e1 w1 r1 hz => k.nx _ _ H1 M1 e1 w1 ((en.mono e1).set r1 i) hz)
/-- a, b = x, y -/
theorem ws_par (i j : Nat) {x y : Str} {px py pt : Pos} {kt k2 : Nat} {pt2 : Pos} (hN : X.N.Nodup) (h : WA X ρ M [a, b] fun ds M1 => ∃ c d, ds = [c, d] ∧ Ψ.nx ((ρ.set i (some c)).set j (some d)) M1) (hi : X.N[i]? = some x := by rfl) (hj : X.N[j]? = some y := by rfl) (hij : i ≠ j := by decide)
    (hx : X.env.scope.names.lookup x = some .local := by rfl) (hy : X.env.scope.names.lookup y = some .local := by rfl) (hw : swappedStores [.Tuple [.Name x px, .Name y py] kt pt] (.Tuple [a, b] k2 pt2) X.env = pure (some [x, y]) := by rfl)
    (hc : X.calm = true := by rfl) (hs : swapsWithSole [.Tuple [.Name x px, .Name y py] kt pt] (.Tuple [a, b] k2 pt2) pos.line X.env = pure false := by rfl) : WS X ρ M (.Assign [.Tuple [.Name x px, .Name y py] kt pt] (.Tuple [a, b] k2 pt2) pos) Ψ := .mk fun σ H E en w k =>
  sOf (ps_par hc hN hi hj hij hx hy pa_sem hw hs) (h.run σ H _ en w fun vs ds H1 M1 e1 w1 r1 hz => by
    obtain ⟨c, d, rfl, hz⟩ := hz
    cases r1 with
    | cons r1 r2 =>
      cases r2 with
      | cons r2 r3 =>
        cases r3
        exact ⟨_, _, rfl, k.nx _ _ H1 M1 e1 w1 (((en.mono e1).set r1 i).set r2 j) hz⟩)
/-- x op= e -/
theorem ws_aug (i : Nat) {x : Str} {op : Operator} {ti : TIp} {pos' : Pos} {c : D} (ho : PIp X op ti) (hr : ρ[i]? = some (some c)) (hN : X.N.Nodup) (h : WE X ρ M e fun d M1 => RD X.K ti c d M1 fun z M2 => Ψ.nx (ρ.set i (some z)) M2) (hi : X.N[i]? = some x := by rfl) (hx : Loc X.env.scope x := by first | exact Or.inl rfl | exact Or.inr rfl)
    (hf : X.fn x = true ∨ X.env.scope.names.lookup x = some .local := by first | exact .inl rfl | exact .inr rfl) : WS X ρ M (.AugAssign (.Name x pos') op e pos) Ψ := .mk fun σ H E en w k => by
  obtain ⟨v, e1, r⟩ := en.get hr
  exact sOf (ps_aug hN hi hx pe_sem ho hf) ⟨v, e1, h.run σ H _ en w fun u d H1 M1 e1 w1 r1 hz => hz _ v u H1 _ w1 (r.mono e1) r1 fun z dz H2 M2 e2 w2 r2 hy => k.nx _ _ H2 M2 (e1.trans e2) w2 ((en.mono (e1.trans e2)).set r2 i) hy⟩
theorem ite_dec {p A B : Prop} [Decidable p] (h1 : p → A) (h2 : ¬ p → B) : if (decide p) = true then A else B := by
  by_cases h : p
  · rw [decide_eq_true h]; exact h1 h
  · rw [decide_eq_false h]; exact h2 h
/-- the walk J yields these data, whatever comes besides -/
def Sq (K : PySem.W.Frag) (M1 : Mp) (Z1 : Zn) (H1 : Hp) (J : It) (items : List D) : Prop := ∀ i M Z H, ExI M1 Z1 H1 M Z H → Wd K M Z H →
  (i = items.length → J.stop i H) ∧ ∀ d, items[i]? = some d → J.go i H ∧ ∀ x H', J.yld i H x H' → Ext M Z H M H' ∧ Wd K M Z H' ∧ Rep K M Z H' x d
structure WI (X : Cx) (ρ : Rho) (M : Mp) (tg iter : Expr) (Φ : List D → Mp → Prop) : Prop where
  run : ∀ {Z : Zn} σ H (R : It → Hp → Prop), EnvR X.K M Z H σ ρ → Wd X.K M Z H →
  (∀ J items H1 M1, Ext M Z H M1 H1 → Wd X.K M1 Z H1 → Sq X.K M1 Z H1 J items → Φ items M1 → R J H1) → iSem X tg iter σ H R
theorem iOf {iter : Expr} {wi : TI} {σ : L2.St} {H : Hp} {R : It → Hp → Prop} (h : PI X tg iter wi) (q : wi σ H R) : iSem X tg iter σ H R := fun pins s I => h.run pins s σ H R I q
theorem sq_tup {K : PySem.W.Frag} {M1 : Mp} {Z1 : Zn} {H1 : Hp} {a : Addr} {vs : List V} {ds : List D} (hq : ∀ M Z H, ExI M1 Z1 H1 M Z H → SqT K H a vs) (rs : Reps K M1 Z1 H1 vs ds) : Sq K M1 Z1 H1 (Itt K a) ds := fun i M Z H e w => by
  refine ⟨fun hi => ⟨vs, hq M Z H e, by rw [rs.length, hi]; exact Nat.le_refl _⟩, fun d hd => ?_⟩
  obtain ⟨v, hv, r⟩ := rs.get hd
  refine ⟨⟨vs, v, hq M Z H e, hv⟩, fun x H' y => ?_⟩
  obtain ⟨rfl, y⟩ := y
  have := y vs (hq M Z _ e)
  rw [hv] at this
  cases this
  exact ⟨Ext.refl, w, r.monoI e⟩
/-- a list, a tuple that stays -/
theorem Rep.tupKeep {K : PySem.W.Frag} {M : Mp} {Z : Zn} {H : Hp} {v : V} {ds : List D} (r : Rep K M Z H v (.tup ds)) : ∃ a vs, v = .ref a ∧ (∀ M' Z' H', ExI M Z H M' Z' H' → SqT K H' a vs) ∧ Reps K M Z H vs ds := by
  cases r with
  | tup h m r => exact ⟨_, _, rfl, fun M' Z' H' e => .inl (e.rd h m), r⟩
  | tupK h r => exact ⟨_, _, rfl, fun _ _ _ _ => .inr h, r⟩
theorem Rep.lstKeep {K : PySem.W.Frag} {M : Mp} {Z : Zn} {H : Hp} {v : V} {d : D} {ds : List D} (r : Rep K M Z H v d) (hd : d = .lst ds ∨ d = .rol ds) : ∃ a vs, v = .ref a ∧ (∀ M' Z' H', ExI M Z H M' Z' H' → SqL K H' a vs) ∧ Reps K M Z H vs ds := by
  rcases hd with rfl | rfl
  · cases r with
    | lst h m r => exact ⟨_, _, rfl, fun M' Z' H' e => .inl (.inl (e _ _ h m).1), r⟩
  · cases r with
    | rol h m r => exact ⟨_, _, rfl, fun M' Z' H' e => .inl (e.rd h m), r⟩
    | rolK h r => exact ⟨_, _, rfl, fun _ _ _ _ => .inr h, r⟩
theorem wi_list {iter : Expr} {Φ : List D → Mp → Prop} (h : WE X ρ M iter fun d M1 => ∃ ds, (d = .lst ds ∨ d = .rol ds) ∧ Φ ds M1) : WI X ρ M tg iter Φ := .mk fun σ H R en w k =>
  iOf (pi_list pe_sem) (h.run σ H _ en w fun v d H1 M1 e1 w1 r1 hz => by
    obtain ⟨ds, hd, hz⟩ := hz
    obtain ⟨a, vs, rfl, hq, rs⟩ := r1.lstKeep hd
    refine ⟨a, rfl, ⟨vs, hq _ _ _ ExI.refl⟩, k _ ds H1 M1 e1 w1 ?_ hz⟩
    intro i M Z H e w
    refine ⟨fun hi => ⟨vs, hq M Z H e, by rw [rs.length, hi]; exact Nat.le_refl _⟩, fun d hd => ?_⟩
    obtain ⟨v, hv, r⟩ := rs.get hd
    refine ⟨⟨vs, v, hq M Z H e, hv⟩, fun x H' y => ?_⟩
    obtain ⟨rfl, y⟩ := y
    have := y vs (hq M Z _ e)
    rw [hv] at this
    cases this
    exact ⟨Ext.refl, w, r.monoI e⟩)
theorem wi_tup {iter : Expr} {Φ : List D → Mp → Prop} (h : WE X ρ M iter fun d M1 => ∃ ds, d = .tup ds ∧ Φ ds M1) : WI X ρ M tg iter Φ := .mk fun σ H R en w k =>
  iOf (pi_tup pe_sem) (h.run σ H _ en w fun v d H1 M1 e1 w1 r1 hz => by
    obtain ⟨ds, rfl, hz⟩ := hz
    obtain ⟨a, vs, rfl, hq, rs⟩ := r1.tupKeep
    exact ⟨a, rfl, ⟨vs, hq _ _ _ ExI.refl⟩, k _ ds H1 M1 e1 w1 (sq_tup hq rs) hz⟩)
/-- lo, lo + 1, .. -/
def rngD (lo : Int) (n : Nat) : List D := (List.range n).map fun (i : Nat) => D.int (lo + (i : Int))
theorem rngD_len (lo : Int) (n : Nat) : (rngD lo n).length = n := by simp [rngD]
theorem rngD_get {lo : Int} {n i : Nat} {d : D} (h : (rngD lo n)[i]? = some d) : i < n ∧ d = .int (lo + (i : Int)) := by
  have hi : i < (rngD lo n).length := (List.getElem?_eq_some_iff.mp h).1
  rw [rngD_len] at hi
  refine ⟨hi, ?_⟩
  unfold rngD at h
  rw [List.getElem?_map, List.getElem?_range hi] at h
  exact (Option.some.inj h).symm
theorem sq_range {K : PySem.W.Frag} {M1 : Mp} {Z1 : Zn} {H1 : Hp} (lo : Int) (n : Nat) : Sq K M1 Z1 H1 (Itr lo n) (rngD lo n) := fun i M Z H e w => by
  refine ⟨fun hi => by rw [hi, rngD_len]; exact Nat.le_refl _, fun d hd => ?_⟩
  obtain ⟨h1, rfl⟩ := rngD_get hd
  refine ⟨h1, fun x H' y => ?_⟩
  obtain ⟨rfl, rfl⟩ := y
  exact ⟨Ext.refl, w, .int _⟩
theorem wi_range1 {p : Pos} {Φ : List D → Mp → Prop} (hm : X.mg "range" = none) (h : WA X ρ M [a] fun ds M1 => ∃ j : Int, ds = [.int j] ∧ -(2 ^ 62) ≤ j ∧ j < 2 ^ 62 ∧ Φ (rngD 0 j.toNat) M1) (hg : Gl X "range" := by rfl) (hs : starEach [a] X.env = [(false, eval a X.env)] := by rfl) : WI X ρ M tg (.Call (.Name "range" p) [a] [] pos) Φ := .mk fun σ H R en w k =>
  iOf (pi_range1 hg hm pa_sem hs) (h.run σ H _ en w fun vs ds H1 M1 e1 w1 r1 hz => by
    obtain ⟨j, rfl, h1, h2, hz⟩ := hz
    cases r1 with
    | cons r1 r2 =>
      cases r1
      cases r2
      exact ⟨j, rfl, h1, h2, k _ _ H1 M1 e1 w1 (sq_range 0 _) hz⟩)
theorem ws_for {body : List Stmt} {iter : Expr} (hp : PassesOwn (model X.prog X.w) X.A X.env X.xe)
    (h : WI X ρ M tg iter fun ds M1 => ∃ I : Nat → Rho → Mp → Prop, I 0 ρ M1 ∧
      (∀ i x ρ' M', ds[i]? = some x → I i ρ' M' → WG X tg x ρ' M' fun ρ2 M2 => WSs X ρ2 M2 body { nx := I (i + 1), ct := I (i + 1), bk := Ψ.nx, rt := Ψ.rt }) ∧ ∀ ρ' M', I ds.length ρ' M' → Ψ.nx ρ' M')
    (hc : X.calm = true := by rfl) (hs : ∀ x, foldedSetIterable iter X.env x = pure x := by intro _; rfl) : WS X ρ M (.For tg iter body [] pos) Ψ := .mk fun {Z} σ H E en w k =>
  sOf (ps_for hp hc pi_sem pg_sem pss_sem hs) (h.run σ H _ en w fun J ds H1 M1 e1 w1 sq hz => by
    obtain ⟨I, h0, turn, done⟩ := hz
    refine ⟨fun i m σ' H' => m = ds.length - i ∧ i ≤ ds.length ∧ ∃ ρ' M', Ext M1 Z H1 M' H' ∧ Wd X.K M' Z H' ∧ EnvR X.K M' Z H' σ' ρ' ∧ I i ρ' M', ⟨ds.length, by simp, Nat.zero_le _, ρ, M1, Ext.refl, w1, en.mono e1, h0⟩, ?_⟩
    rintro i m σ' H' ⟨rfl, hi, ρ', M', x', w', en', inv⟩
    obtain ⟨s1, s2⟩ := sq i M' Z H' x'.i w'
    by_cases hlt : i < ds.length
    · have hd : ds[i]? = some ds[i] := List.getElem?_eq_getElem hlt
      obtain ⟨go, yl⟩ := s2 _ hd
      refine .inr ⟨go, fun σ2 H2 => ∃ ρ2 M2, Ext M1 Z H1 M2 H2 ∧ Wd X.K M2 Z H2 ∧ EnvR X.K M2 Z H2 σ2 ρ2 ∧ I (i + 1) ρ2 M2, fun σ2 H2 ⟨ρ2, M2, x2, w2, en2, i2⟩ => ⟨ds.length - (i + 1), by omega, rfl, hlt, ρ2, M2, x2, w2, en2, i2⟩, fun v H2 y => ?_⟩
      obtain ⟨x2, w2, r2⟩ := yl v H2 y
      have x12 := x'.trans x2
      refine (turn i _ ρ' M' hd inv).run σ' H2 v _ (en'.mono x2) w2 r2 fun σ3 ρ3 H3 M3 x3 w3 en3 hb => ?_
      have x13 := x12.trans x3
      have ks := (k.step e1).step x13
      exact hb.run σ3 H3 _ en3 w3 ⟨fun σ4 ρ4 H4 M4 x4 w4 en4 z => ⟨ρ4, M4, x13.trans x4, w4, en4, z⟩, ks.rt, ks.nx, fun σ4 ρ4 H4 M4 x4 w4 en4 z => ⟨ρ4, M4, x13.trans x4, w4, en4, z⟩⟩
    · have e : i = ds.length := by omega
      exact .inl ⟨s1 e, (k.step e1).nx σ' ρ' H' M' x' w' en' (done _ _ (e ▸ inv))⟩)
theorem ws_while {c : Expr} {body : List Stmt} (hp : PassesOwn (model X.prog X.w) X.A X.env X.xe) (I : Nat → Rho → Mp → Prop) (n : Nat) (h0 : I n ρ M)
    (turn : ∀ n ρ' M', I n ρ' M' → WT X ρ' M' c fun b M1 => if b = true then WSs X ρ' M1 body { nx := fun ρ2 M2 => ∃ m, m < n ∧ I m ρ2 M2, ct := fun ρ2 M2 => ∃ m, m < n ∧ I m ρ2 M2, bk := Ψ.nx, rt := Ψ.rt } else Ψ.nx ρ' M1) : WS X ρ M (.While c body [] pos) Ψ := .mk fun {Z} σ H E en w k => by
  refine sOf (ps_while hp pt_sem pss_sem) ⟨fun m σ' H' => ∃ ρ' M', Ext M Z H M' H' ∧ Wd X.K M' Z H' ∧ EnvR X.K M' Z H' σ' ρ' ∧ I m ρ' M', ⟨n, ρ, M, Ext.refl, w, en, h0⟩, ?_⟩
  rintro m σ' H' ⟨ρ', M', x', w', en', inv⟩
  refine (turn m ρ' M' inv).run σ' H' _ en' w' fun b H1 M1 x1 w1 hz => ?_
  have x01 := x'.trans x1
  have ks := k.step x01
  cases b with
  | true =>
    refine ⟨fun σ2 H2 => ∃ ρ2 M2, Ext M Z H M2 H2 ∧ Wd X.K M2 Z H2 ∧ EnvR X.K M2 Z H2 σ2 ρ2 ∧ ∃ j, j < m ∧ I j ρ2 M2, fun σ2 H2 ⟨ρ2, M2, x2, w2, en2, j, hj, i2⟩ => ⟨j, hj, ρ2, M2, x2, w2, en2, i2⟩, ?_⟩
    exact hz.run σ' H1 _ (en'.mono x1) w1 ⟨fun σ4 ρ4 H4 M4 x4 w4 en4 z => ⟨ρ4, M4, x01.trans x4, w4, en4, z⟩, ks.rt, ks.nx, fun σ4 ρ4 H4 M4 x4 w4 en4 z => ⟨ρ4, M4, x01.trans x4, w4, en4, z⟩⟩
  | false => exact ks.nx σ' ρ' H1 M1 Ext.refl w1 (en'.mono x1) hz
end
end DL
namespace DL
open PySem L2
def hid (Z : Zn) (p : Addr) : Zn := fun b => Z b ∨ b = p
section
variable {K : PySem.W.Frag} {M M' : Mp} {Z : Zn} {H H' : Hp} {p : Addr} {o : HO}
theorem hide_x (h : H p = none) : ExI M Z H M (hid Z p) (upd H p o) := fun b u q m => by
  have n : b ≠ p := ne_of_none q h
  exact ⟨by rw [upd_ne n]; exact q, m.1, fun z => z.elim m.2 n⟩
theorem hide_w (w : Wd K M Z H) (h : H p = none) : Wd K M (hid Z p) (upd H p o) := ⟨fun a u e => by
  obtain ⟨z, q⟩ := (w.1 a u e).there
  exact (w.1 a u e).stepI (hide_x h) (upd_ne (ne_of_none q h)), fun b z => by
  rcases z with z | rfl
  · obtain ⟨m, u, q⟩ := w.2 b z
    exact ⟨m, u, by rw [upd_ne (ne_of_none q h)]; exact q⟩
  · exact ⟨(w.fresh h).1, o, upd_same⟩⟩
/-- the hidden object changed -/
theorem hidput_x : ExI M (hid Z p) H M (hid Z p) (upd H p o) := fun b u q m => ⟨by rw [upd_ne (fun e => m.2 (.inr e))]; exact q, m⟩
theorem hidput_w (w : Wd K M (hid Z p) H) : Wd K M (hid Z p) (upd H p o) := ⟨fun a u e => by
  have n : a ≠ p := fun z => by have := (w.2 p (.inr rfl)).1; rw [z, this] at e; cases e
  exact (w.1 a u e).stepI hidput_x (upd_ne n), fun b z => by
  obtain ⟨m, u, q⟩ := w.2 b z
  by_cases hb : b = p
  · exact ⟨m, o, by rw [hb]; exact upd_same⟩
  · exact ⟨m, u, by rw [upd_ne hb]; exact q⟩⟩
/-- .. shown -/
theorem show_x : ExI M (hid Z p) H M Z H := fun b u q m => ⟨q, m.1, fun z => m.2 (.inl z)⟩
theorem show_w (w : Wd K M (hid Z p) H) : Wd K M Z H := ⟨fun a u e => (w.1 a u e).stepI show_x rfl, fun b z => w.2 b (.inl z)⟩
end
def wipeR (ρ : Rho) : List Nat → Rho
  | [] => ρ
  | v :: vs => (wipeR ρ vs).set v none
theorem env_wipe {K : PySem.W.Frag} {M : Mp} {Z : Zn} {H : Hp} {σ : L2.St} {ρ : Rho} (en : EnvR K M Z H σ ρ) : ∀ vs : List Nat, EnvR K M Z H (wipe σ vs) (wipeR ρ vs)
  | [] => en
  | v :: vs => EnvR.unset v (env_wipe en vs)
theorem wipe_get (σ : L2.St) (j : Nat) : ∀ vs : List Nat, (wipe σ vs)[j]? = if j ∈ vs then (σ[j]?).map (fun _ => none) else σ[j]?
  | [] => by simp [wipe]
  | v :: vs => by
    unfold wipe
    have ih := wipe_get σ j vs
    by_cases hj : v = j
    · subst hj
      rw [if_pos List.mem_cons_self]
      by_cases hl : v < (wipe σ vs).length
      · rw [List.getElem?_set_self hl]
        rw [wipe_length] at hl
        rw [List.getElem?_eq_getElem hl]; rfl
      · rw [List.getElem?_eq_none (by simpa using hl)]
        rw [wipe_length] at hl
        rw [List.getElem?_eq_none (by omega)]; rfl
    · rw [List.getElem?_set_ne hj, ih]
      by_cases hm : j ∈ vs
      · rw [if_pos hm, if_pos (List.mem_cons_of_mem _ hm)]
      · rw [if_neg hm, if_neg (by simp only [List.mem_cons, not_or]; exact ⟨fun e => hj e.symm, hm⟩)]
theorem wipe_ext {σ τ : L2.St} {vs : List Nat} (h : ∀ j, j ∉ vs → σ[j]? = τ[j]?) (hl : σ.length = τ.length) : wipe σ vs = wipe τ vs := by
  apply List.ext_getElem?
  intro j
  rw [wipe_get, wipe_get]
  by_cases hj : j ∈ vs
  · rw [if_pos hj, if_pos hj]
    by_cases hs : j < σ.length
    · rw [List.getElem?_eq_getElem hs, List.getElem?_eq_getElem (by omega)]; rfl
    · rw [List.getElem?_eq_none (by omega), List.getElem?_eq_none (by omega)]
  · rw [if_neg hj, if_neg hj]; exact h j hj
theorem wipe_twice (σ : L2.St) (vs : List Nat) : wipe (wipe σ vs) vs = wipe σ vs := wipe_ext (fun j hj => by rw [wipe_get, if_neg hj]) (wipe_length _ _)
theorem wipe_set {σ : L2.St} {vs : List Nat} {i : Nat} {o : Option V} (hi : i ∈ vs) : wipe (σ.set i o) vs = wipe σ vs := wipe_ext (fun j hj => List.getElem?_set_ne (fun (e : i = j) => hj (e ▸ hi))) (List.length_set ..)
def GT (K : PySem.W.Frag) (g : TG) (vs : List Nat) (G : D → Rho → (Rho → Prop) → Prop) : Prop := ∀ M Z H v d σ ρ (R : Rho → Prop) (Q : L2.St → Hp → Prop), EnvR K M Z H (wipe σ vs) ρ → Rep K M Z H v d → G d ρ R →
  (∀ σ2 ρ2, EnvR K M Z H σ2 ρ2 → wipe σ2 vs = wipe σ vs → R ρ2 → Q σ2 H) → g v (wipe σ vs) H Q
theorem gt_name {K : PySem.W.Frag} {vs : List Nat} {i : Nat} (hi : i ∈ vs) : GT K (gName i) vs (fun d ρ R => R (ρ.set i (some d))) := fun M Z H v d σ ρ R Q en r g k =>
  k _ _ (en.set r i) (by rw [wipe_set hi, wipe_twice]) g
theorem gt_two {K : PySem.W.Frag} {vs : List Nat} {i j : Nat} (hi : i ∈ vs) (hj : j ∈ vs) : GT K (gTup K 2 (gCons (gName i) (gCons (gName j) gNil))) vs (fun d ρ R => ∃ a b, d = .tup [a, b] ∧ R ((ρ.set i (some a)).set j (some b))) := fun M Z H v d σ ρ R Q en r g k => by
  obtain ⟨a, b, rfl, g⟩ := g
  obtain ⟨p, vs, rfl, hq, rs⟩ := r.asTup
  cases rs with
  | cons r1 r2 =>
    cases r2 with
    | cons r2 r3 =>
      cases r3
      exact ⟨p, _, rfl, hq, rfl, _, _, rfl, _, _, rfl, rfl, k _ _ ((en.set r1 i).set r2 j) (by rw [wipe_set hj, wipe_set hi, wipe_twice]) g⟩
section
variable {X : Cx} {ρ : Rho} {M : Mp} {elt tg iter : Expr} {pos : Pos} {scope : Scope}
/-- within the block -/
def eBlk (X : Cx) (scope : Scope) (e : Expr) : TE := fun σ H Q => ∀ s H0 C cl fp, eSem (X.blk s H0 scope (compEnvC scope cl C X.env) fp) e σ H Q
def tBlk (X : Cx) (scope : Scope) (e : Expr) : TT := fun σ H Q => ∀ s H0 C cl fp, tSem (X.blk s H0 scope (compEnvC scope cl C X.env) fp) e σ H Q
def WEb (X : Cx) (scope : Scope) (ρ : Rho) (M : Mp) (e : Expr) (Φ : D → Mp → Prop) : Prop := ∀ s H0 C cl fp, WE (X.blk s H0 scope (compEnvC scope cl C X.env) fp) ρ M e Φ
def WTb (X : Cx) (scope : Scope) (ρ : Rho) (M : Mp) (e : Expr) (Φ : Bool → Mp → Prop) : Prop := ∀ s H0 C cl fp, WT (X.blk s H0 scope (compEnvC scope cl C X.env) fp) ρ M e Φ
/-- the tests -/
def TK (X : Cx) (tt : TT) (T : Rho → Mp → (Bool → Mp → Prop) → Prop) : Prop := ∀ {Z : Zn} M H σ ρ (Θ : Bool → Mp → Prop) (Q : Bool → Hp → Prop), EnvR X.K M Z H σ ρ → Wd X.K M Z H → T ρ M Θ → KT X.K M Z H Θ Q → tt σ H Q
theorem tk_nil : TK X tYes (fun _ M Θ => Θ true M) := fun M H σ ρ Θ Q en w h k => k.now w h
theorem tk_one {c : Expr} : TK X (tBlk X scope c) (fun ρ M Θ => WTb X scope ρ M c Θ) := fun M H σ ρ Θ Q en w h k s H0 C cl fp => (h s H0 C cl fp).run σ H Q en w k
/-- what a comprehension asks: I by the turn, what is gathered, the mutable objects -/
def LcI (X : Cx) (scope : Scope) (ρ : Rho) (vs : List Nat) (G : D → Rho → (Rho → Prop) → Prop) (T : Rho → Mp → (Bool → Mp → Prop) → Prop) (elt : Expr) (Φ : D → Mp → Prop) (ds : List D) (M1 : Mp) : Prop :=
  ds.length ≤ sizeLine ∧ ∃ I : Nat → List D → Mp → Prop, I 0 [] M1 ∧
    (∀ i x acc M', ds[i]? = some x → I i acc M' → G x (wipeR ρ vs) fun ρ2 => T ρ2 M' fun b M2 => if b = true then WEb X scope ρ2 M2 elt fun y M3 => I (i + 1) (acc ++ [y]) M3 else I (i + 1) acc M2) ∧
    ∀ acc M', I ds.length acc M' → Φ (.lst acc) M'
theorem lc_run {g : TG} {tt : TT} {vs : List Nat} {G : D → Rho → (Rho → Prop) → Prop} {T : Rho → Mp → (Bool → Mp → Prop) → Prop} {Φ : D → Mp → Prop} (hg : GT X.K g vs G) (ht : TK X tt T)
    (h : WI X ρ M tg iter (LcI X scope ρ vs G T elt Φ)) {Z : Zn} {σ : L2.St} {H : Hp} {Q : VK} (en : EnvR X.K M Z H σ ρ) (w : Wd X.K M Z H) (k : KE X.K M Z H Φ Q) : tLc (iSem X tg iter) g tt (eBlk X scope elt) vs σ H Q :=
  h.run σ H _ en w fun J ds H1 M1 e1 w1 sq hz => by
    obtain ⟨hn, I, h0, turn, done⟩ := hz
    intro Dd hD
    have zne : ∀ b, Z b → b ≠ Dd := w1.zne hD
    refine ⟨fun i m H' => m = ds.length - i ∧ i ≤ ds.length ∧ ∃ accV acc M', ExI M1 Z H1 M' (hid Z Dd) H' ∧ (∀ b, Z b → H' b = H1 b ∧ M' b = M1 b) ∧ Wd X.K M' (hid Z Dd) H' ∧ H' Dd = some (.lst accV) ∧ Reps X.K M' (hid Z Dd) H' accV acc ∧ acc.length ≤ i ∧ I i acc M',
      ⟨ds.length, by simp, Nat.zero_le _, [], [], M1, hide_x hD, fun b z => ⟨upd_ne (zne b z), rfl⟩, hide_w w1 hD, upd_same, .nil, Nat.zero_le _, h0⟩, ?_⟩
    rintro i m H' ⟨rfl, hi, accV, acc, M', x', zk, w', hA, rA, la, inv⟩
    obtain ⟨s1, s2⟩ := sq i M' (hid Z Dd) H' x' w'
    by_cases hlt : i < ds.length
    · have hd : ds[i]? = some ds[i] := List.getElem?_eq_getElem hlt
      obtain ⟨go, yl⟩ := s2 _ hd
      refine .inr ⟨go, fun H2 => ∃ accV acc M2, ExI M1 Z H1 M2 (hid Z Dd) H2 ∧ (∀ b, Z b → H2 b = H1 b ∧ M2 b = M1 b) ∧ Wd X.K M2 (hid Z Dd) H2 ∧ H2 Dd = some (.lst accV) ∧ Reps X.K M2 (hid Z Dd) H2 accV acc ∧ acc.length ≤ i + 1 ∧ I (i + 1) acc M2,
        fun H2 ⟨aV, a, M2, x2, z2, w2, hA2, rA2, l2, i2⟩ => ⟨ds.length - (i + 1), by omega, rfl, hlt, aV, a, M2, x2, z2, w2, hA2, rA2, l2, i2⟩, fun v H2 y => ?_⟩
      obtain ⟨x2, w2, r2⟩ := yl v H2 y
      have en2 : EnvR X.K M' (hid Z Dd) H2 (wipe σ vs) (wipeR ρ vs) := env_wipe ((en.mono e1).monoI (x'.trans x2.i)) vs
      refine hg M' (hid Z Dd) H2 v _ σ _ _ _ en2 r2 (turn i _ acc M' hd inv) fun σ3 ρ3 en3 wp3 hT => ⟨wp3, ?_⟩
      refine ht M' H2 σ3 ρ3 _ _ en3 w2 hT fun b H3 M3 x3 w3 hb => ?_
      have x23 : Ext M' (hid Z Dd) H' M3 H3 := x2.trans x3
      have zk3 : ∀ b, Z b → H3 b = H1 b ∧ M3 b = M1 b := fun b z => ⟨(x23.2 b (.inl z)).1.trans (zk b z).1, (x23.2 b (.inl z)).2.trans (zk b z).2⟩
      cases b with
      | false => exact ⟨accV, acc, M3, x'.trans x23.i, zk3, w3, (x23.2 Dd (.inr rfl)).1.trans hA, rA.mono x23, Nat.le_succ_of_le la, hb⟩
      | true =>
        intro s H0 C cl fp
        refine (hb s H0 C cl fp).run σ3 H3 _ (en3.mono x3) w3 fun yv yd H4 M4 x4 w4 r4 hI => ?_
        have x24 := x23.trans x4
        have hA4 : H4 Dd = some (.lst accV) := (x24.2 Dd (.inr rfl)).1.trans hA
        refine ⟨accV, hA4, by rw [rA.length]; omega, accV ++ [yv], acc ++ [yd], M4, (x'.trans x24.i).trans hidput_x, fun b z => ⟨(upd_ne (zne b z)).trans ((x4.2 b (.inl z)).1.trans (zk3 b z).1), (x4.2 b (.inl z)).2.trans (zk3 b z).2⟩, hidput_w w4, upd_same, ?_, by rw [List.length_append, List.length_singleton]; omega, hI⟩
        exact (((rA.mono x24).append (.cons r4 .nil))).monoI hidput_x
    · have e : i = ds.length := by omega
      refine .inl ⟨s1 e, ?_⟩
      refine k _ (.lst acc) H' M' (e1.trans ⟨x'.trans show_x, zk⟩) (show_w w') (.lst hA ⟨(w'.2 Dd (.inr rfl)).1, fun z => zne Dd z rfl⟩ (rA.monoI show_x)) (done _ _ (e ▸ inv))
/-- [elt for x in iter] -/
theorem we_lc {own : List (Str × Nat)} {g : TG} {tt : TT} {ifs : List Expr} {G : D → Rho → (Rho → Prop) → Prop} {T : Rho → Mp → (Bool → Mp → Prop) → Prop} {Φ : D → Mp → Prop} (hN : X.N.Nodup) (ok : BlkOk X.N X.env.scope scope own)
    (pg : ∀ (s : Shared) (H : Hp) (C : Addr) (cl : List (Str × Addr)) (fp : List Addr), PG (X.blk s H scope (compEnvC scope cl C X.env) fp) tg g) (hg : GT X.K g (own.map (·.2)) G)
    (pt : ∀ (s : Shared) (H : Hp) (C : Addr) (cl : List (Str × Addr)) (fp : List Addr), PTs (X.blk s H scope (compEnvC scope cl C X.env) fp) ifs tt) (ht : TK X tt T)
    (h : WI X ρ M tg iter (LcI X scope ρ (own.map (·.2)) G T elt Φ)) (hc : X.calm = true := by rfl) (hs : ∀ x, foldedSetIterable iter X.env x = pure x := by intro _; rfl) : WE X ρ M (.ListComp elt [⟨tg, iter, ifs, 0⟩] scope pos) Φ := .mk fun σ H Q en w k =>
  eOf (pe_lc hc hN pi_sem ok pg pt (fun s H0 C cl fp => ⟨fun pins s' σ' H' Q' I q => q s H0 C cl fp pins s' I⟩) hs) (lc_run hg ht h en w k)
/-- y = [elt for x in iter] -/
theorem ws_setLc (i : Nat) {y : Str} {py spos : Pos} {own : List (Str × Nat)} {g : TG} {tt : TT} {ifs : List Expr} {G : D → Rho → (Rho → Prop) → Prop} {T : Rho → Mp → (Bool → Mp → Prop) → Prop} {Ψ : DE} (hN : X.N.Nodup) (ok : BlkOk X.N X.env.scope scope own)
    (pg : ∀ (s : Shared) (H : Hp) (C : Addr) (cl : List (Str × Addr)) (fp : List Addr), PG (X.blk s H scope (compEnvC scope cl C X.env) fp) tg g) (hg : GT X.K g (own.map (·.2)) G)
    (pt : ∀ (s : Shared) (H : Hp) (C : Addr) (cl : List (Str × Addr)) (fp : List Addr), PTs (X.blk s H scope (compEnvC scope cl C X.env) fp) ifs tt) (ht : TK X tt T)
    (h : WI X ρ M tg iter (LcI X scope ρ (own.map (·.2)) G T elt fun d M1 => Ψ.nx (ρ.set i (some d)) M1))
    (hsw : swapsWith (.ListComp elt [⟨tg, iter, ifs, 0⟩] scope pos) (some (.Name y py)) spos.line X.env = pure true) (hy : X.N[i]? = some y := by rfl) (hyl : X.env.scope.names.lookup y = some .local := by rfl)
    (hc : X.calm = true := by rfl) (hs : ∀ x, foldedSetIterable iter X.env x = pure x := by intro _; rfl) : WS X ρ M (.Assign [.Name y py] (.ListComp elt [⟨tg, iter, ifs, 0⟩] scope pos) spos) Ψ := .mk fun σ H E en w k =>
  sOf (ps_setLc hc hN hy hyl hsw pi_sem ok pg pt (fun s H0 C cl fp => ⟨fun pins s' σ' H' Q' I q => q s H0 C cl fp pins s' I⟩) hs) (lc_run hg ht h en w fun v d H' M' x w' r z => k.nx _ _ H' M' x w' ((en.mono x).set r i) z)
end
end DL
namespace DL
open PySem PySem.Spec PyProof.Rows L2
theorem les_del {M : Mp} {a : Addr} : Les (mdel M a) M := fun b => by
  by_cases h : b = a
  · rw [h]; exact .inr mdel_same
  · exact .inl (mdel_ne h)
/-- the global x is a def with this contract; dd the data of the defaults that fill up -/
structure Fc (P : Program) (w : World) (K : PySem.W.Frag) (mg : Str → Option Value) (base : Heap) (x : Str) (dd : List D) (k n : Nat) (c : Con) : Prop where
  ex : ∃ (f : Addr) (fd : FuncData) (ps : List Str) (dvs : List V) (ds : List Value), FnOk P w K mg base CX0 k f fd ps (spD K n c) ∧ mg x = some (.ref f) ∧ PySem.W.keepIn K (.ref f) = true ∧ Binds K fd ps ds ∧ Vals dvs ds ∧ ∀ M Z H, Reps K M Z H dvs dd
section
variable {X : Cx} {ρ : Rho} {M : Mp} {Φ : D → Mp → Prop} {e o : Expr} {es : List Expr} {pos p apos : Pos} {x m : Str} {dd : List D} {k n : Nat} {c : Con}
theorem sp_run {n : Nat} {vs dvs : List V} {ds : List D} {M1 : Mp} {Z : Zn} {H1 : Hp} {Q : VK} {E : XK} (r : Reps X.K M1 Z H1 vs ds) (rd : Reps X.K M1 Z H1 dvs dd) (w1 : Wd X.K M1 Z H1) (hz : (ds ++ dd).length = n ∧ c (ds ++ dd) M1 Φ) (k : KE X.K M1 Z H1 Φ Q) : spD X.K n c (vs ++ dvs) H1 Q E :=
  ⟨ds ++ dd, M1, Z, Φ, hz.1, r.append rd, w1, hz.2, k⟩
theorem we_call (F : Fc X.prog X.w X.K X.mg X.base x dd k n c) (hr : Room k X.A) (h : WA X ρ M (e :: es) fun ds M1 => (ds ++ dd).length = n ∧ c (ds ++ dd) M1 Φ) (hg : Gl X x := by rfl)
    (hdb : (x == ("__debug__" : Str)) = false := by decide) (he : starEach (e :: es) X.env = (false, eval e X.env) :: starEach es X.env := by rfl) (hpl : (backTo pos (starEach es X.env)).any (·.1) = false := by rfl) : WE X ρ M (.Call (.Name x p) (e :: es) [] pos) Φ := .mk fun σ H Q en w k => by
  obtain ⟨f, fd, ps, dvs, ds, F, hm, hk, hb, hd, hdd⟩ := F.ex
  exact eOf (pe_call (E := E0) F hr hg hm hk hb hd pass0 pa_sem hdb he hpl) (h.run σ H _ en w fun vs as H1 M1 e1 w1 r1 hz => sp_run r1 (hdd _ _ _) w1 hz (k.step e1))
/-- d is an instance of the class at C with these fields -/
def InsOf (M : Mp) (C : Addr) : D → List (Str × D) → Prop
  | .ins C' fs, gs => C' = C ∧ gs = fs
  | .ob a, gs => M a = some (.ins C gs)
  | _, _ => False
theorem Rep.asIns {K : PySem.W.Frag} {M : Mp} {Z : Zn} {H : Hp} {C : Addr} {v : V} {d : D} {fs : List (Str × D)} (w : Wd K M Z H) (r : Rep K M Z H v d) (i : InsOf M C d fs) : ∃ a dx vs, v = .ref a ∧ H a = some (.ins C dx vs) ∧ RepF K M Z H vs fs := by
  cases r with
  | ins h m r =>
    obtain ⟨rfl, rfl⟩ := i
    exact ⟨_, _, _, rfl, h, r⟩
  | ob a =>
    obtain ⟨dx, vs, h, r⟩ := w.1 a _ i
    exact ⟨_, _, _, rfl, h, r⟩
  | _ => cases i
theorem InsOf.mono {K : PySem.W.Frag} {C : Addr} {d : D} {fs : List (Str × D)} {M : Mp} (h : InsOf M C d fs) {M' : Mp} (k : ∀ a, d = .ob a → M' a = M a) : InsOf M' C d fs := by
  cases d with
  | ins C' gs => exact h
  | ob a => exact (k a rfl).trans h
  | _ => cases h
/-- o.f, a field -/
theorem we_fld {f : Str} {C : Addr} (h : WE X ρ M o fun d M1 => ∃ fs v, InsOf M1 C d fs ∧ Cls X.K C ∧ NoAttr X.K C f ∧ fs.lookup f = some v ∧ Φ v M1) (hb : attributeBase o f X.env (eval o X.env) = eval o X.env := by rfl) : WE X ρ M (.Attribute o f pos) Φ := .mk fun σ H Q en w k =>
  eOf (pe_fld pe_sem hb) (h.run σ H _ en w fun v d H1 M1 e1 w1 r1 hz => by
    obtain ⟨fs, y, hi, cl, na, hl, hz⟩ := hz
    obtain ⟨a, dx, vs, rfl, ha, rf⟩ := r1.asIns w1 hi
    obtain ⟨u, hu, ru⟩ := (rf.lookup f).2 y hl
    exact ⟨a, C, dx, vs, u, rfl, ha, cl, na, hu, (k.step e1).now w1 ru hz⟩)
/-- the fields, one stored -/
def putD (f : Str) (d : D) : List (Str × D) → List (Str × D)
  | [] => [(f, d)]
  | (g, y) :: r => if g = f then (g, d) :: r else (g, y) :: putD f d r
theorem RepF.put {K : PySem.W.Frag} {M : Mp} {Z : Zn} {H : Hp} {f : Str} {v : V} {d : D} (r : Rep K M Z H v d) : ∀ {vs : List (Str × V)} {ds : List (Str × D)}, RepF K M Z H vs ds → RepF K M Z H (putF f v vs) (putD f d ds)
  | _, _, .nil => .cons r .nil
  | _, _, .cons (k := g) r' t => by
    unfold putF putD
    by_cases h : g = f
    · rw [if_pos h, if_pos h]; exact .cons r t
    · rw [if_neg h, if_neg h]; exact .cons r' (RepF.put r t)
/-- o.f = e, o a mutable instance -/
theorem ws_fld {f : Str} {C : Addr} {value : Expr} {pos' : Pos} {Ψ : DE} (h : WE X ρ M value fun d M1 => WE X ρ M1 o fun x M2 => ∃ a fs, x = .ob a ∧ M2 a = some (.ins C fs) ∧ Cls X.K C ∧ NoAttr X.K C f ∧ fs.length < 1000 ∧ Ψ.nx ρ (mset M2 a (.ins C (putD f d fs))))
    (hs : swapsWith value (some (.Attribute o f pos')) pos.line X.env = pure false := by rfl) : WS X ρ M (.Assign [.Attribute o f pos'] value pos) Ψ := .mk fun σ H E en w k =>
  sOf (ps_fld pe_sem pe_sem hs) (bind2 h en w fun v u d x H2 M2 e2 w2 r1 r2 hz => by
    obtain ⟨a, fs, rfl, hM, cl, na, hl, hz⟩ := hz
    cases r2
    obtain ⟨dx, vs, ha, rf⟩ := w2.1 a _ hM
    refine ⟨a, C, dx, vs, rfl, ha, cl, na, by rw [rf.length]; exact hl, ?_⟩
    have x3 : Ext M2 _ H2 (mset M2 a (.ins C (putD f d fs))) (upd H2 a (.ins C dx (putF f v vs))) := Ext.put w2 hM
    exact k.nx σ ρ _ _ (e2.trans x3) (w2.put hM ⟨dx, _, upd_same, (rf.mono x3).put (r1.mono x3)⟩) (en.mono (e2.trans x3)) hz)
/-- a property of the class at C, its getter's contract -/
structure Pc (P : Program) (w : World) (K : PySem.W.Frag) (mg : Str → Option Value) (base : Heap) (C : Addr) (m : Str) (k : Nat) (c : Con) : Prop where
  cl : Cls K C
  ex : ∃ (p g : Addr) (fd : FuncData) (ps : List Str), FnOk P w K mg base CX0 k g fd ps (spD K 1 c) ∧ PropOf K C m p g ∧ Binds K fd ps []
theorem we_prop {C : Addr} (F : Pc X.prog X.w X.K X.mg X.base C m k c) (hr : Room (k + 1) X.A) (h : WE X ρ M o fun d M1 => ∃ fs, InsOf M1 C d fs ∧ c [d] M1 Φ)
    (hab : attributeBase o m X.env (eval o X.env) = eval o X.env := by rfl) : WE X ρ M (.Attribute o m pos) Φ := .mk fun σ H Q en w k => by
  obtain ⟨p, g, fd, ps, F', hp, hb⟩ := F.ex
  refine eOf (pe_prop (E := E0) pe_sem F.cl hp F' hr hb .nil pass0 hab) (h.run σ H _ en w fun v d H1 M1 e1 w1 r1 hz => ?_)
  obtain ⟨fs, hi, hz⟩ := hz
  obtain ⟨a, dx, vs, rfl, ha, rf⟩ := r1.asIns w1 hi
  exact ⟨a, dx, vs, rfl, ha, [d], M1, _, Φ, rfl, .cons r1 .nil, w1, hz, k.step e1⟩
/-- the class of the name x, its __init__'s contract: the new instance is the first argument -/
structure Kc (P : Program) (w : World) (K : PySem.W.Frag) (mg : Str → Option Value) (base : Heap) (x : Str) (C : Addr) (dd : List D) (k n : Nat) (c : Con) : Prop where
  at_ : mg x = some (.ref C)
  ex : ∃ (f : Addr) (fd : FuncData) (ps : List Str) (dvs : List V) (ds : List Value), FnOk P w K mg base CX0 k f fd ps (spD K n c) ∧ Mk K C f ∧ Binds K fd ps ds ∧ Vals dvs ds ∧ ∀ M Z H, Reps K M Z H dvs dd
theorem we_make {C : Addr} (F : Kc X.prog X.w X.K X.mg X.base x C dd k n c) (hr : Room (k + 1) X.A)
    (h : WA X ρ M (e :: es) fun as M1 => ∀ a, M1 a = none → (.ob a :: (as ++ dd)).length = n ∧ c (.ob a :: (as ++ dd)) (mset M1 a (.ins C [])) fun d M2 => d = .non ∧ Lets Φ (.ob a) M2) (hg : Gl X x := by rfl)
    (hdb : (x == ("__debug__" : Str)) = false := by decide) (he : starEach (e :: es) X.env = (false, eval e X.env) :: starEach es X.env := by rfl) (hpl : (backTo pos (starEach es X.env)).any (·.1) = false := by rfl) : WE X ρ M (.Call (.Name x p) (e :: es) [] pos) Φ := .mk fun σ H Q en w k => by
  obtain ⟨f, fd, ps, dvs, ds, F', hm, hbd, hd, hdd⟩ := F.ex
  refine eOf (pe_make (E := E0) hm F' hr hg F.at_ hbd hd pass0 pa_sem hdb he hpl) (h.run σ H _ en w fun vs as H1 M1 e1 w1 r1 hz => ?_)
  intro a dx ha hdx ne
  obtain ⟨hl, hz⟩ := hz a (w1.fresh ha).1
  have ha1 : (upd H1 dx (.own a)) a = none := by rw [upd_ne (Ne.symm ne)]; exact ha
  have x1 : Ext M1 _ H1 M1 (upd H1 dx (.own a)) := Ext.new w1 hdx
  have wa := w1.new (o := .own a) hdx
  have x2 : Ext M1 _ (upd H1 dx (.own a)) (mset M1 a (.ins C [])) (upd (upd H1 dx (.own a)) a (.ins C dx [])) := Ext.newM wa ha1
  have x12 := x1.trans x2
  refine ⟨.ob a :: (as ++ dd), mset M1 a (.ins C []), _, _, hl, .cons (.ob a) ((r1.mono x12).append (hdd _ _ _)), wa.newM ha1 ⟨dx, [], upd_same, .nil⟩, hz, fun v d H2 M2 x3 w2 r2 hy => ?_⟩
  obtain ⟨rfl, hy⟩ := hy
  cases r2
  exact ⟨rfl, lets_k (k.step (e1.trans x12)) _ _ H2 M2 x3 w2 (.ob a) hy⟩
end
end DL
namespace DL
open PySem PySem.Spec PyProof.Rows L2
section
variable {X : Cx} {ρ : Rho} {M : Mp} {Φ : D → Mp → Prop} {Θ : Bool → Mp → Prop} {a b e : Expr} {pos : Pos} {K : PySem.W.Frag}
theorem rd_I {C : Int → Int → Prop} {g : Int → Int → Int} {x y : D} (h : ∃ i j, x = .int i ∧ y = .int j ∧ C i j ∧ Φ (.int (g i j)) M) : RD K (rI C fun i j => .int (g i j)) x y M Φ := fun Z v u H Q w r1 r2 k => by
  obtain ⟨i, j, rfl, rfl, hc, h⟩ := h
  cases r1; cases r2
  exact ⟨i, j, rfl, rfl, hc, k.now w (.int _) h⟩
theorem rd_I0 {g : Int → Int → Int} {x y : D} (h : ∃ i j, x = .int i ∧ y = .int j ∧ Φ (.int (g i j)) M) : RD K (rI0 fun i j => .int (g i j)) x y M Φ := fun Z v u H Q w r1 r2 k => by
  obtain ⟨i, j, rfl, rfl, h⟩ := h
  cases r1; cases r2
  exact ⟨i, j, rfl, rfl, k.now w (.int _) h⟩
theorem rd_B0 {g : Int → Int → Bool} {x y : D} (h : ∃ i j, x = .int i ∧ y = .int j ∧ Φ (.bl (g i j)) M) : RD K (rI0 fun i j => .bl (g i j)) x y M Φ := fun Z v u H Q w r1 r2 k => by
  obtain ⟨i, j, rfl, rfl, h⟩ := h
  cases r1; cases r2
  exact ⟨i, j, rfl, rfl, k.now w (.bl _) h⟩
theorem we_addI (h : WE X ρ M a fun x M1 => WE X ρ M1 b fun y M2 => ∃ i j, x = .int i ∧ y = .int j ∧ Φ (.int (i + j)) M2) : WE X ρ M (.BinOp a .Add b pos) Φ := we_op op_add (h.imp fun _ _ h => h.imp fun _ _ h => rd_I0 h)
theorem we_mulI (h : WE X ρ M a fun x M1 => WE X ρ M1 b fun y M2 => ∃ i j, x = .int i ∧ y = .int j ∧ CMulW i j ∧ Φ (.int (i * j)) M2) : WE X ρ M (.BinOp a .Mult b pos) Φ := we_op op_mulW (h.imp fun _ _ h => h.imp fun _ _ h => rd_I h)
/-- one factor small -/
theorem we_mulS (h : WE X ρ M a fun x M1 => WE X ρ M1 b fun y M2 => ∃ i j, x = .int i ∧ y = .int j ∧ CMul i j ∧ Φ (.int (i * j)) M2) : WE X ρ M (.BinOp a .Mult b pos) Φ := we_op op_mul (h.imp fun _ _ h => h.imp fun _ _ h => rd_I h)
theorem we_modI (h : WE X ρ M a fun x M1 => WE X ρ M1 b fun y M2 => ∃ i j, x = .int i ∧ y = .int j ∧ 0 < j ∧ Φ (.int (i % j)) M2) : WE X ρ M (.BinOp a .Mod b pos) Φ := we_op op_mod (h.imp fun _ _ h => h.imp fun _ _ h => rd_I (C := fun _ j => 0 < j) h)
theorem we_divI (h : WE X ρ M a fun x M1 => WE X ρ M1 b fun y M2 => ∃ i j, x = .int i ∧ y = .int j ∧ CDivW i j ∧ Φ (.int (i / j)) M2) : WE X ρ M (.BinOp a .FloorDiv b pos) Φ := we_op op_fdivW (h.imp fun _ _ h => h.imp fun _ _ h => rd_I h)
theorem we_powI (h : WE X ρ M a fun x M1 => WE X ρ M1 b fun y M2 => ∃ i j, x = .int i ∧ y = .int j ∧ CPow i j ∧ Φ (.int (i ^ j.toNat)) M2) : WE X ρ M (.BinOp a .Pow b pos) Φ := we_op op_pow (h.imp fun _ _ h => h.imp fun _ _ h => rd_I h)
theorem we_negI (h : WE X ρ M a fun x M1 => ∃ i, x = .int i ∧ Φ (.int (-i)) M1) : WE X ρ M (.UnaryOp .USub a pos) Φ := we_un un_neg (h.imp fun _ _ h Z v H Q w r k => by
  obtain ⟨i, rfl, h⟩ := h
  cases r
  exact ⟨i, rfl, k.now w (.int _) h⟩)
section
variable {op : CmpOp}
theorem we_geI (h : WE X ρ M a fun x M1 => WE X ρ M1 b fun y M2 => ∃ i j, x = .int i ∧ y = .int j ∧ Φ (.bl (decide (j ≤ i))) M2) : WE X ρ M (.Compare a [.GtE] [b] pos) Φ := we_cmp op_ge (nomark _) (h.imp fun _ _ h => h.imp fun _ _ h => rd_B0 h)
theorem wt_ltI (h : WE X ρ M a fun x M1 => WE X ρ M1 b fun y M2 => ∃ i j, x = .int i ∧ y = .int j ∧ Θ (decide (i < j)) M2) : WT X ρ M (.Compare a [.Lt] [b] pos) Θ := wt_cmp op_lt (nomark _) (h.imp fun _ _ h => h.imp fun _ _ ⟨i, j, e1, e2, h⟩ => rd_B0 ⟨i, j, e1, e2, _, rfl, h⟩)
theorem wt_gtI (h : WE X ρ M a fun x M1 => WE X ρ M1 b fun y M2 => ∃ i j, x = .int i ∧ y = .int j ∧ Θ (decide (j < i)) M2) : WT X ρ M (.Compare a [.Gt] [b] pos) Θ := wt_cmp op_gt (nomark _) (h.imp fun _ _ h => h.imp fun _ _ ⟨i, j, e1, e2, h⟩ => rd_B0 ⟨i, j, e1, e2, _, rfl, h⟩)
end
theorem rd_eq {x y : D} (h : ∃ c, EqS x y c ∧ Φ (.bl c) M) : RD K rEq x y M Φ := fun Z v u H Q w r1 r2 k => by
  obtain ⟨c, hc, h⟩ := h
  obtain ⟨s1, s2⟩ := hc.rep r1 r2
  exact ⟨s1, by rw [s2]; exact k.now w (.bl c) h⟩
theorem rd_ne {x y : D} (h : ∃ c, EqS x y c ∧ Φ (.bl (!c)) M) : RD K rNe x y M Φ := fun Z v u H Q w r1 r2 k => by
  obtain ⟨c, hc, h⟩ := h
  obtain ⟨s1, s2⟩ := hc.rep r1 r2
  exact ⟨s1, by rw [s2]; exact k.now w (.bl (!c)) h⟩
theorem we_eqS (h : WE X ρ M a fun x M1 => WE X ρ M1 b fun y M2 => ∃ c, EqS x y c ∧ Φ (.bl c) M2) : WE X ρ M (.Compare a [.Eq] [b] pos) Φ := we_cmp op_eq (nomark _) (h.imp fun _ _ h => h.imp fun _ _ h => rd_eq h)
theorem wt_eqS (h : WE X ρ M a fun x M1 => WE X ρ M1 b fun y M2 => ∃ c, EqS x y c ∧ Θ c M2) : WT X ρ M (.Compare a [.Eq] [b] pos) Θ := wt_cmp op_eq (nomark _) (h.imp fun _ _ h => h.imp fun _ _ ⟨c, e, h⟩ => rd_eq ⟨c, e, _, rfl, h⟩)
theorem wt_neS (h : WE X ρ M a fun x M1 => WE X ρ M1 b fun y M2 => ∃ c, EqS x y c ∧ Θ (!c) M2) : WT X ρ M (.Compare a [.NotEq] [b] pos) Θ := wt_cmp op_ne (nomark _) (h.imp fun _ _ h => h.imp fun _ _ ⟨c, e, h⟩ => rd_ne ⟨c, e, _, rfl, h⟩)
theorem rd_eqD {x y : D} (h : ∃ p q, toPy x = some p ∧ toPy y = some q ∧ SeqAt.shaped p = true ∧ SeqAt.shaped q = true ∧ Φ (.bl (PyData.eqv p q)) M) : RD K (rEqD K) x y M Φ := fun Z v u H Q w r1 r2 k => by
  obtain ⟨p, q, e1, e2, s1, s2, h⟩ := h
  exact ⟨p, q, r1.dp e1, r2.dp e2, s1, s2, k.now w (.bl _) h⟩
theorem rd_neD {x y : D} (h : ∃ p q, toPy x = some p ∧ toPy y = some q ∧ SeqAt.shaped p = true ∧ SeqAt.shaped q = true ∧ Φ (.bl (!PyData.eqv p q)) M) : RD K (rNeD K) x y M Φ := fun Z v u H Q w r1 r2 k => by
  obtain ⟨p, q, e1, e2, s1, s2, h⟩ := h
  exact ⟨p, q, r1.dp e1, r2.dp e2, s1, s2, k.now w (.bl _) h⟩
theorem wt_eqD (hu : X.A.units + 64 < cLine) (h : WE X ρ M a fun x M1 => WE X ρ M1 b fun y M2 => ∃ p q, toPy x = some p ∧ toPy y = some q ∧ SeqAt.shaped p = true ∧ SeqAt.shaped q = true ∧ Θ (PyData.eqv p q) M2) : WT X ρ M (.Compare a [.Eq] [b] pos) Θ := wt_cmp (op_eqD hu) (nomark _) (h.imp fun _ _ h => h.imp fun _ _ ⟨p, q, e1, e2, s1, s2, h⟩ => rd_eqD ⟨p, q, e1, e2, s1, s2, _, rfl, h⟩)
theorem wt_neD (hu : X.A.units + 64 < cLine) (h : WE X ρ M a fun x M1 => WE X ρ M1 b fun y M2 => ∃ p q, toPy x = some p ∧ toPy y = some q ∧ SeqAt.shaped p = true ∧ SeqAt.shaped q = true ∧ Θ (!PyData.eqv p q) M2) : WT X ρ M (.Compare a [.NotEq] [b] pos) Θ := wt_cmp (op_neD hu) (nomark _) (h.imp fun _ _ h => h.imp fun _ _ ⟨p, q, e1, e2, s1, s2, h⟩ => rd_neD ⟨p, q, e1, e2, s1, s2, _, rfl, h⟩)
def isNon : D → Bool
  | .non => true
  | _ => false
theorem Rep.isNon {M : Mp} {Z : Zn} {H : Hp} {v : V} {d : D} (r : Rep K M Z H v d) : decide (v = .non) = DL.isNon d := by
  cases r <;> first | rfl | simp [DL.isNon]
theorem we_isN {j : Nat} {p' : Pos} (h : WE X ρ M a fun x M1 => Φ (.bl (isNon x)) M1) : WE X ρ M (.Compare a [.Is] [.Constant .none j p'] pos) Φ := .mk fun σ H Q en w k =>
  eOf (pe_cmp (pc_isN pe_sem)) (h.run σ H _ en w fun v d H1 M1 e1 w1 r1 hz => by
    show Q (.bl (decide (v = .non))) H1
    rw [r1.isNon]
    exact (k.step e1).now w1 (.bl _) hz)
theorem wt_isN {j : Nat} {p' : Pos} (h : WE X ρ M a fun x M1 => Θ (isNon x) M1) : WT X ρ M (.Compare a [.Is] [.Constant .none j p'] pos) Θ := .mk fun σ H Q en w k =>
  tOf (pt_cmp (pc_isN pe_sem)) (h.run σ H _ en w fun v d H1 M1 e1 w1 r1 hz => by
    show ∃ c, V.bl (decide (v = .non)) = .bl c ∧ Q c H1
    rw [r1.isNon]
    exact ⟨_, rfl, (k.step e1).now w1 hz⟩)
theorem wt_notN {j : Nat} {p' : Pos} (h : WE X ρ M a fun x M1 => Θ (!isNon x) M1) : WT X ρ M (.Compare a [.IsNot] [.Constant .none j p'] pos) Θ := .mk fun σ H Q en w k =>
  tOf (pt_cmp (pc_notN pe_sem)) (h.run σ H _ en w fun v d H1 M1 e1 w1 r1 hz => by
    show ∃ c, V.bl (!decide (v = .non)) = .bl c ∧ Q c H1
    rw [r1.isNon]
    exact ⟨_, rfl, (k.step e1).now w1 hz⟩)
theorem wt_chainI {c : Expr} (h : WE X ρ M a fun x M1 => WE X ρ M1 b fun y M2 => ∃ i j, x = .int i ∧ y = .int j ∧ if decide (i ≤ j) = true then WE X ρ M2 c fun z M3 => ∃ l, z = .int l ∧ Θ (decide (j ≤ l)) M3 else Θ false M2) (hm : lastMarks [.LtE, .LtE] [b, c] = false := by rfl) : WT X ρ M (.Compare a [.LtE, .LtE] [b, c] pos) Θ := .mk fun σ H Q en w k =>
  tOf (pt_chain op_le op_le pe_sem pe_sem pe_sem (hm := hm)) (bind2 h en w fun v u x y H2 M2 e2 w2 r1 r2 hz => by
    obtain ⟨i, j, rfl, rfl, hz⟩ := hz
    cases r1; cases r2
    refine ⟨i, j, rfl, rfl, _, rfl, ?_⟩
    cases hd : decide (i ≤ j) with
    | false =>
      rw [hd] at hz
      exact ⟨_, rfl, (k.step e2).now w2 hz⟩
    | true =>
      rw [hd] at hz
      exact hz.run σ H2 _ (en.mono e2) w2 fun v3 z H3 M3 e3 w3 r3 hy => by
        obtain ⟨l, rfl, hy⟩ := hy
        cases r3
        exact ⟨j, l, rfl, rfl, _, rfl, (k.step (e2.trans e3)).now w3 hy⟩)
theorem we_addS (h : WE X ρ M a fun x M1 => WE X ρ M1 b fun y M2 => ∃ i j, x = .str i ∧ y = .str j ∧ i.length + j.length ≤ sizeLine ∧ Φ (.str (i ++ j)) M2) : WE X ρ M (.BinOp a .Add b pos) Φ := we_op op_add_str (h.imp fun _ _ h => h.imp fun _ _ h Z v u H Q w r1 r2 k => by
  obtain ⟨i, j, rfl, rfl, hz, h⟩ := h
  cases r1; cases r2
  exact ⟨i, j, rfl, rfl, hz, k.now w (.str _) h⟩)
theorem we_inC (h : WE X ρ M a fun x M1 => WE X ρ M1 b fun y M2 => ∃ c z, x = .str ⟨#[c]⟩ ∧ y = .str z ∧ Φ (.bl (decide (c ∈ z.cps.toList))) M2) (hm : behindInMarks .In b = false := by rfl) : WE X ρ M (.Compare a [.In] [b] pos) Φ := we_cmp op_in_sign hm (h.imp fun _ _ h => h.imp fun _ _ h Z v u H Q w r1 r2 k => by
  obtain ⟨i, j, rfl, rfl, h⟩ := h
  cases r1; cases r2
  exact ⟨i, j, rfl, rfl, k.now w (.bl _) h⟩)
theorem we_addL (h : WE X ρ M a fun x M1 => WE X ρ M1 b fun y M2 => ∃ xs ys, x = .lst xs ∧ y = .lst ys ∧ xs.length + ys.length ≤ sizeLine ∧ Φ (.lst (xs ++ ys)) M2) : WE X ρ M (.BinOp a .Add b pos) Φ := we_op op_cat (h.imp fun _ _ h => h.imp fun _ _ h Z v u H Q w r1 r2 k => by
  obtain ⟨xs, ys, rfl, rfl, hz, h⟩ := h
  cases r1 with
  | lst h1 m1 r1 =>
    cases r2 with
    | lst h2 m2 r2 =>
      exact ⟨_, _, _, _, rfl, rfl, h1, h2, by rw [r1.length, r2.length]; exact hz, fun p hp => k.new w hp (.lst upd_same (w.fresh hp) ((r1.append r2).mono (Ext.new w hp))) h⟩)
/-- what a subscript reads -/
def IxD (M : Mp) (d : D) (i : Int) (y : D) : Prop := (∃ ds, LstOf M d ds ∧ atI ds i = some y) ∨ (∃ ds, d = .tup ds ∧ atI ds i = some y) ∨ ∃ z c, d = .str z ∧ z.length ≤ sizeLine ∧ atI z.cps.toList i = some c ∧ y = .str ⟨#[c]⟩
theorem Reps.atI {M : Mp} {Z : Zn} {H : Hp} {vs : List V} {ds : List D} {i : Int} {d : D} (r : Reps K M Z H vs ds) (h : L2.atI ds i = some d) : ∃ v, L2.atI vs i = some v ∧ Rep K M Z H v d := by
  unfold L2.atI at h ⊢
  rw [r.length]
  cases e : ixN ds.length i with
  | none => rw [e] at h; cases h
  | some j =>
    rw [e] at h
    exact r.get h
theorem we_ix (h : WE X ρ M a fun x M1 => WE X ρ M1 b fun y M2 => ∃ i d, y = .int i ∧ IxD M2 x i d ∧ Φ d M2) (hs : PlainIx b := by exact fun _ _ => rfl) : WE X ρ M (.Subscript a b pos) Φ := .mk fun σ H Q en w k =>
  eOf (pe_ix ix_seq pe_sem pe_sem hs) (bind2 h en w fun v u x y H2 M2 e2 w2 r1 r2 hz => by
    obtain ⟨i, d, rfl, hi, hz⟩ := hz
    cases r2
    rcases hi with ⟨ds, hl, ha⟩ | ⟨ds, rfl, ha⟩ | ⟨z, c, rfl, hl, ha, rfl⟩
    · obtain ⟨p, vs, rfl, hq, rs⟩ := r1.asLst w2 hl
      obtain ⟨v, hv, rv⟩ := rs.atI ha
      exact .inl ⟨p, vs, i, v, rfl, rfl, hq, hv, (k.step e2).now w2 rv hz⟩
    · obtain ⟨p, vs, rfl, hq, rs⟩ := r1.asTup
      obtain ⟨v, hv, rv⟩ := rs.atI ha
      exact .inr (.inl ⟨p, vs, i, v, rfl, rfl, hq, hv, (k.step e2).now w2 rv hz⟩)
    · cases r1
      exact .inr (.inr ⟨z, i, c, rfl, rfl, hl, ha, (k.step e2).now w2 (.str _) hz⟩))
theorem ixT {M : Mp} {ds : List D} {i : Int} {y : D} (h : atI ds i = some y) : IxD M (.tup ds) i y := .inr (.inl ⟨ds, rfl, h⟩)
theorem ixL {M : Mp} {ds : List D} {i : Int} {y : D} (h : atI ds i = some y) : IxD M (.lst ds) i y := .inl ⟨ds, rfl, h⟩
theorem ixR {M : Mp} {ds : List D} {i : Int} {y : D} (h : atI ds i = some y) : IxD M (.rol ds) i y := .inl ⟨ds, rfl, h⟩
theorem ixO {M : Mp} {p : Addr} {ds : List D} {i : Int} {y : D} (hp : M p = some (.lst ds)) (h : atI ds i = some y) : IxD M (.ob p) i y := .inl ⟨ds, hp, h⟩
def WO (X : Cx) (ρ : Rho) (M : Mp) (e : Option Expr) (Φ : Option Int → Mp → Prop) : Prop := match e with
  | none => Φ none M
  | some e => WE X ρ M e fun d M1 => ∃ i, d = .int i ∧ Φ (some i) M1
def oSem (X : Cx) : Option Expr → TO
  | none => tNoPart
  | some e => tPart (eSem X e)
theorem po_sem {o : Option Expr} : PO X o (oSem X o) := by
  cases o with
  | none => exact po_none
  | some e => exact po_some pe_sem
theorem wo_run {o : Option Expr} {ΦO : Option Int → Mp → Prop} (h : WO X ρ M o ΦO) {Z : Zn} {σ : L2.St} {H : Hp} {Q : Option Int → Hp → Prop} (en : EnvR X.K M Z H σ ρ) (w : Wd X.K M Z H) (k : ∀ i H' M', Ext M Z H M' H' → Wd X.K M' Z H' → ΦO i M' → Q i H') : oSem X o σ H Q := by
  cases o with
  | none => exact k none H M Ext.refl w h
  | some e =>
    refine (show WE X ρ M e (fun d M1 => ∃ i, d = .int i ∧ ΦO (some i) M1) from h).run σ H _ en w fun v d H1 M1 e1 w1 r1 hz => ?_
    obtain ⟨i, rfl, hz⟩ := hz
    cases r1
    exact ⟨i, rfl, k _ H1 M1 e1 w1 hz⟩
/-- what a slice is -/
def SlD (M : Mp) (d : D) (lo hi : Option Int) (y : D) : Prop := (∃ ds, LstOf M d ds ∧ y = .lst (cutD ds lo hi)) ∨ (∃ ds, d = .tup ds ∧ y = .tup (cutD ds lo hi)) ∨ ∃ z, d = .str z ∧ z.length ≤ sizeLine ∧ y = .str (cutS z lo hi)
theorem cutD_all {α : Type} {xs : List α} {lo hi : Option Int} (h : HT.sIx xs.length 0 lo = 0 ∧ HT.sIx xs.length xs.length hi = xs.length) : cutD xs lo hi = xs := by
  unfold cutD; rw [h.1, h.2]; simp
theorem we_slice {lo hi : Option Expr} {p2 : Pos} (h : WE X ρ M a fun x M1 => WO X ρ M1 lo fun l M2 => WO X ρ M2 hi fun u M3 => ∃ d, SlD M3 x l u d ∧ Φ d M3) : WE X ρ M (.Subscript a (.Slice lo hi none p2) pos) Φ := .mk fun σ H Q en w k =>
  eOf (pe_slice (sl_list.or (sl_tupA.or sl_str)) pe_sem po_sem po_sem) (h.run σ H _ en w fun v x H1 M1 e1 w1 r1 hz => wo_run hz (en.mono e1) w1 fun l H2 M2 e2 w2 hz => wo_run hz (en.mono (e1.trans e2)) w2 fun u H3 M3 e3 w3 hz => by
    obtain ⟨d, hd, hz⟩ := hz
    have r3 := r1.mono (e2.trans e3)
    have k3 := k.step ((e1.trans e2).trans e3)
    rcases hd with ⟨ds, hl, rfl⟩ | ⟨ds, rfl, rfl⟩ | ⟨z, rfl, hl, rfl⟩
    · obtain ⟨p, vs, rfl, hq, rs⟩ := r3.asLst w3 hl
      exact .inl ⟨p, vs, rfl, hq, fun q hp => k3.new w3 hp (.lst upd_same (w3.fresh hp) ((rs.cut l u).mono (Ext.new w3 hp))) hz⟩
    · obtain ⟨p, vs, rfl, hq, rs⟩ := r3.asTup
      refine .inr (.inl ⟨p, vs, rfl, hq, fun hw => ?_, fun hw q hp => ?_⟩)
      · rw [rs.length] at hw
        rw [cutD_all hw] at hz
        exact k3.now w3 r3 hz
      · exact k3.new w3 hp (.tup (.inl upd_same) (w3.fresh hp) ((rs.cut l u).mono (Ext.new w3 hp))) hz
    · cases r3
      exact .inr (.inr ⟨z, rfl, hl, k3.now w3 (.str _) hz⟩))
end
end DL
namespace DL
open PySem PySem.Spec PyProof.Rows L2
section
variable {K : PySem.W.Frag} {M : Mp} {Z : Zn} {H : Hp}
theorem Reps.three {vs : List V} {d e f : D} (r : Reps K M Z H vs [d, e, f]) : ∃ v u x, vs = [v, u, x] ∧ Rep K M Z H v d ∧ Rep K M Z H u e ∧ Rep K M Z H x f := by
  cases r with
  | cons r t =>
    obtain ⟨u, x, rfl, r2, r3⟩ := t.two
    exact ⟨_, u, x, rfl, r, r2, r3⟩
end
section
variable {X : Cx} {ρ : Rho} {M : Mp} {Φ : D → Mp → Prop} {Θ : Bool → Mp → Prop} {a b e o : Expr} {es : List Expr} {pos p apos : Pos} {x : Str}
theorem we_callB {id : String} {r : List V → Hp → VK → Prop} (hc : CallR X (.builtin id) r) (hm : X.mg x = none) (hv : bootBuiltins x = some (.builtin id)) (h : WA X ρ M (e :: es) fun ds M1 => RC X.K r ds M1 Φ) (hg : Gl X x := by rfl) (hn : x ≠ "__name__" := by decide) (hdb : (x == ("__debug__" : Str)) = false := by decide)
    (he : starEach (e :: es) X.env = (false, eval e X.env) :: starEach es X.env := by rfl) (hpl : (backTo pos (starEach es X.env)).any (·.1) = false := by rfl) : WE X ρ M (.Call (.Name x p) (e :: es) [] pos) Φ := .mk fun σ H Q en w k =>
  eOf (pe_callB hc hg hm hv pa_sem hn hdb he hpl) (h.run σ H _ en w fun vs ds H1 M1 e1 w1 r1 hz => hz _ vs H1 Q w1 r1 (k.step e1))
theorem we_callTy {T : String} {r : List V → Hp → VK → Prop} (hc : CallR X (.type T) r) (hm : X.mg x = none) (hv : bootBuiltins x = some (.type T)) (h : WA X ρ M (e :: es) fun ds M1 => RC X.K r ds M1 Φ) (hg : Gl X x := by rfl) (hn : x ≠ "__name__" := by decide) (hdb : (x == ("__debug__" : Str)) = false := by decide)
    (he : starEach (e :: es) X.env = (false, eval e X.env) :: starEach es X.env := by rfl) (hpl : (backTo pos (starEach es X.env)).any (·.1) = false := by rfl) : WE X ρ M (.Call (.Name x p) (e :: es) [] pos) Φ := .mk fun σ H Q en w k =>
  eOf (pe_callTy hc hg hm hv pa_sem hn hdb he hpl) (h.run σ H _ en w fun vs ds H1 M1 e1 w1 r1 hz => hz _ vs H1 Q w1 r1 (k.step e1))
/-- how many -/
def LenD (M : Mp) (d : D) (n : Nat) : Prop := (∃ ds, LstOf M d ds ∧ n = ds.length) ∨ (∃ ds, d = .tup ds ∧ n = ds.length) ∨ ∃ z, d = .str z ∧ z.length ≤ sizeLine ∧ n = z.length
theorem we_len (hm : X.mg "len" = none) (h : WE X ρ M e fun d M1 => ∃ n : Nat, LenD M1 d n ∧ Φ (.int n) M1) (hg : Gl X "len" := by rfl)
    (he : starEach [e] X.env = (false, eval e X.env) :: starEach [] X.env := by rfl) (hpl : (backTo pos (starEach [] X.env)).any (·.1) = false := by rfl) : WE X ρ M (.Call (.Name "len" p) [e] [] pos) Φ :=
  we_callB call_len hm boot_len (wa_cons (h.imp fun d M1 h => wa_nil fun Z vs H Q w rr k => by
    obtain ⟨n, hn, h⟩ := h
    obtain ⟨v, rfl, r⟩ := rr.one
    refine ⟨v, n, rfl, ?_, k.now w (.int _) h⟩
    rcases hn with ⟨ds, hl, rfl⟩ | ⟨ds, rfl, rfl⟩ | ⟨z, rfl, hz, rfl⟩
    · obtain ⟨p, vs, rfl, hq, rs⟩ := r.asLst w hl
      exact .inl ⟨vs, hq, rs.length.symm⟩
    · obtain ⟨p, vs, rfl, hq, rs⟩ := r.asTup
      exact .inr ⟨vs, hq, rs.length.symm⟩
    · cases r
      exact ⟨hz, rfl⟩) he) hg (he := he) (hpl := hpl)
theorem lenL {M : Mp} {ds : List D} : LenD M (.lst ds) ds.length := .inl ⟨ds, rfl, rfl⟩
theorem lenR {M : Mp} {ds : List D} : LenD M (.rol ds) ds.length := .inl ⟨ds, rfl, rfl⟩
theorem lenT {M : Mp} {ds : List D} : LenD M (.tup ds) ds.length := .inr (.inl ⟨ds, rfl, rfl⟩)
theorem lenS {M : Mp} {z : Str} (h : z.length ≤ sizeLine) : LenD M (.str z) z.length := .inr (.inr ⟨z, rfl, h, rfl⟩)
theorem we_abs (hm : X.mg "abs" = none) (h : WE X ρ M e fun d M1 => ∃ i, d = .int i ∧ Φ (.int (if i < 0 then -i else i)) M1) (hg : Gl X "abs" := by rfl)
    (he : starEach [e] X.env = (false, eval e X.env) :: starEach [] X.env := by rfl) (hpl : (backTo pos (starEach [] X.env)).any (·.1) = false := by rfl) : WE X ρ M (.Call (.Name "abs" p) [e] [] pos) Φ :=
  we_callB call_abs hm (by decide +kernel) (wa_cons (h.imp fun d M1 h => wa_nil fun Z vs H Q w rr k => by
    obtain ⟨i, rfl, h⟩ := h
    obtain ⟨v, rfl, r⟩ := rr.one
    cases r
    exact ⟨i, rfl, k.now w (.int _) h⟩) he) hg (he := he) (hpl := hpl)
/-- int(x) of an int, a bool -/
theorem we_intN (hm : X.mg "int" = none) (h : WE X ρ M e fun d M1 => (∃ i, d = .int i ∧ Φ (.int i) M1) ∨ ∃ c, d = .bl c ∧ Φ (.int (if c then 1 else 0)) M1) (hg : Gl X "int" := by rfl)
    (he : starEach [e] X.env = (false, eval e X.env) :: starEach [] X.env := by rfl) (hpl : (backTo pos (starEach [] X.env)).any (·.1) = false := by rfl) : WE X ρ M (.Call (.Name "int" p) [e] [] pos) Φ :=
  we_callTy call_int1 hm (by decide +kernel) (wa_cons (h.imp fun d M1 h => wa_nil fun Z vs H Q w rr k => by
    obtain ⟨v, rfl, r⟩ := rr.one
    rcases h with ⟨i, rfl, h⟩ | ⟨i, rfl, h⟩
    · cases r; exact .inl ⟨i, rfl, k.now w (.int _) h⟩
    · cases r; exact .inr ⟨i, rfl, k.now w (.int _) h⟩) he) hg (he := he) (hpl := hpl)
/-- int(text) -/
theorem we_intS (hm : X.mg "int" = none) (h : WE X ρ M e fun d M1 => ∃ z n, d = .str z ∧ PySem.intText? z = some n ∧ z.length ≤ 640 ∧ Φ (.int n) M1) (hg : Gl X "int" := by rfl)
    (he : starEach [e] X.env = (false, eval e X.env) :: starEach [] X.env := by rfl) (hpl : (backTo pos (starEach [] X.env)).any (·.1) = false := by rfl) : WE X ρ M (.Call (.Name "int" p) [e] [] pos) Φ :=
  we_callTy call_int_str hm (by decide +kernel) (wa_cons (h.imp fun d M1 h => wa_nil fun Z vs H Q w rr k => by
    obtain ⟨v, rfl, r⟩ := rr.one
    obtain ⟨z, n, rfl, h1, h2, h⟩ := h
    cases r
    exact ⟨z, n, rfl, h1, h2, k.now w (.int _) h⟩) he) hg (he := he) (hpl := hpl)
/-- str(int) -/
theorem we_strI (hm : X.mg "str" = none) (h : WE X ρ M e fun d M1 => ∃ i : Int, d = .int i ∧ i.natAbs.log2 < 1920 ∧ Φ (.str (toString i)) M1) (hg : Gl X "str" := by rfl)
    (he : starEach [e] X.env = (false, eval e X.env) :: starEach [] X.env := by rfl) (hpl : (backTo pos (starEach [] X.env)).any (·.1) = false := by rfl) : WE X ρ M (.Call (.Name "str" p) [e] [] pos) Φ :=
  we_callTy call_str_int hm (by decide +kernel) (wa_cons (h.imp fun d M1 h => wa_nil fun Z vs H Q w rr k => by
    obtain ⟨v, rfl, r⟩ := rr.one
    obtain ⟨i, rfl, h2, h⟩ := h
    cases r
    exact ⟨i, rfl, h2, k.now w (.str _) h⟩) he) hg (he := he) (hpl := hpl)
theorem we_max2 (hm : X.mg "max" = none) (h : WE X ρ M a fun x M1 => WE X ρ M1 b fun y M2 => ∃ i j, x = .int i ∧ y = .int j ∧ Φ (.int (if j > i then j else i)) M2) (hc : X.calm = true := by rfl) (hg : Gl X "max" := by rfl)
    (ha : starEach [a, b] X.env = (false, eval a X.env) :: starEach [b] X.env := by rfl) (hb : starEach [b] X.env = (false, eval b X.env) :: starEach [] X.env := by rfl) (hpl : (backTo pos (starEach [b] X.env)).any (·.1) = false := by rfl) : WE X ρ M (.Call (.Name "max" p) [a, b] [] pos) Φ :=
  we_callB (call_max2 hc) hm (by decide +kernel) (wa_cons (h.imp fun x M1 h => wa_cons (h.imp fun y M2 h => wa_nil fun Z vs H Q w rr k => by
    obtain ⟨v, u, rfl, r1, r2⟩ := rr.two
    obtain ⟨i, j, rfl, rfl, h⟩ := h
    cases r1; cases r2
    exact ⟨i, j, rfl, k.now w (.int _) h⟩) hb) ha) hg (he := ha) (hpl := hpl)
theorem we_min2 (hm : X.mg "min" = none) (h : WE X ρ M a fun x M1 => WE X ρ M1 b fun y M2 => ∃ i j, x = .int i ∧ y = .int j ∧ Φ (.int (if j < i then j else i)) M2) (hc : X.calm = true := by rfl) (hg : Gl X "min" := by rfl)
    (ha : starEach [a, b] X.env = (false, eval a X.env) :: starEach [b] X.env := by rfl) (hb : starEach [b] X.env = (false, eval b X.env) :: starEach [] X.env := by rfl) (hpl : (backTo pos (starEach [b] X.env)).any (·.1) = false := by rfl) : WE X ρ M (.Call (.Name "min" p) [a, b] [] pos) Φ :=
  we_callB (call_min2 hc) hm (by decide +kernel) (wa_cons (h.imp fun x M1 h => wa_cons (h.imp fun y M2 h => wa_nil fun Z vs H Q w rr k => by
    obtain ⟨v, u, rfl, r1, r2⟩ := rr.two
    obtain ⟨i, j, rfl, rfl, h⟩ := h
    cases r1; cases r2
    exact ⟨i, j, rfl, k.now w (.int _) h⟩) hb) ha) hg (he := ha) (hpl := hpl)
/-- sum, all, any -/
theorem we_sum (hm : X.mg "sum" = none) (h : WE X ρ M e fun d M1 => ∃ ns : List Int, LstOf M1 d (ns.map D.int) ∧ Φ (.int ns.sum) M1) (hc : X.calm = true := by rfl) (hg : Gl X "sum" := by rfl)
    (he : starEach [e] X.env = (false, eval e X.env) :: starEach [] X.env := by rfl) (hpl : (backTo pos (starEach [] X.env)).any (·.1) = false := by rfl) : WE X ρ M (.Call (.Name "sum" p) [e] [] pos) Φ :=
  we_callB (cr_sum hc) hm (by decide +kernel) (wa_cons (h.imp fun d M1 h => wa_nil fun Z vs H Q w rr k => by
    obtain ⟨v, rfl, r⟩ := rr.one
    obtain ⟨ns, hl, h⟩ := h
    obtain ⟨q, vs, rfl, hq, rs⟩ := r.asLst w hl
    rw [rs.ints] at hq
    exact ⟨q, ns, rfl, hq, k.now w (.int _) h⟩) he) hg (he := he) (hpl := hpl)
theorem we_all (hm : X.mg "all" = none) (h : WE X ρ M e fun d M1 => ∃ bs : List Bool, LstOf M1 d (bs.map D.bl) ∧ Φ (.bl (bs.all id)) M1) (hc : X.calm = true := by rfl) (hg : Gl X "all" := by rfl)
    (he : starEach [e] X.env = (false, eval e X.env) :: starEach [] X.env := by rfl) (hpl : (backTo pos (starEach [] X.env)).any (·.1) = false := by rfl) : WE X ρ M (.Call (.Name "all" p) [e] [] pos) Φ :=
  we_callB (cr_all hc) hm (by decide +kernel) (wa_cons (h.imp fun d M1 h => wa_nil fun Z vs H Q w rr k => by
    obtain ⟨v, rfl, r⟩ := rr.one
    obtain ⟨ns, hl, h⟩ := h
    obtain ⟨q, vs, rfl, hq, rs⟩ := r.asLst w hl
    rw [rs.bls] at hq
    exact ⟨q, ns, rfl, hq, k.now w (.bl _) h⟩) he) hg (he := he) (hpl := hpl)
/-- tuple(xs), list(xs) -/
theorem we_tupleOf (hm : X.mg "tuple" = none) (h : WE X ρ M e fun d M1 => ∃ ds, (LstOf M1 d ds ∨ d = .tup ds) ∧ Φ (.tup ds) M1) (hg : Gl X "tuple" := by rfl)
    (he : starEach [e] X.env = (false, eval e X.env) :: starEach [] X.env := by rfl) (hpl : (backTo pos (starEach [] X.env)).any (·.1) = false := by rfl) : WE X ρ M (.Call (.Name "tuple" p) [e] [] pos) Φ :=
  we_callTy call_tuple_of hm (by decide +kernel) (wa_cons (h.imp fun d M1 h => wa_nil fun Z vs H Q w rr k => by
    obtain ⟨v, rfl, r⟩ := rr.one
    obtain ⟨ds, hl | rfl, h⟩ := h
    · obtain ⟨q, vs, rfl, hq, rs⟩ := r.asLst w hl
      exact ⟨q, vs, rfl, .inl ⟨hq, fun l hp => k.new w hp (.tup (.inl upd_same) (w.fresh hp) (rs.mono (Ext.new w hp))) h⟩⟩
    · obtain ⟨q, vs, rfl, hq, rs⟩ := r.asTup
      exact ⟨q, vs, rfl, .inr ⟨hq, k.now w r h⟩⟩) he) hg (he := he) (hpl := hpl)
/-- a class as data -/
def ClsD : D → Value → Prop
  | .ty n, u => u = .type n
  | .fn C, u => u = .ref C
  | _, _ => False
theorem we_isi (hm : X.mg "isinstance" = none) (h : WE X ρ M a fun x M1 => WE X ρ M1 b fun y M2 => ∃ t u c, TyD M2 x t ∧ ClsD y u ∧ (∀ C, t = .ref C → OwnC X.K C) ∧ PySem.W.kitOne X.K t u = some c ∧ Φ (.bl c) M2) (hg : Gl X "isinstance" := by rfl)
    (ha : starEach [a, b] X.env = (false, eval a X.env) :: starEach [b] X.env := by rfl) (hb : starEach [b] X.env = (false, eval b X.env) :: starEach [] X.env := by rfl) (hpl : (backTo pos (starEach [b] X.env)).any (·.1) = false := by rfl) : WE X ρ M (.Call (.Name "isinstance" p) [a, b] [] pos) Φ :=
  we_callB call_isi hm (by decide +kernel) (wa_cons (h.imp fun x M1 h => wa_cons (h.imp fun y M2 h => wa_nil fun Z vs H Q w rr k => by
    obtain ⟨v, u, rfl, r1, r2⟩ := rr.two
    obtain ⟨t, cu, c, h1, h2, own, h3, h⟩ := h
    refine ⟨v, u, t, cu, c, rfl, ?_, h1.rep r1 own, h3, k.now w (.bl _) h⟩
    cases r2 with
    | ty n => cases h2; exact .ty n
    | fn C => cases h2; exact .own C
    | _ => cases h2) hb) ha) hg (he := ha) (hpl := hpl)
theorem we_m1 {id : String} {name : Str} {r : V → List V → Hp → VK → Prop} (slot : Slot "str" name id) (ty : typeOf (.builtin id) = pure (.type "method_descriptor")) (rule : MtR X id r)
    (h : WE X ρ M o fun d M1 => ∃ z, d = .str z ∧ WE X ρ M1 e fun y M2 => ∀ Z H Q u, Wd X.K M2 Z H → Rep X.K M2 Z H u y → KE X.K M2 Z H Φ Q → r (.str z) [u] H Q)
    (hs : starEach [e] X.env = [(false, eval e X.env)] := by rfl) (hbase : attributeBase o name X.env (eval o X.env) = eval o X.env := by rfl) (hline : (apos.endLine == pos.line) = true := by rfl) : WE X ρ M (.Call (.Attribute o name apos) [e] [] pos) Φ := .mk fun σ H Q en w k =>
  eOf (pe_m1 slot ty rule pe_sem pe_sem hs hbase hline) (h.run σ H _ en w fun v d H1 M1 e1 w1 r1 hz => by
    obtain ⟨z, rfl, hz⟩ := hz
    cases r1
    exact ⟨⟨z, rfl⟩, hz.run σ H1 _ (en.mono e1) w1 fun u y H2 M2 e2 w2 r2 hy => hy _ H2 Q u w2 r2 (k.step (e1.trans e2))⟩)
theorem we_startswith (h : WE X ρ M o fun d M1 => ∃ z, d = .str z ∧ WE X ρ M1 e fun y M2 => ∃ s, y = .str s ∧ Φ (.bl (Txt.startswith z s)) M2) (hs : starEach [e] X.env = [(false, eval e X.env)] := by rfl) (hbase : attributeBase o "startswith" X.env (eval o X.env) = eval o X.env := by rfl) (hline : (apos.endLine == pos.line) = true := by rfl) : WE X ρ M (.Call (.Attribute o "startswith" apos) [e] [] pos) Φ :=
  we_m1 F.slot_str_startswith F.type_str_startswith mt_startswith (h.imp fun d M1 ⟨z, e1, h⟩ => ⟨z, e1, h.imp fun y M2 ⟨s, e2, h⟩ Z H Q u w r k => by subst e2; cases r; exact ⟨z, s, rfl, rfl, k.now w (.bl _) h⟩⟩) hs hbase hline
theorem we_partition (h : WE X ρ M o fun d M1 => ∃ z, d = .str z ∧ WE X ρ M1 e fun y M2 => ∃ s, y = .str s ∧ (s.length == 0) = false ∧ z.length ≤ sizeLine ∧ Φ (.tup [.str (Txt.partition z s).1, .str (Txt.partition z s).2.1, .str (Txt.partition z s).2.2]) M2) (hs : starEach [e] X.env = [(false, eval e X.env)] := by rfl) (hbase : attributeBase o "partition" X.env (eval o X.env) = eval o X.env := by rfl) (hline : (apos.endLine == pos.line) = true := by rfl) : WE X ρ M (.Call (.Attribute o "partition" apos) [e] [] pos) Φ :=
  we_m1 F.slot_str_partition F.type_str_partition mt_partition (h.imp fun d M1 ⟨z, e1, h⟩ => ⟨z, e1, h.imp fun y M2 ⟨s, e2, h1, h2, h⟩ Z H Q u w r k => by
    subst e2
    cases r
    exact ⟨z, s, rfl, rfl, h1, h2, fun q hq => k.new w hq (.tup (.inl upd_same) (w.fresh hq) (.cons (.str _) (.cons (.str _) (.cons (.str _) .nil)))) h⟩⟩) hs hbase hline
theorem we_join (h : WE X ρ M o fun d M1 => ∃ z, d = .str z ∧ WE X ρ M1 e fun y M2 => ∃ ys : List Str, (LstOf M2 y (ys.map D.str) ∨ y = .tup (ys.map D.str)) ∧ (ys.map (·.length)).sum + ys.length * z.length ≤ 16777216 ∧ Φ (.str (Txt.join z ys)) M2) (hs : starEach [e] X.env = [(false, eval e X.env)] := by rfl) (hbase : attributeBase o "join" X.env (eval o X.env) = eval o X.env := by rfl) (hline : (apos.endLine == pos.line) = true := by rfl) : WE X ρ M (.Call (.Attribute o "join" apos) [e] [] pos) Φ :=
  we_m1 F.slot_str_join F.type_str_join mt_join (h.imp fun d M1 ⟨z, e1, h⟩ => ⟨z, e1, h.imp fun y M2 ⟨ys, e2, h1, h⟩ Z H Q u w r k => by
    rcases e2 with e2 | rfl
    · obtain ⟨q, vs, rfl, hq, rs⟩ := r.asLst w e2
      rw [rs.strs] at hq
      exact ⟨z, q, ys, rfl, rfl, .inl hq, h1, k.now w (.str _) h⟩
    · obtain ⟨q, vs, rfl, hq, rs⟩ := r.asTup
      rw [rs.strs] at hq
      exact ⟨z, q, ys, rfl, rfl, .inr hq, h1, k.now w (.str _) h⟩⟩) hs hbase hline
/-- the parts' texts, one behind another -/
def WJ (X : Cx) (ρ : Rho) : List Expr → Mp → Str → (Str → Mp → Prop) → Prop
  | [], M, acc, Ω => Ω acc M
  | e :: es, M, acc, Ω => WE X ρ M e fun d M1 => ∃ y : Str, d = .str y ∧ (acc ++ y).length ≤ sizeLine ∧ WJ X ρ es M1 (acc ++ y) Ω
theorem pj_sem : ∀ es : List Expr, PJ X es (es.map (eSem X))
  | [] => .nil
  | e :: es => .cons pe_sem (pj_sem es)
theorem wj_run {Z : Zn} {σ : L2.St} : ∀ (es : List Expr) {M : Mp} {H : Hp} {acc : Str} {Ω : Str → Mp → Prop} {Q : Str → Hp → Prop}, WJ X ρ es M acc Ω → EnvR X.K M Z H σ ρ → Wd X.K M Z H → (∀ y H' M', Ext M Z H M' H' → Wd X.K M' Z H' → Ω y M' → Q y H') → tJs (es.map (eSem X)) acc σ H Q
  | [], M, H, acc, Ω, Q, h, en, w, k => k acc H M Ext.refl w h
  | e :: es, M, H, acc, Ω, Q, h, en, w, k => (show WE X ρ M e (fun d M1 => ∃ y : Str, d = .str y ∧ (acc ++ y).length ≤ sizeLine ∧ WJ X ρ es M1 (acc ++ y) Ω) from h).run σ H _ en w fun v d H1 M1 e1 w1 r1 hz => by
    obtain ⟨y, rfl, hl, hz⟩ := hz
    cases r1
    exact ⟨y, rfl, hl, wj_run es hz (en.mono e1) w1 fun y H' M' x w' z => k y H' M' (e1.trans x) w' z⟩
theorem we_fstr {v1 v2 : Expr} {rest : List Expr} (h : WJ X ρ (v1 :: v2 :: rest) M Str.empty fun y M1 => Φ (.str y) M1) : WE X ρ M (.JoinedStr (v1 :: v2 :: rest) pos) Φ := .mk fun σ H Q en w k =>
  eOf (pe_joined (pj_sem _)) (wj_run _ h en w fun y H' M' x w' z => (k.step x).now w' (.str y) z)
theorem we_fmt (h : WE X ρ M e fun d M1 => (∃ y : Str, d = .str y ∧ y.length ≤ sizeLine ∧ Φ (.str y) M1) ∨ ∃ i : Int, d = .int i ∧ i.natAbs.log2 < 1920 ∧ Φ (.str (toString i)) M1) : WE X ρ M (.FormattedValue e (-1) none pos) Φ := .mk fun σ H Q en w k =>
  eOf (pe_fmt pe_sem) (h.run σ H _ en w fun v d H1 M1 e1 w1 r1 hz => by
    rcases hz with ⟨y, rfl, hl, hz⟩ | ⟨i, rfl, hl, hz⟩
    · cases r1; exact .inl ⟨y, rfl, hl, (k.step e1).now w1 (.str y) hz⟩
    · cases r1; exact .inr ⟨i, rfl, hl, (k.step e1).now w1 (.str _) hz⟩)
theorem we_append (h : WE X ρ M o fun d M1 => ∃ q ds0, d = .ob q ∧ M1 q = some (.lst ds0) ∧ WE X ρ M1 e fun y M2 => ∃ ds, M2 q = some (.lst ds) ∧ ds.length < sizeLine ∧ Φ .non (mset M2 q (.lst (ds ++ [y]))))
    (hbase : attributeBase o "append" X.env (eval o X.env) = eval o X.env := by rfl)
    (hfew : ((backTo pos (starEach (e :: []) X.env)).all (fun x => !x.1) && (backToKw pos (keywordEach [] X.env)).all (fun x => x.1.isSome)
      && decide ((e :: []).length + ([] : List Keyword).length + (if ([] : List Keyword).isEmpty then 0 else 1) < 30)) = true := by rfl)
    (hline : (apos.endLine == pos.line) = true := by rfl) (hs : starEach (e :: []) X.env = (false, eval e X.env) :: starEach [] X.env := by rfl) (hplain : (backTo pos (starEach [] X.env)).any (·.1) = false := by rfl) : WE X ρ M (.Call (.Attribute o "append" apos) [e] [] pos) Φ := .mk fun σ H Q en w k =>
  eOf (pe_bm PySem.F.plainAttrs_list PySem.F.slot_list_append PySem.F.type_list_append mt_append pe_sem (pa_cons pe_sem pa_nil hs) hbase hfew hline hs hplain) (h.run σ H _ en w fun v d H1 M1 e1 w1 r1 hz => by
    obtain ⟨q, ds0, rfl, hM, hz⟩ := hz
    cases r1
    obtain ⟨vs0, h0, _⟩ := w1.1 q _ hM
    refine ⟨.inl ⟨rfl, _, .inl (.inl h0)⟩, hz.run σ H1 _ (en.mono e1) w1 fun u y H2 M2 e2 w2 r2 hy => ?_⟩
    obtain ⟨ds, hM2, hl, hy⟩ := hy
    obtain ⟨vs, hv, rs⟩ := w2.1 q _ hM2
    refine ⟨q, vs, u, rfl, rfl, hv, by rw [rs.length]; exact hl, ?_⟩
    have x3 : Ext M2 _ H2 (mset M2 q (.lst (ds ++ [y]))) (upd H2 q (.lst (vs ++ [u]))) := Ext.put w2 hM2
    exact k _ .non _ _ ((e1.trans e2).trans x3) (w2.put hM2 ⟨_, upd_same, (rs.append (.cons r2 .nil)).mono x3⟩) .non hy)
/-- xs[i] = e -/
theorem wg_sub {i : Expr} {d : D} {Ω : Rho → Mp → Prop} (h : WE X ρ M o fun x M1 => WE X ρ M1 i fun y M2 => ∃ q ds n j, x = .ob q ∧ y = .int n ∧ M2 q = some (.lst ds) ∧ ixN ds.length n = some j ∧ Ω ρ (mset M2 q (.lst (ds.set j d))))
    (ha : ∀ v, assign (.Subscript o i pos) X.env v = (do
      let ov ← holding [v] (eval o X.env)
      let iv ← holding [v, ov] (eval i X.env)
      standAt pos
      holding [v, ov, iv] (setItem ov iv v)
      release [v, ov, iv] []) := by intro _; rfl) : WG X (.Subscript o i pos) d ρ M Ω := .mk fun {Z} σ H v Q en w r k =>
  gOf (pg_sub pe_sem pe_sem set_list ha) (bind2 h en w fun v1 v2 x y H2 M2 e2 w2 r1 r2 hz => by
    obtain ⟨q, ds, n, j, rfl, rfl, hM, hj, hz⟩ := hz
    cases r1; cases r2
    obtain ⟨vs, hv, rs⟩ := w2.1 q _ hM
    refine ⟨q, vs, n, j, rfl, rfl, hv, by rw [rs.length]; exact hj, ?_⟩
    have x3 : Ext M2 _ H2 (mset M2 q (.lst (ds.set j d))) (upd H2 q (.lst (vs.set j v))) := Ext.put w2 hM
    exact k σ ρ _ _ (e2.trans x3) (w2.put hM ⟨_, upd_same, (Reps.set (r.mono e2) j rs).mono x3⟩) (en.mono (e2.trans x3)) hz)
/-- [*xs, ..] -/
theorem wa_star {sp : Pos} {ΦA : List D → Mp → Prop} (h : WE X ρ M e fun d M1 => ∃ xs, (LstOf M1 d xs ∨ d = .tup xs) ∧ WA X ρ M1 es fun ds M2 => ∀ ys, ys = xs ++ ds → ΦA ys M2) (hs : starEach (.Starred e sp :: es) X.env = (true, eval e X.env) :: starEach es X.env := by rfl) : WA X ρ M (.Starred e sp :: es) ΦA := .mk fun σ H Q en w k =>
  aOf (StX.pa_star pe_sem pa_sem hs) (h.run σ H _ en w fun v d H1 M1 e1 w1 r1 hz => by
    obtain ⟨xs, hl, hz⟩ := hz
    obtain ⟨q, vs, rfl, hq, rs⟩ : ∃ q vs, v = .ref q ∧ (SqT X.K H1 q vs ∨ SqL X.K H1 q vs) ∧ Reps X.K M1 _ H1 vs xs := by
      rcases hl with hl | rfl
      · obtain ⟨q, vs, e, hq, rs⟩ := r1.asLst w1 hl; exact ⟨q, vs, e, .inr hq, rs⟩
      · obtain ⟨q, vs, e, hq, rs⟩ := r1.asTup; exact ⟨q, vs, e, .inl hq, rs⟩
    exact ⟨q, vs, rfl, hq, hz.run σ H1 _ (en.mono e1) w1 fun us ds H2 M2 e2 w2 r2 hy => k (vs ++ us) (xs ++ ds) H2 M2 (e1.trans e2) w2 ((rs.mono e2).append r2) (hy _ rfl)⟩)
end
end DL
namespace DL
open PySem PySem.Spec PyProof.Rows L2
section
variable {X : Cx} {ρ : Rho} {M : Mp} {tg a b e : Expr} {pos p : Pos} {Φ : List D → Mp → Prop}
/-- the signs of a text -/
def signs (x : Str) : List D := x.cps.toList.map fun c => .str ⟨#[c]⟩
theorem sq_str {K : PySem.W.Frag} {M1 : Mp} {Z1 : Zn} {H1 : Hp} (x : Str) : Sq K M1 Z1 H1 (Its x) (signs x) := fun i M Z H e w => by
  refine ⟨fun hi => ?_, fun d hd => ?_⟩
  · show x.cps.size ≤ i
    rw [hi]; simp [signs]
  · unfold signs at hd
    rw [List.getElem?_map] at hd
    obtain ⟨c, hc, rfl⟩ := Option.map_eq_some_iff.mp hd
    rw [Array.getElem?_toList] at hc
    refine ⟨(Array.getElem?_eq_some_iff.mp hc).1, fun v H' y => ?_⟩
    obtain ⟨rfl, c', hc', rfl⟩ := y
    rw [hc] at hc'; cases hc'
    exact ⟨Ext.refl, w, .str _⟩
theorem wi_str (h : WE X ρ M e fun d M1 => ∃ x, d = .str x ∧ Φ (signs x) M1) : WI X ρ M tg e Φ := .mk fun σ H R en w k =>
  iOf (pi_str pe_sem) (h.run σ H _ en w fun v d H1 M1 e1 w1 r1 hz => by
    obtain ⟨x, rfl, hz⟩ := hz
    cases r1
    exact ⟨x, rfl, k _ _ H1 M1 e1 w1 (sq_str x) hz⟩)
/-- zip of two tuples -/
def zipD (xs ys : List D) : List D := (xs.zip ys).map fun q => .tup [q.1, q.2]
theorem zipD_get {xs ys : List D} {i : Nat} {d : D} (h : (zipD xs ys)[i]? = some d) : ∃ x y, xs[i]? = some x ∧ ys[i]? = some y ∧ d = .tup [x, y] := by
  unfold zipD at h
  rw [List.getElem?_map] at h
  obtain ⟨⟨x, y⟩, hq, rfl⟩ := Option.map_eq_some_iff.mp h
  rw [List.getElem?_zip_eq_some] at hq
  exact ⟨x, y, hq.1, hq.2, rfl⟩
end
end DL
namespace DL
open PySem PySem.Spec PyProof.Rows L2
section
variable {P : Program} {w : World} {A : Around} {E : Value → Shared → Prop} {s : Shared}
abbrev emptySet (w : World) : Obj := { cls := .type "set", dict := none, data := .set #[] 0 (.fresh 0 0 (!w.params.followText "set-order")) }
end
end DL
namespace DL
open PySem PySem.Spec PyProof.Rows L2
section
variable {X : Cx} {ρ : Rho} {M : Mp} {Φ : D → Mp → Prop} {Θ : Bool → Mp → Prop} {a b e o : Expr} {es : List Expr} {pos p apos : Pos} {x : Str}
theorem inV_strs (z : Str) : ∀ zs : List Str, inV (.str z) (zs.map V.str) = decide (z ∈ zs)
  | [] => rfl
  | y :: zs => by
    have ih := inV_strs z zs
    unfold inV at ih ⊢
    rw [List.map_cons, List.any_cons, ih]
    show (decide (y = z) || _) = _
    by_cases h : y = z
    · subst h; simp
    · have h' : ¬ z = y := fun q => h q.symm
      simp [h, h']
theorem flat_strs (zs : List Str) : (zs.map V.str).all flatV = true := by
  rw [List.all_map]; exact List.all_eq_true.mpr fun _ _ => rfl
theorem rd_inS {x y : D} (h : ∃ (z : Str) (zs : List Str), x = .str z ∧ (y = .tup (zs.map D.str) ∨ LstOf M y (zs.map D.str)) ∧ Φ (.bl (decide (z ∈ zs))) M) : RD X.K (rIn X.K false) x y M Φ := fun Z v u H Q w r1 r2 k => by
  obtain ⟨z, zs, rfl, hy, h⟩ := h
  cases r1
  rcases hy with rfl | hy
  · obtain ⟨q, vs, rfl, hq, rs⟩ := r2.asTup
    rw [rs.strs] at hq
    exact ⟨q, _, rfl, .inr hq, rfl, flat_strs zs, by rw [inV_strs]; exact k.now w (.bl _) h⟩
  · obtain ⟨q, vs, rfl, hq, rs⟩ := r2.asLst w hy
    rw [rs.strs] at hq
    exact ⟨q, _, rfl, .inl hq, rfl, flat_strs zs, by rw [inV_strs]; exact k.now w (.bl _) h⟩
theorem we_inS (h : WE X ρ M a fun x M1 => WE X ρ M1 b fun y M2 => ∃ (z : Str) (zs : List Str), x = .str z ∧ (y = .tup (zs.map D.str) ∨ LstOf M2 y (zs.map D.str)) ∧ Φ (.bl (decide (z ∈ zs))) M2) (hm : behindInMarks .In b = false := by rfl) : WE X ρ M (.Compare a [.In] [b] pos) Φ :=
  we_cmp op_in_seq hm (h.imp fun _ _ h => h.imp fun _ _ h => rd_inS h)
theorem wt_inS (h : WE X ρ M a fun x M1 => WE X ρ M1 b fun y M2 => ∃ (z : Str) (zs : List Str), x = .str z ∧ (y = .tup (zs.map D.str) ∨ LstOf M2 y (zs.map D.str)) ∧ Θ (decide (z ∈ zs)) M2) (hm : behindInMarks .In b = false := by rfl) : WT X ρ M (.Compare a [.In] [b] pos) Θ :=
  wt_cmp op_in_seq hm (h.imp fun _ _ h => h.imp fun _ _ ⟨z, zs, e1, e2, h⟩ => rd_inS ⟨z, zs, e1, e2, _, rfl, h⟩)
theorem we_powW (h : WE X ρ M a fun x M1 => WE X ρ M1 b fun y M2 => ∃ i j, x = .int i ∧ y = .int j ∧ (0 ≤ j ∧ (Builtin.Int.intBits i : Int) * j ≤ 2 ^ 27) ∧ Φ (.int (i ^ j.toNat)) M2) : WE X ρ M (.BinOp a .Pow b pos) Φ :=
  we_op (r := rI (fun i j => 0 ≤ j ∧ (Builtin.Int.intBits i : Int) * j ≤ 2 ^ 27) fun i j => .int (i ^ j.toNat)) (opI fun _ _ _ _ _ _ _ hc q => pow_int hc.1 hc.2 q) (h.imp fun _ _ h => h.imp fun _ _ h => rd_I h)
variable {Ψ : DE}
theorem ws_par3 (i j l : Nat) {x y z : Str} {c : Expr} {px py pz pt pt2 : Pos} {kt k2 : Nat} (hN : X.N.Nodup) (h : WA X ρ M [a, b, c] fun ds M1 => ∃ d1 d2 d3, ds = [d1, d2, d3] ∧ Ψ.nx (((ρ.set i (some d1)).set j (some d2)).set l (some d3)) M1)
    (hi : X.N[i]? = some x := by rfl) (hj : X.N[j]? = some y := by rfl) (hl : X.N[l]? = some z := by rfl) (hij : i ≠ j := by decide) (hil : i ≠ l := by decide) (hjl : j ≠ l := by decide)
    (hx : X.env.scope.names.lookup x = some .local := by rfl) (hy : X.env.scope.names.lookup y = some .local := by rfl) (hz : X.env.scope.names.lookup z = some .local := by rfl)
    (hw : swappedStores [.Tuple [.Name x px, .Name y py, .Name z pz] kt pt] (.Tuple [a, b, c] k2 pt2) X.env = pure (some [x, y, z]) := by rfl) (hc : X.calm = true := by rfl)
    (hs : swapsWithSole [.Tuple [.Name x px, .Name y py, .Name z pz] kt pt] (.Tuple [a, b, c] k2 pt2) pos.line X.env = pure false := by rfl) : WS X ρ M (.Assign [.Tuple [.Name x px, .Name y py, .Name z pz] kt pt] (.Tuple [a, b, c] k2 pt2) pos) Ψ := .mk fun σ H E en w k =>
  sOf (ps_par3 hc hN hi hj hl hij hil hjl hx hy hz pa_sem hw hs) (h.run σ H _ en w fun vs ds H1 M1 e1 w1 r1 hq => by
    obtain ⟨d1, d2, d3, rfl, hq⟩ := hq
    obtain ⟨v1, v2, v3, rfl, q1, q2, q3⟩ := r1.three
    exact ⟨_, _, _, rfl, k.nx _ _ H1 M1 e1 w1 ((((en.mono e1).set q1 i).set q2 j).set q3 l) hq⟩)
end
end DL
namespace DL
open PySem PySem.Spec PyProof.Rows L2
/-- the module's def x is the statement st; dvs: its defaults -/
structure Df (K : PySem.W.Frag) (mg : Str → Option Value) (x : Str) (st : Stmt) (dvs : List V) : Prop where
  ex : ∃ (f : Addr) (fd : FuncData), FunD K x x (defArgs st) (defBody st) (defScope st) dvs [] f fd ∧ mg x = some (.ref f)
section
variable {P : Program} {w : World} {K : PySem.W.Frag} {mg : Str → Option Value} {base : Heap} {x : Str} {st : Stmt} {N ps : List Str} {j k n : Nat} {c : Con} {dd : List D} {C : Addr} {m : Str}
theorem Fc.up (F : Fc P w K mg base x dd j n c) (h : j ≤ k) : Fc P w K mg base x dd k n c := by
  obtain ⟨f, fd, ps, dvs, ds, F, r⟩ := F.ex
  exact ⟨f, fd, ps, dvs, ds, F.mono h, r⟩
theorem Kc.up (F : Kc P w K mg base x C dd j n c) (h : j ≤ k) : Kc P w K mg base x C dd k n c := by
  obtain ⟨f, fd, ps, dvs, ds, G, r⟩ := F.ex
  exact ⟨F.at_, f, fd, ps, dvs, ds, G.mono h, r⟩
theorem Mc.up (F : Mc P w K mg base C m dd j n c) (h : j ≤ k) : Mc P w K mg base C m dd k n c := by
  obtain ⟨f, fd, ps, dvs, ds, G, r⟩ := F.ex
  exact ⟨F.cl, f, fd, ps, dvs, ds, G.mono h, r⟩
theorem Pc.up (F : Pc P w K mg base C m j c) (h : j ≤ k) : Pc P w K mg base C m k c := by
  obtain ⟨p, g, fd, ps, G, r⟩ := F.ex
  exact ⟨F.cl, p, g, fd, ps, G.mono h, r⟩
theorem Df.fc (D : Df K mg x st []) (S : FnScope N ps (defScope st))
    (hb : ∀ (kV doc pm : Value) (an : Option Addr) (cdv ct : Value) (us : List Value), us.length = ps.length → bindArgs (PySem.W.fnOf x x (defArgs st) (defBody st) (defScope st) .none kV doc pm an cdv ct) ⟨us, []⟩ = pure (ps.zip us))
    (h : BodyOk P w K mg base x st N ps.length k c) : Fc P w K mg base x [] (k + 1) ps.length c := by
  obtain ⟨f, fd, F, hm⟩ := D.ex
  exact ⟨f, fd, ps, [], [], fn_ok F S (h f), hm, F.kp, F.bindsN hb, .nil, fun _ _ _ => .nil⟩
/-- with defaults: n values are written, the defaults behind the first j fill up -/
theorem Df.fcD {dvs : List V} (D : Df K mg x st dvs) (S : FnScope N ps (defScope st)) (nn jj : Nat) (hd : dvs ≠ []) (hn : nn + (dvs.length - jj) = ps.length) (hr : ∀ M Z H, Reps K M Z H (dvs.drop jj) dd)
    (hb : ∀ (T : Addr) (kV doc pm : Value) (an : Option Addr) (cdv ct : Value) (us its : List Value), us.length = nn → its.length = dvs.length →
      ∃ k, bindArgs (PySem.W.fnOf x x (defArgs st) (defBody st) (defScope st) (.ref T) kV doc pm an cdv ct) ⟨us, []⟩ = seqItems? (.ref T) >>= k ∧ k (some its.toArray) = pure (ps.zip (us ++ its.drop jj)))
    (h : BodyOk P w K mg base x st N ps.length k c) : Fc P w K mg base x dd (k + 1) ps.length c := by
  obtain ⟨f, fd, F, hm⟩ := D.ex
  obtain ⟨ds, hv, hB⟩ := F.binds1 (ps := ps) nn jj hd hn hb
  exact ⟨f, fd, ps, dvs.drop jj, ds, fn_ok F S (h f), hm, F.kp, hB, hv, hr⟩
end
section
variable {P : Program} {w : World} {K : PySem.W.Frag} {mg : Str → Option Value} {base : Heap} {x qual : Str} {st : Stmt} {N ps : List Str} {j k n : Nat} {c : Con} {dd : List D} {C : Addr} {m : Str} {f p : Addr}
theorem Md.pc (D : Md K C m qual st f) (cl : Cls K C) (me : PropOf K C m p f) (S : FnScope N ["self"] (defScope st))
    (hb : ∀ (kV doc pm : Value) (an : Option Addr) (cdv ct : Value) (us : List Value), us.length = 1 → bindArgs (PySem.W.fnOf m qual (defArgs st) (defBody st) (defScope st) .none kV doc pm an cdv ct) ⟨us, []⟩ = pure ((["self"] : List Str).zip us))
    (h : BodyOk P w K mg base qual st N 1 k c) : Pc P w K mg base C m (k + 1) c := by
  obtain ⟨fd, F⟩ := D.ex
  exact ⟨cl, p, f, fd, ["self"], fn_ok F S (h f), me, F.bindsN hb⟩
end
end DL
namespace DL
open PySem PySem.Spec PyProof.Rows L2
/-- d can be compared: it is p, k deep at most -/
structure CmpD (d : D) (p : PyData) (k : Nat) : Prop where
  eq : toPy d = some p
  lay : p.canLay0 = true
  dep : p.depth ≤ k
theorem CmpD.shaped {d : D} {p : PyData} {k : Nat} (h : CmpD d p k) (hk : k ≤ 64) : SeqAt.shaped p = true := by
  unfold SeqAt.shaped
  rw [h.lay, decide_eq_true (Nat.le_trans h.dep hk)]; rfl
theorem cmp_int (i : Int) : CmpD (.int i) (.int i) 0 := ⟨by simp [toPy], by simp [PyData.canLay0], by simp [PyData.depth]⟩
theorem cmp_bl (i : Bool) : CmpD (.bl i) (.bool i) 0 := ⟨by simp [toPy], by simp [PyData.canLay0], by simp [PyData.depth]⟩
theorem cmp_non : CmpD .non .none 0 := ⟨by simp [toPy], by simp [PyData.canLay0], by simp [PyData.depth]⟩
theorem cmp_str {x : Str} (h : ∀ c ∈ x.cps.toList, c < 0x110000) : CmpD (.str x) (.str x) 0 := ⟨by simp [toPy], by
  simp only [PyData.canLay0, PyData.strOk]
  rw [← Array.all_toList]
  exact List.all_eq_true.mpr fun c hc => decide_eq_true (h c hc), by simp [PyData.depth]⟩
theorem cmps_nil {k : Nat} : CmpDs [] [] k := ⟨by simp [toPys], by simp [PyData.canLayAll0], by simp [PyData.depthAll]⟩
theorem cmps_cons {d : D} {p : PyData} {ds : List D} {ps : List PyData} {k j : Nat} (h : CmpD d p j) (hj : j ≤ k) (t : CmpDs ds ps k) : CmpDs (d :: ds) (p :: ps) k := ⟨by
  simp only [toPys, h.eq, t.eq]; rfl, by simp only [PyData.canLayAll0, h.lay, t.lay]; rfl, by
  simp only [PyData.depthAll]; have := h.dep; have := t.dep; omega⟩
theorem cmps_map {α : Type} {f : α → D} {g : α → PyData} {k j : Nat} (hj : j ≤ k) : ∀ {xs : List α}, (∀ x ∈ xs, CmpD (f x) (g x) j) → CmpDs (xs.map f) (xs.map g) k
  | [], _ => cmps_nil
  | x :: xs, h => cmps_cons (h x List.mem_cons_self) hj (cmps_map hj fun y hy => h y (List.mem_cons_of_mem _ hy))
theorem cmp_lst {ds : List D} {ps : List PyData} {k : Nat} (h : CmpDs ds ps k) : CmpD (.lst ds) (.list ps) (k + 1) := ⟨by simp only [toPy, h.eq]; rfl, by simp only [PyData.canLay0, h.lay], by simp only [PyData.depth]; have := h.dep; omega⟩
theorem cmp_tup {ds : List D} {ps : List PyData} {k : Nat} (h : CmpDs ds ps k) : CmpD (.tup ds) (.tuple ps) (k + 1) := ⟨by simp only [toPy, h.eq]; rfl, by simp only [PyData.canLay0, h.lay], by simp only [PyData.depth]; have := h.dep; omega⟩
theorem eqv_nilL (ps : List PyData) : PyData.eqv (.list ps) (.list []) = ps.isEmpty := by
  cases ps <;> simp [PyData.eqv, PyData.eqvAll]
section
variable {X : Cx} {ρ : Rho} {M : Mp} {Φ : D → Mp → Prop} {Θ : Bool → Mp → Prop} {a b : Expr} {pos : Pos}
theorem shaped_nilL : SeqAt.shaped (.list []) = true := by decide +kernel
theorem isEmpty_len {α β : Type} {xs : List α} {ys : List β} (h : xs.length = ys.length) : xs.isEmpty = ys.isEmpty := by
  cases xs <;> cases ys <;> simp_all
/-- x != [] -/
theorem wt_neNil {lp : Pos} (hu : X.A.units + 64 < cLine) (h : WE X ρ M a fun x M1 => ∃ xs ps k, x = .lst xs ∧ CmpDs xs ps k ∧ k ≤ 60 ∧ Θ (!xs.isEmpty) M1) : WT X ρ M (.Compare a [.NotEq] [.List [] lp] pos) Θ :=
  wt_neD hu (h.imp fun x M1 ⟨xs, ps, k, e, c, hk, h⟩ => we_lst (wa_nil ⟨Nat.zero_le _, _, _, by rw [e]; exact (cmp_lst c).eq, by simp [toPy, toPys], (cmp_lst c).shaped (by omega), shaped_nilL, by rw [eqv_nilL, isEmpty_len c.length]; exact h⟩))
end
end DL
namespace DL
open PySem PySem.Spec PyProof.Rows L2
section
variable {P : Program} {w : World} {K : PySem.W.Frag} {mg : Str → Option Value} {base : Heap} {x qual : Str} {st : Stmt} {kws : List (Str × V)} {f : Addr} {fd : FuncData} {N ps : List Str} {k n : Nat} {c : Con}
theorem FnG.mono {j : Nat} {sp : Sp} (F : FnG P w K mg base j f fd ps sp) (h : j ≤ k) : FnG P w K mg base k f fd ps sp := ⟨F.len, fun A outer s H args us vs Q E hg hr => F.run A outer s H args us vs Q E hg (hr.mono h)⟩
/-- a body keeps a contract where nothing is being shown -/
def BodyG (P : Program) (w : World) (K : PySem.W.Frag) (mg : Str → Option Value) (base : Heap) (qual : Str) (st : Stmt) (N : List Str) (n k : Nat) (c : Con) : Prop :=
  ∀ (f : Addr) (cdv : Value) (A : Around) (outer : List Env) (s : Shared) (H : Hp) (E : XK), (A.deeper (envOfC qual (defScope st) s.heap.objs.size f cdv)).guards = some [] → Room k (A.deeper (envOfC qual (defScope st) s.heap.objs.size f cdv)) → ∀ ds M Φ, ds.length = n → c ds M Φ →
      WSs (bx P w K mg base N qual (defScope st) f cdv A outer s H E) (start N ds) M (defBody st) { nx := fun _ M' => Φ .non M', rt := Lets Φ }
theorem fnG_ok {dvs : List V} (F : FunD K x qual (defArgs st) (defBody st) (defScope st) dvs kws f fd) (S : FnScope N ps (defScope st)) (h : BodyG P w K mg base qual st N ps.length k c) : FnG P w K mg base (k + 1) f fd ps (spD K ps.length c) := by
  obtain ⟨oc, od, dV, kV, doc, pm, an, cdv, ct, osl, rfl, lk, hcd, _, _⟩ := F.ex
  have ln : ∀ vs H Q E, spD K ps.length c vs H Q E → vs.length = ps.length := fun vs H Q E q => by
    obtain ⟨ds, M, Z, Φ, hl, r, _⟩ := q
    rw [r.length, hl]
  refine ⟨ln, fun A outer s H args us vs Q E hg hr e0 hb rv hsp => ?_⟩
  have hlen := ln _ _ _ _ hsp
  have hK : K.In s.heap := e0.mod.kin.keeps fun b o z => (e0.bs b o z).1
  have hlim : s.heap.NoLimit := e0.mod.nolimit.keeps fun b o z => (e0.bs b o z).1
  have kinds : ∀ y ∈ ps.zip us, (defScope st).names.lookup y.1 = some .local ∨ ((defScope st).names.lookup y.1 = some .cell ∧ ((cellsFrom (s.heap.objs.size + 1) (defScope st).names []).lookup y.1).isSome = true) := fun y hy => by
    rcases S.par y.1 (List.of_mem_zip hy).1 with z | z
    · exact .inl z
    · exact .inr ⟨z, PySem.W.cellsFrom_some _ _ _ (.inl z)⟩
  refine codeAny_call_function hr.depth (hK _ _ lk) rfl S.co S.gen rfl (PySem.W.codeRec_of hK hcd) (hb _ _ _ _ (wpAny_newFunctionEnv_cells S.kind kinds fun env he s1 xx => ?_))
  subst he
  refine ⟨hlim.keeps xx.toInCall.keep, codeAny_func ?_⟩
  obtain ⟨ds, M, Z, Φ, hl, r, wd, hc, kk⟩ := hsp
  have I : Inv (cxOf CX0 P w K mg base N qual (defScope st) f cdv A outer s H E) [] (L2.start N vs) H s1 := inv_start S hr.hd e0 hlen rv xx
  have body := (h f cdv A outer s H E hg (hr.deeper _) ds M Φ hl hc).run (L2.start N vs) H { nx := fun _ H' => Q .non H', rt := Q } (env_start r) wd ⟨fun σ' ρ' H' M' x w' en z => kk _ .non H' M' x w' .non z, lets_k kk, fun _ _ _ _ _ _ _ z => z.elim, fun _ _ _ _ _ _ _ z => z.elim⟩
  have done : ∀ {σ' : L2.St} {H' : Hp} {v : V} {u : Value} {s' : Shared}, Inv (cxOf CX0 P w K mg base N qual (defScope st) f cdv A outer s H E) [] σ' H' s' → RelV v u → Q v H' → CE outer P w H s Q u s' := fun {σ' H' v u s'} J ru q => ⟨v, H', J.os, J.bare, J.base, J.hok, ru, q⟩
  refine wpAny_mono ((PSs.nox (pss_sem (X := bx P w K mg base N qual (defScope st) f cdv A outer s H E))).run [] s1 (L2.start N vs) H _ I body) (fun fl s' hs => ?_) fun e s' hs => hs
  cases fl with
  | ret u => obtain ⟨v, σ', H', J, ru, q⟩ := hs; exact done J ru q
  | next => obtain ⟨σ', H', J, q⟩ := hs; exact done (v := V.non) (u := Value.none) J rfl q
  | brk => obtain ⟨_, _, _, q⟩ := hs; exact q.elim
  | cont => obtain ⟨_, _, _, q⟩ := hs; exact q.elim
/-- such a def under its name -/
structure Gc (P : Program) (w : World) (K : PySem.W.Frag) (mg : Str → Option Value) (base : Heap) (x : Str) (k n : Nat) (c : Con) : Prop where
  ex : ∃ (f : Addr) (fd : FuncData) (ps : List Str), FnG P w K mg base k f fd ps (spD K n c) ∧ mg x = some (.ref f) ∧ PySem.W.keepIn K (.ref f) = true ∧ Binds K fd ps []
theorem Df.gc (D : Df K mg x st []) (S : FnScope N ps (defScope st))
    (hb : ∀ (kV doc pm : Value) (an : Option Addr) (cdv ct : Value) (us : List Value), us.length = ps.length → bindArgs (PySem.W.fnOf x x (defArgs st) (defBody st) (defScope st) .none kV doc pm an cdv ct) ⟨us, []⟩ = pure (ps.zip us))
    (h : BodyG P w K mg base x st N ps.length k c) : Gc P w K mg base x (k + 1) ps.length c := by
  obtain ⟨f, fd, F, hm⟩ := D.ex
  exact ⟨f, fd, ps, fnG_ok F S h, hm, F.kp, F.bindsN hb⟩
end
section
variable {X : Cx} {ρ : Rho} {M : Mp} {Φ : D → Mp → Prop} {e : Expr} {es : List Expr} {pos p : Pos} {x : Str} {k n : Nat} {c : Con}
theorem we_callG (F : Gc X.prog X.w X.K X.mg X.base x k n c) (hg0 : X.A.guards = some []) (hr : Room k X.A) (h : WA X ρ M (e :: es) fun ds M1 => ds.length = n ∧ c ds M1 Φ) (hg : Gl X x := by rfl)
    (hdb : (x == ("__debug__" : Str)) = false := by decide) (he : starEach (e :: es) X.env = (false, eval e X.env) :: starEach es X.env := by rfl) (hpl : (backTo pos (starEach es X.env)).any (·.1) = false := by rfl) : WE X ρ M (.Call (.Name x p) (e :: es) [] pos) Φ := .mk fun {Z} σ H Q en w k => by
  obtain ⟨f, fd, ps, F, hm, hk, hb⟩ := F.ex
  intro pins s I
  refine wpAny_Call_Name_kw (ld_glob I hg hm ?_ hdb)
  refine PySem.W.callWith_K (h₀ := X.base) I.ok.mod.kin hk (thn ((pa_sem (es := e :: es)).run pos pins s σ H (fun vs H1 => spD X.K n c vs H1 Q E0) I (h.run σ H _ en w fun vs ds H1 M1 e1 w1 r1 hz => ⟨ds, M1, Z, Φ, hz.1, r1, w1, hz.2, k.step e1⟩)) fun us s1 z => ⟨?_, ?_⟩) he hpl
  · obtain ⟨vs, H1, I1, r, q⟩ := z; exact I1.kIn
  · obtain ⟨vs, H1, I1, r, q⟩ := z
    have hl : (us ++ ([] : List Value)).length = ps.length := by rw [List.append_nil, ← r.length]; exact F.len _ _ _ _ q
    have bt := hb s1 us I1.kIn hl
    rw [List.append_nil] at bt
    refine wpAny_call (codeAny_mono (F.run X.A X.stack s1 H1 ⟨us, []⟩ us vs Q E0 hg0 hr I1.env0 bt r q) fun res s' hq => ?_)
    cases res with
    | error er => exact hq.elim
    | ok fl =>
      cases fl with
      | ret u => exact I1.after hq
      | next => exact hq.elim
      | brk => exact hq.elim
      | cont => exact hq.elim
end
end DL
namespace DL
open PySem PySem.Spec PyProof.Rows L2
section
variable {X : Cx} {ρ : Rho} {M : Mp} {Φ : D → Mp → Prop} {e : Expr} {pos p : Pos}
theorem cr_reprD (hg : X.A.guards = some []) (hu : X.A.units + 64 < cLine) : CallR X (.builtin "repr") (fun xs H Q => ∃ v q, xs = [v] ∧ Dp X.K H v q ∧ q.showable = true ∧ q.canLay0 = true ∧ q.depth ≤ 60 ∧ q.shown.length ≤ sizeLine ∧ Q (.str q.shown) H) := by
  intro pins s σ H xs us Q I r h
  obtain ⟨v, q, rfl, hd, hs, hc, hk, hz, h⟩ := h
  obtain ⟨u, rfl, ru⟩ := vals1 r
  obtain ⟨as, rd⟩ := Dp.reads I q v u hd ru
  have fin : ∀ (h' : Heap) (tk : Nat) (t : Tok), (∀ b o, s.heap.get? b = some o → h'.get? b = some o) → EP X pins σ Q (.str q.shown t) { s with heap := h', toks := tk } := fun h' tk t kp => ⟨.str q.shown, H, I.kept kp, ⟨t, rfl⟩, h⟩
  have same : ∀ (tk : Nat) (t : Tok), EP X pins σ Q (.str q.shown t) { s with toks := tk } := fun tk t => ⟨.str q.shown, H, I.tok tk, ⟨t, rfl⟩, h⟩
  have big : ∀ a, u = .ref a → wpAny (model X.prog X.w) X.A (call (.builtin "repr") [u]) (EP X pins σ Q) X.xe s := fun a ea => by
    subst ea
    exact repr_of_reads' rd hs (fun z => by rw [PyData.hasDict_of_canLay q hc] at z; cases z) hg (by omega) (fun _ _ z => z) (fun h' t tk kp => fin h' tk t kp) hz
  cases hd with
  | non => cases ru; exact PySem.P.repr_of_none (by simp only [PyData.shown] at same; exact same _ _)
  | bl b => cases ru; exact PySem.P.repr_of_bool (by simp only [PyData.shown] at same; exact same _ _)
  | int i =>
    obtain ⟨t, rfl⟩ := ru
    simp only [PyData.showable, decide_eq_true_eq] at hs
    exact PySem.P.repr_of_int hs (by simp only [PyData.shown] at same; exact same _ _)
  | str x =>
    obtain ⟨t, rfl⟩ := ru
    simp only [PyData.shown] at hz
    exact PySem.P.repr_of_str (by simp only [PyData.shown] at same; exact same _ _) hz
  | lst h1 h2 => cases ru; exact big _ rfl
  | tup h1 h2 => cases ru; exact big _ rfl
end
end DL
namespace DL
open PySem PySem.Spec PyProof.Rows L2
section
variable {X : Cx} {ρ : Rho} {M : Mp} {Φ : D → Mp → Prop} {e : Expr} {pos p : Pos}
def TupsV (K : PySem.W.Frag) (H : Hp) : List V → List (List Int) → Prop := Paired fun x ns => ∃ t, x = V.ref t ∧ SqT K H t (ns.map V.int)
theorem Reps.tups {K : PySem.W.Frag} {M : Mp} {Z : Zn} {H : Hp} : ∀ {vs : List V} {ps : List (List Int)}, Reps K M Z H vs (ps.map fun q => .tup (q.map D.int)) → TupsV K H vs ps
  | _, [], .nil => .nil
  | _, q :: ps, .cons r t => by
    obtain ⟨a, us, rfl, hq, rs⟩ := r.asTup
    rw [rs.ints] at hq
    exact .cons ⟨a, rfl, hq⟩ (Reps.tups t)
end
end DL
namespace DL
open PySem PySem.Spec PyProof.Rows L2 SX
theorem shownAll_map : ∀ xs : List PyData, PyData.shownAll xs = xs.map PyData.shown
  | [] => by simp [PyData.shownAll]
  | x :: xs => by simp [PyData.shownAll, shownAll_map xs]
theorem showableAll_map : ∀ xs : List PyData, PyData.showableAll xs = xs.all PyData.showable
  | [] => by simp [PyData.showableAll]
  | x :: xs => by simp [PyData.showableAll, showableAll_map xs]
theorem sum_le {α : Type} {f : α → Nat} {b : Nat} : ∀ {l : List α}, (∀ x ∈ l, f x ≤ b) → (l.map f).sum ≤ l.length * b
  | [], _ => by simp
  | x :: l, h => by
    rw [List.map_cons, List.sum_cons, List.length_cons, Nat.succ_mul]
    have h1 := h x List.mem_cons_self
    have h2 := sum_le fun y hy => h y (List.mem_cons_of_mem _ hy)
    omega
/-- shown, at most b signs -/
structure ShD (p : PyData) (b : Nat) : Prop where
  ok : p.showable = true
  le : p.shown.length ≤ b
theorem sh_list {xs : List PyData} {b n : Nat} (h : ∀ x ∈ xs, ShD x b) (hn : xs.length ≤ n) : ShD (.list xs) (n * (b + 2) + 3) := by
  refine ⟨?_, ?_⟩
  · simp only [PyData.showable, showableAll_map]
    exact List.all_eq_true.mpr fun x hx => (h x hx).ok
  · simp only [PyData.shown, shownAll_map]
    have h1 := listText_len_le (xs.map PyData.shown)
    rw [List.map_map, List.length_map] at h1
    have h2 : (xs.map ((·.length) ∘ PyData.shown)).sum ≤ xs.length * b := sum_le fun x hx => (h x hx).le
    have h3 : xs.length * b ≤ n * b := Nat.mul_le_mul_right _ hn
    have h4 : n * (b + 2) = n * b + n * 2 := Nat.mul_add _ _ _
    omega
theorem sh_tup {xs : List PyData} {b n : Nat} (h : ∀ x ∈ xs, ShD x b) (hn : xs.length ≤ n) : ShD (.tuple xs) (n * (b + 2) + 3) := by
  refine ⟨?_, ?_⟩
  · simp only [PyData.showable, showableAll_map]
    exact List.all_eq_true.mpr fun x hx => (h x hx).ok
  · simp only [PyData.shown, shownAll_map]
    have h1 := tupleText_len_le (xs.map PyData.shown)
    rw [List.map_map, List.length_map] at h1
    have h2 : (xs.map ((·.length) ∘ PyData.shown)).sum ≤ xs.length * b := sum_le fun x hx => (h x hx).le
    have h3 : xs.length * b ≤ n * b := Nat.mul_le_mul_right _ hn
    have h4 : n * (b + 2) = n * b + n * 2 := Nat.mul_add _ _ _
    omega
end DL
namespace DL
open PySem PySem.Spec PyProof.Rows L2
section
variable {X : Cx} {ρ : Rho} {M : Mp} {Φ : D → Mp → Prop} {Θ : Bool → Mp → Prop} {a b e o i : Expr} {es : List Expr} {pos p : Pos}
def putT (kvs : List (List Key × D)) (k : List Key) (d : D) : List (List Key × D) := if (kvs.any fun kv => decide (kv.1 = k)) = true then kvs.map (fun kv => if kv.1 = k then (kv.1, d) else kv) else kvs ++ [(k, d)]
theorem RepT.snoc {K : PySem.W.Frag} {M : Mp} {Z : Zn} {H : Hp} {k : List Key} {v : V} {d : D} (r : Rep K M Z H v d) : ∀ {vs : List (List Key × V)} {ds : List (List Key × D)}, RepT K M Z H vs ds → RepT K M Z H (vs ++ [(k, v)]) (ds ++ [(k, d)])
  | _, _, .nil => .cons r .nil
  | _, _, .cons r1 t => .cons r1 (RepT.snoc r t)
theorem RepT.repl {K : PySem.W.Frag} {M : Mp} {Z : Zn} {H : Hp} {k : List Key} {v : V} {d : D} (r : Rep K M Z H v d) : ∀ {vs : List (List Key × V)} {ds : List (List Key × D)}, RepT K M Z H vs ds → RepT K M Z H (vs.map fun kv => if kv.1 = k then (kv.1, v) else kv) (ds.map fun kv => if kv.1 = k then (kv.1, d) else kv)
  | _, _, .nil => .nil
  | _, _, .cons (k := j) r1 t => by
    rw [List.map_cons, List.map_cons]
    by_cases e : j = k
    · simp only [if_pos e]; exact .cons r (RepT.repl r t)
    · simp only [if_neg e]; exact .cons r1 (RepT.repl r t)
theorem RepT.put {K : PySem.W.Frag} {M : Mp} {Z : Zn} {H : Hp} {k : List Key} {v : V} {d : D} {vs : List (List Key × V)} {ds : List (List Key × D)} (r : Rep K M Z H v d) (t : RepT K M Z H vs ds) : RepT K M Z H (putK vs k v) (putT ds k d) := by
  unfold putK putT
  rw [t.any]
  split
  · exact t.repl r
  · exact t.snoc r
end
end DL
namespace HK
open PySem PySem.Spec PyProof.Rows L2 DL He
theorem propB_ok {K : PySem.W.Frag} {C m : Str} (h : propB K (C, m) = true) : PropOf K (ga K C) m (ma K (ga K C) m) (pgA C m K) := by
  obtain ⟨h1, h2⟩ := Bool.and_eq_true_iff.mp h
  obtain ⟨h3, h4⟩ := Bool.and_eq_true_iff.mp h2
  obtain ⟨h5, h6⟩ := Bool.and_eq_true_iff.mp h4
  refine ⟨eqO_ok h1, eqO_ok h3, of_decide_eq_true h5, ?_⟩
  unfold pgA
  cases q : PySem.W.recIn K (ma K (ga K C) m) "property" with
  | none => rw [q] at h6; cases h6
  | some l =>
    rw [q] at h6
    cases l with
    | nil => cases h6
    | cons v r =>
      cases v with
      | ref g => exact ⟨r, rfl⟩
      | _ => cases h6
theorem eqB_ok {K : PySem.W.Frag} {x : Str} (h : eqB K x = true) : PySem.W.selfFirst K (ga K x) = true ∧ OwnC K (ga K x) ∧ PySem.W.findIn K (.ref (ga K x)) "__ne__" = some (some (.builtin "object.__ne__")) := by
  obtain ⟨h0, h⟩ := Bool.and_eq_true_iff.mp h
  obtain ⟨h1, h⟩ := Bool.and_eq_true_iff.mp h
  obtain ⟨h2, h⟩ := Bool.and_eq_true_iff.mp h
  obtain ⟨h3, h⟩ := Bool.and_eq_true_iff.mp h
  obtain ⟨h4, h⟩ := Bool.and_eq_true_iff.mp h
  obtain ⟨h5, h⟩ := Bool.and_eq_true_iff.mp h
  exact ⟨h0, ⟨cls_ok h1, eqO_ok h2, eqO_ok h3, of_decide_eq_true h4, of_decide_eq_true h5⟩, eqO_ok h⟩
theorem nonV_ok {v : Value} (h : nonV v = true) : v = .none := by cases v <;> first | rfl | cases h
theorem excB_ok {K : PySem.W.Frag} {C : Addr} (q : excB K C = true) : ∃ nm qn N bs bm sn sub ab col dd k0 k1 k2 k3 k5, K.lookup C = some (excClassObj nm qn C N bs bm true sn sub ab col dd k0 k1 k2 k3 k5 "ValueError.__new__") ∧ PySem.HandSPX.refsVE bm = true := by
  unfold excB at q
  split at q
  · rename_i t dd cd sl ho
    obtain ⟨h0, q0⟩ := Bool.and_eq_true_iff.mp q
    clear q
    have h0 := of_decide_eq_true h0
    split at q0
    · rename_i C' bm k0 k1 k2 k3 n k5 hm hs
      obtain ⟨h1, q1⟩ := Bool.and_eq_true_iff.mp q0
      obtain ⟨h2, q2⟩ := Bool.and_eq_true_iff.mp q1
      obtain ⟨h3, q3⟩ := Bool.and_eq_true_iff.mp q2
      obtain ⟨h4, h5⟩ := Bool.and_eq_true_iff.mp q3
      have h1 := of_decide_eq_true h1
      have h2 := of_decide_eq_true h2
      clear q0 q1 q2 q3
      obtain ⟨nm, bs, mro, ns, qn, hd, sn, sub, ab, col, del⟩ := cd
      dsimp only at hm h3 h4
      have h6 : del = false := by cases del <;> first | rfl | cases h3
      clear h3
      obtain ⟨l⟩ := sl
      simp only at hs
      subst h0 h1 h2 hm h4 h6 hs
      exact ⟨nm, qn, ns, bs, bm, sn, sub, ab, col, dd, k0, k1, k2, k3, k5, ho, h5⟩
    · cases q0
  · cases q
theorem all_cons {b : Bool} {l : List Bool} (h : (b :: l).all id = true) : b = true ∧ l.all id = true := by
  rw [List.all_cons] at h
  exact Bool.and_eq_true_iff.mp h
theorem erB_ok {K : PySem.W.Frag} {mg : Str → Option Value} {x : Str} (h : erB K x = true) (hm : mg x = some (.ref (ga K x))) : XL.ErTxt K mg x (ga K x) (ga K "CrowdError") (ma K (ga K "CrowdError") "__init__") ∧ XL.ErV K (ga K x) ∧ PySem.W.kitOne K (.type "NoneType") (.ref (ga K x)) = some false ∧ PySem.W.exmOne K (.ref (ga K x)) (.ref (ga K "CrowdError")) = some true := by
  obtain ⟨h1, h⟩ := all_cons h
  obtain ⟨h2, h⟩ := all_cons h
  obtain ⟨h3, h⟩ := all_cons h
  obtain ⟨h4, h⟩ := all_cons h
  obtain ⟨h5, h⟩ := all_cons h
  obtain ⟨h6, h⟩ := all_cons h
  obtain ⟨h7, h⟩ := all_cons h
  obtain ⟨h8, h⟩ := all_cons h
  obtain ⟨h9, h⟩ := all_cons h
  obtain ⟨h10, h⟩ := all_cons h
  obtain ⟨h11, h⟩ := all_cons h
  obtain ⟨h12, h⟩ := all_cons h
  obtain ⟨h13, h⟩ := all_cons h
  obtain ⟨h14, h⟩ := all_cons h
  obtain ⟨h15, h⟩ := all_cons h
  obtain ⟨h16, h⟩ := all_cons h
  obtain ⟨h17, h⟩ := all_cons h
  obtain ⟨h18, h⟩ := all_cons h
  obtain ⟨h19, h⟩ := all_cons h
  obtain ⟨h20, h⟩ := all_cons h
  obtain ⟨h21, h⟩ := all_cons h
  exact ⟨⟨hm, excB_ok h1, h2, eqO_ok h3, eqO_ok h4, eqO_ok h5, eqO_ok h6, eqO_ok h7, h8, of_decide_eq_true h9, of_decide_eq_true h10, of_decide_eq_true h11, of_decide_eq_true h12, h13, eqO_ok h14⟩,
    ⟨h15, eqO_ok h4, eqO_ok h5, of_decide_eq_true h9, h13, eqO_ok h6, eqO_ok h16, eqO_ok h17, of_decide_eq_true h18, of_decide_eq_true h19⟩, of_decide_eq_true h20, of_decide_eq_true h21⟩
theorem clsIn_ob {K : PySem.W.Frag} {C : Addr} (h : (PySem.W.clsIn K C).isSome = true) : ∃ o cd, K.lookup C = some o ∧ o.data = .cls cd := by
  unfold PySem.W.clsIn at h
  split at h
  · rename_i ho
    exact ⟨_, _, ho, rfl⟩
  · cases h
theorem crB_ok {P : Program} {K : PySem.W.Frag} {file : Str} {st : Stmt} (h : crB K file = true) (e : fnZ K (crA K) = crVal st) (hf : (P.main.file == file) = true) (hs : (P.main.scope.names.lookup ("super" : Str)).isSome = false) :
    ∃ cl, XL.CrTxt P K "CrowdError.__init__" (defArgs st) (defBody st) (defScope st) (ga K "CrowdError") (crA K) cl := by
  obtain ⟨h1, h⟩ := Bool.and_eq_true_iff.mp h
  obtain ⟨h2, h⟩ := Bool.and_eq_true_iff.mp h
  obtain ⟨h3, h4⟩ := Bool.and_eq_true_iff.mp h
  unfold fnZ at e
  cases q : K.lookup (crA K) with
  | none => rw [q] at e; cases e
  | some o =>
    obtain ⟨oc, od, dt, osl⟩ := o
    rw [q] at h1 e
    cases dt with
    | func fd =>
      obtain ⟨x1, x2, x3, x4, x5, x6, x7, x8, x9, x10, x11, x12, x13, x14, x15⟩ := fd
      have e2 : (some (x1, x2, x3, x4, x5, x6, [], x15) : FnW) = (some (("__init__" : Str), ("CrowdError.__init__" : Str), defArgs st, .stmts (defBody st), defScope st, mainGlobals, [], builtinsNs) : FnW) := e
      simp only [Option.some.injEq, Prod.mk.injEq] at e2
      obtain ⟨g1, g2, g3, g4, g5, g6, _, g8⟩ := e2
      subst g1 g2 g3 g4 g5 g6 g8
      dsimp only at h1
      split at h1
      · rename_i y cl cc
        obtain ⟨k1, q1⟩ := Bool.and_eq_true_iff.mp h1
        obtain ⟨k2, q2⟩ := Bool.and_eq_true_iff.mp q1
        obtain ⟨k3, q3⟩ := Bool.and_eq_true_iff.mp q2
        obtain ⟨k4, q4⟩ := Bool.and_eq_true_iff.mp q3
        obtain ⟨k5, k6⟩ := Bool.and_eq_true_iff.mp q4
        clear h1 q1 q2 q3 q4
        have k1 := of_decide_eq_true k1
        have k2 := nonV_ok k2
        have k3 := nonV_ok k3
        subst k1 k2 k3
        refine ⟨cl, ⟨?_, ?_, clsIn_ob h2, of_decide_eq_true h3, hs, eqO_ok h4⟩⟩
        · split at k5
          · rename_i c1 c2 vs c3 hcc2
            split at k5
            · rename_i f tf hv
              have k5 := of_decide_eq_true k5
              subst k5
              exact ⟨oc, od, x10, x11, x12, cc, x14, osl, _, vs, f, tf, q, k4, hcc2, rfl, hv, hf⟩
            · cases k5
          · cases k5
        · split at k6
          · rename_i c1 c2 b c3 hcl2
            have k6 := of_decide_eq_true k6
            subst k6
            exact ⟨_, hcl2, rfl⟩
          · cases k6
      · cases h1
    | _ => cases e
theorem tbB_ok {K : PySem.W.Frag} {x : Str} (h : tbB K x = true) : ∃ p, PySem.W.tabIn K x = some p ∧ K.lookup p.2 = none := by
  unfold tbB at h
  split at h
  · rename_i p e
    refine ⟨p, e, ?_⟩
    cases q : K.lookup p.2 with
    | none => rfl
    | some o => rw [q] at h; cases h
  · cases h
theorem tpB_ok {K : PySem.W.Frag} {a : Addr} (h : tpB K a = true) : ∀ M Z H, Rep K M Z H (.ref a) (.ptup []) := by
  unfold tpB at h
  split at h
  · rename_i n its k sl e
    obtain ⟨g1, g2⟩ := Bool.and_eq_true_iff.mp h
    have g1 := of_decide_eq_true g1
    have g2 := of_decide_eq_true g2
    subst g1
    exact fun M Z H => .ptupK (vs := []) ⟨_, its, k, e, rfl, rfl, rfl, by have := congrArg List.length g2; rw [Array.length_toList] at this; rw [this]; exact Nat.zero_le _, by rw [g2]; exact .nil⟩ .nil
  · cases h
theorem obsG_eq {n : Nat} {ns ms : List Str} {S : Sp} {g : Addr → Option Obj} {s : Shared} (h : ∀ a, g a = s.heap.get? a) : obsG n ns ms S g = (hook n ns ms S).obs s := by
  have e : g = s.heap.get? := funext h
  rw [e] <;> rfl
section
variable {S : Sp} {w : World} {K : PySem.W.Frag}
theorem Says.tp (c : Says S w K) (h : (("@tup" : Str), ("" : Str)) ∈ S.pr) : ∀ M Z H, Rep K M Z H (.ref (dfA K (ma K (ga K "Form") "__init__") 0)) (.ptup []) := by
  have z := c.prG h
  unfold prX at z
  rw [if_neg (by decide +kernel), if_pos rfl] at z
  exact tpB_ok z
theorem Says.eqs (c : Says S w K) {x : Str} (h : x ∈ S.eq) : PySem.W.selfFirst K (ga K x) = true ∧ OwnC K (ga K x) ∧ PySem.W.findIn K (.ref (ga K x)) "__ne__" = some (some (.builtin "object.__ne__")) := eqB_ok (List.all_eq_true.mp c.bos.1.1.1.1.1.1.2 _ h)
theorem Says.txG (c : Says S w K) {x : Str} {zs : List Str} (h : (x, zs) ∈ S.tx) : ∀ M Z H, Rep K M Z H (.ref (txA K x)) (.tup (zs.map D.str)) := by
  obtain ⟨v, rv, hr⟩ := Dt.rep (List.all_eq_true.mp c.bos.1.1.1.1.1.2 _ h)
  have e : v = .ref (txA K x) := by
    cases v with
    | ref a =>
      have : Value.ref (txA K x) = Value.ref a := rv
      cases this; rfl
    | _ => first | (obtain ⟨t, e⟩ := rv; cases e) | cases rv
  intro M Z H
  have := hr M Z H
  rw [e] at this
  exact this
theorem Says.txs (c : Says S w K) {x : Str} {zs : List Str} (h : (x, zs) ∈ S.tx) (hx : decide (x = "@Form") = false := by decide +kernel) : ∀ M Z H, Rep K M Z H (.ref (ga K x)) (.tup (zs.map D.str)) := by
  have q := c.txG h
  unfold HK.txA at q
  rwa [if_neg (of_decide_eq_false hx)] at q
theorem Says.ers (c : Says S w K) {x : Str} (h : x ∈ S.er) : erB K x = true := List.all_eq_true.mp c.bos.1.1.1.1.2 _ h
theorem Says.kiG (c : Says S w K) {x y : Str} {b : Bool} (h : (x, y, b) ∈ S.ki) : PySem.W.kitOne K (.ref (ga K x)) (HK.kyV K y) = some b := of_decide_eq_true (List.all_eq_true.mp c.bos.1.1.1.2 _ h)
theorem Says.kiI (c : Says S w K) {x : Str} {b : Bool} (h : (x, (("@int" : Str)), b) ∈ S.ki) : PySem.W.kitOne K (.ref (ga K x)) (.type "int") = some b := by
  have q := c.kiG h
  unfold HK.kyV at q
  rwa [if_pos rfl] at q
theorem Says.tbs (c : Says S w K) {x : Str} (h : x ∈ S.tb) : ∃ p, PySem.W.tabIn K x = some p ∧ K.lookup p.2 = none := tbB_ok (List.all_eq_true.mp c.bos.1.1.2 _ h)
theorem Says.crs (c : Says S w K) {file : Str} {st : Stmt} (h : S.ba = [(file, st)]) : crB K file = true ∧ fnZ K (crA K) = crVal st := by
  have e : S.ba.map (fun _ => fnZ K (crA K)) = S.ba.map fun q => crVal q.2 := congrArg (fun z : Al => z.2.2.2) c
  have b := c.bos.1.2
  rw [h] at e b
  exact ⟨List.all_eq_true.mp b _ List.mem_cons_self, (List.cons.inj e).1⟩
/-- one of the errors -/
theorem Says.err {P : Program} {mg : Str → Option Value} (c : Says S w K) {file : Str} {st : Stmt} {x : Str} (hb : S.ba = [(file, st)]) (sh : XL.Shape (defArgs st) (defBody st) (defScope st)) (hf : (P.main.file == file) = true) (hs : (P.main.scope.names.lookup ("super" : Str)).isSome = false) (hsup : mg "super" = none) (h : x ∈ S.er) (hm : mg x = some (.ref (ga K x))) :
    XL.Er P K mg x (ga K x) ∧ XL.ErV K (ga K x) ∧ PySem.W.kitOne K (.type "NoneType") (.ref (ga K x)) = some false ∧ PySem.W.exmOne K (.ref (ga K x)) (.ref (ga K "CrowdError")) = some true := by
  obtain ⟨h1, h2⟩ := c.crs hb
  obtain ⟨cl, T⟩ := crB_ok h1 h2 hf hs
  obtain ⟨G, V⟩ := erB_ok (c.ers h) hm
  exact ⟨⟨⟨_, _, cl, _, _, _, _, T, sh, G⟩, hsup⟩, V⟩
end
end HK
namespace PL
open PySem SX TL
def letter (c : Nat) : Bool := decide (97 ≤ c) && decide (c ≤ 122)
/-- no bracket is closed too much -/
def nn (d : Int) : List Nat → Prop
  | [] => True
  | c :: r => 0 ≤ d + wgt c ∧ nn (d + wgt c) r
theorem numL_head : ∀ {n : Nat}, 1 ≤ n → ∃ c r, numL n = c :: r ∧ c ≠ 48 := by
  intro n
  induction n using Nat.strongRecOn with
  | _ n ih =>
    intro h
    by_cases hn : n < 10
    · exact ⟨48 + n, [], numL_lt hn, by omega⟩
    · obtain ⟨c, r, e, hc⟩ := ih (n / 10) (by omega) (by omega)
      exact ⟨c, r ++ [48 + n % 10], by rw [numL_step (by omega), e, List.cons_append], hc⟩
end PL
namespace W
open PySem PySem.Spec PyProof.Rows L2 DL He HK
theorem mem_bn {x : Str} (h : x ∈ bns) : Fa.free x ∈ spec.fa := List.mem_append_left _ (List.mem_map_of_mem h)
theorem mem_glo {x : Str} (h : x ∈ globsA) : Fa.glo x ∈ spec.fa := List.mem_append_right _ (List.mem_append_left _ (List.mem_map_of_mem h))
theorem mem_co (i : Nat) {f : Fa} (h : consts[i]? = some f) : f ∈ spec.fa := List.mem_append_right _ (List.mem_append_right _ (List.mem_of_getElem? h))
theorem ob_eq (s : PySem.W.SharedT) : ob s = hk.obs s.abs := obsG_eq (HandSHeadRun.getT_eq s)
end W
namespace PL
open PySem SX TL
/-- how often, what -/
def kids : T → List (Nat × T)
  | .cop _ n t => [(n, t)]
  | .row _ ts => ts.map fun t => (1, t)
  | _ => []
theorem log16 {a m : Nat} (h : a < 16 ^ m) : a.log2 ≤ 4 * m := by
  by_cases h0 : a = 0
  · subst h0; simp
  · have e : a < 2 ^ (4 * m) := by rw [Nat.pow_mul]; exact h
    exact Nat.le_of_lt ((Nat.log2_lt h0).mpr e)
end PL
namespace PL
open PySem SX TL
def cnt (t : T) : Nat := ((kids t).map (·.1)).sum
end PL
namespace W
open PySem PySem.Spec PyProof.Rows L2 DL SX PL
abbrev tS (l : List Nat) : D := .str (S l)
structure Fx (w : World) (K : PySem.W.Frag) (mg : Str → Option Value) : Prop where
  bn : ∀ x, x ∈ bns → mg x = none
end W
namespace W
open PySem PySem.Spec PyProof.Rows L2 DL SX PL
section
variable {P : Program} {w : World} {K : PySem.W.Frag} {mg : Str → Option Value} {base : Heap} {C : Addr}
def isNameL (l : List Nat) : Bool := decide (1 ≤ l.length) && (decide (l.length ≤ 8) && l.all letter)
theorem letters_eq : ("abcdefghijklmnopqrstuvwxyz" : Str) = S ((List.range 26).map (97 + ·)) := by decide +kernel
theorem figures_eq : ("0123456789" : Str) = S ((List.range 10).map (48 + ·)) := by decide +kernel
theorem mem_letters (c : Nat) : decide (c ∈ ("abcdefghijklmnopqrstuvwxyz" : Str).cps.toList) = letter c := by
  rw [letters_eq]
  unfold letter
  rw [← Bool.decide_and]
  apply decide_eq_decide.mpr
  show c ∈ (List.range 26).map (97 + ·) ↔ _
  simp only [List.mem_map, List.mem_range]
  constructor
  · rintro ⟨a, h, rfl⟩; omega
  · rintro ⟨h1, h2⟩; exact ⟨c - 97, by omega, by omega⟩
def figure (c : Nat) : Bool := decide (48 ≤ c) && decide (c ≤ 57)
theorem mem_figures (c : Nat) : decide (c ∈ ("0123456789" : Str).cps.toList) = figure c := by
  rw [figures_eq]
  unfold figure
  rw [← Bool.decide_and]
  apply decide_eq_decide.mpr
  show c ∈ (List.range 10).map (48 + ·) ↔ _
  simp only [List.mem_map, List.mem_range]
  constructor
  · rintro ⟨a, h, rfl⟩; omega
  · rintro ⟨h1, h2⟩; exact ⟨c - 48, by omega, by omega⟩
theorem signs_S (l : List Nat) : DL.signs (S l) = l.map fun c => D.str ⟨#[c]⟩ := rfl
theorem signs_get {l : List Nat} {i : Nat} {x : D} (h : (DL.signs (S l))[i]? = some x) : ∃ c, l[i]? = some c ∧ x = .str ⟨#[c]⟩ := by
  rw [signs_S, List.getElem?_map] at h
  obtain ⟨c, h1, rfl⟩ := Option.map_eq_some_iff.mp h
  exact ⟨c, h1, rfl⟩
theorem take_snoc {α : Type} {l : List α} {i : Nat} {c : α} (h : l[i]? = some c) : l.take (i + 1) = l.take i ++ [c] := by
  rw [List.take_add_one, h]; rfl
theorem cut_b (l : List Nat) (b : Nat) : cutS (S l) (some (b : Int)) none = S (l.drop b) := by
  unfold cutS
  rw [S_len, HT.sIx_nat, HT.sIx_none]
  show S ((l.drop (min b l.length)).take (l.length - min b l.length)) = _
  congr 1
  by_cases hb : b ≤ l.length
  · rw [Nat.min_eq_left hb]; exact List.take_of_length_le (by rw [List.length_drop]; omega)
  · rw [Nat.min_eq_right (by omega), List.drop_length, List.drop_eq_nil_of_le (by omega)]; simp
theorem les_new {M : Mp} {p : Addr} {o : MO} (h : M p = none) : Les M (mset M p o) := fun b => by
  by_cases e : b = p
  · rw [e]; exact .inr h
  · rw [mset_ne e]; exact .inl rfl
theorem starts1 (c d : Nat) (r : List Nat) : Txt.startswith (S (c :: r)) (S [d]) = decide (c = d) := by
  have q := TL.at_iff (x := S (c :: r)) (y := S [d]) (by simp [TL.tl]) 0
  have e : TL.pre (TL.tl (S [d])) ((TL.tl (S (c :: r))).drop 0) = decide (c = d) := by
    show TL.pre [d] (c :: r) = _
    unfold TL.pre
    simp
    rfl
  rw [e] at q
  unfold Txt.startswith
  rw [S_len, S_len]
  rw [show decide (0 + [d].length ≤ (c :: r).length) = true from decide_eq_true (by simp), Bool.true_and]
  by_cases h : c = d
  · rw [decide_eq_true h] at q ⊢
    exact (q.mpr rfl).2
  · rw [decide_eq_false h] at q ⊢
    cases hs : Builtin.Str.subAt (S (c :: r)) (S [d]) 0 with
    | false => rfl
    | true => exact absurd (q.mp ⟨by rw [S_len, S_len]; simp, hs⟩) (by decide)
def f1 (a : D) : List (Str × D) := [("own_text", a)]
def f2 (a b : D) : List (Str × D) := [("own_text", a), ("own_names", b)]
def f3 (a b c : D) : List (Str × D) := [("own_text", a), ("own_names", b), ("own_word", c)]
def f4 (a b c d : D) : List (Str × D) := [("own_text", a), ("own_names", b), ("own_word", c), ("own_groups", d)]
end
end W
namespace DL
open PySem PySem.Spec PyProof.Rows L2
section
variable {X : Cx} {ρ : Rho} {M : Mp} {Φ : D → Mp → Prop} {pos p : Pos} {x : Str} {k n : Nat} {c : Con} {dd : List D}
theorem we_make0 {C : Addr} (F : Kc X.prog X.w X.K X.mg X.base x C dd k n c) (hr : Room (k + 1) X.A)
    (h : ∀ a, M a = none → (D.ob a :: dd).length = n ∧ c (.ob a :: dd) (mset M a (.ins C [])) fun d M2 => d = .non ∧ Lets Φ (.ob a) M2) (hg : Gl X x := by rfl)
    (hdb : (x == ("__debug__" : Str)) = false := by decide) : WE X ρ M (.Call (.Name x p) [] [] pos) Φ := .mk fun σ H Q en w k => by
  obtain ⟨f, fd, ps, dvs, ds, F', hm, hbd, hd, hdd⟩ := F.ex
  refine eOf (pe_make0 (E := E0) hm F' hr hg F.at_ hbd hd pass0 hdb) ?_
  intro a dx ha hdx ne
  obtain ⟨hl, hz⟩ := h a (w.fresh ha).1
  have ha1 : (upd H dx (.own a)) a = none := by rw [upd_ne (Ne.symm ne)]; exact ha
  have x1 : Ext M _ H M (upd H dx (.own a)) := Ext.new w hdx
  have wa := w.new (o := .own a) hdx
  have x2 : Ext M _ (upd H dx (.own a)) (mset M a (.ins C [])) (upd (upd H dx (.own a)) a (.ins C dx [])) := Ext.newM wa ha1
  have x12 := x1.trans x2
  refine ⟨.ob a :: dd, mset M a (.ins C []), _, _, hl, .cons (.ob a) (hdd _ _ _), wa.newM ha1 ⟨dx, [], upd_same, .nil⟩, hz, fun v d H2 M2 x3 w2 r2 hy => ?_⟩
  obtain ⟨rfl, hy⟩ := hy
  cases r2
  exact ⟨rfl, lets_k (k.step x12) _ _ H2 M2 x3 w2 (.ob a) hy⟩
end
end DL
namespace XL
open PySem PySem.W PySem.Calls PyProof.Rows PySem.HandSPX L2 LamX
theorem pe_actV {X : Cx} {pins : List (Addr × Obj)} {σ : L2.St} {H : Hp} {s : Shared} {CXg : CXT} {Eg : XK} {Ng : List Str} {qg : Str} {sg : Scope} {g : Addr} {cdg : Value} {k i : Nat} {a : Str} {pn : List (Addr × Obj)} {xe : Value → Shared → Prop} {W : WX} {E : L2.St → XK} {p1 p2 : Pos} {tb : XK → Arguments → Expr → Scope → TE}
    (I : L2.Inv X pins σ H s) (tk : Takes ((cxOf CXg X.prog X.w X.K X.mg X.base Ng qg sg g cdg X.A X.stack s H Eg).tr pn xe) W) (hW : ∀ σZ cls d H', E σZ cls d H' → W cls d σZ H')
    (hr : Room (k + 1) (X.A.deeper (envOfC qg sg s.heap.objs.size g cdg)))
    (hbody : ∀ (E : XK) (params : Arguments) (body : Expr) (scope : Scope) (f c' : Addr) (A : Around) (outer : List Env) (s : Shared) (H : Hp), Room k (A.deeper (lamEnv X scope s.heap.objs.size f c')) → PE (lamCx X A outer s H E scope f c') body (tb E params body scope))
    (hN : Ng[i]? = some a) (hv : Vis sg a) (hd : (a == ("__debug__" : Str)) = false) (hcd : (a == ("__classdict__" : Str)) = false) :
    PE ((cxOf CXg X.prog X.w X.K X.mg X.base Ng qg sg g cdg X.A X.stack s H Eg).tr pn xe) (.Call (.Name a p1) [] [] p2)
      (fun σZ HZ Q => ∃ (f c' : Addr) (params : Arguments) (body : Expr) (scope : Scope), σZ[i]? = some (some (.ref f)) ∧ HZ f = some (LamO f (X.env.qual ++ "<lambda>") params body scope (cloFrom X.env.cells scope.names []) c') ∧ HZ c' = some (CodeO c' (X.env.qual ++ "<lambda>")) ∧
        LamS X.env.scope scope ∧ (∀ (pm cv ctv : Value), bindArgs (PySem.W.kla_fn "<lambda>" (X.env.qual ++ "<lambda>") params body scope (cloFrom X.env.cells scope.names []) pm cv ctv) ⟨[], []⟩ = pure []) ∧ tb (E σZ) params body scope σ HZ Q) := by
  refine ⟨fun pinsZ sZ σZ HZ Q IZ h => ?_⟩
  obtain ⟨f, c', params, body, scope, hs, hfo, hc, L, hbind, ht⟩ := h
  refine wpAny_Call_Name_kw (thn ((pe_var hN hv hd hcd).run pinsZ sZ σZ HZ (fun v H1 => v = V.ref f ∧ H1 = HZ) IZ ⟨.ref f, hs, rfl, rfl⟩) fun u s1 hh => ?_)
  obtain ⟨v, H1, I1, r1, rfl, rfl⟩ := hh
  obtain rfl : u = Value.ref f := r1
  obtain ⟨pm, ctv, of1⟩ := lamO_get I1.hok hfo
  refine PySem.W.callWith_F0 ⟨_, _, _, _, of1⟩ ?_
  have un := I1.base
  have hco := I1.hok c' _ hc
  unfold CodeO ObjOk at hco
  obtain ⟨⟨oc, vs, t, hoc, hdc, hvc⟩, _, _⟩ := hco
  have rc : codeAny (model X.prog X.w) (X.A.deeper (envOfC qg sg s.heap.objs.size g cdg)) (.call (.ref f) ⟨[], []⟩) (CR (CX X.prog X.w) (envOfC qg sg s.heap.objs.size g cdg :: X.stack) X.prog X.w H1 s1 Q (E σZ)) s1 := by
    refine PySem.W.kla_callFunE hr.depth of1 rfl L.co L.gen rfl ⟨c', oc, vs, t, rfl, hoc, hdc, hvc⟩ ?_
    rw [hbind]
    refine wpAny_pure (wpAny_newFunctionEnv (fun y hy => (L.own y hy).2) (fun y hy => absurd hy List.not_mem_nil) (fun h₁ hns hsb => ⟨I1.nolimit.fresh _ hsb, ?_⟩) L.kind)
    have kp : ∀ b o, s1.heap.get? b = some o → h₁.get? b = some o := fun b o e => hsb.extBut b o (Nat.ne_of_lt (Heap.lt_size e)) (Heap.get?_push_of_some _ e)
    have J := lam_start2 (tk := s1.toks + ([] : List (Str × Value)).length) (E := E σZ) (f := f) (c' := c') I L I1.env0 hr.hd un hns kp
    exact PySem.W.kla_codeExpr (wpAny_mono ((hbody (E σZ) params body scope f c' _ _ s1 H1 (hr.deeper _)).run [] _ σ H1 Q J ht) (fun v s' hq => by
      obtain ⟨w', H', J', rv, q⟩ := hq
      exact ⟨w', H', J'.os, J'.bare, J'.base, J'.hok, rv, q⟩) fun e s' hq => hq)
  refine wpAny_call (codeAny_mono rc fun r s' hq => ?_)
  cases r with
  | error e =>
    obtain ⟨a, B, H', cls, d, y1, y2, y3, y4, y5, y6, y7, y8⟩ := hq
    exact passAt tk σZ pinsZ H1 s1 e s' I1 ⟨a, B, H', cls, d, y1, y2, y3, y4, y5, y6, y7, hW _ _ _ _ y8⟩
  | ok fl =>
    cases fl with
    | ret u => exact I1.after hq
    | next => exact hq.elim
    | brk => exact hq.elim
    | cont => exact hq.elim
end XL
namespace DL
open PySem PySem.Spec PyProof.Rows L2
/-- what is wanted where an error is raised: its class, its fields -/
abbrev Xi := Addr → List (Str × D) → Mp → Prop
def KX (K : PySem.W.Frag) (M : Mp) (Z : Zn) (H : Hp) (Ξ : Xi) (E : XK) : Prop := ∀ C fs vs d H' M', Ext M Z H M' H' → Wd K M' Z H' → H' d = some (.xd vs) → Im M' Z d → RepF K M' Z H' vs fs → Ξ C fs M' → E (.ref C) (some d) H'
theorem KX.step {K : PySem.W.Frag} {M M1 : Mp} {Z : Zn} {H H1 : Hp} {Ξ : Xi} {E : XK} (k : KX K M Z H Ξ E) (e : Ext M Z H M1 H1) : KX K M1 Z H1 Ξ E := fun C fs vs d H' M' x w h m r z => k C fs vs d H' M' (e.trans x) w h m r z
/-- X takes what is raised as E, whatever stands in the slots -/
def TakesE (X : Cx) (E : XK) : Prop := Takes X fun cls d _ H => E cls d H
theorem TakesE.pass {X : Cx} {E : XK} (t : TakesE X E) : Passes (CX X.prog X.w) X E := fun pins σ H s e s' I q => passes_call (E := E) t (fun _ _ _ _ z => z) pins σ H s e s' I q
theorem pass_no {X : Cx} : Passes (CX X.prog X.w) X (fun _ _ _ => False) := fun pins σ H s e s' I q => by
  obtain ⟨a, B, H', cls, d, _, _, _, _, _, _, _, z⟩ := q
  exact z.elim
structure WEx (X : Cx) (ρ : Rho) (M : Mp) (e : Expr) (Φ : D → Mp → Prop) (Ξ : Xi) : Prop where
  run : ∀ {Z : Zn} σ H (Q : VK) (E : XK), EnvR X.K M Z H σ ρ → Wd X.K M Z H → KE X.K M Z H Φ Q → TakesE X E → KX X.K M Z H Ξ E → eSem X e σ H Q
structure WTx (X : Cx) (ρ : Rho) (M : Mp) (e : Expr) (Φ : Bool → Mp → Prop) (Ξ : Xi) : Prop where
  run : ∀ {Z : Zn} σ H (Q : Bool → Hp → Prop) (E : XK), EnvR X.K M Z H σ ρ → Wd X.K M Z H → KT X.K M Z H Φ Q → TakesE X E → KX X.K M Z H Ξ E → tSem X e σ H Q
structure WAx (X : Cx) (ρ : Rho) (M : Mp) (es : List Expr) (Φ : List D → Mp → Prop) (Ξ : Xi) : Prop where
  run : ∀ {Z : Zn} σ H (Q : List V → Hp → Prop) (E : XK), EnvR X.K M Z H σ ρ → Wd X.K M Z H → KA X.K M Z H Φ Q → TakesE X E → KX X.K M Z H Ξ E → aSem X es σ H Q
structure WSx (X : Cx) (ρ : Rho) (M : Mp) (st : Stmt) (Ψ : DE) (Ξ : Xi) : Prop where
  run : ∀ {Z : Zn} σ H (D : Ends) (E : XK), EnvR X.K M Z H σ ρ → Wd X.K M Z H → KS X.K M Z H Ψ D → TakesE X E → KX X.K M Z H Ξ E → sSem X st D σ H
structure WSsx (X : Cx) (ρ : Rho) (M : Mp) (st : List Stmt) (Ψ : DE) (Ξ : Xi) : Prop where
  run : ∀ {Z : Zn} σ H (D : Ends) (E : XK), EnvR X.K M Z H σ ρ → Wd X.K M Z H → KS X.K M Z H Ψ D → TakesE X E → KX X.K M Z H Ξ E → ssSem X st D σ H
section
variable {X : Cx} {ρ : Rho} {M : Mp} {Φ : D → Mp → Prop} {Ξ : Xi} {Ψ : DE} {e a b : Expr} {es : List Expr} {st : Stmt} {sts rest : List Stmt} {pos p : Pos} {x : Str}
theorem WE.up (h : WE X ρ M e Φ) : WEx X ρ M e Φ Ξ := .mk fun σ H Q E en w k _ _ => h.run σ H Q en w k
theorem WT.up {Φ : Bool → Mp → Prop} (h : WT X ρ M e Φ) : WTx X ρ M e Φ Ξ := .mk fun σ H Q E en w k _ _ => h.run σ H Q en w k
theorem WA.up {Φ : List D → Mp → Prop} (h : WA X ρ M es Φ) : WAx X ρ M es Φ Ξ := .mk fun σ H Q E en w k _ _ => h.run σ H Q en w k
theorem WS.up (h : WS X ρ M st Ψ) : WSx X ρ M st Ψ Ξ := .mk fun σ H Q E en w k _ _ => h.run σ H Q en w k
theorem WSs.up (h : WSs X ρ M sts Ψ) : WSsx X ρ M sts Ψ Ξ := .mk fun σ H Q E en w k _ _ => h.run σ H Q en w k
theorem wssx_nil (h : Ψ.nx ρ M) : WSsx X ρ M [] Ψ Ξ := (wss_nil h).up
theorem wssx_cons (h : WSx X ρ M st { Ψ with nx := fun ρ' M' => WSsx X ρ' M' rest Ψ Ξ } Ξ) : WSsx X ρ M (st :: rest) Ψ Ξ := .mk fun σ H D E en w k t kx =>
  ssOf (pss_cons ps_sem pss_sem) (h.run σ H _ E en w ⟨fun σ' ρ' H' M' x w' en' z => z.run σ' H' D E en' w' (k.step x) t (kx.step x), k.rt, k.bk, k.ct⟩ t kx)
theorem wsx_if {c : Expr} {sa sb : List Stmt} (h : WTx X ρ M c (fun b' M1 => if b' = true then WSsx X ρ M1 sa Ψ Ξ else WSsx X ρ M1 sb Ψ Ξ) Ξ) : WSx X ρ M (.If c sa sb pos) Ψ Ξ := .mk fun σ H D E en w k t kx =>
  sOf (ps_if pt_sem pss_sem pss_sem) (h.run σ H _ E en w (fun c H1 M1 e1 w1 hz => by
    cases c with
    | true => exact WSsx.run hz σ H1 D E (en.mono e1) w1 (k.step e1) t (kx.step e1)
    | false => exact WSsx.run hz σ H1 D E (en.mono e1) w1 (k.step e1) t (kx.step e1)) t kx)
/-- raise C(e) -/
theorem wsx_raise {C : Addr} {k : Nat} {pos2 : Pos} (hc : X.calm = true) (T : XL.Er X.prog X.K X.mg x C) (hr : Room k X.A) (h : WE X ρ M e fun d M1 => ∃ d' M2, Les M2 M1 ∧ Fz M1 M2 d d' ∧ Ξ C [("value", d')] M2) (hg : Gl X x := by rfl) (hdb : (x == ("__debug__" : Str)) = false := by decide)
    (he : starEach (e :: []) X.env = (false, eval e X.env) :: starEach [] X.env := by rfl) (hpl : (backTo pos (starEach [] X.env)).any (·.1) = false := by rfl) : WSx X ρ M (.Raise (some (.Call (.Name x p) [e] [] pos)) none pos2) Ψ Ξ := .mk fun σ H D E en w k t kx =>
  sOf (XL.ps_raiseE hc T hr t (pa_sem (es := [e])) hg hdb he hpl) ((wa_cons (es := []) (ΦA := fun ds M1 => ∃ d, ds = [d] ∧ ∃ d' M2, Les M2 M1 ∧ Fz M1 M2 d d' ∧ Ξ C [("value", d')] M2) (h.imp fun d M1 z => wa_nil ⟨d, rfl, z⟩) he).run σ H _ en w fun vs ds H1 M1 e1 w1 r1 hz => by
    obtain ⟨d, rfl, d', M2, l, f, hz⟩ := hz
    cases r1 with
    | cons r1 r2 =>
      cases r2
      rename_i v
      refine ⟨v, rfl, fun q hq => ?_⟩
      have x2 : Ext M1 _ H1 M1 (upd H1 q (.xd [("value", v)])) := Ext.new w1 hq
      have w2 := w1.new (o := .xd [("value", v)]) hq
      have r3 := f.rep l w2 (r1.mono x2)
      exact kx C _ _ q _ M2 ((e1.trans x2).trans (l.ext w2)) (l.w w2) upd_same (l.x (H := upd H1 q (.xd [("value", v)])) q _ upd_same (w1.fresh hq)).2 (.cons r3 .nil) hz)
end
end DL
namespace DL
open PySem PySem.Spec PyProof.Rows L2
/-- a contract with what is wanted where an error is raised -/
abbrev ConX := List D → Mp → (D → Mp → Prop) → Xi → Prop
def spX (K : PySem.W.Frag) (n : Nat) (c : ConX) : Sp := fun vs H Q E => ∃ ds M Z Φ Ξ, ds.length = n ∧ Reps K M Z H vs ds ∧ Wd K M Z H ∧ c ds M Φ Ξ ∧ KE K M Z H Φ Q ∧ KX K M Z H Ξ E
/-- the context of a body that may raise -/
abbrev bxX (P : Program) (w : World) (K : PySem.W.Frag) (mg : Str → Option Value) (base : Heap) (N : List Str) (qual : Str) (scope : Scope) (f : Addr) (cdv : Value) (A : Around) (outer : List Env) (s : Shared) (H : Hp) (E : XK) : Cx :=
  cxOf (CX P w) P w K mg base N qual scope f cdv A outer s H E
/-- a body keeps a contract -/
def BodyX (P : Program) (w : World) (K : PySem.W.Frag) (mg : Str → Option Value) (base : Heap) (qual : Str) (st : Stmt) (N : List Str) (n k : Nat) (c : ConX) : Prop :=
  ∀ (f : Addr) (cdv : Value) (A : Around) (outer : List Env) (s : Shared) (H : Hp) (E : XK), Room k (A.deeper (envOfC qual (defScope st) s.heap.objs.size f cdv)) → ∀ ds M Φ Ξ, ds.length = n → c ds M Φ Ξ →
      WSsx (bxX P w K mg base N qual (defScope st) f cdv A outer s H E) (start N ds) M (defBody st) { nx := fun _ M' => Φ .non M', rt := Lets Φ } Ξ
section
variable {P : Program} {w : World} {K : PySem.W.Frag} {mg : Str → Option Value} {base : Heap} {x qual : Str} {st : Stmt} {dvs : List V} {kws : List (Str × V)} {f : Addr} {fd : FuncData} {N ps : List Str} {k n : Nat} {c : ConX}
theorem fnX_ok (F : FunD K x qual (defArgs st) (defBody st) (defScope st) dvs kws f fd) (S : FnScope N ps (defScope st)) (h : BodyX P w K mg base qual st N ps.length k c) : FnOk P w K mg base (CX P w) (k + 1) f fd ps (spX K ps.length c) := by
  obtain ⟨oc, od, dV, kV, doc, pm, an, cdv, ct, osl, rfl, lk, hcd, _, _⟩ := F.ex
  have ln : ∀ vs H Q E, spX K ps.length c vs H Q E → vs.length = ps.length := fun vs H Q E q => by
    obtain ⟨ds, M, Z, Φ, Ξ, hl, r, _⟩ := q
    rw [r.length, hl]
  refine ⟨ln, fun A outer s H args us vs Q E hr e0 hb rv hsp => ?_⟩
  have hlen := ln _ _ _ _ hsp
  have hK : K.In s.heap := e0.mod.kin.keeps fun b o z => (e0.bs b o z).1
  have hlim : s.heap.NoLimit := e0.mod.nolimit.keeps fun b o z => (e0.bs b o z).1
  have kinds : ∀ y ∈ ps.zip us, (defScope st).names.lookup y.1 = some .local ∨ ((defScope st).names.lookup y.1 = some .cell ∧ ((cellsFrom (s.heap.objs.size + 1) (defScope st).names []).lookup y.1).isSome = true) := fun y hy => by
    rcases S.par y.1 (List.of_mem_zip hy).1 with z | z
    · exact .inl z
    · exact .inr ⟨z, PySem.W.cellsFrom_some _ _ _ (.inl z)⟩
  refine codeAny_call_function hr.depth (hK _ _ lk) rfl S.co S.gen rfl (PySem.W.codeRec_of hK hcd) (hb _ _ _ _ (wpAny_newFunctionEnv_cells S.kind kinds fun env he s1 xx => ?_))
  subst he
  refine ⟨hlim.keeps xx.toInCall.keep, codeAny_func ?_⟩
  obtain ⟨ds, M, Z, Φ, Ξ, hl, r, wd, hc, kk, kx⟩ := hsp
  have I : Inv (cxOf (CX P w) P w K mg base N qual (defScope st) f cdv A outer s H E) [] (L2.start N vs) H s1 := inv_start S hr.hd e0 hlen rv xx
  have tk : TakesE (cxOf (CX P w) P w K mg base N qual (defScope st) f cdv A outer s H E) E := takes_of rfl rfl rfl rfl
  have body := (h f cdv A outer s H E (hr.deeper _) ds M Φ Ξ hl hc).run (L2.start N vs) H { nx := fun _ H' => Q .non H', rt := Q } E (env_start r) wd ⟨fun σ' ρ' H' M' x w' en z => kk _ .non H' M' x w' .non z, lets_k kk, fun _ _ _ _ _ _ _ z => z.elim, fun _ _ _ _ _ _ _ z => z.elim⟩ tk kx
  have done : ∀ {σ' : L2.St} {H' : Hp} {v : V} {u : Value} {s' : Shared}, Inv (cxOf (CX P w) P w K mg base N qual (defScope st) f cdv A outer s H E) [] σ' H' s' → RelV v u → Q v H' → CE outer P w H s Q u s' := fun {σ' H' v u s'} J ru q => ⟨v, H', J.os, J.bare, J.base, J.hok, ru, q⟩
  refine wpAny_mono ((pss_sem (X := cxOf (CX P w) P w K mg base N qual (defScope st) f cdv A outer s H E)).run [] s1 (L2.start N vs) H _ I body) (fun fl s' hs => ?_) fun e s' hs => hs
  cases fl with
  | ret u => obtain ⟨v, σ', H', J, ru, q⟩ := hs; exact done J ru q
  | next => obtain ⟨σ', H', J, q⟩ := hs; exact done (v := V.non) (u := Value.none) J rfl q
  | brk => obtain ⟨_, _, _, q⟩ := hs; exact q.elim
  | cont => obtain ⟨_, _, _, q⟩ := hs; exact q.elim
end
/-- the global x is a def with this contract -/
structure Fcx (P : Program) (w : World) (K : PySem.W.Frag) (mg : Str → Option Value) (base : Heap) (x : Str) (dd : List D) (k n : Nat) (c : ConX) : Prop where
  ex : ∃ (f : Addr) (fd : FuncData) (ps : List Str) (dvs : List V) (ds : List Value), FnOk P w K mg base (CX P w) k f fd ps (spX K n c) ∧ mg x = some (.ref f) ∧ PySem.W.keepIn K (.ref f) = true ∧ Binds K fd ps ds ∧ Vals dvs ds ∧ ∀ M Z H, Reps K M Z H dvs dd
/-- the method m of the class at C has this contract -/
structure Mcx (P : Program) (w : World) (K : PySem.W.Frag) (mg : Str → Option Value) (base : Heap) (C : Addr) (m : Str) (dd : List D) (k n : Nat) (c : ConX) : Prop where
  cl : Cls K C
  ex : ∃ (f : Addr) (fd : FuncData) (ps : List Str) (dvs : List V) (ds : List Value), FnOk P w K mg base (CX P w) k f fd ps (spX K n c) ∧ Meth K C m f ∧ Binds K fd ps ds ∧ Vals dvs ds ∧ ∀ M Z H, Reps K M Z H dvs dd
section
variable {X : Cx} {ρ : Rho} {M : Mp} {Φ : D → Mp → Prop} {Ξ : Xi} {e o : Expr} {es : List Expr} {pos p apos : Pos} {x m : Str} {dd : List D} {k n : Nat} {c : ConX}
theorem spX_run {vs dvs : List V} {ds : List D} {M1 : Mp} {Z : Zn} {H1 : Hp} {Q : VK} {E : XK} (r : Reps X.K M1 Z H1 vs ds) (rd : Reps X.K M1 Z H1 dvs dd) (w1 : Wd X.K M1 Z H1) (hz : (ds ++ dd).length = n ∧ c (ds ++ dd) M1 Φ Ξ) (k : KE X.K M1 Z H1 Φ Q) (kx : KX X.K M1 Z H1 Ξ E) : spX X.K n c (vs ++ dvs) H1 Q E :=
  ⟨ds ++ dd, M1, Z, Φ, Ξ, hz.1, r.append rd, w1, hz.2, k, kx⟩
end
end DL
namespace DL
open PySem PySem.Spec PyProof.Rows L2
section
variable {P : Program} {w : World} {K : PySem.W.Frag} {mg : Str → Option Value} {base : Heap} {x qual : Str} {st : Stmt} {N ps : List Str} {j k n : Nat} {c : ConX} {dd : List D} {C : Addr} {m : Str} {f : Addr}
theorem Fcx.up (F : Fcx P w K mg base x dd j n c) (h : j ≤ k) : Fcx P w K mg base x dd k n c := by
  obtain ⟨f, fd, ps, dvs, ds, F, r⟩ := F.ex
  exact ⟨f, fd, ps, dvs, ds, F.mono h, r⟩
theorem Mcx.up (F : Mcx P w K mg base C m dd j n c) (h : j ≤ k) : Mcx P w K mg base C m dd k n c := by
  obtain ⟨f, fd, ps, dvs, ds, G, r⟩ := F.ex
  exact ⟨F.cl, f, fd, ps, dvs, ds, G.mono h, r⟩
/-- the class of the name x, the contract of its __init__, which may raise -/
structure Kcx (P : Program) (w : World) (K : PySem.W.Frag) (mg : Str → Option Value) (base : Heap) (x : Str) (C : Addr) (dd : List D) (k n : Nat) (c : ConX) : Prop where
  at_ : mg x = some (.ref C)
  ex : ∃ (f : Addr) (fd : FuncData) (ps : List Str) (dvs : List V) (ds : List Value), FnOk P w K mg base (CX P w) k f fd ps (spX K n c) ∧ Mk K C f ∧ Binds K fd ps ds ∧ Vals dvs ds ∧ ∀ M Z H, Reps K M Z H dvs dd
theorem Kcx.up (F : Kcx P w K mg base x C dd j n c) (h : j ≤ k) : Kcx P w K mg base x C dd k n c := by
  obtain ⟨f, fd, ps, dvs, ds, G, r⟩ := F.ex
  exact ⟨F.at_, f, fd, ps, dvs, ds, G.mono h, r⟩
end
section
variable {X : Cx} {ρ : Rho} {M : Mp} {Φ : D → Mp → Prop} {Ξ : Xi} {Ψ : DE} {e a b o : Expr} {es : List Expr} {sts : List Stmt} {st : Stmt} {pos p apos : Pos} {x m : Str} {dd : List D} {k n : Nat} {c : ConX}
/-- isinstance(v, C), v an error -/
theorem call_isX : CallR X (.builtin "isinstance") (fun xs H Q => ∃ a C dx fs b c cv, xs = [.ref a, c] ∧ ClsV c cv ∧ XL.ErV X.K C ∧ H a = some (XL.XV a (.ref C) (some dx)) ∧ H dx = some (.xd fs) ∧ PySem.W.kitOne X.K (.ref C) cv = some b ∧ Q (.bl b) H) := by
  intro pins s σ H xs us Q I r h
  obtain ⟨a, C, dd, fs, b, c, cv, rfl, hc, E, ea, ed, hk, q⟩ := h
  refine XL.call_isV c cv (fun u hu => ?_) pins s σ H _ us Q I r ⟨a, C, dd, fs, b, rfl, E, ea, ed, hk, q⟩
  cases hc with
  | ty n => exact hu
  | own C => exact hu
theorem we_isX (hm : X.mg "isinstance" = none) (h : WE X ρ M a fun x M1 => WE X ρ M1 b fun y M2 => ∃ C fs u c, x = .exc C fs ∧ ClsD y u ∧ XL.ErV X.K C ∧ PySem.W.kitOne X.K (.ref C) u = some c ∧ Φ (.bl c) M2) (hg : Gl X "isinstance" := by rfl)
    (ha : starEach [a, b] X.env = (false, eval a X.env) :: starEach [b] X.env := by rfl) (hb : starEach [b] X.env = (false, eval b X.env) :: starEach [] X.env := by rfl) (hpl : (backTo pos (starEach [b] X.env)).any (·.1) = false := by rfl) : WE X ρ M (.Call (.Name "isinstance" p) [a, b] [] pos) Φ :=
  we_callB call_isX hm (by decide +kernel) (wa_cons (h.imp fun x M1 h => wa_cons (h.imp fun y M2 h => wa_nil fun Z vs H Q w rr k => by
    obtain ⟨v, u, rfl, r1, r2⟩ := rr.two
    obtain ⟨C, fs, cu, c, rfl, h2, E, h3, h⟩ := h
    cases r1 with
    | exc e1 e2 m1 m2 rf =>
      refine ⟨_, C, _, _, c, u, cu, rfl, ?_, E, e1, e2, h3, k.now w (.bl _) h⟩
      cases r2 with
      | ty n => cases h2; exact .ty n
      | fn C => cases h2; exact .own C
      | _ => cases h2) hb) ha) hg (he := ha) (hpl := hpl)
/-- v.value, v an error -/
theorem we_valX {f : Str} (h : WE X ρ M o fun d M1 => ∃ C fs v, d = .exc C fs ∧ XL.ErV X.K C ∧ PySem.W.findIn X.K (.ref C) f = some none ∧ fs.lookup f = some v ∧ Φ v M1) (hb : attributeBase o f X.env (eval o X.env) = eval o X.env := by rfl) : WE X ρ M (.Attribute o f pos) Φ := .mk fun σ H Q en w k =>
  eOf (XL.pe_valV pe_sem hb) (h.run σ H _ en w fun v d H1 M1 e1 w1 r1 hz => by
    obtain ⟨C, fs, y, rfl, E, hno, hl, hz⟩ := hz
    cases r1 with
    | exc q1 q2 m1 m2 rf =>
      obtain ⟨u, hu, ru⟩ := (rf.lookup f).2 y hl
      exact ⟨_, C, _, _, u, rfl, E, hno, q1, q2, hu, (k.step e1).now w1 ru hz⟩)
end
end DL
namespace XL
open PySem PySem.W PySem.Calls PyProof.Rows PySem.HandSPX L2 LamX
/-- a lambda is made -/
theorem lam_make4 {X : Cx} {pins : List (Addr × Obj)} {σ : L2.St} {H : Hp} {s : Shared} {c P : Addr} {params : Arguments} {body : Expr} {scope : Scope} {pos : Pos} {E Q : Value → Shared → Prop} (I : L2.Inv X pins σ H s) (TB : TabB X.base X.mg c P) (hcode : X.env.code = .ref c) (hex : X.ex = []) (hT : TabS H P (X.env.qual ++ "<lambda>"))
    (hdef : defaultsOf params X.env = ([], [])) (hfree : ∀ y ∈ scope.names, y.2 = NameKind.free → ∃ c, X.env.cells.lookup y.1 = some c)
    (h : ∀ (f c' : Addr) (H1 : Hp) (s' : Shared), L2.Inv X pins σ H1 s' → (∀ b o, H b = some o → b ≠ P → H1 b = some o) → TabS H1 P (X.env.qual ++ "<lambda>") → H f = none →
      H1 f = some (LamO f (X.env.qual ++ "<lambda>") params body scope (cloFrom X.env.cells scope.names []) c') → H1 c' = some (CodeO c' (X.env.qual ++ "<lambda>")) → f ≠ c' → c' ≠ P → (H c' = none ∨ ∃ ps pos, H P = some (.tbl ps) ∧ codeAmong pos ps.toList = some (.ref c')) →
      (∀ ps1 pos' cv, H1 P = some (.tbl ps1) → codeAmong pos' ps1.toList = some cv → cv = .ref c' ∨ ∃ ps, H P = some (.tbl ps) ∧ codeAmong pos' ps.toList = some cv) → Q (.ref f) s') :
    wpAny (model X.prog X.w) X.A (eval (.Lambda params body scope pos) X.env) Q E s := by
  obtain ⟨ps, hP, ht, ha⟩ := hT
  refine W.kla_eval hdef ?_
  have bP := TB.bm.keeps I.bk
  have hP' := I.hok P (.tbl ps) hP
  cases hc : codeAmong pos ps.toList with
  | none =>
    refine W.kla_makeFunction (closure_ok hfree) I.ok.glob (I.mod.glob.keeps I.bk) hcode (TB.code.keeps I.bk) hP' ht hc TB.gP bP fun c' ctv h' tk hx hge hlt hrec htb => ?_
    obtain ⟨c2, oc, vs, t, e2, hoc, hd, hv⟩ := hrec
    cases e2
    have hsz : s.heap.objs.size ≤ h'.objs.size := Nat.le_trans hge (Nat.le_of_lt hlt)
    have nC : H c' = none := I.hok.fresh hge
    have I1 := inv_table (t' := tk) I hP (fun b o hb e => Heap.get?_push_of_some (W.kla_obj "<lambda>" (X.env.qual ++ "<lambda>") params body scope (cloFrom X.env.cells scope.names []) ((X.mg "__name__").getD .none) c' ctv) (hx b o hb e)) (Heap.get?_push_of_some _ htb) hge ⟨oc, vs, t, Heap.get?_push_of_some _ hoc, hd, hv⟩
    have n1 : h'.objs.size ≠ c' := Nat.ne_of_gt hlt
    have n2 : h'.objs.size ≠ P := Nat.ne_of_gt (Nat.lt_of_lt_of_le (Heap.lt_size hP') hsz)
    have n3 : c' ≠ P := fun z => by rw [z, hP] at nC; cases nC
    have fN0 : H h'.objs.size = none := I.hok.fresh hsz
    have fN : (upd (upd H P (.tbl (ps ++ #[rawInt pos.line, rawInt pos.col, .ref c']))) c' (CodeO c' (X.env.qual ++ "<lambda>"))) h'.objs.size = none := by rw [upd_ne n1, upd_ne n2]; exact fN0
    have I2 := give_lam I I1 hex hsz fN (Heap.get?_push_size h' rfl)
    have kk : ∀ b o, H b = some o → b ≠ P → (upd (upd (upd H P (.tbl (ps ++ #[rawInt pos.line, rawInt pos.col, .ref c']))) c' (CodeO c' (X.env.qual ++ "<lambda>"))) h'.objs.size (LamO h'.objs.size (X.env.qual ++ "<lambda>") params body scope (cloFrom X.env.cells scope.names []) c')) b = some o := fun b o e n => by
      rw [upd_ne (ne_of_none e fN0), upd_ne (ne_of_none e nC), upd_ne n]; exact e
    have hc1 : (upd (upd (upd H P (.tbl (ps ++ #[rawInt pos.line, rawInt pos.col, .ref c']))) c' (CodeO c' (X.env.qual ++ "<lambda>"))) h'.objs.size (LamO h'.objs.size (X.env.qual ++ "<lambda>") params body scope (cloFrom X.env.cells scope.names []) c')) c' = some (CodeO c' (X.env.qual ++ "<lambda>")) := by rw [upd_ne (Ne.symm n1), upd_same]
    have eL : (ps ++ #[rawInt pos.line, rawInt pos.col, .ref c']).toList = ps.toList ++ [rawInt pos.line, rawInt pos.col, .ref c'] := by simp
    have hP1 : (upd (upd (upd H P (.tbl (ps ++ #[rawInt pos.line, rawInt pos.col, .ref c']))) c' (CodeO c' (X.env.qual ++ "<lambda>"))) h'.objs.size (LamO h'.objs.size (X.env.qual ++ "<lambda>") params body scope (cloFrom X.env.cells scope.names []) c')) P = some (.tbl (ps ++ #[rawInt pos.line, rawInt pos.col, .ref c'])) := by rw [upd_ne (Ne.symm n2), upd_ne (Ne.symm n3), upd_same]
    refine h _ c' _ _ I2 kk ⟨_, by rw [upd_ne (Ne.symm n2), upd_ne (Ne.symm n3), upd_same], by rw [eL]; exact TriplesOk_snoc _ _ _ _ ht, fun p' cv hcv => ?_⟩ fN0 upd_same hc1 n1 n3 (.inl nC) (fun ps1 pos' cv e1 hcv => ?_)
    rotate_left
    · rw [hP1] at e1; cases e1
      rw [eL] at hcv
      rcases among_app ps.toList ht hcv with z | z
      · exact .inr ⟨ps, hP, z⟩
      · exact .inl z
    rw [eL] at hcv
    rcases among_app ps.toList ht hcv with z | z
    · obtain ⟨c0, e1, e2⟩ := ha p' cv z
      exact ⟨c0, e1, kk c0 _ e2 (fun q => by rw [q, hP] at e2; cases e2)⟩
    · exact ⟨c', z, hc1⟩
  | some cv =>
    obtain ⟨c', rfl, hco⟩ := ha pos cv hc
    refine W.kla_makeFunctionHit (closure_ok hfree) I.ok.glob (I.mod.glob.keeps I.bk) hcode (TB.code.keeps I.bk) hP' ht hc bP fun ctv h' tk hx hsz => ?_
    have I1 := I.kept (t' := tk) fun b o e => Heap.get?_push_of_some (W.kla_obj "<lambda>" (X.env.qual ++ "<lambda>") params body scope (cloFrom X.env.cells scope.names []) ((X.mg "__name__").getD .none) c' ctv) (hx b o e)
    have fN0 : H h'.objs.size = none := I.hok.fresh hsz
    have I2 := give_lam I I1 hex hsz fN0 (Heap.get?_push_size h' rfl)
    have kk : ∀ b o, H b = some o → (upd H h'.objs.size (LamO h'.objs.size (X.env.qual ++ "<lambda>") params body scope (cloFrom X.env.cells scope.names []) c')) b = some o := fun b o e => by
      rw [upd_ne (ne_of_none e fN0)]; exact e
    refine h _ c' _ _ I2 (fun b o e _ => kk b o e) ⟨ps, kk _ _ hP, ht, fun p' cv hcv => ?_⟩ fN0 upd_same (kk _ _ hco) (fun z => by rw [z, hco] at fN0; cases fN0) (fun z => by rw [z, hP] at hco; cases hco) (.inr ⟨ps, pos, hP, hc⟩) (fun ps1 pos' cv e1 hcv => ?_)
    rotate_left
    · rw [kk _ _ hP] at e1; cases e1
      exact .inr ⟨ps, hP, hcv⟩
    obtain ⟨c0, e1, e2⟩ := ha p' cv hcv
    exact ⟨c0, e1, kk c0 _ e2⟩
end XL
namespace DL
open PySem PySem.Spec PyProof.Rows L2
section
variable {X : Cx} {ρ : Rho} {M : Mp} {Φ : D → Mp → Prop} {pos : Pos}
/-- a lambda -/
theorem we_lam {P c : Addr} {params : Arguments} {body : Expr} {scope : Scope} (TB : LamX.TabB X.base X.mg c P) (hcode : X.env.code = .ref c) (hex : X.ex = []) (hM : M P = some (.tbl (X.env.qual ++ "<lambda>"))) (hdef : defaultsOf params X.env = ([], []))
    (hfree : ∀ y ∈ scope.names, y.2 = NameKind.free → ∃ c, X.env.cells.lookup y.1 = some c) (h : Φ (.lam (X.env.qual ++ "<lambda>") params body scope (cloFrom X.env.cells scope.names [])) M) : WE X ρ M (.Lambda params body scope pos) Φ := .mk fun {Z} σ H Q en w k => by
  intro pins s I
  obtain ⟨ps, hP, ht, ha⟩ := w.1 P _ hM
  refine XL.lam_make4 I TB hcode hex ⟨ps, hP, ht, fun p cv z => let ⟨c, e1, e2, _⟩ := ha p cv z; ⟨c, e1, e2⟩⟩ hdef hfree fun f c' H1 s' I1 kk T1 hf hf1 hc1 nfc ncP hor htab => ?_
  have mc : Im M Z c' := by
    rcases hor with e | ⟨ps2, pos2, e1, e2⟩
    · exact w.fresh e
    · rw [hP] at e1; cases e1
      obtain ⟨c, e3, _, m⟩ := ha _ _ e2
      cases e3
      exact m
  have mf : Im M Z f := w.fresh hf
  have x1 : Ext M Z H M H1 := ⟨fun b o e m => ⟨kk b o e (fun z => by rw [z] at m; rw [m.1] at hM; cases hM), m⟩, fun b z => by
    obtain ⟨m, u, e⟩ := w.2 b z
    refine ⟨?_, rfl⟩
    rw [e]
    exact kk b u e fun z => by rw [z, hM] at m; cases m⟩
  have w1 : Wd X.K M Z H1 := by
    refine ⟨fun a o e => ?_, fun a z => ?_⟩
    · by_cases q : a = P
      · rw [q, hM] at e; cases e
        rw [q]
        obtain ⟨ps1, y1, y2, y3⟩ := T1
        refine ⟨ps1, y1, y2, fun p cv z => ?_⟩
        obtain ⟨c2, e1, e2⟩ := y3 p cv z
        subst e1
        refine ⟨c2, rfl, e2, ?_⟩
        rcases htab ps1 p _ y1 z with e3 | ⟨ps2, e3, e4⟩
        · cases e3; exact mc
        · rw [hP] at e3; cases e3
          obtain ⟨c3, e5, _, m⟩ := ha _ _ e4
          cases e5
          exact m
      · have r := w.1 a o e
        obtain ⟨u, hu⟩ := r.there
        exact r.step x1 ((kk a u hu q).trans hu.symm)
    · obtain ⟨m, u, e⟩ := w.2 a z
      exact ⟨m, u, by rw [(x1.2 a z).1]; exact e⟩
  exact ⟨.ref f, H1, I1, rfl, k _ _ H1 M x1 w1 (.lam hf1 hc1 mf mc) h⟩
end
end DL
namespace XL
open PySem PySem.W PySem.Calls PyProof.Rows PySem.HandSPX L2 LamX
/-- look(), E what is wanted where it raises -/
def tAct (X : Cx) (σ : L2.St) (i : Nat) (tb : XK → Arguments → Expr → Scope → TE) (E : L2.St → XK) : TE := fun σZ HZ Q => ∃ (f c' : Addr) (params : Arguments) (body : Expr) (scope : Scope), σZ[i]? = some (some (.ref f)) ∧ HZ f = some (LamO f (X.env.qual ++ "<lambda>") params body scope (cloFrom X.env.cells scope.names []) c') ∧ HZ c' = some (CodeO c' (X.env.qual ++ "<lambda>")) ∧
  LamS X.env.scope scope ∧ (∀ (pm cv ctv : Value), bindArgs (PySem.W.kla_fn "<lambda>" (X.env.qual ++ "<lambda>") params body scope (cloFrom X.env.cells scope.names []) pm cv ctv) ⟨[], []⟩ = pure []) ∧ tb (E σZ) params body scope σ HZ Q
section
variable {X : Cx} {pins : List (Addr × Obj)} {σ : L2.St} {H : Hp} {s : Shared} {Ng : List Str} {qg : Str} {sg : Scope} {g B : Addr} {cdg : Value} {k i j : Nat} {a n x : Str} {p1 p2 p3 np pos pos' : Pos} {tb : XK → Arguments → Expr → Scope → TE} {b₀ : Stmt} {suite : List Stmt} {ts : Addr → Value → Option Addr → TS}
/-- try: look() except X as n: suite -/
theorem try_look (I : L2.Inv X pins σ H s) (hr : Room (k + 1) (X.A.deeper (envOfC qg sg s.heap.objs.size g cdg)))
    (hbody : ∀ (E : XK) (params : Arguments) (body : Expr) (scope : Scope) (f c' : Addr) (A : Around) (outer : List Env) (s : Shared) (H : Hp), Room k (A.deeper (lamEnv X scope s.heap.objs.size f c')) → PE (lamCx X A outer s H E scope f c') body (tb E params body scope))
    (hN : Ng[i]? = some a) (hv : Vis sg a) (hd : (a == ("__debug__" : Str)) = false) (hcd : (a == ("__classdict__" : Str)) = false)
    (nd : Ng.Nodup) (hj : Ng[j]? = some n) (hln : (envOfC qg sg s.heap.objs.size g cdg).kindOf n = some .local) (hc : Names (cxOf CX0 X.prog X.w X.K X.mg X.base Ng qg sg g cdg X.A X.stack s H E0).nox x (.ref B))
    (hsw : swapsWith (.Call (.Name a p1) [] [] p2) none p3.line (envOfC qg sg s.heap.objs.size g cdg) = pure false)
    (hsu : ∀ (a : Addr) (oe : Obj) (cls : Value) (d : Option Addr) (pn : List (Addr × Obj)), Zc cls d oe → (∃ vs, oe.data = .fields vs) → PSs ((cxOf CX0 X.prog X.w X.K X.mg X.base Ng qg sg g cdg X.A X.stack s H E0).nox.suite a ((a, oe) :: pn)) (b₀ :: suite) (ts a cls d)) :
    PS (cxOf CX0 X.prog X.w X.K X.mg X.base Ng qg sg g cdg X.A X.stack s H E0).nox (.Try [.Expr (.Call (.Name a p1) [] [] p2) p3] [.ExceptHandler (some (.Name x np)) (some n) (b₀ :: suite) pos'] [] [] pos)
      (fun D σZ HZ => tSeq (tDrop (tAct X σ i tb (fun σZ cls d H' => wAsV X.K (.ref B) j ts (fun _ _ _ _ => False) D cls d σZ H'))) tNext D σZ HZ) :=
  ps_try_asV (X := (cxOf CX0 X.prog X.w X.K X.mg X.base Ng qg sg g cdg X.A X.stack s H E0).nox) (tb := fun W => tSeq (tDrop (tAct X σ i tb (fun σZ cls d H' => W cls d σZ H'))) tNext) rfl rfl rfl nd hj hln hc L2.takes0
    (fun W pn xe tk _ => pss_cons (ps_expr (pe_actV (CXg := CX0) (Eg := E0) (E := fun σZ cls d H' => W cls d σZ H') I tk (fun _ _ _ _ z => z) hr hbody hN hv hd hcd) hsw) pss_nil) hsu
/-- what the def makes of the lambda at f: None, or the error that it raises -/
def GiveC (X : Cx) (σ : L2.St) (K : Frag) (B : Addr) (tb : XK → Arguments → Expr → Scope → TE) (f : Addr) (H : Hp) (Q : VK) : Prop := ∃ (c' : Addr) (params : Arguments) (body : Expr) (scope : Scope), H f = some (LamO f (X.env.qual ++ "<lambda>") params body scope (cloFrom X.env.cells scope.names []) c') ∧ H c' = some (CodeO c' (X.env.qual ++ "<lambda>")) ∧
  LamS X.env.scope scope ∧ (∀ (pm cv ctv : Value), bindArgs (PySem.W.kla_fn "<lambda>" (X.env.qual ++ "<lambda>") params body scope (cloFrom X.env.cells scope.names []) pm cv ctv) ⟨[], []⟩ = pure []) ∧
  ∀ (E : XK) (R : VK), (∀ v H', Q .non H' → R v H') → (∀ cls d H', exmOne K cls (.ref B) = some true → (∀ a, H' a = none → Q (.ref a) (upd H' a (XV a cls d))) → E cls d H') → tb E params body scope σ H R
/-- here = None; try: look() except X as n: here = n; return here -/
theorem caughtB {here : Str} {q1 q2 q3 q4 q5 q6 q7 q8 : Pos} {jn : Nat} (I : L2.Inv X pins σ H s) (hr : Room (k + 1) (X.A.deeper (envOfC qg sg s.heap.objs.size g cdg)))
    (hbody : ∀ (E : XK) (params : Arguments) (body : Expr) (scope : Scope) (f c' : Addr) (A : Around) (outer : List Env) (s : Shared) (H : Hp), Room k (A.deeper (lamEnv X scope s.heap.objs.size f c')) → PE (lamCx X A outer s H E scope f c') body (tb E params body scope))
    (hv : Vis sg a) (hvn : Vis sg n) (hvh : Vis sg here) (hlh : L2.Loc sg here) (hd : (a == ("__debug__" : Str)) = false) (hcd : (a == ("__classdict__" : Str)) = false) (hd2 : (n == ("__debug__" : Str)) = false) (hcd2 : (n == ("__classdict__" : Str)) = false) (hd3 : (here == ("__debug__" : Str)) = false) (hcd3 : (here == ("__classdict__" : Str)) = false)
    (nd : Ng.Nodup) (hNg : Ng = [a, here, n]) (hln : (envOfC qg sg s.heap.objs.size g cdg).kindOf n = some .local) (hc : Names (cxOf CX0 X.prog X.w X.K X.mg X.base Ng qg sg g cdg X.A X.stack s H E0).nox x (.ref B))
    (hsw : swapsWith (.Call (.Name a p1) [] [] p2) none p3.line (envOfC qg sg s.heap.objs.size g cdg) = pure false)
    {f : Addr} {Q : VK} (h : GiveC X σ X.K B tb f H Q) :
    ∃ t, PSs (cxOf CX0 X.prog X.w X.K X.mg X.base Ng qg sg g cdg X.A X.stack s H E0).nox [.Assign [.Name here q1] (.Constant .none jn q2) q3, .Try [.Expr (.Call (.Name a p1) [] [] p2) p3] [.ExceptHandler (some (.Name x np)) (some n) [.Assign [.Name here q4] (.Name n q5) q6] pos'] [] [] pos, .Return (some (.Name here q7)) q8] t ∧
      t { nx := fun _ H' => Q .non H', rt := Q } (L2.start Ng [.ref f]) H := by
  subst hNg
  refine ⟨_, pss_cons (ps_asg pe_non (pg_name (i := 1) nd rfl hlh (Or.inl rfl)) rfl rfl rfl) (pss_cons (try_look (i := 0) (j := 2) I hr hbody rfl hv hd hcd nd rfl hln hc hsw (fun a oe cls d pn hz hf => pss_cons (ps_asg (pe_var (i := 2) rfl hvn hd2 hcd2) (pg_name (i := 1) nd rfl hlh (Or.inl rfl)) rfl rfl rfl) pss_nil)) (pss_cons (ps_ret (pe_var (i := 1) rfl hvh hd3 hcd3)) pss_nil)), ?_⟩
  obtain ⟨c', params, body, scope, h1, h2, h3, h4, h5⟩ := h
  refine ⟨f, c', params, body, scope, rfl, h1, h2, h3, h4, ?_⟩
  exact h5 _ _ (fun v H' z => ⟨_, rfl, z⟩) fun cls d H' he hq => ⟨true, he, fun _ a ha => ⟨_, rfl, _, rfl, hq a ha⟩, fun z => by cases z⟩
end
end XL
namespace DL
open PySem PySem.Spec PyProof.Rows L2
/-- the lambda's reading, whatever stands around it -/
def tbL (X : Cx) (k : Nat) : XK → Arguments → Expr → Scope → TE := fun E _ body scope σ H Q => ∀ (f c' : Addr) (A : Around) (outer : List Env) (s : Shared) (H0 : Hp), Room k (A.deeper (LamX.lamEnv X scope s.heap.objs.size f c')) → eSem (LamX.lamCx X A outer s H0 E scope f c') body σ H Q
theorem tbL_pe {X : Cx} {k : Nat} (E : XK) (params : Arguments) (body : Expr) (scope : Scope) (f c' : Addr) (A : Around) (outer : List Env) (s : Shared) (H : Hp) (hr : Room k (A.deeper (LamX.lamEnv X scope s.heap.objs.size f c'))) : PE (LamX.lamCx X A outer s H E scope f c') body (tbL X k E params body scope) :=
  ⟨fun pins s1 σ H1 Q I h => h f c' A outer s H hr pins s1 I⟩
/-- the def at g (slots Ng, scope sg, body bg) gives what the lambda raises, of the class at B -/
def Gives (X : Cx) (k : Nat) (B g : Addr) (x : Str) (Ng : List Str) (sg : Scope) (cdg : Value) (bg : List Stmt) : Prop := ∀ (pins : List (Addr × Obj)) (σ : L2.St) (H : Hp) (s : Shared) (f : Addr) (Q : VK), L2.Inv X pins σ H s → Room (k + 1) (X.A.deeper (envOfC x sg s.heap.objs.size g cdg)) → XL.GiveC X σ X.K B (tbL X k) f H Q →
  ∃ t, PSs (cxOf CX0 X.prog X.w X.K X.mg X.base Ng x sg g cdg X.A X.stack s H E0).nox bg t ∧ t { nx := fun _ H' => Q .non H', rt := Q } (L2.start Ng [.ref f]) H
section
variable {X : Cx} {ρ : Rho} {M : Mp} {Φ : D → Mp → Prop} {e : Expr} {pos p : Pos} {x a : Str} {k : Nat} {B g : Addr} {Ng : List Str} {sg : Scope} {cdg : Value} {bg : List Stmt} {pg : Arguments} {dV kV doc pm ct oc : Value} {an od : Option Addr} {osl : Array (Option Value)}
theorem we_caught (hm : X.mg x = some (.ref g)) (hk : PySem.W.keepIn X.K (.ref g) = true) (lk : X.K.lookup g = some ⟨oc, od, .func (PySem.W.fnOf x x pg bg sg dV kV doc pm an cdg ct), osl⟩) (hcg : PySem.W.codeIn X.K cdg x = true) (hb : Binds X.K (PySem.W.fnOf x x pg bg sg dV kV doc pm an cdg ct) [a] []) (Sg : FnScope Ng [a] sg)
    (hG : Gives X k B g x Ng sg cdg bg) (hr : Room (k + 2) X.A)
    (h : WE X ρ M e fun d M1 => ∃ params body scope, d = .lam (X.env.qual ++ "<lambda>") params body scope (cloFrom X.env.cells scope.names []) ∧ LamX.LamS X.env.scope scope ∧
      (∀ (q : Str) (cl : List (Str × Addr)) (pm cv ctv : Value), bindArgs (PySem.W.kla_fn "<lambda>" q params body scope cl pm cv ctv) ⟨[], []⟩ = pure []) ∧
      ∀ (f c' : Addr) (A : Around) (outer : List Env) (s : Shared) (H0 : Hp) (E : XK), Room k (A.deeper (LamX.lamEnv X scope s.heap.objs.size f c')) → WEx (LamX.lamCx X A outer s H0 E scope f c') ρ M1 body (fun _ M2 => Φ .non M2) (fun C fs M2 => PySem.W.exmOne X.K (.ref C) (.ref B) = some true ∧ Φ (.exc C fs) M2))
    (hg : Gl X x := by rfl) (hdb : (x == ("__debug__" : Str)) = false := by decide) (he : starEach [e] X.env = (false, eval e X.env) :: starEach [] X.env := by rfl) (hpl : (backTo pos (starEach [] X.env)).any (·.1) = false := by rfl) : WE X ρ M (.Call (.Name x p) [e] [] pos) Φ := .mk fun {Z} σ H Q en w kk => by
  intro pins s I
  refine wpAny_Call_Name_kw (ld_glob I hg hm ?_ hdb)
  refine PySem.W.callWith_K (h₀ := X.base) I.ok.mod.kin hk (thn ((pa_sem (es := [e])).run pos pins s σ H (fun vs H1 => ∃ f, vs = [.ref f] ∧ XL.GiveC X σ X.K B (tbL X k) f H1 Q) I ?_) fun us s1 z => ?_) he hpl
  · refine (wa_cons (es := []) (ΦA := fun ds M1 => ∃ d, ds = [d] ∧ ∃ params body scope, d = .lam (X.env.qual ++ "<lambda>") params body scope (cloFrom X.env.cells scope.names []) ∧ LamX.LamS X.env.scope scope ∧ (∀ (q : Str) (cl : List (Str × Addr)) (pm cv ctv : Value), bindArgs (PySem.W.kla_fn "<lambda>" q params body scope cl pm cv ctv) ⟨[], []⟩ = pure []) ∧
      ∀ (f c' : Addr) (A : Around) (outer : List Env) (s : Shared) (H0 : Hp) (E : XK), Room k (A.deeper (LamX.lamEnv X scope s.heap.objs.size f c')) → WEx (LamX.lamCx X A outer s H0 E scope f c') ρ M1 body (fun _ M2 => Φ .non M2) (fun C fs M2 => PySem.W.exmOne X.K (.ref C) (.ref B) = some true ∧ Φ (.exc C fs) M2)) (h.imp fun d M1 z => wa_nil ⟨d, rfl, z⟩) he).run σ H _ en w fun vs ds H1 M1 e1 w1 r1 hz => ?_
    obtain ⟨d, rfl, params, body, scope, rfl, L, hbind, hbd⟩ := hz
    cases r1 with
    | cons r1 r2 =>
      cases r2
      cases r1 with
      | lam q1 q2 m1 m2 =>
        refine ⟨_, rfl, _, params, body, scope, q1, q2, L, fun pm cv ctv => hbind _ _ pm cv ctv, fun E R hR hE f c' A outer s0 H0 hr' => ?_⟩
        refine (hbd f c' A outer s0 H0 E hr').run σ H1 R E (en.mono e1) w1 (fun v d H2 M2 e2 w2 r2 hz => hR v H2 ((kk.step (e1.trans e2)).now w2 .non hz)) (takes_of rfl rfl rfl rfl) fun C fs vs d H2 M2 e2 w2 hd md rf hz => ?_
        refine hE _ _ _ hz.1 fun q hq => ?_
        have nq : d ≠ q := fun z => by rw [z, hq] at hd; cases hd
        have x3 : Ext M2 Z H2 M2 (upd H2 q (XL.XV q (.ref C) (some d))) := Ext.new w2 hq
        exact (kk.step ((e1.trans e2).trans x3)).now (w2.new hq) (.exc upd_same (by rw [upd_ne nq]; exact hd) (w2.fresh hq) md (rf.mono x3)) hz.2
  · obtain ⟨vs, H1, I1, r, f, rfl, hgv⟩ := z
    refine ⟨I1.kIn, ?_⟩
    cases r with
    | cons r1 r2 =>
      cases r2
      rename_i u
      obtain rfl : u = Value.ref f := r1
      have rc := LamX.run_ofS (CX := CX0) (P := X.prog) (w := X.w) (mg := X.mg) (base := X.base) (Q := Q) (E := E0) lk hcg Sg hr I1.env0 (hb s1 [Value.ref f] I1.kIn rfl) (Paired.cons (a := V.ref f) rfl Paired.nil) rfl fun hr' => by
        obtain ⟨t', ht, hq⟩ := hG pins σ H1 s1 f Q I1 hr' hgv
        exact ⟨t', PSs.nox ht, hq⟩
      refine wpAny_call (codeAny_mono rc fun r s' hq => ?_)
      cases r with
      | error er => exact hq.elim
      | ok fl =>
        cases fl with
        | ret u => exact I1.after hq
        | next => exact hq.elim
        | brk => exact hq.elim
        | cont => exact hq.elim
end
end DL
namespace DL
open PySem PySem.Spec PyProof.Rows L2
/-- nothing but the script and some empty tables is known -/
def OnlyT (cs : List (Addr × Addr)) (H : Hp) : Prop := (∀ p ∈ cs, H p.2 = some (.tbl #[])) ∧ ∀ b, H b = none ∨ b ∈ cs.map (·.2) ∨ ∃ o xs, H b = some (.frz o (.lst xs))
theorem lawGT {P : Program} {w : World} {K : PySem.W.Frag} {mg mb : Str → Option Value} {k : Nat} {fa a : Addr} {cs : List (Addr × Addr)} {fd : FuncData} {x : Str} {sp : Sp} {s : Shared} {vs : List Value} {ns : List Int}
    (KX : K.In s.heap) (gn : s.heap.Ns mainGlobals mg) (bn : s.heap.Ns builtinsNs mb) (bb : ∀ x : Str, x ≠ "__name__" → mb x = bootBuiltins x) (lim : s.heap.NoLimit) (hg : s.gens = #[])
    (tc : ∀ p ∈ cs, PySem.W.CodeHd s.heap p.1 p.2 ∧ s.heap.get? p.2 = some { cls := .none, data := .fields #[] }) (tn : ∀ p ∈ cs, K.lookup p.2 = none)
    (bm : ∃ (m : Addr) (ob : Obj), mg "__builtins__" = some (.ref m) ∧ m ≠ builtinsNs ∧ s.heap.get? m = some ob ∧ ob.cls = .type "module" ∧ ob.dict = some builtinsNs ∧ ob.data = .plain)
    (ha : s.heap.get? a = some { cls := .type "list", data := .seq vs.toArray }) (hi : IntsAre vs ns) (hl : ns.length ≤ sizeLine) (hr : Room k callerA)
    (F : ∀ base : Heap, K.In base → base.Ns mainGlobals mg → (∀ p ∈ cs, LamX.TabB base mg p.1 p.2) → FnG P w K mg base k fa fd [x] sp) (bind_ : ∀ (s : Shared) (u : Value), BindsTo s fd ⟨[u], []⟩ [(x, u)])
    (hsp : ∀ H : Hp, OnlyT cs H → SqL K H a (ns.map V.int) → sp [.ref a] H (fun v _ => v = .bl true) fun _ _ _ => False) :
    codeAny (model P w) callerA (.call (.ref fa) ⟨[.ref a], []⟩) (fun r s' => r = .ok (.ret (.bool true)) ∧ OldK s.heap s'.heap ∧ s'.os = s.os ∧ AllBare s'.gens) s := by
  have rv := vals_ints hi
  have lenV := hi.length
  have tob : ∀ b : Addr, b ∈ cs.map (·.2) → s.heap.get? b = some { cls := .none, data := .fields #[] } := fun b h => by
    obtain ⟨p, h1, rfl⟩ := List.mem_map.mp h
    exact (tc p h1).2
  have tin : ∀ p ∈ cs, p.2 ∈ cs.map (·.2) := fun p h => List.mem_map.mpr ⟨p, h, rfl⟩
  have at_a : a ∉ cs.map (·.2) := fun z => by
    have q := tob a z
    rw [ha] at q
    cases congrArg Obj.data (Option.some.inj q)
  have main : ∀ H : Hp, OnlyT cs H → SqL K H a (ns.map V.int) → HOk P w H s.heap → (∀ b, H b ≠ none → b = a ∨ b ∈ cs.map (·.2)) → (H a ≠ none → K.lookup a = none) →
      codeAny (model P w) callerA (.call (.ref fa) ⟨[.ref a], []⟩) (fun r s' => r = .ok (.ret (.bool true)) ∧ OldK s.heap s'.heap ∧ s'.os = s.os ∧ AllBare s'.gens) s := fun H o1 o2 hok at_ hK => by
    have keep0 : ∀ {b : Addr} {o : Obj}, s.heap.get? b = some o → H b = none → (hidT s.heap H).get? b = some o := fun z y => hidT_get z y
    -- what is neither the script nor a table is hidden
    have free : ∀ {b : Addr} {o : Obj}, s.heap.get? b = some o → o.data ≠ .fields #[] → (∀ n, o.data ≠ .seq vs.toArray n) → H b = none := fun {b o} z d1 d2 => by
      cases q : H b with
      | none => rfl
      | some u =>
        exfalso
        rcases at_ b (by rw [q]; simp) with e | e
        · rw [e, ha] at z
          cases z
          exact d2 _ rfl
        · rw [tob b e] at z
          cases z
          exact d1 rfl
    have noD : ∀ {b : Addr} {o : Obj} {es : Array DictEntry} {ep : Nat}, s.heap.get? b = some o → o.data = .dict es ep → H b = none := fun z d => free z (by rw [d]; simp) (by rw [d]; simp)
    have nsK : ∀ {b : Addr} {m : Str → Option Value}, s.heap.Ns b m → (hidT s.heap H).Ns b m := fun {b m} z => by
      obtain ⟨o, es, ep, y, d, r⟩ := z
      exact ⟨o, es, ep, keep0 y (noD y d), d, r⟩
    have inB : K.In (hidT s.heap H) := fun b o z => keep0 (KX b o z) (by
      cases q : H b with
      | none => rfl
      | some u =>
        rcases at_ b (by rw [q]; simp) with e | e
        · rw [e] at z q
          rw [hK (by rw [q]; simp)] at z
          cases z
        · obtain ⟨p, h1, rfl⟩ := List.mem_map.mp e
          rw [tn p h1] at z
          cases z)
    have hM : Mod K mg (hidT s.heap H) := ⟨inB, nsK gn, ⟨mb, nsK bn, bb⟩, by obtain ⟨mc, h1, h2⟩ := lim; exact ⟨mc, nsK h1, h2⟩⟩
    have TB : ∀ p ∈ cs, LamX.TabB (hidT s.heap H) mg p.1 p.2 := fun p h => by
      obtain ⟨hc, hP⟩ := tc p h
      have gP : mainGlobals ≠ p.2 := fun z => by
        obtain ⟨o, es, ep, e, hd, _⟩ := gn
        rw [z, hP] at e
        cases e
        cases hd
      refine ⟨?_, ?_, gP⟩
      · obtain ⟨o, us, file, tf, flags, tg, inF, text, tt, e1, r1, r2, r3, r⟩ := hc
        refine ⟨o, us, file, tf, flags, tg, inF, text, tt, keep0 e1 (free e1 (fun z => ?_) fun n z => ?_), r1, r2, r3, r⟩
        · rw [r2] at z
          cases z
          simp at r3
        · rw [r2] at z
          cases z
      · obtain ⟨m, ob, b1, b2, b3, b4, b5, b6⟩ := bm
        have n1 : m ≠ mainGlobals := fun q => by
          obtain ⟨o, es, ep, e, hd, _⟩ := gn
          rw [q, e] at b3
          cases b3
          rw [hd] at b6
          cases b6
        have n2 : m ≠ p.2 := fun q => by
          rw [q, hP] at b3
          cases b3
          cases b6
        exact ⟨m, ob, b1, b2, n1, n2, keep0 b3 (free b3 (by rw [b6]; simp) (by rw [b6]; simp)), b4, b5, b6⟩
    have e0 : Env0 P w K mg (hidT s.heap H) callerA [] s H := ⟨rfl, hM, fun b o z => of_hidT z, Nat.le_of_eq (hidT_size _ _), trivial, fun b hb => absurd (show b ∈ ([] : List Addr) from hb) (by simp), hok, .of_eq hg⟩
    refine codeAny_mono ((F _ inB (nsK gn) TB).run callerA [] s H ⟨[.ref a], []⟩ [.ref a] [.ref a] _ _ rfl hr e0 (bind_ s (.ref a)) (.cons rfl .nil) (hsp H o1 o2)) fun r s' h => ?_
    cases r with
    | error e => exact False.elim h
    | ok fl =>
      cases fl with
      | ret u =>
        obtain ⟨v, H', os, bare, un, hok', r', q⟩ := h
        obtain rfl : v = .bl true := q
        obtain rfl : u = Value.bool true := r'
        have old : ∀ b o, b ∉ cs.map (·.2) → s.heap.get? b = some o → s'.heap.get? b = some o := fun b o nb z => by
          cases q : H b with
          | none => exact un.keep b o z q (fun y => absurd (show b ∈ ([] : List Addr) from y) (by simp)) (by simp)
          | some u =>
            rcases o1.2 b with y | y | ⟨ob, xs, y⟩
            · rw [q] at y; cases y
            · exact absurd y nb
            · have y3 := (hok b _ y).1
              have y4 := (hok' b _ (un.frzs b ob _ y)).1
              rw [z] at y3; cases y3
              exact y4
        have grew : ∀ p ∈ cs, ∃ more : Array Value, s'.heap.get? p.2 = some { cls := .none, data := .fields more } := fun p h => by
          obtain ⟨more, z⟩ := un.tbls p.2 #[] (o1.1 p h)
          exact ⟨_, hok' p.2 _ z⟩
        refine ⟨rfl, ⟨fun b o z => ?_, fun b o z => ?_⟩, os, bare⟩
        · by_cases hb : b ∈ cs.map (·.2)
          · obtain ⟨p, h1, rfl⟩ := List.mem_map.mp hb
            obtain ⟨more, hm⟩ := grew p h1
            rw [(tc p h1).2] at z
            cases z
            exact .inr (.inl ⟨((tc p h1).1.tab (tc p h1).2).isCodeTable, rfl, #[], more, rfl, by rw [Array.empty_append]; exact hm⟩)
          · exact .inl (old b o hb z)
        · by_cases hb : b ∈ cs.map (·.2)
          · obtain ⟨p, h1, rfl⟩ := List.mem_map.mp hb
            obtain ⟨more, hm⟩ := grew p h1
            exact ⟨_, hm⟩
          · exact ⟨o, old b o hb z⟩
      | _ => exact False.elim h
  cases hk : K.lookup a with
  | some o =>
    have z := KX a o hk
    rw [ha] at z
    cases z
    refine main (fun b => if b ∈ cs.map (·.2) then some (.tbl #[]) else none) ⟨fun p h => if_pos (tin p h), fun b => ?_⟩ (.inr ⟨_, vs.toArray, _, hk, rfl, rfl, rfl, by rw [List.size_toArray, lenV]; exact hl, by simpa using rv⟩) (fun b u z => ?_) (fun b z => ?_) fun z => absurd (show (if a ∈ cs.map (·.2) then some (HO.tbl #[]) else none) = none from if_neg at_a) z
    · by_cases hb : b ∈ cs.map (·.2)
      · exact .inr (.inl hb)
      · exact .inl (if_neg hb)
    · by_cases hb : b ∈ cs.map (·.2)
      · cases (if_pos hb).symm.trans z
        exact tob b hb
      · cases (if_neg hb).symm.trans z
    · by_cases hb : b ∈ cs.map (·.2)
      · exact .inr hb
      · exact absurd (if_neg hb) z
  | none =>
    have ne : ∀ p ∈ cs, ¬ p.2 = a := fun p h z => at_a (z ▸ tin p h)
    refine main (fun b => if b = a then some (.frz { cls := .type "list", data := .seq vs.toArray } (.lst (ns.map V.int))) else if b ∈ cs.map (·.2) then some (.tbl #[]) else none) ⟨fun p h => (if_neg (ne p h)).trans (if_pos (tin p h)), fun b => ?_⟩ (.inl (.inr ⟨_, if_pos rfl⟩)) (fun b u z => ?_) (fun b z => ?_) fun _ => hk
    · by_cases hb : b = a
      · exact .inr (.inr ⟨_, _, if_pos hb⟩)
      · by_cases hb2 : b ∈ cs.map (·.2)
        · exact .inr (.inl hb2)
        · exact .inl ((if_neg hb).trans (if_neg hb2))
    · by_cases hb : b = a
      · cases (if_pos hb).symm.trans z
        subst hb
        exact ⟨ha, by rw [List.length_map]; exact hl, vs, _, rv, ha⟩
      · have z1 := (if_neg hb).symm.trans z
        by_cases hb2 : b ∈ cs.map (·.2)
        · cases (if_pos hb2).symm.trans z1
          exact tob b hb2
        · cases (if_neg hb2).symm.trans z1
    · by_cases hb : b = a
      · exact .inl hb
      · by_cases hb2 : b ∈ cs.map (·.2)
        · exact .inr hb2
        · exact absurd ((if_neg hb).trans (if_neg hb2)) z
theorem walk_ofGT {l : PySem.W.OpenLaw} {n k : Nat} {q : Program} {loose names : List Str} {XP : (Str → Option Value) → Heap → Prop} {YP : World → Heap → Prop} {d : DefRec} {x : Str}
    (hn : l.most = some n) (hn2 : n ≤ sizeLine) (hdf : d.params.defaults = []) (hr : Room k callerA) (hrec : ∀ y ∈ names, ((recsOf q).find? fun e => e.name == y).isSome = true)
    (F : ∀ (w : World) (mg : Str → Option Value) (fa : Addr) (h : Heap), YP w h → h.Ns mainGlobals mg → mg d.name = some (.ref fa) →
      ∃ (K : PySem.W.Frag) (fd : FuncData) (sp : Sp) (cs : List (Addr × Addr)), K.In h ∧ (∀ (s : Shared) (u : Value), BindsTo s fd ⟨[u], []⟩ [(x, u)]) ∧ (∀ p ∈ cs, K.lookup p.2 = none ∧ ∃ y ∈ names, PySem.W.tabIn K y = some p) ∧
        (∀ (H : Hp) (a : Addr) (ns : List Int), ns.length ≤ n → OnlyT cs H → SqL K H a (ns.map V.int) → sp [.ref a] H (fun v _ => v = .bl true) fun _ _ _ => False) ∧
        ∀ base : Heap, K.In base → base.Ns mainGlobals mg → (∀ p ∈ cs, LamX.TabB base mg p.1 p.2) → FnG l.prog w K mg base k fa fd [x] sp) :
    PySem.W.WalkO q loose XP YP l.row.toRowW d [] (fun f vs => PySem.call f vs) := by
  refine Att.attach_call hn hdf fun w s0 s1 mg mb fa o pm cd doc a vs ns G Y ho hd hcd hmg hobj hints hlen hg => ?_
  obtain ⟨K, fd, sp, cs, KX, hb, ht, hsp, hF⟩ := F w mg fa _ Y G.T.g hmg
  refine lawGT KX G.T.g G.T.b G.T.builtins G.T.nolimit hg (fun p hp => ?_) (fun p hp => (ht p hp).1) G.T.bmain hobj hints (Nat.le_trans hlen hn2) hr hF hb fun H hO hS => hsp H a ns hlen hO hS
  obtain ⟨y, hy, e⟩ := (ht p hp).2
  obtain ⟨r, hr'⟩ := Option.isSome_iff_exists.mp (hrec y hy)
  exact PySem.W.tab_of G.T KX hr' e
end DL
namespace DL
open PySem PySem.Spec PyProof.Rows L2
section
variable {X : Cx} {ρ : Rho} {M : Mp} {Φ : D → Mp → Prop} {Θ : Bool → Mp → Prop} {Ψ : DE} {a b c e : Expr} {es : List Expr} {ss : List Stmt} {pos p p2 pos2 : Pos}
/-- a list that is changed no more -/
theorem wss_fz {i : Nat} {q : Addr} {ds : List D} (hi : ρ[i]? = some (some (.ob q))) (hq : M q = some (.lst ds)) (h : WSs X (ρ.set i (some (.lst ds))) (mdel M q) ss Ψ) : WSs X ρ M ss Ψ := .mk fun {Z} σ H E en w k => by
  have l : Les (mdel M q) M := les_del
  obtain ⟨v, hv, r⟩ := en.get hi
  have r2 := Fz.rep (.lst hq mdel_same) l w r
  have en2 := (en.mono (l.ext w)).set r2 i
  have e : σ.set i (some v) = σ := by
    apply List.ext_getElem?
    intro j
    by_cases hj : i = j
    · subst hj
      rw [List.getElem?_set_self (List.getElem?_eq_some_iff.mp hv).1, hv]
    · rw [List.getElem?_set_ne hj]
  rw [e] at en2
  exact h.run σ H E en2 (l.w w) (k.step (l.ext w))
end
end DL
namespace DL
open PySem PySem.Spec PyProof.Rows L2 SX
abbrev dctP (x y : Str) (n : Int) : PyData := .dict [(.tuple [.str x, .str y], .int n)]
abbrev dctD (x y : Str) (n : Int) : D := .dT [([.inr x, .inr y], .int n)]
section
variable {X : Cx} {ρ : Rho} {M : Mp} {Φ : D → Mp → Prop} {e : Expr} {pos p : Pos}
theorem cr_reprT (hg : X.A.guards = some []) (hu : X.A.units + 64 < cLine) {x y : Str} {n : Int} (hs : (dctP x y n).showable = true) (hz : (dctP x y n).shown.length ≤ sizeLine) (hdp : (dctP x y n).depth ≤ 8) : CallR X (.builtin "repr") (fun xs H Q => ∃ a, xs = [.ref a] ∧ H a = some (.dT [([.inr x, .inr y], .int n)]) ∧ Q (.str (dctP x y n).shown) H) := by
  intro pins s σ H xs us Q I r h
  obtain ⟨a, rfl, ha, h⟩ := h
  obtain ⟨u, rfl, ru⟩ := vals1 r
  obtain rfl : u = Value.ref a := ru
  obtain ⟨_, hs0, ys, kv, o, es, ep, ho, hx, hd, hk, _⟩ := I.hok a _ ha
  cases kv with
  | @cons _ q _ qs pr t =>
    cases t
    obtain ⟨e1, e2, e3⟩ := pr
    obtain ⟨_, its, ri, o2, h1, h2, n2, h3⟩ := (show ObjOk X.prog X.w H s.heap q.2.1 (.tup [V.str x, V.str y]) from I.hok q.2.1 _ e2)
    cases ri with
    | @cons _ w1 _ _ p1 r2 =>
      cases r2 with
      | @cons _ w2 _ _ p2 r3 =>
        cases r3
        obtain ⟨t1, rfl⟩ := p1
        obtain ⟨t2, rfl⟩ := p2
        obtain ⟨t3, e3⟩ := e3
        have rk : Reads s.heap (.ref q.2.1) (.tuple [.str x, .str y]) ([] ++ ([] ++ [])) := Reads.tuple h1 h2 h3 (.cons (.str x t1) (.cons (.str y t2) .nil))
        have rd : Reads s.heap (.ref a) (dctP x y n) (a :: (([] ++ ([] ++ [])) ++ []) ++ ([] ++ [])) := Reads.dict ho hx.1 hd (by rw [hk]; exact .cons rk .nil) (by rw [hk]; show ReadsAll s.heap [q.2.2] [.int n] ([] ++ []); rw [e3]; exact .cons (.int n t3) .nil)
        refine repr_of_reads' rd hs (fun _ => ?_) hg (by omega) (fun _ _ z => z) (fun h' t tk kp => ⟨.str _, H, I.kept kp, ⟨t, rfl⟩, h⟩) hz
        intro z
        rcases List.mem_cons.mp z with z | z
        · rw [← z] at hs0; simp at hs0
        · cases z
end
end DL
namespace DL
open PySem PySem.Spec PyProof.Rows L2 SX
/-- a value of any kind -/
inductive AV where
  | non | bl (b : Bool) | int (i : Int) | str (x : Str) | tup (l : List AV) | lst (l : List AV) | dic | dct (x y : Str) (n : Int)
mutual
def avD : AV → D
  | .non => .non
  | .bl b => .bl b
  | .int i => .int i
  | .str x => .str x
  | .tup l => .tup (avsD l)
  | .lst l => .lst (avsD l)
  | .dic => .dK []
  | .dct x y n => dctD x y n
def avsD : List AV → List D
  | [] => []
  | v :: l => avD v :: avsD l
end
theorem avsD_map : ∀ l : List AV, avsD l = l.map avD
  | [] => by rw [avsD]; rfl
  | v :: l => by rw [avsD, avsD_map l, List.map_cons]
theorem avsD_len (l : List AV) : (avsD l).length = l.length := by rw [avsD_map, List.length_map]
def avT : AV → String
  | .non => "NoneType"
  | .bl _ => "bool"
  | .int _ => "int"
  | .str _ => "str"
  | .tup _ => "tuple"
  | .lst _ => "list"
  | .dic => "dict"
  | .dct _ _ _ => "dict"
theorem avTy (M : Mp) (v : AV) : TyD M (avD v) (.type (avT v)) := by
  cases v <;> (rw [avD]; rfl)
mutual
def avP : AV → PyData
  | .non => .none
  | .bl b => .bool b
  | .int i => .int i
  | .str x => .str x
  | .tup l => .tuple (avsP l)
  | .lst l => .list (avsP l)
  | .dic => .dict []
  | .dct x y n => dctP x y n
def avsP : List AV → List PyData
  | [] => []
  | v :: l => avP v :: avsP l
end
section
variable {X : Cx} {ρ : Rho} {M : Mp} {Φ : D → Mp → Prop} {e : Expr} {pos p : Pos}
theorem cr_reprA (hg : X.A.guards = some []) (hu : X.A.units + 64 < cLine) : CallR X (.builtin "repr") (fun xs H Q => (∃ v q, xs = [v] ∧ Dp X.K H v q ∧ q.showable = true ∧ q.canLay0 = true ∧ q.depth ≤ 60 ∧ q.shown.length ≤ sizeLine ∧ Q (.str q.shown) H) ∨ (∃ a, xs = [.ref a] ∧ H a = some (.dK []) ∧ Q (.str (PyData.dict []).shown) H) ∨ ∃ x y n, (dctP x y n).showable = true ∧ (dctP x y n).shown.length ≤ sizeLine ∧ (dctP x y n).depth ≤ 8 ∧ ∃ a, xs = [.ref a] ∧ H a = some (.dT [([.inr x, .inr y], .int n)]) ∧ Q (.str (dctP x y n).shown) H) := by
  intro pins s σ H xs us Q I r h
  rcases h with h | ⟨a, rfl, ha, h⟩ | ⟨x, y, n, g1, g2, g3, h⟩
  · exact cr_reprD hg hu pins s σ H xs us Q I r h
  rotate_left
  · exact cr_reprT hg hu g1 g2 g3 pins s σ H xs us Q I r h
  · obtain ⟨u, rfl, ru⟩ := vals1 r
    obtain rfl : u = Value.ref a := ru
    obtain ⟨_, hs, vs, kv, o, es, ep, ho, hx, hd, hk, hp, _⟩ := I.hok a _ ha
    cases kv
    have e0 : es.toList = [] := by
      cases hp' : es.toList with
      | nil => rfl
      | cons q r => rw [hp'] at hp; cases hp
    have rd : Reads s.heap (.ref a) (PyData.dict []) (a :: [] ++ []) := Reads.dict ho hx.1 hd (by rw [e0]; exact .nil) (by rw [e0]; exact .nil)
    refine repr_of_reads' rd (by decide) (fun _ => ?_) hg (by show X.A.units + (1 + 1) < cLine; omega) (fun _ _ z => z) (fun h' t tk kp => ⟨.str _, H, I.kept kp, ⟨t, rfl⟩, h⟩) (by decide +kernel)
    intro z
    rcases List.mem_cons.mp z with z | z
    · rw [← z] at hs; simp at hs
    · cases z
/-- repr(e), e any value -/
theorem we_reprA (hm : X.mg "repr" = none) (hg0 : X.A.guards = some []) (hu : X.A.units + 64 < cLine) (h : WE X ρ M e fun d M1 => ((∃ q k, CmpD d q k ∧ k ≤ 60 ∧ q.showable = true ∧ q.shown.length ≤ sizeLine ∧ Φ (.str q.shown) M1) ∨ (d = .dK [] ∧ Φ (.str (PyData.dict []).shown) M1) ∨ ∃ x y n, d = dctD x y n ∧ (dctP x y n).showable = true ∧ (dctP x y n).shown.length ≤ sizeLine ∧ (dctP x y n).depth ≤ 8 ∧ Φ (.str (dctP x y n).shown) M1)) (hg : Gl X "repr" := by rfl)
    (he : starEach [e] X.env = (false, eval e X.env) :: starEach [] X.env := by rfl) (hpl : (backTo pos (starEach [] X.env)).any (·.1) = false := by rfl) : WE X ρ M (.Call (.Name "repr" p) [e] [] pos) Φ :=
  we_callB (cr_reprA hg0 hu) hm (by decide +kernel) (wa_cons (h.imp fun d M1 h => wa_nil fun Z vs H Q w rr k => by
    obtain ⟨v, rfl, r⟩ := rr.one
    rcases h with ⟨q, j, c, hj, h1, h2, h⟩ | ⟨rfl, h⟩ | ⟨x, y, n, rfl, g1, g2, g3, h⟩
    · exact .inl ⟨v, q, rfl, r.dp c.eq, h1, c.lay, Nat.le_trans c.dep hj, h2, k.now w (.str _) h⟩
    · cases r with
      | dK h1 m r =>
        cases r
        exact .inr (.inl ⟨_, rfl, h1, k.now w (.str _) h⟩)
    · cases r with
      | dT h1 m r =>
        cases r with
        | cons r1 t =>
          cases t
          cases r1
          exact .inr (.inr ⟨x, y, n, g1, g2, g3, _, rfl, h1, k.now w (.str _) h⟩)) he) hg (he := he) (hpl := hpl)
end
/-- how a value is shown, where it can be -/
def RpD (v : AV) : Prop := (∃ k, CmpD (avD v) (avP v) k ∧ k ≤ 60 ∧ (avP v).showable = true ∧ (avP v).shown.length ≤ sizeLine) ∨ v = .dic ∨ ∃ x y n, v = .dct x y n ∧ (dctP x y n).showable = true ∧ (dctP x y n).shown.length ≤ sizeLine ∧ (dctP x y n).depth ≤ 8
theorem we_reprV {X : Cx} {ρ : Rho} {M : Mp} {Φ : D → Mp → Prop} {e : Expr} {pos p : Pos} (hm : X.mg "repr" = none) (hg0 : X.A.guards = some []) (hu : X.A.units + 64 < cLine) (h : WE X ρ M e fun d M1 => ∃ v, d = avD v ∧ RpD v ∧ Φ (.str (avP v).shown) M1) (hg : Gl X "repr" := by rfl)
    (he : starEach [e] X.env = (false, eval e X.env) :: starEach [] X.env := by rfl) (hpl : (backTo pos (starEach [] X.env)).any (·.1) = false := by rfl) : WE X ρ M (.Call (.Name "repr" p) [e] [] pos) Φ :=
  we_reprA hm hg0 hu (h.imp fun d M1 ⟨v, e1, hv, hz⟩ => by
    subst e1
    rcases hv with ⟨k, c, h1, h2, h3⟩ | rfl | ⟨x, y, n, rfl, g1, g2, g3⟩
    · exact .inl ⟨_, k, c, h1, h2, h3, hz⟩
    · exact .inr (.inl ⟨by rw [avD], by rw [avP] at hz; exact hz⟩)
    · exact .inr (.inr ⟨x, y, n, by rw [avD], g1, g2, g3, by rw [avP] at hz; exact hz⟩)) hg he hpl
theorem sh_natW {n : Nat} (h : n < 10 ^ 40) : ShD (.int (n : Nat)) 41 := by
  refine ⟨?_, ?_⟩
  · simp only [PyData.showable, decide_eq_true_eq, Int.natAbs_natCast]
    by_cases h0 : n = 0
    · rw [h0]; decide
    · have : n < 2 ^ 140 := Nat.lt_trans h (by decide)
      have := (Nat.log2_lt h0).mpr this; omega
  · simp only [PyData.shown]
    rw [num_S, S_len]
    exact Nat.le_succ_of_le (TL.numL_len (k := 40) (by decide) h)
mutual
def avDp : AV → Nat
  | .tup l => avsDp l + 1
  | .lst l => avsDp l + 1
  | .non => 0
  | .bl _ => 0
  | .int _ => 0
  | .str _ => 0
  | .dic => 0
  | .dct _ _ _ => 0
def avsDp : List AV → Nat
  | [] => 0
  | v :: l => max (avDp v) (avsDp l)
end
mutual
def avLn : AV → Nat
  | .tup l => avsLn l + 3
  | .lst l => avsLn l + 3
  | .non => 41
  | .bl _ => 41
  | .int _ => 41
  | .str _ => 41
  | .dic => 41
  | .dct _ _ _ => 41
def avsLn : List AV → Nat
  | [] => 0
  | v :: l => avLn v + 2 + avsLn l
end
def StG (x : Str) : Prop := (∀ c ∈ x.cps.toList, c < 0x110000) ∧ ShD (.str x) 41
theorem sh_non : ShD .none 41 := ⟨by decide +kernel, by decide +kernel⟩
theorem sh_bl (b : Bool) : ShD (.bool b) 41 := ⟨by cases b <;> decide +kernel, by cases b <;> decide +kernel⟩
end DL
namespace W
open PySem PySem.Spec PyProof.Rows L2 DL SX PL SlX
section
variable {P : Program} {w : World} {K : PySem.W.Frag} {mg : Str → Option Value} {base : Heap} {C R U V : Addr}
def isI : AV → Bool
  | .int _ => true
  | .bl _ => true
  | _ => false
def isT : AV → Bool
  | .tup _ => true
  | _ => false
theorem kit_int (v : AV) : PySem.W.kitOne K (.type (avT v)) (.type "int") = some (isI v) := by cases v <;> rfl
theorem kit_tup (v : AV) : PySem.W.kitOne K (.type (avT v)) (.type "tuple") = some (isT v) := by cases v <;> rfl
end
end W
namespace W
open PySem PySem.Spec PyProof.Rows L2 DL SX PL
section
variable {P : Program} {w : World} {K : PySem.W.Frag} {mg : Str → Option Value} {base : Heap} {C : Addr}
abbrev potL (a c d : Int) : MO := .lst [.int a, .int c, .int d]
def cOk (c : Int) : Prop := 0 ≤ c ∧ c < 2305843009213693921
def cTake : Con := fun ds M Φ => ∃ p u a c d, ds = [.ob p, .int u] ∧ 1 ≤ u ∧ u ≤ 10 ^ 40 ∧ M p = some (potL a c d) ∧ cOk c ∧ 0 ≤ d ∧ d < 100000 ∧ ∀ r a' d', 0 ≤ r → r < u → d ≤ d' → d' ≤ d + 1 → Φ (.int r) (mset M p (potL a' c d'))
theorem at0 {a c d : Int} : atI [D.int a, D.int c, D.int d] 0 = some (.int a) := atI_nat (j := 0) rfl
theorem at1 {a c d : Int} : atI [D.int a, D.int c, D.int d] 1 = some (.int c) := atI_nat (j := 1) rfl
theorem at2 {a c d : Int} : atI [D.int a, D.int c, D.int d] 2 = some (.int d) := atI_nat (j := 2) rfl
def primes : List Int := [2147483647, 2147483629, 2147483587, 2147483579, 2147483563]
theorem prime_at {i : Int} (h0 : 0 ≤ i) (h5 : i < 5) : ∃ q, atI (primes.map D.int) i = some (.int q) ∧ 2147483563 ≤ q ∧ q ≤ 2147483647 := by
  obtain ⟨n, rfl⟩ := Int.eq_ofNat_of_zero_le h0
  have : n < 5 := by omega
  match n, this with
  | 0, _ => exact ⟨2147483647, atI_nat (j := 0) rfl, by decide, by decide⟩
  | 1, _ => exact ⟨2147483629, atI_nat (j := 1) rfl, by decide, by decide⟩
  | 2, _ => exact ⟨2147483587, atI_nat (j := 2) rfl, by decide, by decide⟩
  | 3, _ => exact ⟨2147483579, atI_nat (j := 3) rfl, by decide, by decide⟩
  | 4, _ => exact ⟨2147483563, atI_nat (j := 4) rfl, by decide, by decide⟩
theorem log40 {u : Int} (h1 : 1 ≤ u) (h2 : u ≤ 10 ^ 40) : u.natAbs.log2 < 9000 := by
  have e : u.natAbs < 16 ^ 40 := by
    have : (10 : Int) ^ 40 < 16 ^ 40 := by decide +kernel
    have e2 : ((16 ^ 40 : Nat) : Int) = 16 ^ 40 := by decide +kernel
    omega
  have := log16 e
  omega
abbrev nTake : List Str := ["_law_pot_here", "_law_upto", "_law_digit", "_law_prime", "_law_mixed"]
theorem sq_le {d : Int} (h0 : 0 ≤ d) (h : d ≤ 100000) : 0 ≤ 100343 * d * d ∧ 100343 * d * d ≤ 100343 * 100000 * 100000 := by
  have h1 : 0 ≤ d * d := Int.mul_nonneg h0 h0
  have h2 : d * d ≤ 100000 * 100000 := Int.mul_le_mul h h h0 (by decide)
  rw [Int.mul_assoc]
  omega
theorem ok_take (F : Fx w K mg) : BodyOk P w K mg base "_law_take" s__law_take nTake 2 0 cTake := by
  intro f cdv A outer s H E hr ds M Φ hl hc
  obtain ⟨p, u, a, c, d, rfl, hu, hu2, hM, ⟨c0, c1⟩, d0, d1, hc⟩ := hc
  have nd : nTake.Nodup := by decide +kernel
  refine wss_cons (ws_if (wt_gtI (we_ix (we_var 0 rfl (we_int ⟨0, _, rfl, ixO hM at0, we_int ⟨_, _, rfl, rfl, ?_⟩⟩)))))
  refine ite_dec (fun ha => ?_) fun ha => ?_
  · refine wss_cons (ws_set 2 nd (we_modI (we_intN (F.bn _ (by decide +kernel)) (we_ix (we_var 0 rfl (we_int ⟨0, _, rfl, ixO hM at0, .inl ⟨_, rfl, we_var 1 rfl ⟨_, _, rfl, rfl, by omega, ?_⟩⟩⟩))))))
    refine wss_cons (ws_asg (we_divI (we_ix (we_var 0 rfl (we_int ⟨0, _, rfl, ixO hM at0, we_var 1 rfl ⟨_, _, rfl, rfl, ⟨by omega, ?_⟩, ?_⟩⟩)))))
    · exact log40 hu hu2
    · refine wg_sub (we_var 0 rfl (we_int ⟨p, _, 0, 0, rfl, rfl, hM, rfl, ?_⟩))
      refine wss_cons (ws_ret (we_var 2 rfl (Lets.of ?_)))
      exact hc _ _ _ (Int.emod_nonneg _ (by omega)) (Int.emod_lt_of_pos _ (by omega)) (Int.le_refl _) (by omega)
  · refine wss_nil ?_
    refine wss_cons (ws_asg (we_addI (we_ix (we_var 0 rfl (we_int ⟨2, _, rfl, ixO hM at2, we_int ⟨_, _, rfl, rfl, ?_⟩⟩)))))
    refine wg_sub (we_var 0 rfl (we_int ⟨p, _, 2, 2, rfl, rfl, hM, rfl, ?_⟩))
    show WSs _ _ (mset M p (potL a c (d + 1))) _ _
    have hM2 : mset M p (potL a c (d + 1)) p = some (potL a c (d + 1)) := mset_same
    obtain ⟨q, hq, q1, q2⟩ := prime_at (i := (d + 1) % 5) (Int.emod_nonneg _ (by decide)) (Int.emod_lt_of_pos _ (by decide))
    refine wss_cons (ws_set 3 nd (we_ix (we_lst (wa_cons (we_int (wa_cons (we_int (wa_cons (we_int (wa_cons (we_int (wa_cons (we_int (wa_nil ⟨by show 5 ≤ sizeLine; decide, ?_⟩))))))))))))))
    refine we_modI (we_intN (F.bn _ (by decide +kernel)) (we_ix (we_var 0 rfl (we_int ⟨2, _, rfl, ixO hM2 at2, .inl ⟨_, rfl, we_int ⟨_, _, rfl, rfl, by decide, _, _, rfl, ixL hq, ?_⟩⟩⟩))))
    obtain ⟨s1, s2⟩ := sq_le (d := d + 1) (by omega) (by omega)
    refine wss_cons (ws_set 4 nd (we_modI (we_intN (F.bn _ (by decide +kernel)) (we_powI (we_intN (F.bn _ (by decide +kernel)) (we_addI (we_addI (we_ix (we_var 0 rfl (we_int ⟨1, _, rfl, ixO hM2 at1, ?_⟩))))))))))
    refine we_mulS (we_mulS (we_int (we_ix (we_var 0 rfl (we_int ⟨2, _, rfl, ixO hM2 at2, _, _, rfl, rfl, .inl ⟨by decide, by decide⟩, we_ix (we_var 0 rfl (we_int ⟨2, _, rfl, ixO hM2 at2, _, _, rfl, rfl, .inr ⟨by omega, by omega⟩, _, _, rfl, rfl, ?_⟩))⟩)))))
    refine we_int ⟨_, _, rfl, rfl, .inl ⟨_, rfl, we_int ⟨_, _, rfl, rfl, ⟨by decide, by decide, ?_⟩, .inl ⟨_, rfl, we_var 3 rfl ⟨_, _, rfl, rfl, by omega, ?_⟩⟩⟩⟩⟩
    · omega
    generalize hm : ((c + 100343 * (d + 1) * (d + 1) + 71) ^ (3 : Int).toNat) % q = m
    have m0 : 0 ≤ m := by rw [← hm]; exact Int.emod_nonneg _ (by omega)
    have m1 : m < q := by rw [← hm]; exact Int.emod_lt_of_pos _ (by omega)
    refine wss_cons (ws_set 4 nd (we_modI (we_intN (F.bn _ (by decide +kernel)) (we_mulS (we_var 4 rfl (we_addI (we_modI (we_intN (F.bn _ (by decide +kernel)) (we_var 4 rfl (.inl ⟨_, rfl, we_int ⟨_, _, rfl, rfl, by decide, ?_⟩⟩))))))))))
    refine we_mulS (we_int (we_ix (we_var 0 rfl (we_int ⟨2, _, rfl, ixO hM2 at2, _, _, rfl, rfl, .inl ⟨by decide, by decide⟩, _, _, rfl, rfl, _, _, rfl, rfl, .inl ⟨by omega, by omega⟩, .inl ⟨_, rfl, we_int ⟨_, _, rfl, rfl, by decide, ?_⟩⟩⟩))))
    refine wss_cons (ws_ret (we_modI (we_intN (F.bn _ (by decide +kernel)) (we_divI (we_var 4 rfl (we_int ⟨_, _, rfl, rfl, ⟨by decide, by decide⟩, .inl ⟨_, rfl, we_var 1 rfl ⟨_, _, rfl, rfl, by omega, Lets.of ?_⟩⟩⟩))))))
    exact hc _ _ _ (Int.emod_nonneg _ (by omega)) (Int.emod_lt_of_pos _ (by omega)) (by omega) (by omega)
end
end W
namespace DL
open PySem PySem.Spec PyProof.Rows L2
abbrev prP (q : Int × Int) : PyData := .tuple [.int q.1, .int q.2]
abbrev prD (q : Int × Int) : D := .tup [.int q.1, .int q.2]
section
variable {X : Cx} {ρ : Rho} {M : Mp} {Φ : D → Mp → Prop} {Θ : Bool → Mp → Prop} {a b e o : Expr} {es : List Expr} {pos p apos : Pos}
theorem we_dict0 (h : Φ (.dK []) M) : WE X ρ M (.Dict [] [] pos) Φ := .mk fun σ H Q en w k => eOf pe_dnewK fun p hp => k.new w hp (.dK upd_same (w.fresh hp) .nil) h
end
end DL
namespace W
open PySem PySem.Spec PyProof.Rows L2 DL SX PL SlX
section
variable {P : Program} {w : World} {K : PySem.W.Frag} {mg : Str → Option Value} {base : Heap} {C R U V : Addr}
def cOf : Con := fun ds M Φ => ∃ p xs a c d, ds = [.ob p, .lst xs] ∧ xs ≠ [] ∧ xs.length ≤ 1000000 ∧ M p = some (potL a c d) ∧ cOk c ∧ 0 ≤ d ∧ d < 100000 ∧ ∀ x a' d', x ∈ xs → d ≤ d' → d' ≤ d + 1 → Φ x (mset M p (potL a' c d'))
theorem ok_of (F : Fx w K mg) (F1 : Fc P w K mg base "_law_take" [] 1 2 cTake) : BodyOk P w K mg base "_law_of" s__law_of ["_law_pot_here", "_law_some"] 2 1 cOf := by
  intro f cdv A outer s H E hr ds M Φ hl hc
  obtain ⟨p, xs, a, c, d, rfl, hx, hx2, hM, co, d0, d1, hc⟩ := hc
  have hpos : 0 < xs.length := List.length_pos_iff.mpr hx
  refine wss_cons (ws_ret (we_ix (we_var 1 rfl (we_call F1 (hr.mono (by decide)) (wa_cons (we_var 0 rfl (wa_cons (we_len (F.bn _ (by decide +kernel)) (we_var 1 rfl ⟨_, lenL, wa_nil ⟨rfl, p, _, a, c, d, rfl, by omega, ?_, hM, co, d0, d1, ?_⟩⟩)))))))))
  · have : (1000000 : Int) ≤ 10 ^ 40 := by decide +kernel
    omega
  · intro r a' d' r0 r1 h1 h2
    obtain ⟨n, rfl⟩ := Int.eq_ofNat_of_zero_le r0
    have hn : n < xs.length := by omega
    exact ⟨_, _, rfl, ixL (atI_nat (List.getElem?_eq_getElem hn)), Lets.of (hc _ _ _ (List.getElem_mem hn) h1 h2)⟩
/-- the script -/
abbrev scrD (ns : List Int) : D := .rol (ns.map D.int)
theorem bb (c : Bool) : -(2 ^ 64) < (if c = true then (1 : Int) else 0) ∧ (if c = true then (1 : Int) else 0) < 2 ^ 64 := by cases c <;> decide
theorem sz3P (a b c : D) : ([a, b, c] : List D).length ≤ sizeLine := by show 3 ≤ sizeLine; decide
def cPotH : Con := fun ds M Φ => ∃ ns pl, ds = [scrD ns, .int (pl : Nat)] ∧ pl ≤ 1000 ∧ ∀ q a c, M q = none → cOk c → Φ (.ob q) (mset M q (potL a c 0))
abbrev nPotH : List Str := ["_law_script", "_law_k", "_law_cell", "_law_own", "_law_small"]
theorem ok_potH (F : Fx w K mg) : BodyOk P w K mg base "_law_pot" s__law_pot nPotH 2 0 cPotH := by
  intro f cdv A outer s H E hr ds M Φ hl hc
  obtain ⟨ns, pl, rfl, hpl, hc⟩ := hc
  have nd : nPotH.Nodup := by decide +kernel
  have rest : ∀ cell : Int, WSs (bx P w K mg base nPotH "_law_pot" (defScope s__law_pot) f cdv A outer s H E) [some (scrD ns), some (.int (pl : Nat)), some (.int cell), none, none] M ((defBody s__law_pot).drop 1) { nx := fun _ M' => Φ .non M', rt := Lets Φ } := fun cell => by
    refine wss_cons (ws_set 3 nd (we_mulS (we_modI (we_intN (F.bn _ (by decide +kernel)) (we_abs (F.bn _ (by decide +kernel)) (we_var 2 rfl ⟨_, rfl, .inl ⟨_, rfl, we_powW (we_powI (we_int (we_int ⟨_, _, rfl, rfl, ⟨by decide, by decide, by decide⟩, we_int ⟨_, _, rfl, rfl, ⟨by decide, by decide +kernel⟩, _, _, rfl, rfl, by decide +kernel, ?_⟩⟩)))⟩⟩))))))
    refine we_intN (F.bn _ (by decide +kernel)) (we_geI (we_abs (F.bn _ (by decide +kernel)) (we_var 2 rfl ⟨_, rfl, we_powI (we_int (we_int ⟨_, _, rfl, rfl, ⟨by decide, by decide, by decide⟩, _, _, rfl, rfl, .inr ⟨_, rfl, _, _, rfl, rfl, .inr ⟨?_, ?_⟩, ?_⟩⟩))⟩)))
    · exact (bb _).1
    · exact (bb _).2
    refine wss_cons (ws_set 4 nd (we_modI (we_intN (F.bn _ (by decide +kernel)) (we_var 2 rfl (.inl ⟨_, rfl, we_int ⟨_, _, rfl, rfl, by decide, ?_⟩⟩)))))
    have b0 : 0 ≤ cell % 2305843009213693951 := Int.emod_nonneg _ (by decide)
    have b1 : cell % 2305843009213693951 < 2305843009213693951 := Int.emod_lt_of_pos _ (by decide)
    refine wss_cons (ws_ret (we_lstM (wa_cons (we_var 3 rfl (wa_cons (we_modI (we_intN (F.bn _ (by decide +kernel)) (we_addI (we_addI (we_mulS (we_var 4 rfl (we_int ⟨_, _, rfl, rfl, .inl ⟨by omega, by omega⟩, we_mulS (we_mulS (we_int (we_var 1 rfl ⟨_, _, rfl, rfl, .inl ⟨by decide, by decide⟩, we_var 1 rfl ⟨_, _, rfl, rfl, .inr ⟨by omega, by omega⟩, _, _, rfl, rfl, we_int ⟨_, _, rfl, rfl, .inl ⟨_, rfl, we_int ⟨_, _, rfl, rfl, by decide, wa_cons (we_int (wa_nil ⟨sz3P _ _ _, fun q hq => Lets.of ?_⟩))⟩⟩⟩⟩⟩)))⟩))))))))))))
    exact hc q _ _ hq ⟨Int.emod_nonneg _ (by decide), Int.emod_lt_of_pos _ (by decide)⟩
  refine wss_cons (ws_set 2 nd (we_if (wt_ltI (we_var 1 rfl (we_len (F.bn _ (by decide +kernel)) (we_var 0 rfl ⟨_, lenR, _, _, rfl, rfl, ?_⟩))))))
  refine ite_dec (fun h => ?_) fun h => ?_
  · rw [List.length_map] at h
    have hq : (ns.map D.int)[pl]? = some (.int ns[pl]) := by rw [List.getElem?_map, List.getElem?_eq_getElem (by omega)]; rfl
    exact we_ix (we_var 0 rfl (we_var 1 rfl ⟨_, _, rfl, ixR (atI_nat hq), rest _⟩))
  · exact we_addI (we_mulS (we_int (we_var 1 rfl ⟨_, _, rfl, rfl, .inl ⟨by decide, by decide⟩, we_int ⟨_, _, rfl, rfl, rest _⟩⟩)))
end
end W
namespace W
open PySem PySem.Spec PyProof.Rows L2 DL SX PL SlX
section
variable {P : Program} {w : World} {K : PySem.W.Frag} {mg : Str → Option Value} {base : Heap} {C R U V : Addr}
def cIsName : Con := fun ds M Φ => ∃ l, ds = [tS l] ∧ l.length ≤ 1000000 ∧ Φ (.bl (isNameL l)) M
theorem ok_is_name (F : Fx w K mg) (gLE : ∃ t, mg "LETTERS" = some (.str "abcdefghijklmnopqrstuvwxyz" t)) (gML : ∃ t, mg "MOST_LETTERS" = some (.int 8 t)) : BodyOk P w K mg base "is_name" s_is_name ["value", "letter"] 1 0 cIsName := by
  intro f cdv A outer s H E hr ds M Φ hl hc
  obtain ⟨l, rfl, hl, hc⟩ := hc
  have nd : (["value", "letter"] : List Str).Nodup := by decide +kernel
  refine wss_cons (ws_if (wt_ww (ww_or (wt_not (wt_val (we_isi (F.bn _ (by decide +kernel)) (we_var 0 rfl (we_bty (F.bn _ (by decide +kernel)) rfl ⟨_, _, true, rfl, rfl, (by intro C h; cases h), rfl, _, rfl, ?_⟩))))))))
  refine ww_or1 (wt_not (wt_chainI (we_int (we_len (F.bn _ (by decide +kernel)) (we_var 0 rfl ⟨_, lenS (by rw [S_len, sizeLine_eq]; omega), _, _, rfl, rfl, ?_⟩)))))
  have e0 : ((S l).length : Int) = (l.length : Int) := by rw [S_len]
  have ret : ∀ c, isNameL l = c → Φ (.bl c) M := fun c e => e ▸ hc
  refine ite_dec (fun h1 => we_gint gML ⟨_, rfl, ?_⟩) fun h1 => ?_
  · by_cases h2 : ((S l).length : Int) ≤ 8
    · rw [decide_eq_true h2]
      refine wss_nil (wss_cons (ws_ret (we_all (F.bn _ (by decide +kernel)) (we_lc nd (blkOk_by (N := ["value", "letter"]) (sc := defScope s_is_name) (own := [("letter", 1)]) (by decide +kernel)) (fun _ _ _ _ _ => pg_name (i := 1) nd rfl (Or.inl rfl)) (gt_name (by decide)) (fun _ _ _ _ _ => pts_nil) tk_nil
        (wi_str (we_var 0 rfl ⟨_, rfl, ?_⟩))))))
      refine ⟨by rw [signs_S, List.length_map, sizeLine_eq]; omega, fun i acc M' => M' = M ∧ acc = (l.take i).map fun c => .bl (letter c), ⟨rfl, rfl⟩, ?_, ?_⟩
      · rintro i x acc M' hx ⟨rfl, rfl⟩ 
        obtain ⟨c, hc1, rfl⟩ := signs_get hx
        intro s1 H1 C cl fp
        refine we_inC (we_var 1 rfl (we_gstr gLE ⟨c, _, rfl, rfl, rfl, ?_⟩))
        rw [mem_letters, take_snoc hc1, List.map_append]; rfl
      · rintro acc M' ⟨rfl, rfl⟩
        rw [signs_S, List.length_map, List.take_length]
        refine ⟨l.map letter, by rw [List.map_map]; rfl, Lets.of (ret _ ?_)⟩
        unfold isNameL
        rw [decide_eq_true (show 1 ≤ l.length by omega), decide_eq_true (show l.length ≤ 8 by omega)]
        simp
    · rw [decide_eq_false h2]
      refine wss_cons (ws_ret (we_bl (Lets.of (ret _ ?_))))
      unfold isNameL
      rw [decide_eq_false (show ¬ l.length ≤ 8 by omega)]; simp
  · refine wss_cons (ws_ret (we_bl (Lets.of (ret _ ?_))))
    unfold isNameL
    rw [decide_eq_false (show ¬ 1 ≤ l.length by omega)]; rfl
end
end W
namespace DL
open PySem PySem.Spec PyProof.Rows L2
section
variable {P : Program} {w : World} {A : Around} {E : Value → Shared → Prop} {s : Shared}
def NoCls (P : Program) (w : World) (n : Nat) (s : Shared) (v : Value) : Prop := ∀ (A : Around) (E : Value → Shared → Prop) (Q : Bool → Shared → Prop), Q false s → wpAny (model P w) A (ofAClassStatement n v) Q E s
def SomeB (P : Program) (w : World) (n : Nat) (s : Shared) (v : Value) : Prop := ∀ (A : Around) (E : Value → Shared → Prop) (Q : Bool → Shared → Prop), (∀ b, Q b s) → wpAny (model P w) A (hashByValue n v) Q E s
theorem NoCls.tup {n m : Nat} {a : Addr} {o : Obj} {vs : Array Value} (ho : s.heap.get? a = some o) (hc : o.cls = .type "tuple") (hd : o.data = .seq vs m) (hv : ∀ v ∈ vs.toList, NoCls P w n s v) : NoCls P w (n + 1) s (.ref a) := fun A E Q q => by
  have ty : s.TypeIs (.ref a) "tuple" := ⟨o, ho, hc⟩
  unfold ofAClassStatement
  refine wpAny_bind (wpAny_typeOf ty ?_)
  dsimp only
  simp only [show (("tuple" : String) == "tuple") = true from by decide, if_true, Bool.not_true, Bool.false_eq_true, if_false]
  try refine wpAny_bind (wpAny_pure ?_)
  try simp only [Bool.not_true, Bool.false_eq_true, if_false]
  refine show wpAny _ _ (seqItems? (.ref a) >>= _) _ _ s from wpAny_bind (wpAny_seqItems ho hd ?_)
  dsimp only
  refine wpAny_bind (show wpAny _ _ (forIn vs _ _) _ _ s from ?_)
  rw [← Array.forIn_toList]
  refine wpAny_forIn_list _ (fun us r z => (r.1 = none ∧ z = s) ∧ ∀ u ∈ us, NoCls P w n s u) _ (fun u us r z hz => ?_) (fun r z hz => ?_) _ _ ⟨⟨rfl, rfl⟩, hv⟩
  · obtain ⟨⟨hr, rfl⟩, hu⟩ := hz
    refine wpAny_bind (hu u List.mem_cons_self _ _ _ ?_)
    simp only [Bool.false_eq_true, if_false]
    exact wpAny_pure ⟨⟨rfl, rfl⟩, fun y hy => hu y (List.mem_cons_of_mem _ hy)⟩
  · obtain ⟨r1, r2⟩ := r
    obtain ⟨⟨hr, rfl⟩, -⟩ := hz
    dsimp only at hr
    subst hr
    exact wpAny_pure q
theorem SomeB.tup {n m : Nat} {a : Addr} {o : Obj} {vs : Array Value} (ho : s.heap.get? a = some o) (hc : o.cls = .type "tuple") (hd : o.data = .seq vs m) (hv : ∀ v ∈ vs.toList, SomeB P w n s v) : SomeB P w (n + 1) s (.ref a) := fun A E Q q => by
  have ty : s.TypeIs (.ref a) "tuple" := ⟨o, ho, hc⟩
  unfold hashByValue
  refine wpAny_bind (wpAny_specialOf ty F.slot_tuple_hash.lookup ?_)
  refine show wpAny _ _ (seqItems? (.ref a) >>= _) _ _ s from wpAny_bind (wpAny_seqItems ho hd ?_)
  refine wpAny_bind (show wpAny _ _ (forIn vs _ _) _ _ s from ?_)
  rw [← Array.forIn_toList]
  refine wpAny_forIn_list _ (fun us r z => (r.1 = none ∧ z = s) ∧ ∀ u ∈ us, SomeB P w n s u) _ (fun u us r z hz => ?_) (fun r z hz => ?_) _ _ ⟨⟨rfl, rfl⟩, hv⟩
  · obtain ⟨⟨hr, rfl⟩, hu⟩ := hz
    refine wpAny_bind (hu u List.mem_cons_self _ _ _ fun b => ?_)
    cases b
    · simp only [Bool.not_false, if_true]
      exact wpAny_pure (wpAny_pure (q false))
    · simp only [Bool.not_true, Bool.false_eq_true, if_false]
      exact wpAny_pure ⟨⟨rfl, rfl⟩, fun y hy => hu y (List.mem_cons_of_mem _ hy)⟩
  · obtain ⟨r1, r2⟩ := r
    obtain ⟨⟨hr, rfl⟩, -⟩ := hz
    dsimp only at hr
    subst hr
    exact wpAny_pure (q true)
mutual
theorem noCls_key : ∀ (k : NestedKey) (v : Value) (n : Nat) (s : Shared), NestedIs s.heap k v → k.depth ≤ n → NoCls P w n s v
  | .none, _, n, s, x, _ => by cases x; intro A E Q q; cases n <;> exact wpAny_pure q
  | .num i, _, n, s, x, _ => by cases x <;> (intro A E Q q; cases n <;> exact wpAny_pure q)
  | .text y, _, n, s, x, _ => by cases x; intro A E Q q; cases n <;> exact wpAny_pure q
  | .tup ks, _, n, s, x, hn => by
    cases x with
    | tup h1 h2 h3 h4 =>
      rw [NestedKey.depth] at hn
      obtain ⟨n, rfl⟩ : ∃ m, n = m + 1 := ⟨n - 1, by omega⟩
      exact .tup h1 h2 h3 (noCls_keys ks _ n s h4 (by omega))
theorem noCls_keys : ∀ (ks : List NestedKey) (vs : List Value) (n : Nat) (s : Shared), NestedAll s.heap ks vs → NestedKey.depthAll ks ≤ n → ∀ v ∈ vs, NoCls P w n s v
  | [], _, n, s, x, _ => by cases x; intro v hv; cases hv
  | k :: ks, _, n, s, x, hn => by
    cases x with
    | cons h1 h2 =>
      rw [NestedKey.depthAll] at hn
      intro v hv
      rcases List.mem_cons.mp hv with rfl | hv
      · exact noCls_key k _ n s h1 (by omega)
      · exact noCls_keys ks _ n s h2 (by omega) v hv
end
mutual
theorem someB_key : ∀ (k : NestedKey) (v : Value) (n : Nat) (s : Shared), NestedIs s.heap k v → k.depth ≤ n → SomeB P w n s v
  | .none, _, n, s, x, _ => by cases x; intro A E Q q; cases n <;> exact wpAny_pure (q _)
  | .num i, _, n, s, x, _ => by cases x <;> (intro A E Q q; cases n <;> exact wpAny_pure (q _))
  | .text y, _, n, s, x, _ => by cases x; intro A E Q q; cases n <;> exact wpAny_pure (q _)
  | .tup ks, _, n, s, x, hn => by
    cases x with
    | tup h1 h2 h3 h4 =>
      rw [NestedKey.depth] at hn
      obtain ⟨n, rfl⟩ : ∃ m, n = m + 1 := ⟨n - 1, by omega⟩
      exact .tup h1 h2 h3 (someB_keys ks _ n s h4 (by omega))
theorem someB_keys : ∀ (ks : List NestedKey) (vs : List Value) (n : Nat) (s : Shared), NestedAll s.heap ks vs → NestedKey.depthAll ks ≤ n → ∀ v ∈ vs, SomeB P w n s v
  | [], _, n, s, x, _ => by cases x; intro v hv; cases hv
  | k :: ks, _, n, s, x, hn => by
    cases x with
    | cons h1 h2 =>
      rw [NestedKey.depthAll] at hn
      intro v hv
      rcases List.mem_cons.mp hv with rfl | hv
      · exact someB_key k _ n s h1 (by omega)
      · exact someB_keys ks _ n s h2 (by omega) v hv
end
/-- a search among keys shows nothing -/
theorem seen_nk {k : NestedKey} {b : Addr} {Q : Bool → Shared → Prop} (hk : (nestedKind P w).is s.heap k b) {ys : List Value} (hy : ∀ y ∈ ys, ∃ j c, y = Value.ref c ∧ (nestedKind P w).is s.heap j c) (q : Q false s) : wpAny (model P w) A (searchCouldBeSeen (.ref b) ys) Q E s := by
  unfold searchCouldBeSeen
  refine wpAny_bind ?_
  refine wpAny_forIn_list _ (fun us r z => (r.1 = none ∧ z = s) ∧ ∀ y ∈ us, ∃ j c, y = Value.ref c ∧ (nestedKind P w).is s.heap j c) _ (fun u us r z hz => ?_) (fun r z hz => ?_) _ _ ⟨⟨rfl, rfl⟩, hy⟩
  · obtain ⟨⟨hr, rfl⟩, hu⟩ := hz
    obtain ⟨j, c, rfl, hc⟩ := hu u List.mem_cons_self
    have on : ∀ y ∈ us, ∃ j c, y = Value.ref c ∧ (nestedKind P w).is z.heap j c := fun y h => hu y (List.mem_cons_of_mem _ h)
    dsimp only
    by_cases same : (b == c || (carriedByValue (.ref b) && carriedByValue (.ref c))) = true
    · exact wp_if_pos same (wpAny_pure ⟨⟨rfl, rfl⟩, on⟩)
    · refine wp_if_neg same (wpAny_bind ((nestedKind P w).quiet hk ?_))
      simp only [Bool.not_true, Bool.false_eq_true, if_false]
      refine wpAny_bind ((nestedKind P w).quiet hc ?_)
      simp only [Bool.not_true, Bool.false_eq_true, if_false]
      refine wpAny_bind (noCls_key _ _ 8 z hk.1 hk.2 _ _ _ ?_)
      simp only [Bool.false_eq_true, if_false]
      refine wpAny_bind (noCls_key _ _ 8 z hc.1 hc.2 _ _ _ ?_)
      simp only [Bool.false_eq_true, if_false]
      exact wpAny_pure ⟨⟨rfl, rfl⟩, on⟩
  · obtain ⟨r1, r2⟩ := r
    obtain ⟨⟨hr, rfl⟩, -⟩ := hz
    dsimp only at hr
    subst hr
    exact wpAny_pure q
def rowN (w : World) (p : NestedKey × Addr) : Int × Value := (p.1.hash w, .ref p.2)
def hashN (w : World) (p : NestedKey × Addr) : Int := p.1.hash w
/-- at a stands a set whose members are the keys of L -/
structure SetNk (P : Program) (w : World) (h : Heap) (a : Addr) (L : List (NestedKey × Addr)) (es : Array (Int × Value)) (ep : Nat) (t : SetTable) : Prop where
  obj : ∃ o, h.get? a = some o ∧ o.ExactSet ∧ o.data = .set es ep t
  its : es.toList = L.map (rowN w)
  tb : TabOk t (L.map (hashN w))
  uk : (L.map Prod.fst).Nodup
  ky : ∀ p ∈ L, (nestedKind P w).is h p.1 p.2
  ld : w.params.followText "set-order" = true ∨ t.led = true
  rm : 5 * L.length < 3 * t.mask
  fw : L.length < 64
variable {a : Addr} {L : List (NestedKey × Addr)} {es : Array (Int × Value)} {ep : Nat} {t : SetTable}
theorem its_len (h : es.toList = L.map (rowN w)) : es.size = L.length := by rw [← Array.length_toList, h, List.length_map]
theorem fits_of (h1 : t.place.size = es.size) (h2 : t.dummies = #[]) (h3 : es.size ≤ t.mask) : t.fits es.size = true := by
  unfold SetTable.fits SetTable.fill
  rw [h2, h1, Bool.and_eq_true]
  exact ⟨beq_self_eq_true _, decide_eq_true (show es.size + 0 ≤ t.mask by omega)⟩
theorem SetNk.pls (R : SetNk P w s.heap a L es ep t) : t.place.size = L.length := by
  have z := R.tb.sz
  rwa [List.length_map] at z
theorem SetNk.fit (R : SetNk P w s.heap a L es ep t) : t.fits es.size = true := by
  have z := its_len R.its
  have r := R.rm
  exact fits_of (by rw [R.pls, z]) R.tb.dm (by omega)
theorem SetNk.at_ (R : SetNk P w s.heap a L es ep t) {i : Nat} {p : NestedKey × Addr} (h : L[i]? = some p) : es[i]? = some (rowN w p) := by
  rw [← Array.getElem?_toList, R.its, List.getElem?_map, h, Option.map_some]
theorem nth_dm {m : Nat} : ∀ (n : Nat) (p : SetTable.Probe), p.dummy = none → (nth m p n).dummy = none
  | 0, _, h => h
  | n + 1, p, h => nth_dm n (adv m p) (by unfold adv; split <;> exact h)
/-- the first state of a search for a key -/
abbrev fromN (w : World) (m : Nat) (k : NestedKey) : SetTable.Probe := runAt m (SetTable.bits (k.hash w) % (m + 1)) (SetTable.bits (k.hash w))
/-- the search, from its d-th step on; K is the first empty slot of the way -/
theorem SetNk.look (R : SetNk P w s.heap a L es ep t) {x : Addr} {k : NestedKey} (hx : (nestedKind P w).is s.heap k x) (hu : A.units + 8 < cLine) {K : Nat} (hK : K < 10 * SetTable.turns t.mask) (free : way t.mask (k.hash w) K ∉ t.place.toList)
    (full : ∀ c, c < K → way t.mask (k.hash w) c ∈ t.place.toList) {Q : SetFound → Shared → Prop} (yes : k ∈ L.map Prod.fst → Q (.there none) s) (no : k ∉ L.map Prod.fst → Q (.free (way t.mask (k.hash w) K) false) s) (f : Nat) :
    ∀ (d : Nat) (st : Option SetTable.Probe), st.getD (t.probeStart (k.hash w)) = nth t.mask (fromN w t.mask k) d → d ≤ K → K < f + d →
      (∀ (i : Nat) (p : NestedKey × Addr), L[i]? = some p → p.1 = k → ∃ c, d ≤ c ∧ c < K ∧ t.place.toList[i]? = some (way t.mask (k.hash w) c)) → wpAny (model P w) A (setSearchFrom a (.ref x) (k.hash w) true f st) Q E s := by
  induction f with
  | zero => intro d st _ h1 h2; omega
  | succ f ih =>
    intro d st hst hd hf back
    obtain ⟨o, ho, hex, hdt⟩ := R.obj
    rw [setSearchFrom_succ]
    refine wpAny_bind (wpAny_setState_of ho hdt R.fit ?_)
    dsimp only
    refine wp_if_neg (show ¬ t.gaveWay = true by unfold SetTable.gaveWay; rw [mask_odd R.tb.mok]; decide) ?_
    try refine wpAny_bind (wpAny_pure ?_)
    have on : ∀ q, nth t.mask (nth t.mask (fromN w t.mask k) d) q = nth t.mask (fromN w t.mask k) (d + q) := fun q => (nth_add t.mask d _ q).symm
    have onj : ∀ q, (nth t.mask (nth t.mask (fromN w t.mask k) d) q).j = way t.mask (k.hash w) (d + q) := fun q => by rw [on]
    have hz : ∀ (i : Nat) (p : NestedKey × Addr), L[i]? = some p → (fun i => (es[i]?.map (·.1)).getD 0) i = p.1.hash w := fun i p hp => by
      show (es[i]?.map (·.1)).getD 0 = _
      rw [R.at_ hp]; rfl
    rcases go_spec t R.tb.ris R.tb.dm (fun i => (es[i]?.map (·.1)).getD 0) (k.hash w) (10 * SetTable.turns t.mask) (K - d) (nth t.mask (fromN w t.mask k) d) (nth_dm d _ rfl) (by omega)
        (fun q hq => by rw [onj]; exact full (d + q) (by omega)) (by rw [onj, show d + (K - d) = K from by omega]; exact free) with ⟨q, i, hq, hi, heq, none, pr⟩ | ⟨none, pr⟩
    · have pr1 : t.probe (fun i => (es[i]?.map (·.1)).getD 0) (k.hash w) (st.getD (t.probeStart (k.hash w))) = some (.candidate (way t.mask (k.hash w) (d + q)) i (nth t.mask (fromN w t.mask k) (d + (q + 1)))) := by
        rw [hst, ← onj, ← on]
        exact pr
      rw [pr1]
      dsimp only
      rw [onj] at hi
      have hil : i < L.length := by
        have u1 := (List.getElem?_eq_some_iff.mp hi).1
        rw [Array.length_toList, R.pls] at u1
        exact u1
      obtain ⟨p, hp⟩ : ∃ p, L[i]? = some p := ⟨_, List.getElem?_eq_getElem hil⟩
      have pin := List.mem_of_getElem? hp
      have live := slot_live R.tb.ris hi
      have tail : wpAny (model P w) A (searchRest a (.ref x) (k.hash w) true f es t (way t.mask (k.hash w) (d + q)) i (nth t.mask (fromN w t.mask k) (d + (q + 1)))) Q E s := by
        unfold searchRest
        rw [R.at_ hp]
        dsimp only [rowN]
        refine wpAny_bind (wpAny_holding ((nestedKind P w).eqBool hu (R.ky p pin) hx ?_))
        refine wpAny_bind (wpAny_setState_of ho hdt R.fit ?_)
        dsimp only
        by_cases e : p.1 = k
        · exact wp_if_pos (by rw [decide_eq_true e]; rfl) (wpAny_pure (yes (List.mem_map.mpr ⟨p, pin, e⟩)))
        · refine wp_if_neg (by rw [decide_eq_false e]; decide) ?_
          try refine wpAny_bind (wpAny_pure ?_)
          rw [sameMem]
          dsimp only
          simp only [if_true, live, R.at_ hp, rowN]
          refine wpAny_bind (wpAny_isSame_ref_self (wpAny_bind (wpAny_pure ?_)))
          simp only [if_true]
          refine wp_if_neg (by rw [decide_eq_false e]; decide) (ih (d + (q + 1)) _ rfl (by omega) (by omega) fun i2 p2 h2 e2 => ?_)
          obtain ⟨c, c1, c2, c3⟩ := back i2 p2 h2 e2
          refine ⟨c, ?_, c2, c3⟩
          by_cases lt : c < d + q
          · refine absurd ((hz i2 p2 h2).trans (by rw [e2])) (none (c - d) i2 (by omega) ?_)
            rw [onj, show d + (c - d) = c from by omega]; exact c3
          · by_cases eq : c = d + q
            · subst eq
              have l2 := slot_live R.tb.ris c3
              rw [live] at l2
              injection l2 with l2
              rw [← l2, hp] at h2
              cases h2
              exact absurd e2 e
            · omega
      by_cases hl : t.led = true
      · refine wp_if_neg (by rw [hl]; decide) ?_
        try refine wpAny_bind (wpAny_pure ?_)
        exact tail
      · refine wp_if_pos (by simp [hl]) (wpAny_bind (seen_nk hx (fun y hy => ?_) ?_))
        · obtain ⟨e, he, rfl⟩ := List.mem_map.mp hy
          have he2 : e ∈ es.toList := by
            have := (show e ∈ es ∧ e.1 = k.hash w by simpa using he).1
            simpa using this
          rw [R.its] at he2
          obtain ⟨p2, hp2, rfl⟩ := List.mem_map.mp he2
          exact ⟨p2.1, p2.2, rfl, R.ky p2 hp2⟩
        · refine wp_if_neg (by decide) ?_
          try refine wpAny_bind (wpAny_pure ?_)
          exact tail
    · have pr1 : t.probe (fun i => (es[i]?.map (·.1)).getD 0) (k.hash w) (st.getD (t.probeStart (k.hash w))) = some (.empty (way t.mask (k.hash w) K) .none) := by
        have e : way t.mask (k.hash w) K = (nth t.mask (nth t.mask (fromN w t.mask k) d) (K - d)).j := by rw [onj, show d + (K - d) = K from by omega]
        rw [hst, e]
        exact pr
      rw [pr1]
      dsimp only
      refine wpAny_pure (no fun hm => ?_)
      obtain ⟨p, hp, e⟩ := List.mem_map.mp hm
      obtain ⟨i, hi⟩ := List.mem_iff_getElem?.mp hp
      obtain ⟨c, c1, c2, c3⟩ := back i p hi e
      refine absurd ((hz i p hi).trans (by rw [e])) (none (c - d) i (by omega) ?_)
      rw [onj, show d + (c - d) = c from by omega]; exact c3
/-- the whole search -/
theorem SetNk.find (R : SetNk P w s.heap a L es ep t) {x : Addr} {k : NestedKey} (hx : (nestedKind P w).is s.heap k x) (hu : A.units + 8 < cLine) {Q : SetFound → Shared → Prop} (yes : k ∈ L.map Prod.fst → Q (.there none) s)
    (no : ∀ K, k ∉ L.map Prod.fst → way t.mask (k.hash w) K ∉ t.place.toList → (∀ c, c < K → way t.mask (k.hash w) c ∈ t.place.toList) → Q (.free (way t.mask (k.hash w) K) false) s) : wpAny (model P w) A (setSearch a (.ref x) (k.hash w) true) Q E s := by
  have r := R.rm
  obtain ⟨K, hK, free, full⟩ := R.tb.first (by rw [List.length_map]; omega) (k.hash w)
  have big : 10 * SetTable.turns t.mask < 100000 := by
    unfold SetTable.turns
    rcases R.tb.mok with e | e | e <;> omega
  unfold setSearch
  refine R.look hx hu hK free full yes (fun hn => no K hn free full) 100000 0 none rfl (Nat.zero_le _) (by omega) fun i p hp e => ?_
  have hi : (L.map (hashN w))[i]? = some (k.hash w) := by rw [List.getElem?_map, hp, ← e]; rfl
  have il : i < t.place.toList.length := by
    rw [Array.length_toList, R.pls]
    exact (List.getElem?_eq_some_iff.mp hp).1
  obtain ⟨c, hc, e2⟩ := R.tb.before free hi (List.getElem?_eq_getElem il)
  exact ⟨c, Nat.zero_le _, hc, by rw [List.getElem?_eq_getElem il, e2]⟩
end
end DL
namespace DL
open PySem PySem.Spec PyProof.Rows L2
theorem range_all {α : Type} : ∀ l : List α, (List.range l.length).filterMap (fun i => l[i]?) = l
  | [] => rfl
  | x :: l => by
    rw [List.length_cons, List.range_succ_eq_map, List.filterMap_cons_some (f := fun i => (x :: l)[i]?) (a := 0) (b := x) rfl, List.filterMap_map]
    exact congrArg (x :: ·) (range_all l)
section
variable {P : Program} {w : World} {A : Around} {E : Value → Shared → Prop} {s : Shared} {a : Addr} {L : List (NestedKey × Addr)} {es : Array (Int × Value)} {ep : Nat} {t : SetTable}
theorem nk_same {h h' : Heap} {k : NestedKey} {b : Addr} {o : Obj} (x : (nestedKind P w).is h k b) (ho : h.get? a = some o) (hd : o.data = .set es ep t) (hs : Heap.SameBut a h h') : (nestedKind P w).is h' k b :=
  nestedKind_stays.stays (fun c u vs n hc hv => (hs.2 c fun e => by subst e; rw [ho] at hc; cases hc; rw [hd] at hv; cases hv).trans hc) x
theorem nk_keep {h h' : Heap} {k : NestedKey} {b : Addr} (x : (nestedKind P w).is h k b) (hk : ∀ c o, h.get? c = some o → h'.get? c = some o) : (nestedKind P w).is h' k b := nestedKind_stays.stays (fun c u _ _ hc _ => hk c u hc) x
theorem order_nk {order : Array Nat} (h : es.toList = L.map (rowN w)) (hp : order.toList.Perm (List.range L.length)) :
    ∃ L2 : List (NestedKey × Addr), (order.filterMap (es[·]?)).toList = L2.map (rowN w) ∧ L2.Perm L ∧ L2.map (hashN w) = order.toList.map fun i => (es.map (·.1)).getD i 0 := by
  have one : ∀ i, es[i]? = (L[i]?).map (rowN w) := fun i => by rw [← Array.getElem?_toList, h, List.getElem?_map]
  refine ⟨order.toList.filterMap fun i => L[i]?, ?_, ?_, ?_⟩
  · rw [Array.toList_filterMap, List.map_filterMap]
    simp only [one]
  · have q := hp.filterMap fun i => L[i]?
    rwa [range_all] at q
  · have lt : ∀ i ∈ order.toList, i < L.length := fun i hi => List.mem_range.mp (hp.mem_iff.mp hi)
    generalize order.toList = l at lt
    induction l with
    | nil => rfl
    | cons i l ih =>
      have li := lt i List.mem_cons_self
      rw [List.filterMap_cons_some (List.getElem?_eq_getElem li), List.map_cons, List.map_cons, ih fun j hj => lt j (List.mem_cons_of_mem _ hj)]
      have e : (es.map (·.1))[i]? = some (hashN w L[i]) := by rw [Array.getElem?_map, one, List.getElem?_eq_getElem li]; rfl
      rw [Array.getD_eq_getD_getElem?, e]; rfl
/-- the table is laid anew -/
theorem nk_relay {o : Obj} {n M : Nat} {Q : Unit → Shared → Prop} (ho : s.heap.get? a = some o) (hex : o.ExactSet) (hd : o.data = .set es ep t) (hi : es.toList = L.map (rowN w)) (hp : t.place.size = es.size) (hm : t.dummies = #[]) (hf : es.size ≤ t.mask)
    (uk : (L.map Prod.fst).Nodup) (ky : ∀ p ∈ L, (nestedKind P w).is s.heap p.1 p.2) (ld : w.params.followText "set-order" = true ∨ t.led = true) (fw : L.length < 64) (hn : SetTable.sizeAbove n - 1 = M) (hM : MaskOk M) (h128 : SetTable.sizeAbove n ≤ 128) (rm : 5 * L.length < 3 * M)
    (q : ∀ h' L' es' ep' t', Heap.SameBut a s.heap h' → SetNk P w h' a L' es' ep' t' → L'.Perm L → Q () { s with heap := h' }) : wpAny (model P w) A (setRelay a n) Q E s := by
  have len := its_len hi
  obtain ⟨t2, order, e1, e2, T, e3, e4, -, -⟩ := relaid_ok t (hs := es.map (·.1)) (wanted := n) hn hM (by rw [Array.size_map, len]; omega)
  rw [Array.size_map, len] at e2
  obtain ⟨L2, r1, r2, r3⟩ := order_nk hi e2
  rw [← r3] at T
  have len2 := (its_len r1).trans r2.length_eq
  rw [setRelay_eq]
  refine wpAny_bind (wpAny_setState_of ho hd (fits_of hp hm hf) ?_)
  dsimp only
  refine wp_if_neg (by rw [sizeLine_eq]; omega) ?_
  try refine wpAny_bind (wpAny_pure ?_)
  rw [e1]
  dsimp only
  refine wpAny_bind (wp_if_neg (by rw [len2, len]; simp) ?_)
  try refine wpAny_bind (wpAny_pure ?_)
  refine wpAny_pure ?_
  dsimp only
  refine wpAny_storeSet_of ho hd ?_ (by rw [len2, sizeLine_eq]; omega)
  have sb : Heap.SameBut a s.heap (s.heap.update a (Obj.putSet (order.filterMap (es[·]?)) t2)) := Heap.SameBut.update ..
  exact q _ L2 _ (ep + 1) t2 sb ⟨⟨_, store_at ho hd, ⟨hex.1, hex.2.1, hex.2.2⟩, rfl⟩, r1, T, (r2.map Prod.fst).nodup_iff.mpr uk, fun p hp => nk_same (ky p (r2.mem_iff.mp hp)) ho hd sb, by rw [e4]; exact ld, by rw [r2.length_eq, e3]; exact rm, by rw [r2.length_eq]; exact fw⟩ r2
theorem TabOk.plainOff {t : SetTable} {hs : List Int} (T : TabOk t hs) : TabOk { t with plain := false } hs := ⟨T.ris, T.dm, T.sz, T.mok, T.bd, T.reach⟩
theorem cut_perm {α : Type} (l : List α) (n : Nat) (x : α) : (l.take n ++ x :: l.drop n).Perm (x :: l) := by
  have z := List.perm_middle (a := x) (l₁ := l.take n) (l₂ := l.drop n)
  rwa [List.take_append_drop] at z
/-- one more key -/
theorem SetNk.add (R : SetNk P w s.heap a L es ep t) {x : Addr} {k : NestedKey} (hx : (nestedKind P w).is s.heap k x) (hu : A.units + 8 < cLine) (few : L.length + 1 < 64) {Q : Bool → Shared → Prop}
    (q : ∀ b h' L' es' ep' t', Heap.SameBut a s.heap h' → SetNk P w h' a L' es' ep' t' → (k ∈ L.map Prod.fst ∧ L' = L ∨ L'.Perm ((k, x) :: L)) → Q b { s with heap := h' }) : wpAny (model P w) A (setAddHashed a (.ref x) (k.hash w)) Q E s := by
  obtain ⟨o, ho, hex, hd⟩ := R.obj
  have len := its_len R.its
  have rm := R.rm
  unfold setAddHashed
  refine wpAny_holding ?_
  rw [show (100000 : Nat) = 99999 + 1 from rfl, setAddHashedIn_succ]
  refine wpAny_bind (wpAny_setState_of ho hd R.fit ?_)
  dsimp only
  refine wp_if_neg (by simp [byScan, Value.scannable]) ?_
  try refine wpAny_bind (wpAny_pure ?_)
  refine wpAny_bind (R.find hx hu (fun hm => ?_) fun K hm free full => ?_)
  · dsimp only
    exact wpAny_pure (q false _ L es ep t (Heap.SameBut.refl a s.heap) R (.inl ⟨hm, rfl⟩))
  · dsimp only
    refine wpAny_bind (wpAny_setState_of ho hd R.fit ?_)
    dsimp only
    obtain ⟨z1, z2, T, z4, z5, -, -, -, -⟩ := R.tb.put free full
    generalize t.put (way t.mask (k.hash w) K) = pt at z1 T z4 z5 ⊢
    obtain ⟨t1, n⟩ := pt
    dsimp only at z1 T z4 z5 ⊢
    subst z1
    rw [List.length_map] at z2
    refine (fun fin => ?_ : (∀ (b : Bool) (t2 : SetTable), t2 = (if b = true then t1 else { t1 with plain := false }) → wpAny (model P w) A (do
        storeSet a (SetTable.insertAt es (SetTable.below t.place (way t.mask (k.hash w) K)) (k.hash w, Value.ref x)) t2
        if (!false && t2.tooFull) = true then do
            setRelay a (SetTable.grown (es.size + 1))
            pure true
          else pure true) Q E s) → _) ?_
    · by_cases pl : t1.plain = true
      · exact wp_if_pos pl (wpAny_bind (someB_key _ _ 8 s hx.1 hx.2 _ _ _ fun b => fin b _ rfl))
      · exact wp_if_neg pl (wpAny_bind (wpAny_pure (fin true _ rfl)))
    intro b t2 ht2
    have T2 : TabOk t2 ((L.map (hashN w)).take (SetTable.below t.place (way t.mask (k.hash w) K)) ++ k.hash w :: (L.map (hashN w)).drop (SetTable.below t.place (way t.mask (k.hash w) K))) := by
      rw [ht2]; split
      · exact T
      · exact TabOk.plainOff T
    have y4 : t2.mask = t.mask := by rw [ht2]; split <;> exact z4
    have y5 : t2.led = t.led := by rw [ht2]; split <;> exact z5
    have e1 : (SetTable.insertAt es (SetTable.below t.place (way t.mask (k.hash w) K)) (k.hash w, Value.ref x)).toList = (L.take (SetTable.below t.place (way t.mask (k.hash w) K)) ++ (k, x) :: L.drop (SetTable.below t.place (way t.mask (k.hash w) K))).map (rowN w) := by
      rw [SetTable.toList_insertAt, R.its, List.map_append, List.map_cons, List.map_take, List.map_drop]; rfl
    have pm := cut_perm L (SetTable.below t.place (way t.mask (k.hash w) K)) (k, x)
    rw [show (L.map (hashN w)).take (SetTable.below t.place (way t.mask (k.hash w) K)) ++ k.hash w :: (L.map (hashN w)).drop (SetTable.below t.place (way t.mask (k.hash w) K)) = (L.take (SetTable.below t.place (way t.mask (k.hash w) K)) ++ (k, x) :: L.drop (SetTable.below t.place (way t.mask (k.hash w) K))).map (hashN w) by
      rw [List.map_append, List.map_cons, List.map_take, List.map_drop]; rfl] at T2
    generalize L.take (SetTable.below t.place (way t.mask (k.hash w) K)) ++ (k, x) :: L.drop (SetTable.below t.place (way t.mask (k.hash w) K)) = L1 at e1 pm T2
    have len1 := pm.length_eq
    rw [List.length_cons] at len1
    have size1 := its_len e1
    generalize SetTable.insertAt es (SetTable.below t.place (way t.mask (k.hash w) K)) (k.hash w, Value.ref x) = es1 at e1 size1 ⊢
    have uk1 : (L1.map Prod.fst).Nodup := (pm.map Prod.fst).nodup_iff.mpr (List.nodup_cons.mpr ⟨hm, R.uk⟩)
    refine wpAny_bind (wpAny_storeSet_of ho hd ?_ (by rw [size1, sizeLine_eq]; omega))
    have sb : Heap.SameBut a s.heap (s.heap.update a (Obj.putSet es1 t2)) := Heap.SameBut.update ..
    have ho1 := store_at (es' := es1) (t' := t2) ho hd
    generalize s.heap.update a (Obj.putSet es1 t2) = h1 at sb ho1 ⊢
    have ky1 : ∀ p ∈ L1, (nestedKind P w).is h1 p.1 p.2 := fun p hp => by
      rcases List.mem_cons.mp (pm.mem_iff.mp hp) with rfl | hp
      · exact nk_same hx ho hd sb
      · exact nk_same (R.ky p hp) ho hd sb
    have ld1 : w.params.followText "set-order" = true ∨ t2.led = true := by rw [y5]; exact R.ld
    have pls := T2.sz
    rw [List.length_map] at pls
    have full2 : t2.tooFull = decide ((L.length + 1) * 5 ≥ t.mask * 3) := by
      unfold SetTable.tooFull SetTable.fill
      rw [T2.dm, pls, y4, len1]; rfl
    by_cases hf : t2.tooFull = true
    · have ge : (L.length + 1) * 5 ≥ t.mask * 3 := by rw [full2] at hf; exact of_decide_eq_true hf
      have two : t.mask = 7 ∧ L.length = 4 ∨ t.mask = 31 ∧ L.length = 18 := by
        rcases R.tb.mok with e | e | e <;> rw [e] at ge rm <;> omega
      have go : ∀ M, SetTable.sizeAbove (SetTable.grown (L.length + 1)) - 1 = M → MaskOk M → SetTable.sizeAbove (SetTable.grown (L.length + 1)) ≤ 128 → 5 * (L.length + 1) < 3 * M → ∀ (g : Unit → Sem Bool), (∀ z, g () = pure z ∨ True) → (∀ s' , Q true s' → wpAny (model P w) A (g ()) Q E s') →
          wpAny (model P w) A (setRelay a (SetTable.grown (L.length + 1)) >>= g) Q E { s with heap := h1 } := fun M m1 m2 m3 m4 g _ hg => by
        refine wpAny_bind (nk_relay (s := { s with heap := h1 }) ho1 ⟨hex.1, hex.2.1, hex.2.2⟩ rfl e1 (by rw [pls, size1]) T2.dm (by rw [size1, y4]; rcases two with ⟨u1, u2⟩ | ⟨u1, u2⟩ <;> omega) uk1 ky1 ld1 (by omega) m1 m2 m3 (by omega) fun h2 L2 es2 ep2 t2' sb2 R2 pm2 => ?_)
        exact hg _ (q true h2 L2 es2 ep2 t2' (sb.trans sb2) R2 (.inr (pm2.trans pm)))
      rw [len]
      simp only [hf, Bool.not_false, Bool.and_true, Bool.true_and, if_true]
      rcases two with ⟨-, u2⟩ | ⟨-, u2⟩
      · exact go 31 (by rw [u2, size_20]) (.inr (.inl rfl)) (by rw [u2, size_20]; decide) (by omega) _ (fun _ => .inr trivial) fun s' h => wpAny_pure h
      · exact go 127 (by rw [u2, size_76]) (.inr (.inr rfl)) (by rw [u2, size_76]; decide) (by omega) _ (fun _ => .inr trivial) fun s' h => wpAny_pure h
    · have lt : ¬ (L.length + 1) * 5 ≥ t.mask * 3 := fun z => hf (by rw [full2]; exact decide_eq_true z)
      have done := q true h1 L1 es1 (ep + 1) t2 sb ⟨⟨_, ho1, ⟨hex.1, hex.2.1, hex.2.2⟩, rfl⟩, e1, T2, uk1, ky1, ld1, by rw [len1, y4]; omega, by omega⟩ (.inr pm)
      simp only [hf, Bool.not_false, Bool.and_false, Bool.true_and, Bool.false_eq_true, if_false]
      exact wpAny_pure done
end
end DL
namespace DL
open PySem PySem.Spec PyProof.Rows L2
section
variable {P : Program} {w : World} {A : Around} {E : Value → Shared → Prop} {s : Shared}
abbrev hp0 (w : World) (s : Shared) : Heap := s.heap.push (emptySet w)
theorem hp0_new : (hp0 w s).get? s.heap.objs.size = some (emptySet w) := Heap.get?_push_size _ rfl
theorem hp0_keep {b : Addr} {o : Obj} (h : s.heap.get? b = some o) : (hp0 w s).get? b = some o := Heap.get?_push_of_some _ h
theorem hp0_size : (hp0 w s).objs.size = s.heap.objs.size + 1 := Heap.size_push ..
theorem heap_none {h : Heap} {b : Addr} (hb : h.objs.size ≤ b) : h.get? b = none := by
  rcases e : h.get? b with _ | o
  · rfl
  · exact absurd (Heap.lt_size e) (Nat.not_lt.mpr hb)
end
theorem nd_leG {α : Type} [DecidableEq α] : ∀ (l m : List α), l.Nodup → (∀ x ∈ l, x ∈ m) → l.length ≤ m.length
  | [], _, _, _ => Nat.zero_le _
  | x :: l, m, nd, sub => by
    obtain ⟨hx, nd'⟩ := List.nodup_cons.mp nd
    have hm := sub x List.mem_cons_self
    have le := nd_leG l (m.erase x) nd' fun y hy => (List.mem_erase_of_ne fun e => hx (by rw [← e]; exact hy)).mpr (sub y (List.mem_cons_of_mem _ hy))
    have := List.length_erase_of_mem hm
    have := List.length_pos_of_mem hm
    simp only [List.length_cons]
    omega
end DL
namespace DL
open PySem PySem.Spec PyProof.Rows L2
/-- what the set holds behind the first i of ks -/
structure GotN (ks : List (NestedKey × Addr)) (i : Nat) (L : List (NestedKey × Addr)) : Prop where
  src : ∀ p ∈ L, p ∈ ks.take i
  inn : ∀ p ∈ ks.take i, p.1 ∈ L.map Prod.fst
  cnt : L.length ≤ i
theorem GotN.next {ks L L' : List (NestedKey × Addr)} {i : Nat} {x : NestedKey × Addr} (g : GotN ks i L) (h : ks[i]? = some x) (c : x.1 ∈ L.map Prod.fst ∧ L' = L ∨ L'.Perm (x :: L)) : GotN ks (i + 1) L' := by
  have e : ks.take (i + 1) = ks.take i ++ [x] := by rw [List.take_succ, h]; rfl
  rcases c with ⟨c, rfl⟩ | pm
  · refine ⟨fun p hp => by rw [e]; exact List.mem_append_left _ (g.src p hp), fun p hp => ?_, Nat.le_succ_of_le g.cnt⟩
    rw [e] at hp
    rcases List.mem_append.mp hp with hp | hp
    · exact g.inn p hp
    · rw [List.mem_singleton.mp hp]; exact c
  · refine ⟨fun p hp => ?_, fun p hp => ?_, by rw [pm.length_eq]; exact Nat.succ_le_succ g.cnt⟩
    · rw [e]
      rcases List.mem_cons.mp (pm.mem_iff.mp hp) with rfl | hp
      · exact List.mem_append_right _ List.mem_cons_self
      · exact List.mem_append_left _ (g.src p hp)
    · rw [e] at hp
      refine (pm.map Prod.fst).mem_iff.mpr ?_
      rcases List.mem_append.mp hp with hp | hp
      · exact List.mem_cons_of_mem _ (g.inn p hp)
      · rw [List.mem_singleton.mp hp]; exact List.mem_cons_self
section
variable {P : Program} {w : World} {A : Around} {E : Value → Shared → Prop} {s : Shared}
theorem SetNk.keep {h h' : Heap} {a : Addr} {L : List (NestedKey × Addr)} {es : Array (Int × Value)} {ep : Nat} {t : SetTable} (R : SetNk P w h a L es ep t) (k : ∀ o, h.get? a = some o → h'.get? a = some o) (ky : ∀ p ∈ L, (nestedKind P w).is h' p.1 p.2) : SetNk P w h' a L es ep t :=
  let ⟨o, ho, r⟩ := R.obj
  { R with obj := ⟨o, k o ho, r⟩, ky := ky }
theorem SetNk.none {h : Heap} {a : Addr} (ho : h.get? a = some (emptySet w)) : SetNk P w h a [] #[] 0 (.fresh 0 0 (!w.params.followText "set-order")) where
  obj := ⟨_, ho, ⟨rfl, rfl, rfl⟩, rfl⟩
  its := rfl
  tb := ⟨.nil, rfl, rfl, .inl rfl, fun x hx => (nomatch hx), fun i h j hi => by simp at hi⟩
  uk := .nil
  ky := fun p hp => nomatch hp
  ld := by
    show _ ∨ (!w.params.followText "set-order") = true
    cases w.params.followText "set-order"
    · exact .inr rfl
    · exact .inl rfl
  rm := show 5 * 0 < 3 * 7 by decide
  fw := by decide
/-- all that a walk gives is put in -/
theorem setNk_fill {I S : Addr} {fp wr : List Addr} {G : Array GenState → Array GenState → Prop} {n : Nat} {Pv : Nat → Value → Prop} {St : Nat → Shared → Prop} {R : Result → Shared → Prop} (W : WalksS P w A.in1 I fp wr G n Pv St) (out : S ∉ fp) (ks : List (NestedKey × Addr)) (len : n = ks.length) (few : ks.length < 64)
    (val : ∀ i v, Pv i v → ∃ p, ks[i]? = some p ∧ v = .ref p.2) (h0 : Heap) (hk : ∀ p ∈ ks, (nestedKind P w).is h0 p.1 p.2) (new : h0.get? S = none) (neww : ∀ b ∈ wr, h0.get? b = none) (hu : A.in1.units + 8 < cLine) :
    ∀ (m i : Nat) (s : Shared), n = i + m → St i s → (∀ b o, h0.get? b = some o → s.heap.get? b = some o) → (∃ L es ep t, SetNk P w s.heap S L es ep t ∧ GotN ks i L) →
      (∀ s' L es ep t, Moved (S :: wr) G s s' → SetNk P w s'.heap S L es ep t → GotN ks n L → (∀ b o, h0.get? b = some o → s'.heap.get? b = some o) → R (.ok (.ret .none)) s') →
      codeAny (model P w) A (.builtin "set.update.loop" ⟨[.ref S, .ref I], []⟩) R s := by
  have outw : S ∉ wr := fun h => out (W.sub _ h)
  have up : ∀ b ∈ wr, b ∈ S :: wr := fun b hb => List.mem_cons_of_mem _ hb
  have old : ∀ {s s' : Shared}, Moved wr G s s' → (∀ b o, h0.get? b = some o → s.heap.get? b = some o) → ∀ b o, h0.get? b = some o → s'.heap.get? b = some o := fun mv k b o e => mv.heap b o (fun hb => by rw [neww b hb] at e; cases e) (k b o e)
  have stay : ∀ {z : Heap} {L : List (NestedKey × Addr)} {i : Nat}, GotN ks i L → (∀ b o, h0.get? b = some o → z.get? b = some o) → ∀ p ∈ L, (nestedKind P w).is z p.1 p.2 := fun g k p hp => nk_keep (hk p (List.mem_of_mem_take (g.src p hp))) k
  intro m
  induction m with
  | zero =>
    intro i s hi st k0 ⟨L, es, ep, t, R0, g⟩ hR
    obtain rfl : n = i := hi
    refine codeAny_builtin F.entry_set_update_loop ?_
    rw [Around.under_plainId F.plain_set_update_loop _]
    refine show wpAny _ A.in1 (pyNext (.ref I) >>= _) _ _ s from wpAny_bind (W.done s _ _ st fun s2 mv => ?_)
    exact show wpAny _ A.in1 (ret Value.none) _ _ s2 from wpAny_pure (hR s2 L es ep t (mv.mono up) (R0.keep (fun o e => mv.heap S o outw e) (stay g (old mv k0))) g (old mv k0))
  | succ m ih =>
    intro i s hi st k0 ⟨L, es, ep, t, R0, g⟩ hR
    refine codeAny_builtin F.entry_set_update_loop ?_
    rw [Around.under_plainId F.plain_set_update_loop _]
    refine show wpAny _ A.in1 (pyNext (.ref I) >>= _) _ _ s from wpAny_bind (W.item i s _ _ (by omega) st fun v s2 hv st2 mv => ?_)
    obtain ⟨p, hp, rfl⟩ := val i v hv
    have k1 := old mv k0
    have R1 : SetNk P w s2.heap S L es ep t := R0.keep (fun o e => mv.heap S o outw e) (stay g k1)
    have hx := nk_keep (hk p (List.mem_of_getElem? hp)) k1
    refine show wpAny _ A.in1 (holding [Value.ref p.2] (setAdd S (.ref p.2)) >>= _) _ _ s2 from wpAny_bind (wpAny_holding ?_)
    unfold setAdd
    refine wpAny_holding (wpAny_bind ((nestedKind P w).pyHash hu hx ?_))
    refine SetNk.add (s := { s2 with toks := s2.toks + (nestedKind P w).draws p.1 }) R1 hx hu (by have := g.cnt; omega) fun b h2 L2 es2 ep2 t2 sb R2 c => ?_
    have k2 : ∀ b o, h0.get? b = some o → h2.get? b = some o := fun b o e => (sb.2 b fun z => by rw [z, new] at e; cases e).trans (k1 b o e)
    refine wpAny_pure ⟨plainId_quiet F.plain_set_update_loop _, ih (i + 1) _ (by omega) (W.frame _ s2 _ _ st2 (Nat.le_add_right _ _) fun b hb o e => ?_) k2 ⟨L2, es2, ep2, t2, R2, g.next hp c⟩ fun s3 L3 es3 ep3 t3 mv3 R3 g3 k3 => hR s3 L3 es3 ep3 t3 (Moved.trans W.gtrans ((mv.mono up).then_heap (Nat.le_add_right _ _) fun b o hb e => ?_) mv3) R3 g3 k3⟩
    · exact (sb.2 b fun z => out (by rw [← z]; exact hb)).trans e
    · exact (sb.2 b fun z => hb (by rw [z]; exact List.mem_cons_self)).trans e
/-- what stands there when the set has been made -/
def MadeN (P : Program) (w : World) (s : Shared) (ks : List (NestedKey × Addr)) (s2 : Shared) : Prop :=
  ∃ h2 tk L es ep t, s2 = { s with heap := h2, toks := tk } ∧ SetNk P w h2 s.heap.objs.size L es ep t ∧ GotN ks ks.length L ∧ ∀ b o, s.heap.get? b = some o → h2.get? b = some o
theorem set_of_nks {l : Addr} {its : Array Value} (ks : List (NestedKey × Addr)) {Q : Value → Shared → Prop} (hh : A.handled = none) (hl : s.heap.IsList l its) (hit : its.toList = ks.map fun p => Value.ref p.2) (hk : ∀ p ∈ ks, (nestedKind P w).is s.heap p.1 p.2) (few : ks.length < 64) (hu : A.units + 16 < cLine)
    (q : ∀ s2, MadeN P w s ks s2 → Q (.ref s.heap.objs.size) s2) : wpAny (model P w) A (call (.type "set") [.ref l]) Q E s := by
  have size : its.size = ks.length := by rw [← Array.length_toList, hit, List.length_map]
  obtain ⟨c0, t0, m0⟩ := F.called_set.mro
  have m1 := F.called_set.made
  have m2 := F.called_set.sub
  refine wpAny_call (codeAny_of_tree (show wpAny _ _ (callAny (.type "set") _) _ _ _ from wpAny_pure ⟨Code.quiet_builtin _ (by decide +kernel), codeAny_builtin F.entry_type_call ?_⟩))
  rw [Around.under_plain (weight_type_call_type "set" [.ref l] []) rfl]
  have m3 := F.called_set.notType
  have m4 := F.called_set.canCreate
  have m5 := PySem.F.typeCall_set_1 (.ref l)
  repeat (any_goals (first | assumption | wp_step))
  refine codeAny_mono (code_set_led1 (.ref l) (E := E) (Q₁ := fun ob s1 => ob = .ref s.heap.objs.size ∧ s1 = { s with heap := hp0 w s }) ⟨rfl, rfl⟩) fun r s1 hr => ?_
  cases r with
  | error e => exact hr
  | ok fl =>
    cases fl with
    | ret ob =>
      obtain ⟨rfl, rfl⟩ := hr
      have isS : Shared.TypeIs { s with heap := hp0 w s } (.ref s.heap.objs.size) "set" := ⟨_, hp0_new, rfl⟩
      have i1 := F.called_set.init.lookup
      have i2 := F.called_set.init.bind (.ref s.heap.objs.size)
      repeat (any_goals (first | assumption | wp_step))
      refine codeAny_mono (codeAny_call_builtin (R := wants (fun r s2 => r = .none ∧ MadeN P w s ks s2) E) F.called_set.init.plain F.entry_set_init (PySem.check_set_init_1 isS ?_)) fun r2 s2 hr2 => ?_
      · obtain ⟨ol, hol, hcl, nl, hdl⟩ := hl
        obtain ⟨c1, c2, c3, c4⟩ := ol
        simp only at hcl hdl
        subst hcl hdl
        have hol1 := hp0_keep (w := w) hol
        have j1 := PySem.F.sub_list_set
        have j2 := PySem.F.sub_list_frozenset
        have j3 : (Value.type "list" == Value.type "dict") = false := by decide
        have hl1 : (hp0 w s).IsList l its := ⟨_, hol1, rfl, nl, rfl⟩
        unfold Builtin.«set.__init__» noKeywords Builtin.Frozenset.updateFrom
        generalize hPI : pyIter = PI
        wp_walk
        subst hPI
        refine wpAny_pyIter_list hl1 (wpAny_bind (wpAny_runValue ?_))
        have ll : l < s.heap.objs.size := Heap.lt_size hol
        have ne1 : l ≠ (hp0 w s).objs.size := by rw [hp0_size]; exact Nat.ne_of_lt (Nat.lt_succ_of_lt ll)
        have ne2 : s.heap.objs.size ∉ [(hp0 w s).objs.size, l] := by
          rw [hp0_size]; simp only [List.mem_cons, List.not_mem_nil, or_false, not_or]; exact ⟨Nat.ne_of_lt (Nat.lt_succ_self _), Nat.ne_of_gt ll⟩
        have no3 : A.in1.in1.in1.handled = none := by simp [hh]
        have ref : ∀ (i : Nat) (v : Value), its[i]? = some v → ∃ p, ks[i]? = some p ∧ v = .ref p.2 := fun i v hv => by
          rw [← Array.getElem?_toList, hit, List.getElem?_map] at hv
          obtain ⟨p, h1, h2⟩ := Option.map_eq_some_iff.mp hv
          exact ⟨p, h1, h2.symm⟩
        have kp : ∀ b o, s.heap.get? b = some o → ((hp0 w s).push { cls := .type "list_iterator", data := .fields #[.ref l, .int 0 0] }).get? b = some o := fun b o e => Heap.get?_push_of_some _ (hp0_keep e)
        refine setNk_fill ((Walks.list no3 _ l ne1 its).toS) ne2 ks size few ref s.heap hk (heap_none (Nat.le_refl _)) (fun b hb => heap_none (by rw [List.mem_singleton.mp hb, hp0_size]; exact Nat.le_succ _)) (by simp only [Around.in1_units]; omega) its.size 0 _ (by omega)
          ⟨⟨_, Heap.get?_push_size _ rfl, rfl, rfl⟩, hl1.push _⟩ kp ⟨[], #[], 0, _, SetNk.none (Heap.get?_push_of_some _ hp0_new), ⟨fun p h => (nomatch h), fun p h => by simp at h, Nat.le_refl _⟩⟩ fun s3 L es ep t mv R3 g3 k3 => ?_
        obtain ⟨h3, g2, d2, tk2, os2⟩ := s3
        obtain ⟨e1, e2, e3⟩ : g2 = s.gens ∧ d2 = s.drawn ∧ os2 = s.os := ⟨mv.gens, mv.drawn, mv.os⟩
        subst e1 e2 e3
        rw [size] at g3
        exact wpAny_pure (show wpAny _ _ (ret Value.none) _ _ _ from wpAny_pure ⟨rfl, h3, tk2, L, es, ep, t, rfl, R3, g3, k3⟩)
      · cases r2 with
        | error e => exact hr2
        | ok fl2 =>
          cases fl2 with
          | ret r =>
            obtain ⟨rfl, hm⟩ := hr2
            repeat (any_goals (first | assumption | wp_step))
            exact q _ hm
          | _ => exact hr2.elim
    | _ => exact hr.elim
end
end DL
namespace DL
open PySem PySem.Spec PyProof.Rows L2
def GoodZ (w : World) (e : Int × Value) : Prop := ∃ x t, e.2 = Value.str x t ∧ e.1 = hashStr w x
/-- the set of texts at a: L its members, none twice -/
def SetZ (w : World) (h : Heap) (a : Addr) (L : List Str) : Prop :=
  ∃ o es ep t, h.get? a = some o ∧ (o.ExactSet ∧ o.data = .set es ep t) ∧ ((∀ e ∈ es.toList, GoodZ w e) ∧ (es.toList.map fun e => strOf e.2).Perm L ∧ L.Nodup) ∧ (es.size < scanBound ∧ t.fits es.size = true) ∧ Ris t.place.toList ∧ (w.params.followText "set-order" = true ∨ t.led = true)
section
variable {P : Program} {w : World} {h h' : Heap} {a : Addr} {L : List Str}
theorem SetZ.keep (R : SetZ w h a L) (k : ∀ o, h.get? a = some o → h'.get? a = some o) : SetZ w h' a L := by
  obtain ⟨o, es, ep, t, ho, r⟩ := R
  exact ⟨o, es, ep, t, k o ho, r⟩
end
end DL
namespace DL
open PySem PySem.Spec PyProof.Rows L2 PySem.W
def encT (z : List Str) : PyData := .tuple (z.map .str)
def ltT (x y : List Str) : Bool := dataLt (encT x) (encT y)
def tkey (z : List Str) : NestedKey := .tup (z.map .text)
theorem toks_inj : ∀ x y : List Str, keyToksAll (x.map .str) = keyToksAll (y.map .str) → x = y
  | [], [], _ => rfl
  | [], _ :: _, h => by simp [keyToksAll] at h
  | _ :: _, [], h => by simp [keyToksAll] at h
  | a :: x, b :: y, h => by
    simp only [List.map_cons, keyToksAll, keyToks, List.cons_append, List.nil_append, List.cons.injEq, Sum.inr.injEq, true_and] at h
    rw [str_of_cps h.1, toks_inj x y h.2]
theorem encT_toks (z : List Str) : keyToks (encT z) = keyToksAll (z.map .str) := by unfold encT; rw [keyToks]
theorem ltT_irr (x : List Str) : ltT x x = false := (listOrd itemOrd).irrefl _
theorem ltT_tr {x y z : List Str} (h1 : ltT x y = true) (h2 : ltT y z = true) : ltT x z = true := (listOrd itemOrd).trans _ _ _ h1 h2
theorem ltT_tot {x y : List Str} (h1 : ltT x y = false) (h2 : ltT y x = false) : x = y := by
  have q : keyToks (encT x) = keyToks (encT y) := (listOrd itemOrd).total _ _ h1 h2
  rw [encT_toks, encT_toks] at q
  exact toks_inj x y q
theorem alike_strs : ∀ x y : List Str, alikeAll (x.map .str) (y.map .str) = true
  | [], _ => by simp [alikeAll]
  | _ :: _, [] => by simp [alikeAll]
  | a :: x, b :: y => by rw [List.map_cons, List.map_cons, alikeAll, alike_strs x y]; simp [alike]
theorem alikeT (x y : List Str) : alike (encT x) (encT y) = true := by unfold encT; rw [alike]; exact alike_strs x y
theorem depthT : ∀ x : List Str, PyData.depthAll (x.map .str) = 0
  | [] => by simp [PyData.depthAll]
  | a :: x => by rw [List.map_cons, PyData.depthAll, depthT x]; simp [PyData.depth]
theorem tdepth : ∀ x : List Str, NestedKey.depthAll (x.map .text) = 0
  | [] => by simp [NestedKey.depthAll]
  | a :: x => by rw [List.map_cons, NestedKey.depthAll, tdepth x]; simp [NestedKey.depth]
theorem tkey_inj {x y : List Str} (h : tkey x = tkey y) : x = y := by
  unfold tkey at h
  injection h with h
  exact (List.map_inj_right (f := NestedKey.text) fun a b e => by injection e).mp h
theorem textsN {h : Heap} : ∀ {z : List Str} {us : List Value}, Vals (z.map V.str) us → NestedAll h (z.map .text) us ∧ ReadsAll h us (z.map .str) []
  | [], _, .nil => ⟨.nil, .nil⟩
  | x :: z, _, .cons r t => by
    obtain ⟨tk, rfl⟩ := r
    have q := textsN (h := h) t
    exact ⟨.cons (.text _ _) q.1, .cons (.str _ _) q.2⟩
section
variable {X : Cx} {pins : List (Addr × Obj)} {σ : L2.St} {H : Hp} {s : Shared}
theorem textsAt (I : Inv X pins σ H s) {b : Addr} {z : List Str} (h : SqT X.K H b (z.map V.str)) : (nestedKind X.prog X.w).is s.heap (tkey z) b ∧ Reads s.heap (.ref b) (encT z) [] := by
  obtain ⟨its, r, ⟨o, ho, hc, n, hd⟩, _⟩ := I.tuple h
  have q := textsN (h := s.heap) r
  exact ⟨⟨.tup ho hc hd (by simpa using q.1), by rw [tkey, NestedKey.depth, tdepth]; omega⟩, .tuple ho hc hd (by simpa using q.2)⟩
end
theorem permMap {α β : Type} (f : α → β) : ∀ {l m : List β}, l.Perm m → ∀ {L : List α}, m = L.map f → ∃ L1 : List α, L1.Perm L ∧ l = L1.map f := by
  intro l m h
  induction h with
  | nil => intro L e; exact ⟨L, .refl _, e⟩
  | @cons x l m _ ih =>
    intro L e
    cases L with
    | nil => cases e
    | cons a L =>
      rw [List.map_cons] at e
      injection e with e1 e2
      obtain ⟨L1, h1, h2⟩ := ih e2
      exact ⟨a :: L1, h1.cons a, by rw [List.map_cons, e1, h2]⟩
  | swap x y l =>
    intro L e
    match L, e with
    | a :: b :: L, e =>
      simp only [List.map_cons, List.cons.injEq] at e
      exact ⟨b :: a :: L, .swap _ _ _, by simp [e.1, e.2.1, e.2.2]⟩
  | trans _ _ i1 i2 =>
    intro L e
    obtain ⟨L2, h1, h2⟩ := i2 e
    obtain ⟨L1, h3, h4⟩ := i1 h2
    exact ⟨L1, h3.trans h1, h4⟩
abbrev TA := List Str × Addr
def nkT (p : TA) : NestedKey × Addr := (tkey p.1, p.2)
section
variable {P : Program} {w : World} {A : Around} {E : Value → Shared → Prop} {s : Shared}
theorem sorted_nks {a : Addr} {L : List TA} {es : Array (Int × Value)} {ep : Nat} {t : SetTable} {Q : Value → Shared → Prop} (R : SetNk P w s.heap a (L.map nkT) es ep t) (hh : A.handled = none) (hu : A.units + 16 < cLine) (rd : ∀ p ∈ L, p.1 ≠ [] ∧ Reads s.heap (.ref p.2) (encT p.1) [])
    (q : ∀ s2 p (out : List Value) (c : Nat) (L2 : List TA), (∀ b o, s.heap.get? b = some o → s2.heap.get? b = some o) → s2.gens = s.gens → s2.os = s.os → s.heap.objs.size ≤ p → s2.heap.get? p = some (seqObj "list" out.toArray c) → out = L2.map (fun x => Value.ref x.2) → L2.Perm L →
      L2.Pairwise (fun x y => ltT y.1 x.1 = false) → Q (.ref p) s2) : wpAny (model P w) A (call (.builtin "sorted") [.ref a]) Q E s := by
  obtain ⟨o, ho, hex, hd⟩ := R.obj
  have size := its_len R.its
  have few := R.fw
  rw [List.length_map] at size few
  refine Calls.call_function_entry kind_sorted plain_sorted entry_sorted (args_sorted1 _) ?_
  unfold Builtin.«sorted»
  refine wpAny_bind (m := checkCount "sorted" 1 1 _) (wpAny_pure ?_)
  refine wpAny_bind (collect_set (A := A.in1) hh ⟨o, ho, hex.1, hd⟩ R.fit (by unfold scanBound; omega) R.tb.ris R.ld fun s1 vs k1 hz g1 o1 pm => ?_)
  have e0 : es.toList.map (·.2) = L.map fun x => Value.ref x.2 := by rw [R.its, List.map_map, List.map_map]; rfl
  rw [e0] at pm
  obtain ⟨L1, pm1, rfl⟩ := permMap (fun x : TA => Value.ref x.2) pm rfl
  have len1 : L1.length < 64 := by rw [pm1.length_eq]; exact few
  refine wpAny_bind (wpAny_newList ?_ (by rw [List.length_map, sizeLine_eq]; omega))
  have at1 : (s1.heap.push (seqObj "list" (L1.map fun x => Value.ref x.2).toArray 0)).get? s1.heap.objs.size = some (seqObj "list" (L1.map fun x => Value.ref x.2).toArray 0) := Heap.get?_push_size _ rfl
  have each : ∀ (R2 : Value → TA → Prop) (l : List TA), (∀ x ∈ l, R2 (.ref x.2) x) → EachIs R2 (l.map fun x => Value.ref x.2) l := fun R2 l => by
    induction l with
    | nil => intro _; exact .nil
    | cons x l ih => intro h; exact .cons (h x List.mem_cons_self) (ih fun y hy => h y (List.mem_cons_of_mem _ hy))
  have rd1 : ∀ x ∈ L1, Reads (s1.heap.push (seqObj "list" (L1.map fun x => Value.ref x.2).toArray 0)) (.ref x.2) (encT x.1) [] := fun x hx => PyProof.Rows.Reads.keeps (fun b u e => Heap.get?_push_of_some _ (k1 b u e)) (rd x (pm1.mem_iff.mp hx)).2
  refine wpAny_bind (wpAny_holding (list_sort_data (s := { s1 with heap := s1.heap.push (seqObj "list" (L1.map fun x => Value.ref x.2).toArray 0) }) (enc := fun x : TA => encT x.1) (R := fun v x => v = Value.ref x.2) (bs := L1) at1 (each _ L1 fun x _ => rfl)
    (each _ L1 fun x hx => ⟨[], rd1 x hx, fun h => nomatch h⟩) (AllAlike.of fun x y => alikeT _ _) (.inl fun d hd => ?_) (by rw [sizeLine_eq]; omega) (fun x hx => ?_) fun out h1 h2 => ?_))
  · obtain ⟨x, hx, rfl⟩ := List.mem_map.mp hd
    have ne := (rd x (pm1.mem_iff.mp hx)).1
    cases hz : x.1 with
    | nil => exact absurd hz ne
    | cons c z => exact ⟨.str c, z.map .str, by rw [encT]; rfl⟩
  · rw [encT, PyData.depth, depthT]
    simp only [Around.in1_units]
    omega
  · have eo : ∀ {o : List Value} {l : List TA}, EachIs (fun v x => v = Value.ref x.2) o l → o = l.map fun x => Value.ref x.2 := by
      intro o l h
      induction h with
      | nil => rfl
      | cons h t ih => rw [List.map_cons, h, ih]
    obtain ⟨c, hc⟩ := sortedHeap_at (vs := L1.map fun x => Value.ref x.2) (out := out.toArray) at1
    refine wpAny_pure ⟨_, rfl, q _ s1.heap.objs.size out c _ (fun b u e => ?_) g1 o1 hz hc (eo h2) ((List.mergeSort_perm _ _).trans pm1) ?_⟩
    · have k := k1 b u e
      have lt := Heap.lt_size k
      show (sortedHeap _ s1.heap.objs.size _ _).get? b = some u
      rw [sortedHeap_old (Nat.ne_of_lt lt) (by rw [size_push']; exact Nat.lt_succ_of_lt lt)]
      exact Heap.get?_push_of_some _ k
    · have tl := sortLe_total (listOrd itemOrd) false fun x : TA => keyToks (encT x.1)
      refine List.Pairwise.imp (fun {x y} h => ?_) (List.pairwise_mergeSort (le := dataLe false fun x : TA => encT x.1) (fun x y z => tl.trans x y z) (fun x y => by have z := tl.total x y; show (dataLe false (fun x : TA => encT x.1) x y || dataLe false (fun x : TA => encT x.1) y x) = true; rw [Bool.or_eq_true]; exact z) L1)
      have h : (!(ltT y.1 x.1)) = true := h
      simpa using h
end
end DL
namespace DL
open PySem PySem.Spec PyProof.Rows L2 PySem.W
/-- at a stands a set, all but its members themselves -/
def SetN0 (w : World) (h : Heap) (a : Addr) (L : List (NestedKey × Addr)) : Prop := ∃ (es : Array (Int × Value)) (ep : Nat) (t : SetTable), (∃ o, h.get? a = some o ∧ o.ExactSet ∧ o.data = .set es ep t) ∧ es.toList = L.map (rowN w) ∧ TabOk t (L.map (hashN w)) ∧ (L.map Prod.fst).Nodup ∧
  (w.params.followText "set-order" = true ∨ t.led = true) ∧ 5 * L.length < 3 * t.mask ∧ L.length < 64
def SetNO (w : World) (a : Addr) (L : List TA) : HO := .ext fun h => SetN0 w h a (L.map nkT)
theorem SetNk.bare {P : Program} {w : World} {h : Heap} {a : Addr} {L : List (NestedKey × Addr)} {es : Array (Int × Value)} {ep : Nat} {t : SetTable} (R : SetNk P w h a L es ep t) : SetN0 w h a L := ⟨es, ep, t, R.obj, R.its, R.tb, R.uk, R.ld, R.rm, R.fw⟩
theorem SetN0.all {P : Program} {w : World} {h : Heap} {a : Addr} {L : List (NestedKey × Addr)} (R : SetN0 w h a L) (ky : ∀ p ∈ L, (nestedKind P w).is h p.1 p.2) : ∃ es ep t, SetNk P w h a L es ep t :=
  let ⟨es, ep, t, h1, h2, h3, h4, h5, h6, h7⟩ := R
  ⟨es, ep, t, ⟨h1, h2, h3, h4, ky, h5, h6, h7⟩⟩
theorem setNO_new {P : Program} {w : World} {H : Hp} {h : Heap} {a : Addr} {L : List TA} (R : SetN0 w h a (L.map nkT)) : ObjOk P w H h a (SetNO w a L) := by
  have ⟨_, _, _, ⟨o, ho, _⟩, _⟩ := R
  refine ⟨R, ⟨o, ho⟩, fun h1 h2 p k => ?_⟩
  obtain ⟨es, ep, t, ⟨o, ho, r⟩, q⟩ := (show SetN0 w h1 a (L.map nkT) from p)
  exact ⟨es, ep, t, ⟨o, k o ho, r⟩, q⟩
theorem pull_map {α β : Type} (f : α → β) (ks : List α) : ∀ {m : List β}, (∀ x ∈ m, x ∈ ks.map f) → ∃ L : List α, m = L.map f ∧ ∀ p ∈ L, p ∈ ks
  | [], _ => ⟨[], rfl, fun p h => nomatch h⟩
  | x :: m, h => by
    obtain ⟨p, hp, rfl⟩ := List.mem_map.mp (h x List.mem_cons_self)
    obtain ⟨L, rfl, hL⟩ := pull_map f ks fun y hy => h y (List.mem_cons_of_mem _ hy)
    exact ⟨p :: L, rfl, fun y hy => (List.mem_cons.mp hy).elim (fun e => e ▸ hp) (hL y)⟩
section
variable {X : Cx}
def rSetNk (K : PySem.W.Frag) (w : World) : List V → Hp → VK → Prop := fun xs H Q => ∃ (l : Addr) (ks : List TA), xs = [V.ref l] ∧ SqL K H l (ks.map fun p => V.ref p.2) ∧ (∀ p ∈ ks, SqT K H p.2 (p.1.map V.str)) ∧ ks.length < 64 ∧
  ∀ a L, H a = none → (∀ p ∈ L, p ∈ ks) → (∀ p ∈ ks, p.1 ∈ L.map Prod.fst) → (L.map Prod.fst).Nodup → L.length < 64 → Q (.ref a) (upd H a (SetNO w a L))
theorem refs_val : ∀ {ks : List TA} {us : List Value}, Vals (ks.map fun p => V.ref p.2) us → us = ks.map fun p => Value.ref p.2
  | [], _, .nil => rfl
  | p :: ks, _, .cons r t => by
    cases r
    rw [refs_val t]; rfl
theorem val_refs : ∀ (ks : List TA), Vals (ks.map fun p => V.ref p.2) (ks.map fun p => Value.ref p.2)
  | [] => .nil
  | p :: ks => .cons rfl (val_refs ks)
theorem cr_setN (hc : X.calm = true) (hu : X.A.units + 64 < cLine) : CallR X (.type "set") (rSetNk X.K X.w) := by
  intro pins s σ H xs us Q I r h
  obtain ⟨l, ks, rfl, hl, hk, few, q⟩ := h
  rw [Vals.ref1 r]
  obtain ⟨its, rv, pl, hz⟩ := I.list hl
  refine set_of_nks (ks.map nkT) (I.ok.hd hc) pl.isList (by rw [show its.toArray.toList = its by simp, refs_val rv, List.map_map]; rfl) (fun p hp => ?_) (by rw [List.length_map]; exact few) (by omega) fun s2 hm => ?_
  · obtain ⟨y, hy, rfl⟩ := List.mem_map.mp hp
    exact (textsAt I (hk y hy)).1
  · obtain ⟨h2, tk, Lk, es, ep, t, rfl, R, g, k⟩ := hm
    obtain ⟨L, rfl, hL⟩ := pull_map nkT ks fun x hx => List.mem_of_mem_take (g.src x hx)
    have uk := R.uk
    have few2 := R.fw
    rw [List.map_map] at uk
    rw [List.length_map] at few2
    refine ⟨.ref s.heap.objs.size, _, I.laid (t' := tk) k (Nat.le_refl _) (setNO_new R.bare), rfl, q _ L (I.hok.fresh (Nat.le_refl _)) hL (fun p hp => ?_) ?_ few2⟩
    · have z := g.inn (nkT p) (by rw [List.take_length]; exact List.mem_map_of_mem hp)
      rw [List.map_map] at z
      obtain ⟨y, hy, e⟩ := List.mem_map.mp z
      exact List.mem_map.mpr ⟨y, hy, tkey_inj e⟩
    · refine List.pairwise_map.mpr ((List.pairwise_map.mp uk).imp fun {x y} h e => h ?_)
      show tkey x.1 = tkey y.1
      rw [e]
def rSortN (K : PySem.W.Frag) (w : World) : List V → Hp → VK → Prop := fun vs H Q => ∃ (a : Addr) (L : List TA), vs = [V.ref a] ∧ H a = some (SetNO w a L) ∧ (∀ p ∈ L, SqT K H p.2 (p.1.map V.str) ∧ p.1 ≠ []) ∧
  ∀ (L2 : List TA) (p : Addr), L2.Perm L → L2.length < 64 → L2.Pairwise (fun x y => ltT y.1 x.1 = false) → H p = none → Q (.ref p) (upd H p (.lst (L2.map fun x => V.ref x.2)))
theorem cr_sortN (hc : X.calm = true) (hu : X.A.units + 64 < cLine) : CallR X (.builtin "sorted") (rSortN X.K X.w) := by
  intro pins s σ H vs us Q I r h
  obtain ⟨a, L, rfl, ha, hk, q⟩ := h
  have R0 : SetN0 X.w s.heap a (L.map nkT) := (I.hok a _ ha).1
  obtain ⟨es, ep, t, R⟩ := R0.all (P := X.prog) fun p hp => by
    obtain ⟨y, hy, rfl⟩ := List.mem_map.mp hp
    exact (textsAt I (hk y hy).1).1
  have few := R.fw
  rw [List.length_map] at few
  rw [Vals.ref1 r]
  refine sorted_nks R (I.ok.hd hc) (by omega) (fun p hp => ⟨(hk p hp).2, (textsAt I (hk p hp).1).2⟩) fun s2 p out c L2 k g o hp hg e pm pw => ?_
  have len : L2.length < 64 := by rw [pm.length_eq]; exact few
  have hn : H p = none := I.hok.fresh hp
  have J : Inv X pins σ (upd H p (.lst (L2.map fun x => V.ref x.2))) { s with heap := s2.heap, gens := s2.gens, drawn := s2.drawn, toks := s2.toks } :=
    I.call (ch := []) (Un.laid k hp hn) (I.hok.laid k hp ⟨by rw [List.length_map, sizeLine_eq]; omega, out, c, by rw [e]; exact val_refs L2, hg⟩) (by rw [g]; exact I.bare) (fun _ z => nomatch z)
  have e2 : s2 = { s with heap := s2.heap, gens := s2.gens, drawn := s2.drawn, toks := s2.toks } := by cases s2; cases s; cases o; rfl
  rw [e2]
  exact ⟨.ref p, _, J, rfl, q L2 p pm len pw hn⟩
end
theorem reps_ta {K : PySem.W.Frag} {M : Mp} {Z : Zn} {H : Hp} : ∀ (zs : List (List Str)) (vs : List V), Reps K M Z H vs (zs.map fun z => D.tup (z.map D.str)) → ∃ ks : List TA, vs = ks.map (fun p => V.ref p.2) ∧ ks.map Prod.fst = zs ∧ ∀ p ∈ ks, Rep K M Z H (.ref p.2) (.tup (p.1.map D.str))
  | [], _, .nil => ⟨[], rfl, rfl, fun p hp => nomatch hp⟩
  | z :: zs, _, .cons r t => by
    obtain ⟨a, us, rfl, _⟩ := r.asTup
    obtain ⟨ks, rfl, rfl, h⟩ := reps_ta zs _ t
    exact ⟨(z, a) :: ks, rfl, rfl, fun p hp => (List.mem_cons.mp hp).elim (fun e => by rw [e]; exact r) (h p)⟩
theorem ta_reps {K : PySem.W.Frag} {M : Mp} {Z : Zn} {H : Hp} : ∀ (ks : List TA), (∀ p ∈ ks, Rep K M Z H (.ref p.2) (.tup (p.1.map D.str))) → Reps K M Z H (ks.map fun p => V.ref p.2) ((ks.map Prod.fst).map fun z => D.tup (z.map D.str))
  | [], _ => .nil
  | p :: ks, h => .cons (h p List.mem_cons_self) (ta_reps ks fun y hy => h y (List.mem_cons_of_mem _ hy))
theorem sqT_txt {K : PySem.W.Frag} {M : Mp} {Z : Zn} {H : Hp} {b : Addr} {z : List Str} (r : Rep K M Z H (.ref b) (.tup (z.map D.str))) : SqT K H b (z.map V.str) := by
  obtain ⟨a, us, e, h, rs⟩ := r.asTup
  cases e
  rwa [rs.strs] at h
/-- ascending, each once, just those of zs -/
def UpT (zs ys : List (List Str)) : Prop := ys.Pairwise (fun x y => ltT x y = true) ∧ (∀ z, z ∈ ys ↔ z ∈ zs) ∧ ys.length < 64
section
variable {X : Cx} {ρ : Rho} {M : Mp} {Φ : D → Mp → Prop} {e : Expr} {pos p p2 pos2 : Pos}
theorem we_sortedSetTx (hu : X.A.units + 64 < cLine) (hm : X.mg "sorted" = none) (hm2 : X.mg "set" = none) (h : WE X ρ M e fun d M1 => ∃ zs : List (List Str), LstOf M1 d (zs.map fun z => D.tup (z.map D.str)) ∧ zs.length < 64 ∧ [] ∉ zs ∧ ∀ ys, UpT zs ys → Φ (.lst (ys.map fun z => D.tup (z.map D.str))) M1) (hc : X.calm = true := by rfl)
    (hg : Gl X "sorted" := by rfl) (hg2 : Gl X "set" := by rfl) (he : starEach [.Call (.Name "set" p2) [e] [] pos2] X.env = (false, eval (.Call (.Name "set" p2) [e] [] pos2) X.env) :: starEach [] X.env := by rfl) (hpl : (backTo pos (starEach [] X.env)).any (·.1) = false := by rfl)
    (he2 : starEach [e] X.env = (false, eval e X.env) :: starEach [] X.env := by rfl) (hpl2 : (backTo pos2 (starEach [] X.env)).any (·.1) = false := by rfl) : WE X ρ M (.Call (.Name "sorted" p) [.Call (.Name "set" p2) [e] [] pos2] [] pos) Φ := .mk fun {Z} σ H Q en w k =>
  eOf (pe_callB (cr_sortN hc hu) hg hm (by decide +kernel) (pa_cons (pe_callTy (cr_setN hc hu) hg2 hm2 (by decide +kernel) pa_sem (by decide) (by decide) he2 hpl2) pa_nil he) (by decide) (by decide) he hpl)
    ((wa_cons (ΦA := fun ds M2 => ∃ d, ∃ zs : List (List Str), ds = [d] ∧ LstOf M2 d (zs.map fun z => D.tup (z.map D.str)) ∧ zs.length < 64 ∧ [] ∉ zs ∧ ∀ ys, UpT zs ys → Φ (.lst (ys.map fun z => D.tup (z.map D.str))) M2) (h.imp fun d M1 ⟨zs, h1, h2, h3, h4⟩ => wa_nil ⟨d, zs, rfl, h1, h2, h3, h4⟩) he2).run σ H _ en w fun vs ds H1 M1 e1 w1 r1 hz => by
      obtain ⟨d, zs, rfl, hl, hn, ne, hz⟩ := hz
      cases r1 with
      | cons r1 r2 =>
        cases r2
        obtain ⟨l, us, rfl, hq, rs⟩ := r1.asLst w1 hl
        obtain ⟨ks, rfl, rfl, hk⟩ := reps_ta zs us rs
        rw [List.length_map] at hn
        refine ⟨l, ks, rfl, hq, fun p hp => sqT_txt (hk p hp), hn, fun a L ha hL all nd few => ?_⟩
        have x1 := Ext.new (o := SetNO X.w a L) w1 ha
        have w2 := w1.new (o := SetNO X.w a L) ha
        have hk2 : ∀ p ∈ ks, Rep X.K M1 Z (upd H1 a (SetNO X.w a L)) (.ref p.2) (.tup (p.1.map D.str)) := fun p hp => (hk p hp).mono x1
        refine ⟨a, L, rfl, upd_same, fun p hp => ⟨sqT_txt (hk2 p (hL p hp)), fun e => ne (by rw [← e]; exact List.mem_map_of_mem (hL p hp))⟩, fun L2 q pm len pw hq2 => ?_⟩
        have x2 := Ext.new (o := .lst (L2.map fun x => V.ref x.2)) w2 hq2
        refine (k.step (e1.trans x1)).new w2 hq2 (.lst upd_same (w2.fresh hq2) (ta_reps L2 fun p hp => (hk2 p (hL p (pm.mem_iff.mp hp))).mono x2)) (hz _ ⟨?_, fun z => ⟨fun hz => ?_, fun hz => ?_⟩, by rw [List.length_map]; exact len⟩)
        · have nd2 : (L2.map Prod.fst).Nodup := (pm.map Prod.fst).nodup_iff.mpr nd
          refine List.pairwise_map.mpr (List.Pairwise.imp₂ (fun x y h1 h2 => ?_) pw (List.pairwise_map.mp nd2))
          cases e : ltT x.1 y.1 with
          | true => rfl
          | false => exact absurd (ltT_tot e h1) h2
        · obtain ⟨p, hp, rfl⟩ := List.mem_map.mp hz
          exact List.mem_map_of_mem (hL p (pm.mem_iff.mp hp))
        · obtain ⟨p, hp, rfl⟩ := List.mem_map.mp hz
          obtain ⟨y, hy, e⟩ := List.mem_map.mp (all p hp)
          rw [← e]
          exact List.mem_map_of_mem (pm.mem_iff.mpr hy))
end
end DL
namespace DL
open PySem PySem.Spec PyProof.Rows L2 PySem.W
theorem op_ltTx {X : Cx} (hu : X.A.units + 64 < cLine) : OpR X (compareOp .Lt) (fun x y H Q => ∃ a b z c, x = .ref a ∧ y = .ref b ∧ SqT X.K H a (z.map V.str) ∧ SqT X.K H b (c.map V.str) ∧ Q (.bl (ltT z c)) H) := by
  intro pins s σ H x y v u Q I rx ry h
  obtain ⟨a, b, z, c, rfl, rfl, ha, hb, q⟩ := h
  cases rx
  cases ry
  exact rcLt_alike (encT z) (encT c) _ _ _ _ _ _ (textsAt I ha).2 (textsAt I hb).2 (alikeT z c) (fun e => nomatch e) (by unfold encT; simp only [PyData.depth, depthT]; omega) _ _ _ _ ⟨.bl _, H, I, rfl, q⟩
section
variable {X : Cx} {ρ : Rho} {M : Mp} {Φ : D → Mp → Prop} {a b : Expr} {pos : Pos}
theorem we_ltTx (hu : X.A.units + 64 < cLine) (h : WE X ρ M a fun x M1 => WE X ρ M1 b fun y M2 => ∃ z c : List Str, x = .tup (z.map D.str) ∧ y = .tup (c.map D.str) ∧ Φ (.bl (ltT z c)) M2) : WE X ρ M (.Compare a [.Lt] [b] pos) Φ :=
  we_cmp (op_ltTx hu) (nomark _) (h.imp fun _ _ h => h.imp fun x y ⟨z, c, e1, e2, hz⟩ => fun Z v u H Q w r1 r2 k => by
    subst e1 e2
    obtain ⟨q, vs, rfl, hq, rs⟩ := r1.asTup
    obtain ⟨q2, vs2, rfl, hq2, rs2⟩ := r2.asTup
    rw [rs.strs] at hq
    rw [rs2.strs] at hq2
    exact ⟨q, q2, z, c, rfl, rfl, hq, hq2, k.now w (.bl _) hz⟩)
end
end DL
namespace DL
open PySem PySem.Spec PyProof.Rows L2
section
variable {X : Cx} {ρ : Rho} {M : Mp} {Φ : D → Mp → Prop} {Θ : Bool → Mp → Prop} {a b c e : Expr} {pos : Pos}
def valK (kvs : List (Key × D)) (k : Key) : Option D := (kvs.find? fun kv => decide (kv.1 = k)).map (·.2)
theorem RepK.val {K : PySem.W.Frag} {Z : Zn} {H : Hp} {k : Key} {d : D} : ∀ {vs : List (Key × V)} {ds : List (Key × D)}, RepK K M Z H vs ds → valK ds k = some d → ∃ v, valV vs k = some v ∧ Rep K M Z H v d
  | _, _, .nil, h => by simp [valK] at h
  | _, _, .cons (k := k') (v := v) (d := d') r t, h => by
    unfold valK at h
    unfold valV
    rw [List.find?_cons] at h ⊢
    by_cases hk : k' = k
    · rw [decide_eq_true hk] at h ⊢
      obtain rfl := Option.some.inj h
      exact ⟨v, rfl, r⟩
    · rw [decide_eq_false hk] at h ⊢
      exact RepK.val t h
end
end DL
namespace DL
open PySem PySem.Spec PyProof.Rows L2
section
variable {X : Cx} {ρ : Rho} {M : Mp} {Φ : List D → Mp → Prop} {a b e : Expr} {p pos : Pos}
theorem wi_zipL {elts : List Expr} {kk : Nat} {tpos : Pos} (hm : X.mg "zip" = none) (h : WE X ρ M a fun x M1 => WE X ρ M1 b fun y M2 => ∃ xs ys, x = .lst xs ∧ y = .lst ys ∧ Φ (zipD xs ys) M2) (hg : Gl X "zip" := by rfl)
    (ha : starEach [a, b] X.env = (false, eval a X.env) :: starEach [b] X.env := by rfl) (hb : starEach [b] X.env = (false, eval b X.env) :: starEach [] X.env := by rfl) (hpl : (backTo pos (starEach [b] X.env)).any (·.1) = false := by rfl) : WI X ρ M (.Tuple elts kk tpos) (.Call (.Name "zip" p) [a, b] [] pos) Φ := .mk fun σ H R en w k =>
  iOf (pi_zip hg hm (pa_cons pe_sem (pa_cons pe_sem pa_nil hb) ha) ha hpl) (bind2 h en w fun v u x y H2 M2 e2 w2 r1 r2 hz => by
    obtain ⟨xs, ys, rfl, rfl, hz⟩ := hz
    obtain ⟨p1, vs, rfl, hq1, rs1⟩ := r1.lstKeep (.inl rfl)
    obtain ⟨p2, us, rfl, hq2, rs2⟩ := r2.lstKeep (.inl rfl)
    refine ⟨p1, p2, vs, us, rfl, hq1 _ _ _ ExI.refl, hq2 _ _ _ ExI.refl, k _ _ H2 M2 e2 w2 ?_ hz⟩
    intro i M Z H e w
    refine ⟨fun hi => ⟨vs, us, hq1 _ _ _ e, hq2 _ _ _ e, ?_⟩, fun d hd => ?_⟩
    · rw [rs1.length, rs2.length]
      have : (zipD xs ys).length = min xs.length ys.length := by simp [zipD]
      omega
    · obtain ⟨x, y, hx, hy, rfl⟩ := zipD_get hd
      obtain ⟨v, hv, rv⟩ := rs1.get hx
      obtain ⟨u, hu, ru⟩ := rs2.get hy
      refine ⟨⟨vs, us, v, u, hq1 _ _ _ e, hq2 _ _ _ e, hv, hu⟩, fun z H' yl => ?_⟩
      obtain ⟨T, v', u', rfl, hT, rfl, h3, h4⟩ := yl
      have z1 := h3 vs (hq1 _ _ _ e)
      have z2 := h4 us (hq2 _ _ _ e)
      rw [hv] at z1; cases z1
      rw [hu] at z2; cases z2
      have x3 : Ext M Z H M (upd H T (.tup [v, u])) := Ext.new w hT
      exact ⟨x3, w.new hT, .tup (.inl upd_same) (w.fresh hT) (.cons ((rv.monoI e).mono x3) (.cons ((ru.monoI e).mono x3) .nil))⟩)
end
end DL
namespace W
open PySem PySem.Spec PyProof.Rows L2 DL SX PL SlX
abbrev Mk := Str × Str
abbrev Pt := Mk × Int
def mkL (m : Mk) : List Str := [m.1, m.2]
def mkD (m : Mk) : D := .tup [.str m.1, .str m.2]
def ltM (a b : Mk) : Bool := ltT (mkL a) (mkL b)
def ptD (p : Pt) : D := .tup [mkD p.1, .int p.2]
def mkA (m : Mk) : AV := .tup [.str m.1, .str m.2]
def ptA (p : Pt) : AV := .tup [mkA p.1, .int p.2]
theorem mkA_D (m : Mk) : avD (mkA m) = mkD m := by simp only [mkA, mkD, avD, avsD]
theorem ptA_D (p : Pt) : avD (ptA p) = ptD p := by simp only [ptA, ptD, avD, avsD, mkA_D]
theorem mkL_inj {a b : Mk} (h : mkL a = mkL b) : a = b := by
  unfold mkL at h
  simp only [List.cons.injEq, and_true] at h
  exact Prod.ext h.1 h.2
theorem ltM_tr {a b c : Mk} (h1 : ltM a b = true) (h2 : ltM b c = true) : ltM a c = true := ltT_tr h1 h2
theorem ltM_irr (a : Mk) : ltM a a = false := ltT_irr _
def fmN (x : Str) : Bool := isNameL x.cps.toList
def wordsL : List Str := ["people", "circle", "strangers", "rows", "hall"]
/-- a value as a mark, as a part, as parts -/
def isMk (v : AV) : Option Mk := match v with
  | .tup [.str a, .str b] => if fmN a = true ∧ b ∈ wordsL then some (a, b) else none
  | _ => none
def isPt (v : AV) : Option Pt := match v with
  | .tup [m, .int i] => if i = 0 then none else (isMk m).map fun k => (k, i)
  | _ => none
def adj {α : Type} (r : α → α → Bool) (xs : List α) : List Bool := List.zipWith r xs (xs.drop 1)
def asc (ms : List Mk) : Bool := (adj ltM ms).all id
def ptsV (v : AV) : Option (List Pt) := match v with
  | .tup l => if l.all (fun x => (isPt x).isSome) = true ∧ asc ((l.filterMap isPt).map Prod.fst) = true then some (l.filterMap isPt) else none
  | _ => none
/-- what parts are to be -/
structure Pts (ps : List Pt) : Prop where
  ok : ∀ p ∈ ps, fmN p.1.1 = true ∧ p.1.2 ∈ wordsL ∧ p.2 ≠ 0
  up : (ps.map Prod.fst).Pairwise fun a b => ltM a b = true
theorem adj_cons {α : Type} (r : α → α → Bool) (x y : α) (xs : List α) : adj r (x :: y :: xs) = r x y :: adj r (y :: xs) := rfl
theorem adj_iff {α : Type} {r : α → α → Bool} (tr : ∀ a b c, r a b = true → r b c = true → r a c = true) : ∀ xs : List α, (adj r xs).all id = true ↔ xs.Pairwise fun a b => r a b = true
  | [] => by simp [adj]
  | [x] => by simp [adj]
  | x :: y :: xs => by
    rw [adj_cons, List.all_cons, Bool.and_eq_true, adj_iff tr (y :: xs), List.pairwise_cons (a := x)]
    show r x y = true ∧ _ ↔ _
    constructor
    · rintro ⟨h1, h2⟩
      refine ⟨fun z hz => ?_, h2⟩
      rcases List.mem_cons.mp hz with rfl | hz
      · exact h1
      · exact tr _ _ _ h1 ((List.pairwise_cons.mp h2).1 z hz)
    · rintro ⟨h1, h2⟩
      exact ⟨h1 y List.mem_cons_self, h2⟩
theorem asc_iff (ms : List Mk) : asc ms = true ↔ ms.Pairwise fun a b => ltM a b = true := adj_iff (r := ltM) (fun _ _ _ h1 h2 => ltM_tr h1 h2) ms
theorem isMk_some {v : AV} {m : Mk} (h : isMk v = some m) : v = mkA m ∧ fmN m.1 = true ∧ m.2 ∈ wordsL := by
  unfold isMk at h
  split at h
  · split at h
    · rename_i hc; cases h; exact ⟨rfl, hc⟩
    · cases h
  · cases h
theorem isMk_of {m : Mk} (h1 : fmN m.1 = true) (h2 : m.2 ∈ wordsL) : isMk (mkA m) = some m := by
  unfold isMk mkA
  dsimp only
  rw [if_pos ⟨h1, h2⟩]
theorem isPt_some {v : AV} {p : Pt} (h : isPt v = some p) : v = ptA p ∧ fmN p.1.1 = true ∧ p.1.2 ∈ wordsL ∧ p.2 ≠ 0 := by
  unfold isPt at h
  split at h
  · rename_i m i
    split at h
    · cases h
    · rename_i hi
      obtain ⟨k, hk, rfl⟩ := Option.map_eq_some_iff.mp h
      obtain ⟨rfl, h1, h2⟩ := isMk_some hk
      exact ⟨rfl, h1, h2, hi⟩
  · cases h
theorem isPt_of {p : Pt} (h : fmN p.1.1 = true ∧ p.1.2 ∈ wordsL ∧ p.2 ≠ 0) : isPt (ptA p) = some p := by
  unfold isPt ptA
  dsimp only
  rw [if_neg h.2.2, isMk_of h.1 h.2.1]; rfl
theorem all_pt : ∀ {l : List AV}, l.all (fun x => (isPt x).isSome) = true → l = (l.filterMap isPt).map ptA ∧ ∀ p ∈ l.filterMap isPt, fmN p.1.1 = true ∧ p.1.2 ∈ wordsL ∧ p.2 ≠ 0
  | [], _ => ⟨rfl, fun q h => by simp at h⟩
  | x :: l, h => by
    rw [List.all_cons, Bool.and_eq_true] at h
    obtain ⟨q, hq⟩ := Option.isSome_iff_exists.mp h.1
    obtain ⟨h1, h2⟩ := all_pt h.2
    obtain ⟨e, h3⟩ := isPt_some hq
    rw [List.filterMap_cons, hq]
    refine ⟨by show x :: l = ptA q :: _; rw [← h1, e], fun z hz => ?_⟩
    rcases List.mem_cons.mp hz with rfl | hz
    · exact h3
    · exact h2 z hz
theorem filter_pt : ∀ {ps : List Pt}, (∀ p ∈ ps, fmN p.1.1 = true ∧ p.1.2 ∈ wordsL ∧ p.2 ≠ 0) → (ps.map ptA).filterMap isPt = ps ∧ (ps.map ptA).all (fun x => (isPt x).isSome) = true
  | [], _ => ⟨rfl, rfl⟩
  | p :: ps, h => by
    obtain ⟨h1, h2⟩ := filter_pt fun q hq => h q (List.mem_cons_of_mem _ hq)
    have e := isPt_of (h p List.mem_cons_self)
    rw [List.map_cons, List.filterMap_cons, List.all_cons, e, h2]
    exact ⟨by show p :: _ = _; rw [h1], rfl⟩
theorem ptsV_of {ps : List Pt} (h : Pts ps) : ptsV (.tup (ps.map ptA)) = some ps := by
  unfold ptsV
  dsimp only
  obtain ⟨h1, h2⟩ := filter_pt h.ok
  rw [h1, if_pos ⟨h2, (asc_iff _).mpr h.up⟩]
theorem pts_D (ps : List Pt) : avD (.tup (ps.map ptA)) = .tup (ps.map ptD) := by
  rw [avD, avsD_map, List.map_map]
  exact congrArg D.tup (List.map_congr_left fun p _ => ptA_D p)
/-- a name, a word among values of any kind -/
def nmB (v : AV) : Bool := match v with
  | .str x => fmN x
  | _ => false
def wdB (zs : List Str) (v : AV) : Bool := match v with
  | .str x => decide (x ∈ zs)
  | _ => false
def tupN (v : AV) (n : Nat) : Bool := match v with
  | .tup l => decide (l.length = n)
  | _ => false
def intB : AV → Bool
  | .int _ => true
  | _ => false
def shS (v : AV) : Prop := ∀ x, v = .str x → x.cps.toList.length ≤ 1000000
def isS : AV → Bool
  | .str _ => true
  | _ => false
theorem S_toList (x : Str) : S x.cps.toList = x := by cases x; rfl
section
variable {P : Program} {w : World} {K : PySem.W.Frag} {mg : Str → Option Value} {base : Heap} {C R U V : Addr}
theorem kit_str (v : AV) : PySem.W.kitOne K (.type (avT v)) (.type "str") = some (isS v) := by cases v <;> rfl
def cNameA : Con := fun ds M Φ => ∃ v, ds = [avD v] ∧ shS v ∧ Φ (.bl (nmB v)) M
theorem ok_name_a (F : Fx w K mg) (gLE : ∃ t, mg "LETTERS" = some (.str "abcdefghijklmnopqrstuvwxyz" t)) (gML : ∃ t, mg "MOST_LETTERS" = some (.int 8 t)) : BodyOk P w K mg base "is_name" s_is_name ["value", "letter"] 1 0 cNameA := by
  intro f cdv A outer s H E hr ds M Φ hl hc
  obtain ⟨v, rfl, hs, hc⟩ := hc
  by_cases hx : ∃ x, v = .str x
  · obtain ⟨x, rfl⟩ := hx
    exact ok_is_name F gLE gML f cdv A outer s H E hr _ M Φ rfl ⟨x.cps.toList, by unfold tS; rw [S_toList, avD], hs x rfl, hc⟩
  · have e1 : isS v = false := by cases v <;> first | rfl | exact absurd ⟨_, rfl⟩ hx
    have e2 : nmB v = false := by cases v <;> first | rfl | exact absurd ⟨_, rfl⟩ hx
    rw [e2] at hc
    refine wss_cons (ws_if (wt_ww (ww_or (wt_not (wt_val (we_isi (F.bn _ (by decide +kernel)) (we_var 0 rfl (we_bty (F.bn _ (by decide +kernel)) rfl ⟨_, _, _, avTy M v, rfl, (by intro C h; cases h), kit_str v, _, rfl, ?_⟩))))))))
    rw [e1]
    exact wss_cons (ws_ret (we_bl (Lets.of hc)))
def cWordA : Con := fun ds M Φ => ∃ (v : AV) (zs : List Str), ds = [avD v, .tup (zs.map D.str)] ∧ Φ (.bl (wdB zs v)) M
theorem ok_word_a (F : Fx w K mg) : BodyOk P w K mg base "is_word" s_is_word ["value", "words"] 2 0 cWordA := by
  intro f cdv A outer s H E hr ds M Φ hl hc
  obtain ⟨v, zs, rfl, hc⟩ := hc
  refine wss_cons (ws_ret (we_and (we_isi (F.bn _ (by decide +kernel)) (we_var 0 rfl (we_bty (F.bn _ (by decide +kernel)) rfl ⟨_, _, _, avTy M v, rfl, (by intro C h; cases h), kit_str v, _, rfl, ?_⟩)))))
  by_cases hx : ∃ x, v = .str x
  · obtain ⟨x, rfl⟩ := hx
    exact we_one (we_inS (we_var 0 rfl (we_var 1 rfl ⟨x, zs, by rw [avD], .inl rfl, Lets.of hc⟩)))
  · have e1 : isS v = false := by cases v <;> first | rfl | exact absurd ⟨_, rfl⟩ hx
    have e2 : wdB zs v = false := by cases v <;> first | rfl | exact absurd ⟨_, rfl⟩ hx
    rw [e1]
    rw [e2] at hc
    exact Lets.of hc
def cTupA : Con := fun ds M Φ => ∃ v n, ds = [avD v, .int (n : Nat)] ∧ Φ (.bl (tupN v n)) M
theorem ok_tup_a (F : Fx w K mg) : BodyOk P w K mg base "is_tuple" s_is_tuple ["value", "many"] 2 0 cTupA := by
  intro f cdv A outer s H E hr ds M Φ hl hc
  obtain ⟨v, n, rfl, hc⟩ := hc
  refine wss_cons (ws_ret (we_and (we_isi (F.bn _ (by decide +kernel)) (we_var 0 rfl (we_bty (F.bn _ (by decide +kernel)) rfl ⟨_, _, _, avTy M v, rfl, (by intro C h; cases h), kit_tup v, _, rfl, ?_⟩)))))
  by_cases ht : ∃ l, v = .tup l
  · obtain ⟨l, rfl⟩ := ht
    refine we_one (we_eqS (we_len (F.bn _ (by decide +kernel)) (we_var 0 (by rw [avD]; rfl) ⟨_, lenT, we_var 1 rfl ⟨_, rfl, Lets.of ?_⟩⟩)))
    have e : decide ((((avsD l).length : Nat) : Int) = (n : Nat)) = tupN (.tup l) n := by
      show _ = decide (l.length = n)
      rw [avsD_len]; exact decide_eq_decide.mpr (by omega)
    rw [e]; exact hc
  · have e : tupN v n = false := by cases v <;> first | rfl | exact absurd ⟨_, rfl⟩ ht
    have e2 : isT v = false := by cases v <;> first | rfl | exact absurd ⟨_, rfl⟩ ht
    rw [e] at hc
    rw [e2]
    exact Lets.of hc
/-- is it a mark -/
def mkB (v : AV) : Bool := (isMk v).isSome
def cMarkA : Con := fun ds M Φ => ∃ v, ds = [avD v] ∧ (∀ l, v = .tup l → ∀ u ∈ l, shS u) ∧ Φ (.bl (mkB v)) M
theorem tup2 {v : AV} (h : tupN v 2 = true) : ∃ x y, v = .tup [x, y] := by
  cases v with
  | tup l =>
    have hl2 : l.length = 2 := of_decide_eq_true h
    match l, hl2 with
    | [x, y], _ => exact ⟨x, y, rfl⟩
  | _ => cases h
theorem mkB_two (x y : AV) : mkB (.tup [x, y]) = (nmB x && wdB wordsL y) := by
  unfold mkB isMk nmB wdB
  cases x <;> cases y <;> simp <;> split <;> simp_all
theorem mkB_not {v : AV} (h : tupN v 2 = false) : mkB v = false := by
  unfold mkB
  cases e : isMk v with
  | none => rfl
  | some m => rw [(isMk_some e).1] at h; cases h
theorem ok_mark_a {W : Addr} (F : Fx w K mg) (gP : ∃ t, mg "PAIR" = some (.int 2 t)) (gW : mg "WORDS" = some (.ref W)) (rW : ∀ M Z H, Rep K M Z H (.ref W) (.tup (wordsL.map D.str))) (F1 : Fc P w K mg base "is_tuple" [] 1 2 cTupA) (F2 : Fc P w K mg base "is_name" [] 1 1 cNameA) (F3 : Fc P w K mg base "is_word" [] 1 2 cWordA) :
    BodyOk P w K mg base "is_mark" s_is_mark ["value"] 1 1 cMarkA := by
  intro f cdv A outer s H E hr ds M Φ hl hc
  obtain ⟨v, rfl, hs, hc⟩ := hc
  refine wss_cons (ws_ret (we_and (we_call F1 (hr.mono (by omega)) (wa_cons (we_var 0 rfl (wa_cons (we_gint gP (wa_nil ⟨rfl, v, 2, rfl, _, rfl, ?_⟩))))))))
  cases ht : tupN v 2 with
  | false =>
    rw [mkB_not ht] at hc
    exact Lets.of hc
  | true =>
    obtain ⟨x, y, rfl⟩ := tup2 ht
    have eD : avD (.tup [x, y]) = .tup [avD x, avD y] := by simp only [avD, avsD]
    rw [eD]
    rw [mkB_two] at hc
    refine we_and (we_call F2 (hr.mono (by omega)) (wa_cons (we_ix (we_var 0 rfl (we_int ⟨0, _, rfl, ixT (atI_nat (j := 0) rfl), wa_nil ⟨rfl, x, rfl, hs _ rfl x (by simp), _, rfl, ?_⟩⟩)))))
    cases hx : nmB x with
    | false => rw [hx] at hc; exact Lets.of hc
    | true =>
      rw [hx, Bool.true_and] at hc
      exact we_one (we_call F3 (hr.mono (by omega)) (wa_cons (we_ix (we_var 0 rfl (we_int ⟨1, _, rfl, ixT (atI_nat (j := 1) rfl), wa_cons (we_gref gW rW (wa_nil ⟨rfl, y, _, rfl, Lets.of hc⟩))⟩)))))
end
end W
namespace DL
open PySem PySem.Spec PyProof.Rows L2
abbrev ltP (qs : List (Int × Int)) (i j : Nat) : Bool := PySem.W.dataLt ((qs.map DL.prP).getD i .none) ((qs.map DL.prP).getD j .none)
section
variable {X : Cx} {ρ : Rho} {M : Mp} {Φ : D → Mp → Prop} {Ψ : DE} {a b e o : Expr} {es : List Expr} {pos p apos : Pos} {ss : List Stmt}
inductive FzF (M M' : Mp) : List (Str × D) → List (Str × D) → Prop where
  | nil : FzF M M' [] []
  | cons {k : Str} {d d' : D} {r r' : List (Str × D)} : Fz M M' d d' → FzF M M' r r' → FzF M M' ((k, d) :: r) ((k, d') :: r')
theorem FzF.rep {K : PySem.W.Frag} {M M' : Mp} {Z : Zn} {H : Hp} (l : Les M' M) (w : Wd K M Z H) : ∀ {vs : List (Str × V)} {fs fs' : List (Str × D)}, FzF M M' fs fs' → RepF K M Z H vs fs → RepF K M' Z H vs fs'
  | _, _, _, .nil, .nil => .nil
  | _, _, _, .cons f t, .cons r u => .cons (f.rep l w r) (FzF.rep l w t u)
end
end DL
namespace W
open PySem PySem.Spec PyProof.Rows L2 DL SX PL SlX
theorem cut_fr1 {α : Type} (xs : List α) : DL.cutD xs (some 1) none = xs.drop 1 := by
  unfold DL.cutD
  rw [HT.sIx_none, show (1 : Int) = ((1 : Nat) : Int) from rfl, HT.sIx_nat]
  by_cases h : 1 ≤ xs.length
  · rw [Nat.min_eq_left h]
    exact List.take_of_length_le (by rw [List.length_drop]; exact Nat.le_refl _)
  · have : xs = [] := List.length_eq_zero_iff.mp (by omega)
    subst this; rfl
end W
namespace W
open PySem PySem.Spec PyProof.Rows L2 DL SX PL SlX
/-- its texts and tuples are not too long -/
inductive SmA : AV → Prop where
  | str {x : Str} (h : x.cps.toList.length ≤ 1000000) : SmA (.str x)
  | tup {l : List AV} (h : l.length ≤ 1000) (a : ∀ u ∈ l, SmA u) : SmA (.tup l)
  | oth {v : AV} (h1 : isS v = false) (h2 : isT v = false) : SmA v
theorem SmA.s {v : AV} (h : SmA v) : shS v := fun x e => by
  subst e
  cases h with
  | str h => exact h
  | oth h1 h2 => cases h1
theorem SmA.t {l : List AV} (h : SmA (.tup l)) : l.length ≤ 1000 ∧ ∀ u ∈ l, SmA u := by
  cases h with
  | tup h a => exact ⟨h, a⟩
  | oth h1 h2 => cases h2
section
variable {P : Program} {w : World} {K : PySem.W.Frag} {mg : Str → Option Value} {base : Heap} {C R U V : Addr}
abbrev nAscend : List Str := ["values", "one", "other"]
def cAscM : Con := fun ds M Φ => ∃ ms : List Mk, ds = [.lst (ms.map mkD)] ∧ ms.length ≤ 1000 ∧ Φ (.bl (asc ms)) M
theorem ok_asc_m (F : Fx w K mg) : BodyOk P w K mg base "do_ascend" s_do_ascend nAscend 1 0 cAscM := by
  intro g cdv A outer s H E hr ds M Φ hl hc
  obtain ⟨xs, rfl, hn, hc⟩ := hc
  have nd : nAscend.Nodup := by decide +kernel
  have hz : (zipD (xs.map mkD) (DL.cutD (xs.map mkD) (some 1) none)).length = (adj ltM xs).length := by
    simp only [zipD, adj, cut_fr1, List.length_map, List.length_zip, List.length_drop, List.length_zipWith]
  have hz2 : (adj ltM xs).length ≤ 1000 := by simp only [adj, List.length_zipWith]; omega
  refine wss_cons (ws_ret (we_all (F.bn _ (by decide +kernel)) (we_lc nd (blkOk_by (N := nAscend) (sc := defScope s_do_ascend) (own := [("one", 1), ("other", 2)]) (by decide +kernel)) (fun _ _ _ _ _ => pg_tup rfl (pgs_cons (pg_name (i := 1) nd rfl (Or.inl rfl)) (pgs_cons (pg_name (i := 2) nd rfl (Or.inl rfl)) pgs_nil)) rfl rfl) (gt_two (by decide) (by decide)) (fun _ _ _ _ _ => pts_nil) tk_nil (wi_zipL (F.bn _ (by decide +kernel)) (we_var 0 rfl (we_slice (we_var 0 rfl (we_int ⟨_, rfl, _, .inl ⟨_, rfl, rfl⟩, _, _, rfl, rfl, ?_⟩))))))))
  refine ⟨by rw [hz, sizeLine_eq]; omega, fun i acc M' => M' = M ∧ acc = ((adj ltM xs).take i).map D.bl, ⟨rfl, rfl⟩, ?_, ?_⟩
  · rintro i x acc M' hx ⟨rfl, rfl⟩
    obtain ⟨x1, x2, hx1, hx2, rfl⟩ := zipD_get hx
    rw [cut_fr1, List.getElem?_drop, List.getElem?_map] at hx2
    rw [List.getElem?_map] at hx1
    obtain ⟨u, hu, rfl⟩ := Option.map_eq_some_iff.mp hx1
    obtain ⟨v, hv, rfl⟩ := Option.map_eq_some_iff.mp hx2
    refine ⟨_, _, rfl, ?_⟩
    intro s1 H1 C' cl fp
    refine we_ltTx (by have := hr.un; show (A.deeper _).units + 64 < cLine; omega) (we_var 1 rfl (we_var 2 rfl ⟨mkL u, mkL v, rfl, rfl, ?_⟩))
    have e : (adj ltM xs)[i]? = some (ltM u v) := by
      unfold adj
      rw [List.getElem?_zipWith, hu, List.getElem?_drop, hv]
    exact ⟨rfl, by rw [take_snoc e, List.map_append]; rfl⟩
  · rintro acc M' ⟨rfl, rfl⟩
    rw [hz, List.take_length]
    exact ⟨_, rfl, Lets.of hc⟩
def cInt1 : Con := fun ds M Φ => ∃ v, ds = [avD v, .non, .non] ∧ Φ (.bl (intB v)) M
theorem ok_int1 (F : Fx w K mg) : BodyOk P w K mg base "is_integer" s_is_integer ["value", "low", "high"] 3 0 cInt1 := by
  intro f cdv A outer s H E hr ds M Φ hl hc
  obtain ⟨v, rfl, hc⟩ := hc
  refine wss_cons (ws_if (wt_ww (ww_or (wt_not (wt_val (we_isi (F.bn _ (by decide +kernel)) (we_var 0 rfl (we_bty (F.bn _ (by decide +kernel)) rfl ⟨_, _, _, avTy M v, rfl, (by intro C h; cases h), kit_int v, _, rfl, ?_⟩))))))))
  by_cases hi : ∃ i, v = .int i
  · obtain ⟨i, rfl⟩ := hi
    refine ww_or1 (wt_val (we_isi (F.bn _ (by decide +kernel)) (we_var 0 rfl (we_bty (F.bn _ (by decide +kernel)) rfl ⟨_, _, false, avTy M (.int i), rfl, (by intro C h; cases h), rfl, _, rfl, ?_⟩))))
    refine wss_nil (wss_cons (ws_ret (we_and (we_or (we_isN (we_var 1 rfl ⟨true, rfl, true, rfl, ?_⟩))))))
    exact we_one (we_or (we_isN (we_var 2 rfl ⟨true, rfl, Lets.of hc⟩)))
  by_cases hb : ∃ b, v = .bl b
  · obtain ⟨b, rfl⟩ := hb
    refine ww_or1 (wt_val (we_isi (F.bn _ (by decide +kernel)) (we_var 0 rfl (we_bty (F.bn _ (by decide +kernel)) rfl ⟨_, _, true, avTy M (.bl b), rfl, (by intro C h; cases h), rfl, _, rfl, ?_⟩))))
    exact wss_cons (ws_ret (we_bl (Lets.of hc)))
  · have e : isI v = false := by cases v <;> first | rfl | exact absurd ⟨_, rfl⟩ hi | exact absurd ⟨_, rfl⟩ hb
    have e2 : intB v = false := by cases v <;> first | rfl | exact absurd ⟨_, rfl⟩ hi
    rw [e]
    rw [e2] at hc
    exact wss_cons (ws_ret (we_bl (Lets.of hc)))
end
end W
namespace W
open PySem PySem.Spec PyProof.Rows L2 DL SX PL SlX
def ptsB (v : AV) : Bool := (ptsV v).isSome
def nzB : AV → Bool
  | .int i => decide (i ≠ 0)
  | _ => false
theorem isPt_two (x y : AV) : (isPt (.tup [x, y])).isSome = (mkB x && (intB y && nzB y)) := by
  cases y with
  | int i =>
    show (if i = 0 then none else (isMk x).map fun k => (k, i)).isSome = ((isMk x).isSome && (true && decide (i ≠ 0)))
    by_cases h : i = 0
    · rw [if_pos h, decide_eq_false (fun z => z h)]; simp
    · rw [if_neg h, decide_eq_true h]; cases isMk x <;> rfl
  | _ => show (none : Option Pt).isSome = (mkB x && (false && false)); simp
theorem isPt_not {v : AV} (h : tupN v 2 = false) : isPt v = none := by
  cases e : isPt v with
  | none => rfl
  | some m => rw [(isPt_some e).1] at h; cases h
theorem ptsB_tup {l : List AV} (h : l.all (fun x => (isPt x).isSome) = true) : ptsB (.tup l) = asc ((l.filterMap isPt).map Prod.fst) := by
  unfold ptsB ptsV
  dsimp only
  by_cases ha : asc ((l.filterMap isPt).map Prod.fst) = true
  · rw [if_pos ⟨h, ha⟩, ha]; rfl
  · rw [if_neg (fun z => ha z.2)]
    rw [Bool.not_eq_true] at ha
    rw [ha]; rfl
theorem ptsB_bad {l : List AV} {x : AV} (hx : x ∈ l) (h : (isPt x).isSome = false) : ptsB (.tup l) = false := by
  unfold ptsB ptsV
  dsimp only
  rw [if_neg]; rfl
  rintro ⟨h1, _⟩
  have := List.all_eq_true.mp h1 x hx
  rw [h] at this; cases this
section
variable {P : Program} {w : World} {K : PySem.W.Frag} {mg : Str → Option Value} {base : Heap} {C R U V : Addr}
abbrev nAreP : List Str := ["value", "part", "mark", "many"]
def cPartsA : Con := fun ds M Φ => ∃ v, ds = [avD v] ∧ SmA v ∧ Φ (.bl (ptsB v)) M
theorem ok_parts_a (F : Fx w K mg) (gP : ∃ t, mg "PAIR" = some (.int 2 t)) (F1 : Fc P w K mg base "is_tuple" [] 1 2 cTupA) (F2 : Fc P w K mg base "is_mark" [] 2 1 cMarkA) (F3 : Fc P w K mg base "is_integer" [.non, .non] 1 3 cInt1) (F4 : Fc P w K mg base "do_ascend" [] 1 1 cAscM) :
    BodyOk P w K mg base "are_parts" s_are_parts nAreP 1 2 cPartsA := by
  intro f cdv A outer s H E hr ds M Φ hl hc
  obtain ⟨v, rfl, sm, hc⟩ := hc
  have nd : nAreP.Nodup := by decide +kernel
  refine wss_cons (ws_if (wt_not (wt_val (we_isi (F.bn _ (by decide +kernel)) (we_var 0 rfl (we_bty (F.bn _ (by decide +kernel)) rfl ⟨_, _, _, avTy M v, rfl, (by intro C h; cases h), kit_tup v, _, rfl, ?_⟩))))))
  cases ht : isT v with
  | false =>
    have e : ptsB v = false := by cases v <;> first | rfl | cases ht
    rw [e] at hc
    exact wss_cons (ws_ret (we_bl (Lets.of hc)))
  | true =>
  obtain ⟨l, rfl⟩ : ∃ l, v = .tup l := by cases v <;> first | exact ⟨_, rfl⟩ | cases ht
  have eD : avD (.tup l) = .tup (l.map avD) := by rw [avD, avsD_map]
  obtain ⟨hlen, hsm⟩ := sm.t
  rw [eD]
  refine wss_nil (wss_cons (ws_for PassesOwn.never (wi_tup (we_var 0 rfl ⟨l.map avD, rfl, ?_⟩))))
  refine ⟨fun i ρ' M' => (∃ o1 o2 o3, ρ' = [some (.tup (l.map avD)), o1, o2, o3]) ∧ M' = M ∧ ∀ x ∈ l.take i, (isPt x).isSome = true, ⟨⟨none, none, none, rfl⟩, rfl, fun x hx => by simp at hx⟩, ?_, ?_⟩
  · rintro i x ρ' M' hx ⟨⟨o1, o2, o3, rfl⟩, rfl, hall⟩
    rw [List.getElem?_map] at hx
    obtain ⟨u, hu, rfl⟩ := Option.map_eq_some_iff.mp hx
    have hin := List.mem_of_getElem? hu
    have hsu := hsm u hin
    refine wg_name 1 ?_ nd
    refine wss_cons (ws_if (wt_ww (ww_or (wt_not (wt_val (we_call F1 (hr.mono (by omega)) (wa_cons (we_var 1 rfl (wa_cons (we_gint gP (wa_nil ⟨rfl, u, 2, rfl, _, rfl, ?_⟩)))))))))))
    cases h2 : tupN u 2 with
    | false =>
      rw [ptsB_bad hin (by rw [isPt_not h2]; rfl)] at hc
      exact wss_cons (ws_ret (we_bl (Lets.of hc)))
    | true =>
    obtain ⟨x, y, rfl⟩ := tup2 h2
    have eU : avD (.tup [x, y]) = .tup [avD x, avD y] := by simp only [avD, avsD]
    rw [eU]
    have sx := hsu.t.2 x (by simp)
    have ep := isPt_two x y
    refine ww_or (wt_not (wt_val (we_call F2 (hr.mono (by omega)) (wa_cons (we_ix (we_var 1 rfl (we_int ⟨0, _, rfl, ixT (atI_nat (j := 0) rfl), wa_nil ⟨rfl, x, rfl, fun l e z hz => ?_, _, rfl, ?_⟩⟩)))))))
    · subst e; exact (sx.t.2 z hz).s
    cases hm : mkB x with
    | false =>
      rw [hm, Bool.false_and] at ep
      rw [ptsB_bad hin ep] at hc
      exact wss_cons (ws_ret (we_bl (Lets.of hc)))
    | true =>
    refine ww_or (wt_not (wt_val (we_call F3 (hr.mono (by omega)) (wa_cons (we_ix (we_var 1 rfl (we_int ⟨1, _, rfl, ixT (atI_nat (j := 1) rfl), wa_nil ⟨rfl, y, rfl, _, rfl, ?_⟩⟩)))))))
    cases hi : intB y with
    | false =>
      rw [hi, hm, Bool.false_and, Bool.and_false] at ep
      rw [ptsB_bad hin ep] at hc
      exact wss_cons (ws_ret (we_bl (Lets.of hc)))
    | true =>
    obtain ⟨n, rfl⟩ : ∃ n, y = .int n := by cases y <;> first | exact ⟨_, rfl⟩ | cases hi
    refine ww_or1 (wt_eqS (we_ix (we_var 1 rfl (we_int ⟨1, _, rfl, ixT (atI_nat (j := 1) rfl), we_int ⟨decide (n = 0), by rw [avD]; rfl, ?_⟩⟩))))
    by_cases h0 : n = 0
    · rw [decide_eq_true h0]
      have ez : nzB (.int n) = false := decide_eq_false fun z => z h0
      rw [hm, hi, ez] at ep
      rw [ptsB_bad hin ep] at hc
      exact wss_cons (ws_ret (we_bl (Lets.of hc)))
    · rw [decide_eq_false h0]
      refine wss_nil (wss_nil ⟨⟨_, _, _, rfl⟩, rfl, fun z hz => ?_⟩)
      rw [take_snoc hu] at hz
      rcases List.mem_append.mp hz with hz | hz
      · exact hall z hz
      · rw [List.mem_singleton.mp hz, ep, hm, hi]
        exact decide_eq_true h0
  · rintro ρ' M' ⟨⟨o1, o2, o3, rfl⟩, rfl, hall⟩
    rw [List.length_map, List.take_length] at hall
    have ha : l.all (fun x => (isPt x).isSome) = true := List.all_eq_true.mpr hall
    obtain ⟨e1, -⟩ := all_pt ha
    rw [ptsB_tup ha] at hc
    generalize l.filterMap isPt = ps at e1 hc
    have e2 : l.map avD = ps.map ptD := by
      rw [e1, List.map_map]
      exact List.map_congr_left fun p _ => ptA_D p
    have e3 : ps.length = l.length := by rw [e1, List.length_map]
    rw [e2]
    refine wss_cons (ws_ret (we_call F4 (hr.mono (by omega)) (wa_cons (we_lc nd (blkOk_by (N := nAreP) (sc := defScope s_are_parts) (own := [("mark", 2), ("many", 3)]) (by decide +kernel)) (fun _ _ _ _ _ => pg_tup rfl (pgs_cons (pg_name (i := 2) nd rfl (Or.inl rfl)) (pgs_cons (pg_name (i := 3) nd rfl (Or.inl rfl)) pgs_nil)) rfl rfl) (gt_two (by decide) (by decide)) (fun _ _ _ _ _ => pts_nil) tk_nil (wi_tup (we_var 0 rfl ⟨_, rfl, ?_⟩))))))
    refine ⟨by rw [List.length_map, sizeLine_eq]; omega, fun i acc M2 => M2 = M' ∧ acc = ((ps.take i).map Prod.fst).map mkD, ⟨rfl, rfl⟩, ?_, ?_⟩
    · rintro i x acc M2 hx ⟨rfl, rfl⟩
      rw [List.getElem?_map] at hx
      obtain ⟨p, hp, rfl⟩ := Option.map_eq_some_iff.mp hx
      refine ⟨_, _, rfl, ?_⟩
      intro s1 H1 C' cl fp
      refine we_var 2 rfl ⟨rfl, ?_⟩
      rw [take_snoc hp, List.map_append, List.map_append]; rfl
    · rintro acc M2 ⟨rfl, rfl⟩
      rw [List.length_map, List.take_length]
      exact wa_nil ⟨rfl, ps.map Prod.fst, rfl, by rw [List.length_map]; omega, Lets.of hc⟩
end
end W
namespace DL
open PySem PySem.Spec PyProof.Rows L2
def putKD (kvs : List (Key × D)) (k : Key) (d : D) : List (Key × D) := if (kvs.any fun kv => decide (kv.1 = k)) = true then kvs.map (fun kv => if kv.1 = k then (kv.1, d) else kv) else kvs ++ [(k, d)]
section
variable {K : PySem.W.Frag} {M : Mp} {Z : Zn} {H : Hp} {k : Key} {v : V} {d : D}
theorem RepK.length : ∀ {vs : List (Key × V)} {ds : List (Key × D)}, RepK K M Z H vs ds → vs.length = ds.length
  | _, _, .nil => rfl
  | _, _, .cons r t => by rw [List.length_cons, List.length_cons, RepK.length t]
theorem RepK.any : ∀ {vs : List (Key × V)} {ds : List (Key × D)}, RepK K M Z H vs ds → (vs.any fun kv => decide (kv.1 = k)) = ds.any fun kv => decide (kv.1 = k)
  | _, _, .nil => rfl
  | _, _, .cons r t => by rw [List.any_cons, List.any_cons, RepK.any t]
theorem RepK.snoc (r : Rep K M Z H v d) : ∀ {vs : List (Key × V)} {ds : List (Key × D)}, RepK K M Z H vs ds → RepK K M Z H (vs ++ [(k, v)]) (ds ++ [(k, d)])
  | _, _, .nil => .cons r .nil
  | _, _, .cons r1 t => .cons r1 (RepK.snoc r t)
theorem RepK.repl (r : Rep K M Z H v d) : ∀ {vs : List (Key × V)} {ds : List (Key × D)}, RepK K M Z H vs ds → RepK K M Z H (vs.map fun kv => if kv.1 = k then (kv.1, v) else kv) (ds.map fun kv => if kv.1 = k then (kv.1, d) else kv)
  | _, _, .nil => .nil
  | _, _, .cons (k := j) r1 t => by
    rw [List.map_cons, List.map_cons]
    by_cases e : j = k
    · simp only [if_pos e]; exact .cons r (RepK.repl r t)
    · simp only [if_neg e]; exact .cons r1 (RepK.repl r t)
theorem RepK.put {vs : List (Key × V)} {ds : List (Key × D)} (r : Rep K M Z H v d) (t : RepK K M Z H vs ds) : RepK K M Z H (putK vs k v) (putKD ds k d) := by
  unfold putK putKD
  rw [t.any]
  split
  · exact t.repl r
  · exact t.snoc r
end
end DL
namespace DL
open PySem PySem.Spec PyProof.Rows L2
theorem RepK.get {K : PySem.W.Frag} {M : Mp} {Z : Zn} {H : Hp} : ∀ {vs : List (Key × V)} {ds : List (Key × D)} {i : Nat} {k : Key} {d : D}, RepK K M Z H vs ds → ds[i]? = some (k, d) → ∃ v, vs[i]? = some (k, v) ∧ Rep K M Z H v d
  | _, _, _, _, _, .nil, e => by simp at e
  | _, _, 0, _, _, .cons r _, e => by simp at e; obtain ⟨rfl, rfl⟩ := e; exact ⟨_, rfl, r⟩
  | _, _, i + 1, k, d, .cons _ t, e => by
    obtain ⟨u, h1, h2⟩ := RepK.get (i := i) (d := d) t (by simpa using e)
    exact ⟨u, by simpa using h1, h2⟩
section
variable {X : Cx} {ρ : Rho} {M : Mp} {Φ : D → Mp → Prop} {Θ : Bool → Mp → Prop} {Ψ : DE} {a b o e f i tg : Expr} {ss : List Stmt} {pos apos p : Pos}
theorem frz_x {Z : Zn} {H : Hp} {q : Addr} {u : MO} {x : HO} (w : Wd X.K M Z H) (hq : M q = some u) : Ext M Z H (mdel M q) (upd H q x) := ⟨fun b o h m => by
    have n : b ≠ q := fun e => by have m := m.1; rw [e, hq] at m; cases m
    exact ⟨by rw [upd_ne n]; exact h, by rw [mdel_ne n]; exact m.1, m.2⟩, fun b z => ⟨upd_ne (w.zneM hq b z), mdel_ne (w.zneM hq b z)⟩⟩
theorem frz_w {Z : Zn} {H : Hp} {q : Addr} {u : MO} {x : HO} (w : Wd X.K M Z H) (hq : M q = some u) : Wd X.K (mdel M q) Z (upd H q x) := ⟨fun c v e => by
    by_cases hc : c = q
    · subst hc; rw [mdel_same] at e; cases e
    · rw [mdel_ne hc] at e
      exact (w.1 c v e).step (frz_x w hq) (upd_ne hc), fun b z => by
    obtain ⟨m, v, h⟩ := w.2 b z
    exact ⟨by rw [mdel_ne (w.zneM hq b z)]; exact m, v, by rw [upd_ne (w.zneM hq b z)]; exact h⟩⟩
theorem set_self {α : Type} {l : List α} {i : Nat} {v : α} (hv : l[i]? = some v) : l.set i v = l := by
  apply List.ext_getElem?
  intro j
  by_cases hj : i = j
  · subst hj
    rw [List.getElem?_set_self (List.getElem?_eq_some_iff.mp hv).1, hv]
  · rw [List.getElem?_set_ne hj]
end
end DL
namespace DL
open PySem PySem.Spec PyProof.Rows L2
mutual
/-- plain data as a key -/
def nkP : PyData → Option NestedKey
  | .none => some .none
  | .bool b => some (.num (if b = true then 1 else 0))
  | .int i => some (.num i)
  | .str x => some (.text x)
  | .tuple ds => (nkPs ds).map .tup
  | _ => none
def nkPs : List PyData → Option (List NestedKey)
  | [] => some []
  | d :: ds => (nkP d).bind fun k => (nkPs ds).map (k :: ·)
end
mutual
theorem nk_py : ∀ {d : D} {k : NestedKey}, nkD d = some k → ∃ p, toPy d = some p ∧ nkP p = some k
  | .non, k, h => ⟨.none, by simp [toPy], by rw [nkD] at h; rw [nkP]; exact h⟩
  | .bl b, k, h => ⟨.bool b, by simp [toPy], by rw [nkD] at h; rw [nkP]; exact h⟩
  | .int i, k, h => ⟨.int i, by simp [toPy], by rw [nkD] at h; rw [nkP]; exact h⟩
  | .str x, k, h => ⟨.str x, by simp [toPy], by rw [nkD] at h; rw [nkP]; exact h⟩
  | .tup ds, k, h => by
    rw [nkD] at h
    obtain ⟨ks, h1, rfl⟩ := Option.map_eq_some_iff.mp h
    obtain ⟨ps, e1, e2⟩ := nks_py h1
    exact ⟨.tuple ps, by rw [toPy, e1]; rfl, by rw [nkP, e2]; rfl⟩
  | .lst _, _, h => by simp [nkD] at h
  | .rol _, _, h => by simp [nkD] at h
  | .dK _, _, h => by simp [nkD] at h
  | .dT _, _, h => by simp [nkD] at h
  | .ins _ _, _, h => by simp [nkD] at h
  | .ty _, _, h => by simp [nkD] at h
  | .fn _, _, h => by simp [nkD] at h
  | .ob _, _, h => by simp [nkD] at h
  | .key _, _, h => by simp [nkD] at h
  | .fig _ _, _, h => by simp [nkD] at h
  | .exc _ _, _, h => by simp [nkD] at h
  | .lam _ _ _ _ _, _, h => by simp [nkD] at h
  | .fdK _, _, h => by simp [nkD] at h
  | .fdN _ _, _, h => by simp [nkD] at h
  | .ptup _, _, h => by simp [nkD] at h
  | .slo _ _, _, h => by simp [nkD] at h
theorem nks_py : ∀ {ds : List D} {ks : List NestedKey}, nkDs ds = some ks → ∃ ps, toPys ds = some ps ∧ nkPs ps = some ks
  | [], ks, h => ⟨[], by simp [toPys], by rw [nkDs] at h; rw [nkPs]; exact h⟩
  | d :: ds, ks, h => by
    rw [nkDs] at h
    obtain ⟨k, h1, h2⟩ := Option.bind_eq_some_iff.mp h
    obtain ⟨r, h3, rfl⟩ := Option.map_eq_some_iff.mp h2
    obtain ⟨p, e1, e2⟩ := nk_py h1
    obtain ⟨ps, e3, e4⟩ := nks_py h3
    exact ⟨p :: ps, by rw [toPys, e1, e3]; rfl, by rw [nkPs, e2, e4]; rfl⟩
end
mutual
theorem nested_of {h : Heap} : ∀ {p : PyData} {u : Value} {as : List Addr} {k : NestedKey}, Reads h u p as → nkP p = some k → NestedIs h k u
  | .none, _, _, _, r, e => by cases r; rw [nkP] at e; cases e; exact .none
  | .bool b, _, _, _, r, e => by cases r; rw [nkP] at e; cases e; exact .bool rfl
  | .int i, _, _, _, r, e => by cases r; rw [nkP] at e; cases e; exact .int _ _
  | .str x, _, _, _, r, e => by cases r; rw [nkP] at e; cases e; exact .text _ _
  | .tuple ds, _, _, _, r, e => by
    rw [nkP] at e
    obtain ⟨ks, e1, rfl⟩ := Option.map_eq_some_iff.mp e
    cases r with
    | tuple h1 h2 h3 r => exact .tup h1 h2 h3 (nesteds_of r e1)
  | .list _, _, _, _, _, e => by simp [nkP] at e
  | .dict _, _, _, _, _, e => by simp [nkP] at e
theorem nesteds_of {h : Heap} : ∀ {ps : List PyData} {us : List Value} {as : List Addr} {ks : List NestedKey}, ReadsAll h us ps as → nkPs ps = some ks → NestedAll h ks us
  | [], _, _, _, r, e => by cases r; rw [nkPs] at e; cases e; exact .nil
  | p :: ps, _, _, _, r, e => by
    rw [nkPs] at e
    obtain ⟨k, e1, e2⟩ := Option.bind_eq_some_iff.mp e
    obtain ⟨r2, e3, rfl⟩ := Option.map_eq_some_iff.mp e2
    cases r with
    | cons ra rb => exact .cons (nested_of ra e1) (nesteds_of rb e3)
end
/-- the tuple at b is the key k -/
def KyN (K : PySem.W.Frag) (H : Hp) (k : NestedKey) (b : Addr) : Prop := k.depth ≤ 8 ∧ ∃ p, Dp K H (.ref b) p ∧ nkP p = some k
def KysN (K : PySem.W.Frag) (H : Hp) (xs : List (NestedKey × Addr × V)) : Prop := ∀ x ∈ xs, KyN K H x.1 x.2.1
def valN (xs : List (NestedKey × Addr × V)) (k : NestedKey) : Option V := (xs.find? fun x => decide (x.1 = k)).map (·.2.2)
def putN (xs : List (NestedKey × Addr × V)) (k : NestedKey) (b : Addr) (v : V) : List (NestedKey × Addr × V) := if (xs.any fun x => decide (x.1 = k)) = true then xs.map (fun x => if x.1 = k then (x.1, x.2.1, v) else x) else xs ++ [(k, b, v)]
abbrev PrN : NestedKey × Addr × V → NestedKey × Addr × Value → Prop := fun p q => p.1 = q.1 ∧ p.2.1 = q.2.1 ∧ RelV p.2.2 q.2.2
theorem paired_at {α β : Type} {F : α → β → Prop} {l : List α} {m : List β} (r : Paired F l m) : ∀ {j : Nat} {x : β}, m[j]? = some x → ∃ y, l[j]? = some y ∧ F y x := by
  induction r with
  | nil => intro j x h; simp at h
  | cons h t ih =>
    intro j x e
    cases j with
    | zero => simp at e; subst e; exact ⟨_, rfl, h⟩
    | succ j =>
      obtain ⟨y, h1, h2⟩ := ih (by simpa using e)
      exact ⟨y, by simpa using h1, h2⟩
section
variable {X : Cx} {pins : List (Addr × Obj)} {σ : L2.St} {H : Hp} {s : Shared} {a : Addr} {xs : List (NestedKey × Addr × V)}
theorem kyN_is (I : Inv X pins σ H s) {k : NestedKey} {b : Addr} (h : KyN X.K H k b) : (nestedKind X.prog X.w).is s.heap k b := by
  obtain ⟨hd, p, dp, e⟩ := h
  obtain ⟨as, r⟩ := Dp.reads I p (.ref b) (.ref b) dp rfl
  exact ⟨nested_of r e, hd⟩
theorem dn_ok {P : Program} {w : World} {H' : Hp} {h' : Heap} {ys : List (NestedKey × Addr × Value)} (z : xs.length ≤ sizeLine) (hs : (a == sysModules) = false) (pr : Paired PrN xs ys) (dd : h'.DictOfH (nestedKind P w) a ys) : ObjOk P w H' h' a (DNo w a xs) := by
  obtain ⟨o, es, ep, ho, hx, hd, he, _, hn⟩ := dd
  refine ⟨⟨z, hs, ys, pr, o, es, ep, ho, hx, hd, he, hn⟩, ⟨o, ho⟩, ?_⟩
  rintro h1 h2 ⟨z, hs, ys, pr, o, es, ep, ho, r⟩ k
  exact ⟨z, hs, ys, pr, o, es, ep, k o ho, r⟩
end
theorem relN_val {k : NestedKey} {xs : List (NestedKey × Addr × V)} {ys : List (NestedKey × Addr × Value)} (r : Paired PrN xs ys) : RelO (valN xs k) ((atKey ys k).map (·.2)) := by
  induction r with
  | nil => exact trivial
  | @cons x y xs ys h t ih =>
    obtain ⟨e1, e2, e3⟩ := h
    unfold valN atKey at ih ⊢
    by_cases e : x.1 = k
    · rw [List.find?_cons_of_pos (by simpa using e), List.find?_cons_of_pos (by rw [← e1]; simpa using e)]
      exact e3
    · rw [List.find?_cons_of_neg (by simpa using e), List.find?_cons_of_neg (by rw [← e1]; simpa using e)]
      exact ih
end DL
namespace DL
open PySem PySem.Spec PyProof.Rows L2
def valDN (kvs : List (D × D)) (k : NestedKey) : Option D := (kvs.find? fun q => decide (nkD q.1 = some k)).map (·.2)
def putDN (kvs : List (D × D)) (dk : D) (k : NestedKey) (d : D) : List (D × D) := if (kvs.any fun q => decide (nkD q.1 = some k)) = true then kvs.map (fun q => if nkD q.1 = some k then (q.1, d) else q) else kvs ++ [(dk, d)]
section
variable {K : PySem.W.Frag} {M : Mp} {Z : Zn} {H : Hp} {k : NestedKey} {d : D} {v : V}
theorem RepN.kys {xs : List (NestedKey × Addr × V)} {kvs : List (D × D)} (r : RepN K M Z H xs kvs) : KysN K H xs := by
  induction r using RepN.ind with
  | nil => exact fun x h => (by cases h)
  | cons hk dp rk r t ih =>
    intro x hx
    rcases List.mem_cons.mp hx with rfl | hx
    · obtain ⟨p, e1, e2⟩ := nk_py hk
      exact ⟨dp, p, rk.dp e1, e2⟩
    · exact ih x hx
theorem RepN.length {xs : List (NestedKey × Addr × V)} {kvs : List (D × D)} (r : RepN K M Z H xs kvs) : xs.length = kvs.length := by
  induction r using RepN.ind with
  | nil => rfl
  | cons hk dp rk r t ih => rw [List.length_cons, List.length_cons, ih]
theorem RepN.val {xs : List (NestedKey × Addr × V)} {kvs : List (D × D)} (r : RepN K M Z H xs kvs) : (valN xs k = none ∧ valDN kvs k = none) ∨ ∃ v d, valN xs k = some v ∧ valDN kvs k = some d ∧ Rep K M Z H v d := by
  induction r using RepN.ind with
  | nil => exact .inl ⟨rfl, rfl⟩
  | @cons j a v dk d xs kvs hk dp rk r t ih =>
    unfold valN valDN at ih ⊢
    by_cases e : j = k
    · subst e
      rw [List.find?_cons_of_pos (by simp), List.find?_cons_of_pos (by simpa using hk)]
      exact .inr ⟨_, _, rfl, rfl, r⟩
    · rw [List.find?_cons_of_neg (by simpa using e), List.find?_cons_of_neg (by rw [hk]; simpa using e)]
      exact ih
theorem RepN.any {xs : List (NestedKey × Addr × V)} {kvs : List (D × D)} (r : RepN K M Z H xs kvs) : (xs.any fun x => decide (x.1 = k)) = kvs.any fun q => decide (nkD q.1 = some k) := by
  induction r using RepN.ind with
  | nil => rfl
  | cons hk dp rk r t ih =>
    rw [List.any_cons, List.any_cons, ih, hk]
    congr 1
    exact decide_eq_decide.mpr ⟨fun e => congrArg some e, fun e => Option.some.inj e⟩
theorem RepN.put {xs : List (NestedKey × Addr × V)} {kvs : List (D × D)} {b : Addr} {dk : D} (hk : nkD dk = some k) (dp : k.depth ≤ 8) (rk : Rep K M Z H (.ref b) dk) (rv : Rep K M Z H v d) (r : RepN K M Z H xs kvs) : RepN K M Z H (putN xs k b v) (putDN kvs dk k d) := by
  unfold putN putDN
  rw [r.any]
  split
  · rename_i hh
    clear hh hk rk
    induction r using RepN.ind with
    | nil => exact .nil
    | @cons j a v0 dk0 d0 xs kvs hk0 dp0 rk0 r0 t ih =>
      rw [List.map_cons, List.map_cons]
      by_cases e : j = k
      · subst e
        rw [if_pos rfl, if_pos hk0]
        exact .cons hk0 dp0 rk0 rv ih
      · rw [if_neg e, if_neg (fun z => e (Option.some.inj (hk0.symm.trans z)))]
        exact .cons hk0 dp0 rk0 r0 ih
  · rename_i hh
    clear hh
    induction r using RepN.ind with
    | nil => exact .cons hk dp rk rv .nil
    | cons hk0 dp0 rk0 r0 t ih => exact .cons hk0 dp0 rk0 r0 ih
end
end DL
namespace DL
open PySem PySem.Spec PyProof.Rows L2
/-- the pairs as data -/
def itemsN (kvs : List (D × D)) : List D := kvs.map fun q => .tup [q.1, q.2]
theorem RepN.get {K : PySem.W.Frag} {M : Mp} {Z : Zn} {H : Hp} {xs : List (NestedKey × Addr × V)} {kvs : List (D × D)} (r : RepN K M Z H xs kvs) : ∀ {i : Nat} {q : D × D}, kvs[i]? = some q → ∃ k b v, xs[i]? = some (k, b, v) ∧ Rep K M Z H (.ref b) q.1 ∧ Rep K M Z H v q.2 := by
  induction r using RepN.ind with
  | nil => intro i q h; simp at h
  | cons hk dp rk r t ih =>
    intro i q h
    cases i with
    | zero => simp at h; subst h; exact ⟨_, _, _, rfl, rk, r⟩
    | succ i =>
      obtain ⟨k, b, v, h1, h2, h3⟩ := ih (by simpa using h)
      exact ⟨k, b, v, by simpa using h1, h2, h3⟩
end DL
namespace DL
open PySem PySem.Spec PyProof.Rows L2
section
variable {X : Cx} {pins : List (Addr × Obj)} {σ : L2.St} {H : Hp} {s : Shared} {a b : Addr} {xs : List (NestedKey × Addr × V)} {k : NestedKey} {A : Around} {E : Value → Shared → Prop}
theorem dnf_rd (I : Inv X pins σ H s) (h : Rd H a (DNo X.w a xs)) : DNf X.w a xs s.heap := by
  rcases h with h | ⟨o, h⟩
  · exact (I.hok a _ h).1
  · obtain ⟨_, h, _, _⟩ := I.hok a _ h
    exact h
theorem dn_atR (I : Inv X pins σ H s) (h : Rd H a (DNo X.w a xs)) (hk : KysN X.K H xs) : xs.length ≤ sizeLine ∧ (a == sysModules) = false ∧ ∃ ys, Paired PrN xs ys ∧ s.heap.DictOfH (nestedKind X.prog X.w) a ys := by
  obtain ⟨z, hs, ys, pr, o, es, ep, ho, hx, hd, he, hn⟩ := dnf_rd I h
  refine ⟨z, hs, ys, pr, o, es, ep, ho, hx, hd, he, fun y hy => ?_, hn⟩
  obtain ⟨i, hi⟩ := List.mem_iff_getElem?.mp hy
  obtain ⟨x, hxi, e1, e2, _⟩ := paired_at pr hi
  rw [← e1, ← e2]
  exact kyN_is I (hk x (List.mem_of_getElem? hxi))
theorem dn_getR {r : Value} {d : V} {Q : Value → Shared → Prop} (hu : A.units + 9 < cLine) (I : Inv X pins σ H s) (h : Rd H a (DNo X.w a xs)) (hk : KysN X.K H xs) (kb : KyN X.K H k b) (rd : RelV d r) (hq : ∀ w' s', Inv X pins σ H s' → RelV ((valN xs k).getD d) w' → Q w' s') :
    wpAny (model X.prog X.w) A (call (.builtin "dict.get") [.ref a, .ref b, r]) Q E s := by
  obtain ⟨z, hs, ys, pr, dd⟩ := dn_atR I h hk
  refine call_meetsIn PySem.F.slot_dict_get dd.typeIs PySem.F.entry_dict_get (PySem.F.args_dict_get_3 _ _ _) (meetsH_dict_get_default (nestedKind X.prog X.w) a b hs r) ⟨show A.in1.units + 8 < cLine by show A.units + 1 + 8 < cLine; omega, k, ys, kyN_is I kb, dd, hq _ _ (I.tok _) ?_⟩
  exact (relN_val pr).getD rd
theorem dnr_type (I : Inv X pins σ H s) (h : Rd H a (DNo X.w a xs)) : s.TypeIs (.ref a) "dict" ∧ ∃ ob, s.heap.get? a = some ob ∧ ob.dict = none := by
  obtain ⟨z, hs, ys, pr, o, es, ep, ho, hx, hd, he, hn⟩ := dnf_rd I h
  exact ⟨⟨o, ho, hx.1⟩, o, ho, hx.2.1⟩
end
section
variable {X : Cx} {o e f : Expr} {apos cpos pos : Pos} {td ty tx : TE}
def tGetNR (X : Cx) (td ty tx : TE) : TE := fun σ H Q => td σ H fun x H1 => ∃ a xs0, x = .ref a ∧ Rd H1 a (DNo X.w a xs0) ∧ ty σ H1 fun y H2 => tx σ H2 fun z H3 => ∃ b k xs, y = .ref b ∧ Rd H3 a (DNo X.w a xs) ∧ KysN X.K H3 xs ∧ KyN X.K H3 k b ∧ Q ((valN xs k).getD z) H3
theorem pe_getNR (hu : X.A.units + 9 < cLine) (ho : PE X o td) (he : PE X e ty) (hf : PE X f tx) (m : M2 X o "get" apos e f cpos) : PE X (.Call (.Attribute o "get" apos) [e, f] [] cpos) (tGetNR X td ty tx) := ⟨fun pins s σ H Q I0 h0 => by
  refine wpAny_Call_method m.base m.few m.line PySem.F.plainAttrs_dict PySem.F.slot_dict_get PySem.F.type_dict_get (thn (ho.run pins s σ H _ I0 h0) fun u s1 ⟨x, H1, I1, rx, a, xs0, ex, ha, q1⟩ => ?_)
  subst ex
  cases (show u = Value.ref a from rx)
  obtain ⟨t1, t2⟩ := dnr_type I1 ha
  refine ⟨t1, fun b q => by cases q; exact t2, ?_⟩
  rw [m.trees]
  refine Calls.callWith_builtin rfl (Calls.evalArgs_plain (Calls.spliced_cons (thn (he.run pins s1 σ H1 _ I1 q1) fun iv s2 ⟨y, H2, I2, ry, q2⟩ => ?_)))
  refine Calls.spliced_cons (thn (hf.run pins s2 σ H2 _ I2 q2) fun fv s3 ⟨z, H3, I3, rz, b, k, xs, ey, hb, hk, kb, q3⟩ => Calls.spliced_nil ?_)
  subst ey
  cases (show iv = Value.ref b from ry)
  exact dn_getR hu I3 hb hk kb rz fun w' s4 I4 rw' => ⟨_, H3, I4, rw', q3⟩⟩
end
def keysN (kvs : List (D × D)) : List D := kvs.map (·.1)
section
variable {X : Cx} {ρ : Rho} {M : Mp} {Φ : D → Mp → Prop} {Ψ : DE} {a b o e f tg : Expr} {ss : List Stmt} {pos apos : Pos}
theorem frz_rN {Z : Zn} {H : Hp} {q : Addr} {kvs : List (D × D)} {w0 : World} {od : Obj} {xs : List (NestedKey × Addr × V)} (w : Wd X.K M Z H) (hq : M q = some (.dN w0 kvs)) (r : RepN X.K M Z H xs kvs) : Rep X.K (mdel M q) Z (upd H q (.frz od (DNo w0 q xs))) (.ref q) (.fdN w0 kvs) :=
  .fdN (o := od) (xs := xs) upd_same ⟨mdel_same, fun z => by have := (w.2 q z).1; rw [hq] at this; cases this⟩ (r.monoI (frz_x w hq).i)
/-- a dict in a slot -/
theorem wss_frzN {i : Nat} {q : Addr} {kvs : List (D × D)} {w0 : World} (hi : ρ[i]? = some (some (.ob q))) (hq : M q = some (.dN w0 kvs)) (h : WSs X (ρ.set i (some (.fdN w0 kvs))) (mdel M q) ss Ψ) : WSs X ρ M ss Ψ := .mk fun {Z} σ H E en w k => by
  intro pins s I
  obtain ⟨v, hv, r⟩ := en.get hi
  cases r
  obtain ⟨xs, hH, rs⟩ := w.1 q _ hq
  obtain ⟨od, I2⟩ := I.lock hH trivial
  have en2 := (en.mono (frz_x (x := .frz od (DNo w0 q xs)) w hq)).set (frz_rN (od := od) w hq rs) i
  rw [set_self hv] at en2
  exact h.run σ _ E en2 (frz_w w hq) (k.step (frz_x w hq)) pins s I2
theorem key_at {K : PySem.W.Frag} {M : Mp} {Z : Zn} {H : Hp} {u : V} {y : D} {ds : List D} {k : NestedKey} (r2 : Rep K M Z H u y) (ey : y = .tup ds) (hk : nkD y = some k) (hd : k.depth ≤ 8) : ∃ b, u = V.ref b ∧ KyN K H k b := by
  obtain ⟨b, rfl⟩ : ∃ b, u = V.ref b := by
    rw [ey] at r2
    cases r2 <;> exact ⟨_, rfl⟩
  obtain ⟨p, e1, e3⟩ := nk_py hk
  exact ⟨b, rfl, hd, p, r2.dp e1, e3⟩
/-- d.get(k, x) -/
theorem we_getNR (hu : X.A.units + 9 < cLine) (h : WE X ρ M o fun x M1 => ∃ kvs, x = .fdN X.w kvs ∧ WE X ρ M1 e fun y M2 => WE X ρ M2 f fun z M3 => ∃ ds k, y = .tup ds ∧ nkD y = some k ∧ k.depth ≤ 8 ∧ Φ ((valDN kvs k).getD z) M3)
    (m : M2 X o "get" apos e f pos := by exact ⟨rfl, rfl, rfl, rfl⟩) : WE X ρ M (.Call (.Attribute o "get" apos) [e, f] [] pos) Φ := .mk fun {Z} σ H Q en w k =>
  eOf (pe_getNR hu pe_sem pe_sem pe_sem m) (h.run σ H _ en w fun v x H1 M1 e1 w1 r1 hz => by
    obtain ⟨kvs, rfl, hz⟩ := hz
    cases r1 with
    | @fdN q o0 _ xs _ hH mq rs =>
    refine ⟨q, xs, rfl, .inr ⟨_, hH⟩, hz.run σ H1 _ (en.mono e1) w1 fun u y H2 M2 e2 w2 r2 hz => hz.run σ H2 _ (en.mono (e1.trans e2)) w2 fun t z H3 M3 e3 w3 r3 hz3 => ?_⟩
    obtain ⟨ds, kk, ey, hk, hd, hz3⟩ := hz3
    have e23 := e2.trans e3
    have hH3 := (e23.1 _ _ hH mq).1
    have rs := rs.monoI e23.i
    obtain ⟨b, rfl, kb⟩ := key_at (r2.mono e3) ey hk hd
    refine ⟨b, kk, xs, rfl, .inr ⟨_, hH3⟩, rs.kys, kb, ?_⟩
    have ks := k.step ((e1.trans e2).trans e3)
    rcases rs.val (k := kk) with ⟨a1, a2⟩ | ⟨v, d, a1, a2, rv⟩
    · rw [a1]
      rw [a2] at hz3
      exact ks.now w3 r3 hz3
    · rw [a1]
      rw [a2] at hz3
      exact ks.now w3 rv hz3)
end
end DL
namespace DL
open PySem PySem.Spec PyProof.Rows L2
section
variable {P : Program} {w : World} {K : PySem.W.Frag} {mg : Str → Option Value} {base : Heap} {x qual : Str} {st : Stmt} {kws : List (Str × V)} {f : Addr} {fd : FuncData} {N ps : List Str} {k n : Nat} {c : Con} {cd : Addr}
/-- a body keeps a contract where nothing is being shown; its code object stands at cd -/
def BodyC (P : Program) (w : World) (K : PySem.W.Frag) (mg : Str → Option Value) (base : Heap) (qual : Str) (st : Stmt) (N : List Str) (n k : Nat) (cd : Addr) (c : Con) : Prop :=
  ∀ (f : Addr) (A : Around) (outer : List Env) (s : Shared) (H : Hp) (E : XK), (A.deeper (envOfC qual (defScope st) s.heap.objs.size f (.ref cd))).guards = some [] → Room k (A.deeper (envOfC qual (defScope st) s.heap.objs.size f (.ref cd))) → ∀ ds M Φ, ds.length = n → c ds M Φ →
      WSs (bx P w K mg base N qual (defScope st) f (.ref cd) A outer s H E) (start N ds) M (defBody st) { nx := fun _ M' => Φ .non M', rt := Lets Φ }
theorem fnC_ok {dvs : List V} (F : FunD K x qual (defArgs st) (defBody st) (defScope st) dvs kws f fd) (hcd : fd.code = .ref cd) (S : FnScope N ps (defScope st)) (h : BodyC P w K mg base qual st N ps.length k cd c) : FnG P w K mg base (k + 1) f fd ps (spD K ps.length c) := by
  obtain ⟨oc, od, dV, kV, doc, pm, an, cdv, ct, osl, rfl, lk, hq, _, _⟩ := F.ex
  obtain rfl : cdv = .ref cd := hcd
  have ln : ∀ vs H Q E, spD K ps.length c vs H Q E → vs.length = ps.length := fun vs H Q E q => by
    obtain ⟨ds, M, Z, Φ, hl, r, _⟩ := q
    rw [r.length, hl]
  refine ⟨ln, fun A outer s H args us vs Q E hg hr e0 hb rv hsp => ?_⟩
  have hlen := ln _ _ _ _ hsp
  have hK : K.In s.heap := e0.mod.kin.keeps fun b o z => (e0.bs b o z).1
  have hlim : s.heap.NoLimit := e0.mod.nolimit.keeps fun b o z => (e0.bs b o z).1
  have kinds : ∀ y ∈ ps.zip us, (defScope st).names.lookup y.1 = some .local ∨ ((defScope st).names.lookup y.1 = some .cell ∧ ((cellsFrom (s.heap.objs.size + 1) (defScope st).names []).lookup y.1).isSome = true) := fun y hy => by
    rcases S.par y.1 (List.of_mem_zip hy).1 with z | z
    · exact .inl z
    · exact .inr ⟨z, PySem.W.cellsFrom_some _ _ _ (.inl z)⟩
  refine codeAny_call_function hr.depth (hK _ _ lk) rfl S.co S.gen rfl (PySem.W.codeRec_of hK hq) (hb _ _ _ _ (wpAny_newFunctionEnv_cells S.kind kinds fun env he s1 xx => ?_))
  subst he
  refine ⟨hlim.keeps xx.toInCall.keep, codeAny_func ?_⟩
  obtain ⟨ds, M, Z, Φ, hl, r, wd, hc, kk⟩ := hsp
  have I : Inv (cxOf CX0 P w K mg base N qual (defScope st) f (.ref cd) A outer s H E) [] (L2.start N vs) H s1 := inv_start S hr.hd e0 hlen rv xx
  have body := (h f A outer s H E hg (hr.deeper _) ds M Φ hl hc).run (L2.start N vs) H { nx := fun _ H' => Q .non H', rt := Q } (env_start r) wd ⟨fun σ' ρ' H' M' x w' en z => kk _ .non H' M' x w' .non z, lets_k kk, fun _ _ _ _ _ _ _ z => z.elim, fun _ _ _ _ _ _ _ z => z.elim⟩
  have done : ∀ {σ' : L2.St} {H' : Hp} {v : V} {u : Value} {s' : Shared}, Inv (cxOf CX0 P w K mg base N qual (defScope st) f (.ref cd) A outer s H E) [] σ' H' s' → RelV v u → Q v H' → CE outer P w H s Q u s' := fun {σ' H' v u s'} J ru q => ⟨v, H', J.os, J.bare, J.base, J.hok, ru, q⟩
  refine wpAny_mono ((PSs.nox (pss_sem (X := bx P w K mg base N qual (defScope st) f (.ref cd) A outer s H E))).run [] s1 (L2.start N vs) H _ I body) (fun fl s' hs => ?_) fun e s' hs => hs
  cases fl with
  | ret u => obtain ⟨v, σ', H', J, ru, q⟩ := hs; exact done J ru q
  | next => obtain ⟨σ', H', J, q⟩ := hs; exact done (v := V.non) (u := Value.none) J rfl q
  | brk => obtain ⟨_, _, _, q⟩ := hs; exact q.elim
  | cont => obtain ⟨_, _, _, q⟩ := hs; exact q.elim
/-- the module's def x is the statement st, its code object stands at cd -/
structure Dc (K : PySem.W.Frag) (mg : Str → Option Value) (x : Str) (st : Stmt) (cd : Addr) : Prop where
  ex : ∃ (f : Addr) (fd : FuncData), FunD K x x (defArgs st) (defBody st) (defScope st) [] [] f fd ∧ mg x = some (.ref f) ∧ fd.code = .ref cd
theorem Dc.gc (D : Dc K mg x st cd) (S : FnScope N ps (defScope st))
    (hb : ∀ (kV doc pm : Value) (an : Option Addr) (cdv ct : Value) (us : List Value), us.length = ps.length → bindArgs (PySem.W.fnOf x x (defArgs st) (defBody st) (defScope st) .none kV doc pm an cdv ct) ⟨us, []⟩ = pure (ps.zip us))
    (h : BodyC P w K mg base x st N ps.length k cd c) : Gc P w K mg base x (k + 1) ps.length c := by
  obtain ⟨f, fd, F, hm, hcd⟩ := D.ex
  exact ⟨f, fd, ps, fnC_ok F hcd S h, hm, F.kp, F.bindsN hb⟩
end
/-- the def _law_caught -/
structure Ct (K : PySem.W.Frag) (mg : Str → Option Value) (x : Str) (st : Stmt) (a : Str) : Prop where
  df : Df K mg x st []
  bind : ∀ (kV doc pm : Value) (an : Option Addr) (cdv ct : Value) (us : List Value), us.length = 1 → bindArgs (PySem.W.fnOf x x (defArgs st) (defBody st) (defScope st) .none kV doc pm an cdv ct) ⟨us, []⟩ = pure ([a].zip us)
section
variable {X : Cx} {ρ : Rho} {M : Mp} {Φ : D → Mp → Prop} {e : Expr} {pos p : Pos} {x a : Str} {k : Nat} {B : Addr} {Ng : List Str} {st : Stmt}
/-- `_law_caught(e)`, e a lambda -/
theorem we_ct (T : Ct X.K X.mg x st a) (Sg : FnScope Ng [a] (defScope st)) (hG : ∀ (g : Addr) (cdg : Value), Gives X k B g x Ng (defScope st) cdg (defBody st)) (hr : Room (k + 2) X.A)
    (h : WE X ρ M e fun d M1 => ∃ params body scope, d = .lam (X.env.qual ++ "<lambda>") params body scope (cloFrom X.env.cells scope.names []) ∧ LamX.LamS X.env.scope scope ∧
      (∀ (q : Str) (cl : List (Str × Addr)) (pm cv ctv : Value), bindArgs (PySem.W.kla_fn "<lambda>" q params body scope cl pm cv ctv) ⟨[], []⟩ = pure []) ∧
      ∀ (f c' : Addr) (A : Around) (outer : List Env) (s : Shared) (H0 : Hp) (E : XK), Room k (A.deeper (LamX.lamEnv X scope s.heap.objs.size f c')) → WEx (LamX.lamCx X A outer s H0 E scope f c') ρ M1 body (fun _ M2 => Φ .non M2) (fun C fs M2 => PySem.W.exmOne X.K (.ref C) (.ref B) = some true ∧ Φ (.exc C fs) M2))
    (hg : Gl X x := by rfl) (hdb : (x == ("__debug__" : Str)) = false := by decide) (he : starEach [e] X.env = (false, eval e X.env) :: starEach [] X.env := by rfl) (hpl : (backTo pos (starEach [] X.env)).any (·.1) = false := by rfl) : WE X ρ M (.Call (.Name x p) [e] [] pos) Φ := by
  obtain ⟨g, fd, F, hm⟩ := T.df.ex
  obtain ⟨oc, od, dV, kV, doc, pm, an, cdg, ct, osl, rfl, lk, hcg, hdv, _⟩ := F.ex
  have hb := F.bindsN (ps := [a]) T.bind
  exact we_caught hm F.kp lk hcg hb Sg (hG g cdg) hr h hg hdb he hpl
end
end DL
namespace DL
open PySem PySem.Spec PyProof.Rows L2 SlX
/-- the slots, one stored -/
def putO (i : Nat) (d : D) (os : List (Option D)) : List (Option D) := (os ++ List.replicate (i + 1 - os.length) none).set i (some d)
section
variable {K : PySem.W.Frag} {M : Mp} {Z : Zn} {H : Hp}
theorem RepO.length : ∀ {vs : List (Option V)} {os : List (Option D)}, RepO K M Z H vs os → vs.length = os.length
  | _, _, .nil => rfl
  | _, _, .val _ t => by rw [List.length_cons, List.length_cons, t.length]
  | _, _, .any t => by rw [List.length_cons, List.length_cons, t.length]
theorem RepO.append : ∀ {vs ws : List (Option V)} {os us : List (Option D)}, RepO K M Z H vs os → RepO K M Z H ws us → RepO K M Z H (vs ++ ws) (os ++ us)
  | _, _, _, _, .nil, q => q
  | _, _, _, _, .val r t, q => .val r (t.append q)
  | _, _, _, _, .any t, q => .any (t.append q)
theorem RepO.nones : ∀ n : Nat, RepO K M Z H (List.replicate n none) (List.replicate n none)
  | 0 => .nil
  | n + 1 => .any (RepO.nones n)
theorem RepO.set {v : V} {d : D} (r : Rep K M Z H v d) : ∀ {vs : List (Option V)} {os : List (Option D)} (i : Nat), RepO K M Z H vs os → RepO K M Z H (vs.set i (some v)) (os.set i (some d))
  | _, _, _, .nil => .nil
  | _, _, 0, .val _ t => .val r t
  | _, _, 0, .any t => .val r t
  | _, _, i + 1, .val q t => .val q (RepO.set r i t)
  | _, _, i + 1, .any t => .any (RepO.set r i t)
theorem RepO.put {v : V} {d : D} {vs : List (Option V)} {os : List (Option D)} (r : Rep K M Z H v d) (i : Nat) (q : RepO K M Z H vs os) : RepO K M Z H (SlX.putS i v vs) (putO i d os) := by
  unfold SlX.putS putO
  rw [q.length]
  exact RepO.set r i (q.append (RepO.nones _))
theorem RepO.get : ∀ {vs : List (Option V)} {os : List (Option D)} {i : Nat} {d : D}, RepO K M Z H vs os → os[i]? = some (some d) → ∃ v, vs[i]? = some (some v) ∧ Rep K M Z H v d
  | _, _, _, _, .nil, e => by simp at e
  | _, _, 0, _, .val r _, e => by simp at e; subst e; exact ⟨_, rfl, r⟩
  | _, _, 0, _, .any _, e => by simp at e
  | _, _, i + 1, d, .val _ t, e => RepO.get (i := i) t (by simpa using e)
  | _, _, i + 1, d, .any t, e => RepO.get (i := i) t (by simpa using e)
end
def spS (K : PySem.W.Frag) (C : Addr) (n : Nat) (c : ConX) : Sp := fun vs H Q E => ∃ a dx ds M Z Φ Ξ, H a = some (.ins C dx []) ∧ ds.length = n ∧ Reps K M Z (slH H a C dx []) vs ds ∧ Wd K M Z (slH H a C dx []) ∧ c ds M Φ Ξ ∧ KE K M Z (slH H a C dx []) Φ Q ∧ KX K M Z (slH H a C dx []) Ξ E
section
variable {P : Program} {w : World} {K : PySem.W.Frag} {mg : Str → Option Value} {base : Heap} {x qual : Str} {st : Stmt} {dvs : List V} {kws : List (Str × V)} {f C : Addr} {fd : FuncData} {N ps : List Str} {k n : Nat} {c : ConX} {dd : List D}
/-- the slotted class of the name x, the contract of its __init__, which may raise -/
structure Ksx (P : Program) (w : World) (K : PySem.W.Frag) (mg : Str → Option Value) (base : Heap) (x : Str) (C : Addr) (dd : List D) (k n : Nat) (c : ConX) : Prop where
  at_ : mg x = some (.ref C)
  ex : ∃ (f : Addr) (fd : FuncData) (ps : List Str) (dvs : List V) (ds : List Value), FnOk P w K mg base (CX P w) k f fd ps (spS K C n c) ∧ Mk K C f ∧ Binds K fd ps ds ∧ Vals dvs ds ∧ ∀ M Z H, Reps K M Z H dvs dd
theorem Ksx.up {j : Nat} (F : Ksx P w K mg base x C dd j n c) (h : j ≤ k) : Ksx P w K mg base x C dd k n c := by
  obtain ⟨f, fd, ps, dvs, ds, G, r⟩ := F.ex
  exact ⟨F.at_, f, fd, ps, dvs, ds, G.mono h, r⟩
end
end DL
namespace DL
open PySem PySem.Spec PyProof.Rows L2
section
variable {X : Cx} {ρ : Rho} {M : Mp} {Φ : D → Mp → Prop} {a b o e f i tg : Expr} {ss : List Stmt} {pos apos p : Pos}
theorem Reps.erase {K : PySem.W.Frag} {M : Mp} {Z : Zn} {H : Hp} : ∀ {vs : List V} {ds : List D} (k : Nat), Reps K M Z H vs ds → Reps K M Z H (vs.eraseIdx k) (ds.eraseIdx k)
  | _, _, _, .nil => by simp; exact .nil
  | _, _, 0, .cons r t => t
  | _, _, k + 1, .cons r t => .cons r (Reps.erase k t)
end
end DL
namespace DL
open PySem PySem.Spec PyProof.Rows L2
mutual
inductive Pw : D → D → Prop where
  | refl (d : D) : Pw d d
  | ptup (ds : List D) : Pw (.ptup ds) (.tup ds)
  | tup {ds es : List D} (h : Pws ds es) : Pw (.tup ds) (.tup es)
inductive Pws : List D → List D → Prop where
  | nil : Pws [] []
  | cons {d e : D} {ds es : List D} (h : Pw d e) (t : Pws ds es) : Pws (d :: ds) (e :: es)
end
section
variable {K : PySem.W.Frag} {M : Mp} {Z : Zn} {H : Hp}
theorem wrP_wrT {a : Addr} {vs : List V} (h : WrP K a vs) : WrT K a vs := let ⟨o, its, n, h1, h2, _, h3, h4, h5⟩ := h; ⟨o, its, n, h1, h2, h3, h4, h5⟩
mutual
theorem Rep.pw : ∀ {d e : D} {v : V}, Pw d e → Rep K M Z H v d → Rep K M Z H v e
  | _, _, _, .refl _, r => r
  | _, _, _, .ptup ds, .ptup h hd m r => .tup (.inr ⟨_, h⟩) m r
  | _, _, _, .ptup ds, .ptupK h r => .tupK (wrP_wrT h) r
  | _, _, _, .tup w, .tup h m r => .tup h m (Reps.pw w r)
  | _, _, _, .tup w, .tupK h r => .tupK h (Reps.pw w r)
theorem Reps.pw : ∀ {ds es : List D} {vs : List V}, Pws ds es → Reps K M Z H vs ds → Reps K M Z H vs es
  | _, _, _, .nil, r => r
  | _, _, _, .cons w t, .cons r s => .cons (Rep.pw w r) (Reps.pw t s)
end
end
section
variable {X : Cx} {ρ : Rho} {M : Mp} {Φ : D → Mp → Prop} {e : Expr} {pos p : Pos}
theorem we_pw (h : WE X ρ M e fun d M1 => ∃ d', Pw d d' ∧ Φ d' M1) : WE X ρ M e Φ := .mk fun {Z} σ H Q en w k =>
  h.run σ H Q en w fun v d H1 M1 e1 w1 r1 ⟨d', hw, hz⟩ => k v d' H1 M1 e1 w1 (r1.pw hw) hz
theorem we_unp (h : WE X ρ M e fun d M1 => ∃ ds, d = .ptup ds ∧ Φ (.tup ds) M1) : WE X ρ M e Φ := we_pw (h.imp fun d M1 ⟨ds, e1, hz⟩ => ⟨_, by rw [e1]; exact .ptup ds, hz⟩)
/-- tuple(xs), xs a list: a plain tuple -/
theorem cr_tupP : CallR X (.type "tuple") (fun xs H Q => ∃ p ys, xs = [.ref p] ∧ SqL X.K H p ys ∧ ∀ l o, H l = none → o.dict = none → Q (.ref l) (upd H l (.frz o (.tup ys)))) := by
  intro pins s σ H xs us Q I r h
  obtain ⟨p, ys, rfl, hq, q⟩ := h
  obtain ⟨u, rfl, rx⟩ := vals1 r
  cases rx
  obtain ⟨its, r', pl, hz⟩ := I.list hq
  have hlen := r'.length
  refine call_tuple_list pl.isList (fun h' kp => ?_) (by simp only [List.size_toArray] <;> omega)
  have I1 : Inv X pins σ H { s with heap := h' } := I.kept (t' := s.toks) kp
  have I2 : Inv X pins σ (upd H h'.objs.size (.frz { cls := .type "tuple", data := .seq its.toArray } (.tup ys))) { s with heap := h'.push { cls := .type "tuple", data := .seq its.toArray } } :=
    I1.laid (t' := s.toks) (fun b o e => Heap.get?_push_of_some _ e) (Nat.le_refl _) (show ObjOk X.prog X.w _ _ _ (.frz _ (.tup ys)) from ⟨Heap.get?_push_size _ rfl, hz, its, r', IsTup.new _ _⟩)
  exact ⟨.ref h'.objs.size, _, I2, rfl, q _ _ (I1.hok.fresh (Nat.le_refl _)) rfl⟩
theorem we_tupleP (hm : X.mg "tuple" = none) (h : WE X ρ M e fun d M1 => ∃ ds, LstOf M1 d ds ∧ Φ (.ptup ds) M1) (hg : Gl X "tuple" := by rfl)
    (he : starEach [e] X.env = (false, eval e X.env) :: starEach [] X.env := by rfl) (hpl : (backTo pos (starEach [] X.env)).any (·.1) = false := by rfl) : WE X ρ M (.Call (.Name "tuple" p) [e] [] pos) Φ :=
  we_callTy cr_tupP hm (by decide +kernel) (wa_cons (h.imp fun d M1 h => wa_nil fun Z vs H Q w rr k => by
    obtain ⟨v, rfl, r⟩ := rr.one
    obtain ⟨ds, hl, h⟩ := h
    obtain ⟨q, vs, rfl, hq, rs⟩ := r.asLst w hl
    exact ⟨q, vs, rfl, hq, fun l o hp hd => k.new w hp (.ptup upd_same hd (w.fresh hp) (rs.mono (Ext.new w hp))) h⟩) he) hg (he := he) (hpl := hpl)
end
def PlT (K : PySem.W.Frag) (H : Hp) (a : Addr) (vs : List V) : Prop := (∃ o, H a = some (.frz o (.tup vs)) ∧ o.dict = none) ∨ WrP K a vs
section
variable {X : Cx} {pins : List (Addr × Obj)} {σ : L2.St} {H : Hp} {s : Shared}
theorem plT_at {a : Addr} {vs : List V} (I : Inv X pins σ H s) (h : PlT X.K H a vs) : ∃ its : Array Value, Vals vs its.toList ∧ PlainSeq "tuple" s.heap a its ∧ its.size ≤ sizeLine := by
  rcases h with ⟨o, h, hd⟩ | ⟨o, its, n, h, hc, hd, hdt, hz, rv⟩
  · obtain ⟨hg, hz, its, rv, o', hg', hc, n, hdt⟩ := I.hok a _ h
    rw [hg] at hg'
    cases hg'
    exact ⟨its.toArray, by simpa using rv, ⟨o, n, hg, hc, hd, hdt⟩, by rw [List.size_toArray, ← rv.length]; exact hz⟩
  · exact ⟨its, rv, ⟨o, n, I.kIn _ _ h, hc, hd, hdt⟩, hz⟩
theorem pairsN_of (I : Inv X pins σ H s) : ∀ {Ts : List Addr} {xs : List (NestedKey × Addr × V)}, Paired (fun T (x : NestedKey × Addr × V) => SqT X.K H T [V.ref x.2.1, x.2.2]) Ts xs →
    ∃ prs : List (NestedKey × Addr × Value), Paired PrN xs prs ∧ prs.length = Ts.length ∧ ∀ (j : Nat) (q : NestedKey × Addr × Value), prs[j]? = some q → ∃ T, Ts[j]? = some T ∧ s.heap.IsTuple T #[.ref q.2.1, q.2.2]
  | _, _, .nil => ⟨[], .nil, rfl, fun j q e => by simp at e⟩
  | _, _, .cons (a := T) (b := x) h t => by
    obtain ⟨prs, r, hl, hp⟩ := pairsN_of I t
    obtain ⟨its, rv, ht, _⟩ := I.tuple h
    obtain ⟨u, y, ei, ru, ry⟩ := vals2 rv
    subst ei
    cases (show u = Value.ref x.2.1 from ru)
    refine ⟨(x.1, x.2.1, y) :: prs, .cons ⟨rfl, rfl, ry⟩ r, by rw [List.length_cons, List.length_cons, hl], fun j q e => ?_⟩
    cases j with
    | zero =>
      have e' : (x.1, x.2.1, y) = q := Option.some.inj e
      subst e'
      exact ⟨T, rfl, ht⟩
    | succ j =>
      obtain ⟨b, e1, e2⟩ := hp j q (by simpa using e)
      exact ⟨b, by simpa using e1, e2⟩
theorem paired_fst {xs : List (NestedKey × Addr × V)} {prs : List (NestedKey × Addr × Value)} (r : Paired PrN xs prs) : xs.map (·.1) = prs.map (·.1) := by
  induction r with
  | nil => rfl
  | cons h t ih => rw [List.map_cons, List.map_cons, ih, h.1]
theorem refs_is : ∀ {ps : List Addr} {us : List Value}, Vals (ps.map V.ref) us → us = ps.map Value.ref
  | [], _, .nil => rfl
  | p :: ps, _, .cons h t => by
    cases h
    rw [List.map_cons, ← refs_is t]
def rDictPN (K : PySem.W.Frag) (w : World) : List V → Hp → VK → Prop := fun vs H Q => ∃ (a : Addr) (Ts : List Addr) (xs : List (NestedKey × Addr × V)), vs = [.ref a] ∧ (SqL K H a (Ts.map V.ref) ∨ PlT K H a (Ts.map V.ref)) ∧
  Paired (fun T (x : NestedKey × Addr × V) => SqT K H T [V.ref x.2.1, x.2.2]) Ts xs ∧ KysN K H xs ∧ (xs.map (·.1)).Nodup ∧ ∀ p, H p = none → Q (.ref p) (upd H p (DNo w p xs))
theorem cr_dictPN (hc : X.calm = true) (hu : X.A.units + 64 < cLine) : CallR X (.type "dict") (rDictPN X.K X.w) := by
  intro pins s σ H vs us Q I r h
  obtain ⟨a, Ts, xs, rfl, hq, hp, hk, nd, q⟩ := h
  obtain ⟨u, rfl, rx⟩ := vals1 r
  cases rx
  obtain ⟨prs, pr, hl, hpr⟩ := pairsN_of I hp
  have lx : xs.length = prs.length := Paired.length pr
  have hN : H s.heap.objs.size = none := I.hok.fresh (Nat.le_refl _)
  have hm : (s.heap.objs.size == sysModules) = false := beq_eq_false_iff_ne.mpr (Nat.ne_of_gt I.big)
  have nd2 : (prs.map (·.1)).Nodup := by rw [← paired_fst pr]; exact nd
  have iz : ∀ (its : Array Value), Vals (Ts.map V.ref) its.toList → PairItems s.heap its (fun j => Ts.getD j 0) (prs.map fun q => (Value.ref q.2.1, q.2.2)) := fun its rv => by
    have e := refs_is rv
    refine ⟨by rw [← Array.length_toList, e, List.length_map, List.length_map, hl], fun j k v hj => ?_⟩
    rw [List.getElem?_map] at hj
    obtain ⟨y, hy, ey⟩ := Option.map_eq_some_iff.mp hj
    cases ey
    obtain ⟨T, hT, ht⟩ := hpr j y hy
    have eT : Ts.getD j 0 = T := by rw [List.getD_eq_getElem?_getD, hT]; rfl
    refine ⟨?_, ?_⟩
    · show its[j]? = some (Value.ref (Ts.getD j 0))
      rw [← Array.getElem?_toList, e, List.getElem?_map, hT, eT]; rfl
    · show PairAt s.heap (Ts.getD j 0) _ _
      rw [eT]; exact .inl ht
  have hv : PairsHaveH (nestedKind X.prog X.w) (prs.map fun q => (Value.ref q.2.1, q.2.2)).length (PairRel (prs.map fun q => (Value.ref q.2.1, q.2.2))) prs := by
    refine ⟨by rw [List.length_map], fun i key v hi => ?_⟩
    have hi : (prs.map fun q => (Value.ref q.2.1, q.2.2))[i]? = some (key, v) := hi
    rw [List.getElem?_map] at hi
    obtain ⟨⟨k, b, y⟩, hy, ey⟩ := Option.map_eq_some_iff.mp hi
    cases ey
    exact ⟨k, b, hy, rfl⟩
  have hst : KeysStay (nestedKind X.prog X.w) s.heap s.heap.objs.size [] prs := fun h' kp x hx => by
    obtain ⟨i, hi⟩ := List.mem_iff_getElem?.mp hx
    obtain ⟨y, hyi, e1, e2, _⟩ := paired_at pr hi
    have z := kyN_is I (hk y (List.mem_of_getElem? hyi))
    rw [e1, e2] at z
    exact nestedKind_stays.stays (fun b o _ _ e _ => kp b o (Nat.ne_of_lt (Heap.lt_size e)) (fun z => nomatch z) e) z
  have fin : ∀ (h' : Heap) (tk : Nat), prs.length ≤ sizeLine → h'.DictOfH (nestedKind X.prog X.w) s.heap.objs.size (storedAllH [] prs) → (∀ b o, b ∉ ([] : List Addr) → s.heap.get? b = some o → h'.get? b = some o) → EP X pins σ Q (.ref s.heap.objs.size) { s with heap := h', toks := tk } := fun h' tk hz dd kp => by
    rw [storedAllH_nil_of_nodup prs nd2] at dd
    exact ⟨.ref s.heap.objs.size, _, I.laid (t' := tk) (o := DNo X.w s.heap.objs.size xs) (fun b o e => kp b o (fun z => nomatch z) e) (Nat.le_refl _) (dn_ok (by omega) hm pr dd), rfl, q _ hN⟩
  have rm : (nestedKind X.prog X.w).room X.A.in1.in1 := show X.A.in1.in1.units + 8 < cLine by show X.A.units + 1 + 1 + 8 < cLine; omega
  rcases hq with hq | hq
  · obtain ⟨its, rv, ⟨o, n, ho, hcl, hd, hdat⟩, hz⟩ := I.list hq
    have hz2 : prs.length ≤ sizeLine := by rw [List.length_map] at hz; omega
    exact call_dict_pairsH (PairArg.list a its.toArray (fun j => Ts.getD j 0) (prs.map fun q => (Value.ref q.2.1, q.2.2))) (I.ok.hd hc) rm ⟨⟨o, n, ho, hcl, hd, hdat⟩, iz its.toArray (by simpa using rv)⟩ hv hst (by rw [List.length_map]; exact hz2) fun h' tk dd kp => fin h' tk hz2 dd kp
  · obtain ⟨its, rv, pl, hz⟩ := plT_at I hq
    have hz2 : prs.length ≤ sizeLine := by
      have := refs_is rv
      rw [← Array.length_toList, this, List.length_map] at hz; omega
    exact call_dict_pairsH (PairArg.tuple a its (fun j => Ts.getD j 0) (prs.map fun q => (Value.ref q.2.1, q.2.2))) (I.ok.hd hc) rm ⟨pl, iz its rv⟩ hv hst (by rw [List.length_map]; exact hz2) fun h' tk dd kp => fin h' tk hz2 dd kp
end
def KeyD (d : D) : Prop := ∃ ds k, d = .tup ds ∧ nkD d = some k ∧ k.depth ≤ 8
theorem reps_itemsN {K : PySem.W.Frag} {M : Mp} {Z : Zn} {H : Hp} : ∀ {kvs : List (D × D)} {vs : List V}, Reps K M Z H vs (itemsN kvs) → (∀ q ∈ kvs, KeyD q.1) →
    ∃ (Ts : List Addr) (xs : List (NestedKey × Addr × V)), vs = Ts.map V.ref ∧ Paired (fun T (x : NestedKey × Addr × V) => SqT K H T [V.ref x.2.1, x.2.2]) Ts xs ∧ RepN K M Z H xs kvs
  | [], _, .nil, _ => ⟨[], [], rfl, .nil, .nil⟩
  | (dk, d) :: kvs, _, .cons r t, h => by
    obtain ⟨Ts, xs, rfl, h2, h3⟩ := reps_itemsN t fun q hq => h q (List.mem_cons_of_mem _ hq)
    obtain ⟨T, us, rfl, hq, rs⟩ := r.asTup
    obtain ⟨v1, v2, rfl, r1, r2⟩ := rs.two
    obtain ⟨ds, k, e1, e2, e3⟩ := h _ List.mem_cons_self
    have e1 : dk = .tup ds := e1
    obtain ⟨b, rfl⟩ : ∃ b, v1 = V.ref b := by
      rw [e1] at r1
      cases r1 <;> exact ⟨_, rfl⟩
    exact ⟨T :: Ts, (k, b, v2) :: xs, rfl, .cons hq h2, .cons e2 e3 r1 r2 h3⟩
theorem RepN.fst {K : PySem.W.Frag} {M : Mp} {Z : Zn} {H : Hp} {xs : List (NestedKey × Addr × V)} {kvs : List (D × D)} (r : RepN K M Z H xs kvs) : kvs.map (fun q => nkD q.1) = xs.map fun x => some x.1 := by
  induction r using RepN.ind with
  | nil => rfl
  | cons hk dp rk r t ih => rw [List.map_cons, List.map_cons, ih, hk]
section
variable {X : Cx} {ρ : Rho} {M : Mp} {Φ : D → Mp → Prop} {e : Expr} {pos p : Pos}
/-- dict(e), e a list or a plain tuple of pairs with unlike keys; it may be changed -/
theorem we_dictPN (hu : X.A.units + 64 < cLine) (hm : X.mg "dict" = none) (h : WE X ρ M e fun d M1 => ∃ kvs, (LstOf M1 d (itemsN kvs) ∨ d = .ptup (itemsN kvs)) ∧ (∀ q ∈ kvs, KeyD q.1) ∧ (kvs.map fun q => nkD q.1).Nodup ∧ ∀ q, M1 q = none → Φ (.ob q) (mset M1 q (.dN X.w kvs))) (hc : X.calm = true := by rfl) (hg : Gl X "dict" := by rfl)
    (he : starEach [e] X.env = (false, eval e X.env) :: starEach [] X.env := by rfl) (hpl : (backTo pos (starEach [] X.env)).any (·.1) = false := by rfl) : WE X ρ M (.Call (.Name "dict" p) [e] [] pos) Φ :=
  we_callTy (cr_dictPN hc hu) hm (by decide +kernel) (wa_cons (h.imp fun d M1 hz => wa_nil fun Z vs H Q w rr k => by
    obtain ⟨kvs, hl, hk, nd, hz⟩ := hz
    obtain ⟨v, rfl, r1⟩ := rr.one
    have key : ∃ q us, v = .ref q ∧ (SqL X.K H q us ∨ PlT X.K H q us) ∧ Reps X.K M1 Z H us (itemsN kvs) := by
      rcases hl with hl | rfl
      · obtain ⟨q, us, rfl, hq, rs⟩ := r1.asLst w hl
        exact ⟨q, us, rfl, .inl hq, rs⟩
      · cases r1 with
        | ptup h hd m r => exact ⟨_, _, rfl, .inr (.inl ⟨_, h, hd⟩), r⟩
        | ptupK h r => exact ⟨_, _, rfl, .inr (.inr h), r⟩
    obtain ⟨q, us, rfl, hq, rs⟩ := key
    obtain ⟨Ts, xs, rfl, h2, h3⟩ := reps_itemsN rs hk
    have nd2 : (xs.map (·.1)).Nodup := by
      rw [h3.fst] at nd
      exact List.pairwise_map.mpr ((List.pairwise_map.mp nd).imp fun h e => h (congrArg some e))
    refine ⟨q, Ts, xs, rfl, hq, h2, h3.kys, nd2, fun t ht => ?_⟩
    have x3 := Ext.newM (u := MO.dN X.w kvs) (o := DNo X.w t xs) w ht
    exact k _ (.ob t) _ _ x3 (w.newM ht ⟨xs, upd_same, h3.monoI x3.i⟩) (.ob t) (hz t (w.fresh ht).1)) he) hg (he := he) (hpl := hpl)
end
end DL
namespace W
open PySem PySem.Spec PyProof.Rows L2 DL SX PL SlX
def mkP (m : Mk) : PyData := .tuple [.str m.1, .str m.2]
def ptP (p : Pt) : PyData := .tuple [mkP p.1, .int p.2]
theorem eqv_mk (a b : Mk) : PyData.eqv (mkP a) (mkP b) = decide (a = b) := by
  simp only [mkP, PyData.eqv, PyData.eqvAll, Bool.and_true]
  show (decide (a.1 = b.1) && decide (a.2 = b.2)) = _
  rw [← Bool.decide_and]
  exact decide_eq_decide.mpr ⟨fun h => Prod.ext h.1 h.2, fun h => by rw [h]; exact ⟨rfl, rfl⟩⟩
theorem letter_lt {c : Nat} (h : letter c = true) : c < 0x110000 := by
  unfold letter at h
  rw [Bool.and_eq_true] at h
  have := of_decide_eq_true h.2
  omega
theorem fmN_all {x : Str} (h : fmN x = true) : (∀ c ∈ x.cps.toList, c < 0x110000) ∧ x.cps.toList.length ≤ 8 := by
  unfold fmN isNameL at h
  rw [Bool.and_eq_true, Bool.and_eq_true] at h
  exact ⟨fun c hc => letter_lt (List.all_eq_true.mp h.2.2 c hc), of_decide_eq_true h.2.1⟩
theorem words_all {x : Str} (h : x ∈ wordsL) : (∀ c ∈ x.cps.toList, c < 0x110000) ∧ x.cps.toList.length ≤ 9 := by
  simp only [wordsL, List.mem_cons, List.not_mem_nil, or_false] at h
  have key : ∀ z : Str, (z.cps.toList.all fun c => decide (c < 0x110000)) = true → z.cps.toList.length ≤ 9 → (∀ c ∈ z.cps.toList, c < 0x110000) ∧ z.cps.toList.length ≤ 9 := fun z h1 h2 => ⟨fun c hc => of_decide_eq_true (List.all_eq_true.mp h1 c hc), h2⟩
  rcases h with rfl | rfl | rfl | rfl | rfl <;> exact key _ (by decide +kernel) (by decide +kernel)
theorem sm_pt {p : Pt} (h : fmN p.1.1 = true ∧ p.1.2 ∈ wordsL ∧ p.2 ≠ 0) : SmA (ptA p) := by
  refine .tup (by show 2 ≤ 1000; decide) fun u hu => ?_
  rcases List.mem_cons.mp hu with rfl | hu
  · refine .tup (by show 2 ≤ 1000; decide) fun u hu => ?_
    rcases List.mem_cons.mp hu with rfl | hu
    · exact .str (Nat.le_trans (fmN_all h.1).2 (by decide))
    · rw [List.mem_singleton.mp hu]
      exact .str (Nat.le_trans (words_all h.2.1).2 (by decide))
  · rw [List.mem_singleton.mp hu]
    exact .oth rfl rfl
theorem sm_pts {ps : List Pt} (h : Pts ps) (hl : ps.length ≤ 1000) : SmA (.tup (ps.map ptA)) := .tup (by rw [List.length_map]; exact hl) fun u hu => by
  obtain ⟨p, hp, rfl⟩ := List.mem_map.mp hu
  exact sm_pt (h.ok p hp)
theorem ptsB_of {ps : List Pt} (h : Pts ps) : ptsB (.tup (ps.map ptA)) = true := by unfold ptsB; rw [ptsV_of h]; rfl
def fmF (ps : List Pt) (n : Int) : List (Str × D) := [("own_parts", .ptup (ps.map ptD)), ("own_number", .int n)]
def fmD (R : Addr) (ps : List Pt) (n : Int) : D := .ins R (fmF ps n)
structure Fo (K : PySem.W.Frag) (mg : Str → Option Value) (R : Addr) : Prop where
  at_ : mg "Form" = some (.ref R)
  cl : Cls K R
  na : ∀ f, f ∈ (["own_parts", "own_number"] : List Str) → NoAttr K R f
section
variable {P : Program} {w : World} {K : PySem.W.Frag} {mg : Str → Option Value} {base : Heap} {C R U V : Addr}
abbrev nFm : List Str := ["self", "parts", "number"]
theorem fput1 {x : D} : putD "own_parts" x [] = ([("own_parts", x)] : List (Str × D)) := rfl
theorem fput2 {x y : D} : putD "own_number" y ([("own_parts", x)] : List (Str × D)) = ([("own_parts", x), ("own_number", y)] : List (Str × D)) := by
  rw [putD, if_neg (by decide +kernel)]; rfl
def cFm (R : Addr) : Con := fun ds M Φ => ∃ a ps n, ds = [.ob a, .ptup (ps.map ptD), .int n] ∧ Pts ps ∧ ps.length ≤ 1000 ∧ M a = some (.ins R []) ∧ Φ .non (mset M a (.ins R (fmF ps n)))
theorem ok_fm (F : Fx w K mg) (X : Fo K mg R) (F1 : Fc P w K mg base "are_parts" [] 3 1 cPartsA) (F2 : Fc P w K mg base "is_integer" [.non, .non] 1 3 cInt1) : BodyOk P w K mg base "Form.__init__" s_Form___init__ nFm 3 3 (cFm R) := by
  intro f cdv A outer s H E hr ds M Φ hl hc
  obtain ⟨a, ps, n, rfl, hp, hlen, hM, hc⟩ := hc
  refine wss_cons (ws_if (wt_not (wt_val (we_call F1 (hr.mono (by omega)) (wa_cons (we_unp (we_var 1 rfl ⟨_, rfl, wa_nil ⟨rfl, .tup (ps.map ptA), by rw [pts_D]; rfl, sm_pts hp hlen, _, rfl, ?_⟩⟩)))))))
  rw [ptsB_of hp]
  refine wss_nil (wss_cons (ws_if (wt_not (wt_val (we_call F2 (hr.mono (by omega)) (wa_cons (we_var 2 rfl (wa_nil ⟨rfl, .int n, by rw [avD]; rfl, true, rfl, wss_nil ?_⟩))))))))
  refine wss_cons (ws_fld (C := R) (we_var 1 rfl (we_var 0 rfl ⟨a, _, rfl, hM, X.cl, X.na _ (by decide +kernel), by decide, ?_⟩)))
  rw [fput1]
  refine wss_cons (ws_fld (C := R) (we_var 2 rfl (we_var 0 rfl ⟨a, _, rfl, mset_same, X.cl, X.na _ (by decide +kernel), by show 1 < 1000; decide, ?_⟩)))
  rw [mset_mset, fput2]
  exact wss_nil hc
def cFmGet (R : Addr) (g : List Pt → Int → D) : Con := fun ds M Φ => ∃ ps n, ds = [fmD R ps n] ∧ Φ (g ps n) M
theorem insF {M : Mp} {ps : List Pt} {n : Int} : InsOf M R (fmD R ps n) (fmF ps n) := ⟨rfl, rfl⟩
theorem ok_fm_parts (X : Fo K mg R) : BodyOk P w K mg base "Form.parts" s_Form_parts ["self"] 1 0 (cFmGet R fun ps _ => .ptup (ps.map ptD)) := by
  intro f cdv A outer s H E hr ds M Φ hl hc
  obtain ⟨ps, n, rfl, hc⟩ := hc
  exact wss_cons (ws_ret (we_fld (C := R) (we_var 0 rfl ⟨_, _, insF, X.cl, X.na _ (by decide +kernel), rfl, Lets.of hc⟩)))
theorem ok_fm_number (X : Fo K mg R) : BodyOk P w K mg base "Form.number" s_Form_number ["self"] 1 0 (cFmGet R fun _ n => .int n) := by
  intro f cdv A outer s H E hr ds M Φ hl hc
  obtain ⟨ps, n, rfl, hc⟩ := hc
  exact wss_cons (ws_ret (we_fld (C := R) (we_var 0 rfl ⟨_, _, insF, X.cl, X.na _ (by decide +kernel), rfl, Lets.of hc⟩)))
/-- Form(e1, e2) -/
theorem we_form {X : Cx} {ρ : Rho} {M : Mp} {Φ : D → Mp → Prop} {e1 e2 : Expr} {p pos : Pos} {k : Nat} (F : Kc X.prog X.w X.K X.mg X.base "Form" R [] k 3 (cFm R)) (hr : Room (k + 1) X.A)
    (q : WA X ρ M [e1, e2] fun ds M1 => ∃ ps n, ds = [.ptup (ps.map ptD), .int n] ∧ Pts ps ∧ ps.length ≤ 1000 ∧ Φ (fmD R ps n) M1) (hg : Gl X "Form" := by rfl)
    (he : starEach [e1, e2] X.env = (false, eval e1 X.env) :: starEach [e2] X.env := by rfl) (hpl : (backTo pos (starEach [e2] X.env)).any (·.1) = false := by rfl) : WE X ρ M (.Call (.Name "Form" p) [e1, e2] [] pos) Φ :=
  we_make F hr (q.imp fun ds M1 ⟨ps, n, e1, h1, h2, h3⟩ a ha => ⟨by rw [e1]; rfl, a, ps, n, by rw [e1]; rfl, h1, h2, mset_same, rfl, by
    rw [mset_mset]
    exact ⟨_, M1, les_new ha, .ins mset_same ha, h3⟩⟩) hg (he := he) (hpl := hpl)
end
end W
namespace DL
open PySem PySem.Spec PyProof.Rows L2 SX
theorem of_len (s : String) : (Str.ofString s).length = s.toList.length := by
  rw [Str.ofString_eq_toList]
  show (s.toList.map Char.toNat).toArray.size = _
  simp
theorem neg_txt (m : Nat) : toString (Int.negSucc m) = "-" ++ toString ((m + 1 : Nat) : Int) := rfl
theorem sh_intW {i : Int} (h : i.natAbs < 10 ^ 39) : ShD (.int i) 41 := by
  rcases Int.eq_nat_or_neg i with ⟨n, rfl | rfl⟩
  · have h : n < 10 ^ 39 := by simpa using h
    exact sh_natW (Nat.lt_trans h (by decide))
  · have h : n < 10 ^ 39 := by simpa using h
    cases n with
    | zero => exact sh_natW (n := 0) (by decide)
    | succ m =>
      rw [show (-((m + 1 : Nat) : Int)) = Int.negSucc m from rfl]
      refine ⟨?_, ?_⟩
      · simp only [PyData.showable, decide_eq_true_eq]
        show (m + 1).log2 < 1920
        have := (Nat.log2_lt (by omega : m + 1 ≠ 0)).mpr (show m + 1 < 2 ^ 140 from Nat.lt_trans h (by decide))
        omega
      · simp only [PyData.shown]
        rw [neg_txt, of_len, String.toList_append, List.length_append]
        have e : (toString ((m + 1 : Nat) : Int)).toList.length ≤ 39 := by
          have q := of_len (toString ((m + 1 : Nat) : Int))
          rw [num_S, S_len] at q
          rw [← q]
          exact TL.numL_len (k := 39) (by decide) h
        have e1 : ("-" : String).toList.length = 1 := by decide
        omega
mutual
/-- its parts can be shown, and are short; a dict is nowhere within -/
def AvI : AV → Prop
  | .int i => i.natAbs < 10 ^ 39
  | .str x => StG x
  | .tup l => AvsI l
  | .lst l => AvsI l
  | .dic => False
  | .dct _ _ _ => False
  | _ => True
def AvsI : List AV → Prop
  | [] => True
  | v :: l => AvI v ∧ AvsI l
end
mutual
theorem avI_ok : ∀ {v : AV}, AvI v → CmpD (avD v) (avP v) (avDp v) ∧ ShD (avP v) (avLn v)
  | .non, _ => by rw [avD, avP, avDp, avLn]; exact ⟨cmp_non, sh_non⟩
  | .bl b, _ => by rw [avD, avP, avDp, avLn]; exact ⟨cmp_bl b, sh_bl b⟩
  | .int i, h => by
    rw [avD, avP, avDp, avLn]
    exact ⟨cmp_int i, sh_intW h⟩
  | .str x, h => by rw [avD, avP, avDp, avLn]; exact ⟨cmp_str h.1, h.2⟩
  | .tup l, h => by
    obtain ⟨h1, h2, h3⟩ := avsI_ok (l := l) h
    rw [avD, avP, avDp, avLn]
    exact ⟨cmp_tup h1, ⟨by simp only [PyData.showable]; exact h2, by
      simp only [PyData.shown]
      have q := tupleText_len_le (PyData.shownAll (avsP l))
      omega⟩⟩
  | .lst l, h => by
    obtain ⟨h1, h2, h3⟩ := avsI_ok (l := l) h
    rw [avD, avP, avDp, avLn]
    exact ⟨cmp_lst h1, ⟨by simp only [PyData.showable]; exact h2, by
      simp only [PyData.shown]
      have q := listText_len_le (PyData.shownAll (avsP l))
      omega⟩⟩
  | .dic, h => h.elim
  | .dct _ _ _, h => h.elim
theorem avsI_ok : ∀ {l : List AV}, AvsI l → CmpDs (avsD l) (avsP l) (avsDp l) ∧ PyData.showableAll (avsP l) = true ∧ ((PyData.shownAll (avsP l)).map (·.length)).sum + 2 * (PyData.shownAll (avsP l)).length ≤ avsLn l
  | [], _ => by rw [avsD, avsP, avsDp, avsLn]; exact ⟨cmps_nil, by simp [PyData.showableAll], by simp [PyData.shownAll]⟩
  | v :: l, h => by
    obtain ⟨a1, a2⟩ := avI_ok (v := v) h.1
    obtain ⟨b1, b2, b3⟩ := avsI_ok (l := l) h.2
    rw [avsD, avsP, avsDp, avsLn]
    refine ⟨cmps_cons ⟨a1.eq, a1.lay, Nat.le_refl _⟩ (Nat.le_trans a1.dep (Nat.le_max_left _ _)) ⟨b1.eq, b1.lay, Nat.le_trans b1.dep (Nat.le_max_right _ _)⟩, ?_, ?_⟩
    · simp only [PyData.showableAll, a2.ok, b2, Bool.and_self]
    · simp only [PyData.shownAll, List.map_cons, List.sum_cons, List.length_cons]
      have := a2.le
      omega
end
theorem rpI_of {v : AV} (h : AvI v) (hd : avDp v ≤ 60) (hl : avLn v ≤ sizeLine) : RpD v := by
  obtain ⟨a, b⟩ := avI_ok h
  exact .inl ⟨_, a, hd, b.ok, Nat.le_trans b.le hl⟩
end DL
namespace W
open PySem PySem.Spec PyProof.Rows L2 DL SX
theorem gives_B {X : Cx} {k : Nat} {B g : Addr} {cdg : Value} (hm : X.mg "CrowdError" = some (.ref B)) : Gives X k B g "_law_caught" ["_law_look", "_law_caught_here", "error"] (defScope s__law_caught) cdg (defBody s__law_caught) := by
  intro pins σ H s f Q I hr h
  exact XL.caughtB (X := X) (Ng := ["_law_look", "_law_caught_here", "error"]) (a := "_law_look") (here := "_law_caught_here") (n := "error") (x := "CrowdError") I hr (fun E ps b sc f c' A outer s H hr => tbL_pe E ps b sc f c' A outer s H hr) (Or.inl rfl) (Or.inl rfl) (Or.inl rfl) (Or.inl rfl) (by decide) (by decide) (by decide) (by decide) (by decide) (by decide) (by decide +kernel) rfl rfl ⟨rfl, by decide, .inl hm⟩ rfl h
end W
namespace W
open PySem PySem.Spec PyProof.Rows L2 DL SX PL SlX
section
variable {P : Program} {w : World} {K : PySem.W.Frag} {mg : Str → Option Value} {base : Heap} {C R U V : Addr}
/-- what is known of an error -/
structure Ek (P : Program) (K : PySem.W.Frag) (mg : Str → Option Value) (B : Addr) (x : Str) (U : Addr) : Prop where
  er : XL.Er P K mg x U
  ev : XL.ErV K U
  at_ : mg x = some (.ref U)
  ex : PySem.W.exmOne K (.ref U) (.ref B) = some true
  no : PySem.W.kitOne K (.type "NoneType") (.ref U) = some false
theorem kit_self {U : Addr} : PySem.W.kitOne K (.ref U) (.ref U) = some true := by
  unfold PySem.W.kitOne
  simp
/-- what is caught: nothing, or the error with the value -/
def ctD (U : Addr) (ok : Bool) (v : D) : D := if ok = true then .non else .exc U [("value", v)]
/-- isinstance(what is caught, the error's class) -/
theorem we_isCt {X : Cx} {ρ : Rho} {M : Mp} {Φ : D → Mp → Prop} {a b : Expr} {pos p : Pos} {B U : Addr} {x : Str} (E : Ek X.prog X.K X.mg B x U) (hm : X.mg "isinstance" = none) {ok : Bool} {v : D} (h : WE X ρ M a fun d M1 => d = ctD U ok v ∧ WE X ρ M1 b fun y M2 => y = .fn U ∧ Φ (.bl (!ok)) M2) (hg : Gl X "isinstance" := by rfl)
    (ha : starEach [a, b] X.env = (false, eval a X.env) :: starEach [b] X.env := by rfl) (hb : starEach [b] X.env = (false, eval b X.env) :: starEach [] X.env := by rfl) (hpl : (backTo pos (starEach [b] X.env)).any (·.1) = false := by rfl) : WE X ρ M (.Call (.Name "isinstance" p) [a, b] [] pos) Φ := by
  cases ok with
  | true => exact we_isi hm (h.imp fun d M1 ⟨e, h⟩ => h.imp fun y M2 ⟨e2, h⟩ => ⟨.type "NoneType", .ref U, false, by rw [e]; rfl, by rw [e2]; rfl, (by intro C h; cases h), E.no, h⟩) hg ha hb hpl
  | false => exact we_isX hm (h.imp fun d M1 ⟨e, h⟩ => h.imp fun y M2 ⟨e2, h⟩ => ⟨U, [("value", v)], .ref U, true, e, by rw [e2]; rfl, E.ev, kit_self, h⟩) hg ha hb hpl
theorem WEx.imp {X : Cx} {ρ : Rho} {M : Mp} {e : Expr} {Φ Φ' : D → Mp → Prop} {Ξ Ξ' : Xi} (h : WEx X ρ M e Φ Ξ) (f : ∀ d M1, Φ d M1 → Φ' d M1) (g : ∀ c fs M1, Ξ c fs M1 → Ξ' c fs M1) : WEx X ρ M e Φ' Ξ' := .mk fun σ H Q E en w k t kx =>
  h.run σ H Q E en w (fun v d H1 M1 e1 w1 r1 z => k v d H1 M1 e1 w1 r1 (f d M1 z)) t fun c fs vs d H1 M1 x w1 h1 m r z => kx c fs vs d H1 M1 x w1 h1 m r (g c fs M1 z)
/-- a lambda that ends well, or raises the error at U with the value -/
def LamOk (X : Cx) (k : Nat) (U : Addr) (R : Rho → Prop) (ok : Bool) (v : D) (x : D) : Prop := ∃ params body scope, x = .lam (X.env.qual ++ "<lambda>") params body scope (cloFrom X.env.cells scope.names []) ∧ LamX.LamS X.env.scope scope ∧
  (∀ (q : Str) (cl : List (Str × Addr)) (pm cv ctv : Value), bindArgs (PySem.W.kla_fn "<lambda>" q params body scope cl pm cv ctv) ⟨[], []⟩ = pure []) ∧
  ∀ ρ M1, R ρ → ∀ (f c' : Addr) (A : Around) (outer : List Env) (s : Shared) (H0 : Hp) (E : XK), Room k (A.deeper (LamX.lamEnv X scope s.heap.objs.size f c')) → WEx (LamX.lamCx X A outer s H0 E scope f c') ρ M1 body (fun _ M2 => M2 = M1 ∧ ok = true) (fun c fs M2 => M2 = M1 ∧ ok = false ∧ c = U ∧ fs = ([(("value" : Str), v)] : List (Str × D)))
/-- a lambda is made -/
theorem we_lamL {X : Cx} {ρ : Rho} {M : Mp} {Φ : D → Mp → Prop} {pos : Pos} {T1 c : Addr} {params : Arguments} {body : Expr} {scope : Scope} {k : Nat} {U : Addr} {ok : Bool} {v : D} (R : Rho → Prop) (TB : LamX.TabB X.base X.mg c T1) (hM : M T1 = some (.tbl (X.env.qual ++ "<lambda>"))) (hcode : X.env.code = .ref c) (hex : X.ex = [])
    (hfree : ∀ y ∈ scope.names, y.2 = NameKind.free → ∃ c, X.env.cells.lookup y.1 = some c) (S : LamX.LamS X.env.scope scope)
    (hb : ∀ ρ M1, R ρ → ∀ (f c' : Addr) (A : Around) (outer : List Env) (s : Shared) (H0 : Hp) (E : XK), Room k (A.deeper (LamX.lamEnv X scope s.heap.objs.size f c')) → WEx (LamX.lamCx X A outer s H0 E scope f c') ρ M1 body (fun _ M2 => M2 = M1 ∧ ok = true) (fun c fs M2 => M2 = M1 ∧ ok = false ∧ c = U ∧ fs = ([(("value" : Str), v)] : List (Str × D))))
    (h : ∀ x, LamOk X k U R ok v x → Φ x M) (hdef : defaultsOf params X.env = ([], []) := by rfl) (bind : ∀ (q : Str) (cl : List (Str × Addr)) (pm cv ctv : Value), bindArgs (PySem.W.kla_fn "<lambda>" q params body scope cl pm cv ctv) ⟨[], []⟩ = pure [] := by intros; rfl) : WE X ρ M (.Lambda params body scope pos) Φ :=
  we_lam TB hcode hex hM hdef hfree (h _ ⟨params, body, scope, rfl, S, bind, hb⟩)
/-- `_law_caught(e)` -/
theorem we_ctL {X : Cx} {ρ : Rho} {M : Mp} {Φ : D → Mp → Prop} {e : Expr} {pos p : Pos} {k : Nat} {B U : Addr} {x : Str} {R : Rho → Prop} {ok : Bool} {v : D} (E : Ek X.prog X.K X.mg B x U) (T : Ct X.K X.mg "_law_caught" s__law_caught "_law_look") (gB : X.mg "CrowdError" = some (.ref B)) (hr : Room (k + 2) X.A)
    (h : WE X ρ M e fun d M1 => LamOk X k U R ok v d ∧ R ρ ∧ Φ (ctD U ok v) M1)
    (hg : Gl X "_law_caught" := by rfl) (he : starEach [e] X.env = (false, eval e X.env) :: starEach [] X.env := by rfl) (hpl : (backTo pos (starEach [] X.env)).any (·.1) = false := by rfl) : WE X ρ M (.Call (.Name "_law_caught" p) [e] [] pos) Φ := by
  have Sg : FnScope ["_law_look", "_law_caught_here", "error"] ["_law_look"] (defScope s__law_caught) := ⟨rfl, rfl, rfl, by decide +kernel, rfl, by decide +kernel, by decide +kernel⟩
  refine we_ct T Sg (fun g cdg => gives_B gB) hr (h.imp fun d M1 hz => ?_) hg (by decide) he hpl
  obtain ⟨⟨params, body, scope, e1, S, bind, hb⟩, hR, hz⟩ := hz
  refine ⟨params, body, scope, e1, S, bind, fun f c' A outer s H0 EX hr2 => WEx.imp (hb ρ M1 hR f c' A outer s H0 EX hr2) ?_ ?_⟩
  · rintro d M2 ⟨rfl, h2⟩
    subst h2; exact hz
  · rintro c fs M2 ⟨rfl, h2, rfl, rfl⟩
    subst h2; exact ⟨E.ex, hz⟩
theorem hfree_of {qual : Str} {sc lsc : Scope} {L f : Addr} {cd : Value} (h : (lsc.names.all fun y => !decide (y.2 = NameKind.free) || decide (sc.names.lookup y.1 = some .cell)) = true) : ∀ y ∈ lsc.names, y.2 = NameKind.free → ∃ c, (envOfC qual sc L f cd).cells.lookup y.1 = some c := fun y hy e => by
  have q := List.all_eq_true.mp h y hy
  rw [e] at q
  simp only [decide_true, Bool.not_true, Bool.false_or, decide_eq_true_eq] at q
  exact cell_has q
end
end W
namespace DL
open PySem PySem.Spec PyProof.Rows L2
mutual
inductive FzN (M M' : Mp) : D → D → Prop where
  | of {d d' : D} (f : Fz M M' d d') : FzN M M' d d'
  | lst {ds ds' : List D} (f : FzNs M M' ds ds') : FzN M M' (.lst ds) (.lst ds')
inductive FzNs (M M' : Mp) : List D → List D → Prop where
  | nil : FzNs M M' [] []
  | cons {d d' : D} {ds ds' : List D} (f : FzN M M' d d') (t : FzNs M M' ds ds') : FzNs M M' (d :: ds) (d' :: ds')
end
section
variable {K : PySem.W.Frag} {M M' : Mp} {Z : Zn} {H : Hp}
mutual
theorem FzN.rep (l : Les M' M) (w : Wd K M Z H) : ∀ {v : V} {d d' : D}, FzN M M' d d' → Rep K M Z H v d → Rep K M' Z H v d'
  | _, _, _, .of f, r => f.rep l w r
  | _, _, _, .lst f, .lst h m r => .lst h (l.x _ _ h m).2 (FzNs.rep l w f r)
theorem FzNs.rep (l : Les M' M) (w : Wd K M Z H) : ∀ {vs : List V} {ds ds' : List D}, FzNs M M' ds ds' → Reps K M Z H vs ds → Reps K M' Z H vs ds'
  | _, _, _, .nil, .nil => .nil
  | _, _, _, .cons f t, .cons r u => .cons (FzN.rep l w f r) (FzNs.rep l w t u)
end
inductive FzG (M M' : Mp) : List (Str × D) → List (Str × D) → Prop where
  | nil : FzG M M' [] []
  | cons {k : Str} {d d' : D} {r r' : List (Str × D)} : FzN M M' d d' → FzG M M' r r' → FzG M M' ((k, d) :: r) ((k, d') :: r')
theorem FzG.same : ∀ {k : Str} {d : D} {r r' : List (Str × D)}, FzG M M' r r' → FzG M M' ((k, d) :: r) ((k, d) :: r') := fun h => .cons (.of (.same _)) h
theorem FzG.rep (l : Les M' M) (w : Wd K M Z H) : ∀ {vs : List (Str × V)} {fs fs' : List (Str × D)}, FzG M M' fs fs' → RepF K M Z H vs fs → RepF K M' Z H vs fs'
  | _, _, _, .nil, .nil => .nil
  | _, _, _, .cons f t, .cons r u => .cons (f.rep l w r) (FzG.rep l w t u)
end
end DL
namespace DL
open PySem PySem.Spec PyProof.Rows L2
inductive FzEN (M M' : Mp) : Rho → Rho → Prop where
  | nil : FzEN M M' [] []
  | val {d d' : D} {ρ ρ' : Rho} : FzN M M' d d' → FzEN M M' ρ ρ' → FzEN M M' (some d :: ρ) (some d' :: ρ')
  | drop {o : Option D} {ρ ρ' : Rho} : FzEN M M' ρ ρ' → FzEN M M' (o :: ρ) (none :: ρ')
theorem FzEN.env {K : PySem.W.Frag} {M M' : Mp} {Z : Zn} {H : Hp} (l : Les M' M) (w : Wd K M Z H) : ∀ {σ : L2.St} {ρ ρ' : Rho}, FzEN M M' ρ ρ' → EnvR K M Z H σ ρ → EnvR K M' Z H σ ρ'
  | _, _, _, .nil, .nil => .nil
  | _, _, _, .drop t, .any u => .any (FzEN.env l w t u)
  | _, _, _, .drop t, .val r u => .any (FzEN.env l w t u)
  | _, _, _, .val f t, .val r u => .val (f.rep l w r) (FzEN.env l w t u)
/-- new objects stand at qs, all else is as it was -/
structure FamM (M M' : Mp) (qs : List Addr) (g : Nat → MO) : Prop where
  nd : qs.Nodup
  new : ∀ q ∈ qs, M q = none
  out : ∀ b, b ∉ qs → M' b = M b
  inn : ∀ i q, qs[i]? = some q → M' q = some (g i)
theorem FamM.nil {M : Mp} {g : Nat → MO} : FamM M M [] g := ⟨.nil, (by intro _ h; cases h), fun _ _ => rfl, (by intro i q h; simp at h)⟩
theorem FamM.snoc {M M' : Mp} {qs : List Addr} {g : Nat → MO} {q : Addr} {o : MO} (F : FamM M M' qs g) (hq : M' q = none) (hg : g qs.length = o) : FamM M (mset M' q o) (qs ++ [q]) g := by
  have hn : q ∉ qs := fun h => by
    obtain ⟨i, hi, e⟩ := List.getElem_of_mem h
    have := F.inn i q (by rw [List.getElem?_eq_getElem hi, e])
    rw [hq] at this; cases this
  refine ⟨List.nodup_append.mpr ⟨F.nd, List.pairwise_singleton _ _, fun x hx y hy e => hn (by rw [← List.mem_singleton.mp hy, ← e]; exact hx)⟩, fun x hx => ?_, fun b hb => ?_, fun i x hx => ?_⟩
  · rcases List.mem_append.mp hx with h | h
    · exact F.new x h
    · rw [List.mem_singleton.mp h, ← F.out q hn]; exact hq
  · rw [mset_ne (fun e => hb (by rw [e]; exact List.mem_append_right _ (List.mem_singleton.mpr rfl)))]
    exact F.out b fun h => hb (List.mem_append_left _ h)
  · rcases Nat.lt_or_ge i qs.length with hi | hi
    · rw [List.getElem?_append_left hi] at hx
      rw [mset_ne (fun e => hn (by rw [← e]; exact List.mem_of_getElem? hx))]
      exact F.inn i x hx
    · rw [List.getElem?_append_right hi] at hx
      obtain ⟨h0, e⟩ := List.getElem?_eq_some_iff.mp hx
      rw [List.length_singleton] at h0
      rw [List.getElem_singleton] at e
      rw [← e, mset_same, show i = qs.length by omega, hg]
theorem FamM.same {M M' : Mp} {qs : List Addr} {g : Nat → MO} (F : FamM M M' qs g) {i j : Nat} {q : Addr} (hi : qs[i]? = some q) (hj : qs[j]? = some q) : i = j := by
  obtain ⟨h1, e1⟩ := List.getElem?_eq_some_iff.mp hi
  obtain ⟨h2, e2⟩ := List.getElem?_eq_some_iff.mp hj
  exact (List.getElem_inj F.nd).mp (e1.trans e2.symm)
theorem FamM.put {M M' : Mp} {qs : List Addr} {g g' : Nat → MO} {i : Nat} {q : Addr} {o : MO} (F : FamM M M' qs g) (hq : qs[i]? = some q) (h1 : g' i = o) (h2 : ∀ j, j < qs.length → j ≠ i → g' j = g j) : FamM M (mset M' q o) qs g' := by
  refine ⟨F.nd, F.new, fun b hb => ?_, fun j x hx => ?_⟩
  · rw [mset_ne (fun e => hb (by rw [e]; exact List.mem_of_getElem? hq))]
    exact F.out b hb
  · by_cases e : j = i
    · subst e
      rw [hq] at hx; cases hx
      rw [mset_same, h1]
    · rw [mset_ne (fun z => e (F.same (by rw [hx, z]) hq)), h2 j (List.getElem?_eq_some_iff.mp hx).1 e]
      exact F.inn j x hx
theorem FamM.ext {M M' : Mp} {qs : List Addr} {g g' : Nat → MO} (F : FamM M M' qs g) (h : ∀ i, i < qs.length → g' i = g i) : FamM M M' qs g' := ⟨F.nd, F.new, F.out, fun i q hq => by rw [h i (List.getElem?_eq_some_iff.mp hq).1]; exact F.inn i q hq⟩
end DL
namespace DL
open PySem PySem.Spec PyProof.Rows L2
section
variable {X : Cx} {ρ : Rho} {M : Mp} {Φ : D → Mp → Prop}
theorem Reps.rev {K : PySem.W.Frag} {M : Mp} {Z : Zn} {H : Hp} : ∀ {vs : List V} {ds : List D}, Reps K M Z H vs ds → Reps K M Z H vs.reverse ds.reverse
  | _, _, .nil => .nil
  | _, _, .cons r rs => by rw [List.reverse_cons, List.reverse_cons]; exact (rs.rev).append (.cons r .nil)
end
end DL
namespace W
open PySem PySem.Spec PyProof.Rows L2 DL SX PL SlX
/-- a value that can be shown, up to a length and a depth -/
structure GdA (b k : Nat) (v : AV) : Prop where
  g : AvI v
  s : SmA v
  d : avDp v ≤ k
  l : avLn v ≤ b
theorem GdA.mono {b b' k k' : Nat} {v : AV} (h : GdA b k v) (hb : b ≤ b') (hk : k ≤ k') : GdA b' k' v := ⟨h.g, h.s, Nat.le_trans h.d hk, Nat.le_trans h.l hb⟩
/-- what is handed on -/
def FitV (v : AV) : Prop := RpD v ∧ SmA v
theorem GdA.fit {b k : Nat} {v : AV} (h : GdA b k v) (hb : b ≤ 100000) (hk : k ≤ 50) : FitV v := ⟨rpI_of h.g (by have := h.d; omega) (by have := h.l; rw [sizeLine_eq]; omega), h.s⟩
theorem msetComm {M : Mp} {p q : Addr} {o u : MO} (h : p ≠ q) : mset (mset M q u) p o = mset (mset M p o) q u := by
  funext b
  unfold mset
  by_cases h1 : b = p
  · rw [if_pos h1, if_neg (fun e => h (h1.symm.trans e)), if_pos h1]
  · rw [if_neg h1]
    by_cases h2 : b = q
    · rw [if_pos h2, if_pos h2]
    · rw [if_neg h2, if_neg h2, if_neg h1]
theorem upT_mk {ms : List Mk} {ys : List (List Str)} (u : UpT (ms.map mkL) ys) : ∃ ns : List Mk, ys = ns.map mkL ∧ ns.Pairwise (fun a b => ltM a b = true) ∧ (∀ m, m ∈ ns ↔ m ∈ ms) ∧ ns.length < 64 := by
  obtain ⟨h1, h2, h3⟩ := u
  obtain ⟨ns, rfl, hn⟩ := pull_map mkL ms (m := ys) fun x hx => (h2 x).mp hx
  refine ⟨ns, rfl, List.pairwise_map.mp h1, fun m => ⟨hn m, fun hm => ?_⟩, by rwa [List.length_map] at h3⟩
  obtain ⟨y, hy, e⟩ := List.mem_map.mp ((h2 (mkL m)).mpr (List.mem_map_of_mem hm))
  rw [← mkL_inj e]; exact hy
theorem nodup_sub {α : Type} [DecidableEq α] {l m : List α} (h : l.Nodup) (s : ∀ x ∈ l, x ∈ m) : l.length ≤ m.length := nd_leG l m h s
theorem ltM_nodup {ns : List Mk} (h : ns.Pairwise fun a b => ltM a b = true) : ns.Nodup := h.imp fun {a b} h e => by subst e; rw [ltM_irr] at h; cases h
theorem sz2x {a b : D} : ([a, b] : List D).length ≤ sizeLine := by show 2 ≤ sizeLine; decide
section
variable {P : Program} {w : World} {K : PySem.W.Frag} {mg : Str → Option Value} {base : Heap} {C R U V : Addr}
/-- pots that have been made -/
structure PotsAt (M M' : Mp) (qs : List Addr) : Prop where
  out : ∀ b, b ∉ qs → M' b = M b
  new : ∀ q ∈ qs, M q = none
  pot : ∀ q ∈ qs, ∃ a c, M' q = some (potL a c 0) ∧ cOk c
  nd : qs.Nodup
theorem PotsAt.snoc {M M' : Mp} {qs : List Addr} (h : PotsAt M M' qs) {p : Addr} {a c : Int} (hp : M' p = none) (co : cOk c) : PotsAt M (mset M' p (potL a c 0)) (qs ++ [p]) := by
  have np : p ∉ qs := fun hq => by
    obtain ⟨a, c, e, _⟩ := h.pot p hq
    rw [e] at hp; cases hp
  refine ⟨fun b hb => ?_, fun q hq => ?_, fun q hq => ?_, List.nodup_append.mpr ⟨h.nd, List.pairwise_singleton _ _, fun x hx y hy e => np (by rw [← List.mem_singleton.mp hy, ← e]; exact hx)⟩⟩
  · have h1 : b ∉ qs := fun z => hb (List.mem_append_left _ z)
    have h2 : b ≠ p := fun z => hb (List.mem_append_right _ (List.mem_singleton.mpr z))
    rw [mset_ne h2, h.out b h1]
  · rcases List.mem_append.mp hq with hq | hq
    · exact h.new q hq
    · rw [List.mem_singleton.mp hq, ← h.out p np]; exact hp
  · rcases List.mem_append.mp hq with hq | hq
    · have : q ≠ p := fun z => np (by rw [← z]; exact hq)
      obtain ⟨a', c', e, co'⟩ := h.pot q hq
      exact ⟨a', c', by rw [mset_ne this]; exact e, co'⟩
    · rw [List.mem_singleton.mp hq]; exact ⟨a, c, mset_same, co⟩
def cPots : Con := fun ds M Φ => ∃ ns m, ds = [scrD ns, .int (m : Nat)] ∧ 1 ≤ m ∧ m ≤ 1000 ∧ ∀ qs M', PotsAt M M' qs → qs.length ≤ m → Φ (.lst (qs.map D.ob)) M'
abbrev nPots : List Str := ["_law_script", "_law_limit", "_law_k"]
theorem ok_pots (F : Fx w K mg) (F1 : Fc P w K mg base "_law_pot" [] 1 2 cPotH) : BodyOk P w K mg base "_law_pots" s__law_pots nPots 2 1 cPots := by
  intro f cdv A outer s H E hr ds M Φ hl hc
  obtain ⟨ns, m, rfl, m1, m2, hc⟩ := hc
  have nd : nPots.Nodup := by decide +kernel
  refine wss_cons (ws_ret (we_lc nd (blkOk_by (N := nPots) (sc := defScope s__law_pots) (own := [("_law_k", 2)]) (by decide +kernel)) (fun _ _ _ _ _ => pg_name (i := 2) nd rfl (Or.inl rfl)) (gt_name (by decide)) (fun _ _ _ _ _ => pts_nil) tk_nil (wi_range1 (F.bn _ (by decide +kernel)) (wa_cons (we_max2 (F.bn _ (by decide +kernel)) (we_int (we_min2 (F.bn _ (by decide +kernel)) (we_var 1 rfl (we_len (F.bn _ (by decide +kernel)) (we_var 0 rfl ⟨_, lenR, _, _, rfl, rfl, _, _, rfl, rfl, wa_nil ⟨_, rfl, ?_, ?_, ?_⟩⟩))))))))))
  · split <;> split <;> omega
  · split <;> split <;> omega
  refine ⟨?_, fun i acc M2 => ∃ qs : List Addr, qs.length = i ∧ acc = qs.map D.ob ∧ PotsAt M M2 qs, ⟨[], rfl, rfl, ⟨fun _ _ => rfl, fun q h => (nomatch h), fun q h => (nomatch h), .nil⟩⟩, ?_, ?_⟩
  · rw [rngD_len, sizeLine_eq]; split <;> split <;> omega
  · rintro i x acc M2 hx ⟨qs, hql, rfl, hF⟩
    obtain ⟨hi, rfl⟩ := rngD_get hx
    have hi2 : i ≤ 1000 := by
      revert hi
      split <;> split <;> omega
    intro s1 H1 C' cl fp
    refine we_call F1 (hr.mono (by omega)) (wa_cons (we_var 0 rfl (wa_cons (we_var 2 rfl (wa_nil ⟨rfl, ns, i, by rw [Int.zero_add]; rfl, hi2, fun q a c hq co => ⟨qs ++ [q], by rw [List.length_append, hql]; rfl, by rw [List.map_append]; rfl, hF.snoc hq co⟩⟩)))))
  · rintro acc M2 ⟨qs, hql, rfl, hF⟩
    rw [rngD_len] at hql
    exact Lets.of (hc qs M2 hF (by rw [hql]; split <;> split <;> omega))
end
end W
namespace DL
open PySem PySem.Spec PyProof.Rows L2
theorem vals_keyN {xs : List (NestedKey × Addr × V)} {ys : List (NestedKey × Addr × Value)} (r : Paired PrN xs ys) : Vals (xs.map fun x => V.ref x.2.1) (ys.map fun y => Value.ref y.2.1) := by
  induction r with
  | nil => exact .nil
  | @cons x y xs ys h t ih =>
    obtain ⟨_, e2, _⟩ := h
    rw [List.map_cons, List.map_cons]
    exact .cons (by rw [e2]; exact (show RelV (V.ref y.2.1) (Value.ref y.2.1) from rfl)) ih
theorem ents_len {w : World} {xs : List (NestedKey × Addr × V)} {ys : List (NestedKey × Addr × Value)} {es : Array DictEntry} (pr : Paired PrN xs ys) (he : es.toList = ys.map (entN w)) : es.size = xs.length ∧ es.size = ys.length := by
  have a : es.toList.length = ys.length := by rw [he, List.length_map]
  have b : xs.length = ys.length := Paired.length pr
  rw [Array.length_toList] at a
  omega
theorem ents_at {w : World} {ys : List (NestedKey × Addr × Value)} {es : Array DictEntry} (he : es.toList = ys.map (entN w)) {j : Nat} (hj : j < es.size) (hy : j < ys.length) : es[j] = entN w ys[j] := by
  have e1 : es.toList[j]? = (ys.map (entN w))[j]? := by rw [he]
  rw [Array.getElem?_toList, Array.getElem?_eq_getElem hj, List.getElem?_map, List.getElem?_eq_getElem hy] at e1
  exact Option.some.inj e1
theorem RepN.keysR {K : PySem.W.Frag} {M : Mp} {Z : Zn} {H H' : Hp} {M' : Mp} {Z' : Zn} (x : ExI M Z H M' Z' H') {xs : List (NestedKey × Addr × V)} {kvs : List (D × D)} (r : RepN K M Z H xs kvs) : Reps K M' Z' H' (xs.map fun y => V.ref y.2.1) (keysN kvs) := by
  induction r using RepN.ind with
  | nil => exact .nil
  | cons hk dp rk r t ih => exact .cons (rk.monoI x) ih
end DL
namespace DL
open PySem PySem.Spec PyProof.Rows L2
theorem kdl_collect {prog : Program} {w : World} {A : Around} {E : Value → Shared → Prop} {s : Shared} {T : String} {r d : Addr} {n : Nat} {P : Nat → Value → Prop} {OK : Heap → Prop} {R : List Value → Shared → Prop} (K : PySem.W.KdlSrc prog w T r d n P OK) (hh : A.handled = none) (hok : OK s.heap) (hn : n ≤ sizeLine)
    (h : ∀ (h' : Heap) (tk : Nat) (acc : Array Value), (∀ b o, s.heap.get? b = some o → h'.get? b = some o) → ItemsOf P acc n → R acc.toList { s with heap := h', toks := tk }) : wpAny (model prog w) A (collect (.ref r)) R E s := by
  obtain ⟨hr, hd⟩ := K.there _ hok
  unfold collect
  refine wpAny_bind (wpAny_runValue (codeAny_builtin entry_proto_collect' ?_))
  rw [Around.under_plainId PySem.F.plain_proto_collect _]
  show wpAny _ A.in1 (newList [] >>= fun l => again (.builtin "list.__iadd__" ⟨[l, .ref r], []⟩)) _ _ s
  refine wpAny_bind (wpAny_newObj_type ?_)
  refine wpAny_pure ⟨plainId_quiet PySem.F.plain_list_iadd _, codeAny_builtin entry_list_iadd' ?_⟩
  rw [Around.under_plainId PySem.F.plain_list_iadd _]
  have hS₁ : (s.heap.push { cls := .type "list", data := .seq ([] : List Value).toArray }).get? s.heap.objs.size = some { cls := .type "list", data := .seq #[] } := Heap.get?_push_size _ rfl
  show wpAny _ A.in1 (Builtin.List.listExtendWith (.ref s.heap.objs.size) (.ref r) (.ref s.heap.objs.size)) _ _ _
  have key := PySem.W.kdl_extend (A := A) (s := { s with heap := s.heap.push { cls := .type "list", data := .seq ([] : List Value).toArray } })
    (R := fun (q : Result) (s' : Shared) => ∃ (h' : Heap) (tk : Nat) (acc' : Array Value) (c' : Nat), q = .ok (.ret (.ref s.heap.objs.size)) ∧ s' = { s with heap := h', toks := tk } ∧
      (∀ b o, s.heap.get? b = some o → h'.get? b = some o) ∧ h'.get? s.heap.objs.size = some { cls := .type "list", dict := none, data := .seq acc' c', slots := #[] } ∧ ItemsOf P acc' n)
    K hh (K.keep _ _ hok fun b _ o e => Heap.get?_push_of_some _ e) s.heap.objs.size (Nat.ne_of_gt hr) (Nat.ne_of_gt hd) (.ref s.heap.objs.size) 0 hS₁
    (fun h' tk acc' c' hk hS' hacc => ⟨h', tk, acc', c', rfl, rfl, fun b o e => hk b o (Nat.ne_of_lt (Heap.lt_size e)) (Heap.get?_push_of_some _ e), hS', hacc⟩) hn
  refine wpAny_mono key (fun fin s' x => ?_) fun e s' x => ?_
  · cases fin with
    | done f =>
      obtain ⟨h', tk, acc', c', e, rfl, hk, hS', hacc⟩ := x
      cases e
      show wpAny _ A (load s.heap.objs.size >>= _) _ _ _
      refine wpAny_bind (wpAny_load hS' ?_)
      exact wpAny_pure (h h' tk acc' hk hacc)
    | again c₁ =>
      refine ⟨x.1, codeAny_mono x.2 fun q s₂ y => ?_⟩
      obtain ⟨h', tk, acc', c', rfl, rfl, hk, hS', hacc⟩ := y
      show wpAny _ A (load s.heap.objs.size >>= _) _ _ _
      refine wpAny_bind (wpAny_load hS' ?_)
      exact wpAny_pure (h h' tk acc' hk hacc)
  · obtain ⟨_, _, _, _, e', _⟩ := x
    cases e'
section
variable {X : Cx} {pins : List (Addr × Obj)} {σ : L2.St} {H : Hp} {s : Shared}
theorem star_dictN {a : Addr} {xs : List (NestedKey × Addr × V)} {E : Value → Shared → Prop} {Q : List Value → Shared → Prop} (hc : X.calm = true) (I : Inv X pins σ H s) (h : Rd H a (DNo X.w a xs)) (hQ : ∀ us s', Inv X pins σ H s' → Vals (xs.map fun x => V.ref x.2.1) us → Q us s') : PySem.W.StarOf (model X.prog X.w) X.A E (.ref a) Q s := by
  obtain ⟨z, hs0, ys, pr, o, es, ep, ho, hx, hdt, he0, _⟩ := dnf_rd I h
  obtain ⟨l1, l2⟩ := ents_len pr he0
  have hT : s.TypeIs (.ref a) "dict" := ⟨o, ho, hx.1⟩
  have zz : wpAny (model X.prog X.w) X.A (collect (.ref a)) Q E s := by
    refine kdl_collect (KdlSrc.rawDict (d := a) (es := es) (ep := ep) hs0) (I.ok.hd hc) ⟨o, ho, hx, hdt⟩ (by omega) fun h' tk acc hk hacc => ?_
    have ea : acc.toList = ys.map fun y => Value.ref y.2.1 := by
      have hsz := hacc.1
      refine List.ext_getElem (by rw [Array.length_toList, List.length_map]; omega) fun j h1 h2 => ?_
      rw [Array.length_toList] at h1
      obtain ⟨hj, hv⟩ := hacc.2 j acc[j] (Array.getElem?_eq_getElem h1)
      rw [Array.getElem_toList, hv, List.getElem_map, ents_at he0 hj (by omega)]
      rfl
    rw [ea]
    exact hQ _ _ (I.kept (t' := tk) hk) (vals_keyN pr)
  unfold PySem.W.StarOf notIterableAtAll
  exact wpAny_bind (wpAny_specialOf hT PySem.F.slot_dict_iter.lookup (wpAny_pure ⟨rfl, zz⟩))
end
section
variable {X : Cx} {e : Expr} {es : List Expr} {te : TE} {t : L2.TA} {p : Pos}
def tStarN (w : World) (te : TE) (t : L2.TA) : L2.TA := fun σ H Q => te σ H fun x H1 => ∃ d xs, x = V.ref d ∧ Rd H1 d (DNo w d xs) ∧ t σ H1 fun ys H2 => Q ((xs.map fun x => V.ref x.2.1) ++ ys) H2
theorem pa_starN (hc : X.calm = true) (he : PE X e te) (hr : PA X es t) (hs : starEach (.Starred e p :: es) X.env = (true, eval e X.env) :: starEach es X.env := by rfl) : PA X (.Starred e p :: es) (tStarN X.w te t) := by
  refine ⟨fun pos pins s σ H Q I h => ?_⟩
  refine PySem.W.items_star (thn (he.run pins s σ H _ I h) fun v s1 ⟨y, H1, I1, ry, a, xs, ey, hx, q⟩ => ?_) hs
  subst ey
  obtain rfl : v = Value.ref a := ry
  refine star_dictN hc I1 hx fun us s2 I2 rv => ?_
  exact thn (hr.run pos pins s2 σ H1 _ I2 q) fun ws s3 ⟨vs, H3, I3, r3, q3⟩ => ⟨_, H3, I3, rv.append r3, q3⟩
end
section
variable {X : Cx} {ρ : Rho} {M : Mp} {e : Expr} {es : List Expr}
theorem wa_starN {sp : Pos} {ΦA : List D → Mp → Prop} (h : WE X ρ M e fun d M1 => ∃ kvs, d = .fdN X.w kvs ∧ WA X ρ M1 es fun ds M2 => ∀ ys, ys = keysN kvs ++ ds → ΦA ys M2) (hc : X.calm = true := by rfl) (hs : starEach (.Starred e sp :: es) X.env = (true, eval e X.env) :: starEach es X.env := by rfl) : WA X ρ M (.Starred e sp :: es) ΦA := .mk fun σ H Q en w k =>
  aOf (pa_starN hc pe_sem pa_sem hs) (h.run σ H _ en w fun v d H1 M1 e1 w1 r1 hz => by
    obtain ⟨kvs, rfl, hz⟩ := hz
    cases r1 with
    | @fdN q o0 _ xs _ hH mq rs =>
    exact ⟨q, xs, rfl, .inr ⟨_, hH⟩, hz.run σ H1 _ (en.mono e1) w1 fun us ds H2 M2 e2 w2 r2 hy => k _ (keysN kvs ++ ds) H2 M2 (e1.trans e2) w2 ((rs.keysR e2.i).append r2) (hy _ rfl)⟩)
end
end DL
namespace DL
open PySem PySem.Spec PyProof.Rows L2
section
variable {M : Model} {prog : Program} {w : World} {A : Around} {E : Value → Shared → Prop} {s : Shared} {K : PySem.W.Frag} {x y f C : Addr} {ox : Obj} {od : Option Obj}
theorem binop_here {op : Operator} {b : Value} {Q : Value → Shared → Prop} (X : K.In s.heap) (I : PySem.W.InstAt s.heap x ox C od) (hb : PySem.W.Looks (model prog w) s.heap (typeOf b) (.ref C)) (hc : PySem.W.selfFirst K C = true)
    (hs : PySem.W.findIn K (.ref C) (PySem.dunder op.info.2) = some (some (.ref f))) (hf : PySem.W.isFn K (.ref f) = true)
    (h : wpAny (model prog w) A (call (.ref f) [.ref x, b]) (PySem.W.CmpBack Q) E s) : wpAny (model prog w) A (binaryOp op (.ref x) b) Q E s := by
  obtain ⟨cd, hcd, hm⟩ := PySem.W.any_some hc
  obtain ⟨rest, hm⟩ : ∃ rest, cd.mro = .ref C :: rest := by
    cases q : cd.mro with
    | nil => rw [q] at hm; cases hm
    | cons a r => rw [q] at hm; exact ⟨r, by rw [List.head?_cons] at hm; cases (beq_iff_eq.mp hm); rfl⟩
  unfold binaryOp
  refine wpAny_holding (wpAny_bind ?_)
  unfold binaryOp1
  refine wpAny_bind (I.type.here (wpAny_bind (hb.here (wpAny_bind ((PySem.W.fills_K X hcd hm hs).here ?_)))))
  simp only [beq_self_eq_true, if_true]
  refine wpAny_bind (wpAny_pure ?_)
  simp only [Bool.and_false, Bool.false_eq_true, if_false, Bool.false_and]
  refine wpAny_bind (wpAny_pure ?_)
  simp only [Bool.false_eq_true, if_false]
  refine wpAny_bind (m := tryMethod (.ref x) _ b) ?_
  unfold tryMethod
  refine wpAny_bind (PySem.W.special_fn X I hs (beq_iff_eq.mp hf) (wpAny_mono h (fun v s' hv => ?_) fun _ _ e => e))
  cases v <;> first | exact hv.elim | exact wpAny_pure (wpAny_pure (wpAny_pure hv))
end
section
variable {X : Cx} {ρ : Rho} {M : Mp} {Φ : D → Mp → Prop} {a b : Expr} {pos : Pos} {C : Addr} {k : Nat} {c : Con} {nm : Str}
def rBinO (X : Cx) (C : Addr) (c : Con) : R2 := fun v u H Q => ∃ p q dx dy fs gs, v = V.ref p ∧ u = V.ref q ∧ H p = some (.ins C dx fs) ∧ H q = some (.ins C dy gs) ∧ spD X.K 2 c [v, u] H (fun z H' => (∃ r, z = .ref r) ∧ Q z H') E0
theorem op_binO {op : Operator} (F : Mc X.prog X.w X.K X.mg X.base C nm [] k 2 c) (hn : PySem.dunder op.info.2 = nm) (hr : Room k X.A) (hc : PySem.W.selfFirst X.K C = true) : OpR X (binaryOp op) (rBinO X C c) := by
  intro pins s σ H v u v' u' Q I rv ru hq
  obtain ⟨p, q, dx, dy, fs, gs, rfl, rfl, ha, hb, hq⟩ := hq
  cases rv
  cases ru
  obtain ⟨f, fd, ps, dvs, ds, F', hme, hbd, hd, hdd⟩ := F.ex
  obtain ⟨mA, J, _⟩ := ins_get I.hok ha
  obtain ⟨mB, J', _⟩ := ins_get I.hok hb
  obtain ⟨od, J, _⟩ := J.look
  obtain ⟨od', J', _⟩ := J'.look
  have hl := F'.len _ _ _ _ hq
  have r2 : Vals [V.ref p, V.ref q] [Value.ref p, Value.ref q] := .cons rfl (.cons rfl .nil)
  have d0 : ds = [] := by
    have r0 : Reps X.K (fun _ => none) (fun _ => False) (fun _ => none) dvs [] := hdd _ _ _
    cases r0
    cases hd
    rfl
  have v0 : dvs = [] := by
    have r0 : Reps X.K (fun _ => none) (fun _ => False) (fun _ => none) dvs [] := hdd _ _ _
    cases r0
    rfl
  subst d0 v0
  refine binop_here I.kIn J J'.type hc (by rw [hn]; exact hme.at_) hme.fn ?_
  refine wpAny_mono (run_fn F' hr hbd .nil pass0 I (vs := [.ref p, .ref q]) r2 hq) (fun r s' hz => ?_) fun _ _ e => e
  obtain ⟨z, H', I', rz, ⟨g, rfl⟩, qz⟩ := hz
  cases rz
  exact ⟨.ref g, H', I', rfl, qz⟩
theorem rd_binO {x y : D} (h : ∃ fs gs, InsOf M C x fs ∧ InsOf M C y gs ∧ c [x, y] M fun d M3 => (∃ C' fs, d = .ins C' fs) ∧ Φ d M3) : RD X.K (rBinO X C c) x y M Φ := fun Z v u H Q w r1 r2 k => by
  obtain ⟨fs, gs, h1, h2, h⟩ := h
  obtain ⟨p, dx, vs, rfl, hp, _⟩ := r1.asIns w h1
  obtain ⟨q, dy, us, rfl, hq, _⟩ := r2.asIns w h2
  refine ⟨p, q, dx, dy, vs, us, rfl, rfl, hp, hq, [x, y], M, Z, _, rfl, .cons r1 (.cons r2 .nil), w, h, fun z d H' M' e w' r' hz => ?_⟩
  obtain ⟨⟨C', fs', rfl⟩, hz⟩ := hz
  refine ⟨?_, k _ _ H' M' e w' r' hz⟩
  cases r' with
  | ins h m r => exact ⟨_, rfl⟩
/-- a * b, a + b of instances -/
theorem we_binO {op : Operator} (F : Mc X.prog X.w X.K X.mg X.base C nm [] k 2 c) (hr : Room k X.A) (hc : PySem.W.selfFirst X.K C = true)
    (h : WE X ρ M a fun x M1 => WE X ρ M1 b fun y M2 => ∃ fs gs, InsOf M2 C x fs ∧ InsOf M2 C y gs ∧ c [x, y] M2 fun d M3 => (∃ C' fs, d = .ins C' fs) ∧ Φ d M3) (hn : PySem.dunder op.info.2 = nm := by rfl) : WE X ρ M (.BinOp a op b pos) Φ :=
  we_op (op_binO F hn hr hc) (h.imp fun _ _ h => h.imp fun _ _ h => rd_binO h)
end
end DL
namespace DL
open PySem PySem.Spec PyProof.Rows L2 PySem.W
abbrev PA2 := PyData × Addr
theorem ref_valsA : ∀ (ks : List PA2), Vals (ks.map fun p => V.ref p.2) (ks.map fun p => Value.ref p.2)
  | [] => .nil
  | p :: ks => .cons rfl (ref_valsA ks)
theorem vals_refA : ∀ {ks : List PA2} {us : List Value}, Vals (ks.map fun p => V.ref p.2) us → us = ks.map fun p => Value.ref p.2
  | [], _, .nil => rfl
  | p :: ks, _, .cons r t => by
    cases r
    rw [vals_refA t]; rfl
section
variable {X : Cx}
theorem cr_sortA (hu : X.A.units + 80 < cLine) : CallR X (.builtin "sorted") (fun vs H Q => ∃ (a : Addr) (L : List PA2), vs = [V.ref a] ∧ SqL X.K H a (L.map fun x => V.ref x.2) ∧ (∀ x ∈ L, Dp X.K H (.ref x.2) x.1 ∧ x.1.depth ≤ 60) ∧ AllAlike (L.map (·.1)) ∧ Sortable (L.map (·.1)) ∧
    ∀ (L2 : List PA2) (p : Addr), L2.Perm L → L2.Pairwise (fun x y => dataLt y.1 x.1 = false) → H p = none → Q (.ref p) (upd H p (.lst (L2.map fun x => V.ref x.2)))) := by
  intro pins s σ H vs us Q I r h
  obtain ⟨a, L, rfl, hs, hd, hal, hk, q⟩ := h
  rw [Vals.ref1 r]
  obtain ⟨its, rv, hl, hz⟩ := I.list hs
  have eits := vals_refA rv
  subst eits
  have each : ∀ (R2 : Value → PA2 → Prop) (l : List PA2), (∀ x ∈ l, R2 (.ref x.2) x) → EachIs R2 (l.map fun x => Value.ref x.2) l := fun R2 l => by
    induction l with
    | nil => intro _; exact .nil
    | cons x l ih => intro h; exact .cons (h x List.mem_cons_self) (ih fun y hy => h y (List.mem_cons_of_mem _ hy))
  rw [List.length_map] at hz
  refine sorted_data (vs := L.map fun x => Value.ref x.2) (bs := L) (enc := fun x : PA2 => x.1) (R := fun v x => v = Value.ref x.2) hl.isList (each _ L fun x _ => rfl) (each _ L fun x hx => ?_) hal hk hz (fun x hx => ?_) fun out h1 h2 => ?_
  · exact Dp.reads I x.1 (.ref x.2) (.ref x.2) (hd x hx).1 rfl
  · have := (hd x hx).2
    omega
  · have eo : ∀ {o : List Value} {l : List PA2}, EachIs (fun v x => v = Value.ref x.2) o l → o = l.map fun x => Value.ref x.2 := by
      intro o l h
      induction h with
      | nil => rfl
      | cons h t ih => rw [List.map_cons, h, ih]
    have e := eo h2
    have pm : (L.mergeSort (dataLe false fun x : PA2 => x.1)).Perm L := List.mergeSort_perm _ _
    have srt : (L.mergeSort (dataLe false fun x : PA2 => x.1)).Pairwise (fun x y => dataLt y.1 x.1 = false) := by
      have tl := sortLe_total (listOrd itemOrd) false fun x : PA2 => keyToks x.1
      refine List.Pairwise.imp (fun {x y} h => ?_) (List.pairwise_mergeSort (le := dataLe false fun x : PA2 => x.1) (fun x y z => tl.trans x y z) (fun x y => by have z := tl.total x y; show (dataLe false (fun x : PA2 => x.1) x y || dataLe false (fun x : PA2 => x.1) y x) = true; rw [Bool.or_eq_true]; exact z) L)
      have h : (!(dataLt y.1 x.1)) = true := h
      simpa using h
    generalize L.mergeSort (dataLe false fun x : PA2 => x.1) = L2 at e pm srt
    obtain ⟨n, hn⟩ := sortedAll_at s.heap (L.map fun x => Value.ref x.2) out.toArray
    have hlen : (L2.map fun q => V.ref q.2).length ≤ sizeLine := by rw [List.length_map, pm.length_eq]; exact hz
    exact ⟨.ref _, upd H (s.heap.objs.size + 1) (.lst (L2.map fun q => V.ref q.2)), I.laid (t' := s.toks) (fun b o z => sortedAll_old z) (Nat.le_succ _) ⟨hlen, out, n, by rw [e]; exact ref_valsA L2, hn⟩, rfl, q L2 _ pm srt (I.hok.fresh (Nat.le_succ _))⟩
end
theorem reps_pa {β : Type} {dd : β → D} {K : PySem.W.Frag} {M : Mp} {Z : Zn} {H : Hp} : ∀ (bs : List β) (vs : List V), Reps K M Z H vs (bs.map dd) → (∀ b ∈ bs, ∃ ds, dd b = .tup ds) → ∃ ts : List (β × Addr), vs = ts.map (fun t => V.ref t.2) ∧ ts.map Prod.fst = bs ∧ ∀ t ∈ ts, Rep K M Z H (.ref t.2) (dd t.1)
  | [], _, .nil, _ => ⟨[], rfl, rfl, fun p hp => nomatch hp⟩
  | b :: bs, _, .cons (v := v) r t, h => by
    obtain ⟨ds, e⟩ := h b List.mem_cons_self
    obtain ⟨a, rfl⟩ : ∃ a, v = V.ref a := by
      rw [e] at r
      cases r <;> exact ⟨_, rfl⟩
    obtain ⟨ts, rfl, rfl, h2⟩ := reps_pa bs _ t fun c hc => h c (List.mem_cons_of_mem _ hc)
    exact ⟨(b, a) :: ts, rfl, rfl, fun p hp => (List.mem_cons.mp hp).elim (fun e => by rw [e]; exact r) (h2 p)⟩
theorem pa_reps {β : Type} {dd : β → D} {K : PySem.W.Frag} {M : Mp} {Z : Zn} {H : Hp} : ∀ (ts : List (β × Addr)), (∀ t ∈ ts, Rep K M Z H (.ref t.2) (dd t.1)) → Reps K M Z H (ts.map fun t => V.ref t.2) ((ts.map Prod.fst).map dd)
  | [], _ => .nil
  | t :: ts, h => .cons (h t List.mem_cons_self) (pa_reps ts fun y hy => h y (List.mem_cons_of_mem _ hy))
section
variable {X : Cx} {ρ : Rho} {M : Mp} {Φ : D → Mp → Prop} {e : Expr} {pos p : Pos}
theorem we_sortedA {β : Type} (dd : β → D) (enc : β → PyData) (hu : X.A.units + 80 < cLine) (hm : X.mg "sorted" = none) (h : WE X ρ M e fun d M1 => ∃ bs : List β, LstOf M1 d (bs.map dd) ∧ (∀ b ∈ bs, toPy (dd b) = some (enc b) ∧ (∃ ds, dd b = .tup ds) ∧ (enc b).depth ≤ 60) ∧ AllAlike (bs.map enc) ∧ Sortable (bs.map enc) ∧
      ∀ bs2 : List β, bs2.Perm bs → bs2.Pairwise (fun x y => dataLt (enc y) (enc x) = false) → Φ (.lst (bs2.map dd)) M1) (hg : Gl X "sorted" := by rfl)
    (he : starEach [e] X.env = (false, eval e X.env) :: starEach [] X.env := by rfl) (hpl : (backTo pos (starEach [] X.env)).any (·.1) = false := by rfl) : WE X ρ M (.Call (.Name "sorted" p) [e] [] pos) Φ :=
  we_callB (cr_sortA hu) hm (by decide +kernel) (wa_cons (h.imp fun d M1 hz => wa_nil fun Z vs H Q w rr k => by
    obtain ⟨bs, hl, hb, hal, hk, hz⟩ := hz
    obtain ⟨v, rfl, r1⟩ := rr.one
    obtain ⟨q, us, rfl, hq, rs⟩ := r1.asLst w hl
    obtain ⟨ts, rfl, rfl, hts⟩ := reps_pa bs us rs fun b h => (hb b h).2.1
    have em : (ts.map fun t => (enc t.1, t.2)).map (fun x : PA2 => V.ref x.2) = ts.map fun t => V.ref t.2 := by rw [List.map_map]; rfl
    have ee : (ts.map fun t => (enc t.1, t.2)).map (fun x : PA2 => x.1) = (ts.map Prod.fst).map enc := by rw [List.map_map, List.map_map]; rfl
    refine ⟨q, ts.map fun t => (enc t.1, t.2), rfl, by rw [em]; exact hq, fun x hx => ?_, by rw [ee]; exact hal, by rw [ee]; exact hk, fun L2 p pm srt hp => ?_⟩
    · obtain ⟨t, ht, rfl⟩ := List.mem_map.mp hx
      have b := hb t.1 (List.mem_map_of_mem ht)
      exact ⟨(hts t ht).dp b.1, b.2.2⟩
    · obtain ⟨t2, pm2, rfl⟩ := permMap (fun t : β × Addr => (enc t.1, t.2)) pm rfl
      rw [List.map_map]
      have x2 := Ext.new (o := HO.lst (t2.map fun t => V.ref t.2)) w hp
      exact k.new w hp (.lst upd_same (w.fresh hp) (pa_reps t2 fun t ht => (hts t (pm2.mem_iff.mp ht)).mono x2)) (hz _ (pm2.map Prod.fst) (List.pairwise_map.mpr (List.pairwise_map.mp srt)))) he) hg (he := he) (hpl := hpl)
end
end DL
namespace W
open PySem PySem.Spec PyProof.Rows L2 DL SX PL SlX
def mkN (m : Mk) : NestedKey := .tup [.text m.1, .text m.2]
theorem mkN_nk (m : Mk) : nkD (mkD m) = some (mkN m) := rfl
theorem mkN_dp (m : Mk) : (mkN m).depth ≤ 8 := by
  show NestedKey.depth (.tup [.text m.1, .text m.2]) ≤ 8
  simp [NestedKey.depth, NestedKey.depthAll]
theorem mkN_inj {a b : Mk} (h : mkN a = mkN b) : a = b := by
  unfold mkN at h
  simp only [NestedKey.tup.injEq, List.cons.injEq, NestedKey.text.injEq, and_true] at h
  exact Prod.ext h.1 h.2
theorem keyD_mk (m : Mk) : KeyD (mkD m) := ⟨_, mkN m, rfl, mkN_nk m, mkN_dp m⟩
section
variable {α : Type}
def kvG (f : α → D) (l : List (Mk × α)) : List (D × D) := l.map fun q => (mkD q.1, f q.2)
def lk (l : List (Mk × α)) (m : Mk) : Option α := (l.find? fun q => decide (q.1 = m)).map (·.2)
def put (l : List (Mk × α)) (m : Mk) (v : α) : List (Mk × α) := if (l.any fun q => decide (q.1 = m)) = true then l.map (fun q => if q.1 = m then (q.1, v) else q) else l ++ [(m, v)]
def del (l : List (Mk × α)) (m : Mk) : List (Mk × α) := l.filter fun q => decide (q.1 ≠ m)
theorem some_mk {a b : Mk} : (some (mkN a) = some (mkN b)) ↔ a = b := ⟨fun h => mkN_inj (Option.some.inj h), fun h => by rw [h]⟩
theorem val_kv (f : α → D) (l : List (Mk × α)) (m : Mk) : valDN (kvG f l) (mkN m) = (lk l m).map f := by
  unfold valDN kvG lk
  induction l with
  | nil => rfl
  | cons q l ih =>
    rw [List.map_cons]
    by_cases h : q.1 = m
    · rw [List.find?_cons_of_pos (by show decide (nkD (mkD q.1) = some (mkN m)) = true; rw [mkN_nk, h]; simp), List.find?_cons_of_pos (by simpa using h)]; rfl
    · rw [List.find?_cons_of_neg (by show ¬ decide (nkD (mkD q.1) = some (mkN m)) = true; rw [mkN_nk, decide_eq_true_eq, some_mk]; exact h), List.find?_cons_of_neg (by simpa using h)]
      exact ih
theorem items_kv (f : α → D) (l : List (Mk × α)) : itemsN (kvG f l) = l.map fun q => D.tup [mkD q.1, f q.2] := by
  unfold itemsN kvG; rw [List.map_map]; rfl
theorem keys_kv (f : α → D) (l : List (Mk × α)) : keysN (kvG f l) = (l.map Prod.fst).map mkD := by
  unfold keysN kvG; rw [List.map_map, List.map_map]; rfl
theorem keyD_kv {f : α → D} {l : List (Mk × α)} : ∀ q ∈ kvG f l, KeyD q.1 := fun q hq => by
  obtain ⟨x, _, rfl⟩ := List.mem_map.mp hq
  exact keyD_mk _
theorem nd_kv {f : α → D} {l : List (Mk × α)} (h : (l.map Prod.fst).Nodup) : ((kvG f l).map fun q => nkD q.1).Nodup := by
  have e : ((kvG f l).map fun q => nkD q.1) = (l.map Prod.fst).map fun m => some (mkN m) := by unfold kvG; rw [List.map_map, List.map_map]; rfl
  rw [e]
  exact List.pairwise_map.mpr (h.imp fun h z => h (some_mk.mp z))
theorem lk_cons (q : Mk × α) (l : List (Mk × α)) (m : Mk) : lk (q :: l) m = if q.1 = m then some q.2 else lk l m := by
  unfold lk
  by_cases h : q.1 = m
  · rw [if_pos h, List.find?_cons_of_pos (by simpa using h)]; rfl
  · rw [if_neg h, List.find?_cons_of_neg (by simpa using h)]
theorem lk_none {l : List (Mk × α)} {m : Mk} : lk l m = none ↔ m ∉ l.map Prod.fst := by
  induction l with
  | nil => simp [lk]
  | cons q l ih =>
    rw [lk_cons]
    by_cases h : q.1 = m
    · rw [if_pos h]; simp [h]
    · rw [if_neg h, ih, List.map_cons, List.mem_cons]
      exact ⟨fun z w => w.elim (fun e => h e.symm) z, fun z w => z (.inr w)⟩
theorem lk_mem {l : List (Mk × α)} {m : Mk} {v : α} (h : lk l m = some v) : (m, v) ∈ l := by
  induction l with
  | nil => simp [lk] at h
  | cons q l ih =>
    rw [lk_cons] at h
    by_cases e : q.1 = m
    · rw [if_pos e] at h
      cases h
      rw [← e]; exact List.mem_cons_self
    · rw [if_neg e] at h
      exact List.mem_cons_of_mem _ (ih h)
theorem lk_of {l : List (Mk × α)} (nd : (l.map Prod.fst).Nodup) {q : Mk × α} (h : q ∈ l) : lk l q.1 = some q.2 := by
  induction l with
  | nil => cases h
  | cons x l ih =>
    rw [List.map_cons] at nd
    have nd := List.nodup_cons.mp nd
    rw [lk_cons]
    rcases List.mem_cons.mp h with rfl | h
    · rw [if_pos rfl]
    · rw [if_neg (fun e => nd.1 (by rw [e]; exact List.mem_map_of_mem h))]
      exact ih nd.2 h
theorem lk_app (l l' : List (Mk × α)) (m : Mk) : lk (l ++ l') m = (lk l m).or (lk l' m) := by
  induction l with
  | nil => simp [lk]
  | cons q l ih =>
    rw [List.cons_append, lk_cons, lk_cons, ih]
    split <;> rfl
end
def kvI (l : List Pt) : List (D × D) := kvG D.int l
theorem items_I (l : List Pt) : itemsN (kvI l) = l.map ptD := items_kv _ _
def co (l : List Pt) (m : Mk) : Int := (lk l m).getD 0
structure IsSum (ps qs : List Pt) (t : Int) (rs : List Pt) : Prop where
  up : (rs.map Prod.fst).Pairwise fun a b => ltM a b = true
  nz : ∀ p ∈ rs, p.2 ≠ 0
  eq : ∀ m, co rs m = co ps m + t * co qs m
theorem up_nd {rs : List Pt} (h : (rs.map Prod.fst).Pairwise fun a b => ltM a b = true) : (rs.map Prod.fst).Nodup := ltM_nodup h
theorem co_mem {rs : List Pt} (nd : (rs.map Prod.fst).Nodup) {p : Pt} (h : p ∈ rs) : co rs p.1 = p.2 := by unfold co; rw [lk_of nd h]; rfl
theorem co_ne {rs : List Pt} {m : Mk} (h : co rs m ≠ 0) : (m, co rs m) ∈ rs := by
  unfold co at h ⊢
  cases e : lk rs m with
  | none => rw [e] at h; exact absurd rfl h
  | some v => exact lk_mem e
theorem asc_ext : ∀ {rs rs' : List Pt}, (rs.map Prod.fst).Pairwise (fun a b => ltM a b = true) → (rs'.map Prod.fst).Pairwise (fun a b => ltM a b = true) → (∀ p, p ∈ rs ↔ p ∈ rs') → rs = rs'
  | [], [], _, _, _ => rfl
  | [], p :: rs', _, _, h => by have := (h p).mpr List.mem_cons_self; cases this
  | p :: rs, [], _, _, h => by have := (h p).mp List.mem_cons_self; cases this
  | p :: rs, q :: rs', h1, h2, h => by
    rw [List.map_cons, List.pairwise_cons] at h1 h2
    have lt1 : ∀ x ∈ rs, ltM p.1 x.1 = true := fun x hx => h1.1 _ (List.mem_map_of_mem hx)
    have lt2 : ∀ x ∈ rs', ltM q.1 x.1 = true := fun x hx => h2.1 _ (List.mem_map_of_mem hx)
    have e : p = q := by
      rcases List.mem_cons.mp ((h p).mp List.mem_cons_self) with e | hp
      · exact e
      · rcases List.mem_cons.mp ((h q).mpr List.mem_cons_self) with e | hq
        · exact e.symm
        · have a := lt2 p hp
          have b := lt1 q hq
          have c := ltM_tr a b
          rw [ltM_irr] at c; cases c
    subst e
    rw [asc_ext h1.2 h2.2 fun x => ?_]
    have hx := h x
    rw [List.mem_cons, List.mem_cons] at hx
    constructor
    · intro hr
      rcases hx.mp (.inr hr) with e | h'
      · have a := lt1 x hr
        rw [e, ltM_irr] at a; cases a
      · exact h'
    · intro hr
      rcases hx.mpr (.inr hr) with e | h'
      · have a := lt2 x hr
        rw [e, ltM_irr] at a; cases a
      · exact h'
theorem co_ext {rs rs' : List Pt} (u1 : (rs.map Prod.fst).Pairwise fun a b => ltM a b = true) (u2 : (rs'.map Prod.fst).Pairwise fun a b => ltM a b = true) (n1 : ∀ p ∈ rs, p.2 ≠ 0) (n2 : ∀ p ∈ rs', p.2 ≠ 0) (h : ∀ m, co rs m = co rs' m) : rs = rs' := by
  refine asc_ext u1 u2 fun p => ⟨fun hp => ?_, fun hp => ?_⟩
  · have e := co_mem (up_nd u1) hp
    rw [h] at e
    have := co_ne (rs := rs') (m := p.1) (by rw [e]; exact n1 p hp)
    rw [e] at this; exact this
  · have e := co_mem (up_nd u2) hp
    rw [← h] at e
    have := co_ne (rs := rs) (m := p.1) (by rw [e]; exact n2 p hp)
    rw [e] at this; exact this
theorem IsSum.uni {ps qs rs rs' : List Pt} {t : Int} (h1 : IsSum ps qs t rs) (h2 : IsSum ps qs t rs') : rs = rs' := co_ext h1.up h2.up h1.nz h2.nz fun m => (h1.eq m).trans (h2.eq m).symm
theorem IsSum.key {ps qs rs : List Pt} {t : Int} (h : IsSum ps qs t rs) {p : Pt} (hp : p ∈ rs) : p.1 ∈ ps.map Prod.fst ∨ p.1 ∈ qs.map Prod.fst := by
  have e := co_mem (up_nd h.up) hp
  rw [h.eq] at e
  by_cases h1 : co ps p.1 = 0
  · by_cases h2 : co qs p.1 = 0
    · rw [h1, h2] at e
      exact absurd (by rw [← e]; simp) (h.nz p hp)
    · exact .inr (List.mem_map.mpr ⟨_, co_ne h2, rfl⟩)
  · exact .inl (List.mem_map.mpr ⟨_, co_ne h1, rfl⟩)
theorem IsSum.pts {ps qs rs : List Pt} {t : Int} (h : IsSum ps qs t rs) (h1 : Pts ps) (h2 : Pts qs) : Pts rs := ⟨fun p hp => by
  rcases h.key hp with k | k
  · obtain ⟨x, hx, e⟩ := List.mem_map.mp k
    have := h1.ok x hx
    rw [e] at this
    exact ⟨this.1, this.2.1, h.nz p hp⟩
  · obtain ⟨x, hx, e⟩ := List.mem_map.mp k
    have := h2.ok x hx
    rw [e] at this
    exact ⟨this.1, this.2.1, h.nz p hp⟩, h.up⟩
theorem IsSum.few {ps qs rs : List Pt} {t : Int} (h : IsSum ps qs t rs) : rs.length ≤ ps.length + qs.length := by
  have := nodup_sub (up_nd h.up) (m := ps.map Prod.fst ++ qs.map Prod.fst) fun x hx => by
    obtain ⟨p, hp, rfl⟩ := List.mem_map.mp hx
    exact List.mem_append.mpr (h.key hp)
  rw [List.length_map, List.length_append, List.length_map, List.length_map] at this
  exact this
/-- what a loop over a list of marks, all that matter, has made -/
theorem isSum_of {ps qs : List Pt} {t : Int} {ms : List Mk} {g : Mk → Int} (up : ms.Pairwise fun a b => ltM a b = true) (hg : ∀ m, g m = co ps m + t * co qs m) (all : ∀ m, g m ≠ 0 → m ∈ ms) : IsSum ps qs t ((ms.map fun m => (m, g m)).filter fun p => decide (p.2 ≠ 0)) := by
  have u0 : ((ms.map fun m => (m, g m)).map Prod.fst).Pairwise fun a b => ltM a b = true := by rw [List.map_map, show (Prod.fst ∘ fun m : Mk => (m, g m)) = id from rfl, List.map_id]; exact up
  have u1 : (((ms.map fun m => (m, g m)).filter fun p => decide (p.2 ≠ 0)).map Prod.fst).Pairwise fun a b => ltM a b = true := List.Pairwise.sublist (List.filter_sublist.map Prod.fst) u0
  refine ⟨u1, fun p hp => by simpa using (List.mem_filter.mp hp).2, fun m => ?_⟩
  rw [← hg]
  by_cases h : g m = 0
  · have : lk ((ms.map fun m => (m, g m)).filter fun p => decide (p.2 ≠ 0)) m = none := by
      rw [lk_none]
      intro z
      obtain ⟨p, hp, rfl⟩ := List.mem_map.mp z
      obtain ⟨h1, h2⟩ := List.mem_filter.mp hp
      obtain ⟨k, _, rfl⟩ := List.mem_map.mp h1
      simp at h2
      exact h2 h
    unfold co
    rw [this, h]; rfl
  · have : (m, g m) ∈ (ms.map fun m => (m, g m)).filter fun p => decide (p.2 ≠ 0) := List.mem_filter.mpr ⟨List.mem_map.mpr ⟨m, all m h, rfl⟩, by simpa using h⟩
    exact co_mem (up_nd u1) this
end W
namespace W
open PySem PySem.Spec PyProof.Rows L2 DL SX PL SlX
theorem pt_blk {X : Cx} {scope : Scope} {c : Expr} (s : Shared) (H0 : Hp) (C : Addr) (cl : List (Str × Addr)) (fp : List Addr) : PTs (X.blk s H0 scope (compEnvC scope cl C X.env) fp) [c] (tBlk X scope c) := pts_one ⟨fun pins s' σ' H' Q' I q => q s H0 C cl fp pins s' I⟩
theorem filt_snocG {α : Type} {f : α → Bool} {l : List α} {j : Nat} {z : α} (h : l[j]? = some z) : (l.take (j + 1)).filter f = (l.take j).filter f ++ if f z = true then [z] else [] := by
  rw [take_snoc h, List.filter_append]
  congr 1
  rw [List.filter_cons]
  split <;> rfl
end W
namespace W
open PySem PySem.Spec PyProof.Rows L2 DL SX PL SlX
def BdI (i : Int) : Prop := i.natAbs ≤ 10 ^ 60
def BdP (ps : List Pt) : Prop := ∀ p ∈ ps, BdI p.2
theorem bd0 : BdI 0 := by unfold BdI; decide +kernel
theorem cmulB {i j : Int} (h1 : BdI i) (h2 : BdI j) : CMulW i j := by
  have key : ∀ x : Int, BdI x → x.natAbs.log2 < 250 := fun x h => by
    by_cases h0 : x.natAbs = 0
    · rw [h0]; decide
    · exact (Nat.log2_lt h0).mpr (Nat.lt_of_le_of_lt h (by decide +kernel))
  have := key i h1
  have := key j h2
  unfold CMulW
  omega
theorem BdP.co {ps : List Pt} (h : BdP ps) (m : Mk) : BdI (co ps m) := by
  by_cases e : W.co ps m = 0
  · rw [e]; exact bd0
  · exact h _ (co_ne e)
theorem getD_co (l : List Pt) (m : Mk) : (valDN (kvI l) (mkN m)).getD (.int 0) = .int (co l m) := by
  unfold kvI
  rw [val_kv]
  unfold co
  cases lk l m <;> rfl
theorem frz2 {M : Mp} {q1 q2 : Addr} {o1 o2 : MO} (h1 : M q1 = none) (h2 : mset M q1 o1 q2 = none) : mdel (mdel (mset (mset M q1 o1) q2 o2) q1) q2 = M := by
  funext b
  unfold mdel mset
  by_cases e2 : b = q2
  · rw [if_pos e2]
    have ne : q2 ≠ q1 := fun e => by rw [e, mset_same] at h2; cases h2
    rw [mset_ne ne] at h2
    rw [e2, h2]
  · rw [if_neg e2]
    by_cases e1 : b = q1
    · rw [if_pos e1, e1, h1]
    · rw [if_neg e1, if_neg e2, if_neg e1]
theorem strs_mk (ns : List Mk) : (ns.map mkL).map (fun z => D.tup (z.map D.str)) = ns.map mkD := by rw [List.map_map]; rfl
section
variable {P : Program} {w : World} {K : PySem.W.Frag} {mg : Str → Option Value} {base : Heap} {C R U V : Addr}
abbrev nPut : List Str := ["one", "other", "times", "here", "there", "found", "mark", "many"]
def cPut (R : Addr) : Con := fun ds M Φ => ∃ ps n qs m t, ds = [fmD R ps n, fmD R qs m, .int t] ∧ Pts ps ∧ Pts qs ∧ ps.length ≤ 20 ∧ qs.length ≤ 20 ∧ BdP qs ∧ BdI m ∧ BdI t ∧ ∀ rs, IsSum ps qs t rs → Φ (fmD R rs (n + t * m)) M
theorem ok_put (F : Fx w K mg) (P1 : Pc P w K mg base R "parts" 1 (cFmGet R fun ps _ => .ptup (ps.map ptD))) (P2 : Pc P w K mg base R "number" 1 (cFmGet R fun _ n => .int n)) (KF : Kc P w K mg base "Form" R [] 4 3 (cFm R)) :
    BodyOk P w K mg base "put_together" s_put_together nPut 3 5 (cPut R) := by
  intro f cdv A outer s H E hr ds M Φ hl hc
  obtain ⟨ps, n, qs, m, t, rfl, hp, hq, lp, lq, bq, bm, bt, hc⟩ := hc
  have nd : nPut.Nodup := by decide +kernel
  have gD : mg "dict" = none := F.bn _ (by decide +kernel)
  have gS : mg "sorted" = none := F.bn _ (by decide +kernel)
  have gE : mg "set" = none := F.bn _ (by decide +kernel)
  have gT : mg "tuple" = none := F.bn _ (by decide +kernel)
  have u9 : (A.deeper (envOfC "put_together" (defScope s_put_together) s.heap.objs.size f cdv)).units + 9 < cLine := by have := hr.units; omega
  refine wss_cons (ws_asg (we_tup (wa_cons (we_dictPN hr.units gD (we_prop P1 (hr.mono (by omega)) (we_var 0 rfl ⟨_, insF, ps, n, rfl, kvI ps, .inr (by rw [items_I]), keyD_kv, nd_kv (up_nd hp.up), fun q1 h1 =>
    wa_cons (we_dictPN hr.units gD (we_prop P1 (hr.mono (by omega)) (we_var 1 rfl ⟨_, insF, qs, m, rfl, kvI qs, .inr (by rw [items_I]), keyD_kv, nd_kv (up_nd hq.up), fun q2 h2 => wa_nil ⟨sz2x, wg_tup ⟨rfl, rfl, wgs_cons (wg_name 3 (wgs_cons (wg_name 4 (wgs_nil ⟨rfl, ?_⟩) nd)) nd)⟩⟩⟩)))⟩))))))
  have ne : q2 ≠ q1 := fun e => by rw [e, mset_same] at h2; cases h2
  have m1 : mset (mset M q1 (.dN w (kvI ps))) q2 (.dN w (kvI qs)) q1 = some (.dN w (kvI ps)) := by rw [mset_ne (Ne.symm ne)]; exact mset_same
  have m2 : mdel (mset (mset M q1 (.dN w (kvI ps))) q2 (.dN w (kvI qs))) q1 q2 = some (.dN w (kvI qs)) := by rw [mdel_ne ne]; exact mset_same
  have fz := frz2 (o1 := .dN w (kvI ps)) (o2 := .dN w (kvI qs)) h1 h2
  show WSs _ [some (fmD R ps n), some (fmD R qs m), some (.int t), some (.ob q1), some (.ob q2), none, none, none] (mset (mset M q1 (.dN w (kvI ps))) q2 (.dN w (kvI qs))) _ _
  refine wss_frzN (i := 3) rfl m1 ?_
  refine wss_frzN (i := 4) rfl m2 ?_
  rw [fz]
  refine wss_cons (ws_setLc 5 nd (blkOk_by (N := nPut) (sc := defScope s_put_together) (own := [("mark", 6)]) (by decide +kernel)) (fun _ _ _ _ _ => pg_name (i := 6) nd rfl (Or.inl rfl)) (gt_name (by decide)) (fun _ _ _ _ _ => pts_nil) tk_nil
    (wi_list (we_sortedSetTx hr.units gS gE (we_lst (wa_starN (we_var 3 rfl ⟨_, rfl, wa_starN (we_var 4 rfl ⟨_, rfl, wa_nil fun ys e ys2 e2 => ?_⟩)⟩))))) rfl)
  rw [List.append_nil] at e
  subst e
  have eys : ys2 = ((ps.map Prod.fst ++ qs.map Prod.fst).map mkL).map fun z => D.tup (z.map D.str) := by
    rw [e2, strs_mk, List.map_append]
    show keysN (kvG D.int ps) ++ keysN (kvG D.int qs) = _
    rw [keys_kv, keys_kv]
  have lz : ((ps.map Prod.fst ++ qs.map Prod.fst).map mkL).length ≤ 40 := by rw [List.length_map, List.length_append, List.length_map, List.length_map]; omega
  refine ⟨by rw [eys, List.length_map, sizeLine_eq]; omega, (ps.map Prod.fst ++ qs.map Prod.fst).map mkL, by rw [eys]; exact rfl, by omega, fun z => ?_, fun zs hz => ?_⟩
  · obtain ⟨k, _, e⟩ := List.mem_map.mp z
    cases e
  obtain ⟨ns, rfl, up, hns, lns⟩ := upT_mk hz
  rw [strs_mk]
  refine ⟨_, .inl rfl, ?_⟩
  refine ⟨by rw [List.length_map, sizeLine_eq]; omega, fun i acc M' => M' = M ∧ acc = ((ns.take i).map fun k => (k, co ps k + t * co qs k)).map ptD, ⟨rfl, rfl⟩, ?_, ?_⟩
  · rintro i x acc M' hx ⟨rfl, rfl⟩
    rw [List.getElem?_map] at hx
    obtain ⟨u, hu, rfl⟩ := Option.map_eq_some_iff.mp hx
    intro s1 H1 C' cl fp
    refine we_tup (wa_cons (we_var 6 rfl (wa_cons (we_addI (we_getNR u9 (we_var 3 rfl ⟨_, rfl, we_var 6 rfl (we_int ⟨_, mkN u, rfl, mkN_nk u, mkN_dp u, ?_⟩)⟩))))))
    rw [getD_co]
    refine we_mulI (we_var 2 rfl (we_getNR u9 (we_var 4 rfl ⟨_, rfl, we_var 6 rfl (we_int ⟨_, mkN u, rfl, mkN_nk u, mkN_dp u, ?_⟩)⟩)))
    rw [getD_co]
    refine ⟨t, co qs u, rfl, rfl, cmulB bt (bq.co u), co ps u, t * co qs u, rfl, rfl, wa_nil ⟨sz2x, rfl, ?_⟩⟩
    rw [take_snoc hu, List.map_append, List.map_append]; rfl
  rintro acc M' ⟨rfl, rfl⟩
  rw [List.length_map, List.take_length]
  have hs : IsSum ps qs t ((ns.map fun k => (k, co ps k + t * co qs k)).filter fun p => decide (p.2 ≠ 0)) := isSum_of (g := fun k => co ps k + t * co qs k) up (fun _ => rfl) fun k hk => by
    rw [hns, List.mem_append]
    by_cases h1 : co ps k = 0
    · by_cases h2 : co qs k = 0
      · rw [h1, h2] at hk; simp at hk
      · exact .inr (List.mem_map.mpr ⟨_, co_ne h2, rfl⟩)
    · exact .inl (List.mem_map.mpr ⟨_, co_ne h1, rfl⟩)
  have hc := hc _ hs
  have hpts := hs.pts hp hq
  have hlen := hs.few
  have lfs : (ns.map fun k => (k, co ps k + t * co qs k)).length ≤ 64 := by rw [List.length_map]; omega
  generalize (ns.map fun k => (k, co ps k + t * co qs k)) = fs at hc hs hpts hlen lfs ⊢
  refine wss_cons (ws_ret (we_form KF (hr.mono (by omega)) (wa_cons (we_tupleP gT (we_lc nd (blkOk_by (N := nPut) (sc := defScope s_put_together) (own := [("mark", 6), ("many", 7)]) (by decide +kernel)) (fun _ _ _ _ _ => pg_tup rfl (pgs_cons (pg_name (i := 6) nd rfl (Or.inl rfl)) (pgs_cons (pg_name (i := 7) nd rfl (Or.inl rfl)) pgs_nil)) rfl rfl) (gt_two (by decide) (by decide)) pt_blk tk_one
    (wi_list (we_var 5 rfl ⟨_, .inl rfl, ?_⟩)))))))
  refine ⟨by rw [List.length_map, sizeLine_eq]; omega, fun i acc M2 => M2 = M' ∧ acc = ((fs.take i).filter fun p => decide (p.2 ≠ 0)).map ptD, ⟨rfl, rfl⟩, ?_, ?_⟩
  · rintro i x acc M2 hx ⟨rfl, rfl⟩
    rw [List.getElem?_map] at hx
    obtain ⟨u, hu, rfl⟩ := Option.map_eq_some_iff.mp hx
    refine ⟨_, _, rfl, ?_⟩
    intro s1 H1 C' cl fp
    refine wt_neS (we_var 7 rfl (we_int ⟨decide (u.2 = 0), rfl, ?_⟩))
    by_cases hz0 : u.2 = 0
    · rw [decide_eq_true hz0, if_neg (by simp)]
      exact ⟨rfl, by rw [filt_snocG hu, if_neg (by simp [hz0])]; simp⟩
    · rw [decide_eq_false hz0, if_pos (show (!false) = true from rfl)]
      intro s1 H1 C' cl fp
      refine we_tup (wa_cons (we_var 6 rfl (wa_cons (we_var 7 rfl (wa_nil ⟨sz2x, rfl, ?_⟩)))))
      rw [filt_snocG hu, if_pos (by simp [hz0]), List.map_append]; rfl
  rintro acc M2 ⟨rfl, rfl⟩
  rw [List.length_map, List.take_length]
  refine ⟨_, rfl, ?_⟩
  refine wa_cons (we_addI (we_prop P2 (hr.mono (by omega)) (we_var 0 rfl ⟨_, insF, ps, n, rfl, we_mulI (we_var 2 rfl (we_prop P2 (hr.mono (by omega)) (we_var 1 rfl ⟨_, insF, qs, m, rfl, ⟨t, m, rfl, rfl, cmulB bt bm, n, t * m, rfl, rfl, wa_nil ⟨_, _, rfl, hpts, Nat.le_trans hlen (by omega), Lets.of hc⟩⟩⟩)))⟩)))
end
end W
namespace W
open PySem PySem.Spec PyProof.Rows L2 DL SX PL SlX
theorem isSum_one {ps : List Pt} {t : Int} (h : Pts ps) : IsSum ps [] t ps := ⟨h.up, fun p hp => (h.ok p hp).2.2, fun m => by show co ps m = co ps m + t * 0; simp⟩
theorem co_neg : BdI (-1) := by unfold BdI; decide +kernel
theorem bd1 : BdI 1 := by unfold BdI; decide +kernel
section
variable {P : Program} {w : World} {K : PySem.W.Frag} {mg : Str → Option Value} {base : Heap} {C R U V : Addr}
def cIntF (R : Addr) : Con := fun ds M Φ => ∃ ps n, ds = [fmD R ps n, .non, .non] ∧ Φ (.bl false) M
theorem ok_int_f (F : Fx w K mg) (XO : OwnC K R) (hk : PySem.W.kitOne K (.ref R) (.type "int") = some false) : BodyOk P w K mg base "is_integer" s_is_integer ["value", "low", "high"] 3 0 (cIntF R) := by
  intro f cdv A outer s H E hr ds M Φ hl hc
  obtain ⟨ps, n, rfl, hc⟩ := hc
  refine wss_cons (ws_if (wt_ww (ww_or (wt_not (wt_val (we_isi (F.bn _ (by decide +kernel)) (we_var 0 rfl (we_bty (F.bn _ (by decide +kernel)) rfl ⟨.ref R, _, false, rfl, rfl, (by intro C h; cases h; exact XO), hk, _, rfl, ?_⟩))))))))
  exact wss_cons (ws_ret (we_bl (Lets.of hc)))
abbrev nSO : List Str := ["self", "other"]
/-- f + g, f - g -/
def cShF (R : Addr) (t : Int) : Con := fun ds M Φ => ∃ ps n qs m, ds = [fmD R ps n, fmD R qs m] ∧ Pts ps ∧ Pts qs ∧ ps.length ≤ 20 ∧ qs.length ≤ 20 ∧ BdP qs ∧ BdI m ∧ ∀ rs, IsSum ps qs t rs → Φ (fmD R rs (n + t * m)) M
theorem ok_add_f (F : Fx w K mg) (X : Fo K mg R) (XO : OwnC K R) (FI : Fc P w K mg base "is_integer" [.non, .non] 1 3 (cIntF R)) (FP : Fc P w K mg base "put_together" [] 6 3 (cPut R)) :
    BodyOk P w K mg base "Form.__add__" s_Form___add__ nSO 2 6 (cShF R 1) := by
  intro f cdv A outer s H E hr ds M Φ hl hc
  obtain ⟨ps, n, qs, m, rfl, hp, hq, lp, lq, bq, bm, hc⟩ := hc
  refine wss_cons (ws_if (wt_val (we_call FI (hr.mono (by omega)) (wa_cons (we_var 1 rfl (wa_nil ⟨rfl, qs, m, rfl, false, rfl, ?_⟩))))))
  refine wss_nil (wss_cons (ws_if (wt_not (wt_val (we_isi (F.bn _ (by decide +kernel)) (we_var 1 rfl (we_gref X.at_ (fun _ _ _ => .fn _) ⟨.ref R, .ref R, true, rfl, rfl, (by intro C h; cases h; exact XO), by unfold PySem.W.kitOne; simp, true, rfl, ?_⟩)))))))
  refine wss_nil (wss_cons (ws_ret (we_call FP (hr.mono (by omega)) (wa_cons (we_var 0 rfl (wa_cons (we_var 1 rfl (wa_cons (we_int (wa_nil ⟨rfl, ps, n, qs, m, 1, rfl, hp, hq, lp, lq, bq, bm, bd1, fun rs hs => Lets.of (hc rs hs)⟩))))))))))
theorem ok_sub_f (F : Fx w K mg) (X : Fo K mg R) (XO : OwnC K R) (FI : Fc P w K mg base "is_integer" [.non, .non] 1 3 (cIntF R)) (FP : Fc P w K mg base "put_together" [] 6 3 (cPut R)) :
    BodyOk P w K mg base "Form.__sub__" s_Form___sub__ nSO 2 6 (cShF R (-1)) := by
  intro f cdv A outer s H E hr ds M Φ hl hc
  obtain ⟨ps, n, qs, m, rfl, hp, hq, lp, lq, bq, bm, hc⟩ := hc
  refine wss_cons (ws_if (wt_val (we_call FI (hr.mono (by omega)) (wa_cons (we_var 1 rfl (wa_nil ⟨rfl, qs, m, rfl, false, rfl, ?_⟩))))))
  refine wss_nil (wss_cons (ws_if (wt_not (wt_val (we_isi (F.bn _ (by decide +kernel)) (we_var 1 rfl (we_gref X.at_ (fun _ _ _ => .fn _) ⟨.ref R, .ref R, true, rfl, rfl, (by intro C h; cases h; exact XO), by unfold PySem.W.kitOne; simp, true, rfl, ?_⟩)))))))
  refine wss_nil (wss_cons (ws_ret (we_call FP (hr.mono (by omega)) (wa_cons (we_var 0 rfl (wa_cons (we_var 1 rfl (wa_cons (we_negI (we_int ⟨1, rfl, wa_nil ⟨rfl, ps, n, qs, m, -1, rfl, hp, hq, lp, lq, bq, bm, co_neg, fun rs hs => Lets.of (hc rs hs)⟩⟩))))))))))
end
end W
namespace W
open PySem PySem.Spec PyProof.Rows L2 DL SX PL SlX
abbrev Row := List Pt × Int
theorem s_assoc (x y z : Str) : x ++ y ++ z = x ++ (y ++ z) := TL.ext_tl (by simp only [TL.tl_append, List.append_assoc])
def J (ws : List Str) : Str := Str.join " " ws
theorem J_cons (x : Str) {ws : List Str} (h : ws ≠ []) : J (x :: ws) = x ++ " " ++ J ws := by
  cases ws with
  | nil => exact absurd rfl h
  | cons y r => rfl
theorem J_app : ∀ {a b : List Str}, a ≠ [] → b ≠ [] → J (a ++ b) = J a ++ " " ++ J b
  | [], _, h, _ => absurd rfl h
  | [x], b, _, hb => by
    show J (x :: b) = _
    rw [J_cons x hb]; rfl
  | x :: y :: r, b, _, hb => by
    show J (x :: ((y :: r) ++ b)) = _
    rw [J_cons x (by simp), J_app (List.cons_ne_nil _ _) hb, J_cons x (ws := y :: r) (by simp)]
    simp only [s_assoc]
theorem J_flat : ∀ {xss : List (List Str)}, (∀ xs ∈ xss, xs ≠ []) → J (xss.map J) = J xss.flatten
  | [], _ => rfl
  | [xs], _ => by show J xs = J (xs ++ []); rw [List.append_nil]
  | xs :: ys :: r, h => by
    have h1 : (ys :: r).flatten ≠ [] := by
      have := h ys (List.mem_cons_of_mem _ List.mem_cons_self)
      cases e : ys with
      | nil => exact absurd e this
      | cons a b => simp
    show J (J xs :: (ys :: r).map J) = J (xs ++ (ys :: r).flatten)
    rw [J_cons _ (by simp), J_flat (fun z hz => h z (List.mem_cons_of_mem _ hz)), J_app (h xs List.mem_cons_self) h1]
def ab (i : Int) : Int := if i < 0 then -i else i
/-- the words of a term without its sign -/
def mkT (m : Mk) : Str := m.1 ++ "." ++ m.2
def tmW (k : Int) (m : Mk) : List Str := if k = 1 then [mkT m] else [(toString k : String), mkT m]
abbrev Tm := Int × List Str
def termsW (f : Row) : List Tm := (f.1.map fun p => (p.2, tmW (ab p.2) p.1)) ++ if f.2 ≠ 0 ∨ f.1 = [] then [(f.2, [Str.ofString (toString (ab f.2))])] else []
def headW : List Str → Bool → List Str
  | w :: ws, true => ("-" ++ w) :: ws
  | ws, _ => ws
def sgW (i : Int) : Str := if i < 0 then "-" else "+"
def wordsF (f : Row) : List Str := match termsW f with
  | [] => []
  | q :: r => headW q.2 (decide (q.1 < 0)) ++ (r.map fun z => sgW z.1 :: z.2).flatten
/-- the text of a Form -/
def T (f : Row) : Str := J (wordsF f)
theorem tmW_ne (k : Int) (m : Mk) : tmW k m ≠ [] := by
  unfold tmW
  split <;> simp
theorem terms_ne (f : Row) : termsW f ≠ [] := by
  unfold termsW
  by_cases h : f.1 = []
  · rw [if_pos (.inr h)]; simp
  · simp [h]
theorem terms_w (f : Row) : ∀ q ∈ termsW f, q.2 ≠ [] := by
  intro q hq
  unfold termsW at hq
  rcases List.mem_append.mp hq with hq | hq
  · obtain ⟨p, _, rfl⟩ := List.mem_map.mp hq
    exact tmW_ne _ _
  · split at hq
    · rw [List.mem_singleton.mp hq]; simp
    · cases hq
theorem headW_ne {ws : List Str} (h : ws ≠ []) (b : Bool) : headW ws b ≠ [] := by
  cases ws with
  | nil => exact absurd rfl h
  | cons w r => cases b <;> simp [headW]
theorem J_head {ws : List Str} (h : ws ≠ []) (b : Bool) : J (headW ws b) = (if b = true then ("-" : Str) else "") ++ J ws := by
  have e0 : ∀ x : Str, ("" : Str) ++ x = x := fun x => TL.ext_tl (by rw [TL.tl_append]; rfl)
  cases ws with
  | nil => exact absurd rfl h
  | cons w r =>
    cases b with
    | false => rw [if_neg (by simp), e0]; rfl
    | true =>
      rw [if_pos rfl]
      show J (("-" ++ w) :: r) = _
      cases r with
      | nil => rfl
      | cons y r =>
        rw [J_cons _ (by simp), J_cons w (by simp)]
        simp only [s_assoc]
/-- as the package writes it -/
theorem T_pkg {f : Row} {q : Tm} {r : List Tm} (e : termsW f = q :: r) : T f = J (((if decide (q.1 < 0) = true then ("-" : Str) else "") ++ J q.2) :: r.map fun z => sgW z.1 ++ " " ++ J z.2) := by
  have hw : ∀ z ∈ q :: r, z.2 ≠ [] := fun z hz => terms_w f z (by rw [e]; exact hz)
  have hq := hw q List.mem_cons_self
  unfold T wordsF
  rw [e]
  show J (headW q.2 (decide (q.1 < 0)) ++ (r.map fun z => sgW z.1 :: z.2).flatten) = _
  have e2 : (r.map fun z => sgW z.1 ++ " " ++ J z.2) = (r.map fun z => sgW z.1 :: z.2).map J := by
    rw [List.map_map]
    exact List.map_congr_left fun z hz => (J_cons _ (hw z (List.mem_cons_of_mem _ hz))).symm
  rw [e2, ← J_head hq]
  show _ = J ((headW q.2 (decide (q.1 < 0)) :: (r.map fun z => sgW z.1 :: z.2)).map J)
  rw [J_flat (fun xs hxs => ?_)]
  · rfl
  · rcases List.mem_cons.mp hxs with rfl | hxs
    · exact headW_ne hq _
    · obtain ⟨z, _, rfl⟩ := List.mem_map.mp hxs
      simp
/-- as the law writes it, term by term -/
theorem T_law {f : Row} {q : Tm} {r : List Tm} (e : termsW f = q :: r) : T f = r.foldl (fun acc z => acc ++ (if z.1 < 0 then (" - " : Str) else " + ") ++ J z.2) ((if decide (q.1 < 0) = true then ("-" : Str) else "") ++ J q.2) := by
  have hw : ∀ z ∈ q :: r, z.2 ≠ [] := fun z hz => terms_w f z (by rw [e]; exact hz)
  have hq := hw q List.mem_cons_self
  unfold T wordsF
  rw [e]
  show J (headW q.2 (decide (q.1 < 0)) ++ (r.map fun z => sgW z.1 :: z.2).flatten) = _
  rw [← J_head hq]
  have key : ∀ (r : List Tm) (A : List Str), A ≠ [] → (∀ z ∈ r, z.2 ≠ []) → J (A ++ (r.map fun z => sgW z.1 :: z.2).flatten) = r.foldl (fun acc z => acc ++ (if z.1 < 0 then (" - " : Str) else " + ") ++ J z.2) (J A) := by
    intro r
    induction r with
    | nil => intro A _ _; show J (A ++ []) = J A; rw [List.append_nil]
    | cons z r ih =>
      intro A hA hr
      rw [List.map_cons, List.flatten_cons, ← List.append_assoc, ih (A ++ (sgW z.1 :: z.2)) (by simp) fun x hx => hr x (List.mem_cons_of_mem _ hx), List.foldl_cons]
      congr 1
      rw [J_app hA (by simp), J_cons _ (hr z List.mem_cons_self)]
      have es : (if z.1 < 0 then (" - " : Str) else " + ") = " " ++ (sgW z.1 ++ " ") := by
        unfold sgW
        split <;> decide +kernel
      rw [es]
      simp only [s_assoc]
  exact key r _ (headW_ne hq _) fun z hz => hw z (List.mem_cons_of_mem _ hz)
end W
namespace DL
open PySem PySem.Spec PyProof.Rows L2
def tTupF (t : L2.TA) : TE := fun σ H Q => t σ H fun xs H1 => xs.length ≤ sizeLine ∧ ∀ p o, H1 p = none → o.dict = none → Q (.ref p) (upd H1 p (.frz o (.tup xs)))
section
variable {X : Cx} {ρ : Rho} {M : Mp} {Φ : D → Mp → Prop} {es : List Expr} {pos : Pos} {t : L2.TA}
theorem pe_tupF {k1 : Nat} (h : PA X es t) : PE X (.Tuple es k1 pos) (tTupF t) := by
  refine ⟨fun pins s σ H Q I hq => ?_⟩
  refine wpAny_Tuple_spliced (thn (h.run pos pins s σ H _ I hq) fun us s1 ⟨xs, H1, I1, r, z, q⟩ => ⟨by rw [← r.length]; exact z, ?_⟩)
  have hf : H1 s1.heap.objs.size = none := I1.hok.fresh (Nat.le_refl _)
  refine ⟨.ref s1.heap.objs.size, _, I1.laid (o := .frz { cls := .type "tuple", data := .seq us.toArray } (.tup xs)) (t' := s1.toks) (fun b u e => Heap.get?_push_of_some _ e) (Nat.le_refl _) ?_, rfl, q _ _ hf rfl⟩
  exact ⟨Heap.get?_push_size _ rfl, z, us, r, ⟨_, Heap.get?_push_size _ rfl, rfl, _, rfl⟩⟩
theorem we_tupF {k1 : Nat} (h : WA X ρ M es fun ds M1 => ds.length ≤ sizeLine ∧ Φ (.ptup ds) M1) : WE X ρ M (.Tuple es k1 pos) Φ := .mk fun σ H Q en w k =>
  eOf (pe_tupF pa_sem) (h.run σ H _ en w fun vs ds H1 M1 e1 w1 r1 hz => ⟨by rw [r1.length]; exact hz.1, fun p o hp hd => (k.step e1).new w1 hp (.ptup upd_same hd (w1.fresh hp) (r1.mono (Ext.new w1 hp))) hz.2⟩)
end
end DL
namespace DL
open PySem PySem.Spec PyProof.Rows L2
section
variable {X : Cx} {ρ : Rho} {M : Mp} {Φ : D → Mp → Prop} {Θ : Bool → Mp → Prop} {a b : Expr} {pos : Pos}
def rEqNil (K : PySem.W.Frag) : R2 := fun x y H Q => ∃ p q xs, x = V.ref p ∧ y = V.ref q ∧ SqL K H p xs ∧ SqL K H q [] ∧ Q (.bl xs.isEmpty) H
theorem op_eqNil (hu : X.A.units + 64 < cLine) : OpR X (compareOp .Eq) (rEqNil X.K) := by
  intro pins s σ H x y v u Q I rx ry h
  obtain ⟨p, q, xs, rfl, rfl, h1, h2, hq⟩ := h
  obtain rfl : v = Value.ref p := rx
  obtain rfl : u = Value.ref q := ry
  obtain ⟨i1, r1, l1, _⟩ := I.list h1
  obtain ⟨i2, r2, l2, _⟩ := I.list h2
  obtain ⟨o1, n1, g1, c1, d1, e1⟩ := l1
  obtain ⟨o2, n2, g2, c2, d2, e2⟩ := l2
  have l1 : s.heap.IsList p i1.toArray := ⟨o1, g1, c1, n1, e1⟩
  have l2 : s.heap.IsList q i2.toArray := ⟨o2, g2, c2, n2, e2⟩
  cases r2
  cases r1 with
  | nil =>
    refine SeqAt.eq_listAt (e := fun _ => true) l1 l2 rfl (by omega) (fun j h1 _ => absurd h1 (by simp)) ⟨.bl _, H, I, rfl, ?_⟩
    simpa using hq
  | cons ra rb =>
    exact SeqAt.eq_list_lengthsAt l1 l2 (by simp) (by omega) ⟨.bl _, H, I, rfl, hq⟩
theorem rd_eqNil {x y : D} (h : ∃ xs, x = .lst xs ∧ y = .lst [] ∧ Φ (.bl xs.isEmpty) M) : RD X.K (rEqNil X.K) x y M Φ := fun Z v u H Q w r1 r2 k => by
  obtain ⟨xs, rfl, rfl, h⟩ := h
  obtain ⟨p, vs, rfl, hp, rs⟩ := r1.lstKeep (.inl rfl)
  obtain ⟨q, us, rfl, hq, ts⟩ := r2.lstKeep (.inl rfl)
  cases ts
  refine ⟨p, q, vs, rfl, rfl, hp _ _ _ ExI.refl, hq _ _ _ ExI.refl, ?_⟩
  rw [isEmpty_len rs.length]
  exact k.now w (.bl _) h
theorem wt_eqNilA {lp : Pos} (hu : X.A.units + 64 < cLine) (h : WE X ρ M a fun x M1 => ∃ xs, x = .lst xs ∧ Θ xs.isEmpty M1) : WT X ρ M (.Compare a [.Eq] [.List [] lp] pos) Θ :=
  wt_cmp (op_eqNil hu) (nomark _) (h.imp fun x M1 ⟨xs, e, h⟩ => we_lst (wa_nil ⟨Nat.zero_le _, rd_eqNil ⟨xs, e, rfl, _, rfl, h⟩⟩))
end
end DL
namespace W
open PySem PySem.Spec PyProof.Rows L2 DL SX PL SlX
theorem s_nil (x : Str) : (Str.empty : Str) ++ x = x := TL.ext_tl (by rw [TL.tl_append]; rfl)
theorem s_len (x y : Str) : (x ++ y).length = x.length + y.length := by rw [TL.len_tl, TL.len_tl, TL.len_tl, TL.tl_append, List.length_append]
def BdM (m : Mk) : Prop := m.1.length ≤ 8 ∧ m.2.length ≤ 9
theorem num_short {k : Int} (h0 : 0 ≤ k) (h : BdI k) : (Str.ofString (toString k)).length ≤ 61 := by
  obtain ⟨n, rfl⟩ := Int.eq_ofNat_of_zero_le h0
  rw [num_S, S_len]
  exact TL.numL_len (by decide) (Nat.lt_of_le_of_lt (show n ≤ 10 ^ 60 from h) (by decide +kernel))
theorem bd_log {k : Int} (h : BdI k) : k.natAbs.log2 < 1920 := by
  by_cases h0 : k.natAbs = 0
  · rw [h0]; decide
  · exact Nat.lt_of_lt_of_le ((Nat.log2_lt h0).mpr (Nat.lt_of_le_of_lt h (show 10 ^ 60 < 2 ^ 250 by decide +kernel))) (by decide)
theorem mkT_len {m : Mk} (h : BdM m) : (mkT m).length ≤ 18 := by
  unfold mkT
  rw [s_len, s_len, show ("." : Str).length = 1 by decide +kernel]
  have := h.1; have := h.2
  omega
section
variable {P : Program} {w : World} {K : PySem.W.Frag} {mg : Str → Option Value} {base : Heap} {C R U V : Addr}
abbrev nTT : List Str := ["many", "mark", "name", "word", "text"]
def cTT : Con := fun ds M Φ => ∃ k m, ds = [.int k, mkD m] ∧ 0 ≤ k ∧ BdI k ∧ BdM m ∧ Φ (.str (J (tmW k m))) M
theorem ok_term_text (gDo : ∃ t, mg "DOT" = some (.str "." t)) : BodyOk P w K mg base "term_text" s_term_text nTT 2 0 cTT := by
  intro f cdv A outer s H E hr ds M Φ hl hc
  obtain ⟨k, m, rfl, hk0, hkb, bm, hc⟩ := hc
  have hk := bd_log hkb
  have nd : nTT.Nodup := by decide +kernel
  have l1 := bm.1
  have l2 := bm.2
  have lt := mkT_len bm
  have z : ∀ {n : Nat}, n ≤ 3000 → n ≤ sizeLine := fun h => by rw [sizeLine_eq]; omega
  refine wss_cons (ws_asg (we_var 1 rfl (wg_tup ⟨rfl, rfl, wgs_cons (wg_name 2 (wgs_cons (wg_name 3 (wgs_nil ⟨rfl, ?_⟩) nd)) nd)⟩)))
  refine wss_cons (ws_set 4 nd (we_fstr (we_fmt (we_var 2 rfl (.inl ⟨m.1, rfl, z (by omega), m.1, rfl, by rw [s_nil]; exact z (by omega), we_fmt (we_gstr gDo (.inl ⟨_, rfl, z (by decide +kernel), ".", rfl, ?_, we_fmt (we_var 3 rfl (.inl ⟨m.2, rfl, z (by omega), m.2, rfl, ?_, ?_⟩))⟩))⟩)))))
  · rw [s_nil, s_len, show ("." : Str).length = 1 by decide +kernel]; exact z (by omega)
  · rw [s_nil]
    exact z (by have := lt; unfold mkT at this; omega)
  have e : (Str.empty ++ m.1 ++ "." ++ m.2 : Str) = mkT m := by rw [s_nil]; rfl
  rw [e]
  refine wss_cons (ws_ret (we_if (wt_eqS (we_var 0 rfl (we_int ⟨decide (k = 1), rfl, ?_⟩)))))
  by_cases h1 : k = 1
  · rw [decide_eq_true h1]
    have : J (tmW k m) = mkT m := by unfold tmW; rw [if_pos h1]; rfl
    rw [this] at hc
    exact we_var 4 rfl (Lets.of hc)
  · rw [decide_eq_false h1]
    have e2 : J (tmW k m) = (Str.ofString (toString k)) ++ " " ++ mkT m := by unfold tmW; rw [if_neg h1]; rfl
    rw [e2] at hc
    have ln := num_short hk0 hkb
    refine we_fstr (we_fmt (we_var 0 rfl (.inr ⟨k, rfl, hk, _, rfl, ?_, we_str ⟨" ", rfl, ?_, we_fmt (we_var 4 rfl (.inl ⟨_, rfl, z (by omega), _, rfl, ?_, Lets.of ?_⟩))⟩⟩)))
    · rw [s_nil]; exact z (by omega)
    · rw [s_nil, s_len, show (" " : Str).length = 1 by decide +kernel]; exact z (by omega)
    · rw [s_nil, s_len, s_len, show (" " : Str).length = 1 by decide +kernel]; exact z (by omega)
    · rw [s_nil]; exact hc
theorem tmW_len {k : Int} {m : Mk} (h0 : 0 ≤ k) (h : BdI k) (hm : BdM m) : (J (tmW k m)).length ≤ 90 := by
  have := mkT_len hm
  unfold tmW
  split
  · show (mkT m).length ≤ 90
    omega
  · show (Str.ofString (toString k) ++ " " ++ mkT m).length ≤ 90
    rw [s_len, s_len, show (" " : Str).length = 1 by decide +kernel]
    have := num_short h0 h
    omega
def tmD (z : Tm) : D := .tup [.int z.1, .str (J z.2)]
def BdR (f : Row) : Prop := (∀ p ∈ f.1, BdM p.1 ∧ BdI p.2) ∧ f.1.length ≤ 20 ∧ BdI f.2
theorem ab_nn (i : Int) : 0 ≤ ab i := by unfold ab; split <;> omega
theorem ab_bd {i : Int} (h : BdI i) : BdI (ab i) := by
  have e : (ab i).natAbs = i.natAbs := by unfold ab; split <;> omega
  unfold BdI at h ⊢
  rw [e]; exact h
theorem terms_len {f : Row} (h : BdR f) : (∀ z ∈ termsW f, (J z.2).length ≤ 90) ∧ (termsW f).length ≤ 21 := by
  obtain ⟨h1, h2, h3⟩ := h
  refine ⟨fun z hz => ?_, ?_⟩
  · unfold termsW at hz
    rcases List.mem_append.mp hz with hz | hz
    · obtain ⟨p, hp, rfl⟩ := List.mem_map.mp hz
      exact tmW_len (ab_nn _) (ab_bd (h1 p hp).2) (h1 p hp).1
    · split at hz
      · rw [List.mem_singleton.mp hz]
        show (Str.ofString (toString (ab f.2))).length ≤ 90
        have := num_short (ab_nn _) (ab_bd h3)
        omega
      · cases hz
  · unfold termsW
    rw [List.length_append, List.length_map]
    split <;> simp <;> omega
abbrev nFt : List Str := ["self", "terms", "first", "mark", "many", "word"]
def brF : List Stmt := match ((defBody s_Form_text)[1]? : Option Stmt) with
  | some (Stmt.If _ a _ _) => a
  | _ => []
def cFtx (R : Addr) : Con := fun ds M Φ => ∃ ps n, ds = [fmD R ps n] ∧ BdR (ps, n) ∧ Φ (.str (T (ps, n))) M
theorem ok_form_text (F : Fx w K mg) (gMi : ∃ t, mg "MINUS" = some (.str "-" t)) (gPl : ∃ t, mg "PLUS" = some (.str "+" t)) (gBl : ∃ t, mg "BLANK" = some (.str " " t)) (P1 : Pc P w K mg base R "parts" 1 (cFmGet R fun ps _ => .ptup (ps.map ptD))) (P2 : Pc P w K mg base R "number" 1 (cFmGet R fun _ n => .int n)) (FT : Fc P w K mg base "term_text" [] 1 2 cTT) :
    BodyOk P w K mg base "Form.text" s_Form_text nFt 1 2 (cFtx R) := by
  intro f cdv A outer s H E hr ds M Φ hl hc
  obtain ⟨ps, n, rfl, br, hc⟩ := hc
  obtain ⟨bp, lp, bn⟩ := br
  have lp : ps.length ≤ 20 := lp
  have bn : BdI n := bn
  have nd : nFt.Nodup := by decide +kernel
  have gA : mg "abs" = none := F.bn _ (by decide +kernel)
  have gS : mg "str" = none := F.bn _ (by decide +kernel)
  refine wss_cons (ws_setLc 1 nd (blkOk_by (N := nFt) (sc := defScope s_Form_text) (own := [("many", 4), ("mark", 3)]) (by decide +kernel)) (fun _ _ _ _ _ => pg_tup rfl (pgs_cons (pg_name (i := 3) nd rfl (Or.inl rfl)) (pgs_cons (pg_name (i := 4) nd rfl (Or.inl rfl)) pgs_nil)) rfl rfl) (gt_two (by decide) (by decide)) (fun _ _ _ _ _ => pts_nil) tk_nil
    (wi_tup (we_unp (we_prop P1 (hr.mono (by omega)) (we_var 0 rfl ⟨_, insF, ps, n, rfl, _, rfl, _, rfl, ?_⟩)))) rfl)
  refine ⟨by rw [List.length_map, sizeLine_eq]; omega, fun j acc M2 => M2 = M ∧ acc = ((ps.take j).map fun p => ((p.2, tmW (ab p.2) p.1) : Tm)).map tmD, ⟨rfl, rfl⟩, ?_, ?_⟩
  · rintro j x acc M2 hx ⟨rfl, rfl⟩
    rw [List.getElem?_map] at hx
    obtain ⟨u, hu, rfl⟩ := Option.map_eq_some_iff.mp hx
    obtain ⟨b1, b2⟩ := bp u (List.mem_of_getElem? hu)
    refine ⟨_, _, rfl, ?_⟩
    intro s1 H1 C' cl fp
    refine we_tup (wa_cons (we_var 4 rfl (wa_cons (we_call FT (hr.mono (by omega)) (wa_cons (we_abs gA (we_var 4 rfl ⟨u.2, rfl, wa_cons (we_var 3 rfl (wa_nil ⟨rfl, ab u.2, u.1, rfl, ab_nn _, ab_bd b2, b1, wa_nil ⟨sz2x, rfl, ?_⟩⟩))⟩)))))))
    rw [take_snoc hu, List.map_append, List.map_append]; rfl
  rintro acc M2 ⟨rfl, rfl⟩
  rw [List.length_map, List.take_length]
  have fin : ∀ (ts : List Tm), ts = termsW (ps, n) → WSs (bx P w K mg base nFt "Form.text" (defScope s_Form_text) f cdv A outer s H E) [some (fmD R ps n), some (.lst (ts.map tmD)), none, none, none, none] M2 ((defBody s_Form_text).drop 2) { nx := fun _ M' => Φ .non M', rt := Lets Φ } := by
    intro ts hts
    obtain ⟨hz, hlen⟩ := terms_len (f := (ps, n)) ⟨bp, lp, bn⟩
    rw [← hts] at hz hlen
    cases ts with
    | nil => exact absurd hts.symm (terms_ne _)
    | cons q r =>
    have tp := T_pkg hts.symm
    rw [tp] at hc
    have lq := hz q List.mem_cons_self
    have z : ∀ {n : Nat}, n ≤ 3000 → n ≤ sizeLine := fun h => by rw [sizeLine_eq]; omega
    have first : ∀ {Ψ : DE} {ss : List Stmt}, WSs (bx P w K mg base nFt "Form.text" (defScope s_Form_text) f cdv A outer s H E) [some (fmD R ps n), some (.lst ((q :: r).map tmD)), some (.str ((if decide (q.1 < 0) = true then ("-" : Str) else "") ++ J q.2)), none, none, none] M2 ((defBody s_Form_text).drop 3) { nx := fun _ M' => Φ .non M', rt := Lets Φ } → WSs (bx P w K mg base nFt "Form.text" (defScope s_Form_text) f cdv A outer s H E) [some (fmD R ps n), some (.lst ((q :: r).map tmD)), none, none, none, none] M2 ((defBody s_Form_text).drop 2) { nx := fun _ M' => Φ .non M', rt := Lets Φ } := by
      intro Ψ ss h
      refine wss_cons (ws_set 2 nd (we_fstr (we_fmt (we_if (wt_ltI (we_ix (we_ix (we_var 1 rfl (we_int ⟨0, _, rfl, .inl ⟨_, rfl, atI_nat (j := 0) rfl⟩, we_int ⟨0, _, rfl, ixT (atI_nat (j := 0) rfl), we_int ⟨q.1, 0, rfl, rfl, ?_⟩⟩⟩)))))))))
      by_cases hneg : q.1 < 0
      · rw [decide_eq_true hneg] at h ⊢
        refine we_gstr gMi (.inl ⟨_, rfl, z (by decide +kernel), "-", rfl, by rw [s_nil]; exact z (by decide +kernel), we_fmt (we_ix (we_ix (we_var 1 rfl (we_int ⟨0, _, rfl, .inl ⟨_, rfl, atI_nat (j := 0) rfl⟩, we_int ⟨1, _, rfl, ixT (atI_nat (j := 1) rfl), .inl ⟨_, rfl, z (by omega), _, rfl, ?_, ?_⟩⟩⟩))))⟩)
        · rw [s_nil, s_len, show ("-" : Str).length = 1 by decide +kernel]; exact z (by omega)
        · rw [s_nil]; exact h
      · rw [decide_eq_false hneg] at h ⊢
        refine we_str (.inl ⟨_, rfl, z (by decide +kernel), "", rfl, by rw [s_nil]; exact z (by decide +kernel), we_fmt (we_ix (we_ix (we_var 1 rfl (we_int ⟨0, _, rfl, .inl ⟨_, rfl, atI_nat (j := 0) rfl⟩, we_int ⟨1, _, rfl, ixT (atI_nat (j := 1) rfl), .inl ⟨_, rfl, z (by omega), _, rfl, ?_, ?_⟩⟩⟩))))⟩)
        · rw [s_nil, s_len, show ("" : Str).length = 0 by decide +kernel]; exact z (by omega)
        · rw [s_nil]; exact h
    refine first (Ψ := { nx := fun _ M' => Φ .non M', rt := Lets Φ }) (ss := []) ?_
    have lF : ((if decide (q.1 < 0) = true then ("-" : Str) else "") ++ J q.2).length ≤ 91 := by
      rw [s_len]
      have : (if decide (q.1 < 0) = true then ("-" : Str) else "").length ≤ 1 := by split <;> decide +kernel
      omega
    revert lF
    generalize (if decide (q.1 < 0) = true then ("-" : Str) else "") ++ J q.2 = F1 at hc
    intro lF
    refine wss_cons (ws_ret (we_join (we_gstr gBl ⟨_, rfl, we_lst (wa_cons (we_var 2 rfl (wa_star (we_lc nd (blkOk_by (N := nFt) (sc := defScope s_Form_text) (own := [("many", 4), ("word", 5)]) (by decide +kernel)) (fun _ _ _ _ _ => pg_tup rfl (pgs_cons (pg_name (i := 4) nd rfl (Or.inl rfl)) (pgs_cons (pg_name (i := 5) nd rfl (Or.inl rfl)) pgs_nil)) rfl rfl) (gt_two (by decide) (by decide)) (fun _ _ _ _ _ => pts_nil) tk_nil
      (wi_list (we_slice (we_var 1 rfl (we_int ⟨_, rfl, _, .inl ⟨_, rfl, rfl⟩, _, .inl rfl, ?_⟩))))))))⟩)))
    rw [cut_fr1, show ((q :: r).map tmD).drop 1 = r.map tmD from rfl]
    have hz' : ∀ u ∈ r, (J u.2).length ≤ 90 := fun u hu => hz u (List.mem_cons_of_mem _ hu)
    have lr : r.length ≤ 20 := by have := hlen; rw [List.length_cons] at this; omega
    have lsg : ∀ u : Tm, (sgW u.1).length = 1 := fun u => by unfold sgW; split <;> decide +kernel
    refine ⟨by rw [List.length_map, sizeLine_eq]; omega, fun j acc M3 => M3 = M2 ∧ acc = ((r.take j).map fun u => (sgW u.1 ++ " " ++ J u.2 : Str)).map D.str, ⟨rfl, rfl⟩, ?_, ?_⟩
    · rintro j x acc M3 hx ⟨rfl, rfl⟩
      rw [List.getElem?_map] at hx
      obtain ⟨u, hu, rfl⟩ := Option.map_eq_some_iff.mp hx
      have lu := hz' u (List.mem_of_getElem? hu)
      refine ⟨_, _, rfl, ?_⟩
      intro s1 H1 C' cl fp
      have body : Φ (.str (sgW u.1 ++ " " ++ J u.2)) M3 → Φ (.str (sgW u.1 ++ " " ++ J u.2)) M3 := id
      refine we_fstr (we_fmt (we_if (wt_ltI (we_var 4 rfl (we_int ⟨u.1, 0, rfl, rfl, ?_⟩)))))
      have e1 : ((r.take j).map fun u => (sgW u.1 ++ " " ++ J u.2 : Str)).map D.str ++ [D.str (sgW u.1 ++ " " ++ J u.2)] = ((r.take (j + 1)).map fun u => (sgW u.1 ++ " " ++ J u.2 : Str)).map D.str := by
        rw [take_snoc hu, List.map_append, List.map_append]; rfl
      by_cases hneg : u.1 < 0
      · rw [decide_eq_true hneg]
        have es : sgW u.1 = "-" := by unfold sgW; rw [if_pos hneg]
        rw [es] at e1
        refine we_gstr gMi (.inl ⟨_, rfl, z (by decide +kernel), "-", rfl, by rw [s_nil]; exact z (by decide +kernel), we_str ⟨" ", rfl, ?_, we_fmt (we_var 5 rfl (.inl ⟨_, rfl, z (by omega), _, rfl, ?_, ?_⟩))⟩⟩)
        · rw [s_nil, s_len, show (" " : Str).length = 1 by decide +kernel, show ("-" : Str).length = 1 by decide +kernel]; exact z (by omega)
        · rw [s_nil, s_len, s_len, show (" " : Str).length = 1 by decide +kernel, show ("-" : Str).length = 1 by decide +kernel]; exact z (by omega)
        · rw [s_nil]; exact ⟨rfl, e1⟩
      · rw [decide_eq_false hneg]
        have es : sgW u.1 = "+" := by unfold sgW; rw [if_neg hneg]
        rw [es] at e1
        refine we_gstr gPl (.inl ⟨_, rfl, z (by decide +kernel), "+", rfl, by rw [s_nil]; exact z (by decide +kernel), we_str ⟨" ", rfl, ?_, we_fmt (we_var 5 rfl (.inl ⟨_, rfl, z (by omega), _, rfl, ?_, ?_⟩))⟩⟩)
        · rw [s_nil, s_len, show (" " : Str).length = 1 by decide +kernel, show ("+" : Str).length = 1 by decide +kernel]; exact z (by omega)
        · rw [s_nil, s_len, s_len, show (" " : Str).length = 1 by decide +kernel, show ("+" : Str).length = 1 by decide +kernel]; exact z (by omega)
        · rw [s_nil]; exact ⟨rfl, e1⟩
    rintro acc M3 ⟨rfl, rfl⟩
    rw [List.length_map, List.take_length]
    refine ⟨_, .inl rfl, wa_nil fun ys hy => ?_⟩
    subst hy
    rw [List.append_nil]
    refine ⟨by rw [List.length_cons, List.length_map, List.length_map, sizeLine_eq]; omega, F1 :: (r.map fun (u : Tm) => (sgW u.1 ++ " " ++ J u.2 : Str)), .inl rfl, ?_, ?_⟩
    · have hs : ∀ (l : List Tm), (∀ u ∈ l, (J u.2).length ≤ 90) → ((l.map fun (u : Tm) => (sgW u.1 ++ " " ++ J u.2 : Str)).map (·.length)).sum ≤ 92 * l.length := by
        intro l
        induction l with
        | nil => intro _; exact Nat.zero_le _
        | cons u l ih =>
          intro h
          have h1 := ih fun x hx => h x (List.mem_cons_of_mem _ hx)
          have h2 := h u List.mem_cons_self
          have h3 : (sgW u.1 ++ " " ++ J u.2 : Str).length ≤ 92 := by rw [s_len, s_len, lsg u, show (" " : Str).length = 1 by decide +kernel]; omega
          simp only [List.map_cons, List.sum_cons, List.length_cons]
          omega
      have h1 := hs r hz'
      rw [show (" " : Str).length = 1 by decide +kernel]
      simp only [List.map_cons, List.sum_cons, List.length_cons, List.length_map] at h1 ⊢
      omega
    · rw [TL.join_eq]; exact Lets.of hc
  have lT : (ps.map fun p => ((p.2, tmW (ab p.2) p.1) : Tm)).length = ps.length := List.length_map ..
  have body : ∀ Ψ : DE, termsW (ps, n) = (ps.map fun p => ((p.2, tmW (ab p.2) p.1) : Tm)) ++ [(n, [Str.ofString (toString (ab n))])] → Ψ.nx [some (fmD R ps n), some (.lst ((termsW (ps, n)).map tmD)), none, none, none, none] M2 → WSs (bx P w K mg base nFt "Form.text" (defScope s_Form_text) f cdv A outer s H E) [some (fmD R ps n), some (.lst ((ps.map fun p => ((p.2, tmW (ab p.2) p.1) : Tm)).map tmD)), none, none, none, none] M2 brF Ψ := by
    intro Ψ ht hΨ
    refine wss_cons (ws_set 1 nd (we_lst (wa_star (we_var 1 rfl ⟨_, .inl rfl, wa_cons (we_tup (wa_cons (we_prop P2 (hr.mono (by omega)) (we_var 0 rfl ⟨_, insF, ps, n, rfl, wa_cons (we_strI gS (we_abs gA (we_prop P2 (hr.mono (by omega)) (we_var 0 rfl ⟨_, insF, ps, n, rfl, n, rfl, ab n, rfl, bd_log (ab_bd bn), wa_nil ⟨sz2x, wa_nil fun ys hy => ?_⟩⟩))))⟩))))⟩))))
    subst hy
    have e : ((ps.map fun p => ((p.2, tmW (ab p.2) p.1) : Tm)).map tmD) ++ [D.tup [D.int n, D.str (Str.ofString (toString (ab n)))]] = (termsW (ps, n)).map tmD := by
      rw [ht, List.map_append]; rfl
    refine ⟨?_, ?_⟩
    · rw [List.length_append, List.length_map, List.length_map, List.length_singleton, sizeLine_eq]; omega
    · rw [← e] at hΨ
      exact wss_nil hΨ
  refine wss_cons (ws_if (wt_ww (ww_or (wt_neS (we_prop P2 (hr.mono (by omega)) (we_var 0 rfl ⟨_, insF, ps, n, rfl, we_int ⟨decide (n = 0), rfl, ?_⟩⟩))))))
  by_cases hn : n = 0
  · rw [decide_eq_true hn]
    refine ww_or1 (wt_eqNilA hr.units (we_var 1 rfl ⟨_, rfl, ?_⟩))
    by_cases hp : ps = []
    · subst hp
      refine body _ ?_ (fin _ rfl)
      unfold termsW; rw [if_pos (.inr rfl)]
    · have e : (List.isEmpty (List.map tmD (List.map (fun p => ((p.2, tmW (ab p.2) p.1) : Tm)) ps))) = false := by
        cases ps with
        | nil => exact absurd rfl hp
        | cons _ _ => rfl
      rw [e]
      refine wss_nil (fin _ ?_)
      unfold termsW; rw [if_neg (by rintro (h | h); exact h hn; exact hp h), List.append_nil]
  · rw [decide_eq_false hn]
    refine body _ ?_ (fin _ rfl)
    unfold termsW; rw [if_pos (.inl hn)]
end
end W
namespace W
open PySem PySem.Spec PyProof.Rows L2 DL SX PL SlX TL
theorem numL_head : ∀ {n : Nat}, 1 ≤ n → ∃ c r, numL n = c :: r ∧ c ≠ 48 := by
  intro n
  induction n using Nat.strongRecOn with
  | _ n ih =>
    intro h
    by_cases hn : n < 10
    · exact ⟨48 + n, [], numL_lt hn, by omega⟩
    · obtain ⟨c, r, e, hc⟩ := ih (n / 10) (by omega) (by omega)
      exact ⟨c, r ++ [48 + n % 10], by rw [numL_step (by omega), e, List.cons_append], hc⟩
theorem canon : ∀ (k : Nat) {l : List Nat}, l.length ≤ k → l ≠ [] → (∀ c ∈ l, 48 ≤ c ∧ c ≤ 57) → (l = [48] ∨ l.head? ≠ some 48) → ∃ n, l = numL n
  | 0, l, hk, h0, _, _ => absurd (List.length_eq_zero_iff.mp (by omega)) h0
  | k + 1, l, hk, h0, hd, hc => by
    obtain ⟨p, c, rfl⟩ : ∃ p c, l = p ++ [c] := ⟨_, _, (List.dropLast_concat_getLast h0).symm⟩
    have c1 := hd c (List.mem_append_right _ List.mem_cons_self)
    by_cases hp : p = []
    · subst hp
      refine ⟨c - 48, ?_⟩
      rw [numL_lt (by omega), List.nil_append, show 48 + (c - 48) = c by omega]
    · have hh : (p ++ [c]).head? = p.head? := by
        cases p with
        | nil => exact absurd rfl hp
        | cons a r => rfl
      have hne : p.head? ≠ some 48 := by
        rcases hc with e | e
        · have h1 := congrArg List.length e
          have h2 := List.length_pos_iff.mpr hp
          rw [List.length_append, List.length_singleton, List.length_singleton] at h1
          omega
        · rw [hh] at e; exact e
      obtain ⟨m, hm⟩ := canon k (l := p) (by rw [List.length_append, List.length_singleton] at hk; omega) hp (fun x hx => hd x (List.mem_append_left _ hx)) (.inr hne)
      have m1 : 1 ≤ m := by
        refine Nat.pos_of_ne_zero fun e => ?_
        subst e
        rw [hm, numL_lt (by decide)] at hne
        exact hne rfl
      refine ⟨10 * m + (c - 48), ?_⟩
      rw [numL_step (by omega), show (10 * m + (c - 48)) / 10 = m by omega, show (10 * m + (c - 48)) % 10 = c - 48 by omega, show 48 + (c - 48) = c by omega, ← hm]
theorem S_eqi {x y : List Nat} : (S x = S y) ↔ x = y := ⟨S_inj, fun h => by rw [h]⟩
theorem num_int_g (n : Nat) (h : (TL.numL n).length ≤ 600) : PySem.intText? (S (TL.numL n)) = some (n : Int) := by
  rw [← num_S]
  exact TL.int_num (by omega)
theorem dig_of (n : Nat) : ∀ c ∈ TL.numL n, figure c = true := fun c hc => by
  have q := TL.numL_digits n c hc
  show (decide (48 ≤ c) && decide (c ≤ 57)) = true
  rw [decide_eq_true q.1, decide_eq_true q.2]; rfl
theorem num_head0 {n : Nat} {r : List Nat} (h : TL.numL n = 48 :: r) : r = [] := by
  by_cases h0 : n = 0
  · subst h0
    rw [TL.numL_lt (by decide)] at h
    injection h with _ h; exact h.symm
  · obtain ⟨c, r2, e, h48⟩ := numL_head (n := n) (by omega)
    rw [e] at h
    injection h with h _; exact absurd h h48
section
variable {P : Program} {w : World} {K : PySem.W.Frag} {mg : Str → Option Value} {base : Heap}
def cNumG : Con := fun ds M Φ => ∃ l, ds = [tS l] ∧ l.length ≤ 600 ∧ (∀ n, l = TL.numL n → Φ (.int (n : Nat)) M) ∧ ((¬ ∃ n, l = TL.numL n) → Φ .non M)
theorem ok_number_in_g (F : Fx w K mg) (gFi : ∃ t, mg "FIGURES" = some (.str "0123456789" t)) : BodyOk P w K mg base "number_in" s_number_in ["text", "figure"] 1 0 cNumG := by
  intro f cdv A outer s H E hr ds M Φ hl hc
  obtain ⟨l, rfl, hlen, hc1, hc2⟩ := hc
  have nd : (["text", "figure"] : List Str).Nodup := by decide +kernel
  have e1 : decide (S l = ("" : Str)) = decide (l = []) := by rw [show ("" : Str) = S [] by decide +kernel]; exact decide_eq_decide.mpr S_eqi
  have e2 : decide (S l = ("0" : Str)) = decide (l = [48]) := by rw [show ("0" : Str) = S [48] by decide +kernel]; exact decide_eq_decide.mpr S_eqi
  refine wss_cons (ws_if (wt_ww (ww_or (wt_eqS (we_var 0 rfl (we_str ⟨_, rfl, ?_⟩))))))
  rw [e1]
  by_cases h0 : l = []
  · rw [decide_eq_true h0]
    exact wss_cons (ws_ret (we_non (Lets.of (hc2 fun ⟨n, e⟩ => TL.numL_ne n (e.symm.trans h0)))))
  rw [decide_eq_false h0]
  refine ww_or1 (wt_not (wt_val (we_all (F.bn _ (by decide +kernel)) (we_lc nd (blkOk_by (N := ["text", "figure"]) (sc := defScope s_number_in) (own := [("figure", 1)]) (by decide +kernel)) (fun _ _ _ _ _ => pg_name (i := 1) nd rfl (Or.inl rfl)) (gt_name (by decide)) (fun _ _ _ _ _ => pts_nil) tk_nil
        (wi_str (we_var 0 rfl ⟨_, rfl, ?_⟩))))))
  refine ⟨by rw [signs_S, List.length_map, sizeLine_eq]; omega, fun i acc M' => M' = M ∧ acc = (l.take i).map fun c => .bl (figure c), ⟨rfl, rfl⟩, ?_, ?_⟩
  · rintro i x acc M' hx ⟨rfl, rfl⟩
    obtain ⟨c, hc1, rfl⟩ := signs_get hx
    intro s1 H1 C cl fp
    refine we_inC (we_var 1 rfl (we_gstr gFi ⟨c, _, rfl, rfl, rfl, ?_⟩))
    rw [mem_figures, take_snoc hc1, List.map_append]; rfl
  · rintro acc M' ⟨rfl, rfl⟩
    rw [signs_S, List.length_map, List.take_length]
    refine ⟨l.map figure, by rw [List.map_map]; rfl, _, rfl, ?_⟩
    cases hd : (l.map figure).all id with
    | false =>
      refine wss_cons (ws_ret (we_non (Lets.of (hc2 ?_))))
      rintro ⟨n, rfl⟩
      rw [List.all_map, List.all_eq_true.mpr (show ∀ c ∈ TL.numL n, (id ∘ figure) c = true from fun c hc => dig_of n c hc)] at hd
      cases hd
    | true =>
      rw [List.all_map, List.all_eq_true] at hd
      have hdig : ∀ c ∈ l, 48 ≤ c ∧ c ≤ 57 := fun c hc => by
        have := hd c hc
        unfold figure at this
        simpa using this
      refine wss_nil (wss_cons (ws_ret (we_if (wt_ww (ww_or (wt_eqS (we_var 0 rfl (we_str ⟨_, rfl, ?_⟩))))))))
      rw [e2]
      have done : (l = [48] ∨ l.head? ≠ some 48) → WE (bx P w K mg base ["text", "figure"] "number_in" (defScope s_number_in) f cdv A outer s H E) [some (tS l), none] M' (match ((defBody s_number_in).getD 1 (.Pass ⟨0, 0, 0, 0⟩)) with | .Return (some (.IfExp _ b _ _)) _ => b | _ => .Constant .none 0 ⟨0, 0, 0, 0⟩) (Lets Φ) := fun hcan => by
        obtain ⟨n, rfl⟩ := canon l.length (Nat.le_refl _) h0 hdig hcan
        exact we_intS (F.bn _ (by decide +kernel)) (we_var 0 rfl ⟨_, _, rfl, num_int_g n hlen, by rw [S_len]; omega, Lets.of (hc1 n rfl)⟩)
      by_cases h48 : l = [48]
      · rw [decide_eq_true h48]
        exact done (.inl h48)
      · rw [decide_eq_false h48]
        obtain ⟨c, r, ec⟩ : ∃ c r, l = c :: r := by
          cases l with
          | nil => exact absurd rfl h0
          | cons c r => exact ⟨c, r, rfl⟩
        refine ww_or1 (wt_neS (we_ix (we_var 0 rfl (we_int ⟨0, _, rfl, .inr (.inr ⟨_, c, rfl, by rw [S_len, sizeLine_eq]; omega, by show atI l 0 = some c; rw [ec]; exact atI_nat (j := 0) rfl, rfl⟩), we_str ⟨_, rfl, ?_⟩⟩))))
        have e4 : decide ((⟨#[c]⟩ : Str) = ("0" : Str)) = decide (c = 48) := by
          rw [show (⟨#[c]⟩ : Str) = S [c] from rfl, show ("0" : Str) = S [48] by decide +kernel]
          exact decide_eq_decide.mpr (S_eqi.trans ⟨fun h => by injection h, fun h => by rw [h]⟩)
        rw [e4]
        by_cases hc48 : c = 48
        · rw [decide_eq_true hc48]
          refine we_non (Lets.of (hc2 ?_))
          rintro ⟨n, e⟩
          rw [ec, hc48] at e
          have := num_head0 e.symm
          exact h48 (by rw [ec, hc48, this])
        · rw [decide_eq_false hc48]
          exact done (.inr (by rw [ec]; intro e; injection e with e; exact hc48 e))
end
end W
namespace DL
open PySem PySem.Spec PyProof.Rows L2
section
variable {X : Cx} {ρ : Rho} {M : Mp} {Φ : D → Mp → Prop} {e o : Expr} {pos p p2 apos : Pos}
theorem we_split (h : WE X ρ M o fun d M1 => ∃ z, d = .str z ∧ WE X ρ M1 e fun y M2 => ∃ b, y = .str b ∧ (b.length == 0) = false ∧ z.length + 2 ≤ sizeLine ∧ Φ (.lst ((Txt.split z b).map D.str)) M2) (hs : starEach [e] X.env = [(false, eval e X.env)] := by rfl) (hbase : attributeBase o "split" X.env (eval o X.env) = eval o X.env := by rfl) (hline : (apos.endLine == pos.line) = true := by rfl) : WE X ρ M (.Call (.Attribute o "split" apos) [e] [] pos) Φ :=
  we_m1 F.slot_str_split F.type_str_split mt_split (h.imp fun d M1 ⟨z, e1, h⟩ => ⟨z, e1, h.imp fun y M2 ⟨b, e2, h1, h2, h⟩ Z H Q u w r k => by
    subst e2
    cases r
    exact ⟨z, b, rfl, rfl, h1, h2, fun q hq => k.new w hq (.lst upd_same (w.fresh hq) (Reps.ofStrs _)) h⟩⟩) hs hbase hline
end
end DL
namespace DL
open PySem PySem.Spec PyProof.Rows L2 SX PL SlX
section
variable {X : Cx} {ρ : Rho} {M : Mp} {Φ : D → Mp → Prop} {o e : Expr} {pos apos : Pos}
theorem we_removeprefix (h : WE X ρ M o fun d M1 => ∃ z, d = .str z ∧ WE X ρ M1 e fun y M2 => ∃ b, y = .str b ∧ z.length ≤ sizeLine ∧ Φ (.str (Txt.removeprefix z b)) M2) (hs : starEach [e] X.env = [(false, eval e X.env)] := by rfl) (hbase : attributeBase o "removeprefix" X.env (eval o X.env) = eval o X.env := by rfl) (hline : (apos.endLine == pos.line) = true := by rfl) : WE X ρ M (.Call (.Attribute o "removeprefix" apos) [e] [] pos) Φ :=
  we_m1 F.slot_str_removeprefix F.type_str_removeprefix mt_removeprefix (h.imp fun d M1 ⟨z, e1, h⟩ => ⟨z, e1, h.imp fun y M2 ⟨b, e2, h1, h⟩ Z H Q u w r k => by
    subst e2
    cases r
    exact ⟨z, b, rfl, rfl, h1, k.now w (.str _) h⟩⟩) hs hbase hline
end
end DL
namespace W
open PySem PySem.Spec PyProof.Rows L2 DL SX PL SlX
section
variable {P : Program} {w : World} {K : PySem.W.Frag} {mg : Str → Option Value} {base : Heap}
def mkIn (z : Str) : Option Mk := isMk (.tup ((Txt.split z ".").map AV.str))
def oMk : Option Mk → D
  | some m => mkD m
  | none => .non
def cMkIn : Con := fun ds M Φ => ∃ z : Str, ds = [.str z] ∧ z.length ≤ 1000 ∧ (∀ u ∈ Txt.split z ".", u.cps.toList.length ≤ 1000000) ∧ Φ (oMk (mkIn z)) M
theorem ok_mark_in (F : Fx w K mg) (gDo : ∃ t, mg "DOT" = some (.str "." t)) (F1 : Fc P w K mg base "is_mark" [] 2 1 cMarkA) : BodyOk P w K mg base "mark_in" s_mark_in ["word", "found"] 1 2 cMkIn := by
  intro f cdv A outer s H E hr ds M Φ hl hc
  obtain ⟨z, rfl, hz, hs, hc⟩ := hc
  have nd : (["word", "found"] : List Str).Nodup := by decide +kernel
  have eD : D.tup ((Txt.split z ".").map D.str) = avD (.tup ((Txt.split z ".").map AV.str)) := by
    rw [avD, avsD_map, List.map_map]
    congr 1
  refine wss_cons (ws_set 1 nd (we_tupleOf (F.bn _ (by decide +kernel)) (we_split (we_var 0 rfl ⟨_, rfl, we_gstr gDo ⟨_, rfl, by decide +kernel, by rw [sizeLine_eq]; omega, _, .inl rfl, ?_⟩⟩))))
  refine wss_cons (ws_ret (we_if (wt_val (we_call F1 (hr.mono (by omega)) (wa_cons (we_var 1 rfl (wa_nil ⟨rfl, .tup ((Txt.split z ".").map AV.str), by rw [← eD]; rfl, ?_, mkB (.tup ((Txt.split z ".").map AV.str)), rfl, ?_⟩)))))))
  · rintro l hl2 u hu
    injection hl2 with hl2
    subst hl2
    obtain ⟨y, hy, rfl⟩ := List.mem_map.mp hu
    intro x hx
    injection hx with hx
    subst hx
    exact hs _ hy
  unfold mkIn at hc
  unfold mkB
  cases e : isMk (.tup ((Txt.split z ".").map AV.str)) with
  | none =>
    rw [e] at hc
    exact we_non (Lets.of hc)
  | some m =>
    rw [e] at hc
    have e2 : D.tup ((Txt.split z ".").map D.str) = mkD m := by
      rw [eD, (isMk_some e).1, mkA_D]
    refine we_var 1 rfl ?_
    rw [e2]
    exact Lets.of hc
def wordsOf (z : Str) : List Str := match Txt.split z " " with
  | [] => []
  | q :: r => if Txt.startswith q "-" = true then "-" :: Txt.removeprefix q "-" :: r else "+" :: q :: r
def cWdOf : Con := fun ds M Φ => ∃ z : Str, ds = [.str z] ∧ z.length ≤ 1000 ∧ (Txt.split z " ").length ≤ 1000 ∧ (∀ u ∈ Txt.split z " ", u.length ≤ 1000) ∧ Txt.split z " " ≠ [] ∧ Φ (.lst ((wordsOf z).map D.str)) M
theorem ok_words_of (F : Fx w K mg) (gMi : ∃ t, mg "MINUS" = some (.str "-" t)) (gPl : ∃ t, mg "PLUS" = some (.str "+" t)) (gBl : ∃ t, mg "BLANK" = some (.str " " t)) : BodyOk P w K mg base "words_of" s_words_of ["text", "words"] 1 0 cWdOf := by
  intro f cdv A outer s H E hr ds M Φ hl hc
  obtain ⟨z, rfl, hz, hn, hw, hne, hc⟩ := hc
  have nd : (["text", "words"] : List Str).Nodup := by decide +kernel
  refine wss_cons (ws_set 1 nd (we_split (we_var 0 rfl ⟨_, rfl, we_gstr gBl ⟨_, rfl, by decide +kernel, by rw [sizeLine_eq]; omega, ?_⟩⟩)))
  unfold wordsOf at hc
  generalize Txt.split z " " = ws at hn hw hne hc ⊢
  cases ws with
  | nil => exact absurd rfl hne
  | cons q r =>
  have lr : r.length ≤ 1000 := by have := hn; rw [List.length_cons] at this; omega
  refine wss_cons (ws_if (wt_val (we_startswith (we_ix (we_var 1 rfl (we_int ⟨0, _, rfl, .inl ⟨_, rfl, atI_nat (j := 0) rfl⟩, q, rfl, we_gstr gMi ⟨_, rfl, _, rfl, ?_⟩⟩))))))
  by_cases hq : Txt.startswith q "-" = true
  · rw [hq]
    dsimp only at hc
    rw [if_pos hq] at hc
    refine wss_cons (ws_ret (we_lst (wa_cons (we_gstr gMi (wa_cons (we_removeprefix (we_ix (we_var 1 rfl (we_int ⟨0, _, rfl, .inl ⟨_, rfl, atI_nat (j := 0) rfl⟩, q, rfl, we_gstr gMi ⟨_, rfl, by have := hw q List.mem_cons_self; rw [sizeLine_eq]; omega, wa_star (we_slice (we_var 1 rfl (we_int ⟨_, rfl, _, .inl ⟨_, rfl, rfl⟩, _, .inl rfl, wa_nil fun ys hy => ?_⟩)))⟩⟩)))))))))
    subst hy
    rw [cut_fr1, List.append_nil, List.map_cons, List.drop_succ_cons, List.drop_zero]
    exact ⟨by rw [List.length_cons, List.length_cons, List.length_map, sizeLine_eq]; omega, Lets.of hc⟩
  · rw [Bool.not_eq_true] at hq
    rw [hq]
    dsimp only at hc
    rw [hq, if_neg (by decide)] at hc
    refine wss_nil (wss_cons (ws_ret (we_lst (wa_cons (we_gstr gPl (wa_star (we_var 1 rfl ⟨_, .inl rfl, wa_nil fun ys hy => ?_⟩)))))))
    subst hy
    rw [List.append_nil]
    exact ⟨by rw [List.length_cons, List.length_map, List.length_cons, sizeLine_eq]; omega, Lets.of hc⟩
end
end W
namespace W
open PySem PySem.Spec PyProof.Rows L2 DL SX PL SlX
def numP (z : Str) : Option Int := match PySem.intText? z with
  | some i => if 0 ≤ i ∧ Str.ofString (toString i) = z then some i else none
  | none => none
theorem numP_num {n : Nat} (h : (TL.numL n).length ≤ 600) : numP (S (TL.numL n)) = some (n : Int) := by
  unfold numP
  rw [num_int_g n h]
  dsimp only
  rw [if_pos ⟨by omega, num_S n⟩]
theorem numP_some {z : Str} {i : Int} (h : numP z = some i) : 0 ≤ i ∧ Str.ofString (toString i) = z := by
  unfold numP at h
  split at h
  · split at h
    · injection h with h; subst h; assumption
    · cases h
  · cases h
theorem numP_none {z : Str} (h : z.cps.toList.length ≤ 600) (hn : ¬ ∃ n, z.cps.toList = TL.numL n) : numP z = none := by
  cases e : numP z with
  | none => rfl
  | some i =>
    obtain ⟨h0, h1⟩ := numP_some e
    obtain ⟨n, rfl⟩ := Int.eq_ofNat_of_zero_le h0
    refine absurd ⟨n, ?_⟩ hn
    rw [← h1, num_S n]
def oN : Option Int → D
  | some i => .int i
  | none => .non
def endP (many : Option Int) (mark : Option Mk) (L : Nat) : Option Row := match many, mark with
  | some n, some m => if n = 0 ∨ 2 < L then none else some ([(m, n)], 0)
  | _, _ => none
def termP : List Str → Option Row
  | [] => none
  | q :: r => if r = [] ∧ (numP q).isSome = true then (numP q).map fun n => ([], n) else endP (if r = [] then some 1 else numP q) (mkIn ((q :: r).getLast (List.cons_ne_nil q r))) (q :: r).length
section
variable {P : Program} {w : World} {K : PySem.W.Frag} {mg : Str → Option Value} {base : Heap} {R : Addr}
def oFm (R : Addr) : Option Row → D
  | some f => fmD R f.1 f.2
  | none => .non
def cNumP : Con := fun ds M Φ => ∃ z : Str, ds = [.str z] ∧ z.length ≤ 600 ∧ Φ (oN (numP z)) M
theorem ok_number_in_p (F : Fx w K mg) (gFi : ∃ t, mg "FIGURES" = some (.str "0123456789" t)) : BodyOk P w K mg base "number_in" s_number_in ["text", "figure"] 1 0 cNumP := by
  intro f cdv A outer s H E hr ds M Φ hl hc
  obtain ⟨z, rfl, hz, hc⟩ := hc
  have hz : z.cps.toList.length ≤ 600 := by rw [Array.length_toList]; exact hz
  refine ok_number_in_g F gFi f cdv A outer s H E hr _ M Φ rfl ⟨z.cps.toList, by unfold tS; rw [S_toList], hz, fun n hn => ?_, fun hn => ?_⟩
  · have e : numP z = some (n : Int) := by
      have := numP_num (n := n) (by rw [← hn]; exact hz)
      rw [← hn, S_toList] at this; exact this
    rw [e] at hc; exact hc
  · rw [numP_none hz hn] at hc; exact hc
structure WdK (z : Str) : Prop where
  le : z.length ≤ 600
  sp : ∀ u ∈ Txt.split z ".", u.cps.toList.length ≤ 1000000
abbrev nTi : List Str := ["words", "many", "mark"]
def cTermIn (R : Addr) : Con := fun ds M Φ => ∃ ws : List Str, ds = [.lst (ws.map D.str)] ∧ ws ≠ [] ∧ ws.length ≤ 1000 ∧ (∀ u ∈ ws, WdK u) ∧ Φ (oFm R (termP ws)) M
theorem getL {α : Type} : ∀ {xs : List α} (h : xs ≠ []), atI xs (-1) = some (xs.getLast h) := fun {xs} h => by
  unfold atI ixN
  have := List.length_pos_iff.mpr h
  simp
  rw [if_pos (by omega), show (-1 + (xs.length : Int)).toNat = xs.length - 1 by omega, List.getLast_eq_getElem]
  exact List.getElem?_eq_getElem (by omega)
theorem ok_term_in (F : Fx w K mg) (gPa : ∃ t, mg "PAIR" = some (.int 2 t)) (FN : Fc P w K mg base "number_in" [] 1 1 cNumP) (FM : Fc P w K mg base "mark_in" [] 3 1 cMkIn) (KF : Kc P w K mg base "Form" R [] 4 3 (cFm R)) : BodyOk P w K mg base "term_in" s_term_in nTi 1 5 (cTermIn R) := by
  intro f cdv A outer s H E hr ds M Φ hl hc
  obtain ⟨ws, rfl, hne, hlen, hw, hc⟩ := hc
  have nd : nTi.Nodup := by decide +kernel
  have gL : mg "len" = none := F.bn _ (by decide +kernel)
  cases ws with
  | nil => exact absurd rfl hne
  | cons q r =>
  have hq := hw q List.mem_cons_self
  have hlast := hw _ (List.getLast_mem hne)
  have l1 : decide ((((q :: r).map D.str).length : Int) = 1) = decide (r = []) := by
    rw [List.length_map, List.length_cons]
    exact decide_eq_decide.mpr (by cases r <;> simp <;> omega)
  -- the rest, from the mark on
  have fin : ∀ many : Option Int, Lets Φ (oFm R (endP many (mkIn ((q :: r).getLast hne)) (q :: r).length)) M → WSs (bx P w K mg base nTi "term_in" (defScope s_term_in) f cdv A outer s H E) [some (.lst ((q :: r).map D.str)), some (oN many), none] M ((defBody s_term_in).drop 2) { nx := fun _ M' => Φ .non M', rt := Lets Φ } := by
    intro many hc
    have hat : atI ((q :: r).map D.str) (-1) = some (D.str ((q :: r).getLast hne)) := by
      rw [getL (by simp), List.getLast_map]
    refine wss_cons (ws_set 2 nd (we_call FM (hr.mono (by omega)) (wa_cons (we_ix (we_var 0 rfl (we_negI (we_int ⟨1, rfl, -1, _, rfl, ixL hat, wa_nil ⟨rfl, _, rfl, by have := hlast.le; omega, hlast.sp, ?_⟩⟩)))))))
    refine wss_cons (ws_if (wt_ww (ww_or (wt_isN (we_var 1 rfl ?_)))))
    cases many with
    | none => exact wss_cons (ws_ret (we_non hc))
    | some n =>
      show WW _ _ _ _ _
      refine ww_or (wt_eqS (we_var 1 rfl (we_int ⟨decide (n = 0), rfl, ?_⟩)))
      by_cases h0 : n = 0
      · rw [decide_eq_true h0]
        have e : endP (some n) (mkIn ((q :: r).getLast hne)) (q :: r).length = none := by
          unfold endP
          cases mkIn ((q :: r).getLast hne) with
          | none => rfl
          | some m => dsimp only; rw [if_pos (.inl h0)]
        rw [e] at hc
        exact wss_cons (ws_ret (we_non hc))
      · rw [decide_eq_false h0]
        refine ww_or (wt_isN (we_var 2 rfl ?_))
        cases hm : mkIn ((q :: r).getLast hne) with
        | none =>
          rw [hm] at hc
          exact wss_cons (ws_ret (we_non hc))
        | some m =>
          rw [hm] at hc
          show WW _ _ _ _ _
          refine ww_or1 (wt_gtI (we_len gL (we_var 0 rfl ⟨_, lenL, we_gint gPa ⟨_, _, rfl, rfl, ?_⟩⟩)))
          unfold endP at hc
          dsimp only at hc
          by_cases h2 : 2 < (q :: r).length
          · rw [decide_eq_true (by rw [List.length_map]; omega)]
            rw [if_pos (.inr h2)] at hc
            exact wss_cons (ws_ret (we_non hc))
          · rw [decide_eq_false (by rw [List.length_map]; omega)]
            rw [if_neg (by omega)] at hc
            obtain ⟨f1, f2, f3⟩ := isMk_some hm
            refine wss_nil (wss_cons (ws_ret (we_form KF hr (wa_cons (we_tupF (wa_cons (we_tup (wa_cons (we_var 2 rfl (wa_cons (we_var 1 rfl (wa_nil ⟨sz2x, wa_nil ⟨by rw [List.length_singleton, sizeLine_eq]; omega, wa_cons (we_int (wa_nil ⟨[(m, n)], 0, rfl, ⟨?_, ?_⟩, by simp, hc⟩))⟩⟩))))))))))))
            · intro p hp
              rw [List.mem_singleton.mp hp]
              exact ⟨f2, f3, h0⟩
            · exact List.pairwise_singleton _ _
  have qAt : atI ((q :: r).map D.str) 0 = some (D.str q) := atI_nat (j := 0) rfl
  -- many
  have mid : Lets Φ (oFm R (endP (if r = [] then some 1 else numP q) (mkIn ((q :: r).getLast hne)) (q :: r).length)) M → WSs (bx P w K mg base nTi "term_in" (defScope s_term_in) f cdv A outer s H E) [some (.lst ((q :: r).map D.str)), none, none] M ((defBody s_term_in).drop 1) { nx := fun _ M' => Φ .non M', rt := Lets Φ } := by
    intro hc
    refine wss_cons (ws_set 1 nd (we_if (wt_eqS (we_len gL (we_var 0 rfl ⟨_, lenL, we_int ⟨_, rfl, ?_⟩⟩)))))
    rw [l1]
    by_cases hr0 : r = []
    · rw [decide_eq_true hr0]
      rw [if_pos hr0] at hc
      exact we_int (fin (some 1) hc)
    · rw [decide_eq_false hr0]
      rw [if_neg hr0] at hc
      exact we_call FN (hr.mono (by omega)) (wa_cons (we_ix (we_var 0 rfl (we_int ⟨0, _, rfl, ixL qAt, wa_nil ⟨rfl, q, rfl, hq.le, fin _ hc⟩⟩))))
  have hc := Lets.of hc
  rw [show termP (q :: r) = if r = [] ∧ (numP q).isSome = true then (numP q).map fun n => ([], n) else endP (if r = [] then some 1 else numP q) (mkIn ((q :: r).getLast hne)) (q :: r).length from rfl] at hc
  refine wss_cons (ws_if (wt_ww (ww_and (wt_eqS (we_len gL (we_var 0 rfl ⟨_, lenL, we_int ⟨_, rfl, ?_⟩⟩))))))
  rw [l1]
  by_cases hr0 : r = []
  · rw [decide_eq_true hr0]
    refine ww_and1 (wt_notN (we_call FN (hr.mono (by omega)) (wa_cons (we_ix (we_var 0 rfl (we_int ⟨0, _, rfl, ixL qAt, wa_nil ⟨rfl, q, rfl, hq.le, ?_⟩⟩))))))
    cases hn : numP q with
    | none =>
      rw [if_neg (by rintro ⟨_, h⟩; rw [hn] at h; cases h)] at hc
      exact wss_nil (mid hc)
    | some n =>
      rw [if_pos ⟨hr0, by rw [hn]; rfl⟩, hn] at hc
      refine wss_cons (ws_ret (we_form KF hr (wa_cons (we_tupF (wa_nil ⟨Nat.zero_le _, wa_cons (we_call FN (hr.mono (by omega)) (wa_cons (we_ix (we_var 0 rfl (we_int ⟨0, _, rfl, ixL qAt, wa_nil ⟨rfl, q, rfl, hq.le, ?_⟩⟩)))))⟩)))))
      rw [hn]
      exact wa_nil ⟨[], n, rfl, ⟨fun p hp => (by cases hp), List.Pairwise.nil⟩, Nat.zero_le _, hc⟩
  · rw [decide_eq_false hr0]
    rw [if_neg (by rintro ⟨h, _⟩; exact hr0 h)] at hc
    exact wss_nil (mid hc)
end
end W
namespace W
open PySem PySem.Spec PyProof.Rows L2 DL SX PL SlX
open Classical in
noncomputable def sumP (ps qs : List Pt) (t : Int) : List Pt := if h : ∃ rs, IsSum ps qs t rs then h.choose else []
theorem sumP_of {ps qs rs : List Pt} {t : Int} (h : IsSum ps qs t rs) : sumP ps qs t = rs := by
  have e : ∃ rs, IsSum ps qs t rs := ⟨rs, h⟩
  unfold sumP
  rw [dif_pos e]
  exact e.choose_spec.uni h
def isSg (z : Str) : Bool := decide (z ∈ (["+", "-"] : List Str))
def sgI (s : Str) : Int := if s = "+" then 1 else -1
noncomputable def addP (f t : Row) (i : Int) : Row := (sumP f.1 t.1 i, f.2 + i * t.2)
noncomputable def goP : Nat → Row → List Str → Option Row
  | _, f, [] => some f
  | 0, _, _ :: _ => none
  | k + 1, f, s :: r => match termP (r.takeWhile fun z => !isSg z) with
    | none => none
    | some t => goP k (addP f t (sgI s)) (r.dropWhile fun z => !isSg z)
noncomputable def toldP (z : Str) : Option Row := match goP (wordsOf z).length ([], 0) (wordsOf z) with
  | some f => if T f = z then some f else none
  | none => none
def big : Nat := 10 ^ 45
structure WdT (z : Str) : Prop where
  k : WdK z
  n : ∀ i, numP z = some i → i.natAbs ≤ big
structure BdF (a : Nat) (f : Row) : Prop where
  p : Pts f.1
  l : f.1.length ≤ a
  c : ∀ q ∈ f.1, q.2.natAbs ≤ a * big
  n : f.2.natAbs ≤ a * big
theorem big_le : 20 * big ≤ 10 ^ 60 := by unfold big; decide +kernel
theorem one_big : 1 ≤ big := by unfold big; decide +kernel
theorem endP_some {many : Option Int} {mark : Option Mk} {L : Nat} {t : Row} (h : endP many mark L = some t) : ∃ n m, many = some n ∧ mark = some m ∧ n ≠ 0 ∧ t = ([(m, n)], 0) := by
  unfold endP at h
  split at h
  · split at h
    · cases h
    · rename_i h0
      injection h with h
      exact ⟨_, _, rfl, rfl, fun e => h0 (.inl e), h.symm⟩
  · cases h
theorem termP_bd {ws : List Str} {t : Row} (hw : ∀ u ∈ ws, WdT u) (h : termP ws = some t) : BdF 1 t := by
  cases ws with
  | nil => cases h
  | cons q r =>
    have hq := hw q List.mem_cons_self
    have h : (if r = [] ∧ (numP q).isSome = true then (numP q).map fun n => ([], n) else endP (if r = [] then some 1 else numP q) (mkIn ((q :: r).getLast (List.cons_ne_nil q r))) (q :: r).length) = some t := h
    split at h
    · cases e : numP q with
      | none => rw [e] at h; cases h
      | some n =>
        rw [e] at h
        injection h with h
        subst h
        exact ⟨⟨fun p hp => (nomatch hp), .nil⟩, Nat.zero_le _, fun p hp => (nomatch hp), by have := hq.n n e; show n.natAbs ≤ 1 * big; omega⟩
    · obtain ⟨n, m, e1, e2, h0, rfl⟩ := endP_some h
      obtain ⟨f1, f2, f3⟩ := isMk_some e2
      have hb : n.natAbs ≤ big := by
        split at e1
        · injection e1 with e1; subst e1; exact one_big
        · exact hq.n n e1
      refine ⟨⟨fun p hp => ?_, List.pairwise_singleton _ _⟩, Nat.le_refl _, fun p hp => ?_, by show 0 ≤ _; omega⟩
      · rw [List.mem_singleton.mp hp]; exact ⟨f2, f3, h0⟩
      · rw [List.mem_singleton.mp hp]
        show n.natAbs ≤ 1 * big
        omega
theorem sg_abs (s : Str) : (sgI s).natAbs = 1 := by unfold sgI; split <;> rfl
theorem BdF.add {a : Nat} {f t : Row} {i : Int} (hf : BdF a f) (ht : BdF 1 t) (hi : i.natAbs = 1) {rs : List Pt} (hs : IsSum f.1 t.1 i rs) : BdF (a + 1) (rs, f.2 + i * t.2) := by
  have hm : ∀ x : Int, (i * x).natAbs = x.natAbs := fun x => by rw [Int.natAbs_mul, hi, Nat.one_mul]
  have cb : ∀ (ps : List Pt) (b : Nat) (m : Mk), (∀ q ∈ ps, q.2.natAbs ≤ b) → (co ps m).natAbs ≤ b := fun ps b m h => by
    by_cases e : co ps m = 0
    · rw [e]; exact Nat.zero_le _
    · exact h _ (co_ne e)
  refine ⟨hs.pts hf.p ht.p, ?_, fun q hq => ?_, ?_⟩
  · have := hs.few; have := hf.l; have := ht.l
    show rs.length ≤ a + 1
    omega
  · have e : q.2 = co rs q.1 := (co_mem (up_nd hs.up) hq).symm
    rw [e, hs.eq]
    have h1 := cb _ _ q.1 hf.c
    have h2 := cb _ _ q.1 ht.c
    have h3 := hm (co t.1 q.1)
    have h4 := Int.natAbs_add_le (co f.1 q.1) (i * co t.1 q.1)
    rw [Nat.add_mul]
    omega
  · have h1 := hf.n
    have h2 := ht.n
    have h3 := hm t.2
    have h4 := Int.natAbs_add_le f.2 (i * t.2)
    show (f.2 + i * t.2).natAbs ≤ _
    rw [Nat.add_mul]
    omega
end W
namespace DL
open PySem PySem.Spec PyProof.Rows L2
section
variable {X : Cx} {ρ : Rho} {M : Mp} {Φ : D → Mp → Prop} {Θ : Bool → Mp → Prop} {a b : Expr} {pos : Pos}
theorem rd_outS {x y : D} (h : ∃ (z : Str) (zs : List Str), x = .str z ∧ (y = .tup (zs.map D.str) ∨ LstOf M y (zs.map D.str)) ∧ Φ (.bl (!decide (z ∈ zs))) M) : RD X.K (rIn X.K true) x y M Φ := fun Z v u H Q w r1 r2 k => by
  obtain ⟨z, zs, rfl, hy, h⟩ := h
  cases r1
  rcases hy with rfl | hy
  · obtain ⟨q, vs, rfl, hq, rs⟩ := r2.asTup
    rw [rs.strs] at hq
    exact ⟨q, _, rfl, .inr hq, rfl, flat_strs zs, by rw [inV_strs]; exact k.now w (.bl _) (by simpa using h)⟩
  · obtain ⟨q, vs, rfl, hq, rs⟩ := r2.asLst w hy
    rw [rs.strs] at hq
    exact ⟨q, _, rfl, .inl hq, rfl, flat_strs zs, by rw [inV_strs]; exact k.now w (.bl _) (by simpa using h)⟩
theorem wt_outS (h : WE X ρ M a fun x M1 => WE X ρ M1 b fun y M2 => ∃ (z : Str) (zs : List Str), x = .str z ∧ (y = .tup (zs.map D.str) ∨ LstOf M2 y (zs.map D.str)) ∧ Θ (!decide (z ∈ zs)) M2) (hm : behindInMarks .NotIn b = false := by rfl) : WT X ρ M (.Compare a [.NotIn] [b] pos) Θ :=
  wt_cmp op_notIn_seq hm (h.imp fun _ _ h => h.imp fun _ _ ⟨z, zs, e1, e2, h⟩ => rd_outS ⟨z, zs, e1, e2, _, rfl, h⟩)
end
end DL
namespace W
open PySem PySem.Spec PyProof.Rows L2 DL SX PL SlX
theorem we_formN {X : Cx} {ρ : Rho} {M : Mp} {Φ : D → Mp → Prop} {R : Addr} {p pos : Pos} {k : Nat} (F : Kc X.prog X.w X.K X.mg X.base "Form" R [.ptup [], .int 0] k 3 (W.cFm R)) (hr : Room (k + 1) X.A)
    (q : Φ (W.fmD R [] 0) M) (hg : Gl X "Form" := by rfl) : WE X ρ M (.Call (.Name "Form" p) [] [] pos) Φ :=
  we_make0 F hr (fun a ha => ⟨rfl, a, [], 0, rfl, ⟨fun p h => (nomatch h), .nil⟩, by decide, mset_same, rfl, by
    rw [mset_mset]
    exact ⟨_, M, les_new ha, .ins mset_same ha, q⟩⟩) hg
theorem cut_mid2 {α : Type} (xs : List α) {b i : Nat} (h : i ≤ xs.length) (hb : b ≤ i) : DL.cutD xs (some (b : Int)) (some (i : Int)) = (xs.take i).drop b := by
  unfold DL.cutD
  rw [HT.sIx_nat, HT.sIx_nat, Nat.min_eq_left h, Nat.min_eq_left (by omega), List.drop_take]
structure TxK (z : Str) : Prop where
  le : z.length ≤ 1000
  n : (Txt.split z " ").length ≤ 1000
  u : ∀ u ∈ Txt.split z " ", u.length ≤ 1000
  ne : Txt.split z " " ≠ []
  few : (wordsOf z).length ≤ 20
  w : ∀ u ∈ wordsOf z, WdT u
theorem BdF.mono {a b : Nat} {f : Row} (h : BdF a f) (hab : a ≤ b) : BdF b f := by
  have : a * big ≤ b * big := Nat.mul_le_mul_right _ hab
  exact ⟨h.p, Nat.le_trans h.l hab, fun q hq => Nat.le_trans (h.c q hq) this, Nat.le_trans h.n this⟩
theorem BdF.bd {a : Nat} {f : Row} (h : BdF a f) (ha : a ≤ 20) : BdR f := by
  have h := h.mono ha
  have hb := big_le
  refine ⟨fun p hp => ⟨⟨?_, ?_⟩, ?_⟩, h.l, ?_⟩
  · have := (fmN_all (h.p.ok p hp).1).2
    rw [Array.length_toList] at this
    exact this
  · have := (words_all (h.p.ok p hp).2.1).2
    rw [Array.length_toList] at this
    exact this
  · exact Nat.le_trans (h.c p hp) hb
  · exact Nat.le_trans h.n hb
section
variable {P : Program} {w : World} {K : PySem.W.Frag} {mg : Str → Option Value} {base : Heap} {R : Addr}
abbrev nTo : List Str := ["text", "words", "found", "at", "end", "term"]
def toB : List Stmt := match ((defBody s_form_told)[2]? : Option Stmt) with
  | some (Stmt.While _ b _ _) => b
  | _ => []
def cTold (R : Addr) : Con := fun ds M Φ => ∃ z : Str, ds = [.str z] ∧ TxK z ∧ Φ (oFm R (toldP z)) M
theorem ok_told (F : Fx w K mg) (gMi : ∃ t, mg "MINUS" = some (.str "-" t)) (gPl : ∃ t, mg "PLUS" = some (.str "+" t)) (XS : PySem.W.selfFirst K R = true) (WO : Fc P w K mg base "words_of" [] 1 1 cWdOf) (TI : Fc P w K mg base "term_in" [] 6 1 (cTermIn R)) (KF : Kc P w K mg base "Form" R [.ptup [], .int 0] 4 3 (cFm R)) (AF : Mc P w K mg base R "__add__" [] 7 2 (cShF R 1)) (SF : Mc P w K mg base R "__sub__" [] 7 2 (cShF R (-1))) (PT : Pc P w K mg base R "text" 3 (cFtx R)) : BodyOk P w K mg base "form_told" s_form_told nTo 1 7 (cTold R) := by
  intro f cdv A outer s H E hr ds M Φ hl hc
  obtain ⟨z, rfl, tk, hc⟩ := hc
  have nd : nTo.Nodup := by decide +kernel
  have gL : mg "len" = none := F.bn _ (by decide +kernel)
  refine wss_cons (ws_set 1 nd (we_if (wt_val (we_isi (F.bn _ (by decide +kernel)) (we_var 0 rfl (we_bty (F.bn _ (by decide +kernel)) rfl ⟨_, _, _, avTy M (.str z), rfl, (by intro C h; cases h), kit_str (.str z), _, rfl, ?_⟩))))))
  refine we_call WO (hr.mono (by omega)) (wa_cons (we_var 0 rfl (wa_nil ⟨rfl, z, rfl, tk.le, tk.n, tk.u, tk.ne, ?_⟩)))
  refine wss_cons (ws_par 2 3 nd (wa_cons (we_formN KF (hr.mono (by omega)) (wa_cons (we_int (wa_nil ⟨_, _, rfl, ?_⟩))))))
  have hfew := tk.few
  have hwd := tk.w
  unfold toldP at hc
  generalize wordsOf z = ws at hfew hwd hc ⊢
  refine wss_cons (ws_while PassesOwn.never (fun n ρ' M' => ∃ (a k : Nat) (fo : Row) (o4 o5 : Option D), ρ' = [some (.str z), some (.lst (ws.map D.str)), some (fmD R fo.1 fo.2), some (.int (a : Nat)), o4, o5] ∧ M' = M ∧ n = ws.length - a ∧ a ≤ ws.length ∧ BdF a fo ∧ ws.length - a ≤ k ∧ goP k fo (ws.drop a) = goP ws.length ([], 0) ws) ws.length ⟨0, ws.length, ([], 0), none, none, rfl, rfl, by omega, Nat.zero_le _, ⟨⟨fun p hp => (nomatch hp), .nil⟩, Nat.le_refl _, fun p hp => (nomatch hp), Nat.zero_le _⟩, by omega, rfl⟩ ?_)
  rintro n ρ' M' ⟨a, k, fo, o4, o5, rfl, hM, rfl, ha, hb, hk, hg⟩
  obtain rfl : M = M' := hM.symm
  refine wt_ltI (we_var 3 rfl (we_len gL (we_var 1 rfl ⟨_, lenL, _, _, rfl, rfl, ?_⟩)))
  by_cases e : a < ws.length
  · rw [decide_eq_true (show ((a : Nat) : Int) < ((ws.map D.str).length : Nat) by rw [List.length_map]; omega)]
    refine wss_cons (ws_set 4 nd (we_addI (we_var 3 rfl (we_int ⟨_, _, rfl, rfl, ?_⟩))))
    obtain ⟨k, rfl⟩ : ∃ k', k = k' + 1 := ⟨k - 1, by omega⟩
    have ed : ws.drop a = ws[a] :: ws.drop (a + 1) := List.drop_eq_getElem_cons e
    rw [ed] at hg
    have hat : atI (ws.map D.str) ((a : Nat) : Int) = some (.str ws[a]) := atI_nat (by rw [List.getElem?_map, List.getElem?_eq_getElem e]; rfl)
    -- after the inner loop
    have next : ∀ i : Nat, a + 1 ≤ i → i ≤ ws.length → (ws.drop (a + 1)).takeWhile (fun u => !isSg u) = (ws.take i).drop (a + 1) → (ws.drop (a + 1)).dropWhile (fun u => !isSg u) = ws.drop i → ∀ Ψ : DE, Ψ.rt = Lets Φ → (∀ (fo' : Row) (o4 o5 : Option D), BdF i fo' → goP k fo' (ws.drop i) = goP ws.length ([], 0) ws → Ψ.nx [some (.str z), some (.lst (ws.map D.str)), some (fmD R fo'.1 fo'.2), some (.int (i : Nat)), o4, o5] M) → WSs (bx P w K mg base nTo "form_told" (defScope s_form_told) f cdv A outer s H E) [some (.str z), some (.lst (ws.map D.str)), some (fmD R fo.1 fo.2), some (.int (a : Nat)), some (.int (i : Nat)), o5] M (toB.drop 2) Ψ := by
      intro i i1 i2 h3 h4 Ψ hrt hnx
      have hg2 : (match termP ((ws.take i).drop (a + 1)) with
          | none => none
          | some t => goP k (addP fo t (sgI ws[a])) (ws.drop i)) = goP ws.length ([], 0) ws := by
        rw [← hg, ← h3, ← h4]; rfl
      have hrw : ∀ u ∈ (ws.take i).drop (a + 1), WdT u := fun u hu => hwd u (List.mem_of_mem_take (List.mem_of_mem_drop hu))
      have hrl : ((ws.take i).drop (a + 1)).length = i - (a + 1) := by rw [List.length_drop, List.length_take]; omega
      have hcut : cutD (ws.map D.str) (some (((a : Nat) : Int) + 1)) (some ((i : Nat) : Int)) = ((ws.take i).drop (a + 1)).map D.str := by
        rw [show (((a : Nat) : Int) + 1) = ((a + 1 : Nat) : Int) by omega, cut_mid2 _ (by rw [List.length_map]; omega) i1, List.map_drop, List.map_take]
      generalize (ws.take i).drop (a + 1) = row at hg2 hrw hrl hcut
      have after : WSs (bx P w K mg base nTo "form_told" (defScope s_form_told) f cdv A outer s H E) [some (.str z), some (.lst (ws.map D.str)), some (fmD R fo.1 fo.2), some (.int (a : Nat)), some (.int (i : Nat)), some (oFm R (termP row))] M (toB.drop 3) Ψ := by
        refine wss_cons (ws_if (wt_isN (we_var 5 rfl ?_)))
        cases ht : termP row with
        | none =>
          rw [ht] at hg2
          rw [← hg2] at hc
          refine wss_cons (ws_ret (we_non ?_))
          show Ψ.rt .non M
          rw [hrt]
          exact Lets.of hc
        | some t =>
          rw [ht] at hg2
          dsimp only at hg2
          have bt := termP_bd hrw ht
          have hbig := big_le
          have l1 := hb.l
          have l2 := bt.l
          have fin2 : ∀ rs, IsSum fo.1 t.1 (sgI ws[a]) rs → WSs (bx P w K mg base nTo "form_told" (defScope s_form_told) f cdv A outer s H E) [some (.str z), some (.lst (ws.map D.str)), some (fmD R rs (fo.2 + sgI ws[a] * t.2)), some (.int (a : Nat)), some (.int (i : Nat)), some (fmD R t.1 t.2)] M (toB.drop 5) Ψ := by
            intro rs hs
            refine wss_cons (ws_set 3 nd (we_var 4 rfl (wss_nil (hnx (rs, fo.2 + sgI ws[a] * t.2) _ _ ((hb.add bt (sg_abs _) hs).mono i1) ?_))))
            rw [← hg2]
            unfold addP
            rw [sumP_of hs]
          have bq : BdP t.1 := fun p hp => Nat.le_trans (bt.c p hp) (by omega)
          have bm : BdI t.2 := Nat.le_trans bt.n (by omega)
          refine wss_nil (wss_cons (ws_set 2 nd (we_if (wt_eqS (we_ix (we_var 1 rfl (we_var 3 rfl ⟨_, _, rfl, ixL hat, we_gstr gPl ⟨decide (ws[a] = "+"), rfl, ?_⟩⟩)))))))
          by_cases hp : ws[a] = "+"
          · rw [decide_eq_true hp]
            have es : sgI ws[a] = 1 := by unfold sgI; rw [if_pos hp]
            rw [es] at fin2
            exact we_binO AF (hr.mono (by omega)) XS (we_var 2 rfl (we_var 5 rfl ⟨_, _, insF, insF, fo.1, fo.2, t.1, t.2, rfl, hb.p, bt.p, by omega, by omega, bq, bm, fun rs hs => ⟨⟨R, _, rfl⟩, fin2 rs hs⟩⟩))
          · rw [decide_eq_false hp]
            have es : sgI ws[a] = -1 := by unfold sgI; rw [if_neg hp]
            rw [es] at fin2
            exact we_binO SF (hr.mono (by omega)) XS (we_var 2 rfl (we_var 5 rfl ⟨_, _, insF, insF, fo.1, fo.2, t.1, t.2, rfl, hb.p, bt.p, by omega, by omega, bq, bm, fun rs hs => ⟨⟨R, _, rfl⟩, fin2 rs hs⟩⟩))
      refine wss_cons (ws_set 5 nd (we_if (wt_gtI (we_var 4 rfl (we_addI (we_var 3 rfl (we_int ⟨_, _, rfl, rfl, _, _, rfl, rfl, ?_⟩)))))))
      by_cases hgt : a + 1 < i
      · rw [decide_eq_true (show ((a : Nat) : Int) + 1 < (i : Nat) by omega)]
        refine we_call TI (hr.mono (by omega)) (wa_cons (we_slice (we_var 1 rfl (we_addI (we_var 3 rfl (we_int ⟨_, _, rfl, rfl, _, rfl, we_var 4 rfl ⟨_, rfl, _, .inl ⟨_, rfl, rfl⟩, wa_nil ⟨rfl, row, ?_, ?_, ?_, fun u hu => (hrw u hu).k, after⟩⟩⟩))))))
        · rw [hcut]; rfl
        · intro e0; rw [e0] at hrl; simp at hrl; omega
        · omega
      · rw [decide_eq_false (show ¬ ((a : Nat) : Int) + 1 < (i : Nat) by omega)]
        have e0 : row = [] := List.length_eq_zero_iff.mp (by omega)
        rw [e0] at after
        exact we_non after
    refine wss_cons (ws_while PassesOwn.never (fun n ρ' M' => ∃ (i : Nat), ρ' = [some (.str z), some (.lst (ws.map D.str)), some (fmD R fo.1 fo.2), some (.int (a : Nat)), some (.int (i : Nat)), o5] ∧ M' = M ∧ n = ws.length - i ∧ a + 1 ≤ i ∧ i ≤ ws.length ∧ (ws.drop (a + 1)).takeWhile (fun u => !isSg u) = (ws.take i).drop (a + 1) ++ (ws.drop i).takeWhile (fun u => !isSg u) ∧ (ws.drop (a + 1)).dropWhile (fun u => !isSg u) = (ws.drop i).dropWhile fun u => !isSg u) (ws.length - (a + 1)) ⟨a + 1, rfl, rfl, rfl, Nat.le_refl _, e, ?_, rfl⟩ ?_)
    · rw [show (ws.take (a + 1)).drop (a + 1) = [] from List.drop_eq_nil_of_le (by rw [List.length_take]; omega)]; rfl
    rintro n ρ' M' ⟨i, rfl, hM, rfl, i1, i2, i3, i4⟩
    obtain rfl : M = M' := hM.symm
    have out : ∀ Ψ : DE, Ψ.rt = Lets Φ → (∀ (fo' : Row) (o4 o5 : Option D), BdF i fo' → goP k fo' (ws.drop i) = goP ws.length ([], 0) ws → Ψ.nx [some (.str z), some (.lst (ws.map D.str)), some (fmD R fo'.1 fo'.2), some (.int (i : Nat)), o4, o5] M) → (ws.drop i).takeWhile (fun u => !isSg u) = [] → (ws.drop i).dropWhile (fun u => !isSg u) = ws.drop i → WSs (bx P w K mg base nTo "form_told" (defScope s_form_told) f cdv A outer s H E) [some (.str z), some (.lst (ws.map D.str)), some (fmD R fo.1 fo.2), some (.int (a : Nat)), some (.int (i : Nat)), o5] M (toB.drop 2) Ψ := fun Ψ h0 h1 h2 h3 => next i i1 i2 (by rw [i3, h2, List.append_nil]) (by rw [i4, h3]) Ψ h0 h1
    have back : ∀ (fo' : Row) (o4 o5 : Option D), BdF i fo' → goP k fo' (ws.drop i) = goP ws.length ([], 0) ws → ∃ m, m < ws.length - a ∧ ∃ (a k : Nat) (fo : Row) (o4' o5' : Option D), [some (.str z), some (.lst (ws.map D.str)), some (fmD R fo'.1 fo'.2), some (.int (i : Nat)), o4, o5] = [some (.str z), some (.lst (ws.map D.str)), some (fmD R fo.1 fo.2), some (.int (a : Nat)), o4', o5'] ∧ M = M ∧ m = ws.length - a ∧ a ≤ ws.length ∧ BdF a fo ∧ ws.length - a ≤ k ∧ goP k fo (ws.drop a) = goP ws.length ([], 0) ws := fun fo' o4 o5 b g => ⟨ws.length - i, by omega, i, k, fo', o4, o5, rfl, rfl, rfl, i2, b, by omega, g⟩
    refine wt_ww (ww_and (wt_ltI (we_var 4 rfl (we_len gL (we_var 1 rfl ⟨_, lenL, _, _, rfl, rfl, ?_⟩)))))
    by_cases e2 : i < ws.length
    · rw [decide_eq_true (show ((i : Nat) : Int) < ((ws.map D.str).length : Nat) by rw [List.length_map]; omega)]
      have hi : atI (ws.map D.str) ((i : Nat) : Int) = some (.str ws[i]) := atI_nat (by rw [List.getElem?_map, List.getElem?_eq_getElem e2]; rfl)
      have ei : ws.drop i = ws[i] :: ws.drop (i + 1) := List.drop_eq_getElem_cons e2
      refine ww_and1 (wt_outS (we_ix (we_var 1 rfl (we_var 4 rfl ⟨_, _, rfl, ixL hi, we_tup (wa_cons (we_gstr gPl (wa_cons (we_gstr gMi (wa_nil ⟨sz2x, ws[i], ["+", "-"], rfl, .inl rfl, ?_⟩)))))⟩))))
      show if (!isSg ws[i]) = true then _ else _
      cases hs : isSg ws[i] with
      | true =>
        refine out _ rfl back ?_ ?_
        · rw [ei, List.takeWhile_cons, hs]; rfl
        · rw [ei, List.dropWhile_cons, hs]; rfl
      | false =>
        refine wss_cons (ws_aug 4 ip_add rfl nd (we_int ?_))
        refine rd_I0 (g := fun i j => i + j) ⟨_, _, rfl, rfl, wss_nil ⟨ws.length - (i + 1), by omega, i + 1, rfl, rfl, rfl, by omega, e2, ?_, ?_⟩⟩
        · rw [i3, ei, List.takeWhile_cons, hs, List.take_succ_eq_append_getElem e2, List.drop_append_of_le_length (by rw [List.length_take]; omega), List.append_assoc]; rfl
        · rw [i4, ei, List.dropWhile_cons, hs]; rfl
    · rw [decide_eq_false (show ¬ ((i : Nat) : Int) < ((ws.map D.str).length : Nat) by rw [List.length_map]; omega)]
      have ei : ws.drop i = [] := List.drop_eq_nil_of_le (by omega)
      refine out _ rfl back ?_ ?_
      · rw [ei]; rfl
      · rw [ei]; rfl
  · rw [decide_eq_false (show ¬ ((a : Nat) : Int) < ((ws.map D.str).length : Nat) by rw [List.length_map]; omega)]
    have ea : ws.drop a = [] := List.drop_eq_nil_of_le (by omega)
    have eg : goP k fo [] = some fo := by cases k <;> rfl
    rw [ea, eg] at hg
    rw [← hg] at hc
    dsimp only at hc
    refine wss_cons (ws_ret (we_if (wt_eqS (we_prop PT (hr.mono (by omega)) (we_var 2 rfl ⟨_, insF, fo.1, fo.2, rfl, hb.bd (by omega), we_var 0 rfl ⟨decide (T fo = z), rfl, ?_⟩⟩)))))
    by_cases et : T fo = z
    · rw [decide_eq_true et]
      rw [if_pos et] at hc
      exact we_var 2 rfl (Lets.of hc)
    · rw [decide_eq_false et]
      rw [if_neg et] at hc
      exact we_non (Lets.of hc)
end
end W
namespace DL
open PySem PySem.Spec PyProof.Rows L2
section
variable {X : Cx} {CX : CXT} {k : Nat} {C p f : Addr} {fd : FuncData} {ps : List Str} {dvs : List V} {ds : List Value} {mc : Value} {sp : Sp} {E : XK} {o e : Expr} {es : List Expr} {m : Str} {pos apos : Pos} {ta : TE} {t : L2.TA} {pl : Sem Bool}
def tStat (C : Addr) (sp : Sp) (dvs : List V) (E : XK) (ta : TE) (t : L2.TA) : TE := fun σ H Q => ta σ H fun x H1 => x = V.ref C ∧ t σ H1 fun vs H2 => sp (vs ++ dvs) H2 Q E
theorem getmethst_ok {pins : List (Addr × Obj)} {σ : L2.St} {H : Hp} {s : Shared} {A : Around} {E : Value → Shared → Prop} {Q : Value × List Value → Shared → Prop} (I : Inv X pins σ H s) (r : ClX.CRead X.K C mc) (c : CStat X.K C mc m p f)
    (h : ∀ s', Inv X pins σ H s' → Q (.ref f, []) s') : wpAny (model X.prog X.w) A (getMethod (.ref C) m pl) Q E s := by
  obtain ⟨rest, hp⟩ := c.rc
  refine PySem.W.method_cls I.kIn r.ga (PySem.W.cls_bind I.kIn r.rd c.at_ ?_)
  exact wpAny_call (PySem.W.sm_get (s := { s with toks := s.toks + 1 }) I.kIn hp (PySem.W.handed_on rfl (h _ (I.tok _))))
theorem pe_stat (he : PE X o ta) (r : ClX.CRead X.K C mc) (c : CStat X.K C mc m p f) (F : FnOk X.prog X.w X.K X.mg X.base CX k f fd ps sp) (hr : Room k X.A) (hb : Binds X.K fd ps ds) (hd : Vals dvs ds) (hx : Passes CX X E) (ha : PA X (e :: es) t)
    (hst : starEach (e :: es) X.env = (false, eval e X.env) :: starEach es X.env := by rfl) (hpl : (backTo pos (starEach es X.env)).any (·.1) = false := by rfl)
    (ht : eval (.Call (.Attribute o m apos) (e :: es) [] pos) X.env = (do
      let ov ← eval o X.env
      standAt apos.atName
      let (f, first) ← holding [ov] (getMethod ov m pl)
      callWith pos f first (backTo pos (starEach (e :: es) X.env)) (backToKw pos (keywordEach [] X.env))) := by rfl) :
    PE X (.Call (.Attribute o m apos) (e :: es) [] pos) (tStat C sp dvs E ta t) := by
  refine ⟨fun pins s σ H Q I h => ?_⟩
  refine PySem.W.methodCall_KW (pl := pl) (thn (he.run pins s σ H _ I h) fun u s1 ⟨x, H1, I1, rx, ex, q⟩ => ?_) ht
  subst ex
  obtain rfl : u = Value.ref C := rx
  refine getmethst_ok I1 r c fun s2 I2 => ?_
  refine PySem.W.callWith_K (h₀ := X.base) I2.ok.mod.kin c.keep (thn (ha.run pos pins s2 σ H1 _ I2 q) fun us s3 ⟨vs, H2, I3, rv, q2⟩ => ⟨I3.kIn, ?_⟩) hst hpl
  exact run_fn F hr hb hd hx I3 rv q2
end
structure Stcx (P : Program) (w : World) (K : PySem.W.Frag) (mg : Str → Option Value) (base : Heap) (C : Addr) (m : Str) (k n : Nat) (c : ConX) : Prop where
  ex : ∃ (mc : Value) (p f : Addr) (fd : FuncData) (ps : List Str), ClX.CRead K C mc ∧ CStat K C mc m p f ∧ FnOk P w K mg base (CX P w) k f fd ps (spX K n c) ∧ Binds K fd ps []
section
variable {X : Cx} {ρ : Rho} {M : Mp} {Φ : D → Mp → Prop} {o e : Expr} {es : List Expr} {pos apos : Pos} {m : Str} {k n : Nat} {c : Con} {C : Addr} {pl : Sem Bool}
/-- .. which may raise -/
theorem wex_stat {c : ConX} {Ξ : Xi} (F : Stcx X.prog X.w X.K X.mg X.base C m k n c) (hr : Room k X.A) (h : WE X ρ M o fun d M1 => d = .fn C ∧ WA X ρ M1 (e :: es) fun ds M2 => ds.length = n ∧ c ds M2 Φ Ξ)
    (hst : starEach (e :: es) X.env = (false, eval e X.env) :: starEach es X.env := by rfl) (hpl : (backTo pos (starEach es X.env)).any (·.1) = false := by rfl)
    (ht : eval (.Call (.Attribute o m apos) (e :: es) [] pos) X.env = (do
      let ov ← eval o X.env
      standAt apos.atName
      let (f, first) ← holding [ov] (getMethod ov m pl)
      callWith pos f first (backTo pos (starEach (e :: es) X.env)) (backToKw pos (keywordEach [] X.env))) := by rfl) : WEx X ρ M (.Call (.Attribute o m apos) (e :: es) [] pos) Φ Ξ := .mk fun σ H Q E en w k t kx => by
  obtain ⟨mc, p, f, fd, ps, r, cs, F', hb⟩ := F.ex
  refine eOf (pe_stat (E := E) (pl := pl) pe_sem r cs F' hr hb .nil t.pass pa_sem hst hpl ht) (h.run σ H _ en w fun v d H1 M1 e1 w1 r1 hz => ?_)
  obtain ⟨rfl, hz⟩ := hz
  cases r1
  refine ⟨rfl, hz.run σ H1 _ (en.mono e1) w1 fun vs as H2 M2 e2 w2 r2 hy => ?_⟩
  exact spX_run (dd := []) r2 .nil w2 (by rw [List.append_nil]; exact hy) (k.step (e1.trans e2)) (kx.step (e1.trans e2))
/-- .. which does not raise here -/
theorem we_statN {c : ConX} (F : Stcx X.prog X.w X.K X.mg X.base C m k n c) (hr : Room k X.A) (h : WE X ρ M o fun d M1 => d = .fn C ∧ WA X ρ M1 (e :: es) fun ds M2 => ds.length = n ∧ c ds M2 Φ fun _ _ _ => False)
    (hst : starEach (e :: es) X.env = (false, eval e X.env) :: starEach es X.env := by rfl) (hpl : (backTo pos (starEach es X.env)).any (·.1) = false := by rfl)
    (ht : eval (.Call (.Attribute o m apos) (e :: es) [] pos) X.env = (do
      let ov ← eval o X.env
      standAt apos.atName
      let (f, first) ← holding [ov] (getMethod ov m pl)
      callWith pos f first (backTo pos (starEach (e :: es) X.env)) (backToKw pos (keywordEach [] X.env))) := by rfl) : WE X ρ M (.Call (.Attribute o m apos) (e :: es) [] pos) Φ := .mk fun σ H Q en w k => by
  obtain ⟨mc, p, f, fd, ps, r, cs, F', hb⟩ := F.ex
  refine eOf (pe_stat (E := fun _ _ _ => False) (pl := pl) pe_sem r cs F' hr hb .nil pass_no pa_sem hst hpl ht) (h.run σ H _ en w fun v d H1 M1 e1 w1 r1 hz => ?_)
  obtain ⟨rfl, hz⟩ := hz
  cases r1
  refine ⟨rfl, hz.run σ H1 _ (en.mono e1) w1 fun vs as H2 M2 e2 w2 r2 hy => ?_⟩
  exact spX_run (dd := []) r2 .nil w2 (by rw [List.append_nil]; exact hy) (k.step (e1.trans e2)) fun _ _ _ _ _ _ _ _ _ _ _ z => z
end
end DL
namespace PySem
open Builtin PySem.Calls
theorem dict_eq_declines_str (l : Addr) (es : Array DictEntry) (n : Nat) (dd : Option Addr) (sl : Array (Option Value)) (b : Str) (u : Tok) :
    Meets (Builtin.«dict.__eq__» ⟨[.ref l, .str b u], []⟩) (fun _ R s => s.heap.get? l = some { cls := .type "dict", dict := dd, data := .dict es n, slots := sl } ∧ R (.ok (.ret .notImplemented)) s) :=
  .of_wp fun prog w A R s h => by obtain ⟨hp, g, d, tk, os⟩ := s; obtain ⟨hl, h⟩ := h; have f1 := F.sub_str_dict; wp_walk using wpAny_loadPart' hl; exact ⟨_, rfl, h⟩
theorem str_eq_declines_dict (b : Str) (u : Tok) (l : Addr) (c : Value) (es : Array DictEntry) (n : Nat) (dd : Option Addr) (sl : Array (Option Value)) :
    Meets (Builtin.«str.__eq__» ⟨[.str b u, .ref l], []⟩) (fun _ R s => s.heap.get? l = some { cls := c, dict := dd, data := .dict es n, slots := sl } ∧ R (.ok (.ret .notImplemented)) s) :=
  .of_wp fun prog w A R s h => by obtain ⟨hp, g, d, tk, os⟩ := s; obtain ⟨hl, h⟩ := h; wp_walk using wpAny_loadPart' hl, wpAny_load hl; exact ⟨_, rfl, h⟩
end PySem
namespace DL
open PySem PySem.Spec PyProof.Rows L2
section
variable {X : Cx} {ρ : Rho} {M : Mp} {Φ : D → Mp → Prop} {Θ : Bool → Mp → Prop} {a b : Expr} {pos : Pos}
def rEqSD (K : PySem.W.Frag) : R2 := fun x y H Q => ∃ z q, x = V.str z ∧ y = V.ref q ∧ H q = some (.dK []) ∧ Q (.bl false) H
theorem op_eqSD (hu : X.A.units + 64 < cLine) : OpR X (compareOp .Eq) (rEqSD X.K) := by
  intro pins s σ H x y v u Q I rx ry h
  obtain ⟨z, q, rfl, rfl, ha, hq⟩ := h
  obtain ⟨t, rfl⟩ : ∃ t, v = Value.str z t := rx
  obtain rfl : u = Value.ref q := ry
  obtain ⟨_, hs, vs, kv, o, es, ep, ho, hx, hd, hk, hp, _⟩ := I.hok q _ ha
  obtain ⟨cls, dd, data, sl⟩ := o
  have hx1 := hx.1
  simp only at hx1 hd
  subst hx1 hd
  show wpAny _ _ (richCompare .Eq _ _) _ _ _
  exact SeqAt.rc_eq_decline_or (k := false) (typeIs_str s z t) ⟨_, ho, rfl⟩ (by decide) F.sub_dict_str F.slot_str_eq F.slot_dict_eq_refl
    (fun _ hq => call_meets F.slot_str_eq (typeIs_str s z t) F.entry_str_eq (F.args_str_eq_2 _ _) (str_eq_declines_dict z t q (.type "dict") es ep dd sl) ⟨ho, hq⟩)
    (fun _ hq => call_meets F.slot_dict_eq_refl ⟨_, ho, rfl⟩ F.entry_dict_eq (F.args_dict_eq_2 _ _) (dict_eq_declines_str q es ep dd sl z t) ⟨ho, hq⟩)
    (fun _ hq => wpAny_of_eq (rfl : isSame (.str z t) (.ref q) = pure false) hq) (.inr (by omega)) ⟨.bl _, H, I, rfl, hq⟩
theorem rd_eqSD {x y : D} (h : ∃ z, x = .str z ∧ y = .dK [] ∧ Φ (.bl false) M) : RD X.K (rEqSD X.K) x y M Φ := fun Z v u H Q w r1 r2 k => by
  obtain ⟨z, rfl, rfl, h⟩ := h
  cases r1
  cases r2 with
  | dK h1 m r =>
    cases r
    exact ⟨z, _, rfl, rfl, h1, k.now w (.bl _) h⟩
theorem wt_eqSD (hu : X.A.units + 64 < cLine) (h : WE X ρ M a fun x M1 => WE X ρ M1 b fun y M2 => ∃ z, x = .str z ∧ y = .dK [] ∧ Θ false M2) : WT X ρ M (.Compare a [.Eq] [b] pos) Θ :=
  wt_cmp (op_eqSD hu) (nomark _) (h.imp fun _ _ h => h.imp fun _ _ ⟨z, e1, e2, h⟩ => rd_eqSD ⟨z, e1, e2, _, rfl, h⟩)
end
end DL
namespace W
open PySem PySem.Spec PyProof.Rows L2 DL SX PL SlX
noncomputable def oldV : AV → Option Row
  | .str z => toldP z
  | _ => none
def VdA (v : AV) : Prop := (∃ z, v = .str z ∧ TxK z) ∨ (isS v = false ∧ ((∃ k, CmpD (avD v) (avP v) k ∧ k ≤ 60) ∨ v = .dic))
theorem T_zero : T ([], 0) = "0" := by decide +kernel
section
variable {P : Program} {w : World} {K : PySem.W.Frag} {mg : Str → Option Value} {base : Heap} {R U : Addr}
def cToldA (R : Addr) : Con := fun ds M Φ => ∃ v, ds = [avD v] ∧ VdA v ∧ Φ (oFm R (oldV v)) M
theorem ok_told_a (F : Fx w K mg) (gMi : ∃ t, mg "MINUS" = some (.str "-" t)) (gPl : ∃ t, mg "PLUS" = some (.str "+" t)) (XS : PySem.W.selfFirst K R = true) (WO : Fc P w K mg base "words_of" [] 1 1 cWdOf) (TI : Fc P w K mg base "term_in" [] 6 1 (cTermIn R)) (KF : Kc P w K mg base "Form" R [.ptup [], .int 0] 4 3 (cFm R)) (AF : Mc P w K mg base R "__add__" [] 7 2 (cShF R 1)) (SF : Mc P w K mg base R "__sub__" [] 7 2 (cShF R (-1))) (PT : Pc P w K mg base R "text" 3 (cFtx R)) : BodyOk P w K mg base "form_told" s_form_told nTo 1 7 (cToldA R) := by
  intro f cdv A outer s H E hr ds M Φ hl hc
  obtain ⟨v, rfl, hv, hc⟩ := hc
  rcases hv with ⟨z, rfl, tk⟩ | ⟨hn, hv⟩
  · exact ok_told F gMi gPl XS WO TI KF AF SF PT f cdv A outer s H E hr _ M Φ rfl ⟨z, by rw [avD], tk, hc⟩
  have nd : nTo.Nodup := by decide +kernel
  have gL : mg "len" = none := F.bn _ (by decide +kernel)
  have e0 : oldV v = none := by cases v <;> first | rfl | cases hn
  rw [e0] at hc
  refine wss_cons (ws_set 1 nd (we_if (wt_val (we_isi (F.bn _ (by decide +kernel)) (we_var 0 rfl (we_bty (F.bn _ (by decide +kernel)) rfl ⟨_, _, _, avTy M v, rfl, (by intro C h; cases h), kit_str v, _, rfl, ?_⟩))))))
  rw [hn]
  refine we_lst (wa_nil ⟨Nat.zero_le _, ?_⟩)
  refine wss_cons (ws_par 2 3 nd (wa_cons (we_formN KF (hr.mono (by omega)) (wa_cons (we_int (wa_nil ⟨_, _, rfl, ?_⟩))))))
  refine wss_cons (ws_while PassesOwn.never (fun n ρ' M' => ρ' = [some (avD v), some (.lst []), some (fmD R [] 0), some (.int 0), none, none] ∧ M' = M) 0 ⟨rfl, rfl⟩ ?_)
  rintro n ρ' M' ⟨rfl, hM⟩
  obtain rfl : M = M' := hM.symm
  refine wt_ltI (we_var 3 rfl (we_len gL (we_var 1 rfl ⟨_, lenL, _, _, rfl, rfl, ?_⟩)))
  rw [decide_eq_false (show ¬ (0 : Int) < (([] : List D).length : Nat) by decide)]
  have b0 : BdF 0 ([], 0) := ⟨⟨fun p hp => (nomatch hp), .nil⟩, Nat.le_refl _, fun p hp => (nomatch hp), Nat.zero_le _⟩
  rcases hv with ⟨k, hk, hk2⟩ | rfl
  · refine wss_cons (ws_ret (we_if (wt_eqD hr.units (we_prop PT (hr.mono (by omega)) (we_var 2 rfl ⟨_, insF, [], 0, rfl, b0.bd (by omega), we_var 0 rfl ⟨_, _, (cmp_str (x := T ([], 0)) (by rw [T_zero]; decide +kernel)).eq, hk.eq, (cmp_str (x := T ([], 0)) (by rw [T_zero]; decide +kernel)).shaped (by omega), hk.shaped (by omega), ?_⟩⟩)))))
    have e1 : PyData.eqv (.str (T ([], 0))) (avP v) = false := by
      cases v <;> first | rfl | cases hn | simp [avP, PyData.eqv]
    rw [e1]
    exact we_non (Lets.of hc)
  · exact wss_cons (ws_ret (we_if (wt_eqSD hr.units (we_prop PT (hr.mono (by omega)) (we_var 2 rfl ⟨_, insF, [], 0, rfl, b0.bd (by omega), we_var 0 rfl ⟨_, rfl, by rw [avD], we_non (Lets.of hc)⟩⟩)))))
end
end W
namespace W
open PySem PySem.Spec PyProof.Rows L2 DL SX PL SlX
section
variable {P : Program} {w : World} {K : PySem.W.Frag} {mg : Str → Option Value} {base : Heap} {R U : Addr}
abbrev nOf2 : List Str := ["text", "found"]
def cOfX (R U : Addr) : ConX := fun ds M Φ Ξ => ∃ v, ds = [avD v] ∧ VdA v ∧ ((∃ f : Row, oldV v = some f ∧ Φ (fmD R f.1 f.2) M) ∨ (oldV v = none ∧ Ξ U [("value", avD v)] M))
theorem ok_of_x (F : Fx w K mg) (E1 : XL.Er P K mg "BadText" U) (FT : Fc P w K mg base "form_told" [] 8 1 (cToldA R)) : BodyX P w K mg base "Form.of" s_Form_of nOf2 1 8 (cOfX R U) := by
  intro f cdv A outer s H E hr ds M Φ Ξ hl hc
  obtain ⟨v, rfl, hv, hc⟩ := hc
  have nd : nOf2.Nodup := by decide +kernel
  refine wssx_cons (WS.up (ws_set 1 nd (we_call FT (hr.mono (by omega)) (wa_cons (we_var 0 rfl (wa_nil ⟨rfl, v, rfl, hv, ?_⟩))))))
  refine wssx_cons (wsx_if (WT.up (wt_isN (we_var 1 rfl ?_))))
  rcases hc with ⟨fo, h, hc⟩ | ⟨h, hx⟩
  · rw [h]
    exact wssx_nil (wssx_cons (WS.up (ws_ret (we_var 1 rfl (Lets.of hc)))))
  · rw [h]
    exact wssx_cons (wsx_raise rfl E1 hr (we_var 0 rfl ⟨_, _, Les.refl, .same _, hx⟩))
end
end W
namespace W
open PySem PySem.Spec PyProof.Rows L2 DL SX PL SlX
def sgF (i : Int) : Str := if i < 0 then "-" else ""
def sgN (i : Int) : Str := if i < 0 then " - " else " + "
def stp (acc : Str) (z : Tm) : Str := if acc = "" then sgF z.1 ++ J z.2 else acc ++ sgN z.1 ++ J z.2
def tmP (p : Pt) : Tm := (p.2, tmW (ab p.2) p.1)
def fdT (ps : List Pt) : Str := (ps.map tmP).foldl stp ""
theorem str_len0 {x : Str} : x = "" ↔ x.length = 0 := by
  constructor
  · rintro rfl; decide +kernel
  · intro h
    refine TL.ext_tl ?_
    rw [TL.len_tl] at h
    rw [List.length_eq_zero_iff.mp h]; rfl
theorem fdT_snoc (ps : List Pt) (u : Pt) : fdT (ps ++ [u]) = stp (fdT ps) (tmP u) := by unfold fdT; rw [List.map_append, List.foldl_append]; rfl
theorem mkT_pos (m : Mk) : (mkT m).length ≠ 0 := by
  unfold mkT
  rw [s_len, s_len, show ("." : Str).length = 1 by decide +kernel]; omega
theorem tmW_pos (k : Int) (m : Mk) : (J (tmW k m)).length ≠ 0 := by
  have := mkT_pos m
  unfold tmW
  split
  · exact this
  · show (Str.ofString (toString k) ++ " " ++ mkT m).length ≠ 0
    rw [s_len, s_len]; omega
theorem stp_fold : ∀ (r : List Tm) (acc : Str), acc ≠ "" → r.foldl stp acc = r.foldl (fun acc z => acc ++ (if z.1 < 0 then (" - " : Str) else " + ") ++ J z.2) acc ∧ r.foldl stp acc ≠ ""
  | [], _, h => ⟨rfl, h⟩
  | z :: r, acc, h => by
    have e : stp acc z = acc ++ (if z.1 < 0 then (" - " : Str) else " + ") ++ J z.2 := by unfold stp; rw [if_neg h]; rfl
    have n : stp acc z ≠ "" := by
      rw [e]
      intro q
      have := str_len0.mp q
      rw [s_len, s_len] at this
      exact h (str_len0.mpr (by omega))
    have ih := stp_fold r (stp acc z) n
    refine ⟨?_, ih.2⟩
    rw [List.foldl_cons, ih.1, List.foldl_cons, e]
theorem fdT_law {p : Pt} {ps : List Pt} : fdT (p :: ps) ≠ "" ∧ ∀ r, (ps.map tmP ++ r).foldl stp (stp "" (tmP p)) = (ps.map tmP ++ r).foldl (fun acc z => acc ++ (if z.1 < 0 then (" - " : Str) else " + ") ++ J z.2) ((if decide (p.2 < 0) = true then ("-" : Str) else "") ++ J (tmP p).2) := by
  have e : stp "" (tmP p) = (if decide (p.2 < 0) = true then ("-" : Str) else "") ++ J (tmP p).2 := by
    unfold stp
    rw [if_pos rfl]
    unfold sgF tmP
    by_cases h : p.2 < 0
    · rw [if_pos h, decide_eq_true h]; rfl
    · rw [if_neg h, decide_eq_false h]; rfl
  have n : stp "" (tmP p) ≠ "" := by
    rw [e]
    intro q
    have := str_len0.mp q
    rw [s_len] at this
    exact tmW_pos _ _ (show (J (tmP p).2).length = 0 by omega)
  exact ⟨(stp_fold (ps.map tmP) _ n).2, fun r => by rw [(stp_fold _ _ n).1, e]⟩
/-- the end of it -/
theorem T_some {ps : List Pt} {n : Int} (h : ps ≠ []) (hn : n ≠ 0) : T (ps, n) = fdT ps ++ sgN n ++ Str.ofString (toString (ab n)) := by
  cases ps with
  | nil => exact absurd rfl h
  | cons p ps =>
    have e : termsW (p :: ps, n) = tmP p :: (ps.map tmP ++ [(n, [Str.ofString (toString (ab n))])]) := by
      unfold termsW; rw [if_pos (.inl hn)]; rfl
    rw [T_law e]
    show (ps.map tmP ++ [(n, [Str.ofString (toString (ab n))])]).foldl _ ((if decide (p.2 < 0) = true then ("-" : Str) else "") ++ J (tmP p).2) = _
    rw [← fdT_law.2, List.foldl_append]
    show stp (fdT (p :: ps)) _ = _
    unfold stp
    rw [if_neg (fdT_law (p := p) (ps := ps)).1]; rfl
theorem T_zero2 {ps : List Pt} (h : ps ≠ []) : T (ps, 0) = fdT ps := by
  cases ps with
  | nil => exact absurd rfl h
  | cons p ps =>
    have e : termsW (p :: ps, 0) = tmP p :: (ps.map tmP ++ []) := by
      unfold termsW; rw [if_neg (by simp)]; simp [tmP]
    rw [T_law e]
    show (ps.map tmP ++ []).foldl _ ((if decide (p.2 < 0) = true then ("-" : Str) else "") ++ J (tmP p).2) = _
    rw [← fdT_law.2, List.append_nil]; rfl
theorem T_num (n : Int) : T ([], n) = Str.ofString (toString n) := by
  have e : termsW ([], n) = [(n, [Str.ofString (toString (ab n))])] := by unfold termsW; rw [if_pos (.inr rfl)]; rfl
  rw [T_law e]
  show (if decide (n < 0) = true then ("-" : Str) else "") ++ Str.ofString (toString (ab n)) = _
  by_cases h : n < 0
  · rw [decide_eq_true h, if_pos rfl]
    unfold ab
    rw [if_pos h]
    obtain ⟨m, rfl⟩ := Int.eq_negSucc_of_lt_zero h
    show ("-" : Str) ++ Str.ofString (toString (-(Int.negSucc m))) = Str.ofString (toString (Int.negSucc m))
    rw [Int.neg_negSucc]
    show ("-" : Str) ++ Str.ofString (toString (m + 1)) = Str.ofString ("-" ++ toString (m + 1))
    refine TL.ext_tl ?_
    rw [TL.tl_append, TL.tl_ofString, TL.tl_ofString, TL.tl_ofString, String.toList_append, List.map_append]
  · rw [decide_eq_false h, if_neg (by decide)]
    unfold ab
    rw [if_neg h]
    exact TL.ext_tl (by rw [TL.tl_append]; rfl)
theorem stp_len : ∀ (l : List Pt) (acc : Str), (∀ p ∈ l, BdM p.1 ∧ BdI p.2) → ((l.map tmP).foldl stp acc).length ≤ acc.length + 95 * l.length
  | [], _, _ => Nat.le_refl _
  | u :: l, acc, h => by
    have h1 := stp_len l (stp acc (tmP u)) fun x hx => h x (List.mem_cons_of_mem _ hx)
    obtain ⟨h2, h3⟩ := h u List.mem_cons_self
    have h4 := tmW_len (ab_nn u.2) (ab_bd h3) h2
    have s1 : (sgF u.2).length ≤ 1 := by unfold sgF; split <;> decide +kernel
    have s2 : (sgN u.2).length = 3 := by unfold sgN; split <;> decide +kernel
    have h5 : (stp acc (tmP u)).length ≤ acc.length + 95 := by
      unfold stp tmP
      split
      · rw [s_len]; show (sgF u.2).length + (J (tmW (ab u.2) u.1)).length ≤ _; omega
      · rw [s_len, s_len]; show acc.length + (sgN u.2).length + (J (tmW (ab u.2) u.1)).length ≤ _; omega
    rw [List.map_cons, List.foldl_cons, List.length_cons]
    omega
theorem fdT_len {l : List Pt} (h : ∀ p ∈ l, BdM p.1 ∧ BdI p.2) : (fdT l).length ≤ 95 * l.length := by
  have := stp_len l "" h
  rw [show ("" : Str).length = 0 by decide +kernel] at this
  unfold fdT
  omega
section
variable {P : Program} {w : World} {K : PySem.W.Frag} {mg : Str → Option Value} {base : Heap} {R U : Addr}
def prT (ps : List Pt) (n : Int) : D := .tup [.tup (ps.map ptD), .int n]
abbrev nLf : List Str := ["_law_form", "_law_found", "_law_name", "_law_word", "_law_many", "_law_term_here"]
def cLfT : Con := fun ds M Φ => ∃ ps n, ds = [prT ps n] ∧ BdR (ps, n) ∧ Φ (.str (T (ps, n))) M
def lfB : List Stmt := match ((defBody s__law_form_text)[1]? : Option Stmt) with
  | some (Stmt.For _ _ b _ _) => b
  | _ => []
theorem ok_lf_text (F : Fx w K mg) : BodyOk P w K mg base "_law_form_text" s__law_form_text nLf 1 0 cLfT := by
  intro f cdv A outer s H E hr ds M Φ hl hc
  obtain ⟨ps, n, rfl, br, hc⟩ := hc
  obtain ⟨bp, lp, bn⟩ := br
  have lp : ps.length ≤ 20 := lp
  have bn : BdI n := bn
  have nd : nLf.Nodup := by decide +kernel
  have gA : mg "abs" = none := F.bn _ (by decide +kernel)
  have gS : mg "str" = none := F.bn _ (by decide +kernel)
  have z : ∀ {n : Nat}, n ≤ 3000 → n ≤ sizeLine := fun h => by rw [sizeLine_eq]; omega
  have l0 : ("" : Str).length = 0 := by decide +kernel
  have l1 : ("." : Str).length = 1 := by decide +kernel
  have lb : (" " : Str).length = 1 := by decide +kernel
  refine wss_cons (ws_set 1 nd (we_str ?_))
  refine wss_cons (ws_for PassesOwn.never (wi_tup (we_ix (we_var 0 rfl (we_int ⟨0, _, rfl, ixT (atI_nat (j := 0) rfl), _, rfl, ?_⟩)))))
  refine ⟨fun i ρ' M' => ∃ o2 o3 o4 o5, ρ' = [some (prT ps n), some (.str (fdT (ps.take i))), o2, o3, o4, o5] ∧ M' = M, ⟨none, none, none, none, rfl, rfl⟩, ?_, ?_⟩
  · rintro i x ρ' M' hx ⟨o2, o3, o4, o5, rfl, hM⟩
    obtain rfl : M = M' := hM.symm
    rw [List.getElem?_map] at hx
    obtain ⟨u, hu, rfl⟩ := Option.map_eq_some_iff.mp hx
    obtain ⟨b1, b2⟩ := bp u (List.mem_of_getElem? hu)
    have lf : (fdT (ps.take i)).length ≤ 1900 := by
      have := fdT_len (l := ps.take i) fun p hp => bp p (List.mem_of_mem_take hp)
      have : (ps.take i).length ≤ 20 := by rw [List.length_take]; omega
      omega
    have lt := tmW_len (ab_nn u.2) (ab_bd b2) b1
    have lm := mkT_len b1
    have c1 := b1.1
    have c2 := b1.2
    have ln := num_short (ab_nn u.2) (ab_bd b2)
    refine wg_tup ⟨rfl, rfl, wgs_cons (wg_tup ⟨rfl, rfl, wgs_cons (wg_name 2 (wgs_cons (wg_name 3 (wgs_nil ⟨rfl, wgs_cons (wg_name 4 (wgs_nil ⟨rfl, ?_⟩) nd)⟩) nd)) nd)⟩)⟩
    have es : fdT (ps.take (i + 1)) = stp (fdT (ps.take i)) (tmP u) := by rw [take_snoc hu, fdT_snoc]
    have next : ∀ (t : Str) (Ψ : DE), t = J (tmW (ab u.2) u.1) → (∀ o2 o3 o4 o5, Ψ.nx [some (prT ps n), some (.str (fdT (ps.take (i + 1)))), o2, o3, o4, o5] M) → WSs (bx P w K mg base nLf "_law_form_text" (defScope s__law_form_text) f cdv A outer s H E) [some (prT ps n), some (.str (fdT (ps.take i))), some (.str u.1.1), some (.str u.1.2), some (.int u.2), some (.str t)] M (lfB.drop 1) Ψ := by
      rintro t Ψ rfl hnx
      rw [es] at hnx
      refine wss_cons (ws_if (wt_eqS (we_var 1 rfl (we_str ⟨decide (fdT (ps.take i) = ""), rfl, ?_⟩))))
      unfold stp at hnx
      by_cases hf : fdT (ps.take i) = ""
      · rw [decide_eq_true hf]
        rw [if_pos hf] at hnx
        refine wss_cons (ws_set 1 nd (we_addS (we_if (wt_ltI (we_var 4 rfl (we_int ⟨u.2, 0, rfl, rfl, ?_⟩))))))
        by_cases hneg : u.2 < 0
        · rw [decide_eq_true hneg]
          have e1 : sgF (tmP u).1 = "-" := if_pos hneg
          rw [e1] at hnx
          exact we_str (we_var 5 rfl ⟨_, _, rfl, rfl, by rw [show ("-" : Str).length = 1 by decide +kernel]; exact z (by omega), wss_nil (wss_nil (hnx _ _ _ _))⟩)
        · rw [decide_eq_false hneg]
          have e1 : sgF (tmP u).1 = "" := if_neg hneg
          rw [e1] at hnx
          exact we_str (we_var 5 rfl ⟨_, _, rfl, rfl, by rw [l0]; exact z (by omega), wss_nil (wss_nil (hnx _ _ _ _))⟩)
      · rw [decide_eq_false hf]
        rw [if_neg hf] at hnx
        refine wss_cons (ws_set 1 nd (we_addS (we_addS (we_var 1 rfl (we_if (wt_ltI (we_var 4 rfl (we_int ⟨u.2, 0, rfl, rfl, ?_⟩))))))))
        by_cases hneg : u.2 < 0
        · rw [decide_eq_true hneg]
          have e1 : sgN (tmP u).1 = " - " := if_pos hneg
          rw [e1] at hnx
          exact we_str ⟨_, _, rfl, rfl, by rw [show (" - " : Str).length = 3 by decide +kernel]; exact z (by omega), we_var 5 rfl ⟨_, _, rfl, rfl, by rw [s_len, show (" - " : Str).length = 3 by decide +kernel]; exact z (by omega), wss_nil (wss_nil (hnx _ _ _ _))⟩⟩
        · rw [decide_eq_false hneg]
          have e1 : sgN (tmP u).1 = " + " := if_neg hneg
          rw [e1] at hnx
          exact we_str ⟨_, _, rfl, rfl, by rw [show (" + " : Str).length = 3 by decide +kernel]; exact z (by omega), we_var 5 rfl ⟨_, _, rfl, rfl, by rw [s_len, show (" + " : Str).length = 3 by decide +kernel]; exact z (by omega), wss_nil (wss_nil (hnx _ _ _ _))⟩⟩
    refine wss_cons (ws_set 5 nd (we_addS (we_addS (we_addS (we_if (wt_eqS (we_abs gA (we_var 4 rfl ⟨u.2, rfl, we_int ⟨decide (ab u.2 = 1), rfl, ?_⟩⟩))))))))
    by_cases h1 : ab u.2 = 1
    · rw [decide_eq_true h1]
      have et : ("" : Str) ++ u.1.1 ++ "." ++ u.1.2 = J (tmW (ab u.2) u.1) := by
        unfold tmW; rw [if_pos h1, show ("" : Str) ++ u.1.1 = u.1.1 from TL.ext_tl (by rw [TL.tl_append]; rfl)]; rfl
      refine we_str (we_var 2 rfl ⟨_, _, rfl, rfl, ?_, we_str ⟨_, _, rfl, rfl, ?_, we_var 3 rfl ⟨_, _, rfl, rfl, ?_, next _ _ et fun _ _ _ _ => ⟨_, _, _, _, rfl, rfl⟩⟩⟩⟩)
      · rw [l0]; exact z (by omega)
      · rw [s_len, l0, l1]; exact z (by omega)
      · rw [s_len, s_len, l0, l1]; exact z (by omega)
    · rw [decide_eq_false h1]
      have et : (Str.ofString (toString (ab u.2)) ++ " " ++ u.1.1 ++ "." ++ u.1.2 : Str) = J (tmW (ab u.2) u.1) := by
        unfold tmW
        rw [if_neg h1]
        show _ = Str.ofString (toString (ab u.2)) ++ " " ++ (u.1.1 ++ "." ++ u.1.2)
        simp only [s_assoc]
      refine we_addS (we_strI gS (we_abs gA (we_var 4 rfl ⟨u.2, rfl, ab u.2, rfl, bd_log (ab_bd b2), we_str ⟨_, _, rfl, rfl, ?_, we_var 2 rfl ⟨_, _, rfl, rfl, ?_, we_str ⟨_, _, rfl, rfl, ?_, we_var 3 rfl ⟨_, _, rfl, rfl, ?_, next _ _ et fun _ _ _ _ => ⟨_, _, _, _, rfl, rfl⟩⟩⟩⟩⟩⟩)))
      · rw [lb]; exact z (by omega)
      · rw [s_len, lb]; exact z (by omega)
      · rw [s_len, s_len, lb, l1]; exact z (by omega)
      · rw [s_len, s_len, s_len, lb, l1]; exact z (by omega)
  · rintro ρ' M' ⟨o2, o3, o4, o5, rfl, hM⟩
    obtain rfl : M = M' := hM.symm
    rw [List.length_map, List.take_length]
    have lf : (fdT ps).length ≤ 1900 := by
      have := fdT_len (l := ps) bp
      omega
    have ln := num_short (ab_nn n) (ab_bd bn)
    refine wss_cons (ws_if (wt_eqS (we_var 1 rfl (we_str ⟨decide (fdT ps = ""), rfl, ?_⟩))))
    by_cases hp : ps = []
    · subst hp
      rw [show fdT [] = "" from rfl, decide_eq_true rfl]
      rw [T_num] at hc
      exact wss_cons (ws_ret (we_strI gS (we_ix (we_var 0 rfl (we_int ⟨1, _, rfl, ixT (atI_nat (j := 1) rfl), n, rfl, bd_log bn, Lets.of hc⟩)))))
    have hf : fdT ps ≠ "" := by
      cases ps with
      | nil => exact absurd rfl hp
      | cons p ps => exact (fdT_law (p := p) (ps := ps)).1
    rw [decide_eq_false hf]
    refine wss_nil (wss_cons (ws_if (wt_neS (we_ix (we_var 0 rfl (we_int ⟨1, _, rfl, ixT (atI_nat (j := 1) rfl), we_int ⟨decide (n = 0), rfl, ?_⟩⟩))))))
    by_cases hn : n = 0
    · rw [decide_eq_true hn]
      subst hn
      rw [T_zero2 hp] at hc
      exact wss_nil (wss_cons (ws_ret (we_var 1 rfl (Lets.of hc))))
    · rw [decide_eq_false hn]
      rw [T_some hp hn] at hc
      refine wss_cons (ws_set 1 nd (we_addS (we_addS (we_var 1 rfl (we_if (wt_ltI (we_ix (we_var 0 rfl (we_int ⟨1, _, rfl, ixT (atI_nat (j := 1) rfl), we_int ⟨n, 0, rfl, rfl, ?_⟩⟩)))))))))
      by_cases hneg : n < 0
      · rw [decide_eq_true hneg]
        rw [show sgN n = " - " from if_pos hneg] at hc
        refine we_str ⟨_, _, rfl, rfl, ?_, we_strI gS (we_abs gA (we_ix (we_var 0 rfl (we_int ⟨1, _, rfl, ixT (atI_nat (j := 1) rfl), n, rfl, ab n, rfl, bd_log (ab_bd bn), _, _, rfl, rfl, ?_, wss_nil (wss_cons (ws_ret (we_var 1 rfl (Lets.of hc))))⟩))))⟩
        · rw [show (" - " : Str).length = 3 by decide +kernel]; exact z (by omega)
        · rw [s_len, show (" - " : Str).length = 3 by decide +kernel]; exact z (by omega)
      · rw [decide_eq_false hneg]
        rw [show sgN n = " + " from if_neg hneg] at hc
        refine we_str ⟨_, _, rfl, rfl, ?_, we_strI gS (we_abs gA (we_ix (we_var 0 rfl (we_int ⟨1, _, rfl, ixT (atI_nat (j := 1) rfl), n, rfl, ab n, rfl, bd_log (ab_bd bn), _, _, rfl, rfl, ?_, wss_nil (wss_cons (ws_ret (we_var 1 rfl (Lets.of hc))))⟩))))⟩
        · rw [show (" + " : Str).length = 3 by decide +kernel]; exact z (by omega)
        · rw [s_len, show (" + " : Str).length = 3 by decide +kernel]; exact z (by omega)
end
end W
namespace W
open PySem PySem.Spec PyProof.Rows L2 DL SX PL SlX TL
section
variable {P : Program} {w : World} {K : PySem.W.Frag} {mg : Str → Option Value} {base : Heap} {R U : Addr}
abbrev nLi : List Str := ["_law_word", "_law_sign"]
theorem ok_l_int (F : Fx w K mg) : BodyOk P w K mg base "_law_integer" s__law_integer nLi 1 0 cNumP := by
  intro f cdv A outer s H E hr ds M Φ hl hc
  obtain ⟨z, rfl, hz, hc⟩ := hc
  have hlen : z.cps.toList.length ≤ 600 := by rw [Array.length_toList]; exact hz
  obtain ⟨l, rfl⟩ : ∃ l, z = S l := ⟨z.cps.toList, (S_toList z).symm⟩
  have hlen : l.length ≤ 600 := hlen
  have hc1 : ∀ n, l = numL n → Φ (.int (n : Nat)) M := fun n hn => by
    subst hn
    rw [numP_num hlen] at hc
    exact hc
  have hc2 : (¬ ∃ n, l = numL n) → Φ .non M := fun hn => by
    rw [numP_none hlen hn] at hc
    exact hc
  have nd : nLi.Nodup := by decide +kernel
  have e1 : decide (S l = ("" : Str)) = decide (l = []) := by rw [show ("" : Str) = S [] by decide +kernel]; exact decide_eq_decide.mpr S_eqi
  have e2 : decide (S l = ("0" : Str)) = decide (l = [48]) := by rw [show ("0" : Str) = S [48] by decide +kernel]; exact decide_eq_decide.mpr S_eqi
  refine wss_cons (ws_if (wt_ww (ww_or (wt_eqS (we_var 0 rfl (we_str ⟨_, rfl, ?_⟩))))))
  rw [e1]
  by_cases h0 : l = []
  · rw [decide_eq_true h0]
    exact wss_cons (ws_ret (we_non (Lets.of (hc2 fun ⟨n, e⟩ => TL.numL_ne n (e.symm.trans h0)))))
  rw [decide_eq_false h0]
  refine ww_or (wt_not (wt_val (we_all (F.bn _ (by decide +kernel)) (we_lc nd (blkOk_by (N := nLi) (sc := defScope s__law_integer) (own := [("_law_sign", 1)]) (by decide +kernel)) (fun _ _ _ _ _ => pg_name (i := 1) nd rfl (Or.inl rfl)) (gt_name (by decide)) (fun _ _ _ _ _ => pts_nil) tk_nil
        (wi_str (we_var 0 rfl ⟨_, rfl, ?_⟩))))))
  refine ⟨by rw [signs_S, List.length_map, sizeLine_eq]; omega, fun i acc M' => M' = M ∧ acc = (l.take i).map fun c => .bl (figure c), ⟨rfl, rfl⟩, ?_, ?_⟩
  · rintro i x acc M' hx ⟨rfl, rfl⟩
    obtain ⟨c, hc1, rfl⟩ := signs_get hx
    intro s1 H1 C cl fp
    refine we_inC (we_var 1 rfl (we_str ⟨c, _, rfl, rfl, rfl, ?_⟩))
    rw [mem_figures, take_snoc hc1, List.map_append]; rfl
  · rintro acc M' ⟨rfl, rfl⟩
    rw [signs_S, List.length_map, List.take_length]
    refine ⟨l.map figure, by rw [List.map_map]; rfl, _, rfl, ?_⟩
    cases hd : (l.map figure).all id with
    | false =>
      refine wss_cons (ws_ret (we_non (Lets.of (hc2 ?_))))
      rintro ⟨n, rfl⟩
      rw [List.all_map, List.all_eq_true.mpr (show ∀ c ∈ TL.numL n, (id ∘ figure) c = true from fun c hc => dig_of n c hc)] at hd
      cases hd
    | true =>
      rw [List.all_map, List.all_eq_true] at hd
      have hdig : ∀ c ∈ l, 48 ≤ c ∧ c ≤ 57 := fun c hc => by
        have := hd c hc
        unfold figure at this
        simpa using this
      obtain ⟨c, r, ec⟩ : ∃ c r, l = c :: r := by
        cases l with
        | nil => exact absurd rfl h0
        | cons c r => exact ⟨c, r, rfl⟩
      have e4 : decide ((⟨#[c]⟩ : Str) = ("0" : Str)) = decide (c = 48) := by
        rw [show (⟨#[c]⟩ : Str) = S [c] from rfl, show ("0" : Str) = S [48] by decide +kernel]
        exact decide_eq_decide.mpr (S_eqi.trans ⟨fun h => by injection h, fun h => by rw [h]⟩)
      have done : (l = [48] ∨ l.head? ≠ some 48) → WSs (bx P w K mg base nLi "_law_integer" (defScope s__law_integer) f cdv A outer s H E) [some (.str (S l)), none] M' ((defBody s__law_integer).drop 1) { nx := fun _ M' => Φ .non M', rt := Lets Φ } := fun hcan => by
        obtain ⟨n, rfl⟩ := canon l.length (Nat.le_refl _) h0 hdig hcan
        exact wss_cons (ws_ret (we_intS (F.bn _ (by decide +kernel)) (we_var 0 rfl ⟨_, _, rfl, num_int_g n hlen, by rw [S_len]; omega, Lets.of (hc1 n rfl)⟩)))
      refine ww_or1 (wt_ww (ww_and (wt_eqS (we_ix (we_var 0 rfl (we_int ⟨0, _, rfl, .inr (.inr ⟨_, c, rfl, by rw [S_len, sizeLine_eq]; omega, by show atI l 0 = some c; rw [ec]; exact atI_nat (j := 0) rfl, rfl⟩), we_str ⟨_, rfl, ?_⟩⟩))))))
      rw [e4]
      by_cases hc48 : c = 48
      · rw [decide_eq_true hc48]
        refine ww_and1 (wt_neS (we_var 0 rfl (we_str ⟨_, rfl, ?_⟩)))
        rw [e2]
        by_cases h48 : l = [48]
        · rw [decide_eq_true h48]
          exact wss_nil (done (.inl h48))
        · rw [decide_eq_false h48]
          refine wss_cons (ws_ret (we_non (Lets.of (hc2 ?_))))
          rintro ⟨n, e⟩
          rw [ec, hc48] at e
          have := num_head0 e.symm
          exact h48 (by rw [ec, hc48, this])
      · rw [decide_eq_false hc48]
        exact wss_nil (done (.inr (by rw [ec]; intro e; injection e with e; exact hc48 e)))
end
end W
namespace W
open PySem PySem.Spec PyProof.Rows L2 DL SX PL SlX
def lt1 (z : Str) : Option (Option Mk × Int) := match numP z with
  | some n => some (none, n)
  | none => if fmN (Txt.partition z ".").1 = true ∧ (Txt.partition z ".").2.2 ∈ wordsL then some (some ((Txt.partition z ".").1, (Txt.partition z ".").2.2), 1) else none
def ltP : List Str → Option (Option Mk × Int)
  | [z] => lt1 z
  | [y, z] => match numP y, lt1 z with
    | some n, some (some m, _) => if n < 2 then none else some (some m, n)
    | _, _ => none
  | _ => none
def oMkN : Option Mk → D
  | some m => mkD m
  | none => .non
def oLt : Option (Option Mk × Int) → D
  | some (m, k) => .tup [oMkN m, .int k]
  | none => .non
structure LtK (z : Str) : Prop where
  le : z.length ≤ 600
  p : (Txt.partition z ".").1.length ≤ 1000
section
variable {P : Program} {w : World} {K : PySem.W.Frag} {mg : Str → Option Value} {base : Heap} {R U : Addr}
abbrev nLt : List Str := ["_law_words", "_law_many", "_law_rest", "_law_total", "_law_name", "_law_dot", "_law_word", "_law_sign"]
def cLt1 : Con := fun ds M Φ => ∃ ws : List Str, ds = [.lst (ws.map D.str)] ∧ ws.length ≠ 2 ∧ ws.length ≤ 1000 ∧ (∀ u ∈ ws, LtK u) ∧ Φ (oLt (ltP ws)) M
theorem ok_lt1 (F : Fx w K mg) (FI : Fc P w K mg base "_law_integer" [] 1 1 cNumP) : BodyOk P w K mg base "_law_term" s__law_term nLt 1 1 cLt1 := by
  intro f cdv A outer s H E hr ds M Φ hl hc
  obtain ⟨ws, rfl, h2, hlen, hw, hc⟩ := hc
  have nd : nLt.Nodup := by decide +kernel
  have gL : mg "len" = none := F.bn _ (by decide +kernel)
  refine wss_cons (ws_if (wt_eqS (we_len gL (we_var 0 rfl ⟨_, lenL, we_int ⟨decide ((((ws.map D.str).length : Nat) : Int) = 2), rfl, ?_⟩⟩))))
  rw [decide_eq_false (by rw [List.length_map]; omega)]
  refine wss_nil (wss_cons (ws_if (wt_neS (we_len gL (we_var 0 rfl ⟨_, lenL, we_int ⟨decide ((((ws.map D.str).length : Nat) : Int) = 1), rfl, ?_⟩⟩)))))
  by_cases h1 : ws.length = 1
  · rw [decide_eq_true (by rw [List.length_map]; omega)]
    obtain ⟨z, rfl⟩ := List.length_eq_one_iff.mp h1
    have hz := hw z List.mem_cons_self
    have hc : Φ (oLt (lt1 z)) M := hc
    unfold lt1 at hc
    refine wss_nil (wss_cons (ws_set 3 nd (we_call FI (hr.mono (by omega)) (wa_cons (we_ix (we_var 0 rfl (we_int ⟨0, _, rfl, ixL (atI_nat (j := 0) rfl), wa_nil ⟨rfl, z, rfl, hz.le, ?_⟩⟩)))))))
    refine wss_cons (ws_if (wt_notN (we_var 3 rfl ?_)))
    cases hn : numP z with
    | some n =>
      rw [hn] at hc
      exact wss_cons (ws_ret (we_tup (wa_cons (we_non (wa_cons (we_var 3 rfl (wa_nil ⟨sz2x, Lets.of hc⟩)))))))
    | none =>
      rw [hn] at hc
      dsimp only at hc
      refine wss_nil (wss_cons (ws_asg (we_partition (we_ix (we_var 0 rfl (we_int ⟨0, _, rfl, ixL (atI_nat (j := 0) rfl), z, rfl, we_str ⟨_, rfl, by decide +kernel, by have := hz.le; rw [sizeLine_eq]; omega, ?_⟩⟩))))))
      have hp := hz.p
      generalize Txt.partition z "." = p at hc hp ⊢
      obtain ⟨a, d, b⟩ := p
      obtain ⟨l, rfl⟩ : ∃ l, a = S l := ⟨a.cps.toList, (S_toList a).symm⟩
      have hp : l.length ≤ 1000 := by rw [S_len] at hp; exact hp
      refine wg_tup ⟨rfl, rfl, wgs_cons (wg_name 4 (wgs_cons (wg_name 5 (wgs_cons (wg_name 6 (wgs_nil ⟨rfl, ?_⟩) nd)) nd)) nd)⟩
      have hc : Lets Φ (oLt (if isNameL l = true ∧ b ∈ wordsL then some (some (S l, b), 1) else none)) M := Lets.of hc
      have no : isNameL l = false → Lets Φ .non M := fun h => by
        rw [if_neg (by rintro ⟨h1, _⟩; rw [h] at h1; cases h1)] at hc; exact hc
      refine wss_cons (ws_if (wt_ww (ww_or (wt_not (wt_chainI (we_int (we_len gL (we_var 4 rfl ⟨_, lenS (by rw [S_len, sizeLine_eq]; omega), _, _, rfl, rfl, ?_⟩))))))))
      have e0 : ((S l).length : Int) = (l.length : Int) := by rw [S_len]
      by_cases g1 : (1 : Int) ≤ ((S l).length : Int)
      · rw [if_pos (decide_eq_true g1)]
        refine we_int ⟨_, rfl, ?_⟩
        by_cases g2 : ((S l).length : Int) ≤ 8
        · rw [decide_eq_true g2]
          refine ww_or1 (wt_not (wt_val (we_all (F.bn _ (by decide +kernel)) (we_lc nd (blkOk_by (N := nLt) (sc := defScope s__law_term) (own := [("_law_sign", 7)]) (by decide +kernel)) (fun _ _ _ _ _ => pg_name (i := 7) nd rfl (Or.inl rfl)) (gt_name (by decide)) (fun _ _ _ _ _ => pts_nil) tk_nil
            (wi_str (we_var 4 rfl ⟨_, rfl, ?_⟩))))))
          refine ⟨by rw [signs_S, List.length_map, sizeLine_eq]; omega, fun i acc M' => M' = M ∧ acc = (l.take i).map fun c => .bl (letter c), ⟨rfl, rfl⟩, ?_, ?_⟩
          · rintro i x acc M' hx ⟨rfl, rfl⟩
            obtain ⟨c, hc1, rfl⟩ := signs_get hx
            intro s1 H1 C cl fp
            refine we_inC (we_var 7 rfl (we_str ⟨c, _, rfl, rfl, rfl, ?_⟩))
            rw [mem_letters, take_snoc hc1, List.map_append]; rfl
          rintro acc M' ⟨rfl, rfl⟩
          rw [signs_S, List.length_map, List.take_length]
          refine ⟨l.map letter, by rw [List.map_map]; rfl, _, rfl, ?_⟩
          have ea : isNameL l = (l.map letter).all id := by
            unfold isNameL
            rw [decide_eq_true (show 1 ≤ l.length by omega), decide_eq_true (show l.length ≤ 8 by omega)]
            simp
          cases hd : (l.map letter).all id with
          | false => exact wss_cons (ws_ret (we_non (no (ea.trans hd))))
          | true =>
            rw [ea.trans hd] at hc
            refine wss_nil (wss_cons (ws_ret (we_if (wt_inS (we_var 6 rfl (we_tup (wa_cons (we_str (wa_cons (we_str (wa_cons (we_str (wa_cons (we_str (wa_cons (we_str (wa_nil ⟨by show 5 ≤ sizeLine; decide, b, wordsL, rfl, .inl rfl, ?_⟩)))))))))))))))))
            by_cases hb : b ∈ wordsL
            · rw [decide_eq_true hb]
              rw [if_pos ⟨rfl, hb⟩] at hc
              exact we_tup (wa_cons (we_tup (wa_cons (we_var 4 rfl (wa_cons (we_var 6 rfl (wa_nil ⟨sz2x, wa_cons (we_int (wa_nil ⟨sz2x, hc⟩))⟩)))))))
            · rw [decide_eq_false hb]
              rw [if_neg (by rintro ⟨_, h⟩; exact hb h)] at hc
              exact we_non hc
        · rw [decide_eq_false g2]
          refine wss_cons (ws_ret (we_non (no ?_)))
          unfold isNameL
          rw [decide_eq_false (show ¬ l.length ≤ 8 by omega)]; simp
      · rw [if_neg (by rw [decide_eq_false g1]; decide)]
        refine wss_cons (ws_ret (we_non (no ?_)))
        unfold isNameL
        rw [decide_eq_false (show ¬ 1 ≤ l.length by omega)]; rfl
  · rw [decide_eq_false (by rw [List.length_map]; omega)]
    refine wss_cons (ws_ret (we_non (Lets.of ?_)))
    have e : ltP ws = none := by
      match ws, h1, h2 with
      | [], _, _ => rfl
      | [_], h, _ => exact absurd rfl h
      | [_, _], _, h => exact absurd rfl h
      | _ :: _ :: _ :: _, _, _ => rfl
    rw [e] at hc
    exact hc
end
end W
namespace W
open PySem PySem.Spec PyProof.Rows L2 DL SX PL SlX
section
variable {P : Program} {w : World} {K : PySem.W.Frag} {mg : Str → Option Value} {base : Heap} {R U : Addr}
def cLt : Con := fun ds M Φ => ∃ ws : List Str, ds = [.lst (ws.map D.str)] ∧ ws.length ≤ 1000 ∧ (∀ u ∈ ws, LtK u) ∧ Φ (oLt (ltP ws)) M
theorem ok_lt (F : Fx w K mg) (FI : Fc P w K mg base "_law_integer" [] 1 1 cNumP) (FR : Fc P w K mg base "_law_term" [] 2 1 cLt1) : BodyOk P w K mg base "_law_term" s__law_term nLt 1 2 cLt := by
  intro f cdv A outer s H E hr ds M Φ hl hc
  obtain ⟨ws, rfl, hlen, hw, hc⟩ := hc
  by_cases h2 : ws.length = 2
  · have nd : nLt.Nodup := by decide +kernel
    have gL : mg "len" = none := F.bn _ (by decide +kernel)
    obtain ⟨y, z, rfl⟩ : ∃ y z, ws = [y, z] := match ws, h2 with | [y, z], _ => ⟨y, z, rfl⟩
    have hy := hw y List.mem_cons_self
    have hz := hw z (List.mem_cons_of_mem _ List.mem_cons_self)
    have hc : Lets Φ (oLt (match numP y, lt1 z with
      | some n, some (some m, _) => if n < 2 then none else some (some m, n)
      | _, _ => none)) M := Lets.of hc
    have e1 : ltP [z] = lt1 z := rfl
    refine wss_cons (ws_if (wt_eqS (we_len gL (we_var 0 rfl ⟨_, lenL, we_int ⟨decide ((((([y, z] : List Str).map D.str).length : Nat) : Int) = 2), rfl, ?_⟩⟩))))
    rw [decide_eq_true (by rfl)]
    refine wss_cons (ws_par 1 2 nd (wa_cons (we_call FI (hr.mono (by omega)) (wa_cons (we_ix (we_var 0 rfl (we_int ⟨0, _, rfl, ixL (atI_nat (j := 0) rfl), wa_nil ⟨rfl, y, rfl, hy.le, wa_cons (we_call FR (hr.mono (by omega)) (wa_cons (we_slice (we_var 0 rfl (we_int ⟨_, rfl, _, .inl ⟨_, rfl, rfl⟩, wa_nil ⟨rfl, [z], ?_, by show (1 : Nat) ≠ 2; decide, by show 1 ≤ 1000; decide, fun u hu => List.mem_singleton.mp hu ▸ hz, wa_nil ⟨_, _, rfl, ?_⟩⟩⟩)))))⟩⟩)))))))
    · rw [cut_fr1]; rfl
    rw [e1]
    refine wss_cons (ws_if (wt_ww (ww_or (wt_isN (we_var 1 rfl ?_)))))
    cases hn : numP y with
    | none =>
      rw [hn] at hc
      exact wss_cons (ws_ret (we_non hc))
    | some n =>
      rw [hn] at hc
      show WW _ _ _ _ _
      refine ww_or (wt_ltI (we_var 1 rfl (we_int ⟨n, 2, rfl, rfl, ?_⟩)))
      by_cases h0 : n < 2
      · rw [decide_eq_true h0]
        have hc : Lets Φ .non M := by
          cases hq : lt1 z with
          | none => rw [hq] at hc; exact hc
          | some q =>
            obtain ⟨m, k⟩ := q
            rw [hq] at hc
            cases m with
            | none => exact hc
            | some m => dsimp only at hc; rw [if_pos h0] at hc; exact hc
        exact wss_cons (ws_ret (we_non hc))
      · rw [decide_eq_false h0]
        refine ww_or (wt_isN (we_var 2 rfl ?_))
        cases hq : lt1 z with
        | none =>
          rw [hq] at hc
          exact wss_cons (ws_ret (we_non hc))
        | some q =>
          obtain ⟨m, k⟩ := q
          rw [hq] at hc
          show WW _ _ _ _ _
          refine ww_or1 (wt_isN (we_ix (we_var 2 rfl (we_int ⟨0, _, rfl, ixT (atI_nat (j := 0) rfl), ?_⟩))))
          cases m with
          | none => exact wss_cons (ws_ret (we_non hc))
          | some m =>
            dsimp only at hc
            rw [if_neg h0] at hc
            exact wss_nil (wss_cons (ws_ret (we_tup (wa_cons (we_ix (we_var 2 rfl (we_int ⟨0, _, rfl, ixT (atI_nat (j := 0) rfl), wa_cons (we_var 1 rfl (wa_nil ⟨sz2x, hc⟩))⟩)))))))
  · exact ok_lt1 F FI f cdv A outer s H E (hr.mono (by omega)) _ M Φ rfl ⟨ws, rfl, h2, hlen, hw, hc⟩
end
end W
namespace W
open PySem PySem.Spec PyProof.Rows L2 DL SX PL SlX
theorem split_J {ws : List Str} (h0 : ws ≠ []) (h : ∀ x ∈ ws, 32 ∉ TL.tl x) : Txt.split (J ws) " " = ws := by
  have e : J ws = Txt.join " " ws := (TL.join_eq _ _).symm
  rw [e]
  exact TL.split_join (s := 32) (S := []) rfl (by decide +kernel) h0 h
/-- a good mark -/
def GdM (m : Mk) : Prop := fmN m.1 = true ∧ m.2 ∈ wordsL
theorem name_sg {m : Mk} (h : GdM m) : ∀ c ∈ TL.tl m.1, 97 ≤ c ∧ c ≤ 122 := fun c hc => by
  have := h.1
  unfold fmN isNameL at this
  rw [Bool.and_eq_true, Bool.and_eq_true, List.all_eq_true] at this
  have := this.2.2 c hc
  unfold letter at this
  simpa using this
theorem word_sg {m : Mk} (h : GdM m) : ∀ c ∈ TL.tl m.2, 97 ≤ c ∧ c ≤ 122 := by
  have key : ∀ w ∈ wordsL, ((TL.tl w).all fun c => decide (97 ≤ c) && decide (c ≤ 122)) = true := by decide +kernel
  intro c hc
  have := List.all_eq_true.mp (key _ h.2) c hc
  simpa using this
theorem mkT_tl (m : Mk) : TL.tl (mkT m) = TL.tl m.1 ++ 46 :: TL.tl m.2 := by
  unfold mkT
  rw [TL.tl_append, TL.tl_append, show TL.tl ("." : Str) = [46] by decide +kernel]
  simp
theorem mkT_nb {m : Mk} (h : GdM m) : 32 ∉ TL.tl (mkT m) := by
  rw [mkT_tl]
  intro hc
  rcases List.mem_append.mp hc with hc | hc
  · have := name_sg h _ hc; omega
  · rcases List.mem_cons.mp hc with hc | hc
    · omega
    · have := word_sg h _ hc; omega
theorem mkIn_T {m : Mk} (h : GdM m) : mkIn (mkT m) = some m := by
  have e : Txt.split (mkT m) "." = [m.1, m.2] := by
    have e1 : mkT m = Txt.join "." [m.1, m.2] := by rw [TL.join_eq]; rfl
    rw [e1]
    refine TL.split_join (s := 46) (S := []) rfl (by decide +kernel) (by simp) fun p hp => ?_
    rcases List.mem_cons.mp hp with rfl | hp
    · intro hc; have := name_sg h _ hc; omega
    · rw [List.mem_singleton.mp hp]; intro hc; have := word_sg h _ hc; omega
  unfold mkIn
  rw [e]
  exact isMk_of h.1 h.2
theorem numP_T {m : Mk} : numP (mkT m) = none := by
  cases e : numP (mkT m) with
  | none => rfl
  | some i =>
    obtain ⟨h0, h1⟩ := numP_some e
    obtain ⟨n, rfl⟩ := Int.eq_ofNat_of_zero_le h0
    have h2 : (46 : Nat) ∈ TL.tl (mkT m) := by rw [mkT_tl]; simp
    rw [← h1, TL.tl_num] at h2
    have := TL.numL_digits n 46 h2
    omega
theorem numP_of {k : Int} (h0 : 0 ≤ k) (h : BdI k) : numP (Str.ofString (toString k)) = some k := by
  have hs := num_short h0 h
  obtain ⟨n, rfl⟩ := Int.eq_ofNat_of_zero_le h0
  rw [num_S] at hs ⊢
  exact numP_num (by rw [S_len] at hs; omega)
theorem num_nb {k : Int} (h0 : 0 ≤ k) : ∀ c ∈ TL.tl (Str.ofString (toString k)), 48 ≤ c ∧ c ≤ 57 := by
  obtain ⟨n, rfl⟩ := Int.eq_ofNat_of_zero_le h0
  rw [TL.tl_num]
  exact fun c hc => TL.numL_digits n c hc
/-- a term read back by the package -/
theorem termP_tm {k : Int} {m : Mk} (h0 : 0 < k) (hb : BdI k) (h : GdM m) : termP (tmW k m) = some ([(m, k)], 0) := by
  unfold tmW
  by_cases h1 : k = 1
  · rw [if_pos h1]
    show (if ([] : List Str) = [] ∧ (numP (mkT m)).isSome = true then (numP (mkT m)).map fun n => ([], n) else endP (if ([] : List Str) = [] then some 1 else numP (mkT m)) (mkIn (mkT m)) 1) = _
    rw [numP_T, if_neg (by rintro ⟨_, h⟩; cases h), if_pos rfl, mkIn_T h]
    show (if (1 : Int) = 0 ∨ 2 < 1 then none else some ([(m, (1 : Int))], (0 : Int))) = _
    rw [if_neg (by omega), h1]
  · rw [if_neg h1]
    show (if [mkT m] = [] ∧ (numP (Str.ofString (toString k))).isSome = true then (numP (Str.ofString (toString k))).map fun n => ([], n) else endP (if [mkT m] = [] then some 1 else numP (Str.ofString (toString k))) (mkIn (mkT m)) 2) = _
    rw [if_neg (by rintro ⟨h, _⟩; cases h), if_neg (by simp), numP_of (by omega) hb, mkIn_T h]
    show (if k = 0 ∨ 2 < 2 then none else some ([(m, k)], (0 : Int))) = _
    rw [if_neg (by omega)]
theorem termP_num {k : Int} (h0 : 0 ≤ k) (hb : BdI k) : termP [Str.ofString (toString k)] = some ([], k) := by
  show (if ([] : List Str) = [] ∧ (numP (Str.ofString (toString k))).isSome = true then (numP (Str.ofString (toString k))).map fun n => ([], n) else _) = _
  rw [numP_of h0 hb, if_pos ⟨rfl, rfl⟩]; rfl
end W
namespace W
open PySem PySem.Spec PyProof.Rows L2 DL SX PL SlX
theorem lt1_T {m : Mk} (h : GdM m) : lt1 (mkT m) = some (some m, 1) := by
  have e : Txt.partition (mkT m) "." = (m.1, (("." : Str), m.2)) := TL.partition_app (y := ".") (s := 46) (S := []) (by decide +kernel) fun hc => by
    have := name_sg h _ hc; omega
  unfold lt1
  rw [numP_T, e]
  exact if_pos ⟨h.1, h.2⟩
theorem ltP_tm {k : Int} {m : Mk} (h0 : 0 < k) (hb : BdI k) (h : GdM m) : ltP (tmW k m) = some (some m, k) := by
  unfold tmW
  by_cases h1 : k = 1
  · rw [if_pos h1, h1]
    exact lt1_T h
  · rw [if_neg h1]
    show (match numP (Str.ofString (toString k)), lt1 (mkT m) with
      | some n, some (some m, _) => if n < 2 then none else some (some m, n)
      | _, _ => none) = _
    rw [numP_of (by omega) hb, lt1_T h]
    dsimp only
    rw [if_neg (by omega)]
theorem ltP_num {k : Int} (h0 : 0 ≤ k) (hb : BdI k) : ltP [Str.ofString (toString k)] = some (none, k) := by
  show lt1 _ = _
  unfold lt1
  rw [numP_of h0 hb]
def sgd (z : Tm) : List Str := sgW z.1 :: z.2
noncomputable def foldT : Row → List Tm → Option Row
  | f, [] => some f
  | f, z :: ts => match termP z.2 with
    | none => none
    | some t => foldT (addP f t (sgI (sgW z.1))) ts
theorem sgW_sg (i : Int) : isSg (sgW i) = true := by unfold sgW; split <;> decide +kernel
theorem tw_app {p : Str → Bool} : ∀ {xs ys : List Str}, (∀ x ∈ xs, p x = true) → (ys = [] ∨ ∃ y r, ys = y :: r ∧ p y = false) → (xs ++ ys).takeWhile p = xs ∧ (xs ++ ys).dropWhile p = ys
  | [], ys, _, h => by
    rcases h with rfl | ⟨y, r, rfl, h⟩
    · exact ⟨rfl, rfl⟩
    · rw [List.nil_append, List.takeWhile_cons, List.dropWhile_cons, h]; exact ⟨rfl, rfl⟩
  | x :: xs, ys, hx, h => by
    have ih := tw_app (fun y hy => hx y (List.mem_cons_of_mem _ hy)) h
    rw [List.cons_append, List.takeWhile_cons, List.dropWhile_cons, hx x List.mem_cons_self]
    exact ⟨by show x :: _ = _; rw [ih.1], ih.2⟩
theorem goP_fold : ∀ (ts : List Tm) (k : Nat) (f : Row), (∀ z ∈ ts, ∀ u ∈ z.2, isSg u = false) → (ts.map sgd).flatten.length ≤ k → goP k f (ts.map sgd).flatten = foldT f ts
  | [], k, f, _, _ => by cases k <;> rfl
  | z :: ts, k, f, h, hk => by
    rw [List.map_cons, List.flatten_cons] at hk ⊢
    have e : sgd z ++ (ts.map sgd).flatten = sgW z.1 :: (z.2 ++ (ts.map sgd).flatten) := rfl
    rw [e] at hk ⊢
    obtain ⟨k, rfl⟩ : ∃ k', k = k' + 1 := ⟨k - 1, by rw [List.length_cons] at hk; omega⟩
    have tw := tw_app (p := fun u => !isSg u) (xs := z.2) (ys := (ts.map sgd).flatten) (fun u hu => by rw [h z List.mem_cons_self u hu]; rfl) (by
      cases ts with
      | nil => exact .inl rfl
      | cons y r => exact .inr ⟨_, _, rfl, by rw [sgW_sg]; rfl⟩)
    show (match termP ((z.2 ++ (ts.map sgd).flatten).takeWhile fun u => !isSg u) with
      | none => none
      | some t => goP k (addP f t (sgI (sgW z.1))) ((z.2 ++ (ts.map sgd).flatten).dropWhile fun u => !isSg u)) = match termP z.2 with
      | none => none
      | some t => foldT (addP f t (sgI (sgW z.1))) ts
    rw [tw.1, tw.2]
    cases termP z.2 with
    | none => rfl
    | some t =>
      exact goP_fold ts k _ (fun y hy => h y (List.mem_cons_of_mem _ hy)) (by rw [List.length_cons, List.length_append] at hk; omega)
end W
namespace W
open PySem PySem.Spec PyProof.Rows L2 DL SX PL SlX
theorem co_snocT {l : List Pt} {u : Pt} (h : u.1 ∉ l.map Prod.fst) (m : Mk) : co (l ++ [u]) m = if u.1 = m then u.2 else co l m := by
  unfold co
  rw [lk_app, lk_cons]
  by_cases e : u.1 = m
  · rw [if_pos e, if_pos e, lk_none.mpr (by rw [← e]; exact h)]; rfl
  · rw [if_neg e, if_neg e]
    show ((lk l m).or none).getD 0 = _
    rw [Option.or_none]
theorem sg_ab (i : Int) : sgI (sgW i) * ab i = i := by
  unfold sgW
  by_cases h : i < 0
  · rw [if_pos h]
    have : sgI "-" = -1 := by decide +kernel
    unfold ab
    rw [this, if_pos h]; omega
  · rw [if_neg h]
    have : sgI "+" = 1 := by decide +kernel
    unfold ab
    rw [this, if_neg h]; omega
theorem ab_pos {i : Int} (h : i ≠ 0) : 0 < ab i := by unfold ab; split <;> omega
theorem sum_snoc {qs : List Pt} {p : Pt} (h : Pts (qs ++ [p])) : IsSum qs [(p.1, ab p.2)] (sgI (sgW p.2)) (qs ++ [p]) := by
  have hn : p.1 ∉ qs.map Prod.fst := by
    have := up_nd h.up
    rw [List.map_append, List.nodup_append] at this
    exact fun hm => this.2.2 _ hm _ (by simp) rfl
  refine ⟨h.up, fun q hq => (h.ok q hq).2.2, fun m => ?_⟩
  rw [co_snocT hn]
  have e : co [(p.1, ab p.2)] m = if p.1 = m then ab p.2 else 0 := by
    unfold co
    rw [lk_cons]
    by_cases hm : p.1 = m
    · rw [if_pos hm, if_pos hm]; rfl
    · rw [if_neg hm, if_neg hm]; rfl
  rw [e]
  by_cases hm : p.1 = m
  · rw [if_pos hm, if_pos hm, sg_ab]
    have : co qs m = 0 := by
      by_cases hz : co qs m = 0
      · exact hz
      · exact absurd (List.mem_map_of_mem (co_ne hz)) (hm ▸ hn)
    omega
  · rw [if_neg hm, if_neg hm]; omega
theorem pts_pre {qs rs : List Pt} (h : Pts (qs ++ rs)) : Pts qs := by
  refine ⟨fun p hp => h.ok p (List.mem_append_left _ hp), ?_⟩
  have := h.up
  rw [List.map_append] at this
  exact (List.pairwise_append.mp this).1
theorem fold_parts : ∀ (ps qs : List Pt) (r : List Tm), Pts (qs ++ ps) → (∀ p ∈ ps, BdI p.2) → foldT (qs, 0) (ps.map tmP ++ r) = foldT (qs ++ ps, 0) r
  | [], qs, r, _, _ => by rw [List.append_nil]; rfl
  | p :: ps, qs, r, h, hb => by
    have e0 : qs ++ p :: ps = (qs ++ [p]) ++ ps := by simp
    rw [e0] at h ⊢
    have h1 := pts_pre h
    obtain ⟨g1, g2, g3⟩ := h1.ok p (by simp)
    have et : termP (tmP p).2 = some ([(p.1, ab p.2)], 0) := termP_tm (ab_pos g3) (ab_bd (hb p List.mem_cons_self)) ⟨g1, g2⟩
    rw [← fold_parts ps (qs ++ [p]) r h fun x hx => hb x (List.mem_cons_of_mem _ hx)]
    show (match termP (tmP p).2 with
      | none => none
      | some t => foldT (addP (qs, 0) t (sgI (sgW (tmP p).1))) (ps.map tmP ++ r)) = _
    rw [et]
    show foldT (addP (qs, 0) ([(p.1, ab p.2)], 0) (sgI (sgW p.2))) (ps.map tmP ++ r) = _
    unfold addP
    rw [sumP_of (sum_snoc h1)]
    show foldT (qs ++ [p], 0 + sgI (sgW p.2) * 0) _ = _
    rw [Int.mul_zero, Int.zero_add]
theorem fold_terms {f : Row} (h : Pts f.1) (hb : BdR f) : foldT ([], 0) (termsW f) = some f := by
  obtain ⟨ps, n⟩ := f
  have hbn : BdI n := hb.2.2
  have e : termsW (ps, n) = ps.map tmP ++ if n ≠ 0 ∨ ps = [] then [(n, [Str.ofString (toString (ab n))])] else [] := rfl
  rw [e, fold_parts ps [] _ h fun p hp => (hb.1 p hp).2, List.nil_append]
  by_cases hn : n ≠ 0 ∨ ps = []
  · rw [if_pos hn]
    show (match termP [Str.ofString (toString (ab n))] with
      | none => none
      | some t => foldT (addP (ps, 0) t (sgI (sgW n))) []) = _
    rw [termP_num (ab_nn n) (ab_bd hbn)]
    show some (addP (ps, 0) ([], ab n) (sgI (sgW n))) = _
    unfold addP
    rw [sumP_of (isSum_one h), sg_ab, Int.zero_add]
  · rw [if_neg hn]
    have : n = 0 := by
      by_cases h0 : n = 0
      · exact h0
      · exact absurd (.inl h0) hn
    rw [this]; rfl
end W
namespace W
open PySem PySem.Spec PyProof.Rows L2 DL SX PL SlX
/-- a word of a term -/
def Gw (u : Str) : Prop := 32 ∉ TL.tl u ∧ ∃ c l, TL.tl u = c :: l ∧ c ≠ 43 ∧ c ≠ 45
theorem gw_T {m : Mk} (h : GdM m) : Gw (mkT m) := by
  refine ⟨mkT_nb h, ?_⟩
  rw [mkT_tl]
  cases e : TL.tl m.1 with
  | nil => exact ⟨46, _, rfl, by omega, by omega⟩
  | cons c l =>
    have := name_sg h c (by rw [e]; exact List.mem_cons_self)
    exact ⟨c, _, rfl, by omega, by omega⟩
theorem gw_num {k : Int} (h0 : 0 ≤ k) : Gw (Str.ofString (toString k)) := by
  have hd := num_nb h0
  refine ⟨fun hc => by have := hd _ hc; omega, ?_⟩
  obtain ⟨n, rfl⟩ := Int.eq_ofNat_of_zero_le h0
  rw [TL.tl_num] at hd ⊢
  cases e : TL.numL n with
  | nil => exact absurd e (TL.numL_ne n)
  | cons c l =>
    have := hd c (by rw [e]; exact List.mem_cons_self)
    exact ⟨c, l, rfl, by omega, by omega⟩
theorem gw_sg {u : Str} (h : Gw u) : isSg u = false := by
  obtain ⟨_, c, l, e, h1, h2⟩ := h
  unfold isSg
  refine decide_eq_false fun hm => ?_
  rcases List.mem_cons.mp hm with rfl | hm
  · rw [show TL.tl ("+" : Str) = [43] by decide +kernel] at e
    injection e with e; exact h1 e.symm
  · rw [List.mem_singleton.mp hm, show TL.tl ("-" : Str) = [45] by decide +kernel] at e
    injection e with e; exact h2 e.symm
theorem terms_gw {f : Row} (h : Pts f.1) : ∀ z ∈ termsW f, z.2 ≠ [] ∧ ∀ u ∈ z.2, Gw u := by
  intro z hz
  refine ⟨terms_w f z hz, fun u hu => ?_⟩
  unfold termsW at hz
  rcases List.mem_append.mp hz with hz | hz
  · obtain ⟨p, hp, rfl⟩ := List.mem_map.mp hz
    obtain ⟨g1, g2, _⟩ := h.ok p hp
    have hu : u ∈ tmW (ab p.2) p.1 := hu
    unfold tmW at hu
    split at hu
    · rw [List.mem_singleton.mp hu]; exact gw_T ⟨g1, g2⟩
    · rcases List.mem_cons.mp hu with rfl | hu
      · exact gw_num (ab_nn _)
      · rw [List.mem_singleton.mp hu]; exact gw_T ⟨g1, g2⟩
  · split at hz
    · rw [List.mem_singleton.mp hz] at hu
      rw [List.mem_singleton.mp hu]; exact gw_num (ab_nn _)
    · cases hz
theorem sgW_nb (i : Int) : 32 ∉ TL.tl (sgW i) := by unfold sgW; split <;> decide +kernel
theorem starts_gw {u : Str} (h : Gw u) : Txt.startswith u "-" = false := by
  obtain ⟨_, c, l, e, _, h2⟩ := h
  have eu : u = S (c :: l) := by rw [← e]
  rw [eu, show ("-" : Str) = S [45] by decide +kernel, starts1]
  exact decide_eq_false h2
theorem starts_neg (w : Str) : Txt.startswith ("-" ++ w) "-" = true := by
  have eu : ("-" ++ w : Str) = S (45 :: TL.tl w) := TL.ext_tl (by rw [TL.tl_append]; rfl)
  rw [eu, show ("-" : Str) = S [45] by decide +kernel, starts1]
  exact decide_eq_true rfl
theorem remove_neg (w : Str) : Txt.removeprefix ("-" ++ w) "-" = w := by
  have h := starts_neg w
  unfold Txt.startswith at h
  rw [Bool.and_eq_true] at h
  unfold Txt.removeprefix
  rw [if_pos h.2]
  unfold Txt.affix
  dsimp only
  have l1 : ("-" : Str).length = 1 := by decide +kernel
  rw [if_neg (by rw [s_len, l1]; intro e; have := eq_of_beq e; omega)]
  refine TL.ext_tl ?_
  rw [TL.tl_strSub_end, l1, TL.tl_append]
  rfl
theorem words_T {f : Row} (h : Pts f.1) : wordsOf (T f) = ((termsW f).map sgd).flatten := by
  have hg := terms_gw h
  have key : ∀ q r, termsW f = q :: r → wordsOf (T f) = ((termsW f).map sgd).flatten := by
    intro q r e
    have hq := hg q (by rw [e]; exact List.mem_cons_self)
    have hr : ∀ z ∈ r, z.2 ≠ [] ∧ ∀ u ∈ z.2, Gw u := fun z hz => hg z (by rw [e]; exact List.mem_cons_of_mem _ hz)
    have ew : wordsF f = headW q.2 (decide (q.1 < 0)) ++ (r.map sgd).flatten := by unfold wordsF; rw [e]; rfl
    have rb : ∀ u ∈ (r.map sgd).flatten, 32 ∉ TL.tl u := by
      intro u hu
      obtain ⟨l, hl, hu⟩ := List.mem_flatten.mp hu
      obtain ⟨z, hz, rfl⟩ := List.mem_map.mp hl
      rcases List.mem_cons.mp hu with rfl | hu
      · exact sgW_nb _
      · exact ((hr z hz).2 u hu).1
    have hsp : Txt.split (T f) " " = headW q.2 (decide (q.1 < 0)) ++ (r.map sgd).flatten := by
      unfold T
      rw [ew]
      refine split_J ?_ ?_
      · intro e0
        exact headW_ne hq.1 _ (List.append_eq_nil_iff.mp e0).1
      · intro u hu
        rcases List.mem_append.mp hu with hu | hu
        · obtain ⟨i, ws⟩ := q
          cases ws with
          | nil => exact absurd rfl hq.1
          | cons w ws =>
            by_cases hn : i < 0
            · rw [show decide ((i, w :: ws).1 < 0) = true from decide_eq_true hn] at hu
              rcases List.mem_cons.mp (show u ∈ ("-" ++ w) :: ws from hu) with rfl | hu
              · rw [TL.tl_append]
                intro hc
                rcases List.mem_append.mp hc with hc | hc
                · exact absurd hc (by decide +kernel)
                · exact (hq.2 w List.mem_cons_self).1 hc
              · exact (hq.2 u (List.mem_cons_of_mem _ hu)).1
            · rw [show decide ((i, w :: ws).1 < 0) = false from decide_eq_false hn] at hu
              exact (hq.2 u hu).1
        · exact rb u hu
    rw [e]
    unfold wordsOf
    rw [hsp]
    obtain ⟨i, ws⟩ := q
    cases ws with
    | nil => exact absurd rfl hq.1
    | cons w ws =>
      by_cases hn : i < 0
      · rw [show decide ((i, w :: ws).1 < 0) = true from decide_eq_true hn]
        show (if Txt.startswith ("-" ++ w) "-" = true then ("-" : Str) :: Txt.removeprefix ("-" ++ w) "-" :: (ws ++ (r.map sgd).flatten) else _) = _
        rw [if_pos (starts_neg w), remove_neg]
        show _ = (sgW i :: w :: ws) ++ (r.map sgd).flatten
        rw [show sgW i = "-" from if_pos hn]; rfl
      · rw [show decide ((i, w :: ws).1 < 0) = false from decide_eq_false hn]
        show (if Txt.startswith w "-" = true then _ else ("+" : Str) :: w :: (ws ++ (r.map sgd).flatten)) = _
        rw [starts_gw (hq.2 w List.mem_cons_self), if_neg (by decide)]
        show _ = (sgW i :: w :: ws) ++ (r.map sgd).flatten
        rw [show sgW i = "+" from if_neg hn]; rfl
  cases e : termsW f with
  | nil => exact absurd e (terms_ne f)
  | cons q r => rw [← e]; exact key q r e
/-- the package reads its own text back -/
theorem told_T {f : Row} (h : Pts f.1) (hb : BdR f) : toldP (T f) = some f := by
  unfold toldP
  rw [words_T h, goP_fold (termsW f) _ _ (fun z hz u hu => gw_sg ((terms_gw h z hz).2 u hu)) (Nat.le_refl _), fold_terms h hb]
  dsimp only
  rw [if_pos rfl]
end W
namespace W
open PySem PySem.Spec PyProof.Rows L2 DL SX PL SlX
abbrev Lq := Option Mk × Int
/-- the loop of _law_pair_in over the words and a last "+" -/
def scanL : Int → List Str → List Lq → List Str → Option (List Lq)
  | _, _, ts, [] => some ts
  | s, row, ts, u :: us => if isSg u = true then (match ltP row with
    | none => none
    | some q => scanL (if u = "-" then -1 else 1) [] (ts ++ [(q.1, s * q.2)]) us) else scanL s (row ++ [u]) ts us
theorem scan_row : ∀ (xs : List Str) (s : Int) (row : List Str) (ts : List Lq) (ys : List Str), (∀ x ∈ xs, isSg x = false) → scanL s row ts (xs ++ ys) = scanL s (row ++ xs) ts ys
  | [], s, row, ts, ys, _ => by rw [List.append_nil]; rfl
  | x :: xs, s, row, ts, ys, h => by
    have ih := scan_row xs s (row ++ [x]) ts ys fun y hy => h y (List.mem_cons_of_mem _ hy)
    rw [List.append_assoc] at ih
    rw [show row ++ x :: xs = row ++ ([x] ++ xs) from rfl, ← ih, List.cons_append]
    show (if isSg x = true then _ else scanL s (row ++ [x]) ts (xs ++ ys)) = _
    rw [h x List.mem_cons_self, if_neg (by decide)]
theorem scan_terms (g : Tm → Lq) : ∀ (r : List Tm) (q : Tm) (s : Int) (ts : List Lq), (∀ z ∈ q :: r, ltP z.2 = some (g z) ∧ ∀ u ∈ z.2, isSg u = false) →
    scanL s [] ts (q.2 ++ (r.map sgd).flatten ++ [("+" : Str)]) = some (ts ++ [((g q).1, s * (g q).2)] ++ r.map fun z => ((g z).1, sgI (sgW z.1) * (g z).2))
  | [], q, s, ts, h => by
    obtain ⟨h1, h2⟩ := h q List.mem_cons_self
    show scanL s [] ts (q.2 ++ [] ++ [("+" : Str)]) = _
    rw [List.append_nil, scan_row q.2 s [] ts [("+" : Str)] h2, List.nil_append]
    show (if isSg "+" = true then (match ltP q.2 with
      | none => none
      | some q => scanL (if ("+" : Str) = "-" then -1 else 1) [] (ts ++ [(q.1, s * q.2)]) []) else _) = _
    rw [if_pos (by decide +kernel), h1]
    show some (ts ++ [((g q).1, s * (g q).2)]) = some (ts ++ [((g q).1, s * (g q).2)] ++ [])
    rw [List.append_nil]
  | z :: r, q, s, ts, h => by
    obtain ⟨h1, h2⟩ := h q List.mem_cons_self
    have e : q.2 ++ ((z :: r).map sgd).flatten ++ [("+" : Str)] = q.2 ++ (sgW z.1 :: (z.2 ++ (r.map sgd).flatten ++ [("+" : Str)])) := by
      simp [sgd]
    rw [e, scan_row q.2 s [] ts _ h2, List.nil_append]
    show (if isSg (sgW z.1) = true then (match ltP q.2 with
      | none => none
      | some q => scanL (if sgW z.1 = "-" then -1 else 1) [] (ts ++ [(q.1, s * q.2)]) (z.2 ++ (r.map sgd).flatten ++ [("+" : Str)])) else _) = _
    rw [if_pos (sgW_sg _), h1]
    have es : (if sgW z.1 = ("-" : Str) then (-1 : Int) else 1) = sgI (sgW z.1) := by
      unfold sgW sgI
      split <;> decide +kernel
    rw [es]
    show scanL (sgI (sgW z.1)) [] (ts ++ [((g q).1, s * (g q).2)]) (z.2 ++ (r.map sgd).flatten ++ [("+" : Str)]) = _
    rw [scan_terms g r z _ _ fun y hy => h y (List.mem_cons_of_mem _ hy)]
    simp
end W
namespace W
open PySem PySem.Spec PyProof.Rows L2 DL SX PL SlX
def lqT (f : Row) : List Lq := (f.1.map fun p => ((some p.1, p.2) : Lq)) ++ if f.2 ≠ 0 ∨ f.1 = [] then [(none, f.2)] else []
def gLt (z : Tm) : Lq := (ltP z.2).getD (none, 0)
theorem scan_T {f : Row} (h : Pts f.1) (hb : BdR f) {q : Tm} {r : List Tm} (e : termsW f = q :: r) : scanL (sgI (sgW q.1)) [] [] (q.2 ++ (r.map sgd).flatten ++ [("+" : Str)]) = some (lqT f) := by
  obtain ⟨ps, n⟩ := f
  have hp : ∀ p ∈ ps, ltP (tmP p).2 = some (some p.1, ab p.2) := fun p hp => by
    obtain ⟨g1, g2, g3⟩ := h.ok p hp
    exact ltP_tm (ab_pos g3) (ab_bd (hb.1 p hp).2) ⟨g1, g2⟩
  have hn : ltP [Str.ofString (toString (ab n))] = some (none, ab n) := ltP_num (ab_nn n) (ab_bd hb.2.2)
  have et : termsW (ps, n) = ps.map tmP ++ if n ≠ 0 ∨ ps = [] then [(n, [Str.ofString (toString (ab n))])] else [] := rfl
  have hl : ∀ z ∈ termsW (ps, n), ltP z.2 = some (gLt z) := by
    intro z hz
    unfold gLt
    rw [et] at hz
    rcases List.mem_append.mp hz with hz | hz
    · obtain ⟨p, hp2, rfl⟩ := List.mem_map.mp hz
      rw [hp p hp2]; rfl
    · split at hz
      · rw [List.mem_singleton.mp hz, hn]; rfl
      · cases hz
  have hm : (termsW (ps, n)).map (fun z => (((gLt z).1, sgI (sgW z.1) * (gLt z).2) : Lq)) = lqT (ps, n) := by
    rw [et, List.map_append, List.map_map]
    unfold lqT
    congr 1
    · refine List.map_congr_left fun p hp2 => ?_
      show (((gLt (tmP p)).1, sgI (sgW p.2) * (gLt (tmP p)).2) : Lq) = _
      unfold gLt
      rw [hp p hp2]
      show ((some p.1, sgI (sgW p.2) * ab p.2) : Lq) = _
      rw [sg_ab]
    · by_cases hc : n ≠ 0 ∨ ps = []
      · rw [if_pos hc, if_pos hc]
        show [(((gLt (n, [Str.ofString (toString (ab n))])).1, sgI (sgW n) * (gLt (n, [Str.ofString (toString (ab n))])).2) : Lq)] = _
        unfold gLt
        rw [hn]
        show [((none, sgI (sgW n) * ab n) : Lq)] = _
        rw [sg_ab]
      · rw [if_neg hc, if_neg hc]; rfl
  rw [scan_terms gLt r q _ [] fun z hz => ⟨hl z (by rw [e]; exact hz), fun u hu => gw_sg ((terms_gw (f := (ps, n)) h z (by rw [e]; exact hz)).2 u hu)⟩, ← hm, e]
  rfl
end W
namespace W
open PySem PySem.Spec PyProof.Rows L2 DL SX PL SlX
def spx (s : Nat) (acc l : List Nat) : List (List Nat) := TL.spl [s] 0 acc l
section
variable {s : Nat}
theorem spx_nil (acc : List Nat) : spx s acc [] = [acc] := TL.spl_nil _ _ _
theorem spx_hit (acc r : List Nat) : spx s acc (s :: r) = acc :: spx s [] r := by
  unfold spx
  rw [TL.spl_hit (show TL.pre [s] (s :: r) = true from TL.pre_self [s] r)]; rfl
theorem spx_miss {acc r : List Nat} {c : Nat} (h : c ≠ s) : spx s acc (c :: r) = spx s (acc ++ [c]) r := TL.spl_miss (TL.pre_of_head _ _ h)
theorem spx_ne : ∀ (l acc : List Nat), spx s acc l ≠ []
  | [], acc => by rw [spx_nil]; simp
  | c :: r, acc => by
    by_cases h : c = s
    · rw [h, spx_hit]; simp
    · rw [spx_miss h]; exact spx_ne r _
theorem spx_len : ∀ (l acc : List Nat), (spx s acc l).length = l.count s + 1
  | [], acc => by rw [spx_nil]; rfl
  | c :: r, acc => by
    by_cases h : c = s
    · rw [h, spx_hit, List.length_cons, spx_len r, List.count_cons_self]
    · rw [spx_miss h, spx_len r, List.count_cons_of_ne h]
theorem spx_nb : ∀ (l acc : List Nat), s ∉ acc → ∀ p ∈ spx s acc l, s ∉ p
  | [], acc, h, p, hp => by rw [spx_nil] at hp; rw [List.mem_singleton.mp hp]; exact h
  | c :: r, acc, h, p, hp => by
    by_cases e : c = s
    · rw [e, spx_hit] at hp
      rcases List.mem_cons.mp hp with rfl | hp
      · exact h
      · exact spx_nb r [] (fun h => nomatch h) p hp
    · rw [spx_miss e] at hp
      exact spx_nb r _ (fun h2 => (List.mem_append.mp h2).elim h fun h3 => e (List.mem_singleton.mp h3).symm) p hp
theorem spx_sub : ∀ (l acc : List Nat), ∀ p ∈ spx s acc l, p.length ≤ acc.length + l.length
  | [], acc, p, hp => by rw [spx_nil] at hp; rw [List.mem_singleton.mp hp]; exact Nat.le_add_right _ _
  | c :: r, acc, p, hp => by
    by_cases e : c = s
    · rw [e, spx_hit] at hp
      rcases List.mem_cons.mp hp with rfl | hp
      · exact Nat.le_add_right _ _
      · have := spx_sub r [] p hp
        rw [List.length_nil] at this
        rw [List.length_cons]; omega
    · rw [spx_miss e] at hp
      have := spx_sub r _ p hp
      rw [List.length_append, List.length_singleton] at this
      rw [List.length_cons]; omega
theorem joinL_c (S p : List Nat) {ps : List (List Nat)} (h : ps ≠ []) : TL.joinL S (p :: ps) = p ++ (S ++ TL.joinL S ps) := by
  cases ps with
  | nil => exact absurd rfl h
  | cons q r => rfl
theorem spx_join : ∀ (l acc : List Nat), TL.joinL [s] (spx s acc l) = acc ++ l
  | [], acc => by rw [spx_nil, List.append_nil]; rfl
  | c :: r, acc => by
    by_cases e : c = s
    · rw [e, spx_hit, joinL_c _ _ (spx_ne r []), spx_join r []]; rfl
    · rw [spx_miss e, spx_join r, List.append_assoc]; rfl
theorem spx_acc : ∀ (l acc : List Nat), ∃ p ps, spx s [] l = p :: ps ∧ spx s acc l = (acc ++ p) :: ps
  | [], acc => ⟨[], [], spx_nil [], by rw [spx_nil, List.append_nil]⟩
  | c :: r, acc => by
    by_cases e : c = s
    · exact ⟨[], spx s [] r, by rw [e, spx_hit], by rw [e, spx_hit, List.append_nil]⟩
    · obtain ⟨p, ps, h1, h2⟩ := spx_acc r (acc ++ [c])
      obtain ⟨p', ps', h3, h4⟩ := spx_acc r [c]
      rw [h1] at h3
      injection h3 with h3 h5
      subst h3 h5
      exact ⟨c :: p, ps, by rw [spx_miss e]; exact h4, by rw [spx_miss e, h2, List.append_assoc]; rfl⟩
end
theorem joinL_bd {S : List Nat} {B : Nat} : ∀ {ps : List (List Nat)}, (∀ p ∈ ps, p.length ≤ B) → (TL.joinL S ps).length ≤ ps.length * (B + S.length)
  | [], _ => Nat.zero_le _
  | [p], h => by
    have := h p List.mem_cons_self
    show p.length ≤ 1 * _
    omega
  | p :: q :: r, h => by
    have h1 := h p List.mem_cons_self
    have ih := joinL_bd (S := S) (ps := q :: r) fun x hx => h x (List.mem_cons_of_mem _ hx)
    rw [joinL_c _ _ (List.cons_ne_nil q r), List.length_append, List.length_append, List.length_cons (a := p), Nat.add_mul]
    omega
theorem tlm (z : Str) : S (TL.tl z) = z := S_toList z
theorem split_x (z : Str) {y : Str} {s : Nat} (hy : TL.tl y = [s]) (hk : y.cps.all (· < 256) = true) : Txt.split z y = (spx s [] (TL.tl z)).map S := by
  refine TL.map_tl_inj ?_
  rw [TL.split_spl z y (by rw [hy]; simp) (TL.kind_ok hk), hy, List.map_map]
  show spx s [] (TL.tl z) = (spx s [] (TL.tl z)).map (TL.tl ∘ S)
  rw [show TL.tl ∘ S = id from rfl, List.map_id]
theorem split_b (z : Str) : Txt.split z " " = (spx 32 [] (TL.tl z)).map S := split_x z (by decide +kernel) (by decide +kernel)
theorem split_d (z : Str) : Txt.split z "." = (spx 46 [] (TL.tl z)).map S := split_x z (by decide +kernel) (by decide +kernel)
/-- few, short words -/
structure TxW (z : Str) : Prop where
  few : (Txt.split z " ").length ≤ 19
  le : ∀ u ∈ Txt.split z " ", u.length ≤ 40
theorem TxW.len {z : Str} (h : TxW z) : z.length ≤ 779 := by
  have h1 := h.few
  have h2 := h.le
  rw [split_b] at h1 h2
  rw [List.length_map] at h1
  have h3 := joinL_bd (S := [32]) (B := 40) (ps := spx 32 [] (TL.tl z)) fun p hp => by
    have := h2 (S p) (List.mem_map_of_mem hp)
    rwa [S_len] at this
  rw [spx_join, List.nil_append, List.length_singleton] at h3
  rw [TL.len_tl]
  have : (spx 32 [] (TL.tl z)).length * (40 + 1) ≤ 19 * (40 + 1) := Nat.mul_le_mul_right _ h1
  omega
theorem num_lt : ∀ (k n : Nat), n ≤ k → n < 10 ^ (TL.numL n).length
  | 0, n, h => by
    have : n = 0 := by omega
    subst this
    exact Nat.pow_pos (by omega)
  | k + 1, n, h => by
    by_cases h10 : n < 10
    · rw [TL.numL_lt h10]; exact h10
    · rw [TL.numL_step (by omega), List.length_append, List.length_singleton, Nat.pow_succ]
      have := num_lt k (n / 10) (by omega)
      omega
theorem wdT_of {u : Str} (h : u.length ≤ 40) : WdT u := by
  refine ⟨⟨by omega, fun v hv => ?_⟩, fun i hi => ?_⟩
  · rw [split_d] at hv
    obtain ⟨p, hp, rfl⟩ := List.mem_map.mp hv
    have := spx_sub _ _ p hp
    rw [List.length_nil, ← TL.len_tl] at this
    show p.length ≤ _
    omega
  · obtain ⟨h0, h1⟩ := numP_some hi
    obtain ⟨n, rfl⟩ := Int.eq_ofNat_of_zero_le h0
    have h2 : (TL.numL n).length ≤ 40 := by rw [← TL.tl_num n, ← TL.len_tl, h1]; exact h
    have h3 := num_lt n n (Nat.le_refl _)
    have h4 : 10 ^ (TL.numL n).length ≤ 10 ^ 45 := Nat.pow_le_pow_right (by omega) (by omega)
    show n ≤ 10 ^ 45
    omega
theorem starts_S (l : List Nat) : Txt.startswith (S l) "-" = decide (l.head? = some 45) := by
  cases l with
  | nil => decide +kernel
  | cons c r =>
    rw [show ("-" : Str) = S [45] by decide +kernel, starts1]
    exact decide_eq_decide.mpr ⟨fun h => by rw [h]; rfl, fun h => by injection h⟩
theorem words_few {z : Str} (h : TxW z) : (wordsOf z).length ≤ 20 ∧ ∀ u ∈ wordsOf z, u.length ≤ 40 := by
  have h1 := h.few
  have h2 := h.le
  unfold wordsOf
  generalize Txt.split z " " = ws at h1 h2 ⊢
  cases ws with
  | nil => exact ⟨Nat.zero_le _, fun u hu => (nomatch hu)⟩
  | cons q r =>
    rw [List.length_cons] at h1
    have m1 : ("-" : Str).length ≤ 40 := by decide +kernel
    have m2 : ("+" : Str).length ≤ 40 := by decide +kernel
    have hq := h2 q List.mem_cons_self
    have hr : ∀ u ∈ r, u.length ≤ 40 := fun u hu => h2 u (List.mem_cons_of_mem _ hu)
    dsimp only
    split
    · rename_i hs
      refine ⟨by rw [List.length_cons, List.length_cons]; omega, fun u hu => ?_⟩
      rcases List.mem_cons.mp hu with rfl | hu
      · exact m1
      rcases List.mem_cons.mp hu with rfl | hu
      · rw [← tlm q] at hs
        rw [starts_S] at hs
        have hs := of_decide_eq_true hs
        cases e : TL.tl q with
        | nil => rw [e] at hs; cases hs
        | cons c r =>
          rw [e] at hs
          injection hs with hs
          subst hs
          have eq : q = "-" ++ S r := TL.ext_tl (by rw [e, TL.tl_append]; rfl)
          rw [eq, remove_neg, S_len]
          rw [TL.len_tl, e, List.length_cons] at hq
          omega
      · exact hr u hu
    · refine ⟨by rw [List.length_cons, List.length_cons]; omega, fun u hu => ?_⟩
      rcases List.mem_cons.mp hu with rfl | hu
      · exact m2
      rcases List.mem_cons.mp hu with rfl | hu
      · exact hq
      · exact hr u hu
theorem TxW.k {z : Str} (h : TxW z) : TxK z := by
  obtain ⟨w1, w2⟩ := words_few h
  have := h.len
  exact ⟨by omega, by have := h.few; omega, fun u hu => by have := h.le u hu; omega, by rw [split_b]; intro e; exact spx_ne _ _ (List.map_eq_nil_iff.mp e), w1, fun u hu => wdT_of (w2 u hu)⟩
theorem par_len {s : Nat} : ∀ (l acc a b : List Nat), TL.par [s] acc l = some (a, b) → a.length ≤ acc.length + l.length
  | [], acc, a, b, h => by cases h
  | c :: r, acc, a, b, h => by
    by_cases e : c = s
    · rw [e, TL.par_hit (show TL.pre [s] (s :: r) = true from TL.pre_self [s] r)] at h
      injection h with h
      injection h with h1 h2
      rw [← h1]; exact Nat.le_add_right _ _
    · rw [TL.par_miss (TL.pre_of_head _ _ e)] at h
      have := par_len r _ a b h
      rw [List.length_append, List.length_singleton] at this
      rw [List.length_cons]; omega
theorem ltK_of {u : Str} (h : u.length ≤ 40) : LtK u := by
  refine ⟨by omega, ?_⟩
  rw [TL.partition_par u "." (by decide +kernel), show TL.tl ("." : Str) = [46] by decide +kernel]
  cases e : TL.par [46] [] (TL.tl u) with
  | none => show u.length ≤ 1000; omega
  | some q =>
    obtain ⟨a, b⟩ := q
    have := par_len _ _ _ _ e
    rw [List.length_nil, ← TL.len_tl] at this
    show (S a).length ≤ 1000
    rw [S_len]; omega
def lawS (z : Str) : Int × Str := match TL.tl z with
  | 45 :: r => (-1, S r)
  | _ => (1, z)
def lawW (z : Str) : List Str := Txt.split (lawS z).2 " "
theorem lawW_few {z : Str} (h : TxW z) : (lawW z).length ≤ 19 ∧ ∀ u ∈ lawW z, u.length ≤ 40 := by
  have h1 := h.few
  have h2 := h.le
  unfold lawW lawS
  split
  · rename_i r e
    rw [split_b] at h1 h2 ⊢
    rw [e] at h1 h2
    show ((spx 32 [] r).map S).length ≤ 19 ∧ ∀ u ∈ (spx 32 [] r).map S, u.length ≤ 40
    obtain ⟨p, ps, e1, e2⟩ := spx_acc (s := 32) r [45]
    rw [spx_miss (by omega)] at h1 h2
    rw [show ([] : List Nat) ++ [45] = [45] from rfl, e2] at h1 h2
    rw [e1]
    refine ⟨by rw [List.length_map] at h1 ⊢; exact h1, fun u hu => ?_⟩
    rcases List.mem_cons.mp hu with rfl | hu
    · have := h2 (S ([45] ++ p)) List.mem_cons_self
      rw [S_len, List.length_append] at this
      show (S p).length ≤ 40
      rw [S_len]; omega
    · exact h2 u (List.mem_cons_of_mem _ hu)
  · exact ⟨h1, h2⟩
end W
namespace W
open PySem PySem.Spec PyProof.Rows L2 DL SX PL SlX
theorem addP_bd {a : Nat} {f t : Row} {i : Int} (hf : BdF a f) (ht : BdF 1 t) (hi : i.natAbs = 1) : BdF (a + 1) (addP f t i) := by
  unfold addP
  by_cases h : ∃ rs, IsSum f.1 t.1 i rs
  · obtain ⟨rs, h⟩ := h
    rw [sumP_of h]
    exact hf.add ht hi h
  · have e : sumP f.1 t.1 i = [] := by unfold sumP; rw [dif_neg h]
    rw [e]
    have nil : Pts ([] : List Pt) := ⟨fun p hp => (nomatch hp), .nil⟩
    refine BdF.add (a := a) (f := ([], f.2)) (t := ([], t.2)) ⟨nil, Nat.zero_le _, fun p hp => (nomatch hp), hf.n⟩ ⟨nil, Nat.zero_le _, fun p hp => (nomatch hp), ht.n⟩ hi ⟨.nil, fun p hp => (nomatch hp), fun m => ?_⟩
    show (0 : Int) = 0 + i * 0
    rw [Int.mul_zero, Int.zero_add]
theorem goP_bd : ∀ (k : Nat) (f : Row) (ws : List Str) (a : Nat) {f' : Row}, BdF a f → (∀ u ∈ ws, WdT u) → goP k f ws = some f' → BdF (a + ws.length) f'
  | 0, f, [], a, f', hb, _, h => by
    have h : some f = some f' := h
    injection h with h
    subst h; exact hb
  | k + 1, f, [], a, f', hb, _, h => by
    have h : some f = some f' := h
    injection h with h
    subst h; exact hb
  | 0, f, s :: r, a, f', hb, _, h => by
    have h : none = some f' := h
    cases h
  | k + 1, f, s :: r, a, f', hb, hw, h => by
    have h : (match termP (r.takeWhile fun z => !isSg z) with
      | none => none
      | some t => goP k (addP f t (sgI s)) (r.dropWhile fun z => !isSg z)) = some f' := h
    have ht : ∀ u ∈ r.takeWhile fun z => !isSg z, WdT u := fun u hu => hw u (List.mem_cons_of_mem _ ((List.takeWhile_sublist _).subset hu))
    have hd : ∀ u ∈ r.dropWhile fun z => !isSg z, WdT u := fun u hu => hw u (List.mem_cons_of_mem _ ((List.dropWhile_sublist _).subset hu))
    cases e : termP (r.takeWhile fun z => !isSg z) with
    | none => rw [e] at h; cases h
    | some t =>
      rw [e] at h
      have hl : (r.dropWhile fun z => !isSg z).length ≤ r.length := (List.dropWhile_sublist _).length_le
      refine (goP_bd k _ _ (a + 1) (addP_bd hb (termP_bd ht e) (sg_abs _)) hd h).mono ?_
      rw [List.length_cons]; omega
theorem told_bd {z : Str} {f : Row} (tk : TxK z) (h : toldP z = some f) : T f = z ∧ Pts f.1 ∧ BdR f := by
  unfold toldP at h
  cases e : goP (wordsOf z).length ([], 0) (wordsOf z) with
  | none => rw [e] at h; cases h
  | some g =>
    rw [e] at h
    dsimp only at h
    split at h
    · rename_i ht
      injection h with h
      subst h
      have nil : Pts ([] : List Pt) := ⟨fun p hp => (nomatch hp), .nil⟩
      have hb := goP_bd _ _ _ 0 ⟨nil, Nat.le_refl _, fun p hp => absurd hp (List.not_mem_nil), Nat.zero_le _⟩ tk.w e
      exact ⟨ht, hb.p, hb.bd (by have := tk.few; omega)⟩
    · cases h
theorem J_hd {w : Str} {c : Nat} {l : List Nat} (e : TL.tl w = c :: l) (X : List Str) : ∃ l', TL.tl (J (w :: X)) = c :: l' := by
  cases X with
  | nil => exact ⟨l, e⟩
  | cons x X =>
    rw [J_cons w (by simp)]
    exact ⟨_, by rw [TL.tl_append, TL.tl_append, e]; rfl⟩
theorem law_T {f : Row} (h : Pts f.1) {q : Tm} {r : List Tm} (e : termsW f = q :: r) : (lawS (T f)).1 = sgI (sgW q.1) ∧ lawW (T f) = q.2 ++ (r.map sgd).flatten := by
  have hg := terms_gw h
  have hq := hg q (by rw [e]; exact List.mem_cons_self)
  have hr : ∀ z ∈ r, z.2 ≠ [] ∧ ∀ u ∈ z.2, Gw u := fun z hz => hg z (by rw [e]; exact List.mem_cons_of_mem _ hz)
  have ew : wordsF f = headW q.2 (decide (q.1 < 0)) ++ (r.map sgd).flatten := by unfold wordsF; rw [e]; rfl
  have rb : ∀ u ∈ (r.map sgd).flatten, 32 ∉ TL.tl u := by
    intro u hu
    obtain ⟨l, hl, hu⟩ := List.mem_flatten.mp hu
    obtain ⟨z, hz, rfl⟩ := List.mem_map.mp hl
    rcases List.mem_cons.mp hu with rfl | hu
    · exact sgW_nb _
    · exact ((hr z hz).2 u hu).1
  obtain ⟨i, ws⟩ := q
  cases ws with
  | nil => exact absurd rfl hq.1
  | cons w ws =>
    obtain ⟨wb, c, l, ec, c1, c2⟩ := hq.2 w List.mem_cons_self
    have sb : ∀ u ∈ w :: (ws ++ (r.map sgd).flatten), 32 ∉ TL.tl u := by
      intro u hu
      rcases List.mem_cons.mp hu with rfl | hu
      · exact wb
      rcases List.mem_append.mp hu with hu | hu
      · exact (hq.2 u (List.mem_cons_of_mem _ hu)).1
      · exact rb u hu
    have sp := split_J (ws := w :: (ws ++ (r.map sgd).flatten)) (by simp) sb
    by_cases hn : i < 0
    · have eT : T f = "-" ++ J (w :: (ws ++ (r.map sgd).flatten)) := by
        unfold T
        rw [ew]
        show J (headW (w :: ws) (decide (i < 0)) ++ _) = _
        rw [decide_eq_true hn]
        exact (J_head (ws := w :: (ws ++ (r.map sgd).flatten)) (by simp) true).trans (by rw [if_pos rfl])
      have eS : lawS (T f) = (-1, J (w :: (ws ++ (r.map sgd).flatten))) := by
        have et : TL.tl (T f) = 45 :: TL.tl (J (w :: (ws ++ (r.map sgd).flatten))) := by rw [eT, TL.tl_append]; rfl
        unfold lawS
        rw [et]
        show ((-1 : Int), S (TL.tl _)) = _
        rw [tlm]
      unfold lawW
      rw [eS]
      refine ⟨?_, sp⟩
      show (-1 : Int) = sgI (sgW i)
      rw [show sgW i = "-" from if_pos hn]
      decide +kernel
    · have eT : T f = J (w :: (ws ++ (r.map sgd).flatten)) := by
        unfold T
        rw [ew]
        show J (headW (w :: ws) (decide (i < 0)) ++ _) = _
        rw [decide_eq_false hn]; rfl
      obtain ⟨l', el⟩ := J_hd ec (ws ++ (r.map sgd).flatten)
      have eS : lawS (T f) = (1, T f) := by
        unfold lawS
        rw [eT, el]
        split
        · rename_i r' e'
          injection e' with e' _
          exact absurd e' c2
        · rfl
      unfold lawW
      rw [eS]
      refine ⟨?_, by rw [eT]; exact sp⟩
      show (1 : Int) = sgI (sgW i)
      rw [show sgW i = "+" from if_neg hn]
      decide +kernel
def lawScan (z : Str) : Option (List Lq) := scanL (lawS z).1 [] [] (lawW z ++ [("+" : Str)])
theorem law_scan_T {f : Row} (h : Pts f.1) (hb : BdR f) : lawScan (T f) = some (lqT f) := by
  cases e : termsW f with
  | nil => exact absurd e (terms_ne f)
  | cons q r =>
    obtain ⟨h1, h2⟩ := law_T h e
    unfold lawScan
    rw [h1, h2]
    exact scan_T h hb e
theorem told_scan {z : Str} {f : Row} (tk : TxK z) (h : toldP z = some f) : lawScan z = some (lqT f) := by
  obtain ⟨h1, h2, h3⟩ := told_bd tk h
  rw [← h1]
  exact law_scan_T h2 h3
theorem scan_none {z : Str} (tk : TxK z) (h : lawScan z = none) : toldP z = none := by
  cases e : toldP z with
  | none => rfl
  | some f => rw [told_scan tk e] at h; cases h
def nmL (ts : List Lq) : List Int := (ts.filter fun q => q.1.isNone).map Prod.snd
def ptL (ts : List Lq) : List Pt := ts.filterMap fun q => q.1.map fun m => (m, q.2)
theorem nm_lq {ps : List Pt} : nmL (ps.map fun p => ((some p.1, p.2) : Lq)) = [] := by
  unfold nmL
  rw [List.filter_eq_nil_iff.mpr]
  · rfl
  · intro q hq
    obtain ⟨p, _, rfl⟩ := List.mem_map.mp hq
    simp
theorem pt_lq : ∀ {ps : List Pt}, ptL (ps.map fun p => ((some p.1, p.2) : Lq)) = ps
  | [] => rfl
  | p :: ps => by
    show p :: ptL (ps.map fun p => ((some p.1, p.2) : Lq)) = _
    rw [pt_lq]
theorem nm_app (a b : List Lq) : nmL (a ++ b) = nmL a ++ nmL b := by unfold nmL; rw [List.filter_append, List.map_append]
theorem pt_app (a b : List Lq) : ptL (a ++ b) = ptL a ++ ptL b := List.filterMap_append
theorem pt_T (f : Row) : ptL (lqT f) = f.1 := by
  unfold lqT
  rw [pt_app, pt_lq]
  split
  · exact List.append_nil _
  · exact List.append_nil _
theorem nm_T (f : Row) : (nmL (lqT f)).length ≤ 1 ∧ (nmL (lqT f)).sum = f.2 ∧ (nmL (lqT f) ≠ [] → ∃ a, lqT f = a ++ [(none, f.2)]) := by
  unfold lqT
  rw [nm_app, nm_lq, List.nil_append]
  by_cases h : f.2 ≠ 0 ∨ f.1 = []
  · rw [if_pos h]
    refine ⟨Nat.le_refl 1, ?_, fun _ => ⟨_, rfl⟩⟩
    show f.2 + 0 = f.2
    omega
  · rw [if_neg h]
    refine ⟨Nat.zero_le 1, ?_, fun e => absurd rfl e⟩
    show (0 : Int) = f.2
    by_cases h0 : f.2 = 0
    · exact h0.symm
    · exact absurd (.inl h0) h
theorem fin_none1 {z : Str} {ts : List Lq} (tk : TxK z) (hs : lawScan z = some ts) (h : ¬ ((ptL ts).map Prod.fst).Nodup) : toldP z = none := by
  cases e : toldP z with
  | none => rfl
  | some f =>
    rw [told_scan tk e] at hs
    injection hs with hs
    subst hs
    rw [pt_T] at h
    exact absurd (up_nd (told_bd tk e).2.1.up) h
theorem fin_none2 {z : Str} {ts : List Lq} (tk : TxK z) (hs : lawScan z = some ts) (h : 1 < (nmL ts).length) : toldP z = none := by
  cases e : toldP z with
  | none => rfl
  | some f =>
    rw [told_scan tk e] at hs
    injection hs with hs
    subst hs
    have := (nm_T f).1
    omega
theorem fin_none3 {z : Str} {ts : List Lq} (tk : TxK z) (hs : lawScan z = some ts) (h : nmL ts ≠ []) {q : Lq} {m : Mk} (hl : ts.getLast? = some q) (hm : q.1 = some m) : toldP z = none := by
  cases e : toldP z with
  | none => rfl
  | some f =>
    rw [told_scan tk e] at hs
    injection hs with hs
    subst hs
    obtain ⟨a, ea⟩ := (nm_T f).2.2 h
    rw [ea, List.getLast?_append] at hl
    injection hl with hl
    subst hl
    cases hm
structure LqOk (q : Lq) : Prop where
  b : q.2.natAbs ≤ big
  m : ∀ m, q.1 = some m → GdM m ∧ q.2 ≠ 0
theorem lt1_ok {u : Str} {q : Lq} (hu : u.length ≤ 40) (h : lt1 u = some q) : LqOk q ∧ (∀ m, q.1 = some m → q.2 = 1) := by
  unfold lt1 at h
  cases e : numP u with
  | some n =>
    rw [e] at h
    injection h with h
    subst h
    exact ⟨⟨(wdT_of hu).n n e, fun m hm => (nomatch hm)⟩, fun m hm => (nomatch hm)⟩
  | none =>
    rw [e] at h
    dsimp only at h
    split at h
    · rename_i hg
      injection h with h
      subst h
      refine ⟨⟨one_big, fun m hm => ?_⟩, fun m hm => rfl⟩
      injection hm with hm
      subst hm
      exact ⟨hg, show (1 : Int) ≠ 0 by decide⟩
    · cases h
theorem ltP_ok : ∀ {ws : List Str} {q : Lq}, (∀ u ∈ ws, u.length ≤ 40) → ltP ws = some q → LqOk q
  | [], q, _, h => by cases h
  | [u], q, hw, h => (lt1_ok (hw u List.mem_cons_self) h).1
  | [y, u], q, hw, h => by
    have hy := hw y List.mem_cons_self
    have hu := hw u (List.mem_cons_of_mem _ List.mem_cons_self)
    have h : (match numP y, lt1 u with
      | some n, some (some m, _) => if n < 2 then none else some (some m, n)
      | _, _ => none) = some q := h
    cases e : numP y with
    | none => rw [e] at h; cases h
    | some n =>
      rw [e] at h
      cases e2 : lt1 u with
      | none => rw [e2] at h; cases h
      | some p =>
        obtain ⟨o, k⟩ := p
        rw [e2] at h
        cases o with
        | none => cases h
        | some m =>
          dsimp only at h
          split at h
          · cases h
          · rename_i hn
            injection h with h
            subst h
            refine ⟨(wdT_of hy).n n e, fun m2 hm => ?_⟩
            injection hm with hm
            subst hm
            exact ⟨((lt1_ok hu e2).1.m m rfl).1, by show n ≠ 0; omega⟩
  | _ :: _ :: _ :: _, q, _, h => by cases h
theorem LqOk.sg {q : Lq} (h : LqOk q) {s : Int} (hs : s.natAbs = 1) : LqOk (q.1, s * q.2) := by
  have e : (s * q.2).natAbs = q.2.natAbs := by rw [Int.natAbs_mul, hs, Nat.one_mul]
  refine ⟨by show (s * q.2).natAbs ≤ _; rw [e]; exact h.b, fun m hm => ⟨(h.m m hm).1, ?_⟩⟩
  have := (h.m m hm).2
  show s * q.2 ≠ 0
  omega
theorem scan_ok : ∀ (us : List Str) (s : Int) (row : List Str) (ts : List Lq) {ts' : List Lq}, s.natAbs = 1 → (∀ u ∈ row, u.length ≤ 40) → (∀ u ∈ us, u.length ≤ 40) → (∀ q ∈ ts, LqOk q) → scanL s row ts us = some ts' → (∀ q ∈ ts', LqOk q) ∧ ts'.length ≤ ts.length + us.length
  | [], s, row, ts, ts', _, _, _, ht, h => by
    have h : some ts = some ts' := h
    injection h with h
    subst h
    exact ⟨ht, Nat.le_refl _⟩
  | u :: us, s, row, ts, ts', hs, hr, hu, ht, h => by
    have h : (if isSg u = true then (match ltP row with
      | none => none
      | some q => scanL (if u = "-" then -1 else 1) [] (ts ++ [(q.1, s * q.2)]) us) else scanL s (row ++ [u]) ts us) = some ts' := h
    have hu2 : ∀ x ∈ us, x.length ≤ 40 := fun x hx => hu x (List.mem_cons_of_mem _ hx)
    split at h
    · cases e : ltP row with
      | none => rw [e] at h; cases h
      | some q =>
        rw [e] at h
        obtain ⟨h1, h2⟩ := scan_ok us _ [] _ (by split <;> rfl) (fun x hx => (nomatch hx)) hu2 (fun x hx => (List.mem_append.mp hx).elim (ht x) fun hx => by rw [List.mem_singleton.mp hx]; exact (ltP_ok hr e).sg hs) h
        refine ⟨h1, ?_⟩
        rw [List.length_append, List.length_singleton] at h2
        rw [List.length_cons]; omega
    · obtain ⟨h1, h2⟩ := scan_ok us s (row ++ [u]) ts hs (fun x hx => (List.mem_append.mp hx).elim (hr x) fun hx => by rw [List.mem_singleton.mp hx]; exact hu u List.mem_cons_self) hu2 ht h
      refine ⟨h1, ?_⟩
      rw [List.length_cons]; omega
theorem law_scan_ok {z : Str} {ts : List Lq} (tx : TxW z) (h : lawScan z = some ts) : (∀ q ∈ ts, LqOk q) ∧ ts.length ≤ 20 := by
  obtain ⟨w1, w2⟩ := lawW_few tx
  obtain ⟨h1, h2⟩ := scan_ok _ _ _ _ (by unfold lawS; split <;> rfl) (fun x hx => absurd hx List.not_mem_nil) (fun u hu => (List.mem_append.mp hu).elim (w2 u) fun hu => by rw [List.mem_singleton.mp hu]; decide +kernel) (fun q hq => absurd hq List.not_mem_nil) h
  refine ⟨h1, ?_⟩
  rw [List.length_append, List.length_singleton, List.length_nil] at h2
  omega
theorem pt_mem {ts : List Lq} {p : Pt} (h : p ∈ ptL ts) : ((some p.1, p.2) : Lq) ∈ ts := by
  obtain ⟨q, hq, e⟩ := List.mem_filterMap.mp h
  obtain ⟨o, k⟩ := q
  cases o with
  | none => cases e
  | some m =>
    injection e with e
    subst e
    exact hq
theorem fin_form {z : Str} {ts : List Lq} {bs : List Pt} (tx : TxW z) (hs : lawScan z = some ts) (h1 : (nmL ts).length ≤ 1) (pm : bs.Perm (ptL ts)) (up : (bs.map Prod.fst).Pairwise fun a b => ltM a b = true) :
    BdR (bs, (nmL ts).sum) ∧ toldP z = if T (bs, (nmL ts).sum) = z then some (bs, (nmL ts).sum) else none := by
  obtain ⟨ok, len⟩ := law_scan_ok tx hs
  have bg := big_le
  have hp : Pts bs := ⟨fun p hp => by
    obtain ⟨⟨g1, g2⟩, h0⟩ := (ok _ (pt_mem (pm.mem_iff.mp hp))).m p.1 rfl
    exact ⟨g1, g2, h0⟩, up⟩
  have hl : bs.length ≤ 20 := by
    rw [pm.length_eq]
    have : (ptL ts).length ≤ ts.length := List.length_filterMap_le _ _
    omega
  have hn : BdI (nmL ts).sum := by
    match e : nmL ts, h1 with
    | [], _ => exact Nat.zero_le _
    | [n], _ =>
      have hm : n ∈ nmL ts := by rw [e]; exact List.mem_cons_self
      obtain ⟨q, hq, rfl⟩ := List.mem_map.mp hm
      have := (ok q (List.mem_filter.mp hq).1).b
      show (q.2 + 0).natAbs ≤ _
      rw [Int.add_zero]; omega
    | _ :: _ :: _, h => exact absurd h (by simp)
  have hb : BdR (bs, (nmL ts).sum) := by
    have b0 : BdF 20 (bs, 0) := ⟨hp, hl, fun q hq => by
      have := (ok _ (pt_mem (pm.mem_iff.mp hq))).b
      have t1 : q.2.natAbs ≤ big := this
      omega, Nat.zero_le _⟩
    have := b0.bd (Nat.le_refl _)
    exact ⟨this.1, this.2.1, hn⟩
  refine ⟨hb, ?_⟩
  by_cases ht : T (bs, (nmL ts).sum) = z
  · rw [if_pos ht, ← ht]
    exact told_T hp hb
  · rw [if_neg ht]
    cases e : toldP z with
    | none => rfl
    | some f =>
      have e2 := told_scan tx.k e
      rw [hs] at e2
      injection e2 with e2
      subst e2
      obtain ⟨t1, t2, t3⟩ := told_bd tx.k e
      rw [pt_T] at pm
      have eb : bs = f.1 := asc_ext up t2.up fun p => pm.mem_iff
      rw [eb, (nm_T f).2.1] at ht
      exact absurd t1 ht
end W
namespace DL
open PySem PySem.Spec PyProof.Rows L2 PySem.W
section
variable {X : Cx} {ρ : Rho} {M : Mp} {Φ : D → Mp → Prop} {e o : Expr} {pos p p2 apos : Pos}
theorem cr_lenN : CallR X (.builtin "len") (fun xs H Q => ∃ a L, xs = [V.ref a] ∧ H a = some (SetNO X.w a L) ∧ L.length < 64 ∧ Q (.int (L.length : Nat)) H) := by
  intro pins s σ H xs us Q I r h
  obtain ⟨a, L, rfl, ha, few, k⟩ := h
  rw [Vals.ref1 r]
  have R0 : SetN0 X.w s.heap a (L.map nkT) := (I.hok a _ ha).1
  obtain ⟨es, ep, t, ⟨o, ho, hex, hdt⟩, its, tb, _, _, rm, _⟩ := R0
  have hl : es.size = L.length := by rw [its_len its, List.length_map]
  have hp : t.place.size = L.length := by
    have z := tb.sz
    rwa [List.length_map, List.length_map] at z
  rw [List.length_map] at rm
  refine call_len_set ho hex hdt (fits_of (by rw [hp, hl]) tb.dm (by omega)) (by omega) ⟨.int es.size, H, I.tok _, ⟨_, rfl⟩, ?_⟩
  rw [hl]; exact k
theorem we_lenSetTx (hu : X.A.units + 64 < cLine) (hm : X.mg "len" = none) (hm2 : X.mg "set" = none) (h : WE X ρ M e fun d M1 => ∃ zs : List (List Str), LstOf M1 d (zs.map fun z => D.tup (z.map D.str)) ∧ zs.length < 64 ∧ ∀ ys : List (List Str), ys.Nodup → (∀ z, z ∈ ys ↔ z ∈ zs) → Φ (.int (ys.length : Nat)) M1) (hc : X.calm = true := by rfl) (hg : Gl X "len" := by rfl) (hg2 : Gl X "set" := by rfl)
    (he : starEach [.Call (.Name "set" p) [e] [] apos] X.env = (false, eval (.Call (.Name "set" p) [e] [] apos) X.env) :: starEach [] X.env := by rfl) (hpl : (backTo pos (starEach [] X.env)).any (·.1) = false := by rfl)
    (he2 : starEach [e] X.env = (false, eval e X.env) :: starEach [] X.env := by rfl) (hpl2 : (backTo apos (starEach [] X.env)).any (·.1) = false := by rfl) : WE X ρ M (.Call (.Name "len" p2) [.Call (.Name "set" p) [e] [] apos] [] pos) Φ := .mk fun {Z} σ H Q en w k =>
  eOf (pe_callB cr_lenN hg hm PySem.boot_len (pa_cons (pe_callTy (cr_setN hc hu) hg2 hm2 (by decide +kernel) pa_sem (by decide) (by decide) he2 hpl2) pa_nil he) (by decide) (by decide) he hpl)
    ((wa_cons (ΦA := fun ds M2 => ∃ d, ∃ zs : List (List Str), ds = [d] ∧ LstOf M2 d (zs.map fun z => D.tup (z.map D.str)) ∧ zs.length < 64 ∧ ∀ ys : List (List Str), ys.Nodup → (∀ z, z ∈ ys ↔ z ∈ zs) → Φ (.int (ys.length : Nat)) M2) (h.imp fun d M1 ⟨zs, h1, h2, h3⟩ => wa_nil ⟨d, zs, rfl, h1, h2, h3⟩) he2).run σ H _ en w fun vs ds H1 M1 e1 w1 r1 hz => by
      obtain ⟨d, zs, rfl, hl, hn, hz⟩ := hz
      cases r1 with
      | cons r1 r2 =>
        cases r2
        obtain ⟨l, us, rfl, hq, rs⟩ := r1.asLst w1 hl
        obtain ⟨ks, rfl, rfl, hk⟩ := reps_ta zs us rs
        rw [List.length_map] at hn
        refine ⟨l, ks, rfl, hq, fun p hp => sqT_txt (hk p hp), hn, fun a L ha hL all nd few => ?_⟩
        have x1 := Ext.new (o := SetNO X.w a L) w1 ha
        have w2 := w1.new (o := SetNO X.w a L) ha
        refine ⟨a, L, rfl, upd_same, few, ?_⟩
        have hz := hz (L.map Prod.fst) nd fun z => ⟨fun hz => ?_, fun hz => ?_⟩
        · rw [List.length_map] at hz
          exact (k.step (e1.trans x1)).now w2 (.int _) hz
        · obtain ⟨p, hp, rfl⟩ := List.mem_map.mp hz
          exact List.mem_map_of_mem (hL p hp)
        · obtain ⟨p, hp, rfl⟩ := List.mem_map.mp hz
          exact all p hp)
end
end DL
namespace W
open PySem PySem.Spec PyProof.Rows L2 DL SX PL SlX PySem.W
theorem lt_pt {x y : Pt} (h : x.1 ≠ y.1) : dataLt (ptP x) (ptP y) = ltM x.1 y.1 := by
  unfold ptP
  rw [dataLt_pair (by simp [mkP, alike, alikeAll]) (by simp [alike]), if_neg (by rw [eqv_mk]; simpa using h)]
  rfl
theorem sort_pt {bs : List Pt} (nd : (bs.map Prod.fst).Nodup) (h : bs.Pairwise fun x y => dataLt (ptP y) (ptP x) = false) : (bs.map Prod.fst).Pairwise fun a b => ltM a b = true := by
  refine List.pairwise_map.mpr (List.Pairwise.imp₂ (fun x y h1 h2 => ?_) h (List.pairwise_map.mp nd))
  rw [lt_pt (fun e => h2 e.symm)] at h1
  cases e : ltM x.1 y.1 with
  | true => rfl
  | false => exact absurd (mkL_inj (ltT_tot e h1)) h2
theorem cut_to (l : List Nat) (i : Nat) : cutS (S l) none (some (i : Int)) = S (l.take i) := by
  unfold cutS
  rw [S_len, HT.sIx_nat, HT.sIx_none]
  show S ((l.drop 0).take (min i l.length - 0)) = _
  congr 1
  rw [List.drop_zero, Nat.sub_zero]
  by_cases h : i ≤ l.length
  · rw [Nat.min_eq_left h]
  · rw [Nat.min_eq_right (by omega), List.take_of_length_le (Nat.le_refl _), List.take_of_length_le (by omega)]
theorem short_of {α : Type} [DecidableEq α] : ∀ {zs : List α}, ¬ zs.Nodup → ∃ xs : List α, xs.length < zs.length ∧ ∀ x ∈ zs, x ∈ xs
  | [], h => absurd List.nodup_nil h
  | x :: t, h => by
    by_cases hx : x ∈ t
    · exact ⟨t, by simp, fun y hy => (List.mem_cons.mp hy).elim (fun e => e ▸ hx) id⟩
    · obtain ⟨xs, h1, h2⟩ := short_of (zs := t) fun hn => h (List.nodup_cons.mpr ⟨hx, hn⟩)
      exact ⟨x :: xs, by simp only [List.length_cons]; omega, fun y hy => (List.mem_cons.mp hy).elim (fun e => e ▸ List.mem_cons_self) fun hy => List.mem_cons_of_mem _ (h2 y hy)⟩
theorem set_len {α : Type} [DecidableEq α] {ys zs : List α} (h1 : ys.Nodup) (h2 : ∀ z, z ∈ ys ↔ z ∈ zs) : ys.length = zs.length ↔ zs.Nodup := by
  constructor
  · intro e
    by_cases hn : zs.Nodup
    · exact hn
    · obtain ⟨xs, h3, h4⟩ := short_of hn
      have := nodup_sub h1 fun x hx => h4 x ((h2 x).mp hx)
      omega
  · intro hn
    exact Nat.le_antisymm (nodup_sub h1 fun x hx => (h2 x).mp hx) (nodup_sub hn fun x hx => (h2 x).mpr hx)
theorem mkL_nd {ms : List Mk} : (ms.map mkL).Nodup ↔ ms.Nodup := by
  constructor
  · intro h
    exact (List.pairwise_map.mp h).imp fun h2 e => h2 (by rw [e])
  · intro h
    exact List.pairwise_map.mpr (h.imp fun h2 e => h2 (mkL_inj e))
def prD (ps : List Pt) (n : Int) : D := .tup [.tup (ps.map ptD), .int n]
def lqD (q : Lq) : D := .tup [oMkN q.1, .int q.2]
def oPr : Option Row → D
  | some f => prD f.1 f.2
  | none => .non
theorem pt_snoc {ts : List Lq} {j : Nat} {q : Lq} (h : ts[j]? = some q) : ptL (ts.take (j + 1)) = ptL (ts.take j) ++ ptL [q] := by rw [take_snoc h, pt_app]
theorem nm_snoc {ts : List Lq} {j : Nat} {q : Lq} (h : ts[j]? = some q) : nmL (ts.take (j + 1)) = nmL (ts.take j) ++ nmL [q] := by rw [take_snoc h, nm_app]
section
variable {P : Program} {w : World} {K : PySem.W.Frag} {mg : Str → Option Value} {base : Heap} {R U : Addr}
abbrev nPi : List Str := ["_law_text", "_law_side", "_law_rest", "_law_terms", "_law_words", "_law_row", "_law_word", "_law_found", "_law_numbers", "_law_many", "_law_mark", "_law_parts", "_law_term_here", "_law_form"]
def cPair : Con := fun ds M Φ => ∃ z : Str, ds = [.str z] ∧ TxW z ∧ Φ (oPr (toldP z)) M
theorem ok_pair_end (F : Fx w K mg) (FX : Fc P w K mg base "_law_form_text" [] 1 1 cLfT) {f : Addr} {cdv : Value} {A : Around} {outer : List Env} {s : Shared} {H : Hp} {E : XK} (hr : Room 3 (A.deeper (envOfC "_law_pair_in" (defScope s__law_pair_in) s.heap.objs.size f cdv)))
    {z : Str} {M : Mp} {Φ : D → Mp → Prop} (tx : TxW z) {ts : List Lq} (hs : lawScan z = some ts) (hc : Lets Φ (oPr (toldP z)) M) {o1 o2 o4 o5 o6 o7 : Option D} :
    WSs (bx P w K mg base nPi "_law_pair_in" (defScope s__law_pair_in) f cdv A outer s H E) [some (.str z), o1, o2, some (.lst (ts.map lqD)), o4, o5, o6, o7, none, none, none, none, none, none] M ((defBody s__law_pair_in).drop 4) { nx := fun _ M' => Φ .non M', rt := Lets Φ } := by
  have nd : nPi.Nodup := by decide +kernel
  have gL : mg "len" = none := F.bn _ (by decide +kernel)
  have gSe : mg "set" = none := F.bn _ (by decide +kernel)
  have gSu : mg "sum" = none := F.bn _ (by decide +kernel)
  have gS : mg "sorted" = none := F.bn _ (by decide +kernel)
  have gT : mg "tuple" = none := F.bn _ (by decide +kernel)
  have u80 : (A.deeper (envOfC "_law_pair_in" (defScope s__law_pair_in) s.heap.objs.size f cdv)).units + 80 < cLine := by have := hr.un; omega
  obtain ⟨ok, len⟩ := law_scan_ok tx hs
  have tk := tx.k
  have lts : (ts.map lqD).length ≤ sizeLine := by rw [List.length_map, sizeLine_eq]; omega
  have no : toldP z = none → Lets Φ .non M := fun h => by rw [h] at hc; exact hc
  -- the numbers
  refine wss_cons (ws_setLc 8 nd (blkOk_by (N := nPi) (sc := defScope s__law_pair_in) (own := [("_law_mark", 10), ("_law_many", 9)]) (by decide +kernel)) (fun _ _ _ _ _ => pg_tup rfl (pgs_cons (pg_name (i := 10) nd rfl (Or.inl rfl)) (pgs_cons (pg_name (i := 9) nd rfl (Or.inl rfl)) pgs_nil)) rfl rfl) (gt_two (by decide) (by decide)) pt_blk tk_one
    (wi_list (we_var 3 rfl ⟨_, .inl rfl, ?_⟩)) rfl)
  refine ⟨lts, fun i acc M' => M' = M ∧ acc = (nmL (ts.take i)).map D.int, ⟨rfl, rfl⟩, ?_, ?_⟩
  · rintro i x acc M' hx ⟨rfl, rfl⟩
    rw [List.getElem?_map] at hx
    obtain ⟨q, hq, rfl⟩ := Option.map_eq_some_iff.mp hx
    refine ⟨_, _, rfl, ?_⟩
    intro s1 H1 C' cl fp
    refine wt_isN (we_var 10 rfl ?_)
    obtain ⟨o, k⟩ := q
    cases o with
    | none =>
      refine (if_pos rfl).mpr ?_
      intro s1 H1 C' cl fp
      exact we_var 9 rfl ⟨rfl, by rw [nm_snoc hq, List.map_append]; rfl⟩
    | some m =>
      refine (if_neg (show ¬ isNon (oMkN (some m)) = true from Bool.false_ne_true)).mpr ?_
      exact ⟨rfl, by rw [nm_snoc hq, List.map_append]; exact (List.append_nil _).symm⟩
  rintro acc M' ⟨hM, rfl⟩
  obtain rfl : M = M' := hM.symm
  rw [List.length_map, List.take_length]
  -- the parts
  refine wss_cons (ws_setLc 11 nd (blkOk_by (N := nPi) (sc := defScope s__law_pair_in) (own := [("_law_term_here", 12)]) (by decide +kernel)) (fun _ _ _ _ _ => pg_name (i := 12) nd rfl (Or.inl rfl)) (gt_name (by decide)) pt_blk tk_one
    (wi_list (we_var 3 rfl ⟨_, .inl rfl, ?_⟩)) rfl)
  refine ⟨lts, fun i acc M' => M' = M ∧ acc = (ptL (ts.take i)).map ptD, ⟨rfl, rfl⟩, ?_, ?_⟩
  · rintro i x acc M' hx ⟨rfl, rfl⟩
    rw [List.getElem?_map] at hx
    obtain ⟨q, hq, rfl⟩ := Option.map_eq_some_iff.mp hx
    intro s1 H1 C' cl fp
    refine wt_notN (we_ix (we_var 12 rfl (we_int ⟨0, _, rfl, ixT (atI_nat (j := 0) rfl), ?_⟩)))
    obtain ⟨o, k⟩ := q
    cases o with
    | none =>
      refine (if_neg (show ¬ (!isNon (oMkN none)) = true from Bool.false_ne_true)).mpr ?_
      exact ⟨rfl, by rw [pt_snoc hq, List.map_append]; exact (List.append_nil _).symm⟩
    | some m =>
      refine (if_pos rfl).mpr ?_
      intro s1 H1 C' cl fp
      exact we_var 12 rfl ⟨rfl, by rw [pt_snoc hq, List.map_append]; rfl⟩
  rintro acc M' ⟨hM, rfl⟩
  obtain rfl : M = M' := hM.symm
  rw [List.length_map, List.take_length]
  have lpt : (ptL ts).length ≤ 20 := Nat.le_trans (List.length_filterMap_le _ _) len
  have f1 := @fin_none1 z ts tk hs
  have f2 := @fin_none2 z ts tk hs
  have f3 := @fin_none3 z ts tk hs
  have f4 := @fin_form z ts
  -- no mark twice
  refine wss_cons (ws_if (wt_neS (we_lenSetTx hr.units gL gSe (we_lc nd (blkOk_by (N := nPi) (sc := defScope s__law_pair_in) (own := [("_law_mark", 10), ("_law_many", 9)]) (by decide +kernel)) (fun _ _ _ _ _ => pg_tup rfl (pgs_cons (pg_name (i := 10) nd rfl (Or.inl rfl)) (pgs_cons (pg_name (i := 9) nd rfl (Or.inl rfl)) pgs_nil)) rfl rfl) (gt_two (by decide) (by decide)) (fun _ _ _ _ _ => pts_nil) tk_nil
    (wi_list (we_var 11 rfl ⟨_, .inl rfl, ?_⟩))))))
  refine ⟨by rw [List.length_map, sizeLine_eq]; omega, fun i acc M' => M' = M ∧ acc = (((ptL ts).take i).map Prod.fst).map mkD, ⟨rfl, rfl⟩, ?_, ?_⟩
  · rintro i x acc M' hx ⟨rfl, rfl⟩
    rw [List.getElem?_map] at hx
    obtain ⟨u, hu, rfl⟩ := Option.map_eq_some_iff.mp hx
    refine ⟨_, _, rfl, ?_⟩
    intro s1 H1 C' cl fp
    refine we_var 10 rfl ⟨rfl, ?_⟩
    rw [take_snoc hu, List.map_append, List.map_append]; rfl
  rintro acc M' ⟨hM, rfl⟩
  obtain rfl : M = M' := hM.symm
  rw [List.length_map, List.take_length]
  refine ⟨((ptL ts).map Prod.fst).map mkL, by rw [strs_mk]; exact rfl, by rw [List.length_map, List.length_map]; omega, fun ys y1 y2 => ?_⟩
  refine we_len gL (we_var 11 rfl ⟨_, lenL, decide (((ys.length : Nat) : Int) = (((ptL ts).map ptD).length : Nat)), rfl, ?_⟩)
  have hl : ((ys.length : Nat) : Int) = (((ptL ts).map ptD).length : Nat) ↔ ((ptL ts).map Prod.fst).Nodup := by
    rw [← mkL_nd, ← set_len y1 y2]
    simp only [List.length_map]
    omega
  by_cases hn : ((ptL ts).map Prod.fst).Nodup
  case neg =>
    rw [decide_eq_false fun e => hn (hl.mp e)]
    exact wss_cons (ws_ret (we_non (no (f1 hn))))
  rw [decide_eq_true (hl.mpr hn)]
  -- at most one number, and that last
  refine wss_nil (wss_cons (ws_if (wt_ww (ww_or (wt_gtI (we_len gL (we_var 8 rfl ⟨_, lenL, we_int ⟨_, _, rfl, rfl, ?_⟩⟩)))))))
  by_cases hm : 1 < (nmL ts).length
  · rw [decide_eq_true (by rw [List.length_map]; omega)]
    exact wss_cons (ws_ret (we_non (no (f2 hm))))
  rw [decide_eq_false (by rw [List.length_map]; omega)]
  have fin : WSs (bx P w K mg base nPi "_law_pair_in" (defScope s__law_pair_in) f cdv A outer s H E) [some (.str z), o1, o2, some (.lst (ts.map lqD)), o4, o5, o6, o7, some (.lst ((nmL ts).map D.int)), none, none, some (.lst ((ptL ts).map ptD)), none, none] M ((defBody s__law_pair_in).drop 8) { nx := fun _ M' => Φ .non M', rt := Lets Φ } := by
    refine wss_cons (ws_set 13 nd (we_tup (wa_cons (we_tupleP gT (we_sortedA ptD ptP u80 gS (we_var 11 rfl ⟨ptL ts, rfl, fun b hb => ⟨rfl, ⟨_, rfl⟩, by simp [ptP, mkP, PyData.depth, PyData.depthAll]⟩, AllAlike.of fun b b' => by simp [ptP, mkP, alike, alikeAll], Sortable.tuples fun b => ⟨_, _, rfl⟩, fun bs pm srt => ⟨_, rfl, ?_⟩⟩))))))
    have ndb : (bs.map Prod.fst).Nodup := (pm.map Prod.fst).nodup_iff.mpr hn
    obtain ⟨br, ht⟩ := f4 tx hs (by omega) pm (sort_pt ndb srt)
    rw [ht] at hc
    refine wa_cons (we_sum gSu (we_var 8 rfl ⟨nmL ts, rfl, wa_nil ⟨sz2x, ?_⟩⟩))
    have pw : Pw (.tup [.ptup (bs.map ptD), .int (nmL ts).sum]) (prD bs (nmL ts).sum) := .tup (.cons (.ptup _) (.cons (.refl _) .nil))
    refine wss_cons (ws_ret (we_if (wt_eqS (we_call FX (hr.mono (by omega)) (wa_cons (we_pw (we_var 13 rfl ⟨_, pw, wa_nil ⟨rfl, bs, _, rfl, br, we_var 0 rfl ⟨decide (T (bs, (nmL ts).sum) = z), rfl, ?_⟩⟩⟩)))))))
    by_cases e : T (bs, (nmL ts).sum) = z
    · rw [decide_eq_true e]
      rw [if_pos e] at hc
      exact we_pw (we_var 13 rfl ⟨_, pw, hc⟩)
    · rw [decide_eq_false e]
      rw [if_neg e] at hc
      exact we_non hc
  refine ww_or1 (wt_ww (ww_and (wt_neNil hr.units (we_var 8 rfl ⟨_, (nmL ts).map PyData.int, 1, rfl, cmps_map (Nat.le_succ 0) fun x _ => cmp_int x, by decide, ?_⟩))))
  cases hq : nmL ts with
  | nil =>
    rw [hq] at fin
    exact wss_nil fin
  | cons n r =>
    rw [hq] at fin
    have hne : ts ≠ [] := fun e => by rw [e] at hq; cases hq
    have hat : atI (ts.map lqD) (-1) = some (lqD (ts.getLast hne)) := by rw [getL (by simpa using hne), List.getLast_map]
    refine ww_and1 (wt_notN (we_ix (we_ix (we_var 3 rfl (we_negI (we_int ⟨1, rfl, -1, _, rfl, ixL hat, we_int ⟨0, _, rfl, ixT (atI_nat (j := 0) rfl), ?_⟩⟩))))))
    cases ho : (ts.getLast hne).1 with
    | none => exact wss_nil fin
    | some m => exact wss_cons (ws_ret (we_non (no (f3 (by rw [hq]; simp) (List.getLast?_eq_some_getLast hne) ho))))
end
end W
namespace W
open PySem PySem.Spec PyProof.Rows L2 DL SX PL SlX PySem.W
theorem take1 {l : List Nat} : decide (S (l.take 1) = ("-" : Str)) = decide (l.head? = some 45) := by
  rw [show ("-" : Str) = S [45] by decide +kernel]
  cases l with
  | nil => decide +kernel
  | cons c r => exact decide_eq_decide.mpr (S_eqi.trans ⟨fun h => by injection h with h; rw [h]; rfl, fun h => by injection h with h; rw [h]; rfl⟩)
section
variable {P : Program} {w : World} {K : PySem.W.Frag} {mg : Str → Option Value} {base : Heap} {R U : Addr}
theorem ok_pair (F : Fx w K mg) (FT : Fc P w K mg base "_law_term" [] 3 1 cLt) (FX : Fc P w K mg base "_law_form_text" [] 1 1 cLfT) : BodyOk P w K mg base "_law_pair_in" s__law_pair_in nPi 1 3 cPair := by
  intro f cdv A outer s H E hr ds M Φ hl hc
  obtain ⟨z, rfl, tx, hc⟩ := hc
  have nd : nPi.Nodup := by decide +kernel
  have zl : z.length ≤ 779 := tx.len
  have zs : z.length ≤ sizeLine := by rw [sizeLine_eq]; omega
  obtain ⟨lw1, lw2⟩ := lawW_few tx
  -- behind the side
  have next : ∀ (q : Addr) (i : Int) (y : Str), M q = none → lawS z = (i, y) → y.length ≤ 779 → WSs (bx P w K mg base nPi "_law_pair_in" (defScope s__law_pair_in) f cdv A outer s H E) [some (.str z), some (.int i), some (.str y), some (.ob q), none, none, none, none, none, none, none, none, none, none] (mset M q (.lst [])) ((defBody s__law_pair_in).drop 2) { nx := fun _ M' => Φ .non M', rt := Lets Φ } := by
    intro q i y hq hS hy
    have ew : Txt.split y " " = lawW z := by unfold lawW; rw [hS]
    have hi : i.natAbs = 1 := by
      unfold lawS at hS
      split at hS <;> (injection hS with h1 h2; subst h1; rfl)
    refine wss_cons (ws_par 4 5 nd (wa_cons (we_split (we_var 2 rfl ⟨_, rfl, we_str ⟨_, rfl, by decide +kernel, by rw [sizeLine_eq]; omega, wa_cons (we_lstM (wa_nil ⟨Nat.zero_le _, fun r hr0 => wa_nil ⟨_, _, rfl, ?_⟩⟩))⟩⟩))))
    rw [ew]
    have qr : q ≠ r := fun e => by rw [← e, mset_same] at hr0; cases hr0
    have hr1 : M r = none := by rw [mset_ne (Ne.symm qr)] at hr0; exact hr0
    refine wss_cons (ws_for PassesOwn.never (wi_list (we_addL (we_var 4 rfl (we_lst (wa_cons (we_str (wa_nil ⟨by decide, _, _, rfl, rfl, by rw [List.length_map, List.length_singleton, sizeLine_eq]; omega, _, .inl rfl, ?_⟩))))))))
    have eus : (lawW z).map D.str ++ [D.str "+"] = (lawW z ++ [("+" : Str)]).map D.str := by rw [List.map_append]; rfl
    rw [eus]
    have h0 : lawScan z = scanL i [] [] (lawW z ++ [("+" : Str)]) := by unfold lawScan; rw [hS]
    have lus : (lawW z ++ [("+" : Str)]).length ≤ 20 := by rw [List.length_append, List.length_singleton]; omega
    have sus : ∀ u ∈ lawW z ++ [("+" : Str)], u.length ≤ 40 := fun u hu => (List.mem_append.mp hu).elim (lw2 u) fun hu => by rw [List.mem_singleton.mp hu]; decide +kernel
    generalize lawW z ++ [("+" : Str)] = us at h0 lus sus ⊢
    refine ⟨fun j ρ' M' => ∃ (i : Int) (row : List Str) (ts : List Lq) (r : Addr) (o6 o7 : Option D), ρ' = [some (.str z), some (.int i), some (.str y), some (.ob q), some (.lst ((lawW z).map D.str)), some (.ob r), o6, o7, none, none, none, none, none, none] ∧ M' = mset (mset M q (.lst (ts.map lqD))) r (.lst (row.map D.str)) ∧ q ≠ r ∧ M r = none ∧ i.natAbs = 1 ∧ scanL i row ts (us.drop j) = lawScan z ∧ (∀ u ∈ row, u.length ≤ 40) ∧ row.length ≤ j ∧ ts.length ≤ j,
      ⟨i, [], [], r, none, none, rfl, rfl, qr, hr1, hi, h0.symm, fun u hu => (nomatch hu), Nat.le_refl _, Nat.le_refl _⟩, ?_, ?_⟩
    · rintro j x ρ' M' hx ⟨i, row, ts, r, o6, o7, rfl, rfl, qr, hr1, hi, hsc, hrow, lrow, lts⟩
      rw [List.getElem?_map] at hx
      obtain ⟨u, hu, rfl⟩ := Option.map_eq_some_iff.mp hx
      obtain ⟨hj, eu⟩ := List.getElem?_eq_some_iff.mp hu
      have hu40 := sus u (List.mem_of_getElem? hu)
      rw [List.drop_eq_getElem_cons hj, eu] at hsc
      have hsc : (if isSg u = true then (match ltP row with
        | none => none
        | some q => scanL (if u = "-" then -1 else 1) [] (ts ++ [(q.1, i * q.2)]) (us.drop (j + 1))) else scanL i (row ++ [u]) ts (us.drop (j + 1))) = lawScan z := hsc
      refine wg_name 6 ?_ nd
      refine wss_cons (ws_if (wt_inS (we_var 6 rfl (we_tup (wa_cons (we_str (wa_cons (we_str (wa_nil ⟨sz2x, u, ["+", "-"], rfl, .inl rfl, ?_⟩)))))))))
      rw [show decide (u ∈ (["+", "-"] : List Str)) = isSg u from rfl]
      cases hsg : isSg u with
      | true =>
        rw [hsg, if_pos rfl] at hsc
        have hrm : (mset (mset M q (.lst (ts.map lqD))) r (.lst (row.map D.str))) r = some (.lst (row.map D.str)) := mset_same
        refine wss_fz (i := 5) rfl hrm ?_
        rw [mdel_mset (by rw [mset_ne (Ne.symm qr)]; exact hr1)]
        refine wss_cons (ws_set 7 nd (we_call FT hr (wa_cons (we_var 5 rfl (wa_nil ⟨rfl, row, rfl, by omega, fun v hv => ltK_of (hrow v hv), ?_⟩)))))
        refine wss_cons (ws_if (wt_isN (we_var 7 rfl ?_)))
        cases hlt : ltP row with
        | none =>
          rw [hlt] at hsc
          refine wss_cons (ws_ret (we_non ⟨_, M, les_new hq, .same _, ?_⟩))
          rw [scan_none tx.k hsc.symm] at hc
          exact hc
        | some p =>
          obtain ⟨mo, k⟩ := p
          rw [hlt] at hsc
          dsimp only at hsc
          have okp := ltP_ok hrow hlt
          have bg := big_le
          have bk : BdI k := Nat.le_trans (show k.natAbs ≤ big from okp.b) (by omega)
          have bi : BdI i := by show i.natAbs ≤ _; rw [hi]; exact Nat.pow_pos (by omega)
          refine wss_nil (wss_cons (ws_expr (we_append (we_var 3 rfl ⟨q, _, rfl, mset_same, we_tup (wa_cons (we_ix (we_var 7 rfl (we_int ⟨0, _, rfl, ixT (atI_nat (j := 0) rfl), wa_cons (we_mulI (we_var 1 rfl (we_ix (we_var 7 rfl (we_int ⟨1, _, rfl, ixT (atI_nat (j := 1) rfl), i, k, rfl, rfl, cmulB bi bk, wa_nil ⟨sz2x, _, mset_same, by rw [List.length_map, sizeLine_eq]; omega, ?_⟩⟩)))))⟩))))⟩))))
          rw [mset_mset]
          have ets : ts.map lqD ++ [D.tup [oMkN mo, D.int (i * k)]] = (ts ++ [((mo, i * k) : Lq)]).map lqD := by rw [List.map_append]; rfl
          rw [ets]
          have last : ∀ (i2 : Int) (r2 : Addr), i2.natAbs = 1 → scanL i2 [] (ts ++ [((mo, i * k) : Lq)]) (us.drop (j + 1)) = lawScan z → (mset M q (.lst ((ts ++ [((mo, i * k) : Lq)]).map lqD))) r2 = none →
              ∃ (i' : Int) (row' : List Str) (ts' : List Lq) (r' : Addr) (o6 o7 : Option D), [some (.str z), some (.int i2), some (.str y), some (.ob q), some (.lst ((lawW z).map D.str)), some (.ob r2), some (.str u), some (oLt (some (mo, k))), none, none, none, none, none, none] = [some (.str z), some (.int i'), some (.str y), some (.ob q), some (.lst ((lawW z).map D.str)), some (.ob r'), o6, o7, none, none, none, none, none, none] ∧ mset (mset M q (.lst ((ts ++ [((mo, i * k) : Lq)]).map lqD))) r2 (.lst []) = mset (mset M q (.lst (ts'.map lqD))) r' (.lst (row'.map D.str)) ∧ q ≠ r' ∧ M r' = none ∧ i'.natAbs = 1 ∧ scanL i' row' ts' (us.drop (j + 1)) = lawScan z ∧ (∀ u ∈ row', u.length ≤ 40) ∧ row'.length ≤ j + 1 ∧ ts'.length ≤ j + 1 := by
            intro i2 r2 h1 h2 h3
            have qr2 : q ≠ r2 := fun e => by rw [← e, mset_same] at h3; cases h3
            exact ⟨i2, [], _, r2, _, _, rfl, rfl, qr2, by rw [mset_ne (Ne.symm qr2)] at h3; exact h3, h1, h2, fun u hu => (nomatch hu), Nat.zero_le _, by rw [List.length_append, List.length_singleton]; omega⟩
          refine wss_cons (ws_par 1 5 nd (wa_cons (we_if (wt_eqS (we_var 6 rfl (we_str ⟨decide (u = "-"), rfl, ?_⟩))))))
          by_cases hm : u = "-"
          · rw [decide_eq_true hm]
            rw [if_pos hm] at hsc
            exact we_negI (we_int ⟨1, rfl, wa_cons (we_lstM (wa_nil ⟨Nat.zero_le _, fun r2 h3 => wa_nil ⟨_, _, rfl, wss_nil (wss_nil (last (-1) r2 rfl hsc h3))⟩⟩))⟩)
          · rw [decide_eq_false hm]
            rw [if_neg hm] at hsc
            exact we_int (wa_cons (we_lstM (wa_nil ⟨Nat.zero_le _, fun r2 h3 => wa_nil ⟨_, _, rfl, wss_nil (wss_nil (last 1 r2 rfl hsc h3))⟩⟩)))
      | false =>
        rw [hsg, if_neg (by decide)] at hsc
        refine wss_cons (ws_expr (we_append (we_var 5 rfl ⟨r, _, rfl, mset_same, we_var 6 rfl ⟨_, mset_same, by rw [List.length_map, sizeLine_eq]; omega, ?_⟩⟩)))
        rw [mset_mset]
        refine wss_nil (wss_nil ⟨i, row ++ [u], ts, r, _, _, rfl, by rw [List.map_append]; rfl, qr, hr1, hi, hsc, fun v hv => (List.mem_append.mp hv).elim (hrow v) fun hv => by rw [List.mem_singleton.mp hv]; exact hu40, by rw [List.length_append, List.length_singleton]; omega, by omega⟩)
    · rintro ρ' M' ⟨i, row, ts, r, o6, o7, rfl, rfl, qr, hr1, hi, hsc, hrow, lrow, lts⟩
      rw [List.length_map, List.drop_length] at hsc
      have hrm : (mset (mset M q (.lst (ts.map lqD))) r (.lst (row.map D.str))) r = some (.lst (row.map D.str)) := mset_same
      refine wss_fz (i := 5) rfl hrm ?_
      rw [mdel_mset (by rw [mset_ne (Ne.symm qr)]; exact hr1)]
      refine wss_fz (i := 3) rfl mset_same ?_
      rw [mdel_mset hq]
      exact ok_pair_end F FX hr tx hsc.symm (Lets.of hc)
  refine wss_cons (ws_par3 1 2 3 nd (wa_cons (we_int (wa_cons (we_var 0 rfl (wa_cons (we_lstM (wa_nil ⟨Nat.zero_le _, fun q hq => wa_nil ⟨_, _, _, rfl, ?_⟩⟩))))))))
  obtain ⟨l, rfl⟩ : ∃ l, z = S l := ⟨TL.tl z, (tlm z).symm⟩
  have ll : l.length ≤ 779 := by rw [S_len] at zl; exact zl
  refine wss_cons (ws_if (wt_eqS (we_slice (we_var 0 rfl (we_int ⟨_, rfl, _, .inr (.inr ⟨_, rfl, zs, rfl⟩), we_str ⟨_, rfl, ?_⟩⟩)))))
  rw [show (1 : Int) = ((1 : Nat) : Int) from rfl, cut_to, take1]
  by_cases h45 : l.head? = some 45
  · rw [decide_eq_true h45]
    obtain ⟨r, rfl⟩ : ∃ r, l = 45 :: r := by
      cases l with
      | nil => cases h45
      | cons c r => injection h45 with h; subst h; exact ⟨r, rfl⟩
    refine wss_cons (ws_par 1 2 nd (wa_cons (we_negI (we_int ⟨1, rfl, wa_cons (we_slice (we_var 0 rfl (we_int ⟨_, rfl, _, .inr (.inr ⟨_, rfl, zs, rfl⟩), wa_nil ⟨_, _, rfl, ?_⟩⟩)))⟩))))
    rw [show (1 : Int) = ((1 : Nat) : Int) from rfl, cut_b]
    refine wss_nil (next q (-1) (S r) hq rfl ?_)
    rw [S_len]
    rw [List.length_cons] at ll; omega
  · rw [decide_eq_false h45]
    refine wss_nil (next q 1 (S l) hq ?_ zl)
    unfold lawS
    show (match l with | 45 :: r => ((-1 : Int), S r) | _ => (1, S l)) = _
    split
    · rename_i r
      exact absurd rfl h45
    · rfl
end
end W
namespace DL
open PySem PySem.Spec PyProof.Rows L2
section
variable {X : Cx} {ρ : Rho} {M : Mp} {Φ : D → Mp → Prop}
/-- xs[::-1] of a list -/
theorem we_revL {a : Expr} {k : Nat} {p1 p2 p3 pos : Pos} (h : WE X ρ M a fun x M1 => ∃ ds, LstOf M1 x ds ∧ Φ (.lst ds.reverse) M1) : WE X ρ M (.Subscript a (.Slice none none (some (.UnaryOp .USub (.Constant (.int 1) k p1) p2)) p3) pos) Φ := .mk fun σ H Q en w k =>
  eOf (pe_revL pe_sem) (h.run σ H _ en w fun v x H1 M1 e1 w1 r1 hz => by
    obtain ⟨ds, hl, hz⟩ := hz
    obtain ⟨p, vs, rfl, hq, rs⟩ := r1.asLst w1 hl
    exact ⟨p, vs, rfl, hq, fun q hp => (k.step e1).new w1 hp (.lst upd_same (w1.fresh hp) ((rs.rev).mono (Ext.new w1 hp))) hz⟩)
end
end DL
namespace W
open PySem PySem.Spec PyProof.Rows L2 DL SX PL SlX PySem.W
theorem cnt_join {s : Nat} : ∀ {ps : List (List Nat)}, (∀ p ∈ ps, s ∉ p) → (TL.joinL [s] ps).count s ≤ ps.length
  | [], _ => Nat.zero_le _
  | [p], h => by
    show p.count s ≤ 1
    rw [List.count_eq_zero.mpr (h p List.mem_cons_self)]; omega
  | p :: q :: r, h => by
    have ih := cnt_join (ps := q :: r) fun x hx => h x (List.mem_cons_of_mem _ hx)
    rw [joinL_c _ _ (List.cons_ne_nil q r), List.count_append, List.count_append, List.count_eq_zero.mpr (h p List.mem_cons_self), List.length_cons]
    have : ([s] : List Nat).count s = 1 := by simp
    omega
theorem cnt_cut (l : List Nat) (i j : Nat) (h : i ≤ j) (s : Nat) : (l.take i).count s + (l.drop j).count s ≤ l.count s := by
  have e : (l.take i ++ l.drop i).count s = l.count s := by rw [List.take_append_drop]
  rw [List.count_append] at e
  have : (l.drop j).count s ≤ (l.drop i).count s := by
    rw [show l.drop j = (l.drop i).drop (j - i) by rw [List.drop_drop, show i + (j - i) = j by omega]]
    exact (List.drop_sublist _ _).count_le _
  omega
theorem tlS (l : List Nat) : TL.tl (S l) = l := rfl
theorem txt_tl (ws : List Str) : TL.tl (Txt.join " " ws) = TL.joinL [32] (ws.map TL.tl) := by rw [TL.join_eq, TL.tl_join]; rfl
/-- what a bent text keeps -/
structure BtT (z : Str) : Prop where
  few : (TL.tl z).count 32 ≤ 18
  le : z.length ≤ 20000
  asc : ∀ c ∈ TL.tl z, c < 128
theorem joinL_mem {S p : List Nat} {c : Nat} : ∀ {ps : List (List Nat)}, p ∈ ps → c ∈ p → c ∈ TL.joinL S ps
  | [], h, _ => absurd h List.not_mem_nil
  | [q], h, hc => by rw [List.mem_singleton.mp h] at hc; exact hc
  | q :: r :: t, h, hc => by
    rw [joinL_c _ _ (List.cons_ne_nil r t)]
    rcases List.mem_cons.mp h with rfl | h
    · exact List.mem_append_left _ hc
    · exact List.mem_append_right _ (List.mem_append_right _ (joinL_mem h hc))
theorem joinL_all {S : List Nat} {pr : Nat → Prop} (hS : ∀ c ∈ S, pr c) : ∀ {ps : List (List Nat)}, (∀ p ∈ ps, ∀ c ∈ p, pr c) → ∀ c ∈ TL.joinL S ps, pr c
  | [], _, c, hc => absurd hc List.not_mem_nil
  | [q], h, c, hc => h q List.mem_cons_self c hc
  | q :: r :: t, h, c, hc => by
    rw [joinL_c _ _ (List.cons_ne_nil r t)] at hc
    rcases List.mem_append.mp hc with hc | hc
    · exact h q List.mem_cons_self c hc
    rcases List.mem_append.mp hc with hc | hc
    · exact hS c hc
    · exact joinL_all hS (fun p hp => h p (List.mem_cons_of_mem _ hp)) c hc
theorem BtT.j {ws : List Str} (h1 : ws.length ≤ 18) (h2 : ∀ u ∈ ws, 32 ∉ TL.tl u ∧ u.length ≤ 1000 ∧ ∀ c ∈ TL.tl u, c < 128) : BtT (Txt.join " " ws) ∧ (ws.map (·.length)).sum + ws.length * (" " : Str).length ≤ 16777216 := by
  have h3 : ∀ p ∈ ws.map TL.tl, 32 ∉ p := fun p hp => by
    obtain ⟨u, hu, rfl⟩ := List.mem_map.mp hp
    exact (h2 u hu).1
  have h4 : ∀ p ∈ ws.map TL.tl, p.length ≤ 1000 := fun p hp => by
    obtain ⟨u, hu, rfl⟩ := List.mem_map.mp hp
    have := (h2 u hu).2.1
    rwa [TL.len_tl] at this
  have h5 := cnt_join h3
  have h6 := joinL_bd (S := [32]) h4
  rw [List.length_map] at h5 h6
  rw [List.length_singleton] at h6
  have h7 : ws.length * (1000 + 1) ≤ 18 * (1000 + 1) := Nat.mul_le_mul_right _ h1
  refine ⟨⟨by rw [txt_tl]; omega, by rw [TL.len_tl, txt_tl]; omega, ?_⟩, ?_⟩
  · rw [txt_tl]
    refine joinL_all (fun c hc => by rw [List.mem_singleton.mp hc]; omega) fun p hp c hc => ?_
    obtain ⟨u, hu, rfl⟩ := List.mem_map.mp hp
    exact (h2 u hu).2.2 c hc
  have h8 : ∀ xs : List Str, (∀ u ∈ xs, u.length ≤ 1000) → (xs.map (·.length)).sum ≤ xs.length * 1000 := by
    intro xs
    induction xs with
    | nil => intro _; exact Nat.zero_le _
    | cons x xs ih =>
      intro h
      have := h x List.mem_cons_self
      have := ih fun u hu => h u (List.mem_cons_of_mem _ hu)
      rw [List.map_cons, List.sum_cons, List.length_cons, Nat.succ_mul]
      omega
  have h9 := h8 ws fun u hu => (h2 u hu).2.1
  have l1 : (" " : Str).length = 1 := by decide +kernel
  rw [l1]
  omega
def bpc : List (List Nat) := [[48], [49], [32], [45], [43], [46], [120], [65]]
theorem bpc_S : (["0", "1", " ", "-", "+", ".", "x", "A"] : List Str) = bpc.map S := by decide +kernel
theorem bpc_ok : ∀ x ∈ bpc, x.length ≤ 1 ∧ x.count 32 ≤ 1 ∧ ∀ c ∈ x, c < 128 := by decide +kernel
def btl : List Str := [" + 1", " - x.rows", " ", " + 0", " + 1 x.people", " + a.hall", "0"]
theorem btl_ok : ∀ x ∈ btl, x.length ≤ 20 ∧ (TL.tl x).count 32 ≤ 3 ∧ ∀ c ∈ TL.tl x, c < 128 := by decide +kernel
section
variable {P : Program} {w : World} {K : PySem.W.Frag} {mg : Str → Option Value} {base : Heap} {R U : Addr}
def cBtT : Con := fun ds M Φ => ∃ p z a c d, ds = [.ob p, .str z] ∧ 1 ≤ z.length ∧ z.length ≤ 1000 ∧ (TL.tl z).count 32 ≤ 15 ∧ (∀ c ∈ TL.tl z, c < 128) ∧ M p = some (potL a c d) ∧ cOk c ∧ 0 ≤ d ∧ d < 90000 ∧ ∀ z' a' d', BtT z' → d ≤ d' → d' ≤ d + 4 → Φ (.str z') (mset M p (potL a' c d'))
abbrev nBtT : List Str := ["_law_pot_here", "_law_text", "_law_spot", "_law_way", "_law_words", "_law_place"]
theorem ok_btT (F : Fx w K mg) (F1 : Fc P w K mg base "_law_take" [] 1 2 cTake) (F2 : Fc P w K mg base "_law_of" [] 2 2 cOf) : BodyOk P w K mg base "_law_bent_text" s__law_bent_text nBtT 2 2 cBtT := by
  intro f cdv A outer s H E hr ds M Φ hl hc
  obtain ⟨p, z, a, c, d, rfl, z1, z2, hb, hasc, hM, co, d0, d1, hc⟩ := hc
  obtain ⟨l, rfl⟩ : ∃ l, z = S l := ⟨TL.tl z, (tlm z).symm⟩
  rw [S_len] at z1 z2
  rw [tlS] at hb hasc
  have nd : nBtT.Nodup := by decide +kernel
  have gL : mg "len" = none := F.bn _ (by decide +kernel)
  have zl : (S l).length ≤ sizeLine := by rw [S_len, sizeLine_eq]; omega
  have zs : ∀ k : Nat, k ≤ 30000 → k ≤ sizeLine := fun k hk => by rw [sizeLine_eq]; omega
  refine wss_cons (ws_par 2 3 nd (wa_cons (we_call F1 (hr.mono (by decide)) (wa_cons (we_var 0 rfl (wa_cons (we_len gL (we_var 1 rfl ⟨_, lenS zl, wa_nil ⟨rfl, p, _, a, c, d, rfl, by rw [S_len]; omega, ?_, hM, co, d0, by omega, ?_⟩⟩))))))))
  · have : (1000 : Int) ≤ 10 ^ 40 := by decide +kernel
    rw [S_len]; omega
  intro spot a1 e1 s0 s1 k1 k2
  rw [S_len] at s1
  obtain ⟨i, rfl⟩ := Int.eq_ofNat_of_zero_le s0
  have hi : i ≤ l.length := by omega
  refine wa_cons (we_call F1 (hr.mono (by decide)) (wa_cons (we_var 0 rfl (wa_cons (we_int (wa_nil ⟨rfl, p, 6, a1, c, e1, rfl, by decide, by decide +kernel, mset_same, co, by omega, by omega, ?_⟩))))))
  intro way a2 e2 w0 w1 k3 k4
  rw [mset_mset]
  refine wa_nil ⟨_, _, rfl, ?_⟩
  have i1 : ((i : Int) + 1) = ((i + 1 : Nat) : Int) := rfl
  have t1 : (l.take i).length ≤ 1000 := by rw [List.length_take]; omega
  have t2 : ∀ j, (l.drop j).length ≤ 1000 := fun j => by rw [List.length_drop]; omega
  have two : ∀ (x : List Nat) (j : Nat), x.length ≤ 20 → x.count 32 ≤ 3 → (∀ c ∈ x, c < 128) → i ≤ j → BtT (S (l.take i ++ x ++ l.drop j)) := fun x j hx hx2 hx3 hj => by
    have := cnt_cut l i j hj 32
    have := t2 j
    refine ⟨by rw [tlS, List.count_append, List.count_append]; omega, by rw [S_len, List.length_append, List.length_append]; omega, fun c hc => ?_⟩
    rcases List.mem_append.mp hc with hc | hc
    · exact (List.mem_append.mp hc).elim (fun h => hasc c (List.mem_of_mem_take h)) (hx3 c)
    · exact hasc c (List.mem_of_mem_drop hc)
  have fin : ∀ z' a' e', BtT z' → e2 ≤ e' → e' ≤ e2 + 1 → Lets Φ (.str z') (mset M p (potL a' c e')) := fun z' a' e' hb h1 h2 => Lets.of (hc z' a' e' hb (by omega) (by omega))
  -- a sign out
  refine wss_cons (ws_if (wt_eqS (we_var 3 rfl (we_int ⟨_, rfl, ?_⟩))))
  by_cases h0 : way = 0
  · rw [decide_eq_true h0]
    refine wss_cons (ws_ret (we_addS (we_slice (we_var 1 rfl (we_var 2 rfl ⟨_, rfl, _, .inr (.inr ⟨_, rfl, zl, rfl⟩), we_slice (we_var 1 rfl (we_addI (we_var 2 rfl (we_int ⟨_, _, rfl, rfl, _, rfl, _, .inr (.inr ⟨_, rfl, zl, rfl⟩), _, _, rfl, rfl, ?_, ?_⟩))))⟩)))))
    · rw [cut_to, i1, cut_b, S_len, S_len]; exact zs _ (by have := t2 (i + 1); omega)
    · rw [cut_to, i1, cut_b, S_cat]
      refine fin _ _ _ ?_ (Int.le_refl _) (by omega)
      have := two [] (i + 1) (by simp) (by simp) (by simp) (by omega)
      rwa [List.append_nil] at this
  rw [decide_eq_false h0]
  -- a sign in
  refine wss_nil (wss_cons (ws_if (wt_eqS (we_var 3 rfl (we_int ⟨_, rfl, ?_⟩)))))
  by_cases h1 : way = 1
  · rw [decide_eq_true h1]
    refine wss_cons (ws_ret (we_addS (we_addS (we_slice (we_var 1 rfl (we_var 2 rfl ⟨_, rfl, _, .inr (.inr ⟨_, rfl, zl, rfl⟩), we_call F2 (hr.mono (by decide)) (wa_cons (we_var 0 rfl (wa_cons (we_lst (wa_cons (we_str (wa_cons (we_str (wa_cons (we_str (wa_cons (we_str (wa_cons (we_str (wa_cons (we_str (wa_cons (we_str (wa_cons (we_str (wa_nil ⟨by decide, wa_nil ⟨rfl, p, _, a2, c, e2, rfl, by simp, by simp, mset_same, co, by omega, by omega, ?_⟩⟩)))))))))))))))))))))⟩))))))
    intro x a3 e3 hx k5 k6
    rw [mset_mset]
    have hx : x ∈ (bpc.map S).map D.str := by rw [← bpc_S]; exact hx
    obtain ⟨xz, hxz, rfl⟩ := List.mem_map.mp hx
    obtain ⟨y, hy, rfl⟩ := List.mem_map.mp hxz
    obtain ⟨y1, y2, y3⟩ := bpc_ok y hy
    refine ⟨_, _, rfl, rfl, ?_, we_slice (we_var 1 rfl (we_var 2 rfl ⟨_, rfl, _, .inr (.inr ⟨_, rfl, zl, rfl⟩), _, _, rfl, rfl, ?_, ?_⟩))⟩
    · rw [cut_to, S_len, S_len]; exact zs _ (by omega)
    · rw [cut_to, cut_b, S_cat, S_len, S_len, List.length_append]; exact zs _ (by have := t2 i; omega)
    · rw [cut_to, cut_b, S_cat, S_cat]
      exact fin _ _ _ (two y i (by omega) (by omega) y3 (Nat.le_refl _)) k5 k6
  rw [decide_eq_false h1]
  -- a sign twice
  refine wss_nil (wss_cons (ws_if (wt_eqS (we_var 3 rfl (we_int ⟨_, rfl, ?_⟩)))))
  by_cases h2 : way = 2
  · rw [decide_eq_true h2]
    have hcut : cutS (S l) (some (i : Int)) (some ((i : Int) + 1)) = S ((l.drop i).take 1) := by
      rw [i1]
      unfold cutS
      rw [S_len, HT.sIx_nat, HT.sIx_nat]
      show S ((l.drop (min i l.length)).take (min (i + 1) l.length - min i l.length)) = _
      rw [Nat.min_eq_left hi]
      by_cases hlt : i + 1 ≤ l.length
      · rw [Nat.min_eq_left hlt, show i + 1 - i = 1 by omega]
      · rw [Nat.min_eq_right (by omega)]
        have : i = l.length := by omega
        rw [this, List.drop_length, List.take_nil, List.take_nil]
    have lx : ((l.drop i).take 1).length ≤ 1 := by rw [List.length_take]; omega
    have lc : ((l.drop i).take 1).count 32 ≤ 3 := Nat.le_trans List.count_le_length (by omega)
    refine wss_cons (ws_ret (we_addS (we_addS (we_slice (we_var 1 rfl (we_var 2 rfl ⟨_, rfl, _, .inr (.inr ⟨_, rfl, zl, rfl⟩), we_slice (we_var 1 rfl (we_var 2 rfl ⟨_, rfl, we_addI (we_var 2 rfl (we_int ⟨_, _, rfl, rfl, _, rfl, _, .inr (.inr ⟨_, rfl, zl, rfl⟩), _, _, rfl, rfl, ?_, we_slice (we_var 1 rfl (we_var 2 rfl ⟨_, rfl, _, .inr (.inr ⟨_, rfl, zl, rfl⟩), _, _, rfl, rfl, ?_, ?_⟩))⟩))⟩))⟩))))))
    · rw [cut_to, hcut, S_len, S_len]; exact zs _ (by omega)
    · rw [cut_to, hcut, cut_b, S_cat, S_len, S_len, List.length_append]; exact zs _ (by have := t2 i; omega)
    · rw [cut_to, hcut, cut_b, S_cat, S_cat]
      exact fin _ _ _ (two _ i (by omega) lc (fun c hc => hasc c (List.mem_of_mem_drop (List.mem_of_mem_take hc))) (Nat.le_refl _)) (Int.le_refl _) (by omega)
  rw [decide_eq_false h2]
  -- its words
  refine wss_nil (wss_cons (ws_set 4 nd (we_split (we_var 1 rfl ⟨_, rfl, we_str ⟨_, rfl, by decide +kernel, by rw [S_len, sizeLine_eq]; omega, ?_⟩⟩))))
  have hlen : (Txt.split (S l) " ").length ≤ 16 := by rw [split_b, List.length_map, spx_len, tlS]; omega
  have hpos : 1 ≤ (Txt.split (S l) " ").length := by rw [split_b, List.length_map, spx_len]; omega
  have hws : ∀ u ∈ Txt.split (S l) " ", 32 ∉ TL.tl u ∧ u.length ≤ 1000 ∧ ∀ c ∈ TL.tl u, c < 128 := by
    intro u hu
    rw [split_b] at hu
    obtain ⟨q, hq, rfl⟩ := List.mem_map.mp hu
    refine ⟨spx_nb _ _ List.not_mem_nil q hq, ?_, fun c hc => hasc c (by have h := joinL_mem (S := [32]) hq hc; rw [spx_join] at h; exact h)⟩
    have := spx_sub _ _ q hq
    rw [tlS, List.length_nil] at this
    rw [S_len]; omega
  generalize Txt.split (S l) " " = ws at hlen hpos hws ⊢
  -- turned about
  refine wss_cons (ws_if (wt_eqS (we_var 3 rfl (we_int ⟨_, rfl, ?_⟩))))
  by_cases h3 : way = 3
  · rw [decide_eq_true h3]
    obtain ⟨j1, j2⟩ := BtT.j (ws := ws.reverse) (by rw [List.length_reverse]; omega) fun u hu => hws u (List.mem_reverse.mp hu)
    exact wss_cons (ws_ret (we_join (we_str ⟨_, rfl, we_revL (we_var 4 rfl ⟨_, rfl, ws.reverse, .inl (by rw [List.map_reverse]; rfl), j2, fin _ _ _ j1 (Int.le_refl _) (by omega)⟩)⟩)))
  rw [decide_eq_false h3]
  -- something behind it
  refine wss_nil (wss_cons (ws_if (wt_eqS (we_var 3 rfl (we_int ⟨_, rfl, ?_⟩)))))
  by_cases h4 : way = 4
  · rw [decide_eq_true h4]
    refine wss_cons (ws_ret (we_addS (we_var 1 rfl (we_call F2 (hr.mono (by decide)) (wa_cons (we_var 0 rfl (wa_cons (we_lst (wa_cons (we_str (wa_cons (we_str (wa_cons (we_str (wa_cons (we_str (wa_cons (we_str (wa_cons (we_str (wa_cons (we_str (wa_nil ⟨by decide, wa_nil ⟨rfl, p, btl.map D.str, a2, c, e2, rfl, by simp [btl], by simp [btl], mset_same, co, by omega, by omega, ?_⟩⟩)))))))))))))))))))))))
    intro x a3 e3 hx k5 k6
    rw [mset_mset]
    obtain ⟨y, hy, rfl⟩ := List.mem_map.mp hx
    obtain ⟨y1, y2, y3⟩ := btl_ok y hy
    refine ⟨_, _, rfl, rfl, by rw [S_len]; exact zs _ (by omega), fin _ _ _ ⟨?_, ?_, fun c hc => ?_⟩ k5 k6⟩
    · rw [TL.tl_append, List.count_append, tlS]; omega
    · rw [s_len, S_len]; omega
    · rw [TL.tl_append] at hc
      exact (List.mem_append.mp hc).elim (hasc c) (y3 c)
  rw [decide_eq_false h4]
  -- a word out
  refine wss_nil (wss_cons (ws_set 5 nd (we_call F1 (hr.mono (by decide)) (wa_cons (we_var 0 rfl (wa_cons (we_len gL (we_var 4 rfl ⟨_, lenL, wa_nil ⟨rfl, p, _, a2, c, e2, rfl, by rw [List.length_map]; omega, ?_, mset_same, co, by omega, by omega, ?_⟩⟩))))))))
  · have : (1000 : Int) ≤ 10 ^ 40 := by decide +kernel
    rw [List.length_map]; omega
  intro pl a3 e3 p0 p1 k5 k6
  rw [mset_mset]
  obtain ⟨j, rfl⟩ := Int.eq_ofNat_of_zero_le p0
  rw [List.length_map] at p1
  have ec : cutD (ws.map D.str) none (some ((j : Nat) : Int)) ++ cutD (ws.map D.str) (some (((j : Nat) : Int) + 1)) none = (ws.take j ++ ws.drop (j + 1)).map D.str := by
    rw [List.map_append, show (((j : Nat) : Int) + 1) = ((j + 1 : Nat) : Int) from rfl]
    congr 1
    · unfold DL.cutD
      rw [HT.sIx_nat, HT.sIx_none, Nat.min_eq_left (by rw [List.length_map]; omega), List.map_take]
      rfl
    · unfold DL.cutD
      rw [HT.sIx_nat, HT.sIx_none, Nat.min_eq_left (by rw [List.length_map]; omega), List.map_drop]
      exact List.take_of_length_le (by rw [List.length_drop, List.length_map]; exact Nat.le_refl _)
  have hsub : ∀ u ∈ ws.take j ++ ws.drop (j + 1), u ∈ ws := fun u hu => (List.mem_append.mp hu).elim List.mem_of_mem_take List.mem_of_mem_drop
  have hl2 : (ws.take j ++ ws.drop (j + 1)).length ≤ 18 := by rw [List.length_append, List.length_take, List.length_drop]; omega
  obtain ⟨j1, j2⟩ := BtT.j hl2 fun u hu => hws u (hsub u hu)
  refine wss_cons (ws_ret (we_join (we_str ⟨_, rfl, we_addL (we_slice (we_var 4 rfl (we_var 5 rfl ⟨_, rfl, _, .inl ⟨_, rfl, rfl⟩, we_slice (we_var 4 rfl (we_addI (we_var 5 rfl (we_int ⟨_, _, rfl, rfl, _, rfl, _, .inl ⟨_, rfl, rfl⟩, _, _, rfl, rfl, ?_, _, .inl ?_, j2, fin _ _ _ j1 k5 k6⟩))))⟩)))⟩)))
  · rw [← List.length_append, ec, List.length_map]; exact zs _ (by omega)
  · rw [ec]; rfl
end
end W
namespace W
open PySem PySem.Spec PyProof.Rows L2 DL SX PL SlX PySem.W
def nm5 : List Str := ["a", "x", "y", "xx", "zzzzzzzz"]
def wh7 : List Int := [1, -1, 2, -3, 10, 10 ^ 30, -1]
def tot6 : List Int := [0, 0, 1, -1, 12, -(10 ^ 30)]
theorem nm5_ok : ∀ x ∈ nm5, fmN x = true := by
  intro x hx
  simp only [nm5, List.mem_cons, List.not_mem_nil, or_false] at hx
  rcases hx with rfl | rfl | rfl | rfl | rfl <;> decide +kernel
theorem wh7_ok : ∀ i ∈ wh7, i ≠ 0 ∧ i.natAbs ≤ 10 ^ 30 := by
  intro i hi
  simp only [wh7, List.mem_cons, List.not_mem_nil, or_false] at hi
  rcases hi with rfl | rfl | rfl | rfl | rfl | rfl | rfl <;> exact ⟨by decide, by decide⟩
theorem tot6_ok : ∀ i ∈ tot6, i.natAbs ≤ 10 ^ 30 := by
  intro i hi
  simp only [tot6, List.mem_cons, List.not_mem_nil, or_false] at hi
  rcases hi with rfl | rfl | rfl | rfl | rfl | rfl <;> decide
structure DrX (ps : List Pt) : Prop where
  pool : ∀ p ∈ ps, p.1.1 ∈ nm5 ∧ p.1.2 ∈ wordsL ∧ p.2 ∈ wh7
  up : (ps.map Prod.fst).Pairwise fun a b => ltM a b = true
  few : ps.length ≤ 5
theorem DrX.pts {ps : List Pt} (h : DrX ps) : Pts ps := ⟨fun p hp => ⟨nm5_ok _ (h.pool p hp).1, (h.pool p hp).2.1, (wh7_ok _ (h.pool p hp).2.2).1⟩, h.up⟩
theorem bdM_of {m : Mk} (h : GdM m) : BdM m := by
  refine ⟨?_, ?_⟩
  · have := (fmN_all h.1).2
    rw [Array.length_toList] at this
    exact this
  · have := (words_all h.2).2
    rw [Array.length_toList] at this
    exact this
theorem DrX.bd {ps : List Pt} (h : DrX ps) {n : Int} (hn : n ∈ tot6) : BdR (ps, n) := by
  have e : (10 : Nat) ^ 30 ≤ 10 ^ 60 := by decide
  refine ⟨fun p hp => ⟨bdM_of ⟨nm5_ok _ (h.pool p hp).1, (h.pool p hp).2.1⟩, Nat.le_trans (wh7_ok _ (h.pool p hp).2.2).2 e⟩, by have := h.few; show ps.length ≤ 20; omega, Nat.le_trans (tot6_ok _ hn) e⟩
/-- the text's words -/
theorem split_T {f : Row} (h : Pts f.1) : Txt.split (T f) " " = wordsF f := by
  unfold T
  have hg := terms_gw h
  cases e : termsW f with
  | nil => exact absurd e (terms_ne f)
  | cons q r =>
    have hq := hg q (by rw [e]; exact List.mem_cons_self)
    have hr : ∀ z ∈ r, z.2 ≠ [] ∧ ∀ u ∈ z.2, Gw u := fun z hz => hg z (by rw [e]; exact List.mem_cons_of_mem _ hz)
    have ew : wordsF f = headW q.2 (decide (q.1 < 0)) ++ (r.map sgd).flatten := by unfold wordsF; rw [e]; rfl
    rw [ew]
    refine split_J (fun e0 => headW_ne hq.1 _ (List.append_eq_nil_iff.mp e0).1) fun u hu => ?_
    rcases List.mem_append.mp hu with hu | hu
    · obtain ⟨i, ws⟩ := q
      cases ws with
      | nil => exact absurd rfl hq.1
      | cons w ws =>
        cases hd : decide (i < 0) with
        | true =>
          have hu : u ∈ headW (w :: ws) (decide (i < 0)) := hu
          rw [hd] at hu
          rcases List.mem_cons.mp (show u ∈ ("-" ++ w) :: ws from hu) with rfl | hu
          · rw [TL.tl_append]
            intro hc
            rcases List.mem_append.mp hc with hc | hc
            · exact absurd hc (by decide +kernel)
            · exact (hq.2 w List.mem_cons_self).1 hc
          · exact (hq.2 u (List.mem_cons_of_mem _ hu)).1
        | false =>
          have hu : u ∈ headW (w :: ws) (decide (i < 0)) := hu
          rw [hd] at hu
          exact (hq.2 u hu).1
    · obtain ⟨l, hl, hu⟩ := List.mem_flatten.mp hu
      obtain ⟨z, hz, rfl⟩ := List.mem_map.mp hl
      rcases List.mem_cons.mp hu with rfl | hu
      · exact sgW_nb _
      · exact ((hr z hz).2 u hu).1
/-- words of a drawn text: ascii, at most 39 signs -/
def Wd39 (u : Str) : Prop := u.length ≤ 39 ∧ ∀ c ∈ TL.tl u, c < 128
theorem wd_mk {m : Mk} (h : GdM m) : Wd39 (mkT m) := by
  have hb := bdM_of h
  refine ⟨?_, fun c hc => ?_⟩
  · have h1 := hb.1
    have h2 := hb.2
    unfold mkT
    rw [s_len, s_len, show ("." : Str).length = 1 by decide +kernel]; omega
  · rw [mkT_tl] at hc
    rcases List.mem_append.mp hc with hc | hc
    · have := name_sg h c hc; omega
    rcases List.mem_cons.mp hc with rfl | hc
    · omega
    · have := word_sg h c hc; omega
theorem wd_num {k : Int} (h0 : 0 ≤ k) (hk : k.natAbs ≤ 10 ^ 30) : Wd39 (Str.ofString (toString k)) := by
  refine ⟨?_, fun c hc => by have := num_nb h0 c hc; omega⟩
  obtain ⟨n, rfl⟩ := Int.eq_ofNat_of_zero_le h0
  rw [TL.len_tl, TL.tl_num]
  have hk : n ≤ 10 ^ 30 := hk
  have : n < 10 ^ 31 := by omega
  have := TL.numL_len (k := 31) (by decide) this
  omega
theorem ab_le {i : Int} {b : Nat} (h : i.natAbs ≤ b) : (ab i).natAbs ≤ b := by unfold ab; split <;> omega
theorem drT {ps : List Pt} {n : Int} (h : DrX ps) (hn : n ∈ tot6) : (wordsF (ps, n)).length ≤ 16 ∧ ∀ u ∈ wordsF (ps, n), u.length ≤ 40 ∧ ∀ c ∈ TL.tl u, c < 128 := by
  have hp := h.pts
  have et : termsW (ps, n) = ps.map tmP ++ if n ≠ 0 ∨ ps = [] then [(n, [Str.ofString (toString (ab n))])] else [] := rfl
  have hz : ∀ z ∈ termsW (ps, n), ∀ u ∈ z.2, Wd39 u := by
    intro z hz u hu
    rw [et] at hz
    rcases List.mem_append.mp hz with hz | hz
    · obtain ⟨p, hp2, rfl⟩ := List.mem_map.mp hz
      obtain ⟨g1, g2, _⟩ := hp.ok p hp2
      have hu : u ∈ tmW (ab p.2) p.1 := hu
      unfold tmW at hu
      split at hu
      · rw [List.mem_singleton.mp hu]; exact wd_mk ⟨g1, g2⟩
      · rcases List.mem_cons.mp hu with rfl | hu
        · exact wd_num (ab_nn _) (ab_le (wh7_ok _ (h.pool p hp2).2.2).2)
        · rw [List.mem_singleton.mp hu]; exact wd_mk ⟨g1, g2⟩
    · split at hz
      · rw [List.mem_singleton.mp hz] at hu
        rw [List.mem_singleton.mp hu]; exact wd_num (ab_nn _) (ab_le (tot6_ok _ hn))
      · cases hz
  have hlen : ((termsW (ps, n)).map sgd).flatten.length ≤ 17 := by
    rw [et, List.map_append, List.flatten_append, List.length_append]
    have h1 : ∀ l : List Pt, (((l.map tmP).map sgd).flatten).length ≤ 3 * l.length := by
      intro l
      induction l with
      | nil => exact Nat.zero_le _
      | cons p l ih =>
        rw [List.map_cons, List.map_cons, List.flatten_cons, List.length_append, List.length_cons]
        have : (sgd (tmP p)).length ≤ 3 := by
          show (sgW p.2 :: tmW (ab p.2) p.1).length ≤ 3
          unfold tmW
          split <;> simp
        omega
    have h2 := h1 ps
    have h3 := h.few
    have h4 : (((if n ≠ 0 ∨ ps = [] then [((n, [Str.ofString (toString (ab n))]) : Tm)] else []).map sgd).flatten).length ≤ 2 := by
      split
      · exact Nat.le_refl 2
      · exact Nat.zero_le 2
    omega
  cases e : termsW (ps, n) with
  | nil => exact absurd e (terms_ne _)
  | cons q r =>
    have ew : wordsF (ps, n) = headW q.2 (decide (q.1 < 0)) ++ (r.map sgd).flatten := by unfold wordsF; rw [e]; rfl
    rw [e, List.map_cons, List.flatten_cons, List.length_append] at hlen
    have hne := terms_w (ps, n) q (by rw [e]; exact List.mem_cons_self)
    have hq : ∀ u ∈ q.2, Wd39 u := hz q (by rw [e]; exact List.mem_cons_self)
    obtain ⟨i, ws⟩ := q
    have hl : (headW ws (decide (i < 0))).length = ws.length := by
      cases ws with
      | nil => rfl
      | cons w ws => cases decide (i < 0) <;> rfl
    rw [ew]
    refine ⟨?_, fun u hu => ?_⟩
    · rw [List.length_append]
      show (headW ws (decide (i < 0))).length + _ ≤ 16
      have : (sgd (i, ws)).length = ws.length + 1 := rfl
      omega
    · rcases List.mem_append.mp hu with hu | hu
      · have hu : u ∈ headW ws (decide (i < 0)) := hu
        cases ws with
        | nil => exact absurd rfl hne
        | cons w ws =>
          cases hd : decide (i < 0) with
          | false =>
            rw [hd] at hu
            have := hq u hu
            exact ⟨by have := this.1; omega, this.2⟩
          | true =>
            rw [hd] at hu
            rcases List.mem_cons.mp (show u ∈ ("-" ++ w) :: ws from hu) with rfl | hu
            · have := hq w List.mem_cons_self
              refine ⟨by rw [s_len, show ("-" : Str).length = 1 by decide +kernel]; have := this.1; omega, fun c hc => ?_⟩
              rw [TL.tl_append] at hc
              rcases List.mem_append.mp hc with hc | hc
              · have : c ∈ ([45] : List Nat) := hc
                rw [List.mem_singleton.mp this]; omega
              · exact this.2 c hc
            · have := hq u (List.mem_cons_of_mem _ hu)
              exact ⟨by have := this.1; omega, this.2⟩
      · obtain ⟨l, hl2, hu⟩ := List.mem_flatten.mp hu
        obtain ⟨z, hzr, rfl⟩ := List.mem_map.mp hl2
        rcases List.mem_cons.mp hu with rfl | hu
        · unfold sgW
          split
          · exact ⟨by decide +kernel, by decide +kernel⟩
          · exact ⟨by decide +kernel, by decide +kernel⟩
        · have := hz z (by rw [e]; exact List.mem_cons_of_mem _ hzr) u hu
          exact ⟨by have := this.1; omega, this.2⟩
structure DrZ (z : Str) : Prop where
  w : TxW z
  b : (TL.tl z).count 32 ≤ 15
  pos : 1 ≤ z.length
  asc : ∀ c ∈ TL.tl z, c < 128
theorem drZ {ps : List Pt} {n : Int} (h : DrX ps) (hn : n ∈ tot6) : DrZ (T (ps, n)) := by
  obtain ⟨h1, h2⟩ := drT h hn
  have hs := split_T (f := (ps, n)) h.pts
  refine ⟨⟨by rw [hs]; omega, by rw [hs]; exact fun u hu => (h2 u hu).1⟩, ?_, ?_, ?_⟩
  · have := congrArg List.length hs
    rw [split_b, List.length_map, spx_len] at this
    omega
  · cases e : termsW (ps, n) with
    | nil => exact absurd e (terms_ne _)
    | cons q r =>
      rw [T_pkg e]
      have hne := terms_w (ps, n) q (by rw [e]; exact List.mem_cons_self)
      have hg := (terms_gw (f := (ps, n)) h.pts q (by rw [e]; exact List.mem_cons_self)).2
      obtain ⟨i, ws⟩ := q
      cases ws with
      | nil => exact absurd rfl hne
      | cons w ws =>
        obtain ⟨_, c, l, ec, _, _⟩ := hg w List.mem_cons_self
        obtain ⟨l', el⟩ := J_hd ec ws
        have : ∃ c' l2, TL.tl ((if decide (((i, w :: ws) : Tm).1 < 0) = true then ("-" : Str) else "") ++ J ((i, w :: ws) : Tm).2) = c' :: l2 := by
          rw [TL.tl_append]
          show ∃ c' l2, TL.tl (if decide (i < 0) = true then ("-" : Str) else "") ++ TL.tl (J (w :: ws)) = c' :: l2
          rw [el]
          split
          · exact ⟨45, _, rfl⟩
          · exact ⟨c, _, rfl⟩
        obtain ⟨c', l2, e2⟩ := this
        obtain ⟨l3, e3⟩ := J_hd e2 (r.map fun z => sgW z.1 ++ " " ++ J z.2)
        rw [TL.len_tl, e3, List.length_cons]; omega
  · unfold T
    have e : TL.tl (J (wordsF (ps, n))) = TL.joinL [32] ((wordsF (ps, n)).map TL.tl) := by unfold J; rw [TL.tl_join]; rfl
    rw [e]
    refine joinL_all (fun c hc => by rw [List.mem_singleton.mp hc]; omega) fun p hp c hc => ?_
    obtain ⟨u, hu, rfl⟩ := List.mem_map.mp hp
    exact (h2 u hu).2 c hc
section
variable {P : Program} {w : World} {K : PySem.W.Frag} {mg : Str → Option Value} {base : Heap} {C R U V : Addr}
abbrev nDrX : List Str := ["_law_pot_here", "_law_heads", "_law_lap", "_law_name", "_law_parts", "_law_mark"]
def cDrX : Con := fun ds M Φ => ∃ p a c d, ds = [.ob p] ∧ M p = some (potL a c d) ∧ cOk c ∧ 0 ≤ d ∧ d < 90000 ∧ ∀ ps n a' d', DrX ps → n ∈ tot6 → d ≤ d' → d' ≤ d + 20 → Φ (.tup [.ptup (ps.map ptD), .int n]) (mset M p (potL a' c d'))
theorem ok_drx (F : Fx w K mg) (F1 : Fc P w K mg base "_law_take" [] 1 2 cTake) (F2 : Fc P w K mg base "_law_of" [] 2 2 cOf) : BodyOk P w K mg base "_law_drawn" s__law_drawn nDrX 1 2 cDrX := by
  intro f cdv A outer s H E hr ds M Φ hl hc
  obtain ⟨p, a, c, d, rfl, hM, co, d0, d1, hc⟩ := hc
  have nd : nDrX.Nodup := by decide +kernel
  have hun := hr.un
  refine wss_cons (ws_set 1 nd (we_lstM (wa_nil ⟨Nat.zero_le _, fun q hq => ?_⟩)))
  have pq : p ≠ q := fun e => by rw [e, hq] at hM; cases hM
  refine wss_cons (ws_for PassesOwn.never (wi_range1 (F.bn _ (by decide +kernel)) (wa_cons (we_call F1 (hr.mono (by omega)) (wa_cons (we_var 0 rfl (wa_cons (we_int (wa_nil ⟨rfl, p, 6, a, c, d, rfl, by decide, by decide, by rw [mset_ne pq]; exact hM, co, d0, by omega, fun r a1 e1 r0 r5 k1 k2 => wa_nil ⟨_, rfl, by omega, by omega, ?_⟩⟩)))))))))
  obtain ⟨n, rfl⟩ := Int.eq_ofNat_of_zero_le r0
  rw [msetComm pq, show ((n : Nat) : Int).toNat = n by omega]
  have n5 : n < 6 := by omega
  refine ⟨fun i ρ' M' => ∃ o2 o3 a' e' hs, ρ' = [some (.ob p), some (.ob q), o2, o3, none, none] ∧ M' = mset (mset M p (potL a' c e')) q (.lst (hs.map mkD)) ∧ e1 ≤ e' ∧ e' ≤ e1 + 2 * (i : Nat) ∧ hs.length = i ∧ ∀ m ∈ hs, m.1 ∈ nm5 ∧ m.2 ∈ wordsL, ⟨none, none, a1, e1, [], rfl, rfl, Int.le_refl _, by omega, rfl, fun m h => (nomatch h)⟩, ?_, ?_⟩
  · rintro i x ρ' M' hx ⟨o2, o3, a', e', hs, rfl, rfl, l1, l2, hlen, hin⟩
    obtain ⟨hi, rfl⟩ := rngD_get hx
    have hi : i < n := hi
    refine wg_name 2 ?_ nd
    have mp : ∀ {a e : Int}, mset (mset M p (potL a c e)) q (.lst (hs.map mkD)) p = some (potL a c e) := fun {a e} => by rw [mset_ne pq, mset_same]
    refine wss_cons (ws_set 3 nd (we_call F2 (hr.mono (by omega)) (wa_cons (we_var 0 rfl (wa_cons (we_lst (wa_cons (we_str (wa_cons (we_str (wa_cons (we_str (wa_cons (we_str (wa_cons (we_str (wa_nil ⟨by decide, wa_nil ⟨rfl, p, nm5.map D.str, a', c, e', rfl, by decide, by decide, mp, co, by omega, by omega, fun x a2 e2 hx2 k3 k4 => ?_⟩⟩)))))))))))))))))
    obtain ⟨x, hxn, rfl⟩ := List.mem_map.mp hx2
    rw [msetComm pq, mset_mset]
    refine wss_cons (ws_expr (we_append (we_var 1 rfl ⟨q, _, rfl, mset_same, we_tup (wa_cons (we_var 3 rfl (wa_cons (we_call F2 (hr.mono (by omega)) (wa_cons (we_var 0 rfl (wa_cons (we_lst (wa_cons (we_str (wa_cons (we_str (wa_cons (we_str (wa_cons (we_str (wa_cons (we_str (wa_nil ⟨by decide, wa_nil ⟨rfl, p, wordsL.map D.str, a2, c, e2, rfl, by decide, by decide, mp, co, by omega, by omega, fun y a3 e3 hy2 k5 k6 => ?_⟩⟩)))))))))))))))))))⟩)))
    obtain ⟨y, hyn, rfl⟩ := List.mem_map.mp hy2
    rw [msetComm pq, mset_mset]
    refine wa_nil ⟨sz2x, hs.map mkD, mset_same, by rw [List.length_map, sizeLine_eq]; omega, ?_⟩
    rw [mset_mset]
    refine wss_nil ⟨_, _, a3, e3, hs ++ [(x, y)], rfl, by rw [List.map_append]; rfl, by omega, by omega, by rw [List.length_append, hlen]; rfl, fun m hm => ?_⟩
    rcases List.mem_append.mp hm with hm | hm
    · exact hin m hm
    · rw [List.mem_singleton.mp hm]; exact ⟨hxn, hyn⟩
  rintro ρ' M' ⟨o2, o3, a', e', hs, rfl, rfl, l1, l2, hlen, hin⟩
  rw [rngD_len] at hlen l2
  refine wss_fz (i := 1) (ds := hs.map mkD) rfl mset_same ?_
  have del : mdel (mset (mset M p (potL a' c e')) q (.lst (hs.map mkD))) q = mset M p (potL a' c e') := mdel_mset (by rw [mset_ne (Ne.symm pq)]; exact hq)
  rw [del]
  refine wss_cons (ws_set 4 nd (we_tupleP (F.bn _ (by decide +kernel)) (we_lc nd (blkOk_by (N := nDrX) (sc := defScope s__law_drawn) (own := [("_law_mark", 5)]) (by decide +kernel)) (fun _ _ _ _ _ => pg_name (i := 5) nd rfl (Or.inl rfl)) (gt_name (by decide)) (fun _ _ _ _ _ => pts_nil) tk_nil (wi_list (we_sortedSetTx hr.units (F.bn _ (by decide +kernel)) (F.bn _ (by decide +kernel)) (we_var 1 rfl ⟨hs.map mkL, by rw [List.map_map]; rfl, by rw [List.length_map]; omega, ?_, fun ys u => ?_⟩))))))
  · intro h
    obtain ⟨m, hm, e⟩ := List.mem_map.mp h
    cases e
  obtain ⟨ns, rfl, n1, n2, n3⟩ := upT_mk u
  have few : ns.length ≤ hs.length := nodup_sub (ltM_nodup n1) fun m hm => (n2 m).mp hm
  refine ⟨_, .inl rfl, ?_⟩
  refine ⟨by rw [List.length_map, List.length_map, sizeLine_eq]; omega, fun i acc M2 => ∃ a2 e2 ps, M2 = mset M p (potL a2 c e2) ∧ acc = ps.map ptD ∧ ps.map Prod.fst = ns.take i ∧ (∀ p ∈ ps, p.2 ∈ wh7) ∧ e' ≤ e2 ∧ e2 ≤ e' + (i : Nat), ⟨a', e', [], rfl, rfl, rfl, fun p h => (nomatch h), Int.le_refl _, by omega⟩, ?_, ?_⟩
  · rintro i x acc M2 hx ⟨a2, e2, ps, rfl, rfl, hfst, hw, k3, k4⟩
    rw [List.getElem?_map, List.getElem?_map] at hx
    obtain ⟨z, hz, rfl⟩ := Option.map_eq_some_iff.mp hx
    obtain ⟨m, hm, rfl⟩ := Option.map_eq_some_iff.mp hz
    have hi : i < ns.length := (List.getElem?_eq_some_iff.mp hm).1
    intro s1 H1 C' cl fp
    refine we_tup (wa_cons (we_var 5 rfl (wa_cons (we_call F2 (hr.mono (by omega)) (wa_cons (we_var 0 rfl (wa_cons (we_lst (wa_cons (we_int (wa_cons (we_negI (we_int ⟨_, rfl, wa_cons (we_int (wa_cons (we_negI (we_int ⟨_, rfl, wa_cons (we_int (wa_cons (we_powI (we_int (we_int ⟨_, _, rfl, rfl, ⟨by decide, by decide, by decide⟩, wa_cons (we_negI (we_int ⟨_, rfl, wa_nil ⟨by decide, wa_nil ⟨rfl, p, wh7.map D.int, a2, c, e2, rfl, by decide, by decide, mset_same, co, by omega, by omega, fun y a3 e3 hy k5 k6 => ?_⟩⟩⟩))⟩)))))⟩))))⟩)))))))))))))
    obtain ⟨i', hi', rfl⟩ := List.mem_map.mp hy
    rw [mset_mset]
    exact wa_nil ⟨sz2x, a3, e3, ps ++ [(m, i')], rfl, by rw [List.map_append]; rfl, by rw [List.map_append, hfst, take_snoc hm]; rfl, fun p hp => (List.mem_append.mp hp).elim (hw p) (fun h => by rw [List.mem_singleton.mp h]; exact hi'), by omega, by omega⟩
  · rintro acc M2 ⟨a2, e2, ps, rfl, rfl, hfst, hw, k3, k4⟩
    rw [List.length_map, List.length_map, List.take_length] at hfst
    rw [List.length_map, List.length_map] at k4
    have lps : ps.length = ns.length := by rw [← hfst, List.length_map]
    refine ⟨_, rfl, ?_⟩
    have dr : DrX ps := ⟨fun p hp => by
      have hm : p.1 ∈ ns := by rw [← hfst]; exact List.mem_map_of_mem hp
      exact ⟨(hin _ ((n2 _).mp hm)).1, (hin _ ((n2 _).mp hm)).2, hw p hp⟩, by rw [hfst]; exact n1, by omega⟩
    refine wss_cons (ws_ret (we_tup (wa_cons (we_var 4 rfl (wa_cons (we_call F2 (hr.mono (by omega)) (wa_cons (we_var 0 rfl (wa_cons (we_lst (wa_cons (we_int (wa_cons (we_int (wa_cons (we_int (wa_cons (we_negI (we_int ⟨_, rfl, wa_cons (we_int (wa_cons (we_negI (we_powI (we_int (we_int ⟨_, _, rfl, rfl, ⟨by decide, by decide, by decide⟩, _, rfl, wa_nil ⟨by decide, wa_nil ⟨rfl, p, tot6.map D.int, a2, c, e2, rfl, by decide, by decide, mset_same, co, by omega, by omega, fun y a3 e3 hy k5 k6 => ?_⟩⟩⟩))))))⟩)))))))))))))))))))
    obtain ⟨n', hn', rfl⟩ := List.mem_map.mp hy
    rw [mset_mset]
    exact wa_nil ⟨sz2x, Lets.of (hc ps n' a3 e3 dr hn' (by omega) (by omega))⟩
end
end W
namespace DL
open PySem PySem.Spec PyProof.Rows L2
section
variable {X : Cx} {ρ : Rho} {M : Mp} {Φ : D → Mp → Prop} {Θ : Bool → Mp → Prop} {a b c e f o : Expr} {pos apos : Pos}
/-- how long a shown text is -/
theorem sh_str {x : Str} {n : Nat} (h : ∀ c ∈ x.cps.toList, c < 0x110000) (hl : x.length ≤ n) : ShD (.str x) (10 * n + 2) := by
  refine ⟨by simp only [PyData.showable], ?_⟩
  simp only [PyData.shown]
  have := StrLaws.reprText_len x fun c hc => Nat.lt_trans (h c hc) (by decide)
  omega
end
end DL
namespace DL
open PySem PySem.Spec PyProof.Rows L2
section
variable {X : Cx} {ρ : Rho} {M : Mp} {Φ : D → Mp → Prop} {a b : Expr} {pos : Pos}
/-- xs + ys, a list that will be changed -/
theorem we_addLO (h : WE X ρ M a fun x M1 => WE X ρ M1 b fun y M2 => ∃ xs ys, x = .lst xs ∧ y = .lst ys ∧ xs.length + ys.length ≤ sizeLine ∧ ∀ q, M2 q = none → Φ (.ob q) (mset M2 q (.lst (xs ++ ys)))) : WE X ρ M (.BinOp a .Add b pos) Φ :=
  we_op op_cat (h.imp fun _ _ h => h.imp fun _ M2 h Z v u H Q w r1 r2 k => by
    obtain ⟨xs, ys, rfl, rfl, hz, h⟩ := h
    cases r1 with
    | lst h1 m1 r1 =>
      cases r2 with
      | lst h2 m2 r2 =>
        exact ⟨_, _, _, _, rfl, rfl, h1, h2, by rw [r1.length, r2.length]; exact hz, fun q hq =>
          k _ (.ob q) _ (mset M2 q (.lst (xs ++ ys))) (Ext.newM w hq) (w.newM hq ⟨_, upd_same, (r1.append r2).mono (Ext.newM w hq)⟩) (.ob q) (h q (w.fresh hq).1)⟩)
end
end DL
namespace W
open PySem PySem.Spec PyProof.Rows L2 DL SX PL SlX PySem.W
/-- a value that can be shown, so long and so deep -/
structure RpG (v : AV) (k b : Nat) : Prop where
  c : CmpD (avD v) (avP v) k
  s : ShD (avP v) b
theorem RpG.rp {v : AV} {k b : Nat} (h : RpG v k b) (hk : k ≤ 60) (hb : b ≤ 100000) : RpD v := .inl ⟨k, h.c, hk, h.s.ok, Nat.le_trans h.s.le (by rw [sizeLine_eq]; omega)⟩
theorem RpG.mono {v : AV} {k b k' b' : Nat} (h : RpG v k b) (hk : k ≤ k') (hb : b ≤ b') : RpG v k' b' := ⟨⟨h.c.eq, h.c.lay, Nat.le_trans h.c.dep hk⟩, ⟨h.s.ok, Nat.le_trans h.s.le hb⟩⟩
theorem rg_str {x : Str} {n : Nat} (h : ∀ c ∈ TL.tl x, c < 128) (hl : x.length ≤ n) : RpG (.str x) 0 (10 * n + 2) := by
  have h2 : ∀ c ∈ x.cps.toList, c < 0x110000 := fun c hc => Nat.lt_trans (h c hc) (by decide)
  exact ⟨by rw [avD, avP]; exact cmp_str h2, by rw [avP]; exact sh_str h2 hl⟩
theorem sh_big {i : Int} (h : BdI i) : ShD (.int i) 70 := by
  refine ⟨by simp only [PyData.showable, decide_eq_true_eq]; exact bd_log h, ?_⟩
  simp only [PyData.shown]
  rcases Int.eq_nat_or_neg i with ⟨n, rfl | rfl⟩
  · have := num_short (k := (n : Int)) (by omega) h
    omega
  · cases n with
    | zero => decide +kernel
    | succ m =>
      rw [show (-((m + 1 : Nat) : Int)) = Int.negSucc m from rfl] at h ⊢
      rw [neg_txt, of_len, String.toList_append, List.length_append]
      have e : (toString ((m + 1 : Nat) : Int)).toList.length ≤ 61 := by
        have q := of_len (toString ((m + 1 : Nat) : Int))
        have := num_short (k := ((m + 1 : Nat) : Int)) (by omega) h
        omega
      have e1 : ("-" : String).toList.length = 1 := by decide
      omega
theorem rg_int {i : Int} (h : BdI i) : RpG (.int i) 0 70 := ⟨by rw [avD, avP]; exact cmp_int i, by rw [avP]; exact sh_big h⟩
theorem avsP_m : ∀ l : List AV, avsP l = l.map avP
  | [] => by rw [avsP]; rfl
  | v :: l => by rw [avsP, avsP_m l, List.map_cons]
theorem rg_tup {l : List AV} {k b n : Nat} (h : ∀ v ∈ l, RpG v k b) (hn : l.length ≤ n) : RpG (.tup l) (k + 1) (n * (b + 2) + 3) := by
  refine ⟨?_, ?_⟩
  · rw [avD, avP, avsD_map, avsP_m]
    exact cmp_tup (cmps_map (Nat.le_refl k) fun v hv => (h v hv).c)
  · rw [avP, avsP_m]
    refine sh_tup (fun x hx => ?_) (by rw [List.length_map]; exact hn)
    obtain ⟨v, hv, rfl⟩ := List.mem_map.mp hx
    exact (h v hv).s
theorem rg_lst {l : List AV} {k b n : Nat} (h : ∀ v ∈ l, RpG v k b) (hn : l.length ≤ n) : RpG (.lst l) (k + 1) (n * (b + 2) + 3) := by
  refine ⟨?_, ?_⟩
  · rw [avD, avP, avsD_map, avsP_m]
    exact cmp_lst (cmps_map (Nat.le_refl k) fun v hv => (h v hv).c)
  · rw [avP, avsP_m]
    refine sh_list (fun x hx => ?_) (by rw [List.length_map]; exact hn)
    obtain ⟨v, hv, rfl⟩ := List.mem_map.mp hx
    exact (h v hv).s
/-- a Form as a pair -/
def prA (f : Row) : AV := .tup [.tup (f.1.map ptA), .int f.2]
theorem prA_D (f : Row) : avD (prA f) = prD f.1 f.2 := by
  unfold prA prD
  rw [avD, avsD_map, List.map_cons, List.map_cons, List.map_nil, pts_D, avD]
theorem mk_asc {m : Mk} (h : GdM m) : (∀ c ∈ TL.tl m.1, c < 128) ∧ ∀ c ∈ TL.tl m.2, c < 128 := ⟨fun c hc => by have := name_sg h c hc; omega, fun c hc => by have := word_sg h c hc; omega⟩
theorem prA_rp {f : Row} (hp : Pts f.1) (hb : BdR f) : RpD (prA f) := by
  have h1 : ∀ v ∈ f.1.map ptA, RpG v 2 593 := by
    intro v hv
    obtain ⟨p, hpm, rfl⟩ := List.mem_map.mp hv
    obtain ⟨g1, g2, _⟩ := hp.ok p hpm
    obtain ⟨b1, b2⟩ := hb.1 p hpm
    obtain ⟨a1, a2⟩ := mk_asc ⟨g1, g2⟩
    have hm : RpG (mkA p.1) 1 191 := by
      refine (rg_tup (l := [.str p.1.1, .str p.1.2]) (n := 2) (b := 92) (k := 0) (fun v hv => ?_) (Nat.le_refl 2)).mono (Nat.le_refl _) (by omega)
      rcases List.mem_cons.mp hv with rfl | hv
      · exact (rg_str a1 b1.1).mono (Nat.le_refl _) (by omega)
      · rw [List.mem_singleton.mp hv]; exact rg_str a2 b1.2
    refine (rg_tup (l := [mkA p.1, .int p.2]) (n := 2) (b := 293) (k := 1) (fun v hv => ?_) (Nat.le_refl 2)).mono (Nat.le_refl _) (by omega)
    rcases List.mem_cons.mp hv with rfl | hv
    · exact hm.mono (Nat.le_refl _) (by omega)
    · rw [List.mem_singleton.mp hv]; exact (rg_int b2).mono (by omega) (by omega)
  have h2 : RpG (.tup (f.1.map ptA)) 3 (20 * 595 + 3) := rg_tup h1 (by rw [List.length_map]; exact hb.2.1)
  have h3 : RpG (prA f) 4 (2 * (20 * 595 + 3 + 2) + 3) := by
    refine rg_tup (fun v hv => ?_) (Nat.le_refl 2)
    rcases List.mem_cons.mp hv with rfl | hv
    · exact h2
    · rw [List.mem_singleton.mp hv]; exact (rg_int hb.2.2).mono (by omega) (by omega)
  exact h3.rp (by omega) (by omega)
/-- the values -/
structure VOk (v : AV) : Prop where
  r : RpD v
  d : (∃ z, v = .str z ∧ TxW z) ∨ (isS v = false ∧ ((∃ k, CmpD (avD v) (avP v) k ∧ k ≤ 60) ∨ v = .dic))
theorem VOk.vd {v : AV} (h : VOk v) : VdA v := by
  rcases h.d with ⟨z, e, hz⟩ | h
  · exact .inl ⟨z, e, hz.k⟩
  · exact .inr h
theorem txW_of {z : Str} (h1 : z.length ≤ 40) (h2 : (TL.tl z).count 32 ≤ 18) : TxW z := by
  refine ⟨by rw [split_b, List.length_map, spx_len]; omega, fun u hu => ?_⟩
  rw [split_b] at hu
  obtain ⟨p, hp, rfl⟩ := List.mem_map.mp hu
  have := spx_sub _ _ p hp
  rw [List.length_nil, ← TL.len_tl] at this
  rw [S_len]; omega
theorem txW_bt {z : Str} (h : BtT z) (hs : ∀ u ∈ Txt.split z " ", u.length ≤ 40) : TxW z := ⟨by rw [split_b, List.length_map, spx_len]; have := h.few; omega, hs⟩
theorem vok_str {z : Str} (h : TxW z) (ha : ∀ c ∈ TL.tl z, c < 128) : VOk (.str z) := ⟨(rg_str ha h.len).rp (by omega) (by omega), .inl ⟨z, rfl, h⟩⟩
theorem vok_oth {v : AV} {k b : Nat} (h : RpG v k b) (hk : k ≤ 60) (hb : b ≤ 100000) (hs : isS v = false) : VOk v := ⟨h.rp hk hb, .inr ⟨hs, .inl ⟨k, h.c, hk⟩⟩⟩
def fixS : List Str := ["", "0", "-0", "00", "-1", "+ 1", "x.people x.rows", "1 x.rows", "0 x.rows", "x.other", "x.", ".rows", "x", "2  x.rows", "x.rows + x.rows", "y.rows + x.rows", "x.rows + 0", "1 + x.rows", "x.rows - -1"]
theorem fixS_ok : ∀ z ∈ fixS, (decide (z.length ≤ 40) && decide ((TL.tl z).count 32 ≤ 18) && (TL.tl z).all fun c => decide (c < 128)) = true := by decide +kernel
def vals0 (z : Str) : List AV := fixS.map AV.str ++ [.non, .int 0, .bl true, .tup [], .lst [.str z], .dic, .tup [.str z]]
theorem vals0_D (z : Str) : [D.str "", .str "0", .str "-0", .str "00", .str "-1", .str "+ 1", .str "x.people x.rows", .str "1 x.rows", .str "0 x.rows", .str "x.other", .str "x.", .str ".rows"] ++ [D.str "x", .str "2  x.rows", .str "x.rows + x.rows", .str "y.rows + x.rows", .str "x.rows + 0", .str "1 + x.rows"] ++ [D.str "x.rows - -1", .non, .int 0, .bl true, .tup [], .lst [.str z], .dK [], .tup [.str z]] = (vals0 z).map avD := by
  simp only [vals0, fixS, List.map_cons, List.map_nil, List.cons_append, List.nil_append, avD, avsD]
theorem rg_non : RpG .non 0 70 := ⟨by rw [avD, avP]; exact cmp_non, by rw [avP]; exact ⟨by simp [PyData.showable], by simp only [PyData.shown]; decide +kernel⟩⟩
theorem rg_bl (c : Bool) : RpG (.bl c) 0 70 := ⟨by rw [avD, avP]; exact cmp_bl c, by rw [avP]; exact ⟨by simp [PyData.showable], by simp only [PyData.shown]; cases c <;> decide +kernel⟩⟩
theorem vals0_ok {z : Str} (h : TxW z) (ha : ∀ c ∈ TL.tl z, c < 128) : ∀ v ∈ vals0 z, VOk v := by
  have hs : RpG (.str z) 0 7792 := (rg_str ha h.len).mono (Nat.le_refl _) (by omega)
  have h0 : BdI 0 := Nat.zero_le _
  intro v hv
  rcases List.mem_append.mp hv with hv | hv
  · obtain ⟨y, hy, rfl⟩ := List.mem_map.mp hv
    have := fixS_ok y hy
    rw [Bool.and_eq_true, Bool.and_eq_true, decide_eq_true_eq, decide_eq_true_eq, List.all_eq_true] at this
    exact vok_str (txW_of this.1.1 this.1.2) fun c hc => by simpa using this.2 c hc
  · simp only [List.mem_cons, List.not_mem_nil, or_false] at hv
    rcases hv with rfl | rfl | rfl | rfl | rfl | rfl | rfl
    · exact vok_oth rg_non (by omega) (by omega) rfl
    · exact vok_oth (rg_int h0) (by omega) (by omega) rfl
    · exact vok_oth (rg_bl true) (by omega) (by omega) rfl
    · exact vok_oth (rg_tup (n := 0) (b := 0) (k := 0) (l := []) (fun v hv => absurd hv List.not_mem_nil) (Nat.le_refl 0)) (by omega) (by omega) rfl
    · exact vok_oth (rg_lst (n := 1) (fun v hv => by rw [List.mem_singleton.mp hv]; exact hs) (Nat.le_refl 1)) (by omega) (by omega) rfl
    · exact ⟨.inr (.inl rfl), .inr ⟨rfl, .inr rfl⟩⟩
    · exact vok_oth (rg_tup (n := 1) (fun v hv => by rw [List.mem_singleton.mp hv]; exact hs) (Nat.le_refl 1)) (by omega) (by omega) rfl
theorem oldV_bd {v : AV} {f : Row} (h : VOk v) (e : oldV v = some f) : Pts f.1 ∧ BdR f := by
  rcases h.d with ⟨z, rfl, hz⟩ | ⟨hs, _⟩
  · exact (told_bd hz.k e).2
  · cases v <;> first | cases e | cases hs
end W
namespace W
open PySem PySem.Spec PyProof.Rows L2 DL SX PL SlX PySem.W
section
variable {P : Program} {w : World} {K : PySem.W.Frag} {mg : Str → Option Value} {base : Heap} {C R U V : Addr}
def cFlat (R : Addr) : Con := fun ds M Φ => ∃ ps n, ds = [fmD R ps n] ∧ Φ (prD ps n) M
theorem ok_flat (F : Fx w K mg) (P1 : Pc P w K mg base R "parts" 1 (cFmGet R fun ps _ => .ptup (ps.map ptD))) (P2 : Pc P w K mg base R "number" 1 (cFmGet R fun _ n => .int n)) : BodyOk P w K mg base "_law_flat" s__law_flat ["_law_form"] 1 2 (cFlat R) := by
  intro f cdv A outer s H E hr ds M Φ hl hc
  obtain ⟨ps, n, rfl, hc⟩ := hc
  exact wss_cons (ws_ret (we_pw (we_tup (wa_cons (we_prop P1 (hr.mono (by omega)) (we_var 0 rfl ⟨_, insF, ps, n, rfl, wa_cons (we_prop P2 (hr.mono (by omega)) (we_var 0 rfl ⟨_, insF, ps, n, rfl, wa_nil ⟨sz2x, _, .tup (.cons (.ptup _) (.cons (.refl _) .nil)), Lets.of hc⟩⟩))⟩))))))
abbrev qR19 : Str := "_law_right.<locals>.<lambda>"
abbrev nRg19 : List Str := ["_law_pot_here", "_law_form", "_law_text", "_law_values", "_law_lap", "_law_near", "_law_words", "_law_word", "_law_value", "_law_due", "_law_caught_here"]
def cRgt19 (T : Addr) : Con := fun ds M Φ => ∃ p a c d, ds = [.ob p] ∧ M p = some (potL a c d) ∧ cOk c ∧ 0 ≤ d ∧ d < 10000 ∧ M T = some (.tbl qR19) ∧ ∀ a' d', d ≤ d' → d' ≤ d + 1000 → Φ (.bl true) (mset M p (potL a' c d'))
def lrB : List Stmt := match ((defBody s__law_right)[7]? : Option Stmt) with
  | some (Stmt.For _ _ b _ _) => b
  | _ => []
theorem ok_right19 {B cd Tb : Addr} (F : Fx w K mg) (TB : LamX.TabB base mg cd Tb) (gB : mg "CrowdError" = some (.ref B)) (E1 : Ek P K mg B "BadText" U) (Tc : Ct K mg "_law_caught" s__law_caught "_law_look") (gF : mg "Form" = some (.ref R))
    (FD : Fc P w K mg base "_law_drawn" [] 3 1 cDrX) (FX : Fc P w K mg base "_law_form_text" [] 1 1 cLfT) (KF : Kc P w K mg base "Form" R [] 4 3 (cFm R)) (PT : Pc P w K mg base R "text" 3 (cFtx R)) (FO : Stcx P w K mg base R "of" 9 1 (cOfX R U)) (FF : Fc P w K mg base "_law_flat" [] 3 1 (cFlat R)) (FB : Fc P w K mg base "_law_bent_text" [] 3 2 cBtT) (FP : Fc P w K mg base "_law_pair_in" [] 4 1 cPair) :
    BodyC P w K mg base "_law_right" s__law_right nRg19 1 12 cd (cRgt19 Tb) := by
  intro f A outer s H EX hg hr ds M Φ hl hc
  obtain ⟨p, a, c, d, rfl, hM, co, d0, d1, hT, hc⟩ := hc
  have nd : nRg19.Nodup := by decide +kernel
  have gR : mg "repr" = none := F.bn _ (by decide +kernel)
  have nT : Tb ≠ p := fun z => by rw [← z, hT] at hM; cases hM
  have tb : ∀ {o : MO}, mset M p o Tb = some (.tbl qR19) := fun {o} => by rw [mset_ne nT]; exact hT
  refine wss_cons (ws_set 1 nd (we_call FD (hr.mono (by decide)) (wa_cons (we_var 0 rfl (wa_nil ⟨rfl, p, a, c, d, rfl, hM, co, d0, by omega, fun ps n a1 e1 hp hn k1 k2 => ?_⟩)))))
  have hpts := hp.pts
  have hbd := hp.bd hn
  have dz := drZ hp hn
  have told := told_T (f := (ps, n)) hpts hbd
  have pw : Pw (.tup [.ptup (ps.map ptD), .int n]) (prD ps n) := .tup (.cons (.ptup _) (.cons (.refl _) .nil))
  have rpf : RpD (prA (ps, n)) := prA_rp (f := (ps, n)) hpts hbd
  have lps : ps.length ≤ 1000 := by have := hp.few; omega
  refine wss_cons (ws_set 2 nd (we_call FX (hr.mono (by decide)) (wa_cons (we_pw (we_var 1 rfl ⟨_, pw, wa_nil ⟨rfl, ps, n, rfl, hbd, ?_⟩⟩)))))
  have vz : VOk (.str (T (ps, n))) := vok_str dz.w dz.asc
  have hv0 := vals0_ok dz.w dz.asc
  -- its text, read back
  refine wss_cons (ws_if (wt_ww (ww_or (wt_neS (we_reprV gR hg hr.units (we_prop PT (hr.mono (by decide)) (we_form KF (hr.mono (by decide)) (wa_cons (we_ix (we_var 1 rfl (we_int ⟨0, _, rfl, ixT (atI_nat (j := 0) rfl), wa_cons (we_ix (we_var 1 rfl (we_int ⟨1, _, rfl, ixT (atI_nat (j := 1) rfl), wa_nil ⟨ps, n, rfl, hpts, lps, _, insF, ps, n, rfl, hbd, .str (T (ps, n)), by rw [avD], vz.r, ?_⟩⟩)))⟩)))))))))))
  refine we_reprV gR hg hr.units (we_var 2 rfl ⟨.str (T (ps, n)), by rw [avD], vz.r, _, rfl, ?_⟩)
  rw [decide_eq_true rfl]
  refine ww_or1 (wt_neS (we_reprV gR hg hr.units (we_call FF (hr.mono (by decide)) (wa_cons (we_statN FO (hr.mono (by decide)) (we_gref gF (fun _ _ _ => .fn _) ⟨rfl, wa_cons (we_var 2 rfl (wa_nil ⟨rfl, .str (T (ps, n)), by rw [avD], vz.vd, .inl ⟨(ps, n), told, wa_nil ⟨rfl, ps, n, rfl, prA (ps, n), (prA_D (ps, n)).symm, rpf, ?_⟩⟩⟩))⟩))))))
  refine we_reprV gR hg hr.units (we_pw (we_var 1 rfl ⟨_, pw, prA (ps, n), (prA_D (ps, n)).symm, rpf, true, (decide_eq_true rfl).symm, ?_⟩))
  refine wss_nil ?_
  generalize hz : T (ps, n) = z at dz hv0 vz
  -- the values
  refine wss_cons (ws_set 3 nd (we_lst (wa_cons (we_str (wa_cons (we_str (wa_cons (we_str (wa_cons (we_str (wa_cons (we_str (wa_cons (we_str (wa_cons (we_str (wa_cons (we_str (wa_cons (we_str (wa_cons (we_str (wa_cons (we_str (wa_cons (we_str (wa_nil ⟨by decide, ?_⟩)))))))))))))))))))))))))))
  refine wss_cons (ws_set 3 nd (we_addL (we_var 3 rfl (we_lst (wa_cons (we_str (wa_cons (we_str (wa_cons (we_str (wa_cons (we_str (wa_cons (we_str (wa_cons (we_str (wa_nil ⟨by decide, _, _, rfl, rfl, by decide, ?_⟩)))))))))))))))))
  refine wss_cons (ws_set 3 nd (we_addLO (we_var 3 rfl (we_lst (wa_cons (we_str (wa_cons (we_non (wa_cons (we_int (wa_cons (we_bl (wa_cons (we_tup (wa_nil ⟨Nat.zero_le _, wa_cons (we_lst (wa_cons (we_var 2 rfl (wa_nil ⟨by show 1 ≤ sizeLine; decide, wa_cons (we_dict0 (wa_cons (we_tup (wa_cons (we_var 2 rfl (wa_nil ⟨by show 1 ≤ sizeLine; decide, wa_nil ⟨by show 8 ≤ sizeLine; decide, _, _, rfl, rfl, by show 18 + 8 ≤ sizeLine; decide, fun q hq => ?_⟩⟩))))))⟩))))⟩)))))))))))))))
  have ev := vals0_D z
  show WSs _ [some (.ob p), some (.tup [.ptup (ps.map ptD), .int n]), some (.str z), some (.ob q), none, none, none, none, none, none, none] (mset (mset M p (potL a1 c e1)) q (.lst ([D.str "", .str "0", .str "-0", .str "00", .str "-1", .str "+ 1", .str "x.people x.rows", .str "1 x.rows", .str "0 x.rows", .str "x.other", .str "x.", .str ".rows"] ++ [D.str "x", .str "2  x.rows", .str "x.rows + x.rows", .str "y.rows + x.rows", .str "x.rows + 0", .str "1 + x.rows"] ++ [D.str "x.rows - -1", .non, .int 0, .bl true, .tup [], .lst [.str z], .dK [], .tup [.str z]]))) ((defBody s__law_right).drop 6) _
  rw [ev]
  have pq : p ≠ q := fun e => by rw [← e, mset_same] at hq; cases hq
  have hq0 : M q = none := by rw [mset_ne (Ne.symm pq)] at hq; exact hq
  refine wss_cons (ws_for PassesOwn.never (wi_range1 (F.bn _ (by decide +kernel)) (wa_cons (we_int (wa_nil ⟨_, rfl, by decide, by decide, ?_⟩)))))
  refine ⟨fun i ρ' M' => ∃ o4 o5 o6 a' e' vs, ρ' = [some (.ob p), some (.tup [.ptup (ps.map ptD), .int n]), some (.str z), some (.ob q), o4, o5, o6, none, none, none, none] ∧ M' = mset (mset M p (potL a' c e')) q (.lst (vs.map avD)) ∧ e1 ≤ e' ∧ e' ≤ e1 + 4 * (i : Nat) ∧ (∀ v ∈ vs, VOk v) ∧ vs.length ≤ 26 + i,
    ⟨none, none, none, a1, e1, vals0 z, rfl, rfl, Int.le_refl _, by omega, hv0, by show 26 ≤ _; omega⟩, ?_, ?_⟩
  · rintro i x ρ' M' hx ⟨o4, o5, o6, a', e', vs, rfl, rfl, l1, l2, hvs, lvs⟩
    obtain ⟨hi, rfl⟩ := rngD_get hx
    have hi : i < 16 := hi
    refine wg_name 4 ?_ nd
    have zlen := dz.w.len
    refine wss_cons (ws_set 5 nd (we_call FB (hr.mono (by decide)) (wa_cons (we_var 0 rfl (wa_cons (we_var 2 rfl (wa_nil ⟨rfl, p, z, a', c, e', rfl, dz.pos, by omega, dz.b, dz.asc, by rw [mset_ne pq]; exact mset_same, co, by omega, by omega, fun y a2 e2 hb k3 k4 => ?_⟩)))))))
    rw [msetComm pq, mset_mset]
    have ly : y.length ≤ 20000 := hb.le
    have lw : (Txt.split y " ").length ≤ 19 := by rw [split_b, List.length_map, spx_len]; have := hb.few; omega
    have wasc : ∀ u ∈ Txt.split y " ", ∀ c ∈ TL.tl u, c < 128 := fun u hu c hc => by
      rw [split_b] at hu
      obtain ⟨r, hr0, rfl⟩ := List.mem_map.mp hu
      have h := joinL_mem (S := [32]) hr0 hc
      rw [spx_join] at h
      exact hb.asc c h
    have wlen : ∀ u ∈ Txt.split y " ", u.length ≤ 20000 := fun u hu => by
      rw [split_b] at hu
      obtain ⟨r, hr0, rfl⟩ := List.mem_map.mp hu
      have := spx_sub _ _ r hr0
      rw [List.length_nil, ← TL.len_tl] at this
      rw [S_len]; omega
    refine wss_cons (ws_setLc 6 nd (blkOk_by (N := nRg19) (sc := defScope s__law_right) (own := [("_law_word", 7)]) (by decide +kernel)) (fun _ _ _ _ _ => pg_name (i := 7) nd rfl (Or.inl rfl)) (gt_name (by decide)) pt_blk tk_one (wi_list (we_split (we_var 5 rfl ⟨_, rfl, we_str ⟨_, rfl, by decide +kernel, by rw [sizeLine_eq]; omega, _, .inl rfl, ?_⟩⟩))) rfl)
    have hsp : ∀ {vv : List Str}, vv = Txt.split y " " → (vv.filter (fun u => decide (40 < u.length)) = [] → TxW y) := fun {vv} e he => by
      subst e
      exact txW_bt hb fun u hu => by
        have := List.filter_eq_nil_iff.mp he u hu
        simpa using this
    generalize Txt.split y " " = ws at lw wasc wlen hsp ⊢
    have hsp := hsp rfl
    refine ⟨by rw [List.length_map, sizeLine_eq]; omega, fun j acc M2 => M2 = mset (mset M p (potL a2 c e2)) q (.lst (vs.map avD)) ∧ acc = ((ws.take j).filter (fun u => decide (40 < u.length))).map D.str, ⟨rfl, rfl⟩, ?_, ?_⟩
    · rintro j x acc M2 hx2 ⟨rfl, rfl⟩
      rw [List.getElem?_map] at hx2
      obtain ⟨u, hu, rfl⟩ := Option.map_eq_some_iff.mp hx2
      have lu := wlen u (List.mem_of_getElem? hu)
      intro s1 H1 C' cl fp
      refine wt_gtI (we_len (F.bn _ (by decide +kernel)) (we_var 7 rfl ⟨_, lenS (by rw [sizeLine_eq]; omega), we_int ⟨_, _, rfl, rfl, ?_⟩⟩))
      by_cases h40 : 40 < u.length
      · rw [decide_eq_true (show (40 : Int) < (u.length : Nat) by omega), if_pos rfl]
        intro s1 H1 C' cl fp
        exact we_var 7 rfl ⟨rfl, by rw [filt_snocG hu, if_pos (decide_eq_true h40), List.map_append]; rfl⟩
      · rw [decide_eq_false (show ¬ (40 : Int) < (u.length : Nat) by omega), if_neg (by decide)]
        exact ⟨rfl, by rw [filt_snocG hu, if_neg (by simpa using h40), List.append_nil]⟩
    rintro acc M2 ⟨rfl, rfl⟩
    rw [List.length_map, List.take_length]
    have happ : ∀ v : AV, VOk v → ∃ (o4 o5 o6 : Option D) (a' e' : Int) (vs' : List AV), ([some (.ob p), some (.tup [.ptup (ps.map ptD), .int n]), some (.str z), some (.ob q), some (.int (0 + (i : Nat))), some (.str y), some (.lst ((ws.filter (fun u => decide (40 < u.length))).map D.str)), none, none, none, none] : Rho) = [some (.ob p), some (.tup [.ptup (ps.map ptD), .int n]), some (.str z), some (.ob q), o4, o5, o6, none, none, none, none] ∧ mset (mset M p (potL a2 c e2)) q (.lst (vs.map avD ++ [avD v])) = mset (mset M p (potL a' c e')) q (.lst (vs'.map avD)) ∧ e1 ≤ e' ∧ e' ≤ e1 + 4 * ((i + 1 : Nat) : Int) ∧ (∀ v ∈ vs', VOk v) ∧ vs'.length ≤ 26 + (i + 1) := fun v hv =>
      ⟨_, _, _, a2, e2, vs ++ [v], rfl, by rw [List.map_append]; rfl, by omega, by omega, fun u hu => (List.mem_append.mp hu).elim (hvs u) fun hu => by rw [List.mem_singleton.mp hu]; exact hv, by rw [List.length_append, List.length_singleton]; omega⟩
    refine wss_cons (ws_expr (we_append (we_var 3 rfl ⟨q, _, rfl, mset_same, we_if (wt_neNil hr.units (we_var 6 rfl ⟨_, (ws.filter (fun u => decide (40 < u.length))).map PyData.str, 1, rfl, cmps_map (Nat.le_succ 0) fun x hx => cmp_str fun c hc => Nat.lt_trans (wasc x (List.mem_filter.mp hx).1 c hc) (by decide), by decide, ?_⟩))⟩)))
    cases hfl : ws.filter (fun u => decide (40 < u.length)) with
    | nil =>
      rw [hfl] at happ
      have hv := happ (.str y) (vok_str (hsp hfl) hb.asc)
      rw [avD] at hv
      refine we_var 5 rfl ⟨_, mset_same, by rw [List.length_map, sizeLine_eq]; omega, ?_⟩
      rw [mset_mset]
      exact wss_nil hv
    | cons u r =>
      rw [hfl] at happ
      have hv := happ (.str z) vz
      rw [avD] at hv
      refine we_var 2 rfl ⟨_, mset_same, by rw [List.length_map, sizeLine_eq]; omega, ?_⟩
      rw [mset_mset]
      exact wss_nil hv
  rintro ρ' M' ⟨o4, o5, o6, a', e', vs, rfl, rfl, l1, l2, hvs, lvs⟩
  rw [rngD_len] at l2 lvs
  refine wss_fz (i := 3) rfl mset_same ?_
  rw [mdel_mset (by rw [mset_ne (Ne.symm pq)]; exact hq0)]
  refine wss_cons (ws_for PassesOwn.never (wi_list (we_var 3 rfl ⟨_, .inl rfl, ?_⟩)))
  refine ⟨fun i ρ' M' => ∃ o8 o9 o10, ρ' = [some (.ob p), some (.tup [.ptup (ps.map ptD), .int n]), some (.str z), some (.lst (vs.map avD)), o4, o5, o6, none, o8, o9, o10] ∧ M' = mset M p (potL a' c e'), ⟨none, none, none, rfl, rfl⟩, ?_, ?_⟩
  · rintro i x ρ' M' hx ⟨o8, o9, o10, rfl, rfl⟩
    rw [List.getElem?_map] at hx
    obtain ⟨v, hv, rfl⟩ := Option.map_eq_some_iff.mp hx
    have ok := hvs v (List.mem_of_getElem? hv)
    have ro := ok.r
    refine wg_name 8 ?_ nd
    let RR : Rho → Prop := fun ρ => ρ[8]? = some (some (avD v))
    have next : ∀ Ψ : DE, (∀ o10, Ψ.nx [some (.ob p), some (.tup [.ptup (ps.map ptD), .int n]), some (.str z), some (.lst (vs.map avD)), o4, o5, o6, none, some (avD v), some (oPr (oldV v)), o10] (mset M p (potL a' c e'))) → WSs (bx P w K mg base nRg19 "_law_right" (defScope s__law_right) f (.ref cd) A outer s H EX) [some (.ob p), some (.tup [.ptup (ps.map ptD), .int n]), some (.str z), some (.lst (vs.map avD)), o4, o5, o6, none, some (avD v), some (oPr (oldV v)), o10] (mset M p (potL a' c e')) (lrB.drop 1) Ψ := by
      intro Ψ hnx
      cases ho : oldV v with
      | none =>
        rw [ho] at hnx
        refine wss_cons (ws_set 10 nd (we_ctL E1 Tc gB (hr.mono (by decide)) (we_lamL (k := 9) (U := U) (ok := false) (v := avD v) RR TB tb rfl rfl (hfree_of (by rfl)) (LamX.lamS_by (by rfl)) ?l1 fun x1 hx1 => ⟨hx1, rfl, ?_⟩)))
        case l1 =>
          rintro ρ M1 r0 f c' A outer s H0 E hr2
          exact wex_stat FO (hr2.mono (by decide)) (we_gref gF (fun _ _ _ => .fn _) ⟨rfl, wa_cons (we_var 8 r0 (wa_nil ⟨rfl, v, rfl, ok.vd, .inr ⟨ho, rfl, rfl, rfl, rfl⟩⟩))⟩)
        refine wss_cons (ws_if (wt_isN (we_var 9 rfl ?_)))
        refine wss_cons (ws_if (wt_ww (ww_or (wt_not (wt_val (we_isCt (ok := false) (v := avD v) E1 (F.bn _ (by decide +kernel)) (we_var 10 rfl ⟨rfl, we_gref E1.at_ (fun _ _ _ => .fn _) ⟨rfl, true, rfl, ?_⟩⟩)))))))
        refine ww_or1 (wt_neS (we_reprV gR hg hr.units (we_valX (we_var 10 rfl ⟨U, _, avD v, rfl, E1.ev, E1.ev.noV, by simp [List.lookup], v, rfl, ro, we_reprV gR hg hr.units (we_var 8 rfl ⟨v, rfl, ro, true, (decide_eq_true rfl).symm, ?_⟩)⟩))))
        exact wss_nil (wss_nil (wss_nil (hnx _)))
      | some fo =>
        rw [ho] at hnx
        obtain ⟨hp2, hb2⟩ := oldV_bd ok ho
        have rp2 := prA_rp hp2 hb2
        refine wss_cons (ws_set 10 nd (we_ctL E1 Tc gB (hr.mono (by decide)) (we_lamL (k := 9) (U := U) (ok := true) (v := .non) RR TB tb rfl rfl (hfree_of (by rfl)) (LamX.lamS_by (by rfl)) ?l2 fun x1 hx1 => ⟨hx1, rfl, ?_⟩)))
        case l2 =>
          rintro ρ M1 r0 f c' A outer s H0 E hr2
          exact wex_stat FO (hr2.mono (by decide)) (we_gref gF (fun _ _ _ => .fn _) ⟨rfl, wa_cons (we_var 8 r0 (wa_nil ⟨rfl, v, rfl, ok.vd, .inl ⟨fo, ho, rfl, rfl⟩⟩))⟩)
        refine wss_cons (ws_if (wt_isN (we_var 9 rfl ?_)))
        refine wss_cons (ws_if (wt_ww (ww_or (wt_notN (we_var 10 rfl ?_)))))
        refine ww_or1 (wt_neS (we_reprV gR hg hr.units (we_call FF (hr.mono (by decide)) (wa_cons (we_statN FO (hr.mono (by decide)) (we_gref gF (fun _ _ _ => .fn _) ⟨rfl, wa_cons (we_var 8 rfl (wa_nil ⟨rfl, v, rfl, ok.vd, .inl ⟨fo, ho, wa_nil ⟨rfl, fo.1, fo.2, rfl, prA fo, (prA_D _).symm, rp2, ?_⟩⟩⟩))⟩))))))
        refine we_reprV gR hg hr.units (we_var 9 rfl ⟨prA fo, (prA_D _).symm, rp2, true, (decide_eq_true rfl).symm, ?_⟩)
        exact wss_nil (wss_nil (wss_nil (hnx _)))
    refine wss_cons (ws_set 9 nd (we_if (wt_val (we_isi (F.bn _ (by decide +kernel)) (we_var 8 rfl (we_bty (F.bn _ (by decide +kernel)) rfl ⟨_, _, _, avTy _ v, rfl, (by intro C h; cases h), kit_str v, _, rfl, ?_⟩))))))
    cases hs : isS v with
    | true =>
      obtain ⟨y, rfl⟩ : ∃ y, v = .str y := by cases v <;> first | exact ⟨_, rfl⟩ | cases hs
      have tw : TxW y := by
        rcases ok.d with ⟨y', e, h⟩ | ⟨h, _⟩
        · injection e with e; rw [e]; exact h
        · cases h
      exact we_call FP (hr.mono (by decide)) (wa_cons (we_var 8 (by rw [avD]; rfl) (wa_nil ⟨rfl, y, rfl, tw, next _ fun o => ⟨_, _, _, rfl, rfl⟩⟩)))
    | false =>
      have e : oPr (oldV v) = .non := by cases v <;> first | rfl | cases hs
      rw [e] at next
      exact we_non (next _ fun o => ⟨_, _, _, rfl, rfl⟩)
  · rintro ρ' M' ⟨o8, o9, o10, rfl, rfl⟩
    refine wss_cons (ws_ret (we_bl (Lets.of (hc a' e' (by omega) ?_))))
    have : e' ≤ e1 + 4 * 16 := l2
    omega
end
end W
namespace W
open PySem PySem.Spec PyProof.Rows L2 DL SX PL SlX
section
variable {P : Program} {w : World} {K : PySem.W.Frag} {mg : Str → Option Value} {base : Heap} {C R U V : Addr}
def cLaw (T : Addr) : Con := fun ds M Φ => ∃ ns, ds = [scrD ns] ∧ M T = some (.tbl qR19) ∧ ∀ M', Φ (.bl true) M'
abbrev nLaw : List Str := ["_law_script", "_law_pot_here"]
theorem ok_law19 {T : Addr} (F : Fx w K mg) (F1 : Fc P w K mg base "_law_pots" [] 2 2 cPots) (F2 : Gc P w K mg base "_law_right" 13 1 (cRgt19 T)) : BodyG P w K mg base "law" s_law nLaw 1 13 (cLaw T) := by
  intro f cdv A outer s H E hgd hr ds M Φ hl hc
  obtain ⟨ns, rfl, hT, hc⟩ := hc
  have nd : nLaw.Nodup := by decide +kernel
  refine wss_cons (ws_ret (we_all (F.bn _ (by decide +kernel)) (we_lc nd (blkOk_by (N := nLaw) (sc := defScope s_law) (own := [("_law_pot_here", 1)]) (by decide +kernel)) (fun _ _ _ _ _ => pg_name (i := 1) nd rfl (Or.inl rfl)) (gt_name (by decide)) (fun _ _ _ _ _ => pts_nil) tk_nil (wi_list (we_call F1 (hr.mono (by decide)) (wa_cons (we_var 0 rfl (wa_cons (we_int (wa_nil ⟨rfl, ns, 6, rfl, by decide, by decide, fun qs M1 hF hql => ⟨_, .inl rfl, ?_⟩⟩))))))))))
  have nTq : T ∉ qs := fun h => by have := hF.new T h; rw [hT] at this; cases this
  refine ⟨by rw [List.length_map, sizeLine_eq]; omega, fun i acc M2 => acc = (List.replicate i true).map D.bl ∧ M2 T = some (.tbl qR19) ∧ ∀ j q, i ≤ j → qs[j]? = some q → ∃ a c, M2 q = some (potL a c 0) ∧ cOk c, ⟨rfl, by rw [hF.out T nTq]; exact hT, fun j q _ hq => hF.pot q (List.mem_of_getElem? hq)⟩, ?_, ?_⟩
  · rintro i x acc M2 hx ⟨rfl, hT2, hq2⟩
    rw [List.getElem?_map] at hx
    obtain ⟨q, hq, rfl⟩ := Option.map_eq_some_iff.mp hx
    obtain ⟨a, c, hqM, co⟩ := hq2 i q (Nat.le_refl _) hq
    intro s1 H1 C' cl fp
    have nq : T ≠ q := fun z => by rw [z, hqM] at hT2; cases hT2
    refine we_callG F2 hgd (hr.mono (by decide)) (wa_cons (we_var 1 rfl (wa_nil ⟨rfl, q, a, c, 0, rfl, hqM, co, by decide, by decide, hT2, fun a' d' k1 k2 => ⟨by rw [List.replicate_succ', List.map_append]; rfl, by rw [mset_ne nq]; exact hT2, fun j z hj hz => ?_⟩⟩)))
    have nz : z ≠ q := fun e => by
      rw [e] at hz
      have hi := (List.getElem?_eq_some_iff.mp hq)
      have hj2 := (List.getElem?_eq_some_iff.mp hz)
      obtain ⟨h1, g1⟩ := hi
      obtain ⟨h2, g2⟩ := hj2
      exact absurd (g1.trans g2.symm) (List.pairwise_iff_getElem.mp hF.nd i j h1 h2 (by omega))
    rw [mset_ne nz]
    exact hq2 j z (by omega) hz
  · rintro acc M2 ⟨rfl, hT2, hq2⟩
    refine ⟨_, rfl, ?_⟩
    rw [List.all_eq_true.mpr fun b hb => by rw [List.eq_of_mem_replicate hb]; rfl]
    exact Lets.of (hc _)
end
end W
namespace DL
open PySem PySem.Spec PyProof.Rows L2
theorem Md.stx {P : Program} {w : World} {K : PySem.W.Frag} {mg : Str → Option Value} {base : Heap} {qual : Str} {st : Stmt} {N ps : List Str} {k : Nat} {c : ConX} {C : Addr} {m : Str} {f p : Addr} {mc : Value} (D : Md K C m qual st f) (r : ClX.CRead K C mc) (cs : CStat K C mc m p f) (S : FnScope N ps (defScope st))
    (hb : ∀ (kV doc pm : Value) (an : Option Addr) (cdv ct : Value) (us : List Value), us.length = ps.length → bindArgs (PySem.W.fnOf m qual (defArgs st) (defBody st) (defScope st) .none kV doc pm an cdv ct) ⟨us, []⟩ = pure (ps.zip us))
    (h : BodyX P w K mg base qual st N ps.length k c) : Stcx P w K mg base C m (k + 1) ps.length c := by
  obtain ⟨fd, F⟩ := D.ex
  exact ⟨mc, p, f, fd, ps, r, cs, fnX_ok F S h, F.bindsN hb⟩
end DL
namespace DL
open PySem PySem.Spec PyProof.Rows L2
section
variable {P : Program} {w : World} {K : PySem.W.Frag} {mg : Str → Option Value} {base : Heap} {x qual : Str} {st : Stmt} {N ps : List Str} {k : Nat} {c : Con} {cx : ConX} {dd : List D} {dvs : List V} {C f : Addr} {fd : FuncData}
theorem kcD (F : FunD K "__init__" qual (defArgs st) (defBody st) (defScope st) dvs [] f fd) (hm : mg x = some (.ref C)) (me : Mk K C f) (S : FnScope N ps (defScope st)) (nn jj : Nat) (hd : dvs ≠ []) (hn : nn + (dvs.length - jj) = ps.length) (hr : ∀ M Z H, Reps K M Z H (dvs.drop jj) dd)
    (hb : ∀ (T : Addr) (kV doc pm : Value) (an : Option Addr) (cdv ct : Value) (us its : List Value), us.length = nn → its.length = dvs.length →
      ∃ k, bindArgs (PySem.W.fnOf "__init__" qual (defArgs st) (defBody st) (defScope st) (.ref T) kV doc pm an cdv ct) ⟨us, []⟩ = seqItems? (.ref T) >>= k ∧ k (some its.toArray) = pure (ps.zip (us ++ its.drop jj)))
    (h : BodyOk P w K mg base qual st N ps.length k c) : Kc P w K mg base x C dd (k + 1) ps.length c := by
  obtain ⟨ds, hv, hB⟩ := F.binds1 (ps := ps) nn jj hd hn hb
  exact ⟨hm, f, fd, ps, dvs.drop jj, ds, fn_ok F S (h f), me, hB, hv, hr⟩
end
end DL
namespace W
open PySem PySem.Spec PyProof.Rows L2 DL He HK
section
variable {P : Program} {w : World} {K : PySem.W.Frag} {mg : Str → Option Value} {base h : Heap}
theorem mkFx (X : K.In h) (G : h.Ns mainGlobals mg) (c : Says spec w K) : Fx w K mg where
  bn := fun x hx => free_ok X G (c.fa (mem_bn hx))
theorem mkDf (X : K.In h) (G : h.Ns mainGlobals mg) (c : Says spec w K) (i : Nat) {x : Str} {st : Stmt} (hd : dds[i]? = some (gl x st)) (hx : x ∈ globsA) : Df K mg x st [] :=
  let ⟨fd, F⟩ := c.dd i hd
  ⟨_, fd, F, glo_ok X G (c.fa (mem_glo hx))⟩
theorem mkFo (X : K.In h) (G : h.Ns mainGlobals mg) (c : Says spec w K) : Fo K mg (ga K "Form") where
  at_ := glo_ok X G (c.fa (f := .glo "Form") (mem_glo (by decide +kernel)))
  cl := cls_ok (c.fa (f := .cls "Form") (mem_co 10 rfl))
  na := fun f hf => by
    rcases List.mem_cons.mp hf with rfl | hf
    · exact noat_ok (c.fa (f := .noat "Form" "own_parts") (mem_co 11 rfl))
    rw [List.mem_singleton.mp hf]; exact noat_ok (c.fa (f := .noat "Form" "own_number") (mem_co 12 rfl))
theorem shX : XL.Shape (defArgs s_CrowdError___init__) (defBody s_CrowdError___init__) (defScope s_CrowdError___init__) where
  args := ⟨_, _, rfl⟩
  body := ⟨_, _, _, _, _, _, _, _, _, _, rfl, fun _ _ _ _ _ => ⟨_, rfl⟩⟩
  kind := rfl
  co := rfl
  gen := rfl
  cellless := by decide +kernel
  self := by rfl
  value := by rfl
  cls := fun _ _ _ _ _ => rfl
  sup := fun _ _ _ _ _ => rfl
  inter := fun _ _ _ _ _ => rfl
  kself := fun _ _ _ _ _ => rfl
  kvalue := fun _ _ _ _ _ => rfl
theorem mkEk (X : K.In h) (G : h.Ns mainGlobals mg) (c : Says spec w K) (hf : (P.main.file == "/claim/cut.py") = true) (hs : (P.main.scope.names.lookup ("super" : Str)).isSome = false) {x : Str} (hx : x ∈ spec.er) (hg : x ∈ globsA) : Ek P K mg (ga K "CrowdError") x (ga K x) := by
  have hm := glo_ok X G (c.fa (f := .glo x) (mem_glo hg))
  obtain ⟨a, b, d, e⟩ := c.err (P := P) (mg := mg) (file := "/claim/cut.py") (st := s_CrowdError___init__) rfl shX hf hs (free_ok X G (c.fa (f := .free "super") (mem_co 8 rfl))) hx hm
  exact ⟨a, b, hm, e, d⟩
theorem mkDc (X : K.In h) (G : h.Ns mainGlobals mg) (c : Says spec w K) (i : Nat) {x : Str} {st : Stmt} {p : Addr × Addr} (hd : dds[i]? = some (gl x st)) (hg : mg x = some (.ref (ga K x))) (ht : PySem.W.tabIn K x = some p) : Dc K mg x st p.1 := by
  obtain ⟨fd, F⟩ := c.dd i hd
  obtain ⟨oc, od, dV, kV, doc, pm, an, cdv, ct, osl, e, lk, r⟩ := F.ex
  exact ⟨_, fd, F, hg, PySem.W.law_code X G ht hg (X _ _ lk) rfl⟩
theorem chain {B U_BadText c1 T1 : Addr} {f : Addr} {fd : FuncData} (F : Fx w K mg) {RF : Addr} (XR : Fo K mg RF) (gP : ∃ t, mg "PAIR" = some (.int 2 t)) (gML : ∃ t, mg "MOST_LETTERS" = some (.int 8 t)) (gLE : ∃ t, mg "LETTERS" = some (.str "abcdefghijklmnopqrstuvwxyz" t)) (gDo : ∃ t, mg "DOT" = some (.str "." t)) (gMi : ∃ t, mg "MINUS" = some (.str "-" t)) (gPl : ∃ t, mg "PLUS" = some (.str "+" t)) (gBl : ∃ t, mg "BLANK" = some (.str " " t)) (gFi : ∃ t, mg "FIGURES" = some (.str "0123456789" t)) {aWo : Addr} (gWo : mg "WORDS" = some (.ref aWo)) (rW : ∀ M Z H, Rep K M Z H (.ref aWo) (.tup (wordsL.map DL.D.str))) {aE : Addr} (XI : ∃ f, L2.Mk K RF f ∧ ∃ fd : FuncData, FunD K "__init__" "Form.__init__" (defArgs s_Form___init__) (defBody s_Form___init__) (defScope s_Form___init__) [V.ref aE, V.int 0] [] f fd) (rE : ∀ M Z H, Rep K M Z H (.ref aE) (.ptup [])) {pOf aOf : Addr} (XOf : ClX.CRead K RF (.type "type") ∧ CStat K RF (.type "type") "of" pOf aOf) (DOf : Md K RF "of" "Form.of" s_Form_of aOf) (XE : PySem.W.selfFirst K RF = true ∧ OwnC K RF ∧ PySem.W.findIn K (.ref RF) "__ne__" = some (some (.builtin "object.__ne__"))) (H_eq : ∃ f, Meth K RF "__eq__" f ∧ Md K RF "__eq__" "Form.__eq__" s_Form___eq__ f) (H_add : ∃ f, Meth K RF "__add__" f ∧ Md K RF "__add__" "Form.__add__" s_Form___add__ f) (H_sub : ∃ f, Meth K RF "__sub__" f ∧ Md K RF "__sub__" "Form.__sub__" s_Form___sub__ f) (P_parts : ∃ p f, PropOf K RF "parts" p f ∧ Md K RF "parts" "Form.parts" s_Form_parts f) (P_number : ∃ p f, PropOf K RF "number" p f ∧ Md K RF "number" "Form.number" s_Form_number f) (P_text : ∃ p f, PropOf K RF "text" p f ∧ Md K RF "text" "Form.text" s_Form_text f) (gB : mg "CrowdError" = some (.ref B)) (E_BadText : Ek P K mg B "BadText" U_BadText) (hkI : PySem.W.kitOne K (.ref RF) (.type "int") = some false) (D__law_right : Dc K mg "_law_right" s__law_right c1) (TB__law_right : LamX.TabB base mg c1 T1) (DI : Df K mg "is_integer" s_is_integer [.non, .non]) (D : ∀ (i : Nat) {x : Str} {st : Stmt}, dds[i]? = some (gl x st) → x ∈ globsA → Df K mg x st [])
    (L : FunD K "law" "law" (defArgs s_law) (defBody s_law) (defScope s_law) [] [] f fd) : FnG P w K mg base 14 f fd ["_law_script"] (spD K 1 (cLaw T1)) := by
  have FI1 : Fc P w K mg base "is_integer" [.non, .non] 1 3 (cInt1) := DI.fcD (N := ["value", "low", "high"]) (ps := ["value", "low", "high"]) ⟨rfl, rfl, rfl, by decide +kernel, rfl, by decide +kernel, by decide +kernel⟩ 1 0 (by simp) rfl (fun _ _ _ => .cons .non (.cons .non .nil)) (fun _ _ _ _ _ _ _ us its h1 h2 => match us, its, h1, h2 with | [_], [_, _], _, _ => ⟨_, rfl, rfl⟩) (ok_int1 F)
  obtain ⟨XS, XO, _⟩ := XE
  have FIF : Fc P w K mg base "is_integer" [.non, .non] 1 3 (cIntF RF) := DI.fcD (N := ["value", "low", "high"]) (ps := ["value", "low", "high"]) ⟨rfl, rfl, rfl, by decide +kernel, rfl, by decide +kernel, by decide +kernel⟩ 1 0 (by simp) rfl (fun _ _ _ => .cons .non (.cons .non .nil)) (fun _ _ _ _ _ _ _ us its h1 h2 => match us, its, h1, h2 with | [_], [_, _], _, _ => ⟨_, rfl, rfl⟩) (ok_int_f F XO hkI)
  have fTk : Fc P w K mg base "_law_take" [] 1 2 (cTake) := (D 8 rfl (by decide +kernel)).fc (N := nTake) (ps := ["_law_pot_here", "_law_upto"]) ⟨rfl, rfl, rfl, by decide +kernel, rfl, by decide +kernel, by decide +kernel⟩ (fun _ _ _ _ _ _ us hl => match us, hl with | [_, _], _ => rfl) (ok_take F)
  have fOf : Fc P w K mg base "_law_of" [] 2 2 (cOf) := (D 9 rfl (by decide +kernel)).fc (N := ["_law_pot_here", "_law_some"]) (ps := ["_law_pot_here", "_law_some"]) ⟨rfl, rfl, rfl, by decide +kernel, rfl, by decide +kernel, by decide +kernel⟩ (fun _ _ _ _ _ _ us hl => match us, hl with | [_, _], _ => rfl) (ok_of F fTk)
  have fPot : Fc P w K mg base "_law_pot" [] 1 2 (cPotH) := (D 10 rfl (by decide +kernel)).fc (N := nPotH) (ps := ["_law_script", "_law_k"]) ⟨rfl, rfl, rfl, by decide +kernel, rfl, by decide +kernel, by decide +kernel⟩ (fun _ _ _ _ _ _ us hl => match us, hl with | [_, _], _ => rfl) (ok_potH F)
  have fPs : Fc P w K mg base "_law_pots" [] 2 2 (cPots) := (D 11 rfl (by decide +kernel)).fc (N := nPots) (ps := ["_law_script", "_law_limit"]) ⟨rfl, rfl, rfl, by decide +kernel, rfl, by decide +kernel, by decide +kernel⟩ (fun _ _ _ _ _ _ us hl => match us, hl with | [_, _], _ => rfl) (ok_pots F fPot)
  have fIt : Fc P w K mg base "is_tuple" [] 1 2 (cTupA) := (D 12 rfl (by decide +kernel)).fc (N := ["value", "many"]) (ps := ["value", "many"]) ⟨rfl, rfl, rfl, by decide +kernel, rfl, by decide +kernel, by decide +kernel⟩ (fun _ _ _ _ _ _ us hl => match us, hl with | [_, _], _ => rfl) (ok_tup_a F)
  have fNa : Fc P w K mg base "is_name" [] 1 1 (cNameA) := (D 13 rfl (by decide +kernel)).fc (N := ["value", "letter"]) (ps := ["value"]) ⟨rfl, rfl, rfl, by decide +kernel, rfl, by decide +kernel, by decide +kernel⟩ (fun _ _ _ _ _ _ us hl => match us, hl with | [_], _ => rfl) (ok_name_a F gLE gML)
  have fWd : Fc P w K mg base "is_word" [] 1 2 (cWordA) := (D 14 rfl (by decide +kernel)).fc (N := ["value", "words"]) (ps := ["value", "words"]) ⟨rfl, rfl, rfl, by decide +kernel, rfl, by decide +kernel, by decide +kernel⟩ (fun _ _ _ _ _ _ us hl => match us, hl with | [_, _], _ => rfl) (ok_word_a F)
  have fMk : Fc P w K mg base "is_mark" [] 2 1 (cMarkA) := (D 15 rfl (by decide +kernel)).fc (N := ["value"]) (ps := ["value"]) ⟨rfl, rfl, rfl, by decide +kernel, rfl, by decide +kernel, by decide +kernel⟩ (fun _ _ _ _ _ _ us hl => match us, hl with | [_], _ => rfl) (ok_mark_a F gP gWo rW fIt fNa fWd)
  have fAs : Fc P w K mg base "do_ascend" [] 1 1 (cAscM) := (D 16 rfl (by decide +kernel)).fc (N := nAscend) (ps := ["values"]) ⟨rfl, rfl, rfl, by decide +kernel, rfl, by decide +kernel, by decide +kernel⟩ (fun _ _ _ _ _ _ us hl => match us, hl with | [_], _ => rfl) (ok_asc_m F)
  have fPa : Fc P w K mg base "are_parts" [] 3 1 (cPartsA) := (D 17 rfl (by decide +kernel)).fc (N := nAreP) (ps := ["value"]) ⟨rfl, rfl, rfl, by decide +kernel, rfl, by decide +kernel, by decide +kernel⟩ (fun _ _ _ _ _ _ us hl => match us, hl with | [_], _ => rfl) (ok_parts_a F gP fIt fMk FI1 fAs)
  obtain ⟨XIf, XIm, XIx, XId⟩ := XI
  have kF : Kc P w K mg base "Form" RF [] 4 3 (cFm RF) := kcD (x := "Form") XId XR.at_ XIm (N := nFm) (ps := nFm) ⟨rfl, rfl, rfl, by decide +kernel, rfl, by decide +kernel, by decide +kernel⟩ 3 2 (by simp) rfl (fun _ _ _ => .nil) (fun _ _ _ _ _ _ _ us its h1 h2 => match us, its, h1, h2 with | [_, _, _], [_, _], _, _ => ⟨_, rfl, rfl⟩) (ok_fm F XR fPa FI1)
  have kFN : Kc P w K mg base "Form" RF [.ptup [], .int 0] 4 3 (cFm RF) := kcD (x := "Form") XId XR.at_ XIm (N := nFm) (ps := nFm) ⟨rfl, rfl, rfl, by decide +kernel, rfl, by decide +kernel, by decide +kernel⟩ 1 0 (by simp) rfl (fun _ _ _ => .cons (rE _ _ _) (.cons (.int 0) .nil)) (fun _ _ _ _ _ _ _ us its h1 h2 => match us, its, h1, h2 with | [_], [_, _], _, _ => ⟨_, rfl, rfl⟩) (ok_fm F XR fPa FI1)
  obtain ⟨pPp, pPg, pPpr, pPm⟩ := P_parts
  have pP : Pc P w K mg base RF "parts" 1 (cFmGet RF fun ps _ => .ptup (ps.map ptD)) := pPm.pc XR.cl pPpr (N := ["self"]) ⟨rfl, rfl, rfl, by decide +kernel, rfl, by decide +kernel, by decide +kernel⟩ (fun _ _ _ _ _ _ us hl => match us, hl with | [_], _ => rfl) (ok_fm_parts XR)
  obtain ⟨pNp, pNg, pNpr, pNm⟩ := P_number
  have pN : Pc P w K mg base RF "number" 1 (cFmGet RF fun _ n => .int n) := pNm.pc XR.cl pNpr (N := ["self"]) ⟨rfl, rfl, rfl, by decide +kernel, rfl, by decide +kernel, by decide +kernel⟩ (fun _ _ _ _ _ _ us hl => match us, hl with | [_], _ => rfl) (ok_fm_number XR)
  obtain ⟨h_eqf, h_eqm, h_eqd⟩ := H_eq
  obtain ⟨h_addf, h_addm, h_addd⟩ := H_add
  obtain ⟨h_subf, h_subm, h_subd⟩ := H_sub
  have fTt : Fc P w K mg base "term_text" [] 1 2 (cTT) := (D 18 rfl (by decide +kernel)).fc (N := nTT) (ps := ["many", "mark"]) ⟨rfl, rfl, rfl, by decide +kernel, rfl, by decide +kernel, by decide +kernel⟩ (fun _ _ _ _ _ _ us hl => match us, hl with | [_, _], _ => rfl) (ok_term_text gDo)
  obtain ⟨pTp, pTg, pTpr, pTm⟩ := P_text
  have pT : Pc P w K mg base RF "text" 3 (cFtx RF) := pTm.pc XR.cl pTpr (N := nFt) ⟨rfl, rfl, rfl, by decide +kernel, rfl, by decide +kernel, by decide +kernel⟩ (fun _ _ _ _ _ _ us hl => match us, hl with | [_], _ => rfl) (ok_form_text F gMi gPl gBl pP pN fTt)
  have fPt : Fc P w K mg base "put_together" [] 6 3 (cPut RF) := (D 19 rfl (by decide +kernel)).fc (N := nPut) (ps := ["one", "other", "times"]) ⟨rfl, rfl, rfl, by decide +kernel, rfl, by decide +kernel, by decide +kernel⟩ (fun _ _ _ _ _ _ us hl => match us, hl with | [_, _, _], _ => rfl) (ok_put F pP pN kF)
  have mAF : Mc P w K mg base RF "__add__" [] 7 2 (cShF RF 1) := h_addd.mc XR.cl h_addm (N := nSO) (ps := ["self", "other"]) ⟨rfl, rfl, rfl, by decide +kernel, rfl, by decide +kernel, by decide +kernel⟩ (fun _ _ _ _ _ _ us hl => match us, hl with | [_, _], _ => rfl) (ok_add_f F XR XO FIF fPt)
  have mSF : Mc P w K mg base RF "__sub__" [] 7 2 (cShF RF (-1)) := h_subd.mc XR.cl h_subm (N := nSO) (ps := ["self", "other"]) ⟨rfl, rfl, rfl, by decide +kernel, rfl, by decide +kernel, by decide +kernel⟩ (fun _ _ _ _ _ _ us hl => match us, hl with | [_, _], _ => rfl) (ok_sub_f F XR XO FIF fPt)
  have fNi : Fc P w K mg base "number_in" [] 1 1 (cNumP) := (D 20 rfl (by decide +kernel)).fc (N := ["text", "figure"]) (ps := ["text"]) ⟨rfl, rfl, rfl, by decide +kernel, rfl, by decide +kernel, by decide +kernel⟩ (fun _ _ _ _ _ _ us hl => match us, hl with | [_], _ => rfl) (ok_number_in_p F gFi)
  have fMi : Fc P w K mg base "mark_in" [] 3 1 (cMkIn) := (D 21 rfl (by decide +kernel)).fc (N := ["word", "found"]) (ps := ["word"]) ⟨rfl, rfl, rfl, by decide +kernel, rfl, by decide +kernel, by decide +kernel⟩ (fun _ _ _ _ _ _ us hl => match us, hl with | [_], _ => rfl) (ok_mark_in F gDo fMk)
  have fWo : Fc P w K mg base "words_of" [] 1 1 (cWdOf) := (D 22 rfl (by decide +kernel)).fc (N := ["text", "words"]) (ps := ["text"]) ⟨rfl, rfl, rfl, by decide +kernel, rfl, by decide +kernel, by decide +kernel⟩ (fun _ _ _ _ _ _ us hl => match us, hl with | [_], _ => rfl) (ok_words_of F gMi gPl gBl)
  have fTi : Fc P w K mg base "term_in" [] 6 1 (cTermIn RF) := (D 23 rfl (by decide +kernel)).fc (N := nTi) (ps := ["words"]) ⟨rfl, rfl, rfl, by decide +kernel, rfl, by decide +kernel, by decide +kernel⟩ (fun _ _ _ _ _ _ us hl => match us, hl with | [_], _ => rfl) (ok_term_in F gP fNi fMi kF)
  have fTo : Fc P w K mg base "form_told" [] 8 1 (cToldA RF) := (D 24 rfl (by decide +kernel)).fc (N := nTo) (ps := ["text"]) ⟨rfl, rfl, rfl, by decide +kernel, rfl, by decide +kernel, by decide +kernel⟩ (fun _ _ _ _ _ _ us hl => match us, hl with | [_], _ => rfl) (ok_told_a F gMi gPl XS fWo fTi kFN mAF mSF pT)
  have sOf : Stcx P w K mg base RF "of" 9 1 (cOfX RF U_BadText) := DOf.stx XOf.1 XOf.2 (N := nOf2) (ps := ["text"]) ⟨rfl, rfl, rfl, by decide +kernel, rfl, by decide +kernel, by decide +kernel⟩ (fun _ _ _ _ _ _ us hl => match us, hl with | [_], _ => rfl) (ok_of_x F E_BadText.er fTo)
  have fFl : Fc P w K mg base "_law_flat" [] 3 1 (cFlat RF) := (D 25 rfl (by decide +kernel)).fc (N := ["_law_form"]) (ps := ["_law_form"]) ⟨rfl, rfl, rfl, by decide +kernel, rfl, by decide +kernel, by decide +kernel⟩ (fun _ _ _ _ _ _ us hl => match us, hl with | [_], _ => rfl) (ok_flat F pP pN)
  have fFt : Fc P w K mg base "_law_form_text" [] 1 1 (cLfT) := (D 26 rfl (by decide +kernel)).fc (N := nLf) (ps := ["_law_form"]) ⟨rfl, rfl, rfl, by decide +kernel, rfl, by decide +kernel, by decide +kernel⟩ (fun _ _ _ _ _ _ us hl => match us, hl with | [_], _ => rfl) (ok_lf_text F)
  have fDr : Fc P w K mg base "_law_drawn" [] 3 1 (cDrX) := (D 27 rfl (by decide +kernel)).fc (N := nDrX) (ps := ["_law_pot_here"]) ⟨rfl, rfl, rfl, by decide +kernel, rfl, by decide +kernel, by decide +kernel⟩ (fun _ _ _ _ _ _ us hl => match us, hl with | [_], _ => rfl) (ok_drx F fTk fOf)
  have fIn : Fc P w K mg base "_law_integer" [] 1 1 (cNumP) := (D 28 rfl (by decide +kernel)).fc (N := nLi) (ps := ["_law_word"]) ⟨rfl, rfl, rfl, by decide +kernel, rfl, by decide +kernel, by decide +kernel⟩ (fun _ _ _ _ _ _ us hl => match us, hl with | [_], _ => rfl) (ok_l_int F)
  have fL1 : Fc P w K mg base "_law_term" [] 2 1 (cLt1) := (D 29 rfl (by decide +kernel)).fc (N := nLt) (ps := ["_law_words"]) ⟨rfl, rfl, rfl, by decide +kernel, rfl, by decide +kernel, by decide +kernel⟩ (fun _ _ _ _ _ _ us hl => match us, hl with | [_], _ => rfl) (ok_lt1 F fIn)
  have fLt : Fc P w K mg base "_law_term" [] 3 1 (cLt) := (D 29 rfl (by decide +kernel)).fc (N := nLt) (ps := ["_law_words"]) ⟨rfl, rfl, rfl, by decide +kernel, rfl, by decide +kernel, by decide +kernel⟩ (fun _ _ _ _ _ _ us hl => match us, hl with | [_], _ => rfl) (ok_lt F fIn fL1)
  have fPi : Fc P w K mg base "_law_pair_in" [] 4 1 (cPair) := (D 30 rfl (by decide +kernel)).fc (N := nPi) (ps := ["_law_text"]) ⟨rfl, rfl, rfl, by decide +kernel, rfl, by decide +kernel, by decide +kernel⟩ (fun _ _ _ _ _ _ us hl => match us, hl with | [_], _ => rfl) (ok_pair F fLt fFt)
  have fBt : Fc P w K mg base "_law_bent_text" [] 3 2 (cBtT) := (D 31 rfl (by decide +kernel)).fc (N := nBtT) (ps := ["_law_pot_here", "_law_text"]) ⟨rfl, rfl, rfl, by decide +kernel, rfl, by decide +kernel, by decide +kernel⟩ (fun _ _ _ _ _ _ us hl => match us, hl with | [_, _], _ => rfl) (ok_btT F fTk fOf)
  have tCt : Ct K mg "_law_caught" s__law_caught "_law_look" := ⟨D 32 rfl (by decide +kernel), (fun _ _ _ _ _ _ us hl => match us, hl with | [_], _ => rfl)⟩
  have gRi : Gc P w K mg base "_law_right" 13 1 (cRgt19 T1) := D__law_right.gc (N := nRg19) (ps := ["_law_pot_here"]) ⟨rfl, rfl, rfl, by decide +kernel, rfl, by decide +kernel, by decide +kernel⟩ (fun _ _ _ _ _ _ us hl => match us, hl with | [_], _ => rfl) (ok_right19 F TB__law_right gB E_BadText tCt XR.at_ fDr fFt kF pT sOf fFl fBt fPi)
  exact fnG_ok (N := nLaw) (ps := ["_law_script"]) L ⟨rfl, rfl, rfl, by decide +kernel, rfl, by decide +kernel, by decide +kernel⟩ (ok_law19 F fPs gRi)
theorem spLaw_okT {H : Hp} {a : Addr} {ns : List Int} {E : XK} {cs : List (Addr × Addr)} {T1 : Addr} (hO : OnlyT cs H) (m0 : T1 ∈ cs.map (·.2)) (hS : SqL K H a (ns.map V.int)) : spD K 1 (cLaw T1) [.ref a] H (fun v _ => v = .bl true) E := by
  have at_ : ∀ {T : Addr}, T ∈ cs.map (·.2) → H T = some (.tbl #[]) := fun hT => by
    obtain ⟨p, hp, rfl⟩ := List.mem_map.mp hT
    exact hO.1 p hp
  have rm : ∀ {M : Mp} {Z : Zn} {T : Addr} (qn : Str), T ∈ cs.map (·.2) → RepM K M Z H T (.tbl qn) := fun qn hT => ⟨#[], at_ hT, True.intro, fun pos cv hc => by
    have z : codeAmong pos [] = some cv := hc
    simp [codeAmong] at z⟩
  have ne : ∀ {T : Addr}, T ∈ cs.map (·.2) → Rd H a (.lst (ns.map V.int)) → a ≠ T := fun hT hr z => by
    have q := at_ hT
    rw [← z] at q
    rcases hr with r | ⟨o, r⟩
    · rw [q] at r; cases r
    · rw [q] at r; cases r
  refine ⟨[scrD ns], fun b => if b = T1 then some (MO.tbl qR19) else none, fun _ => False, fun d _ => d = .bl true, rfl, .cons ?_ .nil, ⟨fun b o e => ?_, fun b z => z.elim⟩, ⟨ns, rfl, by show (if T1 = T1 then some (MO.tbl qR19) else none) = _; rw [if_pos rfl], fun _ => rfl⟩, fun v d H' M' x w' r e => ?_⟩
  · rcases hS with h1 | h1
    · refine .rol h1 ⟨?_, id⟩ (Reps.ofInts ns)
      show (if a = T1 then some (MO.tbl qR19) else none) = none
      rw [if_neg (ne m0 h1)]
    · exact .rolK h1 (Reps.ofInts ns)
  · have e : (if b = T1 then some (MO.tbl qR19) else none) = some o := e
    by_cases h0 : b = T1
    · rw [if_pos h0] at e
      cases e; rw [h0]; exact rm _ m0
    rw [if_neg h0] at e; cases e
  · subst e; cases r; rfl
theorem facts {f : Addr} (X : K.In h) (G : h.Ns mainGlobals mg) (hfa : mg ("law" : Str) = some (.ref f)) (c : Says spec w K) (hf : (P.main.file == "/claim/cut.py") = true) (hs : (P.main.scope.names.lookup ("super" : Str)).isSome = false) :
    ∃ (fd : FuncData) (T1 : Addr) (cs : List (Addr × Addr)), (∀ (s : Shared) (v : Value), BindsTo s fd ⟨[v], []⟩ [("_law_script", v)]) ∧ (∀ p ∈ cs, K.lookup p.2 = none ∧ ∃ y ∈ tbsA, PySem.W.tabIn K y = some p) ∧ (T1 ∈ cs.map (·.2)) ∧ ∀ base : Heap, K.In base → base.Ns mainGlobals mg → (∀ p ∈ cs, LamX.TabB base mg p.1 p.2) → FnG P w K mg base 14 f fd ["_law_script"] (spD K 1 (cLaw T1)) := by
  obtain ⟨fd, L⟩ := c.dd 35 (d := gl "law" s_law) rfl
  have e := hfa.symm.trans (glo_ok X G (c.fa (f := .glo "law") (mem_glo (by decide +kernel))))
  cases e
  have b := FunD.bindsA (ps := ["_law_script"]) L fun _ _ _ _ _ _ us hl => match us, hl with | [_], _ => rfl
  obtain ⟨fi, DI⟩ := c.dd 0 rfl
  obtain ⟨p0, t0, l0⟩ := c.tbs (x := "_law_right") (by decide +kernel)
  have g0 := glo_ok X G (c.fa (f := .glo "_law_right") (mem_co 9 rfl))
  have d0 := mkDc X G c 34 (x := "_law_right") (st := s__law_right) rfl g0 t0
  refine ⟨fd, p0.2, [p0], fun s v => b s [v] rfl, fun p hp => ?_, (by simp), fun base _ _ TB => ?_⟩
  · simp only [List.mem_cons, List.not_mem_nil, or_false] at hp
    rcases hp with rfl
    · exact ⟨l0, _, by decide +kernel, t0⟩
  · exact chain (mkFx X G c) (mkFo X G c) (int_ok X G (c.fa (f := .int "PAIR" 2) (mem_co 5 rfl))) (int_ok X G (c.fa (f := .int "MOST_LETTERS" 8) (mem_co 6 rfl))) (str_ok X G (c.fa (f := .str "LETTERS" "abcdefghijklmnopqrstuvwxyz") (mem_co 7 rfl))) (str_ok X G (c.fa (f := .str "DOT" ".") (mem_co 0 rfl))) (str_ok X G (c.fa (f := .str "MINUS" "-") (mem_co 1 rfl))) (str_ok X G (c.fa (f := .str "PLUS" "+") (mem_co 2 rfl))) (str_ok X G (c.fa (f := .str "BLANK" " ") (mem_co 3 rfl))) (str_ok X G (c.fa (f := .str "FIGURES" "0123456789") (mem_co 4 rfl))) (glo_ok X G (c.fa (f := .glo "WORDS") (mem_glo (by decide +kernel)))) (c.txs (x := "WORDS") (zs := wordsL) (by decide +kernel)) ⟨_, mkr_ok (c.fa (f := .mkr "Form") (mem_co 13 rfl)), c.dd 4 rfl⟩ (c.tp (by decide +kernel)) (c.st (m := "of") (by decide +kernel)) ⟨c.dd 33 rfl⟩ (c.eqs (List.mem_singleton.mpr rfl)) ⟨_, meth_ok (c.fa (f := .meth "Form" "__eq__") (mem_co 14 rfl)), ⟨c.dd 1 rfl⟩⟩ ⟨_, meth_ok (c.fa (f := .meth "Form" "__add__") (mem_co 15 rfl)), ⟨c.dd 2 rfl⟩⟩ ⟨_, meth_ok (c.fa (f := .meth "Form" "__sub__") (mem_co 16 rfl)), ⟨c.dd 3 rfl⟩⟩ ⟨_, _, propB_ok (c.pr (q := ("Form", "parts")) (by decide +kernel)), ⟨c.dd 5 rfl⟩⟩ ⟨_, _, propB_ok (c.pr (q := ("Form", "number")) (by decide +kernel)), ⟨c.dd 6 rfl⟩⟩ ⟨_, _, propB_ok (c.pr (q := ("Form", "text")) (by decide +kernel)), ⟨c.dd 7 rfl⟩⟩ (glo_ok X G (c.fa (f := .glo "CrowdError") (mem_glo (by decide +kernel)))) (mkEk X G c hf hs (x := "BadText") (by decide +kernel) (by decide +kernel)) (c.kiI (x := "Form") (by decide +kernel)) d0 (TB p0 (by simp)) ⟨_, fi, DI, glo_ok X G (c.fa (f := .glo "is_integer") (mem_glo (by decide +kernel)))⟩ (fun i {x st} hd hx => mkDf X G c i hd hx) L
end
end W
open PySem PySem.W PySem.Calls PyProof.Rows
theorem PySem.Challenge.cw_greetall_k19_texts_of_forms_holds : PySem.Challenge.rw_greetall_k19_texts_of_forms.Holds := by
  w_on; o_law
  refine HandSHeadRun.head_any (r := W.R) (q := view W.R.prog [50, 51]) (H := W.hk) (ob := W.ob) (M := 9000) (loose := W.names0 ++ W.names1) (d := HandSHeadRun.topDef W.R.prog 51) (kwd := []) W.ob_eq
    (by kernel_rfl) (fun s => by kernel_rfl) W.run (by kernel_rfl) (by kernel_rfl) (by kernel_rfl) (by rfl) (by first | assumption | decide +kernel) (by decide +kernel) ⟨rfl, rfl, rfl, rfl, rfl, by decide +kernel⟩ ?hw ?hc
  case hw => w_witness2
  case hc =>
    refine DL.walk_ofGT (l := PySem.Challenge.rw_greetall_k19_texts_of_forms) (n := 63) (k := 14) (x := "_law_script") (names := W.tbsA) rfl (by decide) (by kernel_rfl) ⟨rfl, by decide, by decide⟩ (by decide +kernel) ?F
    intro w mg fa h Y G hmg0
    obtain ⟨K, KX, c⟩ := Y
    have hmg : mg ("law" : PySem.Str) = some (.ref fa) := by
      have e : (HandSHeadRun.topDef W.R.prog 51).name = ("law" : PySem.Str) := by kernel_rfl
      rw [← e]
      exact hmg0
    obtain ⟨fd, T1, cs, hb, ht, m0, hF⟩ := W.facts (P := (PySem.Challenge.rw_greetall_k19_texts_of_forms).prog) (w := w) KX G hmg c (by rfl) (by decide +kernel)
    exact ⟨K, fd, DL.spD K 1 (W.cLaw T1), cs, KX, hb, ht, fun H a ns hl hO hS => W.spLaw_okT hO m0 hS, hF⟩
