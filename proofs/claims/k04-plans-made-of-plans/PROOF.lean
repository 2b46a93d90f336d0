import PyProof.Rows.All
import Wide.All
import OpenK.AllK
import Wide.FinOn
import HandS.ForMost
import HandS.ForExc
import HandS.ExcInit
import HandS.IsInst
import KE.KExcSuper
import KE.KSuper
import KE.KSuperObj
import HandS.TryOnly
import KE.KExcIs
import KE.KIsAll
import HandS.Lambda
import HandS.Defaults
import HandS.Wide
import HandS.Flow
import HandS.Zip
import HandS.StrMore
import HandS.FStr
import HandS.Conv
import HandS.More
import HandS.Property
import HandS.OwnEq
import HandS.Slots
import HandS.TupAny
import HandS.Star
import HandS.Strs
import KE.GoesMore
import HandS.Style
import HandS.RaiseMore
import HandS.HeadEnd
import HandS.SortRule
import HandS.TupSets
import PyProof.ReprLen
import HandS.Codes
import KE.KUnpackStar
import HandS.Small
import HandS.Deep
import HandS.List
import HandS.Head0
import HandS.Head1
import HandS.Head2
import HandS.HeadHook1
import HandS.HeadHook2
import HandS.HeadHook3
import KE.KNest
import HandS.EndOwn
import HandS.SetFor
import PyProof.Rows.SortShellAny
import HandS.Iter
import KE.DataMinMax
import KE.GoesEnum
import HandS.NoneIn
import KE.SortData
import KE.KAssignIn
import HandS.SlotsOwn
import OpenK.KMeth
import PyProof.StrLawsRepr
import HandS.ListItems
import PyProof.EqKinds
import PyProof.FactsAll.dict
import PyProof.EqAt
import PySem.Challenge.RW_greetall_k04_plans_made_of_plans
set_option Elab.async false
set_option linter.all false
set_option maxRecDepth 100000
set_option maxHeartbeats 0
namespace XL
end XL
namespace DL
end DL
namespace HK
end HK
namespace PL
end PL
namespace W
end W
namespace PySem.SeqAt
end PySem.SeqAt
namespace XL
open PySem PySem.W PySem.Calls PyProof.Rows PySem.HandSPX
/-- what the written part says of the base class at B and its __init__ at fI, whose cell of the class stands at cl -/
structure CrTxt (P : Program) (K : Frag) (q : Str) (a : Arguments) (b : List Stmt) (sc : Scope) (B fI cl : Addr) : Prop where
  fn : ∃ (oc : Value) (od : Option Addr) (doc pm : Value) (an : Option Addr) (cc : Addr) (ct : Value) (osl : Array (Option Value)) (occ : Obj) (vs : Array Value) (file : Str) (tf : Tok),
    K.lookup fI = some ⟨oc, od, .func (ksFn "__init__" q a b sc .none .none doc pm an (.ref cc) ct cl), osl⟩ ∧ codeIn K (.ref cc) q = true ∧ K.lookup cc = some occ ∧ occ.data = .fields vs ∧ vs[2]? = some (.str file tf) ∧ (P.main.file == file) = true
  cell : ∃ o, K.lookup cl = some o ∧ o.data = .cell (some (.ref B))
  bcls : ∃ o cd, K.lookup B = some o ∧ o.data = .cls cd
  typ : typeIn K (.ref fI) = some (.type "function")
  sup : (P.main.scope.names.lookup ("super" : Str)).isSome = false
  nsS : nsIn K cStatics "thirdparty.any" = some none
/-- what it says of one of the errors, at C -/
structure ErTxt (K : Frag) (mg : Str → Option Value) (x : Str) (C B fI : Addr) : Prop where
  gC : mg x = some (.ref C)
  cls : ∃ nm q N bs bm sn sub ab col dd k0 k1 k2 k3 k5, K.lookup C = some (excClassObj nm q C N bs bm true sn sub ab col dd k0 k1 k2 k3 k5 "ValueError.__new__") ∧ refsVE bm = true
  ini : excInitIn K C [.type "ValueError", .type "Exception", .type "BaseException", .type "object"] "ValueError.__new__" = true
  sa : findIn K (.ref C) "__setattr__" = some (some (.builtin "object.__setattr__"))
  ga : findIn K (.ref C) "__getattribute__" = some (some (.builtin "BaseException.__getattribute__"))
  gg : findIn K (.ref C) "__getattr__" = some none
  noV : findIn K (.ref C) "value" = some none
  iC : findIn K (.ref C) "__init__" = some (some (.ref fI))
  kC : keepIn K (.ref C) = true
  exC : subIn K (.ref C) (.type "BaseException") = some true
  veC : subIn K (.ref C) (.type "ValueError") = some true
  sB : subIn K (.ref C) (.ref B) = some true
  tyC : typeIn K (.ref C) = some (.type "type")
  hdC : hasDictIn K C = true
  sup : ks_superIn K C B "__init__" = some (some (.builtin "ValueError.__init__"))
end XL
namespace XL
open PySem PySem.W PySem.Calls PyProof.Rows PySem.HandSPX L2
theorem Mod.keeps {K : Frag} {mg : Str → Option Value} {h h' : Heap} (M : L2.Mod K mg h) (k : ∀ b o, h.get? b = some o → h'.get? b = some o) : L2.Mod K mg h' := by
  obtain ⟨mb, nb, hmb⟩ := M.blt
  exact ⟨M.kin.keeps k, M.glob.keeps k, ⟨mb, nb.keeps k, hmb⟩, M.nolimit.keeps k⟩
end XL
namespace XL
open PySem PySem.W PySem.Calls PyProof.Rows PySem.HandSPX L2
/-- an error object: its class, its own dict -/
def XV (a : Addr) (cls : Value) (d : Option Addr) : HO := .ext fun h => ∃ oe vs, h.get? a = some oe ∧ Zc cls d oe ∧ oe.data = .fields vs
end XL
namespace XL
open PySem PySem.W PySem.Calls PyProof.Rows PySem.HandSPX L2
/-- what isinstance and a field ask of the class at C -/
structure ErV (K : Frag) (C : Addr) : Prop where
  cl : (clsIn K C).isSome = true
  ga : findIn K (.ref C) "__getattribute__" = some (some (.builtin "BaseException.__getattribute__"))
  gg : findIn K (.ref C) "__getattr__" = some none
  exC : subIn K (.ref C) (.type "BaseException") = some true
  hdC : hasDictIn K C = true
  noV : findIn K (.ref C) "value" = some none
  ha : findIn K (.ref C) "__class__" = some (some (.builtin "object.__class__"))
  hn : specialIn K (.builtin "object.__class__") "__get__" = some (some (.builtin "getset_descriptor.__get__"))
  ht : takesIn K (.builtin "object.__class__") = some true
  hm : mroIn K C (.type "object") = some true
end XL
namespace XL
open PySem PySem.W PySem.Calls PyProof.Rows PySem.HandSPX L2 LamX
/-- a lambda at f, its code object at c' -/
def LamO (f : Addr) (q : Str) (params : Arguments) (body : Expr) (scope : Scope) (cells : List (Str × Addr)) (c' : Addr) : HO := .ext fun h => ∃ pm ctv, h.get? f = some (W.kla_obj "<lambda>" q params body scope cells pm c' ctv)
end XL
namespace DL
open PySem L2
/-- a value as data: immutable things by what they hold, mutable ones by their address -/
inductive D where
  | non | bl (b : Bool) | int (i : Int) | str (x : Str)
  | lst (xs : List D) | rol (xs : List D) | tup (xs : List D)
  | dK (kvs : List (Key × D)) | dT (kvs : List (List Key × D))
  | ins (C : Addr) (fs : List (Str × D))
  | ty (n : String) | fn (a : Addr) | ob (a : Addr)
  | key (ks : List Key)
  | fig (C : Addr) (ns : List Int)
  | exc (C : Addr) (fs : List (Str × D))
  | lam (q : Str) (params : Arguments) (body : Expr) (scope : Scope) (cells : List (Str × Addr))
  | fdK (kvs : List (Key × D))
  | slo (C : Addr) (os : List (Option D))
/-- a mutable object's content -/
inductive MO where
  | lst (xs : List D) | dK (kvs : List (Key × D)) | dT (kvs : List (List Key × D)) | ins (C : Addr) (fs : List (Str × D)) | tbl (q : Str) | fdK (kvs : List (Key × D)) | slo (C : Addr) (os : List (Option D))
abbrev Mp := Addr → Option MO
abbrev Rho := List (Option D)
def mset (M : Mp) (a : Addr) (o : MO) : Mp := fun b => if b = a then some o else M b
theorem mset_same {M : Mp} {a : Addr} {o : MO} : mset M a o a = some o := if_pos rfl
theorem mset_ne {M : Mp} {a b : Addr} {o : MO} (h : b ≠ a) : mset M a o b = M b := if_neg h
/-- addresses that stand hidden: nothing that the code reads leads there -/
abbrev Zn := Addr → Prop
/-- neither mutable nor hidden -/
def Im (M : Mp) (Z : Zn) (a : Addr) : Prop := M a = none ∧ ¬ Z a
/-- a list, a tuple of the written part -/
def WrL (K : PySem.W.Frag) (a : Addr) (xs : List V) : Prop := ∃ (o : Obj) (its : Array Value) (n : Nat), K.lookup a = some o ∧ o.cls = .type "list" ∧ o.dict = none ∧ o.data = .seq its n ∧ its.size ≤ sizeLine ∧ Vals xs its.toList
def WrT (K : PySem.W.Frag) (a : Addr) (xs : List V) : Prop := ∃ (o : Obj) (its : Array Value) (n : Nat), K.lookup a = some o ∧ o.cls = .type "tuple" ∧ o.data = .seq its n ∧ its.size ≤ sizeLine ∧ Vals xs its.toList
mutual
/-- the value v stands for the data d -/
inductive Rep (K : PySem.W.Frag) (M : Mp) (Z : Zn) (H : Hp) : V → D → Prop where
  | non : Rep K M Z H .non .non
  | bl (b : Bool) : Rep K M Z H (.bl b) (.bl b)
  | int (i : Int) : Rep K M Z H (.int i) (.int i)
  | str (x : Str) : Rep K M Z H (.str x) (.str x)
  | ty (n : String) : Rep K M Z H (.ty n) (.ty n)
  | fn (a : Addr) : Rep K M Z H (.ref a) (.fn a)
  | ob (a : Addr) : Rep K M Z H (.ref a) (.ob a)
  | lst {a : Addr} {vs : List V} {ds : List D} (h : H a = some (.lst vs)) (m : Im M Z a) (r : Reps K M Z H vs ds) : Rep K M Z H (.ref a) (.lst ds)
  | rol {a : Addr} {vs : List V} {ds : List D} (h : Rd H a (.lst vs)) (m : Im M Z a) (r : Reps K M Z H vs ds) : Rep K M Z H (.ref a) (.rol ds)
  | rolK {a : Addr} {vs : List V} {ds : List D} (h : WrL K a vs) (r : Reps K M Z H vs ds) : Rep K M Z H (.ref a) (.rol ds)
  | tup {a : Addr} {vs : List V} {ds : List D} (h : Rd H a (.tup vs)) (m : Im M Z a) (r : Reps K M Z H vs ds) : Rep K M Z H (.ref a) (.tup ds)
  | tupK {a : Addr} {vs : List V} {ds : List D} (h : WrT K a vs) (r : Reps K M Z H vs ds) : Rep K M Z H (.ref a) (.tup ds)
  | dK {a : Addr} {vs : List (Key × V)} {ds : List (Key × D)} (h : H a = some (.dK vs)) (m : Im M Z a) (r : RepK K M Z H vs ds) : Rep K M Z H (.ref a) (.dK ds)
  | dT {a : Addr} {vs : List (List Key × V)} {ds : List (List Key × D)} (h : H a = some (.dT vs)) (m : Im M Z a) (r : RepT K M Z H vs ds) : Rep K M Z H (.ref a) (.dT ds)
  | ins {a C dx : Addr} {vs : List (Str × V)} {ds : List (Str × D)} (h : H a = some (.ins C dx vs)) (m : Im M Z a) (r : RepF K M Z H vs ds) : Rep K M Z H (.ref a) (.ins C ds)
  | key {a : Addr} {ks : List Key} (h : H a = some (.tup (ks.map kV))) (m : Im M Z a) : Rep K M Z H (.ref a) (.key ks)
  | fig {a C dx : Addr} {ns : List Int} (h : H a = some (SlX.SlO a C dx (ns.map fun i => some (V.int i)))) (hd : H dx = some (.xd [])) (m : Im M Z a) (md : Im M Z dx) : Rep K M Z H (.ref a) (.fig C ns)
  | exc {a C dd : Addr} {vs : List (Str × V)} {ds : List (Str × D)} (h : H a = some (XL.XV a (.ref C) (some dd))) (hd : H dd = some (.xd vs)) (m : Im M Z a) (md : Im M Z dd) (r : RepF K M Z H vs ds) : Rep K M Z H (.ref a) (.exc C ds)
  | lam {a c : Addr} {q : Str} {ps : Arguments} {b : Expr} {sc : Scope} {cl : List (Str × Addr)} (h : H a = some (XL.LamO a q ps b sc cl c)) (hc : H c = some (LamX.CodeO c q)) (m : Im M Z a) (mc : Im M Z c) : Rep K M Z H (.ref a) (.lam q ps b sc cl)
  | fdK {a : Addr} {o : Obj} {vs : List (Key × V)} {ds : List (Key × D)} (h : H a = some (.frz o (.dK vs))) (m : Im M Z a) (r : RepK K M Z H vs ds) : Rep K M Z H (.ref a) (.fdK ds)
  | slo {a C dx : Addr} {vs : List (Option V)} {os : List (Option D)} (h : H a = some (SlX.SlO a C dx vs)) (hd : H dx = some (.xd [])) (m : Im M Z a) (md : Im M Z dx) (r : RepO K M Z H vs os) : Rep K M Z H (.ref a) (.slo C os)
inductive RepO (K : PySem.W.Frag) (M : Mp) (Z : Zn) (H : Hp) : List (Option V) → List (Option D) → Prop where
  | nil : RepO K M Z H [] []
  | val {v : V} {d : D} {vs : List (Option V)} {os : List (Option D)} (r : Rep K M Z H v d) (t : RepO K M Z H vs os) : RepO K M Z H (some v :: vs) (some d :: os)
  | any {o : Option V} {vs : List (Option V)} {os : List (Option D)} (t : RepO K M Z H vs os) : RepO K M Z H (o :: vs) (none :: os)
inductive Reps (K : PySem.W.Frag) (M : Mp) (Z : Zn) (H : Hp) : List V → List D → Prop where
  | nil : Reps K M Z H [] []
  | cons {v : V} {d : D} {vs : List V} {ds : List D} (r : Rep K M Z H v d) (t : Reps K M Z H vs ds) : Reps K M Z H (v :: vs) (d :: ds)
inductive RepK (K : PySem.W.Frag) (M : Mp) (Z : Zn) (H : Hp) : List (Key × V) → List (Key × D) → Prop where
  | nil : RepK K M Z H [] []
  | cons {k : Key} {v : V} {d : D} {vs : List (Key × V)} {ds : List (Key × D)} (r : Rep K M Z H v d) (t : RepK K M Z H vs ds) : RepK K M Z H ((k, v) :: vs) ((k, d) :: ds)
inductive RepT (K : PySem.W.Frag) (M : Mp) (Z : Zn) (H : Hp) : List (List Key × V) → List (List Key × D) → Prop where
  | nil : RepT K M Z H [] []
  | cons {k : List Key} {v : V} {d : D} {vs : List (List Key × V)} {ds : List (List Key × D)} (r : Rep K M Z H v d) (t : RepT K M Z H vs ds) : RepT K M Z H ((k, v) :: vs) ((k, d) :: ds)
inductive RepF (K : PySem.W.Frag) (M : Mp) (Z : Zn) (H : Hp) : List (Str × V) → List (Str × D) → Prop where
  | nil : RepF K M Z H [] []
  | cons {k : Str} {v : V} {d : D} {vs : List (Str × V)} {ds : List (Str × D)} (r : Rep K M Z H v d) (t : RepF K M Z H vs ds) : RepF K M Z H ((k, v) :: vs) ((k, d) :: ds)
end
/-- what is immutable stays, what is hidden stays -/
def Ext (M : Mp) (Z : Zn) (H : Hp) (M' : Mp) (H' : Hp) : Prop := (∀ b o, H b = some o → Im M Z b → H' b = some o ∧ Im M' Z b) ∧ ∀ b, Z b → H' b = H b ∧ M' b = M b
theorem Ext.refl {M : Mp} {Z : Zn} {H : Hp} : Ext M Z H M H := ⟨fun _ _ h m => ⟨h, m⟩, fun _ _ => ⟨rfl, rfl⟩⟩
theorem Ext.trans {M M1 M2 : Mp} {Z : Zn} {H H1 H2 : Hp} (a : Ext M Z H M1 H1) (b : Ext M1 Z H1 M2 H2) : Ext M Z H M2 H2 := ⟨fun c o h m =>
  b.1 c o (a.1 c o h m).1 (a.1 c o h m).2, fun c z => ⟨(b.2 c z).1.trans (a.2 c z).1, (b.2 c z).2.trans (a.2 c z).2⟩⟩
theorem Ext.rd {M M' : Mp} {Z : Zn} {H H' : Hp} {a : Addr} {u : HO} (e : Ext M Z H M' H') (h : Rd H a u) (m : Im M Z a) : Rd H' a u := by
  rcases h with h | ⟨o, h⟩
  · exact .inl (e.1 _ _ h m).1
  · exact .inr ⟨o, (e.1 _ _ h m).1⟩
theorem Ext.md {M M' : Mp} {Z : Zn} {H H' : Hp} {a : Addr} {u : HO} (e : Ext M Z H M' H') (h : Rd H a u) (m : Im M Z a) : Im M' Z a := by
  rcases h with h | ⟨o, h⟩
  · exact (e.1 _ _ h m).2
  · exact (e.1 _ _ h m).2
/-- .. among other hidden ones -/
def ExI (M : Mp) (Z : Zn) (H : Hp) (M' : Mp) (Z' : Zn) (H' : Hp) : Prop := ∀ b o, H b = some o → Im M Z b → H' b = some o ∧ Im M' Z' b
theorem Ext.i {M M' : Mp} {Z : Zn} {H H' : Hp} (e : Ext M Z H M' H') : ExI M Z H M' Z H' := e.1
theorem ExI.refl {M : Mp} {Z : Zn} {H : Hp} : ExI M Z H M Z H := fun _ _ h m => ⟨h, m⟩
theorem ExI.trans {M M1 M2 : Mp} {Z Z1 Z2 : Zn} {H H1 H2 : Hp} (a : ExI M Z H M1 Z1 H1) (b : ExI M1 Z1 H1 M2 Z2 H2) : ExI M Z H M2 Z2 H2 := fun c o h m => b c o (a c o h m).1 (a c o h m).2
theorem ExI.rd {M M' : Mp} {Z Z' : Zn} {H H' : Hp} {a : Addr} {u : HO} (e : ExI M Z H M' Z' H') (h : Rd H a u) (m : Im M Z a) : Rd H' a u := by
  rcases h with h | ⟨o, h⟩
  · exact .inl (e _ _ h m).1
  · exact .inr ⟨o, (e _ _ h m).1⟩
theorem ExI.md {M M' : Mp} {Z Z' : Zn} {H H' : Hp} {a : Addr} {u : HO} (e : ExI M Z H M' Z' H') (h : Rd H a u) (m : Im M Z a) : Im M' Z' a := by
  rcases h with h | ⟨o, h⟩
  · exact (e _ _ h m).2
  · exact (e _ _ h m).2
section
variable {K : PySem.W.Frag} {M M' : Mp} {Z Z' : Zn} {H H' : Hp}
mutual
theorem Rep.monoI (e : ExI M Z H M' Z' H') : ∀ {v : V} {d : D}, Rep K M Z H v d → Rep K M' Z' H' v d
  | _, _, .non => .non
  | _, _, .bl b => .bl b
  | _, _, .int i => .int i
  | _, _, .str x => .str x
  | _, _, .ty n => .ty n
  | _, _, .fn a => .fn a
  | _, _, .ob a => .ob a
  | _, _, .lst h m r => .lst (e _ _ h m).1 (e _ _ h m).2 (Reps.monoI e r)
  | _, _, .rol h m r => .rol (e.rd h m) (e.md h m) (Reps.monoI e r)
  | _, _, .rolK h r => .rolK h (Reps.monoI e r)
  | _, _, .tup h m r => .tup (e.rd h m) (e.md h m) (Reps.monoI e r)
  | _, _, .tupK h r => .tupK h (Reps.monoI e r)
  | _, _, .dK h m r => .dK (e _ _ h m).1 (e _ _ h m).2 (RepK.monoI e r)
  | _, _, .dT h m r => .dT (e _ _ h m).1 (e _ _ h m).2 (RepT.monoI e r)
  | _, _, .ins h m r => .ins (e _ _ h m).1 (e _ _ h m).2 (RepF.monoI e r)
  | _, _, .key h m => .key (e _ _ h m).1 (e _ _ h m).2
  | _, _, .fig h hd m md => .fig (e _ _ h m).1 (e _ _ hd md).1 (e _ _ h m).2 (e _ _ hd md).2
  | _, _, .exc h hd m md r => .exc (e _ _ h m).1 (e _ _ hd md).1 (e _ _ h m).2 (e _ _ hd md).2 (RepF.monoI e r)
  | _, _, .lam h hc m mc => .lam (e _ _ h m).1 (e _ _ hc mc).1 (e _ _ h m).2 (e _ _ hc mc).2
  | _, _, .fdK h m r => .fdK (e _ _ h m).1 (e _ _ h m).2 (RepK.monoI e r)
  | _, _, .slo h hd m md r => .slo (e _ _ h m).1 (e _ _ hd md).1 (e _ _ h m).2 (e _ _ hd md).2 (RepO.monoI e r)
theorem RepO.monoI (e : ExI M Z H M' Z' H') : ∀ {v : List (Option V)} {d : List (Option D)}, RepO K M Z H v d → RepO K M' Z' H' v d
  | _, _, .nil => .nil
  | _, _, .val r t => .val (Rep.monoI e r) (RepO.monoI e t)
  | _, _, .any t => .any (RepO.monoI e t)
theorem Reps.monoI (e : ExI M Z H M' Z' H') : ∀ {v : List V} {d : List D}, Reps K M Z H v d → Reps K M' Z' H' v d
  | _, _, .nil => .nil
  | _, _, .cons r t => .cons (Rep.monoI e r) (Reps.monoI e t)
theorem RepK.monoI (e : ExI M Z H M' Z' H') : ∀ {v : List (Key × V)} {d : List (Key × D)}, RepK K M Z H v d → RepK K M' Z' H' v d
  | _, _, .nil => .nil
  | _, _, .cons r t => .cons (Rep.monoI e r) (RepK.monoI e t)
theorem RepT.monoI (e : ExI M Z H M' Z' H') : ∀ {v : List (List Key × V)} {d : List (List Key × D)}, RepT K M Z H v d → RepT K M' Z' H' v d
  | _, _, .nil => .nil
  | _, _, .cons r t => .cons (Rep.monoI e r) (RepT.monoI e t)
theorem RepF.monoI (e : ExI M Z H M' Z' H') : ∀ {v : List (Str × V)} {d : List (Str × D)}, RepF K M Z H v d → RepF K M' Z' H' v d
  | _, _, .nil => .nil
  | _, _, .cons r t => .cons (Rep.monoI e r) (RepF.monoI e t)
end
end
theorem Reps.length {K : PySem.W.Frag} {M : Mp} {Z : Zn} {H : Hp} : ∀ {vs : List V} {ds : List D}, Reps K M Z H vs ds → vs.length = ds.length
  | _, _, .nil => rfl
  | _, _, .cons _ t => by rw [List.length_cons, List.length_cons, t.length]
theorem Reps.get {K : PySem.W.Frag} {M : Mp} {Z : Zn} {H : Hp} : ∀ {vs : List V} {ds : List D} {i : Nat} {d : D}, Reps K M Z H vs ds → ds[i]? = some d → ∃ v, vs[i]? = some v ∧ Rep K M Z H v d
  | _, _, _, _, .nil, e => by simp at e
  | _, _, 0, _, .cons r _, e => by simp at e; subst e; exact ⟨_, rfl, r⟩
  | _, _, i + 1, d, .cons _ t, e => by
    obtain ⟨u, h1, h2⟩ := Reps.get (i := i) (d := d) t (by simpa using e)
    exact ⟨u, by simpa using h1, h2⟩
theorem Reps.drop {K : PySem.W.Frag} {M : Mp} {Z : Zn} {H : Hp} : ∀ {vs : List V} {ds : List D} (n : Nat), Reps K M Z H vs ds → Reps K M Z H (vs.drop n) (ds.drop n)
  | _, _, 0, r => r
  | _, _, _ + 1, .nil => .nil
  | _, _, n + 1, .cons _ t => Reps.drop n t
theorem Reps.take {K : PySem.W.Frag} {M : Mp} {Z : Zn} {H : Hp} : ∀ {vs : List V} {ds : List D} (n : Nat), Reps K M Z H vs ds → Reps K M Z H (vs.take n) (ds.take n)
  | _, _, 0, _ => .nil
  | _, _, _ + 1, .nil => .nil
  | _, _, n + 1, .cons r t => .cons r (Reps.take n t)
theorem Reps.ofStrs {K : PySem.W.Frag} {M : Mp} {Z : Zn} {H : Hp} : ∀ (ns : List Str), Reps K M Z H (ns.map V.str) (ns.map D.str)
  | [] => .nil
  | _ :: r => .cons (.str _) (Reps.ofStrs r)
/-- a mutable object is held -/
def RepM (K : PySem.W.Frag) (M : Mp) (Z : Zn) (H : Hp) (a : Addr) : MO → Prop
  | .lst ds => ∃ vs, H a = some (.lst vs) ∧ Reps K M Z H vs ds
  | .dK ds => ∃ vs, H a = some (.dK vs) ∧ RepK K M Z H vs ds
  | .dT ds => ∃ vs, H a = some (.dT vs) ∧ RepT K M Z H vs ds
  | .ins C ds => ∃ dx vs, H a = some (.ins C dx vs) ∧ RepF K M Z H vs ds
  | .fdK ds => ∃ o vs, H a = some (.frz o (.dK vs)) ∧ RepK K M Z H vs ds
  | .slo C os => ∃ dx vs, H a = some (SlX.SlO a C dx vs) ∧ H dx = some (.xd []) ∧ Im M Z dx ∧ RepO K M Z H vs os
  | .tbl q => ∃ ps, H a = some (.tbl ps) ∧ TriplesOk ps.toList ∧ ∀ (pos : Pos) (cv : Value), codeAmong pos ps.toList = some cv → ∃ c, cv = .ref c ∧ H c = some (LamX.CodeO c q) ∧ Im M Z c
/-- the mutable objects are held, the hidden ones stand -/
def Wd (K : PySem.W.Frag) (M : Mp) (Z : Zn) (H : Hp) : Prop := (∀ a o, M a = some o → RepM K M Z H a o) ∧ ∀ a, Z a → M a = none ∧ ∃ u, H a = some u
theorem RepM.there {K : PySem.W.Frag} {M : Mp} {Z : Zn} {H : Hp} {a : Addr} {o : MO} (h : RepM K M Z H a o) : ∃ u, H a = some u := by
  cases o with
  | lst ds => obtain ⟨vs, e, _⟩ := h; exact ⟨_, e⟩
  | dK ds => obtain ⟨vs, e, _⟩ := h; exact ⟨_, e⟩
  | dT ds => obtain ⟨vs, e, _⟩ := h; exact ⟨_, e⟩
  | ins C ds => obtain ⟨dx, vs, e, _⟩ := h; exact ⟨_, e⟩
  | tbl q => obtain ⟨ps, e, _⟩ := h; exact ⟨_, e⟩
  | fdK ds => obtain ⟨o, vs, e, _⟩ := h; exact ⟨_, e⟩
  | slo C os => obtain ⟨dx, vs, e, _⟩ := h; exact ⟨_, e⟩
theorem RepM.stepI {K : PySem.W.Frag} {M M' : Mp} {Z Z' : Zn} {H H' : Hp} {a : Addr} {o : MO} (h : RepM K M Z H a o) (e : ExI M Z H M' Z' H') (k : H' a = H a) : RepM K M' Z' H' a o := by
  cases o with
  | lst ds => obtain ⟨vs, q, r⟩ := h; exact ⟨vs, k.trans q, r.monoI e⟩
  | dK ds => obtain ⟨vs, q, r⟩ := h; exact ⟨vs, k.trans q, r.monoI e⟩
  | dT ds => obtain ⟨vs, q, r⟩ := h; exact ⟨vs, k.trans q, r.monoI e⟩
  | ins C ds => obtain ⟨dx, vs, q, r⟩ := h; exact ⟨dx, vs, k.trans q, r.monoI e⟩
  | fdK ds => obtain ⟨o, vs, q, r⟩ := h; exact ⟨o, vs, k.trans q, r.monoI e⟩
  | slo C os => obtain ⟨dx, vs, q, hd, md, r⟩ := h; exact ⟨dx, vs, k.trans q, (e _ _ hd md).1, (e _ _ hd md).2, r.monoI e⟩
  | tbl q => obtain ⟨ps, y, ht, ha⟩ := h; exact ⟨ps, k.trans y, ht, fun pos cv z => let ⟨c, e1, e2, e3⟩ := ha pos cv z; ⟨c, e1, (e c _ e2 e3).1, (e c _ e2 e3).2⟩⟩
theorem RepM.step {K : PySem.W.Frag} {M M' : Mp} {Z : Zn} {H H' : Hp} {a : Addr} {o : MO} (h : RepM K M Z H a o) (e : Ext M Z H M' H') (k : H' a = H a) : RepM K M' Z H' a o := h.stepI e.i k
section
variable {K : PySem.W.Frag} {M : Mp} {Z : Zn} {H : Hp} {p : Addr} {o : HO} {u v : MO}
theorem Wd.zneM (w : Wd K M Z H) (h : M p = some v) : ∀ b, Z b → b ≠ p := fun b z e => by
  have q := (w.2 b z).1
  rw [e, h] at q; cases q
/-- a mutable object changed -/
theorem Ext.put (w : Wd K M Z H) (h : M p = some v) : Ext M Z H (mset M p u) (upd H p o) := ⟨fun b z q m => by
  have n : b ≠ p := fun e => by have m := m.1; rw [e, h] at m; cases m
  exact ⟨by rw [upd_ne n]; exact q, by rw [mset_ne n]; exact m.1, m.2⟩, fun b z => ⟨upd_ne (w.zneM h b z), mset_ne (w.zneM h b z)⟩⟩
theorem Wd.put (w : Wd K M Z H) (h : M p = some v) (r : RepM K (mset M p u) Z (upd H p o) p u) : Wd K (mset M p u) Z (upd H p o) := ⟨fun a z e => by
  by_cases ha : a = p
  · subst ha; rw [mset_same] at e; cases e; exact r
  · rw [mset_ne ha] at e
    exact (w.1 a z e).step (Ext.put w h) (upd_ne ha), fun b z => by
  obtain ⟨m, u, q⟩ := w.2 b z
  exact ⟨by rw [mset_ne (w.zneM h b z)]; exact m, u, by rw [upd_ne (w.zneM h b z)]; exact q⟩⟩
end
/-- the slots -/
inductive EnvR (K : PySem.W.Frag) (M : Mp) (Z : Zn) (H : Hp) : St → Rho → Prop where
  | nil : EnvR K M Z H [] []
  | val {v : V} {d : D} {σ : St} {ρ : Rho} (r : Rep K M Z H v d) (t : EnvR K M Z H σ ρ) : EnvR K M Z H (some v :: σ) (some d :: ρ)
  | any {o : Option V} {σ : St} {ρ : Rho} (t : EnvR K M Z H σ ρ) : EnvR K M Z H (o :: σ) (none :: ρ)
theorem EnvR.monoI {K : PySem.W.Frag} {M M' : Mp} {Z Z' : Zn} {H H' : Hp} (e : ExI M Z H M' Z' H') : ∀ {σ : St} {ρ : Rho}, EnvR K M Z H σ ρ → EnvR K M' Z' H' σ ρ
  | _, _, .nil => .nil
  | _, _, .val r t => .val (r.monoI e) (EnvR.monoI e t)
  | _, _, .any t => .any (EnvR.monoI e t)
theorem EnvR.get {K : PySem.W.Frag} {M : Mp} {Z : Zn} {H : Hp} : ∀ {σ : St} {ρ : Rho} {i : Nat} {d : D}, EnvR K M Z H σ ρ → ρ[i]? = some (some d) → ∃ v, σ[i]? = some (some v) ∧ Rep K M Z H v d
  | _, _, _, _, .nil, e => by simp at e
  | _, _, 0, _, .val r _, e => by simp at e; subst e; exact ⟨_, rfl, r⟩
  | _, _, 0, _, .any _, e => by simp at e
  | _, _, i + 1, d, .val _ t, e => EnvR.get (i := i) t (by simpa using e)
  | _, _, i + 1, d, .any t, e => EnvR.get (i := i) t (by simpa using e)
theorem EnvR.set {K : PySem.W.Frag} {M : Mp} {Z : Zn} {H : Hp} {v : V} {d : D} (r : Rep K M Z H v d) : ∀ {σ : St} {ρ : Rho} (i : Nat), EnvR K M Z H σ ρ → EnvR K M Z H (σ.set i (.some v)) (ρ.set i (.some d))
  | _, _, _, .nil => .nil
  | _, _, 0, .val _ t => .val r t
  | _, _, 0, .any t => .val r t
  | _, _, i + 1, .val q t => .val q (EnvR.set r i t)
  | _, _, i + 1, .any t => .any (EnvR.set r i t)
theorem EnvR.empty {K : PySem.W.Frag} {M : Mp} {Z : Zn} {H : Hp} : ∀ (n : Nat), EnvR K M Z H (List.replicate n .none) (List.replicate n .none)
  | 0 => .nil
  | n + 1 => .any (EnvR.empty n)
end DL
namespace DL
open PySem L2
def KE (K : PySem.W.Frag) (M : Mp) (Z : Zn) (H : Hp) (Φ : D → Mp → Prop) (Q : VK) : Prop := ∀ v d H' M', Ext M Z H M' H' → Wd K M' Z H' → Rep K M' Z H' v d → Φ d M' → Q v H'
def KT (K : PySem.W.Frag) (M : Mp) (Z : Zn) (H : Hp) (Φ : Bool → Mp → Prop) (Q : Bool → Hp → Prop) : Prop := ∀ b H' M', Ext M Z H M' H' → Wd K M' Z H' → Φ b M' → Q b H'
def KA (K : PySem.W.Frag) (M : Mp) (Z : Zn) (H : Hp) (Φ : List D → Mp → Prop) (Q : List V → Hp → Prop) : Prop := ∀ vs ds H' M', Ext M Z H M' H' → Wd K M' Z H' → Reps K M' Z H' vs ds → Φ ds M' → Q vs H'
def KG (K : PySem.W.Frag) (M : Mp) (Z : Zn) (H : Hp) (Φ : Rho → Mp → Prop) (Q : L2.St → Hp → Prop) : Prop := ∀ σ' ρ' H' M', Ext M Z H M' H' → Wd K M' Z H' → EnvR K M' Z H' σ' ρ' → Φ ρ' M' → Q σ' H'
/-- what is wanted behind a statement -/
structure DE where
  nx : Rho → Mp → Prop
  rt : D → Mp → Prop
  bk : Rho → Mp → Prop := fun _ _ => False
  ct : Rho → Mp → Prop := fun _ _ => False
structure KS (K : PySem.W.Frag) (M : Mp) (Z : Zn) (H : Hp) (Ψ : DE) (E : Ends) : Prop where
  nx : KG K M Z H Ψ.nx E.nx
  rt : KE K M Z H Ψ.rt E.rt
  bk : KG K M Z H Ψ.bk E.bk
  ct : KG K M Z H Ψ.ct E.ct
section
variable {K : PySem.W.Frag} {M M1 : Mp} {Z : Zn} {H H1 : Hp}
theorem KE.step {Φ : D → Mp → Prop} {Q : VK} (k : KE K M Z H Φ Q) (e : Ext M Z H M1 H1) : KE K M1 Z H1 Φ Q := fun v d H' M' x w r h => k v d H' M' (e.trans x) w r h
theorem KT.step {Φ : Bool → Mp → Prop} {Q : Bool → Hp → Prop} (k : KT K M Z H Φ Q) (e : Ext M Z H M1 H1) : KT K M1 Z H1 Φ Q := fun b H' M' x w h => k b H' M' (e.trans x) w h
theorem KA.step {Φ : List D → Mp → Prop} {Q : List V → Hp → Prop} (k : KA K M Z H Φ Q) (e : Ext M Z H M1 H1) : KA K M1 Z H1 Φ Q := fun v d H' M' x w r h => k v d H' M' (e.trans x) w r h
theorem KG.step {Φ : Rho → Mp → Prop} {Q : L2.St → Hp → Prop} (k : KG K M Z H Φ Q) (e : Ext M Z H M1 H1) : KG K M1 Z H1 Φ Q := fun v d H' M' x w r h => k v d H' M' (e.trans x) w r h
theorem KS.step {Ψ : DE} {E : Ends} (k : KS K M Z H Ψ E) (e : Ext M Z H M1 H1) : KS K M1 Z H1 Ψ E := ⟨k.nx.step e, k.rt.step e, k.bk.step e, k.ct.step e⟩
end
end DL
namespace DL
open PySem PySem.Spec PyProof.Rows L2
/-- a def's contract: arguments, mutable objects, what is wanted behind -/
abbrev Con := List D → Mp → (D → Mp → Prop) → Prop
/-- M' has no more than M -/
def Les (M' M : Mp) : Prop := ∀ b, M' b = M b ∨ M' b = none
theorem Les.refl {M : Mp} : Les M M := fun _ => .inl rfl
theorem Les.x {M M' : Mp} {Z : Zn} {H : Hp} (l : Les M' M) : ExI M Z H M' Z H := fun b o q m => by
  refine ⟨q, ?_, m.2⟩
  rcases l b with e | e
  · rw [e]; exact m.1
  · exact e
theorem Les.w {K : PySem.W.Frag} {M M' : Mp} {Z : Zn} {H : Hp} (l : Les M' M) (w : Wd K M Z H) : Wd K M' Z H := by
  refine ⟨fun a o e => ?_, fun b z => ?_⟩
  · rcases l a with q | q
    · rw [q] at e; exact (w.1 a o e).stepI l.x rfl
    · rw [q] at e; cases e
  · obtain ⟨m, u⟩ := w.2 b z
    rcases l b with q | q
    · exact ⟨q.trans m, u⟩
    · exact ⟨q, u⟩
theorem Les.ext {K : PySem.W.Frag} {M M' : Mp} {Z : Zn} {H : Hp} (l : Les M' M) (w : Wd K M Z H) : Ext M Z H M' H := by
  refine ⟨l.x, fun b z => ⟨rfl, ?_⟩⟩
  have m := (w.2 b z).1
  rcases l b with q | q
  · exact q
  · rw [q, m]
/-- d, read while M stands, is d' where only M' is left -/
inductive Fz (M M' : Mp) : D → D → Prop where
  | same (d : D) : Fz M M' d d
  | lst {a : Addr} {ds : List D} : M a = some (.lst ds) → M' a = none → Fz M M' (.ob a) (.lst ds)
  | dK {a : Addr} {ds : List (Key × D)} : M a = some (.dK ds) → M' a = none → Fz M M' (.ob a) (.dK ds)
  | dT {a : Addr} {ds : List (List Key × D)} : M a = some (.dT ds) → M' a = none → Fz M M' (.ob a) (.dT ds)
  | ins {a C : Addr} {fs : List (Str × D)} : M a = some (.ins C fs) → M' a = none → Fz M M' (.ob a) (.ins C fs)
  | fdK {a : Addr} {ds : List (Key × D)} : M a = some (.fdK ds) → M' a = none → Fz M M' (.ob a) (.fdK ds)
  | slo {a C : Addr} {os : List (Option D)} : M a = some (.slo C os) → M' a = none → Fz M M' (.ob a) (.slo C os)
theorem Fz.rep {K : PySem.W.Frag} {M M' : Mp} {Z : Zn} {H : Hp} {v : V} {d d' : D} (f : Fz M M' d d') (l : Les M' M) (w : Wd K M Z H) (r : Rep K M Z H v d) : Rep K M' Z H v d' := by
  cases f with
  | same d => exact r.monoI l.x
  | lst h h' =>
    cases r
    obtain ⟨vs, e, r⟩ := w.1 _ _ h
    exact .lst e ⟨h', fun z => by have := (w.2 _ z).1; rw [h] at this; cases this⟩ (r.monoI l.x)
  | dK h h' =>
    cases r
    obtain ⟨vs, e, r⟩ := w.1 _ _ h
    exact .dK e ⟨h', fun z => by have := (w.2 _ z).1; rw [h] at this; cases this⟩ (r.monoI l.x)
  | dT h h' =>
    cases r
    obtain ⟨vs, e, r⟩ := w.1 _ _ h
    exact .dT e ⟨h', fun z => by have := (w.2 _ z).1; rw [h] at this; cases this⟩ (r.monoI l.x)
  | ins h h' =>
    cases r
    obtain ⟨dx, vs, e, r⟩ := w.1 _ _ h
    exact .ins e ⟨h', fun z => by have := (w.2 _ z).1; rw [h] at this; cases this⟩ (r.monoI l.x)
  | fdK h h' =>
    cases r
    obtain ⟨o, vs, e, r⟩ := w.1 _ _ h
    exact .fdK e ⟨h', fun z => by have := (w.2 _ z).1; rw [h] at this; cases this⟩ (r.monoI l.x)
  | slo h h' =>
    cases r
    obtain ⟨dx, vs, e, hd, md, r⟩ := w.1 _ _ h
    exact .slo e hd ⟨h', fun z => by have := (w.2 _ z).1; rw [h] at this; cases this⟩ (l.x _ _ hd md).2 (r.monoI l.x)
/-- the end, some objects let go -/
def Lets (Φ : D → Mp → Prop) : D → Mp → Prop := fun d M => ∃ d' M', Les M' M ∧ Fz M M' d d' ∧ Φ d' M'
theorem Lets.of {Φ : D → Mp → Prop} {d : D} {M : Mp} (h : Φ d M) : Lets Φ d M := ⟨d, M, Les.refl, .same d, h⟩
/-- slots, some objects let go -/
inductive FzE (M M' : Mp) : Rho → Rho → Prop where
  | nil : FzE M M' [] []
  | val {d d' : D} {ρ ρ' : Rho} : Fz M M' d d' → FzE M M' ρ ρ' → FzE M M' (some d :: ρ) (some d' :: ρ')
  | drop {o : Option D} {ρ ρ' : Rho} : FzE M M' ρ ρ' → FzE M M' (o :: ρ) (none :: ρ')
theorem FzE.refl {M M' : Mp} : ∀ (ρ : Rho), FzE M M' ρ ρ
  | [] => .nil
  | some d :: ρ => .val (.same d) (FzE.refl ρ)
  | none :: ρ => .drop (FzE.refl ρ)
section
variable {X : Cx} {ρ : Rho} {M : Mp} {Φ : D → Mp → Prop} {e o : Expr} {es : List Expr} {pos p apos : Pos} {x m : Str} {dd : List D} {k n : Nat} {c : Con}
theorem RepF.lookup {K : PySem.W.Frag} {M : Mp} {Z : Zn} {H : Hp} (f : Str) : ∀ {vs : List (Str × V)} {ds : List (Str × D)}, RepF K M Z H vs ds → (ds.lookup f = none → vs.lookup f = none) ∧ ∀ d, ds.lookup f = some d → ∃ v, vs.lookup f = some v ∧ Rep K M Z H v d
  | _, _, .nil => ⟨fun _ => rfl, fun d e => by cases e⟩
  | _, _, .cons (k := g) (v := v) (d := d) (vs := vs) (ds := ds) r t => by
    rw [List.lookup_cons, List.lookup_cons]
    cases hg : f == g with
    | true =>
      refine ⟨fun e => ?_, fun d e => ?_⟩
      · cases e
      · cases e; exact ⟨_, rfl, r⟩
    | false => exact RepF.lookup f t
theorem RepF.length {K : PySem.W.Frag} {M : Mp} {Z : Zn} {H : Hp} : ∀ {vs : List (Str × V)} {ds : List (Str × D)}, RepF K M Z H vs ds → vs.length = ds.length
  | _, _, .nil => rfl
  | _, _, .cons _ t => by rw [List.length_cons, List.length_cons, t.length]
/-- the fields, one stored -/
def putD (f : Str) (d : D) : List (Str × D) → List (Str × D)
  | [] => [(f, d)]
  | (g, y) :: r => if g = f then (g, d) :: r else (g, y) :: putD f d r
theorem RepF.put {K : PySem.W.Frag} {M : Mp} {Z : Zn} {H : Hp} {f : Str} {v : V} {d : D} (r : Rep K M Z H v d) : ∀ {vs : List (Str × V)} {ds : List (Str × D)}, RepF K M Z H vs ds → RepF K M Z H (putF f v vs) (putD f d ds)
  | _, _, .nil => .cons r .nil
  | _, _, .cons (k := g) r' t => by
    unfold putF putD
    by_cases h : g = f
    · rw [if_pos h, if_pos h]; exact .cons r t
    · rw [if_neg h, if_neg h]; exact .cons r' (RepF.put r t)
end
end DL
namespace DL
open PySem PySem.Spec PyProof.Rows L2
section
variable {X : Cx} {ρ : Rho} {M : Mp} {Φ : D → Mp → Prop} {Θ : Bool → Mp → Prop} {a b e : Expr} {pos : Pos} {K : PySem.W.Frag}
/-- the answer of == between scalars -/
def EqS : D → D → Bool → Prop
  | .int i, .int j, c => c = decide (i = j)
  | .str i, .str j, c => c = decide (i = j)
  | .bl i, .bl j, c => c = decide (i = j)
  | .non, .non, c => c = true
  | .non, .int _, c => c = false
  | .int _, .non, c => c = false
  | .non, .str _, c => c = false
  | .str _, .non, c => c = false
  | .int _, .str _, c => c = false
  | .str _, .int _, c => c = false
  | _, _, _ => False
theorem EqS.rep {x y : D} {c : Bool} {M : Mp} {Z : Zn} {H : Hp} {v u : V} (h : EqS x y c) (r1 : Rep K M Z H v x) (r2 : Rep K M Z H u y) : scal v u = true ∧ decide (v = u) = c := by
  cases r1 <;> cases r2 <;> first
    | (cases h; exact ⟨rfl, by simp⟩)
    | (exact False.elim h)
    | (cases h; exact ⟨rfl, rfl⟩)
mutual
def toPy : D → Option PyData
  | .non => some .none
  | .bl b => some (.bool b)
  | .int i => some (.int i)
  | .str x => some (.str x)
  | .lst xs => (toPys xs).map .list
  | .rol xs => (toPys xs).map .list
  | .tup xs => (toPys xs).map .tuple
  | _ => none
def toPys : List D → Option (List PyData)
  | [] => some []
  | x :: xs => (toPy x).bind fun d => (toPys xs).map fun ds => d :: ds
end
/-- the items of a slice -/
def cutD {α : Type} (xs : List α) (lo hi : Option Int) : List α := (xs.drop (HT.sIx xs.length 0 lo)).take (HT.sIx xs.length xs.length hi - HT.sIx xs.length 0 lo)
theorem Reps.cut {M : Mp} {Z : Zn} {H : Hp} {vs : List V} {ds : List D} (r : Reps K M Z H vs ds) (lo hi : Option Int) : Reps K M Z H (cutV vs lo hi) (cutD ds lo hi) := by
  unfold cutV cutD
  rw [r.length]
  exact (r.drop _).take _
end
end DL
namespace DL
open PySem PySem.Spec PyProof.Rows L2
section
variable {K : PySem.W.Frag} {M : Mp} {Z : Zn} {H : Hp}
theorem Reps.set {v : V} {d : D} (r : Rep K M Z H v d) : ∀ {vs : List V} {ds : List D} (j : Nat), Reps K M Z H vs ds → Reps K M Z H (vs.set j v) (ds.set j d)
  | _, _, _, .nil => .nil
  | _, _, 0, .cons _ t => .cons r t
  | _, _, j + 1, .cons q t => .cons q (Reps.set r j t)
theorem Reps.one {vs : List V} {d : D} (r : Reps K M Z H vs [d]) : ∃ v, vs = [v] ∧ Rep K M Z H v d := by
  cases r with
  | cons r t => cases t; exact ⟨_, rfl, r⟩
theorem Reps.two {vs : List V} {d e : D} (r : Reps K M Z H vs [d, e]) : ∃ v u, vs = [v, u] ∧ Rep K M Z H v d ∧ Rep K M Z H u e := by
  cases r with
  | cons r t =>
    obtain ⟨u, rfl, r2⟩ := t.one
    exact ⟨_, u, rfl, r, r2⟩
end
section
variable {X : Cx} {ρ : Rho} {M : Mp} {Φ : D → Mp → Prop} {Θ : Bool → Mp → Prop} {a b e o : Expr} {es : List Expr} {pos p apos : Pos} {x : Str}
/-- the class of data, as the fragment's deciders take it -/
def TyD (M : Mp) : D → Value → Prop
  | .non, t => t = .type "NoneType"
  | .bl _, t => t = .type "bool"
  | .int _, t => t = .type "int"
  | .str _, t => t = .type "str"
  | .lst _, t => t = .type "list"
  | .tup _, t => t = .type "tuple"
  | .dK _, t => t = .type "dict"
  | .dT _, t => t = .type "dict"
  | .ins C _, t => t = .ref C
  | _, _ => False
/-- what isinstance asks of an own class -/
structure OwnC (K : PySem.W.Frag) (C : Addr) : Prop where
  cl : Cls K C
  ha : PySem.W.findIn K (.ref C) "__class__" = some (some (.builtin "object.__class__"))
  hn : PySem.W.specialIn K (.builtin "object.__class__") "__get__" = some (some (.builtin "getset_descriptor.__get__"))
  htk : PySem.W.takesIn K (.builtin "object.__class__") = some true
  hm : PySem.W.mroIn K C (.type "object") = some true
theorem TyD.rep {K : PySem.W.Frag} {M : Mp} {Z : Zn} {H : Hp} {v : V} {d : D} {t : Value} (r : Rep K M Z H v d) (h : TyD M d t) (own : ∀ C, t = .ref C → OwnC K C) : TyX K H v t := by
  cases r with
  | non => cases h; exact .base .non
  | bl b => cases h; exact .base (.bl b)
  | int i => cases h; exact .base (.int i)
  | str x => cases h; exact .base (.str x)
  | lst h1 m r => cases h; exact .base (.lst h1)
  | tup h1 m r =>
    cases h
    rcases h1 with h1 | ⟨o, h1⟩
    · exact .base (.tup h1)
    · exact .fTuple h1
  | tupK h1 r =>
    cases h
    obtain ⟨o, its, n, hk, hc, _⟩ := h1
    exact .kTuple hk hc
  | dK h1 m r => cases h; exact .base (.dK h1)
  | dT h1 m r => cases h; exact .base (.dT h1)
  | ins h1 m r =>
    cases h
    obtain ⟨cl, ha, hn, htk, hm⟩ := own _ rfl
    exact .base (.ins h1 cl ha hn htk hm)
  | _ => cases h
end
end DL
namespace DL
open PySem PySem.Spec PyProof.Rows L2
/-- at a a dict of the top: these texts with these values, in this order -/
def WrD (K : PySem.W.Frag) (w : World) (a : Addr) (kvs : List (Str × V)) : Prop := ∃ es n, K.lookup a = some ⟨.type "dict", none, .dict es n, #[]⟩ ∧ (a == sysModules) = false ∧ PySem.W.KeysLit w.params es.toList ∧
  Paired (fun (p : Str × V) (e : DictEntry) => (∃ t, e.key = .str p.1 t) ∧ RelV p.2 e.val) kvs es.toList ∧ (kvs.map (·.1)).Nodup
section
variable {X : Cx} {ρ : Rho} {M : Mp} {a : Addr} {e f : Expr} {pos p apos : Pos} {x : Str} {kvs : List (Str × V)}
theorem RepF.get {K : PySem.W.Frag} {M : Mp} {Z : Zn} {H : Hp} : ∀ {vs : List (Str × V)} {ds : List (Str × D)} {i : Nat} {k : Str} {d : D}, RepF K M Z H vs ds → ds[i]? = some (k, d) → ∃ v, vs[i]? = some (k, v) ∧ Rep K M Z H v d
  | _, _, _, _, _, .nil, e => by simp at e
  | _, _, 0, _, _, .cons r _, e => by simp at e; obtain ⟨rfl, rfl⟩ := e; exact ⟨_, rfl, r⟩
  | _, _, i + 1, k, d, .cons _ t, e => by
    obtain ⟨u, h1, h2⟩ := RepF.get (i := i) (d := d) t (by simpa using e)
    exact ⟨u, by simpa using h1, h2⟩
end
end DL
namespace DL
open PySem PySem.Spec PyProof.Rows L2
/-- lists of such -/
structure CmpDs (ds : List D) (ps : List PyData) (k : Nat) : Prop where
  eq : toPys ds = some ps
  lay : PyData.canLayAll0 ps = true
  dep : PyData.depthAll ps ≤ k
theorem CmpDs.length {k : Nat} : ∀ {ds : List D} {ps : List PyData}, CmpDs ds ps k → ps.length = ds.length
  | [], ps, h => by
    have := h.eq
    simp only [toPys, Option.some.injEq] at this
    rw [← this]; rfl
  | d :: ds, ps, h => by
    have := h.eq
    simp only [toPys] at this
    obtain ⟨p, e1, e2⟩ := Option.bind_eq_some_iff.mp this
    obtain ⟨qs, e3, rfl⟩ := Option.map_eq_some_iff.mp e2
    have l := h.lay
    have dd := h.dep
    simp only [PyData.canLayAll0, Bool.and_eq_true, PyData.depthAll] at l dd
    rw [List.length_cons, List.length_cons, CmpDs.length (k := k) ⟨e3, l.2, by omega⟩]
end DL
namespace DL
open PySem PySem.Spec PyProof.Rows L2
/-- as FnOk, where nothing is being shown -/
structure FnG (P : Program) (w : World) (K : PySem.W.Frag) (mg : Str → Option Value) (base : Heap) (k : Nat) (f : Addr) (fd : FuncData) (ps : List Str) (sp : Sp) : Prop where
  len : ∀ vs H Q E, sp vs H Q E → vs.length = ps.length
  run : ∀ (A : Around) (outer : List Env) (s : Shared) (H : Hp) (args : Args) (us : List Value) (vs : List V) (Q : VK) (E : XK), A.guards = some [] → Room k A → Env0 P w K mg base A outer s H → BindsTo s fd args (ps.zip us) → Vals vs us → sp vs H Q E →
    codeAny (model P w) A (.call (.ref f) args) (CR CX0 outer P w H s Q E) s
section
variable {P : Program} {w : World} {K : PySem.W.Frag} {mg : Str → Option Value} {base : Heap} {x qual : Str} {st : Stmt} {kws : List (Str × V)} {f : Addr} {fd : FuncData} {N ps : List Str} {k n : Nat} {c : Con}
theorem FnOk.g {sp : Sp} (F : FnOk P w K mg base CX0 k f fd ps sp) : FnG P w K mg base k f fd ps sp := ⟨F.len, fun A outer s H args us vs Q E _ => F.run A outer s H args us vs Q E⟩
end
end DL
namespace DL
open PySem PySem.Spec PyProof.Rows L2
section
variable {X : Cx} {ρ : Rho} {M : Mp} {Φ : D → Mp → Prop} {Θ : Bool → Mp → Prop} {a b e o i : Expr} {es : List Expr} {pos p : Pos}
def valD (kvs : List (List Key × D)) (k : List Key) : Option D := (kvs.find? fun kv => decide (kv.1 = k)).map (·.2)
def putT (kvs : List (List Key × D)) (k : List Key) (d : D) : List (List Key × D) := if (kvs.any fun kv => decide (kv.1 = k)) = true then kvs.map (fun kv => if kv.1 = k then (kv.1, d) else kv) else kvs ++ [(k, d)]
theorem RepT.length {K : PySem.W.Frag} {M : Mp} {Z : Zn} {H : Hp} : ∀ {vs : List (List Key × V)} {ds : List (List Key × D)}, RepT K M Z H vs ds → vs.length = ds.length
  | _, _, .nil => rfl
  | _, _, .cons _ t => by rw [List.length_cons, List.length_cons, RepT.length t]
theorem RepT.val {K : PySem.W.Frag} {M : Mp} {Z : Zn} {H : Hp} {k : List Key} {d : D} : ∀ {vs : List (List Key × V)} {ds : List (List Key × D)}, RepT K M Z H vs ds → valD ds k = some d → ∃ v, valV vs k = some v ∧ Rep K M Z H v d
  | _, _, .nil, h => by cases h
  | _, _, .cons (k := j) (v := v) (d := d0) (vs := vs) (ds := ds) r t, h => by
    by_cases e : j = k
    · have h2 : some d0 = some d := by rw [← h]; unfold valD; rw [List.find?_cons_of_pos (by simpa using e)]; rfl
      cases h2
      exact ⟨v, valV_pos (p := (j, v)) e, r⟩
    · have h2 : valD ds k = some d := by rw [← h]; unfold valD; rw [List.find?_cons_of_neg (by simpa using e)]
      obtain ⟨u, hu, ru⟩ := RepT.val t h2
      exact ⟨u, by rw [valV_neg (p := (j, v)) e]; exact hu, ru⟩
theorem RepT.any {K : PySem.W.Frag} {M : Mp} {Z : Zn} {H : Hp} {k : List Key} : ∀ {vs : List (List Key × V)} {ds : List (List Key × D)}, RepT K M Z H vs ds → (vs.any fun kv => decide (kv.1 = k)) = ds.any fun kv => decide (kv.1 = k)
  | _, _, .nil => rfl
  | _, _, .cons r t => by rw [List.any_cons, List.any_cons, RepT.any t]
theorem RepT.snoc {K : PySem.W.Frag} {M : Mp} {Z : Zn} {H : Hp} {k : List Key} {v : V} {d : D} (r : Rep K M Z H v d) : ∀ {vs : List (List Key × V)} {ds : List (List Key × D)}, RepT K M Z H vs ds → RepT K M Z H (vs ++ [(k, v)]) (ds ++ [(k, d)])
  | _, _, .nil => .cons r .nil
  | _, _, .cons r1 t => .cons r1 (RepT.snoc r t)
theorem RepT.repl {K : PySem.W.Frag} {M : Mp} {Z : Zn} {H : Hp} {k : List Key} {v : V} {d : D} (r : Rep K M Z H v d) : ∀ {vs : List (List Key × V)} {ds : List (List Key × D)}, RepT K M Z H vs ds → RepT K M Z H (vs.map fun kv => if kv.1 = k then (kv.1, v) else kv) (ds.map fun kv => if kv.1 = k then (kv.1, d) else kv)
  | _, _, .nil => .nil
  | _, _, .cons (k := j) r1 t => by
    rw [List.map_cons, List.map_cons]
    by_cases e : j = k
    · simp only [if_pos e]; exact .cons r (RepT.repl r t)
    · simp only [if_neg e]; exact .cons r1 (RepT.repl r t)
theorem RepT.put {K : PySem.W.Frag} {M : Mp} {Z : Zn} {H : Hp} {k : List Key} {v : V} {d : D} {vs : List (List Key × V)} {ds : List (List Key × D)} (r : Rep K M Z H v d) (t : RepT K M Z H vs ds) : RepT K M Z H (putK vs k v) (putT ds k d) := by
  unfold putK putT
  rw [t.any]
  split
  · exact t.repl r
  · exact t.snoc r
end
end DL
namespace DL
open PySem PySem.Spec PyProof.Rows L2 SlX
/-- a class with these slots -/
structure SlC (K : PySem.W.Frag) (C : Addr) (fs : List Str) : Prop where
  sc : SCls K C
  sl : ∀ (i : Nat) (f : Str), fs[i]? = some f → ∃ p, Slot1 K C f p i
end DL
namespace HK
open PySem PySem.Spec PyProof.Rows L2 DL He
/-- a def of the text: where it stands -/
structure Dd where
  adr : PySem.W.Frag → Addr
  name : Str
  qual : Str
  st : Stmt
  dfl : List V := []
  dfg : List Str := []
/-- the defaults: shown ones, then what stands under names -/
def Dd.dvs (d : Dd) (K : PySem.W.Frag) : List V := d.dfl ++ d.dfg.map fun x => V.ref (ga K x)
def fnA (K : PySem.W.Frag) (a : Addr) : FnW := match K.lookup a with
  | some ⟨_, _, .func fd, _⟩ => some (fd.name, fd.qualname, fd.params, fd.body, fd.scope, fd.globals, fd.closure, fd.builtins)
  | _ => none
def Dd.val (d : Dd) : FnW := some (d.name, d.qual, defArgs d.st, .stmts (defBody d.st), defScope d.st, mainGlobals, [], builtinsNs)
def Dd.ok (K : PySem.W.Frag) (d : Dd) : Bool := PySem.W.keepIn K (.ref (d.adr K)) && (match K.lookup (d.adr K) with
  | some ⟨_, _, .func fd, _⟩ => PySem.W.codeIn K fd.code d.qual && dflB K fd.defaults (d.dvs K)
  | _ => false)
theorem Dd.funD {K : PySem.W.Frag} {d : Dd} (e : fnA K (d.adr K) = d.val) (c : d.ok K = true) : ∃ fd, FunD K d.name d.qual (defArgs d.st) (defBody d.st) (defScope d.st) (d.dvs K) [] (d.adr K) fd := by
  obtain ⟨kp, c2⟩ := Bool.and_eq_true_iff.mp c
  unfold fnA at e
  cases q : K.lookup (d.adr K) with
  | none => rw [q] at c2; cases c2
  | some o =>
    obtain ⟨oc, od, dt, osl⟩ := o
    rw [q] at c2 e
    cases dt with
    | func fd =>
      obtain ⟨x1, x2, x3, x4, x5, x6, x7, x8, x9, x10, x11, x12, x13, x14, x15⟩ := fd
      have e2 : (some (x1, x2, x3, x4, x5, x6, x7, x15) : FnW) = some (d.name, d.qual, defArgs d.st, .stmts (defBody d.st), defScope d.st, mainGlobals, [], builtinsNs) := e
      simp only [Option.some.injEq, Prod.mk.injEq] at e2
      obtain ⟨h1, h2, h3, h4, h5, h6, h7, h8⟩ := e2
      subst h1 h2 h3 h4 h5 h6 h7 h8
      obtain ⟨y1, y2⟩ := Bool.and_eq_true_iff.mp (show (PySem.W.codeIn K x13 d.qual && dflB K x8 (d.dvs K)) = true from c2)
      exact ⟨_, ⟨oc, od, x8, x9, x10, x11, x12, x13, x14, osl, rfl, q, y1, dflB_ok y2, .inl rfl⟩, kp⟩
    | _ => cases c2
/-- the getter of a property -/
def pgA (C m : Str) (K : PySem.W.Frag) : Addr := match PySem.W.recIn K (ma K (ga K C) m) "property" with
  | some (.ref g :: _) => g
  | _ => 0
def propB (K : PySem.W.Frag) (q : Str × Str) : Bool := eqO (PySem.W.findIn K (.ref (ga K q.1)) q.2) (some (some (.ref (ma K (ga K q.1) q.2)))) && (eqO (PySem.W.specialIn K (.ref (ma K (ga K q.1) q.2)) "__get__") (some (some (.builtin "property.__get__"))) &&
  (decide (PySem.W.takesIn K (.ref (ma K (ga K q.1) q.2)) = some true) && (match PySem.W.recIn K (ma K (ga K q.1) q.2) "property" with
  | some (.ref _ :: _) => true
  | _ => false)))
/-- a value: a text, a tuple of texts, an int -/
inductive Dt where
  | s (z : Str) | t (zs : List Str) | i (n : Int)
def Dt.d : Dt → D
  | .s z => .str z
  | .t zs => .tup (zs.map D.str)
  | .i n => .int n
def Dt.ok (K : PySem.W.Frag) : Dt → Value → Bool
  | .s z, .str y _ => decide (y = z)
  | .i n, .int m _ => decide (m = n)
  | .t zs, .ref b => (match K.lookup b with
    | some ⟨.type c, _, .seq its _, _⟩ => decide (c = "tuple") && (decide (its.size ≤ sizeLine) && relAll (zs.map V.str) its.toList)
    | _ => false)
  | _, _ => false
theorem Dt.rep {K : PySem.W.Frag} {x : Dt} {u : Value} (h : x.ok K u = true) : ∃ v, RelV v u ∧ ∀ M Z H, Rep K M Z H v x.d := by
  cases x with
  | s z =>
    cases u with
    | str y t =>
      obtain rfl : y = z := of_decide_eq_true h
      exact ⟨.str y, ⟨t, rfl⟩, fun _ _ _ => .str y⟩
    | _ => cases h
  | i n =>
    cases u with
    | int y t =>
      obtain rfl : y = n := of_decide_eq_true h
      exact ⟨.int y, ⟨t, rfl⟩, fun _ _ _ => .int y⟩
    | _ => cases h
  | t zs =>
    cases u with
    | ref b =>
      refine ⟨.ref b, rfl, fun M Z H => ?_⟩
      cases q : K.lookup b with
      | none => simp only [Dt.ok, q] at h; cases h
      | some o =>
        obtain ⟨oc, od, dt, osl⟩ := o
        simp only [Dt.ok, q] at h
        cases oc with
        | type c =>
          cases dt with
          | seq its n =>
            obtain ⟨h1, h2⟩ := Bool.and_eq_true_iff.mp (show (decide (c = "tuple") && (decide (its.size ≤ sizeLine) && relAll (zs.map V.str) its.toList)) = true from h)
            obtain ⟨h3, h4⟩ := Bool.and_eq_true_iff.mp h2
            exact .tupK ⟨_, its, n, q, congrArg Value.type (of_decide_eq_true h1), rfl, of_decide_eq_true h3, relAll_ok h4⟩ (Reps.ofStrs zs)
          | _ => cases h
        | _ => cases dt <;> cases h
    | _ => cases h
def entsB (K : PySem.W.Frag) : List (Str × Dt) → List DictEntry → Bool
  | [], [] => true
  | q :: qs, e :: es => (match e.key with
    | .str x _ => decide (x = q.1)
    | _ => false) && (q.2.ok K e.val && entsB K qs es)
  | _, _ => false
theorem entsB_ok {K : PySem.W.Frag} : ∀ {qs : List (Str × Dt)} {es : List DictEntry}, entsB K qs es = true → ∃ kvs : List (Str × V), Paired (fun (p : Str × V) (e : DictEntry) => (∃ t, e.key = .str p.1 t) ∧ RelV p.2 e.val) kvs es ∧ kvs.map (·.1) = qs.map (·.1) ∧ ∀ M Z H, RepF K M Z H kvs (qs.map fun q => (q.1, q.2.d))
  | [], [], _ => ⟨[], .nil, rfl, fun _ _ _ => .nil⟩
  | [], _ :: _, h => by cases h
  | _ :: _, [], h => by cases h
  | q :: qs, e :: es, h => by
    obtain ⟨h1, h2⟩ := Bool.and_eq_true_iff.mp (show ((match e.key with | .str x _ => decide (x = q.1) | _ => false) && (q.2.ok K e.val && entsB K qs es)) = true from h)
    obtain ⟨h3, h4⟩ := Bool.and_eq_true_iff.mp h2
    obtain ⟨kvs, a1, a2, a3⟩ := entsB_ok h4
    obtain ⟨v, b1, b2⟩ := Dt.rep h3
    refine ⟨(q.1, v) :: kvs, .cons ⟨?_, b1⟩ a1, by rw [List.map_cons, List.map_cons, a2], fun M Z H => .cons (b2 M Z H) (a3 M Z H)⟩
    cases hk : e.key with
    | str x t =>
      rw [hk] at h1
      exact ⟨t, by rw [of_decide_eq_true h1]⟩
    | _ => rw [hk] at h1; cases h1
def dicB (K : PySem.W.Frag) (q : Str × List (Str × Dt)) : Bool := match K.lookup (ga K q.1) with
  | some ⟨_, _, .dict es _, _⟩ => entsB K q.2 es.toList
  | _ => false
theorem dicB_ok {K : PySem.W.Frag} {w : World} {x : Str} {qs : List (Str × Dt)} (h : dicB K (x, qs) = true) (hk : dicW K (ga K x) = some (keysIn w.params (qs.map (·.1)))) (nd : (qs.map (·.1)).Nodup) :
    ∃ kvs, WrD K w (ga K x) kvs ∧ ∀ M Z H, RepF K M Z H kvs (qs.map fun q => (q.1, q.2.d)) := by
  obtain ⟨es, n, h1, h2, h3⟩ := dicW_ok hk
  unfold dicB at h
  rw [h1] at h
  obtain ⟨kvs, a1, a2, a3⟩ := entsB_ok (show entsB K qs es.toList = true from h)
  exact ⟨kvs, ⟨es, n, h1, h3, h2, a1, by rw [a2]; exact nd⟩, a3⟩
def slAll (K : PySem.W.Frag) (G : Addr) : Nat → List Str → Bool
  | _, [] => true
  | i, f :: fs => eqO (PySem.W.findIn K (.ref G) f) (some (some (.ref (ma K G f)))) && (eqO (PySem.W.specialIn K (.ref (ma K G f)) "__get__") (some (some (.builtin "member_descriptor.__get__"))) && (decide (PySem.W.takesIn K (.ref (ma K G f)) = some true) && (decide (PySem.W.typeIn K (.ref (ma K G f)) = some (.type "member_descriptor")) && (decide (PySem.W.slotIn K (ma K G f) G = some i) && (decide (i < 1000) && slAll K G (i + 1) fs)))))
theorem slAll_ok {K : PySem.W.Frag} {G : Addr} : ∀ {fs : List Str} {k : Nat}, slAll K G k fs = true → ∀ (i : Nat) (f : Str), fs[i]? = some f → ∃ p, SlX.Slot1 K G f p (k + i)
  | [], _, _, i, f, h => by simp at h
  | f0 :: fs, k, hb, i, f, h => by
    obtain ⟨h1, hb⟩ := Bool.and_eq_true_iff.mp (show (eqO (PySem.W.findIn K (.ref G) f0) (some (some (.ref (ma K G f0)))) && (eqO (PySem.W.specialIn K (.ref (ma K G f0)) "__get__") (some (some (.builtin "member_descriptor.__get__"))) && (decide (PySem.W.takesIn K (.ref (ma K G f0)) = some true) && (decide (PySem.W.typeIn K (.ref (ma K G f0)) = some (.type "member_descriptor")) && (decide (PySem.W.slotIn K (ma K G f0) G = some k) && (decide (k < 1000) && slAll K G (k + 1) fs)))))) = true from hb)
    obtain ⟨h2, hb⟩ := Bool.and_eq_true_iff.mp hb
    obtain ⟨h3, hb⟩ := Bool.and_eq_true_iff.mp hb
    obtain ⟨h4, hb⟩ := Bool.and_eq_true_iff.mp hb
    obtain ⟨h5, hb⟩ := Bool.and_eq_true_iff.mp hb
    obtain ⟨h6, hb⟩ := Bool.and_eq_true_iff.mp hb
    cases i with
    | zero =>
      obtain rfl := Option.some.inj h
      exact ⟨_, eqO_ok h1, eqO_ok h2, of_decide_eq_true h3, of_decide_eq_true h4, of_decide_eq_true h5, of_decide_eq_true h6⟩
    | succ i =>
      obtain ⟨p, q⟩ := slAll_ok hb i f h
      exact ⟨p, by rw [show k + (i + 1) = k + 1 + i by omega]; exact q⟩
def slB (K : PySem.W.Frag) (q : Str × List Str) : Bool := PySem.W.plainGet K (ga K q.1) Str.empty && (PySem.W.isClsIn K (ga K q.1) && (PySem.W.plainOver K (ga K q.1) && (eqO (PySem.W.findIn K (.ref (ga K q.1)) "__setattr__") (some (some (.builtin "object.__setattr__"))) && slAll K (ga K q.1) 0 q.2)))
theorem slB_ok {K : PySem.W.Frag} {x : Str} {fs : List Str} (h : slB K (x, fs) = true) : SlC K (ga K x) fs := by
  obtain ⟨h1, h⟩ := Bool.and_eq_true_iff.mp h
  obtain ⟨h2, h⟩ := Bool.and_eq_true_iff.mp h
  obtain ⟨h3, h⟩ := Bool.and_eq_true_iff.mp h
  obtain ⟨h4, h⟩ := Bool.and_eq_true_iff.mp h
  refine ⟨⟨h1, h2, h3, eqO_ok h4⟩, fun i f hf => ?_⟩
  obtain ⟨p, q⟩ := slAll_ok h i f hf
  exact ⟨p, by rw [Nat.zero_add] at q; exact q⟩
def eqB (K : PySem.W.Frag) (x : Str) : Bool := PySem.W.selfFirst K (ga K x) && ((Fa.cls x).ok K && (eqO (PySem.W.findIn K (.ref (ga K x)) "__class__") (some (some (.builtin "object.__class__"))) && (eqO (PySem.W.specialIn K (.builtin "object.__class__") "__get__") (some (some (.builtin "getset_descriptor.__get__"))) &&
  (decide (PySem.W.takesIn K (.builtin "object.__class__") = some true) && (decide (PySem.W.mroIn K (ga K x) (.type "object") = some true) && eqO (PySem.W.findIn K (.ref (ga K x)) "__ne__") (some (some (.builtin "object.__ne__"))))))))
def nonV : Value → Bool
  | .none => true
  | _ => false
/-- the class of errors at C -/
def excB (K : PySem.W.Frag) (C : Addr) : Bool := match K.lookup C with
  | some ⟨.type t, _, .cls cd, sl⟩ => decide (t = "type") && (match cd.mro, sl.toList with
    | .ref C' :: bm, [_, _, _, _, some (.builtin n), _] => decide (C' = C) && (decide (n = "ValueError.__new__") && (!cd.hasDel && (cd.hasDict && PySem.HandSPX.refsVE bm)))
    | _, _ => false)
  | _ => false
/-- what XL.ErTxt and XL.ErV ask of the class of the name x -/
def erB (K : PySem.W.Frag) (x : Str) : Bool := [excB K (ga K x), PySem.W.excInitIn K (ga K x) [.type "ValueError", .type "Exception", .type "BaseException", .type "object"] "ValueError.__new__",
  eqO (PySem.W.findIn K (.ref (ga K x)) "__setattr__") (some (some (.builtin "object.__setattr__"))), eqO (PySem.W.findIn K (.ref (ga K x)) "__getattribute__") (some (some (.builtin "BaseException.__getattribute__"))), eqO (PySem.W.findIn K (.ref (ga K x)) "__getattr__") (some none),
  eqO (PySem.W.findIn K (.ref (ga K x)) "value") (some none), eqO (PySem.W.findIn K (.ref (ga K x)) "__init__") (some (some (.ref (ma K (ga K "CrowdError") "__init__")))), PySem.W.keepIn K (.ref (ga K x)), decide (PySem.W.subIn K (.ref (ga K x)) (.type "BaseException") = some true), decide (PySem.W.subIn K (.ref (ga K x)) (.type "ValueError") = some true),
  decide (PySem.W.subIn K (.ref (ga K x)) (.ref (ga K "CrowdError")) = some true), decide (PySem.W.typeIn K (.ref (ga K x)) = some (.type "type")), PySem.W.hasDictIn K (ga K x), eqO (PySem.W.ks_superIn K (ga K x) (ga K "CrowdError") "__init__") (some (some (.builtin "ValueError.__init__"))),
  (PySem.W.clsIn K (ga K x)).isSome, eqO (PySem.W.findIn K (.ref (ga K x)) "__class__") (some (some (.builtin "object.__class__"))), eqO (PySem.W.specialIn K (.builtin "object.__class__") "__get__") (some (some (.builtin "getset_descriptor.__get__"))), decide (PySem.W.takesIn K (.builtin "object.__class__") = some true), decide (PySem.W.mroIn K (ga K x) (.type "object") = some true), decide (PySem.W.kitOne K (.type "NoneType") (.ref (ga K x)) = some false), decide (PySem.W.exmOne K (.ref (ga K x)) (.ref (ga K "CrowdError")) = some true)].all id
/-- a def with a closure, the closure left out -/
def fnZ (K : PySem.W.Frag) (a : Addr) : FnW := match K.lookup a with
  | some ⟨_, _, .func fd, _⟩ => some (fd.name, fd.qualname, fd.params, fd.body, fd.scope, fd.globals, [], fd.builtins)
  | _ => none
def crA (K : PySem.W.Frag) : Addr := ma K (ga K "CrowdError") "__init__"
def crVal (st : Stmt) : FnW := some ("__init__", "CrowdError.__init__", defArgs st, .stmts (defBody st), defScope st, mainGlobals, [], builtinsNs)
/-- what XL.CrTxt asks besides -/
def crB (K : PySem.W.Frag) (file : Str) : Bool := (match K.lookup (crA K) with
    | some ⟨_, _, .func fd, _⟩ => (match fd.closure, fd.code with
      | [(y, cl)], .ref cc => decide (y = "__class__") && (nonV fd.defaults && (nonV fd.kwdefaults && (PySem.W.codeIn K (.ref cc) "CrowdError.__init__" && ((match K.lookup cc with
        | some ⟨_, _, .fields vs, _⟩ => (match (vs[2]? : Option Value) with
          | some (.str f _) => decide (f = file)
          | _ => false)
        | _ => false) && (match K.lookup cl with
        | some ⟨_, _, .cell (some (.ref b)), _⟩ => decide (b = ga K "CrowdError")
        | _ => false)))))
      | _, _ => false)
    | _ => false) && ((PySem.W.clsIn K (ga K "CrowdError")).isSome && (decide (PySem.W.typeIn K (.ref (crA K)) = some (.type "function")) && eqO (PySem.W.nsIn K cStatics "thirdparty.any") (some none)))
/-- isinstance of classes -/
def kiB (K : PySem.W.Frag) (q : Str × Str × Bool) : Bool := decide (PySem.W.kitOne K (.ref (ga K q.1)) (.ref (ga K q.2.1)) = some q.2.2)
/-- a def that makes lambdas: its table is none of what is known -/
def tbB (K : PySem.W.Frag) (x : Str) : Bool := match PySem.W.tabIn K x with
  | some p => (K.lookup p.2).isNone
  | none => false
/-- two such have two tables -/
def tdB (K : PySem.W.Frag) (q : Str × Str) : Bool := decide ((PySem.W.tabIn K q.1).map (·.2) ≠ (PySem.W.tabIn K q.2).map (·.2))
structure Sp where
  fa : List Fa
  dd : List Dd
  pr : List (Str × Str)
  ta : List (Str × List (Str × Dt))
  sl : List (Str × List Str)
  eq : List Str
  tx : List (Str × List Str)
  er : List Str := []
  ki : List (Str × Str × Bool) := []
  tb : List Str := []
  td : List (Str × Str) := []
  ba : List (Str × Stmt) := []
abbrev Al : Type := Bool × List FnW × List (Option (List (Option (Str × Int)))) × List FnW
def bosK (S : Sp) (K : PySem.W.Frag) : Bool := (S.fa.all fun f => f.ok K) && ((S.dd.all fun d => d.ok K) && ((S.pr.all fun q => propB K q) && ((S.ta.all fun q => dicB K q) && ((S.sl.all fun q => slB K q) && ((S.eq.all fun x => eqB K x) && ((S.tx.all fun q => (Dt.t q.2).ok K (.ref (ga K q.1))) && ((S.er.all fun x => erB K x) && ((S.ki.all fun q => kiB K q) && ((S.tb.all fun x => tbB K x) && ((S.td.all fun q => tdB K q) && S.ba.all fun q => crB K q.1))))))))))
def obsK (S : Sp) (K : PySem.W.Frag) : Al := (bosK S K, S.dd.map (fun d => fnA K (d.adr K)), S.ta.map (fun q => dicW K (ga K q.1)), S.ba.map fun _ => fnZ K (crA K))
def valK (S : Sp) (w : World) : Al := (true, S.dd.map Dd.val, S.ta.map (fun q => some (keysIn w.params (q.2.map (·.1)))), S.ba.map fun q => crVal q.2)
def Says (S : Sp) (w : World) (K : PySem.W.Frag) : Prop := obsK S K = valK S w
/-- what these names of the module reach, step by step -/
def lv0 (ns : List Str) (g : Addr → Option Obj) : List Addr := match g mainGlobals with
  | some ⟨_, _, .dict es _, _⟩ => es.toList.flatMap fun e => match e.key with
    | .str y _ => if ns.contains y then refV e.val else []
    | _ => []
  | _ => []
def refsX (o : Obj) : List Addr := refsD o ++ match o.data with
  | .func fd => fd.closure.map (·.2)
  | _ => []
def lvs (g : Addr → Option Obj) : Nat → List Addr → List Addr
  | 0, l => l
  | n + 1, l => l ++ lvs g n (l.flatMap fun a => match g a with
    | some o => refsX o
    | none => [])
def asN (n : Nat) (ns ms : List Str) (g : Addr → Option Obj) : List Addr := mainGlobals :: cStatics :: (lvs g n (lv0 ns g) ++ lvs g 1 (lv0 ms g))
def obsG (n : Nat) (ns ms : List Str) (S : Sp) (g : Addr → Option Obj) : Al := obsK S (frG g (asN n ns ms g))
def hook (n : Nat) (ns ms : List Str) (S : Sp) : PySem.W.Hook where
  α := Al
  obs := fun s => obsG n ns ms S s.heap.get?
  val := fun w => valK S w
  says := fun w h => ∃ K : PySem.W.Frag, K.In h ∧ Says S w K
  of := fun _ _ e => ⟨_, frG_in, e⟩
  keeps := fun _ _ _ ⟨K, hK, c⟩ k => ⟨K, PySem.W.Frag.In.keeps hK k, c⟩
section
variable {S : Sp} {w : World} {K : PySem.W.Frag}
theorem Says.bos (c : Says S w K) : (((((((((((S.fa.all fun f => f.ok K) = true ∧ (S.dd.all fun d => d.ok K) = true) ∧ (S.pr.all fun q => propB K q) = true) ∧ (S.ta.all fun q => dicB K q) = true) ∧ (S.sl.all fun q => slB K q) = true) ∧ (S.eq.all fun x => eqB K x) = true) ∧ (S.tx.all fun q => (Dt.t q.2).ok K (.ref (ga K q.1))) = true) ∧ (S.er.all fun x => erB K x) = true) ∧ (S.ki.all fun q => kiB K q) = true) ∧ (S.tb.all fun x => tbB K x) = true) ∧ (S.ba.all fun q => crB K q.1) = true) ∧ (S.td.all fun q => tdB K q) = true := by
  have b : bosK S K = true := congrArg (fun z : Al => z.1) c
  unfold bosK at b
  simp only [Bool.and_eq_true] at b
  obtain ⟨a1, a2, a3, a4, a5, a6, a7, a8, a9, a10, a12, a11⟩ := b
  exact ⟨⟨⟨⟨⟨⟨⟨⟨⟨⟨⟨a1, a2⟩, a3⟩, a4⟩, a5⟩, a6⟩, a7⟩, a8⟩, a9⟩, a10⟩, a11⟩, a12⟩
theorem Says.fa (c : Says S w K) {f : Fa} (h : f ∈ S.fa) : f.ok K = true := List.all_eq_true.mp c.bos.1.1.1.1.1.1.1.1.1.1.1 f h
theorem Says.pr (c : Says S w K) {q : Str × Str} (h : q ∈ S.pr) : propB K q = true := List.all_eq_true.mp c.bos.1.1.1.1.1.1.1.1.1.2 q h
theorem Says.dd (c : Says S w K) (i : Nat) {d : Dd} (h : S.dd[i]? = some d) : ∃ fd, FunD K d.name d.qual (defArgs d.st) (defBody d.st) (defScope d.st) (d.dvs K) [] (d.adr K) fd := by
  have e : S.dd.map (fun d => fnA K (d.adr K)) = S.dd.map Dd.val := congrArg (fun z : Al => z.2.1) c
  have e2 : (S.dd.map fun d => fnA K (d.adr K))[i]? = (S.dd.map Dd.val)[i]? := by rw [e]
  rw [List.getElem?_map, List.getElem?_map, h] at e2
  exact Dd.funD (Option.some.inj e2) (List.all_eq_true.mp c.bos.1.1.1.1.1.1.1.1.1.1.2 d (List.mem_of_getElem? h))
theorem Says.ta (c : Says S w K) (i : Nat) {x : Str} {qs : List (Str × Dt)} (h : S.ta[i]? = some (x, qs)) (nd : (qs.map (·.1)).Nodup) : ∃ kvs, WrD K w (ga K x) kvs ∧ ∀ M Z H, RepF K M Z H kvs (qs.map fun q => (q.1, q.2.d)) := by
  have e : S.ta.map (fun q => dicW K (ga K q.1)) = S.ta.map fun q => some (keysIn w.params (q.2.map (·.1))) := congrArg (fun z : Al => z.2.2.1) c
  have e2 : (S.ta.map fun q => dicW K (ga K q.1))[i]? = (S.ta.map fun q => some (keysIn w.params (q.2.map (·.1))))[i]? := by rw [e]
  rw [List.getElem?_map, List.getElem?_map, h] at e2
  exact dicB_ok (List.all_eq_true.mp c.bos.1.1.1.1.1.1.1.1.2 _ (List.mem_of_getElem? h)) (Option.some.inj e2) nd
theorem Says.sl (c : Says S w K) {x : Str} {fs : List Str} (h : (x, fs) ∈ S.sl) : SlC K (ga K x) fs := slB_ok (List.all_eq_true.mp c.bos.1.1.1.1.1.1.1.2 _ h)
end
def Sp.app (S T : Sp) : Sp := ⟨S.fa ++ T.fa, S.dd ++ T.dd, S.pr ++ T.pr, S.ta ++ T.ta, S.sl ++ T.sl, S.eq ++ T.eq, S.tx ++ T.tx, S.er ++ T.er, S.ki ++ T.ki, S.tb ++ T.tb, S.td ++ T.td, S.ba ++ T.ba⟩
def Sp.lo (S : Sp) (a b : Nat) : Sp := ⟨S.fa.take a, S.dd.take b, S.pr, S.ta, S.sl, S.eq, S.tx, [], [], [], [], []⟩
def Sp.hi (S : Sp) (a b : Nat) : Sp := ⟨S.fa.drop a, S.dd.drop b, [], [], [], [], [], S.er, S.ki, S.tb, S.td, S.ba⟩
theorem Sp.cut (S : Sp) (a b : Nat) : (S.lo a b).app (S.hi a b) = S := by
  obtain ⟨fa, dd, pr, ta, sl, eq, tx, er, ki, tb, td, ba⟩ := S
  unfold Sp.app Sp.lo Sp.hi
  simp only [List.take_append_drop, List.append_nil, List.nil_append]
theorem obsK_app {S T : Sp} {w : World} {K : PySem.W.Frag} (h1 : obsK S K = valK S w) (h2 : obsK T K = valK T w) : obsK (S.app T) K = valK (S.app T) w := by
  have a1 : bosK S K = true := congrArg (fun z : Al => z.1) h1
  have a2 : bosK T K = true := congrArg (fun z : Al => z.1) h2
  have b1 : S.dd.map (fun d => fnA K (d.adr K)) = S.dd.map Dd.val := congrArg (fun z : Al => z.2.1) h1
  have b2 : T.dd.map (fun d => fnA K (d.adr K)) = T.dd.map Dd.val := congrArg (fun z : Al => z.2.1) h2
  have c1 : S.ta.map (fun q => dicW K (ga K q.1)) = S.ta.map fun q => some (keysIn w.params (q.2.map (·.1))) := congrArg (fun z : Al => z.2.2.1) h1
  have c2 : T.ta.map (fun q => dicW K (ga K q.1)) = T.ta.map fun q => some (keysIn w.params (q.2.map (·.1))) := congrArg (fun z : Al => z.2.2.1) h2
  have d1 : S.ba.map (fun _ => fnZ K (crA K)) = S.ba.map fun q => crVal q.2 := congrArg (fun z : Al => z.2.2.2) h1
  have d2 : T.ba.map (fun _ => fnZ K (crA K)) = T.ba.map fun q => crVal q.2 := congrArg (fun z : Al => z.2.2.2) h2
  have a : bosK (S.app T) K = true := by
    unfold bosK at a1 a2 ⊢
    unfold Sp.app
    simp only [Bool.and_eq_true] at a1 a2
    simp only [List.all_append, a1, a2, Bool.and_self, Bool.and_true, Bool.true_and]
  unfold obsK valK
  rw [a]
  unfold Sp.app
  simp only [List.map_append, b1, b2, c1, c2, d1, d2]
theorem map_pair {α β γ δ ε ζ : Type} {X : Option α} {p : α → β} {q : α → γ} {o1 : α → δ} {o2 : α → ε} {o : α → ζ} {u : β} {v : γ} {w1 : δ} {w2 : ε} {w : ζ} (h1 : X.map (fun s => (p s, q s, o1 s)) = some (u, v, w1)) (h2 : X.map (fun s => (p s, q s, o2 s)) = some (u, v, w2)) (k : ∀ s, o1 s = w1 → o2 s = w2 → o s = w) : X.map (fun s => (p s, q s, o s)) = some (u, v, w) := by
  cases X with
  | none => cases h1
  | some s =>
    have e1 := Option.some.inj h1
    have e2 := Option.some.inj h2
    show some (p s, q s, o s) = _
    rw [show p s = u from congrArg (fun z => z.1) e1, show q s = v from congrArg (fun z => z.2.1) e1, k s (congrArg (fun z => z.2.2) e1) (congrArg (fun z => z.2.2) e2)]
abbrev obT (n : Nat) (ns ms : List Str) (S : Sp) (s : PySem.W.SharedT) : Al := obsG n ns ms S (HandSHeadRun.getT s)
theorem run_cut {r : PySem.W.OpenRow} {q : Program} {n M : Nat} {ns ms loose : List Str} {S : Sp} {w : World} (a b : Nat) (h1 : HandSHeadRun.RunEq r q (hook n ns ms (S.lo a b)) (obT n ns ms (S.lo a b)) M loose w) (h2 : HandSHeadRun.RunEq r q (hook n ns ms (S.hi a b)) (obT n ns ms (S.hi a b)) M loose w) : HandSHeadRun.RunEq r q (hook n ns ms S) (obT n ns ms S) M loose w := fun os => by
  refine map_pair (h1 os) (h2 os) fun s e1 e2 => ?_
  have := obsK_app (S := S.lo a b) (T := S.hi a b) (w := w) e1 e2
  rw [Sp.cut] at this
  exact this
end HK
namespace PL
open PySem SX TL
/-- a plan: a person, an unknown crowd, so many copies, a row; false: beside, true: introduced -/
inductive T where
  | one | name (x : List Nat) | cop (s : Bool) (n : Nat) (t : T) | row (s : Bool) (ts : List T)
def cls (s : Bool) : Nat := if s then 125 else 93
mutual
def ht : T → Nat
  | .one => 0
  | .name _ => 0
  | .cop _ _ t => ht t + 1
  | .row _ ts => hts ts + 1
def hts : List T → Nat
  | [] => 0
  | t :: ts => max (ht t) (hts ts)
end
def wgt (c : Nat) : Int := (if c = 40 ∨ c = 91 ∨ c = 123 then 1 else 0) - (if c = 41 ∨ c = 93 ∨ c = 125 then 1 else 0)
def dep : List Nat → Int
  | [] => 0
  | c :: r => wgt c + dep r
/-- the rest of the walk through L: at place i, depth d, begin b, found f -/
def G (L S : List Nat) : List Nat → Nat → Int → Nat → List (List Nat) → List (List Nat)
  | [], _, _, b, f => f ++ [L.drop b]
  | c :: r, i, d, b, f => if d + wgt c = 0 ∧ pre S (c :: r) = true then G L S r (i + 1) (d + wgt c) (i + S.length) (f ++ [(L.take i).drop b]) else G L S r (i + 1) (d + wgt c) b f
end PL
namespace W
open PySem PySem.Spec PyProof.Rows L2 DL
abbrev pw : Program := PySem.Challenge.pw_greetall_k04_plans_made_of_plans
def top (i : Nat) : Stmt := pw.main.body.getD i (.Pass ⟨0, 0, 0, 0⟩)
abbrev s_CrowdError___init__ : Stmt := inClass (top 1) 0
abbrev s_is_integer : Stmt := top 17
abbrev s_is_name : Stmt := top 18
abbrev s_number_in : Stmt := top 19
abbrev s_parted : Stmt := top 29
abbrev s_copies_in : Stmt := top 30
abbrev s_row_in : Stmt := top 31
abbrev s_groups_in : Stmt := top 32
abbrev s_is_plan_text : Stmt := top 33
abbrev s_names_in : Stmt := top 34
abbrev s_Plan___init__ : Stmt := inClass (top 35) 0
abbrev s_Plan_text : Stmt := inClass (top 35) 1
abbrev s_Plan_names : Stmt := inClass (top 35) 2
abbrev s_Plan_word : Stmt := inClass (top 35) 3
abbrev s_Plan_many : Stmt := inClass (top 35) 4
abbrev s_Plan_copies : Stmt := inClass (top 35) 7
abbrev s_Plan_put : Stmt := inClass (top 35) 8
abbrev s_Plan___add__ : Stmt := inClass (top 35) 9
abbrev s_Plan___mul__ : Stmt := inClass (top 35) 10
abbrev s_Plan___invert__ : Stmt := inClass (top 35) 11
abbrev s_check_told : Stmt := top 36
abbrev s_row_text : Stmt := top 37
abbrev s_copies_text : Stmt := top 38
abbrev s_text_put : Stmt := top 39
abbrev s__law_pot : Stmt := top 41
abbrev s__law_take : Stmt := top 42
abbrev s__law_of : Stmt := top 43
abbrev s__law_some : Stmt := top 44
abbrev s__law_cells : Stmt := top 45
abbrev s__law_odd : Stmt := top 46
abbrev s__law_caught : Stmt := top 47
abbrev s__law_answer : Stmt := top 48
abbrev s__law_is_whole : Stmt := top 49
abbrev s__law_text : Stmt := top 50
abbrev s__law_plan : Stmt := top 51
abbrev s__law_groups : Stmt := top 52
abbrev s__law_people : Stmt := top 53
abbrev s__law_names : Stmt := top 54
abbrev s__law_built : Stmt := top 55
abbrev s__law_turned : Stmt := top 56
abbrev s__law_replaced : Stmt := top 57
abbrev s__law_is_made : Stmt := top 58
abbrev s__law_copies_right : Stmt := top 59
abbrev s__law_puts_right : Stmt := top 60
abbrev s__law_right : Stmt := top 61
abbrev s_law : Stmt := top 62
end W
namespace W
open PySem PySem.Spec PyProof.Rows L2 DL SX PL
def bns : List Str := ["isinstance", "int", "bool", "str", "len", "all", "sum", "range", "enumerate", "sorted", "set", "tuple", "list", "zip", "repr", "abs", "max", "min"]
end W
namespace W
open PySem PySem.Spec PyProof.Rows L2 DL SX PL
def fNames : List Str := ["own_text", "own_names", "own_word", "own_groups", "own_copies", "own_people"]
end W
namespace W
open PySem PySem.Spec PyProof.Rows L2 DL He HK
def gl (x : Str) (st : Stmt) : Dd := ⟨fun K => ga K x, x, x, st, [], []⟩
def me (m qual : Str) (st : Stmt) : Dd := ⟨fun K => ma K (ga K "Plan") m, m, qual, st, [], []⟩
def pg (m qual : Str) (st : Stmt) : Dd := ⟨pgA "Plan" m, m, qual, st, [], []⟩
def dds : List Dd := [
  ⟨fun K => ga K "is_integer", "is_integer", "is_integer", s_is_integer, [.non, .non], []⟩, me "__init__" "Plan.__init__" s_Plan___init__, pg "text" "Plan.text" s_Plan_text, pg "names" "Plan.names" s_Plan_names, pg "word" "Plan.word" s_Plan_word, pg "many" "Plan.many" s_Plan_many, me "__invert__" "Plan.__invert__" s_Plan___invert__, me "copies" "Plan.copies" s_Plan_copies,
  me "put" "Plan.put" s_Plan_put, me "__add__" "Plan.__add__" s_Plan___add__, me "__mul__" "Plan.__mul__" s_Plan___mul__, gl "is_name" s_is_name, gl "number_in" s_number_in, gl "parted" s_parted, gl "copies_in" s_copies_in, gl "row_in" s_row_in,
  gl "groups_in" s_groups_in, gl "is_plan_text" s_is_plan_text, gl "names_in" s_names_in, gl "check_told" s_check_told, gl "row_text" s_row_text, gl "copies_text" s_copies_text, gl "text_put" s_text_put, gl "_law_take" s__law_take,
  gl "_law_of" s__law_of, gl "_law_some" s__law_some, gl "_law_cells" s__law_cells, gl "_law_pot" s__law_pot, gl "_law_text" s__law_text, gl "_law_odd" s__law_odd, gl "_law_is_whole" s__law_is_whole, gl "_law_plan" s__law_plan,
  gl "_law_built" s__law_built, gl "_law_groups" s__law_groups, gl "_law_names" s__law_names, gl "_law_people" s__law_people, gl "_law_turned" s__law_turned, gl "_law_replaced" s__law_replaced, gl "_law_caught" s__law_caught, gl "_law_answer" s__law_answer,
  gl "_law_is_made" s__law_is_made, gl "_law_copies_right" s__law_copies_right, gl "_law_puts_right" s__law_puts_right, gl "_law_right" s__law_right, gl "law" s_law]
def globs0 : List Str := ["is_integer", "is_name", "number_in", "parted", "copies_in", "row_in", "groups_in", "is_plan_text", "names_in", "check_told", "row_text", "copies_text", "text_put", "_law_take", "_law_of", "_law_some", "_law_cells", "_law_pot"]
def globs1 : List Str := ["_law_text", "_law_odd", "_law_is_whole", "_law_plan", "_law_built", "_law_groups", "_law_names", "_law_people", "_law_turned", "_law_replaced", "_law_caught", "_law_answer", "_law_is_made", "law", "Plan", "SIGNS", "AROUND", "TURNED"]
def globs2 : List Str := ["CrowdError", "BadPlan", "Unknown", "BadMany", "NoName", "NoPlan"]
def tbsA : List Str := ["_law_copies_right", "_law_puts_right", "_law_right"]
def globsA : List Str := globs0 ++ globs1 ++ globs2
def consts : List Fa := [
  .str "ONE" "one", .str "NAME" "name", .str "BESIDE" "beside", .str "INTRODUCED" "introduced", .str "BLANK" " ", .str "LETTERS" "abcdefghijklmnopqrstuvwxyz", .str "FIGURES" "0123456789", .int "MOST_LETTERS" 8, .str "PERSON" "1", .int "LEAST_MANY" 2, .int "MOST_MANY" (10 ^ 30), .int "MOST_NAMES" 3, .int "MOST_DEPTH" 60,
  .cls "Plan", .meth "Plan" "__invert__", .mkr "Plan", .meth "Plan" "copies", .meth "Plan" "put", .meth "Plan" "__add__", .meth "Plan" "__mul__", .free "super", .glo "_law_copies_right", .glo "_law_puts_right", .glo "_law_right"]
def fas : List Fa := bns.map Fa.free ++ (globsA.map Fa.glo ++ (fNames.map (Fa.noat "Plan") ++ consts))
def tSigns : List (Str × Dt) := [("beside", .s " + "), ("introduced", .s " * ")]
def tAround : List (Str × Dt) := [("beside", .t ["[", "]"]), ("introduced", .t ["{", "}"])]
def tTurned : List (Str × Dt) := [("+", .s "*"), ("*", .s "+"), ("[", .s "{"), ("{", .s "["), ("]", .s "}"), ("}", .s "]")]
def spec : HK.Sp := ⟨fas, dds, [("Plan", "text"), ("Plan", "names"), ("Plan", "word"), ("Plan", "many")], [("SIGNS", tSigns), ("AROUND", tAround), ("TURNED", tTurned)], [], ["Plan"], [], ["BadPlan", "Unknown", "BadMany", "NoName", "NoPlan"], [("NoName", "Plan", false)], ["_law_copies_right", "_law_puts_right", "_law_right"], [("_law_copies_right", "_law_puts_right"), ("_law_copies_right", "_law_right"), ("_law_puts_right", "_law_right")], [("/claim/cut.py", s_CrowdError___init__)]⟩
abbrev hk : PySem.W.Hook := hook 4 globsA tbsA spec
def ob (s : PySem.W.SharedT) : HK.Al := obsG 4 globsA tbsA spec (HandSHeadRun.getT s)
def names0 : List PySem.Str := ["__name__", "CrowdError", "Unknown", "BadPlan", "NoPart", "BadMany", "NoName", "NoPlan", "ONE", "NAME", "BESIDE", "INTRODUCED", "BLANK", "LETTERS", "FIGURES", "MOST_LETTERS", "is_integer", "is_name", "number_in", "PERSON", "LEAST_MANY", "MOST_MANY", "MOST_NAMES", "MOST_DEPTH", "SIGNS", "AROUND", "TURNED", "parted"]
def names1 : List PySem.Str := ["copies_in", "row_in", "groups_in", "is_plan_text", "names_in", "Plan", "check_told", "row_text", "copies_text", "text_put", "_law_pot", "_law_take", "_law_of", "_law_some", "_law_cells", "_law_odd", "_law_caught", "_law_answer", "_law_is_whole", "_law_text", "_law_plan", "_law_groups", "_law_people", "_law_names", "_law_built", "_law_turned", "_law_replaced", "_law_is_made"]
def names2 : List PySem.Str := ["_law_copies_right", "_law_puts_right", "_law_right"]
abbrev R : PySem.W.OpenRow := PySem.W.OpenLaw.row PySem.Challenge.rw_greetall_k04_plans_made_of_plans
theorem run0a (w : World) : HandSHeadRun.RunEq R (PySem.W.view R.prog [59, 60, 61, 62]) (hook 4 globsA tbsA (Sp.lo spec 60 0)) (obT 4 globsA tbsA (Sp.lo spec 60 0)) 9000 (names0 ++ names1 ++ names2) (w.withFollow "special-get-raises" false) := by
  intro os
  kernel_rfl
theorem run0b (w : World) : HandSHeadRun.RunEq R (PySem.W.view R.prog [59, 60, 61, 62]) (hook 4 globsA tbsA (Sp.lo spec 60 0)) (obT 4 globsA tbsA (Sp.lo spec 60 0)) 9000 (names0 ++ names1 ++ names2) (w.withFollow "special-get-raises" true) := by
  intro os
  kernel_rfl
theorem run0 (w : World) : HandSHeadRun.RunEq R (PySem.W.view R.prog [59, 60, 61, 62]) (hook 4 globsA tbsA (Sp.lo spec 60 0)) (obT 4 globsA tbsA (Sp.lo spec 60 0)) 9000 (names0 ++ names1 ++ names2) w :=
  PySem.W.byRow2 "special-get-raises" (P := fun w => HandSHeadRun.RunEq R (PySem.W.view R.prog [59, 60, 61, 62]) (hook 4 globsA tbsA (Sp.lo spec 60 0)) (obT 4 globsA tbsA (Sp.lo spec 60 0)) 9000 (names0 ++ names1 ++ names2) w) run0a run0b w
theorem run1a (w : World) : HandSHeadRun.RunEq R (PySem.W.view R.prog [59, 60, 61, 62]) (hook 4 globsA tbsA (Sp.hi spec 60 0)) (obT 4 globsA tbsA (Sp.hi spec 60 0)) 9000 (names0 ++ names1 ++ names2) (w.withFollow "special-get-raises" false) := by
  intro os
  kernel_rfl
theorem run1b (w : World) : HandSHeadRun.RunEq R (PySem.W.view R.prog [59, 60, 61, 62]) (hook 4 globsA tbsA (Sp.hi spec 60 0)) (obT 4 globsA tbsA (Sp.hi spec 60 0)) 9000 (names0 ++ names1 ++ names2) (w.withFollow "special-get-raises" true) := by
  intro os
  kernel_rfl
theorem run1 (w : World) : HandSHeadRun.RunEq R (PySem.W.view R.prog [59, 60, 61, 62]) (hook 4 globsA tbsA (Sp.hi spec 60 0)) (obT 4 globsA tbsA (Sp.hi spec 60 0)) 9000 (names0 ++ names1 ++ names2) w :=
  PySem.W.byRow2 "special-get-raises" (P := fun w => HandSHeadRun.RunEq R (PySem.W.view R.prog [59, 60, 61, 62]) (hook 4 globsA tbsA (Sp.hi spec 60 0)) (obT 4 globsA tbsA (Sp.hi spec 60 0)) 9000 (names0 ++ names1 ++ names2) w) run1a run1b w
theorem run (w : World) : HandSHeadRun.RunEq R (PySem.W.view R.prog [59, 60, 61, 62]) hk ob 9000 (names0 ++ names1 ++ names2) w := run_cut 60 0 (run0 w) (run1 w)
end W
namespace XL
open PySem PySem.W PySem.Calls PyProof.Rows PySem.HandSPX
def iA (p1 p2 : Pos) : Arguments := { posonlyargs := [], args := [{ arg := "self", annotation := none, pos := p1 }, { arg := "value", annotation := none, pos := p2 }], vararg := none, kwonlyargs := [], kw_defaults := [], kwarg := none, defaults := [] }
def iB (q1 q2 q3 q4 q5 q6 q7 q8 q9 q10 : Pos) : List Stmt :=
  [.Expr (.Call (.Attribute (.Call (.Name "super" q1) [] [] q2) "__init__" q3) [.Name "value" q4] [] q5) q6, .Assign [.Attribute (.Name "self" q7) "value" q8] (.Name "value" q9) q10]
/-- the text of __init__ -/
structure Shape (a : Arguments) (b : List Stmt) (sc : Scope) : Prop where
  args : ∃ p1 p2, a = iA p1 p2
  body : ∃ q1 q2 q3 q4 q5 q6 q7 q8 q9 q10, b = iB q1 q2 q3 q4 q5 q6 q7 q8 q9 q10 ∧ ∀ (q : Str) (L f : Addr) (cd : Value) (cc : Addr), ∃ pl : Sem Bool, eval (.Call (.Attribute (.Call (.Name "super" q1) [] [] q2) "__init__" q3) [.Name "value" q4] [] q5) (ksEnv q sc L f cd cc) = (do
    let ov ← attributeBase (.Call (.Name "super" q1) [] [] q2) "__init__" (ksEnv q sc L f cd cc) (eval (.Call (.Name "super" q1) [] [] q2) (ksEnv q sc L f cd cc))
    standAt q3.atName
    let (fn, first) ← holding [ov] (getMethod ov "__init__" pl)
    callWith q5 fn first (backTo q5 (starEach [.Name "value" q4] (ksEnv q sc L f cd cc))) [])
  kind : sc.kind = .function
  co : sc.isCoroutine = false
  gen : sc.isGenerator = false
  cellless : ∀ y ∈ sc.names, y.2 ≠ NameKind.cell
  self : sc.names.lookup ("self" : Str) = some .local
  value : sc.names.lookup ("value" : Str) = some .local
  cls : ∀ (q : Str) (L f : Addr) (cd : Value) (cc : Addr), (ksEnv q sc L f cd cc).kindOf "__class__" = some .free
  sup : ∀ (q : Str) (L f : Addr) (cd : Value) (cc : Addr), (ksEnv q sc L f cd cc).kindOf "super" = some .globalImplicit
  inter : ∀ (q : Str) (L f : Addr) (cd : Value) (cc : Addr), interactive (ksEnv q sc L f cd cc) = false
  kself : ∀ (q : Str) (L f : Addr) (cd : Value) (cc : Addr), (ksEnv q sc L f cd cc).kindOf "self" = some .local
  kvalue : ∀ (q : Str) (L f : Addr) (cd : Value) (cc : Addr), (ksEnv q sc L f cd cc).kindOf "value" = some .local
/-- what __init__ leaves of a fresh error at x -/
structure InitEnd (h h' : Heap) (x C dx t1 : Addr) (v : Value) : Prop where
  keep : ∀ b o, h.get? b = some o → h'.get? b = some o
  obj : h'.get? x = some { cls := .ref C, dict := some dx, data := .fields #[.ref t1, .none, .none, .none, .bool false, .none] }
  dbig : h.objs.size ≤ dx
  dne : dx ≠ x
  ns : h'.Ns1 dx (fun y => if y = "value" then some v else none)
theorem one_size (v : Value) : [v].length ≤ sizeLine := by
  rw [sizeLine_eq]
  exact (by decide : 1 ≤ 16777216)
theorem at_of_any {α : Type} {M : Model} {A : Around} {c : Code} {t : Sem α} {Q : α → Shared → Prop} {E : Value → Shared → Prop} {s : Shared} (h : wpAny M A t Q E s) : PySem.wpAt M A c t Q E s := fun Γ p _ hA => h Γ p hA
theorem ldC {M : Model} {A : Around} {s : Shared} {E : Value → Shared → Prop} {env : Env} {m : Str → Option Value} {x : Str} {pos : Pos} {v : Value} {Q : Value → Shared → Prop} (hn : s.heap.Ns env.locals m) (hv : m x = some v) (h : Q v s)
    (hk : env.scope.kind = .function) (hl : env.kindOf x = some .local) (hd : (x == ("__debug__" : Str)) = false) : wpAny M A (eval (.Name x pos) env) Q E s := wpAny_Name (wpAny_loadName_local hk hl hn hv h) hd
section
variable {prog : Program} {w : World} {A : Around} {E : Value → Shared → Prop} {R : Result → Shared → Prop} {K : Frag} {mg : Str → Option Value} {C B fI cl : Addr} {q x : Str} {a : Arguments} {b : List Stmt} {sc : Scope}
theorem crowd_init (T : CrTxt prog K q a b sc B fI cl) (S : Shape a b sc) (G : ErTxt K mg x C B fI) {h0 : Heap} (M : L2.Mod K mg h0) (hms : mg "super" = none) {hp : Heap} {g : Array GenState} {dr : Drawn} {tk0 : Nat} {os : OsState} {xo t0 : Addr} {v : Value} (k0 : ∀ b o, h0.get? b = some o → hp.get? b = some o) (hsz : h0.objs.size ≤ hp.objs.size)
    (hlim : hp.NoLimit) (hx : hp.get? xo = some (excO C t0)) (hnx : h0.get? xo = none) (hroom : A.depth < recursionLimit)
    (hq : ∀ h' tk dx t1, InitEnd h0 h' xo C dx t1 v → R (.ok (.ret .none)) ⟨h', g, dr, tk, os⟩) :
    codeAny (model prog w) A (.call (.ref fI) ⟨[.ref xo, v], []⟩) R ⟨hp, g, dr, tk0, os⟩ := by
  obtain ⟨oc, od, doc, pm, an, cc, ct, osl, occ, vs, file, tf, ho, hcd, hcc, hvs, hv2, hfile⟩ := T.fn
  obtain ⟨oce, hce, hced⟩ := T.cell
  obtain ⟨oB, cdB, hB, hBd⟩ := T.bcls
  obtain ⟨p1, p2, rfl⟩ := S.args
  obtain ⟨q1, q2, q3, q4, q5, q6, q7, q8, q9, q10, rfl, meth⟩ := S.body
  obtain ⟨nm, qn, N, bs, bm, sn, sub, ab, col, dd, y0, y1, y2, y3, y5, hC, hbm⟩ := G.cls
  have hcl : clsIn K C = some { name := nm, bases := bs, mro := .ref C :: bm, ns := N, qualname := qn, hasDict := true, slotNames := sn, subclasses := sub, abstract := ab, collection := col, hasDel := false } := by unfold clsIn; rw [hC] <;> rfl
  have X0 := M.kin
  have X : K.In hp := fun b o e => k0 b o (X0 b o e)
  refine ks_codeAny_call_defAt (binds := [("self", .ref xo), ("value", v)]) hroom (X _ _ ho) rfl hlim (codeRec_of X hcd) rfl (BindsTo.of_eq (by first | rfl | with_unfolding_all rfl)) S.cellless ?_ (fun h₁ hn k1 => ?_) S.co S.gen S.kind
  · intro y hy
    rcases List.mem_cons.mp hy with rfl | hy
    · exact S.self
    · rw [List.mem_singleton.mp hy]; exact S.value
  have X1 : K.In h₁ := fun b o e => k1 b o (X b o e)
  have k01 : ∀ b o, h0.get? b = some o → h₁.get? b = some o := fun b o e => k1 b o (k0 b o e)
  have hx1 : h₁.get? xo = some (excO C t0) := k1 _ _ hx
  have hxL : hp.objs.size ≠ xo := Nat.ne_of_gt (Heap.lt_size hx)
  obtain ⟨mb, nb, hmb⟩ := M.blt
  show PySem.wpAt _ (A.deeper (ksEnv q sc hp.objs.size fI (.ref cc) cl)) (Code.func (iB q1 q2 q3 q4 q5 q6 q7 q8 q9 q10) (ksEnv q sc hp.objs.size fI (.ref cc) cl)) (execs (iB q1 q2 q3 q4 q5 q6 q7 q8 q9 q10) (ksEnv q sc hp.objs.size fI (.ref cc) cl)) _ _ _
  obtain ⟨pl, hpl⟩ := meth q hp.objs.size fI (.ref cc) cl
  refine ks_wpAt_execs_cons (ks_wpAt_Expr_any (hi := S.inter _ _ _ _ _) (ks_wpAt_MethodCall (pl := pl) (he := hpl) (ks_wpAt_super_base (f := fI) (cc := cc) (S.sup _ _ _ _ _) (S.cls _ _ _ _ _) (by decide) rfl (X1 _ _ ho) rfl rfl rfl (X1 _ _ hcc) hvs hv2 hfile T.sup ?_)))
  refine ks_loadName_global S.kind (S.sup _ _ _ _ _) (Calls.loadGlobal_builtin (M.glob.keeps k01) hms (nb.keeps k01) ((hmb "super" (by decide)).trans rfl) ?_)
  refine ⟨rfl, wpAny_loadName_free S.kind (S.cls _ _ _ _ _) (c := cl) (v := .ref B) rfl ⟨oce, X1 _ _ hce, hced⟩ ?_⟩
  refine wpAny_loadName_local S.kind (S.kself _ _ _ _ _) hn (v := .ref xo) rfl ?_
  refine ks_wpAny_isType_cls (X1 _ _ hB) hBd ⟨rfl, ?_⟩
  refine ks_wpAny_call_super (X1 _ _ hB) hBd hx1 rfl (fun c => by intro h; cases h) (looks_subIn X1 G.sB) fun h2 hso k2 => ?_
  have hn2 := hn.keeps k2
  have hL : h0.objs.size ≤ hp.objs.size := hsz
  have fr2 : Fr h0 hp.objs.size h2 (fun x => List.lookup x [(("self" : Str), Value.ref xo), (("value" : Str), v)].reverse) := ⟨hn2, fun b o e => k2 b o (k01 b o e), hL⟩
  have hxso : h₁.objs.size ≠ xo := Nat.ne_of_gt (Heap.lt_size hx1)
  have nw2 : News h0 hp.objs.size h2 [(h₁.objs.size, ks_superObj B xo C), (xo, excO C t0)] := fun p hp => by
    rcases List.mem_cons.mp hp with rfl | hp
    · refine ⟨hso, Ne.symm (Nat.ne_of_lt hn.lt), ?_⟩
      cases e : h0.get? h₁.objs.size with
      | none => rfl
      | some o => exact absurd (Heap.lt_size (k01 _ _ e)) (Nat.lt_irrefl _)
    · rw [List.mem_singleton.mp hp]
      exact ⟨k2 _ _ hx1, fun z => hxL z.symm, hnx⟩
  refine kxs_method (odx := none) kxs_ValueError fr2 X0 nw2 List.mem_cons_self ⟨k2 _ _ hx1, rfl, rfl, trivial⟩ T.nsS G.sup G.veC (by decide) fun q3' h3 fr3 nw3 lt3 => ?_
  refine kxs_callWith1 nw3 List.mem_cons_self ?_
  refine spliced_cons (ldC (m := fun x => List.lookup x [(("self" : Str), Value.ref xo), (("value" : Str), v)].reverse) (v := v) fr3.ns rfl ?_ S.kind (S.kvalue _ _ _ _ _) (by decide))
  refine spliced_nil ⟨kxs_at nw3 List.mem_cons_self, ?_⟩
  refine kxs_call (C := C) (t := t0) (dv := none) (c2 := .none) fr3 X0 nw3 F.excBase_ValueError G.ini List.mem_cons_self (UpdF.tail (fun z => ?_) (UpdF.tail hxso (UpdF.head (fun p hp => by cases hp)))) (one_size v) fun t' h' fr' nw' lt' => ?_
  · exact Nat.ne_of_gt (lt3 (xo, excO C t0) (List.mem_cons_of_mem _ List.mem_cons_self)) z
  have X5 : K.In h' := fun b o e => fr'.keep b o (X0 b o e)
  have hx5 : h'.get? xo = some (excO C t') := (nw' (xo, excObj C t' none .none) (List.mem_cons_of_mem _ (List.mem_cons_of_mem _ (List.mem_cons_of_mem _ List.mem_cons_self)))).1
  -- self.value = value
  refine at_of_any (wpAny_execs_cons (plainObj_wpAny_Assign_Attribute ?_))
  refine ldC fr'.ns (v := v) rfl ?_ S.kind (S.kvalue _ _ _ _ _) (by decide)
  refine ldC fr'.ns (v := .ref xo) rfl ?_ S.kind (S.kself _ _ _ _ _) (by decide)
  refine set_plain X5 (ox := excO C t') (od := none) ⟨hx5, rfl, rfl, trivial⟩ G.sa ?_
  refine exc_osa X5 hx5 hcl (show refsVE (.ref C :: bm) = true from hbm) rfl G.noV (fun h6 tk6 dx k6 dn dne hx6 hn6 => ?_)
  have zz : hp.objs.size < h'.objs.size := fr'.ns.lt
  refine wpAny_execs_nil (hq h6 tk6 dx t' ⟨fun b o e => k6 b o (fun z => ?_) (fr'.keep b o e), hx6, Nat.le_trans (Nat.le_trans hsz (Nat.le_of_lt zz)) dn, dne, hn6⟩)
  rw [z, hnx] at e; cases e
end
end XL
namespace XL
open PySem PySem.W PySem.Calls PyProof.Rows PySem.HandSPX L2
/-- a made error -/
structure OwnMade (h h' : Heap) (e C d : Addr) (v : Value) : Prop where
  keep : ∀ b o, h.get? b = some o → h'.get? b = some o
  new : h.objs.size ≤ e
  obj : ∃ oe vs, h'.get? e = some oe ∧ oe.cls = .ref C ∧ oe.dict = some d ∧ oe.data = .fields vs ∧ vs[1]? = some .none
  dbig : h.objs.size ≤ d
  dne : d ≠ e
  ns : h'.Ns1 d (fun y => if y = "value" then some v else none)
/-- one of the errors, at C, under the name x -/
structure Er (P : Program) (K : Frag) (mg : Str → Option Value) (x : Str) (C : Addr) : Prop where
  ex : ∃ (B fI cl : Addr) (q : Str) (a : Arguments) (b : List Stmt) (sc : Scope), CrTxt P K q a b sc B fI cl ∧ Shape a b sc ∧ ErTxt K mg x C B fI
  sup : mg "super" = none
section
variable {prog : Program} {w : World} {A : Around} {R : Result → Shared → Prop} {K : Frag} {mg : Str → Option Value} {C : Addr} {x : Str}
theorem crowd_made (T : Er prog K mg x C) {hp : Heap} {g : Array GenState} {dr : Drawn} {tk : Nat} {os : OsState} {v : Value} (M : L2.Mod K mg hp) (hroom : A.depth + 1 < recursionLimit)
    (hq : ∀ h' tk e d, OwnMade hp h' e C d v → R (.ok (.ret (.ref e))) ⟨h', g, dr, tk, os⟩) :
    codeAny (model prog w) A (.call (.ref C) ⟨[v], []⟩) R ⟨hp, g, dr, tk, os⟩ := by
  obtain ⟨B, fI, cl, q, a, b, sc, T1, S, G⟩ := T.ex
  obtain ⟨nm, qn, N, bs, bm, sn, sub, ab, col, dd, k0, k1, k2, k3, k5, hC, hbm⟩ := G.cls
  have X := M.kin
  have k : ∀ b o, hp.get? b = some o → ((hp.push (kdv_tup [v])).push (excO C hp.objs.size)).get? b = some o := fun b o e => Heap.get?_push_of_some _ (Heap.get?_push_of_some _ e)
  have hget : ((hp.push (kdv_tup [v])).push (excO C hp.objs.size)).get? (hp.objs.size + 1) = some (excO C hp.objs.size) := by heap_get
  have hnx : hp.get? (hp.objs.size + 1) = none := by
    cases e : hp.get? (hp.objs.size + 1) with
    | none => rfl
    | some o => exact absurd (Nat.lt_of_succ_lt (Heap.lt_size e)) (Nat.lt_irrefl _)
  refine call_own F.excBase_ValueError (fun X => refsVE_contains X bm hbm) (X _ _ hC) (looks_findIn X G.iC) (fun self => bind_fn X self T1.typ) (one_size v) ?_
  refine crowd_init T1 S G M T.sup k (by rw [Heap.size_push, Heap.size_push]; omega) (M.nolimit.keeps k) hget hnx hroom fun h' tk' dx t1 I => ?_
  exact ⟨rfl, hq h' tk' (hp.objs.size + 1) dx ⟨I.keep, Nat.le_succ _, ⟨_, _, I.obj, rfl, rfl, rfl, rfl⟩, I.dbig, I.dne, I.ns⟩⟩
end
theorem relO_value {v : V} {v' : Value} (r : RelV v v') (f : Str) : RelO (List.lookup f [(("value" : Str), v)]) (if f = "value" then some v' else none) := by
  by_cases hw : f = "value"
  · subst hw
    rw [if_pos rfl]
    have q : List.lookup ("value" : Str) [(("value" : Str), v)] = some v := by simp [List.lookup]
    rw [q]
    exact r
  · rw [if_neg hw]
    have qw : (f == ("value" : Str)) = false := by simpa using hw
    have q2 : List.lookup f [(("value" : Str), v)] = none := by simp [List.lookup, qw]
    rw [q2]
    trivial
section
variable {X : Cx} {C : Addr} {x : Str}
/-- C(e) -/
def tMkE (C : Addr) (ta : TA) : L2.St → Hp → XK → Prop := fun σ H Q => ta σ H fun vs H1 => ∃ v, vs = [v] ∧ ∀ d, H1 d = none → Q (.ref C) (some d) (upd H1 d (.xd [(("value" : Str), v)]))
theorem pmk_err {a : Expr} {ta : TA} {p pos : Pos} {k : Nat} (T : Er X.prog X.K X.mg x C) (hr : Room k X.A) (ha : PA X [a] ta) (hg : Gl X x) (hdb : (x == ("__debug__" : Str)) = false)
    (he : starEach (a :: []) X.env = (false, eval a X.env) :: starEach [] X.env := by rfl) (hpl : (backTo pos (starEach [] X.env)).any (·.1) = false := by rfl) :
    PMk X (.Call (.Name x p) [a] [] pos) (tMkE C ta) := by
  intro pins s σ H Q I h
  obtain ⟨B, fI, cl, q, aa, b, sc, T1, S, G⟩ := T.ex
  refine wpAny_Call_Name_kw (ld_glob I hg G.gC ?_ hdb)
  refine PySem.W.callWith_K (h₀ := X.base) I.ok.mod.kin G.kC (thn (ha.run pos pins s σ H _ I h) fun us s1 hh => ?_) he hpl
  obtain ⟨vs, H1, I1, r1, v, ev, q1⟩ := hh
  subst ev
  refine ⟨I1.kIn, ?_⟩
  cases r1 with
  | cons rv rn =>
    rename_i v' us'
    cases rn
    show wpAny _ _ (call (.ref C) [v']) _ _ _
    obtain ⟨hp, g, dr, tk, os⟩ := s1
    refine wpAny_call (crowd_made T (Mod.keeps I1.mod I1.bk) (by have := hr.dp; omega) fun h' tk' e d M => ?_)
    show MkP X pins σ Q (.ref e) ⟨h', g, dr, tk', os⟩
    obtain ⟨oe, fv, hoe, hc, hd, hdat, h1⟩ := M.obj
    have hns := M.ns
    obtain ⟨G', g1, g2⟩ := restrict h' fun b => decide (b ≠ e)
    have gk : ∀ b, b ≠ e → G'.get? b = h'.get? b := fun b hb => g1 b (decide_eq_true hb)
    have ge : G'.get? e = none := g2 e (by simp)
    have old : ∀ b o, hp.get? b = some o → G'.get? b = some o := fun b o q => (gk b (Nat.ne_of_lt (Nat.lt_of_lt_of_le (Heap.lt_size q) M.new))).trans (M.keep b o q)
    have ob : ObjOk X.prog X.w (upd H1 d (.xd [(("value" : Str), v)])) G' d (.xd [(("value" : Str), v)]) :=
      ⟨_, hns.at (fun o q => (gk d M.dne).trans q), fun f => relO_value rv f⟩
    have J : Inv X pins σ (upd H1 d (.xd [(("value" : Str), v)])) ⟨G', g, dr, tk', os⟩ := I1.laid (t' := tk') old M.dbig ob
    refine ⟨e, oe, fv, ⟨G', g, dr, tk', os⟩, _, .ref C, some d, rfl, J, fun b o q => ?_, ge, hoe, ⟨hc, hd⟩, hdat, h1, ?_, rfl, I1.bare, raises_own G.exC G.tyC, q1 d (I1.hok.fresh M.dbig)⟩
    · by_cases hb : b = e
      · have q' : G'.get? b = some o := q
        rw [hb, ge] at q'; cases q'
      · exact (gk b hb).symm.trans q
    · rw [upd_ne (Ne.symm M.dne)]
      exact I1.hok.fresh M.new
/-- raise C(e) -/
theorem ps_raiseE {a : Expr} {ta : TA} {W : WX} {p pos pos2 : Pos} {k : Nat} (hc : X.calm = true) (T : Er X.prog X.K X.mg x C) (hr : Room k X.A) (tk : Takes X W) (ha : PA X [a] ta) (hg : Gl X x) (hdb : (x == ("__debug__" : Str)) = false)
    (he : starEach (a :: []) X.env = (false, eval a X.env) :: starEach [] X.env := by rfl) (hpl : (backTo pos (starEach [] X.env)).any (·.1) = false := by rfl) :
    PS X (.Raise (some (.Call (.Name x p) [a] [] pos)) none pos2) (fun _ σ H => tMkE C ta σ H fun cls d H' => W cls d σ H') := ps_raise hc tk (pmk_err T hr ha hg hdb he hpl)
end
end XL
namespace XL
open PySem PySem.W PySem.Calls PyProof.Rows PySem.HandSPX L2
theorem xv_ok {P : Program} {w : World} {H : Hp} {h : Heap} {a : Addr} {cls : Value} {d : Option Addr} {oe : Obj} {vs : Array Value} (e : h.get? a = some oe) (z : Zc cls d oe) (f : oe.data = .fields vs) : ObjOk P w H h a (XV a cls d) := by
  unfold XV ObjOk
  refine ⟨⟨oe, vs, e, z, f⟩, ⟨oe, e⟩, fun h1 h2 p k => ?_⟩
  obtain ⟨oe, vs, e, r⟩ := p
  exact ⟨oe, vs, k _ e, r⟩
theorem xv_get {P : Program} {w : World} {H : Hp} {h : Heap} {a : Addr} {cls : Value} {d : Option Addr} (k : HOk P w H h) (e : H a = some (XV a cls d)) : ∃ oe vs, h.get? a = some oe ∧ Zc cls d oe ∧ oe.data = .fields vs := by
  have := k a _ e
  unfold XV ObjOk at this
  exact this.1
theorem paired_imp {α β : Type} {R R' : α → β → Prop} (k : ∀ x y, R x y → R' x y) : ∀ {xs : List α} {ys : List β}, Paired R xs ys → Paired R' xs ys
  | _, _, .nil => .nil
  | _, _, .cons h t => .cons (k _ _ h) (paired_imp k t)
theorem objOk_give {P : Program} {w : World} {H : Hp} {h : Heap} {a b : Addr} {o u : HO} (hn : H a = none) (k : ObjOk P w H h b u) : ObjOk P w (upd H a o) h b u := by
  have up : ∀ {c : Addr} {z : HO}, H c = some z → upd H a o c = some z := fun {c z} e => by
    rw [upd_ne (fun q => by rw [q, hn] at e; cases e)]; exact e
  induction u with
  | dT kvs =>
    obtain ⟨h1, h2, xs, h3, r⟩ := k
    refine ⟨h1, h2, xs, ?_, r⟩
    exact paired_imp (fun p q ⟨y1, y2, y3⟩ => ⟨y1, up y2, y3⟩) h3
  | ins C dx fs =>
    obtain ⟨h1, r⟩ := k
    exact ⟨up h1, r⟩
  | frz o u ih => exact ⟨k.1, ih k.2⟩
  | lst xs => exact k
  | tup xs => exact k
  | dK xs => exact k
  | set S n => exact k
  | own x => exact k
  | xd fs => exact k
  | rng lo hi => exact k
  | tbl ps => exact k
  | met f x => exact k
  | ext φ => exact k
theorem inv_give {X : Cx} {pins : List (Addr × Obj)} {σ : L2.St} {H : Hp} {s : Shared} {a : Addr} {o : HO} (I : L2.Inv X pins σ H s) (hn : H a = none) (hnb : ∀ xs, o ≠ HO.tbl xs) (h0 : X.s_0.heap.get? a = none) (nL : a ≠ X.env.locals) (nC : ∀ v, ¬ s.heap.IsCell a v)
    (nP : ∀ p ∈ X.pn ++ pins, p.1 ≠ a) (ob : ObjOk X.prog X.w (upd H a o) s.heap a o) : L2.Inv X pins σ (upd H a o) s := by
  refine ⟨I.ok, I.os, I.bare, ⟨I.base.keep, I.base.slot, fun b u e f g => ?_, I.base.there, fun b xs e => ?_, fun b u z e => ?_, fun b ps e => ?_⟩, I.loc, I.cell, ?_, fun x c e => ?_, fun p hp => ?_, fun b u e => ?_, I.len⟩
  · by_cases q : b = a
    · rw [q, h0] at e; cases e
    · rw [upd_ne q]; exact I.base.free b u e f g
  · have z := I.base.tups b xs e
    rw [upd_ne (fun q => by rw [q, hn] at z; cases z)]; exact z
  · have y := I.base.frzs b u z e
    rw [upd_ne (fun q => by rw [q, hn] at y; cases y)]; exact y
  · obtain ⟨more, y⟩ := I.base.tbls b ps e
    exact ⟨more, by rw [upd_ne (fun q => by rw [q, hn] at y; cases y)]; exact y⟩
  · rw [upd_ne (Ne.symm nL)]; exact I.free
  · rw [upd_ne (fun q => ?_)]
    · exact I.freeC x c e
    · obtain ⟨v, hv⟩ := I.cell x c e
      rw [q] at hv; exact nC v hv
  · obtain ⟨p1, p2, r⟩ := I.pin p hp
    exact ⟨p1, by rw [upd_ne (nP p hp)]; exact p2, r⟩
  · by_cases q : b = a
    · rw [q, upd_same] at e
      cases e
      rw [q]; exact ob
    · rw [upd_ne q] at e
      exact objOk_give hn (I.hok b u e)
end XL
namespace XL
open PySem PySem.W PySem.Calls PyProof.Rows PySem.HandSPX L2
def endsV (i : Nat) (a : Addr) (cls : Value) (d : Option Addr) (D : Ends) : Ends :=
  { nx := fun σ' H' => D.nx (σ'.set i none) (upd H' a (XV a cls d)), rt := fun v H' => D.rt v (upd H' a (XV a cls d)), bk := fun σ' H' => D.bk (σ'.set i none) (upd H' a (XV a cls d)), ct := fun σ' H' => D.ct (σ'.set i none) (upd H' a (XV a cls d)) }
def wAsV (K : Frag) (c : Value) (i : Nat) (ts : Addr → Value → Option Addr → TS) (Wout : WX) (D : Ends) : WX := fun cls d σ H =>
  ∃ b, exmOne K cls c = some b ∧ (b = true → ∀ a, H a = none → ts a cls d (endsV i a cls d D) (σ.set i (some (.ref a))) H) ∧ (b = false → Wout cls d σ H)
theorem ps_try_asV {X : Cx} {x n : Str} {c : Value} {i : Nat} {body suite : List Stmt} {b₀ : Stmt} {np pos pos' : Pos} {tb : WX → TS} {ts : Addr → Value → Option Addr → TS} {Wout : WX}
    (hs : X.stack = X.env :: X.outer) (hf : X.env.frame = some X.env.locals) (hex : X.ex = []) (hN : X.N.Nodup) (hi : X.N[i]? = some n) (hln : X.env.kindOf n = some .local) (hc : Names X x c) (tk : Takes X Wout)
    (hb : ∀ (W : WX) (pn : List (Addr × Obj)) (xe : Value → Shared → Prop), Takes (X.tr pn xe) W → PassesOwn (model X.prog X.w) X.A X.env xe → PSs (X.tr pn xe) body (tb W))
    (hsu : ∀ (a : Addr) (oe : Obj) (cls : Value) (d : Option Addr) (pn : List (Addr × Obj)), Zc cls d oe → (∃ vs, oe.data = .fields vs) → PSs (X.suite a ((a, oe) :: pn)) (b₀ :: suite) (ts a cls d)) :
    PS X (.Try body [.ExceptHandler (some (.Name x np)) (some n) (b₀ :: suite) pos'] [] [] pos) (fun D σ H => tb (wAsV X.K c i ts Wout D) D σ H) := ⟨fun pins s σ H D I h => by
  have ok := I.ok
  have hfr : X.A.frames = some (X.env :: X.outer) := by rw [ok.frames, hs]
  have hloc : X.env.kindOf n = some .local ∨ X.env.kindOf n = some .cell := Or.inl hln
  refine wpAny_Try_except (wpAny_mono ((hb (wAsV X.K c i ts Wout D) (X.pn ++ pins) (fun e s₁ => wpAny (model X.prog X.w) X.A (noteFrame e X.env) (fun _ s₂ => wpAny (model X.prog X.w) X.A (setFlight e none) (fun _ s₃ =>
    wpAny (model X.prog X.w) X.A (handleBy e X.env [.ExceptHandler (some (.Name x np)) (some n) (b₀ :: suite) pos']) (SP X pins D) X.xe s₃) X.xe s₂) X.xe s₁) ?_ PassesOwn.looking).run [] s σ H D (I.toTry _) h) (fun f s1 hsp => ?_) (fun e s1 he => he))
  · intro u s' xx
    obtain ⟨a, B, sI, pins', σ', H', cls, d, rfl, J', nb, up, sky, na, os, ag, b, hb1, hyes, hno⟩ := xx
    have J := J'.ofTry ok
    have sky' : Sky B (X.env :: X.outer) a (Zc cls d) X.env.locals s'.heap := by rw [← hs]; exact sky
    refine Sky.land Zc.steady hfr hf sky' fun h3 fl3 up3 => ?_
    have J3 := J.landed (s' := ⟨h3, s'.gens, s'.drawn, s'.toks, s'.os⟩) nb fl3.1 (up.trans up3) os ag
    obtain ⟨oe3, vs3, he3, hz3, hd3⟩ := fl3.there
    have ha0 : B.get? a = none := fl3.2.1
    have nfr : a ∉ frs (X.env :: X.outer) := fun hm => by
      obtain ⟨_, o', e', hnf⟩ := fl3.2.2.1.mem hm
      rw [he3] at e'; cases e'
      exact hnf _ hd3
    have nL : a ≠ X.env.locals := fun z => nfr (List.mem_filterMap.mpr ⟨X.env, List.mem_cons_self, by rw [hf, z]⟩)
    have nF : a ∉ X.fs := fun hm => by
      obtain ⟨e, he, q⟩ := List.mem_filterMap.mp hm
      exact nfr (List.mem_filterMap.mpr ⟨e, List.mem_cons_of_mem _ he, q⟩)
    have nfr' : a ∉ frs X.stack := by rw [hs]; exact nfr
    have hsI : sI.heap.get? a = none := by
      cases e : sI.heap.get? a with
      | none => rfl
      | some o => have := nb a o e nfr'; rw [ha0] at this; cases this
    have hs0 : X.s_0.heap.get? a = none := by
      cases e : X.s_0.heap.get? a with
      | none => rfl
      | some o =>
        obtain ⟨o', q⟩ := J.base.there a o e (by rw [hex]; exact List.not_mem_nil)
        rw [hsI] at q; cases q
    have hpn : ∀ p ∈ X.pn ++ pins, p.1 ≠ a := fun p hp z => by
      have q := (J.pin p hp).1
      rw [z, hsI] at q; cases q
    have S3 := J3.suite he3 hd3 na nL nF
    refine wpAny_handleBy_cons (codeAny_handlers_test ?_) ?_
    · have LT : ∀ A Q E s, (∀ b o, h3.get? b = some o → s.heap.get? b = some o) → Q cls s → wpAny (model X.prog X.w) A (typeOf (Value.ref a)) Q E s := fun A Q E s k q => wpAny_typeOf_ref (k a oe3 he3) (by rw [hz3.1]; exact q)
      have LM := W.exm_one J3.kIn LT hb1
      have test : ∀ {Q : Value → Shared → Prop} {E : Value → Shared → Prop}, Q c ⟨h3, s'.gens, s'.drawn, s'.toks, s'.os⟩ → wpAny (model X.prog X.w) (X.A.mark (some (Value.ref a))) (eval (.Name x np) X.env) Q E ⟨h3, s'.gens, s'.drawn, s'.toks, s'.os⟩ := fun {Q E} q => by
        obtain ⟨hg, hdbg, hm | ⟨hm, hv, hnn⟩⟩ := hc
        · exact ld_glob S3 hg hm q hdbg
        · exact ld_blt S3 hg hm hv q hnn hdbg
      refine test (LM.here ?_)
      cases b with
      | false =>
        refine wpAny_handleBy_nil ?_
        obtain ⟨k1, k2, k3, oe, vs, T, oT, ts', he, hz, hd, h1, hr⟩ := id fl3
        refine wpAny_bind (wpAny_field he hd h1 ?_)
        rw [if_neg (by simp)]
        refine wpAny_bind ?_
        show wpAny _ _ (setFlight (Value.ref a) X.env.frame) _ _ _
        rw [hf]
        refine HandSPX.setFlight_upZ fl3 fun h4 hh4 up4 => wpAny_throw (tk _ _ ⟨a, B, sI, pins, σ', H', cls, d, rfl, J, nb, (up.trans up3).trans up4, .inr (.inr ?_), na, os, ag, hno rfl⟩)
        rw [hs]; exact hh4
      | true =>
        refine codeAny_handlers_suite_as ?_
        refine HandSPX.lands_againZ fl3 fun h4 fl4 up4 => ?_
        have J4 := J.landed (s' := ⟨h4, s'.gens, s'.drawn, s'.toks, s'.os⟩) nb fl4.1 ((up.trans up3).trans up4) os ag
        obtain ⟨oe4, vs4, he4, hz4, hd4⟩ := fl4.there
        have S4 := J4.suite he4 hd4 na nL nF
        refine store_ok (X := X.suite a ((a, oe4) :: (X.pn ++ pins))) (v := .ref a) S4 hN hi hloc rfl (fun s5 S5 => ?_) (Or.inr hln)
        refine wpAny_mono ((hsu a oe4 cls d (X.pn ++ pins) hz4 ⟨vs4, hd4⟩).run [] s5 (σ'.set i (some (.ref a))) H' (endsV i a cls d D) S5 (hyes rfl a na)) (fun f s6 hsp => ?_) (fun _ _ z => z.elim)
        have giv : ∀ {σ6 : L2.St} {H6 : Hp} {s6 : Shared}, L2.Inv (X.suite a ((a, oe4) :: (X.pn ++ pins))) [] σ6 H6 s6 → L2.Inv X pins σ6 (upd H6 a (XV a cls d)) s6 := fun {σ6 H6 s6} S6 => by
          obtain ⟨p1, p2, p3, p4, p5⟩ := S6.pin (a, oe4) (List.mem_append_left _ List.mem_cons_self)
          refine inv_give (S6.unsuite ok) p2 (fun xs z => by cases z) hs0 nL (fun v hv => ?_) hpn (xv_ok p1 hz4 hd4)
          obtain ⟨o, y1, y2⟩ := hv
          rw [p1] at y1; cases y1
          exact p5 _ y2
        have end_ : ∀ {σ6 : L2.St} {H6 : Hp} {s6 : Shared} {Q : Unit → Shared → Prop}, L2.Inv (X.suite a ((a, oe4) :: (X.pn ++ pins))) [] σ6 H6 s6 → (∀ s7, L2.Inv X pins (σ6.set i none) (upd H6 a (XV a cls d)) s7 → Q () s7) → wpAny (model X.prog X.w) X.A (do bindName X.env n Value.none; unbindBehindTheSuite X.env n pos') Q X.xe s6 :=
          fun {σ6 H6 s6 Q} S6 hq => gone_ok (giv S6) hN hi hln hq
        cases f with
        | next => obtain ⟨σ6, H6, S6, q6⟩ := hsp; exact end_ S6 fun s7 J7 => ⟨_, _, J7, q6⟩
        | brk => obtain ⟨σ6, H6, S6, q6⟩ := hsp; exact end_ S6 fun s7 J7 => ⟨_, _, J7, q6⟩
        | cont => obtain ⟨σ6, H6, S6, q6⟩ := hsp; exact end_ S6 fun s7 J7 => ⟨_, _, J7, q6⟩
        | ret u => obtain ⟨v6, σ6, H6, S6, r6, q6⟩ := hsp; exact end_ S6 fun s7 J7 => ⟨v6, _, _, J7, r6, q6⟩
    · intro q
      cases q
  · cases f with
    | next => obtain ⟨σ', H', J', q⟩ := hsp; exact wpAny_execs_nil ⟨σ', H', J'.ofTry ok, q⟩
    | brk => obtain ⟨σ', H', J', q⟩ := hsp; exact ⟨σ', H', J'.ofTry ok, q⟩
    | cont => obtain ⟨σ', H', J', q⟩ := hsp; exact ⟨σ', H', J'.ofTry ok, q⟩
    | ret u => obtain ⟨v, σ', H', J', r, q⟩ := hsp; exact ⟨v, σ', H', J'.ofTry ok, r, q⟩⟩
end XL
namespace XL
open PySem PySem.W PySem.Calls PyProof.Rows PySem.HandSPX L2
section
variable {X : Cx} {C : Addr}
theorem xv_inst {pins : List (Addr × Obj)} {σ : L2.St} {H : Hp} {s : Shared} {a dd : Addr} {fs : List (Str × V)} (I : L2.Inv X pins σ H s) (e : H a = some (XV a (.ref C) (some dd))) (ed : H dd = some (.xd fs)) :
    ∃ oe od mA, InstAt s.heap a oe C (some od) ∧ s.heap.get? dd = some od ∧ s.heap.Ns1 dd mA ∧ ∀ f, RelO (fs.lookup f) (mA f) := by
  obtain ⟨oe, vs, h1, z, h2⟩ := xv_get I.hok e
  have hx : ObjOk X.prog X.w H s.heap dd (.xd fs) := I.hok dd _ ed
  obtain ⟨mA, hns, hr⟩ := hx
  obtain ⟨od, ho, hl⟩ := lookIn_ns hns
  refine ⟨oe, od, mA, ⟨h1, z.1, by unfold PySem.W.notCls; rw [h2] <;> rfl, by rw [z.2]; exact ho⟩, ho, hns, hr⟩
theorem call_isV (c : V) (cv : Value) (hcv : ∀ u, RelV c u → u = cv) : CallR X (.builtin "isinstance") (fun xs H Q => ∃ a C dd fs b, xs = [.ref a, c] ∧ ErV X.K C ∧ H a = some (XV a (.ref C) (some dd)) ∧ H dd = some (.xd fs) ∧ kitOne X.K (.ref C) cv = some b ∧ Q (.bl b) H) := by
  intro pins s σ H xs us Q I r h
  obtain ⟨a, C, dd, fs, b, rfl, E, ea, ed, hk, q⟩ := h
  obtain ⟨oe, od, mA, J, _⟩ := xv_inst I ea ed
  cases r with
  | cons r1 r2 =>
    cases r2 with
    | cons r3 r4 =>
      cases r4
      obtain rfl : _ = Value.ref a := r1
      obtain rfl := hcv _ r3
      exact kia_one (kitx_exc E.cl E.ga E.gg E.exC E.ha E.hn E.ht E.hm) I.kIn J hk (by intro z; cases z) fun tk => ⟨.bl b, H, I.kept fun _ _ z => z, rfl, q⟩
theorem pe_valV {e : Expr} {te : TE} {pos : Pos} {n : Str} (he : PE X e te) (hb : attributeBase e n X.env (eval e X.env) = eval e X.env) :
    PE X (.Attribute e n pos) (fun σ H Q => te σ H fun x H1 => ∃ (a C dd : Addr) (fs : List (Str × V)) (v : V), x = .ref a ∧ ErV X.K C ∧ findIn X.K (.ref C) n = some none ∧ H1 a = some (XV a (.ref C) (some dd)) ∧ H1 dd = some (.xd fs) ∧ fs.lookup n = some v ∧ Q v H1) := by
  refine ⟨fun pins s σ H Q I h => ?_⟩
  refine attr_of hb (thn (he.run pins s σ H _ I h) fun u s1 hh => ?_)
  obtain ⟨x, H1, I1, rx, a, C, dd, fs, v, rfl, E, hno, ea, ed, hl, q⟩ := hh
  obtain rfl : u = Value.ref a := rx
  obtain ⟨oe, od, mA, J, ho, hns, hr⟩ := xv_inst I1 ea ed
  obtain ⟨od', ho', hlo⟩ := lookIn_ns hns
  rw [ho] at ho'; cases ho'
  obtain ⟨u, hu, ru⟩ := RelO.some_of (v := v) (o := mA n) (by rw [← hl]; exact hr n)
  exact HandSPX.exc_get I1.kIn J E.ga E.gg E.exC (PySem.W.findObj_own E.hdC hno rfl (by rw [hlo, hu])) (handed_of ru) ⟨v, H1, I1.tok _, ru, q⟩
end
end XL
namespace XL
open PySem PySem.W PySem.Calls PyProof.Rows PySem.HandSPX L2 LamX
theorem lamO_ok {P : Program} {w : World} {H : Hp} {h : Heap} {f : Addr} {q : Str} {params : Arguments} {body : Expr} {scope : Scope} {cells : List (Str × Addr)} {c' : Addr} {pm ctv : Value} (e : h.get? f = some (W.kla_obj "<lambda>" q params body scope cells pm c' ctv)) : ObjOk P w H h f (LamO f q params body scope cells c') := by
  unfold LamO ObjOk
  refine ⟨⟨pm, ctv, e⟩, ⟨_, e⟩, fun h1 h2 p k => ?_⟩
  obtain ⟨pm, ctv, e⟩ := p
  exact ⟨pm, ctv, k _ e⟩
theorem lamO_get {P : Program} {w : World} {H : Hp} {h : Heap} {f : Addr} {q : Str} {params : Arguments} {body : Expr} {scope : Scope} {cells : List (Str × Addr)} {c' : Addr} (k : HOk P w H h) (e : H f = some (LamO f q params body scope cells c')) : ∃ pm ctv, h.get? f = some (W.kla_obj "<lambda>" q params body scope cells pm c' ctv) := by
  have := k f _ e
  unfold LamO ObjOk at this
  exact this.1
theorem give_lam {X : Cx} {pins : List (Addr × Obj)} {σ : L2.St} {H H1 : Hp} {s s1 : Shared} {f : Addr} {q : Str} {params : Arguments} {body : Expr} {scope : Scope} {cells : List (Str × Addr)} {c' : Addr} {pm ctv : Value} (I : L2.Inv X pins σ H s) (I1 : L2.Inv X pins σ H1 s1) (hex : X.ex = []) (hf : s.heap.objs.size ≤ f) (hn : H1 f = none)
    (e : s1.heap.get? f = some (W.kla_obj "<lambda>" q params body scope cells pm c' ctv)) : L2.Inv X pins σ (upd H1 f (LamO f q params body scope cells c')) s1 := by
  have old : ∀ b o, s.heap.get? b = some o → b ≠ f := fun b o k z => by
    have := Heap.lt_size k
    rw [z] at this
    exact absurd this (Nat.not_lt.mpr hf)
  refine inv_give I1 hn (fun xs z => by cases z) ?_ (fun z => ?_) (fun v hv => ?_) (fun p hp => old p.1 p.2 (I.pin p hp).1) (lamO_ok e)
  · cases k : X.s_0.heap.get? f with
    | none => rfl
    | some o =>
      obtain ⟨o', k'⟩ := I.base.there f o k (by rw [hex]; exact List.not_mem_nil)
      exact absurd rfl (old f o' k')
  · have := I.lt
    rw [← z] at this
    exact absurd this (Nat.not_lt.mpr hf)
  · obtain ⟨o, y1, y2⟩ := hv
    rw [e] at y1; cases y1
    cases y2
end XL
namespace DL
open PySem L2
def mdel (M : Mp) (a : Addr) : Mp := fun b => if b = a then none else M b
theorem mdel_same {M : Mp} {a : Addr} : mdel M a a = none := if_pos rfl
theorem mdel_ne {M : Mp} {a b : Addr} (h : b ≠ a) : mdel M a b = M b := if_neg h
theorem mset_mset {M : Mp} {a : Addr} {o u : MO} : mset (mset M a o) a u = mset M a u := by
  funext b; unfold mset; split <;> rfl
section
variable {K : PySem.W.Frag} {M M' : Mp} {Z : Zn} {H H' : Hp}
theorem Rep.mono (e : Ext M Z H M' H') {v : V} {d : D} (r : Rep K M Z H v d) : Rep K M' Z H' v d := r.monoI e.i
theorem RepO.mono (e : Ext M Z H M' H') {v : List (Option V)} {d : List (Option D)} (r : RepO K M Z H v d) : RepO K M' Z H' v d := r.monoI e.i
theorem Reps.mono (e : Ext M Z H M' H') {v : List V} {d : List D} (r : Reps K M Z H v d) : Reps K M' Z H' v d := r.monoI e.i
theorem RepK.mono (e : Ext M Z H M' H') {v : List (Key × V)} {d : List (Key × D)} (r : RepK K M Z H v d) : RepK K M' Z H' v d := r.monoI e.i
theorem RepT.mono (e : Ext M Z H M' H') {v : List (List Key × V)} {d : List (List Key × D)} (r : RepT K M Z H v d) : RepT K M' Z H' v d := r.monoI e.i
theorem RepF.mono (e : Ext M Z H M' H') {v : List (Str × V)} {d : List (Str × D)} (r : RepF K M Z H v d) : RepF K M' Z H' v d := r.monoI e.i
end
theorem Reps.append {K : PySem.W.Frag} {M : Mp} {Z : Zn} {H : Hp} : ∀ {vs ws : List V} {ds es : List D}, Reps K M Z H vs ds → Reps K M Z H ws es → Reps K M Z H (vs ++ ws) (ds ++ es)
  | _, _, _, _, .nil, s => s
  | _, _, _, _, .cons r t, s => .cons r (Reps.append t s)
theorem Reps.ints {K : PySem.W.Frag} {M : Mp} {Z : Zn} {H : Hp} : ∀ {vs : List V} {ns : List Int}, Reps K M Z H vs (ns.map D.int) → vs = ns.map V.int
  | _, [], .nil => rfl
  | _, _ :: _, .cons (.int _) t => by rw [List.map_cons, Reps.ints t]
theorem Reps.ofInts {K : PySem.W.Frag} {M : Mp} {Z : Zn} {H : Hp} : ∀ (ns : List Int), Reps K M Z H (ns.map V.int) (ns.map D.int)
  | [] => .nil
  | _ :: r => .cons (.int _) (Reps.ofInts r)
theorem Reps.bls {K : PySem.W.Frag} {M : Mp} {Z : Zn} {H : Hp} : ∀ {vs : List V} {ns : List Bool}, Reps K M Z H vs (ns.map D.bl) → vs = ns.map V.bl
  | _, [], .nil => rfl
  | _, _ :: _, .cons (.bl _) t => by rw [List.map_cons, Reps.bls t]
theorem Reps.strs {K : PySem.W.Frag} {M : Mp} {Z : Zn} {H : Hp} : ∀ {vs : List V} {ns : List Str}, Reps K M Z H vs (ns.map D.str) → vs = ns.map V.str
  | _, [], .nil => rfl
  | _, _ :: _, .cons (.str _) t => by rw [List.map_cons, Reps.strs t]
theorem Wd.fresh {K : PySem.W.Frag} {M : Mp} {Z : Zn} {H : Hp} (w : Wd K M Z H) {a : Addr} (h : H a = none) : Im M Z a := by
  refine ⟨?_, fun z => ?_⟩
  · cases e : M a with
    | none => rfl
    | some o =>
      obtain ⟨u, q⟩ := (w.1 a o e).there
      rw [h] at q; cases q
  · obtain ⟨_, u, q⟩ := w.2 a z
    rw [h] at q; cases q
section
variable {K : PySem.W.Frag} {M : Mp} {Z : Zn} {H : Hp} {p : Addr} {o : HO} {u v : MO}
theorem Wd.zne (w : Wd K M Z H) (h : H p = none) : ∀ b, Z b → b ≠ p := fun b z e => by
  obtain ⟨_, u, q⟩ := w.2 b z
  rw [e, h] at q; cases q
/-- a new immutable object -/
theorem Ext.new (w : Wd K M Z H) (h : H p = none) : Ext M Z H M (upd H p o) := ⟨fun b u q m => ⟨by rw [upd_ne (ne_of_none q h)]; exact q, m⟩, fun b z => ⟨upd_ne (w.zne h b z), rfl⟩⟩
theorem Wd.new (w : Wd K M Z H) (h : H p = none) : Wd K M Z (upd H p o) := ⟨fun a u e => by
  obtain ⟨z, q⟩ := (w.1 a u e).there
  exact (w.1 a u e).step (Ext.new w h) (upd_ne (ne_of_none q h)), fun b z => by
  obtain ⟨m, u, q⟩ := w.2 b z
  exact ⟨m, u, by rw [upd_ne (w.zne h b z)]; exact q⟩⟩
/-- a new mutable object -/
theorem Ext.newM (w : Wd K M Z H) (h : H p = none) : Ext M Z H (mset M p u) (upd H p o) := ⟨fun b z q m => ⟨by rw [upd_ne (ne_of_none q h)]; exact q, by rw [mset_ne (ne_of_none q h)]; exact m.1, m.2⟩, fun b z => ⟨upd_ne (w.zne h b z), mset_ne (w.zne h b z)⟩⟩
theorem Wd.newM (w : Wd K M Z H) (h : H p = none) (r : RepM K (mset M p u) Z (upd H p o) p u) : Wd K (mset M p u) Z (upd H p o) := ⟨fun a z e => by
  by_cases ha : a = p
  · subst ha; rw [mset_same] at e; cases e; exact r
  · rw [mset_ne ha] at e
    exact (w.1 a z e).step (Ext.newM w h) (upd_ne ha), fun b z => by
  obtain ⟨m, u, q⟩ := w.2 b z
  exact ⟨by rw [mset_ne (w.zne h b z)]; exact m, u, by rw [upd_ne (w.zne h b z)]; exact q⟩⟩
end
theorem EnvR.mono {K : PySem.W.Frag} {M M' : Mp} {Z : Zn} {H H' : Hp} (e : Ext M Z H M' H') {σ : St} {ρ : Rho} (r : EnvR K M Z H σ ρ) : EnvR K M' Z H' σ ρ := r.monoI e.i
theorem EnvR.unset {K : PySem.W.Frag} {M : Mp} {Z : Zn} {H : Hp} {o : Option V} : ∀ {σ : St} {ρ : Rho} (i : Nat), EnvR K M Z H σ ρ → EnvR K M Z H (σ.set i o) (ρ.set i .none)
  | _, _, _, .nil => .nil
  | _, _, 0, .val _ t => .any t
  | _, _, 0, .any t => .any t
  | _, _, i + 1, .val q t => .val q (EnvR.unset i t)
  | _, _, i + 1, .any t => .any (EnvR.unset i t)
theorem EnvR.start {K : PySem.W.Frag} {M : Mp} {Z : Zn} {H : Hp} {σ : St} {ρ : Rho} (t : EnvR K M Z H σ ρ) : ∀ {vs : List V} {ds : List D}, Reps K M Z H vs ds → EnvR K M Z H (vs.map Option.some ++ σ) (ds.map Option.some ++ ρ)
  | _, _, .nil => t
  | _, _, .cons r q => .val r (EnvR.start t q)
/-- the slots at a def's entry -/
def start (N : List Str) (ds : List D) : Rho := ds.map some ++ List.replicate (N.length - ds.length) none
theorem env_start {K : PySem.W.Frag} {M : Mp} {Z : Zn} {H : Hp} {N : List Str} {vs : List V} {ds : List D} (r : Reps K M Z H vs ds) : EnvR K M Z H (L2.start N vs) (start N ds) := by
  unfold L2.start start
  rw [r.length]
  exact EnvR.start (EnvR.empty _) r
end DL
namespace DL
open PySem L2
section
variable (X : Cx)
def eSem (e : Expr) : TE := fun σ H Q => ∀ pins s, Inv X pins σ H s → wpAny (model X.prog X.w) X.A (eval e X.env) (EP X pins σ Q) X.xe s
def tSem (e : Expr) : TT := fun σ H Q => ∀ pins s, Inv X pins σ H s → wpAny (model X.prog X.w) X.A (isTrue e X.env (eval e X.env)) (TP X pins σ Q) X.xe s
def wSem (e : Expr) : TT := fun σ H Q => ∀ (whole : Sem Value) pins s, Inv X pins σ H s → wpAny (model X.prog X.w) X.A (isTrue e X.env whole) (TP X pins σ Q) X.xe s
def aSem (es : List Expr) : TA := fun σ H Q => ∀ pos pins s, Inv X pins σ H s → wpAny (model X.prog X.w) X.A (spliced (backTo pos (starEach es X.env))) (AP X pins σ Q) X.xe s
def sSem (st : Stmt) : TS := fun D σ H => ∀ pins s, Inv X pins σ H s → wpAny (model X.prog X.w) X.A (exec st X.env) (SP X pins D) X.xe s
def ssSem (st : List Stmt) : TS := fun D σ H => ∀ pins s, Inv X pins σ H s → wpAny (model X.prog X.w) X.A (execs st X.env) (SP X pins D) X.xe s
def gSem (tg : Expr) : TG := fun v σ H Q => ∀ pins s u, Inv X pins σ H s → RelV v u → wpAny (model X.prog X.w) X.A (assign tg X.env u) (fun _ s' => ∃ σ' H', Inv X pins σ' H' s' ∧ Q σ' H') X.xe s
def gsSem (ts : List Expr) : TGs := fun vs σ H Q => ∀ pins s us, Inv X pins σ H s → Vals vs us → wpAny (model X.prog X.w) X.A (assignInOrder ((assignEach ts X.env).map (·.2)) us) (fun _ s' => ∃ σ' H', Inv X pins σ' H' s' ∧ Q σ' H') X.xe s
def iSem (tg iter : Expr) : TI := fun σ H R => ∀ pins s, Inv X pins σ H s → wpAny (model X.prog X.w) X.A (eval iter X.env) (fun v s1 => wpAny (model X.prog X.w) X.A (pyIter v) (PIE X pins σ tg R) X.xe s1) X.xe s
end
section
variable {X : Cx} {e tg : Expr} {es : List Expr} {st : Stmt} {sts : List Stmt} {σ : L2.St} {H : Hp}
theorem pe_sem : PE X e (eSem X e) := ⟨fun pins s σ H Q I h => h pins s I⟩
theorem pt_sem : PT X e (tSem X e) := ⟨fun pins s σ H Q I h => h pins s I⟩
theorem pw_sem : PW X e (wSem X e) := ⟨fun wh pins s σ H Q I h => h wh pins s I⟩
theorem pa_sem : PA X es (aSem X es) := ⟨fun pos pins s σ H Q I h => h pos pins s I⟩
theorem ps_sem : PS X st (sSem X st) := ⟨fun pins s σ H D I h => h pins s I⟩
theorem pss_sem : PSs X sts (ssSem X sts) := ⟨fun pins s σ H D I h => h pins s I⟩
theorem pg_sem : PG X tg (gSem X tg) := ⟨fun pins s σ H v u Q I r h => h pins s u I r⟩
theorem pgs_sem : PGs X es (gsSem X es) := ⟨fun pins s σ H v u Q I r h => h pins s u I r⟩
theorem pi_sem : PI X tg e (iSem X tg e) := ⟨fun pins s σ H R I h => h pins s I⟩
theorem eOf {t : TE} {Q : VK} (h : PE X e t) (q : t σ H Q) : eSem X e σ H Q := fun pins s I => h.run pins s σ H Q I q
theorem tOf {t : TT} {Q : Bool → Hp → Prop} (h : PT X e t) (q : t σ H Q) : tSem X e σ H Q := fun pins s I => h.run pins s σ H Q I q
theorem wOf {t : TT} {Q : Bool → Hp → Prop} (h : PW X e t) (q : t σ H Q) : wSem X e σ H Q := fun wh pins s I => h.run wh pins s σ H Q I q
theorem aOf {t : TA} {Q : List V → Hp → Prop} (h : PA X es t) (q : t σ H Q) : aSem X es σ H Q := fun pos pins s I => h.run pos pins s σ H Q I q
theorem sOf {t : TS} {D : Ends} (h : PS X st t) (q : t D σ H) : sSem X st D σ H := fun pins s I => h.run pins s σ H D I q
theorem ssOf {t : TS} {D : Ends} (h : PSs X sts t) (q : t D σ H) : ssSem X sts D σ H := fun pins s I => h.run pins s σ H D I q
theorem gOf {t : TG} {v : V} {Q : L2.St → Hp → Prop} (h : PG X tg t) (q : t v σ H Q) : gSem X tg v σ H Q := fun pins s u I r => h.run pins s σ H v u Q I r q
theorem gsOf {t : TGs} {vs : List V} {Q : L2.St → Hp → Prop} (h : PGs X es t) (q : t vs σ H Q) : gsSem X es vs σ H Q := fun pins s u I r => h.run pins s σ H vs u Q I r q
end
section
variable {K : PySem.W.Frag} {M M1 : Mp} {Z : Zn} {H H1 : Hp}
theorem KE.now {Φ : D → Mp → Prop} {Q : VK} {v : V} {d : D} (k : KE K M Z H Φ Q) (w : Wd K M Z H) (r : Rep K M Z H v d) (h : Φ d M) : Q v H := k v d H M Ext.refl w r h
theorem KE.new {Φ : D → Mp → Prop} {Q : VK} {p : Addr} {o : HO} {d : D} (k : KE K M Z H Φ Q) (w : Wd K M Z H) (hp : H p = none) (r : Rep K M Z (upd H p o) (.ref p) d) (h : Φ d M) : Q (.ref p) (upd H p o) :=
  k _ d _ M (Ext.new w hp) (w.new hp) r h
theorem KT.now {Φ : Bool → Mp → Prop} {Q : Bool → Hp → Prop} {b : Bool} (k : KT K M Z H Φ Q) (w : Wd K M Z H) (h : Φ b M) : Q b H := k b H M Ext.refl w h
end
structure WE (X : Cx) (ρ : Rho) (M : Mp) (e : Expr) (Φ : D → Mp → Prop) : Prop where
  run : ∀ {Z : Zn} σ H (Q : VK), EnvR X.K M Z H σ ρ → Wd X.K M Z H → KE X.K M Z H Φ Q → eSem X e σ H Q
structure WT (X : Cx) (ρ : Rho) (M : Mp) (e : Expr) (Φ : Bool → Mp → Prop) : Prop where
  run : ∀ {Z : Zn} σ H (Q : Bool → Hp → Prop), EnvR X.K M Z H σ ρ → Wd X.K M Z H → KT X.K M Z H Φ Q → tSem X e σ H Q
structure WW (X : Cx) (ρ : Rho) (M : Mp) (e : Expr) (Φ : Bool → Mp → Prop) : Prop where
  run : ∀ {Z : Zn} σ H (Q : Bool → Hp → Prop), EnvR X.K M Z H σ ρ → Wd X.K M Z H → KT X.K M Z H Φ Q → wSem X e σ H Q
structure WA (X : Cx) (ρ : Rho) (M : Mp) (es : List Expr) (Φ : List D → Mp → Prop) : Prop where
  run : ∀ {Z : Zn} σ H (Q : List V → Hp → Prop), EnvR X.K M Z H σ ρ → Wd X.K M Z H → KA X.K M Z H Φ Q → aSem X es σ H Q
structure WS (X : Cx) (ρ : Rho) (M : Mp) (st : Stmt) (Ψ : DE) : Prop where
  run : ∀ {Z : Zn} σ H (E : Ends), EnvR X.K M Z H σ ρ → Wd X.K M Z H → KS X.K M Z H Ψ E → sSem X st E σ H
structure WSs (X : Cx) (ρ : Rho) (M : Mp) (st : List Stmt) (Ψ : DE) : Prop where
  run : ∀ {Z : Zn} σ H (E : Ends), EnvR X.K M Z H σ ρ → Wd X.K M Z H → KS X.K M Z H Ψ E → ssSem X st E σ H
structure WG (X : Cx) (tg : Expr) (d : D) (ρ : Rho) (M : Mp) (Φ : Rho → Mp → Prop) : Prop where
  run : ∀ {Z : Zn} σ H v (Q : L2.St → Hp → Prop), EnvR X.K M Z H σ ρ → Wd X.K M Z H → Rep X.K M Z H v d → KG X.K M Z H Φ Q → gSem X tg v σ H Q
structure WGs (X : Cx) (tg : List Expr) (ds : List D) (ρ : Rho) (M : Mp) (Φ : Rho → Mp → Prop) : Prop where
  run : ∀ {Z : Zn} σ H vs (Q : L2.St → Hp → Prop), EnvR X.K M Z H σ ρ → Wd X.K M Z H → Reps X.K M Z H vs ds → KG X.K M Z H Φ Q → gsSem X tg vs σ H Q
section
variable {X : Cx} {ρ : Rho} {M : Mp} {Φ : D → Mp → Prop} {e a b : Expr} {pos : Pos}
/-- weaken the end -/
theorem WE.imp {Φ' : D → Mp → Prop} (h : WE X ρ M e Φ') (k : ∀ d M', Φ' d M' → Φ d M') : WE X ρ M e Φ := .mk fun σ H Q en w q => h.run σ H Q en w fun v d H' M' x w' r z => q v d H' M' x w' r (k d M' z)
theorem WA.imp {es : List Expr} {Φ Φ' : List D → Mp → Prop} (h : WA X ρ M es Φ') (k : ∀ d M', Φ' d M' → Φ d M') : WA X ρ M es Φ := .mk fun σ H Q en w q => h.run σ H Q en w fun v d H' M' x w' r z => q v d H' M' x w' r (k d M' z)
theorem WT.imp {Φ Φ' : Bool → Mp → Prop} (h : WT X ρ M e Φ') (k : ∀ d M', Φ' d M' → Φ d M') : WT X ρ M e Φ := .mk fun σ H Q en w q => h.run σ H Q en w fun b H' M' x w' z => q b H' M' x w' (k b M' z)
theorem we_var (i : Nat) {x : Str} {d : D} (hr : ρ[i]? = some (some d)) (h : Φ d M) (hN : X.N[i]? = some x := by rfl) (hv : Vis X.env.scope x := by first | exact Or.inl rfl | exact Or.inr (Or.inl rfl) | exact Or.inr (Or.inr rfl))
    (hd : (x == ("__debug__" : Str)) = false := by decide) (hcd : (x == ("__classdict__" : Str)) = false := by decide) : WE X ρ M (.Name x pos) Φ := .mk fun σ H Q en w k => by
  obtain ⟨v, e1, r⟩ := en.get hr
  exact eOf (pe_var hN hv hd hcd) ⟨v, e1, k.now w r h⟩
theorem we_int {i : Int} {j : Nat} (h : Φ (.int i) M) : WE X ρ M (.Constant (.int i) j pos) Φ := .mk fun σ H Q en w k => eOf pe_int (k.now w (.int i) h)
theorem we_bl {i : Bool} {j : Nat} (h : Φ (.bl i) M) : WE X ρ M (.Constant (.bool i) j pos) Φ := .mk fun σ H Q en w k => eOf pe_bl (k.now w (.bl i) h)
theorem we_non {j : Nat} (h : Φ .non M) : WE X ρ M (.Constant .none j pos) Φ := .mk fun σ H Q en w k => eOf pe_non (k.now w .non h)
theorem we_str {i : Str} {j : Nat} (h : Φ (.str i) M) : WE X ρ M (.Constant (.str i) j pos) Φ := .mk fun σ H Q en w k => eOf pe_str (k.now w (.str i) h)
/-- a module's constant -/
theorem we_gint {x : Str} {i : Int} (hm : ∃ t, X.mg x = some (.int i t)) (h : Φ (.int i) M) (hg : Gl X x := by rfl) (hd : (x == ("__debug__" : Str)) = false := by decide) : WE X ρ M (.Name x pos) Φ := .mk fun σ H Q en w k => by
  obtain ⟨t, hm⟩ := hm
  exact eOf (pe_glob (v := .int i) hg hm ⟨t, rfl⟩ hd) (k.now w (.int i) h)
theorem we_gstr {x : Str} {i : Str} (hm : ∃ t, X.mg x = some (.str i t)) (h : Φ (.str i) M) (hg : Gl X x := by rfl) (hd : (x == ("__debug__" : Str)) = false := by decide) : WE X ρ M (.Name x pos) Φ := .mk fun σ H Q en w k => by
  obtain ⟨t, hm⟩ := hm
  exact eOf (pe_glob (v := .str i) hg hm ⟨t, rfl⟩ hd) (k.now w (.str i) h)
theorem we_gref {x : Str} {a : Addr} {d : D} (hm : X.mg x = some (.ref a)) (hr : ∀ M Z H, Rep X.K M Z H (.ref a) d) (h : Φ d M) (hg : Gl X x := by rfl) (hd : (x == ("__debug__" : Str)) = false := by decide) : WE X ρ M (.Name x pos) Φ := .mk fun σ H Q en w k =>
  eOf (pe_glob (v := .ref a) hg hm rfl hd) (k.now w (hr _ _ _) h)
/-- a built-in class as a value -/
theorem we_bty {x : Str} {n : String} (hm : X.mg x = none) (hv : bootBuiltins x = some (.type n)) (h : Φ (.ty n) M) (hg : Gl X x := by rfl) (hn : x ≠ "__name__" := by decide) (hd : (x == ("__debug__" : Str)) = false := by decide) : WE X ρ M (.Name x pos) Φ := .mk fun σ H Q en w k =>
  eOf (pe_bltn (v := .ty n) hg hm hv rfl hn hd) (k.now w (.ty n) h)
def RD (K : PySem.W.Frag) (r : R2) (x y : D) (M : Mp) (Φ : D → Mp → Prop) : Prop := ∀ (Z : Zn) v u H Q, Wd K M Z H → Rep K M Z H v x → Rep K M Z H u y → KE K M Z H Φ Q → r v u H Q
def RU (K : PySem.W.Frag) (r : V → Hp → VK → Prop) (x : D) (M : Mp) (Φ : D → Mp → Prop) : Prop := ∀ (Z : Zn) v H Q, Wd K M Z H → Rep K M Z H v x → KE K M Z H Φ Q → r v H Q
def RC (K : PySem.W.Frag) (r : List V → Hp → VK → Prop) (xs : List D) (M : Mp) (Φ : D → Mp → Prop) : Prop := ∀ (Z : Zn) vs H Q, Wd K M Z H → Reps K M Z H vs xs → KE K M Z H Φ Q → r vs H Q
theorem bind2 {Ψ : D → D → Mp → Prop} (h : WE X ρ M a fun x M1 => WE X ρ M1 b fun y M2 => Ψ x y M2) {Z : Zn} {σ : L2.St} {H : Hp} {R : V → V → Hp → Prop} (en : EnvR X.K M Z H σ ρ) (w : Wd X.K M Z H)
    (k : ∀ v u x y H2 M2, Ext M Z H M2 H2 → Wd X.K M2 Z H2 → Rep X.K M2 Z H2 v x → Rep X.K M2 Z H2 u y → Ψ x y M2 → R v u H2) : eSem X a σ H fun x H1 => eSem X b σ H1 fun y H2 => R x y H2 :=
  h.run σ H _ en w fun v x H1 M1 e1 w1 r1 hb => hb.run σ H1 _ (en.mono e1) w1 fun u y H2 M2 e2 w2 r2 hr => k v u x y H2 M2 (e1.trans e2) w2 (r1.mono e2) r2 hr
theorem we_op {op : Operator} {r : R2} (ho : OpR X (binaryOp op) r) (h : WE X ρ M a fun x M1 => WE X ρ M1 b fun y M2 => RD X.K r x y M2 Φ) : WE X ρ M (.BinOp a op b pos) Φ := .mk fun σ H Q en w k =>
  eOf (pe_op ho pe_sem pe_sem) (bind2 h en w fun v u x y H2 M2 e w2 r1 r2 hr => hr _ v u H2 Q w2 r1 r2 (k.step e))
theorem we_cmp {op : CmpOp} {r : R2} (ho : OpR X (compareOp op) r) (hm : behindInMarks op b = false) (h : WE X ρ M a fun x M1 => WE X ρ M1 b fun y M2 => RD X.K r x y M2 Φ) : WE X ρ M (.Compare a [op] [b] pos) Φ := .mk fun σ H Q en w k =>
  eOf (pe_cmpR ho pe_sem pe_sem hm) (bind2 h en w fun v u x y H2 M2 e w2 r1 r2 hr => hr _ v u H2 Q w2 r1 r2 (k.step e))
theorem we_un {op : UnaryOp} {r : V → Hp → VK → Prop} (ho : UnR X (unaryOp op) r) (h : WE X ρ M a fun x M1 => RU X.K r x M1 Φ) : WE X ρ M (.UnaryOp op a pos) Φ := .mk fun σ H Q en w k =>
  eOf (pe_un ho pe_sem) (h.run σ H _ en w fun v x H1 M1 e1 w1 r1 hr => hr _ v H1 Q w1 r1 (k.step e1))
/-- one comparison as a test -/
theorem wt_cmp {op : CmpOp} {r : R2} {Φ : Bool → Mp → Prop} (ho : OpR X (compareOp op) r) (hm : behindInMarks op b = false) (h : WE X ρ M a fun x M1 => WE X ρ M1 b fun y M2 => RD X.K r x y M2 fun d M3 => ∃ c, d = .bl c ∧ Φ c M3) : WT X ρ M (.Compare a [op] [b] pos) Φ := .mk fun σ H Q en w k =>
  tOf (pt_cmpR ho pe_sem pe_sem hm) (bind2 h en w fun v u x y H2 M2 e w2 r1 r2 hr => hr _ v u H2 _ w2 r1 r2 fun z d H3 M3 e3 w3 r3 hz => by
    obtain ⟨c, rfl, hz⟩ := hz
    cases r3
    exact ⟨c, rfl, k c H3 M3 (e.trans e3) w3 hz⟩)
/-- a value that is a bool, as a test -/
theorem wt_val {Φ : Bool → Mp → Prop} (h : WE X ρ M e fun d M1 => ∃ c, d = .bl c ∧ Φ c M1) (he : ∀ whole, isTrue e X.env whole = (do let v ← whole; standAt e.pos; holding [v] (truthy v)) := by intro _; rfl) : WT X ρ M e Φ := .mk fun σ H Q en w k =>
  tOf (pt_val pe_sem he) (h.run σ H _ en w fun v x H1 M1 e1 w1 r1 hz => by
    obtain ⟨c, rfl, hz⟩ := hz
    cases r1
    exact ⟨c, rfl, k c H1 M1 e1 w1 hz⟩)
theorem wt_not {Φ : Bool → Mp → Prop} (h : WT X ρ M a fun c M1 => Φ (!c) M1) : WT X ρ M (.UnaryOp .Not a pos) Φ := .mk fun σ H Q en w k =>
  tOf (pt_not pt_sem) (h.run σ H _ en w fun c H1 M1 e1 w1 hz => k _ H1 M1 e1 w1 hz)
theorem ww_and1 {Φ : Bool → Mp → Prop} (h : WT X ρ M a Φ) : WW X ρ M (.BoolOp .And [a] pos) Φ := .mk fun σ H Q en w k => wOf (pw_and1 pt_sem) (h.run σ H Q en w k)
theorem ww_or1 {Φ : Bool → Mp → Prop} (h : WT X ρ M a Φ) : WW X ρ M (.BoolOp .Or [a] pos) Φ := .mk fun σ H Q en w k => wOf (pw_or1 pt_sem) (h.run σ H Q en w k)
theorem ww_and {Φ : Bool → Mp → Prop} {rest : List Expr} (h : WT X ρ M a fun c M1 => if c = true then WW X ρ M1 (.BoolOp .And (b :: rest) pos) Φ else Φ false M1) : WW X ρ M (.BoolOp .And (a :: b :: rest) pos) Φ := .mk fun σ H Q en w k =>
  wOf (pw_and pt_sem pw_sem) (h.run σ H _ en w fun c H1 M1 e1 w1 hz => by
    cases c with
    | true => exact hz.run σ H1 Q (en.mono e1) w1 (k.step e1)
    | false => exact k false H1 M1 e1 w1 hz)
theorem ww_or {Φ : Bool → Mp → Prop} {rest : List Expr} (h : WT X ρ M a fun c M1 => if c = true then Φ true M1 else WW X ρ M1 (.BoolOp .Or (b :: rest) pos) Φ) : WW X ρ M (.BoolOp .Or (a :: b :: rest) pos) Φ := .mk fun σ H Q en w k =>
  wOf (pw_or pt_sem pw_sem) (h.run σ H _ en w fun c H1 M1 e1 w1 hz => by
    cases c with
    | true => exact k true H1 M1 e1 w1 hz
    | false => exact hz.run σ H1 Q (en.mono e1) w1 (k.step e1))
theorem wt_ww {Φ : Bool → Mp → Prop} (h : WW X ρ M e Φ) : WT X ρ M e Φ := .mk fun σ H Q en w k => tOf pw_sem.pt (h.run σ H Q en w k)
/-- as values (all but the last are bools) -/
theorem we_one {op : BoolOp} (h : WE X ρ M a Φ) : WE X ρ M (.BoolOp op [a] pos) Φ := .mk fun σ H Q en w k => eOf (pe_one pe_sem) (h.run σ H Q en w k)
theorem we_and {rest : List Expr} (h : WE X ρ M a fun d M1 => ∃ c, d = .bl c ∧ if c = true then WE X ρ M1 (.BoolOp .And (b :: rest) pos) Φ else Φ (.bl false) M1) : WE X ρ M (.BoolOp .And (a :: b :: rest) pos) Φ := .mk fun σ H Q en w k =>
  eOf (pe_and pe_sem pe_sem) (h.run σ H _ en w fun v x H1 M1 e1 w1 r1 hz => by
    obtain ⟨c, rfl, hz⟩ := hz
    cases r1
    refine ⟨c, rfl, ?_⟩
    cases c with
    | true => exact hz.run σ H1 Q (en.mono e1) w1 (k.step e1)
    | false => exact k.step e1 |>.now w1 (.bl false) hz)
theorem we_or {rest : List Expr} (h : WE X ρ M a fun d M1 => ∃ c, d = .bl c ∧ if c = true then Φ (.bl true) M1 else WE X ρ M1 (.BoolOp .Or (b :: rest) pos) Φ) : WE X ρ M (.BoolOp .Or (a :: b :: rest) pos) Φ := .mk fun σ H Q en w k =>
  eOf (pe_or pe_sem pe_sem) (h.run σ H _ en w fun v x H1 M1 e1 w1 r1 hz => by
    obtain ⟨c, rfl, hz⟩ := hz
    cases r1
    refine ⟨c, rfl, ?_⟩
    cases c with
    | true => exact k.step e1 |>.now w1 (.bl true) hz
    | false => exact hz.run σ H1 Q (en.mono e1) w1 (k.step e1))
theorem we_not (h : WE X ρ M a fun d M1 => ∃ c, d = .bl c ∧ Φ (.bl (!c)) M1) : WE X ρ M (.UnaryOp .Not a pos) Φ := .mk fun σ H Q en w k =>
  eOf (pe_not pe_sem) (h.run σ H _ en w fun v x H1 M1 e1 w1 r1 hz => by
    obtain ⟨c, rfl, hz⟩ := hz
    cases r1
    exact ⟨c, rfl, k.step e1 |>.now w1 (.bl _) hz⟩)
theorem we_if {c : Expr} (h : WT X ρ M c fun b' M1 => if b' = true then WE X ρ M1 a Φ else WE X ρ M1 b Φ) : WE X ρ M (.IfExp c a b pos) Φ := .mk fun σ H Q en w k =>
  eOf (pe_ifExp pt_sem pe_sem pe_sem) (h.run σ H _ en w fun c H1 M1 e1 w1 hz => by
    cases c with
    | true => exact hz.run σ H1 Q (en.mono e1) w1 (k.step e1)
    | false => exact hz.run σ H1 Q (en.mono e1) w1 (k.step e1))
variable {es : List Expr} {ΦA : List D → Mp → Prop}
theorem wa_nil (h : ΦA [] M) : WA X ρ M [] ΦA := .mk fun σ H Q en w k => aOf pa_nil (k [] [] H M Ext.refl w .nil h)
theorem wa_cons (h : WE X ρ M e fun d M1 => WA X ρ M1 es fun ds M2 => ΦA (d :: ds) M2) (hs : starEach (e :: es) X.env = (false, eval e X.env) :: starEach es X.env := by rfl) : WA X ρ M (e :: es) ΦA := .mk fun σ H Q en w k =>
  aOf (pa_cons pe_sem pa_sem hs) (h.run σ H _ en w fun v d H1 M1 e1 w1 r1 hz => hz.run σ H1 _ (en.mono e1) w1 fun vs ds H2 M2 e2 w2 r2 hy => k (v :: vs) (d :: ds) H2 M2 (e1.trans e2) w2 (.cons (r1.mono e2) r2) hy)
theorem we_tup {k1 : Nat} (h : WA X ρ M es fun ds M1 => ds.length ≤ sizeLine ∧ Φ (.tup ds) M1) : WE X ρ M (.Tuple es k1 pos) Φ := .mk fun σ H Q en w k =>
  eOf (pe_tup pa_sem) (h.run σ H _ en w fun vs ds H1 M1 e1 w1 r1 hz => ⟨by rw [r1.length]; exact hz.1, fun p hp => (k.step e1).new w1 hp (.tup (.inl upd_same) (w1.fresh hp) (r1.mono (Ext.new w1 hp))) hz.2⟩)
theorem we_lst (h : WA X ρ M es fun ds M1 => ds.length ≤ sizeLine ∧ Φ (.lst ds) M1) : WE X ρ M (.List es pos) Φ := .mk fun σ H Q en w k =>
  eOf (pe_lst pa_sem) (h.run σ H _ en w fun vs ds H1 M1 e1 w1 r1 hz => ⟨by rw [r1.length]; exact hz.1, fun p hp => (k.step e1).new w1 hp (.lst upd_same (w1.fresh hp) (r1.mono (Ext.new w1 hp))) hz.2⟩)
/-- a list that will be changed -/
theorem we_lstM (h : WA X ρ M es fun ds M1 => ds.length ≤ sizeLine ∧ ∀ p, M1 p = none → Φ (.ob p) (mset M1 p (.lst ds))) : WE X ρ M (.List es pos) Φ := .mk fun σ H Q en w k =>
  eOf (pe_lst pa_sem) (h.run σ H _ en w fun vs ds H1 M1 e1 w1 r1 hz => ⟨by rw [r1.length]; exact hz.1, fun p hp =>
    (k.step e1) _ (.ob p) _ (mset M1 p (.lst ds)) (Ext.newM w1 hp) (w1.newM hp ⟨vs, upd_same, r1.mono (Ext.newM w1 hp)⟩) (.ob p) (hz.2 p (w1.fresh hp).1)⟩)
end
end DL
namespace DL
open PySem L2
section
variable {X : Cx} {ρ : Rho} {M : Mp} {Ψ : DE} {e a b tg : Expr} {st : Stmt} {rest : List Stmt} {pos : Pos}
theorem wss_nil (h : Ψ.nx ρ M) : WSs X ρ M [] Ψ := .mk fun σ H E en w k => ssOf pss_nil (k.nx σ ρ H M Ext.refl w en h)
theorem wss_cons (h : WS X ρ M st { Ψ with nx := fun ρ' M' => WSs X ρ' M' rest Ψ }) : WSs X ρ M (st :: rest) Ψ := .mk fun σ H E en w k =>
  ssOf (pss_cons ps_sem pss_sem) (h.run σ H _ en w ⟨fun σ1 ρ1 H1 M1 e1 w1 en1 hz => hz.run σ1 H1 E en1 w1 (k.step e1), k.rt, k.bk, k.ct⟩)
theorem ws_expr (h : WE X ρ M e fun _ M1 => Ψ.nx ρ M1) (hs : swapsWith e none pos.line X.env = pure false := by rfl) : WS X ρ M (.Expr e pos) Ψ := .mk fun σ H E en w k =>
  sOf (ps_expr pe_sem hs) (h.run σ H _ en w fun v d H1 M1 e1 w1 r1 hz => k.nx σ ρ H1 M1 e1 w1 (en.mono e1) hz)
theorem ws_ret (h : WE X ρ M e Ψ.rt) : WS X ρ M (.Return (some e) pos) Ψ := .mk fun σ H E en w k => sOf (ps_ret pe_sem) (h.run σ H _ en w k.rt)
theorem ws_if {c : Expr} {sa sb : List Stmt} (h : WT X ρ M c fun b' M1 => if b' = true then WSs X ρ M1 sa Ψ else WSs X ρ M1 sb Ψ) : WS X ρ M (.If c sa sb pos) Ψ := .mk fun σ H E en w k =>
  sOf (ps_if pt_sem pss_sem pss_sem) (h.run σ H _ en w fun c H1 M1 e1 w1 hz => by
    cases c with
    | true => exact hz.run σ H1 E (en.mono e1) w1 (k.step e1)
    | false => exact hz.run σ H1 E (en.mono e1) w1 (k.step e1))
/-- other slots' data, less known -/
theorem WS.imp {Ψ' : DE} (h : WS X ρ M st Ψ') (n : ∀ ρ' M', Ψ'.nx ρ' M' → Ψ.nx ρ' M') (r : ∀ d M', Ψ'.rt d M' → Ψ.rt d M') (bk : ∀ ρ' M', Ψ'.bk ρ' M' → Ψ.bk ρ' M') (ct : ∀ ρ' M', Ψ'.ct ρ' M' → Ψ.ct ρ' M') : WS X ρ M st Ψ := .mk fun σ H E en w k =>
  h.run σ H E en w ⟨fun σ' ρ' H' M' x w' en' z => k.nx σ' ρ' H' M' x w' en' (n _ _ z), fun v d H' M' x w' r' z => k.rt v d H' M' x w' r' (r _ _ z), fun σ' ρ' H' M' x w' en' z => k.bk σ' ρ' H' M' x w' en' (bk _ _ z), fun σ' ρ' H' M' x w' en' z => k.ct σ' ρ' H' M' x w' en' (ct _ _ z)⟩
variable {Φ : Rho → Mp → Prop} {d : D} {ds : List D} {es : List Expr}
theorem wg_name (i : Nat) {x : Str} (h : Φ (ρ.set i (some d)) M) (hN : X.N.Nodup) (hi : X.N[i]? = some x := by rfl) (hx : Loc X.env.scope x := by first | exact Or.inl rfl | exact Or.inr rfl)
    (hf : X.fn x = true ∨ X.env.scope.names.lookup x = some .local := by first | exact .inl rfl | exact .inr rfl) : WG X (.Name x pos) d ρ M Φ := .mk fun σ H v Q en w r k =>
  gOf (pg_name hN hi hx hf) (k _ _ H M Ext.refl w (en.set r i) h)
theorem wgs_nil (h : ds = [] ∧ Φ ρ M) : WGs X [] ds ρ M Φ := .mk fun σ H vs Q en w r k => by
  obtain ⟨rfl, h⟩ := h
  cases r
  exact gsOf pgs_nil ⟨rfl, k _ _ H M Ext.refl w en h⟩
theorem wgs_cons {t : Expr} (h : WG X t d ρ M fun ρ1 M1 => WGs X es ds ρ1 M1 Φ) (hs : (assignEach (t :: es) X.env).map (·.2) = assign t X.env :: (assignEach es X.env).map (·.2) := by rfl) : WGs X (t :: es) (d :: ds) ρ M Φ := .mk fun σ H vs Q en w r k => by
  cases r with
  | cons r1 r2 =>
    exact gsOf (pgs_cons pg_sem pgs_sem hs) ⟨_, _, rfl, h.run σ H _ _ en w r1 fun σ1 ρ1 H1 M1 e1 w1 en1 hz => hz.run σ1 H1 _ Q en1 w1 (r2.mono e1) (k.step e1)⟩
theorem Rep.asTup {K : PySem.W.Frag} {M : Mp} {Z : Zn} {H : Hp} {v : V} {ds : List D} (r : Rep K M Z H v (.tup ds)) : ∃ a vs, v = .ref a ∧ SqT K H a vs ∧ Reps K M Z H vs ds := by
  cases r with
  | tup h m r => exact ⟨_, _, rfl, .inl h, r⟩
  | tupK h r => exact ⟨_, _, rfl, .inr h, r⟩
/-- what can be read as a list -/
def LstOf (M : Mp) : D → List D → Prop
  | .lst xs, ds => ds = xs
  | .rol xs, ds => ds = xs
  | .ob a, ds => M a = some (.lst ds)
  | _, _ => False
theorem Rep.asLst {K : PySem.W.Frag} {M : Mp} {Z : Zn} {H : Hp} {v : V} {d : D} {ds : List D} (w : Wd K M Z H) (r : Rep K M Z H v d) (l : LstOf M d ds) : ∃ a vs, v = .ref a ∧ SqL K H a vs ∧ Reps K M Z H vs ds := by
  cases r with
  | lst h m r => cases l; exact ⟨_, _, rfl, .inl (.inl h), r⟩
  | rol h m r => cases l; exact ⟨_, _, rfl, .inl h, r⟩
  | rolK h r => cases l; exact ⟨_, _, rfl, .inr h, r⟩
  | ob a =>
    obtain ⟨vs, h, r⟩ := w.1 a _ l
    exact ⟨_, _, rfl, .inl (.inl h), r⟩
  | _ => cases l
theorem wg_tup {k1 n : Nat} (h : d = .tup ds ∧ ds.length = n ∧ WGs X es ds ρ M Φ) (hc : X.calm = true := by rfl) (hn : (assignEach es X.env).length = n := by rfl) (hst : (assignEach es X.env).findIdx? (·.1) = none := by rfl) : WG X (.Tuple es k1 pos) d ρ M Φ := .mk fun σ H v Q en w r k => by
  obtain ⟨rfl, hl, h⟩ := h
  obtain ⟨a, vs, rfl, hq, rs⟩ := r.asTup
  exact gOf (pg_tup hc pgs_sem hn hst) ⟨a, vs, rfl, hq, by rw [rs.length]; exact hl, h.run σ H vs Q en w rs k⟩
theorem ws_asg (h : WE X ρ M e fun d M1 => WG X tg d ρ M1 Ψ.nx) (hs : swapsWithSole [tg] e pos.line X.env = pure false := by rfl) (hw : swappedStores [tg] e X.env = pure none := by rfl)
    (h1 : (assignEach [tg] X.env).map (·.2) = [assign tg X.env] := by rfl) : WS X ρ M (.Assign [tg] e pos) Ψ := .mk fun σ H E en w k =>
  sOf (ps_asg pe_sem pg_sem hs hw h1) (h.run σ H _ en w fun v d H1 M1 e1 w1 r1 hz => hz.run σ H1 v _ (en.mono e1) w1 r1 (k.nx.step e1))
theorem ws_set (i : Nat) {x : Str} {pos' : Pos} (hN : X.N.Nodup) (h : WE X ρ M e fun d M1 => Ψ.nx (ρ.set i (some d)) M1) (hi : X.N[i]? = some x := by rfl) (hx : Loc X.env.scope x := by first | exact Or.inl rfl | exact Or.inr rfl)
    (hs : swapsWith e (some (.Name x pos')) pos.line X.env = pure false := by rfl) (hf : X.fn x = true ∨ X.env.scope.names.lookup x = some .local := by first | exact .inl rfl | exact .inr rfl) : WS X ρ M (.Assign [.Name x pos'] e pos) Ψ := .mk fun σ H E en w k =>
  sOf (ps_set hN hi hx pe_sem hs hf) (h.run σ H _ en w fun v d H1 M1 e1 w1 r1 hz => k.nx _ _ H1 M1 e1 w1 ((en.mono e1).set r1 i) hz)
/-- a, b = x, y -/
theorem ws_par (i j : Nat) {x y : Str} {px py pt : Pos} {kt k2 : Nat} {pt2 : Pos} (hN : X.N.Nodup) (h : WA X ρ M [a, b] fun ds M1 => ∃ c d, ds = [c, d] ∧ Ψ.nx ((ρ.set i (some c)).set j (some d)) M1) (hi : X.N[i]? = some x := by rfl) (hj : X.N[j]? = some y := by rfl) (hij : i ≠ j := by decide)
    (hx : X.env.scope.names.lookup x = some .local := by rfl) (hy : X.env.scope.names.lookup y = some .local := by rfl) (hw : swappedStores [.Tuple [.Name x px, .Name y py] kt pt] (.Tuple [a, b] k2 pt2) X.env = pure (some [x, y]) := by rfl)
    (hc : X.calm = true := by rfl) (hs : swapsWithSole [.Tuple [.Name x px, .Name y py] kt pt] (.Tuple [a, b] k2 pt2) pos.line X.env = pure false := by rfl) : WS X ρ M (.Assign [.Tuple [.Name x px, .Name y py] kt pt] (.Tuple [a, b] k2 pt2) pos) Ψ := .mk fun σ H E en w k =>
  sOf (ps_par hc hN hi hj hij hx hy pa_sem hw hs) (h.run σ H _ en w fun vs ds H1 M1 e1 w1 r1 hz => by
    obtain ⟨c, d, rfl, hz⟩ := hz
    cases r1 with
    | cons r1 r2 =>
      cases r2 with
      | cons r2 r3 =>
        cases r3
        exact ⟨_, _, rfl, k.nx _ _ H1 M1 e1 w1 (((en.mono e1).set r1 i).set r2 j) hz⟩)
theorem ite_dec {p A B : Prop} [Decidable p] (h1 : p → A) (h2 : ¬ p → B) : if (decide p) = true then A else B := by
  by_cases h : p
  · rw [decide_eq_true h]; exact h1 h
  · rw [decide_eq_false h]; exact h2 h
/-- the walk J yields these data, whatever comes besides -/
def Sq (K : PySem.W.Frag) (M1 : Mp) (Z1 : Zn) (H1 : Hp) (J : It) (items : List D) : Prop := ∀ i M Z H, ExI M1 Z1 H1 M Z H → Wd K M Z H →
  (i = items.length → J.stop i H) ∧ ∀ d, items[i]? = some d → J.go i H ∧ ∀ x H', J.yld i H x H' → Ext M Z H M H' ∧ Wd K M Z H' ∧ Rep K M Z H' x d
structure WI (X : Cx) (ρ : Rho) (M : Mp) (tg iter : Expr) (Φ : List D → Mp → Prop) : Prop where
  run : ∀ {Z : Zn} σ H (R : It → Hp → Prop), EnvR X.K M Z H σ ρ → Wd X.K M Z H →
  (∀ J items H1 M1, Ext M Z H M1 H1 → Wd X.K M1 Z H1 → Sq X.K M1 Z H1 J items → Φ items M1 → R J H1) → iSem X tg iter σ H R
theorem iOf {iter : Expr} {wi : TI} {σ : L2.St} {H : Hp} {R : It → Hp → Prop} (h : PI X tg iter wi) (q : wi σ H R) : iSem X tg iter σ H R := fun pins s I => h.run pins s σ H R I q
theorem sq_tup {K : PySem.W.Frag} {M1 : Mp} {Z1 : Zn} {H1 : Hp} {a : Addr} {vs : List V} {ds : List D} (hq : ∀ M Z H, ExI M1 Z1 H1 M Z H → SqT K H a vs) (rs : Reps K M1 Z1 H1 vs ds) : Sq K M1 Z1 H1 (Itt K a) ds := fun i M Z H e w => by
  refine ⟨fun hi => ⟨vs, hq M Z H e, by rw [rs.length, hi]; exact Nat.le_refl _⟩, fun d hd => ?_⟩
  obtain ⟨v, hv, r⟩ := rs.get hd
  refine ⟨⟨vs, v, hq M Z H e, hv⟩, fun x H' y => ?_⟩
  obtain ⟨rfl, y⟩ := y
  have := y vs (hq M Z _ e)
  rw [hv] at this
  cases this
  exact ⟨Ext.refl, w, r.monoI e⟩
/-- a list, a tuple that stays -/
theorem Rep.tupKeep {K : PySem.W.Frag} {M : Mp} {Z : Zn} {H : Hp} {v : V} {ds : List D} (r : Rep K M Z H v (.tup ds)) : ∃ a vs, v = .ref a ∧ (∀ M' Z' H', ExI M Z H M' Z' H' → SqT K H' a vs) ∧ Reps K M Z H vs ds := by
  cases r with
  | tup h m r => exact ⟨_, _, rfl, fun M' Z' H' e => .inl (e.rd h m), r⟩
  | tupK h r => exact ⟨_, _, rfl, fun _ _ _ _ => .inr h, r⟩
theorem Rep.lstKeep {K : PySem.W.Frag} {M : Mp} {Z : Zn} {H : Hp} {v : V} {d : D} {ds : List D} (r : Rep K M Z H v d) (hd : d = .lst ds ∨ d = .rol ds) : ∃ a vs, v = .ref a ∧ (∀ M' Z' H', ExI M Z H M' Z' H' → SqL K H' a vs) ∧ Reps K M Z H vs ds := by
  rcases hd with rfl | rfl
  · cases r with
    | lst h m r => exact ⟨_, _, rfl, fun M' Z' H' e => .inl (.inl (e _ _ h m).1), r⟩
  · cases r with
    | rol h m r => exact ⟨_, _, rfl, fun M' Z' H' e => .inl (e.rd h m), r⟩
    | rolK h r => exact ⟨_, _, rfl, fun _ _ _ _ => .inr h, r⟩
theorem wi_list {iter : Expr} {Φ : List D → Mp → Prop} (h : WE X ρ M iter fun d M1 => ∃ ds, (d = .lst ds ∨ d = .rol ds) ∧ Φ ds M1) : WI X ρ M tg iter Φ := .mk fun σ H R en w k =>
  iOf (pi_list pe_sem) (h.run σ H _ en w fun v d H1 M1 e1 w1 r1 hz => by
    obtain ⟨ds, hd, hz⟩ := hz
    obtain ⟨a, vs, rfl, hq, rs⟩ := r1.lstKeep hd
    refine ⟨a, rfl, ⟨vs, hq _ _ _ ExI.refl⟩, k _ ds H1 M1 e1 w1 ?_ hz⟩
    intro i M Z H e w
    refine ⟨fun hi => ⟨vs, hq M Z H e, by rw [rs.length, hi]; exact Nat.le_refl _⟩, fun d hd => ?_⟩
    obtain ⟨v, hv, r⟩ := rs.get hd
    refine ⟨⟨vs, v, hq M Z H e, hv⟩, fun x H' y => ?_⟩
    obtain ⟨rfl, y⟩ := y
    have := y vs (hq M Z _ e)
    rw [hv] at this
    cases this
    exact ⟨Ext.refl, w, r.monoI e⟩)
theorem wi_tup {iter : Expr} {Φ : List D → Mp → Prop} (h : WE X ρ M iter fun d M1 => ∃ ds, d = .tup ds ∧ Φ ds M1) : WI X ρ M tg iter Φ := .mk fun σ H R en w k =>
  iOf (pi_tup pe_sem) (h.run σ H _ en w fun v d H1 M1 e1 w1 r1 hz => by
    obtain ⟨ds, rfl, hz⟩ := hz
    obtain ⟨a, vs, rfl, hq, rs⟩ := r1.tupKeep
    exact ⟨a, rfl, ⟨vs, hq _ _ _ ExI.refl⟩, k _ ds H1 M1 e1 w1 (sq_tup hq rs) hz⟩)
/-- lo, lo + 1, .. -/
def rngD (lo : Int) (n : Nat) : List D := (List.range n).map fun (i : Nat) => D.int (lo + (i : Int))
theorem rngD_len (lo : Int) (n : Nat) : (rngD lo n).length = n := by simp [rngD]
theorem rngD_get {lo : Int} {n i : Nat} {d : D} (h : (rngD lo n)[i]? = some d) : i < n ∧ d = .int (lo + (i : Int)) := by
  have hi : i < (rngD lo n).length := (List.getElem?_eq_some_iff.mp h).1
  rw [rngD_len] at hi
  refine ⟨hi, ?_⟩
  unfold rngD at h
  rw [List.getElem?_map, List.getElem?_range hi] at h
  exact (Option.some.inj h).symm
theorem sq_range {K : PySem.W.Frag} {M1 : Mp} {Z1 : Zn} {H1 : Hp} (lo : Int) (n : Nat) : Sq K M1 Z1 H1 (Itr lo n) (rngD lo n) := fun i M Z H e w => by
  refine ⟨fun hi => by rw [hi, rngD_len]; exact Nat.le_refl _, fun d hd => ?_⟩
  obtain ⟨h1, rfl⟩ := rngD_get hd
  refine ⟨h1, fun x H' y => ?_⟩
  obtain ⟨rfl, rfl⟩ := y
  exact ⟨Ext.refl, w, .int _⟩
theorem wi_range1 {p : Pos} {Φ : List D → Mp → Prop} (hm : X.mg "range" = none) (h : WA X ρ M [a] fun ds M1 => ∃ j : Int, ds = [.int j] ∧ -(2 ^ 62) ≤ j ∧ j < 2 ^ 62 ∧ Φ (rngD 0 j.toNat) M1) (hg : Gl X "range" := by rfl) (hs : starEach [a] X.env = [(false, eval a X.env)] := by rfl) : WI X ρ M tg (.Call (.Name "range" p) [a] [] pos) Φ := .mk fun σ H R en w k =>
  iOf (pi_range1 hg hm pa_sem hs) (h.run σ H _ en w fun vs ds H1 M1 e1 w1 r1 hz => by
    obtain ⟨j, rfl, h1, h2, hz⟩ := hz
    cases r1 with
    | cons r1 r2 =>
      cases r1
      cases r2
      exact ⟨j, rfl, h1, h2, k _ _ H1 M1 e1 w1 (sq_range 0 _) hz⟩)
theorem wi_range2 {p : Pos} {Φ : List D → Mp → Prop} (hm : X.mg "range" = none) (h : WA X ρ M [a, b] fun ds M1 => ∃ i j : Int, ds = [.int i, .int j] ∧ (-(2 ^ 62) ≤ i ∧ i < 2 ^ 62 ∧ -(2 ^ 62) ≤ j ∧ j < 2 ^ 62) ∧ Φ (rngD i (j - i).toNat) M1) (hg : Gl X "range" := by rfl) (hs : starEach [a, b] X.env = [(false, eval a X.env), (false, eval b X.env)] := by rfl) (hs2 : starEach [b] X.env = [(false, eval b X.env)] := by rfl) : WI X ρ M tg (.Call (.Name "range" p) [a, b] [] pos) Φ := .mk fun σ H R en w k =>
  iOf (pi_range2 hg hm pa_sem hs hs2) (h.run σ H _ en w fun vs ds H1 M1 e1 w1 r1 hz => by
    obtain ⟨i, j, rfl, h1, hz⟩ := hz
    cases r1 with
    | cons r1 r2 =>
      cases r1
      cases r2 with
      | cons r2 r3 =>
        cases r2
        cases r3
        exact ⟨i, j, rfl, h1, k _ _ H1 M1 e1 w1 (sq_range i _) hz⟩)
theorem ws_for {body : List Stmt} {iter : Expr} (hp : PassesOwn (model X.prog X.w) X.A X.env X.xe)
    (h : WI X ρ M tg iter fun ds M1 => ∃ I : Nat → Rho → Mp → Prop, I 0 ρ M1 ∧
      (∀ i x ρ' M', ds[i]? = some x → I i ρ' M' → WG X tg x ρ' M' fun ρ2 M2 => WSs X ρ2 M2 body { nx := I (i + 1), ct := I (i + 1), bk := Ψ.nx, rt := Ψ.rt }) ∧ ∀ ρ' M', I ds.length ρ' M' → Ψ.nx ρ' M')
    (hc : X.calm = true := by rfl) (hs : ∀ x, foldedSetIterable iter X.env x = pure x := by intro _; rfl) : WS X ρ M (.For tg iter body [] pos) Ψ := .mk fun {Z} σ H E en w k =>
  sOf (ps_for hp hc pi_sem pg_sem pss_sem hs) (h.run σ H _ en w fun J ds H1 M1 e1 w1 sq hz => by
    obtain ⟨I, h0, turn, done⟩ := hz
    refine ⟨fun i m σ' H' => m = ds.length - i ∧ i ≤ ds.length ∧ ∃ ρ' M', Ext M1 Z H1 M' H' ∧ Wd X.K M' Z H' ∧ EnvR X.K M' Z H' σ' ρ' ∧ I i ρ' M', ⟨ds.length, by simp, Nat.zero_le _, ρ, M1, Ext.refl, w1, en.mono e1, h0⟩, ?_⟩
    rintro i m σ' H' ⟨rfl, hi, ρ', M', x', w', en', inv⟩
    obtain ⟨s1, s2⟩ := sq i M' Z H' x'.i w'
    by_cases hlt : i < ds.length
    · have hd : ds[i]? = some ds[i] := List.getElem?_eq_getElem hlt
      obtain ⟨go, yl⟩ := s2 _ hd
      refine .inr ⟨go, fun σ2 H2 => ∃ ρ2 M2, Ext M1 Z H1 M2 H2 ∧ Wd X.K M2 Z H2 ∧ EnvR X.K M2 Z H2 σ2 ρ2 ∧ I (i + 1) ρ2 M2, fun σ2 H2 ⟨ρ2, M2, x2, w2, en2, i2⟩ => ⟨ds.length - (i + 1), by omega, rfl, hlt, ρ2, M2, x2, w2, en2, i2⟩, fun v H2 y => ?_⟩
      obtain ⟨x2, w2, r2⟩ := yl v H2 y
      have x12 := x'.trans x2
      refine (turn i _ ρ' M' hd inv).run σ' H2 v _ (en'.mono x2) w2 r2 fun σ3 ρ3 H3 M3 x3 w3 en3 hb => ?_
      have x13 := x12.trans x3
      have ks := (k.step e1).step x13
      exact hb.run σ3 H3 _ en3 w3 ⟨fun σ4 ρ4 H4 M4 x4 w4 en4 z => ⟨ρ4, M4, x13.trans x4, w4, en4, z⟩, ks.rt, ks.nx, fun σ4 ρ4 H4 M4 x4 w4 en4 z => ⟨ρ4, M4, x13.trans x4, w4, en4, z⟩⟩
    · have e : i = ds.length := by omega
      exact .inl ⟨s1 e, (k.step e1).nx σ' ρ' H' M' x' w' en' (done _ _ (e ▸ inv))⟩)
end
end DL
namespace DL
open PySem L2
def hid (Z : Zn) (p : Addr) : Zn := fun b => Z b ∨ b = p
section
variable {K : PySem.W.Frag} {M M' : Mp} {Z : Zn} {H H' : Hp} {p : Addr} {o : HO}
theorem hide_x (h : H p = none) : ExI M Z H M (hid Z p) (upd H p o) := fun b u q m => by
  have n : b ≠ p := ne_of_none q h
  exact ⟨by rw [upd_ne n]; exact q, m.1, fun z => z.elim m.2 n⟩
theorem hide_w (w : Wd K M Z H) (h : H p = none) : Wd K M (hid Z p) (upd H p o) := ⟨fun a u e => by
  obtain ⟨z, q⟩ := (w.1 a u e).there
  exact (w.1 a u e).stepI (hide_x h) (upd_ne (ne_of_none q h)), fun b z => by
  rcases z with z | rfl
  · obtain ⟨m, u, q⟩ := w.2 b z
    exact ⟨m, u, by rw [upd_ne (ne_of_none q h)]; exact q⟩
  · exact ⟨(w.fresh h).1, o, upd_same⟩⟩
/-- the hidden object changed -/
theorem hidput_x : ExI M (hid Z p) H M (hid Z p) (upd H p o) := fun b u q m => ⟨by rw [upd_ne (fun e => m.2 (.inr e))]; exact q, m⟩
theorem hidput_w (w : Wd K M (hid Z p) H) : Wd K M (hid Z p) (upd H p o) := ⟨fun a u e => by
  have n : a ≠ p := fun z => by have := (w.2 p (.inr rfl)).1; rw [z, this] at e; cases e
  exact (w.1 a u e).stepI hidput_x (upd_ne n), fun b z => by
  obtain ⟨m, u, q⟩ := w.2 b z
  by_cases hb : b = p
  · exact ⟨m, o, by rw [hb]; exact upd_same⟩
  · exact ⟨m, u, by rw [upd_ne hb]; exact q⟩⟩
/-- .. shown -/
theorem show_x : ExI M (hid Z p) H M Z H := fun b u q m => ⟨q, m.1, fun z => m.2 (.inl z)⟩
theorem show_w (w : Wd K M (hid Z p) H) : Wd K M Z H := ⟨fun a u e => (w.1 a u e).stepI show_x rfl, fun b z => w.2 b (.inl z)⟩
end
def wipeR (ρ : Rho) : List Nat → Rho
  | [] => ρ
  | v :: vs => (wipeR ρ vs).set v none
theorem env_wipe {K : PySem.W.Frag} {M : Mp} {Z : Zn} {H : Hp} {σ : L2.St} {ρ : Rho} (en : EnvR K M Z H σ ρ) : ∀ vs : List Nat, EnvR K M Z H (wipe σ vs) (wipeR ρ vs)
  | [] => en
  | v :: vs => EnvR.unset v (env_wipe en vs)
theorem wipe_get (σ : L2.St) (j : Nat) : ∀ vs : List Nat, (wipe σ vs)[j]? = if j ∈ vs then (σ[j]?).map (fun _ => none) else σ[j]?
  | [] => by simp [wipe]
  | v :: vs => by
    unfold wipe
    have ih := wipe_get σ j vs
    by_cases hj : v = j
    · subst hj
      rw [if_pos List.mem_cons_self]
      by_cases hl : v < (wipe σ vs).length
      · rw [List.getElem?_set_self hl]
        rw [wipe_length] at hl
        rw [List.getElem?_eq_getElem hl]; rfl
      · rw [List.getElem?_eq_none (by simpa using hl)]
        rw [wipe_length] at hl
        rw [List.getElem?_eq_none (by omega)]; rfl
    · rw [List.getElem?_set_ne hj, ih]
      by_cases hm : j ∈ vs
      · rw [if_pos hm, if_pos (List.mem_cons_of_mem _ hm)]
      · rw [if_neg hm, if_neg (by simp only [List.mem_cons, not_or]; exact ⟨fun e => hj e.symm, hm⟩)]
theorem wipe_ext {σ τ : L2.St} {vs : List Nat} (h : ∀ j, j ∉ vs → σ[j]? = τ[j]?) (hl : σ.length = τ.length) : wipe σ vs = wipe τ vs := by
  apply List.ext_getElem?
  intro j
  rw [wipe_get, wipe_get]
  by_cases hj : j ∈ vs
  · rw [if_pos hj, if_pos hj]
    by_cases hs : j < σ.length
    · rw [List.getElem?_eq_getElem hs, List.getElem?_eq_getElem (by omega)]; rfl
    · rw [List.getElem?_eq_none (by omega), List.getElem?_eq_none (by omega)]
  · rw [if_neg hj, if_neg hj]; exact h j hj
theorem wipe_twice (σ : L2.St) (vs : List Nat) : wipe (wipe σ vs) vs = wipe σ vs := wipe_ext (fun j hj => by rw [wipe_get, if_neg hj]) (wipe_length _ _)
theorem wipe_set {σ : L2.St} {vs : List Nat} {i : Nat} {o : Option V} (hi : i ∈ vs) : wipe (σ.set i o) vs = wipe σ vs := wipe_ext (fun j hj => List.getElem?_set_ne (fun (e : i = j) => hj (e ▸ hi))) (List.length_set ..)
def GT (K : PySem.W.Frag) (g : TG) (vs : List Nat) (G : D → Rho → (Rho → Prop) → Prop) : Prop := ∀ M Z H v d σ ρ (R : Rho → Prop) (Q : L2.St → Hp → Prop), EnvR K M Z H (wipe σ vs) ρ → Rep K M Z H v d → G d ρ R →
  (∀ σ2 ρ2, EnvR K M Z H σ2 ρ2 → wipe σ2 vs = wipe σ vs → R ρ2 → Q σ2 H) → g v (wipe σ vs) H Q
theorem gt_name {K : PySem.W.Frag} {vs : List Nat} {i : Nat} (hi : i ∈ vs) : GT K (gName i) vs (fun d ρ R => R (ρ.set i (some d))) := fun M Z H v d σ ρ R Q en r g k =>
  k _ _ (en.set r i) (by rw [wipe_set hi, wipe_twice]) g
theorem gt_two {K : PySem.W.Frag} {vs : List Nat} {i j : Nat} (hi : i ∈ vs) (hj : j ∈ vs) : GT K (gTup K 2 (gCons (gName i) (gCons (gName j) gNil))) vs (fun d ρ R => ∃ a b, d = .tup [a, b] ∧ R ((ρ.set i (some a)).set j (some b))) := fun M Z H v d σ ρ R Q en r g k => by
  obtain ⟨a, b, rfl, g⟩ := g
  obtain ⟨p, vs, rfl, hq, rs⟩ := r.asTup
  cases rs with
  | cons r1 r2 =>
    cases r2 with
    | cons r2 r3 =>
      cases r3
      exact ⟨p, _, rfl, hq, rfl, _, _, rfl, _, _, rfl, rfl, k _ _ ((en.set r1 i).set r2 j) (by rw [wipe_set hj, wipe_set hi, wipe_twice]) g⟩
section
variable {X : Cx} {ρ : Rho} {M : Mp} {elt tg iter : Expr} {pos : Pos} {scope : Scope}
/-- within the block -/
def eBlk (X : Cx) (scope : Scope) (e : Expr) : TE := fun σ H Q => ∀ s H0 C cl fp, eSem (X.blk s H0 scope (compEnvC scope cl C X.env) fp) e σ H Q
def tBlk (X : Cx) (scope : Scope) (e : Expr) : TT := fun σ H Q => ∀ s H0 C cl fp, tSem (X.blk s H0 scope (compEnvC scope cl C X.env) fp) e σ H Q
def WEb (X : Cx) (scope : Scope) (ρ : Rho) (M : Mp) (e : Expr) (Φ : D → Mp → Prop) : Prop := ∀ s H0 C cl fp, WE (X.blk s H0 scope (compEnvC scope cl C X.env) fp) ρ M e Φ
def WTb (X : Cx) (scope : Scope) (ρ : Rho) (M : Mp) (e : Expr) (Φ : Bool → Mp → Prop) : Prop := ∀ s H0 C cl fp, WT (X.blk s H0 scope (compEnvC scope cl C X.env) fp) ρ M e Φ
/-- the tests -/
def TK (X : Cx) (tt : TT) (T : Rho → Mp → (Bool → Mp → Prop) → Prop) : Prop := ∀ {Z : Zn} M H σ ρ (Θ : Bool → Mp → Prop) (Q : Bool → Hp → Prop), EnvR X.K M Z H σ ρ → Wd X.K M Z H → T ρ M Θ → KT X.K M Z H Θ Q → tt σ H Q
theorem tk_nil : TK X tYes (fun _ M Θ => Θ true M) := fun M H σ ρ Θ Q en w h k => k.now w h
theorem tk_one {c : Expr} : TK X (tBlk X scope c) (fun ρ M Θ => WTb X scope ρ M c Θ) := fun M H σ ρ Θ Q en w h k s H0 C cl fp => (h s H0 C cl fp).run σ H Q en w k
/-- what a comprehension asks: I by the turn, what is gathered, the mutable objects -/
def LcI (X : Cx) (scope : Scope) (ρ : Rho) (vs : List Nat) (G : D → Rho → (Rho → Prop) → Prop) (T : Rho → Mp → (Bool → Mp → Prop) → Prop) (elt : Expr) (Φ : D → Mp → Prop) (ds : List D) (M1 : Mp) : Prop :=
  ds.length ≤ sizeLine ∧ ∃ I : Nat → List D → Mp → Prop, I 0 [] M1 ∧
    (∀ i x acc M', ds[i]? = some x → I i acc M' → G x (wipeR ρ vs) fun ρ2 => T ρ2 M' fun b M2 => if b = true then WEb X scope ρ2 M2 elt fun y M3 => I (i + 1) (acc ++ [y]) M3 else I (i + 1) acc M2) ∧
    ∀ acc M', I ds.length acc M' → Φ (.lst acc) M'
theorem lc_run {g : TG} {tt : TT} {vs : List Nat} {G : D → Rho → (Rho → Prop) → Prop} {T : Rho → Mp → (Bool → Mp → Prop) → Prop} {Φ : D → Mp → Prop} (hg : GT X.K g vs G) (ht : TK X tt T)
    (h : WI X ρ M tg iter (LcI X scope ρ vs G T elt Φ)) {Z : Zn} {σ : L2.St} {H : Hp} {Q : VK} (en : EnvR X.K M Z H σ ρ) (w : Wd X.K M Z H) (k : KE X.K M Z H Φ Q) : tLc (iSem X tg iter) g tt (eBlk X scope elt) vs σ H Q :=
  h.run σ H _ en w fun J ds H1 M1 e1 w1 sq hz => by
    obtain ⟨hn, I, h0, turn, done⟩ := hz
    intro Dd hD
    have zne : ∀ b, Z b → b ≠ Dd := w1.zne hD
    refine ⟨fun i m H' => m = ds.length - i ∧ i ≤ ds.length ∧ ∃ accV acc M', ExI M1 Z H1 M' (hid Z Dd) H' ∧ (∀ b, Z b → H' b = H1 b ∧ M' b = M1 b) ∧ Wd X.K M' (hid Z Dd) H' ∧ H' Dd = some (.lst accV) ∧ Reps X.K M' (hid Z Dd) H' accV acc ∧ acc.length ≤ i ∧ I i acc M',
      ⟨ds.length, by simp, Nat.zero_le _, [], [], M1, hide_x hD, fun b z => ⟨upd_ne (zne b z), rfl⟩, hide_w w1 hD, upd_same, .nil, Nat.zero_le _, h0⟩, ?_⟩
    rintro i m H' ⟨rfl, hi, accV, acc, M', x', zk, w', hA, rA, la, inv⟩
    obtain ⟨s1, s2⟩ := sq i M' (hid Z Dd) H' x' w'
    by_cases hlt : i < ds.length
    · have hd : ds[i]? = some ds[i] := List.getElem?_eq_getElem hlt
      obtain ⟨go, yl⟩ := s2 _ hd
      refine .inr ⟨go, fun H2 => ∃ accV acc M2, ExI M1 Z H1 M2 (hid Z Dd) H2 ∧ (∀ b, Z b → H2 b = H1 b ∧ M2 b = M1 b) ∧ Wd X.K M2 (hid Z Dd) H2 ∧ H2 Dd = some (.lst accV) ∧ Reps X.K M2 (hid Z Dd) H2 accV acc ∧ acc.length ≤ i + 1 ∧ I (i + 1) acc M2,
        fun H2 ⟨aV, a, M2, x2, z2, w2, hA2, rA2, l2, i2⟩ => ⟨ds.length - (i + 1), by omega, rfl, hlt, aV, a, M2, x2, z2, w2, hA2, rA2, l2, i2⟩, fun v H2 y => ?_⟩
      obtain ⟨x2, w2, r2⟩ := yl v H2 y
      have en2 : EnvR X.K M' (hid Z Dd) H2 (wipe σ vs) (wipeR ρ vs) := env_wipe ((en.mono e1).monoI (x'.trans x2.i)) vs
      refine hg M' (hid Z Dd) H2 v _ σ _ _ _ en2 r2 (turn i _ acc M' hd inv) fun σ3 ρ3 en3 wp3 hT => ⟨wp3, ?_⟩
      refine ht M' H2 σ3 ρ3 _ _ en3 w2 hT fun b H3 M3 x3 w3 hb => ?_
      have x23 : Ext M' (hid Z Dd) H' M3 H3 := x2.trans x3
      have zk3 : ∀ b, Z b → H3 b = H1 b ∧ M3 b = M1 b := fun b z => ⟨(x23.2 b (.inl z)).1.trans (zk b z).1, (x23.2 b (.inl z)).2.trans (zk b z).2⟩
      cases b with
      | false => exact ⟨accV, acc, M3, x'.trans x23.i, zk3, w3, (x23.2 Dd (.inr rfl)).1.trans hA, rA.mono x23, Nat.le_succ_of_le la, hb⟩
      | true =>
        intro s H0 C cl fp
        refine (hb s H0 C cl fp).run σ3 H3 _ (en3.mono x3) w3 fun yv yd H4 M4 x4 w4 r4 hI => ?_
        have x24 := x23.trans x4
        have hA4 : H4 Dd = some (.lst accV) := (x24.2 Dd (.inr rfl)).1.trans hA
        refine ⟨accV, hA4, by rw [rA.length]; omega, accV ++ [yv], acc ++ [yd], M4, (x'.trans x24.i).trans hidput_x, fun b z => ⟨(upd_ne (zne b z)).trans ((x4.2 b (.inl z)).1.trans (zk3 b z).1), (x4.2 b (.inl z)).2.trans (zk3 b z).2⟩, hidput_w w4, upd_same, ?_, by rw [List.length_append, List.length_singleton]; omega, hI⟩
        exact (((rA.mono x24).append (.cons r4 .nil))).monoI hidput_x
    · have e : i = ds.length := by omega
      refine .inl ⟨s1 e, ?_⟩
      refine k _ (.lst acc) H' M' (e1.trans ⟨x'.trans show_x, zk⟩) (show_w w') (.lst hA ⟨(w'.2 Dd (.inr rfl)).1, fun z => zne Dd z rfl⟩ (rA.monoI show_x)) (done _ _ (e ▸ inv))
/-- [elt for x in iter] -/
theorem we_lc {own : List (Str × Nat)} {g : TG} {tt : TT} {ifs : List Expr} {G : D → Rho → (Rho → Prop) → Prop} {T : Rho → Mp → (Bool → Mp → Prop) → Prop} {Φ : D → Mp → Prop} (hN : X.N.Nodup) (ok : BlkOk X.N X.env.scope scope own)
    (pg : ∀ (s : Shared) (H : Hp) (C : Addr) (cl : List (Str × Addr)) (fp : List Addr), PG (X.blk s H scope (compEnvC scope cl C X.env) fp) tg g) (hg : GT X.K g (own.map (·.2)) G)
    (pt : ∀ (s : Shared) (H : Hp) (C : Addr) (cl : List (Str × Addr)) (fp : List Addr), PTs (X.blk s H scope (compEnvC scope cl C X.env) fp) ifs tt) (ht : TK X tt T)
    (h : WI X ρ M tg iter (LcI X scope ρ (own.map (·.2)) G T elt Φ)) (hc : X.calm = true := by rfl) (hs : ∀ x, foldedSetIterable iter X.env x = pure x := by intro _; rfl) : WE X ρ M (.ListComp elt [⟨tg, iter, ifs, 0⟩] scope pos) Φ := .mk fun σ H Q en w k =>
  eOf (pe_lc hc hN pi_sem ok pg pt (fun s H0 C cl fp => ⟨fun pins s' σ' H' Q' I q => q s H0 C cl fp pins s' I⟩) hs) (lc_run hg ht h en w k)
/-- y = [elt for x in iter] -/
theorem ws_setLc (i : Nat) {y : Str} {py spos : Pos} {own : List (Str × Nat)} {g : TG} {tt : TT} {ifs : List Expr} {G : D → Rho → (Rho → Prop) → Prop} {T : Rho → Mp → (Bool → Mp → Prop) → Prop} {Ψ : DE} (hN : X.N.Nodup) (ok : BlkOk X.N X.env.scope scope own)
    (pg : ∀ (s : Shared) (H : Hp) (C : Addr) (cl : List (Str × Addr)) (fp : List Addr), PG (X.blk s H scope (compEnvC scope cl C X.env) fp) tg g) (hg : GT X.K g (own.map (·.2)) G)
    (pt : ∀ (s : Shared) (H : Hp) (C : Addr) (cl : List (Str × Addr)) (fp : List Addr), PTs (X.blk s H scope (compEnvC scope cl C X.env) fp) ifs tt) (ht : TK X tt T)
    (h : WI X ρ M tg iter (LcI X scope ρ (own.map (·.2)) G T elt fun d M1 => Ψ.nx (ρ.set i (some d)) M1))
    (hsw : swapsWith (.ListComp elt [⟨tg, iter, ifs, 0⟩] scope pos) (some (.Name y py)) spos.line X.env = pure true) (hy : X.N[i]? = some y := by rfl) (hyl : X.env.scope.names.lookup y = some .local := by rfl)
    (hc : X.calm = true := by rfl) (hs : ∀ x, foldedSetIterable iter X.env x = pure x := by intro _; rfl) : WS X ρ M (.Assign [.Name y py] (.ListComp elt [⟨tg, iter, ifs, 0⟩] scope pos) spos) Ψ := .mk fun σ H E en w k =>
  sOf (ps_setLc hc hN hy hyl hsw pi_sem ok pg pt (fun s H0 C cl fp => ⟨fun pins s' σ' H' Q' I q => q s H0 C cl fp pins s' I⟩) hs) (lc_run hg ht h en w fun v d H' M' x w' r z => k.nx _ _ H' M' x w' ((en.mono x).set r i) z)
end
end DL
namespace DL
open PySem PySem.Spec PyProof.Rows L2
/-- its promise in the hand layer -/
def spD (K : PySem.W.Frag) (n : Nat) (c : Con) : Sp := fun vs H Q _ => ∃ ds M Z Φ, ds.length = n ∧ Reps K M Z H vs ds ∧ Wd K M Z H ∧ c ds M Φ ∧ KE K M Z H Φ Q
theorem les_del {M : Mp} {a : Addr} : Les (mdel M a) M := fun b => by
  by_cases h : b = a
  · rw [h]; exact .inr mdel_same
  · exact .inl (mdel_ne h)
theorem lets_k {K : PySem.W.Frag} {M : Mp} {Z : Zn} {H : Hp} {Φ : D → Mp → Prop} {Q : VK} (k : KE K M Z H Φ Q) : KE K M Z H (Lets Φ) Q := fun v d H' M' x w r z => by
  obtain ⟨d', M2, l, f, z⟩ := z
  exact k v d' H' M2 (x.trans (l.ext w)) (l.w w) (f.rep l w r) z
theorem FzE.env {K : PySem.W.Frag} {M M' : Mp} {Z : Zn} {H : Hp} (l : Les M' M) (w : Wd K M Z H) : ∀ {σ : L2.St} {ρ ρ' : Rho}, FzE M M' ρ ρ' → EnvR K M Z H σ ρ → EnvR K M' Z H σ ρ'
  | _, _, _, .nil, .nil => .nil
  | _, _, _, .val f t, .val r u => .val (f.rep l w r) (FzE.env l w t u)
  | _, _, _, .drop t, .val r u => .any (FzE.env l w t u)
  | _, _, _, .drop t, .any u => .any (FzE.env l w t u)
/-- go on with less -/
theorem wss_let {X : Cx} {ρ ρ' : Rho} {M M' : Mp} {sts : List Stmt} {Ψ : DE} (l : Les M' M) (f : FzE M M' ρ ρ') (h : WSs X ρ' M' sts Ψ) : WSs X ρ M sts Ψ := .mk fun σ H E en w k =>
  h.run σ H E (f.env l w en) (l.w w) (k.step (l.ext w))
section
variable {P : Program} {w : World} {K : PySem.W.Frag} {mg : Str → Option Value} {base : Heap} {x qual : Str} {params : Arguments} {body : List Stmt} {scope : Scope} {dvs : List V} {kws : List (Str × V)} {f : Addr} {fd : FuncData}
/-- the context of a body -/
abbrev bx (P : Program) (w : World) (K : PySem.W.Frag) (mg : Str → Option Value) (base : Heap) (N : List Str) (qual : Str) (scope : Scope) (f : Addr) (cdv : Value) (A : Around) (outer : List Env) (s : Shared) (H : Hp) (E : XK) : Cx :=
  (cxOf CX0 P w K mg base N qual scope f cdv A outer s H E).nox
theorem fn_ok {N ps : List Str} {k : Nat} {c : Con} (F : FunD K x qual params body scope dvs kws f fd) (S : FnScope N ps scope)
    (h : ∀ (cdv : Value) (A : Around) (outer : List Env) (s : Shared) (H : Hp) (E : XK), Room k (A.deeper (envOfC qual scope s.heap.objs.size f cdv)) → ∀ ds M Φ, ds.length = ps.length → c ds M Φ →
      WSs (bx P w K mg base N qual scope f cdv A outer s H E) (start N ds) M body { nx := fun _ M' => Φ .non M', rt := Lets Φ }) : FnOk P w K mg base CX0 (k + 1) f fd ps (spD K ps.length c) := by
  refine F.ok S (fun vs H Q E q => ?_) (fun cdv A outer s H vs Q E hr q => ?_)
  · obtain ⟨ds, M, Z, Φ, hl, r, _⟩ := q
    rw [r.length, hl]
  · obtain ⟨ds, M, Z, Φ, hl, r, wd, hc, k⟩ := q
    refine ⟨_, PSs.nox (pss_sem (X := bx P w K mg base N qual scope f cdv A outer s H E)), ?_⟩
    exact (h cdv A outer s H E hr ds M Φ hl hc).run (L2.start N vs) H _ (env_start r) wd ⟨fun σ' ρ' H' M' x w' en z => k _ .non H' M' x w' .non z, lets_k k, fun _ _ _ _ _ _ _ z => z.elim, fun _ _ _ _ _ _ _ z => z.elim⟩
end
/-- the global x is a def with this contract; dd the data of the defaults that fill up -/
structure Fc (P : Program) (w : World) (K : PySem.W.Frag) (mg : Str → Option Value) (base : Heap) (x : Str) (dd : List D) (k n : Nat) (c : Con) : Prop where
  ex : ∃ (f : Addr) (fd : FuncData) (ps : List Str) (dvs : List V) (ds : List Value), FnOk P w K mg base CX0 k f fd ps (spD K n c) ∧ mg x = some (.ref f) ∧ PySem.W.keepIn K (.ref f) = true ∧ Binds K fd ps ds ∧ Vals dvs ds ∧ ∀ M Z H, Reps K M Z H dvs dd
section
variable {X : Cx} {ρ : Rho} {M : Mp} {Φ : D → Mp → Prop} {e o : Expr} {es : List Expr} {pos p apos : Pos} {x m : Str} {dd : List D} {k n : Nat} {c : Con}
theorem sp_run {n : Nat} {vs dvs : List V} {ds : List D} {M1 : Mp} {Z : Zn} {H1 : Hp} {Q : VK} {E : XK} (r : Reps X.K M1 Z H1 vs ds) (rd : Reps X.K M1 Z H1 dvs dd) (w1 : Wd X.K M1 Z H1) (hz : (ds ++ dd).length = n ∧ c (ds ++ dd) M1 Φ) (k : KE X.K M1 Z H1 Φ Q) : spD X.K n c (vs ++ dvs) H1 Q E :=
  ⟨ds ++ dd, M1, Z, Φ, hz.1, r.append rd, w1, hz.2, k⟩
theorem we_call (F : Fc X.prog X.w X.K X.mg X.base x dd k n c) (hr : Room k X.A) (h : WA X ρ M (e :: es) fun ds M1 => (ds ++ dd).length = n ∧ c (ds ++ dd) M1 Φ) (hg : Gl X x := by rfl)
    (hdb : (x == ("__debug__" : Str)) = false := by decide) (he : starEach (e :: es) X.env = (false, eval e X.env) :: starEach es X.env := by rfl) (hpl : (backTo pos (starEach es X.env)).any (·.1) = false := by rfl) : WE X ρ M (.Call (.Name x p) (e :: es) [] pos) Φ := .mk fun σ H Q en w k => by
  obtain ⟨f, fd, ps, dvs, ds, F, hm, hk, hb, hd, hdd⟩ := F.ex
  exact eOf (pe_call (E := E0) F hr hg hm hk hb hd pass0 pa_sem hdb he hpl) (h.run σ H _ en w fun vs as H1 M1 e1 w1 r1 hz => sp_run r1 (hdd _ _ _) w1 hz (k.step e1))
/-- d is an instance of the class at C with these fields -/
def InsOf (M : Mp) (C : Addr) : D → List (Str × D) → Prop
  | .ins C' fs, gs => C' = C ∧ gs = fs
  | .ob a, gs => M a = some (.ins C gs)
  | _, _ => False
theorem Rep.asIns {K : PySem.W.Frag} {M : Mp} {Z : Zn} {H : Hp} {C : Addr} {v : V} {d : D} {fs : List (Str × D)} (w : Wd K M Z H) (r : Rep K M Z H v d) (i : InsOf M C d fs) : ∃ a dx vs, v = .ref a ∧ H a = some (.ins C dx vs) ∧ RepF K M Z H vs fs := by
  cases r with
  | ins h m r =>
    obtain ⟨rfl, rfl⟩ := i
    exact ⟨_, _, _, rfl, h, r⟩
  | ob a =>
    obtain ⟨dx, vs, h, r⟩ := w.1 a _ i
    exact ⟨_, _, _, rfl, h, r⟩
  | _ => cases i
theorem InsOf.mono {K : PySem.W.Frag} {C : Addr} {d : D} {fs : List (Str × D)} {M : Mp} (h : InsOf M C d fs) {M' : Mp} (k : ∀ a, d = .ob a → M' a = M a) : InsOf M' C d fs := by
  cases d with
  | ins C' gs => exact h
  | ob a => exact (k a rfl).trans h
  | _ => cases h
/-- o.f, a field -/
theorem we_fld {f : Str} {C : Addr} (h : WE X ρ M o fun d M1 => ∃ fs v, InsOf M1 C d fs ∧ Cls X.K C ∧ NoAttr X.K C f ∧ fs.lookup f = some v ∧ Φ v M1) (hb : attributeBase o f X.env (eval o X.env) = eval o X.env := by rfl) : WE X ρ M (.Attribute o f pos) Φ := .mk fun σ H Q en w k =>
  eOf (pe_fld pe_sem hb) (h.run σ H _ en w fun v d H1 M1 e1 w1 r1 hz => by
    obtain ⟨fs, y, hi, cl, na, hl, hz⟩ := hz
    obtain ⟨a, dx, vs, rfl, ha, rf⟩ := r1.asIns w1 hi
    obtain ⟨u, hu, ru⟩ := (rf.lookup f).2 y hl
    exact ⟨a, C, dx, vs, u, rfl, ha, cl, na, hu, (k.step e1).now w1 ru hz⟩)
/-- o.f = e, o a mutable instance -/
theorem ws_fld {f : Str} {C : Addr} {value : Expr} {pos' : Pos} {Ψ : DE} (h : WE X ρ M value fun d M1 => WE X ρ M1 o fun x M2 => ∃ a fs, x = .ob a ∧ M2 a = some (.ins C fs) ∧ Cls X.K C ∧ NoAttr X.K C f ∧ fs.length < 1000 ∧ Ψ.nx ρ (mset M2 a (.ins C (putD f d fs))))
    (hs : swapsWith value (some (.Attribute o f pos')) pos.line X.env = pure false := by rfl) : WS X ρ M (.Assign [.Attribute o f pos'] value pos) Ψ := .mk fun σ H E en w k =>
  sOf (ps_fld pe_sem pe_sem hs) (bind2 h en w fun v u d x H2 M2 e2 w2 r1 r2 hz => by
    obtain ⟨a, fs, rfl, hM, cl, na, hl, hz⟩ := hz
    cases r2
    obtain ⟨dx, vs, ha, rf⟩ := w2.1 a _ hM
    refine ⟨a, C, dx, vs, rfl, ha, cl, na, by rw [rf.length]; exact hl, ?_⟩
    have x3 : Ext M2 _ H2 (mset M2 a (.ins C (putD f d fs))) (upd H2 a (.ins C dx (putF f v vs))) := Ext.put w2 hM
    exact k.nx σ ρ _ _ (e2.trans x3) (w2.put hM ⟨dx, _, upd_same, (rf.mono x3).put (r1.mono x3)⟩) (en.mono (e2.trans x3)) hz)
/-- the method m of the class at C has this contract (self among the arguments) -/
structure Mc (P : Program) (w : World) (K : PySem.W.Frag) (mg : Str → Option Value) (base : Heap) (C : Addr) (m : Str) (dd : List D) (k n : Nat) (c : Con) : Prop where
  cl : Cls K C
  ex : ∃ (f : Addr) (fd : FuncData) (ps : List Str) (dvs : List V) (ds : List Value), FnOk P w K mg base CX0 k f fd ps (spD K n c) ∧ Meth K C m f ∧ Binds K fd ps ds ∧ Vals dvs ds ∧ ∀ M Z H, Reps K M Z H dvs dd
/-- a property of the class at C, its getter's contract -/
structure Pc (P : Program) (w : World) (K : PySem.W.Frag) (mg : Str → Option Value) (base : Heap) (C : Addr) (m : Str) (k : Nat) (c : Con) : Prop where
  cl : Cls K C
  ex : ∃ (p g : Addr) (fd : FuncData) (ps : List Str), FnOk P w K mg base CX0 k g fd ps (spD K 1 c) ∧ PropOf K C m p g ∧ Binds K fd ps []
theorem we_prop {C : Addr} (F : Pc X.prog X.w X.K X.mg X.base C m k c) (hr : Room (k + 1) X.A) (h : WE X ρ M o fun d M1 => ∃ fs, InsOf M1 C d fs ∧ c [d] M1 Φ)
    (hab : attributeBase o m X.env (eval o X.env) = eval o X.env := by rfl) : WE X ρ M (.Attribute o m pos) Φ := .mk fun σ H Q en w k => by
  obtain ⟨p, g, fd, ps, F', hp, hb⟩ := F.ex
  refine eOf (pe_prop (E := E0) pe_sem F.cl hp F' hr hb .nil pass0 hab) (h.run σ H _ en w fun v d H1 M1 e1 w1 r1 hz => ?_)
  obtain ⟨fs, hi, hz⟩ := hz
  obtain ⟨a, dx, vs, rfl, ha, rf⟩ := r1.asIns w1 hi
  exact ⟨a, dx, vs, rfl, ha, [d], M1, _, Φ, rfl, .cons r1 .nil, w1, hz, k.step e1⟩
/-- the class of the name x, its __init__'s contract: the new instance is the first argument -/
structure Kc (P : Program) (w : World) (K : PySem.W.Frag) (mg : Str → Option Value) (base : Heap) (x : Str) (C : Addr) (dd : List D) (k n : Nat) (c : Con) : Prop where
  at_ : mg x = some (.ref C)
  ex : ∃ (f : Addr) (fd : FuncData) (ps : List Str) (dvs : List V) (ds : List Value), FnOk P w K mg base CX0 k f fd ps (spD K n c) ∧ Mk K C f ∧ Binds K fd ps ds ∧ Vals dvs ds ∧ ∀ M Z H, Reps K M Z H dvs dd
theorem we_make {C : Addr} (F : Kc X.prog X.w X.K X.mg X.base x C dd k n c) (hr : Room (k + 1) X.A)
    (h : WA X ρ M (e :: es) fun as M1 => ∀ a, M1 a = none → (.ob a :: (as ++ dd)).length = n ∧ c (.ob a :: (as ++ dd)) (mset M1 a (.ins C [])) fun d M2 => d = .non ∧ Lets Φ (.ob a) M2) (hg : Gl X x := by rfl)
    (hdb : (x == ("__debug__" : Str)) = false := by decide) (he : starEach (e :: es) X.env = (false, eval e X.env) :: starEach es X.env := by rfl) (hpl : (backTo pos (starEach es X.env)).any (·.1) = false := by rfl) : WE X ρ M (.Call (.Name x p) (e :: es) [] pos) Φ := .mk fun σ H Q en w k => by
  obtain ⟨f, fd, ps, dvs, ds, F', hm, hbd, hd, hdd⟩ := F.ex
  refine eOf (pe_make (E := E0) hm F' hr hg F.at_ hbd hd pass0 pa_sem hdb he hpl) (h.run σ H _ en w fun vs as H1 M1 e1 w1 r1 hz => ?_)
  intro a dx ha hdx ne
  obtain ⟨hl, hz⟩ := hz a (w1.fresh ha).1
  have ha1 : (upd H1 dx (.own a)) a = none := by rw [upd_ne (Ne.symm ne)]; exact ha
  have x1 : Ext M1 _ H1 M1 (upd H1 dx (.own a)) := Ext.new w1 hdx
  have wa := w1.new (o := .own a) hdx
  have x2 : Ext M1 _ (upd H1 dx (.own a)) (mset M1 a (.ins C [])) (upd (upd H1 dx (.own a)) a (.ins C dx [])) := Ext.newM wa ha1
  have x12 := x1.trans x2
  refine ⟨.ob a :: (as ++ dd), mset M1 a (.ins C []), _, _, hl, .cons (.ob a) ((r1.mono x12).append (hdd _ _ _)), wa.newM ha1 ⟨dx, [], upd_same, .nil⟩, hz, fun v d H2 M2 x3 w2 r2 hy => ?_⟩
  obtain ⟨rfl, hy⟩ := hy
  cases r2
  exact ⟨rfl, lets_k (k.step (e1.trans x12)) _ _ H2 M2 x3 w2 (.ob a) hy⟩
end
end DL
namespace DL
open PySem PySem.Spec PyProof.Rows L2
section
variable {X : Cx} {ρ : Rho} {M : Mp} {Φ : D → Mp → Prop} {Θ : Bool → Mp → Prop} {a b e : Expr} {pos : Pos} {K : PySem.W.Frag}
theorem rd_I {C : Int → Int → Prop} {g : Int → Int → Int} {x y : D} (h : ∃ i j, x = .int i ∧ y = .int j ∧ C i j ∧ Φ (.int (g i j)) M) : RD K (rI C fun i j => .int (g i j)) x y M Φ := fun Z v u H Q w r1 r2 k => by
  obtain ⟨i, j, rfl, rfl, hc, h⟩ := h
  cases r1; cases r2
  exact ⟨i, j, rfl, rfl, hc, k.now w (.int _) h⟩
theorem rd_I0 {g : Int → Int → Int} {x y : D} (h : ∃ i j, x = .int i ∧ y = .int j ∧ Φ (.int (g i j)) M) : RD K (rI0 fun i j => .int (g i j)) x y M Φ := fun Z v u H Q w r1 r2 k => by
  obtain ⟨i, j, rfl, rfl, h⟩ := h
  cases r1; cases r2
  exact ⟨i, j, rfl, rfl, k.now w (.int _) h⟩
theorem rd_B0 {g : Int → Int → Bool} {x y : D} (h : ∃ i j, x = .int i ∧ y = .int j ∧ Φ (.bl (g i j)) M) : RD K (rI0 fun i j => .bl (g i j)) x y M Φ := fun Z v u H Q w r1 r2 k => by
  obtain ⟨i, j, rfl, rfl, h⟩ := h
  cases r1; cases r2
  exact ⟨i, j, rfl, rfl, k.now w (.bl _) h⟩
theorem we_addI (h : WE X ρ M a fun x M1 => WE X ρ M1 b fun y M2 => ∃ i j, x = .int i ∧ y = .int j ∧ Φ (.int (i + j)) M2) : WE X ρ M (.BinOp a .Add b pos) Φ := we_op op_add (h.imp fun _ _ h => h.imp fun _ _ h => rd_I0 h)
theorem we_subI (h : WE X ρ M a fun x M1 => WE X ρ M1 b fun y M2 => ∃ i j, x = .int i ∧ y = .int j ∧ Φ (.int (i - j)) M2) : WE X ρ M (.BinOp a .Sub b pos) Φ := we_op op_sub (h.imp fun _ _ h => h.imp fun _ _ h => rd_I0 h)
theorem we_mulI (h : WE X ρ M a fun x M1 => WE X ρ M1 b fun y M2 => ∃ i j, x = .int i ∧ y = .int j ∧ CMulW i j ∧ Φ (.int (i * j)) M2) : WE X ρ M (.BinOp a .Mult b pos) Φ := we_op op_mulW (h.imp fun _ _ h => h.imp fun _ _ h => rd_I h)
/-- one factor small -/
theorem we_mulS (h : WE X ρ M a fun x M1 => WE X ρ M1 b fun y M2 => ∃ i j, x = .int i ∧ y = .int j ∧ CMul i j ∧ Φ (.int (i * j)) M2) : WE X ρ M (.BinOp a .Mult b pos) Φ := we_op op_mul (h.imp fun _ _ h => h.imp fun _ _ h => rd_I h)
theorem we_modI (h : WE X ρ M a fun x M1 => WE X ρ M1 b fun y M2 => ∃ i j, x = .int i ∧ y = .int j ∧ 0 < j ∧ Φ (.int (i % j)) M2) : WE X ρ M (.BinOp a .Mod b pos) Φ := we_op op_mod (h.imp fun _ _ h => h.imp fun _ _ h => rd_I (C := fun _ j => 0 < j) h)
theorem we_divI (h : WE X ρ M a fun x M1 => WE X ρ M1 b fun y M2 => ∃ i j, x = .int i ∧ y = .int j ∧ CDivW i j ∧ Φ (.int (i / j)) M2) : WE X ρ M (.BinOp a .FloorDiv b pos) Φ := we_op op_fdivW (h.imp fun _ _ h => h.imp fun _ _ h => rd_I h)
theorem we_powI (h : WE X ρ M a fun x M1 => WE X ρ M1 b fun y M2 => ∃ i j, x = .int i ∧ y = .int j ∧ CPow i j ∧ Φ (.int (i ^ j.toNat)) M2) : WE X ρ M (.BinOp a .Pow b pos) Φ := we_op op_pow (h.imp fun _ _ h => h.imp fun _ _ h => rd_I h)
theorem we_negI (h : WE X ρ M a fun x M1 => ∃ i, x = .int i ∧ Φ (.int (-i)) M1) : WE X ρ M (.UnaryOp .USub a pos) Φ := we_un un_neg (h.imp fun _ _ h Z v H Q w r k => by
  obtain ⟨i, rfl, h⟩ := h
  cases r
  exact ⟨i, rfl, k.now w (.int _) h⟩)
section
variable {op : CmpOp}
theorem we_leI (h : WE X ρ M a fun x M1 => WE X ρ M1 b fun y M2 => ∃ i j, x = .int i ∧ y = .int j ∧ Φ (.bl (decide (i ≤ j))) M2) : WE X ρ M (.Compare a [.LtE] [b] pos) Φ := we_cmp op_le (nomark _) (h.imp fun _ _ h => h.imp fun _ _ h => rd_B0 h)
theorem we_geI (h : WE X ρ M a fun x M1 => WE X ρ M1 b fun y M2 => ∃ i j, x = .int i ∧ y = .int j ∧ Φ (.bl (decide (j ≤ i))) M2) : WE X ρ M (.Compare a [.GtE] [b] pos) Φ := we_cmp op_ge (nomark _) (h.imp fun _ _ h => h.imp fun _ _ h => rd_B0 h)
theorem wt_ltI (h : WE X ρ M a fun x M1 => WE X ρ M1 b fun y M2 => ∃ i j, x = .int i ∧ y = .int j ∧ Θ (decide (i < j)) M2) : WT X ρ M (.Compare a [.Lt] [b] pos) Θ := wt_cmp op_lt (nomark _) (h.imp fun _ _ h => h.imp fun _ _ ⟨i, j, e1, e2, h⟩ => rd_B0 ⟨i, j, e1, e2, _, rfl, h⟩)
theorem wt_leI (h : WE X ρ M a fun x M1 => WE X ρ M1 b fun y M2 => ∃ i j, x = .int i ∧ y = .int j ∧ Θ (decide (i ≤ j)) M2) : WT X ρ M (.Compare a [.LtE] [b] pos) Θ := wt_cmp op_le (nomark _) (h.imp fun _ _ h => h.imp fun _ _ ⟨i, j, e1, e2, h⟩ => rd_B0 ⟨i, j, e1, e2, _, rfl, h⟩)
theorem wt_gtI (h : WE X ρ M a fun x M1 => WE X ρ M1 b fun y M2 => ∃ i j, x = .int i ∧ y = .int j ∧ Θ (decide (j < i)) M2) : WT X ρ M (.Compare a [.Gt] [b] pos) Θ := wt_cmp op_gt (nomark _) (h.imp fun _ _ h => h.imp fun _ _ ⟨i, j, e1, e2, h⟩ => rd_B0 ⟨i, j, e1, e2, _, rfl, h⟩)
end
theorem rd_eq {x y : D} (h : ∃ c, EqS x y c ∧ Φ (.bl c) M) : RD K rEq x y M Φ := fun Z v u H Q w r1 r2 k => by
  obtain ⟨c, hc, h⟩ := h
  obtain ⟨s1, s2⟩ := hc.rep r1 r2
  exact ⟨s1, by rw [s2]; exact k.now w (.bl c) h⟩
theorem rd_ne {x y : D} (h : ∃ c, EqS x y c ∧ Φ (.bl (!c)) M) : RD K rNe x y M Φ := fun Z v u H Q w r1 r2 k => by
  obtain ⟨c, hc, h⟩ := h
  obtain ⟨s1, s2⟩ := hc.rep r1 r2
  exact ⟨s1, by rw [s2]; exact k.now w (.bl (!c)) h⟩
theorem we_eqS (h : WE X ρ M a fun x M1 => WE X ρ M1 b fun y M2 => ∃ c, EqS x y c ∧ Φ (.bl c) M2) : WE X ρ M (.Compare a [.Eq] [b] pos) Φ := we_cmp op_eq (nomark _) (h.imp fun _ _ h => h.imp fun _ _ h => rd_eq h)
theorem wt_eqS (h : WE X ρ M a fun x M1 => WE X ρ M1 b fun y M2 => ∃ c, EqS x y c ∧ Θ c M2) : WT X ρ M (.Compare a [.Eq] [b] pos) Θ := wt_cmp op_eq (nomark _) (h.imp fun _ _ h => h.imp fun _ _ ⟨c, e, h⟩ => rd_eq ⟨c, e, _, rfl, h⟩)
theorem wt_neS (h : WE X ρ M a fun x M1 => WE X ρ M1 b fun y M2 => ∃ c, EqS x y c ∧ Θ (!c) M2) : WT X ρ M (.Compare a [.NotEq] [b] pos) Θ := wt_cmp op_ne (nomark _) (h.imp fun _ _ h => h.imp fun _ _ ⟨c, e, h⟩ => rd_ne ⟨c, e, _, rfl, h⟩)
mutual
theorem Rep.dp {M : Mp} {Z : Zn} {H : Hp} : ∀ {v : V} {d : D} {p : PyData}, Rep K M Z H v d → toPy d = some p → Dp K H v p
  | _, _, _, .non, e => by cases e; exact .non
  | _, _, _, .bl b, e => by cases e; exact .bl b
  | _, _, _, .int i, e => by cases e; exact .int i
  | _, _, _, .str x, e => by cases e; exact .str x
  | _, _, _, .ty n, e => by simp [toPy] at e
  | _, _, _, .fn n, e => by simp [toPy] at e
  | _, _, _, .ob n, e => by simp [toPy] at e
  | _, _, _, .dK h m r, e => by simp [toPy] at e
  | _, _, _, .dT h m r, e => by simp [toPy] at e
  | _, _, _, .ins h m r, e => by simp [toPy] at e
  | _, _, _, .key h m, e => by simp [toPy] at e
  | _, _, _, .fig h hd m md, e => by simp [toPy] at e
  | _, _, _, .exc h hd m md r, e => by simp [toPy] at e
  | _, _, _, .lam h hc m mc, e => by simp [toPy] at e
  | _, _, _, .fdK h m r, e => by simp [toPy] at e
  | _, _, _, .slo h hd m md r, e => by simp [toPy] at e
  | _, _, _, .lst h m r, e => by
    obtain ⟨ps, e1, rfl⟩ := Option.map_eq_some_iff.mp (by simpa only [toPy] using e)
    exact .lst (.inl (.inl h)) (Reps.dp r e1)
  | _, _, _, .rol h m r, e => by
    obtain ⟨ps, e1, rfl⟩ := Option.map_eq_some_iff.mp (by simpa only [toPy] using e)
    exact .lst (.inl h) (Reps.dp r e1)
  | _, _, _, .rolK h r, e => by
    obtain ⟨ps, e1, rfl⟩ := Option.map_eq_some_iff.mp (by simpa only [toPy] using e)
    exact .lst (.inr h) (Reps.dp r e1)
  | _, _, _, .tup h m r, e => by
    obtain ⟨ps, e1, rfl⟩ := Option.map_eq_some_iff.mp (by simpa only [toPy] using e)
    exact .tup (.inl h) (Reps.dp r e1)
  | _, _, _, .tupK h r, e => by
    obtain ⟨ps, e1, rfl⟩ := Option.map_eq_some_iff.mp (by simpa only [toPy] using e)
    exact .tup (.inr h) (Reps.dp r e1)
theorem Reps.dp {M : Mp} {Z : Zn} {H : Hp} : ∀ {vs : List V} {ds : List D} {ps : List PyData}, Reps K M Z H vs ds → toPys ds = some ps → DpAll K H vs ps
  | _, _, _, .nil, e => by cases (show some [] = some _ from (by simpa only [toPys] using e)); exact .nil
  | _, _, _, .cons r t, e => by
    simp only [toPys] at e
    obtain ⟨p, e1, e2⟩ := Option.bind_eq_some_iff.mp e
    obtain ⟨qs, e3, rfl⟩ := Option.map_eq_some_iff.mp e2
    exact .cons (Rep.dp r e1) (Reps.dp t e3)
end
theorem rd_neD {x y : D} (h : ∃ p q, toPy x = some p ∧ toPy y = some q ∧ SeqAt.shaped p = true ∧ SeqAt.shaped q = true ∧ Φ (.bl (!PyData.eqv p q)) M) : RD K (rNeD K) x y M Φ := fun Z v u H Q w r1 r2 k => by
  obtain ⟨p, q, e1, e2, s1, s2, h⟩ := h
  exact ⟨p, q, r1.dp e1, r2.dp e2, s1, s2, k.now w (.bl _) h⟩
theorem wt_neD (hu : X.A.units + 64 < cLine) (h : WE X ρ M a fun x M1 => WE X ρ M1 b fun y M2 => ∃ p q, toPy x = some p ∧ toPy y = some q ∧ SeqAt.shaped p = true ∧ SeqAt.shaped q = true ∧ Θ (!PyData.eqv p q) M2) : WT X ρ M (.Compare a [.NotEq] [b] pos) Θ := wt_cmp (op_neD hu) (nomark _) (h.imp fun _ _ h => h.imp fun _ _ ⟨p, q, e1, e2, s1, s2, h⟩ => rd_neD ⟨p, q, e1, e2, s1, s2, _, rfl, h⟩)
def isNon : D → Bool
  | .non => true
  | _ => false
theorem Rep.isNon {M : Mp} {Z : Zn} {H : Hp} {v : V} {d : D} (r : Rep K M Z H v d) : decide (v = .non) = DL.isNon d := by
  cases r <;> first | rfl | simp [DL.isNon]
theorem we_isN {j : Nat} {p' : Pos} (h : WE X ρ M a fun x M1 => Φ (.bl (isNon x)) M1) : WE X ρ M (.Compare a [.Is] [.Constant .none j p'] pos) Φ := .mk fun σ H Q en w k =>
  eOf (pe_cmp (pc_isN pe_sem)) (h.run σ H _ en w fun v d H1 M1 e1 w1 r1 hz => by
    show Q (.bl (decide (v = .non))) H1
    rw [r1.isNon]
    exact (k.step e1).now w1 (.bl _) hz)
theorem we_notN {j : Nat} {p' : Pos} (h : WE X ρ M a fun x M1 => Φ (.bl (!isNon x)) M1) : WE X ρ M (.Compare a [.IsNot] [.Constant .none j p'] pos) Φ := .mk fun σ H Q en w k =>
  eOf (pe_cmp (pc_notN pe_sem)) (h.run σ H _ en w fun v d H1 M1 e1 w1 r1 hz => by
    show Q (.bl (!decide (v = .non))) H1
    rw [r1.isNon]
    exact (k.step e1).now w1 (.bl _) hz)
theorem wt_isN {j : Nat} {p' : Pos} (h : WE X ρ M a fun x M1 => Θ (isNon x) M1) : WT X ρ M (.Compare a [.Is] [.Constant .none j p'] pos) Θ := .mk fun σ H Q en w k =>
  tOf (pt_cmp (pc_isN pe_sem)) (h.run σ H _ en w fun v d H1 M1 e1 w1 r1 hz => by
    show ∃ c, V.bl (decide (v = .non)) = .bl c ∧ Q c H1
    rw [r1.isNon]
    exact ⟨_, rfl, (k.step e1).now w1 hz⟩)
theorem wt_notN {j : Nat} {p' : Pos} (h : WE X ρ M a fun x M1 => Θ (!isNon x) M1) : WT X ρ M (.Compare a [.IsNot] [.Constant .none j p'] pos) Θ := .mk fun σ H Q en w k =>
  tOf (pt_cmp (pc_notN pe_sem)) (h.run σ H _ en w fun v d H1 M1 e1 w1 r1 hz => by
    show ∃ c, V.bl (!decide (v = .non)) = .bl c ∧ Q c H1
    rw [r1.isNon]
    exact ⟨_, rfl, (k.step e1).now w1 hz⟩)
theorem wt_chainI {c : Expr} (h : WE X ρ M a fun x M1 => WE X ρ M1 b fun y M2 => ∃ i j, x = .int i ∧ y = .int j ∧ if decide (i ≤ j) = true then WE X ρ M2 c fun z M3 => ∃ l, z = .int l ∧ Θ (decide (j ≤ l)) M3 else Θ false M2) (hm : lastMarks [.LtE, .LtE] [b, c] = false := by rfl) : WT X ρ M (.Compare a [.LtE, .LtE] [b, c] pos) Θ := .mk fun σ H Q en w k =>
  tOf (pt_chain op_le op_le pe_sem pe_sem pe_sem (hm := hm)) (bind2 h en w fun v u x y H2 M2 e2 w2 r1 r2 hz => by
    obtain ⟨i, j, rfl, rfl, hz⟩ := hz
    cases r1; cases r2
    refine ⟨i, j, rfl, rfl, _, rfl, ?_⟩
    cases hd : decide (i ≤ j) with
    | false =>
      rw [hd] at hz
      exact ⟨_, rfl, (k.step e2).now w2 hz⟩
    | true =>
      rw [hd] at hz
      exact hz.run σ H2 _ (en.mono e2) w2 fun v3 z H3 M3 e3 w3 r3 hy => by
        obtain ⟨l, rfl, hy⟩ := hy
        cases r3
        exact ⟨j, l, rfl, rfl, _, rfl, (k.step (e2.trans e3)).now w3 hy⟩)
theorem we_addS (h : WE X ρ M a fun x M1 => WE X ρ M1 b fun y M2 => ∃ i j, x = .str i ∧ y = .str j ∧ i.length + j.length ≤ sizeLine ∧ Φ (.str (i ++ j)) M2) : WE X ρ M (.BinOp a .Add b pos) Φ := we_op op_add_str (h.imp fun _ _ h => h.imp fun _ _ h Z v u H Q w r1 r2 k => by
  obtain ⟨i, j, rfl, rfl, hz, h⟩ := h
  cases r1; cases r2
  exact ⟨i, j, rfl, rfl, hz, k.now w (.str _) h⟩)
theorem we_inC (h : WE X ρ M a fun x M1 => WE X ρ M1 b fun y M2 => ∃ c z, x = .str ⟨#[c]⟩ ∧ y = .str z ∧ Φ (.bl (decide (c ∈ z.cps.toList))) M2) (hm : behindInMarks .In b = false := by rfl) : WE X ρ M (.Compare a [.In] [b] pos) Φ := we_cmp op_in_sign hm (h.imp fun _ _ h => h.imp fun _ _ h Z v u H Q w r1 r2 k => by
  obtain ⟨i, j, rfl, rfl, h⟩ := h
  cases r1; cases r2
  exact ⟨i, j, rfl, rfl, k.now w (.bl _) h⟩)
theorem we_addL (h : WE X ρ M a fun x M1 => WE X ρ M1 b fun y M2 => ∃ xs ys, x = .lst xs ∧ y = .lst ys ∧ xs.length + ys.length ≤ sizeLine ∧ Φ (.lst (xs ++ ys)) M2) : WE X ρ M (.BinOp a .Add b pos) Φ := we_op op_cat (h.imp fun _ _ h => h.imp fun _ _ h Z v u H Q w r1 r2 k => by
  obtain ⟨xs, ys, rfl, rfl, hz, h⟩ := h
  cases r1 with
  | lst h1 m1 r1 =>
    cases r2 with
    | lst h2 m2 r2 =>
      exact ⟨_, _, _, _, rfl, rfl, h1, h2, by rw [r1.length, r2.length]; exact hz, fun p hp => k.new w hp (.lst upd_same (w.fresh hp) ((r1.append r2).mono (Ext.new w hp))) h⟩)
theorem we_addT (h : WE X ρ M a fun x M1 => WE X ρ M1 b fun y M2 => ∃ xs ys, x = .tup xs ∧ y = .tup ys ∧ xs.length + ys.length ≤ sizeLine ∧ Φ (.tup (xs ++ ys)) M2) : WE X ρ M (.BinOp a .Add b pos) Φ := we_op op_catA (h.imp fun _ _ h => h.imp fun _ _ h Z v u H Q w r1 r2 k => by
  obtain ⟨xs, ys, rfl, rfl, hz, h⟩ := h
  obtain ⟨p, vs, rfl, hq, rs⟩ := r1.asTup
  obtain ⟨p2, vs2, rfl, hq2, rs2⟩ := r2.asTup
  refine ⟨p, p2, vs, vs2, rfl, rfl, hq, hq2, by rw [rs.length, rs2.length]; exact hz, fun e => ?_, fun _ e => ?_, fun _ _ q hp => ?_⟩
  · subst e; cases rs; exact k.now w r2 h
  · subst e; cases rs2; rw [List.append_nil] at h; exact k.now w r1 h
  · exact k.new w hp (.tup (.inl upd_same) (w.fresh hp) ((rs.append rs2).mono (Ext.new w hp))) h)
/-- what a subscript reads -/
def IxD (M : Mp) (d : D) (i : Int) (y : D) : Prop := (∃ ds, LstOf M d ds ∧ atI ds i = some y) ∨ (∃ ds, d = .tup ds ∧ atI ds i = some y) ∨ ∃ z c, d = .str z ∧ z.length ≤ sizeLine ∧ atI z.cps.toList i = some c ∧ y = .str ⟨#[c]⟩
theorem Reps.atI {M : Mp} {Z : Zn} {H : Hp} {vs : List V} {ds : List D} {i : Int} {d : D} (r : Reps K M Z H vs ds) (h : L2.atI ds i = some d) : ∃ v, L2.atI vs i = some v ∧ Rep K M Z H v d := by
  unfold L2.atI at h ⊢
  rw [r.length]
  cases e : ixN ds.length i with
  | none => rw [e] at h; cases h
  | some j =>
    rw [e] at h
    exact r.get h
theorem we_ix (h : WE X ρ M a fun x M1 => WE X ρ M1 b fun y M2 => ∃ i d, y = .int i ∧ IxD M2 x i d ∧ Φ d M2) (hs : PlainIx b := by exact fun _ _ => rfl) : WE X ρ M (.Subscript a b pos) Φ := .mk fun σ H Q en w k =>
  eOf (pe_ix ix_seq pe_sem pe_sem hs) (bind2 h en w fun v u x y H2 M2 e2 w2 r1 r2 hz => by
    obtain ⟨i, d, rfl, hi, hz⟩ := hz
    cases r2
    rcases hi with ⟨ds, hl, ha⟩ | ⟨ds, rfl, ha⟩ | ⟨z, c, rfl, hl, ha, rfl⟩
    · obtain ⟨p, vs, rfl, hq, rs⟩ := r1.asLst w2 hl
      obtain ⟨v, hv, rv⟩ := rs.atI ha
      exact .inl ⟨p, vs, i, v, rfl, rfl, hq, hv, (k.step e2).now w2 rv hz⟩
    · obtain ⟨p, vs, rfl, hq, rs⟩ := r1.asTup
      obtain ⟨v, hv, rv⟩ := rs.atI ha
      exact .inr (.inl ⟨p, vs, i, v, rfl, rfl, hq, hv, (k.step e2).now w2 rv hz⟩)
    · cases r1
      exact .inr (.inr ⟨z, i, c, rfl, rfl, hl, ha, (k.step e2).now w2 (.str _) hz⟩))
theorem ixT {M : Mp} {ds : List D} {i : Int} {y : D} (h : atI ds i = some y) : IxD M (.tup ds) i y := .inr (.inl ⟨ds, rfl, h⟩)
theorem ixL {M : Mp} {ds : List D} {i : Int} {y : D} (h : atI ds i = some y) : IxD M (.lst ds) i y := .inl ⟨ds, rfl, h⟩
theorem ixR {M : Mp} {ds : List D} {i : Int} {y : D} (h : atI ds i = some y) : IxD M (.rol ds) i y := .inl ⟨ds, rfl, h⟩
theorem ixO {M : Mp} {p : Addr} {ds : List D} {i : Int} {y : D} (hp : M p = some (.lst ds)) (h : atI ds i = some y) : IxD M (.ob p) i y := .inl ⟨ds, hp, h⟩
def WO (X : Cx) (ρ : Rho) (M : Mp) (e : Option Expr) (Φ : Option Int → Mp → Prop) : Prop := match e with
  | none => Φ none M
  | some e => WE X ρ M e fun d M1 => ∃ i, d = .int i ∧ Φ (some i) M1
def oSem (X : Cx) : Option Expr → TO
  | none => tNoPart
  | some e => tPart (eSem X e)
theorem po_sem {o : Option Expr} : PO X o (oSem X o) := by
  cases o with
  | none => exact po_none
  | some e => exact po_some pe_sem
theorem wo_run {o : Option Expr} {ΦO : Option Int → Mp → Prop} (h : WO X ρ M o ΦO) {Z : Zn} {σ : L2.St} {H : Hp} {Q : Option Int → Hp → Prop} (en : EnvR X.K M Z H σ ρ) (w : Wd X.K M Z H) (k : ∀ i H' M', Ext M Z H M' H' → Wd X.K M' Z H' → ΦO i M' → Q i H') : oSem X o σ H Q := by
  cases o with
  | none => exact k none H M Ext.refl w h
  | some e =>
    refine (show WE X ρ M e (fun d M1 => ∃ i, d = .int i ∧ ΦO (some i) M1) from h).run σ H _ en w fun v d H1 M1 e1 w1 r1 hz => ?_
    obtain ⟨i, rfl, hz⟩ := hz
    cases r1
    exact ⟨i, rfl, k _ H1 M1 e1 w1 hz⟩
/-- what a slice is -/
def SlD (M : Mp) (d : D) (lo hi : Option Int) (y : D) : Prop := (∃ ds, LstOf M d ds ∧ y = .lst (cutD ds lo hi)) ∨ (∃ ds, d = .tup ds ∧ y = .tup (cutD ds lo hi)) ∨ ∃ z, d = .str z ∧ z.length ≤ sizeLine ∧ y = .str (cutS z lo hi)
theorem cutD_all {α : Type} {xs : List α} {lo hi : Option Int} (h : HT.sIx xs.length 0 lo = 0 ∧ HT.sIx xs.length xs.length hi = xs.length) : cutD xs lo hi = xs := by
  unfold cutD; rw [h.1, h.2]; simp
theorem we_slice {lo hi : Option Expr} {p2 : Pos} (h : WE X ρ M a fun x M1 => WO X ρ M1 lo fun l M2 => WO X ρ M2 hi fun u M3 => ∃ d, SlD M3 x l u d ∧ Φ d M3) : WE X ρ M (.Subscript a (.Slice lo hi none p2) pos) Φ := .mk fun σ H Q en w k =>
  eOf (pe_slice (sl_list.or (sl_tupA.or sl_str)) pe_sem po_sem po_sem) (h.run σ H _ en w fun v x H1 M1 e1 w1 r1 hz => wo_run hz (en.mono e1) w1 fun l H2 M2 e2 w2 hz => wo_run hz (en.mono (e1.trans e2)) w2 fun u H3 M3 e3 w3 hz => by
    obtain ⟨d, hd, hz⟩ := hz
    have r3 := r1.mono (e2.trans e3)
    have k3 := k.step ((e1.trans e2).trans e3)
    rcases hd with ⟨ds, hl, rfl⟩ | ⟨ds, rfl, rfl⟩ | ⟨z, rfl, hl, rfl⟩
    · obtain ⟨p, vs, rfl, hq, rs⟩ := r3.asLst w3 hl
      exact .inl ⟨p, vs, rfl, hq, fun q hp => k3.new w3 hp (.lst upd_same (w3.fresh hp) ((rs.cut l u).mono (Ext.new w3 hp))) hz⟩
    · obtain ⟨p, vs, rfl, hq, rs⟩ := r3.asTup
      refine .inr (.inl ⟨p, vs, rfl, hq, fun hw => ?_, fun hw q hp => ?_⟩)
      · rw [rs.length] at hw
        rw [cutD_all hw] at hz
        exact k3.now w3 r3 hz
      · exact k3.new w3 hp (.tup (.inl upd_same) (w3.fresh hp) ((rs.cut l u).mono (Ext.new w3 hp))) hz
    · cases r3
      exact .inr (.inr ⟨z, rfl, hl, k3.now w3 (.str _) hz⟩))
end
end DL
namespace DL
open PySem PySem.Spec PyProof.Rows L2
section
variable {X : Cx} {ρ : Rho} {M : Mp} {Φ : D → Mp → Prop} {Θ : Bool → Mp → Prop} {a b e o : Expr} {es : List Expr} {pos p apos : Pos} {x : Str}
theorem we_callB {id : String} {r : List V → Hp → VK → Prop} (hc : CallR X (.builtin id) r) (hm : X.mg x = none) (hv : bootBuiltins x = some (.builtin id)) (h : WA X ρ M (e :: es) fun ds M1 => RC X.K r ds M1 Φ) (hg : Gl X x := by rfl) (hn : x ≠ "__name__" := by decide) (hdb : (x == ("__debug__" : Str)) = false := by decide)
    (he : starEach (e :: es) X.env = (false, eval e X.env) :: starEach es X.env := by rfl) (hpl : (backTo pos (starEach es X.env)).any (·.1) = false := by rfl) : WE X ρ M (.Call (.Name x p) (e :: es) [] pos) Φ := .mk fun σ H Q en w k =>
  eOf (pe_callB hc hg hm hv pa_sem hn hdb he hpl) (h.run σ H _ en w fun vs ds H1 M1 e1 w1 r1 hz => hz _ vs H1 Q w1 r1 (k.step e1))
theorem we_callTy {T : String} {r : List V → Hp → VK → Prop} (hc : CallR X (.type T) r) (hm : X.mg x = none) (hv : bootBuiltins x = some (.type T)) (h : WA X ρ M (e :: es) fun ds M1 => RC X.K r ds M1 Φ) (hg : Gl X x := by rfl) (hn : x ≠ "__name__" := by decide) (hdb : (x == ("__debug__" : Str)) = false := by decide)
    (he : starEach (e :: es) X.env = (false, eval e X.env) :: starEach es X.env := by rfl) (hpl : (backTo pos (starEach es X.env)).any (·.1) = false := by rfl) : WE X ρ M (.Call (.Name x p) (e :: es) [] pos) Φ := .mk fun σ H Q en w k =>
  eOf (pe_callTy hc hg hm hv pa_sem hn hdb he hpl) (h.run σ H _ en w fun vs ds H1 M1 e1 w1 r1 hz => hz _ vs H1 Q w1 r1 (k.step e1))
/-- how many -/
def LenD (M : Mp) (d : D) (n : Nat) : Prop := (∃ ds, LstOf M d ds ∧ n = ds.length) ∨ (∃ ds, d = .tup ds ∧ n = ds.length) ∨ ∃ z, d = .str z ∧ z.length ≤ sizeLine ∧ n = z.length
theorem we_len (hm : X.mg "len" = none) (h : WE X ρ M e fun d M1 => ∃ n : Nat, LenD M1 d n ∧ Φ (.int n) M1) (hg : Gl X "len" := by rfl)
    (he : starEach [e] X.env = (false, eval e X.env) :: starEach [] X.env := by rfl) (hpl : (backTo pos (starEach [] X.env)).any (·.1) = false := by rfl) : WE X ρ M (.Call (.Name "len" p) [e] [] pos) Φ :=
  we_callB call_len hm boot_len (wa_cons (h.imp fun d M1 h => wa_nil fun Z vs H Q w rr k => by
    obtain ⟨n, hn, h⟩ := h
    obtain ⟨v, rfl, r⟩ := rr.one
    refine ⟨v, n, rfl, ?_, k.now w (.int _) h⟩
    rcases hn with ⟨ds, hl, rfl⟩ | ⟨ds, rfl, rfl⟩ | ⟨z, rfl, hz, rfl⟩
    · obtain ⟨p, vs, rfl, hq, rs⟩ := r.asLst w hl
      exact .inl ⟨vs, hq, rs.length.symm⟩
    · obtain ⟨p, vs, rfl, hq, rs⟩ := r.asTup
      exact .inr ⟨vs, hq, rs.length.symm⟩
    · cases r
      exact ⟨hz, rfl⟩) he) hg (he := he) (hpl := hpl)
theorem lenL {M : Mp} {ds : List D} : LenD M (.lst ds) ds.length := .inl ⟨ds, rfl, rfl⟩
theorem lenR {M : Mp} {ds : List D} : LenD M (.rol ds) ds.length := .inl ⟨ds, rfl, rfl⟩
theorem lenS {M : Mp} {z : Str} (h : z.length ≤ sizeLine) : LenD M (.str z) z.length := .inr (.inr ⟨z, rfl, h, rfl⟩)
theorem lenO {M : Mp} {p : Addr} {ds : List D} (h : M p = some (.lst ds)) : LenD M (.ob p) ds.length := .inl ⟨ds, h, rfl⟩
theorem we_abs (hm : X.mg "abs" = none) (h : WE X ρ M e fun d M1 => ∃ i, d = .int i ∧ Φ (.int (if i < 0 then -i else i)) M1) (hg : Gl X "abs" := by rfl)
    (he : starEach [e] X.env = (false, eval e X.env) :: starEach [] X.env := by rfl) (hpl : (backTo pos (starEach [] X.env)).any (·.1) = false := by rfl) : WE X ρ M (.Call (.Name "abs" p) [e] [] pos) Φ :=
  we_callB call_abs hm (by decide +kernel) (wa_cons (h.imp fun d M1 h => wa_nil fun Z vs H Q w rr k => by
    obtain ⟨i, rfl, h⟩ := h
    obtain ⟨v, rfl, r⟩ := rr.one
    cases r
    exact ⟨i, rfl, k.now w (.int _) h⟩) he) hg (he := he) (hpl := hpl)
/-- int(x) of an int, a bool -/
theorem we_intN (hm : X.mg "int" = none) (h : WE X ρ M e fun d M1 => (∃ i, d = .int i ∧ Φ (.int i) M1) ∨ ∃ c, d = .bl c ∧ Φ (.int (if c then 1 else 0)) M1) (hg : Gl X "int" := by rfl)
    (he : starEach [e] X.env = (false, eval e X.env) :: starEach [] X.env := by rfl) (hpl : (backTo pos (starEach [] X.env)).any (·.1) = false := by rfl) : WE X ρ M (.Call (.Name "int" p) [e] [] pos) Φ :=
  we_callTy call_int1 hm (by decide +kernel) (wa_cons (h.imp fun d M1 h => wa_nil fun Z vs H Q w rr k => by
    obtain ⟨v, rfl, r⟩ := rr.one
    rcases h with ⟨i, rfl, h⟩ | ⟨i, rfl, h⟩
    · cases r; exact .inl ⟨i, rfl, k.now w (.int _) h⟩
    · cases r; exact .inr ⟨i, rfl, k.now w (.int _) h⟩) he) hg (he := he) (hpl := hpl)
/-- int(text) -/
theorem we_intS (hm : X.mg "int" = none) (h : WE X ρ M e fun d M1 => ∃ z n, d = .str z ∧ PySem.intText? z = some n ∧ z.length ≤ 640 ∧ Φ (.int n) M1) (hg : Gl X "int" := by rfl)
    (he : starEach [e] X.env = (false, eval e X.env) :: starEach [] X.env := by rfl) (hpl : (backTo pos (starEach [] X.env)).any (·.1) = false := by rfl) : WE X ρ M (.Call (.Name "int" p) [e] [] pos) Φ :=
  we_callTy call_int_str hm (by decide +kernel) (wa_cons (h.imp fun d M1 h => wa_nil fun Z vs H Q w rr k => by
    obtain ⟨v, rfl, r⟩ := rr.one
    obtain ⟨z, n, rfl, h1, h2, h⟩ := h
    cases r
    exact ⟨z, n, rfl, h1, h2, k.now w (.int _) h⟩) he) hg (he := he) (hpl := hpl)
/-- str(int) -/
theorem we_strI (hm : X.mg "str" = none) (h : WE X ρ M e fun d M1 => ∃ i : Int, d = .int i ∧ i.natAbs.log2 < 1920 ∧ Φ (.str (toString i)) M1) (hg : Gl X "str" := by rfl)
    (he : starEach [e] X.env = (false, eval e X.env) :: starEach [] X.env := by rfl) (hpl : (backTo pos (starEach [] X.env)).any (·.1) = false := by rfl) : WE X ρ M (.Call (.Name "str" p) [e] [] pos) Φ :=
  we_callTy call_str_int hm (by decide +kernel) (wa_cons (h.imp fun d M1 h => wa_nil fun Z vs H Q w rr k => by
    obtain ⟨v, rfl, r⟩ := rr.one
    obtain ⟨i, rfl, h2, h⟩ := h
    cases r
    exact ⟨i, rfl, h2, k.now w (.str _) h⟩) he) hg (he := he) (hpl := hpl)
theorem we_max2 (hm : X.mg "max" = none) (h : WE X ρ M a fun x M1 => WE X ρ M1 b fun y M2 => ∃ i j, x = .int i ∧ y = .int j ∧ Φ (.int (if j > i then j else i)) M2) (hc : X.calm = true := by rfl) (hg : Gl X "max" := by rfl)
    (ha : starEach [a, b] X.env = (false, eval a X.env) :: starEach [b] X.env := by rfl) (hb : starEach [b] X.env = (false, eval b X.env) :: starEach [] X.env := by rfl) (hpl : (backTo pos (starEach [b] X.env)).any (·.1) = false := by rfl) : WE X ρ M (.Call (.Name "max" p) [a, b] [] pos) Φ :=
  we_callB (call_max2 hc) hm (by decide +kernel) (wa_cons (h.imp fun x M1 h => wa_cons (h.imp fun y M2 h => wa_nil fun Z vs H Q w rr k => by
    obtain ⟨v, u, rfl, r1, r2⟩ := rr.two
    obtain ⟨i, j, rfl, rfl, h⟩ := h
    cases r1; cases r2
    exact ⟨i, j, rfl, k.now w (.int _) h⟩) hb) ha) hg (he := ha) (hpl := hpl)
theorem we_min2 (hm : X.mg "min" = none) (h : WE X ρ M a fun x M1 => WE X ρ M1 b fun y M2 => ∃ i j, x = .int i ∧ y = .int j ∧ Φ (.int (if j < i then j else i)) M2) (hc : X.calm = true := by rfl) (hg : Gl X "min" := by rfl)
    (ha : starEach [a, b] X.env = (false, eval a X.env) :: starEach [b] X.env := by rfl) (hb : starEach [b] X.env = (false, eval b X.env) :: starEach [] X.env := by rfl) (hpl : (backTo pos (starEach [b] X.env)).any (·.1) = false := by rfl) : WE X ρ M (.Call (.Name "min" p) [a, b] [] pos) Φ :=
  we_callB (call_min2 hc) hm (by decide +kernel) (wa_cons (h.imp fun x M1 h => wa_cons (h.imp fun y M2 h => wa_nil fun Z vs H Q w rr k => by
    obtain ⟨v, u, rfl, r1, r2⟩ := rr.two
    obtain ⟨i, j, rfl, rfl, h⟩ := h
    cases r1; cases r2
    exact ⟨i, j, rfl, k.now w (.int _) h⟩) hb) ha) hg (he := ha) (hpl := hpl)
/-- sum, all, any -/
theorem we_sum (hm : X.mg "sum" = none) (h : WE X ρ M e fun d M1 => ∃ ns : List Int, LstOf M1 d (ns.map D.int) ∧ Φ (.int ns.sum) M1) (hc : X.calm = true := by rfl) (hg : Gl X "sum" := by rfl)
    (he : starEach [e] X.env = (false, eval e X.env) :: starEach [] X.env := by rfl) (hpl : (backTo pos (starEach [] X.env)).any (·.1) = false := by rfl) : WE X ρ M (.Call (.Name "sum" p) [e] [] pos) Φ :=
  we_callB (cr_sum hc) hm (by decide +kernel) (wa_cons (h.imp fun d M1 h => wa_nil fun Z vs H Q w rr k => by
    obtain ⟨v, rfl, r⟩ := rr.one
    obtain ⟨ns, hl, h⟩ := h
    obtain ⟨q, vs, rfl, hq, rs⟩ := r.asLst w hl
    rw [rs.ints] at hq
    exact ⟨q, ns, rfl, hq, k.now w (.int _) h⟩) he) hg (he := he) (hpl := hpl)
theorem we_all (hm : X.mg "all" = none) (h : WE X ρ M e fun d M1 => ∃ bs : List Bool, LstOf M1 d (bs.map D.bl) ∧ Φ (.bl (bs.all id)) M1) (hc : X.calm = true := by rfl) (hg : Gl X "all" := by rfl)
    (he : starEach [e] X.env = (false, eval e X.env) :: starEach [] X.env := by rfl) (hpl : (backTo pos (starEach [] X.env)).any (·.1) = false := by rfl) : WE X ρ M (.Call (.Name "all" p) [e] [] pos) Φ :=
  we_callB (cr_all hc) hm (by decide +kernel) (wa_cons (h.imp fun d M1 h => wa_nil fun Z vs H Q w rr k => by
    obtain ⟨v, rfl, r⟩ := rr.one
    obtain ⟨ns, hl, h⟩ := h
    obtain ⟨q, vs, rfl, hq, rs⟩ := r.asLst w hl
    rw [rs.bls] at hq
    exact ⟨q, ns, rfl, hq, k.now w (.bl _) h⟩) he) hg (he := he) (hpl := hpl)
/-- tuple(xs), list(xs) -/
theorem we_tupleOf (hm : X.mg "tuple" = none) (h : WE X ρ M e fun d M1 => ∃ ds, (LstOf M1 d ds ∨ d = .tup ds) ∧ Φ (.tup ds) M1) (hg : Gl X "tuple" := by rfl)
    (he : starEach [e] X.env = (false, eval e X.env) :: starEach [] X.env := by rfl) (hpl : (backTo pos (starEach [] X.env)).any (·.1) = false := by rfl) : WE X ρ M (.Call (.Name "tuple" p) [e] [] pos) Φ :=
  we_callTy call_tuple_of hm (by decide +kernel) (wa_cons (h.imp fun d M1 h => wa_nil fun Z vs H Q w rr k => by
    obtain ⟨v, rfl, r⟩ := rr.one
    obtain ⟨ds, hl | rfl, h⟩ := h
    · obtain ⟨q, vs, rfl, hq, rs⟩ := r.asLst w hl
      exact ⟨q, vs, rfl, .inl ⟨hq, fun l hp => k.new w hp (.tup (.inl upd_same) (w.fresh hp) (rs.mono (Ext.new w hp))) h⟩⟩
    · obtain ⟨q, vs, rfl, hq, rs⟩ := r.asTup
      exact ⟨q, vs, rfl, .inr ⟨hq, k.now w r h⟩⟩) he) hg (he := he) (hpl := hpl)
/-- a list that will be changed -/
theorem we_listOfM (hm : X.mg "list" = none) (h : WE X ρ M e fun d M1 => ∃ ds, (LstOf M1 d ds ∨ d = .tup ds) ∧ ∀ q, M1 q = none → Φ (.ob q) (mset M1 q (.lst ds))) (hg : Gl X "list" := by rfl)
    (he : starEach [e] X.env = (false, eval e X.env) :: starEach [] X.env := by rfl) (hpl : (backTo pos (starEach [] X.env)).any (·.1) = false := by rfl) : WE X ρ M (.Call (.Name "list" p) [e] [] pos) Φ :=
  we_callTy call_list_of hm (by decide +kernel) (wa_cons (h.imp fun d M1 h => wa_nil fun Z vs H Q w rr k => by
    obtain ⟨v, rfl, r⟩ := rr.one
    obtain ⟨ds, hl, h⟩ := h
    obtain ⟨q, vs, rfl, hq, rs⟩ : ∃ q vs, v = .ref q ∧ (SqL X.K H q vs ∨ SqT X.K H q vs) ∧ Reps X.K M1 Z H vs ds := by
      rcases hl with hl | rfl
      · obtain ⟨q, vs, e, hq, rs⟩ := r.asLst w hl; exact ⟨q, vs, e, .inl hq, rs⟩
      · obtain ⟨q, vs, e, hq, rs⟩ := r.asTup; exact ⟨q, vs, e, .inr hq, rs⟩
    exact ⟨q, vs, rfl, hq, fun l hp => k _ (.ob l) _ (mset M1 l (.lst ds)) (Ext.newM w hp) (w.newM hp ⟨vs, upd_same, rs.mono (Ext.newM w hp)⟩) (.ob l) (h l (w.fresh hp).1)⟩) he) hg (he := he) (hpl := hpl)
/-- list(range(n)) -/
theorem we_listRg1 {p2 pos2 : Pos} (hm : X.mg "list" = none) (hm2 : X.mg "range" = none) (h : WE X ρ M e fun d M1 => ∃ n : Int, d = .int n ∧ RgOk 0 n ∧ Φ (.lst (rngD 0 n.toNat)) M1) (hc : X.calm = true := by rfl) (hg : Gl X "list" := by rfl) (hg2 : Gl X "range" := by rfl)
    (na : starEach [e] X.env = (false, eval e X.env) :: starEach [] X.env := by rfl) (nb : starEach [.Call (.Name "range" p2) [e] [] pos2] X.env = (false, eval (.Call (.Name "range" p2) [e] [] pos2) X.env) :: starEach [] X.env := by rfl) : WE X ρ M (.Call (.Name "list" p) [.Call (.Name "range" p2) [e] [] pos2] [] pos) Φ := .mk fun σ H Q en w k =>
  eOf (pe_listRg hc hg hm (prg_1 hg2 hm2 pe_sem na) nb) (h.run σ H _ en w fun v d H1 M1 e1 w1 r1 hz => by
    obtain ⟨n, rfl, ok, hz⟩ := hz
    cases r1
    refine ⟨n, rfl, ok, fun q hq => (k.step e1).new w1 hq (.lst upd_same (w1.fresh hq) ?_) hz⟩
    have e2 : ∀ (M : Mp) (Z : Zn) (H : Hp), Reps X.K M Z H (rgV 0 n) (rngD 0 n.toNat) := fun M Z H => by
      unfold rgV rngD
      rw [show (n - 0).toNat = n.toNat by omega]
      generalize List.range n.toNat = l
      induction l with
      | nil => exact .nil
      | cons i r ih => exact .cons (.int _) ih
    exact e2 _ _ _)
/-- a class as data -/
def ClsD : D → Value → Prop
  | .ty n, u => u = .type n
  | .fn C, u => u = .ref C
  | _, _ => False
theorem we_isi (hm : X.mg "isinstance" = none) (h : WE X ρ M a fun x M1 => WE X ρ M1 b fun y M2 => ∃ t u c, TyD M2 x t ∧ ClsD y u ∧ (∀ C, t = .ref C → OwnC X.K C) ∧ PySem.W.kitOne X.K t u = some c ∧ Φ (.bl c) M2) (hg : Gl X "isinstance" := by rfl)
    (ha : starEach [a, b] X.env = (false, eval a X.env) :: starEach [b] X.env := by rfl) (hb : starEach [b] X.env = (false, eval b X.env) :: starEach [] X.env := by rfl) (hpl : (backTo pos (starEach [b] X.env)).any (·.1) = false := by rfl) : WE X ρ M (.Call (.Name "isinstance" p) [a, b] [] pos) Φ :=
  we_callB call_isi hm (by decide +kernel) (wa_cons (h.imp fun x M1 h => wa_cons (h.imp fun y M2 h => wa_nil fun Z vs H Q w rr k => by
    obtain ⟨v, u, rfl, r1, r2⟩ := rr.two
    obtain ⟨t, cu, c, h1, h2, own, h3, h⟩ := h
    refine ⟨v, u, t, cu, c, rfl, ?_, h1.rep r1 own, h3, k.now w (.bl _) h⟩
    cases r2 with
    | ty n => cases h2; exact .ty n
    | fn C => cases h2; exact .own C
    | _ => cases h2) hb) ha) hg (he := ha) (hpl := hpl)
theorem we_m1 {id : String} {name : Str} {r : V → List V → Hp → VK → Prop} (slot : Slot "str" name id) (ty : typeOf (.builtin id) = pure (.type "method_descriptor")) (rule : MtR X id r)
    (h : WE X ρ M o fun d M1 => ∃ z, d = .str z ∧ WE X ρ M1 e fun y M2 => ∀ Z H Q u, Wd X.K M2 Z H → Rep X.K M2 Z H u y → KE X.K M2 Z H Φ Q → r (.str z) [u] H Q)
    (hs : starEach [e] X.env = [(false, eval e X.env)] := by rfl) (hbase : attributeBase o name X.env (eval o X.env) = eval o X.env := by rfl) (hline : (apos.endLine == pos.line) = true := by rfl) : WE X ρ M (.Call (.Attribute o name apos) [e] [] pos) Φ := .mk fun σ H Q en w k =>
  eOf (pe_m1 slot ty rule pe_sem pe_sem hs hbase hline) (h.run σ H _ en w fun v d H1 M1 e1 w1 r1 hz => by
    obtain ⟨z, rfl, hz⟩ := hz
    cases r1
    exact ⟨⟨z, rfl⟩, hz.run σ H1 _ (en.mono e1) w1 fun u y H2 M2 e2 w2 r2 hy => hy _ H2 Q u w2 r2 (k.step (e1.trans e2))⟩)
theorem we_startswith (h : WE X ρ M o fun d M1 => ∃ z, d = .str z ∧ WE X ρ M1 e fun y M2 => ∃ s, y = .str s ∧ Φ (.bl (Txt.startswith z s)) M2) (hs : starEach [e] X.env = [(false, eval e X.env)] := by rfl) (hbase : attributeBase o "startswith" X.env (eval o X.env) = eval o X.env := by rfl) (hline : (apos.endLine == pos.line) = true := by rfl) : WE X ρ M (.Call (.Attribute o "startswith" apos) [e] [] pos) Φ :=
  we_m1 F.slot_str_startswith F.type_str_startswith mt_startswith (h.imp fun d M1 ⟨z, e1, h⟩ => ⟨z, e1, h.imp fun y M2 ⟨s, e2, h⟩ Z H Q u w r k => by subst e2; cases r; exact ⟨z, s, rfl, rfl, k.now w (.bl _) h⟩⟩) hs hbase hline
theorem we_endswith (h : WE X ρ M o fun d M1 => ∃ z, d = .str z ∧ WE X ρ M1 e fun y M2 => ∃ s, y = .str s ∧ Φ (.bl (Txt.endswith z s)) M2) (hs : starEach [e] X.env = [(false, eval e X.env)] := by rfl) (hbase : attributeBase o "endswith" X.env (eval o X.env) = eval o X.env := by rfl) (hline : (apos.endLine == pos.line) = true := by rfl) : WE X ρ M (.Call (.Attribute o "endswith" apos) [e] [] pos) Φ :=
  we_m1 F.slot_str_endswith F.type_str_endswith mt_endswith (h.imp fun d M1 ⟨z, e1, h⟩ => ⟨z, e1, h.imp fun y M2 ⟨s, e2, h⟩ Z H Q u w r k => by subst e2; cases r; exact ⟨z, s, rfl, rfl, k.now w (.bl _) h⟩⟩) hs hbase hline
theorem we_partition (h : WE X ρ M o fun d M1 => ∃ z, d = .str z ∧ WE X ρ M1 e fun y M2 => ∃ s, y = .str s ∧ (s.length == 0) = false ∧ z.length ≤ sizeLine ∧ Φ (.tup [.str (Txt.partition z s).1, .str (Txt.partition z s).2.1, .str (Txt.partition z s).2.2]) M2) (hs : starEach [e] X.env = [(false, eval e X.env)] := by rfl) (hbase : attributeBase o "partition" X.env (eval o X.env) = eval o X.env := by rfl) (hline : (apos.endLine == pos.line) = true := by rfl) : WE X ρ M (.Call (.Attribute o "partition" apos) [e] [] pos) Φ :=
  we_m1 F.slot_str_partition F.type_str_partition mt_partition (h.imp fun d M1 ⟨z, e1, h⟩ => ⟨z, e1, h.imp fun y M2 ⟨s, e2, h1, h2, h⟩ Z H Q u w r k => by
    subst e2
    cases r
    exact ⟨z, s, rfl, rfl, h1, h2, fun q hq => k.new w hq (.tup (.inl upd_same) (w.fresh hq) (.cons (.str _) (.cons (.str _) (.cons (.str _) .nil)))) h⟩⟩) hs hbase hline
theorem we_join (h : WE X ρ M o fun d M1 => ∃ z, d = .str z ∧ WE X ρ M1 e fun y M2 => ∃ ys : List Str, (LstOf M2 y (ys.map D.str) ∨ y = .tup (ys.map D.str)) ∧ (ys.map (·.length)).sum + ys.length * z.length ≤ 16777216 ∧ Φ (.str (Txt.join z ys)) M2) (hs : starEach [e] X.env = [(false, eval e X.env)] := by rfl) (hbase : attributeBase o "join" X.env (eval o X.env) = eval o X.env := by rfl) (hline : (apos.endLine == pos.line) = true := by rfl) : WE X ρ M (.Call (.Attribute o "join" apos) [e] [] pos) Φ :=
  we_m1 F.slot_str_join F.type_str_join mt_join (h.imp fun d M1 ⟨z, e1, h⟩ => ⟨z, e1, h.imp fun y M2 ⟨ys, e2, h1, h⟩ Z H Q u w r k => by
    rcases e2 with e2 | rfl
    · obtain ⟨q, vs, rfl, hq, rs⟩ := r.asLst w e2
      rw [rs.strs] at hq
      exact ⟨z, q, ys, rfl, rfl, .inl hq, h1, k.now w (.str _) h⟩
    · obtain ⟨q, vs, rfl, hq, rs⟩ := r.asTup
      rw [rs.strs] at hq
      exact ⟨z, q, ys, rfl, rfl, .inr hq, h1, k.now w (.str _) h⟩⟩) hs hbase hline
/-- the parts' texts, one behind another -/
def WJ (X : Cx) (ρ : Rho) : List Expr → Mp → Str → (Str → Mp → Prop) → Prop
  | [], M, acc, Ω => Ω acc M
  | e :: es, M, acc, Ω => WE X ρ M e fun d M1 => ∃ y : Str, d = .str y ∧ (acc ++ y).length ≤ sizeLine ∧ WJ X ρ es M1 (acc ++ y) Ω
theorem pj_sem : ∀ es : List Expr, PJ X es (es.map (eSem X))
  | [] => .nil
  | e :: es => .cons pe_sem (pj_sem es)
theorem wj_run {Z : Zn} {σ : L2.St} : ∀ (es : List Expr) {M : Mp} {H : Hp} {acc : Str} {Ω : Str → Mp → Prop} {Q : Str → Hp → Prop}, WJ X ρ es M acc Ω → EnvR X.K M Z H σ ρ → Wd X.K M Z H → (∀ y H' M', Ext M Z H M' H' → Wd X.K M' Z H' → Ω y M' → Q y H') → tJs (es.map (eSem X)) acc σ H Q
  | [], M, H, acc, Ω, Q, h, en, w, k => k acc H M Ext.refl w h
  | e :: es, M, H, acc, Ω, Q, h, en, w, k => (show WE X ρ M e (fun d M1 => ∃ y : Str, d = .str y ∧ (acc ++ y).length ≤ sizeLine ∧ WJ X ρ es M1 (acc ++ y) Ω) from h).run σ H _ en w fun v d H1 M1 e1 w1 r1 hz => by
    obtain ⟨y, rfl, hl, hz⟩ := hz
    cases r1
    exact ⟨y, rfl, hl, wj_run es hz (en.mono e1) w1 fun y H' M' x w' z => k y H' M' (e1.trans x) w' z⟩
theorem we_fstr {v1 v2 : Expr} {rest : List Expr} (h : WJ X ρ (v1 :: v2 :: rest) M Str.empty fun y M1 => Φ (.str y) M1) : WE X ρ M (.JoinedStr (v1 :: v2 :: rest) pos) Φ := .mk fun σ H Q en w k =>
  eOf (pe_joined (pj_sem _)) (wj_run _ h en w fun y H' M' x w' z => (k.step x).now w' (.str y) z)
theorem we_fmt (h : WE X ρ M e fun d M1 => (∃ y : Str, d = .str y ∧ y.length ≤ sizeLine ∧ Φ (.str y) M1) ∨ ∃ i : Int, d = .int i ∧ i.natAbs.log2 < 1920 ∧ Φ (.str (toString i)) M1) : WE X ρ M (.FormattedValue e (-1) none pos) Φ := .mk fun σ H Q en w k =>
  eOf (pe_fmt pe_sem) (h.run σ H _ en w fun v d H1 M1 e1 w1 r1 hz => by
    rcases hz with ⟨y, rfl, hl, hz⟩ | ⟨i, rfl, hl, hz⟩
    · cases r1; exact .inl ⟨y, rfl, hl, (k.step e1).now w1 (.str y) hz⟩
    · cases r1; exact .inr ⟨i, rfl, hl, (k.step e1).now w1 (.str _) hz⟩)
theorem we_append (h : WE X ρ M o fun d M1 => ∃ q ds0, d = .ob q ∧ M1 q = some (.lst ds0) ∧ WE X ρ M1 e fun y M2 => ∃ ds, M2 q = some (.lst ds) ∧ ds.length < sizeLine ∧ Φ .non (mset M2 q (.lst (ds ++ [y]))))
    (hbase : attributeBase o "append" X.env (eval o X.env) = eval o X.env := by rfl)
    (hfew : ((backTo pos (starEach (e :: []) X.env)).all (fun x => !x.1) && (backToKw pos (keywordEach [] X.env)).all (fun x => x.1.isSome)
      && decide ((e :: []).length + ([] : List Keyword).length + (if ([] : List Keyword).isEmpty then 0 else 1) < 30)) = true := by rfl)
    (hline : (apos.endLine == pos.line) = true := by rfl) (hs : starEach (e :: []) X.env = (false, eval e X.env) :: starEach [] X.env := by rfl) (hplain : (backTo pos (starEach [] X.env)).any (·.1) = false := by rfl) : WE X ρ M (.Call (.Attribute o "append" apos) [e] [] pos) Φ := .mk fun σ H Q en w k =>
  eOf (pe_bm PySem.F.plainAttrs_list PySem.F.slot_list_append PySem.F.type_list_append mt_append pe_sem (pa_cons pe_sem pa_nil hs) hbase hfew hline hs hplain) (h.run σ H _ en w fun v d H1 M1 e1 w1 r1 hz => by
    obtain ⟨q, ds0, rfl, hM, hz⟩ := hz
    cases r1
    obtain ⟨vs0, h0, _⟩ := w1.1 q _ hM
    refine ⟨.inl ⟨rfl, _, .inl (.inl h0)⟩, hz.run σ H1 _ (en.mono e1) w1 fun u y H2 M2 e2 w2 r2 hy => ?_⟩
    obtain ⟨ds, hM2, hl, hy⟩ := hy
    obtain ⟨vs, hv, rs⟩ := w2.1 q _ hM2
    refine ⟨q, vs, u, rfl, rfl, hv, by rw [rs.length]; exact hl, ?_⟩
    have x3 : Ext M2 _ H2 (mset M2 q (.lst (ds ++ [y]))) (upd H2 q (.lst (vs ++ [u]))) := Ext.put w2 hM2
    exact k _ .non _ _ ((e1.trans e2).trans x3) (w2.put hM2 ⟨_, upd_same, (rs.append (.cons r2 .nil)).mono x3⟩) .non hy)
theorem we_extend (h : WE X ρ M o fun d M1 => ∃ q ds0, d = .ob q ∧ M1 q = some (.lst ds0) ∧ WE X ρ M1 e fun y M2 => ∃ ds ys, M2 q = some (.lst ds) ∧ y = .lst ys ∧ ds.length + ys.length ≤ sizeLine ∧ Φ .non (mset M2 q (.lst (ds ++ ys))))
    (hbase : attributeBase o "extend" X.env (eval o X.env) = eval o X.env := by rfl)
    (hfew : ((backTo pos (starEach (e :: []) X.env)).all (fun x => !x.1) && (backToKw pos (keywordEach [] X.env)).all (fun x => x.1.isSome)
      && decide ((e :: []).length + ([] : List Keyword).length + (if ([] : List Keyword).isEmpty then 0 else 1) < 30)) = true := by rfl)
    (hline : (apos.endLine == pos.line) = true := by rfl) (hs : starEach (e :: []) X.env = (false, eval e X.env) :: starEach [] X.env := by rfl) (hplain : (backTo pos (starEach [] X.env)).any (·.1) = false := by rfl) : WE X ρ M (.Call (.Attribute o "extend" apos) [e] [] pos) Φ := .mk fun σ H Q en w k =>
  eOf (pe_bm PySem.F.plainAttrs_list PySem.F.slot_list_extend PySem.F.type_list_extend mt_extend pe_sem (pa_cons pe_sem pa_nil hs) hbase hfew hline hs hplain) (h.run σ H _ en w fun v d H1 M1 e1 w1 r1 hz => by
    obtain ⟨q, ds0, rfl, hM, hz⟩ := hz
    cases r1
    obtain ⟨vs0, h0, _⟩ := w1.1 q _ hM
    refine ⟨.inl ⟨rfl, _, .inl (.inl h0)⟩, hz.run σ H1 _ (en.mono e1) w1 fun u y H2 M2 e2 w2 r2 hy => ?_⟩
    obtain ⟨ds, ys, hM2, rfl, hl, hy⟩ := hy
    obtain ⟨vs, hv, rs⟩ := w2.1 q _ hM2
    cases r2 with
    | @lst _ us _ h2 m2 r2 =>
      refine ⟨q, _, vs, us, rfl, rfl, hv, h2, by rw [rs.length, r2.length]; exact hl, ?_⟩
      have x3 : Ext M2 _ H2 (mset M2 q (.lst (ds ++ ys))) (upd H2 q (.lst (vs ++ us))) := Ext.put w2 hM2
      exact k _ .non _ _ ((e1.trans e2).trans x3) (w2.put hM2 ⟨_, upd_same, (rs.append r2).mono x3⟩) .non hy)
/-- xs[i] = e -/
theorem wg_sub {i : Expr} {d : D} {Ω : Rho → Mp → Prop} (h : WE X ρ M o fun x M1 => WE X ρ M1 i fun y M2 => ∃ q ds n j, x = .ob q ∧ y = .int n ∧ M2 q = some (.lst ds) ∧ ixN ds.length n = some j ∧ Ω ρ (mset M2 q (.lst (ds.set j d))))
    (ha : ∀ v, assign (.Subscript o i pos) X.env v = (do
      let ov ← holding [v] (eval o X.env)
      let iv ← holding [v, ov] (eval i X.env)
      standAt pos
      holding [v, ov, iv] (setItem ov iv v)
      release [v, ov, iv] []) := by intro _; rfl) : WG X (.Subscript o i pos) d ρ M Ω := .mk fun {Z} σ H v Q en w r k =>
  gOf (pg_sub pe_sem pe_sem set_list ha) (bind2 h en w fun v1 v2 x y H2 M2 e2 w2 r1 r2 hz => by
    obtain ⟨q, ds, n, j, rfl, rfl, hM, hj, hz⟩ := hz
    cases r1; cases r2
    obtain ⟨vs, hv, rs⟩ := w2.1 q _ hM
    refine ⟨q, vs, n, j, rfl, rfl, hv, by rw [rs.length]; exact hj, ?_⟩
    have x3 : Ext M2 _ H2 (mset M2 q (.lst (ds.set j d))) (upd H2 q (.lst (vs.set j v))) := Ext.put w2 hM
    exact k σ ρ _ _ (e2.trans x3) (w2.put hM ⟨_, upd_same, (Reps.set (r.mono e2) j rs).mono x3⟩) (en.mono (e2.trans x3)) hz)
/-- [*xs, ..] -/
theorem wa_star {sp : Pos} {ΦA : List D → Mp → Prop} (h : WE X ρ M e fun d M1 => ∃ xs, (LstOf M1 d xs ∨ d = .tup xs) ∧ WA X ρ M1 es fun ds M2 => ∀ ys, ys = xs ++ ds → ΦA ys M2) (hs : starEach (.Starred e sp :: es) X.env = (true, eval e X.env) :: starEach es X.env := by rfl) : WA X ρ M (.Starred e sp :: es) ΦA := .mk fun σ H Q en w k =>
  aOf (StX.pa_star pe_sem pa_sem hs) (h.run σ H _ en w fun v d H1 M1 e1 w1 r1 hz => by
    obtain ⟨xs, hl, hz⟩ := hz
    obtain ⟨q, vs, rfl, hq, rs⟩ : ∃ q vs, v = .ref q ∧ (SqT X.K H1 q vs ∨ SqL X.K H1 q vs) ∧ Reps X.K M1 _ H1 vs xs := by
      rcases hl with hl | rfl
      · obtain ⟨q, vs, e, hq, rs⟩ := r1.asLst w1 hl; exact ⟨q, vs, e, .inr hq, rs⟩
      · obtain ⟨q, vs, e, hq, rs⟩ := r1.asTup; exact ⟨q, vs, e, .inl hq, rs⟩
    exact ⟨q, vs, rfl, hq, hz.run σ H1 _ (en.mono e1) w1 fun us ds H2 M2 e2 w2 r2 hy => k (vs ++ us) (xs ++ ds) H2 M2 (e1.trans e2) w2 ((rs.mono e2).append r2) (hy _ rfl)⟩)
end
end DL
namespace DL
open PySem PySem.Spec PyProof.Rows L2
/-- the signs of a text, each with its number in a new pair -/
def Ites (x : Str) : It := ⟨fun i _ => i < x.cps.size, fun i H v H' => ∃ T c, v = .ref T ∧ H T = none ∧ H' = upd H T (.tup [.int (i : Nat), .str ⟨#[c]⟩]) ∧ x.cps[i]? = some c, fun i _ => i = x.cps.size⟩
theorem draws_txt {prog : Program} {w : World} {A : Around} (hh : A.handled = none) (it : Addr) (x : Str) (t : Tok) :
    Draws prog w A it [it] x.cps.size (fun i v => ∃ c u, x.cps[i]? = some c ∧ v = .str ⟨#[c]⟩ u) (fun i h => h.IsStrIter it (strIterType x) x t i) := by
  unfold strIterType
  cases x.cps.all (· < 128)
  · exact Draws.strWide hh it x t
  · exact Draws.strAscii hh it x t
theorem turn_enumS {P : Program} {w : World} {K : PySem.W.Frag} {elts : List Expr} {kk : Nat} {tpos : Pos} (x : Str) (t : Tok) (e it : Addr) :
    Turn P w K (.Tuple elts kk tpos) (Ites x) [e, it] e (fun i h => (∃ old, IsEnum h e it i old) ∧ h.IsStrIter it (strIterType x) x t i ∧ e ≠ it) where
  mem := by simp
  obj := fun i h st b hb => by
    obtain ⟨⟨old, he⟩, ⟨o, e1, c, d⟩, hne⟩ := st
    have e' : b = e ∨ b = it := by simpa using hb
    rcases e' with z | z
    · rw [z]; exact ⟨_, he, fun v z => nomatch z⟩
    · rw [z]; exact ⟨o, e1, fun v z => by rw [d] at z; cases z⟩
  keep := fun i h h' st k => by
    obtain ⟨⟨old, he⟩, ⟨o, e1, c, d⟩, hne⟩ := st
    exact ⟨⟨old, k e (by simp) _ he⟩, ⟨o, k it (by simp) _ e1, c, d⟩, hne⟩
  item := by
    intro X hP hw hK hc i pins s σ H E I hf st hg
    subst hP hw hK
    obtain ⟨⟨old, he⟩, hit, hne⟩ := st
    have hel : e < s.heap.objs.size := Heap.lt_size he
    have hil : it < s.heap.objs.size := by obtain ⟨_, q, _⟩ := hit; exact Heap.lt_size q
    refine wpAny_pyNext_enum_itemD (draws_txt (A := X.A.in1) (I.ok.hd hc) it x t) he hit hg hne (by simpa using hne) fun u h' tk hP ho hit' hT hsz hk => ?_
    obtain ⟨c, tk2, hcx, rfl⟩ := hP
    refine ⟨_, rfl, wpAny_letOwnedTupleGo_enum (s := { s with heap := h', toks := tk + 1 }) ho fun h'' he' sb => ?_⟩
    have hT2 : h''.get? s.heap.objs.size = some { cls := .type "tuple", data := .seq #[.int i tk, .str ⟨#[c]⟩ tk2] } := (sb.2 _ (Nat.ne_of_gt hel)).trans hT
    have new : ObjOk X.prog X.w (upd H s.heap.objs.size (.tup [.int (i : Nat), .str ⟨#[c]⟩])) h'' s.heap.objs.size (.tup [.int (i : Nat), .str ⟨#[c]⟩]) :=
      ⟨by show 2 ≤ sizeLine; decide, [.int i tk, .str ⟨#[c]⟩ tk2], .cons ⟨_, rfl⟩ (.cons ⟨_, rfl⟩ .nil), ⟨_, hT2, rfl, _, rfl⟩⟩
    have I1 : Inv X pins σ (upd H s.heap.objs.size (.tup [.int (i : Nat), .str ⟨#[c]⟩])) { s with heap := h'', toks := tk + 1 } :=
      I.turnedNew (ch := [e, it]) (fun b ob hb q => (sb.2 b (fun z => hb (by simp [z]))).trans (hk b ob (fun z => hb (by simp [z])) (fun z => hb (by simp [z])) q)) hf (Nat.le_refl _) new
    refine ⟨.ref s.heap.objs.size, _, I1, rfl, ⟨_, c, rfl, I.hok.fresh (Nat.le_refl _), rfl, hcx⟩, ⟨⟨.str ⟨#[c]⟩ tk2, ?_⟩, ?_, hne⟩, fun b hb => ?_⟩
    · have e1 : ((i + 1 : Nat) : Int) = (i : Int) + 1 := by omega
      rw [e1]; exact he'
    · obtain ⟨o, q1, q2⟩ := hit'
      exact ⟨o, (sb.2 it (Ne.symm hne)).trans q1, q2⟩
    · have hb' : b < s.heap.objs.size := by
        have e' : b = e ∨ b = it := by simpa using hb
        rcases e' with z | z
        · rw [z]; exact hel
        · rw [z]; exact hil
      rw [upd_ne (Nat.ne_of_lt hb')]
      exact (hf b hb).1
  done := by
    intro X hP hw hK hc i pins s σ H E I hf st hg
    subst hP hw hK
    obtain ⟨⟨old, he⟩, hit, hne⟩ := st
    obtain ⟨f0, f1, f2, f3, f4, f5⟩ := hf it (by simp)
    have hi : i = x.cps.size := hg
    subst hi
    exact wpAny_pyNext_enum_endD (draws_txt (A := X.A.in1) (I.ok.hd hc) it x t) he hit fun h' eb => ⟨rfl, I.turned (t' := s.toks) (fun b o hb q => eb b o hb q) f0 f1 f3 f4 f5⟩
  self := fun A i s Q E st h => let ⟨⟨_, he⟩, _⟩ := st; wpAny_pyIter_enum he h
def iEnumS (ta : TA) : TI := fun σ H R => ta σ H fun vs H1 => ∃ x, vs = [.str x] ∧ R (Ites x) H1
theorem pi_enumS {X : Cx} {e : Expr} {ta : TA} {p pos tpos : Pos} {elts : List Expr} {kk : Nat} (hg : Gl X "enumerate") (hm : X.mg "enumerate" = none) (ha : PA X [e] ta) (hs : starEach [e] X.env = [(false, eval e X.env)] := by rfl) :
    PI X (.Tuple elts kk tpos) (.Call (.Name "enumerate" p) [e] [] pos) (iEnumS ta) := by
  refine ⟨fun pins s σ H R I h => ?_⟩
  refine Call_ (ld_blt I hg hm boot_enumerate (PyProof.Rows.callWith_type1 (thn (ha.run pos pins s σ H _ I h) fun us s1 ⟨vs, H1, I1, r1, q1⟩ => ?_) hs rfl))
  obtain ⟨x, ex, q⟩ := q1
  subst ex
  cases r1 with
  | cons r rr =>
    cases rr
    obtain ⟨t, rfl⟩ := r
    refine call_enumerate_str fun h' he hit hsz hk => wpAny_pyIter_enum he ?_
    have I2 : Inv X pins σ H1 { s1 with heap := h' } := I1.kept (t' := s1.toks) hk
    refine ⟨s1.heap.objs.size + 1, [s1.heap.objs.size + 1, s1.heap.objs.size], _, _, H1, rfl, I2, turn_enumS x t (s1.heap.objs.size + 1) s1.heap.objs.size, ⟨⟨.none, he⟩, hit, Nat.succ_ne_self _⟩, fun b hb => ?_, q⟩
    have e' : b = s1.heap.objs.size + 1 ∨ b = s1.heap.objs.size := by simpa using hb
    have hle : s1.heap.objs.size ≤ b := by
      rcases e' with z | z
      · rw [z]; exact Nat.le_add_right _ _
      · rw [z]; exact Nat.le_refl _
    exact I1.fpOk hle (I1.hok.fresh hle)
section
variable {X : Cx} {ρ : Rho} {M : Mp} {tg a b e : Expr} {pos p : Pos} {Φ : List D → Mp → Prop}
/-- the signs of a text -/
def signs (x : Str) : List D := x.cps.toList.map fun c => .str ⟨#[c]⟩
/-- .. each with its number -/
def enumS (x : Str) : List D := (List.range x.cps.size).map fun (i : Nat) => .tup [.int (i : Nat), .str ⟨#[x.cps.getD i 0]⟩]
theorem sq_str {K : PySem.W.Frag} {M1 : Mp} {Z1 : Zn} {H1 : Hp} (x : Str) : Sq K M1 Z1 H1 (Its x) (signs x) := fun i M Z H e w => by
  refine ⟨fun hi => ?_, fun d hd => ?_⟩
  · show x.cps.size ≤ i
    rw [hi]; simp [signs]
  · unfold signs at hd
    rw [List.getElem?_map] at hd
    obtain ⟨c, hc, rfl⟩ := Option.map_eq_some_iff.mp hd
    rw [Array.getElem?_toList] at hc
    refine ⟨(Array.getElem?_eq_some_iff.mp hc).1, fun v H' y => ?_⟩
    obtain ⟨rfl, c', hc', rfl⟩ := y
    rw [hc] at hc'; cases hc'
    exact ⟨Ext.refl, w, .str _⟩
theorem wi_str (h : WE X ρ M e fun d M1 => ∃ x, d = .str x ∧ Φ (signs x) M1) : WI X ρ M tg e Φ := .mk fun σ H R en w k =>
  iOf (pi_str pe_sem) (h.run σ H _ en w fun v d H1 M1 e1 w1 r1 hz => by
    obtain ⟨x, rfl, hz⟩ := hz
    cases r1
    exact ⟨x, rfl, k _ _ H1 M1 e1 w1 (sq_str x) hz⟩)
theorem sq_enumS {K : PySem.W.Frag} {M1 : Mp} {Z1 : Zn} {H1 : Hp} (x : Str) : Sq K M1 Z1 H1 (Ites x) (enumS x) := fun i M Z H e w => by
  refine ⟨fun hi => ?_, fun d hd => ?_⟩
  · show i = x.cps.size
    rw [hi]; simp [enumS]
  · unfold enumS at hd
    rw [List.getElem?_map] at hd
    obtain ⟨j, hj, rfl⟩ := Option.map_eq_some_iff.mp hd
    obtain ⟨hlt, rfl⟩ : i < x.cps.size ∧ i = j := by
      have q : i < (List.range x.cps.size).length := (List.getElem?_eq_some_iff.mp hj).1
      rw [List.length_range] at q
      rw [List.getElem?_range q] at hj
      exact ⟨q, Option.some.inj hj⟩
    refine ⟨hlt, fun v H' y => ?_⟩
    obtain ⟨T, c, rfl, hT, rfl, hc⟩ := y
    have ec : x.cps.getD i 0 = c := by
      rw [Array.getD_eq_getD_getElem?, hc]; rfl
    rw [ec]
    exact ⟨Ext.new w hT, w.new hT, .tup (.inl upd_same) (w.fresh hT) (.cons (.int _) (.cons (.str _) .nil))⟩
theorem wi_enumS {elts : List Expr} {kk : Nat} {tpos : Pos} (hm : X.mg "enumerate" = none) (h : WE X ρ M e fun d M1 => ∃ x, d = .str x ∧ Φ (enumS x) M1) (hg : Gl X "enumerate" := by rfl) (hs : starEach [e] X.env = [(false, eval e X.env)] := by rfl) : WI X ρ M (.Tuple elts kk tpos) (.Call (.Name "enumerate" p) [e] [] pos) Φ := .mk fun σ H R en w k =>
  iOf (pi_enumS hg hm (pa_cons pe_sem pa_nil hs) hs) (h.run σ H _ en w fun v d H1 M1 e1 w1 r1 hz => by
    obtain ⟨x, rfl, hz⟩ := hz
    cases r1
    exact ⟨x, rfl, k _ _ H1 M1 e1 w1 (sq_enumS x) hz⟩)
end
/-- the pairs as values stand -/
def rawOf (es : List DictEntry) (kvs : List (Str × V)) : List (Str × Value) := (kvs.zip es).map fun q => (q.1.1, q.2.val)
theorem pairs_raw {prog : Program} {w : World} : ∀ {kvs : List (Str × V)} {es : List DictEntry}, Paired (fun (p : Str × V) (e : DictEntry) => (∃ t, e.key = .str p.1 t) ∧ RelV p.2 e.val) kvs es →
    Pairs (strKind prog w) es (rawOf es kvs) ∧ (rawOf es kvs).map (·.1) = kvs.map (·.1) ∧ (rawOf es kvs).length = kvs.length ∧ ∀ (i : Nat) (k : Str) (v : V), kvs[i]? = some (k, v) → ∃ u, (rawOf es kvs)[i]? = some (k, u) ∧ RelV v u
  | _, _, .nil => ⟨.nil, rfl, rfl, fun i k v e => by simp at e⟩
  | (k, v) :: kvs, e :: es, .cons ⟨⟨t, hk⟩, hv⟩ r => by
    obtain ⟨h1, h2, h3, h4⟩ := pairs_raw (prog := prog) (w := w) r
    refine ⟨.cons (by rw [hk]; exact strKind_is prog w k t) rfl h1, ?_, ?_, fun i k' v' e' => ?_⟩
    · show k :: (rawOf es kvs).map (·.1) = k :: kvs.map (·.1)
      rw [h2]
    · show (rawOf es kvs).length + 1 = kvs.length + 1
      rw [h3]
    · cases i with
      | zero => simp at e'; obtain ⟨rfl, rfl⟩ := e'; exact ⟨_, rfl, hv⟩
      | succ i => exact h4 i k' v' (by simpa using e')
theorem wrD_at {K : PySem.W.Frag} {w : World} {a : Addr} {kvs : List (Str × V)} (h : WrD K w a kvs) (prog : Program) {hp : Heap} (X : K.In hp) : (a == sysModules) = false ∧ ∃ vs n, hp.DictAt (strKind prog w) a vs n ∧ vs.length = kvs.length ∧ vs.map (·.1) = kvs.map (·.1) ∧ ∀ (i : Nat) (k : Str) (v : V), kvs[i]? = some (k, v) → ∃ u, vs[i]? = some (k, u) ∧ RelV v u := by
  obtain ⟨es, n, hl, hs, hk, pr, nd⟩ := h
  obtain ⟨h1, h2, h3, h4⟩ := pairs_raw (prog := prog) (w := w) pr
  refine ⟨hs, _, n, ⟨_, es, X _ _ hl, ⟨rfl, rfl, rfl⟩, rfl, fun e he => ?_, h1, by rw [h2]; exact nd⟩, h3, h2, h4⟩
  obtain ⟨x, t, e1, e2⟩ := hk.all e (Array.mem_toList_iff.mpr he)
  exact ⟨x, by rw [e1]; exact strKind_is prog w x t, e2⟩
def Itw (kvs : List (Str × V)) : It := ⟨fun i _ => i < kvs.length, fun i H x H' => ∃ T k v, kvs[i]? = some (k, v) ∧ x = .ref T ∧ H T = none ∧ H' = upd H T (.tup [.str k, v]), fun i _ => kvs.length ≤ i⟩
theorem turn_gitems {P : Program} {w : World} {K : PySem.W.Frag} {a : Addr} {kvs : List (Str × V)} {elts : List Expr} {kk : Nat} {tpos : Pos} (hw : WrD K w a kvs) (it : Addr) (ep : Nat) (hep : ∀ es n, K.lookup a = some ⟨.type "dict", none, .dict es n, #[]⟩ → n = ep) :
    Turn P w K (.Tuple elts kk tpos) (Itw kvs) [it] it (fun i h => ∃ ok ov, IsItemIter h it a i kvs.length ep ok ov) where
  mem := by simp
  obj := fun i h st b hb => by
    have e : b = it := by simpa using hb
    subst e
    obtain ⟨ok, ov, e⟩ := st
    exact ⟨_, e, fun v z => nomatch z⟩
  keep := fun i h h' st k => let ⟨ok, ov, e⟩ := st; ⟨ok, ov, k it (by simp) _ e⟩
  item := by
    intro X hP hw' hK hc i pins s σ H E I hf st hg
    subst hP hw' hK
    obtain ⟨es0, n0, hl0, _⟩ := id hw
    have en := hep es0 n0 hl0
    obtain ⟨hs, vs, n, hm, hl, hmm, hv⟩ := wrD_at hw X.prog I.kIn
    have hn : n = ep := by
      obtain ⟨o, es, ho, hx, hd, _⟩ := hm
      rw [I.kIn _ _ hl0] at ho
      cases ho
      injection hd with _ h2
      rw [← h2]; exact en
    subst hn
    obtain ⟨⟨k, v⟩, hkv⟩ : ∃ p, kvs[i]? = some p := ⟨kvs[i], List.getElem?_eq_getElem hg⟩
    obtain ⟨u, hu, ru⟩ := hv i k v hkv
    obtain ⟨ok, ov, he⟩ := st
    rw [← hl] at he
    have hlt : it < s.heap.objs.size := Heap.lt_size he
    refine wpAny_pyNext_items_item he hm hu fun key h' hkey ho hT hz hk => ?_
    refine ⟨_, rfl, wpAny_letOwnedTupleGo_items (s := { s with heap := h' }) ho fun h'' he' sb => ?_⟩
    have hT2 : h''.get? s.heap.objs.size = some { cls := .type "tuple", data := .seq #[key, u] } := (sb.2 _ (Nat.ne_of_gt hlt)).trans hT
    obtain ⟨tk, rfl⟩ : ∃ t, key = .str k t := Value.isStrOf_shape hkey
    have new : ObjOk X.prog X.w (upd H s.heap.objs.size (.tup [.str k, v])) h'' s.heap.objs.size (.tup [.str k, v]) :=
      ⟨by show 2 ≤ sizeLine; decide, [.str k tk, u], .cons ⟨tk, rfl⟩ (.cons ru .nil), ⟨_, hT2, rfl, _, rfl⟩⟩
    have I1 : Inv X pins σ (upd H s.heap.objs.size (.tup [.str k, v])) { s with heap := h'' } :=
      I.turnedNew (t' := s.toks) (ch := [it]) (fun b ob hb e => (sb.2 b (by simpa using hb)).trans (hk b ob (by simpa using hb) e)) hf (Nat.le_refl _) new
    refine ⟨.ref s.heap.objs.size, _, I1, rfl, ⟨_, k, v, hkv, rfl, I.hok.fresh (Nat.le_refl _), rfl⟩, ⟨.str k tk, u, ?_⟩, fun b hb => ?_⟩
    · rw [← hl]; exact he'
    · have e : b = it := by simpa using hb
      rw [e, upd_ne (Nat.ne_of_lt hlt)]
      exact (hf it (by simp)).1
  done := by
    intro X hP hw' hK hc i pins s σ H E I hf st hg
    subst hP hw' hK
    obtain ⟨es0, n0, hl0, _⟩ := id hw
    have en := hep es0 n0 hl0
    obtain ⟨hs, vs, n, hm, hl, hmm, hv⟩ := wrD_at hw X.prog I.kIn
    have hn : n = ep := by
      obtain ⟨o, es, ho, hx, hd, _⟩ := hm
      rw [I.kIn _ _ hl0] at ho
      cases ho
      injection hd with _ h2
      rw [← h2]; exact en
    subst hn
    obtain ⟨f0, f1, f2, f3, f4, f5⟩ := hf it (by simp)
    obtain ⟨ok, ov, he⟩ := st
    rw [← hl] at he
    exact wpAny_pyNext_items_end (I.ok.hd hc) he hm (List.getElem?_eq_none (by rw [hl]; exact hg)) fun h' eb => ⟨rfl, I.turned (t' := s.toks) (fun b ob hb e => eb b ob hb e) f0 f1 f3 f4 f5⟩
  self := fun A i s Q E st h => let ⟨_, _, e⟩ := st; PySem.W.kcp_self e h
section
variable {X : Cx} {ρ : Rho} {M : Mp} {a : Addr} {e f : Expr} {pos p apos : Pos} {x : Str} {kvs : List (Str × V)}
def iGItems (kvs : List (Str × V)) : TI := fun σ H R => R (Itw kvs) H
theorem pi_gitems {elts : List Expr} {kk : Nat} {tpos : Pos} (hm : X.mg x = some (.ref a)) (hw : WrD X.K X.w a kvs) (hg : Gl X x) (hdb : (x == ("__debug__" : Str)) = false) (hbase : attributeBase (.Name x p) "items" X.env (eval (.Name x p) X.env) = eval (.Name x p) X.env) (hline : (apos.endLine == pos.line) = true) :
    PI X (.Tuple elts kk tpos) (.Call (.Attribute (.Name x p) "items" apos) [] [] pos) (iGItems kvs) := by
  refine ⟨fun pins s σ H R I h => ?_⟩
  refine wpAny_Call_method (T := "dict") (id := "dict.items") hbase rfl hline F.plainAttrs_dict F.slot_dict_items F.type_dict_items (ld_glob I hg hm ?_ hdb)
  obtain ⟨es0, n0, hl0, _⟩ := id hw
  obtain ⟨hs, vs, n, hd, hl, hmm, hv⟩ := wrD_at hw X.prog I.kIn
  refine ⟨hd.dictOf.typeIs, hd.dictOf.mapOf.noDict, ?_⟩
  have I2 : Inv X pins σ H { s with heap := s.heap.push { cls := .type "dict_items", data := .fields #[.ref a] } } := I.kept (t' := s.toks) fun b ob q => Heap.get?_push_of_some _ q
  have hn : n = n0 := by
    obtain ⟨o, es, ho, hx, hd', _⟩ := hd
    rw [I.kIn _ _ hl0] at ho
    cases ho
    injection hd' with _ h2
    exact h2.symm
  have fin : wpAny (model X.prog X.w) X.A (pyIter (.ref s.heap.objs.size)) (PIE X pins σ (.Tuple elts kk tpos) R) X.xe { s with heap := s.heap.push { cls := .type "dict_items", data := .fields #[.ref a] } } := by
    refine wpAny_pyIter_items (d := a) (knd := strKind X.prog X.w) ⟨_, Heap.get?_push_size _ rfl, rfl, rfl⟩ (hd.push _) (pi_one (tk := s.toks) I2 _ (turn_gitems hw _ n fun es m hm' => by rw [hl0] at hm'; cases hm'; exact hn.symm) ⟨.none, .none, ?_⟩ h)
    rw [← hl]
    exact Heap.get?_push_size _ rfl
  show wpAny _ _ (callWith pos (.builtin "dict.items") [.ref a] [] []) _ X.xe s
  exact method_meetsIn F.slot_dict_items F.entry_dict_items rfl (PySem.evalArgs_none ⟨rfl, hd.dictOf.typeIs, F.args_dict_items_1 _, _, meets_dict_items (strKind X.prog X.w) a hs, ⟨vs, hd.dictOf⟩, fin⟩)
/-- the data of a written dict's pairs -/
def gitems (ds : List (Str × D)) : List D := ds.map fun q => .tup [.str q.1, q.2]
theorem wi_gitems {elts : List Expr} {kk : Nat} {tpos : Pos} {ds : List (Str × D)} {Φ : List D → Mp → Prop} (hm : X.mg x = some (.ref a)) (hw : WrD X.K X.w a kvs) (hr : ∀ M Z H, RepF X.K M Z H kvs ds) (h : Φ (gitems ds) M) (hg : Gl X x := by rfl) (hdb : (x == ("__debug__" : Str)) = false := by decide)
    (hbase : attributeBase (.Name x p) "items" X.env (eval (.Name x p) X.env) = eval (.Name x p) X.env := by rfl) (hline : (apos.endLine == pos.line) = true := by rfl) : WI X ρ M (.Tuple elts kk tpos) (.Call (.Attribute (.Name x p) "items" apos) [] [] pos) Φ := .mk fun σ H R en w k =>
  iOf (pi_gitems hm hw hg hdb hbase hline) (k _ _ H M Ext.refl w (fun i M' Z' H' e w' => by
    have rf := hr M' Z' H'
    refine ⟨fun hi => ?_, fun d hd => ?_⟩
    · show kvs.length ≤ i
      rw [hi, rf.length]; simp [gitems]
    · unfold gitems at hd
      rw [List.getElem?_map] at hd
      obtain ⟨⟨k, y⟩, hq, rfl⟩ := Option.map_eq_some_iff.mp hd
      obtain ⟨v, hv, rv⟩ := rf.get hq
      refine ⟨(List.getElem?_eq_some_iff.mp hv).1, fun z H2 yl => ?_⟩
      obtain ⟨T, k', v', hkv, rfl, hT, rfl⟩ := yl
      rw [hv] at hkv; cases hkv
      have x3 : Ext M' Z' H' M' (upd H' T (.tup [.str k, v])) := Ext.new w' hT
      exact ⟨x3, w'.new hT, .tup (.inl upd_same) (w'.fresh hT) (.cons (.str _) (.cons (rv.mono x3) .nil))⟩) h)
/-- a written dict's value by a key -/
theorem raw_val (k : Str) : ∀ {kvs : List (Str × V)} {es : List DictEntry}, Paired (fun (p : Str × V) (e : DictEntry) => (∃ t, e.key = .str p.1 t) ∧ RelV p.2 e.val) kvs es →
    (∀ v, kvs.lookup k = some v → ∃ u, valueAt (rawOf es kvs) k = some u ∧ RelV v u) ∧ (kvs.lookup k = none → valueAt (rawOf es kvs) k = none)
  | _, _, .nil => by
    refine ⟨fun v e => ?_, fun _ => rfl⟩
    cases e
  | (k0, v0) :: kvs, e :: es, .cons ⟨_, hv⟩ r => by
    have ih := raw_val k r
    have e1 : rawOf (e :: es) ((k0, v0) :: kvs) = (k0, e.val) :: rawOf es kvs := rfl
    rw [e1, List.lookup_cons]
    unfold valueAt
    rw [List.find?_cons]
    by_cases h : k = k0
    · subst h
      refine ⟨fun v q => ?_, fun q => ?_⟩
      · simp only [beq_self_eq_true] at q
        cases q
        exact ⟨e.val, by simp, hv⟩
      · simp at q
    · have h1 : (k == k0) = false := by simpa using h
      have h2 : decide (k0 = k) = false := decide_eq_false fun z => h z.symm
      rw [h1, h2]
      exact ih
theorem wrD_val {K : PySem.W.Frag} {w : World} {a : Addr} {kvs : List (Str × V)} (h : WrD K w a kvs) (prog : Program) {hp : Heap} (X : K.In hp) (k : Str) : (a == sysModules) = false ∧ ∃ vs : List (Str × Value), hp.DictOf (strKind prog w) a vs ∧ (∀ v, kvs.lookup k = some v → ∃ u, valueAt vs k = some u ∧ RelV v u) ∧ (kvs.lookup k = none → valueAt vs k = none) := by
  obtain ⟨es, n, hl, hs, hk, pr, nd⟩ := h
  obtain ⟨h1, h2, h3, h4⟩ := pairs_raw (prog := prog) (w := w) pr
  refine ⟨hs, rawOf es.toList kvs, ⟨_, es, n, X _ _ hl, ⟨rfl, rfl, rfl⟩, rfl, fun e he => ?_, h1, by rw [h2]; exact nd⟩, raw_val k pr⟩
  obtain ⟨x, t, e1, e2⟩ := hk.all e (Array.mem_toList_iff.mpr he)
  exact ⟨x, by rw [e1]; exact strKind_is prog w x t, e2⟩
/-- x[e], x a written dict -/
theorem we_gix {ds : List (Str × D)} {Φ : D → Mp → Prop} (hm : X.mg x = some (.ref a)) (hw : WrD X.K X.w a kvs) (hr : ∀ M Z H, RepF X.K M Z H kvs ds) (h : WE X ρ M e fun y M1 => ∃ k d, y = .str k ∧ ds.lookup k = some d ∧ Φ d M1) (hg : Gl X x := by rfl) (hdb : (x == ("__debug__" : Str)) = false := by decide) (hs : PlainIx e := by exact fun _ _ => rfl) : WE X ρ M (.Subscript (.Name x p) e pos) Φ := .mk fun σ H Q en w k => by
  have ho : IxR X (fun v u H Q => ∃ z y, v = V.ref a ∧ u = V.str z ∧ kvs.lookup z = some y ∧ Q y H) := by
    intro value slice pins s σ H v u v' u' Q I rv ru q hs'
    obtain ⟨z, y, rfl, rfl, hl, q⟩ := q
    cases rv
    obtain ⟨t, rfl⟩ := ru
    obtain ⟨_, vs, dd, hv, _⟩ := wrD_val hw X.prog I.kIn z
    obtain ⟨u0, hu, ru⟩ := hv y hl
    exact tail_any dd.typeIs slot_dict_getitem.lookup (wpAny_getItem_of (strKind_is X.prog X.w z t) dd.mapOf hu ⟨y, H, I.tok _, ru, q⟩) hs'
  refine eOf (pe_ix ho (pe_glob (v := .ref a) hg hm rfl hdb) pe_sem hs) (h.run σ H _ en w fun v y H1 M1 e1 w1 r1 hz => ?_)
  obtain ⟨z, d, rfl, hl, hz⟩ := hz
  cases r1
  obtain ⟨v, hv, rv⟩ := ((hr M1 _ H1).lookup z).2 d hl
  exact ⟨z, v, rfl, rfl, hv, (k.step e1).now w1 rv hz⟩
/-- x.get(e, f), x a written dict -/
theorem we_gget {ds : List (Str × D)} {Φ : D → Mp → Prop} (hm : X.mg x = some (.ref a)) (hw : WrD X.K X.w a kvs) (hr : ∀ M Z H, RepF X.K M Z H kvs ds) (h : WE X ρ M e fun y M1 => ∃ k, y = .str k ∧ WE X ρ M1 f fun z M2 => Φ ((ds.lookup k).getD z) M2) (hg : Gl X x := by rfl) (hdb : (x == ("__debug__" : Str)) = false := by decide)
    (m : M2 X (.Name x p) "get" apos e f pos := by exact ⟨rfl, rfl, rfl, rfl⟩) : WE X ρ M (.Call (.Attribute (.Name x p) "get" apos) [e, f] [] pos) Φ := .mk fun {Z} σ H Q en w k => by
  intro pins s I
  refine wpAny_Call_method m.base m.few m.line PySem.F.plainAttrs_dict PySem.F.slot_dict_get PySem.F.type_dict_get (ld_glob I hg hm ?_ hdb)
  obtain ⟨_, vs0, dd0, _⟩ := wrD_val hw X.prog I.kIn ""
  refine ⟨dd0.typeIs, dd0.mapOf.noDict, ?_⟩
  rw [m.trees]
  refine Calls.callWith_builtin rfl (Calls.evalArgs_plain (Calls.spliced_cons (thn (h.run σ H (fun v H1 => ∃ z, v = V.str z ∧ eSem X f σ H1 fun u H2 => ∀ v', (∃ y, kvs.lookup z = some y ∧ v' = y) ∨ (kvs.lookup z = none ∧ v' = u) → Q v' H2) en w (fun v y H1 M1 e1 w1 r1 hz => ?_) pins s I) fun iv s2 ⟨y, H2, I2, ry, q2⟩ => ?_)))
  · obtain ⟨z, rfl, hz⟩ := hz
    cases r1
    refine ⟨z, rfl, hz.run σ H1 _ (en.mono e1) w1 fun u d H2 M2 e2 w2 r2 hy v' hv' => ?_⟩
    have rf := (hr M2 Z H2).lookup z
    rcases hv' with ⟨y, hl, rfl⟩ | ⟨hl, rfl⟩
    · cases hd : ds.lookup z with
      | none => rw [rf.1 hd] at hl; cases hl
      | some d' =>
        obtain ⟨v2, hv2, rv2⟩ := rf.2 d' hd
        rw [hl] at hv2; cases hv2
        rw [hd] at hy
        exact (k.step (e1.trans e2)).now w2 rv2 hy
    · cases hd : ds.lookup z with
      | none => rw [hd] at hy; exact (k.step (e1.trans e2)).now w2 r2 hy
      | some d' =>
        obtain ⟨v2, hv2, rv2⟩ := rf.2 d' hd
        rw [hl] at hv2; cases hv2
  · obtain ⟨z, rfl, q2⟩ := q2
    obtain ⟨t, rfl⟩ := ry
    refine Calls.spliced_cons (thn (q2 pins s2 I2) fun fv s3 ⟨u, H3, I3, ru, q3⟩ => Calls.spliced_nil ?_)
    obtain ⟨hd, vs, dd, hv, hv0⟩ := wrD_val hw X.prog I3.kIn z
    refine call_meetsIn PySem.F.slot_dict_get dd.typeIs PySem.F.entry_dict_get (PySem.F.args_dict_get_3 _ _ _) (meets_dict_get_default (strKind X.prog X.w) a (strKind_is X.prog X.w z t) hd fv) ⟨_, dd.mapOf, ?_⟩
    cases hl : kvs.lookup z with
    | none =>
      have e0 := hv0 hl
      exact ⟨u, H3, I3.tok _, by rw [e0]; exact ru, q3 u (.inr ⟨hl, rfl⟩)⟩
    | some y =>
      obtain ⟨u0, hu, ru0⟩ := hv y hl
      exact ⟨y, H3, I3.tok _, by rw [hu]; exact ru0, q3 y (.inl ⟨y, hl, rfl⟩)⟩
end
end DL
namespace DL
open PySem PySem.Spec PyProof.Rows L2
section
variable {X : Cx} {ρ : Rho} {M : Mp} {Φ : D → Mp → Prop} {Θ : Bool → Mp → Prop} {a b e o : Expr} {es : List Expr} {pos p apos : Pos} {x : Str}
theorem we_strS (hm : X.mg "str" = none) (h : WE X ρ M e fun d M1 => ∃ z, d = .str z ∧ Φ (.str z) M1) (hg : Gl X "str" := by rfl)
    (he : starEach [e] X.env = (false, eval e X.env) :: starEach [] X.env := by rfl) (hpl : (backTo pos (starEach [] X.env)).any (·.1) = false := by rfl) : WE X ρ M (.Call (.Name "str" p) [e] [] pos) Φ :=
  we_callTy SkE.call_str_str hm (by decide +kernel) (wa_cons (h.imp fun d M1 h => wa_nil fun Z vs H Q w rr k => by
    obtain ⟨v, rfl, r⟩ := rr.one
    obtain ⟨z, rfl, h⟩ := h
    cases r
    exact ⟨z, rfl, k.now w (.str _) h⟩) he) hg (he := he) (hpl := hpl)
theorem we_disp2 {k1 k2 v1 v2 : Str} {j1 j2 j3 j4 : Nat} {q1 q2 q3 q4 dp : Pos} (hu : X.A.units + 1 < cLine) (hne : k1 ≠ k2) (h : WE X ρ M e fun d M1 => ∃ k v, d = .str k ∧ [(k1, v1), (k2, v2)].lookup k = some v ∧ Φ (.str v) M1) (hs : NoSl e := by exact fun _ _ => rfl) :
    WE X ρ M (.Subscript (.Dict [some (.Constant (.str k1) j1 q1), some (.Constant (.str k2) j2 q2)] [.Constant (.str v1) j3 q3, .Constant (.str v2) j4 q4] dp) e pos) Φ := .mk fun σ H Q en w k => by
  refine eOf (pe_dget hu (pe_disp (pps_cons pe_str pe_str (pps_cons pe_str pe_str pps_nil)) rfl rfl (by simp) (by simp)) pe_sem hs) ?_
  intro t ht
  refine ⟨upd_same, [(.inr k1, .str v1), (.inr k2, .str v2)], rfl, by simp, ?_⟩
  have x1 : Ext M _ H M (upd H t (.dK [])) := Ext.new w ht
  have e2 : upd (upd H t (.dK [])) t (.dK (mergeK [] [(.inr k1, .str v1), (.inr k2, .str v2)])) = upd H t (.dK [(.inr k1, .str v1), (.inr k2, .str v2)]) := by
    have : mergeK [] [((.inr k1 : Key), V.str v1), (.inr k2, .str v2)] = [(.inr k1, .str v1), (.inr k2, .str v2)] := by
      simp [mergeK, putK, hne]
    rw [this]
    funext b; unfold upd; split <;> rfl
  rw [e2]
  have x2 : Ext M _ H M (upd H t (.dK [(.inr k1, .str v1), (.inr k2, .str v2)])) := Ext.new w ht
  refine h.run σ _ _ (en.mono x2) (w.new ht) fun v d H1 M1 e1 w1 r1 hz => ?_
  obtain ⟨z, y, rfl, hl, hz⟩ := hz
  cases r1
  have hd := (e1.1 t _ upd_same (w.fresh ht)).1
  refine ⟨t, .str y, rfl, ?_, (k.step (x2.trans e1)).now w1 (.str _) hz⟩
  have g := DGet.k (k := .inr z) hd
  have ev : valV [((.inr k1 : Key), V.str v1), (.inr k2, .str v2)] (.inr z) = some (.str y) := by
    unfold valV
    rw [List.lookup_cons] at hl
    by_cases c1 : z = k1
    · subst c1
      simp at hl
      subst hl
      simp
    · have c2 : (z == k1) = false := by simpa using c1
      rw [c2] at hl
      have c3 : ¬ k1 = z := fun q => c1 q.symm
      by_cases c4 : z = k2
      · subst c4
        simp [List.lookup_cons] at hl
        subst hl
        simp [c3]
      · have c5 : (z == k2) = false := by simpa using c4
        simp [List.lookup_cons, c5] at hl
  rw [ev] at g
  exact g
theorem inV_strs (z : Str) : ∀ zs : List Str, inV (.str z) (zs.map V.str) = decide (z ∈ zs)
  | [] => rfl
  | y :: zs => by
    have ih := inV_strs z zs
    unfold inV at ih ⊢
    rw [List.map_cons, List.any_cons, ih]
    show (decide (y = z) || _) = _
    by_cases h : y = z
    · subst h; simp
    · have h' : ¬ z = y := fun q => h q.symm
      simp [h, h']
theorem flat_strs (zs : List Str) : (zs.map V.str).all flatV = true := by
  rw [List.all_map]; exact List.all_eq_true.mpr fun _ _ => rfl
theorem rd_inS {x y : D} (h : ∃ (z : Str) (zs : List Str), x = .str z ∧ (y = .tup (zs.map D.str) ∨ LstOf M y (zs.map D.str)) ∧ Φ (.bl (decide (z ∈ zs))) M) : RD X.K (rIn X.K false) x y M Φ := fun Z v u H Q w r1 r2 k => by
  obtain ⟨z, zs, rfl, hy, h⟩ := h
  cases r1
  rcases hy with rfl | hy
  · obtain ⟨q, vs, rfl, hq, rs⟩ := r2.asTup
    rw [rs.strs] at hq
    exact ⟨q, _, rfl, .inr hq, rfl, flat_strs zs, by rw [inV_strs]; exact k.now w (.bl _) h⟩
  · obtain ⟨q, vs, rfl, hq, rs⟩ := r2.asLst w hy
    rw [rs.strs] at hq
    exact ⟨q, _, rfl, .inl hq, rfl, flat_strs zs, by rw [inV_strs]; exact k.now w (.bl _) h⟩
theorem we_inS (h : WE X ρ M a fun x M1 => WE X ρ M1 b fun y M2 => ∃ (z : Str) (zs : List Str), x = .str z ∧ (y = .tup (zs.map D.str) ∨ LstOf M2 y (zs.map D.str)) ∧ Φ (.bl (decide (z ∈ zs))) M2) (hm : behindInMarks .In b = false := by rfl) : WE X ρ M (.Compare a [.In] [b] pos) Φ :=
  we_cmp op_in_seq hm (h.imp fun _ _ h => h.imp fun _ _ h => rd_inS h)
theorem wt_inS (h : WE X ρ M a fun x M1 => WE X ρ M1 b fun y M2 => ∃ (z : Str) (zs : List Str), x = .str z ∧ (y = .tup (zs.map D.str) ∨ LstOf M2 y (zs.map D.str)) ∧ Θ (decide (z ∈ zs)) M2) (hm : behindInMarks .In b = false := by rfl) : WT X ρ M (.Compare a [.In] [b] pos) Θ :=
  wt_cmp op_in_seq hm (h.imp fun _ _ h => h.imp fun _ _ ⟨z, zs, e1, e2, h⟩ => rd_inS ⟨z, zs, e1, e2, _, rfl, h⟩)
/-- a written tuple of texts -/
theorem we_txts {e1 e2 : Str} {j1 j2 k1 : Nat} {q1 q2 : Pos} (h : Φ (.tup ([e1, e2].map D.str)) M) (hs : starEach [.Constant (.str e1) j1 q1, .Constant (.str e2) j2 q2] X.env = (false, eval (.Constant (.str e1) j1 q1) X.env) :: starEach [.Constant (.str e2) j2 q2] X.env := by rfl) (hs2 : starEach [.Constant (.str e2) j2 q2] X.env = (false, eval (.Constant (.str e2) j2 q2) X.env) :: starEach [] X.env := by rfl) :
    WE X ρ M (.Tuple [.Constant (.str e1) j1 q1, .Constant (.str e2) j2 q2] k1 pos) Φ :=
  we_tup (wa_cons (we_str (wa_cons (we_str (wa_nil ⟨by show 2 ≤ sizeLine; decide, h⟩)) hs2)) hs)
theorem we_powW (h : WE X ρ M a fun x M1 => WE X ρ M1 b fun y M2 => ∃ i j, x = .int i ∧ y = .int j ∧ (0 ≤ j ∧ (Builtin.Int.intBits i : Int) * j ≤ 2 ^ 27) ∧ Φ (.int (i ^ j.toNat)) M2) : WE X ρ M (.BinOp a .Pow b pos) Φ :=
  we_op (r := rI (fun i j => 0 ≤ j ∧ (Builtin.Int.intBits i : Int) * j ≤ 2 ^ 27) fun i j => .int (i ^ j.toNat)) (opI fun _ _ _ _ _ _ _ hc q => pow_int hc.1 hc.2 q) (h.imp fun _ _ h => h.imp fun _ _ h => rd_I h)
theorem we_startsAt {f : Expr} (h : WE X ρ M o fun d M1 => ∃ z, d = .str z ∧ WE X ρ M1 e fun y M2 => WE X ρ M2 f fun u M3 => ∃ s i, y = .str s ∧ u = .int i ∧ Φ (.bl (Txt.startswith3 z s i)) M3)
    (hbase : attributeBase o "startswith" X.env (eval o X.env) = eval o X.env := by rfl) (hline : (apos.endLine == pos.line) = true := by rfl)
    (hfew : ((backTo pos (starEach [e, f] X.env)).all (fun x => !x.1) && (backToKw pos (keywordEach [] X.env)).all (fun x => x.1.isSome) && decide ([e, f].length + ([] : List Keyword).length + (if ([] : List Keyword).isEmpty then 0 else 1) < 30)) = true := by rfl)
    (hs : starEach [e, f] X.env = (false, eval e X.env) :: starEach [f] X.env := by rfl) (hs2 : starEach [f] X.env = (false, eval f X.env) :: starEach [] X.env := by rfl) (hpl : (backTo pos (starEach [f] X.env)).any (·.1) = false := by rfl) : WE X ρ M (.Call (.Attribute o "startswith" apos) [e, f] [] pos) Φ := .mk fun σ H Q en w k => by
  refine eOf (pe_bm F.plainAttrs_str F.slot_str_startswith F.type_str_startswith mt_startswith3 pe_sem (pa_sem (es := [e, f])) hbase hfew hline hs hpl) (h.run σ H _ en w fun v d H1 M1 e1 w1 r1 hz => ?_)
  obtain ⟨z, rfl, hz⟩ := hz
  cases r1
  refine ⟨rfl, (wa_cons (ΦA := fun ds M3 => ∃ s i, ds = [.str s, .int i] ∧ Φ (.bl (Txt.startswith3 z s i)) M3) (hz.imp fun y M2 hy => wa_cons (hy.imp fun u M3 hu => wa_nil ?_) hs2) hs).run σ H1 _ (en.mono e1) w1 fun vs ds H2 M2 e2 w2 r2 hx => ?_⟩
  · obtain ⟨s, i, rfl, rfl, hu⟩ := hu
    exact ⟨s, i, rfl, hu⟩
  · obtain ⟨s, i, rfl, hx⟩ := hx
    obtain ⟨v1, v2, rfl, r3, r4⟩ := r2.two
    cases r3; cases r4
    exact ⟨z, s, i, rfl, rfl, (k.step (e1.trans e2)).now w2 (.bl _) hx⟩
variable {Ψ : DE}
theorem wg_fld {f : Str} {C : Addr} {d : D} {Ω : Rho → Mp → Prop} (h : WE X ρ M o fun x M1 => ∃ q fs, x = .ob q ∧ M1 q = some (.ins C fs) ∧ Cls X.K C ∧ NoAttr X.K C f ∧ fs.length < 1000 ∧ Ω ρ (mset M1 q (.ins C (putD f d fs)))) : WG X (.Attribute o f pos) d ρ M Ω := .mk fun {Z} σ H v Q en w r k => by
  intro pins s u I ru
  refine PySem.W.kas_attr (thn (h.run σ H (fun x H2 => ∃ q C' dx fs, x = .ref q ∧ H2 q = some (.ins C' dx fs) ∧ Cls X.K C' ∧ NoAttr X.K C' f ∧ fs.length < 1000 ∧ Q σ (upd H2 q (.ins C' dx (putF f v fs)))) en w (fun x dx H1 M1 e1 w1 r1 hz => ?_) pins s I) fun ov s2 ⟨y, H2, I2, ry, q2⟩ => ?_)
  · obtain ⟨q, fs, rfl, hM, cl, na, hl, hz⟩ := hz
    cases r1
    obtain ⟨dx, vs, ha, rf⟩ := w1.1 q _ hM
    have x3 : Ext M1 _ H1 (mset M1 q (.ins C (putD f d fs))) (upd H1 q (.ins C dx (putF f v vs))) := Ext.put w1 hM
    exact ⟨q, C, dx, vs, rfl, ha, cl, na, by rw [rf.length]; exact hl, k σ ρ _ _ (e1.trans x3) (w1.put hM ⟨dx, _, upd_same, (rf.mono x3).put (r.mono (e1.trans x3))⟩) (en.mono (e1.trans x3)) hz⟩
  · obtain ⟨q, C', dx, fs, rfl, ha, cl, na, hl, hq⟩ := q2
    cases ry
    exact setattr_ok I2 ha cl na hl ru fun s3 I3 => ⟨σ, _, I3, hq⟩
end
end DL
namespace DL
open PySem PySem.Spec PyProof.Rows L2
/-- the module's def x is the statement st; dvs: its defaults -/
structure Df (K : PySem.W.Frag) (mg : Str → Option Value) (x : Str) (st : Stmt) (dvs : List V) : Prop where
  ex : ∃ (f : Addr) (fd : FuncData), FunD K x x (defArgs st) (defBody st) (defScope st) dvs [] f fd ∧ mg x = some (.ref f)
section
variable {P : Program} {w : World} {K : PySem.W.Frag} {mg : Str → Option Value} {base : Heap} {x : Str} {st : Stmt} {N ps : List Str} {j k n : Nat} {c : Con} {dd : List D} {C : Addr} {m : Str}
theorem Fc.up (F : Fc P w K mg base x dd j n c) (h : j ≤ k) : Fc P w K mg base x dd k n c := by
  obtain ⟨f, fd, ps, dvs, ds, F, r⟩ := F.ex
  exact ⟨f, fd, ps, dvs, ds, F.mono h, r⟩
theorem Kc.up (F : Kc P w K mg base x C dd j n c) (h : j ≤ k) : Kc P w K mg base x C dd k n c := by
  obtain ⟨f, fd, ps, dvs, ds, G, r⟩ := F.ex
  exact ⟨F.at_, f, fd, ps, dvs, ds, G.mono h, r⟩
theorem Mc.up (F : Mc P w K mg base C m dd j n c) (h : j ≤ k) : Mc P w K mg base C m dd k n c := by
  obtain ⟨f, fd, ps, dvs, ds, G, r⟩ := F.ex
  exact ⟨F.cl, f, fd, ps, dvs, ds, G.mono h, r⟩
theorem Pc.up (F : Pc P w K mg base C m j c) (h : j ≤ k) : Pc P w K mg base C m k c := by
  obtain ⟨p, g, fd, ps, G, r⟩ := F.ex
  exact ⟨F.cl, p, g, fd, ps, G.mono h, r⟩
/-- a body keeps a contract -/
def BodyOk (P : Program) (w : World) (K : PySem.W.Frag) (mg : Str → Option Value) (base : Heap) (qual : Str) (st : Stmt) (N : List Str) (n k : Nat) (c : Con) : Prop :=
  ∀ (f : Addr) (cdv : Value) (A : Around) (outer : List Env) (s : Shared) (H : Hp) (E : XK), Room k (A.deeper (envOfC qual (defScope st) s.heap.objs.size f cdv)) → ∀ ds M Φ, ds.length = n → c ds M Φ →
      WSs (bx P w K mg base N qual (defScope st) f cdv A outer s H E) (start N ds) M (defBody st) { nx := fun _ M' => Φ .non M', rt := Lets Φ }
theorem Df.fc (D : Df K mg x st []) (S : FnScope N ps (defScope st))
    (hb : ∀ (kV doc pm : Value) (an : Option Addr) (cdv ct : Value) (us : List Value), us.length = ps.length → bindArgs (PySem.W.fnOf x x (defArgs st) (defBody st) (defScope st) .none kV doc pm an cdv ct) ⟨us, []⟩ = pure (ps.zip us))
    (h : BodyOk P w K mg base x st N ps.length k c) : Fc P w K mg base x [] (k + 1) ps.length c := by
  obtain ⟨f, fd, F, hm⟩ := D.ex
  exact ⟨f, fd, ps, [], [], fn_ok F S (h f), hm, F.kp, F.bindsN hb, .nil, fun _ _ _ => .nil⟩
/-- with defaults: n values are written, the defaults behind the first j fill up -/
theorem Df.fcD {dvs : List V} (D : Df K mg x st dvs) (S : FnScope N ps (defScope st)) (nn jj : Nat) (hd : dvs ≠ []) (hn : nn + (dvs.length - jj) = ps.length) (hr : ∀ M Z H, Reps K M Z H (dvs.drop jj) dd)
    (hb : ∀ (T : Addr) (kV doc pm : Value) (an : Option Addr) (cdv ct : Value) (us its : List Value), us.length = nn → its.length = dvs.length →
      ∃ k, bindArgs (PySem.W.fnOf x x (defArgs st) (defBody st) (defScope st) (.ref T) kV doc pm an cdv ct) ⟨us, []⟩ = seqItems? (.ref T) >>= k ∧ k (some its.toArray) = pure (ps.zip (us ++ its.drop jj)))
    (h : BodyOk P w K mg base x st N ps.length k c) : Fc P w K mg base x dd (k + 1) ps.length c := by
  obtain ⟨f, fd, F, hm⟩ := D.ex
  obtain ⟨ds, hv, hB⟩ := F.binds1 (ps := ps) nn jj hd hn hb
  exact ⟨f, fd, ps, dvs.drop jj, ds, fn_ok F S (h f), hm, F.kp, hB, hv, hr⟩
end
/-- the method m of the class C of the name x is the statement st -/
structure Md (K : PySem.W.Frag) (C : Addr) (m qual : Str) (st : Stmt) (f : Addr) : Prop where
  ex : ∃ fd : FuncData, FunD K m qual (defArgs st) (defBody st) (defScope st) [] [] f fd
section
variable {P : Program} {w : World} {K : PySem.W.Frag} {mg : Str → Option Value} {base : Heap} {x qual : Str} {st : Stmt} {N ps : List Str} {j k n : Nat} {c : Con} {dd : List D} {C : Addr} {m : Str} {f p : Addr}
theorem Md.pc (D : Md K C m qual st f) (cl : Cls K C) (me : PropOf K C m p f) (S : FnScope N ["self"] (defScope st))
    (hb : ∀ (kV doc pm : Value) (an : Option Addr) (cdv ct : Value) (us : List Value), us.length = 1 → bindArgs (PySem.W.fnOf m qual (defArgs st) (defBody st) (defScope st) .none kV doc pm an cdv ct) ⟨us, []⟩ = pure ((["self"] : List Str).zip us))
    (h : BodyOk P w K mg base qual st N 1 k c) : Pc P w K mg base C m (k + 1) c := by
  obtain ⟨fd, F⟩ := D.ex
  exact ⟨cl, p, f, fd, ["self"], fn_ok F S (h f), me, F.bindsN hb⟩
theorem Md.kc (D : Md K C "__init__" qual st f) (hm : mg x = some (.ref C)) (me : Mk K C f) (S : FnScope N ps (defScope st))
    (hb : ∀ (kV doc pm : Value) (an : Option Addr) (cdv ct : Value) (us : List Value), us.length = ps.length → bindArgs (PySem.W.fnOf "__init__" qual (defArgs st) (defBody st) (defScope st) .none kV doc pm an cdv ct) ⟨us, []⟩ = pure (ps.zip us))
    (h : BodyOk P w K mg base qual st N ps.length k c) : Kc P w K mg base x C [] (k + 1) ps.length c := by
  obtain ⟨fd, F⟩ := D.ex
  exact ⟨hm, f, fd, ps, [], [], fn_ok F S (h f), me, F.bindsN hb, .nil, fun _ _ _ => .nil⟩
end
end DL
namespace DL
open PySem PySem.Spec PyProof.Rows L2
/-- d can be compared: it is p, k deep at most -/
structure CmpD (d : D) (p : PyData) (k : Nat) : Prop where
  eq : toPy d = some p
  lay : p.canLay0 = true
  dep : p.depth ≤ k
theorem CmpD.shaped {d : D} {p : PyData} {k : Nat} (h : CmpD d p k) (hk : k ≤ 64) : SeqAt.shaped p = true := by
  unfold SeqAt.shaped
  rw [h.lay, decide_eq_true (Nat.le_trans h.dep hk)]; rfl
theorem cmp_int (i : Int) : CmpD (.int i) (.int i) 0 := ⟨by simp [toPy], by simp [PyData.canLay0], by simp [PyData.depth]⟩
theorem cmp_bl (i : Bool) : CmpD (.bl i) (.bool i) 0 := ⟨by simp [toPy], by simp [PyData.canLay0], by simp [PyData.depth]⟩
theorem cmp_non : CmpD .non .none 0 := ⟨by simp [toPy], by simp [PyData.canLay0], by simp [PyData.depth]⟩
theorem cmp_str {x : Str} (h : ∀ c ∈ x.cps.toList, c < 0x110000) : CmpD (.str x) (.str x) 0 := ⟨by simp [toPy], by
  simp only [PyData.canLay0, PyData.strOk]
  rw [← Array.all_toList]
  exact List.all_eq_true.mpr fun c hc => decide_eq_true (h c hc), by simp [PyData.depth]⟩
theorem cmps_nil {k : Nat} : CmpDs [] [] k := ⟨by simp [toPys], by simp [PyData.canLayAll0], by simp [PyData.depthAll]⟩
theorem cmps_cons {d : D} {p : PyData} {ds : List D} {ps : List PyData} {k j : Nat} (h : CmpD d p j) (hj : j ≤ k) (t : CmpDs ds ps k) : CmpDs (d :: ds) (p :: ps) k := ⟨by
  simp only [toPys, h.eq, t.eq]; rfl, by simp only [PyData.canLayAll0, h.lay, t.lay]; rfl, by
  simp only [PyData.depthAll]; have := h.dep; have := t.dep; omega⟩
theorem cmps_map {α : Type} {f : α → D} {g : α → PyData} {k j : Nat} (hj : j ≤ k) : ∀ {xs : List α}, (∀ x ∈ xs, CmpD (f x) (g x) j) → CmpDs (xs.map f) (xs.map g) k
  | [], _ => cmps_nil
  | x :: xs, h => cmps_cons (h x List.mem_cons_self) hj (cmps_map hj fun y hy => h y (List.mem_cons_of_mem _ hy))
theorem cmp_lst {ds : List D} {ps : List PyData} {k : Nat} (h : CmpDs ds ps k) : CmpD (.lst ds) (.list ps) (k + 1) := ⟨by simp only [toPy, h.eq]; rfl, by simp only [PyData.canLay0, h.lay], by simp only [PyData.depth]; have := h.dep; omega⟩
theorem cmp_tup {ds : List D} {ps : List PyData} {k : Nat} (h : CmpDs ds ps k) : CmpD (.tup ds) (.tuple ps) (k + 1) := ⟨by simp only [toPy, h.eq]; rfl, by simp only [PyData.canLay0, h.lay], by simp only [PyData.depth]; have := h.dep; omega⟩
theorem eqv_nilL (ps : List PyData) : PyData.eqv (.list ps) (.list []) = ps.isEmpty := by
  cases ps <;> simp [PyData.eqv, PyData.eqvAll]
theorem eqv_nilT (ps : List PyData) : PyData.eqv (.tuple ps) (.tuple []) = ps.isEmpty := by
  cases ps <;> simp [PyData.eqv, PyData.eqvAll]
section
variable {X : Cx} {ρ : Rho} {M : Mp} {Φ : D → Mp → Prop} {Θ : Bool → Mp → Prop} {a b : Expr} {pos : Pos}
theorem shaped_nilL : SeqAt.shaped (.list []) = true := by decide +kernel
theorem shaped_nilT : SeqAt.shaped (.tuple []) = true := by decide +kernel
theorem isEmpty_len {α β : Type} {xs : List α} {ys : List β} (h : xs.length = ys.length) : xs.isEmpty = ys.isEmpty := by
  cases xs <;> cases ys <;> simp_all
/-- x != [] -/
theorem wt_neNil {lp : Pos} (hu : X.A.units + 64 < cLine) (h : WE X ρ M a fun x M1 => ∃ xs ps k, x = .lst xs ∧ CmpDs xs ps k ∧ k ≤ 60 ∧ Θ (!xs.isEmpty) M1) : WT X ρ M (.Compare a [.NotEq] [.List [] lp] pos) Θ :=
  wt_neD hu (h.imp fun x M1 ⟨xs, ps, k, e, c, hk, h⟩ => we_lst (wa_nil ⟨Nat.zero_le _, _, _, by rw [e]; exact (cmp_lst c).eq, by simp [toPy, toPys], (cmp_lst c).shaped (by omega), shaped_nilL, by rw [eqv_nilL, isEmpty_len c.length]; exact h⟩))
/-- x != () -/
theorem wt_neNilT {lp : Pos} {kk : Nat} (hu : X.A.units + 64 < cLine) (h : WE X ρ M a fun x M1 => ∃ xs ps k, x = .tup xs ∧ CmpDs xs ps k ∧ k ≤ 60 ∧ Θ (!xs.isEmpty) M1) : WT X ρ M (.Compare a [.NotEq] [.Tuple [] kk lp] pos) Θ :=
  wt_neD hu (h.imp fun x M1 ⟨xs, ps, k, e, c, hk, h⟩ => we_tup (wa_nil ⟨Nat.zero_le _, _, _, by rw [e]; exact (cmp_tup c).eq, by simp [toPy, toPys], (cmp_tup c).shaped (by omega), shaped_nilT, by rw [eqv_nilT, isEmpty_len c.length]; exact h⟩))
end
end DL
namespace DL
open PySem PySem.Spec PyProof.Rows L2
section
variable {P : Program} {w : World} {K : PySem.W.Frag} {mg : Str → Option Value} {base : Heap} {x qual : Str} {st : Stmt} {kws : List (Str × V)} {f : Addr} {fd : FuncData} {N ps : List Str} {k n : Nat} {c : Con}
theorem FnG.mono {j : Nat} {sp : Sp} (F : FnG P w K mg base j f fd ps sp) (h : j ≤ k) : FnG P w K mg base k f fd ps sp := ⟨F.len, fun A outer s H args us vs Q E hg hr => F.run A outer s H args us vs Q E hg (hr.mono h)⟩
/-- a body keeps a contract where nothing is being shown -/
def BodyG (P : Program) (w : World) (K : PySem.W.Frag) (mg : Str → Option Value) (base : Heap) (qual : Str) (st : Stmt) (N : List Str) (n k : Nat) (c : Con) : Prop :=
  ∀ (f : Addr) (cdv : Value) (A : Around) (outer : List Env) (s : Shared) (H : Hp) (E : XK), (A.deeper (envOfC qual (defScope st) s.heap.objs.size f cdv)).guards = some [] → Room k (A.deeper (envOfC qual (defScope st) s.heap.objs.size f cdv)) → ∀ ds M Φ, ds.length = n → c ds M Φ →
      WSs (bx P w K mg base N qual (defScope st) f cdv A outer s H E) (start N ds) M (defBody st) { nx := fun _ M' => Φ .non M', rt := Lets Φ }
theorem fnG_ok {dvs : List V} (F : FunD K x qual (defArgs st) (defBody st) (defScope st) dvs kws f fd) (S : FnScope N ps (defScope st)) (h : BodyG P w K mg base qual st N ps.length k c) : FnG P w K mg base (k + 1) f fd ps (spD K ps.length c) := by
  obtain ⟨oc, od, dV, kV, doc, pm, an, cdv, ct, osl, rfl, lk, hcd, _, _⟩ := F.ex
  have ln : ∀ vs H Q E, spD K ps.length c vs H Q E → vs.length = ps.length := fun vs H Q E q => by
    obtain ⟨ds, M, Z, Φ, hl, r, _⟩ := q
    rw [r.length, hl]
  refine ⟨ln, fun A outer s H args us vs Q E hg hr e0 hb rv hsp => ?_⟩
  have hlen := ln _ _ _ _ hsp
  have hK : K.In s.heap := e0.mod.kin.keeps fun b o z => (e0.bs b o z).1
  have hlim : s.heap.NoLimit := e0.mod.nolimit.keeps fun b o z => (e0.bs b o z).1
  have kinds : ∀ y ∈ ps.zip us, (defScope st).names.lookup y.1 = some .local ∨ ((defScope st).names.lookup y.1 = some .cell ∧ ((cellsFrom (s.heap.objs.size + 1) (defScope st).names []).lookup y.1).isSome = true) := fun y hy => by
    rcases S.par y.1 (List.of_mem_zip hy).1 with z | z
    · exact .inl z
    · exact .inr ⟨z, PySem.W.cellsFrom_some _ _ _ (.inl z)⟩
  refine codeAny_call_function hr.depth (hK _ _ lk) rfl S.co S.gen rfl (PySem.W.codeRec_of hK hcd) (hb _ _ _ _ (wpAny_newFunctionEnv_cells S.kind kinds fun env he s1 xx => ?_))
  subst he
  refine ⟨hlim.keeps xx.toInCall.keep, codeAny_func ?_⟩
  obtain ⟨ds, M, Z, Φ, hl, r, wd, hc, kk⟩ := hsp
  have I : Inv (cxOf CX0 P w K mg base N qual (defScope st) f cdv A outer s H E) [] (L2.start N vs) H s1 := inv_start S hr.hd e0 hlen rv xx
  have body := (h f cdv A outer s H E hg (hr.deeper _) ds M Φ hl hc).run (L2.start N vs) H { nx := fun _ H' => Q .non H', rt := Q } (env_start r) wd ⟨fun σ' ρ' H' M' x w' en z => kk _ .non H' M' x w' .non z, lets_k kk, fun _ _ _ _ _ _ _ z => z.elim, fun _ _ _ _ _ _ _ z => z.elim⟩
  have done : ∀ {σ' : L2.St} {H' : Hp} {v : V} {u : Value} {s' : Shared}, Inv (cxOf CX0 P w K mg base N qual (defScope st) f cdv A outer s H E) [] σ' H' s' → RelV v u → Q v H' → CE outer P w H s Q u s' := fun {σ' H' v u s'} J ru q => ⟨v, H', J.os, J.bare, J.base, J.hok, ru, q⟩
  refine wpAny_mono ((PSs.nox (pss_sem (X := bx P w K mg base N qual (defScope st) f cdv A outer s H E))).run [] s1 (L2.start N vs) H _ I body) (fun fl s' hs => ?_) fun e s' hs => hs
  cases fl with
  | ret u => obtain ⟨v, σ', H', J, ru, q⟩ := hs; exact done J ru q
  | next => obtain ⟨σ', H', J, q⟩ := hs; exact done (v := V.non) (u := Value.none) J rfl q
  | brk => obtain ⟨_, _, _, q⟩ := hs; exact q.elim
  | cont => obtain ⟨_, _, _, q⟩ := hs; exact q.elim
/-- such a def under its name -/
structure Gc (P : Program) (w : World) (K : PySem.W.Frag) (mg : Str → Option Value) (base : Heap) (x : Str) (k n : Nat) (c : Con) : Prop where
  ex : ∃ (f : Addr) (fd : FuncData) (ps : List Str), FnG P w K mg base k f fd ps (spD K n c) ∧ mg x = some (.ref f) ∧ PySem.W.keepIn K (.ref f) = true ∧ Binds K fd ps []
theorem Df.gc (D : Df K mg x st []) (S : FnScope N ps (defScope st))
    (hb : ∀ (kV doc pm : Value) (an : Option Addr) (cdv ct : Value) (us : List Value), us.length = ps.length → bindArgs (PySem.W.fnOf x x (defArgs st) (defBody st) (defScope st) .none kV doc pm an cdv ct) ⟨us, []⟩ = pure (ps.zip us))
    (h : BodyG P w K mg base x st N ps.length k c) : Gc P w K mg base x (k + 1) ps.length c := by
  obtain ⟨f, fd, F, hm⟩ := D.ex
  exact ⟨f, fd, ps, fnG_ok F S h, hm, F.kp, F.bindsN hb⟩
end
section
variable {X : Cx} {ρ : Rho} {M : Mp} {Φ : D → Mp → Prop} {e : Expr} {es : List Expr} {pos p : Pos} {x : Str} {k n : Nat} {c : Con}
theorem we_callG (F : Gc X.prog X.w X.K X.mg X.base x k n c) (hg0 : X.A.guards = some []) (hr : Room k X.A) (h : WA X ρ M (e :: es) fun ds M1 => ds.length = n ∧ c ds M1 Φ) (hg : Gl X x := by rfl)
    (hdb : (x == ("__debug__" : Str)) = false := by decide) (he : starEach (e :: es) X.env = (false, eval e X.env) :: starEach es X.env := by rfl) (hpl : (backTo pos (starEach es X.env)).any (·.1) = false := by rfl) : WE X ρ M (.Call (.Name x p) (e :: es) [] pos) Φ := .mk fun {Z} σ H Q en w k => by
  obtain ⟨f, fd, ps, F, hm, hk, hb⟩ := F.ex
  intro pins s I
  refine wpAny_Call_Name_kw (ld_glob I hg hm ?_ hdb)
  refine PySem.W.callWith_K (h₀ := X.base) I.ok.mod.kin hk (thn ((pa_sem (es := e :: es)).run pos pins s σ H (fun vs H1 => spD X.K n c vs H1 Q E0) I (h.run σ H _ en w fun vs ds H1 M1 e1 w1 r1 hz => ⟨ds, M1, Z, Φ, hz.1, r1, w1, hz.2, k.step e1⟩)) fun us s1 z => ⟨?_, ?_⟩) he hpl
  · obtain ⟨vs, H1, I1, r, q⟩ := z; exact I1.kIn
  · obtain ⟨vs, H1, I1, r, q⟩ := z
    have hl : (us ++ ([] : List Value)).length = ps.length := by rw [List.append_nil, ← r.length]; exact F.len _ _ _ _ q
    have bt := hb s1 us I1.kIn hl
    rw [List.append_nil] at bt
    refine wpAny_call (codeAny_mono (F.run X.A X.stack s1 H1 ⟨us, []⟩ us vs Q E0 hg0 hr I1.env0 bt r q) fun res s' hq => ?_)
    cases res with
    | error er => exact hq.elim
    | ok fl =>
      cases fl with
      | ret u => exact I1.after hq
      | next => exact hq.elim
      | brk => exact hq.elim
      | cont => exact hq.elim
end
end DL
namespace DL
open PySem PySem.Spec PyProof.Rows L2
section
variable {X : Cx} {ρ : Rho} {M : Mp} {Φ : D → Mp → Prop} {e : Expr} {pos p : Pos}
theorem cr_reprD (hg : X.A.guards = some []) (hu : X.A.units + 64 < cLine) : CallR X (.builtin "repr") (fun xs H Q => ∃ v q, xs = [v] ∧ Dp X.K H v q ∧ q.showable = true ∧ q.canLay0 = true ∧ q.depth ≤ 60 ∧ q.shown.length ≤ sizeLine ∧ Q (.str q.shown) H) := by
  intro pins s σ H xs us Q I r h
  obtain ⟨v, q, rfl, hd, hs, hc, hk, hz, h⟩ := h
  obtain ⟨u, rfl, ru⟩ := vals1 r
  obtain ⟨as, rd⟩ := Dp.reads I q v u hd ru
  have fin : ∀ (h' : Heap) (tk : Nat) (t : Tok), (∀ b o, s.heap.get? b = some o → h'.get? b = some o) → EP X pins σ Q (.str q.shown t) { s with heap := h', toks := tk } := fun h' tk t kp => ⟨.str q.shown, H, I.kept kp, ⟨t, rfl⟩, h⟩
  have same : ∀ (tk : Nat) (t : Tok), EP X pins σ Q (.str q.shown t) { s with toks := tk } := fun tk t => ⟨.str q.shown, H, I.tok tk, ⟨t, rfl⟩, h⟩
  have big : ∀ a, u = .ref a → wpAny (model X.prog X.w) X.A (call (.builtin "repr") [u]) (EP X pins σ Q) X.xe s := fun a ea => by
    subst ea
    exact repr_of_reads' rd hs (fun z => by rw [PyData.hasDict_of_canLay q hc] at z; cases z) hg (by omega) (fun _ _ z => z) (fun h' t tk kp => fin h' tk t kp) hz
  cases hd with
  | non => cases ru; exact PySem.P.repr_of_none (by simp only [PyData.shown] at same; exact same _ _)
  | bl b => cases ru; exact PySem.P.repr_of_bool (by simp only [PyData.shown] at same; exact same _ _)
  | int i =>
    obtain ⟨t, rfl⟩ := ru
    simp only [PyData.showable, decide_eq_true_eq] at hs
    exact PySem.P.repr_of_int hs (by simp only [PyData.shown] at same; exact same _ _)
  | str x =>
    obtain ⟨t, rfl⟩ := ru
    simp only [PyData.shown] at hz
    exact PySem.P.repr_of_str (by simp only [PyData.shown] at same; exact same _ _) hz
  | lst h1 h2 => cases ru; exact big _ rfl
  | tup h1 h2 => cases ru; exact big _ rfl
end
end DL
namespace DL
open PySem PySem.Spec PyProof.Rows L2
section
variable {X : Cx} {ρ : Rho} {M : Mp} {Φ : D → Mp → Prop} {e : Expr} {pos p : Pos}
def TupsV (K : PySem.W.Frag) (H : Hp) : List V → List (List Int) → Prop := Paired fun x ns => ∃ t, x = V.ref t ∧ SqT K H t (ns.map V.int)
theorem Reps.tups {K : PySem.W.Frag} {M : Mp} {Z : Zn} {H : Hp} : ∀ {vs : List V} {ps : List (List Int)}, Reps K M Z H vs (ps.map fun q => .tup (q.map D.int)) → TupsV K H vs ps
  | _, [], .nil => .nil
  | _, q :: ps, .cons r t => by
    obtain ⟨a, us, rfl, hq, rs⟩ := r.asTup
    rw [rs.ints] at hq
    exact .cons ⟨a, rfl, hq⟩ (Reps.tups t)
end
end DL
namespace DL
open PySem PySem.Spec PyProof.Rows L2 SX
/-- shown, at most b signs -/
structure ShD (p : PyData) (b : Nat) : Prop where
  ok : p.showable = true
  le : p.shown.length ≤ b
end DL
namespace DL
open PySem PySem.Spec PyProof.Rows L2
def keyD : Key → D
  | .inl i => .int i
  | .inr x => .str x
theorem keys_reps {K : PySem.W.Frag} {M : Mp} {Z : Zn} {H : Hp} : ∀ {ks : List Key} {vs : List V}, Reps K M Z H vs (ks.map keyD) → vs = ks.map kV
  | [], _, r => by cases r; rfl
  | .inl i :: ks, _, r => by
    cases r with
    | cons r1 r2 => cases r1; rw [keys_reps r2]; rfl
  | .inr x :: ks, _, r => by
    cases r with
    | cons r1 r2 => cases r1; rw [keys_reps r2]; rfl
section
variable {X : Cx} {ρ : Rho} {M : Mp} {Φ : D → Mp → Prop} {Θ : Bool → Mp → Prop} {a b e o i : Expr} {es : List Expr} {pos p : Pos}
theorem we_tupK {k1 : Nat} (h : WA X ρ M es fun ds M1 => ∃ ks : List Key, ds = ks.map keyD ∧ ks.length ≤ sizeLine ∧ Φ (.key ks) M1) : WE X ρ M (.Tuple es k1 pos) Φ := .mk fun σ H Q en w k =>
  eOf (pe_tup pa_sem) (h.run σ H _ en w fun vs ds H1 M1 e1 w1 r1 hz => by
    obtain ⟨ks, rfl, hl, hz⟩ := hz
    obtain rfl := keys_reps r1
    exact ⟨by rw [List.length_map]; exact hl, fun p hp => (k.step e1).new w1 hp (.key upd_same (w1.fresh hp)) hz⟩)
theorem rd_inD {x y : D} (h : ∃ p q, toPy x = some p ∧ toPy y = some (.list q) ∧ SeqAt.shaped p = true ∧ SeqAt.shaped (.list q) = true ∧ Φ (.bl (q.any fun z => PyData.eqv z p)) M) : RD X.K (rInD X.K) x y M Φ := fun Z v u H Q w r1 r2 k => by
  obtain ⟨p, q, e1, e2, s1, s2, h⟩ := h
  exact ⟨p, q, r1.dp e1, r2.dp e2, s1, s2, k.now w (.bl _) h⟩
theorem wt_inD (hu : X.A.units + 65 < cLine) (h : WE X ρ M a fun x M1 => WE X ρ M1 b fun y M2 => ∃ p q, toPy x = some p ∧ toPy y = some (.list q) ∧ SeqAt.shaped p = true ∧ SeqAt.shaped (.list q) = true ∧ Θ (q.any fun z => PyData.eqv z p) M2) (hm : behindInMarks .In b = false := by rfl) : WT X ρ M (.Compare a [.In] [b] pos) Θ :=
  wt_cmp (op_inD hu) hm (h.imp fun _ _ h => h.imp fun _ _ ⟨p, q, e1, e2, s1, s2, h⟩ => rd_inD ⟨p, q, e1, e2, s1, s2, _, rfl, h⟩)
end
end DL
namespace HK
open PySem PySem.Spec PyProof.Rows L2 DL He
theorem propB_ok {K : PySem.W.Frag} {C m : Str} (h : propB K (C, m) = true) : PropOf K (ga K C) m (ma K (ga K C) m) (pgA C m K) := by
  obtain ⟨h1, h2⟩ := Bool.and_eq_true_iff.mp h
  obtain ⟨h3, h4⟩ := Bool.and_eq_true_iff.mp h2
  obtain ⟨h5, h6⟩ := Bool.and_eq_true_iff.mp h4
  refine ⟨eqO_ok h1, eqO_ok h3, of_decide_eq_true h5, ?_⟩
  unfold pgA
  cases q : PySem.W.recIn K (ma K (ga K C) m) "property" with
  | none => rw [q] at h6; cases h6
  | some l =>
    rw [q] at h6
    cases l with
    | nil => cases h6
    | cons v r =>
      cases v with
      | ref g => exact ⟨r, rfl⟩
      | _ => cases h6
theorem eqB_ok {K : PySem.W.Frag} {x : Str} (h : eqB K x = true) : PySem.W.selfFirst K (ga K x) = true ∧ OwnC K (ga K x) ∧ PySem.W.findIn K (.ref (ga K x)) "__ne__" = some (some (.builtin "object.__ne__")) := by
  obtain ⟨h0, h⟩ := Bool.and_eq_true_iff.mp h
  obtain ⟨h1, h⟩ := Bool.and_eq_true_iff.mp h
  obtain ⟨h2, h⟩ := Bool.and_eq_true_iff.mp h
  obtain ⟨h3, h⟩ := Bool.and_eq_true_iff.mp h
  obtain ⟨h4, h⟩ := Bool.and_eq_true_iff.mp h
  obtain ⟨h5, h⟩ := Bool.and_eq_true_iff.mp h
  exact ⟨h0, ⟨cls_ok h1, eqO_ok h2, eqO_ok h3, of_decide_eq_true h4, of_decide_eq_true h5⟩, eqO_ok h⟩
theorem nonV_ok {v : Value} (h : nonV v = true) : v = .none := by cases v <;> first | rfl | cases h
theorem excB_ok {K : PySem.W.Frag} {C : Addr} (q : excB K C = true) : ∃ nm qn N bs bm sn sub ab col dd k0 k1 k2 k3 k5, K.lookup C = some (excClassObj nm qn C N bs bm true sn sub ab col dd k0 k1 k2 k3 k5 "ValueError.__new__") ∧ PySem.HandSPX.refsVE bm = true := by
  unfold excB at q
  split at q
  · rename_i t dd cd sl ho
    obtain ⟨h0, q0⟩ := Bool.and_eq_true_iff.mp q
    clear q
    have h0 := of_decide_eq_true h0
    split at q0
    · rename_i C' bm k0 k1 k2 k3 n k5 hm hs
      obtain ⟨h1, q1⟩ := Bool.and_eq_true_iff.mp q0
      obtain ⟨h2, q2⟩ := Bool.and_eq_true_iff.mp q1
      obtain ⟨h3, q3⟩ := Bool.and_eq_true_iff.mp q2
      obtain ⟨h4, h5⟩ := Bool.and_eq_true_iff.mp q3
      have h1 := of_decide_eq_true h1
      have h2 := of_decide_eq_true h2
      clear q0 q1 q2 q3
      obtain ⟨nm, bs, mro, ns, qn, hd, sn, sub, ab, col, del⟩ := cd
      dsimp only at hm h3 h4
      have h6 : del = false := by cases del <;> first | rfl | cases h3
      clear h3
      obtain ⟨l⟩ := sl
      simp only at hs
      subst h0 h1 h2 hm h4 h6 hs
      exact ⟨nm, qn, ns, bs, bm, sn, sub, ab, col, dd, k0, k1, k2, k3, k5, ho, h5⟩
    · cases q0
  · cases q
theorem all_cons {b : Bool} {l : List Bool} (h : (b :: l).all id = true) : b = true ∧ l.all id = true := by
  rw [List.all_cons] at h
  exact Bool.and_eq_true_iff.mp h
theorem erB_ok {K : PySem.W.Frag} {mg : Str → Option Value} {x : Str} (h : erB K x = true) (hm : mg x = some (.ref (ga K x))) : XL.ErTxt K mg x (ga K x) (ga K "CrowdError") (ma K (ga K "CrowdError") "__init__") ∧ XL.ErV K (ga K x) ∧ PySem.W.kitOne K (.type "NoneType") (.ref (ga K x)) = some false ∧ PySem.W.exmOne K (.ref (ga K x)) (.ref (ga K "CrowdError")) = some true := by
  obtain ⟨h1, h⟩ := all_cons h
  obtain ⟨h2, h⟩ := all_cons h
  obtain ⟨h3, h⟩ := all_cons h
  obtain ⟨h4, h⟩ := all_cons h
  obtain ⟨h5, h⟩ := all_cons h
  obtain ⟨h6, h⟩ := all_cons h
  obtain ⟨h7, h⟩ := all_cons h
  obtain ⟨h8, h⟩ := all_cons h
  obtain ⟨h9, h⟩ := all_cons h
  obtain ⟨h10, h⟩ := all_cons h
  obtain ⟨h11, h⟩ := all_cons h
  obtain ⟨h12, h⟩ := all_cons h
  obtain ⟨h13, h⟩ := all_cons h
  obtain ⟨h14, h⟩ := all_cons h
  obtain ⟨h15, h⟩ := all_cons h
  obtain ⟨h16, h⟩ := all_cons h
  obtain ⟨h17, h⟩ := all_cons h
  obtain ⟨h18, h⟩ := all_cons h
  obtain ⟨h19, h⟩ := all_cons h
  obtain ⟨h20, h⟩ := all_cons h
  obtain ⟨h21, h⟩ := all_cons h
  exact ⟨⟨hm, excB_ok h1, h2, eqO_ok h3, eqO_ok h4, eqO_ok h5, eqO_ok h6, eqO_ok h7, h8, of_decide_eq_true h9, of_decide_eq_true h10, of_decide_eq_true h11, of_decide_eq_true h12, h13, eqO_ok h14⟩,
    ⟨h15, eqO_ok h4, eqO_ok h5, of_decide_eq_true h9, h13, eqO_ok h6, eqO_ok h16, eqO_ok h17, of_decide_eq_true h18, of_decide_eq_true h19⟩, of_decide_eq_true h20, of_decide_eq_true h21⟩
theorem clsIn_ob {K : PySem.W.Frag} {C : Addr} (h : (PySem.W.clsIn K C).isSome = true) : ∃ o cd, K.lookup C = some o ∧ o.data = .cls cd := by
  unfold PySem.W.clsIn at h
  split at h
  · rename_i ho
    exact ⟨_, _, ho, rfl⟩
  · cases h
theorem crB_ok {P : Program} {K : PySem.W.Frag} {file : Str} {st : Stmt} (h : crB K file = true) (e : fnZ K (crA K) = crVal st) (hf : (P.main.file == file) = true) (hs : (P.main.scope.names.lookup ("super" : Str)).isSome = false) :
    ∃ cl, XL.CrTxt P K "CrowdError.__init__" (defArgs st) (defBody st) (defScope st) (ga K "CrowdError") (crA K) cl := by
  obtain ⟨h1, h⟩ := Bool.and_eq_true_iff.mp h
  obtain ⟨h2, h⟩ := Bool.and_eq_true_iff.mp h
  obtain ⟨h3, h4⟩ := Bool.and_eq_true_iff.mp h
  unfold fnZ at e
  cases q : K.lookup (crA K) with
  | none => rw [q] at e; cases e
  | some o =>
    obtain ⟨oc, od, dt, osl⟩ := o
    rw [q] at h1 e
    cases dt with
    | func fd =>
      obtain ⟨x1, x2, x3, x4, x5, x6, x7, x8, x9, x10, x11, x12, x13, x14, x15⟩ := fd
      have e2 : (some (x1, x2, x3, x4, x5, x6, [], x15) : FnW) = (some (("__init__" : Str), ("CrowdError.__init__" : Str), defArgs st, .stmts (defBody st), defScope st, mainGlobals, [], builtinsNs) : FnW) := e
      simp only [Option.some.injEq, Prod.mk.injEq] at e2
      obtain ⟨g1, g2, g3, g4, g5, g6, _, g8⟩ := e2
      subst g1 g2 g3 g4 g5 g6 g8
      dsimp only at h1
      split at h1
      · rename_i y cl cc
        obtain ⟨k1, q1⟩ := Bool.and_eq_true_iff.mp h1
        obtain ⟨k2, q2⟩ := Bool.and_eq_true_iff.mp q1
        obtain ⟨k3, q3⟩ := Bool.and_eq_true_iff.mp q2
        obtain ⟨k4, q4⟩ := Bool.and_eq_true_iff.mp q3
        obtain ⟨k5, k6⟩ := Bool.and_eq_true_iff.mp q4
        clear h1 q1 q2 q3 q4
        have k1 := of_decide_eq_true k1
        have k2 := nonV_ok k2
        have k3 := nonV_ok k3
        subst k1 k2 k3
        refine ⟨cl, ⟨?_, ?_, clsIn_ob h2, of_decide_eq_true h3, hs, eqO_ok h4⟩⟩
        · split at k5
          · rename_i c1 c2 vs c3 hcc2
            split at k5
            · rename_i f tf hv
              have k5 := of_decide_eq_true k5
              subst k5
              exact ⟨oc, od, x10, x11, x12, cc, x14, osl, _, vs, f, tf, q, k4, hcc2, rfl, hv, hf⟩
            · cases k5
          · cases k5
        · split at k6
          · rename_i c1 c2 b c3 hcl2
            have k6 := of_decide_eq_true k6
            subst k6
            exact ⟨_, hcl2, rfl⟩
          · cases k6
      · cases h1
    | _ => cases e
theorem tbB_ok {K : PySem.W.Frag} {x : Str} (h : tbB K x = true) : ∃ p, PySem.W.tabIn K x = some p ∧ K.lookup p.2 = none := by
  unfold tbB at h
  split at h
  · rename_i p e
    refine ⟨p, e, ?_⟩
    cases q : K.lookup p.2 with
    | none => rfl
    | some o => rw [q] at h; cases h
  · cases h
theorem obsG_eq {n : Nat} {ns ms : List Str} {S : Sp} {g : Addr → Option Obj} {s : Shared} (h : ∀ a, g a = s.heap.get? a) : obsG n ns ms S g = (hook n ns ms S).obs s := by
  have e : g = s.heap.get? := funext h
  rw [e] <;> rfl
section
variable {S : Sp} {w : World} {K : PySem.W.Frag}
theorem Says.eqs (c : Says S w K) {x : Str} (h : x ∈ S.eq) : PySem.W.selfFirst K (ga K x) = true ∧ OwnC K (ga K x) ∧ PySem.W.findIn K (.ref (ga K x)) "__ne__" = some (some (.builtin "object.__ne__")) := eqB_ok (List.all_eq_true.mp c.bos.1.1.1.1.1.1.2 _ h)
theorem Says.ers (c : Says S w K) {x : Str} (h : x ∈ S.er) : erB K x = true := List.all_eq_true.mp c.bos.1.1.1.1.2 _ h
theorem Says.kis (c : Says S w K) {x y : Str} {b : Bool} (h : (x, y, b) ∈ S.ki) : PySem.W.kitOne K (.ref (ga K x)) (.ref (ga K y)) = some b := of_decide_eq_true (List.all_eq_true.mp c.bos.1.1.1.2 _ h)
theorem Says.tbs (c : Says S w K) {x : Str} (h : x ∈ S.tb) : ∃ p, PySem.W.tabIn K x = some p ∧ K.lookup p.2 = none := tbB_ok (List.all_eq_true.mp c.bos.1.1.2 _ h)
theorem Says.tds (c : Says S w K) {x y : Str} (h : (x, y) ∈ S.td) : (PySem.W.tabIn K x).map (·.2) ≠ (PySem.W.tabIn K y).map (·.2) := of_decide_eq_true (List.all_eq_true.mp c.bos.2 _ h)
theorem Says.crs (c : Says S w K) {file : Str} {st : Stmt} (h : S.ba = [(file, st)]) : crB K file = true ∧ fnZ K (crA K) = crVal st := by
  have e : S.ba.map (fun _ => fnZ K (crA K)) = S.ba.map fun q => crVal q.2 := congrArg (fun z : Al => z.2.2.2) c
  have b := c.bos.1.2
  rw [h] at e b
  exact ⟨List.all_eq_true.mp b _ List.mem_cons_self, (List.cons.inj e).1⟩
/-- one of the errors -/
theorem Says.err {P : Program} {mg : Str → Option Value} (c : Says S w K) {file : Str} {st : Stmt} {x : Str} (hb : S.ba = [(file, st)]) (sh : XL.Shape (defArgs st) (defBody st) (defScope st)) (hf : (P.main.file == file) = true) (hs : (P.main.scope.names.lookup ("super" : Str)).isSome = false) (hsup : mg "super" = none) (h : x ∈ S.er) (hm : mg x = some (.ref (ga K x))) :
    XL.Er P K mg x (ga K x) ∧ XL.ErV K (ga K x) ∧ PySem.W.kitOne K (.type "NoneType") (.ref (ga K x)) = some false ∧ PySem.W.exmOne K (.ref (ga K x)) (.ref (ga K "CrowdError")) = some true := by
  obtain ⟨h1, h2⟩ := c.crs hb
  obtain ⟨cl, T⟩ := crB_ok h1 h2 hf hs
  obtain ⟨G, V⟩ := erB_ok (c.ers h) hm
  exact ⟨⟨⟨_, _, cl, _, _, _, _, T, sh, G⟩, hsup⟩, V⟩
end
end HK
namespace PL
open PySem SX TL
def opn (s : Bool) : Nat := if s then 123 else 91
def sgn (s : Bool) : Nat := if s then 42 else 43
def sep (s : Bool) : List Nat := [32, sgn s, 32]
mutual
def txt : T → List Nat
  | .one => [49]
  | .name x => x
  | .cop s n t => opn s :: (numL n ++ 32 :: (txt t ++ [cls s]))
  | .row s ts => 40 :: (joinL (sep s) (txts ts) ++ [41])
def txts : List T → List (List Nat)
  | [] => []
  | t :: ts => txt t :: txts ts
end
theorem txts_map : ∀ ts : List T, txts ts = ts.map txt
  | [] => rfl
  | t :: ts => by rw [txts, txts_map ts, List.map_cons]
def letter (c : Nat) : Bool := decide (97 ≤ c) && decide (c ≤ 122)
mutual
/-- a plan as the texts allow it -/
def Good : T → Prop
  | .one => True
  | .name x => x ≠ [] ∧ x.length ≤ 8 ∧ ∀ c ∈ x, letter c = true
  | .cop _ n t => 2 ≤ n ∧ n ≤ 10 ^ 30 ∧ Good t
  | .row _ ts => 2 ≤ ts.length ∧ Goods ts
def Goods : List T → Prop
  | [] => True
  | t :: ts => Good t ∧ Goods ts
end
theorem goods_all : ∀ {ts : List T}, Goods ts ↔ ∀ t ∈ ts, Good t
  | [] => by simp [Goods]
  | t :: ts => by simp [Goods, goods_all (ts := ts)]
mutual
/-- nobody is unknown -/
def Told : T → Prop
  | .one => True
  | .name _ => False
  | .cop _ _ t => Told t
  | .row _ ts => Tolds ts
def Tolds : List T → Prop
  | [] => True
  | t :: ts => Told t ∧ Tolds ts
end
theorem tolds_all : ∀ {ts : List T}, Tolds ts ↔ ∀ t ∈ ts, Told t
  | [] => by simp [Tolds]
  | t :: ts => by simp [Tolds, tolds_all (ts := ts)]
theorem hts_le : ∀ {ts : List T} {t : T}, t ∈ ts → ht t ≤ hts ts
  | u :: ts, t, h => by
    rcases List.mem_cons.mp h with rfl | h
    · exact Nat.le_max_left _ _
    · exact Nat.le_trans (hts_le h) (Nat.le_max_right _ _)
theorem dep_app : ∀ p q : List Nat, dep (p ++ q) = dep p + dep q
  | [], q => by simp [dep]
  | c :: p, q => by rw [List.cons_append, dep, dep, dep_app p q]; omega
/-- no bracket is closed too much -/
def nn (d : Int) : List Nat → Prop
  | [] => True
  | c :: r => 0 ≤ d + wgt c ∧ nn (d + wgt c) r
theorem nn_app : ∀ (d : Int) (p q : List Nat), nn d p → nn (d + dep p) q → nn d (p ++ q)
  | d, [], q, _, h => by simpa [dep] using h
  | d, c :: p, q, h1, h2 => ⟨h1.1, nn_app _ p q h1.2 (by rw [dep] at h2; rw [show d + wgt c + dep p = d + (wgt c + dep p) by omega]; exact h2)⟩
/-- .. and no blank stands outside of brackets -/
def qu (d : Int) : List Nat → Prop
  | [] => True
  | c :: r => 0 ≤ d + wgt c ∧ (d + wgt c ≠ 0 ∨ c ≠ 32) ∧ qu (d + wgt c) r
theorem qu_app : ∀ (d : Int) (p q : List Nat), qu d p → qu (d + dep p) q → qu d (p ++ q)
  | d, [], q, _, h => by simpa [dep] using h
  | d, c :: p, q, h1, h2 => ⟨h1.1, h1.2.1, qu_app _ p q h1.2.2 (by rw [dep] at h2; rw [show d + wgt c + dep p = d + (wgt c + dep p) by omega]; exact h2)⟩
theorem qu_nn : ∀ (d : Int) (p : List Nat), qu d p → nn d p
  | _, [], _ => trivial
  | d, c :: p, h => ⟨h.1, qu_nn _ p h.2.2⟩
theorem nn_qu : ∀ (d : Int) (p : List Nat), nn d p → qu (d + 1) p
  | _, [], _ => trivial
  | d, c :: p, h => ⟨by have := h.1; omega, .inl (by have := h.1; omega), by have := nn_qu _ p h.2; rw [show d + 1 + wgt c = d + wgt c + 1 by omega]; exact this⟩
theorem wgt0 {c : Nat} (h : c ≠ 40 ∧ c ≠ 91 ∧ c ≠ 123 ∧ c ≠ 41 ∧ c ≠ 93 ∧ c ≠ 125) : wgt c = 0 := by
  unfold wgt
  rw [if_neg (by omega), if_neg (by omega)]; rfl
theorem plain_dep : ∀ {p : List Nat}, (∀ c ∈ p, wgt c = 0) → dep p = 0
  | [], _ => rfl
  | c :: p, h => by rw [dep, h c List.mem_cons_self, plain_dep fun x hx => h x (List.mem_cons_of_mem _ hx)]; rfl
theorem plain_nn : ∀ {d : Int} {p : List Nat}, 0 ≤ d → (∀ c ∈ p, wgt c = 0) → nn d p
  | _, [], _, _ => trivial
  | d, c :: p, h0, h => by
    have e := h c List.mem_cons_self
    refine ⟨by rw [e]; omega, ?_⟩
    rw [e, Int.add_zero]
    exact plain_nn h0 fun x hx => h x (List.mem_cons_of_mem _ hx)
theorem plain_qu : ∀ {d : Int} {p : List Nat}, 0 ≤ d → (∀ c ∈ p, wgt c = 0 ∧ c ≠ 32) → qu d p
  | _, [], _, _ => trivial
  | d, c :: p, h0, h => by
    obtain ⟨e, e2⟩ := h c List.mem_cons_self
    refine ⟨by rw [e]; omega, .inr e2, ?_⟩
    rw [e, Int.add_zero]
    exact plain_qu h0 fun x hx => h x (List.mem_cons_of_mem _ hx)
/-- o p c, brackets around -/
theorem around_ok {o c : Nat} {p : List Nat} (ho : wgt o = 1 ∧ o ≠ 32) (hc : wgt c = -1 ∧ c ≠ 32) (hp : nn 0 p) (hd : dep p = 0) : dep (o :: (p ++ [c])) = 0 ∧ qu 0 (o :: (p ++ [c])) := by
  have e1 : dep (p ++ [c]) = -1 := by rw [dep_app, hd, dep, dep, hc.1]; rfl
  refine ⟨by rw [dep, ho.1, e1]; rfl, by rw [ho.1]; decide, .inr ho.2, ?_⟩
  rw [ho.1]
  refine qu_app _ _ _ (nn_qu 0 p hp) ⟨?_, .inr hc.2, trivial⟩
  rw [hd, hc.1]; decide
theorem wgt_opn (s : Bool) : wgt (opn s) = 1 ∧ opn s ≠ 32 := by cases s <;> decide
theorem wgt_cls (s : Bool) : wgt (cls s) = -1 ∧ cls s ≠ 32 := by cases s <;> decide
theorem wgt_num {n c : Nat} (h : c ∈ numL n) : wgt c = 0 ∧ c ≠ 32 := by
  have q := numL_digits n c h
  exact ⟨wgt0 (by omega), by omega⟩
theorem wgt_letter {c : Nat} (h : letter c = true) : wgt c = 0 ∧ c ≠ 32 := by
  simp [letter] at h
  exact ⟨wgt0 (by omega), by omega⟩
theorem sep_ok (s : Bool) : dep (sep s) = 0 ∧ nn 0 (sep s) := by cases s <;> (unfold nn dep sep sgn; simp [wgt, nn, dep])
theorem join_ok (s : Bool) : ∀ {ps : List (List Nat)}, (∀ p ∈ ps, dep p = 0 ∧ nn 0 p) → dep (joinL (sep s) ps) = 0 ∧ nn 0 (joinL (sep s) ps)
  | [], _ => ⟨rfl, trivial⟩
  | [p], h => h p List.mem_cons_self
  | p :: q :: r, h => by
    obtain ⟨h1, h2⟩ := h p List.mem_cons_self
    obtain ⟨i1, i2⟩ := join_ok s (ps := q :: r) fun x hx => h x (List.mem_cons_of_mem _ hx)
    obtain ⟨s1, s2⟩ := sep_ok s
    refine ⟨?_, ?_⟩
    · rw [joinL, dep_app, dep_app, h1, s1, i1]; rfl
    · rw [joinL]
      refine nn_app _ _ _ h2 ?_
      rw [h1]
      refine nn_app _ _ _ s2 ?_
      rw [s1]; exact i2
mutual
theorem txt_ok : ∀ {t : T}, Good t → dep (txt t) = 0 ∧ qu 0 (txt t)
  | .one, _ => by simp [txt, dep, qu, wgt]
  | .name x, h => by
    obtain ⟨h0, h1, h2⟩ := h
    rw [txt]
    exact ⟨plain_dep fun c hc => (wgt_letter (h2 c hc)).1, plain_qu (by decide) fun c hc => wgt_letter (h2 c hc)⟩
  | .cop s n t, h => by
    obtain ⟨h1, h2, h3⟩ := h
    obtain ⟨e1, e2⟩ := txt_ok h3
    rw [txt, show numL n ++ 32 :: (txt t ++ [cls s]) = (numL n ++ 32 :: txt t) ++ [cls s] by simp]
    have d0 : dep (numL n) = 0 := plain_dep fun c hc => (wgt_num hc).1
    refine around_ok (wgt_opn s) (wgt_cls s) (nn_app _ _ _ (plain_nn (by decide) fun c hc => (wgt_num hc).1) ?_) ?_
    · rw [d0]
      exact ⟨by decide, qu_nn _ _ e2⟩
    · rw [dep_app, d0, dep, e1]; decide
  | .row s ts, h => by
    rw [txt]
    obtain ⟨j1, j2⟩ := join_ok s (ps := txts ts) fun p hp => by
      obtain ⟨q1, q2⟩ := txts_ok h.2 p hp
      exact ⟨q1, qu_nn _ _ q2⟩
    exact around_ok (by decide) (by decide) j2 j1
theorem txts_ok : ∀ {ts : List T}, Goods ts → ∀ p ∈ txts ts, dep p = 0 ∧ qu 0 p
  | [], _, p, hp => by simp [txts] at hp
  | t :: ts, h, p, hp => by
    rw [txts] at hp
    rcases List.mem_cons.mp hp with rfl | hp
    · exact txt_ok h.1
    · exact txts_ok h.2 p hp
end
/-- the first sign -/
theorem txt_head {t : T} (h : Good t) : ∃ c r, txt t = c :: r ∧ c ≠ 32 ∧ c ≠ 43 ∧ c ≠ 42 := by
  cases t with
  | one => exact ⟨49, [], by rw [txt], by decide, by decide, by decide⟩
  | name x =>
    obtain ⟨h0, h1, h2⟩ := h
    cases x with
    | nil => exact absurd rfl h0
    | cons c r =>
      have q := h2 c List.mem_cons_self
      simp [letter] at q
      exact ⟨c, r, by rw [txt], by omega, by omega, by omega⟩
  | cop s n t => exact ⟨opn s, _, by rw [txt], by cases s <;> decide, by cases s <;> decide, by cases s <;> decide⟩
  | row s ts => exact ⟨40, _, by rw [txt], by decide, by decide, by decide⟩
theorem G_qu {L : List Nat} (s : Nat) (S : List Nat) (hs : s = 32) : ∀ (p R : List Nat) (i : Nat) (d : Int) (b : Nat) (f : List (List Nat)), qu d p → G L (s :: S) (p ++ R) i d b f = G L (s :: S) R (i + p.length) (d + dep p) b f
  | [], R, i, d, b, f, _ => by simp [dep]
  | c :: p, R, i, d, b, f, h => by
    obtain ⟨h1, h2, h3⟩ := h
    rw [List.cons_append, G, if_neg, G_qu s S hs p R _ _ b f h3, dep, List.length_cons]
    · congr 1 <;> omega
    · rintro ⟨z, y⟩
      rcases h2 with h2 | h2
      · exact h2 z
      · rw [pre_of_head _ _ (by rw [hs]; exact h2)] at y
        cases y
theorem sep_len (s : Bool) : (sep s).length = 3 := rfl
theorem pre_other {x y z : Nat} {r : List Nat} (s : Bool) (h : y ≠ sgn s) : pre (sep s) (x :: y :: r) = false := by
  cases e : pre (sep s) (x :: y :: r) with
  | false => rfl
  | true =>
    unfold pre sep at e
    simp at e
    exact absurd e.2.1 h
/-- the sign itself: one more part -/
theorem G_sep {L : List Nat} (s : Bool) {c : Nat} {R : List Nat} (i b : Nat) (f : List (List Nat)) (hc : c ≠ 43 ∧ c ≠ 42) : G L (sep s) (sep s ++ (c :: R)) i 0 b f = G L (sep s) (c :: R) (i + 3) 0 (i + 3) (f ++ [(L.take i).drop b]) := by
  have w1 : wgt 32 = 0 := by decide
  have w2 : wgt (sgn s) = 0 := by cases s <;> decide
  show G L (sep s) (32 :: sgn s :: 32 :: c :: R) i 0 b f = _
  rw [G, if_pos ⟨by rw [w1]; rfl, by rw [show 32 :: sgn s :: 32 :: c :: R = sep s ++ (c :: R) from rfl]; exact pre_self _ _⟩]
  rw [G, if_neg (by rintro ⟨_, y⟩; rw [show sep s = 32 :: [sgn s, 32] from rfl, pre_of_head _ _ (by cases s <;> decide)] at y; cases y)]
  rw [G, if_neg (by rintro ⟨_, y⟩; rw [pre_other (z := 0) s (by cases s <;> simp [sgn, hc.1, hc.2])] at y; cases y)]
  rw [w1, w2]; rfl
/-- another sign: nothing -/
theorem G_no {L : List Nat} (s : Bool) {c : Nat} {R : List Nat} (i b : Nat) (f : List (List Nat)) (hc : c ≠ 43 ∧ c ≠ 42) : G L (sep s) (sep (!s) ++ (c :: R)) i 0 b f = G L (sep s) (c :: R) (i + 3) 0 b f := by
  have w1 : wgt 32 = 0 := by decide
  have w2 : wgt (sgn (!s)) = 0 := by cases s <;> decide
  show G L (sep s) (32 :: sgn (!s) :: 32 :: c :: R) i 0 b f = _
  rw [G, if_neg (by rintro ⟨_, y⟩; rw [pre_other (z := 0) s (by cases s <;> decide)] at y; cases y)]
  rw [G, if_neg (by rintro ⟨_, y⟩; rw [show sep s = 32 :: [sgn s, 32] from rfl, pre_of_head _ _ (by cases s <;> decide)] at y; cases y)]
  rw [G, if_neg (by rintro ⟨_, y⟩; rw [pre_other (z := 0) s (by cases s <;> simp [sgn, hc.1, hc.2])] at y; cases y)]
  rw [w1, w2]; rfl
theorem join_head {s : Bool} : ∀ {t : T} {ts : List T}, Good t → ∃ c r, joinL (sep s) (txts (t :: ts)) = c :: r ∧ c ≠ 43 ∧ c ≠ 42
  | t, [], h => by
    obtain ⟨c, r, e, h1, h2, h3⟩ := txt_head h
    exact ⟨c, r, by rw [txts, txts, joinL, e], h2, h3⟩
  | t, u :: ts, h => by
    obtain ⟨c, r, e, h1, h2, h3⟩ := txt_head h
    exact ⟨c, _, by rw [txts, txts, joinL, e, List.cons_append], h2, h3⟩
theorem G_join {s : Bool} : ∀ {ts : List T} {L P : List Nat} (f : List (List Nat)), ts ≠ [] → Goods ts → L = P ++ joinL (sep s) (txts ts) → G L (sep s) (joinL (sep s) (txts ts)) P.length 0 P.length f = f ++ txts ts
  | [], _, _, _, h, _, _ => absurd rfl h
  | [t], L, P, f, _, h, e => by
    obtain ⟨d0, q0⟩ := txt_ok h.1
    rw [txts, txts, joinL] at e ⊢
    have := G_qu (L := L) 32 [sgn s, 32] rfl (txt t) [] P.length 0 P.length f q0
    rw [List.append_nil] at this
    rw [show sep s = 32 :: [sgn s, 32] from rfl, this, G, e, List.drop_left]
  | t :: u :: ts, L, P, f, _, h, e => by
    obtain ⟨d0, q0⟩ := txt_ok h.1
    obtain ⟨c, R, ej, c1, c2⟩ := join_head (s := s) (ts := ts) h.2.1
    have e1 : joinL (sep s) (txts (t :: u :: ts)) = txt t ++ (sep s ++ joinL (sep s) (txts (u :: ts))) := by rw [txts, txts, joinL]
    rw [e1] at e ⊢
    rw [show G L (sep s) = G L (32 :: [sgn s, 32]) from rfl, G_qu 32 [sgn s, 32] rfl _ _ _ _ _ _ q0, d0, ej]
    show G L (sep s) (sep s ++ (c :: R)) (P.length + (txt t).length) (0 + 0) P.length f = _
    rw [show (0 : Int) + 0 = 0 from rfl, G_sep s _ _ _ ⟨c1, c2⟩]
    have e2 : (L.take (P.length + (txt t).length)).drop P.length = txt t := by
      rw [e, ← List.length_append, ← List.append_assoc, List.take_left, List.drop_left]
    have ih := G_join (s := s) (ts := u :: ts) (L := L) (P := P ++ txt t ++ sep s) (f ++ [txt t]) (by simp) h.2 (by rw [e]; simp)
    rw [ej] at ih
    rw [e2]
    have el : (P ++ txt t ++ sep s).length = P.length + (txt t).length + 3 := by simp [sep_len]; omega
    rw [el] at ih
    rw [ih, show txts (t :: u :: ts) = txt t :: txts (u :: ts) by rw [txts]]
    simp
theorem G_none {s : Bool} : ∀ {ts : List T} {L : List Nat} (i b : Nat) (f : List (List Nat)), ts ≠ [] → Goods ts → G L (sep s) (joinL (sep (!s)) (txts ts)) i 0 b f = f ++ [L.drop b]
  | [], _, _, _, _, h, _ => absurd rfl h
  | [t], L, i, b, f, _, h => by
    obtain ⟨d0, q0⟩ := txt_ok h.1
    rw [txts, txts, joinL]
    have := G_qu (L := L) 32 [sgn s, 32] rfl (txt t) [] i 0 b f q0
    rw [List.append_nil] at this
    rw [show sep s = 32 :: [sgn s, 32] from rfl, this, G]
  | t :: u :: ts, L, i, b, f, _, h => by
    obtain ⟨d0, q0⟩ := txt_ok h.1
    obtain ⟨c, R, ej, c1, c2⟩ := join_head (s := !s) (ts := ts) h.2.1
    have e1 : joinL (sep (!s)) (txts (t :: u :: ts)) = txt t ++ (sep (!s) ++ joinL (sep (!s)) (txts (u :: ts))) := by rw [txts, txts, joinL]
    rw [e1, show G L (sep s) = G L (32 :: [sgn s, 32]) from rfl, G_qu 32 [sgn s, 32] rfl _ _ _ _ _ _ q0, d0, ej]
    show G L (sep s) (sep (!s) ++ (c :: R)) (i + (txt t).length) (0 + 0) b f = _
    rw [show (0 : Int) + 0 = 0 from rfl, G_no s _ _ _ ⟨c1, c2⟩, ← ej]
    exact G_none _ _ _ (by simp) h.2
/-- what parted tells -/
def parts (L S : List Nat) : List (List Nat) := G L S L 0 0 0 []
theorem parts_join {s : Bool} {ts : List T} (h0 : ts ≠ []) (h : Goods ts) : parts (joinL (sep s) (txts ts)) (sep s) = txts ts := G_join (P := []) [] h0 h rfl
theorem parts_none {s : Bool} {ts : List T} (h0 : ts ≠ []) (h : Goods ts) : parts (joinL (sep (!s)) (txts ts)) (sep s) = [joinL (sep (!s)) (txts ts)] := G_none 0 0 [] h0 h
theorem numL_head : ∀ {n : Nat}, 1 ≤ n → ∃ c r, numL n = c :: r ∧ c ≠ 48 := by
  intro n
  induction n using Nat.strongRecOn with
  | _ n ih =>
    intro h
    by_cases hn : n < 10
    · exact ⟨48 + n, [], numL_lt hn, by omega⟩
    · obtain ⟨c, r, e, hc⟩ := ih (n / 10) (by omega) (by omega)
      exact ⟨c, r ++ [48 + n % 10], by rw [numL_step (by omega), e, List.cons_append], hc⟩
end PL
namespace W
open PySem PySem.Spec PyProof.Rows L2 DL SX PL
abbrev tS (l : List Nat) : D := .str (S l)
def signsD : List (Str × D) := [("beside", .str " + "), ("introduced", .str " * ")]
def aroundD : List (Str × D) := [("beside", .tup [.str "[", .str "]"]), ("introduced", .tup [.str "{", .str "}"])]
def turnedD : List (Str × D) := [("+", .str "*"), ("*", .str "+"), ("[", .str "{"), ("{", .str "["), ("]", .str "}"), ("}", .str "]")]
/-- what is known of the module behind the top -/
structure Fx (w : World) (K : PySem.W.Frag) (mg : Str → Option Value) : Prop where
  bn : ∀ x, x ∈ bns → mg x = none
  gONE : ∃ t, mg "ONE" = some (.str "one" t)
  gNAME : ∃ t, mg "NAME" = some (.str "name" t)
  gBESIDE : ∃ t, mg "BESIDE" = some (.str "beside" t)
  gINTRODUCED : ∃ t, mg "INTRODUCED" = some (.str "introduced" t)
  gBLANK : ∃ t, mg "BLANK" = some (.str " " t)
  gLETTERS : ∃ t, mg "LETTERS" = some (.str "abcdefghijklmnopqrstuvwxyz" t)
  gFIGURES : ∃ t, mg "FIGURES" = some (.str "0123456789" t)
  gMOST_LETTERS : ∃ t, mg "MOST_LETTERS" = some (.int 8 t)
  gPERSON : ∃ t, mg "PERSON" = some (.str "1" t)
  gLEAST_MANY : ∃ t, mg "LEAST_MANY" = some (.int 2 t)
  gMOST_MANY : ∃ t, mg "MOST_MANY" = some (.int (10 ^ 30) t)
  gMOST_NAMES : ∃ t, mg "MOST_NAMES" = some (.int 3 t)
  gMOST_DEPTH : ∃ t, mg "MOST_DEPTH" = some (.int 60 t)
  gSIGNS : ∃ a kvs, mg "SIGNS" = some (.ref a) ∧ WrD K w a kvs ∧ ∀ M Z H, RepF K M Z H kvs signsD
  gAROUND : ∃ a kvs, mg "AROUND" = some (.ref a) ∧ WrD K w a kvs ∧ ∀ M Z H, RepF K M Z H kvs aroundD
  gTURNED : ∃ a kvs, mg "TURNED" = some (.ref a) ∧ WrD K w a kvs ∧ ∀ M Z H, RepF K M Z H kvs turnedD
section
variable {P : Program} {w : World} {K : PySem.W.Frag} {mg : Str → Option Value} {base : Heap}
def cIsInt : Con := fun ds M Φ => ∃ i l h, ds = [.int i, .int l, .int h] ∧ Φ (.bl (decide (l ≤ i) && decide (i ≤ h))) M
theorem ok_is_integer (F : Fx w K mg) : BodyOk P w K mg base "is_integer" s_is_integer ["value", "low", "high"] 3 0 cIsInt := by
  intro f cdv A outer s H E hr ds M Φ hl hc
  obtain ⟨i, l, h, rfl, hc⟩ := hc
  refine wss_cons (ws_if (wt_ww (ww_or (wt_not (wt_val (we_isi (F.bn _ (by decide +kernel)) (we_var 0 rfl (we_bty (F.bn _ (by decide +kernel)) rfl ⟨_, _, true, rfl, rfl, (by intro C h; cases h), rfl, _, rfl, ?_⟩))))))))
  refine ww_or1 (wt_val (we_isi (F.bn _ (by decide +kernel)) (we_var 0 rfl (we_bty (F.bn _ (by decide +kernel)) rfl ⟨_, _, false, rfl, rfl, (by intro C h; cases h), rfl, _, rfl, ?_⟩))))
  refine wss_nil (wss_cons (ws_ret (we_and (we_or (we_isN (we_var 1 rfl ⟨_, rfl, we_one (we_leI (we_var 1 rfl (we_var 0 rfl ⟨_, _, rfl, rfl, _, rfl, ?_⟩)))⟩))))))
  refine ite_dec (fun h1 => ?_) fun h1 => ?_
  · refine we_one (we_or (we_isN (we_var 2 rfl ⟨_, rfl, we_one (we_leI (we_var 0 rfl (we_var 2 rfl ⟨_, _, rfl, rfl, Lets.of ?_⟩)))⟩)))
    rw [decide_eq_true h1] at hc; exact hc
  · rw [decide_eq_false h1] at hc; exact Lets.of hc
def isNameL (l : List Nat) : Bool := decide (1 ≤ l.length) && (decide (l.length ≤ 8) && l.all letter)
theorem letters_eq : ("abcdefghijklmnopqrstuvwxyz" : Str) = S ((List.range 26).map (97 + ·)) := by decide +kernel
theorem figures_eq : ("0123456789" : Str) = S ((List.range 10).map (48 + ·)) := by decide +kernel
theorem mem_letters (c : Nat) : decide (c ∈ ("abcdefghijklmnopqrstuvwxyz" : Str).cps.toList) = letter c := by
  rw [letters_eq]
  unfold letter
  rw [← Bool.decide_and]
  apply decide_eq_decide.mpr
  show c ∈ (List.range 26).map (97 + ·) ↔ _
  simp only [List.mem_map, List.mem_range]
  constructor
  · rintro ⟨a, h, rfl⟩; omega
  · rintro ⟨h1, h2⟩; exact ⟨c - 97, by omega, by omega⟩
def figure (c : Nat) : Bool := decide (48 ≤ c) && decide (c ≤ 57)
theorem mem_figures (c : Nat) : decide (c ∈ ("0123456789" : Str).cps.toList) = figure c := by
  rw [figures_eq]
  unfold figure
  rw [← Bool.decide_and]
  apply decide_eq_decide.mpr
  show c ∈ (List.range 10).map (48 + ·) ↔ _
  simp only [List.mem_map, List.mem_range]
  constructor
  · rintro ⟨a, h, rfl⟩; omega
  · rintro ⟨h1, h2⟩; exact ⟨c - 48, by omega, by omega⟩
theorem signs_S (l : List Nat) : DL.signs (S l) = l.map fun c => D.str ⟨#[c]⟩ := rfl
theorem signs_get {l : List Nat} {i : Nat} {x : D} (h : (DL.signs (S l))[i]? = some x) : ∃ c, l[i]? = some c ∧ x = .str ⟨#[c]⟩ := by
  rw [signs_S, List.getElem?_map] at h
  obtain ⟨c, h1, rfl⟩ := Option.map_eq_some_iff.mp h
  exact ⟨c, h1, rfl⟩
theorem take_snoc {α : Type} {l : List α} {i : Nat} {c : α} (h : l[i]? = some c) : l.take (i + 1) = l.take i ++ [c] := by
  rw [List.take_add_one, h]; rfl
def cIsName : Con := fun ds M Φ => ∃ l, ds = [tS l] ∧ l.length ≤ 1000000 ∧ Φ (.bl (isNameL l)) M
theorem ok_is_name (F : Fx w K mg) : BodyOk P w K mg base "is_name" s_is_name ["value", "letter"] 1 0 cIsName := by
  intro f cdv A outer s H E hr ds M Φ hl hc
  obtain ⟨l, rfl, hl, hc⟩ := hc
  have nd : (["value", "letter"] : List Str).Nodup := by decide +kernel
  refine wss_cons (ws_if (wt_ww (ww_or (wt_not (wt_val (we_isi (F.bn _ (by decide +kernel)) (we_var 0 rfl (we_bty (F.bn _ (by decide +kernel)) rfl ⟨_, _, true, rfl, rfl, (by intro C h; cases h), rfl, _, rfl, ?_⟩))))))))
  refine ww_or1 (wt_not (wt_chainI (we_int (we_len (F.bn _ (by decide +kernel)) (we_var 0 rfl ⟨_, lenS (by rw [S_len, sizeLine_eq]; omega), _, _, rfl, rfl, ?_⟩)))))
  have e0 : ((S l).length : Int) = (l.length : Int) := by rw [S_len]
  have ret : ∀ c, isNameL l = c → Φ (.bl c) M := fun c e => e ▸ hc
  refine ite_dec (fun h1 => we_gint F.gMOST_LETTERS ⟨_, rfl, ?_⟩) fun h1 => ?_
  · by_cases h2 : ((S l).length : Int) ≤ 8
    · rw [decide_eq_true h2]
      refine wss_nil (wss_cons (ws_ret (we_all (F.bn _ (by decide +kernel)) (we_lc nd (blkOk_by (N := ["value", "letter"]) (sc := defScope s_is_name) (own := [("letter", 1)]) (by decide +kernel)) (fun _ _ _ _ _ => pg_name (i := 1) nd rfl (Or.inl rfl)) (gt_name (by decide)) (fun _ _ _ _ _ => pts_nil) tk_nil
        (wi_str (we_var 0 rfl ⟨_, rfl, ?_⟩))))))
      refine ⟨by rw [signs_S, List.length_map, sizeLine_eq]; omega, fun i acc M' => M' = M ∧ acc = (l.take i).map fun c => .bl (letter c), ⟨rfl, rfl⟩, ?_, ?_⟩
      · rintro i x acc M' hx ⟨rfl, rfl⟩ 
        obtain ⟨c, hc1, rfl⟩ := signs_get hx
        intro s1 H1 C cl fp
        refine we_inC (we_var 1 rfl (we_gstr F.gLETTERS ⟨c, _, rfl, rfl, rfl, ?_⟩))
        rw [mem_letters, take_snoc hc1, List.map_append]; rfl
      · rintro acc M' ⟨rfl, rfl⟩
        rw [signs_S, List.length_map, List.take_length]
        refine ⟨l.map letter, by rw [List.map_map]; rfl, Lets.of (ret _ ?_)⟩
        unfold isNameL
        rw [decide_eq_true (show 1 ≤ l.length by omega), decide_eq_true (show l.length ≤ 8 by omega)]
        simp
    · rw [decide_eq_false h2]
      refine wss_cons (ws_ret (we_bl (Lets.of (ret _ ?_))))
      unfold isNameL
      rw [decide_eq_false (show ¬ l.length ≤ 8 by omega)]; simp
  · refine wss_cons (ws_ret (we_bl (Lets.of (ret _ ?_))))
    unfold isNameL
    rw [decide_eq_false (show ¬ 1 ≤ l.length by omega)]; rfl
end
end W
namespace W
open PySem PySem.Spec PyProof.Rows L2 DL SX PL
section
variable {P : Program} {w : World} {K : PySem.W.Frag} {mg : Str → Option Value} {base : Heap}
theorem num_len {n : Nat} (h : n ≤ 10 ^ 30) : (TL.numL n).length ≤ 31 := TL.numL_len (by decide) (Nat.lt_of_le_of_lt h (by decide))
theorem num_int (n : Nat) (h : n ≤ 10 ^ 30) : PySem.intText? (S (TL.numL n)) = some (n : Int) := by
  rw [← num_S]
  exact TL.int_num (by have := num_len h; omega)
def cNumberIn : Con := fun ds M Φ => ∃ n : Nat, ds = [tS (TL.numL n)] ∧ 1 ≤ n ∧ n ≤ 10 ^ 30 ∧ Φ (.int n) M
theorem ok_number_in (F : Fx w K mg) : BodyOk P w K mg base "number_in" s_number_in ["text", "figure"] 1 0 cNumberIn := by
  intro f cdv A outer s H E hr ds M Φ hl hc
  obtain ⟨n, rfl, n1, n2, hc⟩ := hc
  have nd : (["text", "figure"] : List Str).Nodup := by decide +kernel
  obtain ⟨c, r, ec, c48⟩ := numL_head n1
  have hlen := num_len n2
  have e1 : decide (S (TL.numL n) = ("" : Str)) = false := decide_eq_false fun h => by
    have := S_inj (h.trans (show ("" : Str) = S [] by decide +kernel))
    rw [ec] at this; cases this
  have e2 : decide (S (TL.numL n) = ("0" : Str)) = false := decide_eq_false fun h => by
    have := S_inj (h.trans (show ("0" : Str) = S [48] by decide +kernel))
    rw [ec] at this; injection this with h1 _; exact c48 h1
  refine wss_cons (ws_if (wt_ww (ww_or (wt_eqS (we_var 0 rfl (we_str ⟨_, rfl, ?_⟩))))))
  rw [e1]
  refine ww_or1 (wt_not (wt_val (we_all (F.bn _ (by decide +kernel)) (we_lc nd (blkOk_by (N := ["text", "figure"]) (sc := defScope s_number_in) (own := [("figure", 1)]) (by decide +kernel)) (fun _ _ _ _ _ => pg_name (i := 1) nd rfl (Or.inl rfl)) (gt_name (by decide)) (fun _ _ _ _ _ => pts_nil) tk_nil
        (wi_str (we_var 0 rfl ⟨_, rfl, ?_⟩))))))
  refine ⟨by rw [signs_S, List.length_map, sizeLine_eq]; omega, fun i acc M' => M' = M ∧ acc = ((TL.numL n).take i).map fun c => .bl (figure c), ⟨rfl, rfl⟩, ?_, ?_⟩
  · rintro i x acc M' hx ⟨rfl, rfl⟩
    obtain ⟨c, hc1, rfl⟩ := signs_get hx
    intro s1 H1 C cl fp
    refine we_inC (we_var 1 rfl (we_gstr F.gFIGURES ⟨c, _, rfl, rfl, rfl, ?_⟩))
    rw [mem_figures, take_snoc hc1, List.map_append]; rfl
  · rintro acc M' ⟨rfl, rfl⟩
    rw [signs_S, List.length_map, List.take_length]
    refine ⟨(TL.numL n).map figure, by rw [List.map_map]; rfl, _, rfl, ?_⟩
    have e3 : ((TL.numL n).map figure).all id = true := by
      rw [List.all_map]
      refine List.all_eq_true.mpr fun c hc => ?_
      have q := TL.numL_digits n c hc
      show (decide (48 ≤ c) && decide (c ≤ 57)) = true
      rw [decide_eq_true q.1, decide_eq_true q.2]; rfl
    rw [e3]
    refine wss_nil (wss_cons (ws_ret (we_if (wt_ww (ww_or (wt_eqS (we_var 0 rfl (we_str ⟨_, rfl, ?_⟩))))))))
    rw [e2]
    refine ww_or1 (wt_neS (we_ix (we_var 0 rfl (we_int ⟨0, _, rfl, .inr (.inr ⟨_, c, rfl, by rw [S_len, sizeLine_eq]; omega, by show atI (TL.numL n) 0 = some c; rw [ec]; exact atI_nat (j := 0) rfl, rfl⟩), we_str ⟨_, rfl, ?_⟩⟩))))
    have e4 : decide ((⟨#[c]⟩ : Str) = ("0" : Str)) = false := decide_eq_false fun h => by
      have := S_inj (a := [c]) (h.trans (show ("0" : Str) = S [48] by decide +kernel))
      injection this with h1 _; exact c48 h1
    rw [e4]
    exact we_intS (F.bn _ (by decide +kernel)) (we_var 0 rfl ⟨_, _, rfl, num_int n n2, by rw [S_len]; omega, Lets.of hc⟩)
theorem cut_bi (l : List Nat) (b i : Nat) (h : i ≤ l.length) : cutS (S l) (some (b : Int)) (some (i : Int)) = S ((l.take i).drop b) := by
  unfold cutS
  rw [S_len, HT.sIx_nat, HT.sIx_nat, Nat.min_eq_left h]
  show S ((l.drop (min b l.length)).take (i - min b l.length)) = _
  congr 1
  by_cases hb : b ≤ l.length
  · rw [Nat.min_eq_left hb, List.drop_take]
  · rw [Nat.min_eq_right (by omega), List.drop_length, List.drop_eq_nil_of_le (by rw [List.length_take]; omega)]; simp
theorem cut_b (l : List Nat) (b : Nat) : cutS (S l) (some (b : Int)) none = S (l.drop b) := by
  unfold cutS
  rw [S_len, HT.sIx_nat, HT.sIx_none]
  show S ((l.drop (min b l.length)).take (l.length - min b l.length)) = _
  congr 1
  by_cases hb : b ≤ l.length
  · rw [Nat.min_eq_left hb]; exact List.take_of_length_le (by rw [List.length_drop]; omega)
  · rw [Nat.min_eq_right (by omega), List.drop_length, List.drop_eq_nil_of_le (by omega)]; simp
theorem starts_at {l s : List Nat} (hs : s ≠ []) (i : Nat) (hi : i ≤ l.length) : Txt.startswith3 (S l) (S s) (i : Int) = TL.pre s (l.drop i) := by
  have e : PySem.fromIndex (S l).length (i : Int) = i := by
    rw [S_len]; unfold PySem.fromIndex; rw [if_neg (by omega)]; omega
  unfold Txt.startswith3
  rw [e]
  have q := TL.at_iff (x := S l) (y := S s) hs i
  cases hp : TL.pre s (l.drop i) with
  | true =>
    obtain ⟨h1, h2⟩ := q.mpr hp
    rw [h2, decide_eq_true h1]; rfl
  | false =>
    cases h1 : decide (i + (S s).length ≤ (S l).length) with
    | false => rfl
    | true =>
      cases h2 : Builtin.Str.subAt (S l) (S s) i with
      | false => rfl
      | true =>
        have := q.mp ⟨of_decide_eq_true h1, h2⟩
        rw [show TL.pre (TL.tl (S s)) ((TL.tl (S l)).drop i) = TL.pre s (l.drop i) from rfl, hp] at this
        cases this
theorem enumS_get {l : List Nat} {i : Nat} {x : D} (h : (enumS (S l))[i]? = some x) : ∃ c, l[i]? = some c ∧ x = .tup [.int (i : Nat), .str ⟨#[c]⟩] := by
  unfold enumS at h
  rw [List.getElem?_map] at h
  obtain ⟨j, h1, rfl⟩ := Option.map_eq_some_iff.mp h
  obtain ⟨h2, rfl⟩ := List.getElem?_eq_some_iff.mp h1
  rw [List.length_range] at h2
  rw [List.getElem_range]
  have h3 : i < l.length := by simpa using h2
  refine ⟨l[i], List.getElem?_eq_getElem h3, ?_⟩
  have : (S l).cps.getD i 0 = l[i] := by simp [Array.getD, h3]
  rw [this]
theorem enumS_len (l : List Nat) : (enumS (S l)).length = l.length := by simp [enumS]
theorem opens (c : Nat) : decide (c ∈ ("([{" : Str).cps.toList) = decide (c = 40 ∨ c = 91 ∨ c = 123) := by
  rw [show ("([{" : Str) = S [40, 91, 123] by decide +kernel]
  simp
theorem closes (c : Nat) : decide (c ∈ (")]}" : Str).cps.toList) = decide (c = 41 ∨ c = 93 ∨ c = 125) := by
  rw [show (")]}" : Str) = S [41, 93, 125] by decide +kernel]
  simp
theorem wgt_code (d : Int) (c : Nat) : d + (if decide (c ∈ ("([{" : Str).cps.toList) = true then 1 else 0) - (if decide (c ∈ (")]}" : Str).cps.toList) = true then 1 else 0) = d + wgt c := by
  rw [opens, closes]
  unfold wgt
  simp only [decide_eq_true_eq]
  omega
def cParted : Con := fun ds M Φ => ∃ l b, ds = [tS l, tS (sep b)] ∧ l.length ≤ 1000000 ∧ Φ (.lst ((parts l (sep b)).map tS)) M
theorem les_new {M : Mp} {p : Addr} {o : MO} (h : M p = none) : Les M (mset M p o) := fun b => by
  by_cases e : b = p
  · rw [e]; exact .inr h
  · rw [mset_ne e]; exact .inl rfl
theorem ok_parted (F : Fx w K mg) : BodyOk P w K mg base "parted" s_parted ["text", "sign", "found", "depth", "begin", "at", "letter"] 2 0 cParted := by
  intro f cdv A outer s H E hr ds M Φ hl hc
  obtain ⟨l, sb, rfl, hl, hc⟩ := hc
  have nd : (["text", "sign", "found", "depth", "begin", "at", "letter"] : List Str).Nodup := by decide +kernel
  refine wss_cons (ws_set 2 nd (we_lstM (wa_nil ⟨by decide, fun p hp => ?_⟩)))
  refine wss_cons (ws_set 3 nd (we_int ?_))
  refine wss_cons (ws_set 4 nd (we_int ?_))
  refine wss_cons (ws_for PassesOwn.never (wi_enumS (F.bn _ (by decide +kernel)) (we_var 0 rfl ⟨_, rfl, ?_⟩)))
  refine ⟨fun i ρ' M' => ∃ o1 o2 d b fo, ρ' = [some (tS l), some (tS (sep sb)), some (.ob p), some (.int d), some (.int (b : Nat)), o1, o2] ∧ M' = mset M p (.lst (fo.map tS)) ∧ fo.length ≤ i ∧ G l (sep sb) (l.drop i) i d b fo = parts l (sep sb), ?_, ?_, ?_⟩
  · exact ⟨none, none, 0, 0, [], rfl, rfl, Nat.le_refl _, rfl⟩
  · rintro i x ρ' M' hx ⟨o1, o2, d, b, fo, rfl, rfl, hf, hG⟩
    obtain ⟨c, hc1, rfl⟩ := enumS_get hx
    have hi : i < l.length := (List.getElem?_eq_some_iff.mp hc1).1
    refine wg_tup ⟨rfl, rfl, wgs_cons (wg_name 5 (wgs_cons (wg_name 6 (wgs_nil ⟨rfl, ?_⟩) nd)) nd)⟩
    refine wss_cons (ws_set 3 nd (we_subI (we_addI (we_var 3 rfl (we_intN (F.bn _ (by decide +kernel)) (we_inC (we_var 6 rfl (we_str ⟨c, _, rfl, rfl, .inr ⟨_, rfl, _, _, rfl, rfl, ?_⟩⟩))))))))
    refine we_intN (F.bn _ (by decide +kernel)) (we_inC (we_var 6 rfl (we_str ⟨c, _, rfl, rfl, .inr ⟨_, rfl, _, _, rfl, rfl, ?_⟩⟩)))
    rw [wgt_code]
    have ed : l.drop i = c :: l.drop (i + 1) := by
      rw [List.drop_eq_getElem_cons hi]
      rw [List.getElem?_eq_getElem hi] at hc1; cases hc1; rfl
    rw [ed, PL.G] at hG
    refine wss_cons (ws_if (wt_ww (ww_and (wt_eqS (we_var 3 rfl (we_int ⟨_, rfl, ?_⟩))))))
    by_cases h0 : d + wgt c = 0
    · rw [decide_eq_true h0]
      refine ww_and1 (wt_val (we_startsAt (we_var 0 rfl ⟨_, rfl, we_var 1 rfl (we_var 5 rfl ⟨_, _, rfl, rfl, _, rfl, ?_⟩)⟩)))
      rw [starts_at (by simp [sep]) i (by omega), ed]
      cases hp2 : TL.pre (sep sb) (c :: l.drop (i + 1)) with
      | true =>
        rw [if_pos ⟨h0, hp2⟩] at hG
        refine wss_cons (ws_expr (we_append (we_var 2 rfl ⟨p, _, rfl, mset_same, we_slice (we_var 0 rfl (we_var 4 rfl ⟨_, rfl, we_var 5 rfl ⟨_, rfl, _, .inr (.inr ⟨_, rfl, by rw [S_len, sizeLine_eq]; omega, rfl⟩), _, mset_same, by rw [List.length_map, sizeLine_eq]; omega, ?_⟩⟩))⟩)))
        rw [mset_mset, cut_bi _ _ _ (by omega)]
        refine wss_cons (ws_set 4 nd (we_addI (we_var 5 rfl (we_len (F.bn _ (by decide +kernel)) (we_var 1 rfl ⟨_, lenS (by rw [S_len, sizeLine_eq, sep_len]; omega), _, _, rfl, rfl, wss_nil (wss_nil ?_)⟩)))))
        refine ⟨some (.int (i : Nat)), some (.str ⟨#[c]⟩), d + wgt c, i + 3, fo ++ [(l.take i).drop b], ?_, ?_, by rw [List.length_append, List.length_singleton]; omega, hG⟩
        · rw [S_len, sep_len]
          rfl
        · rw [List.map_append]; rfl
      | false =>
        rw [if_neg (by rintro ⟨_, y⟩; rw [hp2] at y; cases y)] at hG
        exact wss_nil (wss_nil ⟨_, _, _, b, fo, rfl, rfl, by omega, hG⟩)
    · rw [decide_eq_false h0]
      rw [if_neg (fun y => h0 y.1)] at hG
      exact wss_nil (wss_nil ⟨_, _, _, b, fo, rfl, rfl, by omega, hG⟩)
  · rintro ρ' M' ⟨o1, o2, d, b, fo, rfl, rfl, hf, hG⟩
    rw [enumS_len] at hG hf
    rw [List.drop_length, PL.G] at hG
    refine wss_cons (ws_ret (we_lst (wa_star (we_var 2 rfl ⟨_, .inl mset_same, wa_cons (we_slice (we_var 0 rfl (we_var 4 rfl ⟨_, rfl, _, .inr (.inr ⟨_, rfl, by rw [S_len, sizeLine_eq]; omega, rfl⟩), wa_nil fun ys ey => ⟨?_, ?_⟩⟩)))⟩))))
    · rw [ey, List.length_append, List.length_map, List.length_singleton, sizeLine_eq]; omega
    · refine ⟨_, M, les_new hp, .same _, ?_⟩
      rw [ey, cut_b]
      rw [← hG, List.map_append] at hc
      exact hc
end
end W
namespace W
open PySem PySem.Spec PyProof.Rows L2 DL SX PL
section
variable {P : Program} {w : World} {K : PySem.W.Frag} {mg : Str → Option Value} {base : Heap}
theorem le30 {n : Nat} (h : n ≤ 10 ^ 30) : (n : Int) ≤ 10 ^ 30 := by
  have e : ((10 ^ 30 : Nat) : Int) = 10 ^ 30 := by decide +kernel
  omega
theorem sz1 : 1 ≤ sizeLine := by decide
theorem sz2 : 2 ≤ sizeLine := by decide
theorem sz3 : 3 ≤ sizeLine := by decide
def wrd (b : Bool) : Str := if b then "introduced" else "beside"
theorem starts1 (c d : Nat) (r : List Nat) : Txt.startswith (S (c :: r)) (S [d]) = decide (c = d) := by
  have q := TL.at_iff (x := S (c :: r)) (y := S [d]) (by simp [TL.tl]) 0
  have e : TL.pre (TL.tl (S [d])) ((TL.tl (S (c :: r))).drop 0) = decide (c = d) := by
    show TL.pre [d] (c :: r) = _
    unfold TL.pre
    simp
    rfl
  rw [e] at q
  unfold Txt.startswith
  rw [S_len, S_len]
  rw [show decide (0 + [d].length ≤ (c :: r).length) = true from decide_eq_true (by simp), Bool.true_and]
  by_cases h : c = d
  · rw [decide_eq_true h] at q ⊢
    exact (q.mpr rfl).2
  · rw [decide_eq_false h] at q ⊢
    cases hs : Builtin.Str.subAt (S (c :: r)) (S [d]) 0 with
    | false => rfl
    | true => exact absurd (q.mp ⟨by rw [S_len, S_len]; simp, hs⟩) (by decide)
theorem ends1 (c d : Nat) (r : List Nat) : Txt.endswith (S (r ++ [c])) (S [d]) = decide (c = d) := by
  have q := TL.at_iff (x := S (r ++ [c])) (y := S [d]) (by simp [TL.tl]) r.length
  have e : TL.pre (TL.tl (S [d])) ((TL.tl (S (r ++ [c]))).drop r.length) = decide (c = d) := by
    show TL.pre [d] ((r ++ [c]).drop r.length) = _
    rw [List.drop_left]
    unfold TL.pre
    simp
    rfl
  rw [e] at q
  unfold Txt.endswith
  have el : (S (r ++ [c])).length - (S [d]).length = r.length := by rw [S_len, S_len]; simp
  rw [el, S_len, S_len]
  rw [show decide (0 + [d].length ≤ (r ++ [c]).length) = true from decide_eq_true (by simp), Bool.true_and]
  by_cases h : c = d
  · rw [decide_eq_true h] at q ⊢
    exact (q.mpr rfl).2
  · rw [decide_eq_false h] at q ⊢
    cases hs : Builtin.Str.subAt (S (r ++ [c])) (S [d]) r.length with
    | false => rfl
    | true => exact absurd (q.mp ⟨by rw [S_len, S_len]; simp, hs⟩) (by decide)
theorem cut_mid (o c : Nat) (m : List Nat) : cutS (S (o :: (m ++ [c]))) (some 1) (some (-1)) = S m := by
  unfold cutS
  rw [S_len, show (some (1 : Int)) = some ((1 : Nat) : Int) from rfl, HT.sIx_nat]
  have e1 : (o :: (m ++ [c])).length = m.length + 2 := by simp
  have e2 : HT.sIx (o :: (m ++ [c])).length (o :: (m ++ [c])).length (some (-1)) = m.length + 1 := by
    rw [e1]; simp only [HT.sIx]; rw [if_pos (by decide)]; omega
  rw [e2, e1, Nat.min_eq_left (by omega)]
  show S (((m ++ [c]).drop 0).take (m.length + 1 - 1)) = _
  rw [List.drop_zero, Nat.add_sub_cancel, List.take_left]
theorem br_S (b : Bool) : (S [opn b], S [cls b]) = (if b then (("{" : Str), ("}" : Str)) else (("[" : Str), ("]" : Str))) := by
  cases b <;> decide +kernel
theorem around_get {i : Nat} {x : D} (h : (gitems aroundD)[i]? = some x) : ∃ b : Bool, x = .tup [.str (wrd b), .tup [tS [opn b], tS [cls b]]] ∧ i = if b then 1 else 0 := by
  match i, h with
  | 0, h =>
    cases h
    refine ⟨false, ?_, rfl⟩
    have := br_S false
    injection this with h1 h2
    rw [tS, tS, h1, h2]; rfl
  | 1, h =>
    cases h
    refine ⟨true, ?_, rfl⟩
    have := br_S true
    injection this with h1 h2
    rw [tS, tS, h1, h2]; rfl
  | n + 2, h => simp [gitems, aroundD] at h
theorem sep_S (b : Bool) : S (sep b) = (if b then (" * " : Str) else (" + " : Str)) := by cases b <;> decide +kernel
theorem signs_of {i : Nat} {x : D} (h : (gitems signsD)[i]? = some x) : ∃ b : Bool, x = .tup [.str (wrd b), tS (sep b)] ∧ i = if b then 1 else 0 := by
  match i, h with
  | 0, h => cases h; refine ⟨false, ?_, rfl⟩; rw [tS, sep_S]; rfl
  | 1, h => cases h; refine ⟨true, ?_, rfl⟩; rw [tS, sep_S]; rfl
  | n + 2, h => simp [gitems, signsD] at h
/-- the first sign, and no bracket of copies -/
theorem txt_no {t : T} (h : Good t) (hn : ∀ s n u, t ≠ .cop s n u) : ∃ c r, txt t = c :: r ∧ ∀ b, c ≠ opn b := by
  cases t with
  | one => exact ⟨49, [], by rw [txt], fun b => by cases b <;> decide⟩
  | name x =>
    obtain ⟨h0, h1, h2⟩ := h
    cases x with
    | nil => exact absurd rfl h0
    | cons c r =>
      have q := h2 c List.mem_cons_self
      simp [letter] at q
      exact ⟨c, r, by rw [txt], fun b => by cases b <;> simp [opn] <;> omega⟩
  | cop s n u => exact absurd rfl (hn s n u)
  | row s ts => exact ⟨40, _, by rw [txt], fun b => by cases b <;> decide⟩
def copR : T → D
  | .cop s n t => .tup [.str (wrd s), .lst [.tup [.int (n : Nat), tS (txt t)]]]
  | _ => .non
theorem opn_inj {a b : Bool} : decide (opn a = opn b) = decide (a = b) := by cases a <;> cases b <;> decide
def cCopiesIn : Con := fun ds M Φ => ∃ t, ds = [tS (txt t)] ∧ Good t ∧ (txt t).length ≤ 1000000 ∧ Φ (copR t) M
theorem ok_copies_in (F : Fx w K mg) (Fn : Fc P w K mg base "number_in" [] 1 1 cNumberIn) : BodyOk P w K mg base "copies_in" s_copies_in ["text", "word", "head", "end", "number", "blank", "rest", "many"] 1 1 cCopiesIn := by
  intro f cdv A outer s H E hr ds M Φ hl hc
  obtain ⟨t, rfl, hg, hl, hc⟩ := hc
  have nd : (["text", "word", "head", "end", "number", "blank", "rest", "many"] : List Str).Nodup := by decide +kernel
  obtain ⟨a, kvs, h1, h2, h3⟩ := F.gAROUND
  refine wss_cons (ws_for PassesOwn.never (wi_gitems h1 h2 h3 ?_))
  refine ⟨fun i ρ' M' => ∃ o1 o2 o3 o4 o5 o6 o7, ρ' = [some (tS (txt t)), o1, o2, o3, o4, o5, o6, o7] ∧ M' = M ∧ ∀ s n u, t = .cop s n u → i ≤ if s then 1 else 0, ?_, ?_, ?_⟩
  · exact ⟨none, none, none, none, none, none, none, rfl, rfl, fun s n u _ => Nat.zero_le _⟩
  · rintro i x ρ' M' hx ⟨o1, o2, o3, o4, o5, o6, o7, rfl, rfl, hi⟩
    obtain ⟨b, rfl, rfl⟩ := around_get hx
    refine wg_tup ⟨rfl, rfl, wgs_cons (wg_name 1 (wgs_cons (wg_tup ⟨rfl, rfl, wgs_cons (wg_name 2 (wgs_cons (wg_name 3 (wgs_nil ⟨rfl, wgs_nil ⟨rfl, ?_⟩⟩) nd)) nd)⟩)) nd)⟩
    refine wss_cons (ws_if (wt_ww (ww_and (wt_val (we_startswith (we_var 0 rfl ⟨_, rfl, we_var 2 rfl ⟨_, rfl, _, rfl, ?_⟩⟩))))))
    by_cases hcop : ∃ s n u, t = .cop s n u
    · obtain ⟨s, n, u, rfl⟩ := hcop
      obtain ⟨n1, n2, hu⟩ := hg
      have et : txt (.cop s n u) = opn s :: ((TL.numL n ++ 32 :: txt u) ++ [cls s]) := by rw [txt]; simp
      have hl2 : (TL.numL n).length + (txt u).length + 3 ≤ 1000000 := by rw [et] at hl; simp at hl; omega
      rw [et, starts1, opn_inj]
      by_cases hs : s = b
      · subst hs
        rw [decide_eq_true rfl]
        refine ww_and1 (wt_val (we_endswith (we_var 0 (by rfl) ⟨_, rfl, we_var 3 rfl ⟨_, rfl, _, rfl, ?_⟩⟩)))
        rw [show opn s :: ((TL.numL n ++ 32 :: txt u) ++ [cls s]) = (opn s :: (TL.numL n ++ 32 :: txt u)) ++ [cls s] from rfl, ends1, decide_eq_true rfl]
        refine wss_cons (ws_asg (we_partition (we_slice (we_var 0 rfl (we_int ⟨1, rfl, we_negI (we_int ⟨1, rfl, _, rfl, _, .inr (.inr ⟨_, rfl, ?_, rfl⟩), _, rfl, we_gstr F.gBLANK ⟨_, rfl, ?_, ?_, ?_⟩⟩)⟩)))))
        · rw [S_len, sizeLine_eq]; simp; omega
        · decide +kernel
        · refine Nat.le_trans (cutS_length _ _ _) ?_
          rw [S_len, sizeLine_eq]; simp; omega
        · rw [show (opn s :: (TL.numL n ++ 32 :: txt u)) ++ [cls s] = opn s :: ((TL.numL n ++ 32 :: txt u) ++ [cls s]) from rfl, cut_mid, show (" " : Str) = S [32] by decide +kernel]
          have hp : Txt.partition (S (TL.numL n ++ 32 :: txt u)) (S [32]) = (S (TL.numL n), S [32], S (txt u)) :=
            partition_some (by simp) (par_head (c := 32) (sep := []) (p := TL.numL n) (txt u) (TL.numL_free (by omega)))
          rw [hp]
          refine wg_tup ⟨rfl, rfl, wgs_cons (wg_name 4 (wgs_cons (wg_name 5 (wgs_cons (wg_name 6 (wgs_nil ⟨rfl, ?_⟩) nd)) nd)) nd)⟩
          refine wss_cons (ws_set 7 nd (we_call Fn (hr.mono (by decide)) (wa_cons (we_var 4 rfl (wa_nil ⟨rfl, n, rfl, by omega, n2, ?_⟩)))))
          refine wss_cons (ws_if (wt_ww (ww_and (wt_notN (we_var 7 rfl ?_)))))
          refine ww_and1 (wt_chainI (we_gint F.gLEAST_MANY (we_var 7 rfl ⟨_, _, rfl, rfl, ?_⟩)))
          rw [decide_eq_true (show (2 : Int) ≤ (n : Int) by omega)]
          refine we_gint F.gMOST_MANY ⟨_, rfl, ?_⟩
          rw [decide_eq_true (le30 n2)]
          refine wss_cons (ws_ret (we_tup (wa_cons (we_var 1 rfl (wa_cons (we_lst (wa_cons (we_tup (wa_cons (we_var 7 rfl (wa_cons (we_var 6 rfl (wa_nil ⟨sz2, wa_nil ⟨sz1, wa_nil ⟨sz2, Lets.of hc⟩⟩⟩)))))))))))))
      · rw [decide_eq_false hs]
        refine wss_nil (wss_nil ⟨_, _, _, _, _, _, _, rfl, rfl, fun s' n' u' e => ?_⟩)
        cases e
        have := hi s n u rfl
        cases s <;> cases b <;> simp_all
    · obtain ⟨c, r, et, hno⟩ := txt_no hg fun s n u e => hcop ⟨s, n, u, e⟩
      rw [et, starts1, decide_eq_false (hno b)]
      exact wss_nil (wss_nil ⟨_, _, _, _, _, _, _, by rw [← et]; rfl, rfl, fun s' n' u' e => absurd ⟨s', n', u', e⟩ hcop⟩)
  · rintro ρ' M' ⟨o1, o2, o3, o4, o5, o6, o7, rfl, rfl, hi⟩
    refine wss_cons (ws_ret (we_non (Lets.of ?_)))
    cases t with
    | cop s n u =>
      have := hi s n u rfl
      cases s <;> simp [gitems, aroundD] at this
    | one => exact hc
    | name x => exact hc
    | row s ts => exact hc
def rowR (s : Bool) (ts : List T) : D := .tup [.str (wrd s), .lst (ts.map fun t => .tup [.int 1, tS (txt t)])]
theorem txts_len (ts : List T) : (txts ts).length = ts.length := by rw [txts_map, List.length_map]
theorem joins_len (s : Bool) : ∀ (ps : List (List Nat)), ps.length ≤ (TL.joinL (sep s) ps).length + 1
  | [] => Nat.zero_le _
  | [p] => by simp
  | p :: q :: r => by
    have ih := joins_len s (q :: r)
    rw [TL.joinL, List.length_append, List.length_append, sep_len]
    simp only [List.length_cons] at ih ⊢
    omega
theorem row_txt (s : Bool) (ts : List T) : txt (.row s ts) = 40 :: (TL.joinL (sep s) (txts ts) ++ [41]) := by rw [txt]
theorem row_len (s : Bool) (ts : List T) : (txt (.row s ts)).length = (TL.joinL (sep s) (txts ts)).length + 2 := by rw [row_txt]; simp
def cRowIn : Con := fun ds M Φ => ∃ s ts, ds = [tS (txt (.row s ts))] ∧ Good (.row s ts) ∧ (txt (.row s ts)).length ≤ 1000000 ∧ Φ (rowR s ts) M
theorem ok_row_in (F : Fx w K mg) (Fp : Fc P w K mg base "parted" [] 1 2 cParted) : BodyOk P w K mg base "row_in" s_row_in ["text", "word", "sign", "parts", "part"] 1 1 cRowIn := by
  intro f cdv A outer s H E hr ds M Φ hl hc
  obtain ⟨b, ts, rfl, ⟨hg1, hg⟩, hl, hc⟩ := hc
  have nd : (["text", "word", "sign", "parts", "part"] : List Str).Nodup := by decide +kernel
  obtain ⟨a, kvs, h1, h2, h3⟩ := F.gSIGNS
  have hz := row_len b ts
  have hn : ts ≠ [] := by rintro rfl; simp at hg1
  have hj := joins_len b (txts ts)
  rw [txts_len] at hj
  refine wss_cons (ws_if (wt_ww (ww_or (wt_not (wt_val (we_startswith (we_var 0 rfl ⟨_, rfl, we_str ⟨_, rfl, _, rfl, ?_⟩⟩)))))))
  have e1 : Txt.startswith (S (txt (.row b ts))) ("(" : Str) = true := by rw [row_txt, show ("(" : Str) = S [40] by decide +kernel, starts1, decide_eq_true rfl]
  have e2 : Txt.endswith (S (txt (.row b ts))) (")" : Str) = true := by rw [row_txt, show (")" : Str) = S [41] by decide +kernel, show 40 :: (TL.joinL (sep b) (txts ts) ++ [41]) = (40 :: TL.joinL (sep b) (txts ts)) ++ [41] from rfl, ends1, decide_eq_true rfl]
  rw [e1]
  refine ww_or1 (wt_not (wt_val (we_endswith (we_var 0 rfl ⟨_, rfl, we_str ⟨_, rfl, _, rfl, ?_⟩⟩))))
  rw [e2]
  refine wss_nil (wss_cons (ws_for PassesOwn.never (wi_gitems h1 h2 h3 ?_)))
  refine ⟨fun i ρ' M' => ∃ o1 o2 o3 o4, ρ' = [some (tS (txt (.row b ts))), o1, o2, o3, o4] ∧ M' = M ∧ i ≤ if b then 1 else 0, ?_, ?_, ?_⟩
  · exact ⟨none, none, none, none, rfl, rfl, Nat.zero_le _⟩
  · rintro i x ρ' M' hx ⟨o1, o2, o3, o4, rfl, rfl, hi⟩
    obtain ⟨c, rfl, rfl⟩ := signs_of hx
    refine wg_tup ⟨rfl, rfl, wgs_cons (wg_name 1 (wgs_cons (wg_name 2 (wgs_nil ⟨rfl, ?_⟩) nd)) nd)⟩
    refine wss_cons (ws_set 3 nd (we_call Fp (hr.mono (by decide)) (wa_cons (we_slice (we_var 0 rfl (we_int ⟨1, rfl, we_negI (we_int ⟨1, rfl, _, rfl, _, .inr (.inr ⟨_, rfl, ?_, rfl⟩), wa_cons (we_var 2 rfl (wa_nil ⟨rfl, TL.joinL (sep b) (txts ts), c, ?_, ?_, ?_⟩))⟩)⟩))))))
    · rw [S_len, sizeLine_eq]; omega
    · rw [row_txt, cut_mid]; rfl
    · omega
    · by_cases hbc : b = c
      · subst hbc
        rw [parts_join hn hg]
        refine wss_cons (ws_if (wt_gtI (we_len (F.bn _ (by decide +kernel)) (we_var 3 rfl ⟨_, lenL, we_int ⟨_, _, rfl, rfl, ?_⟩⟩))))
        rw [List.length_map, txts_len, decide_eq_true (show (1 : Int) < (ts.length : Int) by omega)]
        refine wss_cons (ws_ret (we_tup (wa_cons (we_var 1 rfl (wa_cons (we_lc nd (blkOk_by (N := ["text", "word", "sign", "parts", "part"]) (sc := defScope s_row_in) (own := [("part", 4)]) (by decide +kernel)) (fun _ _ _ _ _ => pg_name (i := 4) nd rfl (Or.inl rfl)) (gt_name (by decide)) (fun _ _ _ _ _ => pts_nil) tk_nil
          (wi_list (we_var 3 rfl ⟨_, .inl rfl, ?_⟩)))))))) 
        refine ⟨by rw [List.length_map, txts_len, sizeLine_eq]; omega, fun i acc M'' => M'' = M' ∧ acc = (ts.take i).map fun t => .tup [.int 1, tS (txt t)], ⟨rfl, rfl⟩, ?_, ?_⟩
        · rintro i x acc M'' hx ⟨rfl, rfl⟩
          rw [txts_map, List.map_map, List.getElem?_map] at hx
          obtain ⟨t, ht, rfl⟩ := Option.map_eq_some_iff.mp hx
          intro s1 H1 C cl fp
          refine we_tup (wa_cons (we_int (wa_cons (we_var 4 rfl (wa_nil ⟨sz2, rfl, ?_⟩)))))
          rw [take_snoc ht, List.map_append]; rfl
        · rintro acc M'' ⟨rfl, rfl⟩
          rw [List.length_map, txts_len, List.take_length]
          exact wa_nil ⟨sz2, Lets.of hc⟩
      · have hcb : c = !b := by cases b <;> cases c <;> simp_all
        subst hcb
        have := parts_none (s := !b) hn hg
        rw [Bool.not_not] at this
        rw [this]
        refine wss_cons (ws_if (wt_gtI (we_len (F.bn _ (by decide +kernel)) (we_var 3 rfl ⟨_, lenL, we_int ⟨_, _, rfl, rfl, ?_⟩⟩))))
        rw [show decide ((1 : Int) < ((([TL.joinL (sep b) (txts ts)].map tS).length : Nat) : Int)) = false from rfl]
        refine wss_nil (wss_nil ⟨_, _, _, _, rfl, rfl, ?_⟩)
        cases b <;> simp_all
  · rintro ρ' M' ⟨o1, o2, o3, o4, rfl, rfl, hi⟩
    cases b <;> simp [gitems, signsD] at hi
end
end W
namespace PL
open PySem SX TL
/-- how often, what -/
def kids : T → List (Nat × T)
  | .cop _ n t => [(n, t)]
  | .row _ ts => ts.map fun t => (1, t)
  | _ => []
def isCop : T → Bool
  | .cop _ _ _ => true
  | _ => false
mutual
def ppl : T → Nat
  | .one => 1
  | .name _ => 1
  | .cop _ n t => n * ppl t
  | .row _ ts => ppls ts
def ppls : List T → Nat
  | [] => 0
  | t :: ts => ppl t + ppls ts
end
theorem ppls_sum : ∀ ts : List T, ppls ts = (ts.map ppl).sum
  | [] => rfl
  | t :: ts => by rw [ppls, ppls_sum ts, List.map_cons, List.sum_cons]
theorem ppl_kids {t : T} (h : kids t ≠ []) : ppl t = ((kids t).map fun q => q.1 * ppl q.2).sum := by
  cases t with
  | one => simp [kids] at h
  | name x => simp [kids] at h
  | cop s n t => simp [kids, ppl]
  | row s ts =>
    rw [ppl, ppls_sum, kids, List.map_map]
    congr 1
    apply List.map_congr_left
    intro t _
    simp
theorem ppl_none {t : T} (h : kids t = []) (hg : Good t) : ppl t = 1 := by
  cases t with
  | one => rw [ppl]
  | name x => rw [ppl]
  | cop s n t => simp [kids] at h
  | row s ts =>
    have := hg.1
    simp [kids] at h
    subst h
    simp at this
theorem join_len_mem {S : List Nat} : ∀ {ps : List (List Nat)} {p : List Nat}, p ∈ ps → p.length ≤ (joinL S ps).length
  | [q], p, h => by
    have : p = q := by simpa using h
    subst this
    rw [joinL]; exact Nat.le_refl _
  | q :: r :: ps, p, h => by
    rw [joinL, List.length_append, List.length_append]
    rcases List.mem_cons.mp h with rfl | h
    · omega
    · have := join_len_mem (S := S) h
      omega
theorem kids_ok {t : T} {q : Nat × T} (hq : q ∈ kids t) (hg : Good t) : Good q.2 ∧ ht q.2 < ht t ∧ (txt q.2).length < (txt t).length ∧ 1 ≤ q.1 ∧ q.1 ≤ 10 ^ 30 := by
  cases t with
  | one => simp [kids] at hq
  | name x => simp [kids] at hq
  | cop s n t =>
    have : q = (n, t) := by simpa [kids] using hq
    subst this
    obtain ⟨h1, h2, h3⟩ := hg
    refine ⟨h3, by rw [ht]; exact Nat.lt_succ_self _, by rw [txt]; simp; omega, by show 1 ≤ n; omega, h2⟩
  | row s ts =>
    obtain ⟨t, ht', rfl⟩ := List.mem_map.mp (show q ∈ ts.map (fun t => (1, t)) from hq)
    refine ⟨goods_all.mp hg.2 t ht', ?_, ?_, Nat.le_refl _, show 1 ≤ 10 ^ 30 by decide⟩
    · rw [ht]; have := hts_le ht'; show ht t < _; omega
    · rw [txt]
      have : (txt t).length ≤ (joinL (sep s) (txts ts)).length := join_len_mem (by rw [txts_map]; exact List.mem_map_of_mem ht')
      simp; omega
theorem numL_lt16 : ∀ n : Nat, n < 16 ^ (numL n).length := by
  intro n
  induction n using Nat.strongRecOn with
  | _ n ih =>
    by_cases hn : n < 10
    · rw [numL_lt hn]; show n < 16 ^ 1; omega
    · have := ih (n / 10) (by omega)
      rw [numL_step (by omega), List.length_append, List.length_singleton, Nat.pow_succ]
      omega
theorem pow16_add {a b m n : Nat} (h1 : a < 16 ^ m) (h2 : b < 16 ^ n) : a + b < 16 ^ (m + n + 1) := by
  have e1 : 16 ^ m ≤ 16 ^ (m + n) := Nat.pow_le_pow_right (by decide) (by omega)
  have e2 : 16 ^ n ≤ 16 ^ (m + n) := Nat.pow_le_pow_right (by decide) (by omega)
  rw [Nat.pow_succ]
  omega
theorem pow16_le {a m n : Nat} (h1 : a < 16 ^ m) (h : m ≤ n) : a < 16 ^ n := Nat.lt_of_lt_of_le h1 (Nat.pow_le_pow_right (by decide) h)
mutual
theorem ppl_lt : ∀ {t : T}, Good t → ppl t < 16 ^ (txt t).length
  | .one, _ => by rw [ppl, txt]; decide
  | .name x, h => by
    rw [ppl, txt]
    have : 0 < x.length := List.length_pos_iff.mpr h.1
    exact pow16_le (m := 1) (by decide) this
  | .cop s n t, h => by
    rw [ppl, txt]
    have h1 := numL_lt16 n
    have h2 := ppl_lt h.2.2
    have h3 : n * ppl t < 16 ^ ((numL n).length + (txt t).length) := by
      rw [Nat.pow_add]
      exact Nat.mul_lt_mul'' h1 h2
    exact pow16_le h3 (by simp; omega)
  | .row s ts, h => by
    rw [ppl, txt]
    exact pow16_le (ppls_lt (s := s) h.2) (by simp; omega)
theorem ppls_lt {s : Bool} : ∀ {ts : List T}, Goods ts → ppls ts < 16 ^ (joinL (sep s) (txts ts)).length
  | [], _ => by rw [ppls]; exact Nat.pow_pos (by decide)
  | [t], h => by rw [ppls, ppls, txts, txts, joinL]; exact ppl_lt h.1
  | t :: u :: ts, h => by
    have h1 := ppl_lt h.1
    have h2 := ppls_lt (s := s) (ts := u :: ts) h.2
    rw [ppls, show txts (t :: u :: ts) = txt t :: txt u :: txts ts by rw [txts, txts], joinL]
    rw [show txts (u :: ts) = txt u :: txts ts by rw [txts]] at h2
    refine pow16_le (pow16_add h1 h2) ?_
    rw [List.length_append, List.length_append, sep_len]; omega
end
mutual
theorem txt_lt : ∀ {t : T}, Good t → ∀ c ∈ txt t, c < 128
  | .one, _, c, hc => by rw [txt] at hc; simp at hc; omega
  | .name x, h, c, hc => by
    rw [txt] at hc
    have q := h.2.2 c hc
    simp [letter] at q; omega
  | .cop s n t, h, c, hc => by
    rw [txt] at hc
    simp at hc
    rcases hc with rfl | hc | rfl | hc | rfl
    · cases s <;> decide
    · have := numL_digits n c hc; omega
    · decide
    · exact txt_lt h.2.2 c hc
    · cases s <;> decide
  | .row s ts, h, c, hc => by
    rw [txt] at hc
    simp at hc
    rcases hc with rfl | hc | rfl
    · decide
    · exact txts_lt (s := s) h.2 c hc
    · decide
theorem txts_lt {s : Bool} : ∀ {ts : List T}, Goods ts → ∀ c ∈ joinL (sep s) (txts ts), c < 128
  | [], _, c, hc => by rw [txts, joinL] at hc; simp at hc
  | [t], h, c, hc => by rw [txts, txts, joinL] at hc; exact txt_lt h.1 c hc
  | t :: u :: ts, h, c, hc => by
    rw [show txts (t :: u :: ts) = txt t :: txt u :: txts ts by rw [txts, txts], joinL] at hc
    rcases List.mem_append.mp hc with hc | hc
    · exact txt_lt h.1 c hc
    · rcases List.mem_append.mp hc with hc | hc
      · cases s <;> (simp [sep, sgn] at hc; omega)
      · exact txts_lt (s := s) (ts := u :: ts) h.2 c (by rw [show txts (u :: ts) = txt u :: txts ts by rw [txts]]; exact hc)
end
theorem log16 {a m : Nat} (h : a < 16 ^ m) : a.log2 ≤ 4 * m := by
  by_cases h0 : a = 0
  · subst h0; simp
  · have e : a < 2 ^ (4 * m) := by rw [Nat.pow_mul]; exact h
    exact Nat.le_of_lt ((Nat.log2_lt h0).mpr e)
end PL
namespace W
open PySem PySem.Spec PyProof.Rows L2 DL SX PL
section
variable {P : Program} {w : World} {K : PySem.W.Frag} {mg : Str → Option Value} {base : Heap}
def wordT : T → Str
  | .one => "one"
  | .name _ => "name"
  | .cop s _ _ => wrd s
  | .row s _ => wrd s
def grpD (t : T) : List D := (kids t).map fun q => .tup [.int (q.1 : Nat), tS (txt q.2)]
def isOne : T → Bool
  | .one => true
  | _ => false
def isNm : T → Bool
  | .name _ => true
  | _ => false
theorem first_no {t : T} (h : Good t) (h1 : isNm t = false) : ∃ c r, txt t = c :: r ∧ letter c = false := by
  cases t with
  | one => exact ⟨49, [], by rw [txt], by decide⟩
  | name x => cases h1
  | cop s n u => exact ⟨opn s, _, by rw [txt], by cases s <;> decide⟩
  | row s ts => exact ⟨40, _, by rw [txt], by decide⟩
theorem isName_txt {t : T} (h : Good t) : isNameL (txt t) = isNm t := by
  cases hn : isNm t with
  | true =>
    cases t with
    | name x =>
      obtain ⟨h0, h1, h2⟩ := h
      rw [txt]
      unfold isNameL
      rw [decide_eq_true (show 1 ≤ x.length from List.length_pos_iff.mpr h0), decide_eq_true h1, List.all_eq_true.mpr h2]; rfl
    | _ => cases hn
  | false =>
    obtain ⟨c, r, e, hc⟩ := first_no h hn
    rw [e]
    unfold isNameL
    rw [List.all_cons, hc]; simp
theorem isOne_txt {t : T} (h : Good t) : decide (S (txt t) = ("1" : Str)) = isOne t := by
  rw [show ("1" : Str) = S [49] by decide +kernel]
  have e : decide (S (txt t) = S [49]) = decide (txt t = [49]) := decide_eq_decide.mpr ⟨S_inj, fun h => by rw [h]⟩
  rw [e]
  cases t with
  | one => rw [txt]; rfl
  | name x =>
    obtain ⟨h0, h1, h2⟩ := h
    rw [txt]
    refine decide_eq_false fun q => ?_
    subst q
    exact absurd (h2 49 (by simp)) (by decide)
  | cop s n u => rw [txt]; refine decide_eq_false fun q => ?_; injection q with q1 _; cases s <;> cases q1
  | row s ts => rw [txt]; refine decide_eq_false fun q => ?_; injection q with q1 _; cases q1
def cGroupsIn : Con := fun ds M Φ => ∃ t, ds = [tS (txt t)] ∧ Good t ∧ (txt t).length ≤ 1000000 ∧ Φ (.tup [.str (wordT t), .lst (grpD t)]) M
theorem ok_groups_in (F : Fx w K mg) (F1 : Fc P w K mg base "is_name" [] 1 1 cIsName) (F2 : Fc P w K mg base "copies_in" [] 2 1 cCopiesIn) (F3 : Fc P w K mg base "row_in" [] 2 1 cRowIn) :
    BodyOk P w K mg base "groups_in" s_groups_in ["text", "found"] 1 2 cGroupsIn := by
  intro f cdv A outer s H E hr ds M Φ hl hc
  obtain ⟨t, rfl, hg, hl, hc⟩ := hc
  have nd : (["text", "found"] : List Str).Nodup := by decide +kernel
  refine wss_cons (ws_if (wt_eqS (we_var 0 rfl (we_gstr F.gPERSON ⟨_, rfl, ?_⟩))))
  rw [isOne_txt hg]
  cases h1 : isOne t with
  | true =>
    cases t with
    | one => exact wss_cons (ws_ret (we_tup (wa_cons (we_gstr F.gONE (wa_cons (we_lst (wa_nil ⟨Nat.zero_le _, wa_nil ⟨sz2, Lets.of hc⟩⟩)))))))
    | _ => cases h1
  | false =>
    refine wss_nil (wss_cons (ws_if (wt_val (we_call F1 (hr.mono (by decide)) (wa_cons (we_var 0 rfl (wa_nil ⟨rfl, _, rfl, hl, _, rfl, ?_⟩)))))))
    rw [isName_txt hg]
    cases h2 : isNm t with
    | true =>
      cases t with
      | name x => exact wss_cons (ws_ret (we_tup (wa_cons (we_gstr F.gNAME (wa_cons (we_lst (wa_nil ⟨Nat.zero_le _, wa_nil ⟨sz2, Lets.of hc⟩⟩)))))))
      | _ => cases h2
    | false =>
      refine wss_nil (wss_cons (ws_set 1 nd (we_call F2 (hr.mono (by decide)) (wa_cons (we_var 0 rfl (wa_nil ⟨rfl, _, rfl, hg, hl, ?_⟩))))))
      refine wss_cons (ws_ret (we_if (wt_isN (we_var 1 rfl ?_))))
      cases t with
      | one => cases h1
      | name x => cases h2
      | cop b n u => exact we_var 1 rfl (Lets.of hc)
      | row b ts =>
        refine we_call F3 (hr.mono (by decide)) (wa_cons (we_var 0 rfl (wa_nil ⟨rfl, _, _, rfl, hg, hl, Lets.of ?_⟩)))
        unfold grpD kids at hc
        rw [List.map_map] at hc
        exact hc
def cPlanText (h : Nat) : Con := fun ds M Φ => ∃ t d, ds = [tS (txt t), .int (d : Nat)] ∧ Good t ∧ (txt t).length ≤ 1000000 ∧ ht t ≤ h ∧ d + ht t ≤ 60 ∧ Φ (.bl true) M
theorem kids_len {t : T} (hg : Good t) : (kids t).length ≤ (txt t).length := by
  cases t with
  | one => simp [kids]
  | name x => simp [kids]
  | cop s n u => rw [txt]; simp [kids]
  | row s ts =>
    have := joins_len s (txts ts)
    rw [txts_len] at this
    rw [row_len]; simp [kids]; omega
theorem ok_is_plan_text (h : Nat) (F : Fx w K mg) (F1 : Fc P w K mg base "groups_in" [] 3 1 cGroupsIn) (F2 : ∀ j, h = j + 1 → Fc P w K mg base "is_plan_text" [] (j + 4) 2 (cPlanText j)) :
    BodyOk P w K mg base "is_plan_text" s_is_plan_text ["text", "depth", "found", "many", "part"] 2 (h + 3) (cPlanText h) := by
  intro f cdv A outer s H E hr ds M Φ hl hc
  obtain ⟨t, d, rfl, hg, hl, hh, hd, hc⟩ := hc
  have nd : (["text", "depth", "found", "many", "part"] : List Str).Nodup := by decide +kernel
  have hk := kids_len hg
  refine wss_cons (ws_set 2 nd (we_if (wt_leI (we_var 1 rfl (we_gint F.gMOST_DEPTH ⟨_, _, rfl, rfl, ?_⟩)))))
  rw [decide_eq_true (show (d : Int) ≤ 60 by omega)]
  refine we_call F1 (hr.mono (by omega)) (wa_cons (we_var 0 rfl (wa_nil ⟨rfl, _, rfl, hg, hl, ?_⟩)))
  refine wss_cons (ws_ret (we_and (we_notN (we_var 2 rfl ⟨_, rfl, ?_⟩))))
  refine we_one (we_all (F.bn _ (by decide +kernel)) (we_lc nd (blkOk_by (N := ["text", "depth", "found", "many", "part"]) (sc := defScope s_is_plan_text) (own := [("many", 3), ("part", 4)]) (by decide +kernel)) (fun _ _ _ _ _ => pg_tup rfl (pgs_cons (pg_name (i := 3) nd rfl (Or.inl rfl)) (pgs_cons (pg_name (i := 4) nd rfl (Or.inl rfl)) pgs_nil)) rfl rfl) (gt_two (by decide) (by decide)) (fun _ _ _ _ _ => pts_nil) tk_nil
    (wi_list (we_ix (we_var 2 rfl (we_int ⟨1, _, rfl, ixT (atI_nat (j := 1) rfl), _, .inl rfl, ?_⟩))))))
  refine ⟨by rw [grpD, List.length_map, sizeLine_eq]; omega, fun i acc M' => M' = M ∧ acc = (List.replicate i true).map D.bl, ⟨rfl, rfl⟩, ?_, ?_⟩
  · rintro i x acc M' hx ⟨rfl, rfl⟩
    rw [grpD, List.getElem?_map] at hx
    obtain ⟨q, hq, rfl⟩ := Option.map_eq_some_iff.mp hx
    obtain ⟨g1, g2, g3, g4, g5⟩ := kids_ok (List.mem_of_getElem? hq) hg
    refine ⟨_, _, rfl, ?_⟩
    intro s1 H1 C cl fp
    obtain ⟨j, rfl⟩ : ∃ j, h = j + 1 := ⟨h - 1, by omega⟩
    refine we_call (F2 j rfl) (hr.mono (by omega)) (wa_cons (we_var 4 rfl (wa_cons (we_addI (we_var 1 rfl (we_int ⟨_, _, rfl, rfl, wa_nil ⟨rfl, q.2, d + 1, rfl, g1, by omega, by omega, by omega, rfl, ?_⟩⟩))))))
    rw [List.replicate_succ', List.map_append]; rfl
  · rintro acc M' ⟨rfl, rfl⟩
    exact ⟨_, rfl, by rw [List.all_replicate]; simp; exact Lets.of hc⟩
end
end W
namespace W
open PySem PySem.Spec PyProof.Rows L2 DL SX PL
def six (a b c d e f : D) : List (Str × D) := [("own_text", a), ("own_names", b), ("own_word", c), ("own_groups", d), ("own_copies", e), ("own_people", f)]
theorem putD_ne {g f : Str} {d y : D} {r : List (Str × D)} (h : g ≠ f) : putD f d ((g, y) :: r) = (g, y) :: putD f d r := by
  rw [putD, if_neg h]
def f1 (a : D) : List (Str × D) := [("own_text", a)]
def f2 (a b : D) : List (Str × D) := [("own_text", a), ("own_names", b)]
def f3 (a b c : D) : List (Str × D) := [("own_text", a), ("own_names", b), ("own_word", c)]
def f4 (a b c d : D) : List (Str × D) := [("own_text", a), ("own_names", b), ("own_word", c), ("own_groups", d)]
def f5 (a b c d e : D) : List (Str × D) := [("own_text", a), ("own_names", b), ("own_word", c), ("own_groups", d), ("own_copies", e)]
section
variable {a b c d e f x : D}
theorem put1 : putD "own_text" x [] = f1 x := rfl
theorem put2 : putD "own_names" x (f1 a) = f2 a x := by unfold f1; rw [putD_ne] <;> first | rfl | decide +kernel
theorem put3 : putD "own_word" x (f2 a b) = f3 a b x := by unfold f2; rw [putD_ne, putD_ne] <;> first | rfl | decide +kernel
theorem put4 : putD "own_groups" x (f3 a b c) = f4 a b c x := by unfold f3; rw [putD_ne, putD_ne, putD_ne] <;> first | rfl | decide +kernel
theorem put5 : putD "own_copies" x (f4 a b c d) = f5 a b c d x := by unfold f4; rw [putD_ne, putD_ne, putD_ne, putD_ne] <;> first | rfl | decide +kernel
theorem put6 : putD "own_people" x (f5 a b c d e) = six a b c d e x := by unfold f5; rw [putD_ne, putD_ne, putD_ne, putD_ne, putD_ne] <;> first | rfl | decide +kernel
theorem sl1 : (f1 a).length < 1000 := by show 1 < 1000; decide
theorem sl2 : (f2 a b).length < 1000 := by show 2 < 1000; decide
theorem sl3 : (f3 a b c).length < 1000 := by show 3 < 1000; decide
theorem sl4 : (f4 a b c d).length < 1000 := by show 4 < 1000; decide
theorem sl5 : (f5 a b c d e).length < 1000 := by show 5 < 1000; decide
theorem lk_hit {g : Str} {y : D} {r : List (Str × D)} : ((g, y) :: r).lookup g = some y := by rw [List.lookup_cons]; simp
theorem lk_miss {g h : Str} {y : D} {r : List (Str × D)} (hn : (g == h) = false) : ((h, y) :: r).lookup g = r.lookup g := by rw [List.lookup_cons, hn]
theorem lk_text : List.lookup ("own_text" : Str) (six a b c d e f) = some a := lk_hit
theorem lk_names : List.lookup ("own_names" : Str) (six a b c d e f) = some b := by unfold six; rw [lk_miss, lk_hit]; decide +kernel
theorem lk_word : List.lookup ("own_word" : Str) (six a b c d e f) = some c := by unfold six; rw [lk_miss, lk_miss, lk_hit] <;> decide +kernel
theorem lk_groups : List.lookup ("own_groups" : Str) (six a b c d e f) = some d := by unfold six; rw [lk_miss, lk_miss, lk_miss, lk_hit] <;> decide +kernel
theorem lk_copies : List.lookup ("own_copies" : Str) (six a b c d e f) = some e := by unfold six; rw [lk_miss, lk_miss, lk_miss, lk_miss, lk_hit] <;> decide +kernel
theorem lk_people : List.lookup ("own_people" : Str) (six a b c d e f) = some f := by unfold six; rw [lk_miss, lk_miss, lk_miss, lk_miss, lk_miss, lk_hit] <;> decide +kernel
theorem lk5_groups : List.lookup ("own_groups" : Str) (f5 a b c d e) = some d := by unfold f5; rw [lk_miss, lk_miss, lk_miss, lk_hit] <;> decide +kernel
end
mutual
/-- the plan as an instance of the class at C -/
def planD (C : Addr) : T → D
  | .one => .ins C (six (tS (txt .one)) (.tup []) (.str (wordT .one)) (.lst []) (.bl false) (.int (ppl .one : Nat)))
  | .name x => .ins C (six (tS (txt (.name x))) (.tup [tS x]) (.str (wordT (.name x))) (.lst []) (.bl false) (.int (ppl (.name x) : Nat)))
  | .cop s n t => .ins C (six (tS (txt (.cop s n t))) (.tup []) (.str (wordT (.cop s n t))) (.lst [.tup [.int (n : Nat), planD C t]]) (.bl true) (.int (ppl (.cop s n t) : Nat)))
  | .row s ts => .ins C (six (tS (txt (.row s ts))) (.tup []) (.str (wordT (.row s ts))) (.lst (plansD C ts)) (.bl false) (.int (ppl (.row s ts) : Nat)))
def plansD (C : Addr) : List T → List D
  | [] => []
  | t :: ts => .tup [.int ((1 : Nat) : Int), planD C t] :: plansD C ts
end
theorem plansD_map (C : Addr) : ∀ ts : List T, plansD C ts = ts.map fun t => .tup [.int ((1 : Nat) : Int), planD C t]
  | [] => by rw [plansD]; rfl
  | t :: ts => by rw [plansD, plansD_map C ts, List.map_cons]
def subsD (C : Addr) (t : T) : List D := (kids t).map fun q => .tup [.int (q.1 : Nat), planD C q.2]
def fldsD (C : Addr) (t : T) : List (Str × D) := six (tS (txt t)) (.tup []) (.str (wordT t)) (.lst (subsD C t)) (.bl (isCop t)) (.int (ppl t : Nat))
theorem planD_told {C : Addr} {t : T} (h : Told t) : planD C t = .ins C (fldsD C t) := by
  cases t with
  | one => rw [planD]; rfl
  | name x => exact h.elim
  | cop s n t => rw [planD]; rfl
  | row s ts =>
    rw [planD, plansD_map]
    unfold fldsD subsD kids
    rw [List.map_map]; rfl
/-- what is known of the class -/
structure Px (K : PySem.W.Frag) (mg : Str → Option Value) (C : Addr) : Prop where
  at_ : mg "Plan" = some (.ref C)
  cl : Cls K C
  na : ∀ f, f ∈ fNames → NoAttr K C f
  init : ∃ f, Mk K C f ∧ Md K C "__init__" "Plan.__init__" s_Plan___init__ f
  text : ∃ p f, PropOf K C "text" p f ∧ Md K C "text" "Plan.text" s_Plan_text f
  names : ∃ p f, PropOf K C "names" p f ∧ Md K C "names" "Plan.names" s_Plan_names f
  word : ∃ p f, PropOf K C "word" p f ∧ Md K C "word" "Plan.word" s_Plan_word f
  many : ∃ p f, PropOf K C "many" p f ∧ Md K C "many" "Plan.many" s_Plan_many f
  invert : ∃ f, Meth K C "__invert__" f ∧ Md K C "__invert__" "Plan.__invert__" s_Plan___invert__ f
section
variable {P : Program} {w : World} {K : PySem.W.Frag} {mg : Str → Option Value} {base : Heap} {C : Addr}
theorem cop_in {t : T} (h : Good t) : ∃ c r, txt t = c :: r ∧ decide (S [c] ∈ (["[", "{"] : List Str)) = isCop t := by
  have e1 : (["[", "{"] : List Str) = [S [91], S [123]] := by decide +kernel
  rw [e1]
  have key : ∀ c : Nat, decide (S [c] ∈ [S [91], S [123]]) = (decide (c = 91) || decide (c = 123)) := fun c => by
    rw [← Bool.decide_or]
    refine decide_eq_decide.mpr ?_
    simp only [List.mem_cons, List.not_mem_nil, or_false]
    constructor
    · rintro (h | h)
      · left; injection S_inj h
      · right; injection S_inj h
    · rintro (rfl | rfl)
      · exact .inl rfl
      · exact .inr rfl
  cases t with
  | one => exact ⟨49, [], by rw [txt], by rw [key]; rfl⟩
  | name x =>
    obtain ⟨h0, h1, h2⟩ := h
    cases x with
    | nil => exact absurd rfl h0
    | cons c r =>
      have q := h2 c List.mem_cons_self
      simp [letter] at q
      exact ⟨c, r, by rw [txt], by rw [key, decide_eq_false (by omega), decide_eq_false (by omega)]; rfl⟩
  | cop s n u => exact ⟨opn s, _, by rw [txt], by rw [key]; cases s <;> rfl⟩
  | row s ts => exact ⟨40, _, by rw [txt], by rw [key]; rfl⟩
theorem cut_1 (c : Nat) (r : List Nat) : cutS (S (c :: r)) none (some 1) = S [c] := by
  unfold cutS
  rw [S_len, show (some (1 : Int)) = some ((1 : Nat) : Int) from rfl, HT.sIx_nat, HT.sIx_none, Nat.min_eq_left (by simp)]
  rfl
theorem grp_cmp {t : T} (h : Good t) : ∃ ps, CmpDs (grpD t) ps 1 :=
  ⟨_, cmps_map (j := 1) (Nat.le_refl _) (g := fun q => .tuple [.int (q.1 : Nat), .str (S (txt q.2))]) fun q hq => cmp_tup (cmps_cons (cmp_int _) (Nat.le_refl _) (cmps_cons (cmp_str fun c hc => by
    have := txt_lt (kids_ok hq h).1 c hc; omega) (Nat.le_refl _) cmps_nil))⟩
end
end W
namespace W
open PySem PySem.Spec PyProof.Rows L2 DL He HK
theorem mem_bn {x : Str} (h : x ∈ bns) : Fa.free x ∈ spec.fa := List.mem_append_left _ (List.mem_map_of_mem h)
theorem mem_glo {x : Str} (h : x ∈ globsA) : Fa.glo x ∈ spec.fa := List.mem_append_right _ (List.mem_append_left _ (List.mem_map_of_mem h))
theorem mem_na {x : Str} (h : x ∈ fNames) : Fa.noat "Plan" x ∈ spec.fa := List.mem_append_right _ (List.mem_append_right _ (List.mem_append_left _ (List.mem_map_of_mem h)))
theorem mem_co (i : Nat) {f : Fa} (h : consts[i]? = some f) : f ∈ spec.fa := List.mem_append_right _ (List.mem_append_right _ (List.mem_append_right _ (List.mem_of_getElem? h)))
theorem ob_eq (s : PySem.W.SharedT) : ob s = hk.obs s.abs := obsG_eq (HandSHeadRun.getT_eq s)
end W
namespace XL
open PySem PySem.W PySem.Calls PyProof.Rows PySem.HandSPX L2 LamX
theorem pe_actV {X : Cx} {pins : List (Addr × Obj)} {σ : L2.St} {H : Hp} {s : Shared} {CXg : CXT} {Eg : XK} {Ng : List Str} {qg : Str} {sg : Scope} {g : Addr} {cdg : Value} {k i : Nat} {a : Str} {pn : List (Addr × Obj)} {xe : Value → Shared → Prop} {W : WX} {E : L2.St → XK} {p1 p2 : Pos} {tb : XK → Arguments → Expr → Scope → TE}
    (I : L2.Inv X pins σ H s) (tk : Takes ((cxOf CXg X.prog X.w X.K X.mg X.base Ng qg sg g cdg X.A X.stack s H Eg).tr pn xe) W) (hW : ∀ σZ cls d H', E σZ cls d H' → W cls d σZ H')
    (hr : Room (k + 1) (X.A.deeper (envOfC qg sg s.heap.objs.size g cdg)))
    (hbody : ∀ (E : XK) (params : Arguments) (body : Expr) (scope : Scope) (f c' : Addr) (A : Around) (outer : List Env) (s : Shared) (H : Hp), Room k (A.deeper (lamEnv X scope s.heap.objs.size f c')) → PE (lamCx X A outer s H E scope f c') body (tb E params body scope))
    (hN : Ng[i]? = some a) (hv : Vis sg a) (hd : (a == ("__debug__" : Str)) = false) (hcd : (a == ("__classdict__" : Str)) = false) :
    PE ((cxOf CXg X.prog X.w X.K X.mg X.base Ng qg sg g cdg X.A X.stack s H Eg).tr pn xe) (.Call (.Name a p1) [] [] p2)
      (fun σZ HZ Q => ∃ (f c' : Addr) (params : Arguments) (body : Expr) (scope : Scope), σZ[i]? = some (some (.ref f)) ∧ HZ f = some (LamO f (X.env.qual ++ "<lambda>") params body scope (cloFrom X.env.cells scope.names []) c') ∧ HZ c' = some (CodeO c' (X.env.qual ++ "<lambda>")) ∧
        LamS X.env.scope scope ∧ (∀ (pm cv ctv : Value), bindArgs (PySem.W.kla_fn "<lambda>" (X.env.qual ++ "<lambda>") params body scope (cloFrom X.env.cells scope.names []) pm cv ctv) ⟨[], []⟩ = pure []) ∧ tb (E σZ) params body scope σ HZ Q) := by
  refine ⟨fun pinsZ sZ σZ HZ Q IZ h => ?_⟩
  obtain ⟨f, c', params, body, scope, hs, hfo, hc, L, hbind, ht⟩ := h
  refine wpAny_Call_Name_kw (thn ((pe_var hN hv hd hcd).run pinsZ sZ σZ HZ (fun v H1 => v = V.ref f ∧ H1 = HZ) IZ ⟨.ref f, hs, rfl, rfl⟩) fun u s1 hh => ?_)
  obtain ⟨v, H1, I1, r1, rfl, rfl⟩ := hh
  obtain rfl : u = Value.ref f := r1
  obtain ⟨pm, ctv, of1⟩ := lamO_get I1.hok hfo
  refine PySem.W.callWith_F0 ⟨_, _, _, _, of1⟩ ?_
  have un := I1.base
  have hco := I1.hok c' _ hc
  unfold CodeO ObjOk at hco
  obtain ⟨⟨oc, vs, t, hoc, hdc, hvc⟩, _, _⟩ := hco
  have rc : codeAny (model X.prog X.w) (X.A.deeper (envOfC qg sg s.heap.objs.size g cdg)) (.call (.ref f) ⟨[], []⟩) (CR (CX X.prog X.w) (envOfC qg sg s.heap.objs.size g cdg :: X.stack) X.prog X.w H1 s1 Q (E σZ)) s1 := by
    refine PySem.W.kla_callFunE hr.depth of1 rfl L.co L.gen rfl ⟨c', oc, vs, t, rfl, hoc, hdc, hvc⟩ ?_
    rw [hbind]
    refine wpAny_pure (wpAny_newFunctionEnv (fun y hy => (L.own y hy).2) (fun y hy => absurd hy List.not_mem_nil) (fun h₁ hns hsb => ⟨I1.nolimit.fresh _ hsb, ?_⟩) L.kind)
    have kp : ∀ b o, s1.heap.get? b = some o → h₁.get? b = some o := fun b o e => hsb.extBut b o (Nat.ne_of_lt (Heap.lt_size e)) (Heap.get?_push_of_some _ e)
    have J := lam_start2 (tk := s1.toks + ([] : List (Str × Value)).length) (E := E σZ) (f := f) (c' := c') I L I1.env0 hr.hd un hns kp
    exact PySem.W.kla_codeExpr (wpAny_mono ((hbody (E σZ) params body scope f c' _ _ s1 H1 (hr.deeper _)).run [] _ σ H1 Q J ht) (fun v s' hq => by
      obtain ⟨w', H', J', rv, q⟩ := hq
      exact ⟨w', H', J'.os, J'.bare, J'.base, J'.hok, rv, q⟩) fun e s' hq => hq)
  refine wpAny_call (codeAny_mono rc fun r s' hq => ?_)
  cases r with
  | error e =>
    obtain ⟨a, B, H', cls, d, y1, y2, y3, y4, y5, y6, y7, y8⟩ := hq
    exact passAt tk σZ pinsZ H1 s1 e s' I1 ⟨a, B, H', cls, d, y1, y2, y3, y4, y5, y6, y7, hW _ _ _ _ y8⟩
  | ok fl =>
    cases fl with
    | ret u => exact I1.after hq
    | next => exact hq.elim
    | brk => exact hq.elim
    | cont => exact hq.elim
end XL
namespace DL
open PySem PySem.Spec PyProof.Rows L2
/-- what is wanted where an error is raised: its class, its fields -/
abbrev Xi := Addr → List (Str × D) → Mp → Prop
def KX (K : PySem.W.Frag) (M : Mp) (Z : Zn) (H : Hp) (Ξ : Xi) (E : XK) : Prop := ∀ C fs vs d H' M', Ext M Z H M' H' → Wd K M' Z H' → H' d = some (.xd vs) → Im M' Z d → RepF K M' Z H' vs fs → Ξ C fs M' → E (.ref C) (some d) H'
theorem KX.step {K : PySem.W.Frag} {M M1 : Mp} {Z : Zn} {H H1 : Hp} {Ξ : Xi} {E : XK} (k : KX K M Z H Ξ E) (e : Ext M Z H M1 H1) : KX K M1 Z H1 Ξ E := fun C fs vs d H' M' x w h m r z => k C fs vs d H' M' (e.trans x) w h m r z
/-- X takes what is raised as E, whatever stands in the slots -/
def TakesE (X : Cx) (E : XK) : Prop := Takes X fun cls d _ H => E cls d H
theorem TakesE.pass {X : Cx} {E : XK} (t : TakesE X E) : Passes (CX X.prog X.w) X E := fun pins σ H s e s' I q => passes_call (E := E) t (fun _ _ _ _ z => z) pins σ H s e s' I q
theorem pass_no {X : Cx} : Passes (CX X.prog X.w) X (fun _ _ _ => False) := fun pins σ H s e s' I q => by
  obtain ⟨a, B, H', cls, d, _, _, _, _, _, _, _, z⟩ := q
  exact z.elim
structure WEx (X : Cx) (ρ : Rho) (M : Mp) (e : Expr) (Φ : D → Mp → Prop) (Ξ : Xi) : Prop where
  run : ∀ {Z : Zn} σ H (Q : VK) (E : XK), EnvR X.K M Z H σ ρ → Wd X.K M Z H → KE X.K M Z H Φ Q → TakesE X E → KX X.K M Z H Ξ E → eSem X e σ H Q
structure WTx (X : Cx) (ρ : Rho) (M : Mp) (e : Expr) (Φ : Bool → Mp → Prop) (Ξ : Xi) : Prop where
  run : ∀ {Z : Zn} σ H (Q : Bool → Hp → Prop) (E : XK), EnvR X.K M Z H σ ρ → Wd X.K M Z H → KT X.K M Z H Φ Q → TakesE X E → KX X.K M Z H Ξ E → tSem X e σ H Q
structure WAx (X : Cx) (ρ : Rho) (M : Mp) (es : List Expr) (Φ : List D → Mp → Prop) (Ξ : Xi) : Prop where
  run : ∀ {Z : Zn} σ H (Q : List V → Hp → Prop) (E : XK), EnvR X.K M Z H σ ρ → Wd X.K M Z H → KA X.K M Z H Φ Q → TakesE X E → KX X.K M Z H Ξ E → aSem X es σ H Q
structure WSx (X : Cx) (ρ : Rho) (M : Mp) (st : Stmt) (Ψ : DE) (Ξ : Xi) : Prop where
  run : ∀ {Z : Zn} σ H (D : Ends) (E : XK), EnvR X.K M Z H σ ρ → Wd X.K M Z H → KS X.K M Z H Ψ D → TakesE X E → KX X.K M Z H Ξ E → sSem X st D σ H
structure WSsx (X : Cx) (ρ : Rho) (M : Mp) (st : List Stmt) (Ψ : DE) (Ξ : Xi) : Prop where
  run : ∀ {Z : Zn} σ H (D : Ends) (E : XK), EnvR X.K M Z H σ ρ → Wd X.K M Z H → KS X.K M Z H Ψ D → TakesE X E → KX X.K M Z H Ξ E → ssSem X st D σ H
section
variable {X : Cx} {ρ : Rho} {M : Mp} {Φ : D → Mp → Prop} {Ξ : Xi} {Ψ : DE} {e a b : Expr} {es : List Expr} {st : Stmt} {sts rest : List Stmt} {pos p : Pos} {x : Str}
theorem WE.up (h : WE X ρ M e Φ) : WEx X ρ M e Φ Ξ := .mk fun σ H Q E en w k _ _ => h.run σ H Q en w k
theorem WT.up {Φ : Bool → Mp → Prop} (h : WT X ρ M e Φ) : WTx X ρ M e Φ Ξ := .mk fun σ H Q E en w k _ _ => h.run σ H Q en w k
theorem WA.up {Φ : List D → Mp → Prop} (h : WA X ρ M es Φ) : WAx X ρ M es Φ Ξ := .mk fun σ H Q E en w k _ _ => h.run σ H Q en w k
theorem WS.up (h : WS X ρ M st Ψ) : WSx X ρ M st Ψ Ξ := .mk fun σ H Q E en w k _ _ => h.run σ H Q en w k
theorem WSs.up (h : WSs X ρ M sts Ψ) : WSsx X ρ M sts Ψ Ξ := .mk fun σ H Q E en w k _ _ => h.run σ H Q en w k
theorem wssx_nil (h : Ψ.nx ρ M) : WSsx X ρ M [] Ψ Ξ := (wss_nil h).up
theorem wssx_cons (h : WSx X ρ M st { Ψ with nx := fun ρ' M' => WSsx X ρ' M' rest Ψ Ξ } Ξ) : WSsx X ρ M (st :: rest) Ψ Ξ := .mk fun σ H D E en w k t kx =>
  ssOf (pss_cons ps_sem pss_sem) (h.run σ H _ E en w ⟨fun σ' ρ' H' M' x w' en' z => z.run σ' H' D E en' w' (k.step x) t (kx.step x), k.rt, k.bk, k.ct⟩ t kx)
theorem wsx_expr (h : WEx X ρ M e (fun _ M1 => Ψ.nx ρ M1) Ξ) (hs : swapsWith e none pos.line X.env = pure false := by rfl) : WSx X ρ M (.Expr e pos) Ψ Ξ := .mk fun σ H D E en w k t kx =>
  sOf (ps_expr pe_sem hs) (h.run σ H _ E en w (fun v d H1 M1 e1 w1 r1 hz => k.nx σ ρ H1 M1 e1 w1 (en.mono e1) hz) t kx)
theorem wsx_ret (h : WEx X ρ M e Ψ.rt Ξ) : WSx X ρ M (.Return (some e) pos) Ψ Ξ := .mk fun σ H D E en w k t kx => sOf (ps_ret pe_sem) (h.run σ H _ E en w k.rt t kx)
theorem wsx_if {c : Expr} {sa sb : List Stmt} (h : WTx X ρ M c (fun b' M1 => if b' = true then WSsx X ρ M1 sa Ψ Ξ else WSsx X ρ M1 sb Ψ Ξ) Ξ) : WSx X ρ M (.If c sa sb pos) Ψ Ξ := .mk fun σ H D E en w k t kx =>
  sOf (ps_if pt_sem pss_sem pss_sem) (h.run σ H _ E en w (fun c H1 M1 e1 w1 hz => by
    cases c with
    | true => exact WSsx.run hz σ H1 D E (en.mono e1) w1 (k.step e1) t (kx.step e1)
    | false => exact WSsx.run hz σ H1 D E (en.mono e1) w1 (k.step e1) t (kx.step e1)) t kx)
/-- raise C(e) -/
theorem wsx_raise {C : Addr} {k : Nat} {pos2 : Pos} (hc : X.calm = true) (T : XL.Er X.prog X.K X.mg x C) (hr : Room k X.A) (h : WE X ρ M e fun d M1 => ∃ d' M2, Les M2 M1 ∧ Fz M1 M2 d d' ∧ Ξ C [("value", d')] M2) (hg : Gl X x := by rfl) (hdb : (x == ("__debug__" : Str)) = false := by decide)
    (he : starEach (e :: []) X.env = (false, eval e X.env) :: starEach [] X.env := by rfl) (hpl : (backTo pos (starEach [] X.env)).any (·.1) = false := by rfl) : WSx X ρ M (.Raise (some (.Call (.Name x p) [e] [] pos)) none pos2) Ψ Ξ := .mk fun σ H D E en w k t kx =>
  sOf (XL.ps_raiseE hc T hr t (pa_sem (es := [e])) hg hdb he hpl) ((wa_cons (es := []) (ΦA := fun ds M1 => ∃ d, ds = [d] ∧ ∃ d' M2, Les M2 M1 ∧ Fz M1 M2 d d' ∧ Ξ C [("value", d')] M2) (h.imp fun d M1 z => wa_nil ⟨d, rfl, z⟩) he).run σ H _ en w fun vs ds H1 M1 e1 w1 r1 hz => by
    obtain ⟨d, rfl, d', M2, l, f, hz⟩ := hz
    cases r1 with
    | cons r1 r2 =>
      cases r2
      rename_i v
      refine ⟨v, rfl, fun q hq => ?_⟩
      have x2 : Ext M1 _ H1 M1 (upd H1 q (.xd [("value", v)])) := Ext.new w1 hq
      have w2 := w1.new (o := .xd [("value", v)]) hq
      have r3 := f.rep l w2 (r1.mono x2)
      exact kx C _ _ q _ M2 ((e1.trans x2).trans (l.ext w2)) (l.w w2) upd_same (l.x (H := upd H1 q (.xd [("value", v)])) q _ upd_same (w1.fresh hq)).2 (.cons r3 .nil) hz)
end
end DL
namespace DL
open PySem PySem.Spec PyProof.Rows L2
/-- a contract with what is wanted where an error is raised -/
abbrev ConX := List D → Mp → (D → Mp → Prop) → Xi → Prop
def spX (K : PySem.W.Frag) (n : Nat) (c : ConX) : Sp := fun vs H Q E => ∃ ds M Z Φ Ξ, ds.length = n ∧ Reps K M Z H vs ds ∧ Wd K M Z H ∧ c ds M Φ Ξ ∧ KE K M Z H Φ Q ∧ KX K M Z H Ξ E
/-- the context of a body that may raise -/
abbrev bxX (P : Program) (w : World) (K : PySem.W.Frag) (mg : Str → Option Value) (base : Heap) (N : List Str) (qual : Str) (scope : Scope) (f : Addr) (cdv : Value) (A : Around) (outer : List Env) (s : Shared) (H : Hp) (E : XK) : Cx :=
  cxOf (CX P w) P w K mg base N qual scope f cdv A outer s H E
/-- a body keeps a contract -/
def BodyX (P : Program) (w : World) (K : PySem.W.Frag) (mg : Str → Option Value) (base : Heap) (qual : Str) (st : Stmt) (N : List Str) (n k : Nat) (c : ConX) : Prop :=
  ∀ (f : Addr) (cdv : Value) (A : Around) (outer : List Env) (s : Shared) (H : Hp) (E : XK), Room k (A.deeper (envOfC qual (defScope st) s.heap.objs.size f cdv)) → ∀ ds M Φ Ξ, ds.length = n → c ds M Φ Ξ →
      WSsx (bxX P w K mg base N qual (defScope st) f cdv A outer s H E) (start N ds) M (defBody st) { nx := fun _ M' => Φ .non M', rt := Lets Φ } Ξ
section
variable {P : Program} {w : World} {K : PySem.W.Frag} {mg : Str → Option Value} {base : Heap} {x qual : Str} {st : Stmt} {dvs : List V} {kws : List (Str × V)} {f : Addr} {fd : FuncData} {N ps : List Str} {k n : Nat} {c : ConX}
theorem fnX_ok (F : FunD K x qual (defArgs st) (defBody st) (defScope st) dvs kws f fd) (S : FnScope N ps (defScope st)) (h : BodyX P w K mg base qual st N ps.length k c) : FnOk P w K mg base (CX P w) (k + 1) f fd ps (spX K ps.length c) := by
  obtain ⟨oc, od, dV, kV, doc, pm, an, cdv, ct, osl, rfl, lk, hcd, _, _⟩ := F.ex
  have ln : ∀ vs H Q E, spX K ps.length c vs H Q E → vs.length = ps.length := fun vs H Q E q => by
    obtain ⟨ds, M, Z, Φ, Ξ, hl, r, _⟩ := q
    rw [r.length, hl]
  refine ⟨ln, fun A outer s H args us vs Q E hr e0 hb rv hsp => ?_⟩
  have hlen := ln _ _ _ _ hsp
  have hK : K.In s.heap := e0.mod.kin.keeps fun b o z => (e0.bs b o z).1
  have hlim : s.heap.NoLimit := e0.mod.nolimit.keeps fun b o z => (e0.bs b o z).1
  have kinds : ∀ y ∈ ps.zip us, (defScope st).names.lookup y.1 = some .local ∨ ((defScope st).names.lookup y.1 = some .cell ∧ ((cellsFrom (s.heap.objs.size + 1) (defScope st).names []).lookup y.1).isSome = true) := fun y hy => by
    rcases S.par y.1 (List.of_mem_zip hy).1 with z | z
    · exact .inl z
    · exact .inr ⟨z, PySem.W.cellsFrom_some _ _ _ (.inl z)⟩
  refine codeAny_call_function hr.depth (hK _ _ lk) rfl S.co S.gen rfl (PySem.W.codeRec_of hK hcd) (hb _ _ _ _ (wpAny_newFunctionEnv_cells S.kind kinds fun env he s1 xx => ?_))
  subst he
  refine ⟨hlim.keeps xx.toInCall.keep, codeAny_func ?_⟩
  obtain ⟨ds, M, Z, Φ, Ξ, hl, r, wd, hc, kk, kx⟩ := hsp
  have I : Inv (cxOf (CX P w) P w K mg base N qual (defScope st) f cdv A outer s H E) [] (L2.start N vs) H s1 := inv_start S hr.hd e0 hlen rv xx
  have tk : TakesE (cxOf (CX P w) P w K mg base N qual (defScope st) f cdv A outer s H E) E := takes_of rfl rfl rfl rfl
  have body := (h f cdv A outer s H E (hr.deeper _) ds M Φ Ξ hl hc).run (L2.start N vs) H { nx := fun _ H' => Q .non H', rt := Q } E (env_start r) wd ⟨fun σ' ρ' H' M' x w' en z => kk _ .non H' M' x w' .non z, lets_k kk, fun _ _ _ _ _ _ _ z => z.elim, fun _ _ _ _ _ _ _ z => z.elim⟩ tk kx
  have done : ∀ {σ' : L2.St} {H' : Hp} {v : V} {u : Value} {s' : Shared}, Inv (cxOf (CX P w) P w K mg base N qual (defScope st) f cdv A outer s H E) [] σ' H' s' → RelV v u → Q v H' → CE outer P w H s Q u s' := fun {σ' H' v u s'} J ru q => ⟨v, H', J.os, J.bare, J.base, J.hok, ru, q⟩
  refine wpAny_mono ((pss_sem (X := cxOf (CX P w) P w K mg base N qual (defScope st) f cdv A outer s H E)).run [] s1 (L2.start N vs) H _ I body) (fun fl s' hs => ?_) fun e s' hs => hs
  cases fl with
  | ret u => obtain ⟨v, σ', H', J, ru, q⟩ := hs; exact done J ru q
  | next => obtain ⟨σ', H', J, q⟩ := hs; exact done (v := V.non) (u := Value.none) J rfl q
  | brk => obtain ⟨_, _, _, q⟩ := hs; exact q.elim
  | cont => obtain ⟨_, _, _, q⟩ := hs; exact q.elim
end
/-- the global x is a def with this contract -/
structure Fcx (P : Program) (w : World) (K : PySem.W.Frag) (mg : Str → Option Value) (base : Heap) (x : Str) (dd : List D) (k n : Nat) (c : ConX) : Prop where
  ex : ∃ (f : Addr) (fd : FuncData) (ps : List Str) (dvs : List V) (ds : List Value), FnOk P w K mg base (CX P w) k f fd ps (spX K n c) ∧ mg x = some (.ref f) ∧ PySem.W.keepIn K (.ref f) = true ∧ Binds K fd ps ds ∧ Vals dvs ds ∧ ∀ M Z H, Reps K M Z H dvs dd
/-- the method m of the class at C has this contract -/
structure Mcx (P : Program) (w : World) (K : PySem.W.Frag) (mg : Str → Option Value) (base : Heap) (C : Addr) (m : Str) (dd : List D) (k n : Nat) (c : ConX) : Prop where
  cl : Cls K C
  ex : ∃ (f : Addr) (fd : FuncData) (ps : List Str) (dvs : List V) (ds : List Value), FnOk P w K mg base (CX P w) k f fd ps (spX K n c) ∧ Meth K C m f ∧ Binds K fd ps ds ∧ Vals dvs ds ∧ ∀ M Z H, Reps K M Z H dvs dd
section
variable {X : Cx} {ρ : Rho} {M : Mp} {Φ : D → Mp → Prop} {Ξ : Xi} {e o : Expr} {es : List Expr} {pos p apos : Pos} {x m : Str} {dd : List D} {k n : Nat} {c : ConX}
theorem spX_run {vs dvs : List V} {ds : List D} {M1 : Mp} {Z : Zn} {H1 : Hp} {Q : VK} {E : XK} (r : Reps X.K M1 Z H1 vs ds) (rd : Reps X.K M1 Z H1 dvs dd) (w1 : Wd X.K M1 Z H1) (hz : (ds ++ dd).length = n ∧ c (ds ++ dd) M1 Φ Ξ) (k : KE X.K M1 Z H1 Φ Q) (kx : KX X.K M1 Z H1 Ξ E) : spX X.K n c (vs ++ dvs) H1 Q E :=
  ⟨ds ++ dd, M1, Z, Φ, Ξ, hz.1, r.append rd, w1, hz.2, k, kx⟩
/-- x(e, ..), which may raise -/
theorem wex_call (F : Fcx X.prog X.w X.K X.mg X.base x dd k n c) (hr : Room k X.A) (h : WA X ρ M (e :: es) fun ds M1 => (ds ++ dd).length = n ∧ c (ds ++ dd) M1 Φ Ξ) (hg : Gl X x := by rfl)
    (hdb : (x == ("__debug__" : Str)) = false := by decide) (he : starEach (e :: es) X.env = (false, eval e X.env) :: starEach es X.env := by rfl) (hpl : (backTo pos (starEach es X.env)).any (·.1) = false := by rfl) : WEx X ρ M (.Call (.Name x p) (e :: es) [] pos) Φ Ξ := .mk fun σ H Q E en w k t kx => by
  obtain ⟨f, fd, ps, dvs, ds, F, hm, hk, hb, hd, hdd⟩ := F.ex
  exact eOf (pe_call (E := E) F hr hg hm hk hb hd t.pass pa_sem hdb he hpl) (h.run σ H _ en w fun vs as H1 M1 e1 w1 r1 hz => spX_run r1 (hdd _ _ _) w1 hz (k.step e1) (kx.step e1))
/-- o.m(e, ..), which may raise -/
theorem wex_meth {C : Addr} {pl : Sem Bool} (F : Mcx X.prog X.w X.K X.mg X.base C m dd k n c) (hr : Room k X.A)
    (h : WE X ρ M o fun d M1 => ∃ fs, InsOf M1 C d fs ∧ fs.lookup m = none ∧ WA X ρ M1 (e :: es) fun as M2 => (d :: (as ++ dd)).length = n ∧ c (d :: (as ++ dd)) M2 Φ Ξ)
    (hst : starEach (e :: es) X.env = (false, eval e X.env) :: starEach es X.env := by rfl) (hpl : (backTo pos (starEach es X.env)).any (·.1) = false := by rfl)
    (ht : eval (.Call (.Attribute o m apos) (e :: es) [] pos) X.env = (do
      let ov ← eval o X.env
      standAt apos.atName
      let (f, first) ← holding [ov] (getMethod ov m pl)
      callWith pos f first (backTo pos (starEach (e :: es) X.env)) (backToKw pos (keywordEach [] X.env))) := by rfl) : WEx X ρ M (.Call (.Attribute o m apos) (e :: es) [] pos) Φ Ξ := .mk fun σ H Q E en w k t kx => by
  obtain ⟨f, fd, ps, dvs, ds, F', hm, hbd, hd, hdd⟩ := F.ex
  refine eOf (pe_meth (pl := pl) (E := E) pe_sem F.cl hm F' hr hbd hd t.pass pa_sem hst hpl ht) (h.run σ H _ en w fun v d H1 M1 e1 w1 r1 hz => ?_)
  obtain ⟨fs, hi, hl, hz⟩ := hz
  obtain ⟨a, dx, vs, rfl, ha, rf⟩ := r1.asIns w1 hi
  refine ⟨a, dx, vs, rfl, ha, (rf.lookup m).1 hl, hz.run σ H1 _ (en.mono e1) w1 fun us as H2 M2 e2 w2 r2 hy => ?_⟩
  exact ⟨d :: (as ++ dd), M2, _, Φ, Ξ, hy.1, .cons (r1.mono e2) (r2.append (hdd _ _ _)), w2, hy.2, k.step (e1.trans e2), kx.step (e1.trans e2)⟩
theorem we_methN {C : Addr} {pl : Sem Bool} (F : Mcx X.prog X.w X.K X.mg X.base C m dd k n c) (hr : Room k X.A)
    (h : WE X ρ M o fun d M1 => ∃ fs, InsOf M1 C d fs ∧ fs.lookup m = none ∧ WA X ρ M1 (e :: es) fun as M2 => (d :: (as ++ dd)).length = n ∧ c (d :: (as ++ dd)) M2 Φ fun _ _ _ => False)
    (hst : starEach (e :: es) X.env = (false, eval e X.env) :: starEach es X.env := by rfl) (hpl : (backTo pos (starEach es X.env)).any (·.1) = false := by rfl)
    (ht : eval (.Call (.Attribute o m apos) (e :: es) [] pos) X.env = (do
      let ov ← eval o X.env
      standAt apos.atName
      let (f, first) ← holding [ov] (getMethod ov m pl)
      callWith pos f first (backTo pos (starEach (e :: es) X.env)) (backToKw pos (keywordEach [] X.env))) := by rfl) : WE X ρ M (.Call (.Attribute o m apos) (e :: es) [] pos) Φ := .mk fun σ H Q en w k => by
  obtain ⟨f, fd, ps, dvs, ds, F', hm, hbd, hd, hdd⟩ := F.ex
  refine eOf (pe_meth (pl := pl) (E := fun _ _ _ => False) pe_sem F.cl hm F' hr hbd hd pass_no pa_sem hst hpl ht) (h.run σ H _ en w fun v d H1 M1 e1 w1 r1 hz => ?_)
  obtain ⟨fs, hi, hl, hz⟩ := hz
  obtain ⟨a, dx, vs, rfl, ha, rf⟩ := r1.asIns w1 hi
  refine ⟨a, dx, vs, rfl, ha, (rf.lookup m).1 hl, hz.run σ H1 _ (en.mono e1) w1 fun us as H2 M2 e2 w2 r2 hy => ?_⟩
  exact ⟨d :: (as ++ dd), M2, _, Φ, _, hy.1, .cons (r1.mono e2) (r2.append (hdd _ _ _)), w2, hy.2, k.step (e1.trans e2), fun _ _ _ _ _ _ _ _ _ _ _ z => z⟩
end
end DL
namespace DL
open PySem PySem.Spec PyProof.Rows L2
section
variable {P : Program} {w : World} {K : PySem.W.Frag} {mg : Str → Option Value} {base : Heap} {x qual : Str} {st : Stmt} {N ps : List Str} {j k n : Nat} {c : ConX} {dd : List D} {C : Addr} {m : Str} {f : Addr}
theorem Df.fx (D : Df K mg x st []) (S : FnScope N ps (defScope st))
    (hb : ∀ (kV doc pm : Value) (an : Option Addr) (cdv ct : Value) (us : List Value), us.length = ps.length → bindArgs (PySem.W.fnOf x x (defArgs st) (defBody st) (defScope st) .none kV doc pm an cdv ct) ⟨us, []⟩ = pure (ps.zip us))
    (h : BodyX P w K mg base x st N ps.length k c) : Fcx P w K mg base x [] (k + 1) ps.length c := by
  obtain ⟨f, fd, F, hm⟩ := D.ex
  exact ⟨f, fd, ps, [], [], fnX_ok F S h, hm, F.kp, F.bindsN hb, .nil, fun _ _ _ => .nil⟩
theorem Md.mx (D : Md K C m qual st f) (cl : Cls K C) (me : Meth K C m f) (S : FnScope N ps (defScope st))
    (hb : ∀ (kV doc pm : Value) (an : Option Addr) (cdv ct : Value) (us : List Value), us.length = ps.length → bindArgs (PySem.W.fnOf m qual (defArgs st) (defBody st) (defScope st) .none kV doc pm an cdv ct) ⟨us, []⟩ = pure (ps.zip us))
    (h : BodyX P w K mg base qual st N ps.length k c) : Mcx P w K mg base C m [] (k + 1) ps.length c := by
  obtain ⟨fd, F⟩ := D.ex
  exact ⟨cl, f, fd, ps, [], [], fnX_ok F S h, me, F.bindsN hb, .nil, fun _ _ _ => .nil⟩
theorem Fcx.up (F : Fcx P w K mg base x dd j n c) (h : j ≤ k) : Fcx P w K mg base x dd k n c := by
  obtain ⟨f, fd, ps, dvs, ds, F, r⟩ := F.ex
  exact ⟨f, fd, ps, dvs, ds, F.mono h, r⟩
theorem Mcx.up (F : Mcx P w K mg base C m dd j n c) (h : j ≤ k) : Mcx P w K mg base C m dd k n c := by
  obtain ⟨f, fd, ps, dvs, ds, G, r⟩ := F.ex
  exact ⟨F.cl, f, fd, ps, dvs, ds, G.mono h, r⟩
/-- the class of the name x, the contract of its __init__, which may raise -/
structure Kcx (P : Program) (w : World) (K : PySem.W.Frag) (mg : Str → Option Value) (base : Heap) (x : Str) (C : Addr) (dd : List D) (k n : Nat) (c : ConX) : Prop where
  at_ : mg x = some (.ref C)
  ex : ∃ (f : Addr) (fd : FuncData) (ps : List Str) (dvs : List V) (ds : List Value), FnOk P w K mg base (CX P w) k f fd ps (spX K n c) ∧ Mk K C f ∧ Binds K fd ps ds ∧ Vals dvs ds ∧ ∀ M Z H, Reps K M Z H dvs dd
theorem Md.kx (D : Md K C "__init__" qual st f) (hm : mg x = some (.ref C)) (me : Mk K C f) (S : FnScope N ps (defScope st))
    (hb : ∀ (kV doc pm : Value) (an : Option Addr) (cdv ct : Value) (us : List Value), us.length = ps.length → bindArgs (PySem.W.fnOf "__init__" qual (defArgs st) (defBody st) (defScope st) .none kV doc pm an cdv ct) ⟨us, []⟩ = pure (ps.zip us))
    (h : BodyX P w K mg base qual st N ps.length k c) : Kcx P w K mg base x C [] (k + 1) ps.length c := by
  obtain ⟨fd, F⟩ := D.ex
  exact ⟨hm, f, fd, ps, [], [], fnX_ok F S h, me, F.bindsN hb, .nil, fun _ _ _ => .nil⟩
theorem Kcx.up (F : Kcx P w K mg base x C dd j n c) (h : j ≤ k) : Kcx P w K mg base x C dd k n c := by
  obtain ⟨f, fd, ps, dvs, ds, G, r⟩ := F.ex
  exact ⟨F.at_, f, fd, ps, dvs, ds, G.mono h, r⟩
end
/-- an error behind which some objects are let go -/
def LetX (Ξ : Xi) : Xi := fun C fs M => ∃ M', Les M' M ∧ Ξ C fs M'
theorem letX_k {K : PySem.W.Frag} {M : Mp} {Z : Zn} {H : Hp} {Ξ : Xi} {E : XK} (k : KX K M Z H Ξ E) : KX K M Z H (LetX Ξ) E := fun C fs vs d H' M' x w h m r z => by
  obtain ⟨M2, l, z⟩ := z
  exact k C fs vs d H' M2 (x.trans (l.ext w)) (l.w w) h (l.x d _ h m).2 (r.monoI l.x) z
section
variable {X : Cx} {ρ : Rho} {M : Mp} {Φ : D → Mp → Prop} {Ξ : Xi} {Ψ : DE} {e a b o : Expr} {es : List Expr} {sts : List Stmt} {st : Stmt} {pos p apos : Pos} {x m : Str} {dd : List D} {k n : Nat} {c : ConX}
/-- C(e, ..), whose __init__ may raise -/
theorem wex_make {C : Addr} (F : Kcx X.prog X.w X.K X.mg X.base x C dd k n c) (hr : Room (k + 1) X.A)
    (h : WA X ρ M (e :: es) fun as M1 => ∀ a, M1 a = none → (.ob a :: (as ++ dd)).length = n ∧ c (.ob a :: (as ++ dd)) (mset M1 a (.ins C [])) (fun d M2 => d = .non ∧ Lets Φ (.ob a) M2) (LetX Ξ)) (hg : Gl X x := by rfl)
    (hdb : (x == ("__debug__" : Str)) = false := by decide) (he : starEach (e :: es) X.env = (false, eval e X.env) :: starEach es X.env := by rfl) (hpl : (backTo pos (starEach es X.env)).any (·.1) = false := by rfl) : WEx X ρ M (.Call (.Name x p) (e :: es) [] pos) Φ Ξ := .mk fun σ H Q E en w k t kx => by
  obtain ⟨f, fd, ps, dvs, ds, F', hm, hbd, hd, hdd⟩ := F.ex
  refine eOf (pe_make (E := E) hm F' hr hg F.at_ hbd hd t.pass pa_sem hdb he hpl) (h.run σ H _ en w fun vs as H1 M1 e1 w1 r1 hz => ?_)
  intro a dx ha hdx ne
  obtain ⟨hl, hz⟩ := hz a (w1.fresh ha).1
  have ha1 : (upd H1 dx (.own a)) a = none := by rw [upd_ne (Ne.symm ne)]; exact ha
  have x1 : Ext M1 _ H1 M1 (upd H1 dx (.own a)) := Ext.new w1 hdx
  have wa := w1.new (o := .own a) hdx
  have x2 : Ext M1 _ (upd H1 dx (.own a)) (mset M1 a (.ins C [])) (upd (upd H1 dx (.own a)) a (.ins C dx [])) := Ext.newM wa ha1
  have x12 := x1.trans x2
  refine ⟨.ob a :: (as ++ dd), mset M1 a (.ins C []), _, _, _, hl, .cons (.ob a) ((r1.mono x12).append (hdd _ _ _)), wa.newM ha1 ⟨dx, [], upd_same, .nil⟩, hz, fun v d H2 M2 x3 w2 r2 hy => ?_, letX_k (kx.step (e1.trans x12))⟩
  obtain ⟨rfl, hy⟩ := hy
  cases r2
  exact ⟨rfl, lets_k (k.step (e1.trans x12)) _ _ H2 M2 x3 w2 (.ob a) hy⟩
/-- isinstance(v, C), v an error -/
theorem call_isX : CallR X (.builtin "isinstance") (fun xs H Q => ∃ a C dx fs b c cv, xs = [.ref a, c] ∧ ClsV c cv ∧ XL.ErV X.K C ∧ H a = some (XL.XV a (.ref C) (some dx)) ∧ H dx = some (.xd fs) ∧ PySem.W.kitOne X.K (.ref C) cv = some b ∧ Q (.bl b) H) := by
  intro pins s σ H xs us Q I r h
  obtain ⟨a, C, dd, fs, b, c, cv, rfl, hc, E, ea, ed, hk, q⟩ := h
  refine XL.call_isV c cv (fun u hu => ?_) pins s σ H _ us Q I r ⟨a, C, dd, fs, b, rfl, E, ea, ed, hk, q⟩
  cases hc with
  | ty n => exact hu
  | own C => exact hu
theorem we_isX (hm : X.mg "isinstance" = none) (h : WE X ρ M a fun x M1 => WE X ρ M1 b fun y M2 => ∃ C fs u c, x = .exc C fs ∧ ClsD y u ∧ XL.ErV X.K C ∧ PySem.W.kitOne X.K (.ref C) u = some c ∧ Φ (.bl c) M2) (hg : Gl X "isinstance" := by rfl)
    (ha : starEach [a, b] X.env = (false, eval a X.env) :: starEach [b] X.env := by rfl) (hb : starEach [b] X.env = (false, eval b X.env) :: starEach [] X.env := by rfl) (hpl : (backTo pos (starEach [b] X.env)).any (·.1) = false := by rfl) : WE X ρ M (.Call (.Name "isinstance" p) [a, b] [] pos) Φ :=
  we_callB call_isX hm (by decide +kernel) (wa_cons (h.imp fun x M1 h => wa_cons (h.imp fun y M2 h => wa_nil fun Z vs H Q w rr k => by
    obtain ⟨v, u, rfl, r1, r2⟩ := rr.two
    obtain ⟨C, fs, cu, c, rfl, h2, E, h3, h⟩ := h
    cases r1 with
    | exc e1 e2 m1 m2 rf =>
      refine ⟨_, C, _, _, c, u, cu, rfl, ?_, E, e1, e2, h3, k.now w (.bl _) h⟩
      cases r2 with
      | ty n => cases h2; exact .ty n
      | fn C => cases h2; exact .own C
      | _ => cases h2) hb) ha) hg (he := ha) (hpl := hpl)
/-- v.value, v an error -/
theorem we_valX {f : Str} (h : WE X ρ M o fun d M1 => ∃ C fs v, d = .exc C fs ∧ XL.ErV X.K C ∧ PySem.W.findIn X.K (.ref C) f = some none ∧ fs.lookup f = some v ∧ Φ v M1) (hb : attributeBase o f X.env (eval o X.env) = eval o X.env := by rfl) : WE X ρ M (.Attribute o f pos) Φ := .mk fun σ H Q en w k =>
  eOf (XL.pe_valV pe_sem hb) (h.run σ H _ en w fun v d H1 M1 e1 w1 r1 hz => by
    obtain ⟨C, fs, y, rfl, E, hno, hl, hz⟩ := hz
    cases r1 with
    | exc q1 q2 m1 m2 rf =>
      obtain ⟨u, hu, ru⟩ := (rf.lookup f).2 y hl
      exact ⟨_, C, _, _, u, rfl, E, hno, q1, q2, hu, (k.step e1).now w1 ru hz⟩)
end
end DL
namespace XL
open PySem PySem.W PySem.Calls PyProof.Rows PySem.HandSPX L2 LamX
/-- a lambda is made -/
theorem lam_make4 {X : Cx} {pins : List (Addr × Obj)} {σ : L2.St} {H : Hp} {s : Shared} {c P : Addr} {params : Arguments} {body : Expr} {scope : Scope} {pos : Pos} {E Q : Value → Shared → Prop} (I : L2.Inv X pins σ H s) (TB : TabB X.base X.mg c P) (hcode : X.env.code = .ref c) (hex : X.ex = []) (hT : TabS H P (X.env.qual ++ "<lambda>"))
    (hdef : defaultsOf params X.env = ([], [])) (hfree : ∀ y ∈ scope.names, y.2 = NameKind.free → ∃ c, X.env.cells.lookup y.1 = some c)
    (h : ∀ (f c' : Addr) (H1 : Hp) (s' : Shared), L2.Inv X pins σ H1 s' → (∀ b o, H b = some o → b ≠ P → H1 b = some o) → TabS H1 P (X.env.qual ++ "<lambda>") → H f = none →
      H1 f = some (LamO f (X.env.qual ++ "<lambda>") params body scope (cloFrom X.env.cells scope.names []) c') → H1 c' = some (CodeO c' (X.env.qual ++ "<lambda>")) → f ≠ c' → c' ≠ P → (H c' = none ∨ ∃ ps pos, H P = some (.tbl ps) ∧ codeAmong pos ps.toList = some (.ref c')) →
      (∀ ps1 pos' cv, H1 P = some (.tbl ps1) → codeAmong pos' ps1.toList = some cv → cv = .ref c' ∨ ∃ ps, H P = some (.tbl ps) ∧ codeAmong pos' ps.toList = some cv) → Q (.ref f) s') :
    wpAny (model X.prog X.w) X.A (eval (.Lambda params body scope pos) X.env) Q E s := by
  obtain ⟨ps, hP, ht, ha⟩ := hT
  refine W.kla_eval hdef ?_
  have bP := TB.bm.keeps I.bk
  have hP' := I.hok P (.tbl ps) hP
  cases hc : codeAmong pos ps.toList with
  | none =>
    refine W.kla_makeFunction (closure_ok hfree) I.ok.glob (I.mod.glob.keeps I.bk) hcode (TB.code.keeps I.bk) hP' ht hc TB.gP bP fun c' ctv h' tk hx hge hlt hrec htb => ?_
    obtain ⟨c2, oc, vs, t, e2, hoc, hd, hv⟩ := hrec
    cases e2
    have hsz : s.heap.objs.size ≤ h'.objs.size := Nat.le_trans hge (Nat.le_of_lt hlt)
    have nC : H c' = none := I.hok.fresh hge
    have I1 := inv_table (t' := tk) I hP (fun b o hb e => Heap.get?_push_of_some (W.kla_obj "<lambda>" (X.env.qual ++ "<lambda>") params body scope (cloFrom X.env.cells scope.names []) ((X.mg "__name__").getD .none) c' ctv) (hx b o hb e)) (Heap.get?_push_of_some _ htb) hge ⟨oc, vs, t, Heap.get?_push_of_some _ hoc, hd, hv⟩
    have n1 : h'.objs.size ≠ c' := Nat.ne_of_gt hlt
    have n2 : h'.objs.size ≠ P := Nat.ne_of_gt (Nat.lt_of_lt_of_le (Heap.lt_size hP') hsz)
    have n3 : c' ≠ P := fun z => by rw [z, hP] at nC; cases nC
    have fN0 : H h'.objs.size = none := I.hok.fresh hsz
    have fN : (upd (upd H P (.tbl (ps ++ #[rawInt pos.line, rawInt pos.col, .ref c']))) c' (CodeO c' (X.env.qual ++ "<lambda>"))) h'.objs.size = none := by rw [upd_ne n1, upd_ne n2]; exact fN0
    have I2 := give_lam I I1 hex hsz fN (Heap.get?_push_size h' rfl)
    have kk : ∀ b o, H b = some o → b ≠ P → (upd (upd (upd H P (.tbl (ps ++ #[rawInt pos.line, rawInt pos.col, .ref c']))) c' (CodeO c' (X.env.qual ++ "<lambda>"))) h'.objs.size (LamO h'.objs.size (X.env.qual ++ "<lambda>") params body scope (cloFrom X.env.cells scope.names []) c')) b = some o := fun b o e n => by
      rw [upd_ne (ne_of_none e fN0), upd_ne (ne_of_none e nC), upd_ne n]; exact e
    have hc1 : (upd (upd (upd H P (.tbl (ps ++ #[rawInt pos.line, rawInt pos.col, .ref c']))) c' (CodeO c' (X.env.qual ++ "<lambda>"))) h'.objs.size (LamO h'.objs.size (X.env.qual ++ "<lambda>") params body scope (cloFrom X.env.cells scope.names []) c')) c' = some (CodeO c' (X.env.qual ++ "<lambda>")) := by rw [upd_ne (Ne.symm n1), upd_same]
    have eL : (ps ++ #[rawInt pos.line, rawInt pos.col, .ref c']).toList = ps.toList ++ [rawInt pos.line, rawInt pos.col, .ref c'] := by simp
    have hP1 : (upd (upd (upd H P (.tbl (ps ++ #[rawInt pos.line, rawInt pos.col, .ref c']))) c' (CodeO c' (X.env.qual ++ "<lambda>"))) h'.objs.size (LamO h'.objs.size (X.env.qual ++ "<lambda>") params body scope (cloFrom X.env.cells scope.names []) c')) P = some (.tbl (ps ++ #[rawInt pos.line, rawInt pos.col, .ref c'])) := by rw [upd_ne (Ne.symm n2), upd_ne (Ne.symm n3), upd_same]
    refine h _ c' _ _ I2 kk ⟨_, by rw [upd_ne (Ne.symm n2), upd_ne (Ne.symm n3), upd_same], by rw [eL]; exact TriplesOk_snoc _ _ _ _ ht, fun p' cv hcv => ?_⟩ fN0 upd_same hc1 n1 n3 (.inl nC) (fun ps1 pos' cv e1 hcv => ?_)
    rotate_left
    · rw [hP1] at e1; cases e1
      rw [eL] at hcv
      rcases among_app ps.toList ht hcv with z | z
      · exact .inr ⟨ps, hP, z⟩
      · exact .inl z
    rw [eL] at hcv
    rcases among_app ps.toList ht hcv with z | z
    · obtain ⟨c0, e1, e2⟩ := ha p' cv z
      exact ⟨c0, e1, kk c0 _ e2 (fun q => by rw [q, hP] at e2; cases e2)⟩
    · exact ⟨c', z, hc1⟩
  | some cv =>
    obtain ⟨c', rfl, hco⟩ := ha pos cv hc
    refine W.kla_makeFunctionHit (closure_ok hfree) I.ok.glob (I.mod.glob.keeps I.bk) hcode (TB.code.keeps I.bk) hP' ht hc bP fun ctv h' tk hx hsz => ?_
    have I1 := I.kept (t' := tk) fun b o e => Heap.get?_push_of_some (W.kla_obj "<lambda>" (X.env.qual ++ "<lambda>") params body scope (cloFrom X.env.cells scope.names []) ((X.mg "__name__").getD .none) c' ctv) (hx b o e)
    have fN0 : H h'.objs.size = none := I.hok.fresh hsz
    have I2 := give_lam I I1 hex hsz fN0 (Heap.get?_push_size h' rfl)
    have kk : ∀ b o, H b = some o → (upd H h'.objs.size (LamO h'.objs.size (X.env.qual ++ "<lambda>") params body scope (cloFrom X.env.cells scope.names []) c')) b = some o := fun b o e => by
      rw [upd_ne (ne_of_none e fN0)]; exact e
    refine h _ c' _ _ I2 (fun b o e _ => kk b o e) ⟨ps, kk _ _ hP, ht, fun p' cv hcv => ?_⟩ fN0 upd_same (kk _ _ hco) (fun z => by rw [z, hco] at fN0; cases fN0) (fun z => by rw [z, hP] at hco; cases hco) (.inr ⟨ps, pos, hP, hc⟩) (fun ps1 pos' cv e1 hcv => ?_)
    rotate_left
    · rw [kk _ _ hP] at e1; cases e1
      exact .inr ⟨ps, hP, hcv⟩
    obtain ⟨c0, e1, e2⟩ := ha p' cv hcv
    exact ⟨c0, e1, kk c0 _ e2⟩
end XL
namespace DL
open PySem PySem.Spec PyProof.Rows L2
section
variable {X : Cx} {ρ : Rho} {M : Mp} {Φ : D → Mp → Prop} {pos : Pos}
/-- a lambda -/
theorem we_lam {P c : Addr} {params : Arguments} {body : Expr} {scope : Scope} (TB : LamX.TabB X.base X.mg c P) (hcode : X.env.code = .ref c) (hex : X.ex = []) (hM : M P = some (.tbl (X.env.qual ++ "<lambda>"))) (hdef : defaultsOf params X.env = ([], []))
    (hfree : ∀ y ∈ scope.names, y.2 = NameKind.free → ∃ c, X.env.cells.lookup y.1 = some c) (h : Φ (.lam (X.env.qual ++ "<lambda>") params body scope (cloFrom X.env.cells scope.names [])) M) : WE X ρ M (.Lambda params body scope pos) Φ := .mk fun {Z} σ H Q en w k => by
  intro pins s I
  obtain ⟨ps, hP, ht, ha⟩ := w.1 P _ hM
  refine XL.lam_make4 I TB hcode hex ⟨ps, hP, ht, fun p cv z => let ⟨c, e1, e2, _⟩ := ha p cv z; ⟨c, e1, e2⟩⟩ hdef hfree fun f c' H1 s' I1 kk T1 hf hf1 hc1 nfc ncP hor htab => ?_
  have mc : Im M Z c' := by
    rcases hor with e | ⟨ps2, pos2, e1, e2⟩
    · exact w.fresh e
    · rw [hP] at e1; cases e1
      obtain ⟨c, e3, _, m⟩ := ha _ _ e2
      cases e3
      exact m
  have mf : Im M Z f := w.fresh hf
  have x1 : Ext M Z H M H1 := ⟨fun b o e m => ⟨kk b o e (fun z => by rw [z] at m; rw [m.1] at hM; cases hM), m⟩, fun b z => by
    obtain ⟨m, u, e⟩ := w.2 b z
    refine ⟨?_, rfl⟩
    rw [e]
    exact kk b u e fun z => by rw [z, hM] at m; cases m⟩
  have w1 : Wd X.K M Z H1 := by
    refine ⟨fun a o e => ?_, fun a z => ?_⟩
    · by_cases q : a = P
      · rw [q, hM] at e; cases e
        rw [q]
        obtain ⟨ps1, y1, y2, y3⟩ := T1
        refine ⟨ps1, y1, y2, fun p cv z => ?_⟩
        obtain ⟨c2, e1, e2⟩ := y3 p cv z
        subst e1
        refine ⟨c2, rfl, e2, ?_⟩
        rcases htab ps1 p _ y1 z with e3 | ⟨ps2, e3, e4⟩
        · cases e3; exact mc
        · rw [hP] at e3; cases e3
          obtain ⟨c3, e5, _, m⟩ := ha _ _ e4
          cases e5
          exact m
      · have r := w.1 a o e
        obtain ⟨u, hu⟩ := r.there
        exact r.step x1 ((kk a u hu q).trans hu.symm)
    · obtain ⟨m, u, e⟩ := w.2 a z
      exact ⟨m, u, by rw [(x1.2 a z).1]; exact e⟩
  exact ⟨.ref f, H1, I1, rfl, k _ _ H1 M x1 w1 (.lam hf1 hc1 mf mc) h⟩
end
end DL
namespace XL
open PySem PySem.W PySem.Calls PyProof.Rows PySem.HandSPX L2 LamX
/-- look(), E what is wanted where it raises -/
def tAct (X : Cx) (σ : L2.St) (i : Nat) (tb : XK → Arguments → Expr → Scope → TE) (E : L2.St → XK) : TE := fun σZ HZ Q => ∃ (f c' : Addr) (params : Arguments) (body : Expr) (scope : Scope), σZ[i]? = some (some (.ref f)) ∧ HZ f = some (LamO f (X.env.qual ++ "<lambda>") params body scope (cloFrom X.env.cells scope.names []) c') ∧ HZ c' = some (CodeO c' (X.env.qual ++ "<lambda>")) ∧
  LamS X.env.scope scope ∧ (∀ (pm cv ctv : Value), bindArgs (PySem.W.kla_fn "<lambda>" (X.env.qual ++ "<lambda>") params body scope (cloFrom X.env.cells scope.names []) pm cv ctv) ⟨[], []⟩ = pure []) ∧ tb (E σZ) params body scope σ HZ Q
section
variable {X : Cx} {pins : List (Addr × Obj)} {σ : L2.St} {H : Hp} {s : Shared} {Ng : List Str} {qg : Str} {sg : Scope} {g B : Addr} {cdg : Value} {k i j : Nat} {a n x : Str} {p1 p2 p3 np pos pos' : Pos} {tb : XK → Arguments → Expr → Scope → TE} {b₀ : Stmt} {suite : List Stmt} {ts : Addr → Value → Option Addr → TS}
/-- try: look() except X as n: suite -/
theorem try_look (I : L2.Inv X pins σ H s) (hr : Room (k + 1) (X.A.deeper (envOfC qg sg s.heap.objs.size g cdg)))
    (hbody : ∀ (E : XK) (params : Arguments) (body : Expr) (scope : Scope) (f c' : Addr) (A : Around) (outer : List Env) (s : Shared) (H : Hp), Room k (A.deeper (lamEnv X scope s.heap.objs.size f c')) → PE (lamCx X A outer s H E scope f c') body (tb E params body scope))
    (hN : Ng[i]? = some a) (hv : Vis sg a) (hd : (a == ("__debug__" : Str)) = false) (hcd : (a == ("__classdict__" : Str)) = false)
    (nd : Ng.Nodup) (hj : Ng[j]? = some n) (hln : (envOfC qg sg s.heap.objs.size g cdg).kindOf n = some .local) (hc : Names (cxOf CX0 X.prog X.w X.K X.mg X.base Ng qg sg g cdg X.A X.stack s H E0).nox x (.ref B))
    (hsw : swapsWith (.Call (.Name a p1) [] [] p2) none p3.line (envOfC qg sg s.heap.objs.size g cdg) = pure false)
    (hsu : ∀ (a : Addr) (oe : Obj) (cls : Value) (d : Option Addr) (pn : List (Addr × Obj)), Zc cls d oe → (∃ vs, oe.data = .fields vs) → PSs ((cxOf CX0 X.prog X.w X.K X.mg X.base Ng qg sg g cdg X.A X.stack s H E0).nox.suite a ((a, oe) :: pn)) (b₀ :: suite) (ts a cls d)) :
    PS (cxOf CX0 X.prog X.w X.K X.mg X.base Ng qg sg g cdg X.A X.stack s H E0).nox (.Try [.Expr (.Call (.Name a p1) [] [] p2) p3] [.ExceptHandler (some (.Name x np)) (some n) (b₀ :: suite) pos'] [] [] pos)
      (fun D σZ HZ => tSeq (tDrop (tAct X σ i tb (fun σZ cls d H' => wAsV X.K (.ref B) j ts (fun _ _ _ _ => False) D cls d σZ H'))) tNext D σZ HZ) :=
  ps_try_asV (X := (cxOf CX0 X.prog X.w X.K X.mg X.base Ng qg sg g cdg X.A X.stack s H E0).nox) (tb := fun W => tSeq (tDrop (tAct X σ i tb (fun σZ cls d H' => W cls d σZ H'))) tNext) rfl rfl rfl nd hj hln hc L2.takes0
    (fun W pn xe tk _ => pss_cons (ps_expr (pe_actV (CXg := CX0) (Eg := E0) (E := fun σZ cls d H' => W cls d σZ H') I tk (fun _ _ _ _ z => z) hr hbody hN hv hd hcd) hsw) pss_nil) hsu
/-- what the def makes of the lambda at f: None, or the error that it raises -/
def GiveC (X : Cx) (σ : L2.St) (K : Frag) (B : Addr) (tb : XK → Arguments → Expr → Scope → TE) (f : Addr) (H : Hp) (Q : VK) : Prop := ∃ (c' : Addr) (params : Arguments) (body : Expr) (scope : Scope), H f = some (LamO f (X.env.qual ++ "<lambda>") params body scope (cloFrom X.env.cells scope.names []) c') ∧ H c' = some (CodeO c' (X.env.qual ++ "<lambda>")) ∧
  LamS X.env.scope scope ∧ (∀ (pm cv ctv : Value), bindArgs (PySem.W.kla_fn "<lambda>" (X.env.qual ++ "<lambda>") params body scope (cloFrom X.env.cells scope.names []) pm cv ctv) ⟨[], []⟩ = pure []) ∧
  ∀ (E : XK) (R : VK), (∀ v H', Q .non H' → R v H') → (∀ cls d H', exmOne K cls (.ref B) = some true → (∀ a, H' a = none → Q (.ref a) (upd H' a (XV a cls d))) → E cls d H') → tb E params body scope σ H R
/-- here = None; try: look() except X as n: here = n; return here -/
theorem caughtB {here : Str} {q1 q2 q3 q4 q5 q6 q7 q8 : Pos} {jn : Nat} (I : L2.Inv X pins σ H s) (hr : Room (k + 1) (X.A.deeper (envOfC qg sg s.heap.objs.size g cdg)))
    (hbody : ∀ (E : XK) (params : Arguments) (body : Expr) (scope : Scope) (f c' : Addr) (A : Around) (outer : List Env) (s : Shared) (H : Hp), Room k (A.deeper (lamEnv X scope s.heap.objs.size f c')) → PE (lamCx X A outer s H E scope f c') body (tb E params body scope))
    (hv : Vis sg a) (hvn : Vis sg n) (hvh : Vis sg here) (hlh : L2.Loc sg here) (hd : (a == ("__debug__" : Str)) = false) (hcd : (a == ("__classdict__" : Str)) = false) (hd2 : (n == ("__debug__" : Str)) = false) (hcd2 : (n == ("__classdict__" : Str)) = false) (hd3 : (here == ("__debug__" : Str)) = false) (hcd3 : (here == ("__classdict__" : Str)) = false)
    (nd : Ng.Nodup) (hNg : Ng = [a, here, n]) (hln : (envOfC qg sg s.heap.objs.size g cdg).kindOf n = some .local) (hc : Names (cxOf CX0 X.prog X.w X.K X.mg X.base Ng qg sg g cdg X.A X.stack s H E0).nox x (.ref B))
    (hsw : swapsWith (.Call (.Name a p1) [] [] p2) none p3.line (envOfC qg sg s.heap.objs.size g cdg) = pure false)
    {f : Addr} {Q : VK} (h : GiveC X σ X.K B tb f H Q) :
    ∃ t, PSs (cxOf CX0 X.prog X.w X.K X.mg X.base Ng qg sg g cdg X.A X.stack s H E0).nox [.Assign [.Name here q1] (.Constant .none jn q2) q3, .Try [.Expr (.Call (.Name a p1) [] [] p2) p3] [.ExceptHandler (some (.Name x np)) (some n) [.Assign [.Name here q4] (.Name n q5) q6] pos'] [] [] pos, .Return (some (.Name here q7)) q8] t ∧
      t { nx := fun _ H' => Q .non H', rt := Q } (L2.start Ng [.ref f]) H := by
  subst hNg
  refine ⟨_, pss_cons (ps_asg pe_non (pg_name (i := 1) nd rfl hlh (Or.inl rfl)) rfl rfl rfl) (pss_cons (try_look (i := 0) (j := 2) I hr hbody rfl hv hd hcd nd rfl hln hc hsw (fun a oe cls d pn hz hf => pss_cons (ps_asg (pe_var (i := 2) rfl hvn hd2 hcd2) (pg_name (i := 1) nd rfl hlh (Or.inl rfl)) rfl rfl rfl) pss_nil)) (pss_cons (ps_ret (pe_var (i := 1) rfl hvh hd3 hcd3)) pss_nil)), ?_⟩
  obtain ⟨c', params, body, scope, h1, h2, h3, h4, h5⟩ := h
  refine ⟨f, c', params, body, scope, rfl, h1, h2, h3, h4, ?_⟩
  exact h5 _ _ (fun v H' z => ⟨_, rfl, z⟩) fun cls d H' he hq => ⟨true, he, fun _ a ha => ⟨_, rfl, _, rfl, hq a ha⟩, fun z => by cases z⟩
end
end XL
namespace DL
open PySem PySem.Spec PyProof.Rows L2
/-- the lambda's reading, whatever stands around it -/
def tbL (X : Cx) (k : Nat) : XK → Arguments → Expr → Scope → TE := fun E _ body scope σ H Q => ∀ (f c' : Addr) (A : Around) (outer : List Env) (s : Shared) (H0 : Hp), Room k (A.deeper (LamX.lamEnv X scope s.heap.objs.size f c')) → eSem (LamX.lamCx X A outer s H0 E scope f c') body σ H Q
theorem tbL_pe {X : Cx} {k : Nat} (E : XK) (params : Arguments) (body : Expr) (scope : Scope) (f c' : Addr) (A : Around) (outer : List Env) (s : Shared) (H : Hp) (hr : Room k (A.deeper (LamX.lamEnv X scope s.heap.objs.size f c'))) : PE (LamX.lamCx X A outer s H E scope f c') body (tbL X k E params body scope) :=
  ⟨fun pins s1 σ H1 Q I h => h f c' A outer s H hr pins s1 I⟩
/-- the def at g (slots Ng, scope sg, body bg) gives what the lambda raises, of the class at B -/
def Gives (X : Cx) (k : Nat) (B g : Addr) (x : Str) (Ng : List Str) (sg : Scope) (cdg : Value) (bg : List Stmt) : Prop := ∀ (pins : List (Addr × Obj)) (σ : L2.St) (H : Hp) (s : Shared) (f : Addr) (Q : VK), L2.Inv X pins σ H s → Room (k + 1) (X.A.deeper (envOfC x sg s.heap.objs.size g cdg)) → XL.GiveC X σ X.K B (tbL X k) f H Q →
  ∃ t, PSs (cxOf CX0 X.prog X.w X.K X.mg X.base Ng x sg g cdg X.A X.stack s H E0).nox bg t ∧ t { nx := fun _ H' => Q .non H', rt := Q } (L2.start Ng [.ref f]) H
section
variable {X : Cx} {ρ : Rho} {M : Mp} {Φ : D → Mp → Prop} {e : Expr} {pos p : Pos} {x a : Str} {k : Nat} {B g : Addr} {Ng : List Str} {sg : Scope} {cdg : Value} {bg : List Stmt} {pg : Arguments} {dV kV doc pm ct oc : Value} {an od : Option Addr} {osl : Array (Option Value)}
theorem we_caught (hm : X.mg x = some (.ref g)) (hk : PySem.W.keepIn X.K (.ref g) = true) (lk : X.K.lookup g = some ⟨oc, od, .func (PySem.W.fnOf x x pg bg sg dV kV doc pm an cdg ct), osl⟩) (hcg : PySem.W.codeIn X.K cdg x = true) (hb : Binds X.K (PySem.W.fnOf x x pg bg sg dV kV doc pm an cdg ct) [a] []) (Sg : FnScope Ng [a] sg)
    (hG : Gives X k B g x Ng sg cdg bg) (hr : Room (k + 2) X.A)
    (h : WE X ρ M e fun d M1 => ∃ params body scope, d = .lam (X.env.qual ++ "<lambda>") params body scope (cloFrom X.env.cells scope.names []) ∧ LamX.LamS X.env.scope scope ∧
      (∀ (q : Str) (cl : List (Str × Addr)) (pm cv ctv : Value), bindArgs (PySem.W.kla_fn "<lambda>" q params body scope cl pm cv ctv) ⟨[], []⟩ = pure []) ∧
      ∀ (f c' : Addr) (A : Around) (outer : List Env) (s : Shared) (H0 : Hp) (E : XK), Room k (A.deeper (LamX.lamEnv X scope s.heap.objs.size f c')) → WEx (LamX.lamCx X A outer s H0 E scope f c') ρ M1 body (fun _ M2 => Φ .non M2) (fun C fs M2 => PySem.W.exmOne X.K (.ref C) (.ref B) = some true ∧ Φ (.exc C fs) M2))
    (hg : Gl X x := by rfl) (hdb : (x == ("__debug__" : Str)) = false := by decide) (he : starEach [e] X.env = (false, eval e X.env) :: starEach [] X.env := by rfl) (hpl : (backTo pos (starEach [] X.env)).any (·.1) = false := by rfl) : WE X ρ M (.Call (.Name x p) [e] [] pos) Φ := .mk fun {Z} σ H Q en w kk => by
  intro pins s I
  refine wpAny_Call_Name_kw (ld_glob I hg hm ?_ hdb)
  refine PySem.W.callWith_K (h₀ := X.base) I.ok.mod.kin hk (thn ((pa_sem (es := [e])).run pos pins s σ H (fun vs H1 => ∃ f, vs = [.ref f] ∧ XL.GiveC X σ X.K B (tbL X k) f H1 Q) I ?_) fun us s1 z => ?_) he hpl
  · refine (wa_cons (es := []) (ΦA := fun ds M1 => ∃ d, ds = [d] ∧ ∃ params body scope, d = .lam (X.env.qual ++ "<lambda>") params body scope (cloFrom X.env.cells scope.names []) ∧ LamX.LamS X.env.scope scope ∧ (∀ (q : Str) (cl : List (Str × Addr)) (pm cv ctv : Value), bindArgs (PySem.W.kla_fn "<lambda>" q params body scope cl pm cv ctv) ⟨[], []⟩ = pure []) ∧
      ∀ (f c' : Addr) (A : Around) (outer : List Env) (s : Shared) (H0 : Hp) (E : XK), Room k (A.deeper (LamX.lamEnv X scope s.heap.objs.size f c')) → WEx (LamX.lamCx X A outer s H0 E scope f c') ρ M1 body (fun _ M2 => Φ .non M2) (fun C fs M2 => PySem.W.exmOne X.K (.ref C) (.ref B) = some true ∧ Φ (.exc C fs) M2)) (h.imp fun d M1 z => wa_nil ⟨d, rfl, z⟩) he).run σ H _ en w fun vs ds H1 M1 e1 w1 r1 hz => ?_
    obtain ⟨d, rfl, params, body, scope, rfl, L, hbind, hbd⟩ := hz
    cases r1 with
    | cons r1 r2 =>
      cases r2
      cases r1 with
      | lam q1 q2 m1 m2 =>
        refine ⟨_, rfl, _, params, body, scope, q1, q2, L, fun pm cv ctv => hbind _ _ pm cv ctv, fun E R hR hE f c' A outer s0 H0 hr' => ?_⟩
        refine (hbd f c' A outer s0 H0 E hr').run σ H1 R E (en.mono e1) w1 (fun v d H2 M2 e2 w2 r2 hz => hR v H2 ((kk.step (e1.trans e2)).now w2 .non hz)) (takes_of rfl rfl rfl rfl) fun C fs vs d H2 M2 e2 w2 hd md rf hz => ?_
        refine hE _ _ _ hz.1 fun q hq => ?_
        have nq : d ≠ q := fun z => by rw [z, hq] at hd; cases hd
        have x3 : Ext M2 Z H2 M2 (upd H2 q (XL.XV q (.ref C) (some d))) := Ext.new w2 hq
        exact (kk.step ((e1.trans e2).trans x3)).now (w2.new hq) (.exc upd_same (by rw [upd_ne nq]; exact hd) (w2.fresh hq) md (rf.mono x3)) hz.2
  · obtain ⟨vs, H1, I1, r, f, rfl, hgv⟩ := z
    refine ⟨I1.kIn, ?_⟩
    cases r with
    | cons r1 r2 =>
      cases r2
      rename_i u
      obtain rfl : u = Value.ref f := r1
      have rc := LamX.run_ofS (CX := CX0) (P := X.prog) (w := X.w) (mg := X.mg) (base := X.base) (Q := Q) (E := E0) lk hcg Sg hr I1.env0 (hb s1 [Value.ref f] I1.kIn rfl) (Paired.cons (a := V.ref f) rfl Paired.nil) rfl fun hr' => by
        obtain ⟨t', ht, hq⟩ := hG pins σ H1 s1 f Q I1 hr' hgv
        exact ⟨t', PSs.nox ht, hq⟩
      refine wpAny_call (codeAny_mono rc fun r s' hq => ?_)
      cases r with
      | error er => exact hq.elim
      | ok fl =>
        cases fl with
        | ret u => exact I1.after hq
        | next => exact hq.elim
        | brk => exact hq.elim
        | cont => exact hq.elim
end
end DL
namespace DL
open PySem PySem.Spec PyProof.Rows L2
/-- nothing but the script and some empty tables is known -/
def OnlyT (cs : List (Addr × Addr)) (H : Hp) : Prop := (∀ p ∈ cs, H p.2 = some (.tbl #[])) ∧ ∀ b, H b = none ∨ b ∈ cs.map (·.2) ∨ ∃ o xs, H b = some (.frz o (.lst xs))
theorem lawGT {P : Program} {w : World} {K : PySem.W.Frag} {mg mb : Str → Option Value} {k : Nat} {fa a : Addr} {cs : List (Addr × Addr)} {fd : FuncData} {x : Str} {sp : Sp} {s : Shared} {vs : List Value} {ns : List Int}
    (KX : K.In s.heap) (gn : s.heap.Ns mainGlobals mg) (bn : s.heap.Ns builtinsNs mb) (bb : ∀ x : Str, x ≠ "__name__" → mb x = bootBuiltins x) (lim : s.heap.NoLimit) (hg : s.gens = #[])
    (tc : ∀ p ∈ cs, PySem.W.CodeHd s.heap p.1 p.2 ∧ s.heap.get? p.2 = some { cls := .none, data := .fields #[] }) (tn : ∀ p ∈ cs, K.lookup p.2 = none)
    (bm : ∃ (m : Addr) (ob : Obj), mg "__builtins__" = some (.ref m) ∧ m ≠ builtinsNs ∧ s.heap.get? m = some ob ∧ ob.cls = .type "module" ∧ ob.dict = some builtinsNs ∧ ob.data = .plain)
    (ha : s.heap.get? a = some { cls := .type "list", data := .seq vs.toArray }) (hi : IntsAre vs ns) (hl : ns.length ≤ sizeLine) (hr : Room k callerA)
    (F : ∀ base : Heap, K.In base → base.Ns mainGlobals mg → (∀ p ∈ cs, LamX.TabB base mg p.1 p.2) → FnG P w K mg base k fa fd [x] sp) (bind_ : ∀ (s : Shared) (u : Value), BindsTo s fd ⟨[u], []⟩ [(x, u)])
    (hsp : ∀ H : Hp, OnlyT cs H → SqL K H a (ns.map V.int) → sp [.ref a] H (fun v _ => v = .bl true) fun _ _ _ => False) :
    codeAny (model P w) callerA (.call (.ref fa) ⟨[.ref a], []⟩) (fun r s' => r = .ok (.ret (.bool true)) ∧ OldK s.heap s'.heap ∧ s'.os = s.os ∧ AllBare s'.gens) s := by
  have rv := vals_ints hi
  have lenV := hi.length
  have tob : ∀ b : Addr, b ∈ cs.map (·.2) → s.heap.get? b = some { cls := .none, data := .fields #[] } := fun b h => by
    obtain ⟨p, h1, rfl⟩ := List.mem_map.mp h
    exact (tc p h1).2
  have tin : ∀ p ∈ cs, p.2 ∈ cs.map (·.2) := fun p h => List.mem_map.mpr ⟨p, h, rfl⟩
  have at_a : a ∉ cs.map (·.2) := fun z => by
    have q := tob a z
    rw [ha] at q
    cases congrArg Obj.data (Option.some.inj q)
  have main : ∀ H : Hp, OnlyT cs H → SqL K H a (ns.map V.int) → HOk P w H s.heap → (∀ b, H b ≠ none → b = a ∨ b ∈ cs.map (·.2)) → (H a ≠ none → K.lookup a = none) →
      codeAny (model P w) callerA (.call (.ref fa) ⟨[.ref a], []⟩) (fun r s' => r = .ok (.ret (.bool true)) ∧ OldK s.heap s'.heap ∧ s'.os = s.os ∧ AllBare s'.gens) s := fun H o1 o2 hok at_ hK => by
    have keep0 : ∀ {b : Addr} {o : Obj}, s.heap.get? b = some o → H b = none → (hidT s.heap H).get? b = some o := fun z y => hidT_get z y
    -- what is neither the script nor a table is hidden
    have free : ∀ {b : Addr} {o : Obj}, s.heap.get? b = some o → o.data ≠ .fields #[] → (∀ n, o.data ≠ .seq vs.toArray n) → H b = none := fun {b o} z d1 d2 => by
      cases q : H b with
      | none => rfl
      | some u =>
        exfalso
        rcases at_ b (by rw [q]; simp) with e | e
        · rw [e, ha] at z
          cases z
          exact d2 _ rfl
        · rw [tob b e] at z
          cases z
          exact d1 rfl
    have noD : ∀ {b : Addr} {o : Obj} {es : Array DictEntry} {ep : Nat}, s.heap.get? b = some o → o.data = .dict es ep → H b = none := fun z d => free z (by rw [d]; simp) (by rw [d]; simp)
    have nsK : ∀ {b : Addr} {m : Str → Option Value}, s.heap.Ns b m → (hidT s.heap H).Ns b m := fun {b m} z => by
      obtain ⟨o, es, ep, y, d, r⟩ := z
      exact ⟨o, es, ep, keep0 y (noD y d), d, r⟩
    have inB : K.In (hidT s.heap H) := fun b o z => keep0 (KX b o z) (by
      cases q : H b with
      | none => rfl
      | some u =>
        rcases at_ b (by rw [q]; simp) with e | e
        · rw [e] at z q
          rw [hK (by rw [q]; simp)] at z
          cases z
        · obtain ⟨p, h1, rfl⟩ := List.mem_map.mp e
          rw [tn p h1] at z
          cases z)
    have hM : Mod K mg (hidT s.heap H) := ⟨inB, nsK gn, ⟨mb, nsK bn, bb⟩, by obtain ⟨mc, h1, h2⟩ := lim; exact ⟨mc, nsK h1, h2⟩⟩
    have TB : ∀ p ∈ cs, LamX.TabB (hidT s.heap H) mg p.1 p.2 := fun p h => by
      obtain ⟨hc, hP⟩ := tc p h
      have gP : mainGlobals ≠ p.2 := fun z => by
        obtain ⟨o, es, ep, e, hd, _⟩ := gn
        rw [z, hP] at e
        cases e
        cases hd
      refine ⟨?_, ?_, gP⟩
      · obtain ⟨o, us, file, tf, flags, tg, inF, text, tt, e1, r1, r2, r3, r⟩ := hc
        refine ⟨o, us, file, tf, flags, tg, inF, text, tt, keep0 e1 (free e1 (fun z => ?_) fun n z => ?_), r1, r2, r3, r⟩
        · rw [r2] at z
          cases z
          simp at r3
        · rw [r2] at z
          cases z
      · obtain ⟨m, ob, b1, b2, b3, b4, b5, b6⟩ := bm
        have n1 : m ≠ mainGlobals := fun q => by
          obtain ⟨o, es, ep, e, hd, _⟩ := gn
          rw [q, e] at b3
          cases b3
          rw [hd] at b6
          cases b6
        have n2 : m ≠ p.2 := fun q => by
          rw [q, hP] at b3
          cases b3
          cases b6
        exact ⟨m, ob, b1, b2, n1, n2, keep0 b3 (free b3 (by rw [b6]; simp) (by rw [b6]; simp)), b4, b5, b6⟩
    have e0 : Env0 P w K mg (hidT s.heap H) callerA [] s H := ⟨rfl, hM, fun b o z => of_hidT z, Nat.le_of_eq (hidT_size _ _), trivial, fun b hb => absurd (show b ∈ ([] : List Addr) from hb) (by simp), hok, .of_eq hg⟩
    refine codeAny_mono ((F _ inB (nsK gn) TB).run callerA [] s H ⟨[.ref a], []⟩ [.ref a] [.ref a] _ _ rfl hr e0 (bind_ s (.ref a)) (.cons rfl .nil) (hsp H o1 o2)) fun r s' h => ?_
    cases r with
    | error e => exact False.elim h
    | ok fl =>
      cases fl with
      | ret u =>
        obtain ⟨v, H', os, bare, un, hok', r', q⟩ := h
        obtain rfl : v = .bl true := q
        obtain rfl : u = Value.bool true := r'
        have old : ∀ b o, b ∉ cs.map (·.2) → s.heap.get? b = some o → s'.heap.get? b = some o := fun b o nb z => by
          cases q : H b with
          | none => exact un.keep b o z q (fun y => absurd (show b ∈ ([] : List Addr) from y) (by simp)) (by simp)
          | some u =>
            rcases o1.2 b with y | y | ⟨ob, xs, y⟩
            · rw [q] at y; cases y
            · exact absurd y nb
            · have y3 := (hok b _ y).1
              have y4 := (hok' b _ (un.frzs b ob _ y)).1
              rw [z] at y3; cases y3
              exact y4
        have grew : ∀ p ∈ cs, ∃ more : Array Value, s'.heap.get? p.2 = some { cls := .none, data := .fields more } := fun p h => by
          obtain ⟨more, z⟩ := un.tbls p.2 #[] (o1.1 p h)
          exact ⟨_, hok' p.2 _ z⟩
        refine ⟨rfl, ⟨fun b o z => ?_, fun b o z => ?_⟩, os, bare⟩
        · by_cases hb : b ∈ cs.map (·.2)
          · obtain ⟨p, h1, rfl⟩ := List.mem_map.mp hb
            obtain ⟨more, hm⟩ := grew p h1
            rw [(tc p h1).2] at z
            cases z
            exact .inr (.inl ⟨((tc p h1).1.tab (tc p h1).2).isCodeTable, rfl, #[], more, rfl, by rw [Array.empty_append]; exact hm⟩)
          · exact .inl (old b o hb z)
        · by_cases hb : b ∈ cs.map (·.2)
          · obtain ⟨p, h1, rfl⟩ := List.mem_map.mp hb
            obtain ⟨more, hm⟩ := grew p h1
            exact ⟨_, hm⟩
          · exact ⟨o, old b o hb z⟩
      | _ => exact False.elim h
  cases hk : K.lookup a with
  | some o =>
    have z := KX a o hk
    rw [ha] at z
    cases z
    refine main (fun b => if b ∈ cs.map (·.2) then some (.tbl #[]) else none) ⟨fun p h => if_pos (tin p h), fun b => ?_⟩ (.inr ⟨_, vs.toArray, _, hk, rfl, rfl, rfl, by rw [List.size_toArray, lenV]; exact hl, by simpa using rv⟩) (fun b u z => ?_) (fun b z => ?_) fun z => absurd (show (if a ∈ cs.map (·.2) then some (HO.tbl #[]) else none) = none from if_neg at_a) z
    · by_cases hb : b ∈ cs.map (·.2)
      · exact .inr (.inl hb)
      · exact .inl (if_neg hb)
    · by_cases hb : b ∈ cs.map (·.2)
      · cases (if_pos hb).symm.trans z
        exact tob b hb
      · cases (if_neg hb).symm.trans z
    · by_cases hb : b ∈ cs.map (·.2)
      · exact .inr hb
      · exact absurd (if_neg hb) z
  | none =>
    have ne : ∀ p ∈ cs, ¬ p.2 = a := fun p h z => at_a (z ▸ tin p h)
    refine main (fun b => if b = a then some (.frz { cls := .type "list", data := .seq vs.toArray } (.lst (ns.map V.int))) else if b ∈ cs.map (·.2) then some (.tbl #[]) else none) ⟨fun p h => (if_neg (ne p h)).trans (if_pos (tin p h)), fun b => ?_⟩ (.inl (.inr ⟨_, if_pos rfl⟩)) (fun b u z => ?_) (fun b z => ?_) fun _ => hk
    · by_cases hb : b = a
      · exact .inr (.inr ⟨_, _, if_pos hb⟩)
      · by_cases hb2 : b ∈ cs.map (·.2)
        · exact .inr (.inl hb2)
        · exact .inl ((if_neg hb).trans (if_neg hb2))
    · by_cases hb : b = a
      · cases (if_pos hb).symm.trans z
        subst hb
        exact ⟨ha, by rw [List.length_map]; exact hl, vs, _, rv, ha⟩
      · have z1 := (if_neg hb).symm.trans z
        by_cases hb2 : b ∈ cs.map (·.2)
        · cases (if_pos hb2).symm.trans z1
          exact tob b hb2
        · cases (if_neg hb2).symm.trans z1
    · by_cases hb : b = a
      · exact .inl hb
      · by_cases hb2 : b ∈ cs.map (·.2)
        · exact .inr hb2
        · exact absurd ((if_neg hb).trans (if_neg hb2)) z
theorem walk_ofGT {l : PySem.W.OpenLaw} {n k : Nat} {q : Program} {loose names : List Str} {XP : (Str → Option Value) → Heap → Prop} {YP : World → Heap → Prop} {d : DefRec} {x : Str}
    (hn : l.most = some n) (hn2 : n ≤ sizeLine) (hdf : d.params.defaults = []) (hr : Room k callerA) (hrec : ∀ y ∈ names, ((recsOf q).find? fun e => e.name == y).isSome = true)
    (F : ∀ (w : World) (mg : Str → Option Value) (fa : Addr) (h : Heap), YP w h → h.Ns mainGlobals mg → mg d.name = some (.ref fa) →
      ∃ (K : PySem.W.Frag) (fd : FuncData) (sp : Sp) (cs : List (Addr × Addr)), K.In h ∧ (∀ (s : Shared) (u : Value), BindsTo s fd ⟨[u], []⟩ [(x, u)]) ∧ (∀ p ∈ cs, K.lookup p.2 = none ∧ ∃ y ∈ names, PySem.W.tabIn K y = some p) ∧
        (∀ (H : Hp) (a : Addr) (ns : List Int), ns.length ≤ n → OnlyT cs H → SqL K H a (ns.map V.int) → sp [.ref a] H (fun v _ => v = .bl true) fun _ _ _ => False) ∧
        ∀ base : Heap, K.In base → base.Ns mainGlobals mg → (∀ p ∈ cs, LamX.TabB base mg p.1 p.2) → FnG l.prog w K mg base k fa fd [x] sp) :
    PySem.W.WalkO q loose XP YP l.row.toRowW d [] (fun f vs => PySem.call f vs) := by
  refine Att.attach_call hn hdf fun w s0 s1 mg mb fa o pm cd doc a vs ns G Y ho hd hcd hmg hobj hints hlen hg => ?_
  obtain ⟨K, fd, sp, cs, KX, hb, ht, hsp, hF⟩ := F w mg fa _ Y G.T.g hmg
  refine lawGT KX G.T.g G.T.b G.T.builtins G.T.nolimit hg (fun p hp => ?_) (fun p hp => (ht p hp).1) G.T.bmain hobj hints (Nat.le_trans hlen hn2) hr hF hb fun H hO hS => hsp H a ns hlen hO hS
  obtain ⟨y, hy, e⟩ := (ht p hp).2
  obtain ⟨r, hr'⟩ := Option.isSome_iff_exists.mp (hrec y hy)
  exact PySem.W.tab_of G.T KX hr' e
end DL
namespace DL
open PySem PySem.Spec PyProof.Rows L2
section
variable {P : Program} {w : World} {K : PySem.W.Frag} {mg : Str → Option Value} {base : Heap} {x qual : Str} {st : Stmt} {kws : List (Str × V)} {f : Addr} {fd : FuncData} {N ps : List Str} {k n : Nat} {c : Con} {cd : Addr}
/-- a body keeps a contract where nothing is being shown; its code object stands at cd -/
def BodyC (P : Program) (w : World) (K : PySem.W.Frag) (mg : Str → Option Value) (base : Heap) (qual : Str) (st : Stmt) (N : List Str) (n k : Nat) (cd : Addr) (c : Con) : Prop :=
  ∀ (f : Addr) (A : Around) (outer : List Env) (s : Shared) (H : Hp) (E : XK), (A.deeper (envOfC qual (defScope st) s.heap.objs.size f (.ref cd))).guards = some [] → Room k (A.deeper (envOfC qual (defScope st) s.heap.objs.size f (.ref cd))) → ∀ ds M Φ, ds.length = n → c ds M Φ →
      WSs (bx P w K mg base N qual (defScope st) f (.ref cd) A outer s H E) (start N ds) M (defBody st) { nx := fun _ M' => Φ .non M', rt := Lets Φ }
theorem fnC_ok {dvs : List V} (F : FunD K x qual (defArgs st) (defBody st) (defScope st) dvs kws f fd) (hcd : fd.code = .ref cd) (S : FnScope N ps (defScope st)) (h : BodyC P w K mg base qual st N ps.length k cd c) : FnG P w K mg base (k + 1) f fd ps (spD K ps.length c) := by
  obtain ⟨oc, od, dV, kV, doc, pm, an, cdv, ct, osl, rfl, lk, hq, _, _⟩ := F.ex
  obtain rfl : cdv = .ref cd := hcd
  have ln : ∀ vs H Q E, spD K ps.length c vs H Q E → vs.length = ps.length := fun vs H Q E q => by
    obtain ⟨ds, M, Z, Φ, hl, r, _⟩ := q
    rw [r.length, hl]
  refine ⟨ln, fun A outer s H args us vs Q E hg hr e0 hb rv hsp => ?_⟩
  have hlen := ln _ _ _ _ hsp
  have hK : K.In s.heap := e0.mod.kin.keeps fun b o z => (e0.bs b o z).1
  have hlim : s.heap.NoLimit := e0.mod.nolimit.keeps fun b o z => (e0.bs b o z).1
  have kinds : ∀ y ∈ ps.zip us, (defScope st).names.lookup y.1 = some .local ∨ ((defScope st).names.lookup y.1 = some .cell ∧ ((cellsFrom (s.heap.objs.size + 1) (defScope st).names []).lookup y.1).isSome = true) := fun y hy => by
    rcases S.par y.1 (List.of_mem_zip hy).1 with z | z
    · exact .inl z
    · exact .inr ⟨z, PySem.W.cellsFrom_some _ _ _ (.inl z)⟩
  refine codeAny_call_function hr.depth (hK _ _ lk) rfl S.co S.gen rfl (PySem.W.codeRec_of hK hq) (hb _ _ _ _ (wpAny_newFunctionEnv_cells S.kind kinds fun env he s1 xx => ?_))
  subst he
  refine ⟨hlim.keeps xx.toInCall.keep, codeAny_func ?_⟩
  obtain ⟨ds, M, Z, Φ, hl, r, wd, hc, kk⟩ := hsp
  have I : Inv (cxOf CX0 P w K mg base N qual (defScope st) f (.ref cd) A outer s H E) [] (L2.start N vs) H s1 := inv_start S hr.hd e0 hlen rv xx
  have body := (h f A outer s H E hg (hr.deeper _) ds M Φ hl hc).run (L2.start N vs) H { nx := fun _ H' => Q .non H', rt := Q } (env_start r) wd ⟨fun σ' ρ' H' M' x w' en z => kk _ .non H' M' x w' .non z, lets_k kk, fun _ _ _ _ _ _ _ z => z.elim, fun _ _ _ _ _ _ _ z => z.elim⟩
  have done : ∀ {σ' : L2.St} {H' : Hp} {v : V} {u : Value} {s' : Shared}, Inv (cxOf CX0 P w K mg base N qual (defScope st) f (.ref cd) A outer s H E) [] σ' H' s' → RelV v u → Q v H' → CE outer P w H s Q u s' := fun {σ' H' v u s'} J ru q => ⟨v, H', J.os, J.bare, J.base, J.hok, ru, q⟩
  refine wpAny_mono ((PSs.nox (pss_sem (X := bx P w K mg base N qual (defScope st) f (.ref cd) A outer s H E))).run [] s1 (L2.start N vs) H _ I body) (fun fl s' hs => ?_) fun e s' hs => hs
  cases fl with
  | ret u => obtain ⟨v, σ', H', J, ru, q⟩ := hs; exact done J ru q
  | next => obtain ⟨σ', H', J, q⟩ := hs; exact done (v := V.non) (u := Value.none) J rfl q
  | brk => obtain ⟨_, _, _, q⟩ := hs; exact q.elim
  | cont => obtain ⟨_, _, _, q⟩ := hs; exact q.elim
/-- the module's def x is the statement st, its code object stands at cd -/
structure Dc (K : PySem.W.Frag) (mg : Str → Option Value) (x : Str) (st : Stmt) (cd : Addr) : Prop where
  ex : ∃ (f : Addr) (fd : FuncData), FunD K x x (defArgs st) (defBody st) (defScope st) [] [] f fd ∧ mg x = some (.ref f) ∧ fd.code = .ref cd
theorem Dc.gc (D : Dc K mg x st cd) (S : FnScope N ps (defScope st))
    (hb : ∀ (kV doc pm : Value) (an : Option Addr) (cdv ct : Value) (us : List Value), us.length = ps.length → bindArgs (PySem.W.fnOf x x (defArgs st) (defBody st) (defScope st) .none kV doc pm an cdv ct) ⟨us, []⟩ = pure (ps.zip us))
    (h : BodyC P w K mg base x st N ps.length k cd c) : Gc P w K mg base x (k + 1) ps.length c := by
  obtain ⟨f, fd, F, hm, hcd⟩ := D.ex
  exact ⟨f, fd, ps, fnC_ok F hcd S h, hm, F.kp, F.bindsN hb⟩
end
/-- the def _law_caught -/
structure Ct (K : PySem.W.Frag) (mg : Str → Option Value) (x : Str) (st : Stmt) (a : Str) : Prop where
  df : Df K mg x st []
  bind : ∀ (kV doc pm : Value) (an : Option Addr) (cdv ct : Value) (us : List Value), us.length = 1 → bindArgs (PySem.W.fnOf x x (defArgs st) (defBody st) (defScope st) .none kV doc pm an cdv ct) ⟨us, []⟩ = pure ([a].zip us)
section
variable {X : Cx} {ρ : Rho} {M : Mp} {Φ : D → Mp → Prop} {e : Expr} {pos p : Pos} {x a : Str} {k : Nat} {B : Addr} {Ng : List Str} {st : Stmt}
/-- `_law_caught(e)`, e a lambda -/
theorem we_ct (T : Ct X.K X.mg x st a) (Sg : FnScope Ng [a] (defScope st)) (hG : ∀ (g : Addr) (cdg : Value), Gives X k B g x Ng (defScope st) cdg (defBody st)) (hr : Room (k + 2) X.A)
    (h : WE X ρ M e fun d M1 => ∃ params body scope, d = .lam (X.env.qual ++ "<lambda>") params body scope (cloFrom X.env.cells scope.names []) ∧ LamX.LamS X.env.scope scope ∧
      (∀ (q : Str) (cl : List (Str × Addr)) (pm cv ctv : Value), bindArgs (PySem.W.kla_fn "<lambda>" q params body scope cl pm cv ctv) ⟨[], []⟩ = pure []) ∧
      ∀ (f c' : Addr) (A : Around) (outer : List Env) (s : Shared) (H0 : Hp) (E : XK), Room k (A.deeper (LamX.lamEnv X scope s.heap.objs.size f c')) → WEx (LamX.lamCx X A outer s H0 E scope f c') ρ M1 body (fun _ M2 => Φ .non M2) (fun C fs M2 => PySem.W.exmOne X.K (.ref C) (.ref B) = some true ∧ Φ (.exc C fs) M2))
    (hg : Gl X x := by rfl) (hdb : (x == ("__debug__" : Str)) = false := by decide) (he : starEach [e] X.env = (false, eval e X.env) :: starEach [] X.env := by rfl) (hpl : (backTo pos (starEach [] X.env)).any (·.1) = false := by rfl) : WE X ρ M (.Call (.Name x p) [e] [] pos) Φ := by
  obtain ⟨g, fd, F, hm⟩ := T.df.ex
  obtain ⟨oc, od, dV, kV, doc, pm, an, cdg, ct, osl, rfl, lk, hcg, hdv, _⟩ := F.ex
  have hb := F.bindsN (ps := [a]) T.bind
  exact we_caught hm F.kp lk hcg hb Sg (hG g cdg) hr h hg hdb he hpl
end
end DL
namespace XL
open PySem PySem.W PySem.Calls PyProof.Rows PySem.HandSPX L2 LamX
section
variable {X : Cx} {pins : List (Addr × Obj)} {σ : L2.St} {H : Hp} {s : Shared} {Ng : List Str} {qg : Str} {sg : Scope} {g B : Addr} {cdg : Value} {k i j jr : Nat} {a n x rp : Str} {p1 p2 p3 pr np pos pos' : Pos} {tb : XK → Arguments → Expr → Scope → TE} {b₀ : Stmt} {suite : List Stmt} {ts : Addr → Value → Option Addr → TS}
/-- try: r = look() except X as n: suite -/
theorem try_ans (I : L2.Inv X pins σ H s) (hr : Room (k + 1) (X.A.deeper (envOfC qg sg s.heap.objs.size g cdg)))
    (hbody : ∀ (E : XK) (params : Arguments) (body : Expr) (scope : Scope) (f c' : Addr) (A : Around) (outer : List Env) (s : Shared) (H : Hp), Room k (A.deeper (lamEnv X scope s.heap.objs.size f c')) → PE (lamCx X A outer s H E scope f c') body (tb E params body scope))
    (hN : Ng[i]? = some a) (hv : Vis sg a) (hd : (a == ("__debug__" : Str)) = false) (hcd : (a == ("__classdict__" : Str)) = false) (hjr : Ng[jr]? = some rp) (hlr : L2.Loc sg rp) (hfr : sg.names.lookup rp = some .local)
    (nd : Ng.Nodup) (hj : Ng[j]? = some n) (hln : (envOfC qg sg s.heap.objs.size g cdg).kindOf n = some .local) (hc : Names (cxOf CX0 X.prog X.w X.K X.mg X.base Ng qg sg g cdg X.A X.stack s H E0).nox x (.ref B))
    (hsw : swapsWith (.Call (.Name a p1) [] [] p2) (some (.Name rp pr)) p3.line (envOfC qg sg s.heap.objs.size g cdg) = pure false)
    (hsu : ∀ (a : Addr) (oe : Obj) (cls : Value) (d : Option Addr) (pn : List (Addr × Obj)), Zc cls d oe → (∃ vs, oe.data = .fields vs) → PSs ((cxOf CX0 X.prog X.w X.K X.mg X.base Ng qg sg g cdg X.A X.stack s H E0).nox.suite a ((a, oe) :: pn)) (b₀ :: suite) (ts a cls d)) :
    PS (cxOf CX0 X.prog X.w X.K X.mg X.base Ng qg sg g cdg X.A X.stack s H E0).nox (.Try [.Assign [.Name rp pr] (.Call (.Name a p1) [] [] p2) p3] [.ExceptHandler (some (.Name x np)) (some n) (b₀ :: suite) pos'] [] [] pos)
      (fun D σZ HZ => tSeq (tAsg (tAct X σ i tb (fun σZ cls d H' => wAsV X.K (.ref B) j ts (fun _ _ _ _ => False) D cls d σZ H')) (gName jr)) tNext D σZ HZ) :=
  ps_try_asV (X := (cxOf CX0 X.prog X.w X.K X.mg X.base Ng qg sg g cdg X.A X.stack s H E0).nox) (tb := fun W => tSeq (tAsg (tAct X σ i tb (fun σZ cls d H' => W cls d σZ H')) (gName jr)) tNext) rfl rfl rfl nd hj hln hc L2.takes0
    (fun W pn xe tk _ => pss_cons (ps_set nd hjr hlr (pe_actV (CXg := CX0) (Eg := E0) (E := fun σZ cls d H' => W cls d σZ H') I tk (fun _ _ _ _ z => z) hr hbody hN hv hd hcd) hsw (.inr hfr)) pss_nil) hsu
/-- what the def makes of the lambda at f: (None, what it gives), or (the error that it raises, None) -/
def GiveR (X : Cx) (σ : L2.St) (K : Frag) (B : Addr) (tb : XK → Arguments → Expr → Scope → TE) (f : Addr) (H : Hp) (Q : VK) : Prop := ∃ (c' : Addr) (params : Arguments) (body : Expr) (scope : Scope), H f = some (LamO f (X.env.qual ++ "<lambda>") params body scope (cloFrom X.env.cells scope.names []) c') ∧ H c' = some (CodeO c' (X.env.qual ++ "<lambda>")) ∧
  LamS X.env.scope scope ∧ (∀ (pm cv ctv : Value), bindArgs (PySem.W.kla_fn "<lambda>" (X.env.qual ++ "<lambda>") params body scope (cloFrom X.env.cells scope.names []) pm cv ctv) ⟨[], []⟩ = pure []) ∧
  ∀ p0, H p0 = none → ∀ (E : XK) (R : VK), (∀ v H', (∀ p, H' p = none → Q (.ref p) (upd H' p (.tup [.non, v]))) → R v H') → (∀ cls d H', exmOne K cls (.ref B) = some true → (∀ a p, H' a = none → upd H' a (XV a cls d) p = none → Q (.ref p) (upd (upd H' a (XV a cls d)) p (.tup [.ref a, .non]))) → E cls d H') → tb E params body scope σ (upd H p0 (.tup [.non, .non])) R
/-- here, r = (None, None); try: r = look() except X as n: here = n; return (here, r) -/
theorem answered {here : Str} {q1 q2 q3 q4 q5 q6 q7 q8 q9 q10 q11 q12 q13 q14 : Pos} {k1 k2 k3 j1 j2 : Nat} (I : L2.Inv X pins σ H s) (hr : Room (k + 1) (X.A.deeper (envOfC qg sg s.heap.objs.size g cdg)))
    (hbody : ∀ (E : XK) (params : Arguments) (body : Expr) (scope : Scope) (f c' : Addr) (A : Around) (outer : List Env) (s : Shared) (H : Hp), Room k (A.deeper (lamEnv X scope s.heap.objs.size f c')) → PE (lamCx X A outer s H E scope f c') body (tb E params body scope))
    (hv : Vis sg a) (hvn : Vis sg n) (hvh : Vis sg here) (hlh : L2.Loc sg here) (hfh : sg.names.lookup here = some .local) (hvr : Vis sg rp) (hlr : L2.Loc sg rp) (hfr : sg.names.lookup rp = some .local) (hd : (a == ("__debug__" : Str)) = false) (hcd : (a == ("__classdict__" : Str)) = false) (hd2 : (n == ("__debug__" : Str)) = false) (hcd2 : (n == ("__classdict__" : Str)) = false) (hd3 : (here == ("__debug__" : Str)) = false) (hcd3 : (here == ("__classdict__" : Str)) = false) (hd4 : (rp == ("__debug__" : Str)) = false) (hcd4 : (rp == ("__classdict__" : Str)) = false)
    (nd : Ng.Nodup) (hNg : Ng = [a, here, rp, n]) (hln : (envOfC qg sg s.heap.objs.size g cdg).kindOf n = some .local) (hc : Names (cxOf CX0 X.prog X.w X.K X.mg X.base Ng qg sg g cdg X.A X.stack s H E0).nox x (.ref B))
    (hsw : swapsWith (.Call (.Name a p1) [] [] p2) (some (.Name rp pr)) p3.line (envOfC qg sg s.heap.objs.size g cdg) = pure false)
    (hst : PS (cxOf CX0 X.prog X.w X.K X.mg X.base Ng qg sg g cdg X.A X.stack s H E0).nox (.Assign [.Tuple [.Name here q1, .Name rp q2] k1 q3] (.Tuple [.Constant .none j1 q4, .Constant .none j2 q5] k2 q6) q7) (fun D σ H => ∀ p0, H p0 = none → D.nx ((σ.set 1 (some .non)).set 2 (some .non)) (upd H p0 (.tup [.non, .non]))))
    {f : Addr} {Q : VK} (h : GiveR X σ X.K B tb f H Q) :
    ∃ t, PSs (cxOf CX0 X.prog X.w X.K X.mg X.base Ng qg sg g cdg X.A X.stack s H E0).nox [.Assign [.Tuple [.Name here q1, .Name rp q2] k1 q3] (.Tuple [.Constant .none j1 q4, .Constant .none j2 q5] k2 q6) q7, .Try [.Assign [.Name rp pr] (.Call (.Name a p1) [] [] p2) p3] [.ExceptHandler (some (.Name x np)) (some n) [.Assign [.Name here q8] (.Name n q9) q10] pos'] [] [] pos, .Return (some (.Tuple [.Name here q11, .Name rp q12] k3 q13)) q14] t ∧
      t { nx := fun _ H' => Q .non H', rt := Q } (L2.start Ng [.ref f]) H := by
  subst hNg
  refine ⟨_, pss_cons hst (pss_cons (try_ans (i := 0) (j := 3) (jr := 2) I hr hbody rfl hv hd hcd rfl hlr hfr nd rfl hln hc hsw (fun a oe cls d pn hz hf => pss_cons (ps_asg (pe_var (i := 3) rfl hvn hd2 hcd2) (pg_name (i := 1) nd rfl hlh (Or.inl rfl)) rfl rfl rfl) pss_nil)) (pss_cons (ps_ret (pe_tup (pa_cons (pe_var (i := 1) rfl hvh hd3 hcd3) (pa_cons (pe_var (i := 2) rfl hvr hd4 hcd4) pa_nil)))) pss_nil)), ?_⟩
  obtain ⟨c', params, body, scope, h1, h2, h3, h4, h5⟩ := h
  intro p0 hp0
  have n1 : f ≠ p0 := fun z => by rw [z, hp0] at h1; cases h1
  have n2 : c' ≠ p0 := fun z => by rw [z, hp0] at h2; cases h2
  refine ⟨f, c', params, body, scope, rfl, by rw [upd_ne n1]; exact h1, by rw [upd_ne n2]; exact h2, h3, h4, ?_⟩
  exact h5 p0 hp0 _ _ (fun v H' z => ⟨_, rfl, _, rfl, (show 2 ≤ sizeLine by decide), z⟩) fun cls d H' he hq => ⟨true, he, fun _ a ha => ⟨_, rfl, _, rfl, _, rfl, (show 2 ≤ sizeLine by decide), fun p hp => hq a p ha hp⟩, fun z => by cases z⟩
end
end XL
namespace DL
open PySem PySem.Spec PyProof.Rows L2
/-- the def at g gives the pair of the two -/
def GivesR (X : Cx) (k : Nat) (B g : Addr) (x : Str) (Ng : List Str) (sg : Scope) (cdg : Value) (bg : List Stmt) : Prop := ∀ (pins : List (Addr × Obj)) (σ : L2.St) (H : Hp) (s : Shared) (f : Addr) (Q : VK), L2.Inv X pins σ H s → Room (k + 1) (X.A.deeper (envOfC x sg s.heap.objs.size g cdg)) → XL.GiveR X σ X.K B (tbL X k) f H Q →
  ∃ t, PSs (cxOf CX0 X.prog X.w X.K X.mg X.base Ng x sg g cdg X.A X.stack s H E0).nox bg t ∧ t { nx := fun _ H' => Q .non H', rt := Q } (L2.start Ng [.ref f]) H
section
variable {X : Cx} {ρ : Rho} {M : Mp} {Φ : D → Mp → Prop} {e : Expr} {pos p : Pos} {x a : Str} {k : Nat} {B g : Addr} {Ng : List Str} {sg : Scope} {cdg : Value} {bg : List Stmt} {pg : Arguments} {dV kV doc pm ct oc : Value} {an od : Option Addr} {osl : Array (Option Value)}
/-- what is asked of the lambda -/
def LamAns (X : Cx) (ρ : Rho) (k : Nat) (B : Addr) (Φ : D → Mp → Prop) (d : D) (M1 : Mp) : Prop := ∃ params body scope, d = .lam (X.env.qual ++ "<lambda>") params body scope (cloFrom X.env.cells scope.names []) ∧ LamX.LamS X.env.scope scope ∧
      (∀ (q : Str) (cl : List (Str × Addr)) (pm cv ctv : Value), bindArgs (PySem.W.kla_fn "<lambda>" q params body scope cl pm cv ctv) ⟨[], []⟩ = pure []) ∧
      ∀ (f c' : Addr) (A : Around) (outer : List Env) (s : Shared) (H0 : Hp) (E : XK), Room k (A.deeper (LamX.lamEnv X scope s.heap.objs.size f c')) → WEx (LamX.lamCx X A outer s H0 E scope f c') ρ M1 body (fun v M2 => Φ (.tup [.non, v]) M2) (fun C fs M2 => PySem.W.exmOne X.K (.ref C) (.ref B) = some true ∧ Φ (.tup [.exc C fs, .non]) M2)
theorem we_answer (hm : X.mg x = some (.ref g)) (hk : PySem.W.keepIn X.K (.ref g) = true) (lk : X.K.lookup g = some ⟨oc, od, .func (PySem.W.fnOf x x pg bg sg dV kV doc pm an cdg ct), osl⟩) (hcg : PySem.W.codeIn X.K cdg x = true) (hb : Binds X.K (PySem.W.fnOf x x pg bg sg dV kV doc pm an cdg ct) [a] []) (Sg : FnScope Ng [a] sg)
    (hG : GivesR X k B g x Ng sg cdg bg) (hr : Room (k + 2) X.A) (h : WE X ρ M e (LamAns X ρ k B Φ))
    (hg : Gl X x := by rfl) (hdb : (x == ("__debug__" : Str)) = false := by decide) (he : starEach [e] X.env = (false, eval e X.env) :: starEach [] X.env := by rfl) (hpl : (backTo pos (starEach [] X.env)).any (·.1) = false := by rfl) : WE X ρ M (.Call (.Name x p) [e] [] pos) Φ := .mk fun {Z} σ H Q en w kk => by
  intro pins s I
  refine wpAny_Call_Name_kw (ld_glob I hg hm ?_ hdb)
  refine PySem.W.callWith_K (h₀ := X.base) I.ok.mod.kin hk (thn ((pa_sem (es := [e])).run pos pins s σ H (fun vs H1 => ∃ f, vs = [.ref f] ∧ XL.GiveR X σ X.K B (tbL X k) f H1 Q) I ?_) fun us s1 z => ?_) he hpl
  · refine (wa_cons (es := []) (ΦA := fun ds M1 => ∃ d, ds = [d] ∧ LamAns X ρ k B Φ d M1) (h.imp fun d M1 z => wa_nil ⟨d, rfl, z⟩) he).run σ H _ en w fun vs ds H1 M1 e1 w1 r1 hz => ?_
    obtain ⟨d, rfl, params, body, scope, rfl, L, hbind, hbd⟩ := hz
    cases r1 with
    | cons r1 r2 =>
      cases r2
      cases r1 with
      | lam q1 q2 m1 m2 =>
        refine ⟨_, rfl, _, params, body, scope, q1, q2, L, fun pm cv ctv => hbind _ _ pm cv ctv, fun p0 hp0 E R hR hE f c' A outer s0 H0 hr' => ?_⟩
        have x0 : Ext M1 Z H1 M1 (upd H1 p0 (.tup [.non, .non])) := Ext.new w1 hp0
        refine (hbd f c' A outer s0 H0 E hr').run σ _ R E ((en.mono e1).mono x0) (w1.new hp0) (fun v d H2 M2 e2 w2 r2 hz => hR v H2 fun q hq => ?_) (takes_of rfl rfl rfl rfl) fun C fs vs d H2 M2 e2 w2 hd md rf hz => ?_
        · have x3 : Ext M2 Z H2 M2 (upd H2 q (.tup [.non, v])) := Ext.new w2 hq
          exact (kk.step (((e1.trans x0).trans e2).trans x3)).now (w2.new hq) (.tup (.inl upd_same) (w2.fresh hq) (.cons .non (.cons (r2.mono x3) .nil))) hz
        · refine hE _ _ _ hz.1 fun q t hq ht => ?_
          have nq : d ≠ q := fun z => by rw [z, hq] at hd; cases hd
          have x3 : Ext M2 Z H2 M2 (upd H2 q (XL.XV q (.ref C) (some d))) := Ext.new w2 hq
          have w3 := w2.new (o := XL.XV q (.ref C) (some d)) hq
          have r3 : Rep X.K M2 Z (upd H2 q (XL.XV q (.ref C) (some d))) (.ref q) (.exc C fs) := .exc upd_same (by rw [upd_ne nq]; exact hd) (w2.fresh hq) md (rf.mono x3)
          have x4 : Ext M2 Z (upd H2 q (XL.XV q (.ref C) (some d))) M2 (upd (upd H2 q (XL.XV q (.ref C) (some d))) t (.tup [.ref q, .non])) := Ext.new w3 ht
          exact (kk.step ((((e1.trans x0).trans e2).trans x3).trans x4)).now (w3.new ht) (.tup (.inl upd_same) (w3.fresh ht) (.cons (r3.mono x4) (.cons .non .nil))) hz.2
  · obtain ⟨vs, H1, I1, r, f, rfl, hgv⟩ := z
    refine ⟨I1.kIn, ?_⟩
    cases r with
    | cons r1 r2 =>
      cases r2
      rename_i u
      obtain rfl : u = Value.ref f := r1
      have rc := LamX.run_ofS (CX := CX0) (P := X.prog) (w := X.w) (mg := X.mg) (base := X.base) (Q := Q) (E := E0) lk hcg Sg hr I1.env0 (hb s1 [Value.ref f] I1.kIn rfl) (Paired.cons (a := V.ref f) rfl Paired.nil) rfl fun hr' => by
        obtain ⟨t', ht, hq⟩ := hG pins σ H1 s1 f Q I1 hr' hgv
        exact ⟨t', PSs.nox ht, hq⟩
      refine wpAny_call (codeAny_mono rc fun r s' hq => ?_)
      cases r with
      | error er => exact hq.elim
      | ok fl =>
        cases fl with
        | ret u => exact I1.after hq
        | next => exact hq.elim
        | brk => exact hq.elim
        | cont => exact hq.elim
end
section
variable {X : Cx} {ρ : Rho} {M : Mp} {Φ : D → Mp → Prop} {e : Expr} {pos p : Pos} {x a : Str} {k : Nat} {B : Addr} {Ng : List Str} {st : Stmt}
/-- `_law_answer(e)`, e a lambda -/
theorem we_ans (T : Ct X.K X.mg x st a) (Sg : FnScope Ng [a] (defScope st)) (hG : ∀ (g : Addr) (cdg : Value), GivesR X k B g x Ng (defScope st) cdg (defBody st)) (hr : Room (k + 2) X.A) (h : WE X ρ M e (LamAns X ρ k B Φ))
    (hg : Gl X x := by rfl) (hdb : (x == ("__debug__" : Str)) = false := by decide) (he : starEach [e] X.env = (false, eval e X.env) :: starEach [] X.env := by rfl) (hpl : (backTo pos (starEach [] X.env)).any (·.1) = false := by rfl) : WE X ρ M (.Call (.Name x p) [e] [] pos) Φ := by
  obtain ⟨g, fd, F, hm⟩ := T.df.ex
  obtain ⟨oc, od, dV, kV, doc, pm, an, cdg, ct, osl, rfl, lk, hcg, hdv, _⟩ := F.ex
  have hb := F.bindsN (ps := [a]) T.bind
  exact we_answer hm F.kp lk hcg hb Sg (hG g cdg) hr h hg hdb he hpl
end
end DL
namespace XL
open PySem PySem.W PySem.Calls PyProof.Rows PySem.HandSPX L2 LamX
/-- what holds above the frames st stands above the home's frames -/
def Home (X : Cx) (H : Hp) (s : Shared) (st : List Env) (sY : Shared) (HY : Hp) : Prop := ∀ (HZ : Hp) (hZ : Heap), Un (frs st) [] HY HZ sY.heap hZ → Un (frs X.stack) [] H HZ s.heap hZ
theorem Un.two {fs : List Addr} {f : Addr} {H H1 H2 : Hp} {h h1 h2 : Heap} (a : Un fs [] H H1 h h1) (b : Un (f :: fs) [] H1 H2 h1 h2) (hf : ∀ o, h.get? f ≠ some o) : Un fs [] H H2 h h2 where
  keep := fun c ob q n hc hx => b.keep c ob (a.keep c ob q n hc hx) (a.free c ob q n hx) (fun z => by
    rcases List.mem_cons.mp z with z | z
    · rw [z] at q; exact hf _ q
    · exact hc z) hx
  slot := fun c ob q n hc hx => by
    obtain ⟨sl, e1⟩ := a.slot c ob q n hc hx
    obtain ⟨sl', e2⟩ := b.slot c _ e1 (a.free c ob q n hx) (List.mem_cons_of_mem _ hc) hx
    exact ⟨sl', e2⟩
  free := fun c ob q n hx => by
    obtain ⟨o', e1⟩ := a.there c ob q hx
    exact b.free c o' e1 (a.free c ob q n hx) hx
  there := fun c ob q hx => by
    obtain ⟨o', e1⟩ := a.there c ob q hx
    exact b.there c o' e1 hx
  tups := fun c xs q => b.tups c xs (a.tups c xs q)
  frzs := fun c ob xs q => b.frzs c ob xs (a.frzs c ob xs q)
  tbls := fun c ps q => by
    obtain ⟨m1, e1⟩ := a.tbls c ps q
    obtain ⟨m2, e2⟩ := b.tbls c _ e1
    exact ⟨m1 ++ m2, by rw [e2, Array.append_assoc]⟩
theorem pe_actF {X : Cx} {pins : List (Addr × Obj)} {σ : L2.St} {H : Hp} {s sY : Shared} {HY : Hp} {A0 : Around} {st : List Env} {CXg : CXT} {Eg : XK} {Ng : List Str} {qg : Str} {sg : Scope} {g : Addr} {cdg : Value} {k i : Nat} {a : Str} {pn : List (Addr × Obj)} {xe : Value → Shared → Prop} {W : WX} {E : L2.St → XK} {p1 p2 : Pos} {tb : XK → Arguments → Expr → Scope → TE}
    (I : L2.Inv X pins σ H s) (hh : Home X H s st sY HY) (tk : Takes ((cxOf CXg X.prog X.w X.K X.mg X.base Ng qg sg g cdg A0 st sY HY Eg).tr pn xe) W) (hW : ∀ σZ cls d H', E σZ cls d H' → W cls d σZ H')
    (hr : Room (k + 1) (A0.deeper (envOfC qg sg sY.heap.objs.size g cdg)))
    (hbody : ∀ (E : XK) (params : Arguments) (body : Expr) (scope : Scope) (f c' : Addr) (A : Around) (outer : List Env) (s : Shared) (H : Hp), Room k (A.deeper (lamEnv X scope s.heap.objs.size f c')) → PE (lamCx X A outer s H E scope f c') body (tb E params body scope))
    (hN : Ng[i]? = some a) (hv : Vis sg a) (hd : (a == ("__debug__" : Str)) = false) (hcd : (a == ("__classdict__" : Str)) = false) :
    PE ((cxOf CXg X.prog X.w X.K X.mg X.base Ng qg sg g cdg A0 st sY HY Eg).tr pn xe) (.Call (.Name a p1) [] [] p2)
      (fun σZ HZ Q => ∃ (f c' : Addr) (params : Arguments) (body : Expr) (scope : Scope), σZ[i]? = some (some (.ref f)) ∧ HZ f = some (LamO f (X.env.qual ++ "<lambda>") params body scope (cloFrom X.env.cells scope.names []) c') ∧ HZ c' = some (CodeO c' (X.env.qual ++ "<lambda>")) ∧
        LamS X.env.scope scope ∧ (∀ (pm cv ctv : Value), bindArgs (PySem.W.kla_fn "<lambda>" (X.env.qual ++ "<lambda>") params body scope (cloFrom X.env.cells scope.names []) pm cv ctv) ⟨[], []⟩ = pure []) ∧ tb (E σZ) params body scope σ HZ Q) := by
  refine ⟨fun pinsZ sZ σZ HZ Q IZ h => ?_⟩
  obtain ⟨f, c', params, body, scope, hs, hfo, hc, L, hbind, ht⟩ := h
  refine wpAny_Call_Name_kw (thn ((pe_var hN hv hd hcd).run pinsZ sZ σZ HZ (fun v H1 => v = V.ref f ∧ H1 = HZ) IZ ⟨.ref f, hs, rfl, rfl⟩) fun u s1 hh => ?_)
  obtain ⟨v, H1, I1, r1, rfl, rfl⟩ := hh
  obtain rfl : u = Value.ref f := r1
  obtain ⟨pm, ctv, of1⟩ := lamO_get I1.hok hfo
  refine PySem.W.callWith_F0 ⟨_, _, _, _, of1⟩ ?_
  have un := hh _ _ I1.base
  have hco := I1.hok c' _ hc
  unfold CodeO ObjOk at hco
  obtain ⟨⟨oc, vs, t, hoc, hdc, hvc⟩, _, _⟩ := hco
  have rc : codeAny (model X.prog X.w) (A0.deeper (envOfC qg sg sY.heap.objs.size g cdg)) (.call (.ref f) ⟨[], []⟩) (CR (CX X.prog X.w) (envOfC qg sg sY.heap.objs.size g cdg :: st) X.prog X.w H1 s1 Q (E σZ)) s1 := by
    refine PySem.W.kla_callFunE hr.depth of1 rfl L.co L.gen rfl ⟨c', oc, vs, t, rfl, hoc, hdc, hvc⟩ ?_
    rw [hbind]
    refine wpAny_pure (wpAny_newFunctionEnv (fun y hy => (L.own y hy).2) (fun y hy => absurd hy List.not_mem_nil) (fun h₁ hns hsb => ⟨I1.nolimit.fresh _ hsb, ?_⟩) L.kind)
    have kp : ∀ b o, s1.heap.get? b = some o → h₁.get? b = some o := fun b o e => hsb.extBut b o (Nat.ne_of_lt (Heap.lt_size e)) (Heap.get?_push_of_some _ e)
    have J := lam_start2 (tk := s1.toks + ([] : List (Str × Value)).length) (E := E σZ) (f := f) (c' := c') I L I1.env0 hr.hd un hns kp
    exact PySem.W.kla_codeExpr (wpAny_mono ((hbody (E σZ) params body scope f c' _ _ s1 H1 (hr.deeper _)).run [] _ σ H1 Q J ht) (fun v s' hq => by
      obtain ⟨w', H', J', rv, q⟩ := hq
      exact ⟨w', H', J'.os, J'.bare, J'.base, J'.hok, rv, q⟩) fun e s' hq => hq)
  refine wpAny_call (codeAny_mono rc fun r s' hq => ?_)
  cases r with
  | error e =>
    obtain ⟨a, B, H', cls, d, y1, y2, y3, y4, y5, y6, y7, y8⟩ := hq
    exact passAt tk σZ pinsZ H1 s1 e s' I1 ⟨a, B, H', cls, d, y1, y2, y3, y4, y5, y6, y7, hW _ _ _ _ y8⟩
  | ok fl =>
    cases fl with
    | ret u => exact I1.after hq
    | next => exact hq.elim
    | brk => exact hq.elim
    | cont => exact hq.elim
section
variable {X : Cx} {pins : List (Addr × Obj)} {σ : L2.St} {H : Hp} {s sY : Shared} {HY : Hp} {A0 : Around} {st : List Env} {Ng : List Str} {qg : Str} {sg : Scope} {g B : Addr} {cdg : Value} {k i j jr : Nat} {a n x rp : Str} {p1 p2 p3 pr np pos pos' : Pos} {tb : XK → Arguments → Expr → Scope → TE} {b₀ : Stmt} {suite : List Stmt} {ts : Addr → Value → Option Addr → TS}
/-- try: r = look() except X as n: suite -/
theorem try_ansF (I : L2.Inv X pins σ H s) (hh : Home X H s st sY HY) (hr : Room (k + 1) (A0.deeper (envOfC qg sg sY.heap.objs.size g cdg)))
    (hbody : ∀ (E : XK) (params : Arguments) (body : Expr) (scope : Scope) (f c' : Addr) (A : Around) (outer : List Env) (s : Shared) (H : Hp), Room k (A.deeper (lamEnv X scope s.heap.objs.size f c')) → PE (lamCx X A outer s H E scope f c') body (tb E params body scope))
    (hN : Ng[i]? = some a) (hv : Vis sg a) (hd : (a == ("__debug__" : Str)) = false) (hcd : (a == ("__classdict__" : Str)) = false) (hjr : Ng[jr]? = some rp) (hlr : L2.Loc sg rp) (hfr : sg.names.lookup rp = some .local)
    (nd : Ng.Nodup) (hj : Ng[j]? = some n) (hln : (envOfC qg sg sY.heap.objs.size g cdg).kindOf n = some .local) (hc : Names (cxOf CX0 X.prog X.w X.K X.mg X.base Ng qg sg g cdg A0 st sY HY E0).nox x (.ref B))
    (hsw : swapsWith (.Call (.Name a p1) [] [] p2) (some (.Name rp pr)) p3.line (envOfC qg sg sY.heap.objs.size g cdg) = pure false)
    (hsu : ∀ (a : Addr) (oe : Obj) (cls : Value) (d : Option Addr) (pn : List (Addr × Obj)), Zc cls d oe → (∃ vs, oe.data = .fields vs) → PSs ((cxOf CX0 X.prog X.w X.K X.mg X.base Ng qg sg g cdg A0 st sY HY E0).nox.suite a ((a, oe) :: pn)) (b₀ :: suite) (ts a cls d)) :
    PS (cxOf CX0 X.prog X.w X.K X.mg X.base Ng qg sg g cdg A0 st sY HY E0).nox (.Try [.Assign [.Name rp pr] (.Call (.Name a p1) [] [] p2) p3] [.ExceptHandler (some (.Name x np)) (some n) (b₀ :: suite) pos'] [] [] pos)
      (fun D σZ HZ => tSeq (tAsg (tAct X σ i tb (fun σZ cls d H' => wAsV X.K (.ref B) j ts (fun _ _ _ _ => False) D cls d σZ H')) (gName jr)) tNext D σZ HZ) :=
  ps_try_asV (X := (cxOf CX0 X.prog X.w X.K X.mg X.base Ng qg sg g cdg A0 st sY HY E0).nox) (tb := fun W => tSeq (tAsg (tAct X σ i tb (fun σZ cls d H' => W cls d σZ H')) (gName jr)) tNext) rfl rfl rfl nd hj hln hc L2.takes0
    (fun W pn xe tk _ => pss_cons (ps_set nd hjr hlr (pe_actF (X := X) (H := H) (s := s) (A0 := A0) (st := st) (sY := sY) (HY := HY) (CXg := CX0) (Eg := E0) (E := fun σZ cls d H' => W cls d σZ H') I hh tk (fun _ _ _ _ z => z) hr hbody hN hv hd hcd) hsw (.inr hfr)) pss_nil) hsu
/-- here, r = (None, None); try: r = look() except X as n: here = n; return (here, r) -/
theorem answeredF {here : Str} {q1 q2 q3 q4 q5 q6 q7 q8 q9 q10 q11 q12 q13 q14 : Pos} {k1 k2 k3 j1 j2 : Nat} (I : L2.Inv X pins σ H s) (hh : Home X H s st sY HY) (hr : Room (k + 1) (A0.deeper (envOfC qg sg sY.heap.objs.size g cdg)))
    (hbody : ∀ (E : XK) (params : Arguments) (body : Expr) (scope : Scope) (f c' : Addr) (A : Around) (outer : List Env) (s : Shared) (H : Hp), Room k (A.deeper (lamEnv X scope s.heap.objs.size f c')) → PE (lamCx X A outer s H E scope f c') body (tb E params body scope))
    (hv : Vis sg a) (hvn : Vis sg n) (hvh : Vis sg here) (hlh : L2.Loc sg here) (hfh : sg.names.lookup here = some .local) (hvr : Vis sg rp) (hlr : L2.Loc sg rp) (hfr : sg.names.lookup rp = some .local) (hd : (a == ("__debug__" : Str)) = false) (hcd : (a == ("__classdict__" : Str)) = false) (hd2 : (n == ("__debug__" : Str)) = false) (hcd2 : (n == ("__classdict__" : Str)) = false) (hd3 : (here == ("__debug__" : Str)) = false) (hcd3 : (here == ("__classdict__" : Str)) = false) (hd4 : (rp == ("__debug__" : Str)) = false) (hcd4 : (rp == ("__classdict__" : Str)) = false)
    (nd : Ng.Nodup) (hNg : Ng = [a, here, rp, n]) (hln : (envOfC qg sg sY.heap.objs.size g cdg).kindOf n = some .local) (hc : Names (cxOf CX0 X.prog X.w X.K X.mg X.base Ng qg sg g cdg A0 st sY HY E0).nox x (.ref B))
    (hsw : swapsWith (.Call (.Name a p1) [] [] p2) (some (.Name rp pr)) p3.line (envOfC qg sg sY.heap.objs.size g cdg) = pure false)
    (hst : PS (cxOf CX0 X.prog X.w X.K X.mg X.base Ng qg sg g cdg A0 st sY HY E0).nox (.Assign [.Tuple [.Name here q1, .Name rp q2] k1 q3] (.Tuple [.Constant .none j1 q4, .Constant .none j2 q5] k2 q6) q7) (fun D σ H => ∀ p0, H p0 = none → D.nx ((σ.set 1 (some .non)).set 2 (some .non)) (upd H p0 (.tup [.non, .non]))))
    {f : Addr} {Q : VK} (h : GiveR X σ X.K B tb f HY Q) :
    ∃ t, PSs (cxOf CX0 X.prog X.w X.K X.mg X.base Ng qg sg g cdg A0 st sY HY E0).nox [.Assign [.Tuple [.Name here q1, .Name rp q2] k1 q3] (.Tuple [.Constant .none j1 q4, .Constant .none j2 q5] k2 q6) q7, .Try [.Assign [.Name rp pr] (.Call (.Name a p1) [] [] p2) p3] [.ExceptHandler (some (.Name x np)) (some n) [.Assign [.Name here q8] (.Name n q9) q10] pos'] [] [] pos, .Return (some (.Tuple [.Name here q11, .Name rp q12] k3 q13)) q14] t ∧
      t { nx := fun _ H' => Q .non H', rt := Q } (L2.start Ng [.ref f]) HY := by
  subst hNg
  refine ⟨_, pss_cons hst (pss_cons (try_ansF (i := 0) (j := 3) (jr := 2) I hh hr hbody rfl hv hd hcd rfl hlr hfr nd rfl hln hc hsw (fun a oe cls d pn hz hf => pss_cons (ps_asg (pe_var (i := 3) rfl hvn hd2 hcd2) (pg_name (i := 1) nd rfl hlh (Or.inl rfl)) rfl rfl rfl) pss_nil)) (pss_cons (ps_ret (pe_tup (pa_cons (pe_var (i := 1) rfl hvh hd3 hcd3) (pa_cons (pe_var (i := 2) rfl hvr hd4 hcd4) pa_nil)))) pss_nil)), ?_⟩
  obtain ⟨c', params, body, scope, h1, h2, h3, h4, h5⟩ := h
  intro p0 hp0
  have n1 : f ≠ p0 := fun z => by rw [z, hp0] at h1; cases h1
  have n2 : c' ≠ p0 := fun z => by rw [z, hp0] at h2; cases h2
  refine ⟨f, c', params, body, scope, rfl, by rw [upd_ne n1]; exact h1, by rw [upd_ne n2]; exact h2, h3, h4, ?_⟩
  exact h5 p0 hp0 _ _ (fun v H' z => ⟨_, rfl, _, rfl, (show 2 ≤ sizeLine by decide), z⟩) fun cls d H' he hq => ⟨true, he, fun _ a ha => ⟨_, rfl, _, rfl, _, rfl, (show 2 ≤ sizeLine by decide), fun p hp => hq a p ha hp⟩, fun z => by cases z⟩
end
end XL
namespace W
open PySem PySem.Spec PyProof.Rows L2 DL SX
theorem gives_B {X : Cx} {k : Nat} {B g : Addr} {cdg : Value} (hm : X.mg "CrowdError" = some (.ref B)) : Gives X k B g "_law_caught" ["_law_look", "_law_caught_here", "error"] (defScope s__law_caught) cdg (defBody s__law_caught) := by
  intro pins σ H s f Q I hr h
  exact XL.caughtB (X := X) (Ng := ["_law_look", "_law_caught_here", "error"]) (a := "_law_look") (here := "_law_caught_here") (n := "error") (x := "CrowdError") I hr (fun E ps b sc f c' A outer s H hr => tbL_pe E ps b sc f c' A outer s H hr) (Or.inl rfl) (Or.inl rfl) (Or.inl rfl) (Or.inl rfl) (by decide) (by decide) (by decide) (by decide) (by decide) (by decide) (by decide +kernel) rfl rfl ⟨rfl, by decide, .inl hm⟩ rfl h
end W
namespace DL
open PySem PySem.Spec PyProof.Rows L2
section
variable {X : Cx} {pos : Pos} {k v : Expr} {tk tv : TE}
def tDispT (tk tv : TE) : TE := fun σ H Q => ∀ p, H p = none → tk σ (upd H p (.dT [])) fun x H1 => tv σ H1 fun y H2 => H2 p = some (.dT []) ∧ ∃ b ks, x = .ref b ∧ H2 b = some (.tup (List.map kV ks)) ∧ Q (.ref p) (upd H2 p (.dT [(ks, y)]))
theorem pe_dispT (hu : X.A.units < cLine) (hk : PE X k tk) (hv : PE X v tv) : PE X (.Dict [some k] [v] pos) (tDispT tk tv) := by
  refine ⟨fun pins s σ H Q I q => ?_⟩
  have hn := I.hok.fresh (Nat.le_refl s.heap.objs.size)
  have I1 := I.laid (a := s.heap.objs.size) (o := .dT []) (h' := s.heap.push { cls := .type "dict", data := .dict #[] }) (t' := s.toks) (fun _ _ q => Heap.get?_push_of_some _ q) (Nat.le_refl _) (dt_empty s.heap I.big)
  rw [arm_eval_Dict, zip_pairTrees [some k] [v] X.env pos rfl rfl, dictDisplay_pairs _ (by simp [pairTrees]) (by simp [pairTrees])]
  refine wpAny_bind (wpAny_standAt (wpAny_bind ?_))
  unfold subDict
  refine wpAny_bind (wpAny_alloc ?_)
  refine wpAny_bind (wpAny_holding ?_)
  rw [if_pos (by simp [pairTrees])]
  refine wpAny_bind (wpAny_mono (Q := fun vs s' => ∃ u w2 x y H2, vs = [(u, w2)] ∧ L2.Inv X pins σ H2 s' ∧ RelV x u ∧ RelV y w2 ∧ H2 s.heap.objs.size = some (.dT []) ∧ ∃ b ks, x = .ref b ∧ H2 b = some (.tup (List.map kV ks)) ∧ Q (.ref s.heap.objs.size) (upd H2 s.heap.objs.size (.dT [(ks, y)])))
    (pairTrees_cons_walk (thn (hk.run pins _ σ _ _ I1 (q _ hn)) fun u s1 ⟨x, H1, I2, rx, q1⟩ => thn (hv.run pins s1 σ H1 _ I2 q1) fun w2 s2 ⟨y, H2, I3, ry, q2⟩ => pairTrees_nil_walk ⟨u, w2, x, y, H2, rfl, I3, rx, ry, q2⟩)) (fun vs s1 h1 => ?_) fun _ _ e => e)
  obtain ⟨u, w2, x, y, H2, rfl, I3, rx, ry, e, b, ks, rfl, eb, q2⟩ := h1
  cases (show u = Value.ref b from rx)
  obtain ⟨z, hd, xs, rel, dd⟩ := dt_of I3.hok e
  refine wpAny_holding ?_
  refine wpAny_bind ?_
  rw [List.forIn_cons]
  refine wpAny_bind (wpAny_bind (wpAny_dictSet_heap (hsz := by rw [← Paired.length rel]; exact z) hu (key_of I3.hok eb) dd fun h' dd' hs => wpAny_pure ?_))
  show wpAny _ _ (forIn [] PUnit.unit _) _ _ _
  rw [List.forIn_nil]
  refine wpAny_pure (wpAny_pure (wpAny_pure (wpAny_pure ?_)))
  obtain ⟨o, es, ep, hq, h2, h3, h4, _, h5⟩ := dd'
  refine ⟨.ref s.heap.objs.size, _, ?_, rfl, q2⟩
  refine d_write I3 (by rw [e]; exact True.intro) hs ⟨o, hq⟩ ⟨by show 1 ≤ sizeLine; rw [sizeLine_eq]; decide, hd, _, (rel.put ks eb ry).keeps fun c ys ec => ?_, o, es, ep, hq, h2, h3, h4, h5⟩
  rw [upd_ne (ne_of ec e (fun z => nomatch z))]
  exact ec
end
section
variable {X : Cx} {ρ : Rho} {M : Mp} {Φ : D → Mp → Prop}
/-- {k: e}, k a tuple of texts and ints -/
theorem we_dispT {a1 b1 : Expr} {dp : Pos} (hu : X.A.units < cLine) (h : WE X ρ M a1 fun x1 M1 => WE X ρ M1 b1 fun y1 M2 => ∃ ks, x1 = .key ks ∧ Φ (.dT [(ks, y1)]) M2) : WE X ρ M (.Dict [some a1] [b1] dp) Φ := .mk fun {Z} σ H Q en w k => by
  refine eOf (pe_dispT hu pe_sem pe_sem) ?_
  intro t ht
  have zne := w.zne ht
  have xh : ExI M Z H M (hid Z t) (upd H t (.dT [])) := hide_x ht
  have wh : Wd X.K M (hid Z t) (upd H t (.dT [])) := hide_w w ht
  have en0 := en.monoI xh
  refine h.run σ _ _ en0 wh fun v1 x1 H1 M1 e1 w1 r1 hz => ?_
  refine hz.run σ H1 _ (en0.mono e1) w1 fun u1 y1 H2 M2 e2 w2 s1 hz2 => ?_
  have e12 := e1.trans e2
  obtain ⟨ks, rfl, hz2⟩ := hz2
  cases r1 with
  | key hb mb =>
    have hT : H2 t = some (.dT []) := (e12.2 t (.inr rfl)).1.trans upd_same
    have mT : M2 t = none := (w2.2 t (.inr rfl)).1
    have x0 : ExI M Z H M2 (hid Z t) H2 := xh.trans e12.i
    refine ⟨hT, _, ks, rfl, (e2.i _ _ hb mb).1, ?_⟩
    refine k _ (.dT [(ks, y1)]) _ M2 ⟨(x0.trans hidput_x).trans show_x, fun b z => ?_⟩ (show_w (hidput_w w2)) (.dT upd_same ⟨mT, fun z => zne t z rfl⟩ (.cons ((s1.monoI hidput_x).monoI show_x) .nil)) hz2
    have n := zne b z
    have := e12.2 b (.inl z)
    exact ⟨by rw [upd_ne n, this.1, upd_ne n], this.2⟩
end
end DL
namespace DL
open PySem PySem.Spec PyProof.Rows L2
abbrev eSet (w : World) : Obj := { cls := .type "set", dict := none, data := .set #[] 0 (.fresh 0 0 (!w.params.followText "set-order")) }
end DL
namespace DL
open PySem PySem.Spec PyProof.Rows L2
section
variable {X : Cx} {ρ : Rho} {M : Mp} {Φ : D → Mp → Prop} {Θ : Bool → Mp → Prop} {Ψ : DE} {a b c e : Expr} {es : List Expr} {ss : List Stmt} {pos p p2 pos2 : Pos}
theorem we_leLe (h : WE X ρ M a fun x M1 => WE X ρ M1 b fun y M2 => ∃ i j, x = .int i ∧ y = .int j ∧ if i ≤ j then WE X ρ M2 c (fun z M3 => ∃ l, z = .int l ∧ Φ (.bl (decide (j ≤ l))) M3) else Φ (.bl false) M2) (hm : lastMarks [CmpOp.LtE, .LtE] [b, c] = false := by with_unfolding_all rfl) : WE X ρ M (.Compare a [.LtE, .LtE] [b, c] pos) Φ := .mk fun {Z} σ H Q en w k =>
  eOf (pe_chain op_le op_le pe_sem pe_sem pe_sem hm) (bind2 h en w fun v u x y H2 M2 e2 w2 r1 r2 hz => by
    obtain ⟨i, j, rfl, rfl, hz⟩ := hz
    cases r1; cases r2
    refine ⟨i, j, rfl, rfl, _, rfl, ?_⟩
    by_cases hij : i ≤ j
    · rw [decide_eq_true hij, if_pos rfl]
      rw [if_pos hij] at hz
      exact hz.run σ H2 _ (en.mono e2) w2 fun v3 d3 H3 M3 e3 w3 r3 hy => by
        obtain ⟨l, rfl, hy⟩ := hy
        cases r3
        exact ⟨j, l, rfl, rfl, (k.step (e2.trans e3)).now w3 (.bl _) hy⟩
    · rw [decide_eq_false hij, if_neg (by simp)]
      rw [if_neg hij] at hz
      exact (k.step e2).now w2 (.bl _) hz)
/-- a list that is changed no more -/
theorem wss_fz {i : Nat} {q : Addr} {ds : List D} (hi : ρ[i]? = some (some (.ob q))) (hq : M q = some (.lst ds)) (h : WSs X (ρ.set i (some (.lst ds))) (mdel M q) ss Ψ) : WSs X ρ M ss Ψ := .mk fun {Z} σ H E en w k => by
  have l : Les (mdel M q) M := les_del
  obtain ⟨v, hv, r⟩ := en.get hi
  have r2 := Fz.rep (.lst hq mdel_same) l w r
  have en2 := (en.mono (l.ext w)).set r2 i
  have e : σ.set i (some v) = σ := by
    apply List.ext_getElem?
    intro j
    by_cases hj : i = j
    · subst hj
      rw [List.getElem?_set_self (List.getElem?_eq_some_iff.mp hv).1, hv]
    · rw [List.getElem?_set_ne hj]
  rw [e] at en2
  exact h.run σ H E en2 (l.w w) (k.step (l.ext w))
end
end DL
namespace DL
open PySem PySem.Spec PyProof.Rows L2 SX
abbrev dctP (x y : Str) (n : Int) : PyData := .dict [(.tuple [.str x, .str y], .int n)]
abbrev dctD (x y : Str) (n : Int) : D := .dT [([.inr x, .inr y], .int n)]
section
variable {X : Cx} {ρ : Rho} {M : Mp} {Φ : D → Mp → Prop} {e : Expr} {pos p : Pos}
theorem cr_reprT (hg : X.A.guards = some []) (hu : X.A.units + 64 < cLine) {x y : Str} {n : Int} (hs : (dctP x y n).showable = true) (hz : (dctP x y n).shown.length ≤ sizeLine) (hdp : (dctP x y n).depth ≤ 8) : CallR X (.builtin "repr") (fun xs H Q => ∃ a, xs = [.ref a] ∧ H a = some (.dT [([.inr x, .inr y], .int n)]) ∧ Q (.str (dctP x y n).shown) H) := by
  intro pins s σ H xs us Q I r h
  obtain ⟨a, rfl, ha, h⟩ := h
  obtain ⟨u, rfl, ru⟩ := vals1 r
  obtain rfl : u = Value.ref a := ru
  obtain ⟨_, hs0, ys, kv, o, es, ep, ho, hx, hd, hk, _⟩ := I.hok a _ ha
  cases kv with
  | @cons _ q _ qs pr t =>
    cases t
    obtain ⟨e1, e2, e3⟩ := pr
    obtain ⟨_, its, ri, o2, h1, h2, n2, h3⟩ := (show ObjOk X.prog X.w H s.heap q.2.1 (.tup [V.str x, V.str y]) from I.hok q.2.1 _ e2)
    cases ri with
    | @cons _ w1 _ _ p1 r2 =>
      cases r2 with
      | @cons _ w2 _ _ p2 r3 =>
        cases r3
        obtain ⟨t1, rfl⟩ := p1
        obtain ⟨t2, rfl⟩ := p2
        obtain ⟨t3, e3⟩ := e3
        have rk : Reads s.heap (.ref q.2.1) (.tuple [.str x, .str y]) ([] ++ ([] ++ [])) := Reads.tuple h1 h2 h3 (.cons (.str x t1) (.cons (.str y t2) .nil))
        have rd : Reads s.heap (.ref a) (dctP x y n) (a :: (([] ++ ([] ++ [])) ++ []) ++ ([] ++ [])) := Reads.dict ho hx.1 hd (by rw [hk]; exact .cons rk .nil) (by rw [hk]; show ReadsAll s.heap [q.2.2] [.int n] ([] ++ []); rw [e3]; exact .cons (.int n t3) .nil)
        refine repr_of_reads' rd hs (fun _ => ?_) hg (by omega) (fun _ _ z => z) (fun h' t tk kp => ⟨.str _, H, I.kept kp, ⟨t, rfl⟩, h⟩) hz
        intro z
        rcases List.mem_cons.mp z with z | z
        · rw [← z] at hs0; simp at hs0
        · cases z
end
end DL
namespace DL
open PySem PySem.Spec PyProof.Rows L2 SX
/-- a value of any kind -/
inductive AV where
  | non | bl (b : Bool) | int (i : Int) | str (x : Str) | tup (l : List AV) | lst (l : List AV) | dic | dct (x y : Str) (n : Int)
mutual
def avD : AV → D
  | .non => .non
  | .bl b => .bl b
  | .int i => .int i
  | .str x => .str x
  | .tup l => .tup (avsD l)
  | .lst l => .lst (avsD l)
  | .dic => .dK []
  | .dct x y n => dctD x y n
def avsD : List AV → List D
  | [] => []
  | v :: l => avD v :: avsD l
end
def avT : AV → String
  | .non => "NoneType"
  | .bl _ => "bool"
  | .int _ => "int"
  | .str _ => "str"
  | .tup _ => "tuple"
  | .lst _ => "list"
  | .dic => "dict"
  | .dct _ _ _ => "dict"
theorem avTy (M : Mp) (v : AV) : TyD M (avD v) (.type (avT v)) := by
  cases v <;> (rw [avD]; rfl)
mutual
def avP : AV → PyData
  | .non => .none
  | .bl b => .bool b
  | .int i => .int i
  | .str x => .str x
  | .tup l => .tuple (avsP l)
  | .lst l => .list (avsP l)
  | .dic => .dict []
  | .dct x y n => dctP x y n
def avsP : List AV → List PyData
  | [] => []
  | v :: l => avP v :: avsP l
end
section
variable {X : Cx} {ρ : Rho} {M : Mp} {Φ : D → Mp → Prop} {e : Expr} {pos p : Pos}
theorem cr_reprA (hg : X.A.guards = some []) (hu : X.A.units + 64 < cLine) : CallR X (.builtin "repr") (fun xs H Q => (∃ v q, xs = [v] ∧ Dp X.K H v q ∧ q.showable = true ∧ q.canLay0 = true ∧ q.depth ≤ 60 ∧ q.shown.length ≤ sizeLine ∧ Q (.str q.shown) H) ∨ (∃ a, xs = [.ref a] ∧ H a = some (.dK []) ∧ Q (.str (PyData.dict []).shown) H) ∨ ∃ x y n, (dctP x y n).showable = true ∧ (dctP x y n).shown.length ≤ sizeLine ∧ (dctP x y n).depth ≤ 8 ∧ ∃ a, xs = [.ref a] ∧ H a = some (.dT [([.inr x, .inr y], .int n)]) ∧ Q (.str (dctP x y n).shown) H) := by
  intro pins s σ H xs us Q I r h
  rcases h with h | ⟨a, rfl, ha, h⟩ | ⟨x, y, n, g1, g2, g3, h⟩
  · exact cr_reprD hg hu pins s σ H xs us Q I r h
  rotate_left
  · exact cr_reprT hg hu g1 g2 g3 pins s σ H xs us Q I r h
  · obtain ⟨u, rfl, ru⟩ := vals1 r
    obtain rfl : u = Value.ref a := ru
    obtain ⟨_, hs, vs, kv, o, es, ep, ho, hx, hd, hk, hp, _⟩ := I.hok a _ ha
    cases kv
    have e0 : es.toList = [] := by
      cases hp' : es.toList with
      | nil => rfl
      | cons q r => rw [hp'] at hp; cases hp
    have rd : Reads s.heap (.ref a) (PyData.dict []) (a :: [] ++ []) := Reads.dict ho hx.1 hd (by rw [e0]; exact .nil) (by rw [e0]; exact .nil)
    refine repr_of_reads' rd (by decide) (fun _ => ?_) hg (by show X.A.units + (1 + 1) < cLine; omega) (fun _ _ z => z) (fun h' t tk kp => ⟨.str _, H, I.kept kp, ⟨t, rfl⟩, h⟩) (by decide +kernel)
    intro z
    rcases List.mem_cons.mp z with z | z
    · rw [← z] at hs; simp at hs
    · cases z
/-- repr(e), e any value -/
theorem we_reprA (hm : X.mg "repr" = none) (hg0 : X.A.guards = some []) (hu : X.A.units + 64 < cLine) (h : WE X ρ M e fun d M1 => ((∃ q k, CmpD d q k ∧ k ≤ 60 ∧ q.showable = true ∧ q.shown.length ≤ sizeLine ∧ Φ (.str q.shown) M1) ∨ (d = .dK [] ∧ Φ (.str (PyData.dict []).shown) M1) ∨ ∃ x y n, d = dctD x y n ∧ (dctP x y n).showable = true ∧ (dctP x y n).shown.length ≤ sizeLine ∧ (dctP x y n).depth ≤ 8 ∧ Φ (.str (dctP x y n).shown) M1)) (hg : Gl X "repr" := by rfl)
    (he : starEach [e] X.env = (false, eval e X.env) :: starEach [] X.env := by rfl) (hpl : (backTo pos (starEach [] X.env)).any (·.1) = false := by rfl) : WE X ρ M (.Call (.Name "repr" p) [e] [] pos) Φ :=
  we_callB (cr_reprA hg0 hu) hm (by decide +kernel) (wa_cons (h.imp fun d M1 h => wa_nil fun Z vs H Q w rr k => by
    obtain ⟨v, rfl, r⟩ := rr.one
    rcases h with ⟨q, j, c, hj, h1, h2, h⟩ | ⟨rfl, h⟩ | ⟨x, y, n, rfl, g1, g2, g3, h⟩
    · exact .inl ⟨v, q, rfl, r.dp c.eq, h1, c.lay, Nat.le_trans c.dep hj, h2, k.now w (.str _) h⟩
    · cases r with
      | dK h1 m r =>
        cases r
        exact .inr (.inl ⟨_, rfl, h1, k.now w (.str _) h⟩)
    · cases r with
      | dT h1 m r =>
        cases r with
        | cons r1 t =>
          cases t
          cases r1
          exact .inr (.inr ⟨x, y, n, g1, g2, g3, _, rfl, h1, k.now w (.str _) h⟩)) he) hg (he := he) (hpl := hpl)
end
/-- how a value is shown, where it can be -/
def RpD (v : AV) : Prop := (∃ k, CmpD (avD v) (avP v) k ∧ k ≤ 60 ∧ (avP v).showable = true ∧ (avP v).shown.length ≤ sizeLine) ∨ v = .dic ∨ ∃ x y n, v = .dct x y n ∧ (dctP x y n).showable = true ∧ (dctP x y n).shown.length ≤ sizeLine ∧ (dctP x y n).depth ≤ 8
theorem we_reprV {X : Cx} {ρ : Rho} {M : Mp} {Φ : D → Mp → Prop} {e : Expr} {pos p : Pos} (hm : X.mg "repr" = none) (hg0 : X.A.guards = some []) (hu : X.A.units + 64 < cLine) (h : WE X ρ M e fun d M1 => ∃ v, d = avD v ∧ RpD v ∧ Φ (.str (avP v).shown) M1) (hg : Gl X "repr" := by rfl)
    (he : starEach [e] X.env = (false, eval e X.env) :: starEach [] X.env := by rfl) (hpl : (backTo pos (starEach [] X.env)).any (·.1) = false := by rfl) : WE X ρ M (.Call (.Name "repr" p) [e] [] pos) Φ :=
  we_reprA hm hg0 hu (h.imp fun d M1 ⟨v, e1, hv, hz⟩ => by
    subst e1
    rcases hv with ⟨k, c, h1, h2, h3⟩ | rfl | ⟨x, y, n, rfl, g1, g2, g3⟩
    · exact .inl ⟨_, k, c, h1, h2, h3, hz⟩
    · exact .inr (.inl ⟨by rw [avD], by rw [avP] at hz; exact hz⟩)
    · exact .inr (.inr ⟨x, y, n, by rw [avD], g1, g2, g3, by rw [avP] at hz; exact hz⟩)) hg he hpl
theorem sh_natW {n : Nat} (h : n < 10 ^ 40) : ShD (.int (n : Nat)) 41 := by
  refine ⟨?_, ?_⟩
  · simp only [PyData.showable, decide_eq_true_eq, Int.natAbs_natCast]
    by_cases h0 : n = 0
    · rw [h0]; decide
    · have : n < 2 ^ 140 := Nat.lt_trans h (by decide)
      have := (Nat.log2_lt h0).mpr this; omega
  · simp only [PyData.shown]
    rw [num_S, S_len]
    exact Nat.le_succ_of_le (TL.numL_len (k := 40) (by decide) h)
mutual
def avDp : AV → Nat
  | .tup l => avsDp l + 1
  | .lst l => avsDp l + 1
  | .non => 0
  | .bl _ => 0
  | .int _ => 0
  | .str _ => 0
  | .dic => 0
  | .dct _ _ _ => 0
def avsDp : List AV → Nat
  | [] => 0
  | v :: l => max (avDp v) (avsDp l)
end
mutual
def avLn : AV → Nat
  | .tup l => avsLn l + 3
  | .lst l => avsLn l + 3
  | .non => 41
  | .bl _ => 41
  | .int _ => 41
  | .str _ => 41
  | .dic => 41
  | .dct _ _ _ => 41
def avsLn : List AV → Nat
  | [] => 0
  | v :: l => avLn v + 2 + avsLn l
end
def StG (x : Str) : Prop := (∀ c ∈ x.cps.toList, c < 0x110000) ∧ ShD (.str x) 41
mutual
/-- its parts can be shown, and are short; a dict is nowhere within -/
def AvG : AV → Prop
  | .int i => (∃ n : Nat, i = n ∧ n < 10 ^ 40) ∨ i = -1
  | .str x => StG x
  | .tup l => AvsG l
  | .lst l => AvsG l
  | .dic => False
  | .dct _ _ _ => False
  | _ => True
def AvsG : List AV → Prop
  | [] => True
  | v :: l => AvG v ∧ AvsG l
end
theorem sh_non : ShD .none 41 := ⟨by decide +kernel, by decide +kernel⟩
theorem sh_bl (b : Bool) : ShD (.bool b) 41 := ⟨by cases b <;> decide +kernel, by cases b <;> decide +kernel⟩
theorem sh_m1 : ShD (.int (-1)) 41 := ⟨by decide +kernel, by decide +kernel⟩
mutual
theorem avG_ok : ∀ {v : AV}, AvG v → CmpD (avD v) (avP v) (avDp v) ∧ ShD (avP v) (avLn v)
  | .non, _ => by rw [avD, avP, avDp, avLn]; exact ⟨cmp_non, sh_non⟩
  | .bl b, _ => by rw [avD, avP, avDp, avLn]; exact ⟨cmp_bl b, sh_bl b⟩
  | .int i, h => by
    rw [avD, avP, avDp, avLn]
    refine ⟨cmp_int i, ?_⟩
    rcases h with ⟨n, rfl, hn⟩ | rfl
    · exact sh_natW hn
    · exact sh_m1
  | .str x, h => by rw [avD, avP, avDp, avLn]; exact ⟨cmp_str h.1, h.2⟩
  | .tup l, h => by
    obtain ⟨h1, h2, h3⟩ := avsG_ok (l := l) h
    rw [avD, avP, avDp, avLn]
    exact ⟨cmp_tup h1, ⟨by simp only [PyData.showable]; exact h2, by
      simp only [PyData.shown]
      have q := tupleText_len_le (PyData.shownAll (avsP l))
      omega⟩⟩
  | .lst l, h => by
    obtain ⟨h1, h2, h3⟩ := avsG_ok (l := l) h
    rw [avD, avP, avDp, avLn]
    exact ⟨cmp_lst h1, ⟨by simp only [PyData.showable]; exact h2, by
      simp only [PyData.shown]
      have q := listText_len_le (PyData.shownAll (avsP l))
      omega⟩⟩
  | .dic, h => h.elim
  | .dct _ _ _, h => h.elim
theorem avsG_ok : ∀ {l : List AV}, AvsG l → CmpDs (avsD l) (avsP l) (avsDp l) ∧ PyData.showableAll (avsP l) = true ∧ ((PyData.shownAll (avsP l)).map (·.length)).sum + 2 * (PyData.shownAll (avsP l)).length ≤ avsLn l
  | [], _ => by rw [avsD, avsP, avsDp, avsLn]; exact ⟨cmps_nil, by simp [PyData.showableAll], by simp [PyData.shownAll]⟩
  | v :: l, h => by
    obtain ⟨a1, a2⟩ := avG_ok (v := v) h.1
    obtain ⟨b1, b2, b3⟩ := avsG_ok (l := l) h.2
    rw [avsD, avsP, avsDp, avsLn]
    refine ⟨cmps_cons ⟨a1.eq, a1.lay, Nat.le_refl _⟩ (Nat.le_trans a1.dep (Nat.le_max_left _ _)) ⟨b1.eq, b1.lay, Nat.le_trans b1.dep (Nat.le_max_right _ _)⟩, ?_, ?_⟩
    · simp only [PyData.showableAll, a2.ok, b2, Bool.and_self]
    · simp only [PyData.shownAll, List.map_cons, List.sum_cons, List.length_cons]
      have := a2.le
      omega
end
theorem rp_of {v : AV} (h : AvG v) (hd : avDp v ≤ 60) (hl : avLn v ≤ sizeLine) : RpD v := by
  obtain ⟨a, b⟩ := avG_ok h
  exact .inl ⟨_, a, hd, b.ok, Nat.le_trans b.le hl⟩
end DL
namespace W
open PySem PySem.Spec PyProof.Rows L2 DL SX PL
section
variable {P : Program} {w : World} {K : PySem.W.Frag} {mg : Str → Option Value} {base : Heap} {C U : Addr}
/-- what is known of an error -/
structure Ek (P : Program) (K : PySem.W.Frag) (mg : Str → Option Value) (B : Addr) (x : Str) (U : Addr) : Prop where
  er : XL.Er P K mg x U
  ev : XL.ErV K U
  at_ : mg x = some (.ref U)
  ex : PySem.W.exmOne K (.ref U) (.ref B) = some true
  no : PySem.W.kitOne K (.type "NoneType") (.ref U) = some false
theorem kit_self {U : Addr} : PySem.W.kitOne K (.ref U) (.ref U) = some true := by
  unfold PySem.W.kitOne
  simp
theorem WEx.imp {X : Cx} {ρ : Rho} {M : Mp} {e : Expr} {Φ Φ' : D → Mp → Prop} {Ξ Ξ' : Xi} (h : WEx X ρ M e Φ Ξ) (f : ∀ d M1, Φ d M1 → Φ' d M1) (g : ∀ c fs M1, Ξ c fs M1 → Ξ' c fs M1) : WEx X ρ M e Φ' Ξ' := .mk fun σ H Q E en w k t kx =>
  h.run σ H Q E en w (fun v d H1 M1 e1 w1 r1 z => k v d H1 M1 e1 w1 r1 (f d M1 z)) t fun c fs vs d H1 M1 x w1 h1 m r z => kx c fs vs d H1 M1 x w1 h1 m r (g c fs M1 z)
theorem hfree_of {qual : Str} {sc lsc : Scope} {L f : Addr} {cd : Value} (h : (lsc.names.all fun y => !decide (y.2 = NameKind.free) || decide (sc.names.lookup y.1 = some .cell)) = true) : ∀ y ∈ lsc.names, y.2 = NameKind.free → ∃ c, (envOfC qual sc L f cd).cells.lookup y.1 = some c := fun y hy e => by
  have q := List.all_eq_true.mp h y hy
  rw [e] at q
  simp only [decide_true, Bool.not_true, Bool.false_or, decide_eq_true_eq] at q
  exact cell_has q
end
end W
namespace DL
open PySem PySem.Spec PyProof.Rows L2
/-- the def at g gives the pair of the two, called from a frame above the home's -/
def GivesF (X : Cx) (k : Nat) (B g : Addr) (x : Str) (Ng : List Str) (sg : Scope) (cdg : Value) (bg : List Stmt) : Prop := ∀ (pins : List (Addr × Obj)) (σ : L2.St) (H HY : Hp) (s sY : Shared) (A0 : Around) (st : List Env) (f : Addr) (Q : VK), L2.Inv X pins σ H s → XL.Home X H s st sY HY → Room (k + 1) (A0.deeper (envOfC x sg sY.heap.objs.size g cdg)) → XL.GiveR X σ X.K B (tbL X k) f HY Q →
  ∃ t, PSs (cxOf CX0 X.prog X.w X.K X.mg X.base Ng x sg g cdg A0 st sY HY E0).nox bg t ∧ t { nx := fun _ H' => Q .non H', rt := Q } (L2.start Ng [.ref f]) HY
/-- the call of it in a frame above the home's -/
theorem pe_ansF {X : Cx} {pins : List (Addr × Obj)} {σ : L2.St} {H : Hp} {s : Shared} {NY : List Str} {qy : Str} {sy : Scope} {gy : Addr} {cdy : Value} {EY : XK} {k i : Nat} {B g : Addr} {x a a0 : Str} {Ng : List Str} {sg : Scope} {bg : List Stmt} {pg : Arguments} {dV kV doc pm cdg ct oc : Value} {an od : Option Addr} {osl : Array (Option Value)} {p p0 pos : Pos}
    (I : L2.Inv X pins σ H s) (hm : X.mg x = some (.ref g)) (hk : PySem.W.keepIn X.K (.ref g) = true) (lk : X.K.lookup g = some ⟨oc, od, .func (PySem.W.fnOf x x pg bg sg dV kV doc pm an cdg ct), osl⟩) (hcg : PySem.W.codeIn X.K cdg x = true) (hb : Binds X.K (PySem.W.fnOf x x pg bg sg dV kV doc pm an cdg ct) [a] []) (Sg : FnScope Ng [a] sg)
    (hG : GivesF X k B g x Ng sg cdg bg) (hr : Room (k + 2) (X.A.deeper (envOfC qy sy s.heap.objs.size gy cdy))) (hN : NY[i]? = some a0) (hv : Vis sy a0) (hd : (a0 == ("__debug__" : Str)) = false) (hcd : (a0 == ("__classdict__" : Str)) = false)
    (hg : Gl (bx X.prog X.w X.K X.mg X.base NY qy sy gy cdy X.A X.stack s H EY) x) (hdb : (x == ("__debug__" : Str)) = false) (he : starEach [.Name a0 p0] (envOfC qy sy s.heap.objs.size gy cdy) = (false, eval (.Name a0 p0) (envOfC qy sy s.heap.objs.size gy cdy)) :: starEach [] (envOfC qy sy s.heap.objs.size gy cdy)) (hpl : (backTo pos (starEach [] (envOfC qy sy s.heap.objs.size gy cdy))).any (·.1) = false) :
    PE (bx X.prog X.w X.K X.mg X.base NY qy sy gy cdy X.A X.stack s H EY) (.Call (.Name x p) [.Name a0 p0] [] pos) (fun σY HY Q => ∃ f, σY[i]? = some (some (.ref f)) ∧ XL.GiveR X σ X.K B (tbL X k) f HY Q) := by
  refine ⟨fun pinsY sY σY HY Q IY h => ?_⟩
  obtain ⟨f, hf, hgv⟩ := h
  refine wpAny_Call_Name_kw (ld_glob IY hg hm ?_ hdb)
  refine PySem.W.callWith_K (h₀ := X.base) IY.ok.mod.kin hk (thn ((pa_cons (pe_var hN hv hd hcd) pa_nil he).run pos pinsY sY σY HY (fun vs H1 => vs = [.ref f] ∧ H1 = HY) IY ⟨.ref f, hf, rfl, rfl⟩) fun us s1 z => ?_) he hpl
  obtain ⟨vs, H1, I1, r, rfl, rfl⟩ := z
  refine ⟨I1.kIn, ?_⟩
  cases r with
  | cons r1 r2 =>
    cases r2
    rename_i u
    obtain rfl : u = Value.ref f := r1
    have rc := LamX.run_ofS (CX := CX0) (P := X.prog) (w := X.w) (mg := X.mg) (base := X.base) (Q := Q) (E := E0) lk hcg Sg hr I1.env0 (hb s1 [Value.ref f] I1.kIn rfl) (Paired.cons (a := V.ref f) rfl Paired.nil) rfl fun hr' => by
      have hh : XL.Home X H s (bx X.prog X.w X.K X.mg X.base NY qy sy gy cdy X.A X.stack s H EY).stack s1 H1 := fun HZ hZ u => XL.Un.two (f := s.heap.objs.size) I1.base u fun o ho => absurd (Heap.lt_size ho) (Nat.lt_irrefl _)
      obtain ⟨t', ht, hq⟩ := hG pins σ H H1 s s1 _ _ f Q I hh hr' hgv
      exact ⟨t', PSs.nox ht, hq⟩
    refine wpAny_call (codeAny_mono rc fun r s' hq => ?_)
    cases r with
    | error er => exact hq.elim
    | ok fl =>
      cases fl with
      | ret u => exact I1.after hq
      | next => exact hq.elim
      | brk => exact hq.elim
      | cont => exact hq.elim
end DL
namespace W
open PySem PySem.Spec PyProof.Rows L2 DL SX
abbrev nAns : List Str := ["_law_look", "_law_caught_here", "_law_reply", "error"]
theorem gives_F {X : Cx} {k : Nat} {B g : Addr} {cdg : Value} (hm : X.mg "CrowdError" = some (.ref B)) : GivesF X k B g "_law_answer" nAns (defScope s__law_answer) cdg (defBody s__law_answer) := by
  intro pins σ H HY s sY A0 st f Q I hh hr h
  refine XL.answeredF (X := X) (Ng := nAns) (a := "_law_look") (here := "_law_caught_here") (rp := "_law_reply") (n := "error") (x := "CrowdError") I hh hr (fun E ps b sc f c' A outer s H hr => tbL_pe E ps b sc f c' A outer s H hr) (Or.inl rfl) (Or.inl rfl) (Or.inl rfl) (Or.inl rfl) rfl (Or.inl rfl) (Or.inl rfl) rfl (by decide) (by decide) (by decide) (by decide) (by decide) (by decide) (by decide) (by decide) (by decide +kernel) rfl rfl ⟨rfl, by decide, .inl hm⟩ rfl ?_ h
  refine ⟨fun pins s σ H D I h => ?_⟩
  have nd : nAns.Nodup := by decide +kernel
  exact (ps_asg (pe_tup (pa_cons pe_non (pa_cons pe_non pa_nil))) (pg_tup rfl (pgs_cons (pg_name (i := 1) nd rfl (Or.inl rfl) (Or.inl rfl)) (pgs_cons (pg_name (i := 2) nd rfl (Or.inl rfl) (Or.inl rfl)) pgs_nil)) rfl rfl) rfl rfl rfl).run pins s σ H D I ⟨show 2 ≤ sizeLine by decide, fun p hp => ⟨p, _, rfl, .inl (.inl upd_same), rfl, _, _, rfl, _, _, rfl, rfl, h p hp⟩⟩
abbrev nMade : List Str := ["_law_look", "_law_lore", "_law_caught_here", "_law_plan_here"]
/-- behind the answer -/
def MadeRest (X : Cx) (Φ : D → Mp → Prop) (k : Nat) (d y a b : D) (M3 : Mp) : Prop := ∀ (g : Addr) (cdv : Value) (s : Shared) (H : Hp), Room (k + 2) (X.A.deeper (envOfC "_law_is_made" (defScope s__law_is_made) s.heap.objs.size g cdv)) →
  WSs (bx X.prog X.w X.K X.mg X.base nMade "_law_is_made" (defScope s__law_is_made) g cdv X.A X.stack s H E0) [some d, some y, some a, some b] M3 ((defBody s__law_is_made).drop 1) { nx := fun _ M'' => Φ .non M'', rt := Lets Φ }
/-- what is asked of the lambda and of the lore -/
def LamMade (X : Cx) (ρ : Rho) (k : Nat) (B : Addr) (Φ : D → Mp → Prop) (d y : D) (M1 : Mp) : Prop := ∃ params body scope, d = .lam (X.env.qual ++ "<lambda>") params body scope (cloFrom X.env.cells scope.names []) ∧ LamX.LamS X.env.scope scope ∧
      (∀ (q : Str) (cl : List (Str × Addr)) (pm cv ctv : Value), bindArgs (PySem.W.kla_fn "<lambda>" q params body scope cl pm cv ctv) ⟨[], []⟩ = pure []) ∧
      ∀ (f c' : Addr) (A : Around) (outer : List Env) (s : Shared) (H0 : Hp) (E : XK), Room k (A.deeper (LamX.lamEnv X scope s.heap.objs.size f c')) → WEx (LamX.lamCx X A outer s H0 E scope f c') ρ M1 body (fun v M2 => MadeRest X Φ k d y .non v M2) (fun C fs M2 => PySem.W.exmOne X.K (.ref C) (.ref B) = some true ∧ MadeRest X Φ k d y (.exc C fs) .non M2)
section
variable {X : Cx} {ρ : Rho} {M : Mp} {Φ : D → Mp → Prop} {e1 e2 : Expr} {pos p : Pos} {k : Nat} {B : Addr}
theorem we_made (DM : Df X.K X.mg "_law_is_made" s__law_is_made []) (T : Ct X.K X.mg "_law_answer" s__law_answer "_law_look") (gB : X.mg "CrowdError" = some (.ref B)) (hr : Room (k + 3) X.A)
    (h : WE X ρ M e1 fun d M1 => WE X ρ M1 e2 fun y M2 => LamMade X ρ k B Φ d y M2)
    (hg : Gl X "_law_is_made" := by rfl) (he : starEach [e1, e2] X.env = (false, eval e1 X.env) :: starEach [e2] X.env := by rfl) (he2 : starEach [e2] X.env = (false, eval e2 X.env) :: starEach [] X.env := by rfl) (hpl : (backTo pos (starEach [e2] X.env)).any (·.1) = false := by rfl) : WE X ρ M (.Call (.Name "_law_is_made" p) [e1, e2] [] pos) Φ := .mk fun {Z} σ H Q en w kk => by
  obtain ⟨gm, fdm, FM, hmM⟩ := DM.ex
  obtain ⟨ocM, odM, dVM, kVM, docM, pmM, anM, cdM, ctM, oslM, rfl, lkM, hcgM, hdvM, _⟩ := FM.ex
  have hbM := FM.bindsN (ps := ["_law_look", "_law_lore"]) (fun _ _ _ _ _ _ us hl => match us, hl with | [_, _], _ => rfl)
  have SM : FnScope nMade ["_law_look", "_law_lore"] (defScope s__law_is_made) := ⟨rfl, rfl, rfl, by decide +kernel, rfl, by decide +kernel, by decide +kernel⟩
  have Sg : FnScope nAns ["_law_look"] (defScope s__law_answer) := ⟨rfl, rfl, rfl, by decide +kernel, rfl, by decide +kernel, by decide +kernel⟩
  obtain ⟨g, fd, F, hm⟩ := T.df.ex
  obtain ⟨oc, od, dV, kV, doc, pm, an, cdg, ct, osl, rfl, lk, hcg, hdv, _⟩ := F.ex
  have hb := F.bindsN (ps := ["_law_look"]) T.bind
  have nd : nMade.Nodup := by decide +kernel
  intro pins s I
  refine wpAny_Call_Name_kw (ld_glob I hg hmM ?_ (by decide))
  refine PySem.W.callWith_K (h₀ := X.base) I.ok.mod.kin FM.kp (thn ((pa_sem (es := [e1, e2])).run pos pins s σ H (fun vs H1 => ∃ d y M1, Ext M Z H M1 H1 ∧ Wd X.K M1 Z H1 ∧ Reps X.K M1 Z H1 vs [d, y] ∧ LamMade X ρ k B Φ d y M1) I ?_) fun us s1 z => ?_) he hpl
  · refine (wa_cons (ΦA := fun ds M1 => ∃ d y, ds = [d, y] ∧ LamMade X ρ k B Φ d y M1) (h.imp fun d M1 h => wa_cons (h.imp fun y M2 z => wa_nil ⟨d, y, rfl, z⟩) he2) he).run σ H _ en w fun vs ds H1 M1 e1 w1 r1 hz => ?_
    obtain ⟨d, y, rfl, hz⟩ := hz
    exact ⟨d, y, M1, e1, w1, r1, hz⟩
  · obtain ⟨vs, H1, I1, r, d, y, M1, x1, w1, r1, params, body, scope, rfl, L, hbind, hbd⟩ := z
    refine ⟨I1.kIn, ?_⟩
    have hlu : us.length = 2 := by rw [← r.length, r1.length]; rfl
    have hlv : vs.length = 2 := by rw [r1.length]; rfl
    have bt := hbM s1 us I1.kIn (by rw [List.append_nil]; exact hlu)
    rw [List.append_nil] at bt
    have rc := LamX.run_ofS (CX := CX0) (P := X.prog) (w := X.w) (mg := X.mg) (base := X.base) (Q := Q) (E := E0) lkM hcgM SM hr I1.env0 bt r hlv fun hr' => by
      refine ⟨_, PSs.nox (pss_cons (ps_asg (pe_ansF (X := X) (i := 0) (NY := nMade) (qy := "_law_is_made") (sy := defScope s__law_is_made) I1 hm F.kp lk hcg hb Sg (gives_F gB) hr' rfl (Or.inl rfl) (by decide) (by decide) rfl (by decide) rfl rfl) pg_sem rfl rfl rfl) pss_sem), ?_⟩
      have en0 := env_start (N := nMade) r1
      cases r1 with
      | cons q1 q2 =>
        cases q1 with
        | lam h1 h2 m1 m2 =>
          refine ⟨_, rfl, _, params, body, scope, h1, h2, L, fun pm cv ctv => hbind _ _ pm cv ctv, fun p0 hp0 E R hR hE f c' A outer s0 H0 hr2 => ?_⟩
          have x0 : Ext M1 Z H1 M1 (upd H1 p0 (.tup [.non, .non])) := Ext.new w1 hp0
          have done : ∀ {M3 : Mp} {H3 : Hp} {ρ' : Rho} {σ' : L2.St}, Ext M1 Z H1 M3 H3 → Wd X.K M3 Z H3 → EnvR X.K M3 Z H3 σ' ρ' → WSs (bx X.prog X.w X.K X.mg X.base nMade "_law_is_made" (defScope s__law_is_made) gm cdM X.A X.stack s1 H1 E0) ρ' M3 ((defBody s__law_is_made).drop 1) { nx := fun _ M'' => Φ .non M'', rt := Lets Φ } →
              ssSem (bx X.prog X.w X.K X.mg X.base nMade "_law_is_made" (defScope s__law_is_made) gm cdM X.A X.stack s1 H1 E0) ((defBody s__law_is_made).drop 1) { nx := fun _ H' => Q .non H', rt := Q } σ' H3 := fun {M3 H3 ρ' σ'} x w e h =>
            h.run σ' H3 _ e w ⟨fun σ' ρ' H' M' x' w' en z => (kk.step (x1.trans x)) _ .non H' M' x' w' .non z, lets_k (kk.step (x1.trans x)), fun _ _ _ _ _ _ _ z => z.elim, fun _ _ _ _ _ _ _ z => z.elim⟩
          refine (hbd f c' A outer s0 H0 E hr2).run σ _ R E ((en.mono x1).mono x0) (w1.new hp0) (fun v d H2 M2 e2 w2 r2 hz => hR v H2 fun q hq => ?_) (takes_of rfl rfl rfl rfl) fun C fs vs d H2 M2 e2 w2 hd md rf hz => ?_
          · have x3 : Ext M2 Z H2 M2 (upd H2 q (.tup [.non, v])) := Ext.new w2 hq
            exact (wg_tup (ρ := start nMade [.lam (X.env.qual ++ "<lambda>") params body scope (cloFrom X.env.cells scope.names []), y]) (M := M2) (X := bx X.prog X.w X.K X.mg X.base nMade "_law_is_made" (defScope s__law_is_made) gm cdM X.A X.stack s1 H1 E0) (Φ := fun ρ' M' => WSs (bx X.prog X.w X.K X.mg X.base nMade "_law_is_made" (defScope s__law_is_made) gm cdM X.A X.stack s1 H1 E0) ρ' M' ((defBody s__law_is_made).drop 1) { nx := fun _ M'' => Φ .non M'', rt := Lets Φ }) ⟨rfl, rfl, wgs_cons (wg_name 2 (wgs_cons (wg_name 3 (wgs_nil ⟨rfl, hz gm cdM s1 H1 hr'⟩) nd)) nd)⟩).run _ _ (.ref q) _ (en0.mono ((x0.trans e2).trans x3)) (w2.new hq) (.tup (.inl upd_same) (w2.fresh hq) (.cons .non (.cons (r2.mono x3) .nil))) (fun σ' ρ' H' M' x' w' e' z => done (((x0.trans e2).trans x3).trans x') w' e' z)
          · refine hE _ _ _ hz.1 fun q t hq ht => ?_
            have nq : d ≠ q := fun z => by rw [z, hq] at hd; cases hd
            have x3 : Ext M2 Z H2 M2 (upd H2 q (XL.XV q (.ref C) (some d))) := Ext.new w2 hq
            have w3 := w2.new (o := XL.XV q (.ref C) (some d)) hq
            have r3 : Rep X.K M2 Z (upd H2 q (XL.XV q (.ref C) (some d))) (.ref q) (.exc C fs) := .exc upd_same (by rw [upd_ne nq]; exact hd) (w2.fresh hq) md (rf.mono x3)
            have x4 : Ext M2 Z (upd H2 q (XL.XV q (.ref C) (some d))) M2 (upd (upd H2 q (XL.XV q (.ref C) (some d))) t (.tup [.ref q, .non])) := Ext.new w3 ht
            exact (wg_tup (ρ := start nMade [.lam (X.env.qual ++ "<lambda>") params body scope (cloFrom X.env.cells scope.names []), y]) (M := M2) (X := bx X.prog X.w X.K X.mg X.base nMade "_law_is_made" (defScope s__law_is_made) gm cdM X.A X.stack s1 H1 E0) (Φ := fun ρ' M' => WSs (bx X.prog X.w X.K X.mg X.base nMade "_law_is_made" (defScope s__law_is_made) gm cdM X.A X.stack s1 H1 E0) ρ' M' ((defBody s__law_is_made).drop 1) { nx := fun _ M'' => Φ .non M'', rt := Lets Φ }) ⟨rfl, rfl, wgs_cons (wg_name 2 (wgs_cons (wg_name 3 (wgs_nil ⟨rfl, hz.2 gm cdM s1 H1 hr'⟩) nd)) nd)⟩).run _ _ (.ref t) _ (en0.mono (((x0.trans e2).trans x3).trans x4)) (w3.new ht) (.tup (.inl upd_same) (w3.fresh ht) (.cons (r3.mono x4) (.cons .non .nil))) (fun σ' ρ' H' M' x' w' e' z => done ((((x0.trans e2).trans x3).trans x4).trans x') w' e' z)
    refine wpAny_call (codeAny_mono rc fun r s' hq => ?_)
    cases r with
    | error er => exact hq.elim
    | ok fl =>
      cases fl with
      | ret u => exact I1.after hq
      | next => exact hq.elim
      | brk => exact hq.elim
      | cont => exact hq.elim
end
end W
namespace W
open PySem PySem.Spec PyProof.Rows L2 DL SX PL
section
variable {P : Program} {w : World} {K : PySem.W.Frag} {mg : Str → Option Value} {base : Heap} {C : Addr}
abbrev nInit : List Str := ["self", "text", "groups", "many", "part"]
theorem mul_ok {n p m : Nat} (h1 : n ≤ 10 ^ 30) (h2 : p < 16 ^ m) (h3 : m ≤ 100000) : CMulW (n : Nat) (p : Nat) := by
  show ((n : Int)).natAbs.log2 + ((p : Int)).natAbs.log2 < 1000000
  rw [Int.natAbs_natCast, Int.natAbs_natCast]
  have e1 := log16 h2
  have e2 : n < 16 ^ 26 := Nat.lt_of_le_of_lt h1 (by decide)
  have e3 := log16 e2
  omega
theorem sum_cast {α : Type} (f : α → Nat) : ∀ l : List α, (l.map fun q => ((f q : Nat) : Int)).sum = (((l.map f).sum : Nat) : Int)
  | [] => rfl
  | x :: l => by simp [sum_cast f l]
end
end W
namespace DL
open PySem PySem.Spec PyProof.Rows L2
def GoodZ (w : World) (e : Int × Value) : Prop := ∃ x t, e.2 = Value.str x t ∧ e.1 = hashStr w x
/-- the set of texts at a: L its members, none twice -/
def SetZ (w : World) (h : Heap) (a : Addr) (L : List Str) : Prop :=
  ∃ o es ep t, h.get? a = some o ∧ (o.ExactSet ∧ o.data = .set es ep t) ∧ ((∀ e ∈ es.toList, GoodZ w e) ∧ (es.toList.map fun e => strOf e.2).Perm L ∧ L.Nodup) ∧ (es.size < scanBound ∧ t.fits es.size = true) ∧ Ris t.place.toList ∧ (w.params.followText "set-order" = true ∨ t.led = true)
section
variable {P : Program} {w : World} {h h' : Heap} {a : Addr} {L : List Str}
theorem SetZ.keep (R : SetZ w h a L) (k : ∀ o, h.get? a = some o → h'.get? a = some o) : SetZ w h' a L := by
  obtain ⟨o, es, ep, t, ho, r⟩ := R
  exact ⟨o, es, ep, t, k o ho, r⟩
theorem goodZ_elems {l : List (Int × Value)} (g : ∀ e ∈ l, GoodZ w e) : ElemsOf (PySem.strKind P w) l := fun e he => by
  obtain ⟨x, t, h1, h2⟩ := g e he
  exact ⟨⟨x, by rw [h1]; exact strKind_is P w x t, h2⟩, by rw [h1]; rfl⟩
theorem goodZ_is {e : Int × Value} (g : GoodZ w e) (x : Str) : (PySem.strKind P w).is x e.2 = true ↔ strOf e.2 = x := by
  obtain ⟨y, t, h1, _⟩ := g
  rw [h1]
  have q := strKind_is P w y t
  refine ⟨fun z => ((PySem.strKind P w).inj _ _ _ z q).symm, fun z => ?_⟩
  have z' : y = x := z
  rw [← z']; exact q
theorem goodZ_mem {l : List (Int × Value)} (g : ∀ e ∈ l, GoodZ w e) (x : Str) : (∃ e ∈ l, (PySem.strKind P w).is x e.2 = true) ↔ x ∈ l.map fun e => strOf e.2 := by
  rw [List.mem_map]
  exact ⟨fun ⟨e, he, q⟩ => ⟨e, he, (goodZ_is (g e he) x).mp q⟩, fun ⟨e, he, q⟩ => ⟨e, he, (goodZ_is (g e he) x).mpr q⟩⟩
end
section
variable {P : Program} {w : World} {A : Around} {E : Value → Shared → Prop} {s : Shared} {a : Addr} {L : List Str}
theorem setZ_tail {g : Bool → Sem Unit} (hg : ∀ (b : Bool) (s1 : Shared) (Q' : Unit → Shared → Prop), Q' () s1 → wpAny (model P w) A (g b) Q' E s1) {o : Obj} {es es1 : Array (Int × Value)} {ep : Nat} {t t2 : SetTable} {L' : List Str} {wd : Bool} {R : Option Bool → Shared → Prop}
    (ho : s.heap.get? a = some o) (hex : o.ExactSet) (hd : o.data = .set es ep t) (g1 : (∀ e ∈ es1.toList, GoodZ w e) ∧ (es1.toList.map fun e => strOf e.2).Perm L' ∧ L'.Nodup) (hb : es1.size < scanBound) (hf : t2.fits es1.size = true) (hr : Ris t2.place.toList) (hl : w.params.followText "set-order" = true ∨ t2.led = true)
    (hR : ∀ h', Heap.SameBut a s.heap h' → SetZ w h' a L' → R (some true) { s with heap := h' }) :
    wpAny (model P w) A (do
      storeSet a es1 t2
      if (!wd && t2.tooFull) = true then do
          g (relayAll t2 es1 (SetTable.grown es1.size)).2.2
          storeSet a (relayAll t2 es1 (SetTable.grown es1.size)).1 (relayAll t2 es1 (SetTable.grown es1.size)).2.1
          pure (some true)
        else pure (some true)) R E s := by
  have ho1 := store_at (es' := es1) (t' := t2) ho hd
  have sb := Heap.SameBut.update s.heap a (Obj.putSet es1 t2)
  refine wpAny_bind (wpAny_storeSet_of ho hd ?_ (fits_of_scanBound hb))
  by_cases hc : (!wd && t2.tooFull) = true
  · rw [if_pos hc]
    have q1 := relayAll_perm t2 es1 (SetTable.grown es1.size)
    have q2 := relayAll_fits t2 es1 (SetTable.grown es1.size)
    have q3 := relayAll_ris t2 es1 (SetTable.grown es1.size)
    have q4 := relayAll_led t2 es1 (SetTable.grown es1.size)
    generalize relayAll t2 es1 (SetTable.grown es1.size) = Y at q1 q2 q3 q4 ⊢
    obtain ⟨es2, t3, gv⟩ := Y
    dsimp only at q1 q2 q3 q4 ⊢
    have hb2 : es2.size < scanBound := by
      have : es2.size = es1.size := by rw [← Array.length_toList, q1.length_eq, Array.length_toList]
      omega
    refine wpAny_bind (hg _ _ _ (wpAny_bind (wpAny_storeSet_of ho1 rfl ?_ (fits_of_scanBound hb2))))
    refine wpAny_pure (hR _ (sb.trans (Heap.SameBut.update _ a _)) ⟨_, es2, _, t3, store_at (es' := es2) (t' := t3) ho1 rfl, ⟨hex, rfl⟩, ⟨fun e he => g1.1 e (q1.mem_iff.mp he), (q1.map _).trans g1.2.1, g1.2.2⟩, ⟨hb2, q2⟩, q3, ?_⟩)
    rw [q4]; exact hl
  · rw [if_neg hc]
    exact wpAny_pure (hR _ sb ⟨_, es1, _, t2, ho1, ⟨hex, rfl⟩, g1, ⟨hb, hf⟩, hr, hl⟩)
theorem setZ_add {x : Str} {tk : Tok} {Q : Bool → Shared → Prop} (R : SetZ w s.heap a L) (room : L.length + 1 < scanBound)
    (hQ : ∀ h' b, Heap.SameBut a s.heap h' → SetZ w h' a (if x ∈ L then L else x :: L) → Q b { s with heap := h' }) : wpAny (model P w) A (setAddHashed a (.str x tk) ((PySem.strKind P w).hash x)) Q E s := by
  obtain ⟨o, es, ep, t, ho, ⟨hex, hd⟩, ⟨g, pm, nd⟩, ⟨hb, hf⟩, hr, hl⟩ := R
  have hel : ElemsOf (PySem.strKind P w) es.toList := goodZ_elems g
  have hsc : (Value.str x tk).scannable = true := rfl
  unfold setAddHashed setAddHashedIn
  refine wpAny_holding (wpAny_bind (wpAny_setState_of ho hd hf ?_))
  dsimp only
  rw [byScan_of hsc hb hel]
  simp only [↓reduceIte]
  unfold setAddByScan
  refine wpAny_bind (wpAny_bind (wpAny_rule (wpAny_bind (wpAny_setScan_of (strKind_is P w x tk) ho hd hf hel ?_))))
  by_cases hx : x ∈ L
  · cases hfi : List.findIdx? (fun e => (PySem.strKind P w).is x e.2) es.toList with
    | none =>
      exfalso
      obtain ⟨e, he, q⟩ := (goodZ_mem (P := P) g x).mpr (pm.mem_iff.mpr hx)
      have c := List.findIdx?_eq_none_iff.mp hfi e he
      rw [q] at c; cases c
    | some j =>
      dsimp only
      have q := hQ s.heap false (Heap.SameBut.refl a s.heap)
      rw [if_pos hx] at q
      exact wpAny_pure (wpAny_pure (q ⟨o, es, ep, t, ho, ⟨hex, hd⟩, ⟨g, pm, nd⟩, ⟨hb, hf⟩, hr, hl⟩))
  · cases hfi : List.findIdx? (fun e => (PySem.strKind P w).is x e.2) es.toList with
    | some j =>
      exfalso
      obtain ⟨hj, pj, _⟩ := List.findIdx?_eq_some_iff_getElem.mp hfi
      exact hx (pm.mem_iff.mp ((goodZ_mem (P := P) g x).mp ⟨es.toList[j], List.getElem_mem hj, pj⟩))
    | none =>
      dsimp only
      have gw : ∀ (b : Bool) {s1 : Shared} {Q' : Unit → Shared → Prop}, Q' () s1 → wpAny (model P w) A (match b with | true => rule "set.scan.the-table-gave-way" | false => pure ()) Q' E s1 := fun b s1 Q' q => by
        cases b <;> first | exact wpAny_pure q | exact wpAny_rule q
      have p1 := layNew_perm t es ((PySem.strKind P w).hash x) (.str x tk)
      have p2 := layNew_fits t es ((PySem.strKind P w).hash x) (.str x tk)
      have p3 := layNew_ris t es ((PySem.strKind P w).hash x) (.str x tk) hr
      have p4 := layNew_led t es ((PySem.strKind P w).hash x) (.str x tk)
      generalize layNew t es ((PySem.strKind P w).hash x) (.str x tk) = Y at p1 p2 p3 p4 ⊢
      obtain ⟨es1, t1, wd, gv⟩ := Y
      dsimp only at p1 p2 p3 p4 ⊢
      rw [Array.toList_push] at p1
      have pc := p1.trans (List.perm_append_singleton _ _)
      have gN : (∀ e ∈ es1.toList, GoodZ w e) ∧ (es1.toList.map fun e => strOf e.2).Perm (x :: L) ∧ (x :: L).Nodup := by
        refine ⟨fun e he => ?_, (pc.map _).trans (pm.cons _), List.nodup_cons.mpr ⟨hx, nd⟩⟩
        rcases List.mem_cons.mp (pc.mem_iff.mp he) with z | z
        · rw [z]; exact ⟨x, tk, rfl, rfl⟩
        · exact g e z
      have hb1 : es1.size < scanBound := by
        have := gN.2.1.length_eq
        rw [List.length_map, Array.length_toList, List.length_cons] at this
        omega
      have hled : w.params.followText "set-order" = true ∨ t1.led = true := by rw [p4]; exact hl
      have fin : ∀ h', Heap.SameBut a s.heap h' → SetZ w h' a (x :: L) → Q true { s with heap := h' } := fun h' sb r => hQ h' true sb (by rw [if_neg hx]; exact r)
      refine wpAny_bind (gw _ ?_)
      split
      · refine wpAny_bind ?_
        rw [hashByValue_scannable 8 hsc]
        refine wpAny_pure (setZ_tail ?_ ho hex hd gN hb1 ?_ ?_ ?_ ?_)
        · intro b s1 Q' q
          cases b <;> first | exact wpAny_pure q | exact wpAny_rule q
        · first | (split <;> first | exact p2 | exact SetTable.fits_plain_off p2) | exact p2
        · first | (split <;> exact p3) | exact p3
        · first | (split <;> exact hled) | exact hled
        · intro h' sb r
          dsimp only
          exact wpAny_pure (fin h' sb r)
      · refine wpAny_bind (wpAny_pure ?_)
        simp only [↓reduceIte]
        refine setZ_tail ?_ ho hex hd gN hb1 p2 p3 hled ?_
        · intro b s1 Q' q
          cases b <;> first | exact wpAny_pure q | exact wpAny_rule q
        · intro h' sb r
          dsimp only
          exact wpAny_pure (fin h' sb r)
end
/-- the members behind the adds of some texts -/
def dedZ : List Str → List Str → List Str
  | L, [] => L
  | L, x :: r => dedZ (if x ∈ L then L else x :: L) r
theorem dedZ_snoc : ∀ (L r : List Str) (x : Str), dedZ L (r ++ [x]) = if x ∈ dedZ L r then dedZ L r else x :: dedZ L r
  | L, [], x => rfl
  | L, y :: r, x => dedZ_snoc _ r x
theorem dedZ_len : ∀ (L r : List Str), (dedZ L r).length ≤ L.length + r.length
  | L, [] => Nat.le_refl _
  | L, y :: r => by
    have := dedZ_len (if y ∈ L then L else y :: L) r
    unfold dedZ
    split at this <;> simp only [List.length_cons] at this ⊢ <;> split <;> simp_all <;> omega
theorem dedZ_mem : ∀ (L r : List Str) (k : Str), k ∈ dedZ L r ↔ k ∈ L ∨ k ∈ r
  | L, [], k => by simp [dedZ]
  | L, y :: r, k => by
    unfold dedZ
    rw [dedZ_mem, List.mem_cons]
    split
    · rename_i h
      constructor
      · rintro (z | z)
        · exact .inl z
        · exact .inr (.inr z)
      · rintro (z | z | z)
        · exact .inl z
        · exact .inl (z ▸ h)
        · exact .inr z
    · rw [List.mem_cons]
      constructor
      · rintro ((z | z) | z)
        · exact .inr (.inl z)
        · exact .inl z
        · exact .inr (.inr z)
      · rintro (z | z | z)
        · exact .inl (.inr z)
        · exact .inl (.inl z)
        · exact .inr z
theorem dedZ_nd : ∀ (L r : List Str), L.Nodup → (dedZ L r).Nodup
  | L, [], h => h
  | L, y :: r, h => by
    unfold dedZ
    refine dedZ_nd _ r ?_
    split
    · exact h
    · exact List.nodup_cons.mpr ⟨by assumption, h⟩
theorem setZ_new {w : World} {h : Heap} {a : Addr} (ho : h.get? a = some (eSet w)) : SetZ w h a [] :=
  ⟨_, #[], 0, _, ho, ⟨⟨rfl, rfl, rfl⟩, rfl⟩, ⟨fun e he => by simp at he, .nil, .nil⟩, ⟨by decide, by rfl⟩, List.Pairwise.nil, by
    show _ ∨ (!w.params.followText "set-order") = true
    cases w.params.followText "set-order"
    · exact .inr rfl
    · exact .inl rfl⟩
section
variable {P : Program} {w : World} {A : Around} {E : Value → Shared → Prop} {s : Shared}
theorem setZ_update {I : Addr} {fp wr : List Addr} {G : Array GenState → Array GenState → Prop} {n : Nat} {Pv : Nat → Value → Prop} {St : Nat → Shared → Prop} {R : Result → Shared → Prop}
    (W : WalksS P w A.in1 I fp wr G n Pv St) (S : Addr) (hSf : S ∉ fp) (zs : List Str) (hn : n = zs.length) (hb : zs.length + 1 < scanBound) (hv : ∀ i v, Pv i v → ∃ x t, zs[i]? = some x ∧ v = .str x t) :
    ∀ (k i : Nat) (s : Shared), n - i = k → i ≤ n → St i s → SetZ w s.heap S (dedZ [] (zs.take i)) → (∀ s', Moved (S :: wr) G s s' → SetZ w s'.heap S (dedZ [] zs) → R (.ok (.ret .none)) s') →
      codeAny (model P w) A (.builtin "set.update.loop" ⟨[.ref S, .ref I], []⟩) R s := by
  have nw : S ∉ wr := fun z => hSf (W.sub _ z)
  have sub : ∀ b ∈ wr, b ∈ S :: wr := fun b => List.mem_cons_of_mem _
  intro k
  induction k with
  | zero =>
    intro i s hk hi st hS hR
    refine codeAny_builtin PyProof.Rows.F.entry_set_update_loop ?_
    rw [Around.under_plainId PyProof.Rows.F.plain_set_update_loop _]
    obtain rfl : i = n := by omega
    refine wpAny_bind (m := pyNext _) (W.done s _ _ st fun s' hm => wpAny_pure (hR s' (hm.mono sub) ?_))
    have := hS.keep (h' := s'.heap) fun o e => hm.heap S o nw e
    rwa [List.take_of_length_le (Nat.le_of_eq hn.symm)] at this
  | succ k ih =>
    intro i s hk hi st hS hR
    refine codeAny_builtin PyProof.Rows.F.entry_set_update_loop ?_
    rw [Around.under_plainId PyProof.Rows.F.plain_set_update_loop _]
    refine wpAny_bind (m := pyNext _) (W.item i s _ _ (by omega) st fun v s' hP st' hm => ?_)
    obtain ⟨x, t, hz, rfl⟩ := hv i v hP
    have hS' := hS.keep (h' := s'.heap) fun o e => hm.heap S o nw e
    refine wpAny_bind (m := holding [Value.str x t] (setAdd S (.str x t))) (wpAny_holding ?_)
    unfold setAdd
    have hlen := dedZ_len [] (zs.take i)
    rw [List.length_nil, List.length_take] at hlen
    refine wpAny_holding (wpAny_bind ((PySem.strKind P w).pyHash (k := x) (strKind_is _ _ _ _) (setZ_add (s := { s' with toks := s'.toks + 1 }) hS' (by omega) fun h' b sb hS2 => ?_)))
    have hS3 : SetZ w h' S (dedZ [] (zs.take (i + 1))) := by
      rw [List.take_add_one, hz]
      show SetZ w h' S (dedZ [] (zs.take i ++ [x]))
      rw [dedZ_snoc]; exact hS2
    refine wpAny_pure ⟨plainId_quiet PyProof.Rows.F.plain_set_update_loop _, ih (i + 1) _ (by omega) (by omega) (W.frame _ s' _ _ st' (Nat.le_succ _) fun b hb o e => ?_) hS3 fun s2 hm2 hS4 => hR s2 (Moved.trans W.gtrans ((hm.mono sub).then_heap (Nat.le_succ _) fun b o hb e => ?_) hm2) hS4⟩
    · rw [sb.2 b fun q : b = S => hSf (q ▸ hb)]; exact e
    · rw [sb.2 b fun q : b = S => hb (q ▸ List.mem_cons_self)]; exact e
theorem set_of_texts {l : Addr} {its : Array Value} (zs : List Str) {Q : Value → Shared → Prop} (hh : A.handled = none) (hl : s.heap.IsList l its) (hit : StrsAre its.toList zs) (hb : zs.length + 1 < scanBound)
    (hQ : ∀ (h' : Heap) (tk : Nat), SetZ w h' s.heap.objs.size (dedZ [] zs) → (∀ b o, s.heap.get? b = some o → h'.get? b = some o) → Q (.ref s.heap.objs.size) { s with heap := h', toks := tk }) : wpAny (model P w) A (call (.type "set") [.ref l]) Q E s := by
  have size : its.size = zs.length := by have q := StrsAre.length hit; rwa [Array.length_toList] at q
  obtain ⟨c, tl, hmro⟩ := F.called_set.mro
  have f1 := F.called_set.made
  have f2 := F.called_set.sub
  have f3 := F.called_set.notType
  have f4 := F.called_set.canCreate
  have f5 := F.typeCall_set_1 (.ref l)
  refine wpAny_call (codeAny_of_tree (show wpAny _ _ (callAny (.type "set") _) _ _ _ from wpAny_pure ⟨Code.quiet_builtin _ (by decide +kernel), codeAny_builtin F.entry_type_call ?_⟩))
  rw [Around.under_plain (weight_type_call_type "set" [.ref l] []) rfl]
  repeat any_goals first | assumption | wp_step
  refine codeAny_mono (code_set_led1 (.ref l) (E := E) (Q₁ := fun x s1 => x = .ref s.heap.objs.size ∧ s1 = { s with heap := s.heap.push (eSet w) }) ⟨rfl, rfl⟩) fun r s1 hr => ?_
  cases r with
  | error e => exact hr
  | ok fl =>
    cases fl with
    | ret obj =>
      obtain ⟨rfl, rfl⟩ := hr
      have at0 : (s.heap.push (eSet w)).get? s.heap.objs.size = some (eSet w) := Heap.get?_push_size _ rfl
      have ty0 : Shared.TypeIs { s with heap := s.heap.push (eSet w) } (.ref s.heap.objs.size) "set" := ⟨_, at0, rfl⟩
      have g1 := F.called_set.init.lookup
      have g2 := F.called_set.init.bind (.ref s.heap.objs.size)
      repeat any_goals first | assumption | wp_step
      refine codeAny_mono (codeAny_call_builtin (R := wants (fun r s2 => r = .none ∧ ∃ h' tk, s2 = { s with heap := h', toks := tk } ∧ SetZ w h' s.heap.objs.size (dedZ [] zs) ∧ (∀ b o, s.heap.get? b = some o → h'.get? b = some o)) E) F.called_set.init.plain F.entry_set_init (check_set_init_1 ty0 ?_)) fun r2 s2 hr2 => ?_
      · obtain ⟨ol, hol, hcl, nl, hdl⟩ := hl
        obtain ⟨c1, c2, c3, c4⟩ := ol
        simp only at hcl hdl
        subst hcl hdl
        have hol1 : (s.heap.push (eSet w)).get? l = some { cls := .type "list", dict := c2, data := .seq its nl, slots := c4 } := Heap.get?_push_of_some _ hol
        have k1 := F.sub_list_set
        have k2 := F.sub_list_frozenset
        have k3 : (Value.type "list" == Value.type "dict") = false := by decide
        have hl1 : (s.heap.push (eSet w)).IsList l its := ⟨_, hol1, rfl, nl, rfl⟩
        unfold Builtin.«set.__init__» noKeywords Builtin.Frozenset.updateFrom
        generalize hPI : pyIter = PI
        wp_walk
        subst hPI
        refine wpAny_pyIter_list hl1 (wpAny_bind (wpAny_runValue ?_))
        have ll : l < s.heap.objs.size := Heap.lt_size hol
        have hh3 : A.in1.in1.in1.handled = none := by simp [hh]
        have z1 : (s.heap.push (eSet w)).objs.size = s.heap.objs.size + 1 := Heap.size_push ..
        have ne1 : l ≠ (s.heap.push (eSet w)).objs.size := by rw [z1]; exact Nat.ne_of_lt (Nat.lt_succ_of_lt ll)
        have ne2 : s.heap.objs.size ∉ [(s.heap.push (eSet w)).objs.size, l] := by
          rw [z1]; simp only [List.mem_cons, List.not_mem_nil, or_false, not_or]; exact And.intro (Nat.ne_of_lt (Nat.lt_succ_self _)) (Nat.ne_of_gt ll)
        have vals : ∀ (i : Nat) (v : Value), its[i]? = some v → ∃ x t, zs[i]? = some x ∧ v = .str x t := fun i v hv => by
          obtain ⟨y, t, e1, e2⟩ := StrsAre.item hit i v (by rw [Array.getElem?_toList]; exact hv)
          exact ⟨y, t, e2, e1⟩
        refine setZ_update ((Walks.list hh3 _ l ne1 its).toS) s.heap.objs.size ne2 zs size hb vals (its.size - 0) 0 _ (by omega) (Nat.zero_le _) ⟨⟨_, Heap.get?_push_size _ rfl, rfl, rfl⟩, (hl1.push _)⟩ (setZ_new (Heap.get?_push_of_some _ at0)) ?_
        intro s' hm hS'
        obtain ⟨h', g', d', t', o'⟩ := s'
        have e1 : g' = s.gens := hm.gens
        have e2 : d' = s.drawn := hm.drawn
        have e3 : o' = s.os := hm.os
        subst e1 e2 e3
        refine wpAny_pure (show wpAny _ _ (ret Value.none) _ _ _ from wpAny_pure ⟨rfl, h', t', rfl, hS', fun b o e => ?_⟩)
        have b0 : b < s.heap.objs.size := Heap.lt_size e
        exact hm.heap b o (by rw [z1]; simp only [List.mem_cons, List.not_mem_nil, or_false, not_or]; exact And.intro (Nat.ne_of_lt b0) (Nat.ne_of_lt (Nat.lt_succ_of_lt b0))) (Heap.get?_push_of_some _ (Heap.get?_push_of_some _ e))
      · cases r2 with
        | error e => exact hr2
        | ok fl2 =>
          cases fl2 with
          | ret r =>
            obtain ⟨rfl, h', tk, rfl, q1, q2⟩ := hr2
            repeat any_goals first | assumption | wp_step
            exact hQ _ _ q1 q2
          | _ => exact hr2.elim
    | _ => exact hr.elim
/-- sorted(a set of texts) -/
theorem sorted_setZ {a : Addr} {L : List Str} {Q : Value → Shared → Prop} (R : SetZ w s.heap a L) (hh : A.handled = none)
    (hQ : ∀ s' p (out : Array Value) (c : Nat) (zs : List Str), (∀ b o, s.heap.get? b = some o → s'.heap.get? b = some o) → s'.gens = s.gens → s'.os = s.os → s.heap.objs.size ≤ p →
      s'.heap.get? p = some (seqObj "list" out c) → StrsAre out.toList zs → zs.Perm L → sortedS zs = true → Q (.ref p) s') :
    wpAny (model P w) A (call (.builtin "sorted") [.ref a]) Q E s := by
  obtain ⟨o, es, ep, t, ho, ⟨hex, hd⟩, ⟨g, pm, nd⟩, ⟨hb, hf⟩, hr, hl⟩ := R
  refine Calls.call_function_entry kind_sorted plain_sorted entry_sorted (args_sorted1 _) ?_
  unfold Builtin.«sorted»
  refine wpAny_bind (m := checkCount "sorted" 1 1 _) (wpAny_pure ?_)
  refine wpAny_bind (collect_set (A := A.in1) hh ⟨o, ho, hex.1, hd⟩ hf hb hr hl fun s1 vs k1 hz g1 o1 pv => ?_)
  have hI : StrsAre vs (vs.map strOf) := strsAre_map vs fun v hv => by
    obtain ⟨e, he, rfl⟩ := List.mem_map.mp (pv.mem_iff.mp hv)
    obtain ⟨x, tk, h1, _⟩ := g e he
    exact ⟨x, tk, h1⟩
  have hvl : vs.length ≤ sizeLine := by
    rw [pv.length_eq, List.length_map, Array.length_toList]
    exact fits_of_scanBound hb
  have pz : (vs.map strOf).Perm L := by
    have q := pv.map strOf
    rw [List.map_map] at q
    exact q.trans pm
  refine wpAny_bind (wpAny_newList ?_ hvl)
  have hoL : (s1.heap.push (seqObj "list" vs.toArray 0)).get? s1.heap.objs.size = some (seqObj "list" vs.toArray 0) := Heap.get?_push_size _ rfl
  refine wpAny_bind (wpAny_holding (wpAny_call_entry slot_list_sort ⟨_, hoL, rfl⟩ entry_list_sort (list_sort_treeKAny strKind_oneLt hoL hI.keysOf (fun v1 v2 rest e => keyKind_strs (by rw [← e]; exact hI)) hvl fun st' hp hs => ⟨_, rfl, ?_⟩) (args_list_sort _)))
  obtain ⟨zs, q1, q2, q3⟩ := sorted_out_str hI hp hs
  obtain ⟨c, hc⟩ := sortedHeap_at (vs := vs) (out := (arrOf st').map (·.2)) hoL
  refine wpAny_pure ⟨_, rfl, hQ _ s1.heap.objs.size _ c zs (fun b u e => ?_) g1 o1 hz hc q1 (q2.trans pz) q3⟩
  have q := k1 b u e
  have hlt := Heap.lt_size q
  refine (sortedHeap_old (Nat.ne_of_lt hlt) (by rw [size_push']; exact Nat.lt_succ_of_lt hlt)).trans ?_
  exact Heap.get?_push_of_some _ q
end
end DL
namespace DL
open PySem PySem.Spec PyProof.Rows L2
/-- the set of texts at a -/
def SetZO (w : World) (a : Addr) (L : List Str) : HO := .ext fun h => SetZ w h a L
theorem setZO_new {w : World} {P : Program} {H : Hp} {h : Heap} {a : Addr} {L : List Str} (R : SetZ w h a L) : ObjOk P w H h a (SetZO w a L) := by
  have ⟨o, _, _, _, ho, _⟩ := R
  exact ⟨R, ⟨o, ho⟩, fun h1 h2 p k => SetZ.keep p k⟩
theorem vals_of_strs : ∀ {us : List Value} {zs : List Str}, StrsAre us zs → Vals (zs.map V.str) us
  | _, _, .nil => .nil
  | _, _, .cons x t h => .cons (a := V.str x) ⟨t, rfl⟩ (vals_of_strs h)
section
variable {X : Cx} {ρ : Rho} {M : Mp} {Φ : D → Mp → Prop} {e : Expr} {pos p p2 pos2 : Pos}
def rSetZ (K : PySem.W.Frag) (w : World) : List V → Hp → VK → Prop := fun xs H Q => ∃ (l : Addr) (zs : List Str), xs = [V.ref l] ∧ SqL K H l (zs.map V.str) ∧ zs.length + 1 < scanBound ∧ ∀ p : Addr, H p = none → Q (.ref p) (upd H p (SetZO w p (dedZ [] zs)))
theorem cr_setZ (hc : X.calm = true) : CallR X (.type "set") (rSetZ X.K X.w) := by
  intro pins s σ H vs us Q I r h
  obtain ⟨l, zs, rfl, hq, hl, q⟩ := h
  rw [Vals.ref1 r]
  obtain ⟨its, rv, pl, hz⟩ := I.list hq
  refine set_of_texts zs (I.ok.hd hc) pl.isList (by simpa using strsAre_of rv) hl fun h' tk R k => ?_
  exact ⟨.ref s.heap.objs.size, _, I.laid k (Nat.le_refl _) (setZO_new R), rfl, q _ (I.hok.fresh (Nat.le_refl _))⟩
def rSortZ (w : World) : List V → Hp → VK → Prop := fun vs H Q => ∃ (a : Addr) (L : List Str), vs = [V.ref a] ∧ H a = some (SetZO w a L) ∧ L.length ≤ sizeLine ∧ ∀ (zs : List Str) (p : Addr), zs.Perm L → sortedS zs = true → H p = none → Q (.ref p) (upd H p (.lst (zs.map V.str)))
theorem cr_sortZ (hc : X.calm = true) : CallR X (.builtin "sorted") (rSortZ X.w) := by
  intro pins s σ H vs us Q I r h
  obtain ⟨a, L, rfl, ha, hl, q⟩ := h
  have R : SetZ X.w s.heap a L := (I.hok a _ ha).1
  rw [Vals.ref1 r]
  refine sorted_setZ R (I.ok.hd hc) fun s' p out c zs k g o hp hg hi pm hs => ?_
  have hlen : (zs.map V.str).length ≤ sizeLine := by rw [List.length_map, pm.length_eq]; exact hl
  have hn : H p = none := I.hok.fresh hp
  have J : Inv X pins σ (upd H p (.lst (zs.map V.str))) { s with heap := s'.heap, gens := s'.gens, drawn := s'.drawn, toks := s'.toks } :=
    I.call (ch := []) (Un.laid k hp hn) (I.hok.laid k hp ⟨hlen, out.toList, c, vals_of_strs hi, hg⟩) (by rw [g]; exact I.bare) (fun _ z => nomatch z)
  have e : s' = { s with heap := s'.heap, gens := s'.gens, drawn := s'.drawn, toks := s'.toks } := by
    cases s'; cases s; cases o; rfl
  rw [e]
  exact ⟨.ref p, _, J, rfl, q zs p pm hs hn⟩
/-- sorted(set(e)), e a list of texts -/
theorem we_sortedSetS (hm : X.mg "sorted" = none) (hm2 : X.mg "set" = none) (h : WE X ρ M e fun d M1 => ∃ zs : List Str, LstOf M1 d (zs.map D.str) ∧ zs.length < 1000 ∧ ∀ ys : List Str, ys.Perm (dedZ [] zs) → sortedS ys = true → Φ (.lst (ys.map D.str)) M1) (hc : X.calm = true := by rfl)
    (hg : Gl X "sorted" := by rfl) (hg2 : Gl X "set" := by rfl) (he : starEach [.Call (.Name "set" p2) [e] [] pos2] X.env = (false, eval (.Call (.Name "set" p2) [e] [] pos2) X.env) :: starEach [] X.env := by rfl) (hpl : (backTo pos (starEach [] X.env)).any (·.1) = false := by rfl)
    (he2 : starEach [e] X.env = (false, eval e X.env) :: starEach [] X.env := by rfl) (hpl2 : (backTo pos2 (starEach [] X.env)).any (·.1) = false := by rfl) : WE X ρ M (.Call (.Name "sorted" p) [.Call (.Name "set" p2) [e] [] pos2] [] pos) Φ := .mk fun {Z} σ H Q en w k =>
  eOf (pe_callB (cr_sortZ hc) hg hm (by decide +kernel) (pa_cons (pe_callTy (cr_setZ hc) hg2 hm2 (by decide +kernel) pa_sem (by decide) (by decide) he2 hpl2) pa_nil he) (by decide) (by decide) he hpl)
    ((wa_cons (ΦA := fun ds M2 => ∃ d, ∃ zs : List Str, ds = [d] ∧ LstOf M2 d (zs.map D.str) ∧ zs.length < 1000 ∧ ∀ ys : List Str, ys.Perm (dedZ [] zs) → sortedS ys = true → Φ (.lst (ys.map D.str)) M2) (h.imp fun d M1 ⟨zs, h1, h2, h3⟩ => wa_nil ⟨d, zs, rfl, h1, h2, h3⟩) he2).run σ H _ en w fun vs ds H1 M1 e1 w1 r1 hz => by
      obtain ⟨d, zs, rfl, hl, hn, hz⟩ := hz
      cases r1 with
      | cons r1 r2 =>
        cases r2
        obtain ⟨l, us, rfl, hq, rs⟩ := r1.asLst w1 hl
        obtain rfl := rs.strs
        have hd := dedZ_len [] zs
        rw [List.length_nil] at hd
        refine ⟨l, zs, rfl, hq, by unfold scanBound; omega, fun q hq0 => ⟨q, _, rfl, upd_same, by rw [sizeLine_eq]; omega, fun ys q2 pm hs hq2 => ?_⟩⟩
        have x1 := Ext.new (o := SetZO X.w q (dedZ [] zs)) w1 hq0
        exact (k.step (e1.trans x1)).new (w1.new hq0) hq2 (.lst upd_same ((w1.new hq0).fresh hq2) (Reps.ofStrs ys)) (hz ys pm hs))
end
end DL
namespace PL
open PySem PySem.Spec SX TL PyProof.Rows DL
def leZ (a b : Str) : Bool := !ltCps b.cps.toList a.cps.toList
theorem leZ_iff (a b : Str) : leZ a b = true ↔ a.cps.toList ≤ b.cps.toList := by
  unfold leZ
  rw [ltCps_eq, Bool.not_eq_true', decide_eq_false_iff_not]
  exact List.not_lt
theorem str_ext {a b : Str} (h : a.cps.toList = b.cps.toList) : a = b := by
  obtain ⟨⟨a⟩⟩ := a
  obtain ⟨⟨b⟩⟩ := b
  simp only at h
  subst h; rfl
theorem leZ_trans {a b c : Str} (h : leZ a b = true) (g : leZ b c = true) : leZ a c = true := (leZ_iff _ _).mpr (List.le_trans ((leZ_iff _ _).mp h) ((leZ_iff _ _).mp g))
theorem leZ_total (a b : Str) : leZ a b = true ∨ leZ b a = true := (List.le_total a.cps.toList b.cps.toList).imp (leZ_iff _ _).mpr (leZ_iff _ _).mpr
theorem leZ_anti {a b : Str} (h : leZ a b = true) (g : leZ b a = true) : a = b := str_ext (List.le_antisymm ((leZ_iff _ _).mp h) ((leZ_iff _ _).mp g))
theorem rising_pw : ∀ (p : Str) (l : List Str), risingS p l = true → (p :: l).Pairwise fun a b => leZ a b = true
  | p, [], _ => List.pairwise_cons.mpr ⟨fun _ h => (nomatch h), List.Pairwise.nil⟩
  | p, x :: r, h => by
    obtain ⟨h1, h2⟩ := Bool.and_eq_true_iff.mp (show (leZ p x && risingS x r) = true from h)
    have ih := rising_pw x r h2
    refine List.pairwise_cons.mpr ⟨fun y hy => ?_, ih⟩
    rcases List.mem_cons.mp hy with rfl | hy
    · exact h1
    · exact leZ_trans h1 (List.rel_of_pairwise_cons ih hy)
theorem sorted_pw : ∀ (l : List Str), sortedS l = true → l.Pairwise fun a b => leZ a b = true
  | [], _ => .nil
  | x :: r, h => rising_pw x r h
def insZ (x : Str) : List Str → List Str
  | [] => [x]
  | y :: r => if leZ x y = true then x :: y :: r else y :: insZ x r
theorem insZ_perm (x : Str) : ∀ l : List Str, (insZ x l).Perm (x :: l)
  | [] => .refl _
  | y :: r => by
    unfold insZ
    split
    · exact .refl _
    · exact ((insZ_perm x r).cons y).trans (.swap x y r)
theorem insZ_pw (x : Str) : ∀ l : List Str, (l.Pairwise fun a b => leZ a b = true) → (insZ x l).Pairwise fun a b => leZ a b = true
  | [], _ => List.pairwise_cons.mpr ⟨fun _ h => (nomatch h), List.Pairwise.nil⟩
  | y :: r, h => by
    obtain ⟨h1, h2⟩ := List.pairwise_cons.mp h
    unfold insZ
    split
    · rename_i q
      refine List.pairwise_cons.mpr ⟨fun z hz => ?_, h⟩
      rcases List.mem_cons.mp hz with rfl | hz
      · exact q
      · exact leZ_trans q (h1 z hz)
    · rename_i q
      refine List.pairwise_cons.mpr ⟨fun z hz => ?_, insZ_pw x r h2⟩
      rcases List.mem_cons.mp ((insZ_perm x r).mem_iff.mp hz) with rfl | hz
      · exact (leZ_total z y).resolve_left q
      · exact h1 z hz
def srtZ (l : List Str) : List Str := l.foldr insZ []
theorem srtZ_perm : ∀ l : List Str, (srtZ l).Perm l
  | [] => .refl _
  | x :: l => (insZ_perm x (srtZ l)).trans ((srtZ_perm l).cons x)
theorem srtZ_pw : ∀ l : List Str, (srtZ l).Pairwise fun a b => leZ a b = true
  | [] => .nil
  | x :: l => insZ_pw x _ (srtZ_pw l)
/-- ascending, none twice -/
def nmsOf (zs : List Str) : List Str := srtZ (dedZ [] zs)
theorem pw_perm_eq : ∀ {l m : List Str}, (l.Pairwise fun a b => leZ a b = true) → (m.Pairwise fun a b => leZ a b = true) → l.Perm m → l = m
  | [], m, _, _, p => (List.Perm.nil_eq p)
  | x :: l, [], _, _, p => absurd p.length_eq (by simp)
  | x :: l, y :: m, h, g, p => by
    obtain ⟨h1, h2⟩ := List.pairwise_cons.mp h
    obtain ⟨g1, g2⟩ := List.pairwise_cons.mp g
    have e : x = y := by
      rcases List.mem_cons.mp (p.mem_iff.mp List.mem_cons_self) with e | hx
      · exact e
      · rcases List.mem_cons.mp (p.mem_iff.mpr List.mem_cons_self) with e | hy
        · exact e.symm
        · exact leZ_anti (h1 y hy) (g1 x hx)
    subst e
    rw [pw_perm_eq h2 g2 ((List.perm_cons x).mp p)]
theorem nmsOf_uniq {zs ys : List Str} (p : ys.Perm (dedZ [] zs)) (h : sortedS ys = true) : ys = nmsOf zs := pw_perm_eq (sorted_pw ys h) (srtZ_pw _) (p.trans (srtZ_perm _).symm)
theorem nmsOf_mem (zs : List Str) (k : Str) : k ∈ nmsOf zs ↔ k ∈ zs := by
  unfold nmsOf
  rw [(srtZ_perm _).mem_iff, dedZ_mem]
  simp
theorem nmsOf_nd (zs : List Str) : (nmsOf zs).Nodup := (srtZ_perm _).nodup_iff.mpr (dedZ_nd [] zs .nil)
theorem nmsOf_len (zs : List Str) : (nmsOf zs).length ≤ zs.length := by
  unfold nmsOf
  rw [(srtZ_perm _).length_eq]
  have := dedZ_len [] zs
  simpa using this
theorem nmsOf_congr {zs ws : List Str} (h : ∀ k, k ∈ zs ↔ k ∈ ws) : nmsOf zs = nmsOf ws :=
  pw_perm_eq (srtZ_pw _) (srtZ_pw _) ((List.perm_ext_iff_of_nodup (nmsOf_nd zs) (nmsOf_nd ws)).mpr fun k => by rw [nmsOf_mem, nmsOf_mem]; exact h k)
mutual
/-- the names, as they stand in the text -/
def lv : T → List Str
  | .one => []
  | .name x => [S x]
  | .cop _ _ t => lv t
  | .row _ ts => lvL ts
def lvL : List T → List Str
  | [] => []
  | t :: ts => lv t ++ lvL ts
end
theorem lvL_flat : ∀ ts : List T, lvL ts = ts.flatMap lv
  | [] => rfl
  | t :: ts => by rw [lvL, lvL_flat ts, List.flatMap_cons]
def nmT (t : T) : List Str := nmsOf (lv t)
theorem lv_kids {t : T} (h : ∀ x, t ≠ .name x) : lv t = (kids t).flatMap fun q => lv q.2 := by
  cases t with
  | one => rw [lv]; rfl
  | name x => exact absurd rfl (h x)
  | cop s n u => rw [lv]; simp [kids]
  | row s ts => rw [lv, lvL_flat, kids, List.flatMap_map]
theorem lv_told : ∀ {t : T}, Told t → lv t = []
  | .one, _ => by rw [lv]
  | .name x, h => h.elim
  | .cop s n u, h => by rw [lv]; exact lv_told h
  | .row s ts, h => by
    rw [lv, lvL_flat]
    exact List.flatMap_eq_nil_iff.mpr fun u hu => lv_told (tolds_all.mp h u hu)
theorem nmT_told {t : T} (h : Told t) : nmT t = [] := by unfold nmT; rw [lv_told h]; rfl
theorem nmT_mem (t : T) (k : Str) : k ∈ nmT t ↔ k ∈ lv t := nmsOf_mem _ _
theorem nmT_len (t : T) : (nmT t).length ≤ (lv t).length := nmsOf_len _
/-- the names of the parts, put together -/
theorem nmT_kids {t : T} (h : ∀ x, t ≠ .name x) : nmsOf ((kids t).flatMap fun q => nmT q.2) = nmT t := by
  unfold nmT
  rw [lv_kids h]
  refine nmsOf_congr fun k => ?_
  simp only [List.mem_flatMap, nmsOf_mem]
theorem flat_len {α : Type} (f g : α → List Str) (h : ∀ x, (f x).length ≤ (g x).length) : ∀ l : List α, (l.flatMap f).length ≤ (l.flatMap g).length
  | [] => Nat.le_refl _
  | x :: l => by
    rw [List.flatMap_cons, List.flatMap_cons, List.length_append, List.length_append]
    have := h x
    have := flat_len f g h l
    omega
theorem kid_names {t : T} {q : Nat × T} (hq : q ∈ kids t) : (nmT q.2).length ≤ (nmT t).length ∧ (lv q.2).length ≤ (lv t).length := by
  have hn : ∀ x, t ≠ .name x := fun x e => by rw [e] at hq; simp [kids] at hq
  have e := lv_kids hn
  constructor
  · refine List.Nodup.length_le_of_subset (nmsOf_nd _) fun k hk => ?_
    rw [nmT_mem] at hk ⊢
    rw [e]
    exact List.mem_flatMap.mpr ⟨q, hq, hk⟩
  · rw [e]
    generalize kids t = l at hq
    induction l with
    | nil => cases hq
    | cons a r ih =>
      rw [List.flatMap_cons, List.length_append]
      rcases List.mem_cons.mp hq with rfl | hq
      · omega
      · have := ih hq
        omega
end PL
namespace W
open PySem PySem.Spec PyProof.Rows L2 DL SX PL
section
variable {P : Program} {w : World} {K : PySem.W.Frag} {mg : Str → Option Value} {base : Heap}
def cNamesN (h : Nat) : Con := fun ds M Φ => ∃ t, ds = [tS (txt t)] ∧ Good t ∧ (lv t).length < 1000 ∧ (txt t).length ≤ 1000000 ∧ ht t ≤ h ∧ Φ (.lst ((nmT t).map D.str)) M
theorem wordT_nn {t : T} (h : ∀ x, t ≠ .name x) : decide (wordT t = ("name" : Str)) = false := by
  cases t with
  | one => decide +kernel
  | name x => exact absurd rfl (h x)
  | cop s n u =>
    show decide (wrd s = ("name" : Str)) = false
    cases s <;> decide +kernel
  | row s ts =>
    show decide (wrd s = ("name" : Str)) = false
    cases s <;> decide +kernel
theorem nmT_name (x : List Nat) : nmT (.name x) = [S x] := by
  unfold nmT
  rw [lv]; rfl
abbrev nNin : List Str := ["text", "word", "groups", "found", "many", "part", "name"]
theorem ok_names_n (h : Nat) (F : Fx w K mg) (F1 : Fc P w K mg base "groups_in" [] 3 1 cGroupsIn) (F2 : ∀ j, h = j + 1 → Fc P w K mg base "names_in" [] (j + 4) 1 (cNamesN j)) :
    BodyOk P w K mg base "names_in" s_names_in nNin 1 (h + 3) (cNamesN h) := by
  intro f cdv A outer s H E hr ds M Φ hl hc
  obtain ⟨t, rfl, hg, hlv, hl, hh, hc⟩ := hc
  have nd : nNin.Nodup := by decide +kernel
  refine wss_cons (ws_asg (we_call F1 (hr.mono (by omega)) (wa_cons (we_var 0 rfl (wa_nil ⟨rfl, _, rfl, hg, hl, ?_⟩)))))
  refine wg_tup ⟨rfl, rfl, wgs_cons (wg_name 1 (wgs_cons (wg_name 2 (wgs_nil ⟨rfl, ?_⟩) nd)) nd)⟩
  refine wss_cons (ws_if (wt_eqS (we_var 1 rfl (we_gstr F.gNAME ⟨_, rfl, ?_⟩))))
  by_cases hn : ∃ x, t = .name x
  · obtain ⟨x, rfl⟩ := hn
    rw [show decide (wordT (.name x) = ("name" : Str)) = true from rfl]
    rw [nmT_name] at hc
    exact wss_cons (ws_ret (we_lst (wa_cons (we_var 0 rfl (wa_nil ⟨sz1, Lets.of (by rw [txt] at *; exact hc)⟩)))))
  have hn : ∀ x, t ≠ .name x := fun x e => hn ⟨x, e⟩
  rw [wordT_nn hn]
  have hk := kids_len hg
  have tot : ∀ i, (((kids t).take i).flatMap fun q => nmT q.2).length < 1000 := fun i => by
    have h1 := flat_len (fun q : Nat × T => nmT q.2) (fun q => lv q.2) (fun q => nmT_len q.2) (kids t)
    rw [← lv_kids hn] at h1
    have h2 : (((kids t).take i).flatMap fun q => nmT q.2).length ≤ ((kids t).flatMap fun q => nmT q.2).length := by
      conv => rhs; rw [← List.take_append_drop i (kids t)]
      rw [List.flatMap_append, List.length_append]
      omega
    omega
  refine wss_nil (wss_cons (ws_set 3 nd (we_lstM (wa_nil ⟨Nat.zero_le _, fun p hp => ?_⟩))))
  refine wss_cons (ws_for PassesOwn.never (wi_list (we_var 2 rfl ⟨_, .inl rfl, ?_⟩)))
  refine ⟨fun i ρ' M' => ∃ o1 o2, ρ' = [some (tS (txt t)), some (.str (wordT t)), some (.lst (grpD t)), some (.ob p), o1, o2, none] ∧ M' = mset M p (.lst ((((kids t).take i).flatMap fun q => nmT q.2).map D.str)), ⟨_, _, rfl, rfl⟩, ?_, ?_⟩
  · rintro i x ρ' M' hx ⟨o1, o2, rfl, rfl⟩
    rw [grpD, List.getElem?_map] at hx
    obtain ⟨q, hq, rfl⟩ := Option.map_eq_some_iff.mp hx
    have hm := List.mem_of_getElem? hq
    obtain ⟨g1, g2, g3, g4, g5⟩ := kids_ok hm hg
    obtain ⟨n1, n2⟩ := kid_names hm
    refine wg_tup ⟨rfl, rfl, wgs_cons (wg_name 4 (wgs_cons (wg_name 5 (wgs_nil ⟨rfl, ?_⟩) nd)) nd)⟩
    obtain ⟨j, rfl⟩ : ∃ j, h = j + 1 := ⟨h - 1, by omega⟩
    have e : ((kids t).take (i + 1)).flatMap (fun q => nmT q.2) = ((kids t).take i).flatMap (fun q => nmT q.2) ++ nmT q.2 := by
      rw [take_snoc hq, List.flatMap_append]; simp
    have h1000 := tot (i + 1)
    rw [e, List.length_append] at h1000
    refine wss_cons (ws_expr (we_extend (we_var 3 rfl ⟨p, _, rfl, mset_same, we_call (F2 j rfl) (hr.mono (by omega)) (wa_cons (we_var 5 rfl (wa_nil ⟨rfl, q.2, rfl, g1, by omega, by omega, by omega, _, _, mset_same, rfl, ?_, ?_⟩)))⟩)))
    · rw [List.length_map, List.length_map, sizeLine_eq]; omega
    rw [mset_mset, ← List.map_append, ← e]
    exact wss_nil ⟨_, _, rfl, rfl⟩
  · rintro ρ' M' ⟨o1, o2, rfl, rfl⟩
    have el : (grpD t).length = (kids t).length := by rw [grpD, List.length_map]
    rw [el, List.take_length]
    have h1000 := tot (kids t).length
    rw [List.take_length] at h1000
    refine wss_let (M' := M) (ρ' := [some (tS (txt t)), some (.str (wordT t)), some (.lst (grpD t)), some (.lst (((kids t).flatMap fun q => nmT q.2).map D.str)), none, none, none]) (les_new hp) ?_ ?_
    · exact .val (.same _) (.val (.same _) (.val (.same _) (.val (.lst mset_same hp) (.drop (.drop (.drop .nil))))))
    refine wss_cons (ws_ret (we_sortedSetS (F.bn _ (by decide +kernel)) (F.bn _ (by decide +kernel)) (we_lc nd (blkOk_by (N := nNin) (sc := defScope s_names_in) (own := [("name", 6)]) (by decide +kernel)) (fun _ _ _ _ _ => pg_name (i := 6) nd rfl (Or.inl rfl)) (gt_name (by decide)) (fun _ _ _ _ _ => pts_nil) tk_nil
      (wi_list (we_var 3 rfl ⟨_, .inl rfl, ?_⟩)))))
    refine ⟨by rw [List.length_map, sizeLine_eq]; omega, fun i acc M' => M' = M ∧ acc = (((kids t).flatMap fun q => nmT q.2).take i).map D.str, ⟨rfl, rfl⟩, ?_, ?_⟩
    · rintro i x acc M' hx ⟨rfl, rfl⟩
      rw [List.getElem?_map] at hx
      obtain ⟨z, hz, rfl⟩ := Option.map_eq_some_iff.mp hx
      intro s1 H1 C' cl fp
      refine we_strS (F.bn _ (by decide +kernel)) (we_var 6 rfl ⟨z, rfl, rfl, ?_⟩)
      rw [take_snoc hz, List.map_append]; rfl
    · rintro acc M' ⟨rfl, rfl⟩
      refine ⟨(kids t).flatMap fun q => nmT q.2, by rw [List.length_map, List.take_length]; rfl, by omega, fun ys hy hs => Lets.of ?_⟩
      rw [nmsOf_uniq hy hs, nmT_kids hn]
      exact hc
end
mutual
/-- the plan as an instance of the class at C, with its names -/
def planN (C : Addr) : T → D
  | .one => .ins C (six (tS (txt .one)) (.tup []) (.str (wordT .one)) (.lst []) (.bl false) (.int (ppl .one : Nat)))
  | .name x => .ins C (six (tS (txt (.name x))) (.tup ((nmT (.name x)).map D.str)) (.str (wordT (.name x))) (.lst []) (.bl false) (.int (ppl (.name x) : Nat)))
  | .cop s n t => .ins C (six (tS (txt (.cop s n t))) (.tup ((nmT (.cop s n t)).map D.str)) (.str (wordT (.cop s n t))) (.lst [.tup [.int (n : Nat), planN C t]]) (.bl true) (.int (ppl (.cop s n t) : Nat)))
  | .row s ts => .ins C (six (tS (txt (.row s ts))) (.tup ((nmT (.row s ts)).map D.str)) (.str (wordT (.row s ts))) (.lst (plansN C ts)) (.bl false) (.int (ppl (.row s ts) : Nat)))
def plansN (C : Addr) : List T → List D
  | [] => []
  | t :: ts => .tup [.int ((1 : Nat) : Int), planN C t] :: plansN C ts
end
theorem plansN_map (C : Addr) : ∀ ts : List T, plansN C ts = ts.map fun t => .tup [.int ((1 : Nat) : Int), planN C t]
  | [] => by rw [plansN]; rfl
  | t :: ts => by rw [plansN, plansN_map C ts, List.map_cons]
def subsN (C : Addr) (t : T) : List D := (kids t).map fun q => .tup [.int (q.1 : Nat), planN C q.2]
def fldsN (C : Addr) (t : T) : List (Str × D) := six (tS (txt t)) (.tup ((nmT t).map D.str)) (.str (wordT t)) (.lst (subsN C t)) (.bl (isCop t)) (.int (ppl t : Nat))
theorem planN_ins (C : Addr) (t : T) : planN C t = .ins C (fldsN C t) := by
  cases t with
  | one =>
    rw [planN]; unfold fldsN
    rw [nmT_told (t := .one) trivial]; rfl
  | name x => rw [planN]; rfl
  | cop s n t => rw [planN]; rfl
  | row s ts =>
    rw [planN, plansN_map]
    unfold fldsN subsN kids
    rw [List.map_map]; rfl
mutual
theorem planN_told (C : Addr) : ∀ {t : T}, Told t → planN C t = planD C t
  | .one, _ => by rw [planN, planD]
  | .name x, h => h.elim
  | .cop s n t, h => by
    have h' : Told t := h
    rw [planN, planD, planN_told C h', nmT_told (t := .cop s n t) h]; rfl
  | .row s ts, h => by
    have h' : Tolds ts := h
    rw [planN, planD, plansN_told C h', nmT_told (t := .row s ts) h]; rfl
theorem plansN_told (C : Addr) : ∀ {ts : List T}, Tolds ts → plansN C ts = plansD C ts
  | [], _ => by rw [plansN, plansD]
  | t :: ts, h => by rw [plansN, plansD, planN_told C h.1, plansN_told C h.2]
end
end W
namespace W
open PySem PySem.Spec PyProof.Rows L2 DL SX PL
section
variable {P : Program} {w : World} {K : PySem.W.Frag} {mg : Str → Option Value} {base : Heap} {C : Addr}
def cInitN (C : Addr) (h : Nat) : Con := fun ds M Φ => ∃ a t, ds = [.ob a, tS (txt t)] ∧ Good t ∧ (lv t).length < 1000 ∧ (nmT t).length ≤ 3 ∧ (txt t).length ≤ 100000 ∧ ht t ≤ h ∧ ht t ≤ 60 ∧ M a = some (.ins C []) ∧ Φ .non (mset M a (.ins C (fldsN C t)))
/-- Plan(e) -/
theorem we_plan_n {X : Cx} {ρ : Rho} {M : Mp} {Φ : D → Mp → Prop} {e : Expr} {p pos : Pos} {h k : Nat} (F : Kc X.prog X.w X.K X.mg X.base "Plan" C [] k 2 (cInitN C h)) (hr : Room (k + 1) X.A)
    (q : WE X ρ M e fun d M1 => ∃ t, d = tS (txt t) ∧ Good t ∧ (lv t).length < 1000 ∧ (nmT t).length ≤ 3 ∧ (txt t).length ≤ 100000 ∧ ht t ≤ h ∧ ht t ≤ 60 ∧ Φ (planN C t) M1) (hg : Gl X "Plan" := by rfl)
    (he : starEach [e] X.env = (false, eval e X.env) :: starEach [] X.env := by rfl) (hpl : (backTo pos (starEach [] X.env)).any (·.1) = false := by rfl) : WE X ρ M (.Call (.Name "Plan" p) [e] [] pos) Φ :=
  we_make F hr (wa_cons (q.imp fun d M1 ⟨t, e1, h1, h2, h3, h4, h5, h6, h7⟩ => wa_nil fun a ha => ⟨rfl, a, t, by rw [e1]; rfl, h1, h2, h3, h4, h5, h6, mset_same, rfl, by
    rw [mset_mset]
    exact ⟨_, M1, les_new ha, .ins mset_same ha, by rw [← planN_ins]; exact h7⟩⟩) he) hg (he := he) (hpl := hpl)
theorem ok_init_n (h : Nat) (F : Fx w K mg) (X : Px K mg C) (F1 : Fc P w K mg base "is_plan_text" [] (h + 4) 2 (cPlanText h)) (F2 : Fc P w K mg base "names_in" [] (h + 4) 1 (cNamesN h)) (F3 : Fc P w K mg base "groups_in" [] 3 1 cGroupsIn)
    (F4 : ∀ j, h = j + 1 → Kc P w K mg base "Plan" C [] (2 * j + 6) 2 (cInitN C j)) : BodyOk P w K mg base "Plan.__init__" s_Plan___init__ nInit 2 (2 * h + 5) (cInitN C h) := by
  intro f cdv A outer s H E hr ds M Φ hl hc
  obtain ⟨a, t, rfl, hg, hlv, hn3, hl, hh, h60, hM, hc⟩ := hc
  have nd : nInit.Nodup := by decide +kernel
  have hk := kids_len hg
  obtain ⟨ps, hcmp⟩ := grp_cmp hg
  -- nothing is wrong
  refine wss_cons (ws_if (wt_ww (ww_or (wt_not (wt_val (we_isi (F.bn _ (by decide +kernel)) (we_var 1 rfl (we_bty (F.bn _ (by decide +kernel)) rfl ⟨_, _, true, rfl, rfl, (by intro C h; cases h), rfl, _, rfl, ?_⟩))))))))
  refine ww_or (wt_not (wt_val (we_call F1 (hr.mono (by omega)) (wa_cons (we_var 1 rfl (wa_cons (we_int (wa_nil ⟨rfl, t, 0, rfl, hg, by omega, hh, by omega, _, rfl, ?_⟩))))))))
  refine ww_or1 (wt_gtI (we_len (F.bn _ (by decide +kernel)) (we_call F2 (hr.mono (by omega)) (wa_cons (we_var 1 rfl (wa_nil ⟨rfl, t, rfl, hg, hlv, by omega, hh, _, lenL, we_gint F.gMOST_NAMES ⟨_, _, rfl, rfl, ?_⟩⟩))))))
  rw [decide_eq_false (show ¬ (3 : Int) < ((((nmT t).map D.str).length : Nat) : Int) by rw [List.length_map]; omega)]
  refine wss_nil ?_
  -- the fields
  refine wss_cons (ws_fld (C := C) (we_var 1 rfl (we_var 0 rfl ⟨a, _, rfl, hM, X.cl, X.na _ (by decide +kernel), by decide, ?_⟩)))
  rw [put1]
  refine wss_cons (ws_fld (C := C) (we_tupleOf (F.bn _ (by decide +kernel)) (we_call F2 (hr.mono (by omega)) (wa_cons (we_var 1 rfl (wa_nil ⟨rfl, t, rfl, hg, hlv, by omega, hh, _, .inl rfl, we_var 0 rfl ⟨a, _, rfl, mset_same, X.cl, X.na _ (by decide +kernel), sl1, ?_⟩⟩))))))
  rw [mset_mset, put2]
  refine wss_cons (ws_asg (we_call F3 (hr.mono (by omega)) (wa_cons (we_var 1 rfl (wa_nil ⟨rfl, t, rfl, hg, by omega, ?_⟩)))))
  refine wg_tup ⟨rfl, rfl, wgs_cons (wg_fld (C := C) (we_var 0 rfl ⟨a, _, rfl, mset_same, X.cl, X.na _ (by decide +kernel), sl2, wgs_cons (wg_name 2 (wgs_nil ⟨rfl, ?_⟩) nd)⟩))⟩
  rw [mset_mset, put3]
  refine wss_cons (ws_fld (C := C) (we_lc nd (blkOk_by (N := nInit) (sc := defScope s_Plan___init__) (own := [("many", 3), ("part", 4)]) (by decide +kernel)) (fun _ _ _ _ _ => pg_tup rfl (pgs_cons (pg_name (i := 3) nd rfl (Or.inl rfl)) (pgs_cons (pg_name (i := 4) nd rfl (Or.inl rfl)) pgs_nil)) rfl rfl) (gt_two (by decide) (by decide)) (fun _ _ _ _ _ => pts_nil) tk_nil
    (wi_list (we_var 2 rfl ⟨_, .inl rfl, ?_⟩))))
  refine ⟨by rw [grpD, List.length_map, sizeLine_eq]; omega, fun i acc M' => M' = mset M a (.ins C (f3 (tS (txt t)) (.tup ((nmT t).map D.str)) (.str (wordT t)))) ∧ acc = ((kids t).take i).map fun q => .tup [.int (q.1 : Nat), planN C q.2], ⟨rfl, rfl⟩, ?_, ?_⟩
  · rintro i x acc M' hx ⟨rfl, rfl⟩
    rw [grpD, List.getElem?_map] at hx
    obtain ⟨q, hq, rfl⟩ := Option.map_eq_some_iff.mp hx
    have hm := List.mem_of_getElem? hq
    obtain ⟨g1, g2, g3, g4, g5⟩ := kids_ok hm hg
    obtain ⟨n1, n2⟩ := kid_names hm
    refine ⟨_, _, rfl, ?_⟩
    intro s1 H1 C' cl fp
    obtain ⟨j, rfl⟩ : ∃ j, h = j + 1 := ⟨h - 1, by omega⟩
    refine we_tup (wa_cons (we_var 3 rfl (wa_cons (we_plan_n (F4 j rfl) (hr.mono (by omega)) (we_var 4 rfl ⟨q.2, rfl, g1, by omega, by omega, by omega, by omega, by omega, wa_nil ⟨sz2, rfl, ?_⟩⟩)))))
    rw [take_snoc hq, List.map_append]; rfl
  rintro acc M' ⟨rfl, rfl⟩
  refine we_var 0 rfl ⟨a, _, rfl, mset_same, X.cl, X.na _ (by decide +kernel), sl3, ?_⟩
  have el : (grpD t).length = (kids t).length := by rw [grpD, List.length_map]
  rw [mset_mset, put4, el, List.take_length]
  obtain ⟨c, r, ec, hcop⟩ := cop_in hg
  refine wss_cons (ws_fld (C := C) (we_inS (we_slice (we_var 1 rfl (we_int ⟨1, rfl, _, .inr (.inr ⟨_, rfl, by rw [S_len, sizeLine_eq]; omega, rfl⟩), we_txts ⟨_, _, rfl, .inl rfl, we_var 0 rfl ⟨a, _, rfl, mset_same, X.cl, X.na _ (by decide +kernel), sl4, ?_⟩⟩⟩)))))
  rw [mset_mset, put5, show cutS (S (txt t)) none (some 1) = S [c] by rw [ec, cut_1], hcop]
  -- people
  have fin : ∀ n : Int, n = (ppl t : Nat) → Φ .non (mset (mset M a (.ins C (f5 (tS (txt t)) (.tup ((nmT t).map D.str)) (.str (wordT t)) (.lst (subsN C t)) (.bl (isCop t))))) a (.ins C (putD "own_people" (.int n) (f5 (tS (txt t)) (.tup ((nmT t).map D.str)) (.str (wordT t)) (.lst (subsN C t)) (.bl (isCop t)))))) := fun n hn => by
    rw [mset_mset, put6, hn]
    exact hc
  refine wss_cons (ws_fld (C := C) (we_if (wt_neNil hr.units (we_var 2 rfl ⟨_, ps, 1, rfl, hcmp, by decide, ?_⟩))))
  by_cases hk0 : kids t = []
  · 
    have e1 : (grpD t).isEmpty = true := by unfold grpD; rw [hk0]; rfl
    rw [e1]
    refine we_int (we_var 0 rfl ⟨a, _, rfl, mset_same, X.cl, X.na _ (by decide +kernel), sl5, ?_⟩)
    exact wss_nil (fin 1 (by rw [ppl_none hk0 hg]; rfl))
  · have e1 : (grpD t).isEmpty = false := by
      unfold grpD
      cases hh2 : kids t with
      | nil => exact absurd hh2 hk0
      | cons q qs => rfl
    rw [e1]
    refine we_sum (F.bn _ (by decide +kernel)) (we_lc nd (blkOk_by (N := nInit) (sc := defScope s_Plan___init__) (own := [("many", 3), ("part", 4)]) (by decide +kernel)) (fun _ _ _ _ _ => pg_tup rfl (pgs_cons (pg_name (i := 3) nd rfl (Or.inl rfl)) (pgs_cons (pg_name (i := 4) nd rfl (Or.inl rfl)) pgs_nil)) rfl rfl) (gt_two (by decide) (by decide)) (fun _ _ _ _ _ => pts_nil) tk_nil
      (wi_list (we_fld (C := C) (we_var 0 rfl ⟨_, _, mset_same, X.cl, X.na _ (by decide +kernel), lk5_groups, _, .inl rfl, ?_⟩))))
    refine ⟨by rw [List.length_map, sizeLine_eq]; omega, fun i acc M' => M' = mset M a (.ins C (f5 (tS (txt t)) (.tup ((nmT t).map D.str)) (.str (wordT t)) (.lst (subsN C t)) (.bl (isCop t)))) ∧ acc = (((kids t).take i).map fun q => ((q.1 * ppl q.2 : Nat) : Int)).map D.int, ⟨rfl, rfl⟩, ?_, ?_⟩
    · rintro i x acc M' hx ⟨rfl, rfl⟩
      rw [List.getElem?_map] at hx
      obtain ⟨q, hq, rfl⟩ := Option.map_eq_some_iff.mp hx
      have hm := List.mem_of_getElem? hq
      obtain ⟨g1, g2, g3, g4, g5⟩ := kids_ok hm hg
      refine ⟨_, _, rfl, ?_⟩
      intro s1 H1 C' cl fp
      refine we_mulI (we_var 3 rfl (we_fld (C := C) (we_var 4 rfl ⟨_, _, by rw [planN_ins]; exact ⟨rfl, rfl⟩, X.cl, X.na _ (by decide +kernel), lk_people, _, _, rfl, rfl, mul_ok g5 (ppl_lt g1) (by omega), rfl, ?_⟩)))
      rw [take_snoc hq, List.map_append, List.map_append, ← Int.natCast_mul]; rfl
    · rintro acc M' ⟨rfl, rfl⟩
      refine ⟨_, rfl, we_var 0 rfl ⟨a, _, rfl, mset_same, X.cl, X.na _ (by decide +kernel), sl5, ?_⟩⟩
      rw [List.length_map, List.take_length]
      refine wss_nil (fin _ ?_)
      rw [ppl_kids hk0, sum_cast]
end
end W
namespace PL
open PySem SX TL
def Ok (t : T) : Prop := Good t ∧ Told t ∧ (txt t).length ≤ 100000
def cnt (t : T) : Nat := ((kids t).map (·.1)).sum
/-- the part with the number i (of copies: any) -/
def piece : T → Nat → Option T
  | .cop _ _ t, _ => some t
  | .row _ ts, i => ts[i]?
  | _, _ => none
theorem cnt_cop (s : Bool) (n : Nat) (t : T) : cnt (.cop s n t) = n := by simp [cnt, kids]
theorem ones_sum : ∀ ts : List T, ((ts.map fun t => (1, t)).map (fun q : Nat × T => q.1)).sum = ts.length
  | [] => rfl
  | t :: ts => by rw [List.map_cons, List.map_cons, List.sum_cons, ones_sum ts, List.length_cons]; show 1 + _ = _; omega
theorem cnt_row (s : Bool) (ts : List T) : cnt (.row s ts) = ts.length := by
  unfold cnt kids; exact ones_sum ts
/-- whether the parts know one another -/
def intr : T → Bool
  | .cop s _ _ => s
  | .row s _ => s
  | _ => false
/-- whom do_know tells -/
def knowsB : T → List Nat → List Nat → Bool
  | t, i :: p, j :: q => if i = j then (match piece t i with | some u => knowsB u p q | none => false) else intr t
  | _, _, _ => false
def flip (c : Nat) : Nat := if c = 43 then 42 else if c = 42 then 43 else if c = 91 then 123 else if c = 123 then 91 else if c = 93 then 125 else if c = 125 then 93 else c
mutual
def mir : T → T
  | .one => .one
  | .name x => .name x
  | .cop s n t => .cop (!s) n (mir t)
  | .row s ts => .row (!s) (mirs ts)
def mirs : List T → List T
  | [] => []
  | t :: ts => mir t :: mirs ts
end
theorem mirs_map : ∀ ts : List T, mirs ts = ts.map mir
  | [] => rfl
  | t :: ts => by rw [mirs, mirs_map ts, List.map_cons]
theorem flip_id {c : Nat} (h : c ≠ 43 ∧ c ≠ 42 ∧ c ≠ 91 ∧ c ≠ 123 ∧ c ≠ 93 ∧ c ≠ 125) : flip c = c := by
  unfold flip
  obtain ⟨h1, h2, h3, h4, h5, h6⟩ := h
  rw [if_neg h1, if_neg h2, if_neg h3, if_neg h4, if_neg h5, if_neg h6]
theorem map_flip_id : ∀ {l : List Nat}, (∀ c ∈ l, c ≠ 43 ∧ c ≠ 42 ∧ c ≠ 91 ∧ c ≠ 123 ∧ c ≠ 93 ∧ c ≠ 125) → l.map flip = l
  | [], _ => rfl
  | c :: l, h => by rw [List.map_cons, flip_id (h c List.mem_cons_self), map_flip_id fun x hx => h x (List.mem_cons_of_mem _ hx)]
theorem flip_sep (s : Bool) : (sep s).map flip = sep (!s) := by cases s <;> rfl
theorem map_join (f : Nat → Nat) {S S' : List Nat} (hs : S.map f = S') : ∀ ps : List (List Nat), (joinL S ps).map f = joinL S' (ps.map (·.map f))
  | [] => rfl
  | [p] => by rw [joinL]; rfl
  | p :: q :: r => by
    rw [joinL, List.map_append, List.map_append, hs, map_join f hs (q :: r)]; rfl
mutual
theorem txt_mir : ∀ {t : T}, Good t → txt (mir t) = (txt t).map flip
  | .one, _ => by rw [mir, txt]; rfl
  | .name x, h => by
    rw [mir, txt]
    refine (map_flip_id fun c hc => ?_).symm
    have q := h.2.2 c hc
    simp [letter] at q
    omega
  | .cop s n t, h => by
    rw [mir, txt, txt, txt_mir h.2.2]
    have e : (numL n).map flip = numL n := map_flip_id fun c hc => by have := numL_digits n c hc; omega
    simp only [List.map_cons, List.map_append, e]
    cases s <;> rfl
  | .row s ts, h => by
    rw [mir, txt, txt, txts_mir h.2]
    simp only [List.map_cons, List.map_append, map_join flip (flip_sep s)]
    rfl
theorem txts_mir : ∀ {ts : List T}, Goods ts → txts (mirs ts) = (txts ts).map (·.map flip)
  | [], _ => by rw [mirs, txts]; rfl
  | t :: ts, h => by rw [mirs, txts, txts, txt_mir h.1, txts_mir h.2, List.map_cons]
end
mutual
theorem mir_good : ∀ {t : T}, Good t → Good (mir t)
  | .one, _ => by rw [mir]; trivial
  | .name x, h => by rw [mir]; exact h
  | .cop s n t, h => by rw [mir]; exact ⟨h.1, h.2.1, mir_good h.2.2⟩
  | .row s ts, h => by
    rw [mir]
    refine ⟨by rw [mirs_map, List.length_map]; exact h.1, mirs_good h.2⟩
theorem mirs_good : ∀ {ts : List T}, Goods ts → Goods (mirs ts)
  | [], _ => by rw [mirs]; trivial
  | t :: ts, h => by rw [mirs]; exact ⟨mir_good h.1, mirs_good h.2⟩
end
mutual
theorem mir_told : ∀ {t : T}, Told t → Told (mir t)
  | .one, _ => by rw [mir]; trivial
  | .name x, h => h.elim
  | .cop s n t, h => by rw [mir]; exact mir_told (t := t) h
  | .row s ts, h => by rw [mir]; exact mirs_told (ts := ts) h
theorem mirs_told : ∀ {ts : List T}, Tolds ts → Tolds (mirs ts)
  | [], _ => by rw [mirs]; trivial
  | t :: ts, h => by rw [mirs]; exact ⟨mir_told h.1, mirs_told h.2⟩
end
mutual
theorem mir_ht : ∀ t : T, ht (mir t) = ht t
  | .one => by rw [mir]
  | .name x => by rw [mir]
  | .cop s n t => by rw [mir, ht, ht, mir_ht t]
  | .row s ts => by rw [mir, ht, ht, mirs_ht ts]
theorem mirs_ht : ∀ ts : List T, hts (mirs ts) = hts ts
  | [] => by rw [mirs]
  | t :: ts => by rw [mirs, hts, hts, mir_ht t, mirs_ht ts]
end
theorem mir_Ok {t : T} (h : Ok t) : Ok (mir t) := ⟨mir_good h.1, mir_told h.2.1, by rw [txt_mir h.1, List.length_map]; exact h.2.2⟩
end PL
namespace W
open PySem PySem.Spec PyProof.Rows L2 DL SX PL
section
variable {P : Program} {w : World} {K : PySem.W.Frag} {mg : Str → Option Value} {base : Heap} {C : Addr}
/-- what a question of the plan tells -/
def cGet (C : Addr) (g : T → D) : Con := fun ds M Φ => ∃ t, ds = [planD C t] ∧ Ok t ∧ Φ (g t) M
theorem insP {M : Mp} {t : T} (h : Told t) : InsOf M C (planD C t) (fldsD C t) := by rw [planD_told h]; exact ⟨rfl, rfl⟩
theorem ok_text (X : Px K mg C) : BodyOk P w K mg base "Plan.text" s_Plan_text ["self"] 1 0 (cGet C fun t => tS (txt t)) := by
  intro f cdv A outer s H E hr ds M Φ hl hc
  obtain ⟨t, rfl, ok, hc⟩ := hc
  exact wss_cons (ws_ret (we_fld (C := C) (we_var 0 rfl ⟨_, _, insP ok.2.1, X.cl, X.na _ (by decide +kernel), lk_text, Lets.of hc⟩)))
theorem ok_names (X : Px K mg C) : BodyOk P w K mg base "Plan.names" s_Plan_names ["self"] 1 0 (cGet C fun t => .tup []) := by
  intro f cdv A outer s H E hr ds M Φ hl hc
  obtain ⟨t, rfl, ok, hc⟩ := hc
  exact wss_cons (ws_ret (we_fld (C := C) (we_var 0 rfl ⟨_, _, insP ok.2.1, X.cl, X.na _ (by decide +kernel), lk_names, Lets.of hc⟩)))
theorem ok_word (X : Px K mg C) : BodyOk P w K mg base "Plan.word" s_Plan_word ["self"] 1 0 (cGet C fun t => .str (wordT t)) := by
  intro f cdv A outer s H E hr ds M Φ hl hc
  obtain ⟨t, rfl, ok, hc⟩ := hc
  exact wss_cons (ws_ret (we_fld (C := C) (we_var 0 rfl ⟨_, _, insP ok.2.1, X.cl, X.na _ (by decide +kernel), lk_word, Lets.of hc⟩)))
def cTold (C : Addr) : Con := fun ds M Φ => ∃ t, ds = [planD C t] ∧ Ok t ∧ Φ .non M
theorem ok_check_told (F1 : Pc P w K mg base C "names" 1 (cGet C fun t => .tup [])) : BodyOk P w K mg base "check_told" s_check_told ["plan"] 1 2 (cTold C) := by
  intro f cdv A outer s H E hr ds M Φ hl hc
  obtain ⟨t, rfl, ok, hc⟩ := hc
  exact wss_cons (ws_if (wt_neNilT hr.units (we_prop F1 (hr.mono (by decide)) (we_var 0 rfl ⟨_, insP ok.2.1, t, rfl, ok, [], [], 0, rfl, cmps_nil, by decide, wss_nil (wss_nil hc)⟩))))
/-- one sign turned -/
theorem turned (c : Nat) : (List.lookup (S [c]) turnedD).getD (.str (S [c])) = .str (S [PL.flip c]) := by
  have e : turnedD = [(S [43], tS [42]), (S [42], tS [43]), (S [91], tS [123]), (S [123], tS [91]), (S [93], tS [125]), (S [125], tS [93])] := by
    unfold turnedD
    rw [show ("+" : Str) = S [43] by decide +kernel, show ("*" : Str) = S [42] by decide +kernel, show ("[" : Str) = S [91] by decide +kernel, show ("{" : Str) = S [123] by decide +kernel, show ("]" : Str) = S [93] by decide +kernel, show ("}" : Str) = S [125] by decide +kernel]
  have b : ∀ d, (S [c] == S [d]) = decide (c = d) := fun d => by
    rw [S_beq_eq]
    exact decide_eq_decide.mpr ⟨fun h => by injection h, fun h => by rw [h]⟩
  rw [e]
  unfold PL.flip
  simp only [List.lookup_cons, b, List.lookup_nil]
  by_cases h1 : c = 43
  · subst h1; rfl
  by_cases h2 : c = 42
  · subst h2; rfl
  by_cases h3 : c = 91
  · subst h3; rfl
  by_cases h4 : c = 123
  · subst h4; rfl
  by_cases h5 : c = 93
  · subst h5; rfl
  by_cases h6 : c = 125
  · subst h6; rfl
  rw [if_neg h1, if_neg h2, if_neg h3, if_neg h4, if_neg h5, if_neg h6]
  simp [h1, h2, h3, h4, h5, h6]
theorem join_signs : ∀ l : List Nat, TL.joinL [] (l.map fun c => [c]) = l
  | [] => rfl
  | [c] => rfl
  | c :: d :: r => by
    have ih := join_signs (d :: r)
    simp only [List.map_cons] at ih ⊢
    rw [TL.joinL, ih]; rfl
theorem sum_ones : ∀ l : List Nat, (l.map fun _ => 1).sum = l.length
  | [] => rfl
  | c :: l => by rw [List.map_cons, List.sum_cons, sum_ones l, List.length_cons]; omega
end
end W
namespace PL
open PySem SX TL
mutual
def persL : T → List (List Nat)
  | .one => [[]]
  | .name _ => []
  | .cop _ n t => (List.range n).flatMap fun i => (persL t).map (i :: ·)
  | .row _ ts => persR 0 ts
def persR : Nat → List T → List (List Nat)
  | _, [] => []
  | k, t :: ts => (persL t).map (k :: ·) ++ persR (k + 1) ts
end
theorem mem_le_sum : ∀ {l : List Nat} {n : Nat}, n ∈ l → n ≤ l.sum
  | x :: l, n, h => by
    rw [List.sum_cons]
    rcases List.mem_cons.mp h with rfl | h
    · omega
    · have := mem_le_sum h; omega
mutual
theorem ppl_pos : ∀ {t : T}, Good t → 1 ≤ ppl t
  | .one, _ => by rw [ppl]; omega
  | .name x, _ => by rw [ppl]; omega
  | .cop s n t, h => by
    rw [ppl]
    have h1 := ppl_pos h.2.2
    have h2 := h.1
    exact Nat.mul_pos (by omega) h1
  | .row s ts, h => by
    rw [ppl]
    have := ppls_pos h.2
    have := h.1
    omega
theorem ppls_pos : ∀ {ts : List T}, Goods ts → ts.length ≤ ppls ts
  | [], _ => Nat.zero_le _
  | t :: ts, h => by
    rw [ppls, List.length_cons]
    have h1 := ppl_pos h.1
    have h2 := ppls_pos h.2
    omega
end
theorem ht_one {t : T} (h : Good t) (h1 : ppl t = 1) : ht t = 0 := by
  cases t with
  | one => rw [ht]
  | name x => rw [ht]
  | cop s n t =>
    rw [ppl] at h1
    have h2 := ppl_pos h.2.2
    have h3 := Nat.mul_le_mul h.1 h2
    omega
  | row s ts =>
    rw [ppl] at h1
    have h2 := ppls_pos h.2
    have h3 := h.1
    omega
end PL
namespace PL
open PySem SX TL
theorem opn_inj {s s' : Bool} (h : opn s = opn s') : s = s' := by cases s <;> cases s' <;> first | rfl | cases h
abbrev CL := List (Nat × List Nat)
def tot (L : CL) (k : List Nat) : Nat := ((L.filter fun q => decide (q.2 = k)).map (·.1)).sum
def ky (L : CL) : List (List Nat) := (nmsOf (L.map fun q => S q.2)).map fun z => z.cps.toList
def pt (s : Bool) (n : Nat) (k : List Nat) : List Nat := if n = 1 then k else opn s :: (numL n ++ 32 :: (k ++ [cls s]))
def jn (s : Bool) (L : CL) : List Nat := match (ky L).map fun k => pt s (tot L k) k with
  | [x] => x
  | xs => 40 :: (joinL (sep s) xs ++ [41])
def scl (n : Nat) (L : CL) : CL := L.map fun q => (n * q.1, q.2)
mutual
def nf : T → List Nat × (Bool → CL)
  | .one => ([49], fun _ => [(1, [49])])
  | .name x => (x, fun _ => [(1, x)])
  | .cop s n u => (jn s (scl n ((nf u).2 s)), fun b => if b = s then scl n ((nf u).2 s) else [(1, jn s (scl n ((nf u).2 s)))])
  | .row s ts => (jn s (nfs s ts), fun b => if b = s then nfs s ts else [(1, jn s (nfs s ts))])
def nfs (s : Bool) : List T → CL
  | [] => []
  | t :: ts => (nf t).2 s ++ nfs s ts
end
/-- the text of the normal form; the pieces for a word, with the texts of their normal forms -/
def nrm (t : T) : List Nat := (nf t).1
def wd : T → Option Bool
  | .cop s _ _ => some s
  | .row s _ => some s
  | _ => none
end PL
namespace PL
open PySem SX TL
/-- how many p knows -/
def mf : T → List Nat → Nat
  | t, i :: p => match piece t i with
    | some u => (if intr t = true then ppl t - ppl u else 0) + mf u p
    | none => 0
  | _, [] => 0
/-- how many know both -/
def cm (t : T) (p q : List Nat) : Nat := (persL t).countP fun x => knowsB t p x && knowsB t q x
end PL
namespace PL
open PySem SX TL
mutual
/-- the fewest rows -/
def rws : T → Nat
  | .one => 1
  | .name _ => 1
  | .cop s n t => if s = true then max 1 (rws t + ppl t - n * ppl t) else n * rws t
  | .row s ts => if s = true then max 1 (exs ts - ppls ts) else rwss ts
def rwss : List T → Nat
  | [] => 0
  | t :: ts => rws t + rwss ts
def exs : List T → Nat
  | [] => 0
  | t :: ts => max (rws t + ppl t) (exs ts)
end
theorem piece_le' {t u : T} {i : Nat} (h : piece t i = some u) (hg : Good t) : ppl u ≤ ppl t ∧ Good u := by
  cases t with
  | one => cases h
  | name x => cases h
  | cop s n v =>
    obtain rfl : v = u := Option.some.inj h
    rw [show ppl (.cop s n v) = n * ppl v by rw [ppl]]
    exact ⟨Nat.le_mul_of_pos_left _ (by have := hg.1; omega), hg.2.2⟩
  | row s ts =>
    have hm := List.mem_of_getElem? (show ts[i]? = some u from h)
    refine ⟨?_, goods_all.mp hg.2 u hm⟩
    rw [ppl, ppls_sum]
    exact mem_le_sum (List.mem_map_of_mem hm)
mutual
theorem rws_le : ∀ {t : T}, Good t → rws t ≤ ppl t
  | .one, _ => by rw [rws, ppl]; exact Nat.le_refl _
  | .name x, _ => by rw [rws, ppl]; exact Nat.le_refl _
  | .cop s n t, h => by
    have h1 := rws_le h.2.2
    have h2 := ppl_pos h.2.2
    have h3 : 1 * ppl t ≤ n * ppl t := Nat.mul_le_mul_right _ (by have := h.1; omega)
    rw [rws, ppl]
    split
    · refine Nat.max_le.mpr ⟨by omega, by omega⟩
    · exact Nat.mul_le_mul_left _ h1
  | .row s ts, h => by
    have h1 := rwss_le h.2
    have h2 := exs_le h.2
    have h3 := ppls_pos h.2
    have h4 := h.1
    rw [rws, ppl]
    split
    · refine Nat.max_le.mpr ⟨by omega, by omega⟩
    · exact h1
theorem rwss_le : ∀ {ts : List T}, Goods ts → rwss ts ≤ ppls ts
  | [], _ => by rw [rwss]; exact Nat.zero_le _
  | t :: ts, h => by
    have h1 := rws_le h.1
    have h2 := rwss_le h.2
    rw [rwss, ppls]; omega
theorem exs_le : ∀ {ts : List T}, Goods ts → exs ts ≤ 2 * ppls ts
  | [], _ => by rw [exs]; exact Nat.zero_le _
  | t :: ts, h => by
    have h1 := rws_le h.1
    have h2 := exs_le h.2
    rw [exs, ppls]
    refine Nat.max_le.mpr ⟨by omega, by omega⟩
end
mutual
def pcs : T → Nat
  | .one => 1
  | .name _ => 1
  | .cop s n t => if s = true then 1 else n * pcs t
  | .row s ts => if s = true then 1 else pcss ts
def pcss : List T → Nat
  | [] => 0
  | t :: ts => pcs t + pcss ts
end
mutual
theorem pcs_le : ∀ {t : T}, Good t → pcs t ≤ rws t
  | .one, _ => by rw [rws, pcs]; exact Nat.le_refl _
  | .name x, _ => by rw [rws, pcs]; exact Nat.le_refl _
  | .cop s n t, h => by
    rw [rws, pcs]
    by_cases hs : s = true
    · rw [if_pos hs, if_pos hs]; exact Nat.le_max_left _ _
    · rw [if_neg hs, if_neg hs]; exact Nat.mul_le_mul_left _ (pcs_le h.2.2)
  | .row s ts, h => by
    rw [rws, pcs]
    by_cases hs : s = true
    · rw [if_pos hs, if_pos hs]; exact Nat.le_max_left _ _
    · rw [if_neg hs, if_neg hs]; exact pcss_le h.2
theorem pcss_le : ∀ {ts : List T}, Goods ts → pcss ts ≤ rwss ts
  | [], _ => by rw [rwss, pcss]; exact Nat.le_refl _
  | t :: ts, h => by
    have h1 := pcs_le h.1
    have h2 := pcss_le h.2
    rw [rwss, pcss]; omega
end
inductive Bar where
  | nil | at_ (i : Nat) (b : Bar) | bes (bs : List Bar)
mutual
/-- b is a bar of t: f pieces stay, l people leave -/
inductive Lb : T → Bar → Nat → Nat → Prop where
  | nil (t : T) : Lb t .nil (pcs t) 0
  | at_ {t u : T} {i f l : Nat} {b : Bar} (hI : intr t = true) (hi : i < cnt t) (hp : piece t i = some u) (h : Lb u b f l) : Lb t (.at_ i b) f (l + (ppl t - ppl u))
  | cop {t : T} {n f l : Nat} {b : Bar} (h : Lb t b f l) : Lb (.cop false n t) (.bes [b]) (n * f) (n * l)
  | row {ts : List T} {bs : List Bar} {f l : Nat} (h : Lbs ts bs f l) : Lb (.row false ts) (.bes bs) f l
inductive Lbs : List T → List Bar → Nat → Nat → Prop where
  | nil : Lbs [] [] 0 0
  | cons {t : T} {ts : List T} {b : Bar} {bs : List Bar} {f l f' l' : Nat} (h : Lb t b f l) (r : Lbs ts bs f' l') : Lbs (t :: ts) (b :: bs) (f + f') (l + l')
end
mutual
theorem Lb.sum : ∀ {t : T} {b : Bar} {f l : Nat}, Lb t b f l → Good t → f + l ≤ ppl t
  | _, _, _, _, .nil t, g => by
    have h1 := pcs_le g
    have h2 := rws_le g
    omega
  | _, _, _, _, .at_ hI hi hp h, g => by
    obtain ⟨h1, h2⟩ := piece_le' hp g
    have := Lb.sum h h2
    omega
  | _, _, _, _, .cop (n := n) h, g => by
    have := Lb.sum h g.2.2
    rw [ppl, ← Nat.mul_add]
    exact Nat.mul_le_mul_left _ this
  | _, _, _, _, .row h, g => by rw [ppl]; exact Lbs.sum h g.2
theorem Lbs.sum : ∀ {ts : List T} {bs : List Bar} {f l : Nat}, Lbs ts bs f l → Goods ts → f + l ≤ ppls ts
  | _, _, _, _, .nil, _ => Nat.zero_le _
  | _, _, _, _, .cons h r, g => by
    have h1 := Lb.sum h g.1
    have h2 := Lbs.sum r g.2
    rw [ppls]; omega
end
theorem Lbs.len : ∀ {ts : List T} {bs : List Bar} {f l : Nat}, Lbs ts bs f l → bs.length = ts.length
  | _, _, _, _, .nil => rfl
  | _, _, _, _, .cons h r => by rw [List.length_cons, List.length_cons, Lbs.len r]
end PL
namespace PL
open PySem SX TL
mutual
def nds : T → Nat
  | .one => 1
  | .name _ => 1
  | .cop _ _ t => nds t + 1
  | .row _ ts => ndss ts + 1
def ndss : List T → Nat
  | [] => 0
  | t :: ts => nds t + ndss ts
end
def lmG : Nat → Nat
  | 0 => 1
  | d + 1 => 3 * lmG d + 60
def ndG : Nat → Nat
  | 0 => 1
  | d + 1 => 3 * ndG d + 1
/-- told plans of at most m people, d deep -/
def Gt (t : T) (m d : Nat) : Prop := Good t ∧ Told t ∧ ppl t ≤ m ∧ ht t ≤ d ∧ (txt t).length ≤ lmG d ∧ nds t ≤ ndG d
/-- told plans that go deep -/
def Dp (t : T) (k : Nat) : Prop := Good t ∧ Told t ∧ ppl t ≤ 4 ^ k ∧ ht t ≤ k ∧ (txt t).length ≤ 1 + 10 * k ∧ nds t ≤ 1 + 3 * k
end PL
namespace PL
open PySem SX TL
/-- by the parts -/
theorem kids_rec {P : T → Prop} (h : ∀ t, (∀ q ∈ kids t, P q.2) → P t) : ∀ t, P t := fun t => by
  refine T.rec (motive_1 := P) (motive_2 := fun ts => ∀ u ∈ ts, P u) ?_ ?_ ?_ ?_ ?_ ?_ t
  · exact h _ fun q hq => by simp [kids] at hq
  · exact fun x => h _ fun q hq => by simp [kids] at hq
  · exact fun s n u ih => h _ fun q hq => by
      simp [kids] at hq
      rw [hq]; exact ih
  · exact fun s ts ih => h _ fun q hq => by
      obtain ⟨u, hu, rfl⟩ := List.mem_map.mp (show q ∈ ts.map fun t => (1, t) from hq)
      exact ih u hu
  · exact fun u hu => by cases hu
  · exact fun t ts h1 h2 u hu => (List.mem_cons.mp hu).elim (fun e => e ▸ h1) (h2 u)
/-- a piece: how often, its normal form, how many people it has -/
abbrev Pc3 := Nat × T × Nat
structure Cz (b : Bool) (L : CL) (m h z : Nat) (N : Str → Prop) (us : List Pc3) : Prop where
  eq : L = us.map fun q => (q.1, txt q.2.1)
  ok : ∀ q ∈ us, 1 ≤ q.1 ∧ 1 ≤ q.2.2 ∧ Good q.2.1 ∧ wd q.2.1 ≠ some b ∧ nrm q.2.1 = txt q.2.1 ∧ ht q.2.1 ≤ h ∧ q.2.2 = ppl q.2.1
  sum : (us.map fun q => q.1 * q.2.2).sum = m
  nd : (us.map fun q => nds q.2.1 + 1).sum ≤ z
  lv : ∀ k, (∃ q ∈ us, k ∈ lv q.2.1) ↔ N k
theorem Cz.append {b : Bool} {L L' : CL} {m m' h z z' : Nat} {N N' : Str → Prop} {us us' : List Pc3} (c : Cz b L m h z N us) (c' : Cz b L' m' h z' N' us') : Cz b (L ++ L') (m + m') h (z + z') (fun k => N k ∨ N' k) (us ++ us') where
  eq := by rw [c.eq, c'.eq, List.map_append]
  ok := fun q hq => (List.mem_append.mp hq).elim (c.ok q) (c'.ok q)
  sum := by rw [List.map_append, List.sum_append, c.sum, c'.sum]
  nd := by rw [List.map_append, List.sum_append]; exact Nat.add_le_add c.nd c'.nd
  lv := fun k => by
    rw [← c.lv k, ← c'.lv k]
    constructor
    · rintro ⟨q, hq, hk⟩
      exact (List.mem_append.mp hq).imp (fun h => ⟨q, h, hk⟩) fun h => ⟨q, h, hk⟩
    · rintro (⟨q, hq, hk⟩ | ⟨q, hq, hk⟩)
      · exact ⟨q, List.mem_append_left _ hq, hk⟩
      · exact ⟨q, List.mem_append_right _ hq, hk⟩
theorem Cz.nil {b : Bool} {h : Nat} : Cz b [] 0 h 0 (fun _ => False) [] := ⟨rfl, fun q hq => (by cases hq), rfl, Nat.le_refl _, fun k => ⟨fun ⟨q, hq, _⟩ => (by cases hq), fun h => h.elim⟩⟩
theorem Cz.up {b : Bool} {L : CL} {m h h' z z' : Nat} {N N' : Str → Prop} {us : List Pc3} (c : Cz b L m h z N us) (hh : h ≤ h') (hz : z ≤ z') (hN : ∀ k, N k ↔ N' k) : Cz b L m h' z' N' us := ⟨c.eq, fun q hq => by
  obtain ⟨a1, a2, a3, a4, a5, a6, a7⟩ := c.ok q hq
  exact ⟨a1, a2, a3, a4, a5, by omega, a7⟩, c.sum, Nat.le_trans c.nd hz, fun k => (c.lv k).trans (hN k)⟩
end PL
namespace PL
open PySem SX TL
theorem join_len2 (S : List Nat) (hS : S.length = 3) : ∀ ps : List (List Nat), (joinL S ps).length ≤ (ps.map fun p => p.length + 3).sum
  | [] => by rw [joinL]; simp
  | [p] => by rw [joinL]; simp
  | p :: q :: r => by
    have ih := join_len2 S hS (q :: r)
    have e : joinL S (p :: q :: r) = p ++ (S ++ joinL S (q :: r)) := by rw [joinL]
    rw [e, List.length_append, List.length_append, hS, List.map_cons, List.sum_cons]
    omega
end PL
namespace DL
open PySem PySem.Spec PyProof.Rows L2
section
variable {X : Cx} {ρ : Rho} {M : Mp} {Φ : D → Mp → Prop} {Θ : Bool → Mp → Prop} {a b c e : Expr} {pos : Pos}
def valK (kvs : List (Key × D)) (k : Key) : Option D := (kvs.find? fun kv => decide (kv.1 = k)).map (·.2)
theorem RepK.val {K : PySem.W.Frag} {Z : Zn} {H : Hp} {k : Key} {d : D} : ∀ {vs : List (Key × V)} {ds : List (Key × D)}, RepK K M Z H vs ds → valK ds k = some d → ∃ v, valV vs k = some v ∧ Rep K M Z H v d
  | _, _, .nil, h => by simp [valK] at h
  | _, _, .cons (k := k') (v := v) (d := d') r t, h => by
    unfold valK at h
    unfold valV
    rw [List.find?_cons] at h ⊢
    by_cases hk : k' = k
    · rw [decide_eq_true hk] at h ⊢
      obtain rfl := Option.some.inj h
      exact ⟨v, rfl, r⟩
    · rw [decide_eq_false hk] at h ⊢
      exact RepK.val t h
end
end DL
namespace DL
open PySem PySem.Spec PyProof.Rows L2
def putKD (kvs : List (Key × D)) (k : Key) (d : D) : List (Key × D) := if (kvs.any fun kv => decide (kv.1 = k)) = true then kvs.map (fun kv => if kv.1 = k then (kv.1, d) else kv) else kvs ++ [(k, d)]
section
variable {K : PySem.W.Frag} {M : Mp} {Z : Zn} {H : Hp} {k : Key} {v : V} {d : D}
theorem RepK.length : ∀ {vs : List (Key × V)} {ds : List (Key × D)}, RepK K M Z H vs ds → vs.length = ds.length
  | _, _, .nil => rfl
  | _, _, .cons r t => by rw [List.length_cons, List.length_cons, RepK.length t]
theorem RepK.any : ∀ {vs : List (Key × V)} {ds : List (Key × D)}, RepK K M Z H vs ds → (vs.any fun kv => decide (kv.1 = k)) = ds.any fun kv => decide (kv.1 = k)
  | _, _, .nil => rfl
  | _, _, .cons r t => by rw [List.any_cons, List.any_cons, RepK.any t]
theorem RepK.snoc (r : Rep K M Z H v d) : ∀ {vs : List (Key × V)} {ds : List (Key × D)}, RepK K M Z H vs ds → RepK K M Z H (vs ++ [(k, v)]) (ds ++ [(k, d)])
  | _, _, .nil => .cons r .nil
  | _, _, .cons r1 t => .cons r1 (RepK.snoc r t)
theorem RepK.repl (r : Rep K M Z H v d) : ∀ {vs : List (Key × V)} {ds : List (Key × D)}, RepK K M Z H vs ds → RepK K M Z H (vs.map fun kv => if kv.1 = k then (kv.1, v) else kv) (ds.map fun kv => if kv.1 = k then (kv.1, d) else kv)
  | _, _, .nil => .nil
  | _, _, .cons (k := j) r1 t => by
    rw [List.map_cons, List.map_cons]
    by_cases e : j = k
    · simp only [if_pos e]; exact .cons r (RepK.repl r t)
    · simp only [if_neg e]; exact .cons r1 (RepK.repl r t)
theorem RepK.put {vs : List (Key × V)} {ds : List (Key × D)} (r : Rep K M Z H v d) (t : RepK K M Z H vs ds) : RepK K M Z H (putK vs k v) (putKD ds k d) := by
  unfold putK putKD
  rw [t.any]
  split
  · exact t.repl r
  · exact t.snoc r
end
end DL
namespace DL
open PySem PySem.Spec PyProof.Rows L2
theorem RepK.get {K : PySem.W.Frag} {M : Mp} {Z : Zn} {H : Hp} : ∀ {vs : List (Key × V)} {ds : List (Key × D)} {i : Nat} {k : Key} {d : D}, RepK K M Z H vs ds → ds[i]? = some (k, d) → ∃ v, vs[i]? = some (k, v) ∧ Rep K M Z H v d
  | _, _, _, _, _, .nil, e => by simp at e
  | _, _, 0, _, _, .cons r _, e => by simp at e; obtain ⟨rfl, rfl⟩ := e; exact ⟨_, rfl, r⟩
  | _, _, i + 1, k, d, .cons _ t, e => by
    obtain ⟨u, h1, h2⟩ := RepK.get (i := i) (d := d) t (by simpa using e)
    exact ⟨u, by simpa using h1, h2⟩
theorem RepK.valN {K : PySem.W.Frag} {M : Mp} {Z : Zn} {H : Hp} {k : Key} : ∀ {vs : List (Key × V)} {ds : List (Key × D)}, RepK K M Z H vs ds → valK ds k = none → valV vs k = none
  | _, _, .nil, _ => rfl
  | _, _, .cons (k := j) r t, e => by
    unfold valK at e
    rw [List.find?_cons] at e
    by_cases h : j = k
    · simp [h] at e
    · rw [valV_neg h]
      refine RepK.valN t ?_
      unfold valK
      simpa [h] using e
end DL
namespace W
open PySem PySem.Spec PyProof.Rows L2 DL SX PL
section
variable {P : Program} {w : World} {K : PySem.W.Frag} {mg : Str → Option Value} {base : Heap} {C : Addr}
theorem sgn_look (s : Bool) : List.lookup (wrd s) ([("beside", .str " + "), ("introduced", .str " * ")] : List (Str × D)) = some (tS (sep s)) := by
  cases s
  · show _ = some (D.str _)
    rw [show S (sep false) = (" + " : Str) by decide +kernel]; rfl
  · show _ = some (D.str _)
    rw [show S (sep true) = (" * " : Str) by decide +kernel]; rfl
theorem we_fm {X : Cx} {ρ : Rho} {M : Mp} {e : Expr} {pos : Pos} {Φ : D → Mp → Prop} (h : WE X ρ M e fun d M1 => ∃ y : List Nat, d = tS y ∧ y.length ≤ 1000000 ∧ Φ (tS y) M1) : WE X ρ M (.FormattedValue e (-1) none pos) Φ :=
  we_fmt (h.imp fun d M1 ⟨y, e1, h1, h2⟩ => .inl ⟨_, e1, by rw [S_len, sizeLine_eq]; omega, h2⟩)
theorem emp_S : Str.empty = S [] := by decide +kernel
theorem ok_row_text (F : Fx w K mg) : BodyOk P w K mg base "row_text" s_row_text ["word", "texts"] 2 0 (fun ds M Φ => ∃ (s : Bool) (y : D) (xs : List (List Nat)), ds = [.str (wrd s), y] ∧ LstOf M y (xs.map tS) ∧ ((xs.map (·.length)).sum + xs.length * 3) ≤ 1000000 ∧ Φ (tS (40 :: (TL.joinL (sep s) xs ++ [41]))) M) := by
  intro f cdv A outer s0 H E hr ds M Φ hl hc
  obtain ⟨s, y, xs, rfl, hy, hlen, hc⟩ := hc
  obtain ⟨a, kvs, h1, h2, h3⟩ := F.gSIGNS
  have jl := join_len2 (sep s) rfl xs
  have jl2 : (xs.map fun p => p.length + 3).sum = (xs.map (·.length)).sum + xs.length * 3 := by
    clear hlen hy jl hl hc
    induction xs with
    | nil => rfl
    | cons p r ih => rw [List.map_cons, List.sum_cons, ih, List.map_cons, List.sum_cons, List.length_cons]; omega
  refine wss_cons (ws_ret (we_fstr ?_))
  refine we_str ⟨S [40], by rw [show ("(" : Str) = S [40] by decide +kernel], by rw [emp_S, S_cat, S_len, sizeLine_eq]; simp, ?_⟩
  rw [emp_S, S_cat]
  refine we_fmt (we_join (we_gix h1 h2 h3 (we_var 0 rfl ⟨_, _, rfl, sgn_look s, S (sep s), rfl, we_var 1 rfl ⟨xs.map S, .inl (by rw [List.map_map]; exact hy), ?_, .inl ⟨_, rfl, ?_, ?_⟩⟩⟩)))
  · rw [lens, List.length_map, S_len, show (sep s).length = 3 from rfl]; omega
  · rw [join_S, S_len, sizeLine_eq]; omega
  rw [join_S]
  refine ⟨S (TL.joinL (sep s) xs), rfl, by rw [S_cat, S_len, sizeLine_eq]; simp; omega, ?_⟩
  rw [S_cat]
  refine we_str ⟨S [41], by rw [show (")" : Str) = S [41] by decide +kernel], by rw [S_cat, S_len, sizeLine_eq]; simp; omega, ?_⟩
  rw [S_cat]
  exact Lets.of hc
def cCopT : Con := fun ds M Φ => ∃ (s : Bool) (n : Nat) (k : List Nat), ds = [.str (wrd s), .int (n : Nat), tS k] ∧ n ≤ 10 ^ 30 ∧ k.length ≤ 1000000 ∧ Φ (tS (opn s :: (TL.numL n ++ 32 :: (k ++ [cls s])))) M
theorem aro_look (s : Bool) : List.lookup (wrd s) aroundD = some (.tup [tS [opn s], tS [cls s]]) := by
  cases s
  · unfold aroundD
    rw [show tS [opn false] = D.str "[" by exact congrArg D.str (by decide +kernel), show tS [cls false] = D.str "]" by exact congrArg D.str (by decide +kernel)]; rfl
  · unfold aroundD
    rw [show tS [opn true] = D.str "{" by exact congrArg D.str (by decide +kernel), show tS [cls true] = D.str "}" by exact congrArg D.str (by decide +kernel)]; rfl
abbrev nCopT : List Str := ["word", "many", "text", "head", "end"]
theorem ok_copies_text (F : Fx w K mg) : BodyOk P w K mg base "copies_text" s_copies_text nCopT 3 0 cCopT := by
  intro f cdv A outer s0 H E hr ds M Φ hl hc
  obtain ⟨s, n, k, rfl, hn, hk, hc⟩ := hc
  have nd : nCopT.Nodup := by decide +kernel
  obtain ⟨a, kvs, h1, h2, h3⟩ := F.gAROUND
  have hnl : (TL.numL n).length ≤ 31 := TL.numL_len (by decide) (Nat.lt_of_le_of_lt hn (by decide))
  refine wss_cons (ws_asg (we_gix h1 h2 h3 (we_var 0 rfl ⟨_, _, rfl, aro_look s, ?_⟩)))
  refine wg_tup ⟨rfl, rfl, wgs_cons (wg_name 3 (wgs_cons (wg_name 4 (wgs_nil ⟨rfl, ?_⟩) nd)) nd)⟩
  refine wss_cons (ws_ret (we_fstr ?_))
  refine we_fm (we_var 3 rfl ⟨_, rfl, by simp, _, rfl, by rw [emp_S, S_cat, S_len, sizeLine_eq]; simp, ?_⟩)
  rw [emp_S, S_cat]
  refine we_fmt (we_var 1 rfl (.inr ⟨_, rfl, ?_, _, rfl, ?_, ?_⟩))
  · rw [Int.natAbs_natCast]
    have e2 : n < 16 ^ 26 := Nat.lt_of_le_of_lt hn (by decide)
    have e3 : n.log2 ≤ _ := log16 e2
    show n.log2 < 1920
    omega
  · rw [num_S, S_cat, S_len, sizeLine_eq]; simp; omega
  rw [num_S, S_cat]
  refine we_str ⟨S [32], by rw [show (" " : Str) = S [32] by decide +kernel], by rw [S_cat, S_len, sizeLine_eq]; simp; omega, ?_⟩
  rw [S_cat]
  refine we_fm (we_var 2 rfl ⟨_, rfl, hk, _, rfl, by rw [S_cat, S_len, sizeLine_eq]; simp; omega, ?_⟩)
  rw [S_cat]
  refine we_fm (we_var 4 rfl ⟨_, rfl, by simp, _, rfl, by rw [S_cat, S_len, sizeLine_eq]; simp; omega, ?_⟩)
  rw [S_cat]
  refine Lets.of ?_
  rw [show [] ++ [opn s] ++ TL.numL n ++ [32] ++ k ++ [cls s] = opn s :: (TL.numL n ++ 32 :: (k ++ [cls s])) by simp]
  exact hc
end
end W
namespace PL
open PySem SX TL
mutual
/-- its names are among these -/
def NI (ns : List (List Nat)) : T → Prop
  | .one => True
  | .name x => x ∈ ns
  | .cop _ _ t => NI ns t
  | .row _ ts => NIs ns ts
def NIs (ns : List (List Nat)) : List T → Prop
  | [] => True
  | t :: ts => NI ns t ∧ NIs ns ts
end
theorem nis_all {ns : List (List Nat)} : ∀ {ts : List T}, NIs ns ts ↔ ∀ t ∈ ts, NI ns t
  | [] => by simp [NIs]
  | t :: ts => by simp [NIs, nis_all (ts := ts)]
theorem ni_lv {ns : List (List Nat)} : ∀ t : T, NI ns t → ∀ k ∈ lv t, ∃ x ∈ ns, k = S x := by
  refine kids_rec fun t ih h k hk => ?_
  cases t with
  | one => rw [lv] at hk; cases hk
  | name x => rw [lv, List.mem_singleton] at hk; exact ⟨x, h, hk⟩
  | cop s n u => rw [lv] at hk; exact ih (n, u) (by simp [kids]) h k hk
  | row s ts =>
    rw [lv, lvL_flat, List.mem_flatMap] at hk
    obtain ⟨u, hu, hk⟩ := hk
    exact ih (1, u) (List.mem_map.mpr ⟨u, hu, rfl⟩) (nis_all.mp h u hu) k hk
theorem ni_nm {ns : List (List Nat)} {t : T} (h : NI ns t) : (nmT t).length ≤ ns.length := by
  have := List.Nodup.length_le_of_subset (nmsOf_nd (lv t)) (l₂ := ns.map S) fun k hk => by
    obtain ⟨x, hx, rfl⟩ := ni_lv t h k ((nmsOf_mem _ _).mp hk)
    exact List.mem_map_of_mem hx
  simpa [nmT] using this
/-- a drawn plan of s people, dp deep -/
def Btn (ns : List (List Nat)) (t : T) (s dp : Nat) : Prop := Good t ∧ NI ns t ∧ ppl t = s ∧ ht t ≤ dp + 1 ∧ (txt t).length ≤ 40 * (s * (dp + 2))
def Btns (ns : List (List Nat)) : List T → List Nat → Nat → Prop
  | [], [], _ => True
  | t :: ts, z :: zs, dp => Btn ns t z dp ∧ Btns ns ts zs dp
  | _, _, _ => False
theorem btns_snoc {ns : List (List Nat)} {t : T} {z dp : Nat} (h : Btn ns t z dp) : ∀ {ts : List T} {zs : List Nat}, Btns ns ts zs dp → Btns ns (ts ++ [t]) (zs ++ [z]) dp
  | [], [], _ => ⟨h, trivial⟩
  | _ :: _, _ :: _, g => ⟨g.1, btns_snoc h g.2⟩
  | [], _ :: _, g => g.elim
  | _ :: _, [], g => g.elim
theorem btns_len {ns : List (List Nat)} {dp : Nat} : ∀ {ts : List T} {zs : List Nat}, Btns ns ts zs dp → ts.length = zs.length
  | [], [], _ => rfl
  | _ :: _, _ :: _, g => by rw [List.length_cons, List.length_cons, btns_len g.2]
  | [], _ :: _, g => g.elim
  | _ :: _, [], g => g.elim
theorem btns_all {ns : List (List Nat)} {dp : Nat} (b : Bool) : ∀ {ts : List T} {zs : List Nat}, Btns ns ts zs dp → Goods ts ∧ NIs ns ts ∧ ppls ts = zs.sum ∧ hts ts ≤ dp + 1 ∧ (joinL (sep b) (txts ts)).length ≤ 40 * (zs.sum * (dp + 2)) + 3 * ts.length
  | [], [], _ => ⟨trivial, trivial, rfl, Nat.zero_le _, by rw [txts, joinL]; simp⟩
  | [t], [z], g => by
    obtain ⟨⟨g1, g2, g3, g4, g5⟩, _⟩ := g
    refine ⟨⟨g1, trivial⟩, ⟨g2, trivial⟩, by rw [ppls, ppls, g3]; simp, by rw [hts, hts]; simp; exact g4, ?_⟩
    rw [txts, txts, joinL]
    simp; omega
  | t :: u :: ts, z :: y :: zs, g => by
    obtain ⟨⟨g1, g2, g3, g4, g5⟩, r⟩ := g
    obtain ⟨h1, h2, h3, h4, h5⟩ := btns_all b r
    refine ⟨⟨g1, h1⟩, ⟨g2, h2⟩, by rw [ppls, g3, h3]; simp, by rw [hts]; omega, ?_⟩
    have e1 : joinL (sep b) (txts (t :: u :: ts)) = txt t ++ (sep b ++ joinL (sep b) (txts (u :: ts))) := by rw [txts, txts, joinL]
    rw [e1, List.length_append, List.length_append, sep_len, List.length_cons]
    have e2 : (z :: y :: zs).sum * (dp + 2) = z * (dp + 2) + (y :: zs).sum * (dp + 2) := by rw [List.sum_cons, Nat.add_mul]
    rw [e2]
    omega
  | [], _ :: _, g => g.elim
  | _ :: _, [], g => g.elim
  | [_], _ :: _ :: _, g => g.2.elim
  | _ :: _ :: _, [_], g => g.2.elim
theorem btn_one {ns : List (List Nat)} (dp : Nat) : Btn ns .one 1 dp := ⟨trivial, trivial, by rw [ppl], by rw [ht]; omega, by rw [txt]; simp; omega⟩
theorem btn_row {ns : List (List Nat)} {ts : List T} {zs : List Nat} {dp s : Nat} (b : Bool) (h : Btns ns ts zs dp) (h2 : 2 ≤ zs.length) (h3 : zs.length ≤ 3) (hs : zs.sum = s) (h1 : 2 ≤ s) : Btn ns (.row b ts) s (dp + 1) := by
  obtain ⟨g1, g2, g3, g4, g5⟩ := btns_all b h
  have hl := btns_len h
  refine ⟨⟨by omega, g1⟩, g2, by rw [ppl, g3, hs], by rw [ht]; omega, ?_⟩
  rw [txt]
  simp only [List.length_cons, List.length_append, List.length_nil]
  rw [hs] at g5
  have e : s * (dp + 1 + 2) = s * (dp + 2) + s := by rw [show dp + 1 + 2 = (dp + 2) + 1 by omega, Nat.mul_succ]
  rw [e]
  omega
theorem btn_cop {ns : List (List Nat)} {t : T} {n s' s dp dp' : Nat} (b : Bool) (h : Btn ns t s' dp') (hn : 2 ≤ n) (hn2 : n ≤ 10 ^ 30) (hs : n * s' = s) (h1 : 1 ≤ s') (hd : dp' + 1 ≤ dp ∨ (s' = 1 ∧ dp = 0 ∧ dp' = 0 ∧ ht t = 0)) : Btn ns (.cop b n t) s dp := by
  obtain ⟨g1, g2, g3, g4, g5⟩ := h
  have hlen : (numL n).length ≤ 31 := numL_len (by decide) (Nat.lt_of_le_of_lt hn2 (by decide))
  have hss : 2 * s' ≤ s := by rw [← hs]; exact Nat.mul_le_mul_right _ hn
  refine ⟨⟨hn, hn2, g1⟩, g2, by rw [ppl, g3, hs], by rw [ht]; omega, ?_⟩
  rw [txt]
  simp only [List.length_cons, List.length_append, List.length_nil]
  have key : s' * (dp' + 2) + 1 ≤ s * (dp + 2) := by
    rcases hd with hd | ⟨rfl, rfl, rfl, _⟩
    · have e1 : s' * (dp' + 2) ≤ s' * (dp + 2) := Nat.mul_le_mul_left _ (by omega)
      have e2 : 2 * s' * (dp + 2) ≤ s * (dp + 2) := Nat.mul_le_mul_right _ hss
      have e3 : 2 * s' * (dp + 2) = s' * (dp + 2) + s' * (dp + 2) := by rw [Nat.mul_assoc]; omega
      have e4 : 1 ≤ s' * (dp + 2) := Nat.mul_pos h1 (by omega)
      omega
    · omega
  omega
theorem btn_name {ns : List (List Nat)} {x : List Nat} (dp : Nat) (h : x ∈ ns) (g : Good (.name x)) : Btn ns (.name x) 1 dp := ⟨g, h, by rw [ppl], by rw [ht]; omega, by rw [txt]; have := g.2.1; omega⟩
end PL
namespace PL
open PySem PySem.Spec SX TL PyProof.Rows DL
mutual
def putT (x : List Nat) (u : T) : T → T
  | .one => .one
  | .name y => if y = x then u else .name y
  | .cop s n t => .cop s n (putT x u t)
  | .row s ts => .row s (putTs x u ts)
def putTs (x : List Nat) (u : T) : List T → List T
  | [] => []
  | t :: ts => putT x u t :: putTs x u ts
end
theorem putTs_map (x : List Nat) (u : T) : ∀ ts : List T, putTs x u ts = ts.map (putT x u)
  | [] => by rw [putTs]; rfl
  | t :: ts => by rw [putTs, putTs_map x u ts, List.map_cons]
mutual
theorem put_good {x : List Nat} {u : T} (hu : Good u) : ∀ {t : T}, Good t → Good (putT x u t)
  | .one, _ => by rw [putT]; trivial
  | .name y, h => by
    rw [putT]
    split
    · exact hu
    · exact h
  | .cop s n t, h => by rw [putT]; exact ⟨h.1, h.2.1, put_good hu h.2.2⟩
  | .row s ts, h => by rw [putT]; exact ⟨by rw [putTs_map, List.length_map]; exact h.1, puts_good hu h.2⟩
theorem puts_good {x : List Nat} {u : T} (hu : Good u) : ∀ {ts : List T}, Goods ts → Goods (putTs x u ts)
  | [], _ => by rw [putTs]; trivial
  | t :: ts, h => by rw [putTs]; exact ⟨put_good hu h.1, puts_good hu h.2⟩
end
mutual
theorem put_ht (x : List Nat) (u : T) : ∀ t : T, ht (putT x u t) ≤ ht t + ht u
  | .one => by rw [putT, ht]; omega
  | .name y => by
    rw [putT]
    split
    · omega
    · rw [ht]; omega
  | .cop s n t => by rw [putT, ht, ht]; have := put_ht x u t; omega
  | .row s ts => by rw [putT, ht, ht]; have := puts_ht x u ts; omega
theorem puts_ht (x : List Nat) (u : T) : ∀ ts : List T, hts (putTs x u ts) ≤ hts ts + ht u
  | [] => by rw [putTs, hts]; omega
  | t :: ts => by
    rw [putTs, hts, hts]
    have := put_ht x u t
    have := puts_ht x u ts
    omega
end
end PL
namespace PL
open PySem PySem.Spec SX TL PyProof.Rows DL
mutual
theorem put_len (x : List Nat) (u : T) : ∀ {t : T}, Good t → (txt (putT x u t)).length ≤ (txt t).length + (lv t).length * (txt u).length
  | .one, _ => by rw [putT]; omega
  | .name y, h => by
    rw [putT]
    have e : (lv (.name y)).length = 1 := by rw [lv]; rfl
    split
    · rw [e, Nat.one_mul]; omega
    · omega
  | .cop s n t, h => by
    have ih := put_len x u (t := t) h.2.2
    rw [putT, txt, txt, lv]
    simp only [List.length_cons, List.length_append, List.length_nil]
    omega
  | .row s ts, h => by
    have ih := puts_len x u s (ts := ts) h.2
    rw [putT, txt, txt, lv]
    simp only [List.length_cons, List.length_append, List.length_nil]
    omega
theorem puts_len (x : List Nat) (u : T) (s : Bool) : ∀ {ts : List T}, Goods ts → (joinL (sep s) (txts (putTs x u ts))).length ≤ (joinL (sep s) (txts ts)).length + (lvL ts).length * (txt u).length
  | [], _ => by rw [putTs]; omega
  | [t], h => by
    have ih := put_len x u (t := t) h.1
    have e : lvL [t] = lv t := by rw [lvL, lvL, List.append_nil]
    rw [putTs, putTs, txts, txts, joinL, txts, txts, joinL, e]
    exact ih
  | t :: v :: r, h => by
    have ih := put_len x u (t := t) h.1
    have ih2 := puts_len x u s (ts := v :: r) h.2
    have e : lvL (t :: v :: r) = lv t ++ lvL (v :: r) := by rw [lvL]
    have e1 : txts (putTs x u (t :: v :: r)) = txt (putT x u t) :: txt (putT x u v) :: txts (putTs x u r) := by rw [putTs, putTs, txts, txts]
    have e2 : txts (putTs x u (v :: r)) = txt (putT x u v) :: txts (putTs x u r) := by rw [putTs, txts]
    have e3 : txts (t :: v :: r) = txt t :: txt v :: txts r := by rw [txts, txts]
    have e4 : txts (v :: r) = txt v :: txts r := by rw [txts]
    rw [e2, e4] at ih2
    rw [e1, e3, joinL, joinL, e]
    simp only [List.length_append, Nat.add_mul]
    omega
end
end PL
namespace W
open PySem PySem.Spec PyProof.Rows L2 DL SX PL
section
variable {P : Program} {w : World} {K : PySem.W.Frag} {mg : Str → Option Value} {base : Heap} {C : Addr}
abbrev potL (a c d : Int) : MO := .lst [.int a, .int c, .int d]
def cOk (c : Int) : Prop := 0 ≤ c ∧ c < 2305843009213693921
def cTake : Con := fun ds M Φ => ∃ p u a c d, ds = [.ob p, .int u] ∧ 1 ≤ u ∧ u ≤ 10 ^ 40 ∧ M p = some (potL a c d) ∧ cOk c ∧ 0 ≤ d ∧ d < 100000 ∧ ∀ r a' d', 0 ≤ r → r < u → d ≤ d' → d' ≤ d + 1 → Φ (.int r) (mset M p (potL a' c d'))
theorem at0 {a c d : Int} : atI [D.int a, D.int c, D.int d] 0 = some (.int a) := atI_nat (j := 0) rfl
theorem at1 {a c d : Int} : atI [D.int a, D.int c, D.int d] 1 = some (.int c) := atI_nat (j := 1) rfl
theorem at2 {a c d : Int} : atI [D.int a, D.int c, D.int d] 2 = some (.int d) := atI_nat (j := 2) rfl
def primes : List Int := [2147483647, 2147483629, 2147483587, 2147483579, 2147483563]
theorem prime_at {i : Int} (h0 : 0 ≤ i) (h5 : i < 5) : ∃ q, atI (primes.map D.int) i = some (.int q) ∧ 2147483563 ≤ q ∧ q ≤ 2147483647 := by
  obtain ⟨n, rfl⟩ := Int.eq_ofNat_of_zero_le h0
  have : n < 5 := by omega
  match n, this with
  | 0, _ => exact ⟨2147483647, atI_nat (j := 0) rfl, by decide, by decide⟩
  | 1, _ => exact ⟨2147483629, atI_nat (j := 1) rfl, by decide, by decide⟩
  | 2, _ => exact ⟨2147483587, atI_nat (j := 2) rfl, by decide, by decide⟩
  | 3, _ => exact ⟨2147483579, atI_nat (j := 3) rfl, by decide, by decide⟩
  | 4, _ => exact ⟨2147483563, atI_nat (j := 4) rfl, by decide, by decide⟩
theorem log40 {u : Int} (h1 : 1 ≤ u) (h2 : u ≤ 10 ^ 40) : u.natAbs.log2 < 9000 := by
  have e : u.natAbs < 16 ^ 40 := by
    have : (10 : Int) ^ 40 < 16 ^ 40 := by decide +kernel
    have e2 : ((16 ^ 40 : Nat) : Int) = 16 ^ 40 := by decide +kernel
    omega
  have := log16 e
  omega
abbrev nTake : List Str := ["_law_pot_here", "_law_upto", "_law_digit", "_law_prime", "_law_mixed"]
theorem sq_le {d : Int} (h0 : 0 ≤ d) (h : d ≤ 100000) : 0 ≤ 98043 * d * d ∧ 98043 * d * d ≤ 98043 * 100000 * 100000 := by
  have h1 : 0 ≤ d * d := Int.mul_nonneg h0 h0
  have h2 : d * d ≤ 100000 * 100000 := Int.mul_le_mul h h h0 (by decide)
  rw [Int.mul_assoc]
  omega
theorem ok_take (F : Fx w K mg) : BodyOk P w K mg base "_law_take" s__law_take nTake 2 0 cTake := by
  intro f cdv A outer s H E hr ds M Φ hl hc
  obtain ⟨p, u, a, c, d, rfl, hu, hu2, hM, ⟨c0, c1⟩, d0, d1, hc⟩ := hc
  have nd : nTake.Nodup := by decide +kernel
  refine wss_cons (ws_if (wt_gtI (we_ix (we_var 0 rfl (we_int ⟨0, _, rfl, ixO hM at0, we_int ⟨_, _, rfl, rfl, ?_⟩⟩)))))
  refine ite_dec (fun ha => ?_) fun ha => ?_
  · refine wss_cons (ws_set 2 nd (we_modI (we_intN (F.bn _ (by decide +kernel)) (we_ix (we_var 0 rfl (we_int ⟨0, _, rfl, ixO hM at0, .inl ⟨_, rfl, we_var 1 rfl ⟨_, _, rfl, rfl, by omega, ?_⟩⟩⟩))))))
    refine wss_cons (ws_asg (we_divI (we_ix (we_var 0 rfl (we_int ⟨0, _, rfl, ixO hM at0, we_var 1 rfl ⟨_, _, rfl, rfl, ⟨by omega, ?_⟩, ?_⟩⟩)))))
    · exact log40 hu hu2
    · refine wg_sub (we_var 0 rfl (we_int ⟨p, _, 0, 0, rfl, rfl, hM, rfl, ?_⟩))
      refine wss_cons (ws_ret (we_var 2 rfl (Lets.of ?_)))
      exact hc _ _ _ (Int.emod_nonneg _ (by omega)) (Int.emod_lt_of_pos _ (by omega)) (Int.le_refl _) (by omega)
  · refine wss_nil ?_
    refine wss_cons (ws_asg (we_addI (we_ix (we_var 0 rfl (we_int ⟨2, _, rfl, ixO hM at2, we_int ⟨_, _, rfl, rfl, ?_⟩⟩)))))
    refine wg_sub (we_var 0 rfl (we_int ⟨p, _, 2, 2, rfl, rfl, hM, rfl, ?_⟩))
    show WSs _ _ (mset M p (potL a c (d + 1))) _ _
    have hM2 : mset M p (potL a c (d + 1)) p = some (potL a c (d + 1)) := mset_same
    obtain ⟨q, hq, q1, q2⟩ := prime_at (i := (d + 1) % 5) (Int.emod_nonneg _ (by decide)) (Int.emod_lt_of_pos _ (by decide))
    refine wss_cons (ws_set 3 nd (we_ix (we_lst (wa_cons (we_int (wa_cons (we_int (wa_cons (we_int (wa_cons (we_int (wa_cons (we_int (wa_nil ⟨by show 5 ≤ sizeLine; decide, ?_⟩))))))))))))))
    refine we_modI (we_intN (F.bn _ (by decide +kernel)) (we_ix (we_var 0 rfl (we_int ⟨2, _, rfl, ixO hM2 at2, .inl ⟨_, rfl, we_int ⟨_, _, rfl, rfl, by decide, _, _, rfl, ixL hq, ?_⟩⟩⟩))))
    obtain ⟨s1, s2⟩ := sq_le (d := d + 1) (by omega) (by omega)
    refine wss_cons (ws_set 4 nd (we_modI (we_intN (F.bn _ (by decide +kernel)) (we_powI (we_intN (F.bn _ (by decide +kernel)) (we_addI (we_addI (we_ix (we_var 0 rfl (we_int ⟨1, _, rfl, ixO hM2 at1, ?_⟩))))))))))
    refine we_mulS (we_mulS (we_int (we_ix (we_var 0 rfl (we_int ⟨2, _, rfl, ixO hM2 at2, _, _, rfl, rfl, .inl ⟨by decide, by decide⟩, we_ix (we_var 0 rfl (we_int ⟨2, _, rfl, ixO hM2 at2, _, _, rfl, rfl, .inr ⟨by omega, by omega⟩, _, _, rfl, rfl, ?_⟩))⟩)))))
    refine we_int ⟨_, _, rfl, rfl, .inl ⟨_, rfl, we_int ⟨_, _, rfl, rfl, ⟨by decide, by decide, ?_⟩, .inl ⟨_, rfl, we_var 3 rfl ⟨_, _, rfl, rfl, by omega, ?_⟩⟩⟩⟩⟩
    · omega
    generalize hm : ((c + 98043 * (d + 1) * (d + 1) + 45) ^ (3 : Int).toNat) % q = m
    have m0 : 0 ≤ m := by rw [← hm]; exact Int.emod_nonneg _ (by omega)
    have m1 : m < q := by rw [← hm]; exact Int.emod_lt_of_pos _ (by omega)
    refine wss_cons (ws_set 4 nd (we_modI (we_intN (F.bn _ (by decide +kernel)) (we_mulS (we_var 4 rfl (we_addI (we_modI (we_intN (F.bn _ (by decide +kernel)) (we_var 4 rfl (.inl ⟨_, rfl, we_int ⟨_, _, rfl, rfl, by decide, ?_⟩⟩))))))))))
    refine we_mulS (we_int (we_ix (we_var 0 rfl (we_int ⟨2, _, rfl, ixO hM2 at2, _, _, rfl, rfl, .inl ⟨by decide, by decide⟩, _, _, rfl, rfl, _, _, rfl, rfl, .inl ⟨by omega, by omega⟩, .inl ⟨_, rfl, we_int ⟨_, _, rfl, rfl, by decide, ?_⟩⟩⟩))))
    refine wss_cons (ws_ret (we_modI (we_intN (F.bn _ (by decide +kernel)) (we_divI (we_var 4 rfl (we_int ⟨_, _, rfl, rfl, ⟨by decide, by decide⟩, .inl ⟨_, rfl, we_var 1 rfl ⟨_, _, rfl, rfl, by omega, Lets.of ?_⟩⟩⟩))))))
    exact hc _ _ _ (Int.emod_nonneg _ (by omega)) (Int.emod_lt_of_pos _ (by omega)) (by omega) (by omega)
end
end W
namespace W
open PySem PySem.Spec PyProof.Rows L2 DL SX PL
section
variable {P : Program} {w : World} {K : PySem.W.Frag} {mg : Str → Option Value} {base : Heap} {C : Addr}
def cOf : Con := fun ds M Φ => ∃ p xs a c d, ds = [.ob p, .lst xs] ∧ xs ≠ [] ∧ xs.length ≤ 1000000 ∧ M p = some (potL a c d) ∧ cOk c ∧ 0 ≤ d ∧ d < 100000 ∧ ∀ x a' d', x ∈ xs → d ≤ d' → d' ≤ d + 1 → Φ x (mset M p (potL a' c d'))
theorem ok_of (F : Fx w K mg) (F1 : Fc P w K mg base "_law_take" [] 1 2 cTake) : BodyOk P w K mg base "_law_of" s__law_of ["_law_pot_here", "_law_some_here"] 2 1 cOf := by
  intro f cdv A outer s H E hr ds M Φ hl hc
  obtain ⟨p, xs, a, c, d, rfl, hx, hx2, hM, co, d0, d1, hc⟩ := hc
  have hpos : 0 < xs.length := List.length_pos_iff.mpr hx
  refine wss_cons (ws_ret (we_ix (we_var 1 rfl (we_call F1 (hr.mono (by decide)) (wa_cons (we_var 0 rfl (wa_cons (we_len (F.bn _ (by decide +kernel)) (we_var 1 rfl ⟨_, lenL, wa_nil ⟨rfl, p, _, a, c, d, rfl, by omega, ?_, hM, co, d0, d1, ?_⟩⟩)))))))))
  · have : (1000000 : Int) ≤ 10 ^ 40 := by decide +kernel
    omega
  · intro r a' d' r0 r1 h1 h2
    obtain ⟨n, rfl⟩ := Int.eq_ofNat_of_zero_le r0
    have hn : n < xs.length := by omega
    exact ⟨_, _, rfl, ixL (atI_nat (List.getElem?_eq_getElem hn)), Lets.of (hc _ _ _ (List.getElem_mem hn) h1 h2)⟩
/-- the script -/
abbrev scrD (ns : List Int) : D := .rol (ns.map D.int)
theorem bb (c : Bool) : -(2 ^ 64) < (if c = true then (1 : Int) else 0) ∧ (if c = true then (1 : Int) else 0) < 2 ^ 64 := by cases c <;> decide
theorem join_sum (b : Bool) : ∀ ps : List (List Nat), (ps.map (·.length)).sum + ps.length * 3 ≤ (TL.joinL (sep b) ps).length + 3
  | [] => by simp
  | [p] => by rw [TL.joinL]; simp
  | p :: q :: r => by
    have ih := join_sum b (q :: r)
    rw [TL.joinL, List.length_append, List.length_append, sep_len, List.map_cons, List.sum_cons, List.length_cons]
    omega
def cCells : Con := fun ds M Φ => ∃ ns m, ds = [scrD ns, .int (m : Nat)] ∧ 1 ≤ m ∧ m ≤ 1000 ∧ ∀ n : Nat, n ≤ m → Φ (.lst (rngD 0 n)) M
def firstS : T → Str
  | .one => "one"
  | .name _ => "name"
  | .cop s _ _ => S [opn s]
  | .row s _ => S [sgn s]
mutual
def loreD : T → D
  | .one => .tup [.str "one"]
  | .name x => .tup [.str "name", tS x]
  | .cop s n t => .tup [tS [opn s], .int (n : Nat), loreD t]
  | .row s ts => .tup [tS [sgn s], .tup (loresD ts)]
def loresD : List T → List D
  | [] => []
  | t :: ts => loreD t :: loresD ts
end
theorem loresD_map : ∀ ts : List T, loresD ts = ts.map loreD
  | [] => by rw [loresD]; rfl
  | t :: ts => by rw [loresD, loresD_map ts, List.map_cons]
theorem lore_tup (t : T) : ∃ r, loreD t = .tup (.str (firstS t) :: r) := by
  cases t with
  | one => exact ⟨_, by rw [loreD]; rfl⟩
  | name x => exact ⟨_, by rw [loreD]; rfl⟩
  | cop s n t => exact ⟨_, by rw [loreD]; rfl⟩
  | row s ts => exact ⟨_, by rw [loreD]; rfl⟩
theorem lore_at0 {M : Mp} (t : T) : IxD M (loreD t) 0 (.str (firstS t)) := by
  obtain ⟨r, e⟩ := lore_tup t
  rw [e]; exact ixT (atI_nat (j := 0) rfl)
theorem first_one {t : T} : decide (firstS t = ("one" : Str)) = isOne t := by
  cases t with
  | one => decide +kernel
  | name x => show decide (("name" : Str) = ("one" : Str)) = false; decide +kernel
  | cop s n u => show decide (S [opn s] = ("one" : Str)) = false; cases s <;> decide +kernel
  | row s ts => show decide (S [sgn s] = ("one" : Str)) = false; cases s <;> decide +kernel
theorem first_name {t : T} : decide (firstS t = ("name" : Str)) = isNm t := by
  cases t with
  | one => decide +kernel
  | name x => show decide (("name" : Str) = ("name" : Str)) = true; decide +kernel
  | cop s n u => show decide (S [opn s] = ("name" : Str)) = false; cases s <;> decide +kernel
  | row s ts => show decide (S [sgn s] = ("name" : Str)) = false; cases s <;> decide +kernel
theorem first_cop {t : T} : decide (firstS t ∈ (["[", "{"] : List Str)) = isCop t := by
  cases t with
  | one => decide +kernel
  | name x => show decide (("name" : Str) ∈ (["[", "{"] : List Str)) = false; decide +kernel
  | cop s n u => show decide (S [opn s] ∈ (["[", "{"] : List Str)) = true; cases s <;> decide +kernel
  | row s ts => show decide (S [sgn s] ∈ (["[", "{"] : List Str)) = false; cases s <;> decide +kernel
theorem first_leaf {t : T} : decide (firstS t ∈ (["one", "name"] : List Str)) = (isOne t || isNm t) := by
  cases t with
  | one => decide +kernel
  | name x => show decide (("name" : Str) ∈ (["one", "name"] : List Str)) = true; decide +kernel
  | cop s n u => show decide (S [opn s] ∈ (["one", "name"] : List Str)) = false; cases s <;> decide +kernel
  | row s ts => show decide (S [sgn s] ∈ (["one", "name"] : List Str)) = false; cases s <;> decide +kernel
def cText (h : Nat) : Con := fun ds M Φ => ∃ t, ds = [loreD t] ∧ Good t ∧ (txt t).length ≤ 100000 ∧ ht t ≤ h ∧ Φ (tS (txt t)) M
theorem ok_lawtext (h : Nat) (F : Fx w K mg) (F1 : ∀ j, h = j + 1 → Fc P w K mg base "_law_text" [] (j + 1) 1 (cText j)) : BodyOk P w K mg base "_law_text" s__law_text ["_law_lore", "_law_part"] 1 h (cText h) := by
  intro f cdv A outer s H E hr ds M Φ hl hc
  obtain ⟨t, rfl, hg, hl, hh, hc⟩ := hc
  have nd : (["_law_lore", "_law_part"] : List Str).Nodup := by decide +kernel
  refine wss_cons (ws_if (wt_eqS (we_ix (we_var 0 rfl (we_int ⟨0, _, rfl, lore_at0 t, we_str ⟨_, rfl, ?_⟩⟩)))))
  rw [first_one]
  cases h1 : isOne t with
  | true =>
    cases t with
    | one => exact wss_cons (ws_ret (we_str (Lets.of (by rw [show ("1" : Str) = S (txt .one) by rw [txt]; decide +kernel]; exact hc))))
    | _ => cases h1
  | false =>
  refine wss_nil (wss_cons (ws_if (wt_eqS (we_ix (we_var 0 rfl (we_int ⟨0, _, rfl, lore_at0 t, we_str ⟨_, rfl, ?_⟩⟩))))))
  rw [first_name]
  cases h2 : isNm t with
  | true =>
    cases t with
    | name x => exact wss_cons (ws_ret (we_ix (we_var 0 rfl (we_int ⟨1, _, rfl, by rw [loreD]; exact ixT (atI_nat (j := 1) rfl), Lets.of (by rw [txt] at hc; exact hc)⟩))))
    | _ => cases h2
  | false =>
  refine wss_nil (wss_cons (ws_if (wt_inS (we_ix (we_var 0 rfl (we_int ⟨0, _, rfl, lore_at0 t, we_txts ⟨_, _, rfl, .inl rfl, ?_⟩⟩))))))
  rw [first_cop]
  cases t with
  | one => cases h1
  | name x => cases h2
  | cop b n u =>
    obtain ⟨n1, n2, hu⟩ := hg
    obtain ⟨j, rfl⟩ : ∃ j, h = j + 1 := ⟨h - 1, by rw [ht] at hh; omega⟩
    have hl2 : (TL.numL n).length + (txt u).length + 3 ≤ 100000 := by rw [txt] at hl; simp at hl; omega
    have i1 : ∀ M, IxD M (loreD (.cop b n u)) 1 (.int (n : Nat)) := fun M => by rw [loreD]; exact ixT (atI_nat (j := 1) rfl)
    have i2 : ∀ M, IxD M (loreD (.cop b n u)) 2 (loreD u) := fun M => by rw [loreD]; exact ixT (atI_nat (j := 2) rfl)
    have e1 : ([("[", "]"), ("{", "}")] : List (Str × Str)).lookup (S [opn b]) = some (S [cls b]) := by cases b <;> decide +kernel
    refine wss_cons (ws_ret (we_addS (we_addS (we_addS (we_addS (we_ix (we_var 0 rfl (we_int ⟨0, _, rfl, lore_at0 _, we_strI (F.bn _ (by decide +kernel)) (we_ix (we_var 0 rfl (we_int ⟨1, _, rfl, i1 _, _, rfl, ?_, _, _, rfl, rfl, ?_, ?_⟩)))⟩))))))))
    · rw [Int.natAbs_natCast]
      have e2 : n < 16 ^ 26 := Nat.lt_of_le_of_lt n2 (by decide)
      have e3 := log16 e2
      omega
    · rw [num_S, show firstS (.cop b n u) = S [opn b] from rfl, S_len, S_len, sizeLine_eq]; simp; omega
    rw [num_S, show firstS (.cop b n u) = S [opn b] from rfl, S_cat]
    refine we_str ⟨_, _, rfl, rfl, ?_, we_call (F1 j rfl) (hr.mono (by omega)) (wa_cons (we_ix (we_var 0 rfl (we_int ⟨2, _, rfl, i2 _, wa_nil ⟨rfl, u, rfl, hu, by omega, by rw [ht] at hh; omega, _, _, rfl, rfl, ?_, ?_⟩⟩))))⟩
    · rw [show (" " : Str) = S [32] by decide +kernel, S_len, S_len, sizeLine_eq]; simp; omega
    · rw [show (" " : Str) = S [32] by decide +kernel, S_cat, S_len, S_len, sizeLine_eq]; simp; omega
    rw [show (" " : Str) = S [32] by decide +kernel, S_cat, S_cat]
    refine we_disp2 (hu_of hr) (by decide +kernel) (we_ix (we_var 0 rfl (we_int ⟨0, _, rfl, lore_at0 _, _, _, rfl, e1, _, _, rfl, rfl, ?_, Lets.of ?_⟩)))
    · rw [S_len, S_len, sizeLine_eq]; simp; omega
    · rw [S_cat]
      have e3 : ([opn b] ++ TL.numL n ++ [32] ++ txt u ++ [cls b]) = txt (.cop b n u) := by rw [txt]; simp
      rw [e3]; exact hc
  | row b ts =>
    have i1 : ∀ M, IxD M (loreD (.row b ts)) 1 (.tup (ts.map loreD)) := fun M => by rw [loreD, loresD_map]; exact ixT (atI_nat (j := 1) rfl)
    have hz := row_len b ts
    have hj := joins_len b (txts ts)
    rw [txts_len] at hj
    refine wss_nil (wss_cons (ws_ret (we_addS (we_addS (we_str (we_join (we_addS (we_addS (we_str (we_ix (we_var 0 rfl (we_int ⟨0, _, rfl, lore_at0 _, _, _, rfl, rfl, ?_, we_str ⟨_, _, rfl, rfl, ?_, _, rfl, ?_⟩⟩))))))))))))
    · rw [show firstS (.row b ts) = S [sgn b] from rfl, show (" " : Str) = S [32] by decide +kernel, S_len, S_len]; show 2 ≤ sizeLine; decide
    · rw [show firstS (.row b ts) = S [sgn b] from rfl, show (" " : Str) = S [32] by decide +kernel, S_cat, S_len, S_len]; show 3 ≤ sizeLine; decide
    rw [show firstS (.row b ts) = S [sgn b] from rfl, show (" " : Str) = S [32] by decide +kernel, S_cat, S_cat, show [32] ++ [sgn b] ++ [32] = sep b from rfl]
    refine we_lc nd (blkOk_by (N := ["_law_lore", "_law_part"]) (sc := defScope s__law_text) (own := [("_law_part", 1)]) (by decide +kernel)) (fun _ _ _ _ _ => pg_name (i := 1) nd rfl (Or.inl rfl)) (gt_name (by decide)) (fun _ _ _ _ _ => pts_nil) tk_nil (wi_tup (we_ix (we_var 0 rfl (we_int ⟨1, _, rfl, i1 _, _, rfl, ?_⟩))))
    refine ⟨by rw [List.length_map, sizeLine_eq]; omega, fun i acc M' => M' = M ∧ acc = (((ts.take i).map txt).map S).map D.str, ⟨rfl, rfl⟩, ?_, ?_⟩
    · rintro i x acc M' hx ⟨rfl, rfl⟩
      rw [List.getElem?_map] at hx
      obtain ⟨u, hu, rfl⟩ := Option.map_eq_some_iff.mp hx
      have hm : ((1, u) : Nat × T) ∈ kids (.row b ts) := by unfold kids; exact List.mem_map.mpr ⟨u, List.mem_of_getElem? hu, rfl⟩
      obtain ⟨g1, g2, g3, g4, g5⟩ := kids_ok hm hg
      have g2 : ht u < ht (.row b ts) := g2
      have g3 : (txt u).length < (txt (.row b ts)).length := g3
      obtain ⟨j, rfl⟩ : ∃ j, h = j + 1 := ⟨h - 1, by omega⟩
      intro s1 H1 C' cl fp
      refine we_call (F1 j rfl) (hr.mono (by omega)) (wa_cons (we_var 1 rfl (wa_nil ⟨rfl, u, rfl, g1, by omega, by omega, rfl, ?_⟩)))
      rw [take_snoc hu, List.map_append, List.map_append, List.map_append]; rfl
    · rintro acc M' ⟨rfl, rfl⟩
      rw [List.length_map, List.take_length]
      have hlen : ((txts ts).map (·.length)).sum + (txts ts).length * 3 ≤ (TL.joinL (sep b) (txts ts)).length + 3 := join_sum b _
      refine ⟨(ts.map txt).map S, .inl rfl, ?_, ?_⟩
      · rw [lens, ← txts_map, List.length_map, S_len, sep_len]; omega
      · rw [join_S, ← txts_map]
        refine ⟨_, _, rfl, rfl, ?_, we_str ⟨_, _, rfl, rfl, ?_, Lets.of ?_⟩⟩
        · rw [show ("(" : Str) = S [40] by decide +kernel, S_len, S_len, sizeLine_eq]; simp; omega
        · rw [show ("(" : Str) = S [40] by decide +kernel, show (")" : Str) = S [41] by decide +kernel, S_cat, S_len, S_len, sizeLine_eq]; simp; omega
        · rw [show ("(" : Str) = S [40] by decide +kernel, show (")" : Str) = S [41] by decide +kernel, S_cat, S_cat]
          have e3 : [40] ++ TL.joinL (sep b) (txts ts) ++ [41] = txt (.row b ts) := by rw [row_txt]; simp
          rw [e3]; exact hc
end
end W
namespace DL
open PySem PySem.Spec PyProof.Rows L2
section
variable {X : Cx} {ρ : Rho} {M : Mp} {Φ : D → Mp → Prop} {a b o e f i tg : Expr} {ss : List Stmt} {pos apos p : Pos}
theorem Reps.erase {K : PySem.W.Frag} {M : Mp} {Z : Zn} {H : Hp} : ∀ {vs : List V} {ds : List D} (k : Nat), Reps K M Z H vs ds → Reps K M Z H (vs.eraseIdx k) (ds.eraseIdx k)
  | _, _, _, .nil => by simp; exact .nil
  | _, _, 0, .cons r t => t
  | _, _, k + 1, .cons r t => .cons r (Reps.erase k t)
/-- xs.pop(i) -/
theorem we_popAt (h : WE X ρ M o fun d M1 => ∃ q ds0, d = .ob q ∧ M1 q = some (.lst ds0) ∧ WE X ρ M1 e fun y M2 => ∃ ds i k x, y = .int i ∧ M2 q = some (.lst ds) ∧ -(2 ^ 63) ≤ i ∧ i < 2 ^ 63 ∧ seqIndex? i ds.length = some k ∧ ds[k]? = some x ∧ Φ x (mset M2 q (.lst (ds.eraseIdx k))))
    (hbase : attributeBase o "pop" X.env (eval o X.env) = eval o X.env := by rfl)
    (hfew : ((backTo pos (starEach (e :: []) X.env)).all (fun x => !x.1) && (backToKw pos (keywordEach [] X.env)).all (fun x => x.1.isSome)
      && decide ((e :: []).length + ([] : List Keyword).length + (if ([] : List Keyword).isEmpty then 0 else 1) < 30)) = true := by rfl)
    (hline : (apos.endLine == pos.line) = true := by rfl) (hs : starEach (e :: []) X.env = (false, eval e X.env) :: starEach [] X.env := by rfl) (hplain : (backTo pos (starEach [] X.env)).any (·.1) = false := by rfl) : WE X ρ M (.Call (.Attribute o "pop" apos) [e] [] pos) Φ := .mk fun {Z} σ H Q en w k =>
  eOf (pe_bm PySem.F.plainAttrs_list PySem.F.slot_list_pop PySem.F.type_list_pop mt_popAt pe_sem (pa_cons pe_sem pa_nil hs) hbase hfew hline hs hplain) (h.run σ H _ en w fun v d H1 M1 e1 w1 r1 hz => by
    obtain ⟨q, ds0, rfl, hM, hz⟩ := hz
    cases r1
    obtain ⟨vs0, h0, _⟩ := w1.1 q _ hM
    refine ⟨.inl ⟨rfl, _, .inl (.inl h0)⟩, hz.run σ H1 _ (en.mono e1) w1 fun u y H2 M2 e2 w2 r2 hy => ?_⟩
    obtain ⟨ds, i, k', x, rfl, hM2, h1, h2, h3, h4, hy⟩ := hy
    cases r2
    obtain ⟨vs, hv, rs⟩ := w2.1 q _ hM2
    obtain ⟨vx, hvx, rx⟩ := rs.get h4
    refine ⟨q, vs, i, k', vx, rfl, rfl, hv, h1, h2, by rw [rs.length]; exact h3, hvx, ?_⟩
    have x3 : Ext M2 _ H2 (mset M2 q (.lst (ds.eraseIdx k'))) (upd H2 q (.lst (vs.eraseIdx k'))) := Ext.put w2 hM2
    exact k _ _ _ _ ((e1.trans e2).trans x3) (w2.put hM2 ⟨_, upd_same, (rs.erase k').mono x3⟩) (rx.mono x3) hy)
end
end DL
namespace W
open PySem PySem.Spec PyProof.Rows L2 DL SX PL
section
variable {P : Program} {w : World} {K : PySem.W.Frag} {mg : Str → Option Value} {base : Heap} {C U : Addr}
theorem insM {M : Mp} {t : T} : InsOf M C (planN C t) (fldsN C t) := by rw [planN_ins]; exact ⟨rfl, rfl⟩
/-- a question of a plan with names -/
def cGetN (C : Addr) (g : T → D) : Con := fun ds M Φ => ∃ t, ds = [planN C t] ∧ Φ (g t) M
theorem ok_word_n (X : Px K mg C) : BodyOk P w K mg base "Plan.word" s_Plan_word ["self"] 1 0 (cGetN C fun t => .str (wordT t)) := by
  intro f cdv A outer s H E hr ds M Φ hl hc
  obtain ⟨t, rfl, hc⟩ := hc
  exact wss_cons (ws_ret (we_fld (C := C) (we_var 0 rfl ⟨_, _, insM, X.cl, X.na _ (by decide +kernel), lk_word, Lets.of hc⟩)))
theorem ok_text_n (X : Px K mg C) : BodyOk P w K mg base "Plan.text" s_Plan_text ["self"] 1 0 (cGetN C fun t => tS (txt t)) := by
  intro f cdv A outer s H E hr ds M Φ hl hc
  obtain ⟨t, rfl, hc⟩ := hc
  exact wss_cons (ws_ret (we_fld (C := C) (we_var 0 rfl ⟨_, _, insM, X.cl, X.na _ (by decide +kernel), lk_text, Lets.of hc⟩)))
theorem ok_names_g (X : Px K mg C) : BodyOk P w K mg base "Plan.names" s_Plan_names ["self"] 1 0 (cGetN C fun t => .tup ((nmT t).map D.str)) := by
  intro f cdv A outer s H E hr ds M Φ hl hc
  obtain ⟨t, rfl, hc⟩ := hc
  exact wss_cons (ws_ret (we_fld (C := C) (we_var 0 rfl ⟨_, _, insM, X.cl, X.na _ (by decide +kernel), lk_names, Lets.of hc⟩)))
def cSome : Con := fun ds M Φ => ∃ p xs n a c d, ds = [.ob p, .lst xs, .int (n : Nat)] ∧ n ≤ xs.length ∧ xs.length ≤ 1000 ∧ M p = some (potL a c d) ∧ cOk c ∧ 0 ≤ d ∧ d + (n : Nat) < 100000 ∧ ∀ ys a' d', ys.length = n → (∀ y ∈ ys, y ∈ xs) → (xs.Nodup → ys.Nodup) → d ≤ d' → d' ≤ d + (n : Nat) → Φ (.lst ys) (mset M p (potL a' c d'))
abbrev nSome : List Str := ["_law_pot_here", "_law_pool", "_law_wanted", "_law_left", "_law_found", "_law_turn"]
theorem perm_erase {l : List D} {k : Nat} {x : D} (h : l[k]? = some x) : l.Perm (x :: l.eraseIdx k) := by
  induction l generalizing k with
  | nil => simp at h
  | cons y r ih =>
    cases k with
    | zero => simp at h; subst h; simp
    | succ k =>
      rw [List.eraseIdx_cons_succ]
      exact ((ih (by simpa using h)).cons y).trans (.swap x y _)
theorem ok_some (F : Fx w K mg) (F1 : Fc P w K mg base "_law_take" [] 1 2 cTake) : BodyOk P w K mg base "_law_some" s__law_some nSome 3 1 cSome := by
  intro f cdv A outer s0 H E hr ds M Φ hl hc
  obtain ⟨p, xs, n, a, c, d, rfl, hn, hx, hM, co, d0, d1, hc⟩ := hc
  have nd : nSome.Nodup := by decide +kernel
  refine wss_cons (ws_par 3 4 nd (wa_cons (we_listOfM (F.bn _ (by decide +kernel)) (we_var 1 rfl ⟨xs, .inl rfl, fun q1 h1 => wa_cons (we_lstM (wa_nil ⟨Nat.zero_le _, fun q2 h2 => wa_nil ⟨_, _, rfl, ?_⟩⟩))⟩))))
  have hpq1 : p ≠ q1 := fun e => by rw [e, h1] at hM; cases hM
  have hq12 : q1 ≠ q2 := fun e => by rw [e, mset_same] at h2; cases h2
  have hpq2 : p ≠ q2 := fun e => by rw [← e, mset_ne hpq1, hM] at h2; cases h2
  have h2' : M q2 = none := by rw [mset_ne (Ne.symm hq12)] at h2; exact h2
  refine wss_cons (ws_for PassesOwn.never (wi_range1 (F.bn _ (by decide +kernel)) (wa_cons (we_var 2 rfl (wa_nil ⟨_, rfl, by omega, by omega, ?_⟩)))))
  rw [show ((n : Nat) : Int).toNat = n by omega]
  refine ⟨fun i ρ' M' => ∃ o5 l f a' d', ρ' = [some (.ob p), some (.lst xs), some (.int (n : Nat)), some (.ob q1), some (.ob q2), o5] ∧ M' p = some (potL a' c d') ∧ M' q1 = some (.lst l) ∧ M' q2 = some (.lst f) ∧ (∀ b, b ≠ p → b ≠ q1 → b ≠ q2 → M' b = M b) ∧ f.length = i ∧ xs.Perm (f ++ l) ∧ d ≤ d' ∧ d' ≤ d + (i : Nat), ⟨_, xs, [], a, d, rfl, by rw [mset_ne hpq2, mset_ne hpq1]; exact hM, by rw [mset_ne hq12, mset_same], mset_same, fun b e1 e2 e3 => by rw [mset_ne e3, mset_ne e2], rfl, .refl _, Int.le_refl _, by omega⟩, ?_, ?_⟩
  · rintro i x ρ' M' hx2 ⟨o5, l, f, a', d', rfl, m1, m2, m3, m4, hfl, hpm, k1, k2⟩
    obtain ⟨hi, rfl⟩ := rngD_get hx2
    have hll : l.length + i = xs.length := by rw [hpm.length_eq, List.length_append]; omega
    refine wg_name 5 ?_ nd
    refine wss_cons (ws_expr (we_append (we_var 4 rfl ⟨q2, f, rfl, m3, we_popAt (we_var 3 rfl ⟨q1, l, rfl, m2, we_call F1 (hr.mono (by decide)) (wa_cons (we_var 0 rfl (wa_cons (we_len (F.bn _ (by decide +kernel)) (we_var 3 rfl ⟨_, lenO m2, wa_nil ⟨rfl, p, _, a', c, d', rfl, by omega, ?_, m1, co, by omega, by omega, ?_⟩⟩)))))⟩)⟩)))
    · have : (1000000 : Int) ≤ 10 ^ 40 := by decide +kernel
      omega
    intro r a2 e2 r0 r1 k3 k4
    obtain ⟨j, rfl⟩ := Int.eq_ofNat_of_zero_le r0
    have hj : j < l.length := by omega
    have hg := List.getElem?_eq_getElem hj
    refine ⟨l, _, j, l[j], rfl, by rw [mset_ne (Ne.symm hpq1)]; exact m2, by omega, by omega, ?_, hg, f, by rw [mset_ne (Ne.symm hq12), mset_ne (Ne.symm hpq2)]; exact m3, by rw [sizeLine_eq]; omega, ?_⟩
    · unfold seqIndex?
      simp
      omega
    refine wss_nil ⟨_, l.eraseIdx j, f ++ [l[j]], a2, e2, rfl, by rw [mset_ne hpq2, mset_ne hpq1, mset_same], by rw [mset_ne hq12, mset_same], mset_same, fun b e1 e2 e3 => by rw [mset_ne e3, mset_ne e2, mset_ne e1]; exact m4 b e1 e2 e3, by rw [List.length_append, hfl]; rfl, ?_, by omega, by omega⟩
    refine hpm.trans ?_
    rw [List.append_assoc]
    exact (perm_erase hg).append_left f
  · rintro ρ' M' ⟨o5, l, f, a', d', rfl, m1, m2, m3, m4, hfl, hpm, k1, k2⟩
    rw [rngD_len] at hfl k2
    refine wss_cons (ws_ret (we_var 4 rfl ⟨.lst f, mset M p (potL a' c d'), fun b => ?_, .lst m3 (by rw [mset_ne (Ne.symm hpq2)]; exact h2'), hc f a' d' hfl (fun y hy => hpm.mem_iff.mpr (List.mem_append_left _ hy)) (fun nx => (List.nodup_append.mp (hpm.nodup_iff.mp nx)).1) k1 k2⟩))
    by_cases e1 : b = p
    · rw [e1, mset_same]; exact .inl m1.symm
    · rw [mset_ne e1]
      by_cases e2 : b = q1
      · rw [e2]; exact .inr h1
      · by_cases e3 : b = q2
        · rw [e3]; exact .inr h2'
        · exact .inl (m4 b e1 e2 e3).symm
def cPlanL (C : Addr) (h : Nat) : Con := fun ds M Φ => ∃ t, ds = [loreD t] ∧ Good t ∧ (lv t).length < 1000 ∧ (nmT t).length ≤ 3 ∧ (txt t).length ≤ 100000 ∧ ht t ≤ h ∧ ht t ≤ 60 ∧ Φ (planN C t) M
theorem ok_planl (h : Nat) (F1 : Fc P w K mg base "_law_text" [] (h + 1) 1 (cText h)) (F2 : Kc P w K mg base "Plan" C [] (2 * h + 6) 2 (cInitN C h)) : BodyOk P w K mg base "_law_plan" s__law_plan ["_law_lore"] 1 (2 * h + 7) (cPlanL C h) := by
  intro f cdv A outer s H E hr ds M Φ hl hc
  obtain ⟨t, rfl, g, h1, h2, h3, h4, h5, hc⟩ := hc
  exact wss_cons (ws_ret (we_plan_n F2 (hr.mono (by omega)) (we_call F1 (hr.mono (by omega)) (wa_cons (we_var 0 rfl (wa_nil ⟨rfl, t, rfl, g, h3, h4, t, rfl, g, h1, h2, h3, h4, h5, Lets.of hc⟩))))))
end
end W
namespace W
open PySem PySem.Spec PyProof.Rows L2 DL SX PL
section
variable {P : Program} {w : World} {K : PySem.W.Frag} {mg : Str → Option Value} {base : Heap} {C : Addr}
def cTPut (C : Addr) (h : Nat) : Con := fun ds M Φ => ∃ t x u, ds = [planN C t, tS x, tS (txt u)] ∧ Good t ∧ Good u ∧ ht t ≤ h ∧ (txt t).length + (lv t).length * (txt u).length ≤ 100000 ∧ (txt u).length ≤ 100000 ∧ Φ (tS (txt (PL.putT x u t))) M
abbrev nTPut : List Str := ["plan", "name", "text", "many", "part", "texts"]
theorem joinL_len (z : List Nat) (h3 : z.length = 3) : ∀ ps : List (List Nat), (ps.map (·.length)).sum + ps.length * 3 ≤ (TL.joinL z ps).length + 3
  | [] => by rw [TL.joinL]; simp
  | [p] => by rw [TL.joinL]; simp
  | p :: q :: r => by
    have ih := joinL_len z h3 (q :: r)
    rw [TL.joinL, List.map_cons, List.sum_cons, List.length_cons, List.length_append, List.length_append]
    omega
theorem joinL_mem {z : List Nat} {p : List Nat} : ∀ {ps : List (List Nat)}, p ∈ ps → p.length ≤ (TL.joinL z ps).length
  | [q], h => by rw [List.mem_singleton.mp h, TL.joinL]; exact Nat.le_refl _
  | q :: r :: l, h => by
    rw [TL.joinL, List.length_append, List.length_append]
    rcases List.mem_cons.mp h with rfl | h
    · omega
    · have := joinL_mem (z := z) h; omega
theorem lvL_mem {v : T} : ∀ {ts : List T}, v ∈ ts → (lv v).length ≤ (lvL ts).length
  | t :: ts, h => by
    rw [lvL, List.length_append]
    rcases List.mem_cons.mp h with rfl | h
    · omega
    · have := lvL_mem h; omega
theorem hts_mem {v : T} : ∀ {ts : List T}, v ∈ ts → ht v ≤ hts ts
  | t :: ts, h => by
    rw [hts]
    rcases List.mem_cons.mp h with rfl | h
    · omega
    · have := hts_mem h; omega
theorem S_inj {x y : List Nat} : S x = S y ↔ x = y := ⟨fun h => by
  have := congrArg (fun z : Str => z.cps.toList) h
  simpa [S] using this, fun h => by rw [h]⟩
theorem ok_text_put (h : Nat) (F : Fx w K mg) (Y : Px K mg C) (F1 : Pc P w K mg base C "word" 1 (cGetN C fun t => .str (wordT t))) (F2 : Pc P w K mg base C "text" 1 (cGetN C fun t => tS (txt t))) (F3 : Fc P w K mg base "copies_text" [] 1 3 cCopT) (F4 : Fc P w K mg base "row_text" [] 1 2 (fun ds M Φ => ∃ (s : Bool) (y : D) (xs : List (List Nat)), ds = [.str (wrd s), y] ∧ LstOf M y (xs.map tS) ∧ ((xs.map (·.length)).sum + xs.length * 3) ≤ 1000000 ∧ Φ (tS (40 :: (TL.joinL (sep s) xs ++ [41]))) M))
    (F5 : ∀ j, h = j + 1 → Fc P w K mg base "text_put" [] (j + 3) 3 (cTPut C j)) : BodyOk P w K mg base "text_put" s_text_put nTPut 3 (h + 2) (cTPut C h) := by
  intro f cdv A outer s0 H E hr ds M Φ hl hc
  obtain ⟨t, x, u, rfl, g, gu, hh, hb, hu, hc⟩ := hc
  have nd : nTPut.Nodup := by decide +kernel
  refine wss_cons (ws_if (wt_eqS (we_prop F1 (hr.mono (by omega)) (we_var 0 rfl ⟨_, insM, t, rfl, we_gstr F.gNAME ⟨_, rfl, ?_⟩⟩))))
  by_cases hn : ∃ y, t = .name y
  · obtain ⟨y, rfl⟩ := hn
    rw [show decide (wordT (.name y) = ("name" : Str)) = true from rfl]
    refine wss_cons (ws_ret (we_if (wt_eqS (we_prop F2 (hr.mono (by omega)) (we_var 0 rfl ⟨_, insM, .name y, rfl, we_var 1 rfl ⟨_, rfl, ?_⟩⟩)))))
    rw [PL.putT] at hc
    by_cases e : y = x
    · rw [if_pos e] at hc
      rw [decide_eq_true (show S (txt (.name y)) = S x by rw [txt, e])]
      exact we_var 2 rfl (Lets.of hc)
    · rw [if_neg e] at hc
      rw [decide_eq_false (show ¬ S (txt (.name y)) = S x by rw [txt, S_inj]; exact e)]
      exact we_prop F2 (hr.mono (by omega)) (we_var 0 rfl ⟨_, insM, .name y, rfl, Lets.of hc⟩)
  have hn : ∀ y, t ≠ .name y := fun y e => hn ⟨y, e⟩
  rw [wordT_nn hn]
  refine wss_nil (wss_cons (ws_if (wt_val (we_fld (C := C) (we_var 0 rfl ⟨_, _, insM, Y.cl, Y.na _ (by decide +kernel), lk_copies, _, rfl, ?_⟩)))))
  cases t with
  | name y => exact absurd rfl (hn y)
  | cop s n v =>
    have hg : (subsN C (.cop s n v))[0]? = some (.tup [.int (n : Nat), planN C v]) := rfl
    obtain ⟨j, rfl⟩ : ∃ j, h = j + 1 := ⟨h - 1, by rw [ht] at hh; omega⟩
    have hlv : lv (.cop s n v) = lv v := by rw [lv]
    have hxt : (txt (.cop s n v)).length = (TL.numL n).length + (txt v).length + 3 := by
      rw [txt]; simp only [List.length_cons, List.length_append, List.length_nil]; omega
    have hpl := put_len x u (t := v) g.2.2
    rw [hlv, hxt] at hb
    refine wss_cons (ws_asg (we_ix (we_fld (C := C) (we_var 0 rfl ⟨_, _, insM, Y.cl, Y.na _ (by decide +kernel), lk_groups, we_int ⟨((0 : Nat) : Int), _, rfl, ixL (atI_nat hg), ?_⟩⟩))))
    refine wg_tup ⟨rfl, rfl, wgs_cons (wg_name 3 (wgs_cons (wg_name 4 (wgs_nil ⟨rfl, ?_⟩) nd)) nd)⟩
    refine wss_cons (ws_ret (we_call F3 (hr.mono (by omega)) (wa_cons (we_prop F1 (hr.mono (by omega)) (we_var 0 rfl ⟨_, insM, .cop s n v, rfl, wa_cons (we_var 3 rfl (wa_cons (we_call (F5 j rfl) (hr.mono (by omega)) (wa_cons (we_var 4 rfl (wa_cons (we_var 1 rfl (wa_cons (we_var 2 rfl (wa_nil ⟨rfl, v, x, u, rfl, g.2.2, gu, by rw [ht] at hh; omega, by omega, hu, wa_nil ⟨rfl, s, n, txt (PL.putT x u v), rfl, g.2.1, by omega, Lets.of ?_⟩⟩))))))))))⟩)))))
    rw [PL.putT, txt] at hc
    exact hc
  | one =>
    have e1 : subsN C .one = [] := rfl
    refine wss_nil (wss_cons (ws_setLc 5 nd (blkOk_by (N := nTPut) (sc := defScope s_text_put) (own := [("many", 3), ("part", 4)]) (by decide +kernel)) (fun _ _ _ _ _ => pg_tup rfl (pgs_cons (pg_name (i := 3) nd rfl (Or.inl rfl)) (pgs_cons (pg_name (i := 4) nd rfl (Or.inl rfl)) pgs_nil)) rfl rfl) (gt_two (by decide) (by decide)) (fun _ _ _ _ _ => pts_nil) tk_nil (wi_list (we_fld (C := C) (we_var 0 rfl ⟨_, _, insM, Y.cl, Y.na _ (by decide +kernel), lk_groups, _, .inl rfl, ?_⟩))) rfl))
    rw [e1]
    refine ⟨Nat.zero_le _, fun i acc M' => M' = M ∧ acc = [], ⟨rfl, rfl⟩, fun i z acc M' hx => by simp at hx, ?_⟩
    rintro acc M' ⟨hM', rfl⟩
    obtain rfl : M = M' := hM'.symm
    refine wss_cons (ws_ret (we_if (wt_neNil hr.units (we_var 5 rfl ⟨[], [], 1, rfl, cmps_nil, by decide, ?_⟩))))
    rw [PL.putT] at hc
    exact we_prop F2 (hr.mono (by omega)) (we_var 0 rfl ⟨_, insM, .one, rfl, Lets.of hc⟩)
  | row s ts =>
    obtain ⟨j, rfl⟩ : ∃ j, h = j + 1 := ⟨h - 1, by rw [ht] at hh; omega⟩
    have hg : subsN C (.row s ts) = ts.map fun v => .tup [.int ((1 : Nat) : Int), planN C v] := by
      unfold subsN; rw [show kids (.row s ts) = ts.map fun v => (1, v) from rfl, List.map_map]; rfl
    have hpl := put_len x u (t := .row s ts) g
    have gs := goods_all.mp g.2
    have hj := joinL_len (sep s) rfl (txts (putTs x u ts))
    have hxt : (txt (.row s ts)).length = (TL.joinL (sep s) (txts ts)).length + 2 := by
      rw [txt]; simp only [List.length_cons, List.length_append, List.length_nil]
    have hxp : (txt (PL.putT x u (.row s ts))).length = (TL.joinL (sep s) (txts (putTs x u ts))).length + 2 := by
      rw [PL.putT, txt]; simp only [List.length_cons, List.length_append, List.length_nil]
    have hlv : lv (.row s ts) = lvL ts := by rw [lv]
    have hh2 : hts ts ≤ j := by rw [ht] at hh; omega
    have part : ∀ v ∈ ts, Good v ∧ ht v ≤ j ∧ (txt v).length + (lv v).length * (txt u).length ≤ 100000 := fun v hv => by
      have h1 := joinL_mem (z := sep s) (p := txt v) (ps := txts ts) (by rw [txts_map]; exact List.mem_map_of_mem hv)
      have h2 := Nat.mul_le_mul_right (txt u).length (lvL_mem hv)
      have h3 := hts_mem hv
      rw [hlv] at hb
      exact ⟨gs v hv, by omega, by omega⟩
    have tl : 2 ≤ ts.length := g.1
    have tz : ts.length * 3 ≤ (txt (.row s ts)).length + 3 := by
      have := joinL_len (sep s) rfl (txts ts)
      rw [show (txts ts).length = ts.length by rw [txts_map, List.length_map]] at this
      omega
    refine wss_nil (wss_cons (ws_setLc 5 nd (blkOk_by (N := nTPut) (sc := defScope s_text_put) (own := [("many", 3), ("part", 4)]) (by decide +kernel)) (fun _ _ _ _ _ => pg_tup rfl (pgs_cons (pg_name (i := 3) nd rfl (Or.inl rfl)) (pgs_cons (pg_name (i := 4) nd rfl (Or.inl rfl)) pgs_nil)) rfl rfl) (gt_two (by decide) (by decide)) (fun _ _ _ _ _ => pts_nil) tk_nil (wi_list (we_fld (C := C) (we_var 0 rfl ⟨_, _, insM, Y.cl, Y.na _ (by decide +kernel), lk_groups, _, .inl rfl, ?_⟩))) rfl))
    refine ⟨by rw [hg, List.length_map, sizeLine_eq]; omega, fun i acc M' => M' = M ∧ acc = (ts.take i).map fun v => tS (txt (PL.putT x u v)), ⟨rfl, rfl⟩, ?_, ?_⟩
    · rintro i z acc M' hx ⟨rfl, rfl⟩
      rw [hg, List.getElem?_map] at hx
      obtain ⟨v, hv, rfl⟩ := Option.map_eq_some_iff.mp hx
      obtain ⟨p1, p2, p3⟩ := part v (List.mem_of_getElem? hv)
      refine ⟨_, _, rfl, ?_⟩
      intro s1 H1 C' cl fp
      refine we_call (F5 j rfl) (hr.mono (by omega)) (wa_cons (we_var 4 rfl (wa_cons (we_var 1 rfl (wa_cons (we_var 2 rfl (wa_nil ⟨rfl, v, x, u, rfl, p1, gu, p2, p3, hu, rfl, ?_⟩)))))))
      rw [take_snoc hv, List.map_append]; rfl
    · rintro acc M' ⟨rfl, rfl⟩
      rw [hg, List.length_map, List.take_length]
      have cp : CmpDs (ts.map fun v => tS (txt (PL.putT x u v))) (ts.map fun v => PyData.str (S (txt (PL.putT x u v)))) 0 := cmps_map (Nat.le_refl _) fun v hv => cmp_str fun c hc => by
        have hc : c ∈ TL.tl (S (txt (PL.putT x u v))) := hc
        rw [show TL.tl (S (txt (PL.putT x u v))) = txt (PL.putT x u v) by simp [TL.tl]] at hc
        have := txt_lt (put_good gu (gs v hv)) c hc
        omega
      refine wss_cons (ws_ret (we_if (wt_neNil hr.units (we_var 5 rfl ⟨_, _, _, rfl, cp, by decide, ?_⟩))))
      have ne : (ts.map fun v => tS (txt (PL.putT x u v))).isEmpty = false := by
        cases ts with
        | nil => exact absurd tl (by decide)
        | cons a b => rfl
      rw [ne]
      refine we_call F4 (hr.mono (by omega)) (wa_cons (we_prop F1 (hr.mono (by omega)) (we_var 0 rfl ⟨_, insM, .row s ts, rfl, wa_cons (we_var 5 rfl (wa_nil ⟨rfl, s, .lst (ts.map fun v => tS (txt (PL.putT x u v))), txts (PL.putTs x u ts), ?_, ?_, ?_, Lets.of ?_⟩))⟩)))
      · rfl
      · show (txts (PL.putTs x u ts)).map tS = ts.map fun v => tS (txt (PL.putT x u v))
        rw [txts_map, PL.putTs_map, List.map_map, List.map_map]; rfl
      · rw [show (txts (PL.putTs x u ts)).length = ts.length by rw [txts_map, List.length_map, PL.putTs_map, List.length_map]] at hj ⊢
        rw [hlv, hxt] at hb
        rw [hlv, hxt, hxp] at hpl
        omega
      · rw [PL.putT, txt] at hc
        exact hc
end
end W
namespace DL
open PySem PySem.Spec PyProof.Rows L2
section
variable {X : Cx} {ρ : Rho} {M : Mp} {Φ : D → Mp → Prop} {Θ : Bool → Mp → Prop} {a b e o : Expr} {es : List Expr} {pos p apos : Pos}
theorem we_dict0 (h : Φ (.dK []) M) : WE X ρ M (.Dict [] [] pos) Φ := .mk fun σ H Q en w k => eOf pe_dnewK fun p hp => k.new w hp (.dK upd_same (w.fresh hp) .nil) h
end
end DL
namespace DL
open PySem PySem.Spec PyProof.Rows L2
section
variable {X : Cx} {ρ : Rho} {M : Mp} {Φ : D → Mp → Prop} {Ψ : DE} {a b e o : Expr} {es : List Expr} {pos p apos : Pos} {ss : List Stmt}
inductive FzF (M M' : Mp) : List (Str × D) → List (Str × D) → Prop where
  | nil : FzF M M' [] []
  | cons {k : Str} {d d' : D} {r r' : List (Str × D)} : Fz M M' d d' → FzF M M' r r' → FzF M M' ((k, d) :: r) ((k, d') :: r')
theorem FzF.rep {K : PySem.W.Frag} {M M' : Mp} {Z : Zn} {H : Hp} (l : Les M' M) (w : Wd K M Z H) : ∀ {vs : List (Str × V)} {fs fs' : List (Str × D)}, FzF M M' fs fs' → RepF K M Z H vs fs → RepF K M' Z H vs fs'
  | _, _, _, .nil, .nil => .nil
  | _, _, _, .cons f t, .cons r u => .cons (f.rep l w r) (FzF.rep l w t u)
end
end DL
namespace DL
open PySem PySem.Spec PyProof.Rows L2 SlX
/-- the slots, one stored -/
def putO (i : Nat) (d : D) (os : List (Option D)) : List (Option D) := (os ++ List.replicate (i + 1 - os.length) none).set i (some d)
section
variable {K : PySem.W.Frag} {M : Mp} {Z : Zn} {H : Hp}
theorem RepO.length : ∀ {vs : List (Option V)} {os : List (Option D)}, RepO K M Z H vs os → vs.length = os.length
  | _, _, .nil => rfl
  | _, _, .val _ t => by rw [List.length_cons, List.length_cons, t.length]
  | _, _, .any t => by rw [List.length_cons, List.length_cons, t.length]
theorem RepO.append : ∀ {vs ws : List (Option V)} {os us : List (Option D)}, RepO K M Z H vs os → RepO K M Z H ws us → RepO K M Z H (vs ++ ws) (os ++ us)
  | _, _, _, _, .nil, q => q
  | _, _, _, _, .val r t, q => .val r (t.append q)
  | _, _, _, _, .any t, q => .any (t.append q)
theorem RepO.nones : ∀ n : Nat, RepO K M Z H (List.replicate n none) (List.replicate n none)
  | 0 => .nil
  | n + 1 => .any (RepO.nones n)
theorem RepO.set {v : V} {d : D} (r : Rep K M Z H v d) : ∀ {vs : List (Option V)} {os : List (Option D)} (i : Nat), RepO K M Z H vs os → RepO K M Z H (vs.set i (some v)) (os.set i (some d))
  | _, _, _, .nil => .nil
  | _, _, 0, .val _ t => .val r t
  | _, _, 0, .any t => .val r t
  | _, _, i + 1, .val q t => .val q (RepO.set r i t)
  | _, _, i + 1, .any t => .any (RepO.set r i t)
theorem RepO.put {v : V} {d : D} {vs : List (Option V)} {os : List (Option D)} (r : Rep K M Z H v d) (i : Nat) (q : RepO K M Z H vs os) : RepO K M Z H (SlX.putS i v vs) (putO i d os) := by
  unfold SlX.putS putO
  rw [q.length]
  exact RepO.set r i (q.append (RepO.nones _))
theorem RepO.get : ∀ {vs : List (Option V)} {os : List (Option D)} {i : Nat} {d : D}, RepO K M Z H vs os → os[i]? = some (some d) → ∃ v, vs[i]? = some (some v) ∧ Rep K M Z H v d
  | _, _, _, _, .nil, e => by simp at e
  | _, _, 0, _, .val r _, e => by simp at e; subst e; exact ⟨_, rfl, r⟩
  | _, _, 0, _, .any _, e => by simp at e
  | _, _, i + 1, d, .val _ t, e => RepO.get (i := i) t (by simpa using e)
  | _, _, i + 1, d, .any t, e => RepO.get (i := i) t (by simpa using e)
end
def spS (K : PySem.W.Frag) (C : Addr) (n : Nat) (c : ConX) : Sp := fun vs H Q E => ∃ a dx ds M Z Φ Ξ, H a = some (.ins C dx []) ∧ ds.length = n ∧ Reps K M Z (slH H a C dx []) vs ds ∧ Wd K M Z (slH H a C dx []) ∧ c ds M Φ Ξ ∧ KE K M Z (slH H a C dx []) Φ Q ∧ KX K M Z (slH H a C dx []) Ξ E
section
variable {P : Program} {w : World} {K : PySem.W.Frag} {mg : Str → Option Value} {base : Heap} {x qual : Str} {st : Stmt} {dvs : List V} {kws : List (Str × V)} {f C : Addr} {fd : FuncData} {N ps : List Str} {k n : Nat} {c : ConX} {dd : List D}
/-- the slotted class of the name x, the contract of its __init__, which may raise -/
structure Ksx (P : Program) (w : World) (K : PySem.W.Frag) (mg : Str → Option Value) (base : Heap) (x : Str) (C : Addr) (dd : List D) (k n : Nat) (c : ConX) : Prop where
  at_ : mg x = some (.ref C)
  ex : ∃ (f : Addr) (fd : FuncData) (ps : List Str) (dvs : List V) (ds : List Value), FnOk P w K mg base (CX P w) k f fd ps (spS K C n c) ∧ Mk K C f ∧ Binds K fd ps ds ∧ Vals dvs ds ∧ ∀ M Z H, Reps K M Z H dvs dd
theorem Ksx.up {j : Nat} (F : Ksx P w K mg base x C dd j n c) (h : j ≤ k) : Ksx P w K mg base x C dd k n c := by
  obtain ⟨f, fd, ps, dvs, ds, G, r⟩ := F.ex
  exact ⟨F.at_, f, fd, ps, dvs, ds, G.mono h, r⟩
end
end DL
namespace DL
open PySem PySem.Spec PyProof.Rows L2
section
variable {M : Model} {prog : Program} {w : World} {A : Around} {E : Value → Shared → Prop} {s : Shared} {K : PySem.W.Frag} {x y f C : Addr} {ox : Obj} {od : Option Obj}
theorem binop_here {op : Operator} {b : Value} {Q : Value → Shared → Prop} (X : K.In s.heap) (I : PySem.W.InstAt s.heap x ox C od) (hb : PySem.W.Looks (model prog w) s.heap (typeOf b) (.ref C)) (hc : PySem.W.selfFirst K C = true)
    (hs : PySem.W.findIn K (.ref C) (PySem.dunder op.info.2) = some (some (.ref f))) (hf : PySem.W.isFn K (.ref f) = true)
    (h : wpAny (model prog w) A (call (.ref f) [.ref x, b]) (PySem.W.CmpBack Q) E s) : wpAny (model prog w) A (binaryOp op (.ref x) b) Q E s := by
  obtain ⟨cd, hcd, hm⟩ := PySem.W.any_some hc
  obtain ⟨rest, hm⟩ : ∃ rest, cd.mro = .ref C :: rest := by
    cases q : cd.mro with
    | nil => rw [q] at hm; cases hm
    | cons a r => rw [q] at hm; exact ⟨r, by rw [List.head?_cons] at hm; cases (beq_iff_eq.mp hm); rfl⟩
  unfold binaryOp
  refine wpAny_holding (wpAny_bind ?_)
  unfold binaryOp1
  refine wpAny_bind (I.type.here (wpAny_bind (hb.here (wpAny_bind ((PySem.W.fills_K X hcd hm hs).here ?_)))))
  simp only [beq_self_eq_true, if_true]
  refine wpAny_bind (wpAny_pure ?_)
  simp only [Bool.and_false, Bool.false_eq_true, if_false, Bool.false_and]
  refine wpAny_bind (wpAny_pure ?_)
  simp only [Bool.false_eq_true, if_false]
  refine wpAny_bind (m := tryMethod (.ref x) _ b) ?_
  unfold tryMethod
  refine wpAny_bind (PySem.W.special_fn X I hs (beq_iff_eq.mp hf) (wpAny_mono h (fun v s' hv => ?_) fun _ _ e => e))
  cases v <;> first | exact hv.elim | exact wpAny_pure (wpAny_pure (wpAny_pure hv))
end
end DL
namespace DL
open PySem PySem.Spec PyProof.Rows L2
section
variable {X : Cx} {ρ : Rho} {M : Mp} {Φ : D → Mp → Prop} {Ξ : Addr → List (Str × D) → Mp → Prop} {a b o : Expr} {pos : Pos} {C : Addr} {k : Nat} {cx : ConX} {nm : Str}
def tBinX (X : Cx) (C : Addr) (c : ConX) (E : XK) (ta tb : TE) : TE := fun σ H Q => ta σ H fun x H1 => tb σ H1 fun y H2 => ∃ p q dx dy fs gs, x = V.ref p ∧ y = V.ref q ∧ H2 p = some (.ins C dx fs) ∧ H2 q = some (.ins C dy gs) ∧ spX X.K 2 c [x, y] H2 (fun z H' => (∃ r, z = .ref r) ∧ Q z H') E
theorem pe_binX {ta tb : TE} {E : XK} {op : Operator} (F : Mcx X.prog X.w X.K X.mg X.base C nm [] k 2 cx) (hn : PySem.dunder op.info.2 = nm) (hr : Room k X.A) (hc : PySem.W.selfFirst X.K C = true) (hx : Passes (CX X.prog X.w) X E) (ha : PE X a ta) (hb : PE X b tb) : PE X (.BinOp a op b pos) (tBinX X C cx E ta tb) := by
  refine ⟨fun pins s σ H Q I h => ?_⟩
  refine wpAny_BinOp (binT (R := fun x y H2 => ∃ p q dx dy fs gs, x = V.ref p ∧ y = V.ref q ∧ H2 p = some (.ins C dx fs) ∧ H2 q = some (.ins C dy gs) ∧ spX X.K 2 cx [x, y] H2 (fun z H' => (∃ r, z = .ref r) ∧ Q z H') E) ha hb I h fun v u s2 x y H2 I2 rx ry q => ?_)
  obtain ⟨p, q, dx, dy, fs, gs, rfl, rfl, hp, hq, hz⟩ := q
  obtain rfl : v = Value.ref p := rx
  obtain rfl : u = Value.ref q := ry
  obtain ⟨f, fd, ps, dvs, ds, F', hme, hbd, hd, hdd⟩ := F.ex
  have r0 : Reps X.K (fun _ => none) (fun _ => False) (fun _ => none) dvs [] := hdd _ _ _
  cases r0
  cases hd
  obtain ⟨mA, J, _⟩ := ins_get I2.hok hp
  obtain ⟨mB, J', _⟩ := ins_get I2.hok hq
  obtain ⟨od, J, _⟩ := J.look
  obtain ⟨od', J', _⟩ := J'.look
  refine binop_here I2.kIn J J'.type hc (by rw [hn]; exact hme.at_) hme.fn ?_
  refine wpAny_mono (run_fn F' hr hbd .nil hx I2 (vs := [.ref p, .ref q]) (.cons rfl (.cons rfl .nil)) hz) (fun r s' hz => ?_) fun _ _ e => e
  obtain ⟨z, H', I', rz, ⟨g, rfl⟩, qz⟩ := hz
  cases rz
  exact ⟨.ref g, H', I', rfl, qz⟩
/-- a * b, a + b of instances, which may raise -/
theorem wex_binO {op : Operator} (F : Mcx X.prog X.w X.K X.mg X.base C nm [] k 2 cx) (hr : Room k X.A) (hc : PySem.W.selfFirst X.K C = true)
    (h : WE X ρ M a fun x M1 => WE X ρ M1 b fun y M2 => ∃ fs gs, InsOf M2 C x fs ∧ InsOf M2 C y gs ∧ cx [x, y] M2 (fun d M3 => (∃ C' fs, d = .ins C' fs) ∧ Φ d M3) Ξ) (hn : PySem.dunder op.info.2 = nm := by rfl) : WEx X ρ M (.BinOp a op b pos) Φ Ξ := .mk fun {Z} σ H Q E en w k t kx =>
  eOf (pe_binX F hn hr hc t.pass pe_sem pe_sem) (bind2 h en w fun v u x y H2 M2 e2 w2 r1 r2 hz => by
    obtain ⟨fs, gs, h1, h2, hz⟩ := hz
    obtain ⟨p, dx, vs, rfl, hp, _⟩ := r1.asIns w2 h1
    obtain ⟨q, dy, us, rfl, hq, _⟩ := r2.asIns w2 h2
    refine ⟨p, q, dx, dy, vs, us, rfl, rfl, hp, hq, [x, y], M2, Z, _, Ξ, rfl, .cons r1 (.cons r2 .nil), w2, hz, fun z d H' M' e w' r' hz => ?_, kx.step e2⟩
    obtain ⟨⟨C', fs', rfl⟩, hz⟩ := hz
    refine ⟨?_, k.step e2 _ _ H' M' e w' r' hz⟩
    cases r' with
    | ins h m r => exact ⟨_, rfl⟩)
def tInvX (X : Cx) (C : Addr) (c : ConX) (E : XK) (ta : TE) : TE := fun σ H Q => ta σ H fun x H1 => ∃ p dx fs, x = V.ref p ∧ H1 p = some (.ins C dx fs) ∧ spX X.K 1 c [x] H1 Q E
theorem pe_invX {ta : TE} {E : XK} (F : Mcx X.prog X.w X.K X.mg X.base C "__invert__" [] k 1 cx) (hr : Room k X.A) (hx : Passes (CX X.prog X.w) X E) (ha : PE X o ta) : PE X (.UnaryOp .Invert o pos) (tInvX X C cx E ta) := by
  refine ⟨fun pins s σ H Q I h => ?_⟩
  refine UnaryOp_ (thn (ha.run pins s σ H _ I h) fun v s1 ⟨x, H1, I1, r1, q1⟩ => ?_)
  obtain ⟨p, dx, fs, rfl, hp, hz⟩ := q1
  obtain rfl : v = Value.ref p := r1
  obtain ⟨f, fd, ps, dvs, ds, F', hme, hbd, hd, hdd⟩ := F.ex
  have r0 : Reps X.K (fun _ => none) (fun _ => False) (fun _ => none) dvs [] := hdd _ _ _
  cases r0
  cases hd
  obtain ⟨mA, O, _⟩ := ins_get I1.hok hp
  obtain ⟨od, J, _⟩ := O.look
  unfold unaryOp
  refine wpAny_holding (wpAny_bind (PySem.W.special_fn I1.kIn J hme.at_ (beq_iff_eq.mp hme.fn) ?_))
  exact wpAny_mono (run_fn F' hr hbd .nil hx I1 (vs := [.ref p]) (.cons rfl .nil) hz) (fun _ _ z => wpAny_pure z) fun _ _ z => z
/-- ~o, which may raise -/
theorem wex_inv (F : Mcx X.prog X.w X.K X.mg X.base C "__invert__" [] k 1 cx) (hr : Room k X.A) (h : WE X ρ M o fun d M1 => ∃ fs, InsOf M1 C d fs ∧ cx [d] M1 Φ Ξ) : WEx X ρ M (.UnaryOp .Invert o pos) Φ Ξ := .mk fun {Z} σ H Q E en w k t kx =>
  eOf (pe_invX F hr t.pass pe_sem) (h.run σ H _ en w fun v d H1 M1 e1 w1 r1 hz => by
    obtain ⟨fs, hi, hz⟩ := hz
    obtain ⟨p, dx, vs, rfl, hp, _⟩ := r1.asIns w1 hi
    exact ⟨p, dx, vs, rfl, hp, [d], M1, _, Φ, Ξ, rfl, .cons r1 .nil, w1, hz, k.step e1, kx.step e1⟩)
end
end DL
namespace W
open PySem PySem.Spec PyProof.Rows L2 DL SX PL SlX
theorem kit_str (K : PySem.W.Frag) {v : AV} (hv : ∀ z, v ≠ .str z) : PySem.W.kitOne K (.type (avT v)) (.type "str") = some false := by
  cases v with
  | str z => exact absurd rfl (hv z)
  | _ => rfl
end W
namespace DL
open PySem PySem.Spec PyProof.Rows L2
section
variable {X : Cx} {ρ : Rho} {M : Mp} {Φ : D → Mp → Prop} {Θ : Bool → Mp → Prop} {a b c e f o : Expr} {pos apos : Pos}
/-- d.get(k, x), d a dict that is changed no more -/
theorem we_dKgetX (hu : X.A.units + 1 < cLine) (h : WE X ρ M o fun x M1 => ∃ kvs, x = .dK kvs ∧ WE X ρ M1 e fun y M2 => WE X ρ M2 f fun z M3 => ∃ k, y = .str k ∧ Φ ((valK kvs (.inr k)).getD z) M3)
    (m : M2 X o "get" apos e f pos := by exact ⟨rfl, rfl, rfl, rfl⟩) : WE X ρ M (.Call (.Attribute o "get" apos) [e, f] [] pos) Φ := .mk fun {Z} σ H Q en w k =>
  eOf (pe_dget2 hu pe_sem pe_sem pe_sem m) (h.run σ H _ en w fun v x H1 M1 e1 w1 r1 hz => by
    obtain ⟨kvs, rfl, hz⟩ := hz
    cases r1 with
    | dK hH0 m0 rs0 =>
      refine ⟨_, rfl, .inl ⟨_, .inl hH0⟩, hz.run σ H1 _ (en.mono e1) w1 fun u y H2 M2 e2 w2 r2 hz => hz.run σ H2 _ (en.mono (e1.trans e2)) w2 fun t z H3 M3 e3 w3 r3 hz3 => ?_⟩
      obtain ⟨kk, rfl, hz3⟩ := hz3
      have x13 := e2.trans e3
      have hH := (x13.1 _ _ hH0 m0).1
      have rs := rs0.mono x13
      cases r2
      refine ⟨_, .inl ⟨_, .inr kk, .inl hH, rfl, rfl⟩, ?_⟩
      have ks := k.step ((e1.trans e2).trans e3)
      cases hv : valK kvs (.inr kk) with
      | some d =>
        obtain ⟨v, h1, rv⟩ := rs.val hv
        rw [hv] at hz3
        rw [h1]
        exact ks.now w3 rv hz3
      | none =>
        rw [hv] at hz3
        have e0 : valV _ (Sum.inr kk) = none := rs.valN hv
        rw [e0]
        exact ks.now w3 r3 hz3)
/-- how long a shown text is -/
theorem sh_str {x : Str} {n : Nat} (h : ∀ c ∈ x.cps.toList, c < 0x110000) (hl : x.length ≤ n) : ShD (.str x) (10 * n + 2) := by
  refine ⟨by simp only [PyData.showable], ?_⟩
  simp only [PyData.shown]
  have := StrLaws.reprText_len x fun c hc => Nat.lt_trans (h c hc) (by decide)
  omega
end
end DL
namespace W
open PySem PySem.Spec PyProof.Rows L2 DL SX PL SlX
theorem stG_of {x : Str} (h1 : x.cps.toList.all (fun c => decide (c < 0x110000)) = true) (h2 : (PyData.str x).showable = true) (h3 : (PyData.str x).shown.length ≤ 41) : StG x := ⟨fun c hc => of_decide_eq_true (List.all_eq_true.mp h1 c hc), h2, h3⟩
theorem int_G (n : Nat) (h : n < 10 ^ 40) : AvG (.int (n : Int)) := .inl ⟨n, rfl, h⟩
section
variable {P : Program} {w : World} {K : PySem.W.Frag} {mg : Str → Option Value} {base : Heap} {C U : Addr}
/-- is it an int from l to h -/
def whB (v : AV) (l h : Int) : Bool := match v with
  | .int i => decide (l ≤ i) && decide (i ≤ h)
  | _ => false
def cIsIntA : Con := fun ds M Φ => ∃ v l h, ds = [avD v, .int l, .int h] ∧ Φ (.bl (whB v l h)) M
theorem ok_is_integer_a (F : Fx w K mg) : BodyOk P w K mg base "is_integer" s_is_integer ["value", "low", "high"] 3 0 cIsIntA := by
  intro f cdv A outer s H E hr ds M Φ hl hc
  obtain ⟨v, l, h, rfl, hc⟩ := hc
  by_cases hi : ∃ i, v = .int i
  · obtain ⟨i, rfl⟩ := hi
    exact ok_is_integer F f cdv A outer s H E hr _ M Φ rfl ⟨i, l, h, by rw [avD], hc⟩
  by_cases hb : ∃ b, v = .bl b
  · obtain ⟨b, rfl⟩ := hb
    rw [avD]
    refine wss_cons (ws_if (wt_ww (ww_or (wt_not (wt_val (we_isi (F.bn _ (by decide +kernel)) (we_var 0 rfl (we_bty (F.bn _ (by decide +kernel)) rfl ⟨_, _, true, rfl, rfl, (by intro C h; cases h), rfl, _, rfl, ?_⟩))))))))
    refine ww_or1 (wt_val (we_isi (F.bn _ (by decide +kernel)) (we_var 0 rfl (we_bty (F.bn _ (by decide +kernel)) rfl ⟨_, _, true, rfl, rfl, (by intro C h; cases h), rfl, _, rfl, ?_⟩))))
    exact wss_cons (ws_ret (we_bl (Lets.of hc)))
  · have e : whB v l h = false := by
      cases v with
      | int i => exact absurd ⟨i, rfl⟩ hi
      | _ => rfl
    rw [e] at hc
    have key : ∀ t : String, TyD M (avD v) (.type t) → PySem.W.kitOne K (.type t) (.type "int") = some false →
        WSs (bx P w K mg base ["value", "low", "high"] "is_integer" (defScope s_is_integer) f cdv A outer s H E) (DL.start ["value", "low", "high"] [avD v, .int l, .int h]) M (defBody s_is_integer) { nx := fun _ M' => Φ .non M', rt := Lets Φ } := fun t ht hk => by
      refine wss_cons (ws_if (wt_ww (ww_or (wt_not (wt_val (we_isi (F.bn _ (by decide +kernel)) (we_var 0 rfl (we_bty (F.bn _ (by decide +kernel)) rfl ⟨_, _, false, ht, rfl, (by intro C h; cases h), hk, _, rfl, ?_⟩))))))))
      exact wss_cons (ws_ret (we_bl (Lets.of hc)))
    refine key _ (avTy M v) ?_
    cases v with
    | int i => exact absurd ⟨i, rfl⟩ hi
    | bl b => exact absurd ⟨b, rfl⟩ hb
    | _ => rfl
def natV (n : Nat) : AV := .int (n : Int)
theorem natV_D (n : Nat) : avD (natV n) = .int (n : Nat) := by unfold natV; rw [avD]
def isI : AV → Bool
  | .int _ => true
  | .bl _ => true
  | _ => false
def isB : AV → Bool
  | .bl _ => true
  | _ => false
theorem kit_int (v : AV) : PySem.W.kitOne K (.type (avT v)) (.type "int") = some (isI v) := by cases v <;> rfl
theorem kit_bool (v : AV) : PySem.W.kitOne K (.type (avT v)) (.type "bool") = some (isB v) := by cases v <;> rfl
def cWhole3 : Con := fun ds M Φ => ∃ v l h, ds = [avD v, .int l, .int h] ∧ Φ (.bl (whB v l h)) M
theorem ok_whole3 (F : Fx w K mg) : BodyOk P w K mg base "_law_is_whole" s__law_is_whole ["_law_value", "_law_low", "_law_high"] 3 0 cWhole3 := by
  intro f cdv A outer s H E hr ds M Φ hl hc
  obtain ⟨v, l, h, rfl, hc⟩ := hc
  refine wss_cons (ws_ret (we_and (we_isi (F.bn _ (by decide +kernel)) (we_var 0 rfl (we_bty (F.bn _ (by decide +kernel)) rfl ⟨_, _, _, avTy M v, rfl, (by intro C h; cases h), kit_int v, _, rfl, ?_⟩)))))
  cases v with
  | int i =>
    refine we_and (we_not (we_isi (F.bn _ (by decide +kernel)) (we_var 0 rfl (we_bty (F.bn _ (by decide +kernel)) rfl ⟨_, _, _, avTy M (.int i), rfl, (by intro C h; cases h), kit_bool (.int i), _, rfl, _, rfl, ?_⟩))))
    refine we_one (we_leLe (we_var 1 rfl (we_var 0 (by rw [avD]; rfl) ⟨_, _, rfl, rfl, ?_⟩)))
    have e : whB (.int i) l h = (decide (l ≤ i) && decide (i ≤ h)) := rfl
    rw [e] at hc
    by_cases h0 : l ≤ i
    · rw [if_pos h0]
      rw [decide_eq_true h0, Bool.true_and] at hc
      exact we_var 2 rfl ⟨_, rfl, Lets.of hc⟩
    · rw [if_neg h0]
      rw [decide_eq_false h0, Bool.false_and] at hc
      exact Lets.of hc
  | bl x =>
    refine we_and (we_not (we_isi (F.bn _ (by decide +kernel)) (we_var 0 rfl (we_bty (F.bn _ (by decide +kernel)) rfl ⟨_, _, _, avTy M (.bl x), rfl, (by intro C h; cases h), kit_bool (.bl x), _, rfl, _, rfl, ?_⟩))))
    exact Lets.of hc
  | _ => exact Lets.of hc
def odds1 : List AV := [.non, .bl true, .bl false, .int 0, .int 1, .int (-1), .int (10 ^ 8), .str "", .str "a", .str "0", .tup [], .lst [], .dic, .tup [.int 0], .tup [.tup []], .lst [.int 0], .tup [.int 1, .int 2], .str "1", .str "(1 + 1)"]
def odds2 : List AV := [.tup [.str "x", .str "rows"], .str "circle", .str "one", .dct "x" "people" 1, .str "[2 1]"]
def odds : List AV := odds1 ++ odds2
theorem odds_rp : ∀ v ∈ odds, RpD v := by
  have s0 : StG "" := stG_of (by decide +kernel) (by decide +kernel) (by decide +kernel)
  have s1 : StG "a" := stG_of (by decide +kernel) (by decide +kernel) (by decide +kernel)
  have s2 : StG "0" := stG_of (by decide +kernel) (by decide +kernel) (by decide +kernel)
  have s3 : StG "1" := stG_of (by decide +kernel) (by decide +kernel) (by decide +kernel)
  have s4 : StG "(1 + 1)" := stG_of (by decide +kernel) (by decide +kernel) (by decide +kernel)
  have s5 : StG "x" := stG_of (by decide +kernel) (by decide +kernel) (by decide +kernel)
  have s6 : StG "rows" := stG_of (by decide +kernel) (by decide +kernel) (by decide +kernel)
  have s7 : StG "circle" := stG_of (by decide +kernel) (by decide +kernel) (by decide +kernel)
  have s8 : StG "one" := stG_of (by decide +kernel) (by decide +kernel) (by decide +kernel)
  have s9 : StG "[2 1]" := stG_of (by decide +kernel) (by decide +kernel) (by decide +kernel)
  have i0 : AvG (.int 0) := int_G 0 (by decide)
  have i1 : AvG (.int 1) := int_G 1 (by decide)
  have i2 : AvG (.int (-1)) := .inr rfl
  have i3 : AvG (.int (10 ^ 8)) := int_G (10 ^ 8) (by decide)
  have i4 : AvG (.int 2) := int_G 2 (by decide)
  have q : ∀ v, AvG v → avDp v ≤ 60 → avLn v ≤ 1000 → RpD v := fun v h1 h2 h3 => rp_of h1 h2 (by rw [sizeLine_eq]; omega)
  intro v hv
  simp only [odds, odds1, odds2, List.mem_append, List.mem_cons, List.not_mem_nil, or_false] at hv
  rcases hv with (rfl | rfl | rfl | rfl | rfl | rfl | rfl | rfl | rfl | rfl | rfl | rfl | rfl | rfl | rfl | rfl | rfl | rfl | rfl) | (rfl | rfl | rfl | rfl | rfl)
  · refine q _ ?_ (by decide) (by decide)
    simp only [AvG, AvsG, and_true]
    all_goals first | exact trivial | assumption | exact .inr trivial | exact ⟨by assumption, by assumption⟩ | exact .inr rfl
  · refine q _ ?_ (by decide) (by decide)
    simp only [AvG, AvsG, and_true]
    all_goals first | exact trivial | assumption | exact .inr trivial | exact ⟨by assumption, by assumption⟩ | exact .inr rfl
  · refine q _ ?_ (by decide) (by decide)
    simp only [AvG, AvsG, and_true]
    all_goals first | exact trivial | assumption | exact .inr trivial | exact ⟨by assumption, by assumption⟩ | exact .inr rfl
  · refine q _ ?_ (by decide) (by decide)
    simp only [AvG, AvsG, and_true]
    all_goals first | exact trivial | assumption | exact .inr trivial | exact ⟨by assumption, by assumption⟩ | exact .inr rfl
  · refine q _ ?_ (by decide) (by decide)
    simp only [AvG, AvsG, and_true]
    all_goals first | exact trivial | assumption | exact .inr trivial | exact ⟨by assumption, by assumption⟩ | exact .inr rfl
  · refine q _ ?_ (by decide) (by decide)
    simp only [AvG, AvsG, and_true]
    all_goals first | exact trivial | assumption | exact .inr trivial | exact ⟨by assumption, by assumption⟩ | exact .inr rfl
  · refine q _ ?_ (by decide) (by decide)
    simp only [AvG, AvsG, and_true]
    all_goals first | exact trivial | assumption | exact .inr trivial | exact ⟨by assumption, by assumption⟩ | exact .inr rfl
  · refine q _ ?_ (by decide) (by decide)
    simp only [AvG, AvsG, and_true]
    all_goals first | exact trivial | assumption | exact .inr trivial | exact ⟨by assumption, by assumption⟩ | exact .inr rfl
  · refine q _ ?_ (by decide) (by decide)
    simp only [AvG, AvsG, and_true]
    all_goals first | exact trivial | assumption | exact .inr trivial | exact ⟨by assumption, by assumption⟩ | exact .inr rfl
  · refine q _ ?_ (by decide) (by decide)
    simp only [AvG, AvsG, and_true]
    all_goals first | exact trivial | assumption | exact .inr trivial | exact ⟨by assumption, by assumption⟩ | exact .inr rfl
  · refine q _ ?_ (by decide) (by decide)
    simp only [AvG, AvsG, and_true]
    all_goals first | exact trivial | assumption | exact .inr trivial | exact ⟨by assumption, by assumption⟩ | exact .inr rfl
  · refine q _ ?_ (by decide) (by decide)
    simp only [AvG, AvsG, and_true]
    all_goals first | exact trivial | assumption | exact .inr trivial | exact ⟨by assumption, by assumption⟩ | exact .inr rfl
  · exact .inr (.inl rfl)
  · refine q _ ?_ (by decide) (by decide)
    simp only [AvG, AvsG, and_true]
    all_goals first | exact trivial | assumption | exact .inr trivial | exact ⟨by assumption, by assumption⟩ | exact .inr rfl
  · refine q _ ?_ (by decide) (by decide)
    simp only [AvG, AvsG, and_true]
    all_goals first | exact trivial | assumption | exact .inr trivial | exact ⟨by assumption, by assumption⟩ | exact .inr rfl
  · refine q _ ?_ (by decide) (by decide)
    simp only [AvG, AvsG, and_true]
    all_goals first | exact trivial | assumption | exact .inr trivial | exact ⟨by assumption, by assumption⟩ | exact .inr rfl
  · refine q _ ?_ (by decide) (by decide)
    simp only [AvG, AvsG, and_true]
    all_goals first | exact trivial | assumption | exact .inr trivial | exact ⟨by assumption, by assumption⟩ | exact .inr rfl
  · refine q _ ?_ (by decide) (by decide)
    simp only [AvG, AvsG, and_true]
    all_goals first | exact trivial | assumption | exact .inr trivial | exact ⟨by assumption, by assumption⟩ | exact .inr rfl
  · refine q _ ?_ (by decide) (by decide)
    simp only [AvG, AvsG, and_true]
    all_goals first | exact trivial | assumption | exact .inr trivial | exact ⟨by assumption, by assumption⟩ | exact .inr rfl
  · refine q _ ?_ (by decide) (by decide)
    simp only [AvG, AvsG, and_true]
    all_goals first | exact trivial | assumption | exact .inr trivial | exact ⟨by assumption, by assumption⟩ | exact .inr rfl
  · refine q _ ?_ (by decide) (by decide)
    simp only [AvG, AvsG, and_true]
    all_goals first | exact trivial | assumption | exact .inr trivial | exact ⟨by assumption, by assumption⟩ | exact .inr rfl
  · refine q _ ?_ (by decide) (by decide)
    simp only [AvG, AvsG, and_true]
    all_goals first | exact trivial | assumption | exact .inr trivial | exact ⟨by assumption, by assumption⟩ | exact .inr rfl
  · exact .inr (.inr ⟨_, _, _, rfl, by decide +kernel, by decide +kernel, by decide +kernel⟩)
  · refine q _ ?_ (by decide) (by decide)
    simp only [AvG, AvsG, and_true]
    all_goals first | exact trivial | assumption | exact .inr trivial | exact ⟨by assumption, by assumption⟩ | exact .inr rfl
theorem odds_D : odds.map avD = [.non, .bl true, .bl false, .int 0, .int 1, .int (-1), .int (10 ^ 8), .str "", .str "a", .str "0", .tup [], .lst [], .dK [], .tup [.int 0], .tup [.tup []], .lst [.int 0], .tup [.int 1, .int 2], .str "1", .str "(1 + 1)"] ++ [.tup [.str "x", .str "rows"], .str "circle", .str "one", .dT [([.inr "x", .inr "people"], .int 1)], .str "[2 1]"] := by
  simp only [odds, odds1, odds2, List.map_append, List.map_cons, List.map_nil, avD, avsD]
def cOdd : Con := fun ds M Φ => ∃ p a c d, ds = [.ob p] ∧ M p = some (potL a c d) ∧ cOk c ∧ 0 ≤ d ∧ d < 100000 ∧ ∀ v a' d', v ∈ odds → d ≤ d' → d' ≤ d + 1 → Φ (avD v) (mset M p (potL a' c d'))
theorem ok_odd (F : Fx w K mg) (F1 : Fc P w K mg base "_law_of" [] 2 2 cOf) : BodyOk P w K mg base "_law_odd" s__law_odd ["_law_pot_here", "_law_some_here"] 1 2 cOdd := by
  intro f cdv A outer s H E hr ds M Φ hl hc
  obtain ⟨p, a, c, d, rfl, hM, co, d0, d1, hc⟩ := hc
  have nd : (["_law_pot_here", "_law_some_here"] : List Str).Nodup := by decide +kernel
  refine wss_cons (ws_set 1 nd (we_lst (wa_cons (we_non (wa_cons (we_bl (wa_cons (we_bl (wa_cons (we_int (wa_cons (we_int (wa_cons (we_negI (we_int ⟨1, rfl, wa_cons (we_powI (we_int (we_int ⟨_, _, rfl, rfl, ⟨by decide, by decide, by decide⟩, wa_cons (we_str (wa_cons (we_str (wa_cons (we_str (wa_cons (we_tup (wa_nil ⟨by decide, wa_cons (we_lst (wa_nil ⟨by decide, wa_cons (we_dict0 (wa_cons (we_tup (wa_cons (we_int (wa_nil ⟨by decide, wa_cons (we_tup (wa_cons (we_tup (wa_nil ⟨by decide, wa_nil ⟨by decide, wa_cons (we_lst (wa_cons (we_int (wa_nil ⟨by decide, wa_cons (we_tup (wa_cons (we_int (wa_cons (we_int (wa_nil ⟨by decide, wa_cons (we_str (wa_cons (we_str (wa_nil ⟨by decide, wss_cons (ws_ret (we_call F1 (hr.mono (by decide)) (wa_cons (we_var 0 rfl (wa_cons (we_addL (we_var 1 rfl (we_lst (wa_cons (we_tup (wa_cons (we_str (wa_cons (we_str (wa_nil ⟨by decide, wa_cons (we_str (wa_cons (we_str (wa_cons (we_dispT hr.units0 (we_tupK (wa_cons (we_str (wa_cons (we_str (wa_nil ⟨[.inr "x", .inr "people"], rfl, by decide, we_int ⟨_, rfl, wa_cons (we_str (wa_nil ⟨by decide, ⟨_, _, rfl, rfl, by decide, wa_nil ⟨rfl, p, _, a, c, d, rfl, by simp, by decide, hM, co, d0, d1, fun x a' d' hx k1 k2 => Lets.of ?_⟩⟩⟩))⟩⟩)))))))))))⟩)))))))))))))))⟩))))⟩))))))⟩))))⟩⟩))))⟩))))))⟩))⟩))))))))⟩)))⟩)))))))))))))))
  have hx : x ∈ odds.map avD := by rw [odds_D]; exact hx
  obtain ⟨v, hv, rfl⟩ := List.mem_map.mp hx
  exact hc v a' d' hv k1 k2
end
end W
namespace W
open PySem PySem.Spec PyProof.Rows L2 DL SX PL
def ifThen : Stmt → List Stmt
  | .If _ a _ _ => a
  | _ => []
def nth (st : Stmt) (i : Nat) : Stmt := (defBody st).getD i (.Pass ⟨0, 0, 0, 0⟩)
section
variable {P : Program} {w : World} {K : PySem.W.Frag} {mg : Str → Option Value} {base : Heap} {C : Addr}
theorem mset_self {M : Mp} {p : Addr} {o : MO} (h : M p = some o) : mset M p o = M := by
  funext b
  unfold mset
  split
  · rename_i e; rw [e, h]
  · rfl
abbrev nBuilt : List Str := ["_law_pot_here", "_law_size", "_law_deep", "_law_names_here", "_law_sign", "_law_fits", "_law_copies", "_law_first", "_law_sizes", "_law_second", "_law_index", "_law_part"]
def cost (s dp : Nat) : Nat := 5 * (s * (dp + 2))
def cBuiltN (m : Nat) : Con := fun ds M Φ => ∃ ns p s dp a c d, ds = [.ob p, .int (s : Nat), .int (dp : Nat), .lst (ns.map tS)] ∧ 1 ≤ s ∧ s ≤ 1000 ∧ dp ≤ 20 ∧ (s = 1 ∨ dp + 1 ≤ m) ∧ ns.length ≤ 3 ∧ (∀ x ∈ ns, Good (.name x)) ∧ M p = some (potL a c d) ∧ cOk c ∧ 0 ≤ d ∧ d + (cost s dp : Nat) < 100000 ∧
  ∀ t a' d', Btn ns t s dp → d ≤ d' → d' ≤ d + (cost s dp : Nat) → Φ (loreD t) (mset M p (potL a' c d'))
theorem sign_at {r : Int} (h0 : 0 ≤ r) (h1 : r < 2) {x y : Str} (g : Bool → D) (hx : g false = .str x) (hy : g true = .str y) : atI [D.str x, D.str y] r = some (g (decide (r = 1))) := by
  obtain ⟨n, rfl⟩ := Int.eq_ofNat_of_zero_le h0
  have : n < 2 := by omega
  match n, this with
  | 0, _ => rw [show decide (((0 : Nat) : Int) = 1) = false from rfl, hx]; exact atI_nat (j := 0) rfl
  | 1, _ => rw [show decide (((1 : Nat) : Int) = 1) = true from rfl, hy]; exact atI_nat (j := 1) rfl
theorem open_eq : tS [opn false] = .str "[" ∧ tS [opn true] = .str "{" := by
  refine ⟨?_, ?_⟩ <;> (show D.str _ = D.str _; congr 1)
theorem sgn_eq : tS [sgn false] = .str "+" ∧ tS [sgn true] = .str "*" := by
  refine ⟨?_, ?_⟩ <;> (show D.str _ = D.str _; congr 1)
def retOf : List Stmt → Expr
  | .Return (some e) _ :: _ => e
  | _ => .Constant .none 0 ⟨0, 0, 0, 0⟩
def elseOf : Expr → Expr
  | .IfExp _ _ e _ => e
  | e => e
theorem names_lt {x : List Nat} (h : Good (.name x)) : ∀ c ∈ (S x).cps.toList, c < 0x110000 := fun c hc => by
  have := h.2.2 c hc
  simp [letter] at this
  omega
theorem ok_built_n (m : Nat) (F : Fx w K mg) (F1 : Fc P w K mg base "_law_take" [] 1 2 cTake) (F2 : Fc P w K mg base "_law_of" [] 2 2 cOf) (F3 : ∀ j, m = j + 1 → Fc P w K mg base "_law_built" [] (j + 3) 4 (cBuiltN j)) :
    BodyOk P w K mg base "_law_built" s__law_built nBuilt 4 (m + 2) (cBuiltN m) := by
  intro f cdv A outer st H E hr ds M Φ hl hc
  obtain ⟨ns, p, s, dp, a, c, d, rfl, s1, s2, dp2, hm, hns, hng, hM, co, d0, d1, hc⟩ := hc
  have nd : nBuilt.Nodup := by decide +kernel
  have big : ∀ n : Int, n ≤ 1000000 → n ≤ 10 ^ 40 := fun n h => by
    have : (1000000 : Int) ≤ 10 ^ 40 := by decide +kernel
    omega
  refine wss_cons (ws_if (wt_eqS (we_var 1 rfl (we_int ⟨_, rfl, ?_⟩))))
  by_cases hs1 : s = 1
  · subst hs1
    have hcost1 : cost 1 dp = 5 * (1 * (dp + 2)) := rfl
    refine wss_cons (ws_ret (we_if (wt_ww (ww_and (wt_neNil hr.units (we_var 3 rfl ⟨_, ns.map fun x => PyData.str (S x), 0, rfl, cmps_map (j := 0) (Nat.le_refl _) (fun x hx => cmp_str (names_lt (hng x hx))), by decide, ?_⟩))))))
    have one : ∀ a2 e2, d ≤ e2 → e2 ≤ d + 1 → DL.WE (bx P w K mg base nBuilt "_law_built" (defScope s__law_built) f cdv A outer st H E) [some (.ob p), some (.int ((1 : Nat) : Int)), some (.int (dp : Nat)), some (.lst (ns.map tS)), none, none, none, none, none, none, none, none] (mset M p (potL a2 c e2)) ((elseOf (retOf (ifThen (nth s__law_built 0)))) ) (Lets Φ) := fun a2 e2 j1 j2 => by
      refine we_tup (wa_cons (we_str (wa_nil ⟨sz1, Lets.of ?_⟩)))
      have := hc .one a2 e2 (btn_one dp) (by omega) (by omega)
      rw [loreD] at this
      exact this
    cases ns with
    | nil =>
      have := one a d (by omega) (by omega)
      rw [mset_self hM] at this
      exact this
    | cons y r =>
      refine ww_and1 (wt_eqS (we_call F1 (hr.mono (by omega)) (wa_cons (we_var 0 rfl (wa_cons (we_int (wa_nil ⟨rfl, p, 3, a, c, d, rfl, by decide, by decide +kernel, hM, co, d0, by omega, ?_⟩)))))))
      intro r1 a1 e1 _ _ k1 k2
      refine we_int ⟨_, rfl, ?_⟩
      by_cases hr1 : r1 = 0
      · rw [decide_eq_true hr1]
        refine we_tup (wa_cons (we_str (wa_cons (we_call F2 (hr.mono (by omega)) (wa_cons (we_var 0 rfl (wa_cons (we_var 3 rfl (wa_nil ⟨rfl, p, _, a1, c, e1, rfl, by simp, by rw [List.length_map]; omega, mset_same, co, by omega, by omega, ?_⟩)))))))))
        intro x a2 e2 hx k3 k4
        obtain ⟨z, hz, rfl⟩ := List.mem_map.mp hx
        rw [mset_mset]
        refine wa_nil ⟨sz2, Lets.of ?_⟩
        have := hc (.name z) a2 e2 (btn_name dp hz (hng z hz)) (by omega) (by omega)
        rw [loreD] at this
        exact this
      · rw [decide_eq_false hr1]
        exact one a1 e1 (by omega) (by omega)
  rw [decide_eq_false (show ¬ ((s : Nat) : Int) = 1 by omega)]
  have hm : dp + 1 ≤ m := hm.resolve_left hs1
  obtain ⟨j, rfl⟩ : ∃ j, m = j + 1 := ⟨m - 1, by omega⟩
  have B := F3 j rfl
  have hcost : cost s dp = 5 * (s * (dp + 2)) := rfl
  have hsd : 2 * (dp + 2) ≤ s * (dp + 2) := Nat.mul_le_mul_right _ (by omega)
  refine wss_nil ?_
  -- sign and fits
  refine wss_cons (ws_par 4 5 nd (wa_cons (we_call F1 (hr.mono (by omega)) (wa_cons (we_var 0 rfl (wa_cons (we_int (wa_nil ⟨rfl, p, 2, a, c, d, rfl, by decide, by decide +kernel, hM, co, d0, by omega, ?_⟩))))))))
  intro sg a1 e1 g0 g1 k1 k2
  refine wa_cons (we_lc nd (blkOk_by (N := nBuilt) (sc := defScope s__law_built) (own := [("_law_index", 10)]) (by decide +kernel)) (fun _ _ _ _ _ => pg_name (i := 10) nd rfl (Or.inl rfl)) (gt_name (by decide)) (fun s' H' C' cl' fp' => pts_one ⟨fun pins s3 σ' H3 Q' I q => q s' H' C' cl' fp' pins s3 I⟩) tk_one (wi_range2 (F.bn _ (by decide +kernel)) (wa_cons (we_int (wa_cons (we_addI (we_var 1 rfl (we_int ⟨_, _, rfl, rfl, wa_nil ⟨_, _, rfl, ⟨by decide, by decide, by omega, by omega⟩, ?_⟩⟩))))))))
  refine ⟨by rw [rngD_len, sizeLine_eq]; omega, fun i acc M' => M' = mset M p (potL a1 c e1) ∧ acc.length ≤ i ∧ (∀ x ∈ acc, ∃ n : Nat, x = .int (n : Nat) ∧ 2 ≤ n ∧ n ≤ s ∧ s % n = 0) ∧ (s < 2 + i → acc ≠ []), ⟨rfl, Nat.zero_le _, (by intro x hx; simp at hx), by omega⟩, ?_, ?_⟩
  · rintro i x acc M' hx ⟨rfl, h1, h2, h3⟩
    obtain ⟨hi, rfl⟩ := rngD_get hx
    intro s' H' C' cl' fp'
    refine wt_eqS (we_modI (we_intN (F.bn _ (by decide +kernel)) (we_var 1 rfl (.inl ⟨_, rfl, we_var 10 rfl ⟨_, _, rfl, rfl, by omega, we_int ⟨_, rfl, ?_⟩⟩⟩))))
    have hmod : ((s : Nat) : Int) % (2 + (i : Nat)) = ((s % (2 + i) : Nat) : Int) := by
      rw [show (2 : Int) + (i : Nat) = ((2 + i : Nat) : Int) by omega]; exact (Int.natCast_emod s (2 + i)).symm
    rw [hmod]
    by_cases hz : s % (2 + i) = 0
    · rw [decide_eq_true (show ((s % (2 + i) : Nat) : Int) = 0 by omega)]
      intro s' H' C' cl' fp'
      refine we_var 10 rfl ⟨rfl, by rw [List.length_append, List.length_singleton]; omega, fun y hy => ?_, fun _ => by simp⟩
      rcases List.mem_append.mp hy with hy | hy
      · exact h2 y hy
      · have : y = .int (2 + (i : Nat)) := by simpa using hy
        exact ⟨2 + i, by rw [this]; congr 1, by omega, by omega, hz⟩
    · rw [decide_eq_false (show ¬ ((s % (2 + i) : Nat) : Int) = 0 by omega)]
      refine ⟨rfl, by omega, h2, fun hlt => ?_⟩
      by_cases he : s = 2 + i
      · exact absurd (by rw [← he]; exact Nat.mod_self s) hz
      · exact h3 (by omega)
  rintro fits M' ⟨rfl, fl, fh, fne⟩
  rw [rngD_len] at fl fne
  have fne : fits ≠ [] := fne (by omega)
  refine wa_nil ⟨_, _, rfl, ?_⟩
  have hM1 : ∀ a2 e2, mset (mset M p (potL a1 c e1)) p (potL a2 c e2) = mset M p (potL a2 c e2) := fun _ _ => mset_mset
  -- copies
  have brC : ∀ (nx : Rho → Mp → Prop) a2 e2, d ≤ e2 → e2 ≤ d + 2 → WSs (bx P w K mg base nBuilt "_law_built" (defScope s__law_built) f cdv A outer st H E) [some (.ob p), some (.int (s : Nat)), some (.int (dp : Nat)), some (.lst (ns.map tS)), some (.int sg), some (.lst fits), none, none, none, none, none, none] (mset M p (potL a2 c e2))
      (ifThen (nth s__law_built 2)) { nx := nx, rt := Lets Φ } := fun nx a2 e2 j1 j2 => by
    have fin : ∀ (n : Nat) a3 e3, 2 ≤ n → n ≤ s → s % n = 0 → (dp = 0 → n = s) → d ≤ e3 → e3 ≤ d + 3 → WSs (bx P w K mg base nBuilt "_law_built" (defScope s__law_built) f cdv A outer st H E) [some (.ob p), some (.int (s : Nat)), some (.int (dp : Nat)), some (.lst (ns.map tS)), some (.int sg), some (.lst fits), some (.int (n : Nat)), none, none, none, none, none] (mset M p (potL a3 c e3))
        ((ifThen (nth s__law_built 2)).drop 1) { nx := nx, rt := Lets Φ } := fun n a3 e3 n1 n2 n3 n4 j1 j2 => by
      have hdiv : n * (s / n) = s := by have := Nat.div_add_mod s n; omega
      have hpos : 1 ≤ s / n := by
        rcases Nat.eq_zero_or_pos (s / n) with h | h
        · rw [h] at hdiv; omega
        · exact h
      have hle : 2 * (s / n) ≤ s := by
        have := Nat.mul_le_mul_right (s / n) n1
        omega
      have hone : dp = 0 → s / n = 1 := fun h => by rw [n4 h]; exact Nat.div_self (by omega)
      have hch : cost (s / n) (dp - 1) + 3 ≤ cost s dp := by
        unfold cost
        by_cases hd : dp = 0
        · rw [hone hd, hd]; rw [hd] at hsd; omega
        · have h1 : (s / n) * (dp - 1 + 2) ≤ (s / n) * (dp + 2) := Nat.mul_le_mul_left _ (by omega)
          have h2 : 2 * (s / n) * (dp + 2) ≤ s * (dp + 2) := Nat.mul_le_mul_right _ hle
          have h3 : 2 * (s / n) * (dp + 2) = (s / n) * (dp + 2) + (s / n) * (dp + 2) := by rw [Nat.mul_assoc]; omega
          have h4 : 1 ≤ (s / n) * (dp + 2) := Nat.mul_pos hpos (by omega)
          omega
      refine wss_cons (ws_ret (we_tup (wa_cons (we_ix (we_lst (wa_cons (we_str (wa_cons (we_str (wa_nil ⟨sz2, we_var 4 rfl ⟨sg, _, rfl, ixL (sign_at g0 g1 (fun b => tS [opn b]) open_eq.1 open_eq.2), wa_cons (we_var 6 rfl (wa_cons (we_call B (hr.mono (by omega)) (wa_cons (we_var 0 rfl (wa_cons (we_intN (F.bn _ (by decide +kernel)) (we_divI (we_var 1 rfl (we_var 6 rfl ⟨_, _, rfl, rfl, ⟨by omega, log40 (by omega) (big _ (by omega))⟩, .inl ⟨_, rfl, ?_⟩⟩))))))))))⟩⟩))))))))))
      refine wa_cons (we_max2 (F.bn _ (by decide +kernel)) (we_int (we_subI (we_var 2 rfl (we_int ⟨_, _, rfl, rfl, _, _, rfl, rfl, wa_cons (we_var 3 rfl (wa_nil ⟨rfl, ns, p, s / n, dp - 1, a3, c, e3, ?_, hpos, by omega, by omega, ?_, hns, hng, mset_same, co, by omega, by omega, ?_⟩))⟩)))))
      · have q1 : ((s : Nat) : Int) / (n : Nat) = ((s / n : Nat) : Int) := (Int.natCast_ediv s n).symm
        have q2 : (if ((dp : Nat) : Int) - 1 > 0 then ((dp : Nat) : Int) - 1 else 0) = ((dp - 1 : Nat) : Int) := by split <;> omega
        show [_, D.int _, D.int _, _] = _
        rw [q1, q2]
      · by_cases hd : dp = 0
        · exact .inl (hone hd)
        · exact .inr (by omega)
      intro u a' d' hb b1 b2
      rw [mset_mset]
      refine wa_nil ⟨sz3, Lets.of ?_⟩
      have hu : Btn ns (.cop (decide (sg = 1)) n u) s dp := by
        refine btn_cop _ hb n1 (Nat.le_trans n2 (Nat.le_trans s2 (by decide))) hdiv hpos ?_
        by_cases hd : dp = 0
        · refine .inr ⟨hone hd, hd, by omega, ?_⟩
          obtain ⟨u1, u2, u3, u4, u5⟩ := hb
          rw [hone hd] at u3
          exact ht_one u1 u3
        · exact .inl (by omega)
      have := hc _ a' d' hu (by omega) (by omega)
      rw [loreD] at this
      exact this
    refine wss_cons (ws_set 6 nd (we_if (wt_eqS (we_var 2 rfl (we_int ⟨_, rfl, ?_⟩)))))
    by_cases hd : dp = 0
    · rw [decide_eq_true (show ((dp : Nat) : Int) = 0 by omega)]
      exact we_var 1 rfl (fin s a2 e2 (by omega) (Nat.le_refl _) (Nat.mod_self s) (fun _ => rfl) (by omega) (by omega))
    · rw [decide_eq_false (show ¬ ((dp : Nat) : Int) = 0 by omega)]
      refine we_call F2 (hr.mono (by omega)) (wa_cons (we_var 0 rfl (wa_cons (we_var 5 rfl (wa_nil ⟨rfl, p, fits, a2, c, e2, rfl, fne, by omega, mset_same, co, by omega, by omega, ?_⟩)))))
      intro x a3 e3 hx k3 k4
      obtain ⟨n, rfl, n1, n2, n3⟩ := fh x hx
      rw [mset_mset]
      exact fin n a3 e3 n1 n2 n3 (fun h => absurd h hd) (by omega) (by omega)
  have ret : ∀ (zs : List Nat) o6 o7 o9 a2 e2, zs.sum = s → (∀ z ∈ zs, 1 ≤ z) → 2 ≤ zs.length → zs.length ≤ 3 → 1 ≤ dp → d ≤ e2 → e2 ≤ d + 5 →
      WSs (bx P w K mg base nBuilt "_law_built" (defScope s__law_built) f cdv A outer st H E) [some (.ob p), some (.int (s : Nat)), some (.int (dp : Nat)), some (.lst (ns.map tS)), some (.int sg), some (.lst fits), o6, o7, some (.lst (zs.map fun (z : Nat) => D.int (z : Nat))), o9, none, none] (mset M p (potL a2 c e2))
        ((defBody s__law_built).drop 6) { nx := fun _ M' => Φ .non M', rt := Lets Φ } := fun zs o6 o7 o9 a2 e2 hsum hz1 z2 z3 hdp j1 j2 => by
    refine wss_cons (ws_ret (we_tup (wa_cons (we_ix (we_lst (wa_cons (we_str (wa_cons (we_str (wa_nil ⟨sz2, we_var 4 rfl ⟨sg, _, rfl, ixL (sign_at g0 g1 (fun b => tS [sgn b]) sgn_eq.1 sgn_eq.2), wa_cons (we_tupleOf (F.bn _ (by decide +kernel)) ?_)⟩⟩))))))))))
    refine we_lc nd (blkOk_by (N := nBuilt) (sc := defScope s__law_built) (own := [("_law_part", 11)]) (by decide +kernel)) (fun _ _ _ _ _ => pg_name (i := 11) nd rfl (Or.inl rfl)) (gt_name (by decide)) (fun _ _ _ _ _ => pts_nil) tk_nil (wi_list (we_var 8 rfl ⟨_, .inl rfl, ?_⟩))
    refine ⟨by rw [List.length_map, sizeLine_eq]; omega, fun i acc M' => ∃ ts a' d', M' = mset M p (potL a' c d') ∧ acc = ts.map loreD ∧ Btns ns ts (zs.take i) (dp - 1) ∧ d ≤ d' ∧ d' ≤ d + 5 + (5 * ((zs.take i).sum * (dp + 1)) : Nat), ⟨[], a2, e2, rfl, rfl, trivial, j1, by simp; omega⟩, ?_, ?_⟩
    · rintro i x acc M' hx ⟨ts, a', d', rfl, rfl, hb, b1, b2⟩
      rw [List.getElem?_map] at hx
      obtain ⟨z, hz, rfl⟩ := Option.map_eq_some_iff.mp hx
      have hz0 := hz1 z (List.mem_of_getElem? hz)
      have htk : zs.take (i + 1) = zs.take i ++ [z] := take_snoc hz
      have hsm : (zs.take i).sum + z ≤ s := by
        rw [← hsum]
        have : zs.sum = (zs.take (i + 1)).sum + (zs.drop (i + 1)).sum := by rw [← List.sum_append, List.take_append_drop]
        rw [this, htk, List.sum_append]; simp
      have hmul : ((zs.take i).sum + z) * (dp + 1) ≤ s * (dp + 1) := Nat.mul_le_mul_right _ hsm
      have hmul2 : ((zs.take i).sum + z) * (dp + 1) = (zs.take i).sum * (dp + 1) + z * (dp + 1) := Nat.add_mul _ _ _
      have hsd1 : s * (dp + 2) = s * (dp + 1) + s := by rw [show dp + 2 = dp + 1 + 1 by omega, Nat.mul_succ]
      have hcz : cost z (dp - 1) = 5 * (z * (dp + 1)) := by unfold cost; rw [show dp - 1 + 2 = dp + 1 by omega]
      intro s' H' C' cl' fp'
      refine we_call B (hr.mono (by omega)) (wa_cons (we_var 0 rfl (wa_cons (we_var 11 rfl (wa_cons (we_subI (we_var 2 rfl (we_int ⟨_, _, rfl, rfl, wa_cons (we_var 3 rfl (wa_nil ⟨rfl, ns, p, z, dp - 1, a', c, d', ?_, hz0, by omega, by omega, .inr (by omega), hns, hng, mset_same, co, by omega, by omega, ?_⟩))⟩))))))))
      · show [_, _, D.int _, _] = _
        rw [show ((dp : Nat) : Int) - 1 = ((dp - 1 : Nat) : Int) by omega]
      intro t a3 d3 ht3 b3 b4
      rw [mset_mset]
      refine ⟨ts ++ [t], a3, d3, rfl, by rw [List.map_append]; rfl, by rw [htk]; exact btns_snoc ht3 hb, by omega, ?_⟩
      rw [htk, List.sum_append, show [z].sum = z by simp, hmul2]
      omega
    · rintro acc M' ⟨ts, a', d', rfl, rfl, hb, b1, b2⟩
      rw [List.length_map, List.take_length] at hb b2
      rw [hsum] at b2
      have hsd1 : s * (dp + 2) = s * (dp + 1) + s := by rw [show dp + 2 = dp + 1 + 1 by omega, Nat.mul_succ]
      refine ⟨_, .inl rfl, wa_nil ⟨sz2, Lets.of ?_⟩⟩
      have hu : Btn ns (.row (decide (sg = 1)) ts) s (dp - 1 + 1) := btn_row _ hb z2 z3 hsum (by omega)
      rw [show dp - 1 + 1 = dp by omega] at hu
      have := hc _ a' d' hu b1 (by omega)
      rw [loreD, loresD_map] at this
      exact this
  refine wss_cons (ws_if (wt_ww (ww_or (wt_eqS (we_var 2 rfl (we_int ⟨_, rfl, ?_⟩))))))
  by_cases hd : dp = 0
  · rw [decide_eq_true (show ((dp : Nat) : Int) = 0 by omega)]
    exact brC _ a1 e1 (by omega) (by omega)
  rw [decide_eq_false (show ¬ ((dp : Nat) : Int) = 0 by omega)]
  refine ww_or1 (wt_eqS (we_call F1 (hr.mono (by omega)) (wa_cons (we_var 0 rfl (wa_cons (we_int (wa_nil ⟨rfl, p, 3, a1, c, e1, rfl, by decide, by decide +kernel, mset_same, co, by omega, by omega, ?_⟩)))))))
  intro r2 a2 e2 _ _ k3 k4
  rw [mset_mset]
  refine we_int ⟨_, rfl, ?_⟩
  by_cases hr2 : r2 = 0
  · rw [decide_eq_true hr2]
    exact brC _ a2 e2 (by omega) (by omega)
  rw [decide_eq_false hr2]
  refine wss_nil ?_
  -- first
  refine wss_cons (ws_set 7 nd (we_addI (we_int (we_call F1 (hr.mono (by omega)) (wa_cons (we_var 0 rfl (wa_cons (we_subI (we_var 1 rfl (we_int ⟨_, _, rfl, rfl, wa_nil ⟨rfl, p, _, a2, c, e2, rfl, by omega, big _ (by omega), mset_same, co, by omega, by omega, ?_⟩⟩))))))))))
  intro r3 a3 e3 r30 r31 k5 k6
  rw [mset_mset]
  obtain ⟨n1, rfl⟩ := Int.eq_ofNat_of_zero_le r30
  refine ⟨_, _, rfl, rfl, ?_⟩
  rw [show (1 : Int) + ((n1 : Nat) : Int) = ((1 + n1 : Nat) : Int) by omega]
  refine wss_cons (ws_set 8 nd (we_lst (wa_cons (we_var 7 rfl (wa_cons (we_subI (we_var 1 rfl (we_var 7 rfl ⟨_, _, rfl, rfl, wa_nil ⟨sz2, ?_⟩⟩))))))))
  rw [show ((s : Nat) : Int) - ((1 + n1 : Nat) : Int) = ((s - (1 + n1) : Nat) : Int) by omega]
  refine wss_cons (ws_if (wt_ww (ww_and (wt_gtI (we_subI (we_var 1 rfl (we_var 7 rfl ⟨_, _, rfl, rfl, we_int ⟨_, _, rfl, rfl, ?_⟩⟩)))))))
  refine ite_dec (fun hgt => ?_) fun hgt => ?_
  · refine ww_and1 (wt_eqS (we_call F1 (hr.mono (by omega)) (wa_cons (we_var 0 rfl (wa_cons (we_int (wa_nil ⟨rfl, p, 2, a3, c, e3, rfl, by decide, by decide +kernel, mset_same, co, by omega, by omega, ?_⟩)))))))
    intro r4 a4 e4 _ _ k7 k8
    rw [mset_mset]
    refine we_int ⟨_, rfl, ?_⟩
    by_cases hr4 : r4 = 0
    · rw [decide_eq_true hr4]
      refine wss_cons (ws_set 9 nd (we_addI (we_int (we_call F1 (hr.mono (by omega)) (wa_cons (we_var 0 rfl (wa_cons (we_subI (we_subI (we_var 1 rfl (we_var 7 rfl ⟨_, _, rfl, rfl, we_int ⟨_, _, rfl, rfl, wa_nil ⟨rfl, p, _, a4, c, e4, rfl, by omega, big _ (by omega), mset_same, co, by omega, by omega, ?_⟩⟩⟩)))))))))))
      intro r5 a5 e5 r50 r51 k9 k10
      rw [mset_mset]
      obtain ⟨n2, rfl⟩ := Int.eq_ofNat_of_zero_le r50
      refine ⟨_, _, rfl, rfl, ?_⟩
      rw [show (1 : Int) + ((n2 : Nat) : Int) = ((1 + n2 : Nat) : Int) by omega]
      refine wss_cons (ws_set 8 nd (we_lst (wa_cons (we_var 7 rfl (wa_cons (we_var 9 rfl (wa_cons (we_subI (we_subI (we_var 1 rfl (we_var 7 rfl ⟨_, _, rfl, rfl, we_var 9 rfl ⟨_, _, rfl, rfl, wa_nil ⟨sz3, ?_⟩⟩⟩)))))))))))
      rw [show ((s : Nat) : Int) - ((1 + n1 : Nat) : Int) - ((1 + n2 : Nat) : Int) = ((s - (1 + n1) - (1 + n2) : Nat) : Int) by omega]
      refine wss_nil ?_
      exact ret [1 + n1, 1 + n2, s - (1 + n1) - (1 + n2)] _ _ _ a5 e5 (by simp; omega) (by intro z hz; simp at hz; omega) (by simp) (by simp) (by omega) (by omega) (by omega)
    · rw [decide_eq_false hr4]
      refine wss_nil ?_
      exact ret [1 + n1, s - (1 + n1)] _ _ _ a4 e4 (by simp; omega) (by intro z hz; simp at hz; omega) (by simp) (by simp) (by omega) (by omega) (by omega)
  · refine wss_nil ?_
    exact ret [1 + n1, s - (1 + n1)] _ _ _ a3 e3 (by simp; omega) (by intro z hz; simp at hz; omega) (by simp) (by simp) (by omega) (by omega) (by omega)
end
end W
namespace W
open PySem PySem.Spec PyProof.Rows L2 DL SX PL
section
variable {P : Program} {w : World} {K : PySem.W.Frag} {mg : Str → Option Value} {base : Heap} {C U : Addr}
/-- the parts of a lore, each with its copies -/
def lgrpD (t : T) : List D := (kids t).map fun q : Nat × T => D.tup [.int (q.1 : Nat), loreD q.2]
def cGroups : Con := fun ds M Φ => ∃ t, ds = [loreD t] ∧ 0 < PL.cnt t ∧ (kids t).length ≤ 100000 ∧ Φ (.lst (lgrpD t)) M
theorem ok_groups : BodyOk P w K mg base "_law_groups" s__law_groups ["_law_lore", "_law_part"] 1 0 cGroups := by
  intro f cdv A outer s H E hr ds M Φ hl hc
  obtain ⟨t, rfl, h0, hk, hc⟩ := hc
  have nd : (["_law_lore", "_law_part"] : List Str).Nodup := by decide +kernel
  refine wss_cons (ws_ret (we_if (wt_inS (we_ix (we_var 0 rfl (we_int ⟨0, _, rfl, lore_at0 t, we_txts ⟨_, _, rfl, .inl rfl, ?_⟩⟩))))))
  rw [first_cop]
  cases t with
  | one => simp [PL.cnt, kids] at h0
  | name x => simp [PL.cnt, kids] at h0
  | cop b n v =>
    have i1 : ∀ M, IxD M (loreD (.cop b n v)) 1 (.int (n : Nat)) := fun M => by rw [loreD]; exact ixT (atI_nat (j := 1) rfl)
    have i2 : ∀ M, IxD M (loreD (.cop b n v)) 2 (loreD v) := fun M => by rw [loreD]; exact ixT (atI_nat (j := 2) rfl)
    exact we_lst (wa_cons (we_tup (wa_cons (we_ix (we_var 0 rfl (we_int ⟨1, _, rfl, i1 _, wa_cons (we_ix (we_var 0 rfl (we_int ⟨2, _, rfl, i2 _, wa_nil ⟨sz2, wa_nil ⟨sz1, Lets.of hc⟩⟩⟩)))⟩))))))
  | row b ts =>
    have i1 : ∀ M, IxD M (loreD (.row b ts)) 1 (.tup (ts.map loreD)) := fun M => by rw [loreD, loresD_map]; exact ixT (atI_nat (j := 1) rfl)
    have hk : ts.length ≤ 100000 := by simpa [kids] using hk
    refine we_lc nd (blkOk_by (N := ["_law_lore", "_law_part"]) (sc := defScope s__law_groups) (own := [("_law_part", 1)]) (by decide +kernel)) (fun _ _ _ _ _ => pg_name (i := 1) nd rfl (Or.inl rfl)) (gt_name (by decide)) (fun _ _ _ _ _ => pts_nil) tk_nil (wi_tup (we_ix (we_var 0 rfl (we_int ⟨1, _, rfl, i1 _, _, rfl, ?_⟩))))
    refine ⟨by rw [List.length_map, sizeLine_eq]; omega, fun i acc M' => M' = M ∧ acc = (ts.take i).map fun u => D.tup [.int ((1 : Nat) : Int), loreD u], ⟨rfl, rfl⟩, ?_, ?_⟩
    · rintro i x acc M' hx ⟨rfl, rfl⟩
      rw [List.getElem?_map] at hx
      obtain ⟨u, hu, rfl⟩ := Option.map_eq_some_iff.mp hx
      intro s1 H1 C' cl fp
      refine we_tup (wa_cons (we_int (wa_cons (we_var 1 rfl (wa_nil ⟨sz2, rfl, ?_⟩)))))
      rw [take_snoc hu, List.map_append]; rfl
    · rintro acc M' ⟨rfl, rfl⟩
      rw [List.length_map, List.take_length]
      refine Lets.of ?_
      have e : lgrpD (.row b ts) = ts.map fun u => D.tup [.int ((1 : Nat) : Int), loreD u] := by
        show ((ts.map fun t => (1, t)).map fun q : Nat × T => D.tup [.int (q.1 : Nat), loreD q.2]) = _
        rw [List.map_map]; rfl
      rw [e] at hc; exact hc
abbrev nPpl : List Str := ["_law_lore", "_law_copies", "_law_part"]
end
end W
namespace DL
open PySem PySem.Spec PyProof.Rows L2
/-- a built-in kind is no own class -/
theorem sub_av {K : PySem.W.Frag} {C : Addr} (v : AV) : PySem.W.subIn K (.type (avT v)) (.ref C) = some false := by cases v <;> rfl
end DL
namespace W
open PySem PySem.Spec PyProof.Rows L2 DL SX PL SlX
section
variable {P : Program} {w : World} {K : PySem.W.Frag} {mg : Str → Option Value} {base : Heap} {C U : Addr}
theorem nms_lt {t : T} (hg : Good t) : ∀ x ∈ nmT t, ∀ c ∈ x.cps.toList, c < 0x110000 := fun x hx => by
  rw [nmT_mem] at hx
  revert hx
  suffices h : ∀ t : T, Good t → ∀ x ∈ lv t, ∀ c ∈ x.cps.toList, c < 0x110000 from h t hg x
  intro t
  exact T.rec (motive_1 := fun t => Good t → ∀ x ∈ lv t, ∀ c ∈ x.cps.toList, c < 0x110000) (motive_2 := fun ts => Goods ts → ∀ x ∈ lvL ts, ∀ c ∈ x.cps.toList, c < 0x110000)
    (fun _ x hx => by rw [lv] at hx; cases hx)
    (fun y hg x hx c hc => by
      rw [lv, List.mem_singleton] at hx
      subst hx
      have h1 := hg.2.2 c hc
      simp [letter] at h1
      omega)
    (fun s n u ih hg x hx => ih hg.2.2 x (by rw [lv] at hx; exact hx))
    (fun s ts ih hg x hx => ih hg.2 x (by rw [lv] at hx; exact hx))
    (fun _ x hx => by rw [lvL] at hx; cases hx)
    (fun t ts ih1 ih2 hg x hx => by
      rw [lvL] at hx
      rcases List.mem_append.mp hx with h | h
      · exact ih1 hg.1 x h
      · exact ih2 hg.2 x h) t
def cLNm (h : Nat) : Con := fun ds M Φ => ∃ t, ds = [loreD t] ∧ Good t ∧ (lv t).length < 1000 ∧ (txt t).length ≤ 100000 ∧ ht t ≤ h ∧ Φ (.lst ((nmT t).map D.str)) M
abbrev nLNm : List Str := ["_law_lore", "_law_found", "_law_copies", "_law_part"]
theorem first_nm {t : T} (h : ∀ x, t ≠ .name x) : decide (firstS t = ("name" : Str)) = false := by
  rw [first_name]
  cases t with
  | name x => exact absurd rfl (h x)
  | _ => rfl
theorem cnt_pos {t : T} (hg : Good t) (h1 : t ≠ .one) (h : ∀ x, t ≠ .name x) : 0 < PL.cnt t := by
  cases t with
  | one => exact absurd rfl h1
  | name x => exact absurd rfl (h x)
  | cop b n v => rw [cnt_cop]; have := hg.1; omega
  | row b ts => rw [cnt_row]; have := hg.1; omega
theorem ok_lnames (h : Nat) (F : Fx w K mg) (F1 : Fc P w K mg base "_law_groups" [] 1 1 cGroups) (F2 : ∀ j, h = j + 1 → Fc P w K mg base "_law_names" [] (j + 2) 1 (cLNm j)) : BodyOk P w K mg base "_law_names" s__law_names nLNm 1 (h + 1) (cLNm h) := by
  intro f cdv A outer s H E hr ds M Φ hl hc
  obtain ⟨t, rfl, hg, hlv, hl, hh, hc⟩ := hc
  have nd : nLNm.Nodup := by decide +kernel
  refine wss_cons (ws_if (wt_eqS (we_ix (we_var 0 rfl (we_int ⟨0, _, rfl, lore_at0 t, we_str ⟨_, rfl, ?_⟩⟩)))))
  rw [first_one]
  by_cases h1 : t = .one
  · subst h1
    rw [nmT_told (t := .one) trivial] at hc
    exact wss_cons (ws_ret (we_lst (wa_nil ⟨Nat.zero_le _, Lets.of hc⟩)))
  rw [show isOne t = false by cases t <;> first | exact absurd rfl h1 | rfl]
  refine wss_nil (wss_cons (ws_if (wt_eqS (we_ix (we_var 0 rfl (we_int ⟨0, _, rfl, lore_at0 t, we_str ⟨_, rfl, ?_⟩⟩))))))
  by_cases hn : ∃ x, t = .name x
  · obtain ⟨x, rfl⟩ := hn
    rw [first_name, show isNm (.name x) = true from rfl]
    rw [nmT_name] at hc
    have i1 : ∀ M, IxD M (loreD (.name x)) 1 (tS x) := fun M => by rw [loreD]; exact ixT (atI_nat (j := 1) rfl)
    exact wss_cons (ws_ret (we_lst (wa_cons (we_ix (we_var 0 rfl (we_int ⟨1, _, rfl, i1 _, wa_nil ⟨sz1, Lets.of hc⟩⟩))))))
  have hn : ∀ x, t ≠ .name x := fun x e => hn ⟨x, e⟩
  rw [first_nm hn]
  have hk := kids_len hg
  have tot : ∀ i, (((kids t).take i).flatMap fun q => nmT q.2).length < 1000 := fun i => by
    have h1 := flat_len (fun q : Nat × T => nmT q.2) (fun q => lv q.2) (fun q => nmT_len q.2) (kids t)
    rw [← lv_kids hn] at h1
    have h2 : (((kids t).take i).flatMap fun q => nmT q.2).length ≤ ((kids t).flatMap fun q => nmT q.2).length := by
      conv => rhs; rw [← List.take_append_drop i (kids t)]
      rw [List.flatMap_append, List.length_append]
      omega
    omega
  refine wss_nil (wss_cons (ws_set 1 nd (we_lstM (wa_nil ⟨Nat.zero_le _, fun p hp => ?_⟩))))
  refine wss_cons (ws_for PassesOwn.never (wi_list (we_call F1 (hr.mono (by omega)) (wa_cons (we_var 0 rfl (wa_nil ⟨rfl, t, rfl, cnt_pos hg h1 hn, by omega, _, .inl rfl, ?_⟩))))))
  refine ⟨fun i ρ' M' => ∃ o1 o2, ρ' = [some (loreD t), some (.ob p), o1, o2] ∧ M' = mset M p (.lst ((((kids t).take i).flatMap fun q => nmT q.2).map D.str)), ⟨_, _, rfl, rfl⟩, ?_, ?_⟩
  · rintro i x ρ' M' hx ⟨o1, o2, rfl, rfl⟩
    unfold lgrpD at hx
    rw [List.getElem?_map] at hx
    obtain ⟨q, hq, rfl⟩ := Option.map_eq_some_iff.mp hx
    have hm := List.mem_of_getElem? hq
    obtain ⟨g1, g2, g3, g4, g5⟩ := kids_ok hm hg
    obtain ⟨n1, n2⟩ := kid_names hm
    refine wg_tup ⟨rfl, rfl, wgs_cons (wg_name 2 (wgs_cons (wg_name 3 (wgs_nil ⟨rfl, ?_⟩) nd)) nd)⟩
    obtain ⟨j, rfl⟩ : ∃ j, h = j + 1 := ⟨h - 1, by omega⟩
    have e : ((kids t).take (i + 1)).flatMap (fun q => nmT q.2) = ((kids t).take i).flatMap (fun q => nmT q.2) ++ nmT q.2 := by
      rw [take_snoc hq, List.flatMap_append]; simp
    have h1000 := tot (i + 1)
    rw [e, List.length_append] at h1000
    refine wss_cons (ws_expr (we_extend (we_var 1 rfl ⟨p, _, rfl, mset_same, we_call (F2 j rfl) (hr.mono (by omega)) (wa_cons (we_var 3 rfl (wa_nil ⟨rfl, q.2, rfl, g1, by omega, by omega, by omega, _, _, mset_same, rfl, ?_, ?_⟩)))⟩)))
    · rw [List.length_map, List.length_map, sizeLine_eq]; omega
    rw [mset_mset, ← List.map_append, ← e]
    exact wss_nil ⟨_, _, rfl, rfl⟩
  · rintro ρ' M' ⟨o1, o2, rfl, rfl⟩
    have el : (lgrpD t).length = (kids t).length := by unfold lgrpD; rw [List.length_map]
    rw [el, List.take_length]
    have h1000 := tot (kids t).length
    rw [List.take_length] at h1000
    refine wss_let (M' := M) (ρ' := [some (loreD t), some (.lst (((kids t).flatMap fun q => nmT q.2).map D.str)), none, none]) (les_new hp) ?_ ?_
    · exact .val (.same _) (.val (.lst mset_same hp) (.drop (.drop .nil)))
    refine wss_cons (ws_ret (we_sortedSetS (F.bn _ (by decide +kernel)) (F.bn _ (by decide +kernel)) (we_var 1 rfl ⟨(kids t).flatMap (fun q : Nat × T => nmT q.2), rfl, h1000, fun ys hy hs => Lets.of ?_⟩)))
    rw [nmsOf_uniq hy hs, nmT_kids hn]
    exact hc
def cPplN (h : Nat) : Con := fun ds M Φ => ∃ t, ds = [loreD t] ∧ Good t ∧ (txt t).length ≤ 100000 ∧ ht t ≤ h ∧ Φ (.int (ppl t : Nat)) M
theorem ok_lpeople_n (h : Nat) (F : Fx w K mg) (F1 : Fc P w K mg base "_law_groups" [] 1 1 cGroups) (F2 : ∀ j, h = j + 1 → Fc P w K mg base "_law_people" [] (j + 2) 1 (cPplN j)) : BodyOk P w K mg base "_law_people" s__law_people nPpl 1 (h + 1) (cPplN h) := by
  intro f cdv A outer s H E hr ds M Φ hl hc
  obtain ⟨t, rfl, hg, hlen, hh, hc⟩ := hc
  have nd : nPpl.Nodup := by decide +kernel
  refine wss_cons (ws_if (wt_inS (we_ix (we_var 0 rfl (we_int ⟨0, _, rfl, lore_at0 t, we_txts ⟨_, _, rfl, .inl rfl, ?_⟩⟩)))))
  rw [first_leaf]
  by_cases hlf : (isOne t || isNm t) = true
  · rw [hlf]
    refine wss_cons (ws_ret (we_int (Lets.of ?_)))
    cases t with
    | one => rw [ppl] at hc; exact hc
    | name x => rw [ppl] at hc; exact hc
    | cop b n v => cases hlf
    | row b ts => cases hlf
  · rw [(Bool.not_eq_true _).mp hlf]
    have hk := kids_len hg
    have h0 : 0 < PL.cnt t := cnt_pos hg (fun e => hlf (by rw [e]; rfl)) fun x e => hlf (by rw [e]; rfl)
    have hne : kids t ≠ [] := fun e => by unfold PL.cnt at h0; rw [e] at h0; simp at h0
    refine wss_nil (wss_cons (ws_ret (we_sum (F.bn _ (by decide +kernel)) (we_lc nd (blkOk_by (N := nPpl) (sc := defScope s__law_people) (own := [("_law_copies", 1), ("_law_part", 2)]) (by decide +kernel)) (fun _ _ _ _ _ => pg_tup rfl (pgs_cons (pg_name (i := 1) nd rfl (Or.inl rfl)) (pgs_cons (pg_name (i := 2) nd rfl (Or.inl rfl)) pgs_nil)) rfl rfl) (gt_two (by decide) (by decide)) (fun _ _ _ _ _ => pts_nil) tk_nil (wi_list (we_call F1 (hr.mono (by omega)) (wa_cons (we_var 0 rfl (wa_nil ⟨rfl, t, rfl, h0, by omega, _, .inl rfl, ?_⟩)))))))))
    refine ⟨by unfold lgrpD; rw [List.length_map, sizeLine_eq]; omega, fun i acc M' => M' = M ∧ acc = (((kids t).take i).map fun q => ((q.1 * ppl q.2 : Nat) : Int)).map D.int, ⟨rfl, rfl⟩, ?_, ?_⟩
    · rintro i x acc M' hx ⟨rfl, rfl⟩
      unfold lgrpD at hx
      rw [List.getElem?_map] at hx
      obtain ⟨q, hq, rfl⟩ := Option.map_eq_some_iff.mp hx
      have hm : q ∈ kids t := List.mem_of_getElem? hq
      obtain ⟨g1, g2, g3, g4, g5⟩ := kids_ok hm hg
      obtain ⟨j, rfl⟩ : ∃ j, h = j + 1 := ⟨h - 1, by omega⟩
      refine ⟨_, _, rfl, ?_⟩
      intro s1 H1 C' cl fp
      refine we_mulI (we_var 1 rfl (we_call (F2 j rfl) (hr.mono (by omega)) (wa_cons (we_var 2 rfl (wa_nil ⟨rfl, q.2, rfl, g1, by omega, by omega, _, _, rfl, rfl, mul_ok g5 (ppl_lt g1) (by omega), rfl, ?_⟩)))))
      rw [take_snoc hq, List.map_append, List.map_append, ← Int.natCast_mul]; rfl
    · rintro acc M' ⟨rfl, rfl⟩
      unfold lgrpD
      rw [List.length_map, List.take_length]
      refine ⟨_, rfl, ?_⟩
      rw [sum_cast, ← ppl_kids hne]
      exact Lets.of hc
theorem kit_avC (hk : PySem.W.kitOne K (.ref U) (.ref C) = some false) (v : AV) : PySem.W.kitOne K (.type (avT v)) (.ref C) = some false := by
  have h2 : ((PySem.W.clsIn K C).isSome && PySem.W.typeIn K (.ref C) == some (.type "type")) = true := by
    unfold PySem.W.kitOne at hk
    split at hk
    · cases hk
    · unfold PySem.W.kitCls at hk
      dsimp only at hk
      split at hk
      · assumption
      · cases hk
  have h3 : PySem.W.kitCls K (.type (avT v)) (.ref C) = some false := by
    unfold PySem.W.kitCls
    dsimp only
    rw [if_pos h2]
    exact sub_av v
  unfold PySem.W.kitOne
  rw [if_neg (by simp), h3]
end
end W
namespace W
open PySem PySem.Spec PyProof.Rows L2 DL SX PL SlX
section
variable {P : Program} {w : World} {K : PySem.W.Frag} {mg : Str → Option Value} {base : Heap} {C U UB UN UP : Addr}
/-- Plan(a text with more than three names) -/
def cInitM (C U : Addr) (h : Nat) : ConX := fun ds M Φ Ξ => ∃ a t, ds = [.ob a, tS (txt t)] ∧ Good t ∧ (txt t).length ≤ 100000 ∧ ht t ≤ h ∧ ht t ≤ 60 ∧ (lv t).length < 1000 ∧ 3 < (nmT t).length ∧ Ξ U [("value", tS (txt t))] M
theorem ok_init_m (h : Nat) (F : Fx w K mg) (T : XL.Er P K mg "BadPlan" U) (F2 : Fc P w K mg base "is_plan_text" [] (h + 4) 2 (cPlanText h)) (F3 : Fc P w K mg base "names_in" [] (h + 4) 1 (cNamesN h)) : BodyX P w K mg base "Plan.__init__" s_Plan___init__ nInit 2 (h + 65) (cInitM C U h) := by
  intro f cdv A outer s H E hr ds M Φ Ξ hl hc
  obtain ⟨a, t, rfl, g, hl2, hh, h60, hlv, h3, hc⟩ := hc
  have nd : nInit.Nodup := by decide +kernel
  refine wssx_cons (wsx_if (wt_ww (ww_or (wt_not (wt_val (we_isi (F.bn _ (by decide +kernel)) (we_var 1 rfl (we_bty (F.bn _ (by decide +kernel)) rfl ⟨_, _, true, avTy M (.str (S (txt t))), rfl, (by intro C h; cases h), rfl, _, rfl, ?_⟩))))))).up)
  refine ww_or (wt_not (wt_val (we_call F2 (hr.mono (by omega)) (wa_cons (we_var 1 rfl (wa_cons (we_int (wa_nil ⟨rfl, t, 0, rfl, g, by omega, hh, by omega, _, rfl, ?_⟩))))))))
  refine ww_or1 (wt_gtI (we_len (F.bn _ (by decide +kernel)) (we_call F3 (hr.mono (by omega)) (wa_cons (we_var 1 rfl (wa_nil ⟨rfl, t, rfl, g, hlv, by omega, hh, _, lenL, we_gint F.gMOST_NAMES ⟨_, _, rfl, rfl, ?_⟩⟩))))))
  rw [decide_eq_true (show (3 : Int) < ((((nmT t).map D.str).length : Nat) : Int) by rw [List.length_map]; omega)]
  exact wssx_cons (wsx_raise rfl T hr (we_var 1 rfl ⟨_, _, Les.refl, .same _, hc⟩))
/-- bounds of what a text is to be a plan's -/
structure Bd (h : Nat) (t : T) : Prop where
  g : Good t
  tx : (txt t).length ≤ 100000
  ht : ht t ≤ h
  h60 : PL.ht t ≤ 60
  lv : (lv t).length < 1000
/-- Plan(e): a plan, or BadPlan where there are more than three names -/
def PlanOr (C U : Addr) (t : T) (Φ : D → Mp → Prop) (Ξ : Addr → List (Str × D) → Mp → Prop) (M : Mp) : Prop := ((nmT t).length ≤ 3 → Φ (planN C t) M) ∧ (3 < (nmT t).length → Ξ U [("value", tS (txt t))] M)
theorem wex_planM {X : Cx} {ρ : Rho} {M : Mp} {Φ : D → Mp → Prop} {Ξ : Addr → List (Str × D) → Mp → Prop} {e : Expr} {p pos : Pos} {h k k2 : Nat} {t : T} (F : Kc X.prog X.w X.K X.mg X.base "Plan" C [] k 2 (cInitN C h)) (FM : Kcx X.prog X.w X.K X.mg X.base "Plan" C [] k2 2 (cInitM C U h)) (hr : Room (k + 1) X.A) (hr2 : Room (k2 + 1) X.A) (b : Bd h t)
    (q : WE X ρ M e fun d M1 => d = tS (txt t) ∧ PlanOr C U t Φ Ξ M1) (hg : Gl X "Plan" := by rfl)
    (he : starEach [e] X.env = (false, eval e X.env) :: starEach [] X.env := by rfl) (hpl : (backTo pos (starEach [] X.env)).any (·.1) = false := by rfl) : WEx X ρ M (.Call (.Name "Plan" p) [e] [] pos) Φ Ξ := by
  by_cases h3 : (nmT t).length ≤ 3
  · exact (we_plan_n F hr (q.imp fun d M1 ⟨e1, z⟩ => ⟨t, e1, b.g, b.lv, h3, b.tx, b.ht, b.h60, z.1 h3⟩) hg he hpl).up
  · exact wex_make FM hr2 (wa_cons (q.imp fun d M1 ⟨e1, z⟩ => wa_nil fun a ha => ⟨rfl, a, t, by rw [e1]; rfl, b.g, b.tx, b.ht, b.h60, b.lv, by omega, M1, les_new ha, z.2 (by omega)⟩) he) hg (by decide) he hpl
def cRowX (C U : Addr) (s : Bool) (h : Nat) : ConX := fun ds M Φ Ξ => ∃ t u, ds = [planN C t, planN C u] ∧ Good t ∧ Good u ∧ Bd h (.row s [t, u]) ∧ PlanOr C U (.row s [t, u]) Φ Ξ M
abbrev cRT : Con := fun ds M Φ => ∃ (s : Bool) (y : D) (xs : List (List Nat)), ds = [.str (wrd s), y] ∧ LstOf M y (xs.map tS) ∧ ((xs.map (·.length)).sum + xs.length * 3) ≤ 1000000 ∧ Φ (tS (40 :: (TL.joinL (sep s) xs ++ [41]))) M
theorem row2_len (s : Bool) (t u : T) : (txt (.row s [t, u])).length = (txt t).length + (txt u).length + 5 := by
  rw [txt, txts, txts, txts, TL.joinL, TL.joinL]
  simp only [List.length_cons, List.length_append, List.length_nil]
  rw [show (sep s).length = 3 from rfl]; omega
theorem ok_add_x (h : Nat) (F : Fx w K mg) (Y : Px K mg C) (own : OwnC K C) (F1 : Pc P w K mg base C "text" 1 (cGetN C fun t => tS (txt t))) (F2 : Fc P w K mg base "row_text" [] 1 2 cRT) (F3 : Kc P w K mg base "Plan" C [] (2 * h + 6) 2 (cInitN C h)) (FM : Kcx P w K mg base "Plan" C [] (h + 66) 2 (cInitM C U h)) (h60 : h ≤ 60) : BodyX P w K mg base "Plan.__add__" s_Plan___add__ ["self", "other"] 2 (2 * h + 68) (cRowX C U false h) := by
  intro f cdv A outer s H E hr ds M Φ Ξ hl hc
  obtain ⟨t, u, rfl, g, gu, b, hc⟩ := hc
  have hln := b.tx
  rw [row2_len] at hln
  refine wssx_cons (wsx_if (wt_not (wt_val (we_isi (F.bn _ (by decide +kernel)) (we_var 1 rfl (we_gref Y.at_ (d := .fn C) (fun _ _ _ => .fn C) ⟨.ref C, .ref C, true, by rw [planN_ins]; rfl, rfl, fun C' e => by cases e; exact own, by simp [PySem.W.kitOne], true, rfl, ?_⟩))))).up)
  refine wssx_nil (wssx_cons (wsx_ret (wex_planM (t := .row false [t, u]) F3 FM (hr.mono (by omega)) (hr.mono (by omega)) b (we_call F2 (hr.mono (by omega)) (wa_cons (we_gstr F.gBESIDE (wa_cons (we_lst (wa_cons (we_prop F1 (hr.mono (by omega)) (we_var 0 rfl ⟨_, insM, t, rfl, wa_cons (we_prop F1 (hr.mono (by omega)) (we_var 1 rfl ⟨_, insM, u, rfl, wa_nil ⟨sz2, wa_nil ⟨rfl, false, .lst [tS (txt t), tS (txt u)], [txt t, txt u], rfl, rfl, ?_, ?_, ?_⟩⟩⟩))⟩)))))))))))
  · show (txt t).length + ((txt u).length + 0) + 2 * 3 ≤ _; omega
  · rw [txt, txts, txts, txts]
  · exact ⟨fun h => Lets.of (hc.1 h), hc.2⟩
theorem ok_mul_x (h : Nat) (F : Fx w K mg) (Y : Px K mg C) (own : OwnC K C) (F1 : Pc P w K mg base C "text" 1 (cGetN C fun t => tS (txt t))) (F2 : Fc P w K mg base "row_text" [] 1 2 cRT) (F3 : Kc P w K mg base "Plan" C [] (2 * h + 6) 2 (cInitN C h)) (FM : Kcx P w K mg base "Plan" C [] (h + 66) 2 (cInitM C U h)) (h60 : h ≤ 60) : BodyX P w K mg base "Plan.__mul__" s_Plan___mul__ ["self", "other"] 2 (2 * h + 68) (cRowX C U true h) := by
  intro f cdv A outer s H E hr ds M Φ Ξ hl hc
  obtain ⟨t, u, rfl, g, gu, b, hc⟩ := hc
  have hln := b.tx
  rw [row2_len] at hln
  refine wssx_cons (wsx_if (wt_not (wt_val (we_isi (F.bn _ (by decide +kernel)) (we_var 1 rfl (we_gref Y.at_ (d := .fn C) (fun _ _ _ => .fn C) ⟨.ref C, .ref C, true, by rw [planN_ins]; rfl, rfl, fun C' e => by cases e; exact own, by simp [PySem.W.kitOne], true, rfl, ?_⟩))))).up)
  refine wssx_nil (wssx_cons (wsx_ret (wex_planM (t := .row true [t, u]) F3 FM (hr.mono (by omega)) (hr.mono (by omega)) b (we_call F2 (hr.mono (by omega)) (wa_cons (we_gstr F.gINTRODUCED (wa_cons (we_lst (wa_cons (we_prop F1 (hr.mono (by omega)) (we_var 0 rfl ⟨_, insM, t, rfl, wa_cons (we_prop F1 (hr.mono (by omega)) (we_var 1 rfl ⟨_, insM, u, rfl, wa_nil ⟨sz2, wa_nil ⟨rfl, true, .lst [tS (txt t), tS (txt u)], [txt t, txt u], rfl, rfl, ?_, ?_, ?_⟩⟩⟩))⟩)))))))))))
  · show (txt t).length + ((txt u).length + 0) + 2 * 3 ≤ _; omega
  · rw [txt, txts, txts, txts]
  · exact ⟨fun h => Lets.of (hc.1 h), hc.2⟩
def cCopX (C U : Addr) (h : Nat) : ConX := fun ds M Φ Ξ => ∃ t v, ds = [planN C t, avD v] ∧ Good t ∧ (∀ n : Nat, v = natV n → 2 ≤ n → n ≤ 10 ^ 30 → Bd h (.cop false n t) ∧ (nmT (.cop false n t)).length ≤ 3 ∧ Φ (planN C (.cop false n t)) M) ∧ (whB v 2 (10 ^ 30) = false → Ξ U [("value", avD v)] M)
theorem whB_two {v : AV} (h : whB v 2 (10 ^ 30) = true) : ∃ n : Nat, v = natV n ∧ 2 ≤ n ∧ n ≤ 10 ^ 30 := by
  cases v with
  | int i =>
    have h : (decide ((2 : Int) ≤ i) && decide (i ≤ 10 ^ 30)) = true := h
    rw [Bool.and_eq_true] at h
    have h1 := of_decide_eq_true h.1
    have h2 := of_decide_eq_true h.2
    refine ⟨i.toNat, by unfold natV; rw [Int.toNat_of_nonneg (by omega)], by omega, ?_⟩
    have : ((i.toNat : Nat) : Int) ≤ ((10 ^ 30 : Nat) : Int) := by rw [Int.toNat_of_nonneg (by omega)]; exact h2
    exact Int.ofNat_le.mp this
  | _ => cases h
theorem ok_copies_x (h : Nat) (F : Fx w K mg) (T : XL.Er P K mg "BadMany" U) (F0 : Fc P w K mg base "is_integer" [] 1 3 cIsIntA) (F1 : Pc P w K mg base C "text" 1 (cGetN C fun t => tS (txt t))) (F2 : Fc P w K mg base "copies_text" [] 1 3 cCopT) (F3 : Kc P w K mg base "Plan" C [] (2 * h + 6) 2 (cInitN C h)) : BodyX P w K mg base "Plan.copies" s_Plan_copies ["self", "many"] 2 (2 * h + 7) (cCopX C U h) := by
  intro f cdv A outer s H E hr ds M Φ Ξ hl hc
  obtain ⟨t, v, rfl, g, h1, h2⟩ := hc
  refine wssx_cons (wsx_if (WT.up (wt_not (wt_val (we_call F0 (hr.mono (by omega)) (wa_cons (we_var 1 rfl (wa_cons (we_gint F.gLEAST_MANY (wa_cons (we_gint F.gMOST_MANY (wa_nil ⟨rfl, v, _, _, rfl, _, rfl, ?_⟩))))))))))))
  cases hw : whB v 2 (10 ^ 30) with
  | false => exact wssx_cons (wsx_raise rfl T hr (we_var 1 rfl ⟨_, _, Les.refl, .same _, h2 hw⟩))
  | true =>
    obtain ⟨n, rfl, n2, n3⟩ := whB_two hw
    obtain ⟨b, nm, hz⟩ := h1 n rfl n2 n3
    have hxt : (txt (.cop false n t)).length = (TL.numL n).length + (txt t).length + 3 := by
      rw [txt]; simp only [List.length_cons, List.length_append, List.length_nil]; omega
    have htx := b.tx
    refine wssx_nil (wssx_cons (wsx_ret (we_plan_n F3 (hr.mono (by omega)) (we_call F2 (hr.mono (by omega)) (wa_cons (we_gstr F.gBESIDE (wa_cons (we_var 1 rfl (wa_cons (we_prop F1 (hr.mono (by omega)) (we_var 0 rfl ⟨_, insM, t, rfl, wa_nil ⟨rfl, false, n, txt t, by rw [natV_D]; rfl, n3, by omega, .cop false n t, by rw [txt], b.g, b.lv, nm, b.tx, b.ht, b.h60, Lets.of hz⟩⟩))))))))).up))
end
end W
namespace DL
open PySem PySem.Spec PyProof.Rows L2
section
variable {X : Cx} {ρ : Rho} {M : Mp} {Φ : D → Mp → Prop} {Ξ : Xi} {Θ : Bool → Mp → Prop} {a b e o : Expr} {es : List Expr} {pos p apos : Pos} {m : Str} {dd : List D} {k n : Nat} {c : Con} {C : Addr} {pl : Sem Bool}
theorem rd_outZ {x y : D} (h : ∃ (z : Str) (zs : List Str), x = .str z ∧ (y = .tup (zs.map D.str) ∨ LstOf M y (zs.map D.str)) ∧ Φ (.bl (!decide (z ∈ zs))) M) : RD X.K (rIn X.K true) x y M Φ := fun Z v u H Q w r1 r2 k => by
  obtain ⟨z, zs, rfl, hy, h⟩ := h
  cases r1
  rcases hy with rfl | hy
  · obtain ⟨q, vs, rfl, hq, rs⟩ := r2.asTup
    rw [rs.strs] at hq
    exact ⟨q, _, rfl, .inr hq, rfl, flat_strs zs, by rw [inV_strs]; exact k.now w (.bl _) (by simpa using h)⟩
  · obtain ⟨q, vs, rfl, hq, rs⟩ := r2.asLst w hy
    rw [rs.strs] at hq
    exact ⟨q, _, rfl, .inl hq, rfl, flat_strs zs, by rw [inV_strs]; exact k.now w (.bl _) (by simpa using h)⟩
theorem wt_outZ (h : WE X ρ M a fun x M1 => WE X ρ M1 b fun y M2 => ∃ (z : Str) (zs : List Str), x = .str z ∧ (y = .tup (zs.map D.str) ∨ LstOf M2 y (zs.map D.str)) ∧ Θ (!decide (z ∈ zs)) M2) (hm : behindInMarks .NotIn b = false := by rfl) : WT X ρ M (.Compare a [.NotIn] [b] pos) Θ :=
  wt_cmp op_notIn_seq hm (h.imp fun _ _ h => h.imp fun _ _ ⟨z, zs, e1, e2, h⟩ => rd_outZ ⟨z, zs, e1, e2, _, rfl, h⟩)
end
end DL
namespace W
open PySem PySem.Spec PyProof.Rows L2 DL SX PL SlX
section
variable {P : Program} {w : World} {K : PySem.W.Frag} {mg : Str → Option Value} {base : Heap} {C U UB UN UP : Addr}
def cPutX (C UN UP UB : Addr) (h : Nat) : ConX := fun ds M Φ Ξ => ∃ t, Good t ∧
  ((∃ v w, ds = [planN C t, avD v, w] ∧ (∀ z, v = .str z → z ∉ nmT t) ∧ Ξ UN [("value", avD v)] M) ∨
   (∃ z v', ds = [planN C t, .str z, avD v'] ∧ z ∈ nmT t ∧ Ξ UP [("value", avD v')] M) ∨
   (∃ x u, ds = [planN C t, tS x, planN C u] ∧ S x ∈ nmT t ∧ Good u ∧ ht t ≤ h ∧ (txt t).length + (lv t).length * (txt u).length ≤ 100000 ∧ (txt u).length ≤ 100000 ∧ Bd h (PL.putT x u t) ∧ PlanOr C UB (PL.putT x u t) Φ Ξ M))
theorem ok_put_x (h : Nat) (F : Fx w K mg) (Y : Px K mg C) (own : OwnC K C) (hk : PySem.W.kitOne K (.ref U) (.ref C) = some false) (TN : XL.Er P K mg "NoName" UN) (TP : XL.Er P K mg "NoPlan" UP) (F1 : Pc P w K mg base C "text" 1 (cGetN C fun t => tS (txt t))) (F2 : Fc P w K mg base "text_put" [] (h + 3) 3 (cTPut C h)) (F3 : Kc P w K mg base "Plan" C [] (2 * h + 6) 2 (cInitN C h)) (FM : Kcx P w K mg base "Plan" C [] (h + 66) 2 (cInitM C UB h)) (h60 : h ≤ 60) : BodyX P w K mg base "Plan.put" s_Plan_put ["self", "name", "other"] 3 (2 * h + 68) (cPutX C UN UP UB h) := by
  intro f cdv A outer s H E hr ds M Φ Ξ hl hc
  obtain ⟨t, g, hc⟩ := hc
  have second : ∀ (z : Str) (o : D), z ∈ nmT t → WSsx (bxX P w K mg base ["self", "name", "other"] "Plan.put" (defScope s_Plan_put) f cdv A outer s H E) [some (planN C t), some (.str z), some o] M ((defBody s_Plan_put).drop 1) { nx := fun _ M' => Φ .non M', rt := Lets Φ } Ξ → WSsx (bxX P w K mg base ["self", "name", "other"] "Plan.put" (defScope s_Plan_put) f cdv A outer s H E) (start ["self", "name", "other"] [planN C t, .str z, o]) M (defBody s_Plan_put) { nx := fun _ M' => Φ .non M', rt := Lets Φ } Ξ := fun z o hz h => by
    refine wssx_cons (wsx_if (WT.up (wt_ww (ww_or (wt_not (wt_val (we_isi (F.bn _ (by decide +kernel)) (we_var 1 rfl (we_bty (F.bn _ (by decide +kernel)) rfl ⟨_, _, true, avTy M (.str z), rfl, (by intro C h; cases h), rfl, _, rfl, ?_⟩)))))))))
    refine ww_or1 (wt_outZ (we_var 1 rfl (we_fld (C := C) (we_var 0 rfl ⟨_, _, insM, Y.cl, Y.na _ (by decide +kernel), lk_names, z, nmT t, rfl, .inl rfl, ?_⟩))))
    rw [decide_eq_true hz]
    exact wssx_nil h
  rcases hc with ⟨v, w', rfl, hno, hz⟩ | ⟨z, v', rfl, hz, hq⟩ | ⟨x, u, rfl, hx, gu, hh, hb, hu, b, hq⟩
  · by_cases hs : ∃ z, v = .str z
    · obtain ⟨z, rfl⟩ := hs
      refine wssx_cons (wsx_if (WT.up (wt_ww (ww_or (wt_not (wt_val (we_isi (F.bn _ (by decide +kernel)) (we_var 1 rfl (we_bty (F.bn _ (by decide +kernel)) rfl ⟨_, _, true, avTy M (.str z), rfl, (by intro C h; cases h), rfl, _, rfl, ?_⟩)))))))))
      refine ww_or1 (wt_outZ (we_var 1 rfl (we_fld (C := C) (we_var 0 rfl ⟨_, _, insM, Y.cl, Y.na _ (by decide +kernel), lk_names, z, nmT t, by rw [avD], .inl rfl, ?_⟩))))
      rw [decide_eq_false (hno z rfl)]
      exact wssx_cons (wsx_raise rfl TN hr (we_var 1 rfl ⟨_, _, Les.refl, .same _, hz⟩))
    · refine wssx_cons (wsx_if (WT.up (wt_ww (ww_or (wt_not (wt_val (we_isi (F.bn _ (by decide +kernel)) (we_var 1 rfl (we_bty (F.bn _ (by decide +kernel)) rfl ⟨_, _, false, avTy M v, rfl, (by intro C h; cases h), kit_str K (fun z e => hs ⟨z, e⟩), _, rfl, ?_⟩)))))))))
      exact wssx_cons (wsx_raise rfl TN hr (we_var 1 rfl ⟨_, _, Les.refl, .same _, hz⟩))
  · refine second z _ hz ?_
    refine wssx_cons (wsx_if (WT.up (wt_not (wt_val (we_isi (F.bn _ (by decide +kernel)) (we_var 2 rfl (we_gref Y.at_ (d := .fn C) (fun _ _ _ => .fn C) ⟨.type (avT v'), .ref C, false, avTy M v', rfl, (by intro C h; cases h), kit_avC hk v', false, rfl, ?_⟩)))))))
    exact wssx_cons (wsx_raise rfl TP hr (we_var 2 rfl ⟨_, _, Les.refl, .same _, hq⟩))
  · refine second (S x) _ hx ?_
    refine wssx_cons (wsx_if (WT.up (wt_not (wt_val (we_isi (F.bn _ (by decide +kernel)) (we_var 2 rfl (we_gref Y.at_ (d := .fn C) (fun _ _ _ => .fn C) ⟨.ref C, .ref C, true, by rw [planN_ins]; rfl, rfl, fun C' e => by cases e; exact own, by simp [PySem.W.kitOne], true, rfl, ?_⟩)))))))
    refine wssx_nil (wssx_cons (wsx_ret (wex_planM (t := PL.putT x u t) F3 FM (hr.mono (by omega)) (hr.mono (by omega)) b (we_call F2 (hr.mono (by omega)) (wa_cons (we_var 0 rfl (wa_cons (we_var 1 rfl (wa_cons (we_prop F1 (hr.mono (by omega)) (we_var 2 rfl ⟨_, insM, u, rfl, wa_nil ⟨rfl, t, x, u, rfl, g, gu, hh, hb, hu, rfl, ?_⟩⟩)))))))))))
    exact ⟨fun h => Lets.of (hq.1 h), hq.2⟩
def cInvX (C U : Addr) (h : Nat) : ConX := fun ds M Φ Ξ => ∃ t, ds = [planN C t] ∧ ((Ok t ∧ ht t ≤ h ∧ ht t ≤ 60 ∧ Φ (planN C (mir t)) M) ∨ (∃ x r, Good t ∧ nmT t = x :: r ∧ Ξ U [("value", .str x)] M))
def cToldX (C U : Addr) : ConX := fun ds M Φ Ξ => ∃ t x r, ds = [planN C t] ∧ Good t ∧ nmT t = x :: r ∧ Ξ U [("value", .str x)] M
theorem ok_told_x (T : XL.Er P K mg "Unknown" U) (F1 : Pc P w K mg base C "names" 1 (cGetN C fun t => .tup ((nmT t).map D.str))) : BodyX P w K mg base "check_told" s_check_told ["plan"] 1 2 (cToldX C U) := by
  intro f cdv A outer s H E hr ds M Φ Ξ hl hc
  obtain ⟨t, x, r, rfl, hg, hn, hc⟩ := hc
  have hcm : CmpDs ((nmT t).map D.str) ((nmT t).map PyData.str) 1 := cmps_map (j := 0) (by decide) fun y hy => cmp_str (nms_lt hg y hy)
  refine wssx_cons (wsx_if (WT.up (wt_neNilT hr.units (we_prop F1 (hr.mono (by decide)) (we_var 0 rfl ⟨_, insM, t, rfl, _, _, 1, rfl, hcm, by decide, ?_⟩)))))
  rw [hn]
  exact wssx_cons (wsx_raise rfl T hr (we_ix (we_prop F1 (hr.mono (by decide)) (we_var 0 rfl ⟨_, insM, t, rfl, we_int ⟨0, .str x, rfl, by simp only [hn]; exact ixT (atI_nat (j := 0) rfl), _, _, Les.refl, .same _, hc⟩⟩))))
theorem ok_invert_x (h : Nat) (F : Fx w K mg) (F1 : Fc P w K mg base "check_told" [] 3 1 (cTold C)) (FX : Fcx P w K mg base "check_told" [] 3 1 (cToldX C U)) (F2 : Pc P w K mg base C "text" 1 (cGet C fun t => tS (txt t))) (F3 : Kc P w K mg base "Plan" C [] (2 * h + 6) 2 (cInitN C h)) :
    BodyX P w K mg base "Plan.__invert__" s_Plan___invert__ ["self", "sign"] 1 (2 * h + 7) (cInvX C U h) := by
  intro f cdv A outer s H E hr ds M Φ Ξ hl hc
  obtain ⟨t, rfl, ⟨ok, hh, h60, hc⟩ | ⟨x, r, hg, hn, hc⟩⟩ := hc
  · have nd : (["self", "sign"] : List Str).Nodup := by decide +kernel
    have h3 := ok.2.2
    obtain ⟨a, kvs, h1, h2, h3'⟩ := F.gTURNED
    rw [planN_told C ok.2.1]
    refine WSs.up ?_
    refine wss_cons (ws_expr (we_call F1 (hr.mono (by omega)) (wa_cons (we_var 0 rfl (wa_nil ⟨rfl, t, rfl, ok, ?_⟩)))))
    refine wss_cons (ws_ret (we_plan_n F3 (hr.mono (by omega)) (we_join (we_str ⟨_, rfl, we_lc nd (blkOk_by (N := ["self", "sign"]) (sc := defScope s_Plan___invert__) (own := [("sign", 1)]) (by decide +kernel)) (fun _ _ _ _ _ => pg_name (i := 1) nd rfl (Or.inl rfl)) (gt_name (by decide)) (fun _ _ _ _ _ => pts_nil) tk_nil
      (wi_str (we_prop F2 (hr.mono (by omega)) (we_var 0 rfl ⟨_, insP ok.2.1, t, rfl, ok, _, rfl, ?_⟩)))⟩))))
    refine ⟨by rw [signs_S, List.length_map, sizeLine_eq]; omega, fun i acc M' => M' = M ∧ acc = ((((txt t).take i).map fun c => [PL.flip c]).map S).map D.str, ⟨rfl, rfl⟩, ?_, ?_⟩
    · rintro i x acc M' hx ⟨rfl, rfl⟩
      obtain ⟨c, hc1, rfl⟩ := signs_get hx
      intro s1 H1 C' cl fp
      refine we_gget h1 h2 h3' (we_var 1 rfl ⟨_, rfl, we_var 1 rfl ⟨rfl, ?_⟩⟩)
      rw [show (⟨#[c]⟩ : Str) = S [c] from rfl, turned, take_snoc hc1, List.map_append, List.map_append, List.map_append]; rfl
    · rintro acc M' ⟨rfl, rfl⟩
      rw [signs_S, List.length_map, List.take_length]
      have el : ((((txt t).map fun c => [PL.flip c]).map S).map (·.length)).sum = (txt t).length := by
        rw [lens, List.map_map]
        exact sum_ones (txt t)
      refine ⟨((txt t).map fun c => [PL.flip c]).map S, .inl rfl, ?_, ?_⟩
      · rw [el]
        have : ("" : Str).length = 0 := by decide +kernel
        rw [this]; omega
      · rw [show ("" : Str) = S [] by decide +kernel, join_S, show ((txt t).map fun c => [PL.flip c]) = ((txt t).map PL.flip).map fun c => [c] by rw [List.map_map]; rfl, join_signs, ← txt_mir ok.1]
        have mo := mir_Ok ok
        exact ⟨mir t, rfl, mo.1, by rw [lv_told mo.2.1]; decide, by rw [nmT_told mo.2.1]; decide, mo.2.2, by rw [mir_ht]; exact hh, by rw [mir_ht]; exact h60, Lets.of hc⟩
  · exact wssx_cons (wsx_expr (wex_call FX (hr.mono (by omega)) (wa_cons (we_var 0 rfl (wa_nil ⟨rfl, t, x, r, rfl, hg, hn, hc⟩)))))
end
end W
namespace W
open PySem PySem.Spec PyProof.Rows L2 DL SX PL SlX
def kv6 : List (Key × D) := [(.inr "+", .str "*"), (.inr "*", .str "+"), (.inr "[", .str "{"), (.inr "{", .str "["), (.inr "]", .str "}"), (.inr "}", .str "]")]
theorem we_disp6 {X : Cx} {ρ : Rho} {M : Mp} {Φ : D → Mp → Prop} {j1 j2 j3 j4 j5 j6 j7 j8 j9 j10 j11 j12 : Nat} {q1 q2 q3 q4 q5 q6 q7 q8 q9 q10 q11 q12 dp : Pos} (h : Φ (.dK kv6) M) :
    WE X ρ M (.Dict [some (.Constant (.str "+") j1 q1), some (.Constant (.str "*") j2 q2), some (.Constant (.str "[") j3 q3), some (.Constant (.str "{") j4 q4), some (.Constant (.str "]") j5 q5), some (.Constant (.str "}") j6 q6)] [.Constant (.str "*") j7 q7, .Constant (.str "+") j8 q8, .Constant (.str "{") j9 q9, .Constant (.str "[") j10 q10, .Constant (.str "}") j11 q11, .Constant (.str "]") j12 q12] dp) Φ := .mk fun {Z} σ H Q en w k => by
  refine eOf (pe_disp (pps_cons pe_str pe_str (pps_cons pe_str pe_str (pps_cons pe_str pe_str (pps_cons pe_str pe_str (pps_cons pe_str pe_str (pps_cons pe_str pe_str pps_nil)))))) rfl rfl (by simp) (by simp)) ?_
  intro t ht
  refine ⟨upd_same, [(.inr "+", .str "*"), (.inr "*", .str "+"), (.inr "[", .str "{"), (.inr "{", .str "["), (.inr "]", .str "}"), (.inr "}", .str "]")], rfl, by simp, ?_⟩
  have e2 : upd (upd H t (.dK [])) t (.dK (mergeK [] [((.inr "+" : Key), V.str "*"), (.inr "*", .str "+"), (.inr "[", .str "{"), (.inr "{", .str "["), (.inr "]", .str "}"), (.inr "}", .str "]")])) = upd H t (.dK [((.inr "+" : Key), V.str "*"), (.inr "*", .str "+"), (.inr "[", .str "{"), (.inr "{", .str "["), (.inr "]", .str "}"), (.inr "}", .str "]")]) := by
    have : mergeK [] [((.inr "+" : Key), V.str "*"), (.inr "*", .str "+"), (.inr "[", .str "{"), (.inr "{", .str "["), (.inr "]", .str "}"), (.inr "}", .str "]")] = [((.inr "+" : Key), V.str "*"), (.inr "*", .str "+"), (.inr "[", .str "{"), (.inr "{", .str "["), (.inr "]", .str "}"), (.inr "}", .str "]")] := by
      have n : ∀ a b : Str, decide (a = b) = false → a ≠ b := fun a b h => of_decide_eq_false h
      simp [mergeK, putK, n "+" "*" (by decide +kernel), n "+" "[" (by decide +kernel), n "+" "{" (by decide +kernel), n "+" "]" (by decide +kernel), n "+" "}" (by decide +kernel), n "*" "[" (by decide +kernel), n "*" "{" (by decide +kernel), n "*" "]" (by decide +kernel), n "*" "}" (by decide +kernel), n "[" "{" (by decide +kernel), n "[" "]" (by decide +kernel), n "[" "}" (by decide +kernel), n "{" "]" (by decide +kernel), n "{" "}" (by decide +kernel), n "]" "}" (by decide +kernel)]
    rw [this]
    funext b; unfold upd; split <;> rfl
  rw [e2]
  exact k.new w ht (.dK upd_same (w.fresh ht) (.cons (.str _) (.cons (.str _) (.cons (.str _) (.cons (.str _) (.cons (.str _) (.cons (.str _) .nil))))))) h
theorem turnedK (c : Nat) : (valK kv6 (.inr (S [c]))).getD (.str (S [c])) = .str (S [PL.flip c]) := by
  have e : kv6 = [(.inr (S [43]), tS [42]), (.inr (S [42]), tS [43]), (.inr (S [91]), tS [123]), (.inr (S [123]), tS [91]), (.inr (S [93]), tS [125]), (.inr (S [125]), tS [93])] := by
    unfold kv6
    rw [show ("+" : Str) = S [43] by decide +kernel, show ("*" : Str) = S [42] by decide +kernel, show ("[" : Str) = S [91] by decide +kernel, show ("{" : Str) = S [123] by decide +kernel, show ("]" : Str) = S [93] by decide +kernel, show ("}" : Str) = S [125] by decide +kernel]
  have b : ∀ d, decide (((.inr (S [d]) : Key)) = .inr (S [c])) = decide (c = d) := fun d => by
    have p : ((.inr (S [d]) : Key) = .inr (S [c])) ↔ c = d := by
      constructor
      · intro h
        injection h with h
        have := S_inj.mp h
        injection this with this
        exact this.symm
      · intro h; rw [h]
    exact decide_eq_decide.mpr p
  rw [e]
  unfold PL.flip valK
  simp only [List.find?_cons, b, List.find?_nil]
  by_cases h1 : c = 43
  · subst h1; rfl
  by_cases h2 : c = 42
  · subst h2; rfl
  by_cases h3 : c = 91
  · subst h3; rfl
  by_cases h4 : c = 123
  · subst h4; rfl
  by_cases h5 : c = 93
  · subst h5; rfl
  by_cases h6 : c = 125
  · subst h6; rfl
  rw [if_neg h1, if_neg h2, if_neg h3, if_neg h4, if_neg h5, if_neg h6]
  simp [h1, h2, h3, h4, h5, h6]
section
variable {P : Program} {w : World} {K : PySem.W.Frag} {mg : Str → Option Value} {base : Heap} {C : Addr}
theorem unitsB {k : Nat} {A : Around} (r : Room k A) : A.units + 1 < cLine := by have := r.un; omega
def cLTurn : Con := fun ds M Φ => ∃ l : List Nat, ds = [tS l] ∧ l.length ≤ 100000 ∧ Φ (tS (l.map PL.flip)) M
abbrev nLTurn : List Str := ["_law_text_here", "_law_signs", "_law_sign"]
theorem ok_lturned (F : Fx w K mg) : BodyOk P w K mg base "_law_turned" s__law_turned nLTurn 1 0 cLTurn := by
  intro f cdv A outer s H E hr ds M Φ hl hc
  obtain ⟨l, rfl, h3, hc⟩ := hc
  have nd : nLTurn.Nodup := by decide +kernel
  refine wss_cons (ws_set 1 nd (we_disp6 ?_))
  refine wss_cons (ws_ret (we_join (we_str ⟨_, rfl, we_lc nd (blkOk_by (N := nLTurn) (sc := defScope s__law_turned) (own := [("_law_sign", 2)]) (by decide +kernel)) (fun _ _ _ _ _ => pg_name (i := 2) nd rfl (Or.inl rfl)) (gt_name (by decide)) (fun _ _ _ _ _ => pts_nil) tk_nil (wi_str (we_var 0 rfl ⟨_, rfl, ?_⟩))⟩)))
  refine ⟨by rw [signs_S, List.length_map, sizeLine_eq]; omega, fun i acc M' => M' = M ∧ acc = (((l.take i).map fun c => [PL.flip c]).map S).map D.str, ⟨rfl, rfl⟩, ?_, ?_⟩
  · rintro i x acc M' hx ⟨rfl, rfl⟩
    obtain ⟨c, hc1, rfl⟩ := signs_get hx
    intro s1 H1 C' cl fp
    refine we_dKgetX (unitsB hr) (we_var 1 rfl ⟨_, rfl, we_var 2 rfl (we_var 2 rfl ⟨_, rfl, rfl, ?_⟩)⟩)
    rw [show (⟨#[c]⟩ : Str) = S [c] from rfl, turnedK, take_snoc hc1, List.map_append, List.map_append, List.map_append]; rfl
  · rintro acc M' ⟨rfl, rfl⟩
    rw [signs_S, List.length_map, List.take_length]
    have el : (((l.map fun c => [PL.flip c]).map S).map (·.length)).sum = l.length := by
      rw [lens, List.map_map]
      exact sum_ones l
    refine ⟨(l.map fun c => [PL.flip c]).map S, .inl rfl, ?_, ?_⟩
    · rw [el]
      have : ("" : Str).length = 0 := by decide +kernel
      rw [this]; omega
    · rw [show ("" : Str) = S [] by decide +kernel, join_S, show (l.map fun c => [PL.flip c]) = (l.map PL.flip).map fun c => [c] by rw [List.map_map]; rfl, join_signs]
      exact Lets.of hc
def cRep (h : Nat) : Con := fun ds M Φ => ∃ t x u, ds = [loreD t, tS x, loreD u] ∧ Good t ∧ (txt t).length ≤ 100000 ∧ ht t ≤ h ∧ Φ (loreD (PL.putT x u t)) M
abbrev nRep : List Str := ["_law_lore", "_law_name", "_law_other", "_law_part"]
theorem ok_replaced (h : Nat) (F : Fx w K mg) (F1 : ∀ j, h = j + 1 → Fc P w K mg base "_law_replaced" [] (j + 1) 3 (cRep j)) : BodyOk P w K mg base "_law_replaced" s__law_replaced nRep 3 h (cRep h) := by
  intro f cdv A outer s H E hr ds M Φ hl hc
  obtain ⟨t, x, u, rfl, hg, hln, hh, hc⟩ := hc
  have nd : nRep.Nodup := by decide +kernel
  refine wss_cons (ws_if (wt_eqS (we_ix (we_var 0 rfl (we_int ⟨0, _, rfl, lore_at0 t, we_str ⟨_, rfl, ?_⟩⟩)))))
  rw [first_one]
  cases h1 : isOne t with
  | true =>
    cases t with
    | one => rw [PL.putT] at hc; exact wss_cons (ws_ret (we_var 0 rfl (Lets.of hc)))
    | _ => cases h1
  | false =>
  refine wss_nil (wss_cons (ws_if (wt_eqS (we_ix (we_var 0 rfl (we_int ⟨0, _, rfl, lore_at0 t, we_str ⟨_, rfl, ?_⟩⟩))))))
  rw [first_name]
  cases h2 : isNm t with
  | true =>
    cases t with
    | name y =>
      rw [PL.putT] at hc
      have i1 : ∀ M, IxD M (loreD (.name y)) 1 (tS y) := fun M => by rw [loreD]; exact ixT (atI_nat (j := 1) rfl)
      refine wss_cons (ws_ret (we_if (wt_eqS (we_ix (we_var 0 rfl (we_int ⟨1, tS y, rfl, i1 _, we_var 1 rfl ⟨_, rfl, ?_⟩⟩))))))
      by_cases e : y = x
      · rw [if_pos e] at hc
        rw [decide_eq_true (show S y = S x by rw [e])]
        exact we_var 2 rfl (Lets.of hc)
      · rw [if_neg e] at hc
        rw [decide_eq_false (show ¬ S y = S x by rw [S_inj]; exact e)]
        exact we_var 0 rfl (Lets.of hc)
    | _ => cases h2
  | false =>
  refine wss_nil (wss_cons (ws_if (wt_inS (we_ix (we_var 0 rfl (we_int ⟨0, _, rfl, lore_at0 t, we_txts ⟨_, _, rfl, .inl rfl, ?_⟩⟩))))))
  rw [first_cop]
  cases t with
  | one => cases h1
  | name x => cases h2
  | cop b n v =>
    obtain ⟨n1, n2, hu⟩ := hg
    obtain ⟨j, rfl⟩ : ∃ j, h = j + 1 := ⟨h - 1, by rw [ht] at hh; omega⟩
    have hl2 : (TL.numL n).length + (txt v).length + 3 ≤ 100000 := by rw [txt] at hln; simp at hln; omega
    have i2 : ∀ M, IxD M (loreD (.cop b n v)) 2 (loreD v) := fun M => by rw [loreD]; exact ixT (atI_nat (j := 2) rfl)
    refine wss_cons (ws_ret (we_addT (we_slice (we_var 0 rfl (we_int ⟨_, rfl, _, .inr (.inl ⟨[tS [opn b], .int (n : Nat), loreD v], by rw [loreD], rfl⟩), we_tup (wa_cons (we_call (F1 j rfl) (hr.mono (by omega)) (wa_cons (we_ix (we_var 0 rfl (we_int ⟨2, _, rfl, i2 _, wa_cons (we_var 1 rfl (wa_cons (we_var 2 rfl (wa_nil ⟨rfl, v, x, u, rfl, hu, by omega, by rw [ht] at hh; omega, wa_nil ⟨sz1, _, _, rfl, rfl, ?_, ?_⟩⟩))))⟩))))))⟩)))))
    · show 2 + 1 ≤ sizeLine; decide
    · rw [PL.putT, loreD] at hc
      exact Lets.of hc
  | row s' ts =>
    obtain ⟨j, rfl⟩ : ∃ j, h = j + 1 := ⟨h - 1, by rw [ht] at hh; omega⟩
    have gs := goods_all.mp hg.2
    have i1 : ∀ M, IxD M (loreD (.row s' ts)) 1 (.tup (loresD ts)) := fun M => by rw [loreD]; exact ixT (atI_nat (j := 1) rfl)
    have tz : ts.length * 3 ≤ (txt (.row s' ts)).length + 3 := by
      have := joinL_len (sep s') rfl (txts ts)
      rw [show (txts ts).length = ts.length by rw [txts_map, List.length_map]] at this
      rw [txt]; simp only [List.length_cons, List.length_append, List.length_nil]; omega
    refine wss_nil (wss_cons (ws_ret (we_tup (wa_cons (we_ix (we_var 0 rfl (we_int ⟨0, _, rfl, lore_at0 _, wa_cons (we_tupleOf (F.bn _ (by decide +kernel)) (we_lc nd (blkOk_by (N := nRep) (sc := defScope s__law_replaced) (own := [("_law_part", 3)]) (by decide +kernel)) (fun _ _ _ _ _ => pg_name (i := 3) nd rfl (Or.inl rfl)) (gt_name (by decide)) (fun _ _ _ _ _ => pts_nil) tk_nil (wi_tup (we_ix (we_var 0 rfl (we_int ⟨1, _, rfl, i1 _, _, rfl, ?_⟩))))))⟩)))))))
    refine ⟨by rw [loresD_map, List.length_map, sizeLine_eq]; omega, fun i acc M' => M' = M ∧ acc = (ts.take i).map fun v => loreD (PL.putT x u v), ⟨rfl, rfl⟩, ?_, ?_⟩
    · rintro i z acc M' hx ⟨rfl, rfl⟩
      rw [loresD_map, List.getElem?_map] at hx
      obtain ⟨v, hv, rfl⟩ := Option.map_eq_some_iff.mp hx
      have hm := List.mem_of_getElem? hv
      have h4 := joinL_mem (z := sep s') (p := txt v) (ps := txts ts) (by rw [txts_map]; exact List.mem_map_of_mem hm)
      have h5 := hts_mem hm
      have h6 : (TL.joinL (sep s') (txts ts)).length ≤ (txt (.row s' ts)).length := by rw [txt]; simp only [List.length_cons, List.length_append, List.length_nil]; omega
      intro s1 H1 C' cl fp
      refine we_call (F1 j rfl) (hr.mono (by omega)) (wa_cons (we_var 3 rfl (wa_cons (we_var 1 rfl (wa_cons (we_var 2 rfl (wa_nil ⟨rfl, v, x, u, rfl, gs v hm, by omega, by rw [ht] at hh; omega, rfl, ?_⟩)))))))
      rw [take_snoc hv, List.map_append]; rfl
    · rintro acc M' ⟨rfl, rfl⟩
      rw [loresD_map, List.length_map, List.take_length]
      refine ⟨_, .inl rfl, wa_nil ⟨sz2, ?_⟩⟩
      have e : (D.tup [.str (firstS (.row s' ts)), .tup (ts.map fun v => loreD (PL.putT x u v))]) = loreD (PL.putT x u (.row s' ts)) := by
        rw [PL.putT, loreD, loresD_map, PL.putTs_map, List.map_map]; rfl
      exact Lets.of (e ▸ hc)
end
end W
namespace W
open PySem PySem.Spec PyProof.Rows L2 DL SX
theorem gives_R {X : Cx} {k : Nat} {B g : Addr} {cdg : Value} (hm : X.mg "CrowdError" = some (.ref B)) : GivesR X k B g "_law_answer" ["_law_look", "_law_caught_here", "_law_reply", "error"] (defScope s__law_answer) cdg (defBody s__law_answer) := by
  intro pins σ H s f Q I hr h
  refine XL.answered (X := X) (Ng := ["_law_look", "_law_caught_here", "_law_reply", "error"]) (a := "_law_look") (here := "_law_caught_here") (rp := "_law_reply") (n := "error") (x := "CrowdError") I hr (fun E ps b sc f c' A outer s H hr => tbL_pe E ps b sc f c' A outer s H hr) (Or.inl rfl) (Or.inl rfl) (Or.inl rfl) (Or.inl rfl) rfl (Or.inl rfl) (Or.inl rfl) rfl (by decide) (by decide) (by decide) (by decide) (by decide) (by decide) (by decide) (by decide) (by decide +kernel) rfl rfl ⟨rfl, by decide, .inl hm⟩ rfl ?_ h
  refine ⟨fun pins s σ H D I h => ?_⟩
  have nd : (["_law_look", "_law_caught_here", "_law_reply", "error"] : List Str).Nodup := by decide +kernel
  exact (ps_asg (pe_tup (pa_cons pe_non (pa_cons pe_non pa_nil))) (pg_tup rfl (pgs_cons (pg_name (i := 1) nd rfl (Or.inl rfl) (Or.inl rfl)) (pgs_cons (pg_name (i := 2) nd rfl (Or.inl rfl) (Or.inl rfl)) pgs_nil)) rfl rfl) rfl rfl rfl).run pins s σ H D I ⟨show 2 ≤ sizeLine by decide, fun p hp => ⟨p, _, rfl, .inl (.inl upd_same), rfl, _, _, rfl, _, _, rfl, rfl, h p hp⟩⟩
end W
namespace W
open PySem PySem.Spec PyProof.Rows L2 DL SX PL SlX
theorem rpS {z : Str} (hl : z.length ≤ 100000) (hc : ∀ c ∈ z.cps.toList, c < 0x110000) : RpD (.str z) := by
  have s := sh_str hc hl
  refine .inl ⟨0, ?_, by decide, ?_, ?_⟩
  · rw [avD, avP]; exact cmp_str hc
  · rw [avP]; exact s.ok
  · rw [avP]; exact Nat.le_trans s.le (by rw [sizeLine_eq]; decide)
theorem rpT {t : T} (g : Good t) (hl : (txt t).length ≤ 100000) : RpD (.str (S (txt t))) := rpS (by rw [S_len]; exact hl) fun c hc => by
  have hc : c ∈ TL.tl (S (txt t)) := hc
  rw [show TL.tl (S (txt t)) = txt t by simp [TL.tl]] at hc
  have := txt_lt g c hc
  omega
section
variable {P : Program} {w : World} {K : PySem.W.Frag} {mg : Str → Option Value} {base : Heap} {B C UB : Addr}
theorem made_rest {h k : Nat} {g : Addr} {cdv : Value} {A : Around} {outer : List Env} {s : Shared} {H : Hp} {EX : XK} {d a b : D} {r : T} {M : Mp} {Φ : D → Mp → Prop} (F : Fx w K mg) (gR : mg "repr" = none) (Y : Px K mg C) (own : OwnC K C) (E : Ek P K mg B "BadPlan" UB)
    (F1 : Fc P w K mg base "_law_names" [] (h + 2) 1 (cLNm h)) (F2 : Fc P w K mg base "_law_text" [] (h + 1) 1 (cText h)) (F3 : Pc P w K mg base C "text" 1 (cGetN C fun t => tS (txt t)))
    (hgd : (A.deeper (envOfC "_law_is_made" (defScope s__law_is_made) s.heap.objs.size g cdv)).guards = some []) (hr : Room k (A.deeper (envOfC "_law_is_made" (defScope s__law_is_made) s.heap.objs.size g cdv))) (hk : h + 2 ≤ k)
    (hb : Bd h r) (hc : ((nmT r).length ≤ 3 ∧ a = .non ∧ b = planN C r) ∨ (3 < (nmT r).length ∧ a = .exc UB [("value", tS (txt r))])) (hz : Φ (.bl true) M) :
    WSs (bx P w K mg base nMade "_law_is_made" (defScope s__law_is_made) g cdv A outer s H EX) [some d, some (loreD r), some a, some b] M ((defBody s__law_is_made).drop 1) { nx := fun _ M'' => Φ .non M'', rt := Lets Φ } := by
  have hd1 := hb.ht
  refine wss_cons (ws_if (wt_gtI (we_len (F.bn _ (by decide +kernel)) (we_call F1 (hr.mono hk) (wa_cons (we_var 1 rfl (wa_nil ⟨rfl, r, rfl, hb.g, hb.lv, hb.tx, hd1, _, lenL, we_int ⟨_, _, rfl, rfl, ?_⟩⟩)))))))
  rcases hc with ⟨h3, rfl, rfl⟩ | ⟨h3, rfl⟩
  · rw [decide_eq_false (show ¬ (3 : Int) < ((((nmT r).map D.str).length : Nat) : Int) by rw [List.length_map]; omega)]
    refine wss_nil (wss_cons (ws_ret (we_and (we_isN (we_var 2 rfl ⟨true, rfl, ?_⟩)))))
    refine we_and (we_isi (F.bn _ (by decide +kernel)) (we_var 3 rfl (we_gref Y.at_ (d := .fn C) (fun _ _ _ => .fn C) ⟨.ref C, .ref C, true, by rw [planN_ins]; rfl, rfl, fun C' e => by cases e; exact own, by simp [PySem.W.kitOne], true, rfl, ?_⟩)))
    exact we_one (we_eqS (we_prop F3 (hr.mono (by omega)) (we_var 3 rfl ⟨_, insM, r, rfl, we_call F2 (hr.mono (by omega)) (wa_cons (we_var 1 rfl (wa_nil ⟨rfl, r, rfl, hb.g, hb.tx, hd1, true, (decide_eq_true rfl).symm, Lets.of hz⟩)))⟩)))
  · rw [decide_eq_true (show (3 : Int) < ((((nmT r).map D.str).length : Nat) : Int) by rw [List.length_map]; omega)]
    have hrp := rpT hb.g hb.tx
    refine wss_cons (ws_ret (we_and (we_isX (F.bn _ (by decide +kernel)) (we_var 2 rfl (we_gref E.at_ (fun _ _ _ => .fn _) ⟨UB, _, .ref UB, true, rfl, rfl, E.ev, kit_self, true, rfl, ?_⟩)))))
    refine we_one (we_eqS (we_reprV gR hgd hr.units (we_valX (we_var 2 rfl ⟨UB, _, tS (txt r), rfl, E.ev, E.ev.noV, by simp [List.lookup], .str (S (txt r)), by rw [avD], hrp, we_reprV gR hgd hr.units (we_call F2 (hr.mono (by omega)) (wa_cons (we_var 1 rfl (wa_nil ⟨rfl, r, rfl, hb.g, hb.tx, hd1, .str (S (txt r)), by rw [avD], hrp, true, (decide_eq_true rfl).symm, Lets.of hz⟩))))⟩))))
end
end W
namespace W
open PySem PySem.Spec PyProof.Rows L2 DL SX PL SlX
mutual
theorem lv_ppl : ∀ t : T, Good t → (lv t).length ≤ ppl t
  | .one, _ => by rw [lv]; exact Nat.zero_le _
  | .name x, _ => by rw [lv, ppl]; exact Nat.le_refl _
  | .cop s n t, g => by
    rw [lv, ppl]
    have h := lv_ppl t g.2.2
    have := Nat.mul_le_mul_right (ppl t) (show 1 ≤ n by have := g.1; omega)
    omega
  | .row s ts, g => by rw [lv, ppl]; exact lvs_ppls ts g.2
theorem lvs_ppls : ∀ ts : List T, Goods ts → (lvL ts).length ≤ ppls ts
  | [], _ => by rw [lvL]; exact Nat.zero_le _
  | t :: ts, g => by
    rw [lvL, ppls, List.length_append]
    have h1 := lv_ppl t g.1
    have h2 := lvs_ppls ts g.2
    omega
end
/-- what a drawn plan keeps -/
structure Fn4 (t : T) : Prop where
  g : Good t
  tx : (txt t).length ≤ 2000
  lv : (lv t).length ≤ 9
  nm : (nmT t).length ≤ 3
  ht : ht t ≤ 4
  p1 : 1 ≤ ppl t
  p9 : ppl t ≤ 9
theorem len4_app (a b : Str) : (a ++ b).length = a.length + b.length := by
  show (a.cps ++ b.cps).size = _
  rw [Array.size_append]; rfl
theorem g30_4 : (Str.ofString (toString ((10 : Int) ^ (30 : Int).toNat)) : Str) = "1000000000000000000000000000000" := by decide +kernel
theorem t30_4 : S (txt (.cop false (10 ^ 30) .one)) = (("[" : Str) ++ ("1000000000000000000000000000000" : Str)) ++ (" 1]" : Str) := by decide +kernel
theorem cop_eq (n : Nat) (t : T) : ((((("[" : Str) ++ (Str.ofString (toString ((n : Nat) : Int)) : Str)) ++ (" " : Str)) ++ S (txt t)) ++ ("]" : Str)) = S (txt (.cop false n t)) := by
  rw [show (Str.ofString (toString ((n : Nat) : Int)) : Str) = S (TL.numL n) from num_S n, show ("[" : Str) = S [91] by decide +kernel, show (" " : Str) = S [32] by decide +kernel, show ("]" : Str) = S [93] by decide +kernel, S_cat, S_cat, S_cat, S_cat]
  congr 1
  rw [txt]
  simp [opn, cls]
def cvals (v : AV) : List AV := [.int 1, .int 0, .int (-2), .int (10 ^ 30 + 1), .bl true, .non, .str "2", .tup [.int 2], v]
theorem cvals_rp (v : AV) (h : RpD v) : ∀ x ∈ cvals v, RpD x := by
  have s3 : StG "2" := stG_of (by decide +kernel) (by decide +kernel) (by decide +kernel)
  have q : ∀ v, AvG v → avDp v ≤ 60 → avLn v ≤ 1000 → RpD v := fun v h1 h2 h3 => rp_of h1 h2 (by rw [sizeLine_eq]; omega)
  have i0 : AvG (.int 0) := int_G 0 (by decide)
  have i1 : AvG (.int 1) := int_G 1 (by decide)
  have i2 : AvG (.int 2) := int_G 2 (by decide)
  have i3 : AvG (.int (10 ^ 30 + 1)) := int_G (10 ^ 30 + 1) (by decide)
  intro x hx
  simp only [cvals, List.mem_cons, List.not_mem_nil, or_false] at hx
  rcases hx with rfl | rfl | rfl | rfl | rfl | rfl | rfl | rfl | rfl
  · exact q _ i1 (by decide) (by decide)
  · exact q _ i0 (by decide) (by decide)
  · refine .inl ⟨0, ?_, by decide, ?_, ?_⟩
    · rw [avD, avP]; exact ⟨by simp [toPy], by decide +kernel, by decide +kernel⟩
    · rw [avP]; decide +kernel
    · rw [avP]; exact Nat.le_trans (by decide +kernel : _ ≤ 10) (by rw [sizeLine_eq]; decide)
  · exact q _ i3 (by decide) (by decide)
  · exact q _ (by simp only [AvG]) (by decide) (by decide)
  · exact q _ (by simp only [AvG]) (by decide) (by decide)
  · exact q _ s3 (by decide) (by decide)
  · refine q _ ?_ (by decide) (by decide)
    simp only [AvG, AvsG, and_true]
    exact i2
  · exact h
section
variable {P : Program} {w : World} {K : PySem.W.Frag} {mg : Str → Option Value} {base : Heap} {B C U : Addr}
theorem ct_sg4 : FnScope ["_law_look", "_law_caught_here", "error"] ["_law_look"] (defScope s__law_caught) := ⟨rfl, rfl, rfl, by decide +kernel, rfl, by decide +kernel, by decide +kernel⟩
def qCR : Str := "_law_copies_right.<locals>.<lambda>"
def cCR (T1 : Addr) : Con := fun ds M Φ => ∃ p t a c d, ds = [.ob p, loreD t] ∧ Fn4 t ∧ M p = some (potL a c d) ∧ cOk c ∧ 0 ≤ d ∧ d + 2 < 100000 ∧ M T1 = some (.tbl qCR) ∧ ∀ a' d', d ≤ d' → d' ≤ d + 2 → Φ (.bl true) (mset M p (potL a' c d'))
abbrev nCR : List Str := ["_law_pot_here", "_law_lore", "_law_plan_here", "_law_value", "_law_caught_here"]
theorem bd_cop {t : T} (f : Fn4 t) {n : Nat} (h2 : 2 ≤ n) (h3 : n ≤ 10 ^ 30) : Bd 20 (.cop false n t) ∧ (nmT (.cop false n t)).length ≤ 3 := by
  have e : nmT (.cop false n t) = nmT t := by unfold nmT; rw [lv]
  refine ⟨⟨⟨h2, h3, f.g⟩, ?_, ?_, ?_, ?_⟩, by rw [e]; exact f.nm⟩
  · have h4 := f.tx
    have h5 : (TL.numL n).length ≤ 31 := num_len h3
    rw [txt]; simp only [List.length_cons, List.length_append, List.length_nil]; omega
  · have := f.ht; rw [PL.ht]; omega
  · have := f.ht; rw [PL.ht]; omega
  · have := f.lv; rw [PL.lv]; omega
theorem ok_copies_right {T1 cd : Addr} (F : Fx w K mg) (gR : mg "repr" = none) (TB : LamX.TabB base mg cd T1) (gB : mg "CrowdError" = some (.ref B)) (E : Ek P K mg B "BadMany" U) (Tc : Ct K mg "_law_caught" s__law_caught "_law_look")
    (F0 : Fc P w K mg base "_law_take" [] 1 2 cTake) (FO : Fc P w K mg base "_law_odd" [] 3 1 cOdd) (FW : Fc P w K mg base "_law_is_whole" [] 1 3 cWhole3) (FP : Fc P w K mg base "_law_plan" [] 16 1 (cPlanL C 4)) (FN : Fc P w K mg base "_law_people" [] 6 1 (cPplN 4)) (K1 : Kc P w K mg base "Plan" C [] 46 2 (cInitN C 20)) (F1 : Pc P w K mg base C "text" 1 (cGetN C fun t => tS (txt t))) (FC : Mcx P w K mg base C "copies" [] 48 2 (cCopX C U 20)) : BodyC P w K mg base "_law_copies_right" s__law_copies_right nCR 2 100 cd (cCR T1) := by
  intro f A outer s H EX hgd hr ds M Φ hl hc
  obtain ⟨p, t, a, c, d, rfl, ft, hM, co, d0, d1, hT, hc⟩ := hc
  have nd : nCR.Nodup := by decide +kernel
  have n1 : T1 ≠ p := fun z => by rw [z, hM] at hT; cases hT
  have sz : ∀ n : Nat, n ≤ 10000 → n ≤ sizeLine := fun n h => by rw [sizeLine_eq]; omega
  have g := ft.g
  have b1 := ft.tx
  have b2 := ft.lv
  have b3 := ft.nm
  have b4 := ft.ht
  have b5 := ft.p1
  have b6 := ft.p9
  refine wss_cons (ws_set 2 nd (we_call FP (hr.mono (by decide)) (wa_cons (we_var 1 rfl (wa_nil ⟨rfl, t, rfl, g, by omega, b3, by omega, b4, by omega, ?_⟩)))))
  have o1 : Good .one := trivial
  have oC : Bd 20 (.cop false (10 ^ 30) .one) ∧ (nmT (.cop false (10 ^ 30) .one)).length ≤ 3 := ⟨⟨⟨by decide, Nat.le_refl _, trivial⟩, by decide +kernel, by decide +kernel, by decide +kernel, by decide +kernel⟩, by decide +kernel⟩
  refine wss_cons (ws_if (wt_neS (we_prop F1 (hr.mono (by decide)) (we_methN (C := C) FC (hr.mono (by decide)) (we_plan_n K1 (hr.mono (by decide)) (we_str ⟨.one, by rw [txt]; rfl, o1, by decide +kernel, by decide +kernel, by decide +kernel, by decide +kernel, by decide +kernel, _, insM, rfl, wa_cons (we_powI (we_int (we_int ⟨_, _, rfl, rfl, ⟨by decide, by decide, by decide⟩, wa_nil ⟨rfl, .one, natV (10 ^ 30), by rw [natV_D]; rfl, o1, fun n hn h2 h3 => ?_, fun hw => ?_⟩⟩)))⟩))))))
  rotate_left
  · exfalso; revert hw; decide +kernel
  have hn : n = 10 ^ 30 := by
    unfold natV at hn
    injection hn with hn
    exact (Int.ofNat.inj hn).symm
  subst hn
  refine ⟨oC.1, oC.2, _, insM, _, rfl, we_addS (we_addS (we_str (we_strI (F.bn _ (by decide +kernel)) (we_powI (we_int (we_int ⟨_, _, rfl, rfl, ⟨by decide, by decide, by decide⟩, _, rfl, by decide +kernel, ?_⟩))))))⟩
  rw [g30_4]
  refine ⟨_, _, rfl, rfl, by rw [show ("[" : Str).length = 1 by decide +kernel, show ("1000000000000000000000000000000" : Str).length = 31 by decide +kernel]; exact sz _ (by decide), we_str ⟨_, _, rfl, rfl, by rw [show (("[" : Str) ++ ("1000000000000000000000000000000" : Str)).length = 32 by decide +kernel, show (" 1]" : Str).length = 3 by decide +kernel]; exact sz _ (by decide), true, (decide_eq_true t30_4).symm, ?_⟩⟩
  have tl : (10 : Int) ^ (30 : Int).toNat = ((10 ^ 30 : Nat) : Int) := by decide +kernel
  refine wss_nil (wss_cons (ws_for PassesOwn.never (wi_list (we_lst (wa_cons (we_int (wa_cons (we_int (wa_cons (we_intN (F.bn _ (by decide +kernel)) (we_divI (we_powI (we_int (we_int ⟨_, _, rfl, rfl, ⟨by decide, by decide, by decide⟩, we_call FN (hr.mono (by decide)) (wa_cons (we_var 1 rfl (wa_nil ⟨rfl, t, rfl, g, by omega, b4, _, _, rfl, rfl, ⟨by omega, ?_⟩, .inl ⟨_, rfl, wa_cons (we_addI (we_int (we_call F0 (hr.mono (by decide)) (wa_cons (we_var 0 rfl (wa_cons (we_int (wa_nil ⟨rfl, p, 99, a, c, d, rfl, by decide, by decide, hM, co, d0, by omega, fun r a1 e1 r0 r9 k1 k2 => ⟨_, _, rfl, rfl, wa_nil ⟨by show 4 ≤ sizeLine; decide, ?_⟩⟩⟩))))))))⟩⟩)))⟩))))))))))))))
  · rw [Int.natAbs_natCast]; exact Nat.lt_of_le_of_lt (Nat.log2_le_self _) (by omega)
  rw [tl]
  have hq1 : (10 ^ 30 : Nat) / ppl t ≤ 10 ^ 30 := Nat.div_le_self _ _
  have hq2 : 2 ≤ (10 ^ 30 : Nat) / ppl t := by
    rw [Nat.le_div_iff_mul_le (by omega)]
    have : (18 : Nat) ≤ 10 ^ 30 := by decide
    omega
  have hqe : ((10 ^ 30 : Nat) : Int) / ((ppl t : Nat) : Int) = (((10 ^ 30 : Nat) / ppl t : Nat) : Int) := (Int.natCast_ediv _ _).symm
  rw [hqe]
  have big : (1000 : Nat) ≤ 10 ^ 30 := by decide
  obtain ⟨n4, hn4⟩ : ∃ n4 : Nat, 2 + r = (n4 : Int) := ⟨(2 + r).toNat, by omega⟩
  rw [hn4]
  have vals : ∀ x ∈ [D.int 2, D.int 3, D.int (((10 ^ 30 : Nat) / ppl t : Nat) : Int), D.int (n4 : Int)], ∃ n : Nat, x = .int (n : Nat) ∧ 2 ≤ n ∧ n ≤ 10 ^ 30 := by
    intro x hx
    simp only [List.mem_cons, List.not_mem_nil, or_false] at hx
    rcases hx with rfl | rfl | rfl | rfl
    · exact ⟨2, rfl, by omega, by omega⟩
    · exact ⟨3, rfl, by omega, by omega⟩
    · exact ⟨_, rfl, hq2, hq1⟩
    · exact ⟨n4, rfl, by omega, by omega⟩
  generalize [D.int 2, D.int 3, D.int (((10 ^ 30 : Nat) / ppl t : Nat) : Int), D.int (n4 : Int)] = xs at vals ⊢
  generalize hM1 : mset M p (potL a1 c e1) = M1
  have m1 : M1 p = some (potL a1 c e1) := by rw [← hM1, mset_same]
  have m1T : M1 T1 = some (.tbl qCR) := by rw [← hM1, mset_ne n1]; exact hT
  refine ⟨xs, .inl rfl, fun i ρ' M' => ∃ v, ρ' = [some (.ob p), some (loreD t), some (planN C t), v, none] ∧ M' = M1, ⟨none, rfl, rfl⟩, ?_, ?_⟩
  · rintro i x ρ' M' hx ⟨v, rfl, rfl⟩
    obtain ⟨n, rfl, h2, h3⟩ := vals x (List.mem_of_getElem? hx)
    obtain ⟨bc, nc⟩ := bd_cop ft h2 h3
    have hnl := num_len h3
    refine wg_name 3 ?_ nd
    refine wss_cons (ws_if (wt_neS (we_prop F1 (hr.mono (by decide)) (we_methN (C := C) FC (hr.mono (by decide)) (we_var 2 rfl ⟨_, insM, rfl, wa_cons (we_var 3 rfl (wa_nil ⟨rfl, t, natV n, by rw [natV_D]; rfl, g, fun m hm h4 h5 => ?_, fun hw => ?_⟩))⟩)))))
    rotate_left
    · exfalso
      have : whB (natV n) 2 (10 ^ 30) = (decide ((2 : Int) ≤ (n : Nat)) && decide (((n : Nat) : Int) ≤ 10 ^ 30)) := rfl
      rw [this, decide_eq_true (by omega), decide_eq_true (by have : ((n : Nat) : Int) ≤ ((10 ^ 30 : Nat) : Int) := Int.ofNat_le.mpr h3; exact this)] at hw
      cases hw
    have hmn : m = n := by
      unfold natV at hm
      injection hm with hm
      exact (Int.ofNat.inj hm).symm
    subst hmn
    have l1 : ("[" : Str).length = 1 := by decide +kernel
    have l2 : (" " : Str).length = 1 := by decide +kernel
    have l3 : ("]" : Str).length = 1 := by decide +kernel
    have l4 : (Str.ofString (toString ((m : Nat) : Int)) : Str).length ≤ 31 := by rw [show (Str.ofString (toString ((m : Nat) : Int)) : Str) = S (TL.numL m) from num_S m, S_len]; exact hnl
    have l5 : (S (txt t)).length ≤ 2000 := by rw [S_len]; exact b1
    have ap : ∀ x y : Str, (x ++ y).length = x.length + y.length := fun x y => len4_app x y
    refine ⟨bc, nc, _, insM, _, rfl, we_addS (we_addS (we_addS (we_addS (we_str (we_strI (F.bn _ (by decide +kernel)) (we_var 3 rfl ⟨_, rfl, ?_, _, _, rfl, rfl, ?_, we_str ⟨_, _, rfl, rfl, ?_, we_prop F1 (hr.mono (by decide)) (we_var 2 rfl ⟨_, insM, t, rfl, _, _, rfl, rfl, ?_, we_str ⟨_, _, rfl, rfl, ?_, true, ?_, ?_⟩⟩)⟩⟩))))))⟩
    · rw [Int.natAbs_natCast]
      have e2 : m < 16 ^ 26 := Nat.lt_of_le_of_lt h3 (by decide)
      have e3 := log16 e2
      omega
    · rw [l1]; exact sz _ (by omega)
    · rw [ap, l1, l2]; exact sz _ (by omega)
    · rw [ap, ap, l1, l2]; exact sz _ (by omega)
    · rw [ap, ap, ap, l1, l2, l3]; exact sz _ (by omega)
    · exact (decide_eq_true (cop_eq m t).symm).symm
    exact wss_nil (wss_nil ⟨_, rfl, rfl⟩)
  rintro ρ' M' ⟨v, rfl, rfl⟩
  have tl2 : (10 : Int) ^ (30 : Int).toNat = 10 ^ 30 := by decide +kernel
  refine wss_cons (ws_for PassesOwn.never (wi_list (we_lst (wa_cons (we_int (wa_cons (we_int (wa_cons (we_negI (we_int ⟨2, rfl, wa_cons (we_addI (we_powI (we_int (we_int ⟨_, _, rfl, rfl, ⟨by decide, by decide, by decide⟩, we_int ⟨_, _, rfl, rfl, wa_cons (we_bl (wa_cons (we_non (wa_cons (we_str (wa_cons (we_tup (wa_cons (we_int (wa_nil ⟨sz1, wa_cons (we_call FO (hr.mono (by decide)) (wa_cons (we_var 0 rfl (wa_nil ⟨rfl, p, a1, c, e1, rfl, m1, co, by omega, by omega, fun vo a2 e2 ho k3 k4 => wa_nil ⟨by show 9 ≤ sizeLine; decide, ?_⟩⟩))))⟩))))))))))⟩⟩))))⟩))))))))))
  rw [tl2]
  have avl : ([D.int 1, .int 0, .int (-2), .int (10 ^ 30 + 1), .bl true, .non, .str "2", .tup [.int 2], avD vo] : List D) = (cvals vo).map avD := by
    unfold cvals
    simp only [List.map_cons, List.map_nil, avD, avsD]
  rw [avl]
  have rps := cvals_rp vo (odds_rp vo ho)
  generalize cvals vo = vs at rps ⊢
  generalize hM2 : mset M' p (potL a2 c e2) = M2
  have m2 : M2 = mset M p (potL a2 c e2) := by rw [← hM2, ← hM1, mset_mset]
  have m2T : M2 T1 = some (.tbl qCR) := by rw [m2, mset_ne n1]; exact hT
  refine ⟨_, .inl rfl, fun i ρ' M' => ∃ v3 v4, ρ' = [some (.ob p), some (loreD t), some (planN C t), v3, v4] ∧ M' = M2, ⟨_, _, rfl, rfl⟩, ?_, ?_⟩
  · rintro i x ρ' M3 hx ⟨v3, v4, rfl, rfl⟩
    rw [List.getElem?_map] at hx
    obtain ⟨av, hav, rfl⟩ := Option.map_eq_some_iff.mp hx
    have hrp := rps av (List.mem_of_getElem? hav)
    refine wg_name 3 ?_ nd
    refine wss_cons (ws_asg (we_ct (k := 60) Tc ct_sg4 (fun g cdg => gives_B gB) (hr.mono (by decide)) (we_lam TB rfl rfl m2T rfl (hfree_of (by rfl)) ⟨_, _, _, rfl, LamX.lamS_by (by rfl), (by intros; rfl), fun f' c' A' outer' s' H0 E' hr2 => ?_⟩)))
    refine wex_meth (C := C) FC (hr2.mono (by decide)) (we_var 2 rfl ⟨_, insM, rfl, wa_cons (we_var 3 rfl (wa_nil ⟨rfl, t, av, rfl, g, fun n hn h2 h3 => ⟨(bd_cop ft h2 h3).1, (bd_cop ft h2 h3).2, ?_⟩, fun hw => ⟨E.ex, ?_⟩⟩))⟩)
    · subst hn
      have hw : whB (natV n) 2 (10 ^ 30) = true := by
        have : whB (natV n) 2 (10 ^ 30) = (decide ((2 : Int) ≤ (n : Nat)) && decide (((n : Nat) : Int) ≤ 10 ^ 30)) := rfl
        rw [this, decide_eq_true (by omega), decide_eq_true (by have : ((n : Nat) : Int) ≤ ((10 ^ 30 : Nat) : Int) := Int.ofNat_le.mpr h3; exact this)]; rfl
      refine wg_name 4 ?_ nd
      refine wss_cons (ws_if (wt_ww (ww_and (wt_not (wt_val (we_call FW (hr.mono (by decide)) (wa_cons (we_var 3 rfl (wa_cons (we_int (wa_cons (we_powI (we_int (we_int ⟨_, _, rfl, rfl, ⟨by decide, by decide, by decide⟩, wa_nil ⟨rfl, natV n, _, _, rfl, _, rfl, ?_⟩⟩))))))))))))))
      rw [tl2, hw]
      refine wss_nil (wss_cons (ws_if (wt_ww (ww_and (wt_notN (we_var 4 rfl ?_))))))
      exact wss_nil (wss_nil ⟨_, _, rfl, rfl⟩)
    · refine wg_name 4 ?_ nd
      refine wss_cons (ws_if (wt_ww (ww_and (wt_not (wt_val (we_call FW (hr.mono (by decide)) (wa_cons (we_var 3 rfl (wa_cons (we_int (wa_cons (we_powI (we_int (we_int ⟨_, _, rfl, rfl, ⟨by decide, by decide, by decide⟩, wa_nil ⟨rfl, av, _, _, rfl, _, rfl, ?_⟩⟩))))))))))))))
      rw [tl2, hw]
      refine ww_and1 (wt_not (wt_val (we_isX (F.bn _ (by decide +kernel)) (we_var 4 rfl (we_gref E.at_ (fun _ _ _ => .fn _) ⟨U, _, .ref U, true, rfl, rfl, E.ev, kit_self, true, rfl, ?_⟩)))))
      refine wss_nil (wss_cons (ws_if (wt_ww (ww_and (wt_notN (we_var 4 rfl ?_))))))
      refine ww_and1 (wt_neS (we_reprV gR hgd hr.units (we_valX (we_var 4 rfl ⟨U, _, avD av, rfl, E.ev, E.ev.noV, by simp [List.lookup], av, rfl, hrp, we_reprV gR hgd hr.units (we_var 3 rfl ⟨av, rfl, hrp, true, (decide_eq_true rfl).symm, ?_⟩)⟩))))
      exact wss_nil (wss_nil ⟨_, _, rfl, rfl⟩)
  rintro ρ' M3 ⟨v3, v4, rfl, rfl⟩
  refine wss_cons (ws_ret (we_bl (Lets.of ?_)))
  rw [m2]
  exact hc a2 e2 (by omega) (by omega)
end
end W
namespace PySem.SeqAt
open AutoSeq1 (wpAny_loadPart')
open MeetsSeq
theorem str_eq_no_dict (b : Str) (u : Tok) (l : Addr) (es : Array DictEntry) (n : Nat) (dd : Option Addr) (sl : Array (Option Value)) :
    Meets (Builtin.«str.__eq__» ⟨[.str b u, .ref l], []⟩) (fun _ R s => s.heap.get? l = some { cls := .type "dict", dict := dd, data := .dict es n, slots := sl } ∧ R (.ok (.ret .notImplemented)) s) :=
  .of_wp fun prog w A R s h => by obtain ⟨hp, g, d, tk, os⟩ := s; obtain ⟨hl, h⟩ := h; wp_walk using wpAny_loadPart' hl, wpAny_load hl; exact ⟨_, rfl, h⟩
theorem dict_eq_no_str (l : Addr) (es : Array DictEntry) (n : Nat) (dd : Option Addr) (sl : Array (Option Value)) (b : Str) (u : Tok) :
    Meets (Builtin.«dict.__eq__» ⟨[.ref l, .str b u], []⟩) (fun _ R s => s.heap.get? l = some { cls := .type "dict", dict := dd, data := .dict es n, slots := sl } ∧ R (.ok (.ret .notImplemented)) s) :=
  .of_wp fun prog w A R s h => by obtain ⟨hp, g, d, tk, os⟩ := s; obtain ⟨hl, h⟩ := h; wp_walk using wpAny_loadPart' hl, wpAny_load hl, wpAny_of_eq F.sub_str_dict; exact ⟨_, rfl, h⟩
theorem EqAt.str_dict {A : Around} {s : Shared} {l : Addr} {es : Array DictEntry} {n : Nat} {dd : Option Addr} {sl : Array (Option Value)} (b : Str) (u : Tok) (ho : s.heap.get? l = some { cls := .type "dict", dict := dd, data := .dict es n, slots := sl }) (hu : A.units < cLine) : EqAt A s (.str b u) (.ref l) false := fun prog w E Q h => by
  unfold eqBool
  refine wpAny_holding ?_
  refine wpAny_ite_split (fun hab => absurd (eq_of_beq hab) nofun) (fun _ => ?_)
  refine wpAny_bind (rc_eq_decline_or (k := false) (typeIs_str s b u) ⟨_, ho, rfl⟩ (by decide) F.sub_dict_str F.slot_str_eq F.slot_dict_eq_refl
    (fun _ hq => call_meets F.slot_str_eq (typeIs_str s b u) F.entry_str_eq (F.args_str_eq_2 _ _) (str_eq_no_dict b u l es n dd sl) ⟨ho, hq⟩)
    (fun _ hq => call_meets F.slot_dict_eq_refl ⟨_, ho, rfl⟩ F.entry_dict_eq (F.args_dict_eq_2 _ _) (dict_eq_no_str l es n dd sl b u) ⟨ho, hq⟩)
    (fun _ hq => wpAny_of_eq (rfl : isSame (.str b u) (.ref l) = pure false) hq) (.inr hu) (wpAny_truthy_bool h))
end PySem.SeqAt
namespace DL
open PySem PySem.Spec PyProof.Rows L2
section
variable {X : Cx} {ρ : Rho} {M : Mp} {Φ : D → Mp → Prop} {Θ : Bool → Mp → Prop} {a b : Expr} {pos : Pos}
theorem vals_str {w : Value} : ∀ {zs : List Str} {its : List Value}, Vals (zs.map V.str) its → w ∈ its → ∃ b u, w = Value.str b u
  | [], _, .nil, h => by cases h
  | z :: zs, _, .cons r t, h => by
    rcases List.mem_cons.mp h with rfl | h
    · obtain ⟨u, e⟩ := r
      exact ⟨z, u, e⟩
    · exact vals_str t h
def rInDic (X : Cx) : R2 := fun x y H Q => ∃ (q p : Addr) (zs : List Str), x = .ref q ∧ ((∃ kvs, H q = some (.dK kvs)) ∨ ∃ kvs, H q = some (.dT kvs)) ∧ y = .ref p ∧ SqL X.K H p (zs.map V.str) ∧ Q (.bl false) H
theorem op_inDic (hu : X.A.units + 1 < cLine) : OpR X (compareOp .In) (rInDic X) := by
  intro pins s σ H x y v u Q I rx ry h
  obtain ⟨q, p, zs, rfl, hd, rfl, hq, hz⟩ := h
  cases rx
  cases ry
  have ho : ∃ (es : Array DictEntry) (n : Nat), s.heap.get? q = some { cls := .type "dict", dict := none, data := .dict es n, slots := #[] } := by
    have fin : ∀ {o : Obj} {es : Array DictEntry} {ep : Nat}, s.heap.get? q = some o → o.ExactDict → o.data = .dict es ep → ∃ (es : Array DictEntry) (n : Nat), s.heap.get? q = some { cls := .type "dict", dict := none, data := .dict es n, slots := #[] } := fun {o es ep} h1 h2 h3 => by
      obtain ⟨c, d, dt, sl⟩ := o
      obtain ⟨e1, e2, e3⟩ := h2
      simp only at e1 e2 e3 h3
      subst e1 e2 e3 h3
      exact ⟨es, ep, h1⟩
    rcases hd with ⟨kvs, hd⟩ | ⟨kvs, hd⟩
    · obtain ⟨_, _, vs, _, o, es, ep, h1, h2, h3, _⟩ := I.hok _ _ hd
      exact fin h1 h2 h3
    · obtain ⟨_, _, xs, _, o, es, ep, h1, h2, h3, _⟩ := I.hok _ _ hd
      exact fin h1 h2 h3
  obtain ⟨es, n, ho⟩ := ho
  obtain ⟨its, r, pl, hsz⟩ := I.list hq
  refine SeqAt.in_listAt (fun _ => false) pl.isList (fun w hw => ?_) ⟨.bl _, H, I, rfl, ?_⟩
  · obtain ⟨b, u, rfl⟩ := vals_str r (by simpa using hw)
    exact SeqAt.EqAt.str_dict b u ho (by show X.A.in1.units < cLine; exact hu)
  · rw [show its.toArray.any (fun _ => false) = false by simp]
    exact hz
theorem wt_inDic (hu : X.A.units + 1 < cLine) (h : WE X ρ M a fun x M1 => WE X ρ M1 b fun y M2 => ∃ zs : List Str, ((∃ kvs, x = .dK kvs) ∨ ∃ kvs, x = .dT kvs) ∧ LstOf M2 y (zs.map D.str) ∧ Θ false M2) (hm : behindInMarks .In b = false := by rfl) : WT X ρ M (.Compare a [.In] [b] pos) Θ :=
  wt_cmp (op_inDic hu) hm (h.imp fun _ _ h => h.imp fun _ _ ⟨zs, h1, h2, h3⟩ Z v u H Q w r1 r2 k => by
    obtain ⟨q, vs, rfl, hq, rs⟩ := r2.asLst w h2
    rw [rs.strs] at hq
    rcases h1 with ⟨kvs, rfl⟩ | ⟨kvs, rfl⟩
    · cases r1 with
      | dK hH m rs => exact ⟨_, q, zs, rfl, .inl ⟨_, hH⟩, rfl, hq, k.now w (.bl _) ⟨_, rfl, h3⟩⟩
    · cases r1 with
      | dT hH m rs => exact ⟨_, q, zs, rfl, .inr ⟨_, hH⟩, rfl, hq, k.now w (.bl _) ⟨_, rfl, h3⟩⟩)
end
end DL
namespace W
open PySem PySem.Spec PyProof.Rows L2 DL SX PL SlX
/-- is a value one of the texts -/
def inAv (v : AV) (zs : List Str) : Bool := match v with
  | .str z => decide (z ∈ zs)
  | _ => false
theorem any_no (p : PyData) (hp : ∀ z, PyData.eqv (.str z) p = false) : ∀ zs : List Str, ((zs.map PyData.str).any fun z => PyData.eqv z p) = false
  | [] => rfl
  | z :: zs => by rw [List.map_cons, List.any_cons, hp, any_no p hp zs]; rfl
theorem wt_inAv {X : Cx} {ρ : Rho} {M : Mp} {Θ : Bool → Mp → Prop} {a b : Expr} {pos : Pos} (v : AV) (zs : List Str) (hrp : RpD v) (hz : ∀ z ∈ zs, ∀ c ∈ z.cps.toList, c < 0x110000) (hu : X.A.units + 65 < cLine)
    (h : WE X ρ M a fun x M1 => WE X ρ M1 b fun y M2 => x = avD v ∧ y = .lst (zs.map D.str) ∧ Θ (inAv v zs) M2) (hm : behindInMarks .In b = false := by rfl) : WT X ρ M (.Compare a [.In] [b] pos) Θ := by
  have cz : CmpDs (zs.map D.str) (zs.map PyData.str) 0 := cmps_map (Nat.le_refl _) fun z hzz => cmp_str (hz z hzz)
  have data : (∀ z, v ≠ .str z) → (∃ k, CmpD (avD v) (avP v) k ∧ k ≤ 60) → (∀ z, PyData.eqv (.str z) (avP v) = false) → inAv v zs = false → WT X ρ M (.Compare a [.In] [b] pos) Θ := fun _ ⟨k, c, hk⟩ he hf =>
    wt_inD hu (h.imp fun x M1 h => h.imp fun y M2 ⟨e1, e2, h⟩ => ⟨avP v, zs.map PyData.str, by rw [e1]; exact c.eq, by rw [e2]; exact (cmp_lst cz).eq, c.shaped (by omega), (cmp_lst cz).shaped (by omega), by rw [any_no _ he, ← hf]; exact h⟩) hm
  have rp : (∃ k, CmpD (avD v) (avP v) k ∧ k ≤ 60) ∨ v = .dic ∨ ∃ x y n, v = .dct x y n := by
    rcases hrp with ⟨k, c, h1, _⟩ | rfl | ⟨x, y, n, rfl, _⟩
    · exact .inl ⟨k, c, h1⟩
    · exact .inr (.inl rfl)
    · exact .inr (.inr ⟨x, y, n, rfl⟩)
  cases v with
  | str z => exact wt_inS (h.imp fun x M1 h => h.imp fun y M2 ⟨e1, e2, h⟩ => ⟨z, zs, by rw [e1, avD], .inr (by rw [e2]; exact rfl), h⟩) hm
  | dic =>
    obtain ⟨kvs, hd⟩ : ∃ kvs, avD .dic = .dK kvs := ⟨_, by rw [avD]⟩
    exact wt_inDic (by omega) (h.imp fun x M1 h => h.imp fun y M2 ⟨e1, e2, h⟩ => ⟨zs, .inl ⟨kvs, e1.trans hd⟩, by rw [e2]; exact rfl, h⟩) hm
  | dct x y n =>
    obtain ⟨kvs, hd⟩ : ∃ kvs, avD (.dct x y n) = .dT kvs := ⟨_, by rw [avD]⟩
    exact wt_inDic (by omega) (h.imp fun x M1 h => h.imp fun y M2 ⟨e1, e2, h⟩ => ⟨zs, .inr ⟨kvs, e1.trans hd⟩, by rw [e2]; exact rfl, h⟩) hm
  | non => exact data (fun z => nofun) (rp.resolve_right (by rintro (h | ⟨x, y, n, h⟩) <;> cases h)) (fun z => by rw [avP]; rfl) rfl
  | bl b => exact data (fun z => nofun) (rp.resolve_right (by rintro (h | ⟨x, y, n, h⟩) <;> cases h)) (fun z => by rw [avP]; rfl) rfl
  | int i => exact data (fun z => nofun) (rp.resolve_right (by rintro (h | ⟨x, y, n, h⟩) <;> cases h)) (fun z => by rw [avP]; rfl) rfl
  | tup l => exact data (fun z => nofun) (rp.resolve_right (by rintro (h | ⟨x, y, n, h⟩) <;> cases h)) (fun z => by rw [avP]; rfl) rfl
  | lst l => exact data (fun z => nofun) (rp.resolve_right (by rintro (h | ⟨x, y, n, h⟩) <;> cases h)) (fun z => by rw [avP]; rfl) rfl
mutual
theorem put_lv9 (x : List Nat) {u : T} {n : Nat} (h1 : 1 ≤ n) (hu : (lv u).length ≤ n) : ∀ t : T, (lv (PL.putT x u t)).length ≤ (lv t).length * n
  | .one => by rw [PL.putT, lv]; exact Nat.zero_le _
  | .name y => by
    rw [PL.putT]
    have e : (lv (.name y)).length = 1 := by rw [lv]; rfl
    rw [e, Nat.one_mul]
    by_cases h : y = x
    · rw [if_pos h]; exact hu
    · rw [if_neg h, e]; exact h1
  | .cop s m t => by rw [PL.putT, lv, lv]; exact put_lv9 x h1 hu t
  | .row s ts => by rw [PL.putT, lv, lv]; exact puts_lv9 x h1 hu ts
theorem puts_lv9 (x : List Nat) {u : T} {n : Nat} (h1 : 1 ≤ n) (hu : (lv u).length ≤ n) : ∀ ts : List T, (lvL (PL.putTs x u ts)).length ≤ (lvL ts).length * n
  | [] => by rw [PL.putTs, lvL]; exact Nat.zero_le _
  | t :: ts => by
    rw [PL.putTs, lvL, lvL, List.length_append, List.length_append, Nat.add_mul]
    have a := put_lv9 x h1 hu t
    have b := puts_lv9 x h1 hu ts
    omega
end
theorem bd_put {t u : T} (ft : Fn4 t) (fu : Fn4 u) (x : List Nat) : Bd 20 (PL.putT x u t) ∧ (txt t).length + (lv t).length * (txt u).length ≤ 100000 := by
  have h1 := Nat.mul_le_mul ft.lv fu.tx
  have h2 := put_len x u (t := t) ft.g
  have h3 := put_ht x u t
  have h4 := put_lv9 x (n := 9) (by decide) fu.lv t
  have h5 := ft.lv
  have h6 := ft.tx
  have h7 := ft.ht
  have h8 := fu.ht
  exact ⟨⟨put_good fu.g ft.g, by omega, by omega, by omega, by omega⟩, by omega⟩
theorem or_made {X : Cx} {h k : Nat} {C UB B : Addr} {d : D} {r : T} {M : Mp} {Φ : D → Mp → Prop} (F : Fx X.w X.K X.mg) (gR : X.mg "repr" = none) (Y : Px X.K X.mg C) (own : OwnC X.K C) (E : Ek X.prog X.K X.mg B "BadPlan" UB) (F1 : Fc X.prog X.w X.K X.mg X.base "_law_names" [] (h + 2) 1 (cLNm h)) (F2 : Fc X.prog X.w X.K X.mg X.base "_law_text" [] (h + 1) 1 (cText h)) (F3 : Pc X.prog X.w X.K X.mg X.base C "text" 1 (cGetN C fun t => tS (txt t)))
    (hgd : X.A.guards = some []) (hk : h + 2 ≤ k + 2) (hb : Bd h r) (hz : Φ (.bl true) M) : PlanOr C UB r (fun v M2 => MadeRest X Φ k d (loreD r) .non v M2) (fun C fs M2 => PySem.W.exmOne X.K (.ref C) (.ref B) = some true ∧ MadeRest X Φ k d (loreD r) (.exc C fs) .non M2) M :=
  ⟨fun h3 g cdv s H hr' => made_rest F gR Y own E F1 F2 F3 hgd hr' hk hb (.inl ⟨h3, rfl, rfl⟩) hz, fun h3 => ⟨E.ex, fun g cdv s H hr' => made_rest F gR Y own E F1 F2 F3 hgd hr' hk hb (.inr ⟨h3, rfl⟩) hz⟩⟩
def pvals (zs : List Str) (v : AV) : List AV := zs.map AV.str ++ [.str "nobody", .str "", .non, .int 1, .tup [.str "x"], v]
theorem pvals_D (zs : List Str) (v : AV) : (zs.map D.str ++ [.str "nobody", .str "", .non, .int 1, .tup [.str "x"], avD v] : List D) = (pvals zs v).map avD := by
  unfold pvals
  have e : zs.map D.str = (zs.map AV.str).map avD := by
    rw [List.map_map]
    exact List.map_congr_left fun z _ => by show D.str z = avD (.str z); rw [avD]
  rw [List.map_append, ← e]
  simp only [List.map_cons, List.map_nil, avD, avsD]
theorem pvals_rp {zs : List Str} (v : AV) (h : RpD v) (hl : ∀ z ∈ zs, RpD (.str z)) : ∀ x ∈ pvals zs v, RpD x := by
  have q : ∀ v, AvG v → avDp v ≤ 60 → avLn v ≤ 1000 → RpD v := fun v h1 h2 h3 => rp_of h1 h2 (by rw [sizeLine_eq]; omega)
  have s1 : StG "nobody" := stG_of (by decide +kernel) (by decide +kernel) (by decide +kernel)
  have s2 : StG "" := stG_of (by decide +kernel) (by decide +kernel) (by decide +kernel)
  have s3 : StG "x" := stG_of (by decide +kernel) (by decide +kernel) (by decide +kernel)
  have i1 : AvG (.int 1) := int_G 1 (by decide)
  intro x hx
  unfold pvals at hx
  rcases List.mem_append.mp hx with hx | hx
  · obtain ⟨z, hz, rfl⟩ := List.mem_map.mp hx
    exact hl z hz
  simp only [List.mem_cons, List.not_mem_nil, or_false] at hx
  rcases hx with rfl | rfl | rfl | rfl | rfl | rfl
  · exact q _ s1 (by decide) (by decide)
  · exact q _ s2 (by decide) (by decide)
  · exact q _ (by simp only [AvG]) (by decide) (by decide)
  · exact q _ i1 (by decide) (by decide)
  · refine q _ ?_ (by decide) (by decide)
    simp only [AvG, AvsG, and_true]
    exact s3
  · exact h
end W
namespace W
open PySem PySem.Spec PyProof.Rows L2 DL SX PL SlX
mutual
theorem lvS_len : ∀ t : T, Good t → ∀ x ∈ lv t, x.length ≤ 8
  | .one, _, x, hx => by rw [lv] at hx; cases hx
  | .name y, g, x, hx => by
    rw [lv, List.mem_singleton] at hx
    rw [hx, S_len]; exact g.2.1
  | .cop s n t, g, x, hx => lvS_len t g.2.2 x (by rw [lv] at hx; exact hx)
  | .row s ts, g, x, hx => lvSs_len ts g.2 x (by rw [lv] at hx; exact hx)
theorem lvSs_len : ∀ ts : List T, Goods ts → ∀ x ∈ lvL ts, x.length ≤ 8
  | [], _, x, hx => by rw [lvL] at hx; cases hx
  | t :: ts, g, x, hx => by
    rw [lvL] at hx
    rcases List.mem_append.mp hx with h | h
    · exact lvS_len t g.1 x h
    · exact lvSs_len ts g.2 x h
end
section
variable {P : Program} {w : World} {K : PySem.W.Frag} {mg : Str → Option Value} {base : Heap} {B C U UB UN UP : Addr}
def qPR : Str := "_law_puts_right.<locals>.<lambda>"
def cPR (T1 : Addr) : Con := fun ds M Φ => ∃ p t u a c d, ds = [.ob p, loreD t, loreD u] ∧ Fn4 t ∧ Fn4 u ∧ M p = some (potL a c d) ∧ cOk c ∧ 0 ≤ d ∧ d + 20 < 100000 ∧ M T1 = some (.tbl qPR) ∧ ∀ a' d' M', d ≤ d' → d' ≤ d + 12 → M' p = some (potL a' c d') → (∀ T z, M T = some (.tbl z) → M' T = some (.tbl z)) → Φ (.bl true) M'
abbrev nPR : List Str := ["_law_pot_here", "_law_lore", "_law_other", "_law_plan_here", "_law_its", "_law_names_here", "_law_value", "_law_odd_here", "_law_caught_here", "_law_one"]
theorem unitsH {k : Nat} {A : Around} (r : Room k A) : A.units + 65 < cLine := by have := r.un; omega
theorem ok_puts_right {T1 cd : Addr} (F : Fx w K mg) (gR : mg "repr" = none) (Y : Px K mg C) (own : OwnC K C) (TB : LamX.TabB base mg cd T1) (gB : mg "CrowdError" = some (.ref B)) (EB : Ek P K mg B "BadPlan" UB) (EN : Ek P K mg B "NoName" UN) (EP : Ek P K mg B "NoPlan" UP) (Tc : Ct K mg "_law_caught" s__law_caught "_law_look") (Ta : Ct K mg "_law_answer" s__law_answer "_law_look") (DM : Df K mg "_law_is_made" s__law_is_made [])
    (FO : Fc P w K mg base "_law_odd" [] 3 1 cOdd) (FP : Fc P w K mg base "_law_plan" [] 16 1 (cPlanL C 4)) (FR : Fc P w K mg base "_law_replaced" [] 5 3 (cRep 4)) (FN : ∀ h, Fc P w K mg base "_law_names" [] (h + 2) 1 (cLNm h)) (FT : ∀ h, Fc P w K mg base "_law_text" [] (h + 1) 1 (cText h)) (F1 : Pc P w K mg base C "text" 1 (cGetN C fun t => tS (txt t))) (FU : Mcx P w K mg base C "put" [] 109 3 (cPutX C UN UP UB 20)) : BodyC P w K mg base "_law_puts_right" s__law_puts_right nPR 3 120 cd (cPR T1) := by
  intro f A outer s H EX hgd hr ds M Φ hl hc
  obtain ⟨p, t, u, a, c, d, rfl, ft, fu, hM, co, d0, d1, hT, hc⟩ := hc
  have nd : nPR.Nodup := by decide +kernel
  have n1 : T1 ≠ p := fun z => by rw [z, hM] at hT; cases hT
  have g := ft.g
  have gu := fu.g
  have b1 := ft.tx
  have b2 := ft.lv
  have b3 := ft.nm
  have b4 := ft.ht
  have c1 := fu.tx
  have c2 := fu.lv
  have c3 := fu.nm
  have c4 := fu.ht
  have znm := nms_lt g
  refine wss_cons (ws_asg (we_tup (wa_cons (we_call FP (hr.mono (by decide)) (wa_cons (we_var 1 rfl (wa_nil ⟨rfl, t, rfl, g, by omega, b3, by omega, b4, by omega, wa_cons (we_call FP (hr.mono (by decide)) (wa_cons (we_var 2 rfl (wa_nil ⟨rfl, u, rfl, gu, by omega, c3, by omega, c4, by omega, wa_cons (we_call (FN 4) (hr.mono (by decide)) (wa_cons (we_var 1 rfl (wa_nil ⟨rfl, t, rfl, g, by omega, by omega, b4, wa_nil ⟨by show 3 ≤ sizeLine; decide, ?_⟩⟩))))⟩))))⟩)))))))
  refine wg_tup ⟨rfl, rfl, wgs_cons (wg_name 3 (wgs_cons (wg_name 4 (wgs_cons (wg_name 5 (wgs_nil ⟨rfl, ?_⟩) nd)) nd)) nd)⟩
  refine wss_cons (ws_for PassesOwn.never (wi_list (we_addL (we_var 5 rfl (we_lst (wa_cons (we_str (wa_cons (we_str (wa_cons (we_non (wa_cons (we_int (wa_cons (we_tup (wa_cons (we_str (wa_nil ⟨sz1, wa_cons (we_call FO (hr.mono (by decide)) (wa_cons (we_var 0 rfl (wa_nil ⟨rfl, p, a, c, d, rfl, hM, co, d0, by omega, fun vo a1 e1 ho k1 k2 => wa_nil ⟨by show 6 ≤ sizeLine; decide, _, _, rfl, rfl, ?_, ?_⟩⟩))))⟩))))))))))))))))))
  · rw [List.length_map]; show _ + 6 ≤ _; rw [sizeLine_eq]; omega
  rw [pvals_D]
  have rps := pvals_rp (zs := nmT t) vo (odds_rp vo ho) fun z hz => rpS (Nat.le_trans (lvS_len t g z (by have h := hz; rw [nmT_mem] at h; exact h)) (by decide)) (znm z hz)
  generalize hvs : pvals (nmT t) vo = vs at rps ⊢
  have vl : vs.length ≤ 9 := by rw [← hvs]; unfold pvals; rw [List.length_append, List.length_map]; show _ + 6 ≤ 9; omega
  refine ⟨_, .inl rfl, fun i ρ' M' => ∃ v6 v7 v8 a2 e2, ρ' = [some (.ob p), some (loreD t), some (loreD u), some (planN C t), some (planN C u), some (.lst ((nmT t).map D.str)), v6, v7, v8, none] ∧ M' p = some (potL a2 c e2) ∧ e1 ≤ e2 ∧ e2 ≤ e1 + (i : Nat) ∧ (∀ T z, M T = some (.tbl z) → M' T = some (.tbl z)), ⟨_, _, _, a1, e1, rfl, mset_same, by omega, by omega, fun T z hz => by rw [mset_ne (fun e => by rw [e, hM] at hz; cases hz)]; exact hz⟩, ?_, ?_⟩
  · rintro i x ρ' M' hx ⟨v6, v7, v8, a2, e2, rfl, m1, k3, k4, htb⟩
    rw [List.getElem?_map] at hx
    obtain ⟨v, hv, rfl⟩ := Option.map_eq_some_iff.mp hx
    have hrp := rps v (List.mem_of_getElem? hv)
    have hi : i < 9 := Nat.lt_of_lt_of_le (List.getElem?_eq_some_iff.mp hv).1 vl
    have m1T := htb T1 _ hT
    have n2 : ∀ {T z}, M T = some (.tbl z) → T ≠ p := fun {T z} hz e => by rw [e, hM] at hz; cases hz
    refine wg_name 6 ?_ nd
    refine wss_cons (ws_if (wt_inAv v (nmT t) hrp znm (unitsH hr) (we_var 6 rfl (we_var 5 rfl ⟨rfl, rfl, ?_⟩))))
    cases hin : inAv v (nmT t) with
    | true =>
      obtain ⟨z, rfl, hz⟩ : ∃ z, v = .str z ∧ z ∈ nmT t := by
        cases v with
        | str z => exact ⟨z, rfl, of_decide_eq_true hin⟩
        | _ => cases hin
      obtain ⟨bp, bl⟩ := bd_put ft fu z.cps.toList
      have ez : avD (.str z) = tS z.cps.toList := by rw [avD]
      have hzx : S z.cps.toList ∈ nmT t := hz
      refine wss_cons (ws_if (wt_not (wt_val (we_made (k := 112) DM Ta gB (hr.mono (by decide)) (we_lam TB rfl rfl m1T rfl (hfree_of (by rfl)) (we_call FR (hr.mono (by decide)) (wa_cons (we_var 1 rfl (wa_cons (we_var 6 rfl (wa_cons (we_var 2 rfl (wa_nil ⟨rfl, t, z.cps.toList, u, by rw [ez]; rfl, g, by omega, b4, _, _, _, rfl, LamX.lamS_by (by rfl), (by intros; rfl), fun f' c' A' outer' s' H0 E' hr2 => ?_⟩)))))))))))))
      refine wex_meth (C := C) FU (hr2.mono (by decide)) (we_var 3 rfl ⟨_, insM, rfl, wa_cons (we_var 6 rfl (wa_cons (we_var 4 rfl (wa_nil ⟨rfl, t, g, .inr (.inr ⟨z.cps.toList, u, by rw [ez]; rfl, hzx, gu, by omega, bl, by omega, bp, or_made F gR Y own EB (FN 20) (FT 20) F1 hgd (by decide) bp ⟨true, rfl, ?_⟩⟩)⟩))))⟩)
      refine wss_nil (wss_cons (ws_set 7 nd (we_call FO (hr.mono (by decide)) (wa_cons (we_var 0 rfl (wa_nil ⟨rfl, p, a2, c, e2, rfl, m1, co, by omega, by omega, fun v9 a3 e3 h9 k5 k6 => ?_⟩))))))
      have hr9 := odds_rp v9 h9
      generalize hM3 : mset M' p (potL a3 c e3) = M3
      have m3 : M3 p = some (potL a3 c e3) := by rw [← hM3, mset_same]
      have htb3 : ∀ T z, M T = some (.tbl z) → M3 T = some (.tbl z) := fun T z hz => by rw [← hM3, mset_ne (n2 hz)]; exact htb T z hz
      refine wss_cons (ws_set 8 nd (we_ct (k := 112) Tc ct_sg4 (fun g cdg => gives_B gB) (hr.mono (by decide)) (we_lam TB rfl rfl (htb3 T1 _ hT) rfl (hfree_of (by rfl)) ⟨_, _, _, rfl, LamX.lamS_by (by rfl), (by intros; rfl), fun f' c' A' outer' s' H0 E' hr2 => ?_⟩)))
      refine wex_meth (C := C) FU (hr2.mono (by decide)) (we_var 3 rfl ⟨_, insM, rfl, wa_cons (we_var 6 rfl (wa_cons (we_var 7 rfl (wa_nil ⟨rfl, t, g, .inr (.inl ⟨z, v9, by rw [avD]; rfl, hz, EP.ex, ?_⟩)⟩))))⟩)
      refine wss_cons (ws_if (wt_ww (ww_or (wt_not (wt_val (we_isX (F.bn _ (by decide +kernel)) (we_var 8 rfl (we_gref EP.at_ (fun _ _ _ => .fn _) ⟨UP, _, .ref UP, true, rfl, rfl, EP.ev, kit_self, true, rfl, ?_⟩))))))))
      refine ww_or1 (wt_neS (we_reprV gR hgd hr.units (we_valX (we_var 8 rfl ⟨UP, _, avD v9, rfl, EP.ev, EP.ev.noV, by simp [List.lookup], v9, rfl, hr9, we_reprV gR hgd hr.units (we_var 7 rfl ⟨v9, rfl, hr9, true, (decide_eq_true rfl).symm, ?_⟩)⟩))))
      exact wss_nil (wss_nil (wss_nil ⟨_, _, _, a3, e3, rfl, m3, by omega, by omega, htb3⟩))
    | false =>
      have hno : ∀ z, v = .str z → z ∉ nmT t := fun z e hz => by
        rw [e] at hin
        exact absurd hz (of_decide_eq_false hin)
      refine wss_cons (ws_set 8 nd (we_lstM (wa_cons (we_ct (k := 112) Tc ct_sg4 (fun g cdg => gives_B gB) (hr.mono (by decide)) (we_lam TB rfl rfl m1T rfl (hfree_of (by rfl)) ⟨_, _, _, rfl, LamX.lamS_by (by rfl), (by intros; rfl), fun f' c' A' outer' s' H0 E' hr2 => ?_⟩)))))
      refine wex_meth (C := C) FU (hr2.mono (by decide)) (we_var 3 rfl ⟨_, insM, rfl, wa_cons (we_var 6 rfl (wa_cons (we_var 4 rfl (wa_nil ⟨rfl, t, g, .inl ⟨v, _, rfl, hno, EN.ex, ?_⟩⟩))))⟩)
      refine wa_nil ⟨sz1, fun q hq => ?_⟩
      have npq : p ≠ q := fun e => by rw [← e, m1] at hq; cases hq
      have nTq : ∀ {T z}, M T = some (.tbl z) → T ≠ q := fun {T z} hz e => by rw [← e, htb T z hz] at hq; cases hq
      refine wss_cons (ws_expr (we_append (we_var 8 rfl ⟨q, _, rfl, mset_same, we_ct (k := 112) Tc ct_sg4 (fun g cdg => gives_B gB) (hr.mono (by decide)) (we_lam TB rfl rfl (by rw [mset_ne (nTq hT)]; exact m1T) rfl (hfree_of (by rfl)) ⟨_, _, _, rfl, LamX.lamS_by (by rfl), (by intros; rfl), fun f' c' A' outer' s' H0 E' hr2 => ?_⟩)⟩)))
      refine wex_meth (C := C) FU (hr2.mono (by decide)) (we_var 3 rfl ⟨_, insM, rfl, wa_cons (we_var 6 rfl (wa_cons (we_non (wa_nil ⟨rfl, t, g, .inl ⟨v, .non, rfl, hno, EN.ex, ?_⟩⟩))))⟩)
      refine ⟨_, mset_same, by rw [sizeLine_eq]; show 1 < _; decide, ?_⟩
      rw [mset_mset]
      refine wss_fz (i := 8) (ds := [.exc UN [("value", avD v)], .exc UN [("value", avD v)]]) rfl mset_same ?_
      refine wss_cons (ws_if (wt_not (wt_val (we_all (F.bn _ (by decide +kernel)) (we_lc nd (blkOk_by (N := nPR) (sc := defScope s__law_puts_right) (own := [("_law_one", 9)]) (by decide +kernel)) (fun _ _ _ _ _ => pg_name (i := 9) nd rfl (Or.inl rfl)) (gt_name (by decide)) (fun _ _ _ _ _ => pts_nil) tk_nil (wi_list (we_var 8 rfl ⟨_, .inl rfl, ?_⟩)))))))
      refine ⟨by show 2 ≤ sizeLine; decide, fun i acc M4 => (M4 p = some (potL a2 c e2) ∧ ∀ T z, M T = some (.tbl z) → M4 T = some (.tbl z)) ∧ acc = (List.replicate i true).map D.bl, ⟨⟨by rw [mdel_ne npq, mset_ne npq]; exact m1, fun T z hz => by rw [mdel_ne (nTq hz), mset_ne (nTq hz)]; exact htb T z hz⟩, rfl⟩, ?_, ?_⟩
      · rintro i2 x acc M4 hx ⟨m4, rfl⟩
        obtain rfl : x = .exc UN [("value", avD v)] := by
          match i2, hx with
          | 0, h => exact (Option.some.inj h).symm
          | 1, h => exact (Option.some.inj h).symm
        intro s1 H1 C' cl fp
        refine we_and (we_isX (F.bn _ (by decide +kernel)) (we_var 9 rfl (we_gref EN.at_ (fun _ _ _ => .fn _) ⟨UN, _, .ref UN, true, rfl, rfl, EN.ev, kit_self, true, rfl, ?_⟩)))
        refine we_one (we_eqS (we_reprV gR hgd hr.units (we_valX (we_var 9 rfl ⟨UN, _, avD v, rfl, EN.ev, EN.ev.noV, by simp [List.lookup], v, rfl, hrp, we_reprV gR hgd hr.units (we_var 6 rfl ⟨v, rfl, hrp, true, (decide_eq_true rfl).symm, m4, ?_⟩)⟩))))
        show _ ++ [_] = (List.replicate (i2 + 1) true).map D.bl
        rw [List.replicate_succ', List.map_append]; rfl
      · rintro acc M4 ⟨⟨m4, htb4⟩, rfl⟩
        refine ⟨_, rfl, ?_⟩
        rw [List.all_eq_true.mpr fun b hb => by rw [List.eq_of_mem_replicate hb]; rfl]
        refine ⟨true, rfl, ?_⟩
        exact wss_nil (wss_nil (wss_nil ⟨_, _, _, a2, e2, rfl, m4, by omega, by omega, htb4⟩))
  rintro ρ' M' ⟨v6, v7, v8, a2, e2, rfl, m1, k3, k4, htb⟩
  rw [List.length_map] at k4
  exact wss_cons (ws_ret (we_bl (Lets.of (hc a2 e2 M' (by omega) (by omega) m1 htb))))
end
end W
namespace DL
open PySem PySem.Spec PyProof.Rows L2
section
variable {X : Cx} {ρ : Rho} {M : Mp} {Φ : D → Mp → Prop} {Θ : Bool → Mp → Prop} {a b : Expr} {pos : Pos}
def rEqNil (K : PySem.W.Frag) : R2 := fun x y H Q => ∃ p q xs, x = V.ref p ∧ y = V.ref q ∧ SqL K H p xs ∧ SqL K H q [] ∧ Q (.bl xs.isEmpty) H
theorem op_eqNil (hu : X.A.units + 64 < cLine) : OpR X (compareOp .Eq) (rEqNil X.K) := by
  intro pins s σ H x y v u Q I rx ry h
  obtain ⟨p, q, xs, rfl, rfl, h1, h2, hq⟩ := h
  obtain rfl : v = Value.ref p := rx
  obtain rfl : u = Value.ref q := ry
  obtain ⟨i1, r1, l1, _⟩ := I.list h1
  obtain ⟨i2, r2, l2, _⟩ := I.list h2
  obtain ⟨o1, n1, g1, c1, d1, e1⟩ := l1
  obtain ⟨o2, n2, g2, c2, d2, e2⟩ := l2
  have l1 : s.heap.IsList p i1.toArray := ⟨o1, g1, c1, n1, e1⟩
  have l2 : s.heap.IsList q i2.toArray := ⟨o2, g2, c2, n2, e2⟩
  cases r2
  cases r1 with
  | nil =>
    refine SeqAt.eq_listAt (e := fun _ => true) l1 l2 rfl (by omega) (fun j h1 _ => absurd h1 (by simp)) ⟨.bl _, H, I, rfl, ?_⟩
    simpa using hq
  | cons ra rb =>
    exact SeqAt.eq_list_lengthsAt l1 l2 (by simp) (by omega) ⟨.bl _, H, I, rfl, hq⟩
theorem rd_eqNil {x y : D} (h : ∃ xs, x = .lst xs ∧ y = .lst [] ∧ Φ (.bl xs.isEmpty) M) : RD X.K (rEqNil X.K) x y M Φ := fun Z v u H Q w r1 r2 k => by
  obtain ⟨xs, rfl, rfl, h⟩ := h
  obtain ⟨p, vs, rfl, hp, rs⟩ := r1.lstKeep (.inl rfl)
  obtain ⟨q, us, rfl, hq, ts⟩ := r2.lstKeep (.inl rfl)
  cases ts
  refine ⟨p, q, vs, rfl, rfl, hp _ _ _ ExI.refl, hq _ _ _ ExI.refl, ?_⟩
  rw [isEmpty_len rs.length]
  exact k.now w (.bl _) h
theorem wt_eqNilA {lp : Pos} (hu : X.A.units + 64 < cLine) (h : WE X ρ M a fun x M1 => ∃ xs, x = .lst xs ∧ Θ xs.isEmpty M1) : WT X ρ M (.Compare a [.Eq] [.List [] lp] pos) Θ :=
  wt_cmp (op_eqNil hu) (nomark _) (h.imp fun x M1 ⟨xs, e, h⟩ => we_lst (wa_nil ⟨Nat.zero_le _, rd_eqNil ⟨xs, e, rfl, _, rfl, h⟩⟩))
end
end DL
namespace W
open PySem PySem.Spec PyProof.Rows L2 DL SX PL SlX
mutual
theorem told_lv0 : ∀ t : T, lv t = [] → Told t
  | .one, _ => trivial
  | .name x, h => by rw [lv] at h; cases h
  | .cop s n t, h => told_lv0 t (by rw [lv] at h; exact h)
  | .row s ts, h => tolds_lv0 ts (by rw [lv] at h; exact h)
theorem tolds_lv0 : ∀ ts : List T, lvL ts = [] → Tolds ts
  | [], _ => trivial
  | t :: ts, h => by
    rw [lvL] at h
    obtain ⟨a, b⟩ := List.append_eq_nil_iff.mp h
    exact ⟨told_lv0 t a, tolds_lv0 ts b⟩
end
theorem told_nm {t : T} (h : nmT t = []) : Told t := by
  refine told_lv0 t ?_
  cases e : lv t with
  | nil => rfl
  | cons x r =>
    have : x ∈ nmT t := by rw [nmT_mem, e]; exact List.mem_cons_self
    rw [h] at this; cases this
theorem fn4_of {ms : List (List Nat)} {t : T} {s : Nat} (hm : ms.length ≤ 3) (h1 : 1 ≤ s) (h9 : s ≤ 9) (b : Btn ms t s 3) : Fn4 t := by
  obtain ⟨g1, g2, g3, g4, g5⟩ := b
  have h4 := ni_nm g2
  have h5 := lv_ppl t g1
  have h3 : 40 * (s * (3 + 2)) ≤ 2000 := by omega
  exact ⟨g1, by omega, by omega, by omega, by omega, by omega, by omega⟩
theorem bd_row {t u : T} (ft : Fn4 t) (fu : Fn4 u) (s : Bool) : Bd 20 (.row s [t, u]) := by
  have h1 := ft.tx
  have h2 := fu.tx
  have h3 := ft.lv
  have h4 := fu.lv
  have h5 := ft.ht
  have h6 := fu.ht
  have e : ht (.row s [t, u]) = 1 + max (ht t) (max (ht u) 0) := by rw [PL.ht, hts, hts, hts]; omega
  refine ⟨⟨Nat.le_refl _, ft.g, fu.g, trivial⟩, by rw [row2_len]; omega, by omega, by omega, ?_⟩
  rw [PL.lv, lvL, lvL, lvL, List.length_append, List.length_append]
  show _ + (_ + 0) < _; omega
theorem pool5 {ys : List D} (h : ∀ y ∈ ys, y ∈ ([.str "x", .str "y", .str "ann", .str "zzzzzzzz", .str "b"] : List D)) : ∃ ns : List (List Nat), ys = ns.map tS ∧ ∀ x ∈ ns, Good (.name x) := by
  induction ys with
  | nil => exact ⟨[], rfl, fun x hx => by cases hx⟩
  | cons y r ih =>
    obtain ⟨ns, e, g⟩ := ih fun x hx => h x (List.mem_cons_of_mem _ hx)
    have hy := h y List.mem_cons_self
    have lt : ∀ l : List Nat, (l.all fun c => letter c) = true → ∀ c ∈ l, letter c = true := fun l hl => List.all_eq_true.mp hl
    obtain ⟨x, hx, gx⟩ : ∃ x : List Nat, y = tS x ∧ Good (.name x) := by
      simp only [List.mem_cons, List.not_mem_nil, or_false] at hy
      rcases hy with rfl | rfl | rfl | rfl | rfl
      · exact ⟨[120], by rw [show ("x" : Str) = S [120] by decide +kernel], by decide, by decide, lt _ (by decide)⟩
      · exact ⟨[121], by rw [show ("y" : Str) = S [121] by decide +kernel], by decide, by decide, lt _ (by decide)⟩
      · exact ⟨[97, 110, 110], by rw [show ("ann" : Str) = S [97, 110, 110] by decide +kernel], by decide, by decide, lt _ (by decide)⟩
      · exact ⟨[122, 122, 122, 122, 122, 122, 122, 122], by rw [show ("zzzzzzzz" : Str) = S [122, 122, 122, 122, 122, 122, 122, 122] by decide +kernel], by decide, by decide, lt _ (by decide)⟩
      · exact ⟨[98], by rw [show ("b" : Str) = S [98] by decide +kernel], by decide, by decide, lt _ (by decide)⟩
    exact ⟨x :: ns, by rw [hx, e]; rfl, fun z hz => (List.mem_cons.mp hz).elim (fun e => e ▸ gx) (g z)⟩
theorem cut4_to {α : Type} (xs : List α) (j : Nat) : DL.cutD xs none (some (j : Int)) = xs.take j := by
  unfold DL.cutD
  rw [HT.sIx_nat, HT.sIx_none, List.drop_zero, Nat.sub_zero]
  by_cases h : j ≤ xs.length
  · rw [Nat.min_eq_left h]
  · rw [Nat.min_eq_right (by omega), List.take_of_length_le (Nat.le_refl _), List.take_of_length_le (by omega)]
theorem row_D (s : Bool) (x : Str) (hx : x = S [sgn s]) (t u : T) : (D.tup [.str x, .tup [loreD t, loreD u]]) = loreD (.row s [t, u]) := by
  rw [loreD, loresD, loresD, loresD, hx]
theorem or_ins {C U : Addr} {r : T} {Φ : D → Mp → Prop} {Ξ : Addr → List (Str × D) → Mp → Prop} {M : Mp} (h : PlanOr C U r Φ Ξ M) : PlanOr C U r (fun d M => (∃ C' fs, d = .ins C' fs) ∧ Φ d M) Ξ M := ⟨fun h3 => ⟨⟨_, _, planN_ins C r⟩, h.1 h3⟩, h.2⟩
section
variable {P : Program} {w : World} {K : PySem.W.Frag} {mg : Str → Option Value} {base : Heap} {B C U UB UN UP UK : Addr}
theorem ans_sg4 : FnScope ["_law_look", "_law_caught_here", "_law_reply", "error"] ["_law_look"] (defScope s__law_answer) := ⟨rfl, rfl, rfl, by decide +kernel, rfl, by decide +kernel, by decide +kernel⟩
def qRi4 : Str := "_law_right.<locals>.<lambda>"
def Tb4 (T1 T2 T3 : Addr) (M : Mp) : Prop := M T1 = some (.tbl qCR) ∧ M T2 = some (.tbl qPR) ∧ M T3 = some (.tbl qRi4)
def cRi4 (T1 T2 T3 : Addr) : Con := fun ds M Φ => ∃ p a c d, ds = [.ob p] ∧ M p = some (potL a c d) ∧ cOk c ∧ 0 ≤ d ∧ d < 50000 ∧ Tb4 T1 T2 T3 M ∧ ∀ M', Tb4 T1 T2 T3 M' → Φ (.bl true) M'
abbrev nRi4 : List Str := ["_law_pot_here", "_law_names_here", "_law_one", "_law_two", "_law_mine", "_law_its", "_law_lore", "_law_caught_here", "_law_plan_here"]
theorem ok_right04 {T1 T2 T3 cd : Addr} (F : Fx w K mg) (gR : mg "repr" = none) (Y : Px K mg C) (own : OwnC K C) (sf : PySem.W.selfFirst K C = true) (TB : LamX.TabB base mg cd T3) (gB : mg "CrowdError" = some (.ref B)) (EB : Ek P K mg B "BadPlan" UB) (EK : Ek P K mg B "Unknown" UK) (Ta : Ct K mg "_law_answer" s__law_answer "_law_look") (DM : Df K mg "_law_is_made" s__law_is_made [])
    (F0 : Fc P w K mg base "_law_take" [] 1 2 cTake) (FS : Fc P w K mg base "_law_some" [] 2 3 cSome) (FB : Fc P w K mg base "_law_built" [] 7 4 (cBuiltN 4)) (FP : Fc P w K mg base "_law_plan" [] 16 1 (cPlanL C 4)) (FN : ∀ h, Fc P w K mg base "_law_names" [] (h + 2) 1 (cLNm h)) (FT : ∀ h, Fc P w K mg base "_law_text" [] (h + 1) 1 (cText h)) (FU : Fc P w K mg base "_law_turned" [] 1 1 cLTurn) (F1 : Pc P w K mg base C "text" 1 (cGetN C fun t => tS (txt t)))
    (FA : Mcx P w K mg base C "__add__" [] 109 2 (cRowX C UB false 20)) (FM : Mcx P w K mg base C "__mul__" [] 109 2 (cRowX C UB true 20)) (FI : Mcx P w K mg base C "__invert__" [] 48 1 (cInvX C UK 20)) (GC : Gc P w K mg base "_law_copies_right" 101 2 (cCR T1)) (GP : Gc P w K mg base "_law_puts_right" 121 3 (cPR T2)) : BodyC P w K mg base "_law_right" s__law_right nRi4 1 125 cd (cRi4 T1 T2 T3) := by
  intro f A outer s H EX hgd hr ds M Φ hl hc
  obtain ⟨p, a, c, d, rfl, hM, co, d0, d1, ⟨hT1, hT2, hT3⟩, hc⟩ := hc
  have nd : nRi4.Nodup := by decide +kernel
  have ne : ∀ {T z}, M T = some (.tbl z) → T ≠ p := fun {T z} hz e => by rw [e, hM] at hz; cases hz
  refine wss_cons (ws_set 1 nd (we_call FS (hr.mono (by decide)) (wa_cons (we_var 0 rfl (wa_cons (we_lst (wa_cons (we_str (wa_cons (we_str (wa_cons (we_str (wa_cons (we_str (wa_cons (we_str (wa_nil ⟨by show 5 ≤ sizeLine; decide, wa_cons (we_int (wa_nil ⟨rfl, p, [.str "x", .str "y", .str "ann", .str "zzzzzzzz", .str "b"], 5, a, c, d, rfl, by decide, by decide, hM, co, d0, by omega, fun ys a1 e1 h4 hin hnd k1 k2 => ?_⟩))⟩)))))))))))))))))
  obtain ⟨ns, rfl, gns⟩ := pool5 hin
  obtain ⟨x1, x2, x3, x4, x5, rfl⟩ : ∃ x1 x2 x3 x4 x5, ns = [x1, x2, x3, x4, x5] := by
    rw [List.length_map] at h4
    match ns, h4 with
    | [x1, x2, x3, x4, x5], _ => exact ⟨x1, x2, x3, x4, x5, rfl⟩
  refine wss_cons (ws_set 2 nd (we_call FB (hr.mono (by decide)) (wa_cons (we_var 0 rfl (wa_cons (we_addI (we_int (we_call F0 (hr.mono (by decide)) (wa_cons (we_var 0 rfl (wa_cons (we_int (wa_nil ⟨rfl, p, 9, a1, c, e1, rfl, by decide, by decide +kernel, mset_same, co, by omega, by omega, fun r a2 e2 r0 r9 k3 k4 => ?_⟩)))))))))))))
  rw [mset_mset]
  obtain ⟨n, rfl⟩ := Int.eq_ofNat_of_zero_le r0
  refine ⟨_, _, rfl, rfl, wa_cons (we_int (wa_cons (we_slice (we_var 1 rfl (we_call F0 (hr.mono (by decide)) (wa_cons (we_var 0 rfl (wa_cons (we_int (wa_nil ⟨rfl, p, 4, a2, c, e2, rfl, by decide, by decide +kernel, mset_same, co, by omega, by omega, fun r a3 e3 j0 j4 k5 k6 => ?_⟩))))))))))⟩
  rw [mset_mset]
  obtain ⟨j, rfl⟩ := Int.eq_ofNat_of_zero_le j0
  refine ⟨_, rfl, _, .inl ⟨_, rfl, rfl⟩, wa_nil ⟨rfl, [x1, x2, x3, x4, x5].take j, p, 1 + n, 3, a3, c, e3, ?_, by omega, by omega, by decide, by omega, ?_, fun x hx => gns x (List.mem_of_mem_take hx), mset_same, co, by omega, ?_, fun t a4 e4 hb k7 k8 => ?_⟩⟩
  · rw [cut4_to, ← List.map_take]; rfl
  · exact Nat.le_trans (List.length_take_le _ _) (by omega)
  · have : cost (1 + n) 3 ≤ 5 * (9 * 5) := Nat.mul_le_mul_left _ (Nat.mul_le_mul_right _ (by omega))
    omega
  have hcost : cost (1 + n) 3 ≤ 5 * (9 * 5) := Nat.mul_le_mul_left _ (Nat.mul_le_mul_right _ (by omega))
  have ft : Fn4 t := fn4_of (Nat.le_trans (List.length_take_le _ _) (by omega)) (by omega) (by omega) hb
  rw [mset_mset]
  refine wss_cons (ws_set 3 nd (we_call FB (hr.mono (by decide)) (wa_cons (we_var 0 rfl (wa_cons (we_addI (we_int (we_call F0 (hr.mono (by decide)) (wa_cons (we_var 0 rfl (wa_cons (we_int (wa_nil ⟨rfl, p, 9, a4, c, e4, rfl, by decide, by decide +kernel, mset_same, co, by omega, by omega, fun r a5 e5 r0 r9 k9 k10 => ?_⟩)))))))))))))
  rw [mset_mset]
  obtain ⟨m, rfl⟩ := Int.eq_ofNat_of_zero_le r0
  have hcost2 : cost (1 + m) 3 ≤ 5 * (9 * 5) := Nat.mul_le_mul_left _ (Nat.mul_le_mul_right _ (by omega))
  have after : ∀ u a7 e7, Fn4 u → e5 ≤ e7 → e7 ≤ e5 + 300 → WSs (bx P w K mg base nRi4 "_law_right" (defScope s__law_right) f (.ref cd) A outer s H EX) [some (.ob p), some (.lst ([x1, x2, x3, x4, x5].map tS)), some (loreD t), some (loreD u), none, none, none, none, none] (mset M p (potL a7 c e7)) ((defBody s__law_right).drop 3) { nx := fun _ M' => Φ .non M', rt := Lets Φ } := fun u a7 e7 fu k11 k12 => by
    have tb7 : Tb4 T1 T2 T3 (mset M p (potL a7 c e7)) := ⟨by rw [mset_ne (ne hT1)]; exact hT1, by rw [mset_ne (ne hT2)]; exact hT2, by rw [mset_ne (ne hT3)]; exact hT3⟩
    have m7 : (mset M p (potL a7 c e7)) p = some (potL a7 c e7) := mset_same
    generalize mset M p (potL a7 c e7) = M7 at tb7 m7 ⊢
    refine wss_cons (ws_asg (we_tup (wa_cons (we_call FP (hr.mono (by decide)) (wa_cons (we_var 2 rfl (wa_nil ⟨rfl, t, rfl, ft.g, by have := ft.lv; omega, ft.nm, by have := ft.tx; omega, ft.ht, by have := ft.ht; omega, wa_cons (we_call FP (hr.mono (by decide)) (wa_cons (we_var 3 rfl (wa_nil ⟨rfl, u, rfl, fu.g, by have := fu.lv; omega, fu.nm, by have := fu.tx; omega, fu.ht, by have := fu.ht; omega, wa_nil ⟨sz2, ?_⟩⟩))))⟩)))))))
    refine wg_tup ⟨rfl, rfl, wgs_cons (wg_name 4 (wgs_cons (wg_name 5 (wgs_nil ⟨rfl, ?_⟩) nd)) nd)⟩
    refine wss_cons (ws_if (wt_not (wt_val (we_made (k := 112) DM Ta gB (hr.mono (by decide)) (we_lam TB rfl rfl tb7.2.2 rfl (hfree_of (by rfl)) (we_tup (wa_cons (we_str (wa_cons (we_tup (wa_cons (we_var 2 rfl (wa_cons (we_var 3 rfl (wa_nil ⟨sz2, wa_nil ⟨sz2, ?_⟩⟩)))))))))))))))
    rw [row_D false "+" (by decide +kernel) t u]
    refine ⟨_, _, _, rfl, LamX.lamS_by (by rfl), (by intros; rfl), fun f' c' A' outer' s' H0 E' hr2 => ?_⟩
    refine wex_binO FA (hr2.mono (by decide)) sf (we_var 4 rfl (we_var 5 rfl ⟨_, _, insM, insM, t, u, rfl, ft.g, fu.g, bd_row ft fu false, or_ins (or_made F gR Y own EB (FN 20) (FT 20) F1 hgd (by decide) (bd_row ft fu false) ⟨true, rfl, ?_⟩)⟩))
    refine wss_nil (wss_cons (ws_if (wt_not (wt_val (we_made (k := 112) DM Ta gB (hr.mono (by decide)) (we_lam TB rfl rfl tb7.2.2 rfl (hfree_of (by rfl)) (we_tup (wa_cons (we_str (wa_cons (we_tup (wa_cons (we_var 3 rfl (wa_cons (we_var 2 rfl (wa_nil ⟨sz2, wa_nil ⟨sz2, ?_⟩⟩))))))))))))))))
    rw [row_D true "*" (by decide +kernel) u t]
    refine ⟨_, _, _, rfl, LamX.lamS_by (by rfl), (by intros; rfl), fun f' c' A' outer' s' H0 E' hr2 => ?_⟩
    refine wex_binO FM (hr2.mono (by decide)) sf (we_var 5 rfl (we_var 4 rfl ⟨_, _, insM, insM, u, t, rfl, fu.g, ft.g, bd_row fu ft true, or_ins (or_made F gR Y own EB (FN 20) (FT 20) F1 hgd (by decide) (bd_row fu ft true) ⟨true, rfl, ?_⟩)⟩))
    refine wss_nil (wss_cons (ws_for PassesOwn.never (wi_tup (we_tup (wa_cons (we_var 2 rfl (wa_cons (we_var 3 rfl (wa_nil ⟨sz2, _, rfl, ?_⟩)))))))))
    refine ⟨fun i ρ' M' => ∃ v6 v7 v8, ρ' = [some (.ob p), some (.lst ([x1, x2, x3, x4, x5].map tS)), some (loreD t), some (loreD u), some (planN C t), some (planN C u), v6, v7, v8] ∧ M' = M7, ⟨_, _, _, rfl, rfl⟩, ?_, ?_⟩
    · rintro i x ρ' M' hx ⟨v6, v7, v8, rfl, rfl⟩
      obtain ⟨o, rfl, fo⟩ : ∃ o, x = loreD o ∧ Fn4 o := by
        match i, hx with
        | 0, h => exact ⟨t, (Option.some.inj h).symm, ft⟩
        | 1, h => exact ⟨u, (Option.some.inj h).symm, fu⟩
      have cm : CmpDs ((nmT o).map D.str) ((nmT o).map PyData.str) 1 := cmps_map (j := 0) (by decide) fun y hy => cmp_str (nms_lt fo.g y hy)
      refine wg_name 6 ?_ nd
      refine wss_cons (ws_asg (we_ans (k := 60) Ta ans_sg4 (fun g cdg => gives_R gB) (hr.mono (by decide)) (we_lam TB rfl rfl tb7.2.2 rfl (hfree_of (by rfl)) ⟨_, _, _, rfl, LamX.lamS_by (by rfl), (by intros; rfl), fun f' c' A' outer' s' H0 E' hr2 => ?_⟩)))
      cases hn : nmT o with
      | nil =>
        have oko : Ok o := ⟨fo.g, told_nm hn, by have := fo.tx; omega⟩
        refine wex_inv FI (hr2.mono (by decide)) (we_call FP (hr2.mono (by decide)) (wa_cons (we_var 6 rfl (wa_nil ⟨rfl, o, rfl, fo.g, by have := fo.lv; omega, fo.nm, by have := fo.tx; omega, fo.ht, by have := fo.ht; omega, _, insM, o, rfl, .inl ⟨oko, by have := fo.ht; omega, by have := fo.ht; omega, ?_⟩⟩))))
        refine wg_tup ⟨rfl, rfl, wgs_cons (wg_name 7 (wgs_cons (wg_name 8 (wgs_nil ⟨rfl, ?_⟩) nd)) nd)⟩
        refine wss_cons (ws_if (wt_ww (ww_and (wt_eqNilA hr.units (we_call (FN 4) (hr.mono (by decide)) (wa_cons (we_var 6 rfl (wa_nil ⟨rfl, o, rfl, fo.g, by have := fo.lv; omega, by have := fo.tx; omega, fo.ht, _, rfl, ?_⟩))))))))
        rw [hn]
        refine ww_and1 (wt_ww (ww_or (wt_notN (we_var 7 rfl ?_))))
        refine ww_or1 (wt_neS (we_prop F1 (hr.mono (by decide)) (we_var 8 rfl ⟨_, insM, mir o, rfl, we_call FU (hr.mono (by decide)) (wa_cons (we_call (FT 4) (hr.mono (by decide)) (wa_cons (we_var 6 rfl (wa_nil ⟨rfl, o, rfl, fo.g, by have := fo.tx; omega, fo.ht, wa_nil ⟨rfl, txt o, rfl, by have := fo.tx; omega, true, ?_, ?_⟩⟩)))))⟩)))
        · show EqS (tS (txt (mir o))) _ true
          rw [txt_mir fo.g]; exact (decide_eq_true rfl).symm
        refine wss_nil (wss_cons (ws_if (wt_ww (ww_and (wt_neNil hr.units (we_call (FN 4) (hr.mono (by decide)) (wa_cons (we_var 6 rfl (wa_nil ⟨rfl, o, rfl, fo.g, by have := fo.lv; omega, by have := fo.tx; omega, fo.ht, _, _, _, rfl, cm, by decide, ?_⟩)))))))))
        rw [hn]
        exact wss_nil (wss_nil ⟨_, _, _, rfl, rfl⟩)
      | cons z zs =>
        refine wex_inv FI (hr2.mono (by decide)) (we_call FP (hr2.mono (by decide)) (wa_cons (we_var 6 rfl (wa_nil ⟨rfl, o, rfl, fo.g, by have := fo.lv; omega, fo.nm, by have := fo.tx; omega, fo.ht, by have := fo.ht; omega, _, insM, o, rfl, .inr ⟨z, zs, fo.g, hn, EK.ex, ?_⟩⟩))))
        refine wg_tup ⟨rfl, rfl, wgs_cons (wg_name 7 (wgs_cons (wg_name 8 (wgs_nil ⟨rfl, ?_⟩) nd)) nd)⟩
        refine wss_cons (ws_if (wt_ww (ww_and (wt_eqNilA hr.units (we_call (FN 4) (hr.mono (by decide)) (wa_cons (we_var 6 rfl (wa_nil ⟨rfl, o, rfl, fo.g, by have := fo.lv; omega, by have := fo.tx; omega, fo.ht, _, rfl, ?_⟩))))))))
        rw [hn]
        refine wss_nil (wss_cons (ws_if (wt_ww (ww_and (wt_neNil hr.units (we_call (FN 4) (hr.mono (by decide)) (wa_cons (we_var 6 rfl (wa_nil ⟨rfl, o, rfl, fo.g, by have := fo.lv; omega, by have := fo.tx; omega, fo.ht, _, _, _, rfl, cm, by decide, ?_⟩)))))))))
        rw [hn]
        refine ww_and1 (wt_ww (ww_or (wt_not (wt_val (we_isX (F.bn _ (by decide +kernel)) (we_var 7 rfl (we_gref EK.at_ (fun _ _ _ => .fn _) ⟨UK, _, .ref UK, true, rfl, rfl, EK.ev, kit_self, true, rfl, ?_⟩)))))))
        refine ww_or1 (wt_neS (we_valX (we_var 7 rfl ⟨UK, _, .str z, rfl, EK.ev, EK.ev.noV, by simp [List.lookup], we_ix (we_call (FN 4) (hr.mono (by decide)) (wa_cons (we_var 6 rfl (wa_nil ⟨rfl, o, rfl, fo.g, by have := fo.lv; omega, by have := fo.tx; omega, fo.ht, we_int ⟨0, .str z, rfl, by rw [hn]; exact ixL (atI_nat (j := 0) rfl), true, (decide_eq_true rfl).symm, ?_⟩⟩))))⟩)))
        exact wss_nil (wss_nil ⟨_, _, _, rfl, rfl⟩)
    rintro ρ' M' ⟨v6, v7, v8, rfl, rfl⟩
    refine wss_cons (ws_if (wt_ww (ww_or (wt_not (wt_val (we_callG GC hgd (hr.mono (by decide)) (wa_cons (we_var 0 rfl (wa_cons (we_var 2 rfl (wa_nil ⟨rfl, p, t, a7, c, e7, rfl, ft, m7, co, by omega, by omega, tb7.1, fun a8 e8 k15 k16 => ⟨true, rfl, ?_⟩⟩)))))))))))
    have n7 : ∀ {T z}, M' T = some (.tbl z) → T ≠ p := fun {T z} hz e => by rw [e, m7] at hz; cases hz
    refine ww_or (wt_not (wt_val (we_callG GP hgd (hr.mono (by decide)) (wa_cons (we_var 0 rfl (wa_cons (we_var 2 rfl (wa_cons (we_var 3 rfl (wa_nil ⟨rfl, p, t, u, a8, c, e8, rfl, ft, fu, mset_same, co, by omega, by omega, by rw [mset_ne (n7 tb7.2.1)]; exact tb7.2.1, fun a9 e9 M9 k17 k18 m9 h9 => ⟨true, rfl, ?_⟩⟩))))))))))
    have tb9 : Tb4 T1 T2 T3 M9 := ⟨h9 _ _ (by rw [mset_ne (n7 tb7.1)]; exact tb7.1), h9 _ _ (by rw [mset_ne (n7 tb7.2.1)]; exact tb7.2.1), h9 _ _ (by rw [mset_ne (n7 tb7.2.2)]; exact tb7.2.2)⟩
    refine ww_or1 (wt_not (wt_val (we_callG GP hgd (hr.mono (by decide)) (wa_cons (we_var 0 rfl (wa_cons (we_var 3 rfl (wa_cons (we_var 2 rfl (wa_nil ⟨rfl, p, u, t, a9, c, e9, rfl, fu, ft, m9, co, by omega, by omega, tb9.2.1, fun a10 e10 M10 k19 k20 m10 h10 => ⟨true, rfl, ?_⟩⟩))))))))))
    have tb10 : Tb4 T1 T2 T3 M10 := ⟨h10 _ _ tb9.1, h10 _ _ tb9.2.1, h10 _ _ tb9.2.2⟩
    refine wss_nil (wss_cons (ws_ret (we_and (we_eqS (we_prop F1 (hr.mono (by decide)) (we_var 4 rfl ⟨_, insM, t, rfl, we_call (FT 4) (hr.mono (by decide)) (wa_cons (we_var 2 rfl (wa_nil ⟨rfl, t, rfl, ft.g, by have := ft.tx; omega, ft.ht, true, (decide_eq_true rfl).symm, true, rfl, ?_⟩)))⟩))))))
    exact we_one (we_eqS (we_prop F1 (hr.mono (by decide)) (we_var 5 rfl ⟨_, insM, u, rfl, we_call (FT 4) (hr.mono (by decide)) (wa_cons (we_var 3 rfl (wa_nil ⟨rfl, u, rfl, fu.g, by have := fu.tx; omega, fu.ht, true, (decide_eq_true rfl).symm, Lets.of (hc _ tb10)⟩)))⟩)))
  refine ⟨_, _, rfl, rfl, wa_cons (we_int (wa_cons (we_if (wt_eqS (we_call F0 (hr.mono (by decide)) (wa_cons (we_var 0 rfl (wa_cons (we_int (wa_nil ⟨rfl, p, 2, a5, c, e5, rfl, by decide, by decide +kernel, mset_same, co, by omega, by omega, fun r2 a6 e6 i0 i2 k11 k12 => we_int ⟨_, rfl, ?_⟩⟩))))))))))⟩
  rw [mset_mset]
  by_cases h0 : r2 = 0
  · rw [decide_eq_true h0]
    refine we_slice (we_var 1 rfl (we_int ⟨_, rfl, we_int ⟨_, rfl, _, .inl ⟨_, rfl, rfl⟩, wa_nil ⟨rfl, [x3, x4, x5], p, 1 + m, 3, a6, c, e6, rfl, by omega, by omega, by decide, by omega, Nat.le_refl 3, fun x hx => gns x (by simp only [List.mem_cons, List.not_mem_nil, or_false] at hx ⊢; exact .inr (.inr hx)), mset_same, co, by omega, by omega, fun u a7 e7 hu k13 k14 => ?_⟩⟩⟩))
    rw [mset_mset]
    exact after u a7 e7 (fn4_of (ms := [x3, x4, x5]) (Nat.le_refl 3) (by omega) (by omega) hu) (by omega) (by omega)
  · rw [decide_eq_false h0]
    refine we_lst (wa_nil ⟨Nat.zero_le _, wa_nil ⟨rfl, [], p, 1 + m, 3, a6, c, e6, rfl, by omega, by omega, by decide, by omega, by decide, (fun x hx => by cases hx), mset_same, co, by omega, by omega, fun u a7 e7 hu k13 k14 => ?_⟩⟩)
    rw [mset_mset]
    exact after u a7 e7 (fn4_of (by decide) (by omega) (by omega) hu) (by omega) (by omega)
end
end W
namespace W
open PySem PySem.Spec PyProof.Rows L2 DL SX PL SlX
section
variable {P : Program} {w : World} {K : PySem.W.Frag} {mg : Str → Option Value} {base : Heap} {B C S R U V G D' : Addr}
theorem sz3P (a b c : D) : ([a, b, c] : List D).length ≤ sizeLine := by show 3 ≤ sizeLine; decide
def cPotH : Con := fun ds M Φ => ∃ ns pl, ds = [scrD ns, .int (pl : Nat)] ∧ pl ≤ 1000 ∧ ∀ q a c, M q = none → cOk c → Φ (.ob q) (mset M q (potL a c 0))
abbrev nPotH : List Str := ["_law_script", "_law_place", "_law_cell", "_law_own", "_law_small"]
theorem ok_potH (F : Fx w K mg) : BodyOk P w K mg base "_law_pot" s__law_pot nPotH 2 0 cPotH := by
  intro f cdv A outer s H E hr ds M Φ hl hc
  obtain ⟨ns, pl, rfl, hpl, hc⟩ := hc
  have nd : nPotH.Nodup := by decide +kernel
  have rest : ∀ cell : Int, WSs (bx P w K mg base nPotH "_law_pot" (defScope s__law_pot) f cdv A outer s H E) [some (scrD ns), some (.int (pl : Nat)), some (.int cell), none, none] M ((defBody s__law_pot).drop 1) { nx := fun _ M' => Φ .non M', rt := Lets Φ } := fun cell => by
    refine wss_cons (ws_set 3 nd (we_mulS (we_modI (we_intN (F.bn _ (by decide +kernel)) (we_abs (F.bn _ (by decide +kernel)) (we_var 2 rfl ⟨_, rfl, .inl ⟨_, rfl, we_powW (we_powI (we_int (we_int ⟨_, _, rfl, rfl, ⟨by decide, by decide, by decide⟩, we_int ⟨_, _, rfl, rfl, ⟨by decide, by decide +kernel⟩, _, _, rfl, rfl, by decide +kernel, ?_⟩⟩)))⟩⟩))))))
    refine we_intN (F.bn _ (by decide +kernel)) (we_geI (we_abs (F.bn _ (by decide +kernel)) (we_var 2 rfl ⟨_, rfl, we_powI (we_int (we_int ⟨_, _, rfl, rfl, ⟨by decide, by decide, by decide⟩, _, _, rfl, rfl, .inr ⟨_, rfl, _, _, rfl, rfl, .inr ⟨?_, ?_⟩, ?_⟩⟩))⟩)))
    · exact (bb _).1
    · exact (bb _).2
    refine wss_cons (ws_set 4 nd (we_modI (we_intN (F.bn _ (by decide +kernel)) (we_var 2 rfl (.inl ⟨_, rfl, we_int ⟨_, _, rfl, rfl, by decide, ?_⟩⟩)))))
    have b0 : 0 ≤ cell % 2305843009213693951 := Int.emod_nonneg _ (by decide)
    have b1 : cell % 2305843009213693951 < 2305843009213693951 := Int.emod_lt_of_pos _ (by decide)
    refine wss_cons (ws_ret (we_lstM (wa_cons (we_var 3 rfl (wa_cons (we_modI (we_intN (F.bn _ (by decide +kernel)) (we_addI (we_addI (we_mulS (we_var 4 rfl (we_int ⟨_, _, rfl, rfl, .inl ⟨by omega, by omega⟩, we_mulS (we_mulS (we_int (we_var 1 rfl ⟨_, _, rfl, rfl, .inl ⟨by decide, by decide⟩, we_var 1 rfl ⟨_, _, rfl, rfl, .inr ⟨by omega, by omega⟩, _, _, rfl, rfl, we_int ⟨_, _, rfl, rfl, .inl ⟨_, rfl, we_int ⟨_, _, rfl, rfl, by decide, wa_cons (we_int (wa_nil ⟨sz3P _ _ _, fun q hq => Lets.of ?_⟩))⟩⟩⟩⟩⟩)))⟩))))))))))))
    exact hc q _ _ hq ⟨Int.emod_nonneg _ (by decide), Int.emod_lt_of_pos _ (by decide)⟩
  refine wss_cons (ws_set 2 nd (we_if (wt_ltI (we_var 1 rfl (we_len (F.bn _ (by decide +kernel)) (we_var 0 rfl ⟨_, lenR, _, _, rfl, rfl, ?_⟩))))))
  refine ite_dec (fun h => ?_) fun h => ?_
  · rw [List.length_map] at h
    have hq : (ns.map D.int)[pl]? = some (.int ns[pl]) := by rw [List.getElem?_map, List.getElem?_eq_getElem (by omega)]; rfl
    exact we_ix (we_var 0 rfl (we_var 1 rfl ⟨_, _, rfl, ixR (atI_nat hq), rest _⟩))
  · exact we_addI (we_mulS (we_int (we_var 1 rfl ⟨_, _, rfl, rfl, .inl ⟨by decide, by decide⟩, we_int ⟨_, _, rfl, rfl, rest _⟩⟩)))
theorem ok_cellsH (F : Fx w K mg) : BodyOk P w K mg base "_law_cells" s__law_cells ["_law_script", "_law_most"] 2 0 cCells := by
  intro f cdv A outer s H E hr ds M Φ hl hc
  obtain ⟨ns, m, rfl, h1, h2, hc⟩ := hc
  refine wss_cons (ws_ret (we_listRg1 (F.bn _ (by decide +kernel)) (F.bn _ (by decide +kernel)) (we_max2 (F.bn _ (by decide +kernel)) (we_int (we_min2 (F.bn _ (by decide +kernel)) (we_var 1 rfl (we_len (F.bn _ (by decide +kernel)) (we_var 0 rfl ⟨_, lenR, _, _, rfl, rfl, _, _, rfl, rfl, _, rfl, ?_, Lets.of (hc _ ?_)⟩))))))))
  · unfold RgOk; split <;> split <;> omega
  · split <;> split <;> omega
def cLaw (T1 T2 T3 : Addr) : Con := fun ds M Φ => ∃ ns, ds = [scrD ns] ∧ M T1 = some (.tbl qCR) ∧ M T2 = some (.tbl qPR) ∧ M T3 = some (.tbl qRi4) ∧ ∀ M', Φ (.bl true) M'
abbrev nLaw : List Str := ["_law_script", "_law_place"]
theorem ok_law04 {T1 T2 T3 : Addr} (F : Fx w K mg) (F1 : Fc P w K mg base "_law_cells" [] 1 2 cCells) (F2 : Fc P w K mg base "_law_pot" [] 1 2 cPotH) (F3 : Gc P w K mg base "_law_right" 126 1 (cRi4 T1 T2 T3)) : BodyG P w K mg base "law" s_law nLaw 1 126 (cLaw T1 T2 T3) := by
  intro f cdv A outer s H E hgd hr ds M Φ hl hc
  obtain ⟨ns, rfl, hT1, hT2, hT3, hc⟩ := hc
  have nd : nLaw.Nodup := by decide +kernel
  refine wss_cons (ws_ret (we_all (F.bn _ (by decide +kernel)) (we_lc nd (blkOk_by (N := nLaw) (sc := defScope s_law) (own := [("_law_place", 1)]) (by decide +kernel)) (fun _ _ _ _ _ => pg_name (i := 1) nd rfl (Or.inl rfl)) (gt_name (by decide)) (fun _ _ _ _ _ => pts_nil) tk_nil (wi_list (we_call F1 (hr.mono (by decide)) (wa_cons (we_var 0 rfl (wa_cons (we_int (wa_nil ⟨rfl, ns, 6, rfl, by decide, by decide, fun n hn => ⟨_, .inl rfl, ?_⟩⟩))))))))))
  refine ⟨by rw [rngD_len, sizeLine_eq]; omega, fun i acc M' => Tb4 T1 T2 T3 M' ∧ acc = (List.replicate i true).map D.bl, ⟨⟨hT1, hT2, hT3⟩, rfl⟩, ?_, ?_⟩
  · rintro i x acc M' hx ⟨⟨h1, h2, h3⟩, rfl⟩
    obtain ⟨hi, rfl⟩ := rngD_get hx
    intro s1 H1 C' cl fp
    refine we_callG F3 hgd (hr.mono (by decide)) (wa_cons (we_call F2 (hr.mono (by decide)) (wa_cons (we_var 0 rfl (wa_cons (we_var 1 rfl (wa_nil ⟨rfl, ns, i, by rw [Int.zero_add]; rfl, by omega, ?_⟩)))))))
    intro p a c hp co
    have n1 : T1 ≠ p := fun z => by rw [← z, h1] at hp; cases hp
    have n2 : T2 ≠ p := fun z => by rw [← z, h2] at hp; cases hp
    have n3 : T3 ≠ p := fun z => by rw [← z, h3] at hp; cases hp
    refine wa_nil ⟨rfl, p, a, c, 0, rfl, mset_same, co, by decide, by decide, ⟨by rw [mset_ne n1]; exact h1, by rw [mset_ne n2]; exact h2, by rw [mset_ne n3]; exact h3⟩, fun M' hM' => ⟨hM', ?_⟩⟩
    show _ ++ [_] = (List.replicate (i + 1) true).map D.bl
    rw [List.replicate_succ', List.map_append]; rfl
  · rintro acc M' ⟨h1, rfl⟩
    refine ⟨_, rfl, ?_⟩
    rw [List.all_eq_true.mpr fun b hb => by rw [List.eq_of_mem_replicate hb]; rfl]
    exact Lets.of (hc _)
end
end W
namespace W
open PySem PySem.Spec PyProof.Rows L2 DL He HK
section
variable {P : Program} {w : World} {K : PySem.W.Frag} {mg : Str → Option Value} {base h : Heap}
theorem mkFx (X : K.In h) (G : h.Ns mainGlobals mg) (c : Says spec w K) : Fx w K mg where
  bn := fun x hx => free_ok X G (c.fa (mem_bn hx))
  gONE := str_ok X G (c.fa (f := .str "ONE" "one") (mem_co 0 rfl))
  gNAME := str_ok X G (c.fa (f := .str "NAME" "name") (mem_co 1 rfl))
  gBESIDE := str_ok X G (c.fa (f := .str "BESIDE" "beside") (mem_co 2 rfl))
  gINTRODUCED := str_ok X G (c.fa (f := .str "INTRODUCED" "introduced") (mem_co 3 rfl))
  gBLANK := str_ok X G (c.fa (f := .str "BLANK" " ") (mem_co 4 rfl))
  gLETTERS := str_ok X G (c.fa (f := .str "LETTERS" "abcdefghijklmnopqrstuvwxyz") (mem_co 5 rfl))
  gFIGURES := str_ok X G (c.fa (f := .str "FIGURES" "0123456789") (mem_co 6 rfl))
  gMOST_LETTERS := int_ok X G (c.fa (f := .int "MOST_LETTERS" 8) (mem_co 7 rfl))
  gPERSON := str_ok X G (c.fa (f := .str "PERSON" "1") (mem_co 8 rfl))
  gLEAST_MANY := int_ok X G (c.fa (f := .int "LEAST_MANY" 2) (mem_co 9 rfl))
  gMOST_MANY := int_ok X G (c.fa (f := .int "MOST_MANY" (10 ^ 30)) (mem_co 10 rfl))
  gMOST_NAMES := int_ok X G (c.fa (f := .int "MOST_NAMES" 3) (mem_co 11 rfl))
  gMOST_DEPTH := int_ok X G (c.fa (f := .int "MOST_DEPTH" 60) (mem_co 12 rfl))
  gSIGNS := let ⟨kvs, h1, h2⟩ := c.ta 0 (x := "SIGNS") (qs := tSigns) rfl (by decide +kernel); ⟨_, kvs, glo_ok X G (c.fa (f := .glo "SIGNS") (mem_glo (by decide +kernel))), h1, h2⟩
  gAROUND := let ⟨kvs, h1, h2⟩ := c.ta 1 (x := "AROUND") (qs := tAround) rfl (by decide +kernel); ⟨_, kvs, glo_ok X G (c.fa (f := .glo "AROUND") (mem_glo (by decide +kernel))), h1, h2⟩
  gTURNED := let ⟨kvs, h1, h2⟩ := c.ta 2 (x := "TURNED") (qs := tTurned) rfl (by decide +kernel); ⟨_, kvs, glo_ok X G (c.fa (f := .glo "TURNED") (mem_glo (by decide +kernel))), h1, h2⟩
theorem mkPx (X : K.In h) (G : h.Ns mainGlobals mg) (c : Says spec w K) : Px K mg (ga K "Plan") where
  at_ := glo_ok X G (c.fa (f := .glo "Plan") (mem_glo (by decide +kernel)))
  cl := cls_ok (c.fa (f := .cls "Plan") (mem_co 13 rfl))
  na := fun f hf => noat_ok (c.fa (mem_na hf))
  init := ⟨_, mkr_ok (c.fa (f := .mkr "Plan") (mem_co 15 rfl)), ⟨c.dd 1 rfl⟩⟩
  text := ⟨_, _, propB_ok (c.pr (q := ("Plan", "text")) (by decide +kernel)), ⟨c.dd 2 rfl⟩⟩
  names := ⟨_, _, propB_ok (c.pr (q := ("Plan", "names")) (by decide +kernel)), ⟨c.dd 3 rfl⟩⟩
  word := ⟨_, _, propB_ok (c.pr (q := ("Plan", "word")) (by decide +kernel)), ⟨c.dd 4 rfl⟩⟩
  many := ⟨_, _, propB_ok (c.pr (q := ("Plan", "many")) (by decide +kernel)), ⟨c.dd 5 rfl⟩⟩
  invert := ⟨_, meth_ok (c.fa (f := .meth "Plan" "__invert__") (mem_co 14 rfl)), ⟨c.dd 6 rfl⟩⟩
theorem mkDf (X : K.In h) (G : h.Ns mainGlobals mg) (c : Says spec w K) (i : Nat) {x : Str} {st : Stmt} (hd : dds[i]? = some (gl x st)) (hx : x ∈ globsA) : Df K mg x st [] :=
  let ⟨fd, F⟩ := c.dd i hd
  ⟨_, fd, F, glo_ok X G (c.fa (mem_glo hx))⟩
theorem shX : XL.Shape (defArgs s_CrowdError___init__) (defBody s_CrowdError___init__) (defScope s_CrowdError___init__) where
  args := ⟨_, _, rfl⟩
  body := ⟨_, _, _, _, _, _, _, _, _, _, rfl, fun _ _ _ _ _ => ⟨_, rfl⟩⟩
  kind := rfl
  co := rfl
  gen := rfl
  cellless := by decide +kernel
  self := by rfl
  value := by rfl
  cls := fun _ _ _ _ _ => rfl
  sup := fun _ _ _ _ _ => rfl
  inter := fun _ _ _ _ _ => rfl
  kself := fun _ _ _ _ _ => rfl
  kvalue := fun _ _ _ _ _ => rfl
theorem mkEk (X : K.In h) (G : h.Ns mainGlobals mg) (c : Says spec w K) (hf : (P.main.file == "/claim/cut.py") = true) (hs : (P.main.scope.names.lookup ("super" : Str)).isSome = false) {x : Str} (hx : x ∈ spec.er) (hg : x ∈ globsA) : Ek P K mg (ga K "CrowdError") x (ga K x) := by
  have hm := glo_ok X G (c.fa (f := .glo x) (mem_glo hg))
  obtain ⟨a, b, d, e⟩ := c.err (P := P) (mg := mg) (file := "/claim/cut.py") (st := s_CrowdError___init__) rfl shX hf hs (free_ok X G (c.fa (f := .free "super") (mem_co 20 rfl))) hx hm
  exact ⟨a, b, hm, e, d⟩
theorem mkDc (X : K.In h) (G : h.Ns mainGlobals mg) (c : Says spec w K) (i : Nat) {x : Str} {st : Stmt} {p : Addr × Addr} (hd : dds[i]? = some (gl x st)) (hg : mg x = some (.ref (ga K x))) (ht : PySem.W.tabIn K x = some p) : Dc K mg x st p.1 := by
  obtain ⟨fd, F⟩ := c.dd i hd
  obtain ⟨oc, od, dV, kV, doc, pm, an, cdv, ct, osl, e, lk, r⟩ := F.ex
  exact ⟨_, fd, F, hg, PySem.W.law_code X G ht hg (X _ _ lk) rfl⟩
theorem chain {C B U_BadPlan U_Unknown U_BadMany U_NoName U_NoPlan c1 c2 c3 T1 T2 T3 : Addr} {f : Addr} {fd : FuncData} (F : Fx w K mg) (X : Px K mg C) (X_copies : ∃ f, Meth K C "copies" f ∧ Md K C "copies" "Plan.copies" s_Plan_copies f) (X_put : ∃ f, Meth K C "put" f ∧ Md K C "put" "Plan.put" s_Plan_put f) (X_add : ∃ f, Meth K C "__add__" f ∧ Md K C "__add__" "Plan.__add__" s_Plan___add__ f) (X_mul : ∃ f, Meth K C "__mul__" f ∧ Md K C "__mul__" "Plan.__mul__" s_Plan___mul__ f) (XE : PySem.W.selfFirst K C = true ∧ OwnC K C ∧ PySem.W.findIn K (.ref C) "__ne__" = some (some (.builtin "object.__ne__"))) (gB : mg "CrowdError" = some (.ref B)) (E_BadPlan : Ek P K mg B "BadPlan" U_BadPlan) (E_Unknown : Ek P K mg B "Unknown" U_Unknown) (E_BadMany : Ek P K mg B "BadMany" U_BadMany) (E_NoName : Ek P K mg B "NoName" U_NoName) (E_NoPlan : Ek P K mg B "NoPlan" U_NoPlan) (K_NN : PySem.W.kitOne K (.ref U_NoName) (.ref C) = some false) (D__law_copies_right : Dc K mg "_law_copies_right" s__law_copies_right c1) (TB__law_copies_right : LamX.TabB base mg c1 T1) (D__law_puts_right : Dc K mg "_law_puts_right" s__law_puts_right c2) (TB__law_puts_right : LamX.TabB base mg c2 T2) (D__law_right : Dc K mg "_law_right" s__law_right c3) (TB__law_right : LamX.TabB base mg c3 T3) (DI : Df K mg "is_integer" s_is_integer [.non, .non]) (D : ∀ (i : Nat) {x : Str} {st : Stmt}, dds[i]? = some (gl x st) → x ∈ globsA → Df K mg x st [])
    (L : FunD K "law" "law" (defArgs s_law) (defBody s_law) (defScope s_law) [] [] f fd) : FnG P w K mg base 127 f fd ["_law_script"] (spD K 1 (cLaw T1 T2 T3)) := by
  have FI : Fc P w K mg base "is_integer" [] 1 3 cIsInt := DI.fcD (N := ["value", "low", "high"]) (ps := ["value", "low", "high"]) ⟨rfl, rfl, rfl, by decide +kernel, rfl, by decide +kernel, by decide +kernel⟩ 3 2 (by simp) rfl (fun _ _ _ => .nil) (fun _ _ _ _ _ _ _ us its h1 h2 => match us, its, h1, h2 with | [_, _, _], [_, _], _, _ => ⟨_, rfl, rfl⟩) (ok_is_integer F)
  have FIA : Fc P w K mg base "is_integer" [] 1 3 cIsIntA := DI.fcD (N := ["value", "low", "high"]) (ps := ["value", "low", "high"]) ⟨rfl, rfl, rfl, by decide +kernel, rfl, by decide +kernel, by decide +kernel⟩ 3 2 (by simp) rfl (fun _ _ _ => .nil) (fun _ _ _ _ _ _ _ us its h1 h2 => match us, its, h1, h2 with | [_, _, _], [_, _], _, _ => ⟨_, rfl, rfl⟩) (ok_is_integer_a F)
  have fName : Fc P w K mg base "is_name" [] 1 1 cIsName := (D 11 rfl (by decide +kernel)).fc (N := ["value", "letter"]) (ps := ["value"]) ⟨rfl, rfl, rfl, by decide +kernel, rfl, by decide +kernel, by decide +kernel⟩ (fun _ _ _ _ _ _ us hl => match us, hl with | [_], _ => rfl) (ok_is_name F)
  have fNum : Fc P w K mg base "number_in" [] 1 1 cNumberIn := (D 12 rfl (by decide +kernel)).fc (N := ["text", "figure"]) (ps := ["text"]) ⟨rfl, rfl, rfl, by decide +kernel, rfl, by decide +kernel, by decide +kernel⟩ (fun _ _ _ _ _ _ us hl => match us, hl with | [_], _ => rfl) (ok_number_in F)
  have fPar : Fc P w K mg base "parted" [] 1 2 cParted := (D 13 rfl (by decide +kernel)).fc (N := ["text", "sign", "found", "depth", "begin", "at", "letter"]) (ps := ["text", "sign"]) ⟨rfl, rfl, rfl, by decide +kernel, rfl, by decide +kernel, by decide +kernel⟩ (fun _ _ _ _ _ _ us hl => match us, hl with | [_, _], _ => rfl) (ok_parted F)
  have fCop : Fc P w K mg base "copies_in" [] 2 1 cCopiesIn := (D 14 rfl (by decide +kernel)).fc (N := ["text", "word", "head", "end", "number", "blank", "rest", "many"]) (ps := ["text"]) ⟨rfl, rfl, rfl, by decide +kernel, rfl, by decide +kernel, by decide +kernel⟩ (fun _ _ _ _ _ _ us hl => match us, hl with | [_], _ => rfl) (ok_copies_in F fNum)
  have fRow : Fc P w K mg base "row_in" [] 2 1 cRowIn := (D 15 rfl (by decide +kernel)).fc (N := ["text", "word", "sign", "parts", "part"]) (ps := ["text"]) ⟨rfl, rfl, rfl, by decide +kernel, rfl, by decide +kernel, by decide +kernel⟩ (fun _ _ _ _ _ _ us hl => match us, hl with | [_], _ => rfl) (ok_row_in F fPar)
  have fGrp : Fc P w K mg base "groups_in" [] 3 1 cGroupsIn := (D 16 rfl (by decide +kernel)).fc (N := ["text", "found"]) (ps := ["text"]) ⟨rfl, rfl, rfl, by decide +kernel, rfl, by decide +kernel, by decide +kernel⟩ (fun _ _ _ _ _ _ us hl => match us, hl with | [_], _ => rfl) (ok_groups_in F fName fCop fRow)
  have fPt : ∀ h, Fc P w K mg base "is_plan_text" [] (h + 4) 2 (cPlanText h) := by
    intro h
    induction h with
    | zero => exact (D 17 rfl (by decide +kernel)).fc (N := ["text", "depth", "found", "many", "part"]) (ps := ["text", "depth"]) ⟨rfl, rfl, rfl, by decide +kernel, rfl, by decide +kernel, by decide +kernel⟩ (fun _ _ _ _ _ _ us hl => match us, hl with | [_, _], _ => rfl) (ok_is_plan_text 0 F fGrp (fun j hj => by omega))
    | succ h ih => exact (D 17 rfl (by decide +kernel)).fc (N := ["text", "depth", "found", "many", "part"]) (ps := ["text", "depth"]) ⟨rfl, rfl, rfl, by decide +kernel, rfl, by decide +kernel, by decide +kernel⟩ (fun _ _ _ _ _ _ us hl => match us, hl with | [_, _], _ => rfl) (ok_is_plan_text (h + 1) F fGrp (fun j hj => by cases hj; exact ih))
  have fNm : ∀ h, Fc P w K mg base "names_in" [] (h + 4) 1 (cNamesN h) := by
    intro h
    induction h with
    | zero => exact (D 18 rfl (by decide +kernel)).fc (N := nNin) (ps := ["text"]) ⟨rfl, rfl, rfl, by decide +kernel, rfl, by decide +kernel, by decide +kernel⟩ (fun _ _ _ _ _ _ us hl => match us, hl with | [_], _ => rfl) (ok_names_n 0 F fGrp (fun j hj => by omega))
    | succ h ih => exact (D 18 rfl (by decide +kernel)).fc (N := nNin) (ps := ["text"]) ⟨rfl, rfl, rfl, by decide +kernel, rfl, by decide +kernel, by decide +kernel⟩ (fun _ _ _ _ _ _ us hl => match us, hl with | [_], _ => rfl) (ok_names_n (h + 1) F fGrp (fun j hj => by cases hj; exact ih))
  obtain ⟨fi, mk, mi⟩ := X.init
  have kPlan : ∀ h, Kc P w K mg base "Plan" C [] (2 * h + 6) 2 (cInitN C h) := by
    intro h
    induction h with
    | zero => exact mi.kc X.at_ mk (N := nInit) (ps := ["self", "text"]) ⟨rfl, rfl, rfl, by decide +kernel, rfl, by decide +kernel, by decide +kernel⟩ (fun _ _ _ _ _ _ us hl => match us, hl with | [_, _], _ => rfl) (ok_init_n 0 F X (fPt 0) (fNm 0) fGrp (fun j hj => by omega))
    | succ h ih => exact mi.kc X.at_ mk (N := nInit) (ps := ["self", "text"]) ⟨rfl, rfl, rfl, by decide +kernel, rfl, by decide +kernel, by decide +kernel⟩ (fun _ _ _ _ _ _ us hl => match us, hl with | [_, _], _ => rfl) (ok_init_n (h + 1) F X (fPt (h + 1)) (fNm (h + 1)) fGrp (fun j hj => by cases hj; exact ih))
  obtain ⟨p1, g1, pr1, m1⟩ := X.text
  obtain ⟨p2, g2, pr2, m2⟩ := X.names
  obtain ⟨p3, g3, pr3, m3⟩ := X.word
  obtain ⟨p4, g4, pr4, m4⟩ := X.many
  obtain ⟨g5, pr5, m5⟩ := X.invert
  have pText : Pc P w K mg base C "text" 1 (cGet C fun t => tS (PL.txt t)) := m1.pc X.cl pr1 (N := ["self"]) ⟨rfl, rfl, rfl, by decide +kernel, rfl, by decide +kernel, by decide +kernel⟩ (fun _ _ _ _ _ _ us hl => match us, hl with | [_], _ => rfl) (ok_text X)
  have pNames : Pc P w K mg base C "names" 1 (cGet C fun t => .tup []) := m2.pc X.cl pr2 (N := ["self"]) ⟨rfl, rfl, rfl, by decide +kernel, rfl, by decide +kernel, by decide +kernel⟩ (fun _ _ _ _ _ _ us hl => match us, hl with | [_], _ => rfl) (ok_names X)
  have pWord : Pc P w K mg base C "word" 1 (cGet C fun t => .str (wordT t)) := m3.pc X.cl pr3 (N := ["self"]) ⟨rfl, rfl, rfl, by decide +kernel, rfl, by decide +kernel, by decide +kernel⟩ (fun _ _ _ _ _ _ us hl => match us, hl with | [_], _ => rfl) (ok_word X)
  have fTold : Fc P w K mg base "check_told" [] 3 1 (cTold C) := (D 19 rfl (by decide +kernel)).fc (N := ["plan"]) (ps := ["plan"]) ⟨rfl, rfl, rfl, by decide +kernel, rfl, by decide +kernel, by decide +kernel⟩ (fun _ _ _ _ _ _ us hl => match us, hl with | [_], _ => rfl) (ok_check_told pNames)
  have pTxN : Pc P w K mg base C "text" 1 (cGetN C fun t => tS (PL.txt t)) := m1.pc X.cl pr1 (N := ["self"]) ⟨rfl, rfl, rfl, by decide +kernel, rfl, by decide +kernel, by decide +kernel⟩ (fun _ _ _ _ _ _ us hl => match us, hl with | [_], _ => rfl) (ok_text_n X)
  have pWdN : Pc P w K mg base C "word" 1 (cGetN C fun t => .str (wordT t)) := m3.pc X.cl pr3 (N := ["self"]) ⟨rfl, rfl, rfl, by decide +kernel, rfl, by decide +kernel, by decide +kernel⟩ (fun _ _ _ _ _ _ us hl => match us, hl with | [_], _ => rfl) (ok_word_n X)
  have pNmN : Pc P w K mg base C "names" 1 (cGetN C fun t => .tup ((PL.nmT t).map DL.D.str)) := m2.pc X.cl pr2 (N := ["self"]) ⟨rfl, rfl, rfl, by decide +kernel, rfl, by decide +kernel, by decide +kernel⟩ (fun _ _ _ _ _ _ us hl => match us, hl with | [_], _ => rfl) (ok_names_g X)
  have xTold : Fcx P w K mg base "check_told" [] 3 1 (cToldX C U_Unknown) := (D 19 rfl (by decide +kernel)).fx (N := ["plan"]) (ps := ["plan"]) ⟨rfl, rfl, rfl, by decide +kernel, rfl, by decide +kernel, by decide +kernel⟩ (fun _ _ _ _ _ _ us hl => match us, hl with | [_], _ => rfl) (ok_told_x E_Unknown.er pNmN)
  have xPlM : Kcx P w K mg base "Plan" C [] 86 2 (cInitM C U_BadPlan 20) := mi.kx X.at_ mk (N := nInit) (ps := ["self", "text"]) ⟨rfl, rfl, rfl, by decide +kernel, rfl, by decide +kernel, by decide +kernel⟩ (fun _ _ _ _ _ _ us hl => match us, hl with | [_, _], _ => rfl) (ok_init_m 20 F E_BadPlan.er (fPt 20) (fNm 20))
  have fRt : Fc P w K mg base "row_text" [] 1 2 cRT := (D 20 rfl (by decide +kernel)).fc (N := ["word", "texts"]) (ps := ["word", "texts"]) ⟨rfl, rfl, rfl, by decide +kernel, rfl, by decide +kernel, by decide +kernel⟩ (fun _ _ _ _ _ _ us hl => match us, hl with | [_, _], _ => rfl) (ok_row_text F)
  have fCt : Fc P w K mg base "copies_text" [] 1 3 cCopT := (D 21 rfl (by decide +kernel)).fc (N := nCopT) (ps := ["word", "many", "text"]) ⟨rfl, rfl, rfl, by decide +kernel, rfl, by decide +kernel, by decide +kernel⟩ (fun _ _ _ _ _ _ us hl => match us, hl with | [_, _, _], _ => rfl) (ok_copies_text F)
  have fTp : ∀ h, Fc P w K mg base "text_put" [] (h + 3) 3 (cTPut C h) := by
    intro h
    induction h with
    | zero => exact (D 22 rfl (by decide +kernel)).fc (N := nTPut) (ps := ["plan", "name", "text"]) ⟨rfl, rfl, rfl, by decide +kernel, rfl, by decide +kernel, by decide +kernel⟩ (fun _ _ _ _ _ _ us hl => match us, hl with | [_, _, _], _ => rfl) (ok_text_put 0 F X pWdN pTxN fCt fRt (fun j hj => by omega))
    | succ h ih => exact (D 22 rfl (by decide +kernel)).fc (N := nTPut) (ps := ["plan", "name", "text"]) ⟨rfl, rfl, rfl, by decide +kernel, rfl, by decide +kernel, by decide +kernel⟩ (fun _ _ _ _ _ _ us hl => match us, hl with | [_, _, _], _ => rfl) (ok_text_put (h + 1) F X pWdN pTxN fCt fRt (fun j hj => by cases hj; exact ih))
  obtain ⟨maddf, maddm, maddd⟩ := X_add
  have mAdd : Mcx P w K mg base C "__add__" [] 109 2 (cRowX C U_BadPlan false 20) := maddd.mx X.cl maddm (N := ["self", "other"]) (ps := ["self", "other"]) ⟨rfl, rfl, rfl, by decide +kernel, rfl, by decide +kernel, by decide +kernel⟩ (fun _ _ _ _ _ _ us hl => match us, hl with | [_, _], _ => rfl) (ok_add_x 20 F X XE.2.1 pTxN fRt (kPlan 20) xPlM (by decide))
  obtain ⟨mmulf, mmulm, mmuld⟩ := X_mul
  have mMul : Mcx P w K mg base C "__mul__" [] 109 2 (cRowX C U_BadPlan true 20) := mmuld.mx X.cl mmulm (N := ["self", "other"]) (ps := ["self", "other"]) ⟨rfl, rfl, rfl, by decide +kernel, rfl, by decide +kernel, by decide +kernel⟩ (fun _ _ _ _ _ _ us hl => match us, hl with | [_, _], _ => rfl) (ok_mul_x 20 F X XE.2.1 pTxN fRt (kPlan 20) xPlM (by decide))
  obtain ⟨mcopiesf, mcopiesm, mcopiesd⟩ := X_copies
  have mCp : Mcx P w K mg base C "copies" [] 48 2 (cCopX C U_BadMany 20) := mcopiesd.mx X.cl mcopiesm (N := ["self", "many"]) (ps := ["self", "many"]) ⟨rfl, rfl, rfl, by decide +kernel, rfl, by decide +kernel, by decide +kernel⟩ (fun _ _ _ _ _ _ us hl => match us, hl with | [_, _], _ => rfl) (ok_copies_x 20 F E_BadMany.er FIA pTxN fCt (kPlan 20))
  obtain ⟨mputf, mputm, mputd⟩ := X_put
  have mPu : Mcx P w K mg base C "put" [] 109 3 (cPutX C U_NoName U_NoPlan U_BadPlan 20) := mputd.mx X.cl mputm (N := ["self", "name", "other"]) (ps := ["self", "name", "other"]) ⟨rfl, rfl, rfl, by decide +kernel, rfl, by decide +kernel, by decide +kernel⟩ (fun _ _ _ _ _ _ us hl => match us, hl with | [_, _, _], _ => rfl) (ok_put_x 20 F X XE.2.1 K_NN E_NoName.er E_NoPlan.er pTxN (fTp 20) (kPlan 20) xPlM (by decide))
  have mIv : Mcx P w K mg base C "__invert__" [] 48 1 (cInvX C U_Unknown 20) := m5.mx X.cl pr5 (N := ["self", "sign"]) (ps := ["self"]) ⟨rfl, rfl, rfl, by decide +kernel, rfl, by decide +kernel, by decide +kernel⟩ (fun _ _ _ _ _ _ us hl => match us, hl with | [_], _ => rfl) (ok_invert_x 20 F fTold xTold pText (kPlan 20))
  have fTk : Fc P w K mg base "_law_take" [] 1 2 cTake := (D 23 rfl (by decide +kernel)).fc (N := nTake) (ps := ["_law_pot_here", "_law_upto"]) ⟨rfl, rfl, rfl, by decide +kernel, rfl, by decide +kernel, by decide +kernel⟩ (fun _ _ _ _ _ _ us hl => match us, hl with | [_, _], _ => rfl) (ok_take F)
  have fOf : Fc P w K mg base "_law_of" [] 2 2 cOf := (D 24 rfl (by decide +kernel)).fc (N := ["_law_pot_here", "_law_some_here"]) (ps := ["_law_pot_here", "_law_some_here"]) ⟨rfl, rfl, rfl, by decide +kernel, rfl, by decide +kernel, by decide +kernel⟩ (fun _ _ _ _ _ _ us hl => match us, hl with | [_, _], _ => rfl) (ok_of F fTk)
  have fSo : Fc P w K mg base "_law_some" [] 2 3 cSome := (D 25 rfl (by decide +kernel)).fc (N := nSome) (ps := ["_law_pot_here", "_law_pool", "_law_wanted"]) ⟨rfl, rfl, rfl, by decide +kernel, rfl, by decide +kernel, by decide +kernel⟩ (fun _ _ _ _ _ _ us hl => match us, hl with | [_, _, _], _ => rfl) (ok_some F fTk)
  have fCe : Fc P w K mg base "_law_cells" [] 1 2 cCells := (D 26 rfl (by decide +kernel)).fc (N := ["_law_script", "_law_most"]) (ps := ["_law_script", "_law_most"]) ⟨rfl, rfl, rfl, by decide +kernel, rfl, by decide +kernel, by decide +kernel⟩ (fun _ _ _ _ _ _ us hl => match us, hl with | [_, _], _ => rfl) (ok_cellsH F)
  have fPot : Fc P w K mg base "_law_pot" [] 1 2 cPotH := (D 27 rfl (by decide +kernel)).fc (N := nPotH) (ps := ["_law_script", "_law_place"]) ⟨rfl, rfl, rfl, by decide +kernel, rfl, by decide +kernel, by decide +kernel⟩ (fun _ _ _ _ _ _ us hl => match us, hl with | [_, _], _ => rfl) (ok_potH F)
  have fTx : ∀ h, Fc P w K mg base "_law_text" [] (h + 1) 1 (cText h) := by
    intro h
    induction h with
    | zero => exact (D 28 rfl (by decide +kernel)).fc (N := ["_law_lore", "_law_part"]) (ps := ["_law_lore"]) ⟨rfl, rfl, rfl, by decide +kernel, rfl, by decide +kernel, by decide +kernel⟩ (fun _ _ _ _ _ _ us hl => match us, hl with | [_], _ => rfl) (ok_lawtext 0 F (fun j hj => by omega))
    | succ h ih => exact (D 28 rfl (by decide +kernel)).fc (N := ["_law_lore", "_law_part"]) (ps := ["_law_lore"]) ⟨rfl, rfl, rfl, by decide +kernel, rfl, by decide +kernel, by decide +kernel⟩ (fun _ _ _ _ _ _ us hl => match us, hl with | [_], _ => rfl) (ok_lawtext (h + 1) F (fun j hj => by cases hj; exact ih))
  have fOd : Fc P w K mg base "_law_odd" [] 3 1 cOdd := (D 29 rfl (by decide +kernel)).fc (N := ["_law_pot_here", "_law_some_here"]) (ps := ["_law_pot_here"]) ⟨rfl, rfl, rfl, by decide +kernel, rfl, by decide +kernel, by decide +kernel⟩ (fun _ _ _ _ _ _ us hl => match us, hl with | [_], _ => rfl) (ok_odd F fOf)
  have fWh : Fc P w K mg base "_law_is_whole" [] 1 3 cWhole3 := (D 30 rfl (by decide +kernel)).fc (N := ["_law_value", "_law_low", "_law_high"]) (ps := ["_law_value", "_law_low", "_law_high"]) ⟨rfl, rfl, rfl, by decide +kernel, rfl, by decide +kernel, by decide +kernel⟩ (fun _ _ _ _ _ _ us hl => match us, hl with | [_, _, _], _ => rfl) (ok_whole3 F)
  have fPl : Fc P w K mg base "_law_plan" [] 16 1 (cPlanL C 4) := (D 31 rfl (by decide +kernel)).fc (N := ["_law_lore"]) (ps := ["_law_lore"]) ⟨rfl, rfl, rfl, by decide +kernel, rfl, by decide +kernel, by decide +kernel⟩ (fun _ _ _ _ _ _ us hl => match us, hl with | [_], _ => rfl) (ok_planl 4 (fTx 4) (kPlan 4))
  have fBu : ∀ h, Fc P w K mg base "_law_built" [] (h + 3) 4 (cBuiltN h) := by
    intro h
    induction h with
    | zero => exact (D 32 rfl (by decide +kernel)).fc (N := nBuilt) (ps := ["_law_pot_here", "_law_size", "_law_deep", "_law_names_here"]) ⟨rfl, rfl, rfl, by decide +kernel, rfl, by decide +kernel, by decide +kernel⟩ (fun _ _ _ _ _ _ us hl => match us, hl with | [_, _, _, _], _ => rfl) (ok_built_n 0 F fTk fOf (fun j hj => by omega))
    | succ h ih => exact (D 32 rfl (by decide +kernel)).fc (N := nBuilt) (ps := ["_law_pot_here", "_law_size", "_law_deep", "_law_names_here"]) ⟨rfl, rfl, rfl, by decide +kernel, rfl, by decide +kernel, by decide +kernel⟩ (fun _ _ _ _ _ _ us hl => match us, hl with | [_, _, _, _], _ => rfl) (ok_built_n (h + 1) F fTk fOf (fun j hj => by cases hj; exact ih))
  have fGr : Fc P w K mg base "_law_groups" [] 1 1 cGroups := (D 33 rfl (by decide +kernel)).fc (N := ["_law_lore", "_law_part"]) (ps := ["_law_lore"]) ⟨rfl, rfl, rfl, by decide +kernel, rfl, by decide +kernel, by decide +kernel⟩ (fun _ _ _ _ _ _ us hl => match us, hl with | [_], _ => rfl) (ok_groups)
  have fLn : ∀ h, Fc P w K mg base "_law_names" [] (h + 2) 1 (cLNm h) := by
    intro h
    induction h with
    | zero => exact (D 34 rfl (by decide +kernel)).fc (N := nLNm) (ps := ["_law_lore"]) ⟨rfl, rfl, rfl, by decide +kernel, rfl, by decide +kernel, by decide +kernel⟩ (fun _ _ _ _ _ _ us hl => match us, hl with | [_], _ => rfl) (ok_lnames 0 F fGr (fun j hj => by omega))
    | succ h ih => exact (D 34 rfl (by decide +kernel)).fc (N := nLNm) (ps := ["_law_lore"]) ⟨rfl, rfl, rfl, by decide +kernel, rfl, by decide +kernel, by decide +kernel⟩ (fun _ _ _ _ _ _ us hl => match us, hl with | [_], _ => rfl) (ok_lnames (h + 1) F fGr (fun j hj => by cases hj; exact ih))
  have fPp : ∀ h, Fc P w K mg base "_law_people" [] (h + 2) 1 (cPplN h) := by
    intro h
    induction h with
    | zero => exact (D 35 rfl (by decide +kernel)).fc (N := nPpl) (ps := ["_law_lore"]) ⟨rfl, rfl, rfl, by decide +kernel, rfl, by decide +kernel, by decide +kernel⟩ (fun _ _ _ _ _ _ us hl => match us, hl with | [_], _ => rfl) (ok_lpeople_n 0 F fGr (fun j hj => by omega))
    | succ h ih => exact (D 35 rfl (by decide +kernel)).fc (N := nPpl) (ps := ["_law_lore"]) ⟨rfl, rfl, rfl, by decide +kernel, rfl, by decide +kernel, by decide +kernel⟩ (fun _ _ _ _ _ _ us hl => match us, hl with | [_], _ => rfl) (ok_lpeople_n (h + 1) F fGr (fun j hj => by cases hj; exact ih))
  have fTu : Fc P w K mg base "_law_turned" [] 1 1 cLTurn := (D 36 rfl (by decide +kernel)).fc (N := nLTurn) (ps := ["_law_text_here"]) ⟨rfl, rfl, rfl, by decide +kernel, rfl, by decide +kernel, by decide +kernel⟩ (fun _ _ _ _ _ _ us hl => match us, hl with | [_], _ => rfl) (ok_lturned F)
  have fRe : ∀ h, Fc P w K mg base "_law_replaced" [] (h + 1) 3 (cRep h) := by
    intro h
    induction h with
    | zero => exact (D 37 rfl (by decide +kernel)).fc (N := nRep) (ps := ["_law_lore", "_law_name", "_law_other"]) ⟨rfl, rfl, rfl, by decide +kernel, rfl, by decide +kernel, by decide +kernel⟩ (fun _ _ _ _ _ _ us hl => match us, hl with | [_, _, _], _ => rfl) (ok_replaced 0 F (fun j hj => by omega))
    | succ h ih => exact (D 37 rfl (by decide +kernel)).fc (N := nRep) (ps := ["_law_lore", "_law_name", "_law_other"]) ⟨rfl, rfl, rfl, by decide +kernel, rfl, by decide +kernel, by decide +kernel⟩ (fun _ _ _ _ _ _ us hl => match us, hl with | [_, _, _], _ => rfl) (ok_replaced (h + 1) F (fun j hj => by cases hj; exact ih))
  have tCt : Ct K mg "_law_caught" s__law_caught "_law_look" := ⟨D 38 rfl (by decide +kernel), (fun _ _ _ _ _ _ us hl => match us, hl with | [_], _ => rfl)⟩
  have tAn : Ct K mg "_law_answer" s__law_answer "_law_look" := ⟨D 39 rfl (by decide +kernel), (fun _ _ _ _ _ _ us hl => match us, hl with | [_], _ => rfl)⟩
  have dMa : Df K mg "_law_is_made" s__law_is_made [] := D 40 rfl (by decide +kernel)
  have gCr : Gc P w K mg base "_law_copies_right" 101 2 (cCR T1) := D__law_copies_right.gc (N := nCR) (ps := ["_law_pot_here", "_law_lore"]) ⟨rfl, rfl, rfl, by decide +kernel, rfl, by decide +kernel, by decide +kernel⟩ (fun _ _ _ _ _ _ us hl => match us, hl with | [_, _], _ => rfl) (ok_copies_right F (F.bn _ (by decide +kernel)) TB__law_copies_right gB E_BadMany tCt fTk fOd fWh fPl (fPp 4) (kPlan 20) pTxN mCp)
  have gPu : Gc P w K mg base "_law_puts_right" 121 3 (cPR T2) := D__law_puts_right.gc (N := nPR) (ps := ["_law_pot_here", "_law_lore", "_law_other"]) ⟨rfl, rfl, rfl, by decide +kernel, rfl, by decide +kernel, by decide +kernel⟩ (fun _ _ _ _ _ _ us hl => match us, hl with | [_, _, _], _ => rfl) (ok_puts_right F (F.bn _ (by decide +kernel)) X XE.2.1 TB__law_puts_right gB E_BadPlan E_NoName E_NoPlan tCt tAn dMa fOd fPl (fRe 4) fLn fTx pTxN mPu)
  have gRi : Gc P w K mg base "_law_right" 126 1 (cRi4 T1 T2 T3) := D__law_right.gc (N := nRi4) (ps := ["_law_pot_here"]) ⟨rfl, rfl, rfl, by decide +kernel, rfl, by decide +kernel, by decide +kernel⟩ (fun _ _ _ _ _ _ us hl => match us, hl with | [_], _ => rfl) (ok_right04 F (F.bn _ (by decide +kernel)) X XE.2.1 XE.1 TB__law_right gB E_BadPlan E_Unknown tAn dMa fTk fSo (fBu 4) fPl fLn fTx fTu pTxN mAdd mMul mIv gCr gPu)
  exact fnG_ok (N := nLaw) (ps := ["_law_script"]) L ⟨rfl, rfl, rfl, by decide +kernel, rfl, by decide +kernel, by decide +kernel⟩ (ok_law04 F fCe fPot gRi)
theorem spLaw_okT {H : Hp} {a : Addr} {ns : List Int} {E : XK} {cs : List (Addr × Addr)} {T1 T2 T3 : Addr} (hO : OnlyT cs H) (m0 : T1 ∈ cs.map (·.2)) (m1 : T2 ∈ cs.map (·.2)) (m2 : T3 ∈ cs.map (·.2)) (n10 : T2 ≠ T1) (n20 : T3 ≠ T1) (n21 : T3 ≠ T2) (hS : SqL K H a (ns.map V.int)) : spD K 1 (cLaw T1 T2 T3) [.ref a] H (fun v _ => v = .bl true) E := by
  have at_ : ∀ {T : Addr}, T ∈ cs.map (·.2) → H T = some (.tbl #[]) := fun hT => by
    obtain ⟨p, hp, rfl⟩ := List.mem_map.mp hT
    exact hO.1 p hp
  have rm : ∀ {M : Mp} {Z : Zn} {T : Addr} (qn : Str), T ∈ cs.map (·.2) → RepM K M Z H T (.tbl qn) := fun qn hT => ⟨#[], at_ hT, True.intro, fun pos cv hc => by
    have z : codeAmong pos [] = some cv := hc
    simp [codeAmong] at z⟩
  have ne : ∀ {T : Addr}, T ∈ cs.map (·.2) → Rd H a (.lst (ns.map V.int)) → a ≠ T := fun hT hr z => by
    have q := at_ hT
    rw [← z] at q
    rcases hr with r | ⟨o, r⟩
    · rw [q] at r; cases r
    · rw [q] at r; cases r
  refine ⟨[scrD ns], fun b => if b = T1 then some (MO.tbl qCR) else if b = T2 then some (MO.tbl qPR) else if b = T3 then some (MO.tbl qRi4) else none, fun _ => False, fun d _ => d = .bl true, rfl, .cons ?_ .nil, ⟨fun b o e => ?_, fun b z => z.elim⟩, ⟨ns, rfl, by show (if T1 = T1 then some (MO.tbl qCR) else if T1 = T2 then some (MO.tbl qPR) else if T1 = T3 then some (MO.tbl qRi4) else none) = _; rw [if_pos rfl], by show (if T2 = T1 then some (MO.tbl qCR) else if T2 = T2 then some (MO.tbl qPR) else if T2 = T3 then some (MO.tbl qRi4) else none) = _; rw [if_neg n10, if_pos rfl], by show (if T3 = T1 then some (MO.tbl qCR) else if T3 = T2 then some (MO.tbl qPR) else if T3 = T3 then some (MO.tbl qRi4) else none) = _; rw [if_neg n20, if_neg n21, if_pos rfl], fun _ => rfl⟩, fun v d H' M' x w' r e => ?_⟩
  · rcases hS with h1 | h1
    · refine .rol h1 ⟨?_, id⟩ (Reps.ofInts ns)
      show (if a = T1 then some (MO.tbl qCR) else if a = T2 then some (MO.tbl qPR) else if a = T3 then some (MO.tbl qRi4) else none) = none
      rw [if_neg (ne m0 h1), if_neg (ne m1 h1), if_neg (ne m2 h1)]
    · exact .rolK h1 (Reps.ofInts ns)
  · have e : (if b = T1 then some (MO.tbl qCR) else if b = T2 then some (MO.tbl qPR) else if b = T3 then some (MO.tbl qRi4) else none) = some o := e
    by_cases h0 : b = T1
    · rw [if_pos h0] at e
      cases e; rw [h0]; exact rm _ m0
    by_cases h1 : b = T2
    · rw [if_neg h0, if_pos h1] at e
      cases e; rw [h1]; exact rm _ m1
    by_cases h2 : b = T3
    · rw [if_neg h0, if_neg h1, if_pos h2] at e
      cases e; rw [h2]; exact rm _ m2
    rw [if_neg h0, if_neg h1, if_neg h2] at e; cases e
  · subst e; cases r; rfl
theorem facts {f : Addr} (X : K.In h) (G : h.Ns mainGlobals mg) (hfa : mg ("law" : Str) = some (.ref f)) (c : Says spec w K) (hf : (P.main.file == "/claim/cut.py") = true) (hs : (P.main.scope.names.lookup ("super" : Str)).isSome = false) :
    ∃ (fd : FuncData) (T1 T2 T3 : Addr) (cs : List (Addr × Addr)), (∀ (s : Shared) (v : Value), BindsTo s fd ⟨[v], []⟩ [("_law_script", v)]) ∧ (∀ p ∈ cs, K.lookup p.2 = none ∧ ∃ y ∈ tbsA, PySem.W.tabIn K y = some p) ∧ (T1 ∈ cs.map (·.2) ∧ T2 ∈ cs.map (·.2) ∧ T3 ∈ cs.map (·.2)) ∧ T2 ≠ T1 ∧ T3 ≠ T1 ∧ T3 ≠ T2 ∧ ∀ base : Heap, K.In base → base.Ns mainGlobals mg → (∀ p ∈ cs, LamX.TabB base mg p.1 p.2) → FnG P w K mg base 127 f fd ["_law_script"] (spD K 1 (cLaw T1 T2 T3)) := by
  obtain ⟨fd, L⟩ := c.dd 44 (d := gl "law" s_law) rfl
  have e := hfa.symm.trans (glo_ok X G (c.fa (f := .glo "law") (mem_glo (by decide +kernel))))
  cases e
  have b := FunD.bindsA (ps := ["_law_script"]) L fun _ _ _ _ _ _ us hl => match us, hl with | [_], _ => rfl
  obtain ⟨fi, DI⟩ := c.dd 0 rfl
  obtain ⟨p0, t0, l0⟩ := c.tbs (x := "_law_copies_right") (by decide +kernel)
  have g0 := glo_ok X G (c.fa (f := .glo "_law_copies_right") (mem_co 21 rfl))
  have d0 := mkDc X G c 41 (x := "_law_copies_right") (st := s__law_copies_right) rfl g0 t0
  obtain ⟨p1, t1, l1⟩ := c.tbs (x := "_law_puts_right") (by decide +kernel)
  have g1 := glo_ok X G (c.fa (f := .glo "_law_puts_right") (mem_co 22 rfl))
  have d1 := mkDc X G c 42 (x := "_law_puts_right") (st := s__law_puts_right) rfl g1 t1
  obtain ⟨p2, t2, l2⟩ := c.tbs (x := "_law_right") (by decide +kernel)
  have g2 := glo_ok X G (c.fa (f := .glo "_law_right") (mem_co 23 rfl))
  have d2 := mkDc X G c 43 (x := "_law_right") (st := s__law_right) rfl g2 t2
  have n10 : p1.2 ≠ p0.2 := fun z => c.tds (x := "_law_copies_right") (y := "_law_puts_right") (by decide +kernel) (by rw [t0, t1]; exact congrArg some z.symm)
  have n20 : p2.2 ≠ p0.2 := fun z => c.tds (x := "_law_copies_right") (y := "_law_right") (by decide +kernel) (by rw [t0, t2]; exact congrArg some z.symm)
  have n21 : p2.2 ≠ p1.2 := fun z => c.tds (x := "_law_puts_right") (y := "_law_right") (by decide +kernel) (by rw [t1, t2]; exact congrArg some z.symm)
  refine ⟨fd, p0.2, p1.2, p2.2, [p0, p1, p2], fun s v => b s [v] rfl, fun p hp => ?_, ⟨by simp, by simp, by simp⟩, n10, n20, n21, fun base _ _ TB => ?_⟩
  · simp only [List.mem_cons, List.not_mem_nil, or_false] at hp
    rcases hp with rfl | rfl | rfl
    · exact ⟨l0, _, by decide +kernel, t0⟩
    · exact ⟨l1, _, by decide +kernel, t1⟩
    · exact ⟨l2, _, by decide +kernel, t2⟩
  · exact chain (mkFx X G c) (mkPx X G c) ⟨_, meth_ok (c.fa (f := .meth "Plan" "copies") (mem_co 16 rfl)), ⟨c.dd 7 rfl⟩⟩ ⟨_, meth_ok (c.fa (f := .meth "Plan" "put") (mem_co 17 rfl)), ⟨c.dd 8 rfl⟩⟩ ⟨_, meth_ok (c.fa (f := .meth "Plan" "__add__") (mem_co 18 rfl)), ⟨c.dd 9 rfl⟩⟩ ⟨_, meth_ok (c.fa (f := .meth "Plan" "__mul__") (mem_co 19 rfl)), ⟨c.dd 10 rfl⟩⟩ (c.eqs (List.mem_singleton.mpr rfl)) (glo_ok X G (c.fa (f := .glo "CrowdError") (mem_glo (by decide +kernel)))) (mkEk X G c hf hs (x := "BadPlan") (by decide +kernel) (by decide +kernel)) (mkEk X G c hf hs (x := "Unknown") (by decide +kernel) (by decide +kernel)) (mkEk X G c hf hs (x := "BadMany") (by decide +kernel) (by decide +kernel)) (mkEk X G c hf hs (x := "NoName") (by decide +kernel) (by decide +kernel)) (mkEk X G c hf hs (x := "NoPlan") (by decide +kernel) (by decide +kernel)) (c.kis (x := "NoName") (y := "Plan") (b := false) (by decide +kernel)) d0 (TB p0 (by simp)) d1 (TB p1 (by simp)) d2 (TB p2 (by simp)) ⟨_, fi, DI, glo_ok X G (c.fa (f := .glo "is_integer") (mem_glo (by decide +kernel)))⟩ (fun i {x st} hd hx => mkDf X G c i hd hx) L
end
end W
open PySem PySem.W PySem.Calls PyProof.Rows
theorem PySem.Challenge.cw_greetall_k04_plans_made_of_plans_holds : PySem.Challenge.rw_greetall_k04_plans_made_of_plans.Holds := by
  w_on; o_law
  refine HandSHeadRun.head_any (r := W.R) (q := view W.R.prog [59, 60, 61, 62]) (H := W.hk) (ob := W.ob) (M := 9000) (loose := W.names0 ++ W.names1 ++ W.names2) (d := HandSHeadRun.topDef W.R.prog 62) (kwd := []) W.ob_eq
    (by kernel_rfl) (fun s => by kernel_rfl) W.run (by kernel_rfl) (by kernel_rfl) (by kernel_rfl) (by rfl) (by first | assumption | decide +kernel) (by decide +kernel) ⟨rfl, rfl, rfl, rfl, rfl, by decide +kernel⟩ ?hw ?hc
  case hw => w_witness2
  case hc =>
    refine DL.walk_ofGT (l := PySem.Challenge.rw_greetall_k04_plans_made_of_plans) (n := 63) (k := 127) (x := "_law_script") (names := W.tbsA) rfl (by decide) (by kernel_rfl) ⟨rfl, by decide, by decide⟩ (by decide +kernel) ?F
    intro w mg fa h Y G hmg0
    obtain ⟨K, KX, c⟩ := Y
    have hmg : mg ("law" : PySem.Str) = some (.ref fa) := by
      have e : (HandSHeadRun.topDef W.R.prog 62).name = ("law" : PySem.Str) := by kernel_rfl
      rw [← e]
      exact hmg0
    obtain ⟨fd, T1, T2, T3, cs, hb, ht, ⟨m0, m1, m2⟩, n10, n20, n21, hF⟩ := W.facts (P := (PySem.Challenge.rw_greetall_k04_plans_made_of_plans).prog) (w := w) KX G hmg c (by rfl) (by decide +kernel)
    exact ⟨K, fd, DL.spD K 1 (W.cLaw T1 T2 T3), cs, KX, hb, ht, fun H a ns hl hO hS => W.spLaw_okT hO m0 m1 m2 n10 n20 n21 hS, hF⟩
