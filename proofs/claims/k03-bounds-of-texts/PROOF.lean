import PyProof.Rows.All
import Wide.All
import OpenK.AllK
import Wide.FinOn
import HandS.ForMost
import HandS.ForExc
import HandS.ExcInit
import HandS.IsInst
import KE.KExcSuper
import KE.KSuper
import KE.KSuperObj
import HandS.TryOnly
import KE.KExcIs
import KE.KIsAll
import HandS.Lambda
import HandS.Defaults
import HandS.Wide
import HandS.Flow
import HandS.Zip
import HandS.StrMore
import HandS.FStr
import HandS.Conv
import HandS.More
import HandS.Property
import HandS.OwnEq
import HandS.Slots
import HandS.TupAny
import HandS.Star
import HandS.Strs
import KE.GoesMore
import HandS.Style
import HandS.RaiseMore
import HandS.HeadEnd
import HandS.SortRule
import HandS.TupSets
import PyProof.ReprLen
import HandS.Codes
import KE.KUnpackStar
import HandS.Small
import HandS.Deep
import HandS.List
import HandS.Head0
import HandS.Head1
import HandS.Head2
import HandS.HeadHook1
import HandS.HeadHook2
import HandS.HeadHook3
import KE.KNest
import HandS.SetFor
import PyProof.Rows.SortShellAny
import HandS.Iter
import KE.DataMinMax
import KE.GoesEnum
import HandS.NoneIn
import OpenK.KMeth
import KE.SortData
import HandS.EndOwn
import PyProof.StrLawsRepr
import PyProof.MaxThree
import PySem.Challenge.RW_greetall_k03_bounds_of_texts
set_option Elab.async false
set_option linter.all false
set_option maxRecDepth 100000
set_option maxHeartbeats 0
namespace XL
end XL
namespace DL
end DL
namespace HK
end HK
namespace PL
end PL
namespace W
end W
namespace XL
open PySem PySem.W PySem.Calls PyProof.Rows PySem.HandSPX
/-- what the written part says of the base class at B and its __init__ at fI, whose cell of the class stands at cl -/
structure CrTxt (P : Program) (K : Frag) (q : Str) (a : Arguments) (b : List Stmt) (sc : Scope) (B fI cl : Addr) : Prop where
  fn : ∃ (oc : Value) (od : Option Addr) (doc pm : Value) (an : Option Addr) (cc : Addr) (ct : Value) (osl : Array (Option Value)) (occ : Obj) (vs : Array Value) (file : Str) (tf : Tok),
    K.lookup fI = some ⟨oc, od, .func (ksFn "__init__" q a b sc .none .none doc pm an (.ref cc) ct cl), osl⟩ ∧ codeIn K (.ref cc) q = true ∧ K.lookup cc = some occ ∧ occ.data = .fields vs ∧ vs[2]? = some (.str file tf) ∧ (P.main.file == file) = true
  cell : ∃ o, K.lookup cl = some o ∧ o.data = .cell (some (.ref B))
  bcls : ∃ o cd, K.lookup B = some o ∧ o.data = .cls cd
  typ : typeIn K (.ref fI) = some (.type "function")
  sup : (P.main.scope.names.lookup ("super" : Str)).isSome = false
  nsS : nsIn K cStatics "thirdparty.any" = some none
/-- what it says of one of the errors, at C -/
structure ErTxt (K : Frag) (mg : Str → Option Value) (x : Str) (C B fI : Addr) : Prop where
  gC : mg x = some (.ref C)
  cls : ∃ nm q N bs bm sn sub ab col dd k0 k1 k2 k3 k5, K.lookup C = some (excClassObj nm q C N bs bm true sn sub ab col dd k0 k1 k2 k3 k5 "ValueError.__new__") ∧ refsVE bm = true
  ini : excInitIn K C [.type "ValueError", .type "Exception", .type "BaseException", .type "object"] "ValueError.__new__" = true
  sa : findIn K (.ref C) "__setattr__" = some (some (.builtin "object.__setattr__"))
  ga : findIn K (.ref C) "__getattribute__" = some (some (.builtin "BaseException.__getattribute__"))
  gg : findIn K (.ref C) "__getattr__" = some none
  noV : findIn K (.ref C) "value" = some none
  iC : findIn K (.ref C) "__init__" = some (some (.ref fI))
  kC : keepIn K (.ref C) = true
  exC : subIn K (.ref C) (.type "BaseException") = some true
  veC : subIn K (.ref C) (.type "ValueError") = some true
  sB : subIn K (.ref C) (.ref B) = some true
  tyC : typeIn K (.ref C) = some (.type "type")
  hdC : hasDictIn K C = true
  sup : ks_superIn K C B "__init__" = some (some (.builtin "ValueError.__init__"))
end XL
namespace XL
open PySem PySem.W PySem.Calls PyProof.Rows PySem.HandSPX L2
theorem Mod.keeps {K : Frag} {mg : Str → Option Value} {h h' : Heap} (M : L2.Mod K mg h) (k : ∀ b o, h.get? b = some o → h'.get? b = some o) : L2.Mod K mg h' := by
  obtain ⟨mb, nb, hmb⟩ := M.blt
  exact ⟨M.kin.keeps k, M.glob.keeps k, ⟨mb, nb.keeps k, hmb⟩, M.nolimit.keeps k⟩
end XL
namespace XL
open PySem PySem.W PySem.Calls PyProof.Rows PySem.HandSPX L2
/-- an error object: its class, its own dict -/
def XV (a : Addr) (cls : Value) (d : Option Addr) : HO := .ext fun h => ∃ oe vs, h.get? a = some oe ∧ Zc cls d oe ∧ oe.data = .fields vs
end XL
namespace XL
open PySem PySem.W PySem.Calls PyProof.Rows PySem.HandSPX L2
/-- what isinstance and a field ask of the class at C -/
structure ErV (K : Frag) (C : Addr) : Prop where
  cl : (clsIn K C).isSome = true
  ga : findIn K (.ref C) "__getattribute__" = some (some (.builtin "BaseException.__getattribute__"))
  gg : findIn K (.ref C) "__getattr__" = some none
  exC : subIn K (.ref C) (.type "BaseException") = some true
  hdC : hasDictIn K C = true
  noV : findIn K (.ref C) "value" = some none
  ha : findIn K (.ref C) "__class__" = some (some (.builtin "object.__class__"))
  hn : specialIn K (.builtin "object.__class__") "__get__" = some (some (.builtin "getset_descriptor.__get__"))
  ht : takesIn K (.builtin "object.__class__") = some true
  hm : mroIn K C (.type "object") = some true
end XL
namespace XL
open PySem PySem.W PySem.Calls PyProof.Rows PySem.HandSPX L2 LamX
/-- a lambda at f, its code object at c' -/
def LamO (f : Addr) (q : Str) (params : Arguments) (body : Expr) (scope : Scope) (cells : List (Str × Addr)) (c' : Addr) : HO := .ext fun h => ∃ pm ctv, h.get? f = some (W.kla_obj "<lambda>" q params body scope cells pm c' ctv)
end XL
namespace DL
open PySem L2
/-- a value as data: immutable things by what they hold, mutable ones by their address -/
inductive D where
  | non | bl (b : Bool) | int (i : Int) | str (x : Str)
  | lst (xs : List D) | rol (xs : List D) | tup (xs : List D)
  | dK (kvs : List (Key × D)) | dT (kvs : List (List Key × D))
  | ins (C : Addr) (fs : List (Str × D))
  | ty (n : String) | fn (a : Addr) | ob (a : Addr)
  | key (ks : List Key)
  | fig (C : Addr) (ns : List Int)
  | exc (C : Addr) (fs : List (Str × D))
  | lam (q : Str) (params : Arguments) (body : Expr) (scope : Scope) (cells : List (Str × Addr))
  | fdK (kvs : List (Key × D))
  | slo (C : Addr) (os : List (Option D))
/-- a mutable object's content -/
inductive MO where
  | lst (xs : List D) | dK (kvs : List (Key × D)) | dT (kvs : List (List Key × D)) | ins (C : Addr) (fs : List (Str × D)) | tbl (q : Str) | fdK (kvs : List (Key × D)) | slo (C : Addr) (os : List (Option D))
abbrev Mp := Addr → Option MO
abbrev Rho := List (Option D)
/-- addresses that stand hidden: nothing that the code reads leads there -/
abbrev Zn := Addr → Prop
/-- neither mutable nor hidden -/
def Im (M : Mp) (Z : Zn) (a : Addr) : Prop := M a = none ∧ ¬ Z a
/-- a list, a tuple of the written part -/
def WrL (K : PySem.W.Frag) (a : Addr) (xs : List V) : Prop := ∃ (o : Obj) (its : Array Value) (n : Nat), K.lookup a = some o ∧ o.cls = .type "list" ∧ o.dict = none ∧ o.data = .seq its n ∧ its.size ≤ sizeLine ∧ Vals xs its.toList
def WrT (K : PySem.W.Frag) (a : Addr) (xs : List V) : Prop := ∃ (o : Obj) (its : Array Value) (n : Nat), K.lookup a = some o ∧ o.cls = .type "tuple" ∧ o.data = .seq its n ∧ its.size ≤ sizeLine ∧ Vals xs its.toList
mutual
/-- the value v stands for the data d -/
inductive Rep (K : PySem.W.Frag) (M : Mp) (Z : Zn) (H : Hp) : V → D → Prop where
  | non : Rep K M Z H .non .non
  | bl (b : Bool) : Rep K M Z H (.bl b) (.bl b)
  | int (i : Int) : Rep K M Z H (.int i) (.int i)
  | str (x : Str) : Rep K M Z H (.str x) (.str x)
  | ty (n : String) : Rep K M Z H (.ty n) (.ty n)
  | fn (a : Addr) : Rep K M Z H (.ref a) (.fn a)
  | ob (a : Addr) : Rep K M Z H (.ref a) (.ob a)
  | lst {a : Addr} {vs : List V} {ds : List D} (h : H a = some (.lst vs)) (m : Im M Z a) (r : Reps K M Z H vs ds) : Rep K M Z H (.ref a) (.lst ds)
  | rol {a : Addr} {vs : List V} {ds : List D} (h : Rd H a (.lst vs)) (m : Im M Z a) (r : Reps K M Z H vs ds) : Rep K M Z H (.ref a) (.rol ds)
  | rolK {a : Addr} {vs : List V} {ds : List D} (h : WrL K a vs) (r : Reps K M Z H vs ds) : Rep K M Z H (.ref a) (.rol ds)
  | tup {a : Addr} {vs : List V} {ds : List D} (h : Rd H a (.tup vs)) (m : Im M Z a) (r : Reps K M Z H vs ds) : Rep K M Z H (.ref a) (.tup ds)
  | tupK {a : Addr} {vs : List V} {ds : List D} (h : WrT K a vs) (r : Reps K M Z H vs ds) : Rep K M Z H (.ref a) (.tup ds)
  | dK {a : Addr} {vs : List (Key × V)} {ds : List (Key × D)} (h : H a = some (.dK vs)) (m : Im M Z a) (r : RepK K M Z H vs ds) : Rep K M Z H (.ref a) (.dK ds)
  | dT {a : Addr} {vs : List (List Key × V)} {ds : List (List Key × D)} (h : H a = some (.dT vs)) (m : Im M Z a) (r : RepT K M Z H vs ds) : Rep K M Z H (.ref a) (.dT ds)
  | ins {a C dx : Addr} {vs : List (Str × V)} {ds : List (Str × D)} (h : H a = some (.ins C dx vs)) (m : Im M Z a) (r : RepF K M Z H vs ds) : Rep K M Z H (.ref a) (.ins C ds)
  | key {a : Addr} {ks : List Key} (h : H a = some (.tup (ks.map kV))) (m : Im M Z a) : Rep K M Z H (.ref a) (.key ks)
  | fig {a C dx : Addr} {ns : List Int} (h : H a = some (SlX.SlO a C dx (ns.map fun i => some (V.int i)))) (hd : H dx = some (.xd [])) (m : Im M Z a) (md : Im M Z dx) : Rep K M Z H (.ref a) (.fig C ns)
  | exc {a C dd : Addr} {vs : List (Str × V)} {ds : List (Str × D)} (h : H a = some (XL.XV a (.ref C) (some dd))) (hd : H dd = some (.xd vs)) (m : Im M Z a) (md : Im M Z dd) (r : RepF K M Z H vs ds) : Rep K M Z H (.ref a) (.exc C ds)
  | lam {a c : Addr} {q : Str} {ps : Arguments} {b : Expr} {sc : Scope} {cl : List (Str × Addr)} (h : H a = some (XL.LamO a q ps b sc cl c)) (hc : H c = some (LamX.CodeO c q)) (m : Im M Z a) (mc : Im M Z c) : Rep K M Z H (.ref a) (.lam q ps b sc cl)
  | fdK {a : Addr} {o : Obj} {vs : List (Key × V)} {ds : List (Key × D)} (h : H a = some (.frz o (.dK vs))) (m : Im M Z a) (r : RepK K M Z H vs ds) : Rep K M Z H (.ref a) (.fdK ds)
  | slo {a C dx : Addr} {vs : List (Option V)} {os : List (Option D)} (h : H a = some (SlX.SlO a C dx vs)) (hd : H dx = some (.xd [])) (m : Im M Z a) (md : Im M Z dx) (r : RepO K M Z H vs os) : Rep K M Z H (.ref a) (.slo C os)
inductive RepO (K : PySem.W.Frag) (M : Mp) (Z : Zn) (H : Hp) : List (Option V) → List (Option D) → Prop where
  | nil : RepO K M Z H [] []
  | val {v : V} {d : D} {vs : List (Option V)} {os : List (Option D)} (r : Rep K M Z H v d) (t : RepO K M Z H vs os) : RepO K M Z H (some v :: vs) (some d :: os)
  | any {o : Option V} {vs : List (Option V)} {os : List (Option D)} (t : RepO K M Z H vs os) : RepO K M Z H (o :: vs) (none :: os)
inductive Reps (K : PySem.W.Frag) (M : Mp) (Z : Zn) (H : Hp) : List V → List D → Prop where
  | nil : Reps K M Z H [] []
  | cons {v : V} {d : D} {vs : List V} {ds : List D} (r : Rep K M Z H v d) (t : Reps K M Z H vs ds) : Reps K M Z H (v :: vs) (d :: ds)
inductive RepK (K : PySem.W.Frag) (M : Mp) (Z : Zn) (H : Hp) : List (Key × V) → List (Key × D) → Prop where
  | nil : RepK K M Z H [] []
  | cons {k : Key} {v : V} {d : D} {vs : List (Key × V)} {ds : List (Key × D)} (r : Rep K M Z H v d) (t : RepK K M Z H vs ds) : RepK K M Z H ((k, v) :: vs) ((k, d) :: ds)
inductive RepT (K : PySem.W.Frag) (M : Mp) (Z : Zn) (H : Hp) : List (List Key × V) → List (List Key × D) → Prop where
  | nil : RepT K M Z H [] []
  | cons {k : List Key} {v : V} {d : D} {vs : List (List Key × V)} {ds : List (List Key × D)} (r : Rep K M Z H v d) (t : RepT K M Z H vs ds) : RepT K M Z H ((k, v) :: vs) ((k, d) :: ds)
inductive RepF (K : PySem.W.Frag) (M : Mp) (Z : Zn) (H : Hp) : List (Str × V) → List (Str × D) → Prop where
  | nil : RepF K M Z H [] []
  | cons {k : Str} {v : V} {d : D} {vs : List (Str × V)} {ds : List (Str × D)} (r : Rep K M Z H v d) (t : RepF K M Z H vs ds) : RepF K M Z H ((k, v) :: vs) ((k, d) :: ds)
end
/-- what is immutable stays, what is hidden stays -/
def Ext (M : Mp) (Z : Zn) (H : Hp) (M' : Mp) (H' : Hp) : Prop := (∀ b o, H b = some o → Im M Z b → H' b = some o ∧ Im M' Z b) ∧ ∀ b, Z b → H' b = H b ∧ M' b = M b
theorem Ext.refl {M : Mp} {Z : Zn} {H : Hp} : Ext M Z H M H := ⟨fun _ _ h m => ⟨h, m⟩, fun _ _ => ⟨rfl, rfl⟩⟩
theorem Ext.trans {M M1 M2 : Mp} {Z : Zn} {H H1 H2 : Hp} (a : Ext M Z H M1 H1) (b : Ext M1 Z H1 M2 H2) : Ext M Z H M2 H2 := ⟨fun c o h m =>
  b.1 c o (a.1 c o h m).1 (a.1 c o h m).2, fun c z => ⟨(b.2 c z).1.trans (a.2 c z).1, (b.2 c z).2.trans (a.2 c z).2⟩⟩
theorem Ext.rd {M M' : Mp} {Z : Zn} {H H' : Hp} {a : Addr} {u : HO} (e : Ext M Z H M' H') (h : Rd H a u) (m : Im M Z a) : Rd H' a u := by
  rcases h with h | ⟨o, h⟩
  · exact .inl (e.1 _ _ h m).1
  · exact .inr ⟨o, (e.1 _ _ h m).1⟩
theorem Ext.md {M M' : Mp} {Z : Zn} {H H' : Hp} {a : Addr} {u : HO} (e : Ext M Z H M' H') (h : Rd H a u) (m : Im M Z a) : Im M' Z a := by
  rcases h with h | ⟨o, h⟩
  · exact (e.1 _ _ h m).2
  · exact (e.1 _ _ h m).2
/-- .. among other hidden ones -/
def ExI (M : Mp) (Z : Zn) (H : Hp) (M' : Mp) (Z' : Zn) (H' : Hp) : Prop := ∀ b o, H b = some o → Im M Z b → H' b = some o ∧ Im M' Z' b
theorem Ext.i {M M' : Mp} {Z : Zn} {H H' : Hp} (e : Ext M Z H M' H') : ExI M Z H M' Z H' := e.1
theorem ExI.refl {M : Mp} {Z : Zn} {H : Hp} : ExI M Z H M Z H := fun _ _ h m => ⟨h, m⟩
theorem ExI.trans {M M1 M2 : Mp} {Z Z1 Z2 : Zn} {H H1 H2 : Hp} (a : ExI M Z H M1 Z1 H1) (b : ExI M1 Z1 H1 M2 Z2 H2) : ExI M Z H M2 Z2 H2 := fun c o h m => b c o (a c o h m).1 (a c o h m).2
theorem ExI.rd {M M' : Mp} {Z Z' : Zn} {H H' : Hp} {a : Addr} {u : HO} (e : ExI M Z H M' Z' H') (h : Rd H a u) (m : Im M Z a) : Rd H' a u := by
  rcases h with h | ⟨o, h⟩
  · exact .inl (e _ _ h m).1
  · exact .inr ⟨o, (e _ _ h m).1⟩
theorem ExI.md {M M' : Mp} {Z Z' : Zn} {H H' : Hp} {a : Addr} {u : HO} (e : ExI M Z H M' Z' H') (h : Rd H a u) (m : Im M Z a) : Im M' Z' a := by
  rcases h with h | ⟨o, h⟩
  · exact (e _ _ h m).2
  · exact (e _ _ h m).2
section
variable {K : PySem.W.Frag} {M M' : Mp} {Z Z' : Zn} {H H' : Hp}
mutual
theorem Rep.monoI (e : ExI M Z H M' Z' H') : ∀ {v : V} {d : D}, Rep K M Z H v d → Rep K M' Z' H' v d
  | _, _, .non => .non
  | _, _, .bl b => .bl b
  | _, _, .int i => .int i
  | _, _, .str x => .str x
  | _, _, .ty n => .ty n
  | _, _, .fn a => .fn a
  | _, _, .ob a => .ob a
  | _, _, .lst h m r => .lst (e _ _ h m).1 (e _ _ h m).2 (Reps.monoI e r)
  | _, _, .rol h m r => .rol (e.rd h m) (e.md h m) (Reps.monoI e r)
  | _, _, .rolK h r => .rolK h (Reps.monoI e r)
  | _, _, .tup h m r => .tup (e.rd h m) (e.md h m) (Reps.monoI e r)
  | _, _, .tupK h r => .tupK h (Reps.monoI e r)
  | _, _, .dK h m r => .dK (e _ _ h m).1 (e _ _ h m).2 (RepK.monoI e r)
  | _, _, .dT h m r => .dT (e _ _ h m).1 (e _ _ h m).2 (RepT.monoI e r)
  | _, _, .ins h m r => .ins (e _ _ h m).1 (e _ _ h m).2 (RepF.monoI e r)
  | _, _, .key h m => .key (e _ _ h m).1 (e _ _ h m).2
  | _, _, .fig h hd m md => .fig (e _ _ h m).1 (e _ _ hd md).1 (e _ _ h m).2 (e _ _ hd md).2
  | _, _, .exc h hd m md r => .exc (e _ _ h m).1 (e _ _ hd md).1 (e _ _ h m).2 (e _ _ hd md).2 (RepF.monoI e r)
  | _, _, .lam h hc m mc => .lam (e _ _ h m).1 (e _ _ hc mc).1 (e _ _ h m).2 (e _ _ hc mc).2
  | _, _, .fdK h m r => .fdK (e _ _ h m).1 (e _ _ h m).2 (RepK.monoI e r)
  | _, _, .slo h hd m md r => .slo (e _ _ h m).1 (e _ _ hd md).1 (e _ _ h m).2 (e _ _ hd md).2 (RepO.monoI e r)
theorem RepO.monoI (e : ExI M Z H M' Z' H') : ∀ {v : List (Option V)} {d : List (Option D)}, RepO K M Z H v d → RepO K M' Z' H' v d
  | _, _, .nil => .nil
  | _, _, .val r t => .val (Rep.monoI e r) (RepO.monoI e t)
  | _, _, .any t => .any (RepO.monoI e t)
theorem Reps.monoI (e : ExI M Z H M' Z' H') : ∀ {v : List V} {d : List D}, Reps K M Z H v d → Reps K M' Z' H' v d
  | _, _, .nil => .nil
  | _, _, .cons r t => .cons (Rep.monoI e r) (Reps.monoI e t)
theorem RepK.monoI (e : ExI M Z H M' Z' H') : ∀ {v : List (Key × V)} {d : List (Key × D)}, RepK K M Z H v d → RepK K M' Z' H' v d
  | _, _, .nil => .nil
  | _, _, .cons r t => .cons (Rep.monoI e r) (RepK.monoI e t)
theorem RepT.monoI (e : ExI M Z H M' Z' H') : ∀ {v : List (List Key × V)} {d : List (List Key × D)}, RepT K M Z H v d → RepT K M' Z' H' v d
  | _, _, .nil => .nil
  | _, _, .cons r t => .cons (Rep.monoI e r) (RepT.monoI e t)
theorem RepF.monoI (e : ExI M Z H M' Z' H') : ∀ {v : List (Str × V)} {d : List (Str × D)}, RepF K M Z H v d → RepF K M' Z' H' v d
  | _, _, .nil => .nil
  | _, _, .cons r t => .cons (Rep.monoI e r) (RepF.monoI e t)
end
end
theorem Reps.length {K : PySem.W.Frag} {M : Mp} {Z : Zn} {H : Hp} : ∀ {vs : List V} {ds : List D}, Reps K M Z H vs ds → vs.length = ds.length
  | _, _, .nil => rfl
  | _, _, .cons _ t => by rw [List.length_cons, List.length_cons, t.length]
theorem Reps.get {K : PySem.W.Frag} {M : Mp} {Z : Zn} {H : Hp} : ∀ {vs : List V} {ds : List D} {i : Nat} {d : D}, Reps K M Z H vs ds → ds[i]? = some d → ∃ v, vs[i]? = some v ∧ Rep K M Z H v d
  | _, _, _, _, .nil, e => by simp at e
  | _, _, 0, _, .cons r _, e => by simp at e; subst e; exact ⟨_, rfl, r⟩
  | _, _, i + 1, d, .cons _ t, e => by
    obtain ⟨u, h1, h2⟩ := Reps.get (i := i) (d := d) t (by simpa using e)
    exact ⟨u, by simpa using h1, h2⟩
theorem Reps.drop {K : PySem.W.Frag} {M : Mp} {Z : Zn} {H : Hp} : ∀ {vs : List V} {ds : List D} (n : Nat), Reps K M Z H vs ds → Reps K M Z H (vs.drop n) (ds.drop n)
  | _, _, 0, r => r
  | _, _, _ + 1, .nil => .nil
  | _, _, n + 1, .cons _ t => Reps.drop n t
theorem Reps.take {K : PySem.W.Frag} {M : Mp} {Z : Zn} {H : Hp} : ∀ {vs : List V} {ds : List D} (n : Nat), Reps K M Z H vs ds → Reps K M Z H (vs.take n) (ds.take n)
  | _, _, 0, _ => .nil
  | _, _, _ + 1, .nil => .nil
  | _, _, n + 1, .cons r t => .cons r (Reps.take n t)
theorem Reps.ofStrs {K : PySem.W.Frag} {M : Mp} {Z : Zn} {H : Hp} : ∀ (ns : List Str), Reps K M Z H (ns.map V.str) (ns.map D.str)
  | [] => .nil
  | _ :: r => .cons (.str _) (Reps.ofStrs r)
/-- a mutable object is held -/
def RepM (K : PySem.W.Frag) (M : Mp) (Z : Zn) (H : Hp) (a : Addr) : MO → Prop
  | .lst ds => ∃ vs, H a = some (.lst vs) ∧ Reps K M Z H vs ds
  | .dK ds => ∃ vs, H a = some (.dK vs) ∧ RepK K M Z H vs ds
  | .dT ds => ∃ vs, H a = some (.dT vs) ∧ RepT K M Z H vs ds
  | .ins C ds => ∃ dx vs, H a = some (.ins C dx vs) ∧ RepF K M Z H vs ds
  | .fdK ds => ∃ o vs, H a = some (.frz o (.dK vs)) ∧ RepK K M Z H vs ds
  | .slo C os => ∃ dx vs, H a = some (SlX.SlO a C dx vs) ∧ H dx = some (.xd []) ∧ Im M Z dx ∧ RepO K M Z H vs os
  | .tbl q => ∃ ps, H a = some (.tbl ps) ∧ TriplesOk ps.toList ∧ ∀ (pos : Pos) (cv : Value), codeAmong pos ps.toList = some cv → ∃ c, cv = .ref c ∧ H c = some (LamX.CodeO c q) ∧ Im M Z c
/-- the mutable objects are held, the hidden ones stand -/
def Wd (K : PySem.W.Frag) (M : Mp) (Z : Zn) (H : Hp) : Prop := (∀ a o, M a = some o → RepM K M Z H a o) ∧ ∀ a, Z a → M a = none ∧ ∃ u, H a = some u
theorem RepM.there {K : PySem.W.Frag} {M : Mp} {Z : Zn} {H : Hp} {a : Addr} {o : MO} (h : RepM K M Z H a o) : ∃ u, H a = some u := by
  cases o with
  | lst ds => obtain ⟨vs, e, _⟩ := h; exact ⟨_, e⟩
  | dK ds => obtain ⟨vs, e, _⟩ := h; exact ⟨_, e⟩
  | dT ds => obtain ⟨vs, e, _⟩ := h; exact ⟨_, e⟩
  | ins C ds => obtain ⟨dx, vs, e, _⟩ := h; exact ⟨_, e⟩
  | tbl q => obtain ⟨ps, e, _⟩ := h; exact ⟨_, e⟩
  | fdK ds => obtain ⟨o, vs, e, _⟩ := h; exact ⟨_, e⟩
  | slo C os => obtain ⟨dx, vs, e, _⟩ := h; exact ⟨_, e⟩
theorem RepM.stepI {K : PySem.W.Frag} {M M' : Mp} {Z Z' : Zn} {H H' : Hp} {a : Addr} {o : MO} (h : RepM K M Z H a o) (e : ExI M Z H M' Z' H') (k : H' a = H a) : RepM K M' Z' H' a o := by
  cases o with
  | lst ds => obtain ⟨vs, q, r⟩ := h; exact ⟨vs, k.trans q, r.monoI e⟩
  | dK ds => obtain ⟨vs, q, r⟩ := h; exact ⟨vs, k.trans q, r.monoI e⟩
  | dT ds => obtain ⟨vs, q, r⟩ := h; exact ⟨vs, k.trans q, r.monoI e⟩
  | ins C ds => obtain ⟨dx, vs, q, r⟩ := h; exact ⟨dx, vs, k.trans q, r.monoI e⟩
  | fdK ds => obtain ⟨o, vs, q, r⟩ := h; exact ⟨o, vs, k.trans q, r.monoI e⟩
  | slo C os => obtain ⟨dx, vs, q, hd, md, r⟩ := h; exact ⟨dx, vs, k.trans q, (e _ _ hd md).1, (e _ _ hd md).2, r.monoI e⟩
  | tbl q => obtain ⟨ps, y, ht, ha⟩ := h; exact ⟨ps, k.trans y, ht, fun pos cv z => let ⟨c, e1, e2, e3⟩ := ha pos cv z; ⟨c, e1, (e c _ e2 e3).1, (e c _ e2 e3).2⟩⟩
theorem RepM.step {K : PySem.W.Frag} {M M' : Mp} {Z : Zn} {H H' : Hp} {a : Addr} {o : MO} (h : RepM K M Z H a o) (e : Ext M Z H M' H') (k : H' a = H a) : RepM K M' Z H' a o := h.stepI e.i k
/-- the slots -/
inductive EnvR (K : PySem.W.Frag) (M : Mp) (Z : Zn) (H : Hp) : St → Rho → Prop where
  | nil : EnvR K M Z H [] []
  | val {v : V} {d : D} {σ : St} {ρ : Rho} (r : Rep K M Z H v d) (t : EnvR K M Z H σ ρ) : EnvR K M Z H (some v :: σ) (some d :: ρ)
  | any {o : Option V} {σ : St} {ρ : Rho} (t : EnvR K M Z H σ ρ) : EnvR K M Z H (o :: σ) (none :: ρ)
theorem EnvR.monoI {K : PySem.W.Frag} {M M' : Mp} {Z Z' : Zn} {H H' : Hp} (e : ExI M Z H M' Z' H') : ∀ {σ : St} {ρ : Rho}, EnvR K M Z H σ ρ → EnvR K M' Z' H' σ ρ
  | _, _, .nil => .nil
  | _, _, .val r t => .val (r.monoI e) (EnvR.monoI e t)
  | _, _, .any t => .any (EnvR.monoI e t)
theorem EnvR.get {K : PySem.W.Frag} {M : Mp} {Z : Zn} {H : Hp} : ∀ {σ : St} {ρ : Rho} {i : Nat} {d : D}, EnvR K M Z H σ ρ → ρ[i]? = some (some d) → ∃ v, σ[i]? = some (some v) ∧ Rep K M Z H v d
  | _, _, _, _, .nil, e => by simp at e
  | _, _, 0, _, .val r _, e => by simp at e; subst e; exact ⟨_, rfl, r⟩
  | _, _, 0, _, .any _, e => by simp at e
  | _, _, i + 1, d, .val _ t, e => EnvR.get (i := i) t (by simpa using e)
  | _, _, i + 1, d, .any t, e => EnvR.get (i := i) t (by simpa using e)
theorem EnvR.set {K : PySem.W.Frag} {M : Mp} {Z : Zn} {H : Hp} {v : V} {d : D} (r : Rep K M Z H v d) : ∀ {σ : St} {ρ : Rho} (i : Nat), EnvR K M Z H σ ρ → EnvR K M Z H (σ.set i (.some v)) (ρ.set i (.some d))
  | _, _, _, .nil => .nil
  | _, _, 0, .val _ t => .val r t
  | _, _, 0, .any t => .val r t
  | _, _, i + 1, .val q t => .val q (EnvR.set r i t)
  | _, _, i + 1, .any t => .any (EnvR.set r i t)
theorem EnvR.empty {K : PySem.W.Frag} {M : Mp} {Z : Zn} {H : Hp} : ∀ (n : Nat), EnvR K M Z H (List.replicate n .none) (List.replicate n .none)
  | 0 => .nil
  | n + 1 => .any (EnvR.empty n)
end DL
namespace DL
open PySem L2
def KE (K : PySem.W.Frag) (M : Mp) (Z : Zn) (H : Hp) (Φ : D → Mp → Prop) (Q : VK) : Prop := ∀ v d H' M', Ext M Z H M' H' → Wd K M' Z H' → Rep K M' Z H' v d → Φ d M' → Q v H'
def KT (K : PySem.W.Frag) (M : Mp) (Z : Zn) (H : Hp) (Φ : Bool → Mp → Prop) (Q : Bool → Hp → Prop) : Prop := ∀ b H' M', Ext M Z H M' H' → Wd K M' Z H' → Φ b M' → Q b H'
def KA (K : PySem.W.Frag) (M : Mp) (Z : Zn) (H : Hp) (Φ : List D → Mp → Prop) (Q : List V → Hp → Prop) : Prop := ∀ vs ds H' M', Ext M Z H M' H' → Wd K M' Z H' → Reps K M' Z H' vs ds → Φ ds M' → Q vs H'
def KG (K : PySem.W.Frag) (M : Mp) (Z : Zn) (H : Hp) (Φ : Rho → Mp → Prop) (Q : L2.St → Hp → Prop) : Prop := ∀ σ' ρ' H' M', Ext M Z H M' H' → Wd K M' Z H' → EnvR K M' Z H' σ' ρ' → Φ ρ' M' → Q σ' H'
/-- what is wanted behind a statement -/
structure DE where
  nx : Rho → Mp → Prop
  rt : D → Mp → Prop
  bk : Rho → Mp → Prop := fun _ _ => False
  ct : Rho → Mp → Prop := fun _ _ => False
structure KS (K : PySem.W.Frag) (M : Mp) (Z : Zn) (H : Hp) (Ψ : DE) (E : Ends) : Prop where
  nx : KG K M Z H Ψ.nx E.nx
  rt : KE K M Z H Ψ.rt E.rt
  bk : KG K M Z H Ψ.bk E.bk
  ct : KG K M Z H Ψ.ct E.ct
section
variable {K : PySem.W.Frag} {M M1 : Mp} {Z : Zn} {H H1 : Hp}
theorem KE.step {Φ : D → Mp → Prop} {Q : VK} (k : KE K M Z H Φ Q) (e : Ext M Z H M1 H1) : KE K M1 Z H1 Φ Q := fun v d H' M' x w r h => k v d H' M' (e.trans x) w r h
theorem KT.step {Φ : Bool → Mp → Prop} {Q : Bool → Hp → Prop} (k : KT K M Z H Φ Q) (e : Ext M Z H M1 H1) : KT K M1 Z H1 Φ Q := fun b H' M' x w h => k b H' M' (e.trans x) w h
theorem KA.step {Φ : List D → Mp → Prop} {Q : List V → Hp → Prop} (k : KA K M Z H Φ Q) (e : Ext M Z H M1 H1) : KA K M1 Z H1 Φ Q := fun v d H' M' x w r h => k v d H' M' (e.trans x) w r h
theorem KG.step {Φ : Rho → Mp → Prop} {Q : L2.St → Hp → Prop} (k : KG K M Z H Φ Q) (e : Ext M Z H M1 H1) : KG K M1 Z H1 Φ Q := fun v d H' M' x w r h => k v d H' M' (e.trans x) w r h
theorem KS.step {Ψ : DE} {E : Ends} (k : KS K M Z H Ψ E) (e : Ext M Z H M1 H1) : KS K M1 Z H1 Ψ E := ⟨k.nx.step e, k.rt.step e, k.bk.step e, k.ct.step e⟩
end
end DL
namespace DL
open PySem PySem.Spec PyProof.Rows L2
/-- a def's contract: arguments, mutable objects, what is wanted behind -/
abbrev Con := List D → Mp → (D → Mp → Prop) → Prop
/-- M' has no more than M -/
def Les (M' M : Mp) : Prop := ∀ b, M' b = M b ∨ M' b = none
theorem Les.refl {M : Mp} : Les M M := fun _ => .inl rfl
theorem Les.x {M M' : Mp} {Z : Zn} {H : Hp} (l : Les M' M) : ExI M Z H M' Z H := fun b o q m => by
  refine ⟨q, ?_, m.2⟩
  rcases l b with e | e
  · rw [e]; exact m.1
  · exact e
theorem Les.w {K : PySem.W.Frag} {M M' : Mp} {Z : Zn} {H : Hp} (l : Les M' M) (w : Wd K M Z H) : Wd K M' Z H := by
  refine ⟨fun a o e => ?_, fun b z => ?_⟩
  · rcases l a with q | q
    · rw [q] at e; exact (w.1 a o e).stepI l.x rfl
    · rw [q] at e; cases e
  · obtain ⟨m, u⟩ := w.2 b z
    rcases l b with q | q
    · exact ⟨q.trans m, u⟩
    · exact ⟨q, u⟩
theorem Les.ext {K : PySem.W.Frag} {M M' : Mp} {Z : Zn} {H : Hp} (l : Les M' M) (w : Wd K M Z H) : Ext M Z H M' H := by
  refine ⟨l.x, fun b z => ⟨rfl, ?_⟩⟩
  have m := (w.2 b z).1
  rcases l b with q | q
  · exact q
  · rw [q, m]
/-- d, read while M stands, is d' where only M' is left -/
inductive Fz (M M' : Mp) : D → D → Prop where
  | same (d : D) : Fz M M' d d
  | lst {a : Addr} {ds : List D} : M a = some (.lst ds) → M' a = none → Fz M M' (.ob a) (.lst ds)
  | dK {a : Addr} {ds : List (Key × D)} : M a = some (.dK ds) → M' a = none → Fz M M' (.ob a) (.dK ds)
  | dT {a : Addr} {ds : List (List Key × D)} : M a = some (.dT ds) → M' a = none → Fz M M' (.ob a) (.dT ds)
  | ins {a C : Addr} {fs : List (Str × D)} : M a = some (.ins C fs) → M' a = none → Fz M M' (.ob a) (.ins C fs)
  | fdK {a : Addr} {ds : List (Key × D)} : M a = some (.fdK ds) → M' a = none → Fz M M' (.ob a) (.fdK ds)
  | slo {a C : Addr} {os : List (Option D)} : M a = some (.slo C os) → M' a = none → Fz M M' (.ob a) (.slo C os)
theorem Fz.rep {K : PySem.W.Frag} {M M' : Mp} {Z : Zn} {H : Hp} {v : V} {d d' : D} (f : Fz M M' d d') (l : Les M' M) (w : Wd K M Z H) (r : Rep K M Z H v d) : Rep K M' Z H v d' := by
  cases f with
  | same d => exact r.monoI l.x
  | lst h h' =>
    cases r
    obtain ⟨vs, e, r⟩ := w.1 _ _ h
    exact .lst e ⟨h', fun z => by have := (w.2 _ z).1; rw [h] at this; cases this⟩ (r.monoI l.x)
  | dK h h' =>
    cases r
    obtain ⟨vs, e, r⟩ := w.1 _ _ h
    exact .dK e ⟨h', fun z => by have := (w.2 _ z).1; rw [h] at this; cases this⟩ (r.monoI l.x)
  | dT h h' =>
    cases r
    obtain ⟨vs, e, r⟩ := w.1 _ _ h
    exact .dT e ⟨h', fun z => by have := (w.2 _ z).1; rw [h] at this; cases this⟩ (r.monoI l.x)
  | ins h h' =>
    cases r
    obtain ⟨dx, vs, e, r⟩ := w.1 _ _ h
    exact .ins e ⟨h', fun z => by have := (w.2 _ z).1; rw [h] at this; cases this⟩ (r.monoI l.x)
  | fdK h h' =>
    cases r
    obtain ⟨o, vs, e, r⟩ := w.1 _ _ h
    exact .fdK e ⟨h', fun z => by have := (w.2 _ z).1; rw [h] at this; cases this⟩ (r.monoI l.x)
  | slo h h' =>
    cases r
    obtain ⟨dx, vs, e, hd, md, r⟩ := w.1 _ _ h
    exact .slo e hd ⟨h', fun z => by have := (w.2 _ z).1; rw [h] at this; cases this⟩ (l.x _ _ hd md).2 (r.monoI l.x)
/-- the end, some objects let go -/
def Lets (Φ : D → Mp → Prop) : D → Mp → Prop := fun d M => ∃ d' M', Les M' M ∧ Fz M M' d d' ∧ Φ d' M'
theorem Lets.of {Φ : D → Mp → Prop} {d : D} {M : Mp} (h : Φ d M) : Lets Φ d M := ⟨d, M, Les.refl, .same d, h⟩
/-- slots, some objects let go -/
inductive FzE (M M' : Mp) : Rho → Rho → Prop where
  | nil : FzE M M' [] []
  | val {d d' : D} {ρ ρ' : Rho} : Fz M M' d d' → FzE M M' ρ ρ' → FzE M M' (some d :: ρ) (some d' :: ρ')
  | drop {o : Option D} {ρ ρ' : Rho} : FzE M M' ρ ρ' → FzE M M' (o :: ρ) (none :: ρ')
theorem FzE.refl {M M' : Mp} : ∀ (ρ : Rho), FzE M M' ρ ρ
  | [] => .nil
  | some d :: ρ => .val (.same d) (FzE.refl ρ)
  | none :: ρ => .drop (FzE.refl ρ)
section
variable {X : Cx} {ρ : Rho} {M : Mp} {Φ : D → Mp → Prop} {e o : Expr} {es : List Expr} {pos p apos : Pos} {x m : Str} {dd : List D} {k n : Nat} {c : Con}
theorem RepF.lookup {K : PySem.W.Frag} {M : Mp} {Z : Zn} {H : Hp} (f : Str) : ∀ {vs : List (Str × V)} {ds : List (Str × D)}, RepF K M Z H vs ds → (ds.lookup f = none → vs.lookup f = none) ∧ ∀ d, ds.lookup f = some d → ∃ v, vs.lookup f = some v ∧ Rep K M Z H v d
  | _, _, .nil => ⟨fun _ => rfl, fun d e => by cases e⟩
  | _, _, .cons (k := g) (v := v) (d := d) (vs := vs) (ds := ds) r t => by
    rw [List.lookup_cons, List.lookup_cons]
    cases hg : f == g with
    | true =>
      refine ⟨fun e => ?_, fun d e => ?_⟩
      · cases e
      · cases e; exact ⟨_, rfl, r⟩
    | false => exact RepF.lookup f t
theorem RepF.length {K : PySem.W.Frag} {M : Mp} {Z : Zn} {H : Hp} : ∀ {vs : List (Str × V)} {ds : List (Str × D)}, RepF K M Z H vs ds → vs.length = ds.length
  | _, _, .nil => rfl
  | _, _, .cons _ t => by rw [List.length_cons, List.length_cons, t.length]
end
end DL
namespace DL
open PySem PySem.Spec PyProof.Rows L2
section
variable {X : Cx} {ρ : Rho} {M : Mp} {Φ : D → Mp → Prop} {Θ : Bool → Mp → Prop} {a b e : Expr} {pos : Pos} {K : PySem.W.Frag}
/-- the answer of == between scalars -/
def EqS : D → D → Bool → Prop
  | .int i, .int j, c => c = decide (i = j)
  | .str i, .str j, c => c = decide (i = j)
  | .bl i, .bl j, c => c = decide (i = j)
  | .non, .non, c => c = true
  | .non, .int _, c => c = false
  | .int _, .non, c => c = false
  | .non, .str _, c => c = false
  | .str _, .non, c => c = false
  | .int _, .str _, c => c = false
  | .str _, .int _, c => c = false
  | _, _, _ => False
theorem EqS.rep {x y : D} {c : Bool} {M : Mp} {Z : Zn} {H : Hp} {v u : V} (h : EqS x y c) (r1 : Rep K M Z H v x) (r2 : Rep K M Z H u y) : scal v u = true ∧ decide (v = u) = c := by
  cases r1 <;> cases r2 <;> first
    | (cases h; exact ⟨rfl, by simp⟩)
    | (exact False.elim h)
    | (cases h; exact ⟨rfl, rfl⟩)
mutual
def toPy : D → Option PyData
  | .non => some .none
  | .bl b => some (.bool b)
  | .int i => some (.int i)
  | .str x => some (.str x)
  | .lst xs => (toPys xs).map .list
  | .rol xs => (toPys xs).map .list
  | .tup xs => (toPys xs).map .tuple
  | _ => none
def toPys : List D → Option (List PyData)
  | [] => some []
  | x :: xs => (toPy x).bind fun d => (toPys xs).map fun ds => d :: ds
end
/-- the items of a slice -/
def cutD {α : Type} (xs : List α) (lo hi : Option Int) : List α := (xs.drop (HT.sIx xs.length 0 lo)).take (HT.sIx xs.length xs.length hi - HT.sIx xs.length 0 lo)
theorem Reps.cut {M : Mp} {Z : Zn} {H : Hp} {vs : List V} {ds : List D} (r : Reps K M Z H vs ds) (lo hi : Option Int) : Reps K M Z H (cutV vs lo hi) (cutD ds lo hi) := by
  unfold cutV cutD
  rw [r.length]
  exact (r.drop _).take _
end
end DL
namespace DL
open PySem PySem.Spec PyProof.Rows L2
section
variable {K : PySem.W.Frag} {M : Mp} {Z : Zn} {H : Hp}
theorem Reps.set {v : V} {d : D} (r : Rep K M Z H v d) : ∀ {vs : List V} {ds : List D} (j : Nat), Reps K M Z H vs ds → Reps K M Z H (vs.set j v) (ds.set j d)
  | _, _, _, .nil => .nil
  | _, _, 0, .cons _ t => .cons r t
  | _, _, j + 1, .cons q t => .cons q (Reps.set r j t)
theorem Reps.one {vs : List V} {d : D} (r : Reps K M Z H vs [d]) : ∃ v, vs = [v] ∧ Rep K M Z H v d := by
  cases r with
  | cons r t => cases t; exact ⟨_, rfl, r⟩
theorem Reps.two {vs : List V} {d e : D} (r : Reps K M Z H vs [d, e]) : ∃ v u, vs = [v, u] ∧ Rep K M Z H v d ∧ Rep K M Z H u e := by
  cases r with
  | cons r t =>
    obtain ⟨u, rfl, r2⟩ := t.one
    exact ⟨_, u, rfl, r, r2⟩
end
section
variable {X : Cx} {ρ : Rho} {M : Mp} {Φ : D → Mp → Prop} {Θ : Bool → Mp → Prop} {a b e o : Expr} {es : List Expr} {pos p apos : Pos} {x : Str}
/-- the class of data, as the fragment's deciders take it -/
def TyD (M : Mp) : D → Value → Prop
  | .non, t => t = .type "NoneType"
  | .bl _, t => t = .type "bool"
  | .int _, t => t = .type "int"
  | .str _, t => t = .type "str"
  | .lst _, t => t = .type "list"
  | .tup _, t => t = .type "tuple"
  | .dK _, t => t = .type "dict"
  | .dT _, t => t = .type "dict"
  | .ins C _, t => t = .ref C
  | _, _ => False
/-- what isinstance asks of an own class -/
structure OwnC (K : PySem.W.Frag) (C : Addr) : Prop where
  cl : Cls K C
  ha : PySem.W.findIn K (.ref C) "__class__" = some (some (.builtin "object.__class__"))
  hn : PySem.W.specialIn K (.builtin "object.__class__") "__get__" = some (some (.builtin "getset_descriptor.__get__"))
  htk : PySem.W.takesIn K (.builtin "object.__class__") = some true
  hm : PySem.W.mroIn K C (.type "object") = some true
theorem TyD.rep {K : PySem.W.Frag} {M : Mp} {Z : Zn} {H : Hp} {v : V} {d : D} {t : Value} (r : Rep K M Z H v d) (h : TyD M d t) (own : ∀ C, t = .ref C → OwnC K C) : TyX K H v t := by
  cases r with
  | non => cases h; exact .base .non
  | bl b => cases h; exact .base (.bl b)
  | int i => cases h; exact .base (.int i)
  | str x => cases h; exact .base (.str x)
  | lst h1 m r => cases h; exact .base (.lst h1)
  | tup h1 m r =>
    cases h
    rcases h1 with h1 | ⟨o, h1⟩
    · exact .base (.tup h1)
    · exact .fTuple h1
  | tupK h1 r =>
    cases h
    obtain ⟨o, its, n, hk, hc, _⟩ := h1
    exact .kTuple hk hc
  | dK h1 m r => cases h; exact .base (.dK h1)
  | dT h1 m r => cases h; exact .base (.dT h1)
  | ins h1 m r =>
    cases h
    obtain ⟨cl, ha, hn, htk, hm⟩ := own _ rfl
    exact .base (.ins h1 cl ha hn htk hm)
  | _ => cases h
end
end DL
namespace DL
open PySem PySem.Spec PyProof.Rows L2
/-- at a a dict of the top: these texts with these values, in this order -/
def WrD (K : PySem.W.Frag) (w : World) (a : Addr) (kvs : List (Str × V)) : Prop := ∃ es n, K.lookup a = some ⟨.type "dict", none, .dict es n, #[]⟩ ∧ (a == sysModules) = false ∧ PySem.W.KeysLit w.params es.toList ∧
  Paired (fun (p : Str × V) (e : DictEntry) => (∃ t, e.key = .str p.1 t) ∧ RelV p.2 e.val) kvs es.toList ∧ (kvs.map (·.1)).Nodup
section
variable {X : Cx} {ρ : Rho} {M : Mp} {a : Addr} {e f : Expr} {pos p apos : Pos} {x : Str} {kvs : List (Str × V)}
theorem RepF.get {K : PySem.W.Frag} {M : Mp} {Z : Zn} {H : Hp} : ∀ {vs : List (Str × V)} {ds : List (Str × D)} {i : Nat} {k : Str} {d : D}, RepF K M Z H vs ds → ds[i]? = some (k, d) → ∃ v, vs[i]? = some (k, v) ∧ Rep K M Z H v d
  | _, _, _, _, _, .nil, e => by simp at e
  | _, _, 0, _, _, .cons r _, e => by simp at e; obtain ⟨rfl, rfl⟩ := e; exact ⟨_, rfl, r⟩
  | _, _, i + 1, k, d, .cons _ t, e => by
    obtain ⟨u, h1, h2⟩ := RepF.get (i := i) (d := d) t (by simpa using e)
    exact ⟨u, by simpa using h1, h2⟩
end
end DL
namespace DL
open PySem PySem.Spec PyProof.Rows L2
/-- lists of such -/
structure CmpDs (ds : List D) (ps : List PyData) (k : Nat) : Prop where
  eq : toPys ds = some ps
  lay : PyData.canLayAll0 ps = true
  dep : PyData.depthAll ps ≤ k
theorem CmpDs.length {k : Nat} : ∀ {ds : List D} {ps : List PyData}, CmpDs ds ps k → ps.length = ds.length
  | [], ps, h => by
    have := h.eq
    simp only [toPys, Option.some.injEq] at this
    rw [← this]; rfl
  | d :: ds, ps, h => by
    have := h.eq
    simp only [toPys] at this
    obtain ⟨p, e1, e2⟩ := Option.bind_eq_some_iff.mp this
    obtain ⟨qs, e3, rfl⟩ := Option.map_eq_some_iff.mp e2
    have l := h.lay
    have dd := h.dep
    simp only [PyData.canLayAll0, Bool.and_eq_true, PyData.depthAll] at l dd
    rw [List.length_cons, List.length_cons, CmpDs.length (k := k) ⟨e3, l.2, by omega⟩]
end DL
namespace DL
open PySem PySem.Spec PyProof.Rows L2
/-- as FnOk, where nothing is being shown -/
structure FnG (P : Program) (w : World) (K : PySem.W.Frag) (mg : Str → Option Value) (base : Heap) (k : Nat) (f : Addr) (fd : FuncData) (ps : List Str) (sp : Sp) : Prop where
  len : ∀ vs H Q E, sp vs H Q E → vs.length = ps.length
  run : ∀ (A : Around) (outer : List Env) (s : Shared) (H : Hp) (args : Args) (us : List Value) (vs : List V) (Q : VK) (E : XK), A.guards = some [] → Room k A → Env0 P w K mg base A outer s H → BindsTo s fd args (ps.zip us) → Vals vs us → sp vs H Q E →
    codeAny (model P w) A (.call (.ref f) args) (CR CX0 outer P w H s Q E) s
section
variable {P : Program} {w : World} {K : PySem.W.Frag} {mg : Str → Option Value} {base : Heap} {x qual : Str} {st : Stmt} {kws : List (Str × V)} {f : Addr} {fd : FuncData} {N ps : List Str} {k n : Nat} {c : Con}
theorem FnOk.g {sp : Sp} (F : FnOk P w K mg base CX0 k f fd ps sp) : FnG P w K mg base k f fd ps sp := ⟨F.len, fun A outer s H args us vs Q E _ => F.run A outer s H args us vs Q E⟩
end
end DL
namespace DL
open PySem PySem.Spec PyProof.Rows L2
section
variable {X : Cx} {ρ : Rho} {M : Mp} {Φ : D → Mp → Prop} {Θ : Bool → Mp → Prop} {a b e o i : Expr} {es : List Expr} {pos p : Pos}
def valD (kvs : List (List Key × D)) (k : List Key) : Option D := (kvs.find? fun kv => decide (kv.1 = k)).map (·.2)
theorem RepT.length {K : PySem.W.Frag} {M : Mp} {Z : Zn} {H : Hp} : ∀ {vs : List (List Key × V)} {ds : List (List Key × D)}, RepT K M Z H vs ds → vs.length = ds.length
  | _, _, .nil => rfl
  | _, _, .cons _ t => by rw [List.length_cons, List.length_cons, RepT.length t]
theorem RepT.val {K : PySem.W.Frag} {M : Mp} {Z : Zn} {H : Hp} {k : List Key} {d : D} : ∀ {vs : List (List Key × V)} {ds : List (List Key × D)}, RepT K M Z H vs ds → valD ds k = some d → ∃ v, valV vs k = some v ∧ Rep K M Z H v d
  | _, _, .nil, h => by cases h
  | _, _, .cons (k := j) (v := v) (d := d0) (vs := vs) (ds := ds) r t, h => by
    by_cases e : j = k
    · have h2 : some d0 = some d := by rw [← h]; unfold valD; rw [List.find?_cons_of_pos (by simpa using e)]; rfl
      cases h2
      exact ⟨v, valV_pos (p := (j, v)) e, r⟩
    · have h2 : valD ds k = some d := by rw [← h]; unfold valD; rw [List.find?_cons_of_neg (by simpa using e)]
      obtain ⟨u, hu, ru⟩ := RepT.val t h2
      exact ⟨u, by rw [valV_neg (p := (j, v)) e]; exact hu, ru⟩
theorem RepT.any {K : PySem.W.Frag} {M : Mp} {Z : Zn} {H : Hp} {k : List Key} : ∀ {vs : List (List Key × V)} {ds : List (List Key × D)}, RepT K M Z H vs ds → (vs.any fun kv => decide (kv.1 = k)) = ds.any fun kv => decide (kv.1 = k)
  | _, _, .nil => rfl
  | _, _, .cons r t => by rw [List.any_cons, List.any_cons, RepT.any t]
end
end DL
namespace DL
open PySem PySem.Spec PyProof.Rows L2 SlX
/-- a class with these slots -/
structure SlC (K : PySem.W.Frag) (C : Addr) (fs : List Str) : Prop where
  sc : SCls K C
  sl : ∀ (i : Nat) (f : Str), fs[i]? = some f → ∃ p, Slot1 K C f p i
end DL
namespace HK
open PySem PySem.Spec PyProof.Rows L2 DL He
/-- a def of the text: where it stands -/
structure Dd where
  adr : PySem.W.Frag → Addr
  name : Str
  qual : Str
  st : Stmt
  dfl : List V := []
  dfg : List Str := []
/-- the defaults: shown ones, then what stands under names -/
def Dd.dvs (d : Dd) (K : PySem.W.Frag) : List V := d.dfl ++ d.dfg.map fun x => V.ref (ga K x)
def fnA (K : PySem.W.Frag) (a : Addr) : FnW := match K.lookup a with
  | some ⟨_, _, .func fd, _⟩ => some (fd.name, fd.qualname, fd.params, fd.body, fd.scope, fd.globals, fd.closure, fd.builtins)
  | _ => none
def Dd.val (d : Dd) : FnW := some (d.name, d.qual, defArgs d.st, .stmts (defBody d.st), defScope d.st, mainGlobals, [], builtinsNs)
def Dd.ok (K : PySem.W.Frag) (d : Dd) : Bool := PySem.W.keepIn K (.ref (d.adr K)) && (match K.lookup (d.adr K) with
  | some ⟨_, _, .func fd, _⟩ => PySem.W.codeIn K fd.code d.qual && dflB K fd.defaults (d.dvs K)
  | _ => false)
theorem Dd.funD {K : PySem.W.Frag} {d : Dd} (e : fnA K (d.adr K) = d.val) (c : d.ok K = true) : ∃ fd, FunD K d.name d.qual (defArgs d.st) (defBody d.st) (defScope d.st) (d.dvs K) [] (d.adr K) fd := by
  obtain ⟨kp, c2⟩ := Bool.and_eq_true_iff.mp c
  unfold fnA at e
  cases q : K.lookup (d.adr K) with
  | none => rw [q] at c2; cases c2
  | some o =>
    obtain ⟨oc, od, dt, osl⟩ := o
    rw [q] at c2 e
    cases dt with
    | func fd =>
      obtain ⟨x1, x2, x3, x4, x5, x6, x7, x8, x9, x10, x11, x12, x13, x14, x15⟩ := fd
      have e2 : (some (x1, x2, x3, x4, x5, x6, x7, x15) : FnW) = some (d.name, d.qual, defArgs d.st, .stmts (defBody d.st), defScope d.st, mainGlobals, [], builtinsNs) := e
      simp only [Option.some.injEq, Prod.mk.injEq] at e2
      obtain ⟨h1, h2, h3, h4, h5, h6, h7, h8⟩ := e2
      subst h1 h2 h3 h4 h5 h6 h7 h8
      obtain ⟨y1, y2⟩ := Bool.and_eq_true_iff.mp (show (PySem.W.codeIn K x13 d.qual && dflB K x8 (d.dvs K)) = true from c2)
      exact ⟨_, ⟨oc, od, x8, x9, x10, x11, x12, x13, x14, osl, rfl, q, y1, dflB_ok y2, .inl rfl⟩, kp⟩
    | _ => cases c2
/-- the getter of a property -/
def pgA (C m : Str) (K : PySem.W.Frag) : Addr := match PySem.W.recIn K (ma K (ga K C) m) "property" with
  | some (.ref g :: _) => g
  | _ => 0
def propB (K : PySem.W.Frag) (q : Str × Str) : Bool := eqO (PySem.W.findIn K (.ref (ga K q.1)) q.2) (some (some (.ref (ma K (ga K q.1) q.2)))) && (eqO (PySem.W.specialIn K (.ref (ma K (ga K q.1) q.2)) "__get__") (some (some (.builtin "property.__get__"))) &&
  (decide (PySem.W.takesIn K (.ref (ma K (ga K q.1) q.2)) = some true) && (match PySem.W.recIn K (ma K (ga K q.1) q.2) "property" with
  | some (.ref _ :: _) => true
  | _ => false)))
/-- a value: a text, a tuple of texts, an int -/
inductive Dt where
  | s (z : Str) | t (zs : List Str) | i (n : Int)
def Dt.d : Dt → D
  | .s z => .str z
  | .t zs => .tup (zs.map D.str)
  | .i n => .int n
def Dt.ok (K : PySem.W.Frag) : Dt → Value → Bool
  | .s z, .str y _ => decide (y = z)
  | .i n, .int m _ => decide (m = n)
  | .t zs, .ref b => (match K.lookup b with
    | some ⟨.type c, _, .seq its _, _⟩ => decide (c = "tuple") && (decide (its.size ≤ sizeLine) && relAll (zs.map V.str) its.toList)
    | _ => false)
  | _, _ => false
theorem Dt.rep {K : PySem.W.Frag} {x : Dt} {u : Value} (h : x.ok K u = true) : ∃ v, RelV v u ∧ ∀ M Z H, Rep K M Z H v x.d := by
  cases x with
  | s z =>
    cases u with
    | str y t =>
      obtain rfl : y = z := of_decide_eq_true h
      exact ⟨.str y, ⟨t, rfl⟩, fun _ _ _ => .str y⟩
    | _ => cases h
  | i n =>
    cases u with
    | int y t =>
      obtain rfl : y = n := of_decide_eq_true h
      exact ⟨.int y, ⟨t, rfl⟩, fun _ _ _ => .int y⟩
    | _ => cases h
  | t zs =>
    cases u with
    | ref b =>
      refine ⟨.ref b, rfl, fun M Z H => ?_⟩
      cases q : K.lookup b with
      | none => simp only [Dt.ok, q] at h; cases h
      | some o =>
        obtain ⟨oc, od, dt, osl⟩ := o
        simp only [Dt.ok, q] at h
        cases oc with
        | type c =>
          cases dt with
          | seq its n =>
            obtain ⟨h1, h2⟩ := Bool.and_eq_true_iff.mp (show (decide (c = "tuple") && (decide (its.size ≤ sizeLine) && relAll (zs.map V.str) its.toList)) = true from h)
            obtain ⟨h3, h4⟩ := Bool.and_eq_true_iff.mp h2
            exact .tupK ⟨_, its, n, q, congrArg Value.type (of_decide_eq_true h1), rfl, of_decide_eq_true h3, relAll_ok h4⟩ (Reps.ofStrs zs)
          | _ => cases h
        | _ => cases dt <;> cases h
    | _ => cases h
def entsB (K : PySem.W.Frag) : List (Str × Dt) → List DictEntry → Bool
  | [], [] => true
  | q :: qs, e :: es => (match e.key with
    | .str x _ => decide (x = q.1)
    | _ => false) && (q.2.ok K e.val && entsB K qs es)
  | _, _ => false
theorem entsB_ok {K : PySem.W.Frag} : ∀ {qs : List (Str × Dt)} {es : List DictEntry}, entsB K qs es = true → ∃ kvs : List (Str × V), Paired (fun (p : Str × V) (e : DictEntry) => (∃ t, e.key = .str p.1 t) ∧ RelV p.2 e.val) kvs es ∧ kvs.map (·.1) = qs.map (·.1) ∧ ∀ M Z H, RepF K M Z H kvs (qs.map fun q => (q.1, q.2.d))
  | [], [], _ => ⟨[], .nil, rfl, fun _ _ _ => .nil⟩
  | [], _ :: _, h => by cases h
  | _ :: _, [], h => by cases h
  | q :: qs, e :: es, h => by
    obtain ⟨h1, h2⟩ := Bool.and_eq_true_iff.mp (show ((match e.key with | .str x _ => decide (x = q.1) | _ => false) && (q.2.ok K e.val && entsB K qs es)) = true from h)
    obtain ⟨h3, h4⟩ := Bool.and_eq_true_iff.mp h2
    obtain ⟨kvs, a1, a2, a3⟩ := entsB_ok h4
    obtain ⟨v, b1, b2⟩ := Dt.rep h3
    refine ⟨(q.1, v) :: kvs, .cons ⟨?_, b1⟩ a1, by rw [List.map_cons, List.map_cons, a2], fun M Z H => .cons (b2 M Z H) (a3 M Z H)⟩
    cases hk : e.key with
    | str x t =>
      rw [hk] at h1
      exact ⟨t, by rw [of_decide_eq_true h1]⟩
    | _ => rw [hk] at h1; cases h1
def dicB (K : PySem.W.Frag) (q : Str × List (Str × Dt)) : Bool := match K.lookup (ga K q.1) with
  | some ⟨_, _, .dict es _, _⟩ => entsB K q.2 es.toList
  | _ => false
theorem dicB_ok {K : PySem.W.Frag} {w : World} {x : Str} {qs : List (Str × Dt)} (h : dicB K (x, qs) = true) (hk : dicW K (ga K x) = some (keysIn w.params (qs.map (·.1)))) (nd : (qs.map (·.1)).Nodup) :
    ∃ kvs, WrD K w (ga K x) kvs ∧ ∀ M Z H, RepF K M Z H kvs (qs.map fun q => (q.1, q.2.d)) := by
  obtain ⟨es, n, h1, h2, h3⟩ := dicW_ok hk
  unfold dicB at h
  rw [h1] at h
  obtain ⟨kvs, a1, a2, a3⟩ := entsB_ok (show entsB K qs es.toList = true from h)
  exact ⟨kvs, ⟨es, n, h1, h3, h2, a1, by rw [a2]; exact nd⟩, a3⟩
def slAll (K : PySem.W.Frag) (G : Addr) : Nat → List Str → Bool
  | _, [] => true
  | i, f :: fs => eqO (PySem.W.findIn K (.ref G) f) (some (some (.ref (ma K G f)))) && (eqO (PySem.W.specialIn K (.ref (ma K G f)) "__get__") (some (some (.builtin "member_descriptor.__get__"))) && (decide (PySem.W.takesIn K (.ref (ma K G f)) = some true) && (decide (PySem.W.typeIn K (.ref (ma K G f)) = some (.type "member_descriptor")) && (decide (PySem.W.slotIn K (ma K G f) G = some i) && (decide (i < 1000) && slAll K G (i + 1) fs)))))
theorem slAll_ok {K : PySem.W.Frag} {G : Addr} : ∀ {fs : List Str} {k : Nat}, slAll K G k fs = true → ∀ (i : Nat) (f : Str), fs[i]? = some f → ∃ p, SlX.Slot1 K G f p (k + i)
  | [], _, _, i, f, h => by simp at h
  | f0 :: fs, k, hb, i, f, h => by
    obtain ⟨h1, hb⟩ := Bool.and_eq_true_iff.mp (show (eqO (PySem.W.findIn K (.ref G) f0) (some (some (.ref (ma K G f0)))) && (eqO (PySem.W.specialIn K (.ref (ma K G f0)) "__get__") (some (some (.builtin "member_descriptor.__get__"))) && (decide (PySem.W.takesIn K (.ref (ma K G f0)) = some true) && (decide (PySem.W.typeIn K (.ref (ma K G f0)) = some (.type "member_descriptor")) && (decide (PySem.W.slotIn K (ma K G f0) G = some k) && (decide (k < 1000) && slAll K G (k + 1) fs)))))) = true from hb)
    obtain ⟨h2, hb⟩ := Bool.and_eq_true_iff.mp hb
    obtain ⟨h3, hb⟩ := Bool.and_eq_true_iff.mp hb
    obtain ⟨h4, hb⟩ := Bool.and_eq_true_iff.mp hb
    obtain ⟨h5, hb⟩ := Bool.and_eq_true_iff.mp hb
    obtain ⟨h6, hb⟩ := Bool.and_eq_true_iff.mp hb
    cases i with
    | zero =>
      obtain rfl := Option.some.inj h
      exact ⟨_, eqO_ok h1, eqO_ok h2, of_decide_eq_true h3, of_decide_eq_true h4, of_decide_eq_true h5, of_decide_eq_true h6⟩
    | succ i =>
      obtain ⟨p, q⟩ := slAll_ok hb i f h
      exact ⟨p, by rw [show k + (i + 1) = k + 1 + i by omega]; exact q⟩
def slB (K : PySem.W.Frag) (q : Str × List Str) : Bool := PySem.W.plainGet K (ga K q.1) Str.empty && (PySem.W.isClsIn K (ga K q.1) && (PySem.W.plainOver K (ga K q.1) && (eqO (PySem.W.findIn K (.ref (ga K q.1)) "__setattr__") (some (some (.builtin "object.__setattr__"))) && slAll K (ga K q.1) 0 q.2)))
theorem slB_ok {K : PySem.W.Frag} {x : Str} {fs : List Str} (h : slB K (x, fs) = true) : SlC K (ga K x) fs := by
  obtain ⟨h1, h⟩ := Bool.and_eq_true_iff.mp h
  obtain ⟨h2, h⟩ := Bool.and_eq_true_iff.mp h
  obtain ⟨h3, h⟩ := Bool.and_eq_true_iff.mp h
  obtain ⟨h4, h⟩ := Bool.and_eq_true_iff.mp h
  refine ⟨⟨h1, h2, h3, eqO_ok h4⟩, fun i f hf => ?_⟩
  obtain ⟨p, q⟩ := slAll_ok h i f hf
  exact ⟨p, by rw [Nat.zero_add] at q; exact q⟩
def eqB (K : PySem.W.Frag) (x : Str) : Bool := PySem.W.selfFirst K (ga K x) && ((Fa.cls x).ok K && (eqO (PySem.W.findIn K (.ref (ga K x)) "__class__") (some (some (.builtin "object.__class__"))) && (eqO (PySem.W.specialIn K (.builtin "object.__class__") "__get__") (some (some (.builtin "getset_descriptor.__get__"))) &&
  (decide (PySem.W.takesIn K (.builtin "object.__class__") = some true) && (decide (PySem.W.mroIn K (ga K x) (.type "object") = some true) && eqO (PySem.W.findIn K (.ref (ga K x)) "__ne__") (some (some (.builtin "object.__ne__"))))))))
def nonV : Value → Bool
  | .none => true
  | _ => false
/-- the class of errors at C -/
def excB (K : PySem.W.Frag) (C : Addr) : Bool := match K.lookup C with
  | some ⟨.type t, _, .cls cd, sl⟩ => decide (t = "type") && (match cd.mro, sl.toList with
    | .ref C' :: bm, [_, _, _, _, some (.builtin n), _] => decide (C' = C) && (decide (n = "ValueError.__new__") && (!cd.hasDel && (cd.hasDict && PySem.HandSPX.refsVE bm)))
    | _, _ => false)
  | _ => false
/-- what XL.ErTxt and XL.ErV ask of the class of the name x -/
def erB (K : PySem.W.Frag) (x : Str) : Bool := [excB K (ga K x), PySem.W.excInitIn K (ga K x) [.type "ValueError", .type "Exception", .type "BaseException", .type "object"] "ValueError.__new__",
  eqO (PySem.W.findIn K (.ref (ga K x)) "__setattr__") (some (some (.builtin "object.__setattr__"))), eqO (PySem.W.findIn K (.ref (ga K x)) "__getattribute__") (some (some (.builtin "BaseException.__getattribute__"))), eqO (PySem.W.findIn K (.ref (ga K x)) "__getattr__") (some none),
  eqO (PySem.W.findIn K (.ref (ga K x)) "value") (some none), eqO (PySem.W.findIn K (.ref (ga K x)) "__init__") (some (some (.ref (ma K (ga K "CrowdError") "__init__")))), PySem.W.keepIn K (.ref (ga K x)), decide (PySem.W.subIn K (.ref (ga K x)) (.type "BaseException") = some true), decide (PySem.W.subIn K (.ref (ga K x)) (.type "ValueError") = some true),
  decide (PySem.W.subIn K (.ref (ga K x)) (.ref (ga K "CrowdError")) = some true), decide (PySem.W.typeIn K (.ref (ga K x)) = some (.type "type")), PySem.W.hasDictIn K (ga K x), eqO (PySem.W.ks_superIn K (ga K x) (ga K "CrowdError") "__init__") (some (some (.builtin "ValueError.__init__"))),
  (PySem.W.clsIn K (ga K x)).isSome, eqO (PySem.W.findIn K (.ref (ga K x)) "__class__") (some (some (.builtin "object.__class__"))), eqO (PySem.W.specialIn K (.builtin "object.__class__") "__get__") (some (some (.builtin "getset_descriptor.__get__"))), decide (PySem.W.takesIn K (.builtin "object.__class__") = some true), decide (PySem.W.mroIn K (ga K x) (.type "object") = some true), decide (PySem.W.kitOne K (.type "NoneType") (.ref (ga K x)) = some false), decide (PySem.W.exmOne K (.ref (ga K x)) (.ref (ga K "CrowdError")) = some true)].all id
/-- a def with a closure, the closure left out -/
def fnZ (K : PySem.W.Frag) (a : Addr) : FnW := match K.lookup a with
  | some ⟨_, _, .func fd, _⟩ => some (fd.name, fd.qualname, fd.params, fd.body, fd.scope, fd.globals, [], fd.builtins)
  | _ => none
def crA (K : PySem.W.Frag) : Addr := ma K (ga K "CrowdError") "__init__"
def crVal (st : Stmt) : FnW := some ("__init__", "CrowdError.__init__", defArgs st, .stmts (defBody st), defScope st, mainGlobals, [], builtinsNs)
/-- what XL.CrTxt asks besides -/
def crB (K : PySem.W.Frag) (file : Str) : Bool := (match K.lookup (crA K) with
    | some ⟨_, _, .func fd, _⟩ => (match fd.closure, fd.code with
      | [(y, cl)], .ref cc => decide (y = "__class__") && (nonV fd.defaults && (nonV fd.kwdefaults && (PySem.W.codeIn K (.ref cc) "CrowdError.__init__" && ((match K.lookup cc with
        | some ⟨_, _, .fields vs, _⟩ => (match (vs[2]? : Option Value) with
          | some (.str f _) => decide (f = file)
          | _ => false)
        | _ => false) && (match K.lookup cl with
        | some ⟨_, _, .cell (some (.ref b)), _⟩ => decide (b = ga K "CrowdError")
        | _ => false)))))
      | _, _ => false)
    | _ => false) && ((PySem.W.clsIn K (ga K "CrowdError")).isSome && (decide (PySem.W.typeIn K (.ref (crA K)) = some (.type "function")) && eqO (PySem.W.nsIn K cStatics "thirdparty.any") (some none)))
/-- isinstance of classes -/
def kiB (K : PySem.W.Frag) (q : Str × Str × Bool) : Bool := decide (PySem.W.kitOne K (.ref (ga K q.1)) (.ref (ga K q.2.1)) = some q.2.2)
/-- a def that makes lambdas: its table is none of what is known -/
def tbB (K : PySem.W.Frag) (x : Str) : Bool := match PySem.W.tabIn K x with
  | some p => (K.lookup p.2).isNone
  | none => false
/-- two such have two tables -/
def tdB (K : PySem.W.Frag) (q : Str × Str) : Bool := decide ((PySem.W.tabIn K q.1).map (·.2) ≠ (PySem.W.tabIn K q.2).map (·.2))
structure Sp where
  fa : List Fa
  dd : List Dd
  pr : List (Str × Str)
  ta : List (Str × List (Str × Dt))
  sl : List (Str × List Str)
  eq : List Str
  tx : List (Str × List Str)
  er : List Str := []
  ki : List (Str × Str × Bool) := []
  tb : List Str := []
  td : List (Str × Str) := []
  ba : List (Str × Stmt) := []
abbrev Al : Type := Bool × List FnW × List (Option (List (Option (Str × Int)))) × List FnW
def bosK (S : Sp) (K : PySem.W.Frag) : Bool := (S.fa.all fun f => f.ok K) && ((S.dd.all fun d => d.ok K) && ((S.pr.all fun q => propB K q) && ((S.ta.all fun q => dicB K q) && ((S.sl.all fun q => slB K q) && ((S.eq.all fun x => eqB K x) && ((S.tx.all fun q => (Dt.t q.2).ok K (.ref (ga K q.1))) && ((S.er.all fun x => erB K x) && ((S.ki.all fun q => kiB K q) && ((S.tb.all fun x => tbB K x) && ((S.td.all fun q => tdB K q) && S.ba.all fun q => crB K q.1))))))))))
def obsK (S : Sp) (K : PySem.W.Frag) : Al := (bosK S K, S.dd.map (fun d => fnA K (d.adr K)), S.ta.map (fun q => dicW K (ga K q.1)), S.ba.map fun _ => fnZ K (crA K))
def valK (S : Sp) (w : World) : Al := (true, S.dd.map Dd.val, S.ta.map (fun q => some (keysIn w.params (q.2.map (·.1)))), S.ba.map fun q => crVal q.2)
def Says (S : Sp) (w : World) (K : PySem.W.Frag) : Prop := obsK S K = valK S w
/-- what these names of the module reach, step by step -/
def lv0 (ns : List Str) (g : Addr → Option Obj) : List Addr := match g mainGlobals with
  | some ⟨_, _, .dict es _, _⟩ => es.toList.flatMap fun e => match e.key with
    | .str y _ => if ns.contains y then refV e.val else []
    | _ => []
  | _ => []
def refsX (o : Obj) : List Addr := refsD o ++ match o.data with
  | .func fd => fd.closure.map (·.2)
  | _ => []
def lvs (g : Addr → Option Obj) : Nat → List Addr → List Addr
  | 0, l => l
  | n + 1, l => l ++ lvs g n (l.flatMap fun a => match g a with
    | some o => refsX o
    | none => [])
def asN (n : Nat) (ns ms : List Str) (g : Addr → Option Obj) : List Addr := mainGlobals :: cStatics :: (lvs g n (lv0 ns g) ++ lvs g 1 (lv0 ms g))
def obsG (n : Nat) (ns ms : List Str) (S : Sp) (g : Addr → Option Obj) : Al := obsK S (frG g (asN n ns ms g))
def hook (n : Nat) (ns ms : List Str) (S : Sp) : PySem.W.Hook where
  α := Al
  obs := fun s => obsG n ns ms S s.heap.get?
  val := fun w => valK S w
  says := fun w h => ∃ K : PySem.W.Frag, K.In h ∧ Says S w K
  of := fun _ _ e => ⟨_, frG_in, e⟩
  keeps := fun _ _ _ ⟨K, hK, c⟩ k => ⟨K, PySem.W.Frag.In.keeps hK k, c⟩
section
variable {S : Sp} {w : World} {K : PySem.W.Frag}
theorem Says.bos (c : Says S w K) : (((((((((((S.fa.all fun f => f.ok K) = true ∧ (S.dd.all fun d => d.ok K) = true) ∧ (S.pr.all fun q => propB K q) = true) ∧ (S.ta.all fun q => dicB K q) = true) ∧ (S.sl.all fun q => slB K q) = true) ∧ (S.eq.all fun x => eqB K x) = true) ∧ (S.tx.all fun q => (Dt.t q.2).ok K (.ref (ga K q.1))) = true) ∧ (S.er.all fun x => erB K x) = true) ∧ (S.ki.all fun q => kiB K q) = true) ∧ (S.tb.all fun x => tbB K x) = true) ∧ (S.ba.all fun q => crB K q.1) = true) ∧ (S.td.all fun q => tdB K q) = true := by
  have b : bosK S K = true := congrArg (fun z : Al => z.1) c
  unfold bosK at b
  simp only [Bool.and_eq_true] at b
  obtain ⟨a1, a2, a3, a4, a5, a6, a7, a8, a9, a10, a12, a11⟩ := b
  exact ⟨⟨⟨⟨⟨⟨⟨⟨⟨⟨⟨a1, a2⟩, a3⟩, a4⟩, a5⟩, a6⟩, a7⟩, a8⟩, a9⟩, a10⟩, a11⟩, a12⟩
theorem Says.fa (c : Says S w K) {f : Fa} (h : f ∈ S.fa) : f.ok K = true := List.all_eq_true.mp c.bos.1.1.1.1.1.1.1.1.1.1.1 f h
theorem Says.pr (c : Says S w K) {q : Str × Str} (h : q ∈ S.pr) : propB K q = true := List.all_eq_true.mp c.bos.1.1.1.1.1.1.1.1.1.2 q h
theorem Says.dd (c : Says S w K) (i : Nat) {d : Dd} (h : S.dd[i]? = some d) : ∃ fd, FunD K d.name d.qual (defArgs d.st) (defBody d.st) (defScope d.st) (d.dvs K) [] (d.adr K) fd := by
  have e : S.dd.map (fun d => fnA K (d.adr K)) = S.dd.map Dd.val := congrArg (fun z : Al => z.2.1) c
  have e2 : (S.dd.map fun d => fnA K (d.adr K))[i]? = (S.dd.map Dd.val)[i]? := by rw [e]
  rw [List.getElem?_map, List.getElem?_map, h] at e2
  exact Dd.funD (Option.some.inj e2) (List.all_eq_true.mp c.bos.1.1.1.1.1.1.1.1.1.1.2 d (List.mem_of_getElem? h))
theorem Says.ta (c : Says S w K) (i : Nat) {x : Str} {qs : List (Str × Dt)} (h : S.ta[i]? = some (x, qs)) (nd : (qs.map (·.1)).Nodup) : ∃ kvs, WrD K w (ga K x) kvs ∧ ∀ M Z H, RepF K M Z H kvs (qs.map fun q => (q.1, q.2.d)) := by
  have e : S.ta.map (fun q => dicW K (ga K q.1)) = S.ta.map fun q => some (keysIn w.params (q.2.map (·.1))) := congrArg (fun z : Al => z.2.2.1) c
  have e2 : (S.ta.map fun q => dicW K (ga K q.1))[i]? = (S.ta.map fun q => some (keysIn w.params (q.2.map (·.1))))[i]? := by rw [e]
  rw [List.getElem?_map, List.getElem?_map, h] at e2
  exact dicB_ok (List.all_eq_true.mp c.bos.1.1.1.1.1.1.1.1.2 _ (List.mem_of_getElem? h)) (Option.some.inj e2) nd
theorem Says.sl (c : Says S w K) {x : Str} {fs : List Str} (h : (x, fs) ∈ S.sl) : SlC K (ga K x) fs := slB_ok (List.all_eq_true.mp c.bos.1.1.1.1.1.1.1.2 _ h)
end
def Sp.app (S T : Sp) : Sp := ⟨S.fa ++ T.fa, S.dd ++ T.dd, S.pr ++ T.pr, S.ta ++ T.ta, S.sl ++ T.sl, S.eq ++ T.eq, S.tx ++ T.tx, S.er ++ T.er, S.ki ++ T.ki, S.tb ++ T.tb, S.td ++ T.td, S.ba ++ T.ba⟩
def Sp.lo (S : Sp) (a b : Nat) : Sp := ⟨S.fa.take a, S.dd.take b, S.pr, S.ta, S.sl, S.eq, S.tx, [], [], [], [], []⟩
def Sp.hi (S : Sp) (a b : Nat) : Sp := ⟨S.fa.drop a, S.dd.drop b, [], [], [], [], [], S.er, S.ki, S.tb, S.td, S.ba⟩
theorem Sp.cut (S : Sp) (a b : Nat) : (S.lo a b).app (S.hi a b) = S := by
  obtain ⟨fa, dd, pr, ta, sl, eq, tx, er, ki, tb, td, ba⟩ := S
  unfold Sp.app Sp.lo Sp.hi
  simp only [List.take_append_drop, List.append_nil, List.nil_append]
theorem obsK_app {S T : Sp} {w : World} {K : PySem.W.Frag} (h1 : obsK S K = valK S w) (h2 : obsK T K = valK T w) : obsK (S.app T) K = valK (S.app T) w := by
  have a1 : bosK S K = true := congrArg (fun z : Al => z.1) h1
  have a2 : bosK T K = true := congrArg (fun z : Al => z.1) h2
  have b1 : S.dd.map (fun d => fnA K (d.adr K)) = S.dd.map Dd.val := congrArg (fun z : Al => z.2.1) h1
  have b2 : T.dd.map (fun d => fnA K (d.adr K)) = T.dd.map Dd.val := congrArg (fun z : Al => z.2.1) h2
  have c1 : S.ta.map (fun q => dicW K (ga K q.1)) = S.ta.map fun q => some (keysIn w.params (q.2.map (·.1))) := congrArg (fun z : Al => z.2.2.1) h1
  have c2 : T.ta.map (fun q => dicW K (ga K q.1)) = T.ta.map fun q => some (keysIn w.params (q.2.map (·.1))) := congrArg (fun z : Al => z.2.2.1) h2
  have d1 : S.ba.map (fun _ => fnZ K (crA K)) = S.ba.map fun q => crVal q.2 := congrArg (fun z : Al => z.2.2.2) h1
  have d2 : T.ba.map (fun _ => fnZ K (crA K)) = T.ba.map fun q => crVal q.2 := congrArg (fun z : Al => z.2.2.2) h2
  have a : bosK (S.app T) K = true := by
    unfold bosK at a1 a2 ⊢
    unfold Sp.app
    simp only [Bool.and_eq_true] at a1 a2
    simp only [List.all_append, a1, a2, Bool.and_self, Bool.and_true, Bool.true_and]
  unfold obsK valK
  rw [a]
  unfold Sp.app
  simp only [List.map_append, b1, b2, c1, c2, d1, d2]
theorem map_pair {α β γ δ ε ζ : Type} {X : Option α} {p : α → β} {q : α → γ} {o1 : α → δ} {o2 : α → ε} {o : α → ζ} {u : β} {v : γ} {w1 : δ} {w2 : ε} {w : ζ} (h1 : X.map (fun s => (p s, q s, o1 s)) = some (u, v, w1)) (h2 : X.map (fun s => (p s, q s, o2 s)) = some (u, v, w2)) (k : ∀ s, o1 s = w1 → o2 s = w2 → o s = w) : X.map (fun s => (p s, q s, o s)) = some (u, v, w) := by
  cases X with
  | none => cases h1
  | some s =>
    have e1 := Option.some.inj h1
    have e2 := Option.some.inj h2
    show some (p s, q s, o s) = _
    rw [show p s = u from congrArg (fun z => z.1) e1, show q s = v from congrArg (fun z => z.2.1) e1, k s (congrArg (fun z => z.2.2) e1) (congrArg (fun z => z.2.2) e2)]
abbrev obT (n : Nat) (ns ms : List Str) (S : Sp) (s : PySem.W.SharedT) : Al := obsG n ns ms S (HandSHeadRun.getT s)
theorem run_cut {r : PySem.W.OpenRow} {q : Program} {n M : Nat} {ns ms loose : List Str} {S : Sp} {w : World} (a b : Nat) (h1 : HandSHeadRun.RunEq r q (hook n ns ms (S.lo a b)) (obT n ns ms (S.lo a b)) M loose w) (h2 : HandSHeadRun.RunEq r q (hook n ns ms (S.hi a b)) (obT n ns ms (S.hi a b)) M loose w) : HandSHeadRun.RunEq r q (hook n ns ms S) (obT n ns ms S) M loose w := fun os => by
  refine map_pair (h1 os) (h2 os) fun s e1 e2 => ?_
  have := obsK_app (S := S.lo a b) (T := S.hi a b) (w := w) e1 e2
  rw [Sp.cut] at this
  exact this
end HK
namespace PL
open PySem SX TL
/-- a plan: a person, an unknown crowd, so many copies, a row; false: beside, true: introduced -/
inductive T where
  | one | name (x : List Nat) | cop (s : Bool) (n : Nat) (t : T) | row (s : Bool) (ts : List T)
def cls (s : Bool) : Nat := if s then 125 else 93
mutual
def ht : T → Nat
  | .one => 0
  | .name _ => 0
  | .cop _ _ t => ht t + 1
  | .row _ ts => hts ts + 1
def hts : List T → Nat
  | [] => 0
  | t :: ts => max (ht t) (hts ts)
end
def wgt (c : Nat) : Int := (if c = 40 ∨ c = 91 ∨ c = 123 then 1 else 0) - (if c = 41 ∨ c = 93 ∨ c = 125 then 1 else 0)
def dep : List Nat → Int
  | [] => 0
  | c :: r => wgt c + dep r
/-- the rest of the walk through L: at place i, depth d, begin b, found f -/
def G (L S : List Nat) : List Nat → Nat → Int → Nat → List (List Nat) → List (List Nat)
  | [], _, _, b, f => f ++ [L.drop b]
  | c :: r, i, d, b, f => if d + wgt c = 0 ∧ pre S (c :: r) = true then G L S r (i + 1) (d + wgt c) (i + S.length) (f ++ [(L.take i).drop b]) else G L S r (i + 1) (d + wgt c) b f
end PL
namespace W
open PySem PySem.Spec PyProof.Rows L2 DL
abbrev pw : Program := PySem.Challenge.pw_greetall_k03_bounds_of_texts
def top (i : Nat) : Stmt := pw.main.body.getD i (.Pass ⟨0, 0, 0, 0⟩)
abbrev s_CrowdError___init__ : Stmt := inClass (top 1) 0
abbrev s_is_integer : Stmt := top 24
abbrev s_is_name : Stmt := top 25
abbrev s_is_word : Stmt := top 26
abbrev s_number_in : Stmt := top 27
abbrev s_parted : Stmt := top 37
abbrev s_copies_in : Stmt := top 38
abbrev s_row_in : Stmt := top 39
abbrev s_groups_in : Stmt := top 40
abbrev s_is_plan_text : Stmt := top 41
abbrev s_names_in : Stmt := top 42
abbrev s_Plan___init__ : Stmt := inClass (top 43) 0
abbrev s_Plan_text : Stmt := inClass (top 43) 1
abbrev s_Plan_names : Stmt := inClass (top 43) 2
abbrev s_Plan_word : Stmt := inClass (top 43) 3
abbrev s_Plan_many : Stmt := inClass (top 43) 4
abbrev s_Plan_people : Stmt := inClass (top 43) 5
abbrev s_Plan_part : Stmt := inClass (top 43) 6
abbrev s_Plan___invert__ : Stmt := inClass (top 43) 11
abbrev s_check_told : Stmt := top 44
abbrev s_row_text : Stmt := top 45
abbrev s_copies_text : Stmt := top 46
abbrev s_joined_text : Stmt := top 49
abbrev s_pieces_of : Stmt := top 50
abbrev s_normal_text : Stmt := top 51
abbrev s_normal : Stmt := top 52
abbrev s_Figures___init__ : Stmt := inClass (top 54) 1
abbrev s_Figures_told_for : Stmt := inClass (top 54) 2
abbrev s_Figures_copied : Stmt := inClass (top 54) 3
abbrev s_Figures_joined : Stmt := inClass (top 54) 4
abbrev s_figures : Stmt := top 55
abbrev s_check_word : Stmt := top 56
abbrev s_number : Stmt := top 57
abbrev s__law_pot : Stmt := top 59
abbrev s__law_take : Stmt := top 60
abbrev s__law_some : Stmt := top 61
abbrev s__law_cells : Stmt := top 62
abbrev s__law_caught : Stmt := top 63
abbrev s__law_answer : Stmt := top 64
abbrev s__law_numbers_of : Stmt := top 65
abbrev s__law_is_deep_right : Stmt := top 66
abbrev s__law_is_long_right : Stmt := top 67
abbrev s__law_right : Stmt := top 68
abbrev s_law : Stmt := top 69
end W
namespace W
open PySem PySem.Spec PyProof.Rows L2 DL SX PL
def bns : List Str := ["isinstance", "int", "bool", "str", "len", "all", "sum", "range", "enumerate", "sorted", "set", "tuple", "list", "zip", "repr", "abs", "max", "min"]
end W
namespace W
open PySem PySem.Spec PyProof.Rows L2 DL SX PL
def fNames : List Str := ["own_text", "own_names", "own_word", "own_groups", "own_copies", "own_people"]
end W
namespace W
open PySem PySem.Spec PyProof.Rows L2 DL He HK
def gl (x : Str) (st : Stmt) : Dd := ⟨fun K => ga K x, x, x, st, [], []⟩
def me (m qual : Str) (st : Stmt) : Dd := ⟨fun K => ma K (ga K "Plan") m, m, qual, st, [], []⟩
def pg (m qual : Str) (st : Stmt) : Dd := ⟨pgA "Plan" m, m, qual, st, [], []⟩
def dds : List Dd := [
  ⟨fun K => ga K "is_integer", "is_integer", "is_integer", s_is_integer, [.non, .non], []⟩, me "__init__" "Plan.__init__" s_Plan___init__, pg "text" "Plan.text" s_Plan_text, pg "names" "Plan.names" s_Plan_names, pg "word" "Plan.word" s_Plan_word, pg "many" "Plan.many" s_Plan_many, pg "people" "Plan.people" s_Plan_people, me "__invert__" "Plan.__invert__" s_Plan___invert__,
  me "part" "Plan.part" s_Plan_part, ⟨fun K => ma K (ga K "Figures") "copied", "copied", "Figures.copied", s_Figures_copied, [], []⟩, ⟨fun K => ma K (ga K "Figures") "joined", "joined", "Figures.joined", s_Figures_joined, [], []⟩, ⟨fun K => ma K (ga K "Figures") "told_for", "told_for", "Figures.told_for", s_Figures_told_for, [], []⟩, ⟨fun K => ma K (ga K "Figures") "__init__", "__init__", "Figures.__init__", s_Figures___init__, [.int 1, .int 1, .int 1, .int 1, .int 1], []⟩, gl "is_name" s_is_name, gl "number_in" s_number_in, gl "parted" s_parted,
  gl "copies_in" s_copies_in, gl "row_in" s_row_in, gl "groups_in" s_groups_in, gl "is_plan_text" s_is_plan_text, gl "names_in" s_names_in, gl "check_told" s_check_told, gl "row_text" s_row_text, gl "copies_text" s_copies_text,
  gl "joined_text" s_joined_text, gl "normal_text" s_normal_text, gl "pieces_of" s_pieces_of, gl "normal" s_normal, gl "figures" s_figures, gl "is_word" s_is_word, gl "number" s_number, gl "_law_take" s__law_take,
  gl "_law_some" s__law_some, gl "_law_cells" s__law_cells, gl "_law_pot" s__law_pot, gl "_law_caught" s__law_caught, gl "_law_answer" s__law_answer, gl "_law_numbers_of" s__law_numbers_of, gl "_law_is_deep_right" s__law_is_deep_right, gl "_law_is_long_right" s__law_is_long_right,
  ⟨fun K => ga K "check_word", "check_word", "check_word", s_check_word, [], ["WORDS"]⟩, gl "_law_right" s__law_right, gl "law" s_law]
def globs0 : List Str := ["is_integer", "is_name", "number_in", "parted", "copies_in", "row_in", "groups_in", "is_plan_text", "names_in", "check_told", "row_text", "copies_text", "joined_text", "normal_text", "pieces_of", "normal", "figures", "is_word"]
def globs1 : List Str := ["number", "_law_take", "_law_some", "_law_cells", "_law_pot", "_law_caught", "_law_answer", "_law_numbers_of", "_law_is_deep_right", "_law_is_long_right", "check_word", "law", "Plan", "SIGNS", "AROUND", "TURNED", "Figures", "CrowdError"]
def globs2 : List Str := ["WORDS", "BadPlan", "NoPart"]
def tbsA : List Str := ["_law_right"]
def globsA : List Str := globs0 ++ globs1 ++ globs2
def consts : List Fa := [
  .str "ONE" "one", .str "NAME" "name", .str "BESIDE" "beside", .str "INTRODUCED" "introduced", .str "BLANK" " ", .str "LETTERS" "abcdefghijklmnopqrstuvwxyz", .str "FIGURES" "0123456789", .int "MOST_LETTERS" 8, .str "PERSON" "1", .int "LEAST_MANY" 2, .int "MOST_MANY" (10 ^ 30), .int "MOST_NAMES" 3, .int "MOST_DEPTH" 60,
  .cls "Plan", .meth "Plan" "__invert__", .mkr "Plan", .meth "Plan" "part", .free "super", .glo "_law_right", .mkr "Figures", .meth "Figures" "copied", .meth "Figures" "joined", .meth "Figures" "told_for", .str "PEOPLE" "people", .str "CIRCLE" "circle", .str "STRANGERS" "strangers", .str "ROWS" "rows", .str "HALL" "hall"]
def fas : List Fa := bns.map Fa.free ++ (globsA.map Fa.glo ++ (fNames.map (Fa.noat "Plan") ++ consts))
def tSigns : List (Str × Dt) := [("beside", .s " + "), ("introduced", .s " * ")]
def tAround : List (Str × Dt) := [("beside", .t ["[", "]"]), ("introduced", .t ["{", "}"])]
def tTurned : List (Str × Dt) := [("+", .s "*"), ("*", .s "+"), ("[", .s "{"), ("{", .s "["), ("]", .s "}"), ("}", .s "]")]
def spec : HK.Sp := ⟨fas, dds, [("Plan", "text"), ("Plan", "names"), ("Plan", "word"), ("Plan", "many"), ("Plan", "people")], [("SIGNS", tSigns), ("AROUND", tAround), ("TURNED", tTurned)], [("Figures", ["own_circle", "own_hall", "own_people", "own_rows", "own_strangers"])], [], [("WORDS", ["people", "circle", "strangers", "rows", "hall"])], ["BadPlan", "NoPart"], [], ["_law_right"], [], [("/claim/cut.py", s_CrowdError___init__)]⟩
abbrev hk : PySem.W.Hook := hook 4 globsA tbsA spec
def ob (s : PySem.W.SharedT) : HK.Al := obsG 4 globsA tbsA spec (HandSHeadRun.getT s)
def names0 : List PySem.Str := ["__name__", "CrowdError", "Unknown", "BadPlan", "NoPart", "BadMany", "NoName", "NoPlan", "BadWord", "ONE", "NAME", "BESIDE", "INTRODUCED", "PEOPLE", "CIRCLE", "STRANGERS", "ROWS", "HALL", "WORDS", "BLANK", "LETTERS", "FIGURES", "MOST_LETTERS", "is_integer", "is_name", "is_word", "number_in", "PERSON"]
def names1 : List PySem.Str := ["LEAST_MANY", "MOST_MANY", "MOST_NAMES", "MOST_DEPTH", "SIGNS", "AROUND", "TURNED", "parted", "copies_in", "row_in", "groups_in", "is_plan_text", "names_in", "Plan", "check_told", "row_text", "copies_text", "text_put", "joined_text", "pieces_of", "normal_text", "normal", "Figures", "figures", "check_word", "number", "_law_pot", "_law_take"]
def names2 : List PySem.Str := ["_law_some", "_law_cells", "_law_caught", "_law_answer", "_law_numbers_of", "_law_is_deep_right", "_law_is_long_right", "_law_right"]
abbrev R : PySem.W.OpenRow := PySem.W.OpenLaw.row PySem.Challenge.rw_greetall_k03_bounds_of_texts
theorem run0a (w : World) : HandSHeadRun.RunEq R (PySem.W.view R.prog [68, 69]) (hook 4 globsA tbsA (Sp.lo spec 60 0)) (obT 4 globsA tbsA (Sp.lo spec 60 0)) 9000 (names0 ++ names1 ++ names2) (w.withFollow "special-get-raises" false) := by
  intro os
  kernel_rfl
theorem run0b (w : World) : HandSHeadRun.RunEq R (PySem.W.view R.prog [68, 69]) (hook 4 globsA tbsA (Sp.lo spec 60 0)) (obT 4 globsA tbsA (Sp.lo spec 60 0)) 9000 (names0 ++ names1 ++ names2) (w.withFollow "special-get-raises" true) := by
  intro os
  kernel_rfl
theorem run0 (w : World) : HandSHeadRun.RunEq R (PySem.W.view R.prog [68, 69]) (hook 4 globsA tbsA (Sp.lo spec 60 0)) (obT 4 globsA tbsA (Sp.lo spec 60 0)) 9000 (names0 ++ names1 ++ names2) w :=
  PySem.W.byRow2 "special-get-raises" (P := fun w => HandSHeadRun.RunEq R (PySem.W.view R.prog [68, 69]) (hook 4 globsA tbsA (Sp.lo spec 60 0)) (obT 4 globsA tbsA (Sp.lo spec 60 0)) 9000 (names0 ++ names1 ++ names2) w) run0a run0b w
theorem run1a (w : World) : HandSHeadRun.RunEq R (PySem.W.view R.prog [68, 69]) (hook 4 globsA tbsA (Sp.hi spec 60 0)) (obT 4 globsA tbsA (Sp.hi spec 60 0)) 9000 (names0 ++ names1 ++ names2) (w.withFollow "special-get-raises" false) := by
  intro os
  kernel_rfl
theorem run1b (w : World) : HandSHeadRun.RunEq R (PySem.W.view R.prog [68, 69]) (hook 4 globsA tbsA (Sp.hi spec 60 0)) (obT 4 globsA tbsA (Sp.hi spec 60 0)) 9000 (names0 ++ names1 ++ names2) (w.withFollow "special-get-raises" true) := by
  intro os
  kernel_rfl
theorem run1 (w : World) : HandSHeadRun.RunEq R (PySem.W.view R.prog [68, 69]) (hook 4 globsA tbsA (Sp.hi spec 60 0)) (obT 4 globsA tbsA (Sp.hi spec 60 0)) 9000 (names0 ++ names1 ++ names2) w :=
  PySem.W.byRow2 "special-get-raises" (P := fun w => HandSHeadRun.RunEq R (PySem.W.view R.prog [68, 69]) (hook 4 globsA tbsA (Sp.hi spec 60 0)) (obT 4 globsA tbsA (Sp.hi spec 60 0)) 9000 (names0 ++ names1 ++ names2) w) run1a run1b w
theorem run (w : World) : HandSHeadRun.RunEq R (PySem.W.view R.prog [68, 69]) hk ob 9000 (names0 ++ names1 ++ names2) w := run_cut 60 0 (run0 w) (run1 w)
end W
namespace XL
open PySem PySem.W PySem.Calls PyProof.Rows PySem.HandSPX
def iA (p1 p2 : Pos) : Arguments := { posonlyargs := [], args := [{ arg := "self", annotation := none, pos := p1 }, { arg := "value", annotation := none, pos := p2 }], vararg := none, kwonlyargs := [], kw_defaults := [], kwarg := none, defaults := [] }
def iB (q1 q2 q3 q4 q5 q6 q7 q8 q9 q10 : Pos) : List Stmt :=
  [.Expr (.Call (.Attribute (.Call (.Name "super" q1) [] [] q2) "__init__" q3) [.Name "value" q4] [] q5) q6, .Assign [.Attribute (.Name "self" q7) "value" q8] (.Name "value" q9) q10]
/-- the text of __init__ -/
structure Shape (a : Arguments) (b : List Stmt) (sc : Scope) : Prop where
  args : ∃ p1 p2, a = iA p1 p2
  body : ∃ q1 q2 q3 q4 q5 q6 q7 q8 q9 q10, b = iB q1 q2 q3 q4 q5 q6 q7 q8 q9 q10 ∧ ∀ (q : Str) (L f : Addr) (cd : Value) (cc : Addr), ∃ pl : Sem Bool, eval (.Call (.Attribute (.Call (.Name "super" q1) [] [] q2) "__init__" q3) [.Name "value" q4] [] q5) (ksEnv q sc L f cd cc) = (do
    let ov ← attributeBase (.Call (.Name "super" q1) [] [] q2) "__init__" (ksEnv q sc L f cd cc) (eval (.Call (.Name "super" q1) [] [] q2) (ksEnv q sc L f cd cc))
    standAt q3.atName
    let (fn, first) ← holding [ov] (getMethod ov "__init__" pl)
    callWith q5 fn first (backTo q5 (starEach [.Name "value" q4] (ksEnv q sc L f cd cc))) [])
  kind : sc.kind = .function
  co : sc.isCoroutine = false
  gen : sc.isGenerator = false
  cellless : ∀ y ∈ sc.names, y.2 ≠ NameKind.cell
  self : sc.names.lookup ("self" : Str) = some .local
  value : sc.names.lookup ("value" : Str) = some .local
  cls : ∀ (q : Str) (L f : Addr) (cd : Value) (cc : Addr), (ksEnv q sc L f cd cc).kindOf "__class__" = some .free
  sup : ∀ (q : Str) (L f : Addr) (cd : Value) (cc : Addr), (ksEnv q sc L f cd cc).kindOf "super" = some .globalImplicit
  inter : ∀ (q : Str) (L f : Addr) (cd : Value) (cc : Addr), interactive (ksEnv q sc L f cd cc) = false
  kself : ∀ (q : Str) (L f : Addr) (cd : Value) (cc : Addr), (ksEnv q sc L f cd cc).kindOf "self" = some .local
  kvalue : ∀ (q : Str) (L f : Addr) (cd : Value) (cc : Addr), (ksEnv q sc L f cd cc).kindOf "value" = some .local
/-- what __init__ leaves of a fresh error at x -/
structure InitEnd (h h' : Heap) (x C dx t1 : Addr) (v : Value) : Prop where
  keep : ∀ b o, h.get? b = some o → h'.get? b = some o
  obj : h'.get? x = some { cls := .ref C, dict := some dx, data := .fields #[.ref t1, .none, .none, .none, .bool false, .none] }
  dbig : h.objs.size ≤ dx
  dne : dx ≠ x
  ns : h'.Ns1 dx (fun y => if y = "value" then some v else none)
theorem one_size (v : Value) : [v].length ≤ sizeLine := by
  rw [sizeLine_eq]
  exact (by decide : 1 ≤ 16777216)
theorem at_of_any {α : Type} {M : Model} {A : Around} {c : Code} {t : Sem α} {Q : α → Shared → Prop} {E : Value → Shared → Prop} {s : Shared} (h : wpAny M A t Q E s) : PySem.wpAt M A c t Q E s := fun Γ p _ hA => h Γ p hA
theorem ldC {M : Model} {A : Around} {s : Shared} {E : Value → Shared → Prop} {env : Env} {m : Str → Option Value} {x : Str} {pos : Pos} {v : Value} {Q : Value → Shared → Prop} (hn : s.heap.Ns env.locals m) (hv : m x = some v) (h : Q v s)
    (hk : env.scope.kind = .function) (hl : env.kindOf x = some .local) (hd : (x == ("__debug__" : Str)) = false) : wpAny M A (eval (.Name x pos) env) Q E s := wpAny_Name (wpAny_loadName_local hk hl hn hv h) hd
section
variable {prog : Program} {w : World} {A : Around} {E : Value → Shared → Prop} {R : Result → Shared → Prop} {K : Frag} {mg : Str → Option Value} {C B fI cl : Addr} {q x : Str} {a : Arguments} {b : List Stmt} {sc : Scope}
theorem crowd_init (T : CrTxt prog K q a b sc B fI cl) (S : Shape a b sc) (G : ErTxt K mg x C B fI) {h0 : Heap} (M : L2.Mod K mg h0) (hms : mg "super" = none) {hp : Heap} {g : Array GenState} {dr : Drawn} {tk0 : Nat} {os : OsState} {xo t0 : Addr} {v : Value} (k0 : ∀ b o, h0.get? b = some o → hp.get? b = some o) (hsz : h0.objs.size ≤ hp.objs.size)
    (hlim : hp.NoLimit) (hx : hp.get? xo = some (excO C t0)) (hnx : h0.get? xo = none) (hroom : A.depth < recursionLimit)
    (hq : ∀ h' tk dx t1, InitEnd h0 h' xo C dx t1 v → R (.ok (.ret .none)) ⟨h', g, dr, tk, os⟩) :
    codeAny (model prog w) A (.call (.ref fI) ⟨[.ref xo, v], []⟩) R ⟨hp, g, dr, tk0, os⟩ := by
  obtain ⟨oc, od, doc, pm, an, cc, ct, osl, occ, vs, file, tf, ho, hcd, hcc, hvs, hv2, hfile⟩ := T.fn
  obtain ⟨oce, hce, hced⟩ := T.cell
  obtain ⟨oB, cdB, hB, hBd⟩ := T.bcls
  obtain ⟨p1, p2, rfl⟩ := S.args
  obtain ⟨q1, q2, q3, q4, q5, q6, q7, q8, q9, q10, rfl, meth⟩ := S.body
  obtain ⟨nm, qn, N, bs, bm, sn, sub, ab, col, dd, y0, y1, y2, y3, y5, hC, hbm⟩ := G.cls
  have hcl : clsIn K C = some { name := nm, bases := bs, mro := .ref C :: bm, ns := N, qualname := qn, hasDict := true, slotNames := sn, subclasses := sub, abstract := ab, collection := col, hasDel := false } := by unfold clsIn; rw [hC] <;> rfl
  have X0 := M.kin
  have X : K.In hp := fun b o e => k0 b o (X0 b o e)
  refine ks_codeAny_call_defAt (binds := [("self", .ref xo), ("value", v)]) hroom (X _ _ ho) rfl hlim (codeRec_of X hcd) rfl (BindsTo.of_eq (by first | rfl | with_unfolding_all rfl)) S.cellless ?_ (fun h₁ hn k1 => ?_) S.co S.gen S.kind
  · intro y hy
    rcases List.mem_cons.mp hy with rfl | hy
    · exact S.self
    · rw [List.mem_singleton.mp hy]; exact S.value
  have X1 : K.In h₁ := fun b o e => k1 b o (X b o e)
  have k01 : ∀ b o, h0.get? b = some o → h₁.get? b = some o := fun b o e => k1 b o (k0 b o e)
  have hx1 : h₁.get? xo = some (excO C t0) := k1 _ _ hx
  have hxL : hp.objs.size ≠ xo := Nat.ne_of_gt (Heap.lt_size hx)
  obtain ⟨mb, nb, hmb⟩ := M.blt
  show PySem.wpAt _ (A.deeper (ksEnv q sc hp.objs.size fI (.ref cc) cl)) (Code.func (iB q1 q2 q3 q4 q5 q6 q7 q8 q9 q10) (ksEnv q sc hp.objs.size fI (.ref cc) cl)) (execs (iB q1 q2 q3 q4 q5 q6 q7 q8 q9 q10) (ksEnv q sc hp.objs.size fI (.ref cc) cl)) _ _ _
  obtain ⟨pl, hpl⟩ := meth q hp.objs.size fI (.ref cc) cl
  refine ks_wpAt_execs_cons (ks_wpAt_Expr_any (hi := S.inter _ _ _ _ _) (ks_wpAt_MethodCall (pl := pl) (he := hpl) (ks_wpAt_super_base (f := fI) (cc := cc) (S.sup _ _ _ _ _) (S.cls _ _ _ _ _) (by decide) rfl (X1 _ _ ho) rfl rfl rfl (X1 _ _ hcc) hvs hv2 hfile T.sup ?_)))
  refine ks_loadName_global S.kind (S.sup _ _ _ _ _) (Calls.loadGlobal_builtin (M.glob.keeps k01) hms (nb.keeps k01) ((hmb "super" (by decide)).trans rfl) ?_)
  refine ⟨rfl, wpAny_loadName_free S.kind (S.cls _ _ _ _ _) (c := cl) (v := .ref B) rfl ⟨oce, X1 _ _ hce, hced⟩ ?_⟩
  refine wpAny_loadName_local S.kind (S.kself _ _ _ _ _) hn (v := .ref xo) rfl ?_
  refine ks_wpAny_isType_cls (X1 _ _ hB) hBd ⟨rfl, ?_⟩
  refine ks_wpAny_call_super (X1 _ _ hB) hBd hx1 rfl (fun c => by intro h; cases h) (looks_subIn X1 G.sB) fun h2 hso k2 => ?_
  have hn2 := hn.keeps k2
  have hL : h0.objs.size ≤ hp.objs.size := hsz
  have fr2 : Fr h0 hp.objs.size h2 (fun x => List.lookup x [(("self" : Str), Value.ref xo), (("value" : Str), v)].reverse) := ⟨hn2, fun b o e => k2 b o (k01 b o e), hL⟩
  have hxso : h₁.objs.size ≠ xo := Nat.ne_of_gt (Heap.lt_size hx1)
  have nw2 : News h0 hp.objs.size h2 [(h₁.objs.size, ks_superObj B xo C), (xo, excO C t0)] := fun p hp => by
    rcases List.mem_cons.mp hp with rfl | hp
    · refine ⟨hso, Ne.symm (Nat.ne_of_lt hn.lt), ?_⟩
      cases e : h0.get? h₁.objs.size with
      | none => rfl
      | some o => exact absurd (Heap.lt_size (k01 _ _ e)) (Nat.lt_irrefl _)
    · rw [List.mem_singleton.mp hp]
      exact ⟨k2 _ _ hx1, fun z => hxL z.symm, hnx⟩
  refine kxs_method (odx := none) kxs_ValueError fr2 X0 nw2 List.mem_cons_self ⟨k2 _ _ hx1, rfl, rfl, trivial⟩ T.nsS G.sup G.veC (by decide) fun q3' h3 fr3 nw3 lt3 => ?_
  refine kxs_callWith1 nw3 List.mem_cons_self ?_
  refine spliced_cons (ldC (m := fun x => List.lookup x [(("self" : Str), Value.ref xo), (("value" : Str), v)].reverse) (v := v) fr3.ns rfl ?_ S.kind (S.kvalue _ _ _ _ _) (by decide))
  refine spliced_nil ⟨kxs_at nw3 List.mem_cons_self, ?_⟩
  refine kxs_call (C := C) (t := t0) (dv := none) (c2 := .none) fr3 X0 nw3 F.excBase_ValueError G.ini List.mem_cons_self (UpdF.tail (fun z => ?_) (UpdF.tail hxso (UpdF.head (fun p hp => by cases hp)))) (one_size v) fun t' h' fr' nw' lt' => ?_
  · exact Nat.ne_of_gt (lt3 (xo, excO C t0) (List.mem_cons_of_mem _ List.mem_cons_self)) z
  have X5 : K.In h' := fun b o e => fr'.keep b o (X0 b o e)
  have hx5 : h'.get? xo = some (excO C t') := (nw' (xo, excObj C t' none .none) (List.mem_cons_of_mem _ (List.mem_cons_of_mem _ (List.mem_cons_of_mem _ List.mem_cons_self)))).1
  -- self.value = value
  refine at_of_any (wpAny_execs_cons (plainObj_wpAny_Assign_Attribute ?_))
  refine ldC fr'.ns (v := v) rfl ?_ S.kind (S.kvalue _ _ _ _ _) (by decide)
  refine ldC fr'.ns (v := .ref xo) rfl ?_ S.kind (S.kself _ _ _ _ _) (by decide)
  refine set_plain X5 (ox := excO C t') (od := none) ⟨hx5, rfl, rfl, trivial⟩ G.sa ?_
  refine exc_osa X5 hx5 hcl (show refsVE (.ref C :: bm) = true from hbm) rfl G.noV (fun h6 tk6 dx k6 dn dne hx6 hn6 => ?_)
  have zz : hp.objs.size < h'.objs.size := fr'.ns.lt
  refine wpAny_execs_nil (hq h6 tk6 dx t' ⟨fun b o e => k6 b o (fun z => ?_) (fr'.keep b o e), hx6, Nat.le_trans (Nat.le_trans hsz (Nat.le_of_lt zz)) dn, dne, hn6⟩)
  rw [z, hnx] at e; cases e
end
end XL
namespace XL
open PySem PySem.W PySem.Calls PyProof.Rows PySem.HandSPX L2
/-- a made error -/
structure OwnMade (h h' : Heap) (e C d : Addr) (v : Value) : Prop where
  keep : ∀ b o, h.get? b = some o → h'.get? b = some o
  new : h.objs.size ≤ e
  obj : ∃ oe vs, h'.get? e = some oe ∧ oe.cls = .ref C ∧ oe.dict = some d ∧ oe.data = .fields vs ∧ vs[1]? = some .none
  dbig : h.objs.size ≤ d
  dne : d ≠ e
  ns : h'.Ns1 d (fun y => if y = "value" then some v else none)
/-- one of the errors, at C, under the name x -/
structure Er (P : Program) (K : Frag) (mg : Str → Option Value) (x : Str) (C : Addr) : Prop where
  ex : ∃ (B fI cl : Addr) (q : Str) (a : Arguments) (b : List Stmt) (sc : Scope), CrTxt P K q a b sc B fI cl ∧ Shape a b sc ∧ ErTxt K mg x C B fI
  sup : mg "super" = none
section
variable {prog : Program} {w : World} {A : Around} {R : Result → Shared → Prop} {K : Frag} {mg : Str → Option Value} {C : Addr} {x : Str}
theorem crowd_made (T : Er prog K mg x C) {hp : Heap} {g : Array GenState} {dr : Drawn} {tk : Nat} {os : OsState} {v : Value} (M : L2.Mod K mg hp) (hroom : A.depth + 1 < recursionLimit)
    (hq : ∀ h' tk e d, OwnMade hp h' e C d v → R (.ok (.ret (.ref e))) ⟨h', g, dr, tk, os⟩) :
    codeAny (model prog w) A (.call (.ref C) ⟨[v], []⟩) R ⟨hp, g, dr, tk, os⟩ := by
  obtain ⟨B, fI, cl, q, a, b, sc, T1, S, G⟩ := T.ex
  obtain ⟨nm, qn, N, bs, bm, sn, sub, ab, col, dd, k0, k1, k2, k3, k5, hC, hbm⟩ := G.cls
  have X := M.kin
  have k : ∀ b o, hp.get? b = some o → ((hp.push (kdv_tup [v])).push (excO C hp.objs.size)).get? b = some o := fun b o e => Heap.get?_push_of_some _ (Heap.get?_push_of_some _ e)
  have hget : ((hp.push (kdv_tup [v])).push (excO C hp.objs.size)).get? (hp.objs.size + 1) = some (excO C hp.objs.size) := by heap_get
  have hnx : hp.get? (hp.objs.size + 1) = none := by
    cases e : hp.get? (hp.objs.size + 1) with
    | none => rfl
    | some o => exact absurd (Nat.lt_of_succ_lt (Heap.lt_size e)) (Nat.lt_irrefl _)
  refine call_own F.excBase_ValueError (fun X => refsVE_contains X bm hbm) (X _ _ hC) (looks_findIn X G.iC) (fun self => bind_fn X self T1.typ) (one_size v) ?_
  refine crowd_init T1 S G M T.sup k (by rw [Heap.size_push, Heap.size_push]; omega) (M.nolimit.keeps k) hget hnx hroom fun h' tk' dx t1 I => ?_
  exact ⟨rfl, hq h' tk' (hp.objs.size + 1) dx ⟨I.keep, Nat.le_succ _, ⟨_, _, I.obj, rfl, rfl, rfl, rfl⟩, I.dbig, I.dne, I.ns⟩⟩
end
theorem relO_value {v : V} {v' : Value} (r : RelV v v') (f : Str) : RelO (List.lookup f [(("value" : Str), v)]) (if f = "value" then some v' else none) := by
  by_cases hw : f = "value"
  · subst hw
    rw [if_pos rfl]
    have q : List.lookup ("value" : Str) [(("value" : Str), v)] = some v := by simp [List.lookup]
    rw [q]
    exact r
  · rw [if_neg hw]
    have qw : (f == ("value" : Str)) = false := by simpa using hw
    have q2 : List.lookup f [(("value" : Str), v)] = none := by simp [List.lookup, qw]
    rw [q2]
    trivial
section
variable {X : Cx} {C : Addr} {x : Str}
/-- C(e) -/
def tMkE (C : Addr) (ta : TA) : L2.St → Hp → XK → Prop := fun σ H Q => ta σ H fun vs H1 => ∃ v, vs = [v] ∧ ∀ d, H1 d = none → Q (.ref C) (some d) (upd H1 d (.xd [(("value" : Str), v)]))
theorem pmk_err {a : Expr} {ta : TA} {p pos : Pos} {k : Nat} (T : Er X.prog X.K X.mg x C) (hr : Room k X.A) (ha : PA X [a] ta) (hg : Gl X x) (hdb : (x == ("__debug__" : Str)) = false)
    (he : starEach (a :: []) X.env = (false, eval a X.env) :: starEach [] X.env := by rfl) (hpl : (backTo pos (starEach [] X.env)).any (·.1) = false := by rfl) :
    PMk X (.Call (.Name x p) [a] [] pos) (tMkE C ta) := by
  intro pins s σ H Q I h
  obtain ⟨B, fI, cl, q, aa, b, sc, T1, S, G⟩ := T.ex
  refine wpAny_Call_Name_kw (ld_glob I hg G.gC ?_ hdb)
  refine PySem.W.callWith_K (h₀ := X.base) I.ok.mod.kin G.kC (thn (ha.run pos pins s σ H _ I h) fun us s1 hh => ?_) he hpl
  obtain ⟨vs, H1, I1, r1, v, ev, q1⟩ := hh
  subst ev
  refine ⟨I1.kIn, ?_⟩
  cases r1 with
  | cons rv rn =>
    rename_i v' us'
    cases rn
    show wpAny _ _ (call (.ref C) [v']) _ _ _
    obtain ⟨hp, g, dr, tk, os⟩ := s1
    refine wpAny_call (crowd_made T (Mod.keeps I1.mod I1.bk) (by have := hr.dp; omega) fun h' tk' e d M => ?_)
    show MkP X pins σ Q (.ref e) ⟨h', g, dr, tk', os⟩
    obtain ⟨oe, fv, hoe, hc, hd, hdat, h1⟩ := M.obj
    have hns := M.ns
    obtain ⟨G', g1, g2⟩ := restrict h' fun b => decide (b ≠ e)
    have gk : ∀ b, b ≠ e → G'.get? b = h'.get? b := fun b hb => g1 b (decide_eq_true hb)
    have ge : G'.get? e = none := g2 e (by simp)
    have old : ∀ b o, hp.get? b = some o → G'.get? b = some o := fun b o q => (gk b (Nat.ne_of_lt (Nat.lt_of_lt_of_le (Heap.lt_size q) M.new))).trans (M.keep b o q)
    have ob : ObjOk X.prog X.w (upd H1 d (.xd [(("value" : Str), v)])) G' d (.xd [(("value" : Str), v)]) :=
      ⟨_, hns.at (fun o q => (gk d M.dne).trans q), fun f => relO_value rv f⟩
    have J : Inv X pins σ (upd H1 d (.xd [(("value" : Str), v)])) ⟨G', g, dr, tk', os⟩ := I1.laid (t' := tk') old M.dbig ob
    refine ⟨e, oe, fv, ⟨G', g, dr, tk', os⟩, _, .ref C, some d, rfl, J, fun b o q => ?_, ge, hoe, ⟨hc, hd⟩, hdat, h1, ?_, rfl, I1.bare, raises_own G.exC G.tyC, q1 d (I1.hok.fresh M.dbig)⟩
    · by_cases hb : b = e
      · have q' : G'.get? b = some o := q
        rw [hb, ge] at q'; cases q'
      · exact (gk b hb).symm.trans q
    · rw [upd_ne (Ne.symm M.dne)]
      exact I1.hok.fresh M.new
/-- raise C(e) -/
theorem ps_raiseE {a : Expr} {ta : TA} {W : WX} {p pos pos2 : Pos} {k : Nat} (hc : X.calm = true) (T : Er X.prog X.K X.mg x C) (hr : Room k X.A) (tk : Takes X W) (ha : PA X [a] ta) (hg : Gl X x) (hdb : (x == ("__debug__" : Str)) = false)
    (he : starEach (a :: []) X.env = (false, eval a X.env) :: starEach [] X.env := by rfl) (hpl : (backTo pos (starEach [] X.env)).any (·.1) = false := by rfl) :
    PS X (.Raise (some (.Call (.Name x p) [a] [] pos)) none pos2) (fun _ σ H => tMkE C ta σ H fun cls d H' => W cls d σ H') := ps_raise hc tk (pmk_err T hr ha hg hdb he hpl)
end
end XL
namespace XL
open PySem PySem.W PySem.Calls PyProof.Rows PySem.HandSPX L2
theorem xv_ok {P : Program} {w : World} {H : Hp} {h : Heap} {a : Addr} {cls : Value} {d : Option Addr} {oe : Obj} {vs : Array Value} (e : h.get? a = some oe) (z : Zc cls d oe) (f : oe.data = .fields vs) : ObjOk P w H h a (XV a cls d) := by
  unfold XV ObjOk
  refine ⟨⟨oe, vs, e, z, f⟩, ⟨oe, e⟩, fun h1 h2 p k => ?_⟩
  obtain ⟨oe, vs, e, r⟩ := p
  exact ⟨oe, vs, k _ e, r⟩
theorem xv_get {P : Program} {w : World} {H : Hp} {h : Heap} {a : Addr} {cls : Value} {d : Option Addr} (k : HOk P w H h) (e : H a = some (XV a cls d)) : ∃ oe vs, h.get? a = some oe ∧ Zc cls d oe ∧ oe.data = .fields vs := by
  have := k a _ e
  unfold XV ObjOk at this
  exact this.1
theorem paired_imp {α β : Type} {R R' : α → β → Prop} (k : ∀ x y, R x y → R' x y) : ∀ {xs : List α} {ys : List β}, Paired R xs ys → Paired R' xs ys
  | _, _, .nil => .nil
  | _, _, .cons h t => .cons (k _ _ h) (paired_imp k t)
theorem objOk_give {P : Program} {w : World} {H : Hp} {h : Heap} {a b : Addr} {o u : HO} (hn : H a = none) (k : ObjOk P w H h b u) : ObjOk P w (upd H a o) h b u := by
  have up : ∀ {c : Addr} {z : HO}, H c = some z → upd H a o c = some z := fun {c z} e => by
    rw [upd_ne (fun q => by rw [q, hn] at e; cases e)]; exact e
  induction u with
  | dT kvs =>
    obtain ⟨h1, h2, xs, h3, r⟩ := k
    refine ⟨h1, h2, xs, ?_, r⟩
    exact paired_imp (fun p q ⟨y1, y2, y3⟩ => ⟨y1, up y2, y3⟩) h3
  | ins C dx fs =>
    obtain ⟨h1, r⟩ := k
    exact ⟨up h1, r⟩
  | frz o u ih => exact ⟨k.1, ih k.2⟩
  | lst xs => exact k
  | tup xs => exact k
  | dK xs => exact k
  | set S n => exact k
  | own x => exact k
  | xd fs => exact k
  | rng lo hi => exact k
  | tbl ps => exact k
  | met f x => exact k
  | ext φ => exact k
theorem inv_give {X : Cx} {pins : List (Addr × Obj)} {σ : L2.St} {H : Hp} {s : Shared} {a : Addr} {o : HO} (I : L2.Inv X pins σ H s) (hn : H a = none) (hnb : ∀ xs, o ≠ HO.tbl xs) (h0 : X.s_0.heap.get? a = none) (nL : a ≠ X.env.locals) (nC : ∀ v, ¬ s.heap.IsCell a v)
    (nP : ∀ p ∈ X.pn ++ pins, p.1 ≠ a) (ob : ObjOk X.prog X.w (upd H a o) s.heap a o) : L2.Inv X pins σ (upd H a o) s := by
  refine ⟨I.ok, I.os, I.bare, ⟨I.base.keep, I.base.slot, fun b u e f g => ?_, I.base.there, fun b xs e => ?_, fun b u z e => ?_, fun b ps e => ?_⟩, I.loc, I.cell, ?_, fun x c e => ?_, fun p hp => ?_, fun b u e => ?_, I.len⟩
  · by_cases q : b = a
    · rw [q, h0] at e; cases e
    · rw [upd_ne q]; exact I.base.free b u e f g
  · have z := I.base.tups b xs e
    rw [upd_ne (fun q => by rw [q, hn] at z; cases z)]; exact z
  · have y := I.base.frzs b u z e
    rw [upd_ne (fun q => by rw [q, hn] at y; cases y)]; exact y
  · obtain ⟨more, y⟩ := I.base.tbls b ps e
    exact ⟨more, by rw [upd_ne (fun q => by rw [q, hn] at y; cases y)]; exact y⟩
  · rw [upd_ne (Ne.symm nL)]; exact I.free
  · rw [upd_ne (fun q => ?_)]
    · exact I.freeC x c e
    · obtain ⟨v, hv⟩ := I.cell x c e
      rw [q] at hv; exact nC v hv
  · obtain ⟨p1, p2, r⟩ := I.pin p hp
    exact ⟨p1, by rw [upd_ne (nP p hp)]; exact p2, r⟩
  · by_cases q : b = a
    · rw [q, upd_same] at e
      cases e
      rw [q]; exact ob
    · rw [upd_ne q] at e
      exact objOk_give hn (I.hok b u e)
end XL
namespace XL
open PySem PySem.W PySem.Calls PyProof.Rows PySem.HandSPX L2
def endsV (i : Nat) (a : Addr) (cls : Value) (d : Option Addr) (D : Ends) : Ends :=
  { nx := fun σ' H' => D.nx (σ'.set i none) (upd H' a (XV a cls d)), rt := fun v H' => D.rt v (upd H' a (XV a cls d)), bk := fun σ' H' => D.bk (σ'.set i none) (upd H' a (XV a cls d)), ct := fun σ' H' => D.ct (σ'.set i none) (upd H' a (XV a cls d)) }
def wAsV (K : Frag) (c : Value) (i : Nat) (ts : Addr → Value → Option Addr → TS) (Wout : WX) (D : Ends) : WX := fun cls d σ H =>
  ∃ b, exmOne K cls c = some b ∧ (b = true → ∀ a, H a = none → ts a cls d (endsV i a cls d D) (σ.set i (some (.ref a))) H) ∧ (b = false → Wout cls d σ H)
theorem ps_try_asV {X : Cx} {x n : Str} {c : Value} {i : Nat} {body suite : List Stmt} {b₀ : Stmt} {np pos pos' : Pos} {tb : WX → TS} {ts : Addr → Value → Option Addr → TS} {Wout : WX}
    (hs : X.stack = X.env :: X.outer) (hf : X.env.frame = some X.env.locals) (hex : X.ex = []) (hN : X.N.Nodup) (hi : X.N[i]? = some n) (hln : X.env.kindOf n = some .local) (hc : Names X x c) (tk : Takes X Wout)
    (hb : ∀ (W : WX) (pn : List (Addr × Obj)) (xe : Value → Shared → Prop), Takes (X.tr pn xe) W → PassesOwn (model X.prog X.w) X.A X.env xe → PSs (X.tr pn xe) body (tb W))
    (hsu : ∀ (a : Addr) (oe : Obj) (cls : Value) (d : Option Addr) (pn : List (Addr × Obj)), Zc cls d oe → (∃ vs, oe.data = .fields vs) → PSs (X.suite a ((a, oe) :: pn)) (b₀ :: suite) (ts a cls d)) :
    PS X (.Try body [.ExceptHandler (some (.Name x np)) (some n) (b₀ :: suite) pos'] [] [] pos) (fun D σ H => tb (wAsV X.K c i ts Wout D) D σ H) := ⟨fun pins s σ H D I h => by
  have ok := I.ok
  have hfr : X.A.frames = some (X.env :: X.outer) := by rw [ok.frames, hs]
  have hloc : X.env.kindOf n = some .local ∨ X.env.kindOf n = some .cell := Or.inl hln
  refine wpAny_Try_except (wpAny_mono ((hb (wAsV X.K c i ts Wout D) (X.pn ++ pins) (fun e s₁ => wpAny (model X.prog X.w) X.A (noteFrame e X.env) (fun _ s₂ => wpAny (model X.prog X.w) X.A (setFlight e none) (fun _ s₃ =>
    wpAny (model X.prog X.w) X.A (handleBy e X.env [.ExceptHandler (some (.Name x np)) (some n) (b₀ :: suite) pos']) (SP X pins D) X.xe s₃) X.xe s₂) X.xe s₁) ?_ PassesOwn.looking).run [] s σ H D (I.toTry _) h) (fun f s1 hsp => ?_) (fun e s1 he => he))
  · intro u s' xx
    obtain ⟨a, B, sI, pins', σ', H', cls, d, rfl, J', nb, up, sky, na, os, ag, b, hb1, hyes, hno⟩ := xx
    have J := J'.ofTry ok
    have sky' : Sky B (X.env :: X.outer) a (Zc cls d) X.env.locals s'.heap := by rw [← hs]; exact sky
    refine Sky.land Zc.steady hfr hf sky' fun h3 fl3 up3 => ?_
    have J3 := J.landed (s' := ⟨h3, s'.gens, s'.drawn, s'.toks, s'.os⟩) nb fl3.1 (up.trans up3) os ag
    obtain ⟨oe3, vs3, he3, hz3, hd3⟩ := fl3.there
    have ha0 : B.get? a = none := fl3.2.1
    have nfr : a ∉ frs (X.env :: X.outer) := fun hm => by
      obtain ⟨_, o', e', hnf⟩ := fl3.2.2.1.mem hm
      rw [he3] at e'; cases e'
      exact hnf _ hd3
    have nL : a ≠ X.env.locals := fun z => nfr (List.mem_filterMap.mpr ⟨X.env, List.mem_cons_self, by rw [hf, z]⟩)
    have nF : a ∉ X.fs := fun hm => by
      obtain ⟨e, he, q⟩ := List.mem_filterMap.mp hm
      exact nfr (List.mem_filterMap.mpr ⟨e, List.mem_cons_of_mem _ he, q⟩)
    have nfr' : a ∉ frs X.stack := by rw [hs]; exact nfr
    have hsI : sI.heap.get? a = none := by
      cases e : sI.heap.get? a with
      | none => rfl
      | some o => have := nb a o e nfr'; rw [ha0] at this; cases this
    have hs0 : X.s_0.heap.get? a = none := by
      cases e : X.s_0.heap.get? a with
      | none => rfl
      | some o =>
        obtain ⟨o', q⟩ := J.base.there a o e (by rw [hex]; exact List.not_mem_nil)
        rw [hsI] at q; cases q
    have hpn : ∀ p ∈ X.pn ++ pins, p.1 ≠ a := fun p hp z => by
      have q := (J.pin p hp).1
      rw [z, hsI] at q; cases q
    have S3 := J3.suite he3 hd3 na nL nF
    refine wpAny_handleBy_cons (codeAny_handlers_test ?_) ?_
    · have LT : ∀ A Q E s, (∀ b o, h3.get? b = some o → s.heap.get? b = some o) → Q cls s → wpAny (model X.prog X.w) A (typeOf (Value.ref a)) Q E s := fun A Q E s k q => wpAny_typeOf_ref (k a oe3 he3) (by rw [hz3.1]; exact q)
      have LM := W.exm_one J3.kIn LT hb1
      have test : ∀ {Q : Value → Shared → Prop} {E : Value → Shared → Prop}, Q c ⟨h3, s'.gens, s'.drawn, s'.toks, s'.os⟩ → wpAny (model X.prog X.w) (X.A.mark (some (Value.ref a))) (eval (.Name x np) X.env) Q E ⟨h3, s'.gens, s'.drawn, s'.toks, s'.os⟩ := fun {Q E} q => by
        obtain ⟨hg, hdbg, hm | ⟨hm, hv, hnn⟩⟩ := hc
        · exact ld_glob S3 hg hm q hdbg
        · exact ld_blt S3 hg hm hv q hnn hdbg
      refine test (LM.here ?_)
      cases b with
      | false =>
        refine wpAny_handleBy_nil ?_
        obtain ⟨k1, k2, k3, oe, vs, T, oT, ts', he, hz, hd, h1, hr⟩ := id fl3
        refine wpAny_bind (wpAny_field he hd h1 ?_)
        rw [if_neg (by simp)]
        refine wpAny_bind ?_
        show wpAny _ _ (setFlight (Value.ref a) X.env.frame) _ _ _
        rw [hf]
        refine HandSPX.setFlight_upZ fl3 fun h4 hh4 up4 => wpAny_throw (tk _ _ ⟨a, B, sI, pins, σ', H', cls, d, rfl, J, nb, (up.trans up3).trans up4, .inr (.inr ?_), na, os, ag, hno rfl⟩)
        rw [hs]; exact hh4
      | true =>
        refine codeAny_handlers_suite_as ?_
        refine HandSPX.lands_againZ fl3 fun h4 fl4 up4 => ?_
        have J4 := J.landed (s' := ⟨h4, s'.gens, s'.drawn, s'.toks, s'.os⟩) nb fl4.1 ((up.trans up3).trans up4) os ag
        obtain ⟨oe4, vs4, he4, hz4, hd4⟩ := fl4.there
        have S4 := J4.suite he4 hd4 na nL nF
        refine store_ok (X := X.suite a ((a, oe4) :: (X.pn ++ pins))) (v := .ref a) S4 hN hi hloc rfl (fun s5 S5 => ?_) (Or.inr hln)
        refine wpAny_mono ((hsu a oe4 cls d (X.pn ++ pins) hz4 ⟨vs4, hd4⟩).run [] s5 (σ'.set i (some (.ref a))) H' (endsV i a cls d D) S5 (hyes rfl a na)) (fun f s6 hsp => ?_) (fun _ _ z => z.elim)
        have giv : ∀ {σ6 : L2.St} {H6 : Hp} {s6 : Shared}, L2.Inv (X.suite a ((a, oe4) :: (X.pn ++ pins))) [] σ6 H6 s6 → L2.Inv X pins σ6 (upd H6 a (XV a cls d)) s6 := fun {σ6 H6 s6} S6 => by
          obtain ⟨p1, p2, p3, p4, p5⟩ := S6.pin (a, oe4) (List.mem_append_left _ List.mem_cons_self)
          refine inv_give (S6.unsuite ok) p2 (fun xs z => by cases z) hs0 nL (fun v hv => ?_) hpn (xv_ok p1 hz4 hd4)
          obtain ⟨o, y1, y2⟩ := hv
          rw [p1] at y1; cases y1
          exact p5 _ y2
        have end_ : ∀ {σ6 : L2.St} {H6 : Hp} {s6 : Shared} {Q : Unit → Shared → Prop}, L2.Inv (X.suite a ((a, oe4) :: (X.pn ++ pins))) [] σ6 H6 s6 → (∀ s7, L2.Inv X pins (σ6.set i none) (upd H6 a (XV a cls d)) s7 → Q () s7) → wpAny (model X.prog X.w) X.A (do bindName X.env n Value.none; unbindBehindTheSuite X.env n pos') Q X.xe s6 :=
          fun {σ6 H6 s6 Q} S6 hq => gone_ok (giv S6) hN hi hln hq
        cases f with
        | next => obtain ⟨σ6, H6, S6, q6⟩ := hsp; exact end_ S6 fun s7 J7 => ⟨_, _, J7, q6⟩
        | brk => obtain ⟨σ6, H6, S6, q6⟩ := hsp; exact end_ S6 fun s7 J7 => ⟨_, _, J7, q6⟩
        | cont => obtain ⟨σ6, H6, S6, q6⟩ := hsp; exact end_ S6 fun s7 J7 => ⟨_, _, J7, q6⟩
        | ret u => obtain ⟨v6, σ6, H6, S6, r6, q6⟩ := hsp; exact end_ S6 fun s7 J7 => ⟨v6, _, _, J7, r6, q6⟩
    · intro q
      cases q
  · cases f with
    | next => obtain ⟨σ', H', J', q⟩ := hsp; exact wpAny_execs_nil ⟨σ', H', J'.ofTry ok, q⟩
    | brk => obtain ⟨σ', H', J', q⟩ := hsp; exact ⟨σ', H', J'.ofTry ok, q⟩
    | cont => obtain ⟨σ', H', J', q⟩ := hsp; exact ⟨σ', H', J'.ofTry ok, q⟩
    | ret u => obtain ⟨v, σ', H', J', r, q⟩ := hsp; exact ⟨v, σ', H', J'.ofTry ok, r, q⟩⟩
end XL
namespace XL
open PySem PySem.W PySem.Calls PyProof.Rows PySem.HandSPX L2
section
variable {X : Cx} {C : Addr}
theorem xv_inst {pins : List (Addr × Obj)} {σ : L2.St} {H : Hp} {s : Shared} {a dd : Addr} {fs : List (Str × V)} (I : L2.Inv X pins σ H s) (e : H a = some (XV a (.ref C) (some dd))) (ed : H dd = some (.xd fs)) :
    ∃ oe od mA, InstAt s.heap a oe C (some od) ∧ s.heap.get? dd = some od ∧ s.heap.Ns1 dd mA ∧ ∀ f, RelO (fs.lookup f) (mA f) := by
  obtain ⟨oe, vs, h1, z, h2⟩ := xv_get I.hok e
  have hx : ObjOk X.prog X.w H s.heap dd (.xd fs) := I.hok dd _ ed
  obtain ⟨mA, hns, hr⟩ := hx
  obtain ⟨od, ho, hl⟩ := lookIn_ns hns
  refine ⟨oe, od, mA, ⟨h1, z.1, by unfold PySem.W.notCls; rw [h2] <;> rfl, by rw [z.2]; exact ho⟩, ho, hns, hr⟩
theorem call_isV (c : V) (cv : Value) (hcv : ∀ u, RelV c u → u = cv) : CallR X (.builtin "isinstance") (fun xs H Q => ∃ a C dd fs b, xs = [.ref a, c] ∧ ErV X.K C ∧ H a = some (XV a (.ref C) (some dd)) ∧ H dd = some (.xd fs) ∧ kitOne X.K (.ref C) cv = some b ∧ Q (.bl b) H) := by
  intro pins s σ H xs us Q I r h
  obtain ⟨a, C, dd, fs, b, rfl, E, ea, ed, hk, q⟩ := h
  obtain ⟨oe, od, mA, J, _⟩ := xv_inst I ea ed
  cases r with
  | cons r1 r2 =>
    cases r2 with
    | cons r3 r4 =>
      cases r4
      obtain rfl : _ = Value.ref a := r1
      obtain rfl := hcv _ r3
      exact kia_one (kitx_exc E.cl E.ga E.gg E.exC E.ha E.hn E.ht E.hm) I.kIn J hk (by intro z; cases z) fun tk => ⟨.bl b, H, I.kept fun _ _ z => z, rfl, q⟩
theorem pe_valV {e : Expr} {te : TE} {pos : Pos} {n : Str} (he : PE X e te) (hb : attributeBase e n X.env (eval e X.env) = eval e X.env) :
    PE X (.Attribute e n pos) (fun σ H Q => te σ H fun x H1 => ∃ (a C dd : Addr) (fs : List (Str × V)) (v : V), x = .ref a ∧ ErV X.K C ∧ findIn X.K (.ref C) n = some none ∧ H1 a = some (XV a (.ref C) (some dd)) ∧ H1 dd = some (.xd fs) ∧ fs.lookup n = some v ∧ Q v H1) := by
  refine ⟨fun pins s σ H Q I h => ?_⟩
  refine attr_of hb (thn (he.run pins s σ H _ I h) fun u s1 hh => ?_)
  obtain ⟨x, H1, I1, rx, a, C, dd, fs, v, rfl, E, hno, ea, ed, hl, q⟩ := hh
  obtain rfl : u = Value.ref a := rx
  obtain ⟨oe, od, mA, J, ho, hns, hr⟩ := xv_inst I1 ea ed
  obtain ⟨od', ho', hlo⟩ := lookIn_ns hns
  rw [ho] at ho'; cases ho'
  obtain ⟨u, hu, ru⟩ := RelO.some_of (v := v) (o := mA n) (by rw [← hl]; exact hr n)
  exact HandSPX.exc_get I1.kIn J E.ga E.gg E.exC (PySem.W.findObj_own E.hdC hno rfl (by rw [hlo, hu])) (handed_of ru) ⟨v, H1, I1.tok _, ru, q⟩
end
end XL
namespace XL
open PySem PySem.W PySem.Calls PyProof.Rows PySem.HandSPX L2 LamX
theorem lamO_ok {P : Program} {w : World} {H : Hp} {h : Heap} {f : Addr} {q : Str} {params : Arguments} {body : Expr} {scope : Scope} {cells : List (Str × Addr)} {c' : Addr} {pm ctv : Value} (e : h.get? f = some (W.kla_obj "<lambda>" q params body scope cells pm c' ctv)) : ObjOk P w H h f (LamO f q params body scope cells c') := by
  unfold LamO ObjOk
  refine ⟨⟨pm, ctv, e⟩, ⟨_, e⟩, fun h1 h2 p k => ?_⟩
  obtain ⟨pm, ctv, e⟩ := p
  exact ⟨pm, ctv, k _ e⟩
theorem lamO_get {P : Program} {w : World} {H : Hp} {h : Heap} {f : Addr} {q : Str} {params : Arguments} {body : Expr} {scope : Scope} {cells : List (Str × Addr)} {c' : Addr} (k : HOk P w H h) (e : H f = some (LamO f q params body scope cells c')) : ∃ pm ctv, h.get? f = some (W.kla_obj "<lambda>" q params body scope cells pm c' ctv) := by
  have := k f _ e
  unfold LamO ObjOk at this
  exact this.1
theorem give_lam {X : Cx} {pins : List (Addr × Obj)} {σ : L2.St} {H H1 : Hp} {s s1 : Shared} {f : Addr} {q : Str} {params : Arguments} {body : Expr} {scope : Scope} {cells : List (Str × Addr)} {c' : Addr} {pm ctv : Value} (I : L2.Inv X pins σ H s) (I1 : L2.Inv X pins σ H1 s1) (hex : X.ex = []) (hf : s.heap.objs.size ≤ f) (hn : H1 f = none)
    (e : s1.heap.get? f = some (W.kla_obj "<lambda>" q params body scope cells pm c' ctv)) : L2.Inv X pins σ (upd H1 f (LamO f q params body scope cells c')) s1 := by
  have old : ∀ b o, s.heap.get? b = some o → b ≠ f := fun b o k z => by
    have := Heap.lt_size k
    rw [z] at this
    exact absurd this (Nat.not_lt.mpr hf)
  refine inv_give I1 hn (fun xs z => by cases z) ?_ (fun z => ?_) (fun v hv => ?_) (fun p hp => old p.1 p.2 (I.pin p hp).1) (lamO_ok e)
  · cases k : X.s_0.heap.get? f with
    | none => rfl
    | some o =>
      obtain ⟨o', k'⟩ := I.base.there f o k (by rw [hex]; exact List.not_mem_nil)
      exact absurd rfl (old f o' k')
  · have := I.lt
    rw [← z] at this
    exact absurd this (Nat.not_lt.mpr hf)
  · obtain ⟨o, y1, y2⟩ := hv
    rw [e] at y1; cases y1
    cases y2
end XL
namespace DL
open PySem L2
def mset (M : Mp) (a : Addr) (o : MO) : Mp := fun b => if b = a then some o else M b
def mdel (M : Mp) (a : Addr) : Mp := fun b => if b = a then none else M b
theorem mset_same {M : Mp} {a : Addr} {o : MO} : mset M a o a = some o := if_pos rfl
theorem mset_ne {M : Mp} {a b : Addr} {o : MO} (h : b ≠ a) : mset M a o b = M b := if_neg h
theorem mdel_same {M : Mp} {a : Addr} : mdel M a a = none := if_pos rfl
theorem mdel_ne {M : Mp} {a b : Addr} (h : b ≠ a) : mdel M a b = M b := if_neg h
theorem mset_mset {M : Mp} {a : Addr} {o u : MO} : mset (mset M a o) a u = mset M a u := by
  funext b; unfold mset; split <;> rfl
theorem mdel_mset {M : Mp} {a : Addr} {o : MO} (h : M a = none) : mdel (mset M a o) a = M := by
  funext b; unfold mdel
  by_cases e : b = a
  · rw [if_pos e, e, h]
  · rw [if_neg e, mset_ne e]
section
variable {K : PySem.W.Frag} {M M' : Mp} {Z : Zn} {H H' : Hp}
theorem Rep.mono (e : Ext M Z H M' H') {v : V} {d : D} (r : Rep K M Z H v d) : Rep K M' Z H' v d := r.monoI e.i
theorem RepO.mono (e : Ext M Z H M' H') {v : List (Option V)} {d : List (Option D)} (r : RepO K M Z H v d) : RepO K M' Z H' v d := r.monoI e.i
theorem Reps.mono (e : Ext M Z H M' H') {v : List V} {d : List D} (r : Reps K M Z H v d) : Reps K M' Z H' v d := r.monoI e.i
theorem RepK.mono (e : Ext M Z H M' H') {v : List (Key × V)} {d : List (Key × D)} (r : RepK K M Z H v d) : RepK K M' Z H' v d := r.monoI e.i
theorem RepT.mono (e : Ext M Z H M' H') {v : List (List Key × V)} {d : List (List Key × D)} (r : RepT K M Z H v d) : RepT K M' Z H' v d := r.monoI e.i
theorem RepF.mono (e : Ext M Z H M' H') {v : List (Str × V)} {d : List (Str × D)} (r : RepF K M Z H v d) : RepF K M' Z H' v d := r.monoI e.i
end
theorem Reps.append {K : PySem.W.Frag} {M : Mp} {Z : Zn} {H : Hp} : ∀ {vs ws : List V} {ds es : List D}, Reps K M Z H vs ds → Reps K M Z H ws es → Reps K M Z H (vs ++ ws) (ds ++ es)
  | _, _, _, _, .nil, s => s
  | _, _, _, _, .cons r t, s => .cons r (Reps.append t s)
theorem Reps.ints {K : PySem.W.Frag} {M : Mp} {Z : Zn} {H : Hp} : ∀ {vs : List V} {ns : List Int}, Reps K M Z H vs (ns.map D.int) → vs = ns.map V.int
  | _, [], .nil => rfl
  | _, _ :: _, .cons (.int _) t => by rw [List.map_cons, Reps.ints t]
theorem Reps.ofInts {K : PySem.W.Frag} {M : Mp} {Z : Zn} {H : Hp} : ∀ (ns : List Int), Reps K M Z H (ns.map V.int) (ns.map D.int)
  | [] => .nil
  | _ :: r => .cons (.int _) (Reps.ofInts r)
theorem Reps.bls {K : PySem.W.Frag} {M : Mp} {Z : Zn} {H : Hp} : ∀ {vs : List V} {ns : List Bool}, Reps K M Z H vs (ns.map D.bl) → vs = ns.map V.bl
  | _, [], .nil => rfl
  | _, _ :: _, .cons (.bl _) t => by rw [List.map_cons, Reps.bls t]
theorem Reps.strs {K : PySem.W.Frag} {M : Mp} {Z : Zn} {H : Hp} : ∀ {vs : List V} {ns : List Str}, Reps K M Z H vs (ns.map D.str) → vs = ns.map V.str
  | _, [], .nil => rfl
  | _, _ :: _, .cons (.str _) t => by rw [List.map_cons, Reps.strs t]
theorem Wd.fresh {K : PySem.W.Frag} {M : Mp} {Z : Zn} {H : Hp} (w : Wd K M Z H) {a : Addr} (h : H a = none) : Im M Z a := by
  refine ⟨?_, fun z => ?_⟩
  · cases e : M a with
    | none => rfl
    | some o =>
      obtain ⟨u, q⟩ := (w.1 a o e).there
      rw [h] at q; cases q
  · obtain ⟨_, u, q⟩ := w.2 a z
    rw [h] at q; cases q
section
variable {K : PySem.W.Frag} {M : Mp} {Z : Zn} {H : Hp} {p : Addr} {o : HO} {u v : MO}
theorem Wd.zne (w : Wd K M Z H) (h : H p = none) : ∀ b, Z b → b ≠ p := fun b z e => by
  obtain ⟨_, u, q⟩ := w.2 b z
  rw [e, h] at q; cases q
theorem Wd.zneM (w : Wd K M Z H) (h : M p = some v) : ∀ b, Z b → b ≠ p := fun b z e => by
  have q := (w.2 b z).1
  rw [e, h] at q; cases q
/-- a new immutable object -/
theorem Ext.new (w : Wd K M Z H) (h : H p = none) : Ext M Z H M (upd H p o) := ⟨fun b u q m => ⟨by rw [upd_ne (ne_of_none q h)]; exact q, m⟩, fun b z => ⟨upd_ne (w.zne h b z), rfl⟩⟩
theorem Wd.new (w : Wd K M Z H) (h : H p = none) : Wd K M Z (upd H p o) := ⟨fun a u e => by
  obtain ⟨z, q⟩ := (w.1 a u e).there
  exact (w.1 a u e).step (Ext.new w h) (upd_ne (ne_of_none q h)), fun b z => by
  obtain ⟨m, u, q⟩ := w.2 b z
  exact ⟨m, u, by rw [upd_ne (w.zne h b z)]; exact q⟩⟩
/-- a new mutable object -/
theorem Ext.newM (w : Wd K M Z H) (h : H p = none) : Ext M Z H (mset M p u) (upd H p o) := ⟨fun b z q m => ⟨by rw [upd_ne (ne_of_none q h)]; exact q, by rw [mset_ne (ne_of_none q h)]; exact m.1, m.2⟩, fun b z => ⟨upd_ne (w.zne h b z), mset_ne (w.zne h b z)⟩⟩
theorem Wd.newM (w : Wd K M Z H) (h : H p = none) (r : RepM K (mset M p u) Z (upd H p o) p u) : Wd K (mset M p u) Z (upd H p o) := ⟨fun a z e => by
  by_cases ha : a = p
  · subst ha; rw [mset_same] at e; cases e; exact r
  · rw [mset_ne ha] at e
    exact (w.1 a z e).step (Ext.newM w h) (upd_ne ha), fun b z => by
  obtain ⟨m, u, q⟩ := w.2 b z
  exact ⟨by rw [mset_ne (w.zne h b z)]; exact m, u, by rw [upd_ne (w.zne h b z)]; exact q⟩⟩
/-- a mutable object changed -/
theorem Ext.put (w : Wd K M Z H) (h : M p = some v) : Ext M Z H (mset M p u) (upd H p o) := ⟨fun b z q m => by
  have n : b ≠ p := fun e => by have m := m.1; rw [e, h] at m; cases m
  exact ⟨by rw [upd_ne n]; exact q, by rw [mset_ne n]; exact m.1, m.2⟩, fun b z => ⟨upd_ne (w.zneM h b z), mset_ne (w.zneM h b z)⟩⟩
theorem Wd.put (w : Wd K M Z H) (h : M p = some v) (r : RepM K (mset M p u) Z (upd H p o) p u) : Wd K (mset M p u) Z (upd H p o) := ⟨fun a z e => by
  by_cases ha : a = p
  · subst ha; rw [mset_same] at e; cases e; exact r
  · rw [mset_ne ha] at e
    exact (w.1 a z e).step (Ext.put w h) (upd_ne ha), fun b z => by
  obtain ⟨m, u, q⟩ := w.2 b z
  exact ⟨by rw [mset_ne (w.zneM h b z)]; exact m, u, by rw [upd_ne (w.zneM h b z)]; exact q⟩⟩
end
theorem EnvR.mono {K : PySem.W.Frag} {M M' : Mp} {Z : Zn} {H H' : Hp} (e : Ext M Z H M' H') {σ : St} {ρ : Rho} (r : EnvR K M Z H σ ρ) : EnvR K M' Z H' σ ρ := r.monoI e.i
theorem EnvR.unset {K : PySem.W.Frag} {M : Mp} {Z : Zn} {H : Hp} {o : Option V} : ∀ {σ : St} {ρ : Rho} (i : Nat), EnvR K M Z H σ ρ → EnvR K M Z H (σ.set i o) (ρ.set i .none)
  | _, _, _, .nil => .nil
  | _, _, 0, .val _ t => .any t
  | _, _, 0, .any t => .any t
  | _, _, i + 1, .val q t => .val q (EnvR.unset i t)
  | _, _, i + 1, .any t => .any (EnvR.unset i t)
theorem EnvR.start {K : PySem.W.Frag} {M : Mp} {Z : Zn} {H : Hp} {σ : St} {ρ : Rho} (t : EnvR K M Z H σ ρ) : ∀ {vs : List V} {ds : List D}, Reps K M Z H vs ds → EnvR K M Z H (vs.map Option.some ++ σ) (ds.map Option.some ++ ρ)
  | _, _, .nil => t
  | _, _, .cons r q => .val r (EnvR.start t q)
/-- the slots at a def's entry -/
def start (N : List Str) (ds : List D) : Rho := ds.map some ++ List.replicate (N.length - ds.length) none
theorem env_start {K : PySem.W.Frag} {M : Mp} {Z : Zn} {H : Hp} {N : List Str} {vs : List V} {ds : List D} (r : Reps K M Z H vs ds) : EnvR K M Z H (L2.start N vs) (start N ds) := by
  unfold L2.start start
  rw [r.length]
  exact EnvR.start (EnvR.empty _) r
end DL
namespace DL
open PySem L2
section
variable (X : Cx)
def eSem (e : Expr) : TE := fun σ H Q => ∀ pins s, Inv X pins σ H s → wpAny (model X.prog X.w) X.A (eval e X.env) (EP X pins σ Q) X.xe s
def tSem (e : Expr) : TT := fun σ H Q => ∀ pins s, Inv X pins σ H s → wpAny (model X.prog X.w) X.A (isTrue e X.env (eval e X.env)) (TP X pins σ Q) X.xe s
def wSem (e : Expr) : TT := fun σ H Q => ∀ (whole : Sem Value) pins s, Inv X pins σ H s → wpAny (model X.prog X.w) X.A (isTrue e X.env whole) (TP X pins σ Q) X.xe s
def aSem (es : List Expr) : TA := fun σ H Q => ∀ pos pins s, Inv X pins σ H s → wpAny (model X.prog X.w) X.A (spliced (backTo pos (starEach es X.env))) (AP X pins σ Q) X.xe s
def sSem (st : Stmt) : TS := fun D σ H => ∀ pins s, Inv X pins σ H s → wpAny (model X.prog X.w) X.A (exec st X.env) (SP X pins D) X.xe s
def ssSem (st : List Stmt) : TS := fun D σ H => ∀ pins s, Inv X pins σ H s → wpAny (model X.prog X.w) X.A (execs st X.env) (SP X pins D) X.xe s
def gSem (tg : Expr) : TG := fun v σ H Q => ∀ pins s u, Inv X pins σ H s → RelV v u → wpAny (model X.prog X.w) X.A (assign tg X.env u) (fun _ s' => ∃ σ' H', Inv X pins σ' H' s' ∧ Q σ' H') X.xe s
def gsSem (ts : List Expr) : TGs := fun vs σ H Q => ∀ pins s us, Inv X pins σ H s → Vals vs us → wpAny (model X.prog X.w) X.A (assignInOrder ((assignEach ts X.env).map (·.2)) us) (fun _ s' => ∃ σ' H', Inv X pins σ' H' s' ∧ Q σ' H') X.xe s
def iSem (tg iter : Expr) : TI := fun σ H R => ∀ pins s, Inv X pins σ H s → wpAny (model X.prog X.w) X.A (eval iter X.env) (fun v s1 => wpAny (model X.prog X.w) X.A (pyIter v) (PIE X pins σ tg R) X.xe s1) X.xe s
end
section
variable {X : Cx} {e tg : Expr} {es : List Expr} {st : Stmt} {sts : List Stmt} {σ : L2.St} {H : Hp}
theorem pe_sem : PE X e (eSem X e) := ⟨fun pins s σ H Q I h => h pins s I⟩
theorem pt_sem : PT X e (tSem X e) := ⟨fun pins s σ H Q I h => h pins s I⟩
theorem pw_sem : PW X e (wSem X e) := ⟨fun wh pins s σ H Q I h => h wh pins s I⟩
theorem pa_sem : PA X es (aSem X es) := ⟨fun pos pins s σ H Q I h => h pos pins s I⟩
theorem ps_sem : PS X st (sSem X st) := ⟨fun pins s σ H D I h => h pins s I⟩
theorem pss_sem : PSs X sts (ssSem X sts) := ⟨fun pins s σ H D I h => h pins s I⟩
theorem pg_sem : PG X tg (gSem X tg) := ⟨fun pins s σ H v u Q I r h => h pins s u I r⟩
theorem pgs_sem : PGs X es (gsSem X es) := ⟨fun pins s σ H v u Q I r h => h pins s u I r⟩
theorem pi_sem : PI X tg e (iSem X tg e) := ⟨fun pins s σ H R I h => h pins s I⟩
theorem eOf {t : TE} {Q : VK} (h : PE X e t) (q : t σ H Q) : eSem X e σ H Q := fun pins s I => h.run pins s σ H Q I q
theorem tOf {t : TT} {Q : Bool → Hp → Prop} (h : PT X e t) (q : t σ H Q) : tSem X e σ H Q := fun pins s I => h.run pins s σ H Q I q
theorem wOf {t : TT} {Q : Bool → Hp → Prop} (h : PW X e t) (q : t σ H Q) : wSem X e σ H Q := fun wh pins s I => h.run wh pins s σ H Q I q
theorem aOf {t : TA} {Q : List V → Hp → Prop} (h : PA X es t) (q : t σ H Q) : aSem X es σ H Q := fun pos pins s I => h.run pos pins s σ H Q I q
theorem sOf {t : TS} {D : Ends} (h : PS X st t) (q : t D σ H) : sSem X st D σ H := fun pins s I => h.run pins s σ H D I q
theorem ssOf {t : TS} {D : Ends} (h : PSs X sts t) (q : t D σ H) : ssSem X sts D σ H := fun pins s I => h.run pins s σ H D I q
theorem gOf {t : TG} {v : V} {Q : L2.St → Hp → Prop} (h : PG X tg t) (q : t v σ H Q) : gSem X tg v σ H Q := fun pins s u I r => h.run pins s σ H v u Q I r q
theorem gsOf {t : TGs} {vs : List V} {Q : L2.St → Hp → Prop} (h : PGs X es t) (q : t vs σ H Q) : gsSem X es vs σ H Q := fun pins s u I r => h.run pins s σ H vs u Q I r q
end
section
variable {K : PySem.W.Frag} {M M1 : Mp} {Z : Zn} {H H1 : Hp}
theorem KE.now {Φ : D → Mp → Prop} {Q : VK} {v : V} {d : D} (k : KE K M Z H Φ Q) (w : Wd K M Z H) (r : Rep K M Z H v d) (h : Φ d M) : Q v H := k v d H M Ext.refl w r h
theorem KE.new {Φ : D → Mp → Prop} {Q : VK} {p : Addr} {o : HO} {d : D} (k : KE K M Z H Φ Q) (w : Wd K M Z H) (hp : H p = none) (r : Rep K M Z (upd H p o) (.ref p) d) (h : Φ d M) : Q (.ref p) (upd H p o) :=
  k _ d _ M (Ext.new w hp) (w.new hp) r h
theorem KT.now {Φ : Bool → Mp → Prop} {Q : Bool → Hp → Prop} {b : Bool} (k : KT K M Z H Φ Q) (w : Wd K M Z H) (h : Φ b M) : Q b H := k b H M Ext.refl w h
end
structure WE (X : Cx) (ρ : Rho) (M : Mp) (e : Expr) (Φ : D → Mp → Prop) : Prop where
  run : ∀ {Z : Zn} σ H (Q : VK), EnvR X.K M Z H σ ρ → Wd X.K M Z H → KE X.K M Z H Φ Q → eSem X e σ H Q
structure WT (X : Cx) (ρ : Rho) (M : Mp) (e : Expr) (Φ : Bool → Mp → Prop) : Prop where
  run : ∀ {Z : Zn} σ H (Q : Bool → Hp → Prop), EnvR X.K M Z H σ ρ → Wd X.K M Z H → KT X.K M Z H Φ Q → tSem X e σ H Q
structure WW (X : Cx) (ρ : Rho) (M : Mp) (e : Expr) (Φ : Bool → Mp → Prop) : Prop where
  run : ∀ {Z : Zn} σ H (Q : Bool → Hp → Prop), EnvR X.K M Z H σ ρ → Wd X.K M Z H → KT X.K M Z H Φ Q → wSem X e σ H Q
structure WA (X : Cx) (ρ : Rho) (M : Mp) (es : List Expr) (Φ : List D → Mp → Prop) : Prop where
  run : ∀ {Z : Zn} σ H (Q : List V → Hp → Prop), EnvR X.K M Z H σ ρ → Wd X.K M Z H → KA X.K M Z H Φ Q → aSem X es σ H Q
structure WS (X : Cx) (ρ : Rho) (M : Mp) (st : Stmt) (Ψ : DE) : Prop where
  run : ∀ {Z : Zn} σ H (E : Ends), EnvR X.K M Z H σ ρ → Wd X.K M Z H → KS X.K M Z H Ψ E → sSem X st E σ H
structure WSs (X : Cx) (ρ : Rho) (M : Mp) (st : List Stmt) (Ψ : DE) : Prop where
  run : ∀ {Z : Zn} σ H (E : Ends), EnvR X.K M Z H σ ρ → Wd X.K M Z H → KS X.K M Z H Ψ E → ssSem X st E σ H
structure WG (X : Cx) (tg : Expr) (d : D) (ρ : Rho) (M : Mp) (Φ : Rho → Mp → Prop) : Prop where
  run : ∀ {Z : Zn} σ H v (Q : L2.St → Hp → Prop), EnvR X.K M Z H σ ρ → Wd X.K M Z H → Rep X.K M Z H v d → KG X.K M Z H Φ Q → gSem X tg v σ H Q
structure WGs (X : Cx) (tg : List Expr) (ds : List D) (ρ : Rho) (M : Mp) (Φ : Rho → Mp → Prop) : Prop where
  run : ∀ {Z : Zn} σ H vs (Q : L2.St → Hp → Prop), EnvR X.K M Z H σ ρ → Wd X.K M Z H → Reps X.K M Z H vs ds → KG X.K M Z H Φ Q → gsSem X tg vs σ H Q
section
variable {X : Cx} {ρ : Rho} {M : Mp} {Φ : D → Mp → Prop} {e a b : Expr} {pos : Pos}
/-- weaken the end -/
theorem WE.imp {Φ' : D → Mp → Prop} (h : WE X ρ M e Φ') (k : ∀ d M', Φ' d M' → Φ d M') : WE X ρ M e Φ := .mk fun σ H Q en w q => h.run σ H Q en w fun v d H' M' x w' r z => q v d H' M' x w' r (k d M' z)
theorem WA.imp {es : List Expr} {Φ Φ' : List D → Mp → Prop} (h : WA X ρ M es Φ') (k : ∀ d M', Φ' d M' → Φ d M') : WA X ρ M es Φ := .mk fun σ H Q en w q => h.run σ H Q en w fun v d H' M' x w' r z => q v d H' M' x w' r (k d M' z)
theorem WT.imp {Φ Φ' : Bool → Mp → Prop} (h : WT X ρ M e Φ') (k : ∀ d M', Φ' d M' → Φ d M') : WT X ρ M e Φ := .mk fun σ H Q en w q => h.run σ H Q en w fun b H' M' x w' z => q b H' M' x w' (k b M' z)
theorem we_var (i : Nat) {x : Str} {d : D} (hr : ρ[i]? = some (some d)) (h : Φ d M) (hN : X.N[i]? = some x := by rfl) (hv : Vis X.env.scope x := by first | exact Or.inl rfl | exact Or.inr (Or.inl rfl) | exact Or.inr (Or.inr rfl))
    (hd : (x == ("__debug__" : Str)) = false := by decide) (hcd : (x == ("__classdict__" : Str)) = false := by decide) : WE X ρ M (.Name x pos) Φ := .mk fun σ H Q en w k => by
  obtain ⟨v, e1, r⟩ := en.get hr
  exact eOf (pe_var hN hv hd hcd) ⟨v, e1, k.now w r h⟩
theorem we_int {i : Int} {j : Nat} (h : Φ (.int i) M) : WE X ρ M (.Constant (.int i) j pos) Φ := .mk fun σ H Q en w k => eOf pe_int (k.now w (.int i) h)
theorem we_bl {i : Bool} {j : Nat} (h : Φ (.bl i) M) : WE X ρ M (.Constant (.bool i) j pos) Φ := .mk fun σ H Q en w k => eOf pe_bl (k.now w (.bl i) h)
theorem we_non {j : Nat} (h : Φ .non M) : WE X ρ M (.Constant .none j pos) Φ := .mk fun σ H Q en w k => eOf pe_non (k.now w .non h)
theorem we_str {i : Str} {j : Nat} (h : Φ (.str i) M) : WE X ρ M (.Constant (.str i) j pos) Φ := .mk fun σ H Q en w k => eOf pe_str (k.now w (.str i) h)
/-- a module's constant -/
theorem we_gint {x : Str} {i : Int} (hm : ∃ t, X.mg x = some (.int i t)) (h : Φ (.int i) M) (hg : Gl X x := by rfl) (hd : (x == ("__debug__" : Str)) = false := by decide) : WE X ρ M (.Name x pos) Φ := .mk fun σ H Q en w k => by
  obtain ⟨t, hm⟩ := hm
  exact eOf (pe_glob (v := .int i) hg hm ⟨t, rfl⟩ hd) (k.now w (.int i) h)
theorem we_gstr {x : Str} {i : Str} (hm : ∃ t, X.mg x = some (.str i t)) (h : Φ (.str i) M) (hg : Gl X x := by rfl) (hd : (x == ("__debug__" : Str)) = false := by decide) : WE X ρ M (.Name x pos) Φ := .mk fun σ H Q en w k => by
  obtain ⟨t, hm⟩ := hm
  exact eOf (pe_glob (v := .str i) hg hm ⟨t, rfl⟩ hd) (k.now w (.str i) h)
theorem we_gref {x : Str} {a : Addr} {d : D} (hm : X.mg x = some (.ref a)) (hr : ∀ M Z H, Rep X.K M Z H (.ref a) d) (h : Φ d M) (hg : Gl X x := by rfl) (hd : (x == ("__debug__" : Str)) = false := by decide) : WE X ρ M (.Name x pos) Φ := .mk fun σ H Q en w k =>
  eOf (pe_glob (v := .ref a) hg hm rfl hd) (k.now w (hr _ _ _) h)
/-- a built-in class as a value -/
theorem we_bty {x : Str} {n : String} (hm : X.mg x = none) (hv : bootBuiltins x = some (.type n)) (h : Φ (.ty n) M) (hg : Gl X x := by rfl) (hn : x ≠ "__name__" := by decide) (hd : (x == ("__debug__" : Str)) = false := by decide) : WE X ρ M (.Name x pos) Φ := .mk fun σ H Q en w k =>
  eOf (pe_bltn (v := .ty n) hg hm hv rfl hn hd) (k.now w (.ty n) h)
def RD (K : PySem.W.Frag) (r : R2) (x y : D) (M : Mp) (Φ : D → Mp → Prop) : Prop := ∀ (Z : Zn) v u H Q, Wd K M Z H → Rep K M Z H v x → Rep K M Z H u y → KE K M Z H Φ Q → r v u H Q
def RU (K : PySem.W.Frag) (r : V → Hp → VK → Prop) (x : D) (M : Mp) (Φ : D → Mp → Prop) : Prop := ∀ (Z : Zn) v H Q, Wd K M Z H → Rep K M Z H v x → KE K M Z H Φ Q → r v H Q
def RC (K : PySem.W.Frag) (r : List V → Hp → VK → Prop) (xs : List D) (M : Mp) (Φ : D → Mp → Prop) : Prop := ∀ (Z : Zn) vs H Q, Wd K M Z H → Reps K M Z H vs xs → KE K M Z H Φ Q → r vs H Q
theorem bind2 {Ψ : D → D → Mp → Prop} (h : WE X ρ M a fun x M1 => WE X ρ M1 b fun y M2 => Ψ x y M2) {Z : Zn} {σ : L2.St} {H : Hp} {R : V → V → Hp → Prop} (en : EnvR X.K M Z H σ ρ) (w : Wd X.K M Z H)
    (k : ∀ v u x y H2 M2, Ext M Z H M2 H2 → Wd X.K M2 Z H2 → Rep X.K M2 Z H2 v x → Rep X.K M2 Z H2 u y → Ψ x y M2 → R v u H2) : eSem X a σ H fun x H1 => eSem X b σ H1 fun y H2 => R x y H2 :=
  h.run σ H _ en w fun v x H1 M1 e1 w1 r1 hb => hb.run σ H1 _ (en.mono e1) w1 fun u y H2 M2 e2 w2 r2 hr => k v u x y H2 M2 (e1.trans e2) w2 (r1.mono e2) r2 hr
theorem we_op {op : Operator} {r : R2} (ho : OpR X (binaryOp op) r) (h : WE X ρ M a fun x M1 => WE X ρ M1 b fun y M2 => RD X.K r x y M2 Φ) : WE X ρ M (.BinOp a op b pos) Φ := .mk fun σ H Q en w k =>
  eOf (pe_op ho pe_sem pe_sem) (bind2 h en w fun v u x y H2 M2 e w2 r1 r2 hr => hr _ v u H2 Q w2 r1 r2 (k.step e))
theorem we_cmp {op : CmpOp} {r : R2} (ho : OpR X (compareOp op) r) (hm : behindInMarks op b = false) (h : WE X ρ M a fun x M1 => WE X ρ M1 b fun y M2 => RD X.K r x y M2 Φ) : WE X ρ M (.Compare a [op] [b] pos) Φ := .mk fun σ H Q en w k =>
  eOf (pe_cmpR ho pe_sem pe_sem hm) (bind2 h en w fun v u x y H2 M2 e w2 r1 r2 hr => hr _ v u H2 Q w2 r1 r2 (k.step e))
theorem we_un {op : UnaryOp} {r : V → Hp → VK → Prop} (ho : UnR X (unaryOp op) r) (h : WE X ρ M a fun x M1 => RU X.K r x M1 Φ) : WE X ρ M (.UnaryOp op a pos) Φ := .mk fun σ H Q en w k =>
  eOf (pe_un ho pe_sem) (h.run σ H _ en w fun v x H1 M1 e1 w1 r1 hr => hr _ v H1 Q w1 r1 (k.step e1))
/-- one comparison as a test -/
theorem wt_cmp {op : CmpOp} {r : R2} {Φ : Bool → Mp → Prop} (ho : OpR X (compareOp op) r) (hm : behindInMarks op b = false) (h : WE X ρ M a fun x M1 => WE X ρ M1 b fun y M2 => RD X.K r x y M2 fun d M3 => ∃ c, d = .bl c ∧ Φ c M3) : WT X ρ M (.Compare a [op] [b] pos) Φ := .mk fun σ H Q en w k =>
  tOf (pt_cmpR ho pe_sem pe_sem hm) (bind2 h en w fun v u x y H2 M2 e w2 r1 r2 hr => hr _ v u H2 _ w2 r1 r2 fun z d H3 M3 e3 w3 r3 hz => by
    obtain ⟨c, rfl, hz⟩ := hz
    cases r3
    exact ⟨c, rfl, k c H3 M3 (e.trans e3) w3 hz⟩)
/-- a value that is a bool, as a test -/
theorem wt_val {Φ : Bool → Mp → Prop} (h : WE X ρ M e fun d M1 => ∃ c, d = .bl c ∧ Φ c M1) (he : ∀ whole, isTrue e X.env whole = (do let v ← whole; standAt e.pos; holding [v] (truthy v)) := by intro _; rfl) : WT X ρ M e Φ := .mk fun σ H Q en w k =>
  tOf (pt_val pe_sem he) (h.run σ H _ en w fun v x H1 M1 e1 w1 r1 hz => by
    obtain ⟨c, rfl, hz⟩ := hz
    cases r1
    exact ⟨c, rfl, k c H1 M1 e1 w1 hz⟩)
theorem wt_not {Φ : Bool → Mp → Prop} (h : WT X ρ M a fun c M1 => Φ (!c) M1) : WT X ρ M (.UnaryOp .Not a pos) Φ := .mk fun σ H Q en w k =>
  tOf (pt_not pt_sem) (h.run σ H _ en w fun c H1 M1 e1 w1 hz => k _ H1 M1 e1 w1 hz)
theorem ww_and1 {Φ : Bool → Mp → Prop} (h : WT X ρ M a Φ) : WW X ρ M (.BoolOp .And [a] pos) Φ := .mk fun σ H Q en w k => wOf (pw_and1 pt_sem) (h.run σ H Q en w k)
theorem ww_or1 {Φ : Bool → Mp → Prop} (h : WT X ρ M a Φ) : WW X ρ M (.BoolOp .Or [a] pos) Φ := .mk fun σ H Q en w k => wOf (pw_or1 pt_sem) (h.run σ H Q en w k)
theorem ww_and {Φ : Bool → Mp → Prop} {rest : List Expr} (h : WT X ρ M a fun c M1 => if c = true then WW X ρ M1 (.BoolOp .And (b :: rest) pos) Φ else Φ false M1) : WW X ρ M (.BoolOp .And (a :: b :: rest) pos) Φ := .mk fun σ H Q en w k =>
  wOf (pw_and pt_sem pw_sem) (h.run σ H _ en w fun c H1 M1 e1 w1 hz => by
    cases c with
    | true => exact hz.run σ H1 Q (en.mono e1) w1 (k.step e1)
    | false => exact k false H1 M1 e1 w1 hz)
theorem ww_or {Φ : Bool → Mp → Prop} {rest : List Expr} (h : WT X ρ M a fun c M1 => if c = true then Φ true M1 else WW X ρ M1 (.BoolOp .Or (b :: rest) pos) Φ) : WW X ρ M (.BoolOp .Or (a :: b :: rest) pos) Φ := .mk fun σ H Q en w k =>
  wOf (pw_or pt_sem pw_sem) (h.run σ H _ en w fun c H1 M1 e1 w1 hz => by
    cases c with
    | true => exact k true H1 M1 e1 w1 hz
    | false => exact hz.run σ H1 Q (en.mono e1) w1 (k.step e1))
theorem wt_ww {Φ : Bool → Mp → Prop} (h : WW X ρ M e Φ) : WT X ρ M e Φ := .mk fun σ H Q en w k => tOf pw_sem.pt (h.run σ H Q en w k)
/-- as values (all but the last are bools) -/
theorem we_one {op : BoolOp} (h : WE X ρ M a Φ) : WE X ρ M (.BoolOp op [a] pos) Φ := .mk fun σ H Q en w k => eOf (pe_one pe_sem) (h.run σ H Q en w k)
theorem we_and {rest : List Expr} (h : WE X ρ M a fun d M1 => ∃ c, d = .bl c ∧ if c = true then WE X ρ M1 (.BoolOp .And (b :: rest) pos) Φ else Φ (.bl false) M1) : WE X ρ M (.BoolOp .And (a :: b :: rest) pos) Φ := .mk fun σ H Q en w k =>
  eOf (pe_and pe_sem pe_sem) (h.run σ H _ en w fun v x H1 M1 e1 w1 r1 hz => by
    obtain ⟨c, rfl, hz⟩ := hz
    cases r1
    refine ⟨c, rfl, ?_⟩
    cases c with
    | true => exact hz.run σ H1 Q (en.mono e1) w1 (k.step e1)
    | false => exact k.step e1 |>.now w1 (.bl false) hz)
theorem we_or {rest : List Expr} (h : WE X ρ M a fun d M1 => ∃ c, d = .bl c ∧ if c = true then Φ (.bl true) M1 else WE X ρ M1 (.BoolOp .Or (b :: rest) pos) Φ) : WE X ρ M (.BoolOp .Or (a :: b :: rest) pos) Φ := .mk fun σ H Q en w k =>
  eOf (pe_or pe_sem pe_sem) (h.run σ H _ en w fun v x H1 M1 e1 w1 r1 hz => by
    obtain ⟨c, rfl, hz⟩ := hz
    cases r1
    refine ⟨c, rfl, ?_⟩
    cases c with
    | true => exact k.step e1 |>.now w1 (.bl true) hz
    | false => exact hz.run σ H1 Q (en.mono e1) w1 (k.step e1))
theorem we_if {c : Expr} (h : WT X ρ M c fun b' M1 => if b' = true then WE X ρ M1 a Φ else WE X ρ M1 b Φ) : WE X ρ M (.IfExp c a b pos) Φ := .mk fun σ H Q en w k =>
  eOf (pe_ifExp pt_sem pe_sem pe_sem) (h.run σ H _ en w fun c H1 M1 e1 w1 hz => by
    cases c with
    | true => exact hz.run σ H1 Q (en.mono e1) w1 (k.step e1)
    | false => exact hz.run σ H1 Q (en.mono e1) w1 (k.step e1))
variable {es : List Expr} {ΦA : List D → Mp → Prop}
theorem wa_nil (h : ΦA [] M) : WA X ρ M [] ΦA := .mk fun σ H Q en w k => aOf pa_nil (k [] [] H M Ext.refl w .nil h)
theorem wa_cons (h : WE X ρ M e fun d M1 => WA X ρ M1 es fun ds M2 => ΦA (d :: ds) M2) (hs : starEach (e :: es) X.env = (false, eval e X.env) :: starEach es X.env := by rfl) : WA X ρ M (e :: es) ΦA := .mk fun σ H Q en w k =>
  aOf (pa_cons pe_sem pa_sem hs) (h.run σ H _ en w fun v d H1 M1 e1 w1 r1 hz => hz.run σ H1 _ (en.mono e1) w1 fun vs ds H2 M2 e2 w2 r2 hy => k (v :: vs) (d :: ds) H2 M2 (e1.trans e2) w2 (.cons (r1.mono e2) r2) hy)
theorem we_tup {k1 : Nat} (h : WA X ρ M es fun ds M1 => ds.length ≤ sizeLine ∧ Φ (.tup ds) M1) : WE X ρ M (.Tuple es k1 pos) Φ := .mk fun σ H Q en w k =>
  eOf (pe_tup pa_sem) (h.run σ H _ en w fun vs ds H1 M1 e1 w1 r1 hz => ⟨by rw [r1.length]; exact hz.1, fun p hp => (k.step e1).new w1 hp (.tup (.inl upd_same) (w1.fresh hp) (r1.mono (Ext.new w1 hp))) hz.2⟩)
theorem we_lst (h : WA X ρ M es fun ds M1 => ds.length ≤ sizeLine ∧ Φ (.lst ds) M1) : WE X ρ M (.List es pos) Φ := .mk fun σ H Q en w k =>
  eOf (pe_lst pa_sem) (h.run σ H _ en w fun vs ds H1 M1 e1 w1 r1 hz => ⟨by rw [r1.length]; exact hz.1, fun p hp => (k.step e1).new w1 hp (.lst upd_same (w1.fresh hp) (r1.mono (Ext.new w1 hp))) hz.2⟩)
/-- a list that will be changed -/
theorem we_lstM (h : WA X ρ M es fun ds M1 => ds.length ≤ sizeLine ∧ ∀ p, M1 p = none → Φ (.ob p) (mset M1 p (.lst ds))) : WE X ρ M (.List es pos) Φ := .mk fun σ H Q en w k =>
  eOf (pe_lst pa_sem) (h.run σ H _ en w fun vs ds H1 M1 e1 w1 r1 hz => ⟨by rw [r1.length]; exact hz.1, fun p hp =>
    (k.step e1) _ (.ob p) _ (mset M1 p (.lst ds)) (Ext.newM w1 hp) (w1.newM hp ⟨vs, upd_same, r1.mono (Ext.newM w1 hp)⟩) (.ob p) (hz.2 p (w1.fresh hp).1)⟩)
end
end DL
namespace DL
open PySem L2
section
variable {X : Cx} {ρ : Rho} {M : Mp} {Ψ : DE} {e a b tg : Expr} {st : Stmt} {rest : List Stmt} {pos : Pos}
theorem wss_nil (h : Ψ.nx ρ M) : WSs X ρ M [] Ψ := .mk fun σ H E en w k => ssOf pss_nil (k.nx σ ρ H M Ext.refl w en h)
theorem wss_cons (h : WS X ρ M st { Ψ with nx := fun ρ' M' => WSs X ρ' M' rest Ψ }) : WSs X ρ M (st :: rest) Ψ := .mk fun σ H E en w k =>
  ssOf (pss_cons ps_sem pss_sem) (h.run σ H _ en w ⟨fun σ1 ρ1 H1 M1 e1 w1 en1 hz => hz.run σ1 H1 E en1 w1 (k.step e1), k.rt, k.bk, k.ct⟩)
theorem ws_expr (h : WE X ρ M e fun _ M1 => Ψ.nx ρ M1) (hs : swapsWith e none pos.line X.env = pure false := by rfl) : WS X ρ M (.Expr e pos) Ψ := .mk fun σ H E en w k =>
  sOf (ps_expr pe_sem hs) (h.run σ H _ en w fun v d H1 M1 e1 w1 r1 hz => k.nx σ ρ H1 M1 e1 w1 (en.mono e1) hz)
theorem ws_ret (h : WE X ρ M e Ψ.rt) : WS X ρ M (.Return (some e) pos) Ψ := .mk fun σ H E en w k => sOf (ps_ret pe_sem) (h.run σ H _ en w k.rt)
theorem ws_if {c : Expr} {sa sb : List Stmt} (h : WT X ρ M c fun b' M1 => if b' = true then WSs X ρ M1 sa Ψ else WSs X ρ M1 sb Ψ) : WS X ρ M (.If c sa sb pos) Ψ := .mk fun σ H E en w k =>
  sOf (ps_if pt_sem pss_sem pss_sem) (h.run σ H _ en w fun c H1 M1 e1 w1 hz => by
    cases c with
    | true => exact hz.run σ H1 E (en.mono e1) w1 (k.step e1)
    | false => exact hz.run σ H1 E (en.mono e1) w1 (k.step e1))
/-- other slots' data, less known -/
theorem WS.imp {Ψ' : DE} (h : WS X ρ M st Ψ') (n : ∀ ρ' M', Ψ'.nx ρ' M' → Ψ.nx ρ' M') (r : ∀ d M', Ψ'.rt d M' → Ψ.rt d M') (bk : ∀ ρ' M', Ψ'.bk ρ' M' → Ψ.bk ρ' M') (ct : ∀ ρ' M', Ψ'.ct ρ' M' → Ψ.ct ρ' M') : WS X ρ M st Ψ := .mk fun σ H E en w k =>
  h.run σ H E en w ⟨fun σ' ρ' H' M' x w' en' z => k.nx σ' ρ' H' M' x w' en' (n _ _ z), fun v d H' M' x w' r' z => k.rt v d H' M' x w' r' (r _ _ z), fun σ' ρ' H' M' x w' en' z => k.bk σ' ρ' H' M' x w' en' (bk _ _ z), fun σ' ρ' H' M' x w' en' z => k.ct σ' ρ' H' M' x w' en' (ct _ _ z)⟩
variable {Φ : Rho → Mp → Prop} {d : D} {ds : List D} {es : List Expr}
theorem wg_name (i : Nat) {x : Str} (h : Φ (ρ.set i (some d)) M) (hN : X.N.Nodup) (hi : X.N[i]? = some x := by rfl) (hx : Loc X.env.scope x := by first | exact Or.inl rfl | exact Or.inr rfl)
    (hf : X.fn x = true ∨ X.env.scope.names.lookup x = some .local := by first | exact .inl rfl | exact .inr rfl) : WG X (.Name x pos) d ρ M Φ := .mk fun σ H v Q en w r k =>
  gOf (pg_name hN hi hx hf) (k _ _ H M Ext.refl w (en.set r i) h)
theorem wgs_nil (h : ds = [] ∧ Φ ρ M) : WGs X [] ds ρ M Φ := .mk fun σ H vs Q en w r k => by
  obtain ⟨rfl, h⟩ := h
  cases r
  exact gsOf pgs_nil ⟨rfl, k _ _ H M Ext.refl w en h⟩
theorem wgs_cons {t : Expr} (h : WG X t d ρ M fun ρ1 M1 => WGs X es ds ρ1 M1 Φ) (hs : (assignEach (t :: es) X.env).map (·.2) = assign t X.env :: (assignEach es X.env).map (·.2) := by rfl) : WGs X (t :: es) (d :: ds) ρ M Φ := .mk fun σ H vs Q en w r k => by
  cases r with
  | cons r1 r2 =>
    exact gsOf (pgs_cons pg_sem pgs_sem hs) ⟨_, _, rfl, h.run σ H _ _ en w r1 fun σ1 ρ1 H1 M1 e1 w1 en1 hz => hz.run σ1 H1 _ Q en1 w1 (r2.mono e1) (k.step e1)⟩
theorem Rep.asTup {K : PySem.W.Frag} {M : Mp} {Z : Zn} {H : Hp} {v : V} {ds : List D} (r : Rep K M Z H v (.tup ds)) : ∃ a vs, v = .ref a ∧ SqT K H a vs ∧ Reps K M Z H vs ds := by
  cases r with
  | tup h m r => exact ⟨_, _, rfl, .inl h, r⟩
  | tupK h r => exact ⟨_, _, rfl, .inr h, r⟩
/-- what can be read as a list -/
def LstOf (M : Mp) : D → List D → Prop
  | .lst xs, ds => ds = xs
  | .rol xs, ds => ds = xs
  | .ob a, ds => M a = some (.lst ds)
  | _, _ => False
theorem Rep.asLst {K : PySem.W.Frag} {M : Mp} {Z : Zn} {H : Hp} {v : V} {d : D} {ds : List D} (w : Wd K M Z H) (r : Rep K M Z H v d) (l : LstOf M d ds) : ∃ a vs, v = .ref a ∧ SqL K H a vs ∧ Reps K M Z H vs ds := by
  cases r with
  | lst h m r => cases l; exact ⟨_, _, rfl, .inl (.inl h), r⟩
  | rol h m r => cases l; exact ⟨_, _, rfl, .inl h, r⟩
  | rolK h r => cases l; exact ⟨_, _, rfl, .inr h, r⟩
  | ob a =>
    obtain ⟨vs, h, r⟩ := w.1 a _ l
    exact ⟨_, _, rfl, .inl (.inl h), r⟩
  | _ => cases l
theorem wg_tup {k1 n : Nat} (h : d = .tup ds ∧ ds.length = n ∧ WGs X es ds ρ M Φ) (hc : X.calm = true := by rfl) (hn : (assignEach es X.env).length = n := by rfl) (hst : (assignEach es X.env).findIdx? (·.1) = none := by rfl) : WG X (.Tuple es k1 pos) d ρ M Φ := .mk fun σ H v Q en w r k => by
  obtain ⟨rfl, hl, h⟩ := h
  obtain ⟨a, vs, rfl, hq, rs⟩ := r.asTup
  exact gOf (pg_tup hc pgs_sem hn hst) ⟨a, vs, rfl, hq, by rw [rs.length]; exact hl, h.run σ H vs Q en w rs k⟩
theorem ws_asg (h : WE X ρ M e fun d M1 => WG X tg d ρ M1 Ψ.nx) (hs : swapsWithSole [tg] e pos.line X.env = pure false := by rfl) (hw : swappedStores [tg] e X.env = pure none := by rfl)
    (h1 : (assignEach [tg] X.env).map (·.2) = [assign tg X.env] := by rfl) : WS X ρ M (.Assign [tg] e pos) Ψ := .mk fun σ H E en w k =>
  sOf (ps_asg pe_sem pg_sem hs hw h1) (h.run σ H _ en w fun v d H1 M1 e1 w1 r1 hz => hz.run σ H1 v _ (en.mono e1) w1 r1 (k.nx.step e1))
theorem ws_set (i : Nat) {x : Str} {pos' : Pos} (hN : X.N.Nodup) (h : WE X ρ M e fun d M1 => Ψ.nx (ρ.set i (some d)) M1) (hi : X.N[i]? = some x := by rfl) (hx : Loc X.env.scope x := by first | exact Or.inl rfl | exact Or.inr rfl)
    (hs : swapsWith e (some (.Name x pos')) pos.line X.env = pure false := by rfl) (hf : X.fn x = true ∨ X.env.scope.names.lookup x = some .local := by first | exact .inl rfl | exact .inr rfl) : WS X ρ M (.Assign [.Name x pos'] e pos) Ψ := .mk fun σ H E en w k =>
  sOf (ps_set hN hi hx pe_sem hs hf) (h.run σ H _ en w fun v d H1 M1 e1 w1 r1 hz => k.nx _ _ H1 M1 e1 w1 ((en.mono e1).set r1 i) hz)
/-- a, b = x, y -/
theorem ws_par (i j : Nat) {x y : Str} {px py pt : Pos} {kt k2 : Nat} {pt2 : Pos} (hN : X.N.Nodup) (h : WA X ρ M [a, b] fun ds M1 => ∃ c d, ds = [c, d] ∧ Ψ.nx ((ρ.set i (some c)).set j (some d)) M1) (hi : X.N[i]? = some x := by rfl) (hj : X.N[j]? = some y := by rfl) (hij : i ≠ j := by decide)
    (hx : X.env.scope.names.lookup x = some .local := by rfl) (hy : X.env.scope.names.lookup y = some .local := by rfl) (hw : swappedStores [.Tuple [.Name x px, .Name y py] kt pt] (.Tuple [a, b] k2 pt2) X.env = pure (some [x, y]) := by rfl)
    (hc : X.calm = true := by rfl) (hs : swapsWithSole [.Tuple [.Name x px, .Name y py] kt pt] (.Tuple [a, b] k2 pt2) pos.line X.env = pure false := by rfl) : WS X ρ M (.Assign [.Tuple [.Name x px, .Name y py] kt pt] (.Tuple [a, b] k2 pt2) pos) Ψ := .mk fun σ H E en w k =>
  sOf (ps_par hc hN hi hj hij hx hy pa_sem hw hs) (h.run σ H _ en w fun vs ds H1 M1 e1 w1 r1 hz => by
    obtain ⟨c, d, rfl, hz⟩ := hz
    cases r1 with
    | cons r1 r2 =>
      cases r2 with
      | cons r2 r3 =>
        cases r3
        exact ⟨_, _, rfl, k.nx _ _ H1 M1 e1 w1 (((en.mono e1).set r1 i).set r2 j) hz⟩)
theorem ite_dec {p A B : Prop} [Decidable p] (h1 : p → A) (h2 : ¬ p → B) : if (decide p) = true then A else B := by
  by_cases h : p
  · rw [decide_eq_true h]; exact h1 h
  · rw [decide_eq_false h]; exact h2 h
/-- the walk J yields these data, whatever comes besides -/
def Sq (K : PySem.W.Frag) (M1 : Mp) (Z1 : Zn) (H1 : Hp) (J : It) (items : List D) : Prop := ∀ i M Z H, ExI M1 Z1 H1 M Z H → Wd K M Z H →
  (i = items.length → J.stop i H) ∧ ∀ d, items[i]? = some d → J.go i H ∧ ∀ x H', J.yld i H x H' → Ext M Z H M H' ∧ Wd K M Z H' ∧ Rep K M Z H' x d
structure WI (X : Cx) (ρ : Rho) (M : Mp) (tg iter : Expr) (Φ : List D → Mp → Prop) : Prop where
  run : ∀ {Z : Zn} σ H (R : It → Hp → Prop), EnvR X.K M Z H σ ρ → Wd X.K M Z H →
  (∀ J items H1 M1, Ext M Z H M1 H1 → Wd X.K M1 Z H1 → Sq X.K M1 Z H1 J items → Φ items M1 → R J H1) → iSem X tg iter σ H R
theorem iOf {iter : Expr} {wi : TI} {σ : L2.St} {H : Hp} {R : It → Hp → Prop} (h : PI X tg iter wi) (q : wi σ H R) : iSem X tg iter σ H R := fun pins s I => h.run pins s σ H R I q
theorem sq_tup {K : PySem.W.Frag} {M1 : Mp} {Z1 : Zn} {H1 : Hp} {a : Addr} {vs : List V} {ds : List D} (hq : ∀ M Z H, ExI M1 Z1 H1 M Z H → SqT K H a vs) (rs : Reps K M1 Z1 H1 vs ds) : Sq K M1 Z1 H1 (Itt K a) ds := fun i M Z H e w => by
  refine ⟨fun hi => ⟨vs, hq M Z H e, by rw [rs.length, hi]; exact Nat.le_refl _⟩, fun d hd => ?_⟩
  obtain ⟨v, hv, r⟩ := rs.get hd
  refine ⟨⟨vs, v, hq M Z H e, hv⟩, fun x H' y => ?_⟩
  obtain ⟨rfl, y⟩ := y
  have := y vs (hq M Z _ e)
  rw [hv] at this
  cases this
  exact ⟨Ext.refl, w, r.monoI e⟩
/-- a list, a tuple that stays -/
theorem Rep.tupKeep {K : PySem.W.Frag} {M : Mp} {Z : Zn} {H : Hp} {v : V} {ds : List D} (r : Rep K M Z H v (.tup ds)) : ∃ a vs, v = .ref a ∧ (∀ M' Z' H', ExI M Z H M' Z' H' → SqT K H' a vs) ∧ Reps K M Z H vs ds := by
  cases r with
  | tup h m r => exact ⟨_, _, rfl, fun M' Z' H' e => .inl (e.rd h m), r⟩
  | tupK h r => exact ⟨_, _, rfl, fun _ _ _ _ => .inr h, r⟩
theorem Rep.lstKeep {K : PySem.W.Frag} {M : Mp} {Z : Zn} {H : Hp} {v : V} {d : D} {ds : List D} (r : Rep K M Z H v d) (hd : d = .lst ds ∨ d = .rol ds) : ∃ a vs, v = .ref a ∧ (∀ M' Z' H', ExI M Z H M' Z' H' → SqL K H' a vs) ∧ Reps K M Z H vs ds := by
  rcases hd with rfl | rfl
  · cases r with
    | lst h m r => exact ⟨_, _, rfl, fun M' Z' H' e => .inl (.inl (e _ _ h m).1), r⟩
  · cases r with
    | rol h m r => exact ⟨_, _, rfl, fun M' Z' H' e => .inl (e.rd h m), r⟩
    | rolK h r => exact ⟨_, _, rfl, fun _ _ _ _ => .inr h, r⟩
theorem wi_list {iter : Expr} {Φ : List D → Mp → Prop} (h : WE X ρ M iter fun d M1 => ∃ ds, (d = .lst ds ∨ d = .rol ds) ∧ Φ ds M1) : WI X ρ M tg iter Φ := .mk fun σ H R en w k =>
  iOf (pi_list pe_sem) (h.run σ H _ en w fun v d H1 M1 e1 w1 r1 hz => by
    obtain ⟨ds, hd, hz⟩ := hz
    obtain ⟨a, vs, rfl, hq, rs⟩ := r1.lstKeep hd
    refine ⟨a, rfl, ⟨vs, hq _ _ _ ExI.refl⟩, k _ ds H1 M1 e1 w1 ?_ hz⟩
    intro i M Z H e w
    refine ⟨fun hi => ⟨vs, hq M Z H e, by rw [rs.length, hi]; exact Nat.le_refl _⟩, fun d hd => ?_⟩
    obtain ⟨v, hv, r⟩ := rs.get hd
    refine ⟨⟨vs, v, hq M Z H e, hv⟩, fun x H' y => ?_⟩
    obtain ⟨rfl, y⟩ := y
    have := y vs (hq M Z _ e)
    rw [hv] at this
    cases this
    exact ⟨Ext.refl, w, r.monoI e⟩)
theorem wi_tup {iter : Expr} {Φ : List D → Mp → Prop} (h : WE X ρ M iter fun d M1 => ∃ ds, d = .tup ds ∧ Φ ds M1) : WI X ρ M tg iter Φ := .mk fun σ H R en w k =>
  iOf (pi_tup pe_sem) (h.run σ H _ en w fun v d H1 M1 e1 w1 r1 hz => by
    obtain ⟨ds, rfl, hz⟩ := hz
    obtain ⟨a, vs, rfl, hq, rs⟩ := r1.tupKeep
    exact ⟨a, rfl, ⟨vs, hq _ _ _ ExI.refl⟩, k _ ds H1 M1 e1 w1 (sq_tup hq rs) hz⟩)
/-- lo, lo + 1, .. -/
def rngD (lo : Int) (n : Nat) : List D := (List.range n).map fun (i : Nat) => D.int (lo + (i : Int))
theorem rngD_len (lo : Int) (n : Nat) : (rngD lo n).length = n := by simp [rngD]
theorem rngD_get {lo : Int} {n i : Nat} {d : D} (h : (rngD lo n)[i]? = some d) : i < n ∧ d = .int (lo + (i : Int)) := by
  have hi : i < (rngD lo n).length := (List.getElem?_eq_some_iff.mp h).1
  rw [rngD_len] at hi
  refine ⟨hi, ?_⟩
  unfold rngD at h
  rw [List.getElem?_map, List.getElem?_range hi] at h
  exact (Option.some.inj h).symm
theorem sq_range {K : PySem.W.Frag} {M1 : Mp} {Z1 : Zn} {H1 : Hp} (lo : Int) (n : Nat) : Sq K M1 Z1 H1 (Itr lo n) (rngD lo n) := fun i M Z H e w => by
  refine ⟨fun hi => by rw [hi, rngD_len]; exact Nat.le_refl _, fun d hd => ?_⟩
  obtain ⟨h1, rfl⟩ := rngD_get hd
  refine ⟨h1, fun x H' y => ?_⟩
  obtain ⟨rfl, rfl⟩ := y
  exact ⟨Ext.refl, w, .int _⟩
theorem wi_range1 {p : Pos} {Φ : List D → Mp → Prop} (hm : X.mg "range" = none) (h : WA X ρ M [a] fun ds M1 => ∃ j : Int, ds = [.int j] ∧ -(2 ^ 62) ≤ j ∧ j < 2 ^ 62 ∧ Φ (rngD 0 j.toNat) M1) (hg : Gl X "range" := by rfl) (hs : starEach [a] X.env = [(false, eval a X.env)] := by rfl) : WI X ρ M tg (.Call (.Name "range" p) [a] [] pos) Φ := .mk fun σ H R en w k =>
  iOf (pi_range1 hg hm pa_sem hs) (h.run σ H _ en w fun vs ds H1 M1 e1 w1 r1 hz => by
    obtain ⟨j, rfl, h1, h2, hz⟩ := hz
    cases r1 with
    | cons r1 r2 =>
      cases r1
      cases r2
      exact ⟨j, rfl, h1, h2, k _ _ H1 M1 e1 w1 (sq_range 0 _) hz⟩)
theorem wi_range2 {p : Pos} {Φ : List D → Mp → Prop} (hm : X.mg "range" = none) (h : WA X ρ M [a, b] fun ds M1 => ∃ i j : Int, ds = [.int i, .int j] ∧ (-(2 ^ 62) ≤ i ∧ i < 2 ^ 62 ∧ -(2 ^ 62) ≤ j ∧ j < 2 ^ 62) ∧ Φ (rngD i (j - i).toNat) M1) (hg : Gl X "range" := by rfl) (hs : starEach [a, b] X.env = [(false, eval a X.env), (false, eval b X.env)] := by rfl) (hs2 : starEach [b] X.env = [(false, eval b X.env)] := by rfl) : WI X ρ M tg (.Call (.Name "range" p) [a, b] [] pos) Φ := .mk fun σ H R en w k =>
  iOf (pi_range2 hg hm pa_sem hs hs2) (h.run σ H _ en w fun vs ds H1 M1 e1 w1 r1 hz => by
    obtain ⟨i, j, rfl, h1, hz⟩ := hz
    cases r1 with
    | cons r1 r2 =>
      cases r1
      cases r2 with
      | cons r2 r3 =>
        cases r2
        cases r3
        exact ⟨i, j, rfl, h1, k _ _ H1 M1 e1 w1 (sq_range i _) hz⟩)
theorem ws_for {body : List Stmt} {iter : Expr} (hp : PassesOwn (model X.prog X.w) X.A X.env X.xe)
    (h : WI X ρ M tg iter fun ds M1 => ∃ I : Nat → Rho → Mp → Prop, I 0 ρ M1 ∧
      (∀ i x ρ' M', ds[i]? = some x → I i ρ' M' → WG X tg x ρ' M' fun ρ2 M2 => WSs X ρ2 M2 body { nx := I (i + 1), ct := I (i + 1), bk := Ψ.nx, rt := Ψ.rt }) ∧ ∀ ρ' M', I ds.length ρ' M' → Ψ.nx ρ' M')
    (hc : X.calm = true := by rfl) (hs : ∀ x, foldedSetIterable iter X.env x = pure x := by intro _; rfl) : WS X ρ M (.For tg iter body [] pos) Ψ := .mk fun {Z} σ H E en w k =>
  sOf (ps_for hp hc pi_sem pg_sem pss_sem hs) (h.run σ H _ en w fun J ds H1 M1 e1 w1 sq hz => by
    obtain ⟨I, h0, turn, done⟩ := hz
    refine ⟨fun i m σ' H' => m = ds.length - i ∧ i ≤ ds.length ∧ ∃ ρ' M', Ext M1 Z H1 M' H' ∧ Wd X.K M' Z H' ∧ EnvR X.K M' Z H' σ' ρ' ∧ I i ρ' M', ⟨ds.length, by simp, Nat.zero_le _, ρ, M1, Ext.refl, w1, en.mono e1, h0⟩, ?_⟩
    rintro i m σ' H' ⟨rfl, hi, ρ', M', x', w', en', inv⟩
    obtain ⟨s1, s2⟩ := sq i M' Z H' x'.i w'
    by_cases hlt : i < ds.length
    · have hd : ds[i]? = some ds[i] := List.getElem?_eq_getElem hlt
      obtain ⟨go, yl⟩ := s2 _ hd
      refine .inr ⟨go, fun σ2 H2 => ∃ ρ2 M2, Ext M1 Z H1 M2 H2 ∧ Wd X.K M2 Z H2 ∧ EnvR X.K M2 Z H2 σ2 ρ2 ∧ I (i + 1) ρ2 M2, fun σ2 H2 ⟨ρ2, M2, x2, w2, en2, i2⟩ => ⟨ds.length - (i + 1), by omega, rfl, hlt, ρ2, M2, x2, w2, en2, i2⟩, fun v H2 y => ?_⟩
      obtain ⟨x2, w2, r2⟩ := yl v H2 y
      have x12 := x'.trans x2
      refine (turn i _ ρ' M' hd inv).run σ' H2 v _ (en'.mono x2) w2 r2 fun σ3 ρ3 H3 M3 x3 w3 en3 hb => ?_
      have x13 := x12.trans x3
      have ks := (k.step e1).step x13
      exact hb.run σ3 H3 _ en3 w3 ⟨fun σ4 ρ4 H4 M4 x4 w4 en4 z => ⟨ρ4, M4, x13.trans x4, w4, en4, z⟩, ks.rt, ks.nx, fun σ4 ρ4 H4 M4 x4 w4 en4 z => ⟨ρ4, M4, x13.trans x4, w4, en4, z⟩⟩
    · have e : i = ds.length := by omega
      exact .inl ⟨s1 e, (k.step e1).nx σ' ρ' H' M' x' w' en' (done _ _ (e ▸ inv))⟩)
end
end DL
namespace DL
open PySem L2
def hid (Z : Zn) (p : Addr) : Zn := fun b => Z b ∨ b = p
section
variable {K : PySem.W.Frag} {M M' : Mp} {Z : Zn} {H H' : Hp} {p : Addr} {o : HO}
theorem hide_x (h : H p = none) : ExI M Z H M (hid Z p) (upd H p o) := fun b u q m => by
  have n : b ≠ p := ne_of_none q h
  exact ⟨by rw [upd_ne n]; exact q, m.1, fun z => z.elim m.2 n⟩
theorem hide_w (w : Wd K M Z H) (h : H p = none) : Wd K M (hid Z p) (upd H p o) := ⟨fun a u e => by
  obtain ⟨z, q⟩ := (w.1 a u e).there
  exact (w.1 a u e).stepI (hide_x h) (upd_ne (ne_of_none q h)), fun b z => by
  rcases z with z | rfl
  · obtain ⟨m, u, q⟩ := w.2 b z
    exact ⟨m, u, by rw [upd_ne (ne_of_none q h)]; exact q⟩
  · exact ⟨(w.fresh h).1, o, upd_same⟩⟩
/-- the hidden object changed -/
theorem hidput_x : ExI M (hid Z p) H M (hid Z p) (upd H p o) := fun b u q m => ⟨by rw [upd_ne (fun e => m.2 (.inr e))]; exact q, m⟩
theorem hidput_w (w : Wd K M (hid Z p) H) : Wd K M (hid Z p) (upd H p o) := ⟨fun a u e => by
  have n : a ≠ p := fun z => by have := (w.2 p (.inr rfl)).1; rw [z, this] at e; cases e
  exact (w.1 a u e).stepI hidput_x (upd_ne n), fun b z => by
  obtain ⟨m, u, q⟩ := w.2 b z
  by_cases hb : b = p
  · exact ⟨m, o, by rw [hb]; exact upd_same⟩
  · exact ⟨m, u, by rw [upd_ne hb]; exact q⟩⟩
/-- .. shown -/
theorem show_x : ExI M (hid Z p) H M Z H := fun b u q m => ⟨q, m.1, fun z => m.2 (.inl z)⟩
theorem show_w (w : Wd K M (hid Z p) H) : Wd K M Z H := ⟨fun a u e => (w.1 a u e).stepI show_x rfl, fun b z => w.2 b (.inl z)⟩
end
def wipeR (ρ : Rho) : List Nat → Rho
  | [] => ρ
  | v :: vs => (wipeR ρ vs).set v none
theorem env_wipe {K : PySem.W.Frag} {M : Mp} {Z : Zn} {H : Hp} {σ : L2.St} {ρ : Rho} (en : EnvR K M Z H σ ρ) : ∀ vs : List Nat, EnvR K M Z H (wipe σ vs) (wipeR ρ vs)
  | [] => en
  | v :: vs => EnvR.unset v (env_wipe en vs)
theorem wipe_get (σ : L2.St) (j : Nat) : ∀ vs : List Nat, (wipe σ vs)[j]? = if j ∈ vs then (σ[j]?).map (fun _ => none) else σ[j]?
  | [] => by simp [wipe]
  | v :: vs => by
    unfold wipe
    have ih := wipe_get σ j vs
    by_cases hj : v = j
    · subst hj
      rw [if_pos List.mem_cons_self]
      by_cases hl : v < (wipe σ vs).length
      · rw [List.getElem?_set_self hl]
        rw [wipe_length] at hl
        rw [List.getElem?_eq_getElem hl]; rfl
      · rw [List.getElem?_eq_none (by simpa using hl)]
        rw [wipe_length] at hl
        rw [List.getElem?_eq_none (by omega)]; rfl
    · rw [List.getElem?_set_ne hj, ih]
      by_cases hm : j ∈ vs
      · rw [if_pos hm, if_pos (List.mem_cons_of_mem _ hm)]
      · rw [if_neg hm, if_neg (by simp only [List.mem_cons, not_or]; exact ⟨fun e => hj e.symm, hm⟩)]
theorem wipe_ext {σ τ : L2.St} {vs : List Nat} (h : ∀ j, j ∉ vs → σ[j]? = τ[j]?) (hl : σ.length = τ.length) : wipe σ vs = wipe τ vs := by
  apply List.ext_getElem?
  intro j
  rw [wipe_get, wipe_get]
  by_cases hj : j ∈ vs
  · rw [if_pos hj, if_pos hj]
    by_cases hs : j < σ.length
    · rw [List.getElem?_eq_getElem hs, List.getElem?_eq_getElem (by omega)]; rfl
    · rw [List.getElem?_eq_none (by omega), List.getElem?_eq_none (by omega)]
  · rw [if_neg hj, if_neg hj]; exact h j hj
theorem wipe_twice (σ : L2.St) (vs : List Nat) : wipe (wipe σ vs) vs = wipe σ vs := wipe_ext (fun j hj => by rw [wipe_get, if_neg hj]) (wipe_length _ _)
theorem wipe_set {σ : L2.St} {vs : List Nat} {i : Nat} {o : Option V} (hi : i ∈ vs) : wipe (σ.set i o) vs = wipe σ vs := wipe_ext (fun j hj => List.getElem?_set_ne (fun (e : i = j) => hj (e ▸ hi))) (List.length_set ..)
def GT (K : PySem.W.Frag) (g : TG) (vs : List Nat) (G : D → Rho → (Rho → Prop) → Prop) : Prop := ∀ M Z H v d σ ρ (R : Rho → Prop) (Q : L2.St → Hp → Prop), EnvR K M Z H (wipe σ vs) ρ → Rep K M Z H v d → G d ρ R →
  (∀ σ2 ρ2, EnvR K M Z H σ2 ρ2 → wipe σ2 vs = wipe σ vs → R ρ2 → Q σ2 H) → g v (wipe σ vs) H Q
theorem gt_name {K : PySem.W.Frag} {vs : List Nat} {i : Nat} (hi : i ∈ vs) : GT K (gName i) vs (fun d ρ R => R (ρ.set i (some d))) := fun M Z H v d σ ρ R Q en r g k =>
  k _ _ (en.set r i) (by rw [wipe_set hi, wipe_twice]) g
theorem gt_two {K : PySem.W.Frag} {vs : List Nat} {i j : Nat} (hi : i ∈ vs) (hj : j ∈ vs) : GT K (gTup K 2 (gCons (gName i) (gCons (gName j) gNil))) vs (fun d ρ R => ∃ a b, d = .tup [a, b] ∧ R ((ρ.set i (some a)).set j (some b))) := fun M Z H v d σ ρ R Q en r g k => by
  obtain ⟨a, b, rfl, g⟩ := g
  obtain ⟨p, vs, rfl, hq, rs⟩ := r.asTup
  cases rs with
  | cons r1 r2 =>
    cases r2 with
    | cons r2 r3 =>
      cases r3
      exact ⟨p, _, rfl, hq, rfl, _, _, rfl, _, _, rfl, rfl, k _ _ ((en.set r1 i).set r2 j) (by rw [wipe_set hj, wipe_set hi, wipe_twice]) g⟩
section
variable {X : Cx} {ρ : Rho} {M : Mp} {elt tg iter : Expr} {pos : Pos} {scope : Scope}
/-- within the block -/
def eBlk (X : Cx) (scope : Scope) (e : Expr) : TE := fun σ H Q => ∀ s H0 C cl fp, eSem (X.blk s H0 scope (compEnvC scope cl C X.env) fp) e σ H Q
def WEb (X : Cx) (scope : Scope) (ρ : Rho) (M : Mp) (e : Expr) (Φ : D → Mp → Prop) : Prop := ∀ s H0 C cl fp, WE (X.blk s H0 scope (compEnvC scope cl C X.env) fp) ρ M e Φ
/-- the tests -/
def TK (X : Cx) (tt : TT) (T : Rho → Mp → (Bool → Mp → Prop) → Prop) : Prop := ∀ {Z : Zn} M H σ ρ (Θ : Bool → Mp → Prop) (Q : Bool → Hp → Prop), EnvR X.K M Z H σ ρ → Wd X.K M Z H → T ρ M Θ → KT X.K M Z H Θ Q → tt σ H Q
theorem tk_nil : TK X tYes (fun _ M Θ => Θ true M) := fun M H σ ρ Θ Q en w h k => k.now w h
/-- what a comprehension asks: I by the turn, what is gathered, the mutable objects -/
def LcI (X : Cx) (scope : Scope) (ρ : Rho) (vs : List Nat) (G : D → Rho → (Rho → Prop) → Prop) (T : Rho → Mp → (Bool → Mp → Prop) → Prop) (elt : Expr) (Φ : D → Mp → Prop) (ds : List D) (M1 : Mp) : Prop :=
  ds.length ≤ sizeLine ∧ ∃ I : Nat → List D → Mp → Prop, I 0 [] M1 ∧
    (∀ i x acc M', ds[i]? = some x → I i acc M' → G x (wipeR ρ vs) fun ρ2 => T ρ2 M' fun b M2 => if b = true then WEb X scope ρ2 M2 elt fun y M3 => I (i + 1) (acc ++ [y]) M3 else I (i + 1) acc M2) ∧
    ∀ acc M', I ds.length acc M' → Φ (.lst acc) M'
theorem lc_run {g : TG} {tt : TT} {vs : List Nat} {G : D → Rho → (Rho → Prop) → Prop} {T : Rho → Mp → (Bool → Mp → Prop) → Prop} {Φ : D → Mp → Prop} (hg : GT X.K g vs G) (ht : TK X tt T)
    (h : WI X ρ M tg iter (LcI X scope ρ vs G T elt Φ)) {Z : Zn} {σ : L2.St} {H : Hp} {Q : VK} (en : EnvR X.K M Z H σ ρ) (w : Wd X.K M Z H) (k : KE X.K M Z H Φ Q) : tLc (iSem X tg iter) g tt (eBlk X scope elt) vs σ H Q :=
  h.run σ H _ en w fun J ds H1 M1 e1 w1 sq hz => by
    obtain ⟨hn, I, h0, turn, done⟩ := hz
    intro Dd hD
    have zne : ∀ b, Z b → b ≠ Dd := w1.zne hD
    refine ⟨fun i m H' => m = ds.length - i ∧ i ≤ ds.length ∧ ∃ accV acc M', ExI M1 Z H1 M' (hid Z Dd) H' ∧ (∀ b, Z b → H' b = H1 b ∧ M' b = M1 b) ∧ Wd X.K M' (hid Z Dd) H' ∧ H' Dd = some (.lst accV) ∧ Reps X.K M' (hid Z Dd) H' accV acc ∧ acc.length ≤ i ∧ I i acc M',
      ⟨ds.length, by simp, Nat.zero_le _, [], [], M1, hide_x hD, fun b z => ⟨upd_ne (zne b z), rfl⟩, hide_w w1 hD, upd_same, .nil, Nat.zero_le _, h0⟩, ?_⟩
    rintro i m H' ⟨rfl, hi, accV, acc, M', x', zk, w', hA, rA, la, inv⟩
    obtain ⟨s1, s2⟩ := sq i M' (hid Z Dd) H' x' w'
    by_cases hlt : i < ds.length
    · have hd : ds[i]? = some ds[i] := List.getElem?_eq_getElem hlt
      obtain ⟨go, yl⟩ := s2 _ hd
      refine .inr ⟨go, fun H2 => ∃ accV acc M2, ExI M1 Z H1 M2 (hid Z Dd) H2 ∧ (∀ b, Z b → H2 b = H1 b ∧ M2 b = M1 b) ∧ Wd X.K M2 (hid Z Dd) H2 ∧ H2 Dd = some (.lst accV) ∧ Reps X.K M2 (hid Z Dd) H2 accV acc ∧ acc.length ≤ i + 1 ∧ I (i + 1) acc M2,
        fun H2 ⟨aV, a, M2, x2, z2, w2, hA2, rA2, l2, i2⟩ => ⟨ds.length - (i + 1), by omega, rfl, hlt, aV, a, M2, x2, z2, w2, hA2, rA2, l2, i2⟩, fun v H2 y => ?_⟩
      obtain ⟨x2, w2, r2⟩ := yl v H2 y
      have en2 : EnvR X.K M' (hid Z Dd) H2 (wipe σ vs) (wipeR ρ vs) := env_wipe ((en.mono e1).monoI (x'.trans x2.i)) vs
      refine hg M' (hid Z Dd) H2 v _ σ _ _ _ en2 r2 (turn i _ acc M' hd inv) fun σ3 ρ3 en3 wp3 hT => ⟨wp3, ?_⟩
      refine ht M' H2 σ3 ρ3 _ _ en3 w2 hT fun b H3 M3 x3 w3 hb => ?_
      have x23 : Ext M' (hid Z Dd) H' M3 H3 := x2.trans x3
      have zk3 : ∀ b, Z b → H3 b = H1 b ∧ M3 b = M1 b := fun b z => ⟨(x23.2 b (.inl z)).1.trans (zk b z).1, (x23.2 b (.inl z)).2.trans (zk b z).2⟩
      cases b with
      | false => exact ⟨accV, acc, M3, x'.trans x23.i, zk3, w3, (x23.2 Dd (.inr rfl)).1.trans hA, rA.mono x23, Nat.le_succ_of_le la, hb⟩
      | true =>
        intro s H0 C cl fp
        refine (hb s H0 C cl fp).run σ3 H3 _ (en3.mono x3) w3 fun yv yd H4 M4 x4 w4 r4 hI => ?_
        have x24 := x23.trans x4
        have hA4 : H4 Dd = some (.lst accV) := (x24.2 Dd (.inr rfl)).1.trans hA
        refine ⟨accV, hA4, by rw [rA.length]; omega, accV ++ [yv], acc ++ [yd], M4, (x'.trans x24.i).trans hidput_x, fun b z => ⟨(upd_ne (zne b z)).trans ((x4.2 b (.inl z)).1.trans (zk3 b z).1), (x4.2 b (.inl z)).2.trans (zk3 b z).2⟩, hidput_w w4, upd_same, ?_, by rw [List.length_append, List.length_singleton]; omega, hI⟩
        exact (((rA.mono x24).append (.cons r4 .nil))).monoI hidput_x
    · have e : i = ds.length := by omega
      refine .inl ⟨s1 e, ?_⟩
      refine k _ (.lst acc) H' M' (e1.trans ⟨x'.trans show_x, zk⟩) (show_w w') (.lst hA ⟨(w'.2 Dd (.inr rfl)).1, fun z => zne Dd z rfl⟩ (rA.monoI show_x)) (done _ _ (e ▸ inv))
/-- [elt for x in iter] -/
theorem we_lc {own : List (Str × Nat)} {g : TG} {tt : TT} {ifs : List Expr} {G : D → Rho → (Rho → Prop) → Prop} {T : Rho → Mp → (Bool → Mp → Prop) → Prop} {Φ : D → Mp → Prop} (hN : X.N.Nodup) (ok : BlkOk X.N X.env.scope scope own)
    (pg : ∀ (s : Shared) (H : Hp) (C : Addr) (cl : List (Str × Addr)) (fp : List Addr), PG (X.blk s H scope (compEnvC scope cl C X.env) fp) tg g) (hg : GT X.K g (own.map (·.2)) G)
    (pt : ∀ (s : Shared) (H : Hp) (C : Addr) (cl : List (Str × Addr)) (fp : List Addr), PTs (X.blk s H scope (compEnvC scope cl C X.env) fp) ifs tt) (ht : TK X tt T)
    (h : WI X ρ M tg iter (LcI X scope ρ (own.map (·.2)) G T elt Φ)) (hc : X.calm = true := by rfl) (hs : ∀ x, foldedSetIterable iter X.env x = pure x := by intro _; rfl) : WE X ρ M (.ListComp elt [⟨tg, iter, ifs, 0⟩] scope pos) Φ := .mk fun σ H Q en w k =>
  eOf (pe_lc hc hN pi_sem ok pg pt (fun s H0 C cl fp => ⟨fun pins s' σ' H' Q' I q => q s H0 C cl fp pins s' I⟩) hs) (lc_run hg ht h en w k)
end
end DL
namespace DL
open PySem PySem.Spec PyProof.Rows L2
/-- its promise in the hand layer -/
def spD (K : PySem.W.Frag) (n : Nat) (c : Con) : Sp := fun vs H Q _ => ∃ ds M Z Φ, ds.length = n ∧ Reps K M Z H vs ds ∧ Wd K M Z H ∧ c ds M Φ ∧ KE K M Z H Φ Q
theorem les_del {M : Mp} {a : Addr} : Les (mdel M a) M := fun b => by
  by_cases h : b = a
  · rw [h]; exact .inr mdel_same
  · exact .inl (mdel_ne h)
theorem lets_k {K : PySem.W.Frag} {M : Mp} {Z : Zn} {H : Hp} {Φ : D → Mp → Prop} {Q : VK} (k : KE K M Z H Φ Q) : KE K M Z H (Lets Φ) Q := fun v d H' M' x w r z => by
  obtain ⟨d', M2, l, f, z⟩ := z
  exact k v d' H' M2 (x.trans (l.ext w)) (l.w w) (f.rep l w r) z
theorem FzE.env {K : PySem.W.Frag} {M M' : Mp} {Z : Zn} {H : Hp} (l : Les M' M) (w : Wd K M Z H) : ∀ {σ : L2.St} {ρ ρ' : Rho}, FzE M M' ρ ρ' → EnvR K M Z H σ ρ → EnvR K M' Z H σ ρ'
  | _, _, _, .nil, .nil => .nil
  | _, _, _, .val f t, .val r u => .val (f.rep l w r) (FzE.env l w t u)
  | _, _, _, .drop t, .val r u => .any (FzE.env l w t u)
  | _, _, _, .drop t, .any u => .any (FzE.env l w t u)
/-- go on with less -/
theorem wss_let {X : Cx} {ρ ρ' : Rho} {M M' : Mp} {sts : List Stmt} {Ψ : DE} (l : Les M' M) (f : FzE M M' ρ ρ') (h : WSs X ρ' M' sts Ψ) : WSs X ρ M sts Ψ := .mk fun σ H E en w k =>
  h.run σ H E (f.env l w en) (l.w w) (k.step (l.ext w))
section
variable {P : Program} {w : World} {K : PySem.W.Frag} {mg : Str → Option Value} {base : Heap} {x qual : Str} {params : Arguments} {body : List Stmt} {scope : Scope} {dvs : List V} {kws : List (Str × V)} {f : Addr} {fd : FuncData}
/-- the context of a body -/
abbrev bx (P : Program) (w : World) (K : PySem.W.Frag) (mg : Str → Option Value) (base : Heap) (N : List Str) (qual : Str) (scope : Scope) (f : Addr) (cdv : Value) (A : Around) (outer : List Env) (s : Shared) (H : Hp) (E : XK) : Cx :=
  (cxOf CX0 P w K mg base N qual scope f cdv A outer s H E).nox
theorem fn_ok {N ps : List Str} {k : Nat} {c : Con} (F : FunD K x qual params body scope dvs kws f fd) (S : FnScope N ps scope)
    (h : ∀ (cdv : Value) (A : Around) (outer : List Env) (s : Shared) (H : Hp) (E : XK), Room k (A.deeper (envOfC qual scope s.heap.objs.size f cdv)) → ∀ ds M Φ, ds.length = ps.length → c ds M Φ →
      WSs (bx P w K mg base N qual scope f cdv A outer s H E) (start N ds) M body { nx := fun _ M' => Φ .non M', rt := Lets Φ }) : FnOk P w K mg base CX0 (k + 1) f fd ps (spD K ps.length c) := by
  refine F.ok S (fun vs H Q E q => ?_) (fun cdv A outer s H vs Q E hr q => ?_)
  · obtain ⟨ds, M, Z, Φ, hl, r, _⟩ := q
    rw [r.length, hl]
  · obtain ⟨ds, M, Z, Φ, hl, r, wd, hc, k⟩ := q
    refine ⟨_, PSs.nox (pss_sem (X := bx P w K mg base N qual scope f cdv A outer s H E)), ?_⟩
    exact (h cdv A outer s H E hr ds M Φ hl hc).run (L2.start N vs) H _ (env_start r) wd ⟨fun σ' ρ' H' M' x w' en z => k _ .non H' M' x w' .non z, lets_k k, fun _ _ _ _ _ _ _ z => z.elim, fun _ _ _ _ _ _ _ z => z.elim⟩
end
/-- the global x is a def with this contract; dd the data of the defaults that fill up -/
structure Fc (P : Program) (w : World) (K : PySem.W.Frag) (mg : Str → Option Value) (base : Heap) (x : Str) (dd : List D) (k n : Nat) (c : Con) : Prop where
  ex : ∃ (f : Addr) (fd : FuncData) (ps : List Str) (dvs : List V) (ds : List Value), FnOk P w K mg base CX0 k f fd ps (spD K n c) ∧ mg x = some (.ref f) ∧ PySem.W.keepIn K (.ref f) = true ∧ Binds K fd ps ds ∧ Vals dvs ds ∧ ∀ M Z H, Reps K M Z H dvs dd
section
variable {X : Cx} {ρ : Rho} {M : Mp} {Φ : D → Mp → Prop} {e o : Expr} {es : List Expr} {pos p apos : Pos} {x m : Str} {dd : List D} {k n : Nat} {c : Con}
theorem sp_run {n : Nat} {vs dvs : List V} {ds : List D} {M1 : Mp} {Z : Zn} {H1 : Hp} {Q : VK} {E : XK} (r : Reps X.K M1 Z H1 vs ds) (rd : Reps X.K M1 Z H1 dvs dd) (w1 : Wd X.K M1 Z H1) (hz : (ds ++ dd).length = n ∧ c (ds ++ dd) M1 Φ) (k : KE X.K M1 Z H1 Φ Q) : spD X.K n c (vs ++ dvs) H1 Q E :=
  ⟨ds ++ dd, M1, Z, Φ, hz.1, r.append rd, w1, hz.2, k⟩
theorem we_call (F : Fc X.prog X.w X.K X.mg X.base x dd k n c) (hr : Room k X.A) (h : WA X ρ M (e :: es) fun ds M1 => (ds ++ dd).length = n ∧ c (ds ++ dd) M1 Φ) (hg : Gl X x := by rfl)
    (hdb : (x == ("__debug__" : Str)) = false := by decide) (he : starEach (e :: es) X.env = (false, eval e X.env) :: starEach es X.env := by rfl) (hpl : (backTo pos (starEach es X.env)).any (·.1) = false := by rfl) : WE X ρ M (.Call (.Name x p) (e :: es) [] pos) Φ := .mk fun σ H Q en w k => by
  obtain ⟨f, fd, ps, dvs, ds, F, hm, hk, hb, hd, hdd⟩ := F.ex
  exact eOf (pe_call (E := E0) F hr hg hm hk hb hd pass0 pa_sem hdb he hpl) (h.run σ H _ en w fun vs as H1 M1 e1 w1 r1 hz => sp_run r1 (hdd _ _ _) w1 hz (k.step e1))
theorem we_call0 (F : Fc X.prog X.w X.K X.mg X.base x dd k n c) (hr : Room k X.A) (h : dd.length = n ∧ c dd M Φ) (hg : Gl X x := by rfl)
    (hdb : (x == ("__debug__" : Str)) = false := by decide) : WE X ρ M (.Call (.Name x p) [] [] pos) Φ := .mk fun σ H Q en w k => by
  obtain ⟨f, fd, ps, dvs, ds, F, hm, hk, hb, hd, hdd⟩ := F.ex
  exact eOf (pe_call0 (E := E0) F hr hg hm hk hb hd pass0 hdb) (sp_run (E := E0) (ds := []) (vs := []) .nil (hdd _ _ _) w h k)
/-- d is an instance of the class at C with these fields -/
def InsOf (M : Mp) (C : Addr) : D → List (Str × D) → Prop
  | .ins C' fs, gs => C' = C ∧ gs = fs
  | .ob a, gs => M a = some (.ins C gs)
  | _, _ => False
theorem Rep.asIns {K : PySem.W.Frag} {M : Mp} {Z : Zn} {H : Hp} {C : Addr} {v : V} {d : D} {fs : List (Str × D)} (w : Wd K M Z H) (r : Rep K M Z H v d) (i : InsOf M C d fs) : ∃ a dx vs, v = .ref a ∧ H a = some (.ins C dx vs) ∧ RepF K M Z H vs fs := by
  cases r with
  | ins h m r =>
    obtain ⟨rfl, rfl⟩ := i
    exact ⟨_, _, _, rfl, h, r⟩
  | ob a =>
    obtain ⟨dx, vs, h, r⟩ := w.1 a _ i
    exact ⟨_, _, _, rfl, h, r⟩
  | _ => cases i
theorem InsOf.mono {K : PySem.W.Frag} {C : Addr} {d : D} {fs : List (Str × D)} {M : Mp} (h : InsOf M C d fs) {M' : Mp} (k : ∀ a, d = .ob a → M' a = M a) : InsOf M' C d fs := by
  cases d with
  | ins C' gs => exact h
  | ob a => exact (k a rfl).trans h
  | _ => cases h
/-- o.f, a field -/
theorem we_fld {f : Str} {C : Addr} (h : WE X ρ M o fun d M1 => ∃ fs v, InsOf M1 C d fs ∧ Cls X.K C ∧ NoAttr X.K C f ∧ fs.lookup f = some v ∧ Φ v M1) (hb : attributeBase o f X.env (eval o X.env) = eval o X.env := by rfl) : WE X ρ M (.Attribute o f pos) Φ := .mk fun σ H Q en w k =>
  eOf (pe_fld pe_sem hb) (h.run σ H _ en w fun v d H1 M1 e1 w1 r1 hz => by
    obtain ⟨fs, y, hi, cl, na, hl, hz⟩ := hz
    obtain ⟨a, dx, vs, rfl, ha, rf⟩ := r1.asIns w1 hi
    obtain ⟨u, hu, ru⟩ := (rf.lookup f).2 y hl
    exact ⟨a, C, dx, vs, u, rfl, ha, cl, na, hu, (k.step e1).now w1 ru hz⟩)
/-- the fields, one stored -/
def putD (f : Str) (d : D) : List (Str × D) → List (Str × D)
  | [] => [(f, d)]
  | (g, y) :: r => if g = f then (g, d) :: r else (g, y) :: putD f d r
theorem RepF.put {K : PySem.W.Frag} {M : Mp} {Z : Zn} {H : Hp} {f : Str} {v : V} {d : D} (r : Rep K M Z H v d) : ∀ {vs : List (Str × V)} {ds : List (Str × D)}, RepF K M Z H vs ds → RepF K M Z H (putF f v vs) (putD f d ds)
  | _, _, .nil => .cons r .nil
  | _, _, .cons (k := g) r' t => by
    unfold putF putD
    by_cases h : g = f
    · rw [if_pos h, if_pos h]; exact .cons r t
    · rw [if_neg h, if_neg h]; exact .cons r' (RepF.put r t)
/-- o.f = e, o a mutable instance -/
theorem ws_fld {f : Str} {C : Addr} {value : Expr} {pos' : Pos} {Ψ : DE} (h : WE X ρ M value fun d M1 => WE X ρ M1 o fun x M2 => ∃ a fs, x = .ob a ∧ M2 a = some (.ins C fs) ∧ Cls X.K C ∧ NoAttr X.K C f ∧ fs.length < 1000 ∧ Ψ.nx ρ (mset M2 a (.ins C (putD f d fs))))
    (hs : swapsWith value (some (.Attribute o f pos')) pos.line X.env = pure false := by rfl) : WS X ρ M (.Assign [.Attribute o f pos'] value pos) Ψ := .mk fun σ H E en w k =>
  sOf (ps_fld pe_sem pe_sem hs) (bind2 h en w fun v u d x H2 M2 e2 w2 r1 r2 hz => by
    obtain ⟨a, fs, rfl, hM, cl, na, hl, hz⟩ := hz
    cases r2
    obtain ⟨dx, vs, ha, rf⟩ := w2.1 a _ hM
    refine ⟨a, C, dx, vs, rfl, ha, cl, na, by rw [rf.length]; exact hl, ?_⟩
    have x3 : Ext M2 _ H2 (mset M2 a (.ins C (putD f d fs))) (upd H2 a (.ins C dx (putF f v vs))) := Ext.put w2 hM
    exact k.nx σ ρ _ _ (e2.trans x3) (w2.put hM ⟨dx, _, upd_same, (rf.mono x3).put (r1.mono x3)⟩) (en.mono (e2.trans x3)) hz)
/-- the method m of the class at C has this contract (self among the arguments) -/
structure Mc (P : Program) (w : World) (K : PySem.W.Frag) (mg : Str → Option Value) (base : Heap) (C : Addr) (m : Str) (dd : List D) (k n : Nat) (c : Con) : Prop where
  cl : Cls K C
  ex : ∃ (f : Addr) (fd : FuncData) (ps : List Str) (dvs : List V) (ds : List Value), FnOk P w K mg base CX0 k f fd ps (spD K n c) ∧ Meth K C m f ∧ Binds K fd ps ds ∧ Vals dvs ds ∧ ∀ M Z H, Reps K M Z H dvs dd
/-- a property of the class at C, its getter's contract -/
structure Pc (P : Program) (w : World) (K : PySem.W.Frag) (mg : Str → Option Value) (base : Heap) (C : Addr) (m : Str) (k : Nat) (c : Con) : Prop where
  cl : Cls K C
  ex : ∃ (p g : Addr) (fd : FuncData) (ps : List Str), FnOk P w K mg base CX0 k g fd ps (spD K 1 c) ∧ PropOf K C m p g ∧ Binds K fd ps []
theorem we_prop {C : Addr} (F : Pc X.prog X.w X.K X.mg X.base C m k c) (hr : Room (k + 1) X.A) (h : WE X ρ M o fun d M1 => ∃ fs, InsOf M1 C d fs ∧ c [d] M1 Φ)
    (hab : attributeBase o m X.env (eval o X.env) = eval o X.env := by rfl) : WE X ρ M (.Attribute o m pos) Φ := .mk fun σ H Q en w k => by
  obtain ⟨p, g, fd, ps, F', hp, hb⟩ := F.ex
  refine eOf (pe_prop (E := E0) pe_sem F.cl hp F' hr hb .nil pass0 hab) (h.run σ H _ en w fun v d H1 M1 e1 w1 r1 hz => ?_)
  obtain ⟨fs, hi, hz⟩ := hz
  obtain ⟨a, dx, vs, rfl, ha, rf⟩ := r1.asIns w1 hi
  exact ⟨a, dx, vs, rfl, ha, [d], M1, _, Φ, rfl, .cons r1 .nil, w1, hz, k.step e1⟩
/-- the class of the name x, its __init__'s contract: the new instance is the first argument -/
structure Kc (P : Program) (w : World) (K : PySem.W.Frag) (mg : Str → Option Value) (base : Heap) (x : Str) (C : Addr) (dd : List D) (k n : Nat) (c : Con) : Prop where
  at_ : mg x = some (.ref C)
  ex : ∃ (f : Addr) (fd : FuncData) (ps : List Str) (dvs : List V) (ds : List Value), FnOk P w K mg base CX0 k f fd ps (spD K n c) ∧ Mk K C f ∧ Binds K fd ps ds ∧ Vals dvs ds ∧ ∀ M Z H, Reps K M Z H dvs dd
theorem we_make {C : Addr} (F : Kc X.prog X.w X.K X.mg X.base x C dd k n c) (hr : Room (k + 1) X.A)
    (h : WA X ρ M (e :: es) fun as M1 => ∀ a, M1 a = none → (.ob a :: (as ++ dd)).length = n ∧ c (.ob a :: (as ++ dd)) (mset M1 a (.ins C [])) fun d M2 => d = .non ∧ Lets Φ (.ob a) M2) (hg : Gl X x := by rfl)
    (hdb : (x == ("__debug__" : Str)) = false := by decide) (he : starEach (e :: es) X.env = (false, eval e X.env) :: starEach es X.env := by rfl) (hpl : (backTo pos (starEach es X.env)).any (·.1) = false := by rfl) : WE X ρ M (.Call (.Name x p) (e :: es) [] pos) Φ := .mk fun σ H Q en w k => by
  obtain ⟨f, fd, ps, dvs, ds, F', hm, hbd, hd, hdd⟩ := F.ex
  refine eOf (pe_make (E := E0) hm F' hr hg F.at_ hbd hd pass0 pa_sem hdb he hpl) (h.run σ H _ en w fun vs as H1 M1 e1 w1 r1 hz => ?_)
  intro a dx ha hdx ne
  obtain ⟨hl, hz⟩ := hz a (w1.fresh ha).1
  have ha1 : (upd H1 dx (.own a)) a = none := by rw [upd_ne (Ne.symm ne)]; exact ha
  have x1 : Ext M1 _ H1 M1 (upd H1 dx (.own a)) := Ext.new w1 hdx
  have wa := w1.new (o := .own a) hdx
  have x2 : Ext M1 _ (upd H1 dx (.own a)) (mset M1 a (.ins C [])) (upd (upd H1 dx (.own a)) a (.ins C dx [])) := Ext.newM wa ha1
  have x12 := x1.trans x2
  refine ⟨.ob a :: (as ++ dd), mset M1 a (.ins C []), _, _, hl, .cons (.ob a) ((r1.mono x12).append (hdd _ _ _)), wa.newM ha1 ⟨dx, [], upd_same, .nil⟩, hz, fun v d H2 M2 x3 w2 r2 hy => ?_⟩
  obtain ⟨rfl, hy⟩ := hy
  cases r2
  exact ⟨rfl, lets_k (k.step (e1.trans x12)) _ _ H2 M2 x3 w2 (.ob a) hy⟩
end
end DL
namespace DL
open PySem PySem.Spec PyProof.Rows L2
section
variable {X : Cx} {ρ : Rho} {M : Mp} {Φ : D → Mp → Prop} {Θ : Bool → Mp → Prop} {a b e : Expr} {pos : Pos} {K : PySem.W.Frag}
theorem rd_I {C : Int → Int → Prop} {g : Int → Int → Int} {x y : D} (h : ∃ i j, x = .int i ∧ y = .int j ∧ C i j ∧ Φ (.int (g i j)) M) : RD K (rI C fun i j => .int (g i j)) x y M Φ := fun Z v u H Q w r1 r2 k => by
  obtain ⟨i, j, rfl, rfl, hc, h⟩ := h
  cases r1; cases r2
  exact ⟨i, j, rfl, rfl, hc, k.now w (.int _) h⟩
theorem rd_I0 {g : Int → Int → Int} {x y : D} (h : ∃ i j, x = .int i ∧ y = .int j ∧ Φ (.int (g i j)) M) : RD K (rI0 fun i j => .int (g i j)) x y M Φ := fun Z v u H Q w r1 r2 k => by
  obtain ⟨i, j, rfl, rfl, h⟩ := h
  cases r1; cases r2
  exact ⟨i, j, rfl, rfl, k.now w (.int _) h⟩
theorem rd_B0 {g : Int → Int → Bool} {x y : D} (h : ∃ i j, x = .int i ∧ y = .int j ∧ Φ (.bl (g i j)) M) : RD K (rI0 fun i j => .bl (g i j)) x y M Φ := fun Z v u H Q w r1 r2 k => by
  obtain ⟨i, j, rfl, rfl, h⟩ := h
  cases r1; cases r2
  exact ⟨i, j, rfl, rfl, k.now w (.bl _) h⟩
theorem we_addI (h : WE X ρ M a fun x M1 => WE X ρ M1 b fun y M2 => ∃ i j, x = .int i ∧ y = .int j ∧ Φ (.int (i + j)) M2) : WE X ρ M (.BinOp a .Add b pos) Φ := we_op op_add (h.imp fun _ _ h => h.imp fun _ _ h => rd_I0 h)
theorem we_subI (h : WE X ρ M a fun x M1 => WE X ρ M1 b fun y M2 => ∃ i j, x = .int i ∧ y = .int j ∧ Φ (.int (i - j)) M2) : WE X ρ M (.BinOp a .Sub b pos) Φ := we_op op_sub (h.imp fun _ _ h => h.imp fun _ _ h => rd_I0 h)
theorem we_mulI (h : WE X ρ M a fun x M1 => WE X ρ M1 b fun y M2 => ∃ i j, x = .int i ∧ y = .int j ∧ CMulW i j ∧ Φ (.int (i * j)) M2) : WE X ρ M (.BinOp a .Mult b pos) Φ := we_op op_mulW (h.imp fun _ _ h => h.imp fun _ _ h => rd_I h)
/-- one factor small -/
theorem we_mulS (h : WE X ρ M a fun x M1 => WE X ρ M1 b fun y M2 => ∃ i j, x = .int i ∧ y = .int j ∧ CMul i j ∧ Φ (.int (i * j)) M2) : WE X ρ M (.BinOp a .Mult b pos) Φ := we_op op_mul (h.imp fun _ _ h => h.imp fun _ _ h => rd_I h)
theorem we_modI (h : WE X ρ M a fun x M1 => WE X ρ M1 b fun y M2 => ∃ i j, x = .int i ∧ y = .int j ∧ 0 < j ∧ Φ (.int (i % j)) M2) : WE X ρ M (.BinOp a .Mod b pos) Φ := we_op op_mod (h.imp fun _ _ h => h.imp fun _ _ h => rd_I (C := fun _ j => 0 < j) h)
theorem we_divI (h : WE X ρ M a fun x M1 => WE X ρ M1 b fun y M2 => ∃ i j, x = .int i ∧ y = .int j ∧ CDivW i j ∧ Φ (.int (i / j)) M2) : WE X ρ M (.BinOp a .FloorDiv b pos) Φ := we_op op_fdivW (h.imp fun _ _ h => h.imp fun _ _ h => rd_I h)
theorem we_powI (h : WE X ρ M a fun x M1 => WE X ρ M1 b fun y M2 => ∃ i j, x = .int i ∧ y = .int j ∧ CPow i j ∧ Φ (.int (i ^ j.toNat)) M2) : WE X ρ M (.BinOp a .Pow b pos) Φ := we_op op_pow (h.imp fun _ _ h => h.imp fun _ _ h => rd_I h)
theorem we_negI (h : WE X ρ M a fun x M1 => ∃ i, x = .int i ∧ Φ (.int (-i)) M1) : WE X ρ M (.UnaryOp .USub a pos) Φ := we_un un_neg (h.imp fun _ _ h Z v H Q w r k => by
  obtain ⟨i, rfl, h⟩ := h
  cases r
  exact ⟨i, rfl, k.now w (.int _) h⟩)
section
variable {op : CmpOp}
theorem we_leI (h : WE X ρ M a fun x M1 => WE X ρ M1 b fun y M2 => ∃ i j, x = .int i ∧ y = .int j ∧ Φ (.bl (decide (i ≤ j))) M2) : WE X ρ M (.Compare a [.LtE] [b] pos) Φ := we_cmp op_le (nomark _) (h.imp fun _ _ h => h.imp fun _ _ h => rd_B0 h)
theorem we_geI (h : WE X ρ M a fun x M1 => WE X ρ M1 b fun y M2 => ∃ i j, x = .int i ∧ y = .int j ∧ Φ (.bl (decide (j ≤ i))) M2) : WE X ρ M (.Compare a [.GtE] [b] pos) Φ := we_cmp op_ge (nomark _) (h.imp fun _ _ h => h.imp fun _ _ h => rd_B0 h)
theorem wt_ltI (h : WE X ρ M a fun x M1 => WE X ρ M1 b fun y M2 => ∃ i j, x = .int i ∧ y = .int j ∧ Θ (decide (i < j)) M2) : WT X ρ M (.Compare a [.Lt] [b] pos) Θ := wt_cmp op_lt (nomark _) (h.imp fun _ _ h => h.imp fun _ _ ⟨i, j, e1, e2, h⟩ => rd_B0 ⟨i, j, e1, e2, _, rfl, h⟩)
theorem wt_leI (h : WE X ρ M a fun x M1 => WE X ρ M1 b fun y M2 => ∃ i j, x = .int i ∧ y = .int j ∧ Θ (decide (i ≤ j)) M2) : WT X ρ M (.Compare a [.LtE] [b] pos) Θ := wt_cmp op_le (nomark _) (h.imp fun _ _ h => h.imp fun _ _ ⟨i, j, e1, e2, h⟩ => rd_B0 ⟨i, j, e1, e2, _, rfl, h⟩)
theorem wt_gtI (h : WE X ρ M a fun x M1 => WE X ρ M1 b fun y M2 => ∃ i j, x = .int i ∧ y = .int j ∧ Θ (decide (j < i)) M2) : WT X ρ M (.Compare a [.Gt] [b] pos) Θ := wt_cmp op_gt (nomark _) (h.imp fun _ _ h => h.imp fun _ _ ⟨i, j, e1, e2, h⟩ => rd_B0 ⟨i, j, e1, e2, _, rfl, h⟩)
end
theorem rd_eq {x y : D} (h : ∃ c, EqS x y c ∧ Φ (.bl c) M) : RD K rEq x y M Φ := fun Z v u H Q w r1 r2 k => by
  obtain ⟨c, hc, h⟩ := h
  obtain ⟨s1, s2⟩ := hc.rep r1 r2
  exact ⟨s1, by rw [s2]; exact k.now w (.bl c) h⟩
theorem rd_ne {x y : D} (h : ∃ c, EqS x y c ∧ Φ (.bl (!c)) M) : RD K rNe x y M Φ := fun Z v u H Q w r1 r2 k => by
  obtain ⟨c, hc, h⟩ := h
  obtain ⟨s1, s2⟩ := hc.rep r1 r2
  exact ⟨s1, by rw [s2]; exact k.now w (.bl (!c)) h⟩
theorem we_eqS (h : WE X ρ M a fun x M1 => WE X ρ M1 b fun y M2 => ∃ c, EqS x y c ∧ Φ (.bl c) M2) : WE X ρ M (.Compare a [.Eq] [b] pos) Φ := we_cmp op_eq (nomark _) (h.imp fun _ _ h => h.imp fun _ _ h => rd_eq h)
theorem wt_eqS (h : WE X ρ M a fun x M1 => WE X ρ M1 b fun y M2 => ∃ c, EqS x y c ∧ Θ c M2) : WT X ρ M (.Compare a [.Eq] [b] pos) Θ := wt_cmp op_eq (nomark _) (h.imp fun _ _ h => h.imp fun _ _ ⟨c, e, h⟩ => rd_eq ⟨c, e, _, rfl, h⟩)
theorem wt_neS (h : WE X ρ M a fun x M1 => WE X ρ M1 b fun y M2 => ∃ c, EqS x y c ∧ Θ (!c) M2) : WT X ρ M (.Compare a [.NotEq] [b] pos) Θ := wt_cmp op_ne (nomark _) (h.imp fun _ _ h => h.imp fun _ _ ⟨c, e, h⟩ => rd_ne ⟨c, e, _, rfl, h⟩)
mutual
theorem Rep.dp {M : Mp} {Z : Zn} {H : Hp} : ∀ {v : V} {d : D} {p : PyData}, Rep K M Z H v d → toPy d = some p → Dp K H v p
  | _, _, _, .non, e => by cases e; exact .non
  | _, _, _, .bl b, e => by cases e; exact .bl b
  | _, _, _, .int i, e => by cases e; exact .int i
  | _, _, _, .str x, e => by cases e; exact .str x
  | _, _, _, .ty n, e => by simp [toPy] at e
  | _, _, _, .fn n, e => by simp [toPy] at e
  | _, _, _, .ob n, e => by simp [toPy] at e
  | _, _, _, .dK h m r, e => by simp [toPy] at e
  | _, _, _, .dT h m r, e => by simp [toPy] at e
  | _, _, _, .ins h m r, e => by simp [toPy] at e
  | _, _, _, .key h m, e => by simp [toPy] at e
  | _, _, _, .fig h hd m md, e => by simp [toPy] at e
  | _, _, _, .exc h hd m md r, e => by simp [toPy] at e
  | _, _, _, .lam h hc m mc, e => by simp [toPy] at e
  | _, _, _, .fdK h m r, e => by simp [toPy] at e
  | _, _, _, .slo h hd m md r, e => by simp [toPy] at e
  | _, _, _, .lst h m r, e => by
    obtain ⟨ps, e1, rfl⟩ := Option.map_eq_some_iff.mp (by simpa only [toPy] using e)
    exact .lst (.inl (.inl h)) (Reps.dp r e1)
  | _, _, _, .rol h m r, e => by
    obtain ⟨ps, e1, rfl⟩ := Option.map_eq_some_iff.mp (by simpa only [toPy] using e)
    exact .lst (.inl h) (Reps.dp r e1)
  | _, _, _, .rolK h r, e => by
    obtain ⟨ps, e1, rfl⟩ := Option.map_eq_some_iff.mp (by simpa only [toPy] using e)
    exact .lst (.inr h) (Reps.dp r e1)
  | _, _, _, .tup h m r, e => by
    obtain ⟨ps, e1, rfl⟩ := Option.map_eq_some_iff.mp (by simpa only [toPy] using e)
    exact .tup (.inl h) (Reps.dp r e1)
  | _, _, _, .tupK h r, e => by
    obtain ⟨ps, e1, rfl⟩ := Option.map_eq_some_iff.mp (by simpa only [toPy] using e)
    exact .tup (.inr h) (Reps.dp r e1)
theorem Reps.dp {M : Mp} {Z : Zn} {H : Hp} : ∀ {vs : List V} {ds : List D} {ps : List PyData}, Reps K M Z H vs ds → toPys ds = some ps → DpAll K H vs ps
  | _, _, _, .nil, e => by cases (show some [] = some _ from (by simpa only [toPys] using e)); exact .nil
  | _, _, _, .cons r t, e => by
    simp only [toPys] at e
    obtain ⟨p, e1, e2⟩ := Option.bind_eq_some_iff.mp e
    obtain ⟨qs, e3, rfl⟩ := Option.map_eq_some_iff.mp e2
    exact .cons (Rep.dp r e1) (Reps.dp t e3)
end
theorem rd_eqD {x y : D} (h : ∃ p q, toPy x = some p ∧ toPy y = some q ∧ SeqAt.shaped p = true ∧ SeqAt.shaped q = true ∧ Φ (.bl (PyData.eqv p q)) M) : RD K (rEqD K) x y M Φ := fun Z v u H Q w r1 r2 k => by
  obtain ⟨p, q, e1, e2, s1, s2, h⟩ := h
  exact ⟨p, q, r1.dp e1, r2.dp e2, s1, s2, k.now w (.bl _) h⟩
theorem rd_neD {x y : D} (h : ∃ p q, toPy x = some p ∧ toPy y = some q ∧ SeqAt.shaped p = true ∧ SeqAt.shaped q = true ∧ Φ (.bl (!PyData.eqv p q)) M) : RD K (rNeD K) x y M Φ := fun Z v u H Q w r1 r2 k => by
  obtain ⟨p, q, e1, e2, s1, s2, h⟩ := h
  exact ⟨p, q, r1.dp e1, r2.dp e2, s1, s2, k.now w (.bl _) h⟩
theorem we_eqD (hu : X.A.units + 64 < cLine) (h : WE X ρ M a fun x M1 => WE X ρ M1 b fun y M2 => ∃ p q, toPy x = some p ∧ toPy y = some q ∧ SeqAt.shaped p = true ∧ SeqAt.shaped q = true ∧ Φ (.bl (PyData.eqv p q)) M2) : WE X ρ M (.Compare a [.Eq] [b] pos) Φ := we_cmp (op_eqD hu) (nomark _) (h.imp fun _ _ h => h.imp fun _ _ h => rd_eqD h)
theorem wt_eqD (hu : X.A.units + 64 < cLine) (h : WE X ρ M a fun x M1 => WE X ρ M1 b fun y M2 => ∃ p q, toPy x = some p ∧ toPy y = some q ∧ SeqAt.shaped p = true ∧ SeqAt.shaped q = true ∧ Θ (PyData.eqv p q) M2) : WT X ρ M (.Compare a [.Eq] [b] pos) Θ := wt_cmp (op_eqD hu) (nomark _) (h.imp fun _ _ h => h.imp fun _ _ ⟨p, q, e1, e2, s1, s2, h⟩ => rd_eqD ⟨p, q, e1, e2, s1, s2, _, rfl, h⟩)
theorem wt_neD (hu : X.A.units + 64 < cLine) (h : WE X ρ M a fun x M1 => WE X ρ M1 b fun y M2 => ∃ p q, toPy x = some p ∧ toPy y = some q ∧ SeqAt.shaped p = true ∧ SeqAt.shaped q = true ∧ Θ (!PyData.eqv p q) M2) : WT X ρ M (.Compare a [.NotEq] [b] pos) Θ := wt_cmp (op_neD hu) (nomark _) (h.imp fun _ _ h => h.imp fun _ _ ⟨p, q, e1, e2, s1, s2, h⟩ => rd_neD ⟨p, q, e1, e2, s1, s2, _, rfl, h⟩)
def isNon : D → Bool
  | .non => true
  | _ => false
theorem Rep.isNon {M : Mp} {Z : Zn} {H : Hp} {v : V} {d : D} (r : Rep K M Z H v d) : decide (v = .non) = DL.isNon d := by
  cases r <;> first | rfl | simp [DL.isNon]
theorem we_isN {j : Nat} {p' : Pos} (h : WE X ρ M a fun x M1 => Φ (.bl (isNon x)) M1) : WE X ρ M (.Compare a [.Is] [.Constant .none j p'] pos) Φ := .mk fun σ H Q en w k =>
  eOf (pe_cmp (pc_isN pe_sem)) (h.run σ H _ en w fun v d H1 M1 e1 w1 r1 hz => by
    show Q (.bl (decide (v = .non))) H1
    rw [r1.isNon]
    exact (k.step e1).now w1 (.bl _) hz)
theorem we_notN {j : Nat} {p' : Pos} (h : WE X ρ M a fun x M1 => Φ (.bl (!isNon x)) M1) : WE X ρ M (.Compare a [.IsNot] [.Constant .none j p'] pos) Φ := .mk fun σ H Q en w k =>
  eOf (pe_cmp (pc_notN pe_sem)) (h.run σ H _ en w fun v d H1 M1 e1 w1 r1 hz => by
    show Q (.bl (!decide (v = .non))) H1
    rw [r1.isNon]
    exact (k.step e1).now w1 (.bl _) hz)
theorem wt_isN {j : Nat} {p' : Pos} (h : WE X ρ M a fun x M1 => Θ (isNon x) M1) : WT X ρ M (.Compare a [.Is] [.Constant .none j p'] pos) Θ := .mk fun σ H Q en w k =>
  tOf (pt_cmp (pc_isN pe_sem)) (h.run σ H _ en w fun v d H1 M1 e1 w1 r1 hz => by
    show ∃ c, V.bl (decide (v = .non)) = .bl c ∧ Q c H1
    rw [r1.isNon]
    exact ⟨_, rfl, (k.step e1).now w1 hz⟩)
theorem wt_notN {j : Nat} {p' : Pos} (h : WE X ρ M a fun x M1 => Θ (!isNon x) M1) : WT X ρ M (.Compare a [.IsNot] [.Constant .none j p'] pos) Θ := .mk fun σ H Q en w k =>
  tOf (pt_cmp (pc_notN pe_sem)) (h.run σ H _ en w fun v d H1 M1 e1 w1 r1 hz => by
    show ∃ c, V.bl (!decide (v = .non)) = .bl c ∧ Q c H1
    rw [r1.isNon]
    exact ⟨_, rfl, (k.step e1).now w1 hz⟩)
theorem wt_chainI {c : Expr} (h : WE X ρ M a fun x M1 => WE X ρ M1 b fun y M2 => ∃ i j, x = .int i ∧ y = .int j ∧ if decide (i ≤ j) = true then WE X ρ M2 c fun z M3 => ∃ l, z = .int l ∧ Θ (decide (j ≤ l)) M3 else Θ false M2) (hm : lastMarks [.LtE, .LtE] [b, c] = false := by rfl) : WT X ρ M (.Compare a [.LtE, .LtE] [b, c] pos) Θ := .mk fun σ H Q en w k =>
  tOf (pt_chain op_le op_le pe_sem pe_sem pe_sem (hm := hm)) (bind2 h en w fun v u x y H2 M2 e2 w2 r1 r2 hz => by
    obtain ⟨i, j, rfl, rfl, hz⟩ := hz
    cases r1; cases r2
    refine ⟨i, j, rfl, rfl, _, rfl, ?_⟩
    cases hd : decide (i ≤ j) with
    | false =>
      rw [hd] at hz
      exact ⟨_, rfl, (k.step e2).now w2 hz⟩
    | true =>
      rw [hd] at hz
      exact hz.run σ H2 _ (en.mono e2) w2 fun v3 z H3 M3 e3 w3 r3 hy => by
        obtain ⟨l, rfl, hy⟩ := hy
        cases r3
        exact ⟨j, l, rfl, rfl, _, rfl, (k.step (e2.trans e3)).now w3 hy⟩)
theorem we_addS (h : WE X ρ M a fun x M1 => WE X ρ M1 b fun y M2 => ∃ i j, x = .str i ∧ y = .str j ∧ i.length + j.length ≤ sizeLine ∧ Φ (.str (i ++ j)) M2) : WE X ρ M (.BinOp a .Add b pos) Φ := we_op op_add_str (h.imp fun _ _ h => h.imp fun _ _ h Z v u H Q w r1 r2 k => by
  obtain ⟨i, j, rfl, rfl, hz, h⟩ := h
  cases r1; cases r2
  exact ⟨i, j, rfl, rfl, hz, k.now w (.str _) h⟩)
theorem we_inC (h : WE X ρ M a fun x M1 => WE X ρ M1 b fun y M2 => ∃ c z, x = .str ⟨#[c]⟩ ∧ y = .str z ∧ Φ (.bl (decide (c ∈ z.cps.toList))) M2) (hm : behindInMarks .In b = false := by rfl) : WE X ρ M (.Compare a [.In] [b] pos) Φ := we_cmp op_in_sign hm (h.imp fun _ _ h => h.imp fun _ _ h Z v u H Q w r1 r2 k => by
  obtain ⟨i, j, rfl, rfl, h⟩ := h
  cases r1; cases r2
  exact ⟨i, j, rfl, rfl, k.now w (.bl _) h⟩)
theorem we_addL (h : WE X ρ M a fun x M1 => WE X ρ M1 b fun y M2 => ∃ xs ys, x = .lst xs ∧ y = .lst ys ∧ xs.length + ys.length ≤ sizeLine ∧ Φ (.lst (xs ++ ys)) M2) : WE X ρ M (.BinOp a .Add b pos) Φ := we_op op_cat (h.imp fun _ _ h => h.imp fun _ _ h Z v u H Q w r1 r2 k => by
  obtain ⟨xs, ys, rfl, rfl, hz, h⟩ := h
  cases r1 with
  | lst h1 m1 r1 =>
    cases r2 with
    | lst h2 m2 r2 =>
      exact ⟨_, _, _, _, rfl, rfl, h1, h2, by rw [r1.length, r2.length]; exact hz, fun p hp => k.new w hp (.lst upd_same (w.fresh hp) ((r1.append r2).mono (Ext.new w hp))) h⟩)
/-- what a subscript reads -/
def IxD (M : Mp) (d : D) (i : Int) (y : D) : Prop := (∃ ds, LstOf M d ds ∧ atI ds i = some y) ∨ (∃ ds, d = .tup ds ∧ atI ds i = some y) ∨ ∃ z c, d = .str z ∧ z.length ≤ sizeLine ∧ atI z.cps.toList i = some c ∧ y = .str ⟨#[c]⟩
theorem Reps.atI {M : Mp} {Z : Zn} {H : Hp} {vs : List V} {ds : List D} {i : Int} {d : D} (r : Reps K M Z H vs ds) (h : L2.atI ds i = some d) : ∃ v, L2.atI vs i = some v ∧ Rep K M Z H v d := by
  unfold L2.atI at h ⊢
  rw [r.length]
  cases e : ixN ds.length i with
  | none => rw [e] at h; cases h
  | some j =>
    rw [e] at h
    exact r.get h
theorem we_ix (h : WE X ρ M a fun x M1 => WE X ρ M1 b fun y M2 => ∃ i d, y = .int i ∧ IxD M2 x i d ∧ Φ d M2) (hs : PlainIx b := by exact fun _ _ => rfl) : WE X ρ M (.Subscript a b pos) Φ := .mk fun σ H Q en w k =>
  eOf (pe_ix ix_seq pe_sem pe_sem hs) (bind2 h en w fun v u x y H2 M2 e2 w2 r1 r2 hz => by
    obtain ⟨i, d, rfl, hi, hz⟩ := hz
    cases r2
    rcases hi with ⟨ds, hl, ha⟩ | ⟨ds, rfl, ha⟩ | ⟨z, c, rfl, hl, ha, rfl⟩
    · obtain ⟨p, vs, rfl, hq, rs⟩ := r1.asLst w2 hl
      obtain ⟨v, hv, rv⟩ := rs.atI ha
      exact .inl ⟨p, vs, i, v, rfl, rfl, hq, hv, (k.step e2).now w2 rv hz⟩
    · obtain ⟨p, vs, rfl, hq, rs⟩ := r1.asTup
      obtain ⟨v, hv, rv⟩ := rs.atI ha
      exact .inr (.inl ⟨p, vs, i, v, rfl, rfl, hq, hv, (k.step e2).now w2 rv hz⟩)
    · cases r1
      exact .inr (.inr ⟨z, i, c, rfl, rfl, hl, ha, (k.step e2).now w2 (.str _) hz⟩))
theorem ixT {M : Mp} {ds : List D} {i : Int} {y : D} (h : atI ds i = some y) : IxD M (.tup ds) i y := .inr (.inl ⟨ds, rfl, h⟩)
theorem ixL {M : Mp} {ds : List D} {i : Int} {y : D} (h : atI ds i = some y) : IxD M (.lst ds) i y := .inl ⟨ds, rfl, h⟩
theorem ixR {M : Mp} {ds : List D} {i : Int} {y : D} (h : atI ds i = some y) : IxD M (.rol ds) i y := .inl ⟨ds, rfl, h⟩
theorem ixO {M : Mp} {p : Addr} {ds : List D} {i : Int} {y : D} (hp : M p = some (.lst ds)) (h : atI ds i = some y) : IxD M (.ob p) i y := .inl ⟨ds, hp, h⟩
def WO (X : Cx) (ρ : Rho) (M : Mp) (e : Option Expr) (Φ : Option Int → Mp → Prop) : Prop := match e with
  | none => Φ none M
  | some e => WE X ρ M e fun d M1 => ∃ i, d = .int i ∧ Φ (some i) M1
def oSem (X : Cx) : Option Expr → TO
  | none => tNoPart
  | some e => tPart (eSem X e)
theorem po_sem {o : Option Expr} : PO X o (oSem X o) := by
  cases o with
  | none => exact po_none
  | some e => exact po_some pe_sem
theorem wo_run {o : Option Expr} {ΦO : Option Int → Mp → Prop} (h : WO X ρ M o ΦO) {Z : Zn} {σ : L2.St} {H : Hp} {Q : Option Int → Hp → Prop} (en : EnvR X.K M Z H σ ρ) (w : Wd X.K M Z H) (k : ∀ i H' M', Ext M Z H M' H' → Wd X.K M' Z H' → ΦO i M' → Q i H') : oSem X o σ H Q := by
  cases o with
  | none => exact k none H M Ext.refl w h
  | some e =>
    refine (show WE X ρ M e (fun d M1 => ∃ i, d = .int i ∧ ΦO (some i) M1) from h).run σ H _ en w fun v d H1 M1 e1 w1 r1 hz => ?_
    obtain ⟨i, rfl, hz⟩ := hz
    cases r1
    exact ⟨i, rfl, k _ H1 M1 e1 w1 hz⟩
/-- what a slice is -/
def SlD (M : Mp) (d : D) (lo hi : Option Int) (y : D) : Prop := (∃ ds, LstOf M d ds ∧ y = .lst (cutD ds lo hi)) ∨ (∃ ds, d = .tup ds ∧ y = .tup (cutD ds lo hi)) ∨ ∃ z, d = .str z ∧ z.length ≤ sizeLine ∧ y = .str (cutS z lo hi)
theorem cutD_all {α : Type} {xs : List α} {lo hi : Option Int} (h : HT.sIx xs.length 0 lo = 0 ∧ HT.sIx xs.length xs.length hi = xs.length) : cutD xs lo hi = xs := by
  unfold cutD; rw [h.1, h.2]; simp
theorem we_slice {lo hi : Option Expr} {p2 : Pos} (h : WE X ρ M a fun x M1 => WO X ρ M1 lo fun l M2 => WO X ρ M2 hi fun u M3 => ∃ d, SlD M3 x l u d ∧ Φ d M3) : WE X ρ M (.Subscript a (.Slice lo hi none p2) pos) Φ := .mk fun σ H Q en w k =>
  eOf (pe_slice (sl_list.or (sl_tupA.or sl_str)) pe_sem po_sem po_sem) (h.run σ H _ en w fun v x H1 M1 e1 w1 r1 hz => wo_run hz (en.mono e1) w1 fun l H2 M2 e2 w2 hz => wo_run hz (en.mono (e1.trans e2)) w2 fun u H3 M3 e3 w3 hz => by
    obtain ⟨d, hd, hz⟩ := hz
    have r3 := r1.mono (e2.trans e3)
    have k3 := k.step ((e1.trans e2).trans e3)
    rcases hd with ⟨ds, hl, rfl⟩ | ⟨ds, rfl, rfl⟩ | ⟨z, rfl, hl, rfl⟩
    · obtain ⟨p, vs, rfl, hq, rs⟩ := r3.asLst w3 hl
      exact .inl ⟨p, vs, rfl, hq, fun q hp => k3.new w3 hp (.lst upd_same (w3.fresh hp) ((rs.cut l u).mono (Ext.new w3 hp))) hz⟩
    · obtain ⟨p, vs, rfl, hq, rs⟩ := r3.asTup
      refine .inr (.inl ⟨p, vs, rfl, hq, fun hw => ?_, fun hw q hp => ?_⟩)
      · rw [rs.length] at hw
        rw [cutD_all hw] at hz
        exact k3.now w3 r3 hz
      · exact k3.new w3 hp (.tup (.inl upd_same) (w3.fresh hp) ((rs.cut l u).mono (Ext.new w3 hp))) hz
    · cases r3
      exact .inr (.inr ⟨z, rfl, hl, k3.now w3 (.str _) hz⟩))
end
end DL
namespace DL
open PySem PySem.Spec PyProof.Rows L2
section
variable {X : Cx} {ρ : Rho} {M : Mp} {Φ : D → Mp → Prop} {Θ : Bool → Mp → Prop} {a b e o : Expr} {es : List Expr} {pos p apos : Pos} {x : Str}
theorem we_callB {id : String} {r : List V → Hp → VK → Prop} (hc : CallR X (.builtin id) r) (hm : X.mg x = none) (hv : bootBuiltins x = some (.builtin id)) (h : WA X ρ M (e :: es) fun ds M1 => RC X.K r ds M1 Φ) (hg : Gl X x := by rfl) (hn : x ≠ "__name__" := by decide) (hdb : (x == ("__debug__" : Str)) = false := by decide)
    (he : starEach (e :: es) X.env = (false, eval e X.env) :: starEach es X.env := by rfl) (hpl : (backTo pos (starEach es X.env)).any (·.1) = false := by rfl) : WE X ρ M (.Call (.Name x p) (e :: es) [] pos) Φ := .mk fun σ H Q en w k =>
  eOf (pe_callB hc hg hm hv pa_sem hn hdb he hpl) (h.run σ H _ en w fun vs ds H1 M1 e1 w1 r1 hz => hz _ vs H1 Q w1 r1 (k.step e1))
theorem we_callTy {T : String} {r : List V → Hp → VK → Prop} (hc : CallR X (.type T) r) (hm : X.mg x = none) (hv : bootBuiltins x = some (.type T)) (h : WA X ρ M (e :: es) fun ds M1 => RC X.K r ds M1 Φ) (hg : Gl X x := by rfl) (hn : x ≠ "__name__" := by decide) (hdb : (x == ("__debug__" : Str)) = false := by decide)
    (he : starEach (e :: es) X.env = (false, eval e X.env) :: starEach es X.env := by rfl) (hpl : (backTo pos (starEach es X.env)).any (·.1) = false := by rfl) : WE X ρ M (.Call (.Name x p) (e :: es) [] pos) Φ := .mk fun σ H Q en w k =>
  eOf (pe_callTy hc hg hm hv pa_sem hn hdb he hpl) (h.run σ H _ en w fun vs ds H1 M1 e1 w1 r1 hz => hz _ vs H1 Q w1 r1 (k.step e1))
/-- how many -/
def LenD (M : Mp) (d : D) (n : Nat) : Prop := (∃ ds, LstOf M d ds ∧ n = ds.length) ∨ (∃ ds, d = .tup ds ∧ n = ds.length) ∨ ∃ z, d = .str z ∧ z.length ≤ sizeLine ∧ n = z.length
theorem we_len (hm : X.mg "len" = none) (h : WE X ρ M e fun d M1 => ∃ n : Nat, LenD M1 d n ∧ Φ (.int n) M1) (hg : Gl X "len" := by rfl)
    (he : starEach [e] X.env = (false, eval e X.env) :: starEach [] X.env := by rfl) (hpl : (backTo pos (starEach [] X.env)).any (·.1) = false := by rfl) : WE X ρ M (.Call (.Name "len" p) [e] [] pos) Φ :=
  we_callB call_len hm boot_len (wa_cons (h.imp fun d M1 h => wa_nil fun Z vs H Q w rr k => by
    obtain ⟨n, hn, h⟩ := h
    obtain ⟨v, rfl, r⟩ := rr.one
    refine ⟨v, n, rfl, ?_, k.now w (.int _) h⟩
    rcases hn with ⟨ds, hl, rfl⟩ | ⟨ds, rfl, rfl⟩ | ⟨z, rfl, hz, rfl⟩
    · obtain ⟨p, vs, rfl, hq, rs⟩ := r.asLst w hl
      exact .inl ⟨vs, hq, rs.length.symm⟩
    · obtain ⟨p, vs, rfl, hq, rs⟩ := r.asTup
      exact .inr ⟨vs, hq, rs.length.symm⟩
    · cases r
      exact ⟨hz, rfl⟩) he) hg (he := he) (hpl := hpl)
theorem lenL {M : Mp} {ds : List D} : LenD M (.lst ds) ds.length := .inl ⟨ds, rfl, rfl⟩
theorem lenR {M : Mp} {ds : List D} : LenD M (.rol ds) ds.length := .inl ⟨ds, rfl, rfl⟩
theorem lenS {M : Mp} {z : Str} (h : z.length ≤ sizeLine) : LenD M (.str z) z.length := .inr (.inr ⟨z, rfl, h, rfl⟩)
theorem lenO {M : Mp} {p : Addr} {ds : List D} (h : M p = some (.lst ds)) : LenD M (.ob p) ds.length := .inl ⟨ds, h, rfl⟩
theorem we_abs (hm : X.mg "abs" = none) (h : WE X ρ M e fun d M1 => ∃ i, d = .int i ∧ Φ (.int (if i < 0 then -i else i)) M1) (hg : Gl X "abs" := by rfl)
    (he : starEach [e] X.env = (false, eval e X.env) :: starEach [] X.env := by rfl) (hpl : (backTo pos (starEach [] X.env)).any (·.1) = false := by rfl) : WE X ρ M (.Call (.Name "abs" p) [e] [] pos) Φ :=
  we_callB call_abs hm (by decide +kernel) (wa_cons (h.imp fun d M1 h => wa_nil fun Z vs H Q w rr k => by
    obtain ⟨i, rfl, h⟩ := h
    obtain ⟨v, rfl, r⟩ := rr.one
    cases r
    exact ⟨i, rfl, k.now w (.int _) h⟩) he) hg (he := he) (hpl := hpl)
/-- int(x) of an int, a bool -/
theorem we_intN (hm : X.mg "int" = none) (h : WE X ρ M e fun d M1 => (∃ i, d = .int i ∧ Φ (.int i) M1) ∨ ∃ c, d = .bl c ∧ Φ (.int (if c then 1 else 0)) M1) (hg : Gl X "int" := by rfl)
    (he : starEach [e] X.env = (false, eval e X.env) :: starEach [] X.env := by rfl) (hpl : (backTo pos (starEach [] X.env)).any (·.1) = false := by rfl) : WE X ρ M (.Call (.Name "int" p) [e] [] pos) Φ :=
  we_callTy call_int1 hm (by decide +kernel) (wa_cons (h.imp fun d M1 h => wa_nil fun Z vs H Q w rr k => by
    obtain ⟨v, rfl, r⟩ := rr.one
    rcases h with ⟨i, rfl, h⟩ | ⟨i, rfl, h⟩
    · cases r; exact .inl ⟨i, rfl, k.now w (.int _) h⟩
    · cases r; exact .inr ⟨i, rfl, k.now w (.int _) h⟩) he) hg (he := he) (hpl := hpl)
/-- int(text) -/
theorem we_intS (hm : X.mg "int" = none) (h : WE X ρ M e fun d M1 => ∃ z n, d = .str z ∧ PySem.intText? z = some n ∧ z.length ≤ 640 ∧ Φ (.int n) M1) (hg : Gl X "int" := by rfl)
    (he : starEach [e] X.env = (false, eval e X.env) :: starEach [] X.env := by rfl) (hpl : (backTo pos (starEach [] X.env)).any (·.1) = false := by rfl) : WE X ρ M (.Call (.Name "int" p) [e] [] pos) Φ :=
  we_callTy call_int_str hm (by decide +kernel) (wa_cons (h.imp fun d M1 h => wa_nil fun Z vs H Q w rr k => by
    obtain ⟨v, rfl, r⟩ := rr.one
    obtain ⟨z, n, rfl, h1, h2, h⟩ := h
    cases r
    exact ⟨z, n, rfl, h1, h2, k.now w (.int _) h⟩) he) hg (he := he) (hpl := hpl)
/-- str(int) -/
theorem we_strI (hm : X.mg "str" = none) (h : WE X ρ M e fun d M1 => ∃ i : Int, d = .int i ∧ i.natAbs.log2 < 1920 ∧ Φ (.str (toString i)) M1) (hg : Gl X "str" := by rfl)
    (he : starEach [e] X.env = (false, eval e X.env) :: starEach [] X.env := by rfl) (hpl : (backTo pos (starEach [] X.env)).any (·.1) = false := by rfl) : WE X ρ M (.Call (.Name "str" p) [e] [] pos) Φ :=
  we_callTy call_str_int hm (by decide +kernel) (wa_cons (h.imp fun d M1 h => wa_nil fun Z vs H Q w rr k => by
    obtain ⟨v, rfl, r⟩ := rr.one
    obtain ⟨i, rfl, h2, h⟩ := h
    cases r
    exact ⟨i, rfl, h2, k.now w (.str _) h⟩) he) hg (he := he) (hpl := hpl)
theorem we_max2 (hm : X.mg "max" = none) (h : WE X ρ M a fun x M1 => WE X ρ M1 b fun y M2 => ∃ i j, x = .int i ∧ y = .int j ∧ Φ (.int (if j > i then j else i)) M2) (hc : X.calm = true := by rfl) (hg : Gl X "max" := by rfl)
    (ha : starEach [a, b] X.env = (false, eval a X.env) :: starEach [b] X.env := by rfl) (hb : starEach [b] X.env = (false, eval b X.env) :: starEach [] X.env := by rfl) (hpl : (backTo pos (starEach [b] X.env)).any (·.1) = false := by rfl) : WE X ρ M (.Call (.Name "max" p) [a, b] [] pos) Φ :=
  we_callB (call_max2 hc) hm (by decide +kernel) (wa_cons (h.imp fun x M1 h => wa_cons (h.imp fun y M2 h => wa_nil fun Z vs H Q w rr k => by
    obtain ⟨v, u, rfl, r1, r2⟩ := rr.two
    obtain ⟨i, j, rfl, rfl, h⟩ := h
    cases r1; cases r2
    exact ⟨i, j, rfl, k.now w (.int _) h⟩) hb) ha) hg (he := ha) (hpl := hpl)
theorem we_min2 (hm : X.mg "min" = none) (h : WE X ρ M a fun x M1 => WE X ρ M1 b fun y M2 => ∃ i j, x = .int i ∧ y = .int j ∧ Φ (.int (if j < i then j else i)) M2) (hc : X.calm = true := by rfl) (hg : Gl X "min" := by rfl)
    (ha : starEach [a, b] X.env = (false, eval a X.env) :: starEach [b] X.env := by rfl) (hb : starEach [b] X.env = (false, eval b X.env) :: starEach [] X.env := by rfl) (hpl : (backTo pos (starEach [b] X.env)).any (·.1) = false := by rfl) : WE X ρ M (.Call (.Name "min" p) [a, b] [] pos) Φ :=
  we_callB (call_min2 hc) hm (by decide +kernel) (wa_cons (h.imp fun x M1 h => wa_cons (h.imp fun y M2 h => wa_nil fun Z vs H Q w rr k => by
    obtain ⟨v, u, rfl, r1, r2⟩ := rr.two
    obtain ⟨i, j, rfl, rfl, h⟩ := h
    cases r1; cases r2
    exact ⟨i, j, rfl, k.now w (.int _) h⟩) hb) ha) hg (he := ha) (hpl := hpl)
/-- sum, all, any -/
theorem we_sum (hm : X.mg "sum" = none) (h : WE X ρ M e fun d M1 => ∃ ns : List Int, LstOf M1 d (ns.map D.int) ∧ Φ (.int ns.sum) M1) (hc : X.calm = true := by rfl) (hg : Gl X "sum" := by rfl)
    (he : starEach [e] X.env = (false, eval e X.env) :: starEach [] X.env := by rfl) (hpl : (backTo pos (starEach [] X.env)).any (·.1) = false := by rfl) : WE X ρ M (.Call (.Name "sum" p) [e] [] pos) Φ :=
  we_callB (cr_sum hc) hm (by decide +kernel) (wa_cons (h.imp fun d M1 h => wa_nil fun Z vs H Q w rr k => by
    obtain ⟨v, rfl, r⟩ := rr.one
    obtain ⟨ns, hl, h⟩ := h
    obtain ⟨q, vs, rfl, hq, rs⟩ := r.asLst w hl
    rw [rs.ints] at hq
    exact ⟨q, ns, rfl, hq, k.now w (.int _) h⟩) he) hg (he := he) (hpl := hpl)
theorem we_all (hm : X.mg "all" = none) (h : WE X ρ M e fun d M1 => ∃ bs : List Bool, LstOf M1 d (bs.map D.bl) ∧ Φ (.bl (bs.all id)) M1) (hc : X.calm = true := by rfl) (hg : Gl X "all" := by rfl)
    (he : starEach [e] X.env = (false, eval e X.env) :: starEach [] X.env := by rfl) (hpl : (backTo pos (starEach [] X.env)).any (·.1) = false := by rfl) : WE X ρ M (.Call (.Name "all" p) [e] [] pos) Φ :=
  we_callB (cr_all hc) hm (by decide +kernel) (wa_cons (h.imp fun d M1 h => wa_nil fun Z vs H Q w rr k => by
    obtain ⟨v, rfl, r⟩ := rr.one
    obtain ⟨ns, hl, h⟩ := h
    obtain ⟨q, vs, rfl, hq, rs⟩ := r.asLst w hl
    rw [rs.bls] at hq
    exact ⟨q, ns, rfl, hq, k.now w (.bl _) h⟩) he) hg (he := he) (hpl := hpl)
/-- tuple(xs), list(xs) -/
theorem we_tupleOf (hm : X.mg "tuple" = none) (h : WE X ρ M e fun d M1 => ∃ ds, (LstOf M1 d ds ∨ d = .tup ds) ∧ Φ (.tup ds) M1) (hg : Gl X "tuple" := by rfl)
    (he : starEach [e] X.env = (false, eval e X.env) :: starEach [] X.env := by rfl) (hpl : (backTo pos (starEach [] X.env)).any (·.1) = false := by rfl) : WE X ρ M (.Call (.Name "tuple" p) [e] [] pos) Φ :=
  we_callTy call_tuple_of hm (by decide +kernel) (wa_cons (h.imp fun d M1 h => wa_nil fun Z vs H Q w rr k => by
    obtain ⟨v, rfl, r⟩ := rr.one
    obtain ⟨ds, hl | rfl, h⟩ := h
    · obtain ⟨q, vs, rfl, hq, rs⟩ := r.asLst w hl
      exact ⟨q, vs, rfl, .inl ⟨hq, fun l hp => k.new w hp (.tup (.inl upd_same) (w.fresh hp) (rs.mono (Ext.new w hp))) h⟩⟩
    · obtain ⟨q, vs, rfl, hq, rs⟩ := r.asTup
      exact ⟨q, vs, rfl, .inr ⟨hq, k.now w r h⟩⟩) he) hg (he := he) (hpl := hpl)
/-- a list that will be changed -/
theorem we_listOfM (hm : X.mg "list" = none) (h : WE X ρ M e fun d M1 => ∃ ds, (LstOf M1 d ds ∨ d = .tup ds) ∧ ∀ q, M1 q = none → Φ (.ob q) (mset M1 q (.lst ds))) (hg : Gl X "list" := by rfl)
    (he : starEach [e] X.env = (false, eval e X.env) :: starEach [] X.env := by rfl) (hpl : (backTo pos (starEach [] X.env)).any (·.1) = false := by rfl) : WE X ρ M (.Call (.Name "list" p) [e] [] pos) Φ :=
  we_callTy call_list_of hm (by decide +kernel) (wa_cons (h.imp fun d M1 h => wa_nil fun Z vs H Q w rr k => by
    obtain ⟨v, rfl, r⟩ := rr.one
    obtain ⟨ds, hl, h⟩ := h
    obtain ⟨q, vs, rfl, hq, rs⟩ : ∃ q vs, v = .ref q ∧ (SqL X.K H q vs ∨ SqT X.K H q vs) ∧ Reps X.K M1 Z H vs ds := by
      rcases hl with hl | rfl
      · obtain ⟨q, vs, e, hq, rs⟩ := r.asLst w hl; exact ⟨q, vs, e, .inl hq, rs⟩
      · obtain ⟨q, vs, e, hq, rs⟩ := r.asTup; exact ⟨q, vs, e, .inr hq, rs⟩
    exact ⟨q, vs, rfl, hq, fun l hp => k _ (.ob l) _ (mset M1 l (.lst ds)) (Ext.newM w hp) (w.newM hp ⟨vs, upd_same, rs.mono (Ext.newM w hp)⟩) (.ob l) (h l (w.fresh hp).1)⟩) he) hg (he := he) (hpl := hpl)
/-- list(range(n)) -/
theorem we_listRg1 {p2 pos2 : Pos} (hm : X.mg "list" = none) (hm2 : X.mg "range" = none) (h : WE X ρ M e fun d M1 => ∃ n : Int, d = .int n ∧ RgOk 0 n ∧ Φ (.lst (rngD 0 n.toNat)) M1) (hc : X.calm = true := by rfl) (hg : Gl X "list" := by rfl) (hg2 : Gl X "range" := by rfl)
    (na : starEach [e] X.env = (false, eval e X.env) :: starEach [] X.env := by rfl) (nb : starEach [.Call (.Name "range" p2) [e] [] pos2] X.env = (false, eval (.Call (.Name "range" p2) [e] [] pos2) X.env) :: starEach [] X.env := by rfl) : WE X ρ M (.Call (.Name "list" p) [.Call (.Name "range" p2) [e] [] pos2] [] pos) Φ := .mk fun σ H Q en w k =>
  eOf (pe_listRg hc hg hm (prg_1 hg2 hm2 pe_sem na) nb) (h.run σ H _ en w fun v d H1 M1 e1 w1 r1 hz => by
    obtain ⟨n, rfl, ok, hz⟩ := hz
    cases r1
    refine ⟨n, rfl, ok, fun q hq => (k.step e1).new w1 hq (.lst upd_same (w1.fresh hq) ?_) hz⟩
    have e2 : ∀ (M : Mp) (Z : Zn) (H : Hp), Reps X.K M Z H (rgV 0 n) (rngD 0 n.toNat) := fun M Z H => by
      unfold rgV rngD
      rw [show (n - 0).toNat = n.toNat by omega]
      generalize List.range n.toNat = l
      induction l with
      | nil => exact .nil
      | cons i r ih => exact .cons (.int _) ih
    exact e2 _ _ _)
/-- a class as data -/
def ClsD : D → Value → Prop
  | .ty n, u => u = .type n
  | .fn C, u => u = .ref C
  | _, _ => False
theorem we_isi (hm : X.mg "isinstance" = none) (h : WE X ρ M a fun x M1 => WE X ρ M1 b fun y M2 => ∃ t u c, TyD M2 x t ∧ ClsD y u ∧ (∀ C, t = .ref C → OwnC X.K C) ∧ PySem.W.kitOne X.K t u = some c ∧ Φ (.bl c) M2) (hg : Gl X "isinstance" := by rfl)
    (ha : starEach [a, b] X.env = (false, eval a X.env) :: starEach [b] X.env := by rfl) (hb : starEach [b] X.env = (false, eval b X.env) :: starEach [] X.env := by rfl) (hpl : (backTo pos (starEach [b] X.env)).any (·.1) = false := by rfl) : WE X ρ M (.Call (.Name "isinstance" p) [a, b] [] pos) Φ :=
  we_callB call_isi hm (by decide +kernel) (wa_cons (h.imp fun x M1 h => wa_cons (h.imp fun y M2 h => wa_nil fun Z vs H Q w rr k => by
    obtain ⟨v, u, rfl, r1, r2⟩ := rr.two
    obtain ⟨t, cu, c, h1, h2, own, h3, h⟩ := h
    refine ⟨v, u, t, cu, c, rfl, ?_, h1.rep r1 own, h3, k.now w (.bl _) h⟩
    cases r2 with
    | ty n => cases h2; exact .ty n
    | fn C => cases h2; exact .own C
    | _ => cases h2) hb) ha) hg (he := ha) (hpl := hpl)
theorem we_m1 {id : String} {name : Str} {r : V → List V → Hp → VK → Prop} (slot : Slot "str" name id) (ty : typeOf (.builtin id) = pure (.type "method_descriptor")) (rule : MtR X id r)
    (h : WE X ρ M o fun d M1 => ∃ z, d = .str z ∧ WE X ρ M1 e fun y M2 => ∀ Z H Q u, Wd X.K M2 Z H → Rep X.K M2 Z H u y → KE X.K M2 Z H Φ Q → r (.str z) [u] H Q)
    (hs : starEach [e] X.env = [(false, eval e X.env)] := by rfl) (hbase : attributeBase o name X.env (eval o X.env) = eval o X.env := by rfl) (hline : (apos.endLine == pos.line) = true := by rfl) : WE X ρ M (.Call (.Attribute o name apos) [e] [] pos) Φ := .mk fun σ H Q en w k =>
  eOf (pe_m1 slot ty rule pe_sem pe_sem hs hbase hline) (h.run σ H _ en w fun v d H1 M1 e1 w1 r1 hz => by
    obtain ⟨z, rfl, hz⟩ := hz
    cases r1
    exact ⟨⟨z, rfl⟩, hz.run σ H1 _ (en.mono e1) w1 fun u y H2 M2 e2 w2 r2 hy => hy _ H2 Q u w2 r2 (k.step (e1.trans e2))⟩)
theorem we_startswith (h : WE X ρ M o fun d M1 => ∃ z, d = .str z ∧ WE X ρ M1 e fun y M2 => ∃ s, y = .str s ∧ Φ (.bl (Txt.startswith z s)) M2) (hs : starEach [e] X.env = [(false, eval e X.env)] := by rfl) (hbase : attributeBase o "startswith" X.env (eval o X.env) = eval o X.env := by rfl) (hline : (apos.endLine == pos.line) = true := by rfl) : WE X ρ M (.Call (.Attribute o "startswith" apos) [e] [] pos) Φ :=
  we_m1 F.slot_str_startswith F.type_str_startswith mt_startswith (h.imp fun d M1 ⟨z, e1, h⟩ => ⟨z, e1, h.imp fun y M2 ⟨s, e2, h⟩ Z H Q u w r k => by subst e2; cases r; exact ⟨z, s, rfl, rfl, k.now w (.bl _) h⟩⟩) hs hbase hline
theorem we_endswith (h : WE X ρ M o fun d M1 => ∃ z, d = .str z ∧ WE X ρ M1 e fun y M2 => ∃ s, y = .str s ∧ Φ (.bl (Txt.endswith z s)) M2) (hs : starEach [e] X.env = [(false, eval e X.env)] := by rfl) (hbase : attributeBase o "endswith" X.env (eval o X.env) = eval o X.env := by rfl) (hline : (apos.endLine == pos.line) = true := by rfl) : WE X ρ M (.Call (.Attribute o "endswith" apos) [e] [] pos) Φ :=
  we_m1 F.slot_str_endswith F.type_str_endswith mt_endswith (h.imp fun d M1 ⟨z, e1, h⟩ => ⟨z, e1, h.imp fun y M2 ⟨s, e2, h⟩ Z H Q u w r k => by subst e2; cases r; exact ⟨z, s, rfl, rfl, k.now w (.bl _) h⟩⟩) hs hbase hline
theorem we_partition (h : WE X ρ M o fun d M1 => ∃ z, d = .str z ∧ WE X ρ M1 e fun y M2 => ∃ s, y = .str s ∧ (s.length == 0) = false ∧ z.length ≤ sizeLine ∧ Φ (.tup [.str (Txt.partition z s).1, .str (Txt.partition z s).2.1, .str (Txt.partition z s).2.2]) M2) (hs : starEach [e] X.env = [(false, eval e X.env)] := by rfl) (hbase : attributeBase o "partition" X.env (eval o X.env) = eval o X.env := by rfl) (hline : (apos.endLine == pos.line) = true := by rfl) : WE X ρ M (.Call (.Attribute o "partition" apos) [e] [] pos) Φ :=
  we_m1 F.slot_str_partition F.type_str_partition mt_partition (h.imp fun d M1 ⟨z, e1, h⟩ => ⟨z, e1, h.imp fun y M2 ⟨s, e2, h1, h2, h⟩ Z H Q u w r k => by
    subst e2
    cases r
    exact ⟨z, s, rfl, rfl, h1, h2, fun q hq => k.new w hq (.tup (.inl upd_same) (w.fresh hq) (.cons (.str _) (.cons (.str _) (.cons (.str _) .nil)))) h⟩⟩) hs hbase hline
theorem we_join (h : WE X ρ M o fun d M1 => ∃ z, d = .str z ∧ WE X ρ M1 e fun y M2 => ∃ ys : List Str, (LstOf M2 y (ys.map D.str) ∨ y = .tup (ys.map D.str)) ∧ (ys.map (·.length)).sum + ys.length * z.length ≤ 16777216 ∧ Φ (.str (Txt.join z ys)) M2) (hs : starEach [e] X.env = [(false, eval e X.env)] := by rfl) (hbase : attributeBase o "join" X.env (eval o X.env) = eval o X.env := by rfl) (hline : (apos.endLine == pos.line) = true := by rfl) : WE X ρ M (.Call (.Attribute o "join" apos) [e] [] pos) Φ :=
  we_m1 F.slot_str_join F.type_str_join mt_join (h.imp fun d M1 ⟨z, e1, h⟩ => ⟨z, e1, h.imp fun y M2 ⟨ys, e2, h1, h⟩ Z H Q u w r k => by
    rcases e2 with e2 | rfl
    · obtain ⟨q, vs, rfl, hq, rs⟩ := r.asLst w e2
      rw [rs.strs] at hq
      exact ⟨z, q, ys, rfl, rfl, .inl hq, h1, k.now w (.str _) h⟩
    · obtain ⟨q, vs, rfl, hq, rs⟩ := r.asTup
      rw [rs.strs] at hq
      exact ⟨z, q, ys, rfl, rfl, .inr hq, h1, k.now w (.str _) h⟩⟩) hs hbase hline
/-- the parts' texts, one behind another -/
def WJ (X : Cx) (ρ : Rho) : List Expr → Mp → Str → (Str → Mp → Prop) → Prop
  | [], M, acc, Ω => Ω acc M
  | e :: es, M, acc, Ω => WE X ρ M e fun d M1 => ∃ y : Str, d = .str y ∧ (acc ++ y).length ≤ sizeLine ∧ WJ X ρ es M1 (acc ++ y) Ω
theorem pj_sem : ∀ es : List Expr, PJ X es (es.map (eSem X))
  | [] => .nil
  | e :: es => .cons pe_sem (pj_sem es)
theorem wj_run {Z : Zn} {σ : L2.St} : ∀ (es : List Expr) {M : Mp} {H : Hp} {acc : Str} {Ω : Str → Mp → Prop} {Q : Str → Hp → Prop}, WJ X ρ es M acc Ω → EnvR X.K M Z H σ ρ → Wd X.K M Z H → (∀ y H' M', Ext M Z H M' H' → Wd X.K M' Z H' → Ω y M' → Q y H') → tJs (es.map (eSem X)) acc σ H Q
  | [], M, H, acc, Ω, Q, h, en, w, k => k acc H M Ext.refl w h
  | e :: es, M, H, acc, Ω, Q, h, en, w, k => (show WE X ρ M e (fun d M1 => ∃ y : Str, d = .str y ∧ (acc ++ y).length ≤ sizeLine ∧ WJ X ρ es M1 (acc ++ y) Ω) from h).run σ H _ en w fun v d H1 M1 e1 w1 r1 hz => by
    obtain ⟨y, rfl, hl, hz⟩ := hz
    cases r1
    exact ⟨y, rfl, hl, wj_run es hz (en.mono e1) w1 fun y H' M' x w' z => k y H' M' (e1.trans x) w' z⟩
theorem we_fstr {v1 v2 : Expr} {rest : List Expr} (h : WJ X ρ (v1 :: v2 :: rest) M Str.empty fun y M1 => Φ (.str y) M1) : WE X ρ M (.JoinedStr (v1 :: v2 :: rest) pos) Φ := .mk fun σ H Q en w k =>
  eOf (pe_joined (pj_sem _)) (wj_run _ h en w fun y H' M' x w' z => (k.step x).now w' (.str y) z)
theorem we_fmt (h : WE X ρ M e fun d M1 => (∃ y : Str, d = .str y ∧ y.length ≤ sizeLine ∧ Φ (.str y) M1) ∨ ∃ i : Int, d = .int i ∧ i.natAbs.log2 < 1920 ∧ Φ (.str (toString i)) M1) : WE X ρ M (.FormattedValue e (-1) none pos) Φ := .mk fun σ H Q en w k =>
  eOf (pe_fmt pe_sem) (h.run σ H _ en w fun v d H1 M1 e1 w1 r1 hz => by
    rcases hz with ⟨y, rfl, hl, hz⟩ | ⟨i, rfl, hl, hz⟩
    · cases r1; exact .inl ⟨y, rfl, hl, (k.step e1).now w1 (.str y) hz⟩
    · cases r1; exact .inr ⟨i, rfl, hl, (k.step e1).now w1 (.str _) hz⟩)
theorem we_append (h : WE X ρ M o fun d M1 => ∃ q ds0, d = .ob q ∧ M1 q = some (.lst ds0) ∧ WE X ρ M1 e fun y M2 => ∃ ds, M2 q = some (.lst ds) ∧ ds.length < sizeLine ∧ Φ .non (mset M2 q (.lst (ds ++ [y]))))
    (hbase : attributeBase o "append" X.env (eval o X.env) = eval o X.env := by rfl)
    (hfew : ((backTo pos (starEach (e :: []) X.env)).all (fun x => !x.1) && (backToKw pos (keywordEach [] X.env)).all (fun x => x.1.isSome)
      && decide ((e :: []).length + ([] : List Keyword).length + (if ([] : List Keyword).isEmpty then 0 else 1) < 30)) = true := by rfl)
    (hline : (apos.endLine == pos.line) = true := by rfl) (hs : starEach (e :: []) X.env = (false, eval e X.env) :: starEach [] X.env := by rfl) (hplain : (backTo pos (starEach [] X.env)).any (·.1) = false := by rfl) : WE X ρ M (.Call (.Attribute o "append" apos) [e] [] pos) Φ := .mk fun σ H Q en w k =>
  eOf (pe_bm PySem.F.plainAttrs_list PySem.F.slot_list_append PySem.F.type_list_append mt_append pe_sem (pa_cons pe_sem pa_nil hs) hbase hfew hline hs hplain) (h.run σ H _ en w fun v d H1 M1 e1 w1 r1 hz => by
    obtain ⟨q, ds0, rfl, hM, hz⟩ := hz
    cases r1
    obtain ⟨vs0, h0, _⟩ := w1.1 q _ hM
    refine ⟨.inl ⟨rfl, _, .inl (.inl h0)⟩, hz.run σ H1 _ (en.mono e1) w1 fun u y H2 M2 e2 w2 r2 hy => ?_⟩
    obtain ⟨ds, hM2, hl, hy⟩ := hy
    obtain ⟨vs, hv, rs⟩ := w2.1 q _ hM2
    refine ⟨q, vs, u, rfl, rfl, hv, by rw [rs.length]; exact hl, ?_⟩
    have x3 : Ext M2 _ H2 (mset M2 q (.lst (ds ++ [y]))) (upd H2 q (.lst (vs ++ [u]))) := Ext.put w2 hM2
    exact k _ .non _ _ ((e1.trans e2).trans x3) (w2.put hM2 ⟨_, upd_same, (rs.append (.cons r2 .nil)).mono x3⟩) .non hy)
theorem we_extend (h : WE X ρ M o fun d M1 => ∃ q ds0, d = .ob q ∧ M1 q = some (.lst ds0) ∧ WE X ρ M1 e fun y M2 => ∃ ds ys, M2 q = some (.lst ds) ∧ y = .lst ys ∧ ds.length + ys.length ≤ sizeLine ∧ Φ .non (mset M2 q (.lst (ds ++ ys))))
    (hbase : attributeBase o "extend" X.env (eval o X.env) = eval o X.env := by rfl)
    (hfew : ((backTo pos (starEach (e :: []) X.env)).all (fun x => !x.1) && (backToKw pos (keywordEach [] X.env)).all (fun x => x.1.isSome)
      && decide ((e :: []).length + ([] : List Keyword).length + (if ([] : List Keyword).isEmpty then 0 else 1) < 30)) = true := by rfl)
    (hline : (apos.endLine == pos.line) = true := by rfl) (hs : starEach (e :: []) X.env = (false, eval e X.env) :: starEach [] X.env := by rfl) (hplain : (backTo pos (starEach [] X.env)).any (·.1) = false := by rfl) : WE X ρ M (.Call (.Attribute o "extend" apos) [e] [] pos) Φ := .mk fun σ H Q en w k =>
  eOf (pe_bm PySem.F.plainAttrs_list PySem.F.slot_list_extend PySem.F.type_list_extend mt_extend pe_sem (pa_cons pe_sem pa_nil hs) hbase hfew hline hs hplain) (h.run σ H _ en w fun v d H1 M1 e1 w1 r1 hz => by
    obtain ⟨q, ds0, rfl, hM, hz⟩ := hz
    cases r1
    obtain ⟨vs0, h0, _⟩ := w1.1 q _ hM
    refine ⟨.inl ⟨rfl, _, .inl (.inl h0)⟩, hz.run σ H1 _ (en.mono e1) w1 fun u y H2 M2 e2 w2 r2 hy => ?_⟩
    obtain ⟨ds, ys, hM2, rfl, hl, hy⟩ := hy
    obtain ⟨vs, hv, rs⟩ := w2.1 q _ hM2
    cases r2 with
    | @lst _ us _ h2 m2 r2 =>
      refine ⟨q, _, vs, us, rfl, rfl, hv, h2, by rw [rs.length, r2.length]; exact hl, ?_⟩
      have x3 : Ext M2 _ H2 (mset M2 q (.lst (ds ++ ys))) (upd H2 q (.lst (vs ++ us))) := Ext.put w2 hM2
      exact k _ .non _ _ ((e1.trans e2).trans x3) (w2.put hM2 ⟨_, upd_same, (rs.append r2).mono x3⟩) .non hy)
/-- xs[i] = e -/
theorem wg_sub {i : Expr} {d : D} {Ω : Rho → Mp → Prop} (h : WE X ρ M o fun x M1 => WE X ρ M1 i fun y M2 => ∃ q ds n j, x = .ob q ∧ y = .int n ∧ M2 q = some (.lst ds) ∧ ixN ds.length n = some j ∧ Ω ρ (mset M2 q (.lst (ds.set j d))))
    (ha : ∀ v, assign (.Subscript o i pos) X.env v = (do
      let ov ← holding [v] (eval o X.env)
      let iv ← holding [v, ov] (eval i X.env)
      standAt pos
      holding [v, ov, iv] (setItem ov iv v)
      release [v, ov, iv] []) := by intro _; rfl) : WG X (.Subscript o i pos) d ρ M Ω := .mk fun {Z} σ H v Q en w r k =>
  gOf (pg_sub pe_sem pe_sem set_list ha) (bind2 h en w fun v1 v2 x y H2 M2 e2 w2 r1 r2 hz => by
    obtain ⟨q, ds, n, j, rfl, rfl, hM, hj, hz⟩ := hz
    cases r1; cases r2
    obtain ⟨vs, hv, rs⟩ := w2.1 q _ hM
    refine ⟨q, vs, n, j, rfl, rfl, hv, by rw [rs.length]; exact hj, ?_⟩
    have x3 : Ext M2 _ H2 (mset M2 q (.lst (ds.set j d))) (upd H2 q (.lst (vs.set j v))) := Ext.put w2 hM
    exact k σ ρ _ _ (e2.trans x3) (w2.put hM ⟨_, upd_same, (Reps.set (r.mono e2) j rs).mono x3⟩) (en.mono (e2.trans x3)) hz)
/-- [*xs, ..] -/
theorem wa_star {sp : Pos} {ΦA : List D → Mp → Prop} (h : WE X ρ M e fun d M1 => ∃ xs, (LstOf M1 d xs ∨ d = .tup xs) ∧ WA X ρ M1 es fun ds M2 => ∀ ys, ys = xs ++ ds → ΦA ys M2) (hs : starEach (.Starred e sp :: es) X.env = (true, eval e X.env) :: starEach es X.env := by rfl) : WA X ρ M (.Starred e sp :: es) ΦA := .mk fun σ H Q en w k =>
  aOf (StX.pa_star pe_sem pa_sem hs) (h.run σ H _ en w fun v d H1 M1 e1 w1 r1 hz => by
    obtain ⟨xs, hl, hz⟩ := hz
    obtain ⟨q, vs, rfl, hq, rs⟩ : ∃ q vs, v = .ref q ∧ (SqT X.K H1 q vs ∨ SqL X.K H1 q vs) ∧ Reps X.K M1 _ H1 vs xs := by
      rcases hl with hl | rfl
      · obtain ⟨q, vs, e, hq, rs⟩ := r1.asLst w1 hl; exact ⟨q, vs, e, .inr hq, rs⟩
      · obtain ⟨q, vs, e, hq, rs⟩ := r1.asTup; exact ⟨q, vs, e, .inl hq, rs⟩
    exact ⟨q, vs, rfl, hq, hz.run σ H1 _ (en.mono e1) w1 fun us ds H2 M2 e2 w2 r2 hy => k (vs ++ us) (xs ++ ds) H2 M2 (e1.trans e2) w2 ((rs.mono e2).append r2) (hy _ rfl)⟩)
end
end DL
namespace DL
open PySem PySem.Spec PyProof.Rows L2
/-- the signs of a text, each with its number in a new pair -/
def Ites (x : Str) : It := ⟨fun i _ => i < x.cps.size, fun i H v H' => ∃ T c, v = .ref T ∧ H T = none ∧ H' = upd H T (.tup [.int (i : Nat), .str ⟨#[c]⟩]) ∧ x.cps[i]? = some c, fun i _ => i = x.cps.size⟩
theorem draws_txt {prog : Program} {w : World} {A : Around} (hh : A.handled = none) (it : Addr) (x : Str) (t : Tok) :
    Draws prog w A it [it] x.cps.size (fun i v => ∃ c u, x.cps[i]? = some c ∧ v = .str ⟨#[c]⟩ u) (fun i h => h.IsStrIter it (strIterType x) x t i) := by
  unfold strIterType
  cases x.cps.all (· < 128)
  · exact Draws.strWide hh it x t
  · exact Draws.strAscii hh it x t
theorem turn_enumS {P : Program} {w : World} {K : PySem.W.Frag} {elts : List Expr} {kk : Nat} {tpos : Pos} (x : Str) (t : Tok) (e it : Addr) :
    Turn P w K (.Tuple elts kk tpos) (Ites x) [e, it] e (fun i h => (∃ old, IsEnum h e it i old) ∧ h.IsStrIter it (strIterType x) x t i ∧ e ≠ it) where
  mem := by simp
  obj := fun i h st b hb => by
    obtain ⟨⟨old, he⟩, ⟨o, e1, c, d⟩, hne⟩ := st
    have e' : b = e ∨ b = it := by simpa using hb
    rcases e' with z | z
    · rw [z]; exact ⟨_, he, fun v z => nomatch z⟩
    · rw [z]; exact ⟨o, e1, fun v z => by rw [d] at z; cases z⟩
  keep := fun i h h' st k => by
    obtain ⟨⟨old, he⟩, ⟨o, e1, c, d⟩, hne⟩ := st
    exact ⟨⟨old, k e (by simp) _ he⟩, ⟨o, k it (by simp) _ e1, c, d⟩, hne⟩
  item := by
    intro X hP hw hK hc i pins s σ H E I hf st hg
    subst hP hw hK
    obtain ⟨⟨old, he⟩, hit, hne⟩ := st
    have hel : e < s.heap.objs.size := Heap.lt_size he
    have hil : it < s.heap.objs.size := by obtain ⟨_, q, _⟩ := hit; exact Heap.lt_size q
    refine wpAny_pyNext_enum_itemD (draws_txt (A := X.A.in1) (I.ok.hd hc) it x t) he hit hg hne (by simpa using hne) fun u h' tk hP ho hit' hT hsz hk => ?_
    obtain ⟨c, tk2, hcx, rfl⟩ := hP
    refine ⟨_, rfl, wpAny_letOwnedTupleGo_enum (s := { s with heap := h', toks := tk + 1 }) ho fun h'' he' sb => ?_⟩
    have hT2 : h''.get? s.heap.objs.size = some { cls := .type "tuple", data := .seq #[.int i tk, .str ⟨#[c]⟩ tk2] } := (sb.2 _ (Nat.ne_of_gt hel)).trans hT
    have new : ObjOk X.prog X.w (upd H s.heap.objs.size (.tup [.int (i : Nat), .str ⟨#[c]⟩])) h'' s.heap.objs.size (.tup [.int (i : Nat), .str ⟨#[c]⟩]) :=
      ⟨by show 2 ≤ sizeLine; decide, [.int i tk, .str ⟨#[c]⟩ tk2], .cons ⟨_, rfl⟩ (.cons ⟨_, rfl⟩ .nil), ⟨_, hT2, rfl, _, rfl⟩⟩
    have I1 : Inv X pins σ (upd H s.heap.objs.size (.tup [.int (i : Nat), .str ⟨#[c]⟩])) { s with heap := h'', toks := tk + 1 } :=
      I.turnedNew (ch := [e, it]) (fun b ob hb q => (sb.2 b (fun z => hb (by simp [z]))).trans (hk b ob (fun z => hb (by simp [z])) (fun z => hb (by simp [z])) q)) hf (Nat.le_refl _) new
    refine ⟨.ref s.heap.objs.size, _, I1, rfl, ⟨_, c, rfl, I.hok.fresh (Nat.le_refl _), rfl, hcx⟩, ⟨⟨.str ⟨#[c]⟩ tk2, ?_⟩, ?_, hne⟩, fun b hb => ?_⟩
    · have e1 : ((i + 1 : Nat) : Int) = (i : Int) + 1 := by omega
      rw [e1]; exact he'
    · obtain ⟨o, q1, q2⟩ := hit'
      exact ⟨o, (sb.2 it (Ne.symm hne)).trans q1, q2⟩
    · have hb' : b < s.heap.objs.size := by
        have e' : b = e ∨ b = it := by simpa using hb
        rcases e' with z | z
        · rw [z]; exact hel
        · rw [z]; exact hil
      rw [upd_ne (Nat.ne_of_lt hb')]
      exact (hf b hb).1
  done := by
    intro X hP hw hK hc i pins s σ H E I hf st hg
    subst hP hw hK
    obtain ⟨⟨old, he⟩, hit, hne⟩ := st
    obtain ⟨f0, f1, f2, f3, f4, f5⟩ := hf it (by simp)
    have hi : i = x.cps.size := hg
    subst hi
    exact wpAny_pyNext_enum_endD (draws_txt (A := X.A.in1) (I.ok.hd hc) it x t) he hit fun h' eb => ⟨rfl, I.turned (t' := s.toks) (fun b o hb q => eb b o hb q) f0 f1 f3 f4 f5⟩
  self := fun A i s Q E st h => let ⟨⟨_, he⟩, _⟩ := st; wpAny_pyIter_enum he h
def iEnumS (ta : TA) : TI := fun σ H R => ta σ H fun vs H1 => ∃ x, vs = [.str x] ∧ R (Ites x) H1
theorem pi_enumS {X : Cx} {e : Expr} {ta : TA} {p pos tpos : Pos} {elts : List Expr} {kk : Nat} (hg : Gl X "enumerate") (hm : X.mg "enumerate" = none) (ha : PA X [e] ta) (hs : starEach [e] X.env = [(false, eval e X.env)] := by rfl) :
    PI X (.Tuple elts kk tpos) (.Call (.Name "enumerate" p) [e] [] pos) (iEnumS ta) := by
  refine ⟨fun pins s σ H R I h => ?_⟩
  refine Call_ (ld_blt I hg hm boot_enumerate (PyProof.Rows.callWith_type1 (thn (ha.run pos pins s σ H _ I h) fun us s1 ⟨vs, H1, I1, r1, q1⟩ => ?_) hs rfl))
  obtain ⟨x, ex, q⟩ := q1
  subst ex
  cases r1 with
  | cons r rr =>
    cases rr
    obtain ⟨t, rfl⟩ := r
    refine call_enumerate_str fun h' he hit hsz hk => wpAny_pyIter_enum he ?_
    have I2 : Inv X pins σ H1 { s1 with heap := h' } := I1.kept (t' := s1.toks) hk
    refine ⟨s1.heap.objs.size + 1, [s1.heap.objs.size + 1, s1.heap.objs.size], _, _, H1, rfl, I2, turn_enumS x t (s1.heap.objs.size + 1) s1.heap.objs.size, ⟨⟨.none, he⟩, hit, Nat.succ_ne_self _⟩, fun b hb => ?_, q⟩
    have e' : b = s1.heap.objs.size + 1 ∨ b = s1.heap.objs.size := by simpa using hb
    have hle : s1.heap.objs.size ≤ b := by
      rcases e' with z | z
      · rw [z]; exact Nat.le_add_right _ _
      · rw [z]; exact Nat.le_refl _
    exact I1.fpOk hle (I1.hok.fresh hle)
section
variable {X : Cx} {ρ : Rho} {M : Mp} {tg a b e : Expr} {pos p : Pos} {Φ : List D → Mp → Prop}
/-- the signs of a text -/
def signs (x : Str) : List D := x.cps.toList.map fun c => .str ⟨#[c]⟩
/-- .. each with its number -/
def enumS (x : Str) : List D := (List.range x.cps.size).map fun (i : Nat) => .tup [.int (i : Nat), .str ⟨#[x.cps.getD i 0]⟩]
theorem sq_str {K : PySem.W.Frag} {M1 : Mp} {Z1 : Zn} {H1 : Hp} (x : Str) : Sq K M1 Z1 H1 (Its x) (signs x) := fun i M Z H e w => by
  refine ⟨fun hi => ?_, fun d hd => ?_⟩
  · show x.cps.size ≤ i
    rw [hi]; simp [signs]
  · unfold signs at hd
    rw [List.getElem?_map] at hd
    obtain ⟨c, hc, rfl⟩ := Option.map_eq_some_iff.mp hd
    rw [Array.getElem?_toList] at hc
    refine ⟨(Array.getElem?_eq_some_iff.mp hc).1, fun v H' y => ?_⟩
    obtain ⟨rfl, c', hc', rfl⟩ := y
    rw [hc] at hc'; cases hc'
    exact ⟨Ext.refl, w, .str _⟩
theorem wi_str (h : WE X ρ M e fun d M1 => ∃ x, d = .str x ∧ Φ (signs x) M1) : WI X ρ M tg e Φ := .mk fun σ H R en w k =>
  iOf (pi_str pe_sem) (h.run σ H _ en w fun v d H1 M1 e1 w1 r1 hz => by
    obtain ⟨x, rfl, hz⟩ := hz
    cases r1
    exact ⟨x, rfl, k _ _ H1 M1 e1 w1 (sq_str x) hz⟩)
theorem sq_enumS {K : PySem.W.Frag} {M1 : Mp} {Z1 : Zn} {H1 : Hp} (x : Str) : Sq K M1 Z1 H1 (Ites x) (enumS x) := fun i M Z H e w => by
  refine ⟨fun hi => ?_, fun d hd => ?_⟩
  · show i = x.cps.size
    rw [hi]; simp [enumS]
  · unfold enumS at hd
    rw [List.getElem?_map] at hd
    obtain ⟨j, hj, rfl⟩ := Option.map_eq_some_iff.mp hd
    obtain ⟨hlt, rfl⟩ : i < x.cps.size ∧ i = j := by
      have q : i < (List.range x.cps.size).length := (List.getElem?_eq_some_iff.mp hj).1
      rw [List.length_range] at q
      rw [List.getElem?_range q] at hj
      exact ⟨q, Option.some.inj hj⟩
    refine ⟨hlt, fun v H' y => ?_⟩
    obtain ⟨T, c, rfl, hT, rfl, hc⟩ := y
    have ec : x.cps.getD i 0 = c := by
      rw [Array.getD_eq_getD_getElem?, hc]; rfl
    rw [ec]
    exact ⟨Ext.new w hT, w.new hT, .tup (.inl upd_same) (w.fresh hT) (.cons (.int _) (.cons (.str _) .nil))⟩
theorem wi_enumS {elts : List Expr} {kk : Nat} {tpos : Pos} (hm : X.mg "enumerate" = none) (h : WE X ρ M e fun d M1 => ∃ x, d = .str x ∧ Φ (enumS x) M1) (hg : Gl X "enumerate" := by rfl) (hs : starEach [e] X.env = [(false, eval e X.env)] := by rfl) : WI X ρ M (.Tuple elts kk tpos) (.Call (.Name "enumerate" p) [e] [] pos) Φ := .mk fun σ H R en w k =>
  iOf (pi_enumS hg hm (pa_cons pe_sem pa_nil hs) hs) (h.run σ H _ en w fun v d H1 M1 e1 w1 r1 hz => by
    obtain ⟨x, rfl, hz⟩ := hz
    cases r1
    exact ⟨x, rfl, k _ _ H1 M1 e1 w1 (sq_enumS x) hz⟩)
end
/-- the pairs as values stand -/
def rawOf (es : List DictEntry) (kvs : List (Str × V)) : List (Str × Value) := (kvs.zip es).map fun q => (q.1.1, q.2.val)
theorem pairs_raw {prog : Program} {w : World} : ∀ {kvs : List (Str × V)} {es : List DictEntry}, Paired (fun (p : Str × V) (e : DictEntry) => (∃ t, e.key = .str p.1 t) ∧ RelV p.2 e.val) kvs es →
    Pairs (strKind prog w) es (rawOf es kvs) ∧ (rawOf es kvs).map (·.1) = kvs.map (·.1) ∧ (rawOf es kvs).length = kvs.length ∧ ∀ (i : Nat) (k : Str) (v : V), kvs[i]? = some (k, v) → ∃ u, (rawOf es kvs)[i]? = some (k, u) ∧ RelV v u
  | _, _, .nil => ⟨.nil, rfl, rfl, fun i k v e => by simp at e⟩
  | (k, v) :: kvs, e :: es, .cons ⟨⟨t, hk⟩, hv⟩ r => by
    obtain ⟨h1, h2, h3, h4⟩ := pairs_raw (prog := prog) (w := w) r
    refine ⟨.cons (by rw [hk]; exact strKind_is prog w k t) rfl h1, ?_, ?_, fun i k' v' e' => ?_⟩
    · show k :: (rawOf es kvs).map (·.1) = k :: kvs.map (·.1)
      rw [h2]
    · show (rawOf es kvs).length + 1 = kvs.length + 1
      rw [h3]
    · cases i with
      | zero => simp at e'; obtain ⟨rfl, rfl⟩ := e'; exact ⟨_, rfl, hv⟩
      | succ i => exact h4 i k' v' (by simpa using e')
theorem wrD_at {K : PySem.W.Frag} {w : World} {a : Addr} {kvs : List (Str × V)} (h : WrD K w a kvs) (prog : Program) {hp : Heap} (X : K.In hp) : (a == sysModules) = false ∧ ∃ vs n, hp.DictAt (strKind prog w) a vs n ∧ vs.length = kvs.length ∧ vs.map (·.1) = kvs.map (·.1) ∧ ∀ (i : Nat) (k : Str) (v : V), kvs[i]? = some (k, v) → ∃ u, vs[i]? = some (k, u) ∧ RelV v u := by
  obtain ⟨es, n, hl, hs, hk, pr, nd⟩ := h
  obtain ⟨h1, h2, h3, h4⟩ := pairs_raw (prog := prog) (w := w) pr
  refine ⟨hs, _, n, ⟨_, es, X _ _ hl, ⟨rfl, rfl, rfl⟩, rfl, fun e he => ?_, h1, by rw [h2]; exact nd⟩, h3, h2, h4⟩
  obtain ⟨x, t, e1, e2⟩ := hk.all e (Array.mem_toList_iff.mpr he)
  exact ⟨x, by rw [e1]; exact strKind_is prog w x t, e2⟩
def Itw (kvs : List (Str × V)) : It := ⟨fun i _ => i < kvs.length, fun i H x H' => ∃ T k v, kvs[i]? = some (k, v) ∧ x = .ref T ∧ H T = none ∧ H' = upd H T (.tup [.str k, v]), fun i _ => kvs.length ≤ i⟩
theorem turn_gitems {P : Program} {w : World} {K : PySem.W.Frag} {a : Addr} {kvs : List (Str × V)} {elts : List Expr} {kk : Nat} {tpos : Pos} (hw : WrD K w a kvs) (it : Addr) (ep : Nat) (hep : ∀ es n, K.lookup a = some ⟨.type "dict", none, .dict es n, #[]⟩ → n = ep) :
    Turn P w K (.Tuple elts kk tpos) (Itw kvs) [it] it (fun i h => ∃ ok ov, IsItemIter h it a i kvs.length ep ok ov) where
  mem := by simp
  obj := fun i h st b hb => by
    have e : b = it := by simpa using hb
    subst e
    obtain ⟨ok, ov, e⟩ := st
    exact ⟨_, e, fun v z => nomatch z⟩
  keep := fun i h h' st k => let ⟨ok, ov, e⟩ := st; ⟨ok, ov, k it (by simp) _ e⟩
  item := by
    intro X hP hw' hK hc i pins s σ H E I hf st hg
    subst hP hw' hK
    obtain ⟨es0, n0, hl0, _⟩ := id hw
    have en := hep es0 n0 hl0
    obtain ⟨hs, vs, n, hm, hl, hmm, hv⟩ := wrD_at hw X.prog I.kIn
    have hn : n = ep := by
      obtain ⟨o, es, ho, hx, hd, _⟩ := hm
      rw [I.kIn _ _ hl0] at ho
      cases ho
      injection hd with _ h2
      rw [← h2]; exact en
    subst hn
    obtain ⟨⟨k, v⟩, hkv⟩ : ∃ p, kvs[i]? = some p := ⟨kvs[i], List.getElem?_eq_getElem hg⟩
    obtain ⟨u, hu, ru⟩ := hv i k v hkv
    obtain ⟨ok, ov, he⟩ := st
    rw [← hl] at he
    have hlt : it < s.heap.objs.size := Heap.lt_size he
    refine wpAny_pyNext_items_item he hm hu fun key h' hkey ho hT hz hk => ?_
    refine ⟨_, rfl, wpAny_letOwnedTupleGo_items (s := { s with heap := h' }) ho fun h'' he' sb => ?_⟩
    have hT2 : h''.get? s.heap.objs.size = some { cls := .type "tuple", data := .seq #[key, u] } := (sb.2 _ (Nat.ne_of_gt hlt)).trans hT
    obtain ⟨tk, rfl⟩ : ∃ t, key = .str k t := Value.isStrOf_shape hkey
    have new : ObjOk X.prog X.w (upd H s.heap.objs.size (.tup [.str k, v])) h'' s.heap.objs.size (.tup [.str k, v]) :=
      ⟨by show 2 ≤ sizeLine; decide, [.str k tk, u], .cons ⟨tk, rfl⟩ (.cons ru .nil), ⟨_, hT2, rfl, _, rfl⟩⟩
    have I1 : Inv X pins σ (upd H s.heap.objs.size (.tup [.str k, v])) { s with heap := h'' } :=
      I.turnedNew (t' := s.toks) (ch := [it]) (fun b ob hb e => (sb.2 b (by simpa using hb)).trans (hk b ob (by simpa using hb) e)) hf (Nat.le_refl _) new
    refine ⟨.ref s.heap.objs.size, _, I1, rfl, ⟨_, k, v, hkv, rfl, I.hok.fresh (Nat.le_refl _), rfl⟩, ⟨.str k tk, u, ?_⟩, fun b hb => ?_⟩
    · rw [← hl]; exact he'
    · have e : b = it := by simpa using hb
      rw [e, upd_ne (Nat.ne_of_lt hlt)]
      exact (hf it (by simp)).1
  done := by
    intro X hP hw' hK hc i pins s σ H E I hf st hg
    subst hP hw' hK
    obtain ⟨es0, n0, hl0, _⟩ := id hw
    have en := hep es0 n0 hl0
    obtain ⟨hs, vs, n, hm, hl, hmm, hv⟩ := wrD_at hw X.prog I.kIn
    have hn : n = ep := by
      obtain ⟨o, es, ho, hx, hd, _⟩ := hm
      rw [I.kIn _ _ hl0] at ho
      cases ho
      injection hd with _ h2
      rw [← h2]; exact en
    subst hn
    obtain ⟨f0, f1, f2, f3, f4, f5⟩ := hf it (by simp)
    obtain ⟨ok, ov, he⟩ := st
    rw [← hl] at he
    exact wpAny_pyNext_items_end (I.ok.hd hc) he hm (List.getElem?_eq_none (by rw [hl]; exact hg)) fun h' eb => ⟨rfl, I.turned (t' := s.toks) (fun b ob hb e => eb b ob hb e) f0 f1 f3 f4 f5⟩
  self := fun A i s Q E st h => let ⟨_, _, e⟩ := st; PySem.W.kcp_self e h
section
variable {X : Cx} {ρ : Rho} {M : Mp} {a : Addr} {e f : Expr} {pos p apos : Pos} {x : Str} {kvs : List (Str × V)}
def iGItems (kvs : List (Str × V)) : TI := fun σ H R => R (Itw kvs) H
theorem pi_gitems {elts : List Expr} {kk : Nat} {tpos : Pos} (hm : X.mg x = some (.ref a)) (hw : WrD X.K X.w a kvs) (hg : Gl X x) (hdb : (x == ("__debug__" : Str)) = false) (hbase : attributeBase (.Name x p) "items" X.env (eval (.Name x p) X.env) = eval (.Name x p) X.env) (hline : (apos.endLine == pos.line) = true) :
    PI X (.Tuple elts kk tpos) (.Call (.Attribute (.Name x p) "items" apos) [] [] pos) (iGItems kvs) := by
  refine ⟨fun pins s σ H R I h => ?_⟩
  refine wpAny_Call_method (T := "dict") (id := "dict.items") hbase rfl hline F.plainAttrs_dict F.slot_dict_items F.type_dict_items (ld_glob I hg hm ?_ hdb)
  obtain ⟨es0, n0, hl0, _⟩ := id hw
  obtain ⟨hs, vs, n, hd, hl, hmm, hv⟩ := wrD_at hw X.prog I.kIn
  refine ⟨hd.dictOf.typeIs, hd.dictOf.mapOf.noDict, ?_⟩
  have I2 : Inv X pins σ H { s with heap := s.heap.push { cls := .type "dict_items", data := .fields #[.ref a] } } := I.kept (t' := s.toks) fun b ob q => Heap.get?_push_of_some _ q
  have hn : n = n0 := by
    obtain ⟨o, es, ho, hx, hd', _⟩ := hd
    rw [I.kIn _ _ hl0] at ho
    cases ho
    injection hd' with _ h2
    exact h2.symm
  have fin : wpAny (model X.prog X.w) X.A (pyIter (.ref s.heap.objs.size)) (PIE X pins σ (.Tuple elts kk tpos) R) X.xe { s with heap := s.heap.push { cls := .type "dict_items", data := .fields #[.ref a] } } := by
    refine wpAny_pyIter_items (d := a) (knd := strKind X.prog X.w) ⟨_, Heap.get?_push_size _ rfl, rfl, rfl⟩ (hd.push _) (pi_one (tk := s.toks) I2 _ (turn_gitems hw _ n fun es m hm' => by rw [hl0] at hm'; cases hm'; exact hn.symm) ⟨.none, .none, ?_⟩ h)
    rw [← hl]
    exact Heap.get?_push_size _ rfl
  show wpAny _ _ (callWith pos (.builtin "dict.items") [.ref a] [] []) _ X.xe s
  exact method_meetsIn F.slot_dict_items F.entry_dict_items rfl (PySem.evalArgs_none ⟨rfl, hd.dictOf.typeIs, F.args_dict_items_1 _, _, meets_dict_items (strKind X.prog X.w) a hs, ⟨vs, hd.dictOf⟩, fin⟩)
/-- the data of a written dict's pairs -/
def gitems (ds : List (Str × D)) : List D := ds.map fun q => .tup [.str q.1, q.2]
theorem wi_gitems {elts : List Expr} {kk : Nat} {tpos : Pos} {ds : List (Str × D)} {Φ : List D → Mp → Prop} (hm : X.mg x = some (.ref a)) (hw : WrD X.K X.w a kvs) (hr : ∀ M Z H, RepF X.K M Z H kvs ds) (h : Φ (gitems ds) M) (hg : Gl X x := by rfl) (hdb : (x == ("__debug__" : Str)) = false := by decide)
    (hbase : attributeBase (.Name x p) "items" X.env (eval (.Name x p) X.env) = eval (.Name x p) X.env := by rfl) (hline : (apos.endLine == pos.line) = true := by rfl) : WI X ρ M (.Tuple elts kk tpos) (.Call (.Attribute (.Name x p) "items" apos) [] [] pos) Φ := .mk fun σ H R en w k =>
  iOf (pi_gitems hm hw hg hdb hbase hline) (k _ _ H M Ext.refl w (fun i M' Z' H' e w' => by
    have rf := hr M' Z' H'
    refine ⟨fun hi => ?_, fun d hd => ?_⟩
    · show kvs.length ≤ i
      rw [hi, rf.length]; simp [gitems]
    · unfold gitems at hd
      rw [List.getElem?_map] at hd
      obtain ⟨⟨k, y⟩, hq, rfl⟩ := Option.map_eq_some_iff.mp hd
      obtain ⟨v, hv, rv⟩ := rf.get hq
      refine ⟨(List.getElem?_eq_some_iff.mp hv).1, fun z H2 yl => ?_⟩
      obtain ⟨T, k', v', hkv, rfl, hT, rfl⟩ := yl
      rw [hv] at hkv; cases hkv
      have x3 : Ext M' Z' H' M' (upd H' T (.tup [.str k, v])) := Ext.new w' hT
      exact ⟨x3, w'.new hT, .tup (.inl upd_same) (w'.fresh hT) (.cons (.str _) (.cons (rv.mono x3) .nil))⟩) h)
/-- a written dict's value by a key -/
theorem raw_val (k : Str) : ∀ {kvs : List (Str × V)} {es : List DictEntry}, Paired (fun (p : Str × V) (e : DictEntry) => (∃ t, e.key = .str p.1 t) ∧ RelV p.2 e.val) kvs es →
    (∀ v, kvs.lookup k = some v → ∃ u, valueAt (rawOf es kvs) k = some u ∧ RelV v u) ∧ (kvs.lookup k = none → valueAt (rawOf es kvs) k = none)
  | _, _, .nil => by
    refine ⟨fun v e => ?_, fun _ => rfl⟩
    cases e
  | (k0, v0) :: kvs, e :: es, .cons ⟨_, hv⟩ r => by
    have ih := raw_val k r
    have e1 : rawOf (e :: es) ((k0, v0) :: kvs) = (k0, e.val) :: rawOf es kvs := rfl
    rw [e1, List.lookup_cons]
    unfold valueAt
    rw [List.find?_cons]
    by_cases h : k = k0
    · subst h
      refine ⟨fun v q => ?_, fun q => ?_⟩
      · simp only [beq_self_eq_true] at q
        cases q
        exact ⟨e.val, by simp, hv⟩
      · simp at q
    · have h1 : (k == k0) = false := by simpa using h
      have h2 : decide (k0 = k) = false := decide_eq_false fun z => h z.symm
      rw [h1, h2]
      exact ih
theorem wrD_val {K : PySem.W.Frag} {w : World} {a : Addr} {kvs : List (Str × V)} (h : WrD K w a kvs) (prog : Program) {hp : Heap} (X : K.In hp) (k : Str) : (a == sysModules) = false ∧ ∃ vs : List (Str × Value), hp.DictOf (strKind prog w) a vs ∧ (∀ v, kvs.lookup k = some v → ∃ u, valueAt vs k = some u ∧ RelV v u) ∧ (kvs.lookup k = none → valueAt vs k = none) := by
  obtain ⟨es, n, hl, hs, hk, pr, nd⟩ := h
  obtain ⟨h1, h2, h3, h4⟩ := pairs_raw (prog := prog) (w := w) pr
  refine ⟨hs, rawOf es.toList kvs, ⟨_, es, n, X _ _ hl, ⟨rfl, rfl, rfl⟩, rfl, fun e he => ?_, h1, by rw [h2]; exact nd⟩, raw_val k pr⟩
  obtain ⟨x, t, e1, e2⟩ := hk.all e (Array.mem_toList_iff.mpr he)
  exact ⟨x, by rw [e1]; exact strKind_is prog w x t, e2⟩
/-- x[e], x a written dict -/
theorem we_gix {ds : List (Str × D)} {Φ : D → Mp → Prop} (hm : X.mg x = some (.ref a)) (hw : WrD X.K X.w a kvs) (hr : ∀ M Z H, RepF X.K M Z H kvs ds) (h : WE X ρ M e fun y M1 => ∃ k d, y = .str k ∧ ds.lookup k = some d ∧ Φ d M1) (hg : Gl X x := by rfl) (hdb : (x == ("__debug__" : Str)) = false := by decide) (hs : PlainIx e := by exact fun _ _ => rfl) : WE X ρ M (.Subscript (.Name x p) e pos) Φ := .mk fun σ H Q en w k => by
  have ho : IxR X (fun v u H Q => ∃ z y, v = V.ref a ∧ u = V.str z ∧ kvs.lookup z = some y ∧ Q y H) := by
    intro value slice pins s σ H v u v' u' Q I rv ru q hs'
    obtain ⟨z, y, rfl, rfl, hl, q⟩ := q
    cases rv
    obtain ⟨t, rfl⟩ := ru
    obtain ⟨_, vs, dd, hv, _⟩ := wrD_val hw X.prog I.kIn z
    obtain ⟨u0, hu, ru⟩ := hv y hl
    exact tail_any dd.typeIs slot_dict_getitem.lookup (wpAny_getItem_of (strKind_is X.prog X.w z t) dd.mapOf hu ⟨y, H, I.tok _, ru, q⟩) hs'
  refine eOf (pe_ix ho (pe_glob (v := .ref a) hg hm rfl hdb) pe_sem hs) (h.run σ H _ en w fun v y H1 M1 e1 w1 r1 hz => ?_)
  obtain ⟨z, d, rfl, hl, hz⟩ := hz
  cases r1
  obtain ⟨v, hv, rv⟩ := ((hr M1 _ H1).lookup z).2 d hl
  exact ⟨z, v, rfl, rfl, hv, (k.step e1).now w1 rv hz⟩
end
end DL
namespace DL
open PySem PySem.Spec PyProof.Rows L2
section
variable {X : Cx} {ρ : Rho} {M : Mp} {Φ : D → Mp → Prop} {Θ : Bool → Mp → Prop} {a b e o : Expr} {es : List Expr} {pos p apos : Pos} {x : Str}
theorem we_strS (hm : X.mg "str" = none) (h : WE X ρ M e fun d M1 => ∃ z, d = .str z ∧ Φ (.str z) M1) (hg : Gl X "str" := by rfl)
    (he : starEach [e] X.env = (false, eval e X.env) :: starEach [] X.env := by rfl) (hpl : (backTo pos (starEach [] X.env)).any (·.1) = false := by rfl) : WE X ρ M (.Call (.Name "str" p) [e] [] pos) Φ :=
  we_callTy SkE.call_str_str hm (by decide +kernel) (wa_cons (h.imp fun d M1 h => wa_nil fun Z vs H Q w rr k => by
    obtain ⟨v, rfl, r⟩ := rr.one
    obtain ⟨z, rfl, h⟩ := h
    cases r
    exact ⟨z, rfl, k.now w (.str _) h⟩) he) hg (he := he) (hpl := hpl)
theorem inV_strs (z : Str) : ∀ zs : List Str, inV (.str z) (zs.map V.str) = decide (z ∈ zs)
  | [] => rfl
  | y :: zs => by
    have ih := inV_strs z zs
    unfold inV at ih ⊢
    rw [List.map_cons, List.any_cons, ih]
    show (decide (y = z) || _) = _
    by_cases h : y = z
    · subst h; simp
    · have h' : ¬ z = y := fun q => h q.symm
      simp [h, h']
theorem flat_strs (zs : List Str) : (zs.map V.str).all flatV = true := by
  rw [List.all_map]; exact List.all_eq_true.mpr fun _ _ => rfl
theorem rd_inS {x y : D} (h : ∃ (z : Str) (zs : List Str), x = .str z ∧ (y = .tup (zs.map D.str) ∨ LstOf M y (zs.map D.str)) ∧ Φ (.bl (decide (z ∈ zs))) M) : RD X.K (rIn X.K false) x y M Φ := fun Z v u H Q w r1 r2 k => by
  obtain ⟨z, zs, rfl, hy, h⟩ := h
  cases r1
  rcases hy with rfl | hy
  · obtain ⟨q, vs, rfl, hq, rs⟩ := r2.asTup
    rw [rs.strs] at hq
    exact ⟨q, _, rfl, .inr hq, rfl, flat_strs zs, by rw [inV_strs]; exact k.now w (.bl _) h⟩
  · obtain ⟨q, vs, rfl, hq, rs⟩ := r2.asLst w hy
    rw [rs.strs] at hq
    exact ⟨q, _, rfl, .inl hq, rfl, flat_strs zs, by rw [inV_strs]; exact k.now w (.bl _) h⟩
theorem we_inS (h : WE X ρ M a fun x M1 => WE X ρ M1 b fun y M2 => ∃ (z : Str) (zs : List Str), x = .str z ∧ (y = .tup (zs.map D.str) ∨ LstOf M2 y (zs.map D.str)) ∧ Φ (.bl (decide (z ∈ zs))) M2) (hm : behindInMarks .In b = false := by rfl) : WE X ρ M (.Compare a [.In] [b] pos) Φ :=
  we_cmp op_in_seq hm (h.imp fun _ _ h => h.imp fun _ _ h => rd_inS h)
theorem wt_inS (h : WE X ρ M a fun x M1 => WE X ρ M1 b fun y M2 => ∃ (z : Str) (zs : List Str), x = .str z ∧ (y = .tup (zs.map D.str) ∨ LstOf M2 y (zs.map D.str)) ∧ Θ (decide (z ∈ zs)) M2) (hm : behindInMarks .In b = false := by rfl) : WT X ρ M (.Compare a [.In] [b] pos) Θ :=
  wt_cmp op_in_seq hm (h.imp fun _ _ h => h.imp fun _ _ ⟨z, zs, e1, e2, h⟩ => rd_inS ⟨z, zs, e1, e2, _, rfl, h⟩)
/-- a written tuple of texts -/
theorem we_txts {e1 e2 : Str} {j1 j2 k1 : Nat} {q1 q2 : Pos} (h : Φ (.tup ([e1, e2].map D.str)) M) (hs : starEach [.Constant (.str e1) j1 q1, .Constant (.str e2) j2 q2] X.env = (false, eval (.Constant (.str e1) j1 q1) X.env) :: starEach [.Constant (.str e2) j2 q2] X.env := by rfl) (hs2 : starEach [.Constant (.str e2) j2 q2] X.env = (false, eval (.Constant (.str e2) j2 q2) X.env) :: starEach [] X.env := by rfl) :
    WE X ρ M (.Tuple [.Constant (.str e1) j1 q1, .Constant (.str e2) j2 q2] k1 pos) Φ :=
  we_tup (wa_cons (we_str (wa_cons (we_str (wa_nil ⟨by show 2 ≤ sizeLine; decide, h⟩)) hs2)) hs)
theorem we_powW (h : WE X ρ M a fun x M1 => WE X ρ M1 b fun y M2 => ∃ i j, x = .int i ∧ y = .int j ∧ (0 ≤ j ∧ (Builtin.Int.intBits i : Int) * j ≤ 2 ^ 27) ∧ Φ (.int (i ^ j.toNat)) M2) : WE X ρ M (.BinOp a .Pow b pos) Φ :=
  we_op (r := rI (fun i j => 0 ≤ j ∧ (Builtin.Int.intBits i : Int) * j ≤ 2 ^ 27) fun i j => .int (i ^ j.toNat)) (opI fun _ _ _ _ _ _ _ hc q => pow_int hc.1 hc.2 q) (h.imp fun _ _ h => h.imp fun _ _ h => rd_I h)
theorem we_startsAt {f : Expr} (h : WE X ρ M o fun d M1 => ∃ z, d = .str z ∧ WE X ρ M1 e fun y M2 => WE X ρ M2 f fun u M3 => ∃ s i, y = .str s ∧ u = .int i ∧ Φ (.bl (Txt.startswith3 z s i)) M3)
    (hbase : attributeBase o "startswith" X.env (eval o X.env) = eval o X.env := by rfl) (hline : (apos.endLine == pos.line) = true := by rfl)
    (hfew : ((backTo pos (starEach [e, f] X.env)).all (fun x => !x.1) && (backToKw pos (keywordEach [] X.env)).all (fun x => x.1.isSome) && decide ([e, f].length + ([] : List Keyword).length + (if ([] : List Keyword).isEmpty then 0 else 1) < 30)) = true := by rfl)
    (hs : starEach [e, f] X.env = (false, eval e X.env) :: starEach [f] X.env := by rfl) (hs2 : starEach [f] X.env = (false, eval f X.env) :: starEach [] X.env := by rfl) (hpl : (backTo pos (starEach [f] X.env)).any (·.1) = false := by rfl) : WE X ρ M (.Call (.Attribute o "startswith" apos) [e, f] [] pos) Φ := .mk fun σ H Q en w k => by
  refine eOf (pe_bm F.plainAttrs_str F.slot_str_startswith F.type_str_startswith mt_startswith3 pe_sem (pa_sem (es := [e, f])) hbase hfew hline hs hpl) (h.run σ H _ en w fun v d H1 M1 e1 w1 r1 hz => ?_)
  obtain ⟨z, rfl, hz⟩ := hz
  cases r1
  refine ⟨rfl, (wa_cons (ΦA := fun ds M3 => ∃ s i, ds = [.str s, .int i] ∧ Φ (.bl (Txt.startswith3 z s i)) M3) (hz.imp fun y M2 hy => wa_cons (hy.imp fun u M3 hu => wa_nil ?_) hs2) hs).run σ H1 _ (en.mono e1) w1 fun vs ds H2 M2 e2 w2 r2 hx => ?_⟩
  · obtain ⟨s, i, rfl, rfl, hu⟩ := hu
    exact ⟨s, i, rfl, hu⟩
  · obtain ⟨s, i, rfl, hx⟩ := hx
    obtain ⟨v1, v2, rfl, r3, r4⟩ := r2.two
    cases r3; cases r4
    exact ⟨z, s, i, rfl, rfl, (k.step (e1.trans e2)).now w2 (.bl _) hx⟩
variable {Ψ : DE}
theorem wg_fld {f : Str} {C : Addr} {d : D} {Ω : Rho → Mp → Prop} (h : WE X ρ M o fun x M1 => ∃ q fs, x = .ob q ∧ M1 q = some (.ins C fs) ∧ Cls X.K C ∧ NoAttr X.K C f ∧ fs.length < 1000 ∧ Ω ρ (mset M1 q (.ins C (putD f d fs)))) : WG X (.Attribute o f pos) d ρ M Ω := .mk fun {Z} σ H v Q en w r k => by
  intro pins s u I ru
  refine PySem.W.kas_attr (thn (h.run σ H (fun x H2 => ∃ q C' dx fs, x = .ref q ∧ H2 q = some (.ins C' dx fs) ∧ Cls X.K C' ∧ NoAttr X.K C' f ∧ fs.length < 1000 ∧ Q σ (upd H2 q (.ins C' dx (putF f v fs)))) en w (fun x dx H1 M1 e1 w1 r1 hz => ?_) pins s I) fun ov s2 ⟨y, H2, I2, ry, q2⟩ => ?_)
  · obtain ⟨q, fs, rfl, hM, cl, na, hl, hz⟩ := hz
    cases r1
    obtain ⟨dx, vs, ha, rf⟩ := w1.1 q _ hM
    have x3 : Ext M1 _ H1 (mset M1 q (.ins C (putD f d fs))) (upd H1 q (.ins C dx (putF f v vs))) := Ext.put w1 hM
    exact ⟨q, C, dx, vs, rfl, ha, cl, na, by rw [rf.length]; exact hl, k σ ρ _ _ (e1.trans x3) (w1.put hM ⟨dx, _, upd_same, (rf.mono x3).put (r.mono (e1.trans x3))⟩) (en.mono (e1.trans x3)) hz⟩
  · obtain ⟨q, C', dx, fs, rfl, ha, cl, na, hl, hq⟩ := q2
    cases ry
    exact setattr_ok I2 ha cl na hl ru fun s3 I3 => ⟨σ, _, I3, hq⟩
end
end DL
namespace DL
open PySem PySem.Spec PyProof.Rows L2
/-- the module's def x is the statement st; dvs: its defaults -/
structure Df (K : PySem.W.Frag) (mg : Str → Option Value) (x : Str) (st : Stmt) (dvs : List V) : Prop where
  ex : ∃ (f : Addr) (fd : FuncData), FunD K x x (defArgs st) (defBody st) (defScope st) dvs [] f fd ∧ mg x = some (.ref f)
section
variable {P : Program} {w : World} {K : PySem.W.Frag} {mg : Str → Option Value} {base : Heap} {x : Str} {st : Stmt} {N ps : List Str} {j k n : Nat} {c : Con} {dd : List D} {C : Addr} {m : Str}
theorem Fc.up (F : Fc P w K mg base x dd j n c) (h : j ≤ k) : Fc P w K mg base x dd k n c := by
  obtain ⟨f, fd, ps, dvs, ds, F, r⟩ := F.ex
  exact ⟨f, fd, ps, dvs, ds, F.mono h, r⟩
theorem Kc.up (F : Kc P w K mg base x C dd j n c) (h : j ≤ k) : Kc P w K mg base x C dd k n c := by
  obtain ⟨f, fd, ps, dvs, ds, G, r⟩ := F.ex
  exact ⟨F.at_, f, fd, ps, dvs, ds, G.mono h, r⟩
theorem Mc.up (F : Mc P w K mg base C m dd j n c) (h : j ≤ k) : Mc P w K mg base C m dd k n c := by
  obtain ⟨f, fd, ps, dvs, ds, G, r⟩ := F.ex
  exact ⟨F.cl, f, fd, ps, dvs, ds, G.mono h, r⟩
theorem Pc.up (F : Pc P w K mg base C m j c) (h : j ≤ k) : Pc P w K mg base C m k c := by
  obtain ⟨p, g, fd, ps, G, r⟩ := F.ex
  exact ⟨F.cl, p, g, fd, ps, G.mono h, r⟩
/-- a body keeps a contract -/
def BodyOk (P : Program) (w : World) (K : PySem.W.Frag) (mg : Str → Option Value) (base : Heap) (qual : Str) (st : Stmt) (N : List Str) (n k : Nat) (c : Con) : Prop :=
  ∀ (f : Addr) (cdv : Value) (A : Around) (outer : List Env) (s : Shared) (H : Hp) (E : XK), Room k (A.deeper (envOfC qual (defScope st) s.heap.objs.size f cdv)) → ∀ ds M Φ, ds.length = n → c ds M Φ →
      WSs (bx P w K mg base N qual (defScope st) f cdv A outer s H E) (start N ds) M (defBody st) { nx := fun _ M' => Φ .non M', rt := Lets Φ }
theorem Df.fc (D : Df K mg x st []) (S : FnScope N ps (defScope st))
    (hb : ∀ (kV doc pm : Value) (an : Option Addr) (cdv ct : Value) (us : List Value), us.length = ps.length → bindArgs (PySem.W.fnOf x x (defArgs st) (defBody st) (defScope st) .none kV doc pm an cdv ct) ⟨us, []⟩ = pure (ps.zip us))
    (h : BodyOk P w K mg base x st N ps.length k c) : Fc P w K mg base x [] (k + 1) ps.length c := by
  obtain ⟨f, fd, F, hm⟩ := D.ex
  exact ⟨f, fd, ps, [], [], fn_ok F S (h f), hm, F.kp, F.bindsN hb, .nil, fun _ _ _ => .nil⟩
/-- with defaults: n values are written, the defaults behind the first j fill up -/
theorem Df.fcD {dvs : List V} (D : Df K mg x st dvs) (S : FnScope N ps (defScope st)) (nn jj : Nat) (hd : dvs ≠ []) (hn : nn + (dvs.length - jj) = ps.length) (hr : ∀ M Z H, Reps K M Z H (dvs.drop jj) dd)
    (hb : ∀ (T : Addr) (kV doc pm : Value) (an : Option Addr) (cdv ct : Value) (us its : List Value), us.length = nn → its.length = dvs.length →
      ∃ k, bindArgs (PySem.W.fnOf x x (defArgs st) (defBody st) (defScope st) (.ref T) kV doc pm an cdv ct) ⟨us, []⟩ = seqItems? (.ref T) >>= k ∧ k (some its.toArray) = pure (ps.zip (us ++ its.drop jj)))
    (h : BodyOk P w K mg base x st N ps.length k c) : Fc P w K mg base x dd (k + 1) ps.length c := by
  obtain ⟨f, fd, F, hm⟩ := D.ex
  obtain ⟨ds, hv, hB⟩ := F.binds1 (ps := ps) nn jj hd hn hb
  exact ⟨f, fd, ps, dvs.drop jj, ds, fn_ok F S (h f), hm, F.kp, hB, hv, hr⟩
end
/-- the method m of the class C of the name x is the statement st -/
structure Md (K : PySem.W.Frag) (C : Addr) (m qual : Str) (st : Stmt) (f : Addr) : Prop where
  ex : ∃ fd : FuncData, FunD K m qual (defArgs st) (defBody st) (defScope st) [] [] f fd
section
variable {P : Program} {w : World} {K : PySem.W.Frag} {mg : Str → Option Value} {base : Heap} {x qual : Str} {st : Stmt} {N ps : List Str} {j k n : Nat} {c : Con} {dd : List D} {C : Addr} {m : Str} {f p : Addr}
theorem Md.pc (D : Md K C m qual st f) (cl : Cls K C) (me : PropOf K C m p f) (S : FnScope N ["self"] (defScope st))
    (hb : ∀ (kV doc pm : Value) (an : Option Addr) (cdv ct : Value) (us : List Value), us.length = 1 → bindArgs (PySem.W.fnOf m qual (defArgs st) (defBody st) (defScope st) .none kV doc pm an cdv ct) ⟨us, []⟩ = pure ((["self"] : List Str).zip us))
    (h : BodyOk P w K mg base qual st N 1 k c) : Pc P w K mg base C m (k + 1) c := by
  obtain ⟨fd, F⟩ := D.ex
  exact ⟨cl, p, f, fd, ["self"], fn_ok F S (h f), me, F.bindsN hb⟩
theorem Md.kc (D : Md K C "__init__" qual st f) (hm : mg x = some (.ref C)) (me : Mk K C f) (S : FnScope N ps (defScope st))
    (hb : ∀ (kV doc pm : Value) (an : Option Addr) (cdv ct : Value) (us : List Value), us.length = ps.length → bindArgs (PySem.W.fnOf "__init__" qual (defArgs st) (defBody st) (defScope st) .none kV doc pm an cdv ct) ⟨us, []⟩ = pure (ps.zip us))
    (h : BodyOk P w K mg base qual st N ps.length k c) : Kc P w K mg base x C [] (k + 1) ps.length c := by
  obtain ⟨fd, F⟩ := D.ex
  exact ⟨hm, f, fd, ps, [], [], fn_ok F S (h f), me, F.bindsN hb, .nil, fun _ _ _ => .nil⟩
end
end DL
namespace DL
open PySem PySem.Spec PyProof.Rows L2
/-- d can be compared: it is p, k deep at most -/
structure CmpD (d : D) (p : PyData) (k : Nat) : Prop where
  eq : toPy d = some p
  lay : p.canLay0 = true
  dep : p.depth ≤ k
theorem CmpD.shaped {d : D} {p : PyData} {k : Nat} (h : CmpD d p k) (hk : k ≤ 64) : SeqAt.shaped p = true := by
  unfold SeqAt.shaped
  rw [h.lay, decide_eq_true (Nat.le_trans h.dep hk)]; rfl
theorem cmp_int (i : Int) : CmpD (.int i) (.int i) 0 := ⟨by simp [toPy], by simp [PyData.canLay0], by simp [PyData.depth]⟩
theorem cmp_str {x : Str} (h : ∀ c ∈ x.cps.toList, c < 0x110000) : CmpD (.str x) (.str x) 0 := ⟨by simp [toPy], by
  simp only [PyData.canLay0, PyData.strOk]
  rw [← Array.all_toList]
  exact List.all_eq_true.mpr fun c hc => decide_eq_true (h c hc), by simp [PyData.depth]⟩
theorem cmps_nil {k : Nat} : CmpDs [] [] k := ⟨by simp [toPys], by simp [PyData.canLayAll0], by simp [PyData.depthAll]⟩
theorem cmps_cons {d : D} {p : PyData} {ds : List D} {ps : List PyData} {k j : Nat} (h : CmpD d p j) (hj : j ≤ k) (t : CmpDs ds ps k) : CmpDs (d :: ds) (p :: ps) k := ⟨by
  simp only [toPys, h.eq, t.eq]; rfl, by simp only [PyData.canLayAll0, h.lay, t.lay]; rfl, by
  simp only [PyData.depthAll]; have := h.dep; have := t.dep; omega⟩
theorem cmps_map {α : Type} {f : α → D} {g : α → PyData} {k j : Nat} (hj : j ≤ k) : ∀ {xs : List α}, (∀ x ∈ xs, CmpD (f x) (g x) j) → CmpDs (xs.map f) (xs.map g) k
  | [], _ => cmps_nil
  | x :: xs, h => cmps_cons (h x List.mem_cons_self) hj (cmps_map hj fun y hy => h y (List.mem_cons_of_mem _ hy))
theorem cmp_lst {ds : List D} {ps : List PyData} {k : Nat} (h : CmpDs ds ps k) : CmpD (.lst ds) (.list ps) (k + 1) := ⟨by simp only [toPy, h.eq]; rfl, by simp only [PyData.canLay0, h.lay], by simp only [PyData.depth]; have := h.dep; omega⟩
theorem cmp_tup {ds : List D} {ps : List PyData} {k : Nat} (h : CmpDs ds ps k) : CmpD (.tup ds) (.tuple ps) (k + 1) := ⟨by simp only [toPy, h.eq]; rfl, by simp only [PyData.canLay0, h.lay], by simp only [PyData.depth]; have := h.dep; omega⟩
theorem eqv_nilL (ps : List PyData) : PyData.eqv (.list ps) (.list []) = ps.isEmpty := by
  cases ps <;> simp [PyData.eqv, PyData.eqvAll]
theorem eqv_nilT (ps : List PyData) : PyData.eqv (.tuple ps) (.tuple []) = ps.isEmpty := by
  cases ps <;> simp [PyData.eqv, PyData.eqvAll]
section
variable {X : Cx} {ρ : Rho} {M : Mp} {Φ : D → Mp → Prop} {Θ : Bool → Mp → Prop} {a b : Expr} {pos : Pos}
theorem shaped_nilL : SeqAt.shaped (.list []) = true := by decide +kernel
theorem shaped_nilT : SeqAt.shaped (.tuple []) = true := by decide +kernel
theorem isEmpty_len {α β : Type} {xs : List α} {ys : List β} (h : xs.length = ys.length) : xs.isEmpty = ys.isEmpty := by
  cases xs <;> cases ys <;> simp_all
/-- x != [] -/
theorem wt_neNil {lp : Pos} (hu : X.A.units + 64 < cLine) (h : WE X ρ M a fun x M1 => ∃ xs ps k, x = .lst xs ∧ CmpDs xs ps k ∧ k ≤ 60 ∧ Θ (!xs.isEmpty) M1) : WT X ρ M (.Compare a [.NotEq] [.List [] lp] pos) Θ :=
  wt_neD hu (h.imp fun x M1 ⟨xs, ps, k, e, c, hk, h⟩ => we_lst (wa_nil ⟨Nat.zero_le _, _, _, by rw [e]; exact (cmp_lst c).eq, by simp [toPy, toPys], (cmp_lst c).shaped (by omega), shaped_nilL, by rw [eqv_nilL, isEmpty_len c.length]; exact h⟩))
/-- x != () -/
theorem wt_neNilT {lp : Pos} {kk : Nat} (hu : X.A.units + 64 < cLine) (h : WE X ρ M a fun x M1 => ∃ xs ps k, x = .tup xs ∧ CmpDs xs ps k ∧ k ≤ 60 ∧ Θ (!xs.isEmpty) M1) : WT X ρ M (.Compare a [.NotEq] [.Tuple [] kk lp] pos) Θ :=
  wt_neD hu (h.imp fun x M1 ⟨xs, ps, k, e, c, hk, h⟩ => we_tup (wa_nil ⟨Nat.zero_le _, _, _, by rw [e]; exact (cmp_tup c).eq, by simp [toPy, toPys], (cmp_tup c).shaped (by omega), shaped_nilT, by rw [eqv_nilT, isEmpty_len c.length]; exact h⟩))
theorem wt_eqNilT {lp : Pos} {kk : Nat} (hu : X.A.units + 64 < cLine) (h : WE X ρ M a fun x M1 => ∃ xs ps k, x = .tup xs ∧ CmpDs xs ps k ∧ k ≤ 60 ∧ Θ (xs.isEmpty) M1) : WT X ρ M (.Compare a [.Eq] [.Tuple [] kk lp] pos) Θ :=
  wt_eqD hu (h.imp fun x M1 ⟨xs, ps, k, e, c, hk, h⟩ => we_tup (wa_nil ⟨Nat.zero_le _, _, _, by rw [e]; exact (cmp_tup c).eq, by simp [toPy, toPys], (cmp_tup c).shaped (by omega), shaped_nilT, by rw [eqv_nilT, isEmpty_len c.length]; exact h⟩))
end
end DL
namespace DL
open PySem PySem.Spec PyProof.Rows L2
section
variable {P : Program} {w : World} {K : PySem.W.Frag} {mg : Str → Option Value} {base : Heap} {x qual : Str} {st : Stmt} {kws : List (Str × V)} {f : Addr} {fd : FuncData} {N ps : List Str} {k n : Nat} {c : Con}
theorem FnG.mono {j : Nat} {sp : Sp} (F : FnG P w K mg base j f fd ps sp) (h : j ≤ k) : FnG P w K mg base k f fd ps sp := ⟨F.len, fun A outer s H args us vs Q E hg hr => F.run A outer s H args us vs Q E hg (hr.mono h)⟩
/-- a body keeps a contract where nothing is being shown -/
def BodyG (P : Program) (w : World) (K : PySem.W.Frag) (mg : Str → Option Value) (base : Heap) (qual : Str) (st : Stmt) (N : List Str) (n k : Nat) (c : Con) : Prop :=
  ∀ (f : Addr) (cdv : Value) (A : Around) (outer : List Env) (s : Shared) (H : Hp) (E : XK), (A.deeper (envOfC qual (defScope st) s.heap.objs.size f cdv)).guards = some [] → Room k (A.deeper (envOfC qual (defScope st) s.heap.objs.size f cdv)) → ∀ ds M Φ, ds.length = n → c ds M Φ →
      WSs (bx P w K mg base N qual (defScope st) f cdv A outer s H E) (start N ds) M (defBody st) { nx := fun _ M' => Φ .non M', rt := Lets Φ }
theorem fnG_ok {dvs : List V} (F : FunD K x qual (defArgs st) (defBody st) (defScope st) dvs kws f fd) (S : FnScope N ps (defScope st)) (h : BodyG P w K mg base qual st N ps.length k c) : FnG P w K mg base (k + 1) f fd ps (spD K ps.length c) := by
  obtain ⟨oc, od, dV, kV, doc, pm, an, cdv, ct, osl, rfl, lk, hcd, _, _⟩ := F.ex
  have ln : ∀ vs H Q E, spD K ps.length c vs H Q E → vs.length = ps.length := fun vs H Q E q => by
    obtain ⟨ds, M, Z, Φ, hl, r, _⟩ := q
    rw [r.length, hl]
  refine ⟨ln, fun A outer s H args us vs Q E hg hr e0 hb rv hsp => ?_⟩
  have hlen := ln _ _ _ _ hsp
  have hK : K.In s.heap := e0.mod.kin.keeps fun b o z => (e0.bs b o z).1
  have hlim : s.heap.NoLimit := e0.mod.nolimit.keeps fun b o z => (e0.bs b o z).1
  have kinds : ∀ y ∈ ps.zip us, (defScope st).names.lookup y.1 = some .local ∨ ((defScope st).names.lookup y.1 = some .cell ∧ ((cellsFrom (s.heap.objs.size + 1) (defScope st).names []).lookup y.1).isSome = true) := fun y hy => by
    rcases S.par y.1 (List.of_mem_zip hy).1 with z | z
    · exact .inl z
    · exact .inr ⟨z, PySem.W.cellsFrom_some _ _ _ (.inl z)⟩
  refine codeAny_call_function hr.depth (hK _ _ lk) rfl S.co S.gen rfl (PySem.W.codeRec_of hK hcd) (hb _ _ _ _ (wpAny_newFunctionEnv_cells S.kind kinds fun env he s1 xx => ?_))
  subst he
  refine ⟨hlim.keeps xx.toInCall.keep, codeAny_func ?_⟩
  obtain ⟨ds, M, Z, Φ, hl, r, wd, hc, kk⟩ := hsp
  have I : Inv (cxOf CX0 P w K mg base N qual (defScope st) f cdv A outer s H E) [] (L2.start N vs) H s1 := inv_start S hr.hd e0 hlen rv xx
  have body := (h f cdv A outer s H E hg (hr.deeper _) ds M Φ hl hc).run (L2.start N vs) H { nx := fun _ H' => Q .non H', rt := Q } (env_start r) wd ⟨fun σ' ρ' H' M' x w' en z => kk _ .non H' M' x w' .non z, lets_k kk, fun _ _ _ _ _ _ _ z => z.elim, fun _ _ _ _ _ _ _ z => z.elim⟩
  have done : ∀ {σ' : L2.St} {H' : Hp} {v : V} {u : Value} {s' : Shared}, Inv (cxOf CX0 P w K mg base N qual (defScope st) f cdv A outer s H E) [] σ' H' s' → RelV v u → Q v H' → CE outer P w H s Q u s' := fun {σ' H' v u s'} J ru q => ⟨v, H', J.os, J.bare, J.base, J.hok, ru, q⟩
  refine wpAny_mono ((PSs.nox (pss_sem (X := bx P w K mg base N qual (defScope st) f cdv A outer s H E))).run [] s1 (L2.start N vs) H _ I body) (fun fl s' hs => ?_) fun e s' hs => hs
  cases fl with
  | ret u => obtain ⟨v, σ', H', J, ru, q⟩ := hs; exact done J ru q
  | next => obtain ⟨σ', H', J, q⟩ := hs; exact done (v := V.non) (u := Value.none) J rfl q
  | brk => obtain ⟨_, _, _, q⟩ := hs; exact q.elim
  | cont => obtain ⟨_, _, _, q⟩ := hs; exact q.elim
/-- such a def under its name -/
structure Gc (P : Program) (w : World) (K : PySem.W.Frag) (mg : Str → Option Value) (base : Heap) (x : Str) (k n : Nat) (c : Con) : Prop where
  ex : ∃ (f : Addr) (fd : FuncData) (ps : List Str), FnG P w K mg base k f fd ps (spD K n c) ∧ mg x = some (.ref f) ∧ PySem.W.keepIn K (.ref f) = true ∧ Binds K fd ps []
theorem Df.gc (D : Df K mg x st []) (S : FnScope N ps (defScope st))
    (hb : ∀ (kV doc pm : Value) (an : Option Addr) (cdv ct : Value) (us : List Value), us.length = ps.length → bindArgs (PySem.W.fnOf x x (defArgs st) (defBody st) (defScope st) .none kV doc pm an cdv ct) ⟨us, []⟩ = pure (ps.zip us))
    (h : BodyG P w K mg base x st N ps.length k c) : Gc P w K mg base x (k + 1) ps.length c := by
  obtain ⟨f, fd, F, hm⟩ := D.ex
  exact ⟨f, fd, ps, fnG_ok F S h, hm, F.kp, F.bindsN hb⟩
end
section
variable {X : Cx} {ρ : Rho} {M : Mp} {Φ : D → Mp → Prop} {e : Expr} {es : List Expr} {pos p : Pos} {x : Str} {k n : Nat} {c : Con}
theorem we_callG (F : Gc X.prog X.w X.K X.mg X.base x k n c) (hg0 : X.A.guards = some []) (hr : Room k X.A) (h : WA X ρ M (e :: es) fun ds M1 => ds.length = n ∧ c ds M1 Φ) (hg : Gl X x := by rfl)
    (hdb : (x == ("__debug__" : Str)) = false := by decide) (he : starEach (e :: es) X.env = (false, eval e X.env) :: starEach es X.env := by rfl) (hpl : (backTo pos (starEach es X.env)).any (·.1) = false := by rfl) : WE X ρ M (.Call (.Name x p) (e :: es) [] pos) Φ := .mk fun {Z} σ H Q en w k => by
  obtain ⟨f, fd, ps, F, hm, hk, hb⟩ := F.ex
  intro pins s I
  refine wpAny_Call_Name_kw (ld_glob I hg hm ?_ hdb)
  refine PySem.W.callWith_K (h₀ := X.base) I.ok.mod.kin hk (thn ((pa_sem (es := e :: es)).run pos pins s σ H (fun vs H1 => spD X.K n c vs H1 Q E0) I (h.run σ H _ en w fun vs ds H1 M1 e1 w1 r1 hz => ⟨ds, M1, Z, Φ, hz.1, r1, w1, hz.2, k.step e1⟩)) fun us s1 z => ⟨?_, ?_⟩) he hpl
  · obtain ⟨vs, H1, I1, r, q⟩ := z; exact I1.kIn
  · obtain ⟨vs, H1, I1, r, q⟩ := z
    have hl : (us ++ ([] : List Value)).length = ps.length := by rw [List.append_nil, ← r.length]; exact F.len _ _ _ _ q
    have bt := hb s1 us I1.kIn hl
    rw [List.append_nil] at bt
    refine wpAny_call (codeAny_mono (F.run X.A X.stack s1 H1 ⟨us, []⟩ us vs Q E0 hg0 hr I1.env0 bt r q) fun res s' hq => ?_)
    cases res with
    | error er => exact hq.elim
    | ok fl =>
      cases fl with
      | ret u => exact I1.after hq
      | next => exact hq.elim
      | brk => exact hq.elim
      | cont => exact hq.elim
end
end DL
namespace DL
open PySem PySem.Spec PyProof.Rows L2
section
variable {X : Cx} {ρ : Rho} {M : Mp} {Φ : D → Mp → Prop} {e : Expr} {pos p : Pos}
theorem cr_reprD (hg : X.A.guards = some []) (hu : X.A.units + 64 < cLine) : CallR X (.builtin "repr") (fun xs H Q => ∃ v q, xs = [v] ∧ Dp X.K H v q ∧ q.showable = true ∧ q.canLay0 = true ∧ q.depth ≤ 60 ∧ q.shown.length ≤ sizeLine ∧ Q (.str q.shown) H) := by
  intro pins s σ H xs us Q I r h
  obtain ⟨v, q, rfl, hd, hs, hc, hk, hz, h⟩ := h
  obtain ⟨u, rfl, ru⟩ := vals1 r
  obtain ⟨as, rd⟩ := Dp.reads I q v u hd ru
  have fin : ∀ (h' : Heap) (tk : Nat) (t : Tok), (∀ b o, s.heap.get? b = some o → h'.get? b = some o) → EP X pins σ Q (.str q.shown t) { s with heap := h', toks := tk } := fun h' tk t kp => ⟨.str q.shown, H, I.kept kp, ⟨t, rfl⟩, h⟩
  have same : ∀ (tk : Nat) (t : Tok), EP X pins σ Q (.str q.shown t) { s with toks := tk } := fun tk t => ⟨.str q.shown, H, I.tok tk, ⟨t, rfl⟩, h⟩
  have big : ∀ a, u = .ref a → wpAny (model X.prog X.w) X.A (call (.builtin "repr") [u]) (EP X pins σ Q) X.xe s := fun a ea => by
    subst ea
    exact repr_of_reads' rd hs (fun z => by rw [PyData.hasDict_of_canLay q hc] at z; cases z) hg (by omega) (fun _ _ z => z) (fun h' t tk kp => fin h' tk t kp) hz
  cases hd with
  | non => cases ru; exact PySem.P.repr_of_none (by simp only [PyData.shown] at same; exact same _ _)
  | bl b => cases ru; exact PySem.P.repr_of_bool (by simp only [PyData.shown] at same; exact same _ _)
  | int i =>
    obtain ⟨t, rfl⟩ := ru
    simp only [PyData.showable, decide_eq_true_eq] at hs
    exact PySem.P.repr_of_int hs (by simp only [PyData.shown] at same; exact same _ _)
  | str x =>
    obtain ⟨t, rfl⟩ := ru
    simp only [PyData.shown] at hz
    exact PySem.P.repr_of_str (by simp only [PyData.shown] at same; exact same _ _) hz
  | lst h1 h2 => cases ru; exact big _ rfl
  | tup h1 h2 => cases ru; exact big _ rfl
end
end DL
namespace DL
open PySem PySem.Spec PyProof.Rows L2
section
variable {X : Cx} {ρ : Rho} {M : Mp} {Φ : D → Mp → Prop} {e : Expr} {pos p : Pos}
def TupsV (K : PySem.W.Frag) (H : Hp) : List V → List (List Int) → Prop := Paired fun x ns => ∃ t, x = V.ref t ∧ SqT K H t (ns.map V.int)
theorem TupsV.raw {pins : List (Addr × Obj)} {σ : L2.St} {H : Hp} {s : Shared} (I : Inv X pins σ H s) : ∀ {xs : List V} {ps : List (List Int)} {us : List Value}, TupsV X.K H xs ps → Vals xs us → us.map (TS.intsOf s.heap) = ps ∧ ∀ u ∈ us, TS.TupInts s.heap u (TS.intsOf s.heap u)
  | _, _, _, .nil, .nil => ⟨rfl, fun u hu => by simp at hu⟩
  | _, _, _, .cons h t, .cons r v => by
    obtain ⟨a, rfl, hq⟩ := h
    cases r
    obtain ⟨h1, h2⟩ := TupsV.raw I t v
    have q := tupI_raw I hq
    refine ⟨by rw [List.map_cons, q.ints, h1], fun u hu => ?_⟩
    rcases List.mem_cons.mp hu with rfl | hu
    · rw [q.ints]; exact q
    · exact h2 u hu
theorem Reps.tups {K : PySem.W.Frag} {M : Mp} {Z : Zn} {H : Hp} : ∀ {vs : List V} {ps : List (List Int)}, Reps K M Z H vs (ps.map fun q => .tup (q.map D.int)) → TupsV K H vs ps
  | _, [], .nil => .nil
  | _, q :: ps, .cons r t => by
    obtain ⟨a, us, rfl, hq, rs⟩ := r.asTup
    rw [rs.ints] at hq
    exact .cons ⟨a, rfl, hq⟩ (Reps.tups t)
end
end DL
namespace DL
open PySem PySem.Spec PyProof.Rows L2 SX
/-- shown, at most b signs -/
structure ShD (p : PyData) (b : Nat) : Prop where
  ok : p.showable = true
  le : p.shown.length ≤ b
end DL
namespace DL
open PySem PySem.Spec PyProof.Rows L2
def keyD : Key → D
  | .inl i => .int i
  | .inr x => .str x
section
variable {X : Cx} {ρ : Rho} {M : Mp} {Φ : D → Mp → Prop} {Θ : Bool → Mp → Prop} {a b e o i : Expr} {es : List Expr} {pos p : Pos}
def putT (kvs : List (List Key × D)) (k : List Key) (d : D) : List (List Key × D) := if (kvs.any fun kv => decide (kv.1 = k)) = true then kvs.map (fun kv => if kv.1 = k then (kv.1, d) else kv) else kvs ++ [(k, d)]
theorem RepT.snoc {K : PySem.W.Frag} {M : Mp} {Z : Zn} {H : Hp} {k : List Key} {v : V} {d : D} (r : Rep K M Z H v d) : ∀ {vs : List (List Key × V)} {ds : List (List Key × D)}, RepT K M Z H vs ds → RepT K M Z H (vs ++ [(k, v)]) (ds ++ [(k, d)])
  | _, _, .nil => .cons r .nil
  | _, _, .cons r1 t => .cons r1 (RepT.snoc r t)
theorem RepT.repl {K : PySem.W.Frag} {M : Mp} {Z : Zn} {H : Hp} {k : List Key} {v : V} {d : D} (r : Rep K M Z H v d) : ∀ {vs : List (List Key × V)} {ds : List (List Key × D)}, RepT K M Z H vs ds → RepT K M Z H (vs.map fun kv => if kv.1 = k then (kv.1, v) else kv) (ds.map fun kv => if kv.1 = k then (kv.1, d) else kv)
  | _, _, .nil => .nil
  | _, _, .cons (k := j) r1 t => by
    rw [List.map_cons, List.map_cons]
    by_cases e : j = k
    · simp only [if_pos e]; exact .cons r (RepT.repl r t)
    · simp only [if_neg e]; exact .cons r1 (RepT.repl r t)
theorem RepT.put {K : PySem.W.Frag} {M : Mp} {Z : Zn} {H : Hp} {k : List Key} {v : V} {d : D} {vs : List (List Key × V)} {ds : List (List Key × D)} (r : Rep K M Z H v d) (t : RepT K M Z H vs ds) : RepT K M Z H (putK vs k v) (putT ds k d) := by
  unfold putK putT
  rw [t.any]
  split
  · exact t.repl r
  · exact t.snoc r
end
end DL
namespace DL
open PySem PySem.Spec PyProof.Rows L2 SlX
/-- what __init__ of five slots does: the i-th value goes to the slot js[i] -/
def spF (C : Addr) (out : List Int → List Int) : Sp := fun vs H Q E => ∃ (a dx : Addr) (ns : List Int), vs = .ref a :: ns.map V.int ∧ ns.length = 5 ∧ H a = some (.ins C dx []) ∧ dx ≠ a ∧ Q .non (slH H a C dx ((out ns).map fun i => some (V.int i)))
/-- C(..), C such a class -/
structure Gk (P : Program) (w : World) (K : PySem.W.Frag) (mg : Str → Option Value) (base : Heap) (x : Str) (C : Addr) (k : Nat) (dd : List Int) (out : List Int → List Int) : Prop where
  at_ : mg x = some (.ref C)
  ex : ∃ (f : Addr) (fd : FuncData) (ps : List Str) (ds : List Value), FnOk P w K mg base CX0 k f fd ps (spF C out) ∧ Mk K C f ∧ Binds K fd ps ds ∧ Vals (dd.map V.int) ds
theorem slH_made {H1 : Hp} {x dx C : Addr} {vs : List (Option V)} (h : dx ≠ x) : slH (upd (upd H1 dx (.own x)) x (.ins C dx [])) x C dx vs = upd (upd H1 dx (.xd [])) x (SlO x C dx vs) := by
  funext b
  unfold slH
  by_cases h1 : b = x
  · rw [h1, upd_same, upd_same]
  · by_cases h2 : b = dx
    · rw [h2, upd_ne h, upd_same, upd_ne h, upd_same]
    · rw [upd_ne h1, upd_ne h2, upd_ne h1, upd_ne h2, upd_ne h1, upd_ne h2]
section
variable {X : Cx} {ρ : Rho} {M : Mp} {Φ : D → Mp → Prop} {Θ : Bool → Mp → Prop} {a b e o : Expr} {es : List Expr} {pos p apos : Pos} {x : Str} {C : Addr} {k : Nat} {out : List Int → List Int} {dd : List Int}
theorem made_run {Z : Zn} {H1 : Hp} {M1 : Mp} {Q : VK} (w1 : Wd X.K M1 Z H1) (k : KE X.K M1 Z H1 Φ Q) {ns : List Int} (h5 : ns.length = 5) (hz : Φ (.fig C (out ns)) M1) (y dx : Addr) (hy : H1 y = none) (hdx : H1 dx = none) (ne : dx ≠ y) :
    spF C out (.ref y :: ns.map V.int) (upd (upd H1 dx (.own y)) y (.ins C dx [])) (fun v H2 => v = .non ∧ Q (.ref y) H2) E0 := by
  refine ⟨y, dx, ns, rfl, h5, upd_same, ne, rfl, ?_⟩
  rw [slH_made ne]
  have x1 := Ext.new (o := HO.xd []) w1 hdx
  have w2 := w1.new (o := HO.xd []) hdx
  have hy2 : upd H1 dx (.xd []) y = none := by rw [upd_ne (Ne.symm ne)]; exact hy
  refine (k.step x1).new w2 hy2 (.fig upd_same (by rw [upd_ne ne, upd_same]) (w2.fresh hy2) (w1.fresh hdx)) hz
theorem we_gmake (F : Gk X.prog X.w X.K X.mg X.base x C k [] out) (hr : Room (k + 1) X.A) (h : WA X ρ M (e :: es) fun ds M1 => ∃ ns : List Int, ds = ns.map D.int ∧ ns.length = 5 ∧ Φ (.fig C (out ns)) M1) (hg : Gl X x := by rfl)
    (hdb : (x == ("__debug__" : Str)) = false := by decide) (he : starEach (e :: es) X.env = (false, eval e X.env) :: starEach es X.env := by rfl) (hpl : (backTo pos (starEach es X.env)).any (·.1) = false := by rfl) : WE X ρ M (.Call (.Name x p) (e :: es) [] pos) Φ := .mk fun {Z} σ H Q en w k => by
  obtain ⟨f, fd, ps, ds, F', hm, hb, hd⟩ := F.ex
  refine eOf (pe_make (E := E0) hm F' hr hg F.at_ hb hd pass0 pa_sem hdb he hpl) (h.run σ H _ en w fun vs ds H1 M1 e1 w1 r1 hz => ?_)
  obtain ⟨ns, rfl, h5, hz⟩ := hz
  obtain rfl := r1.ints
  intro y dx hy hdx ne
  rw [List.map_nil, List.append_nil]
  exact made_run w1 (k.step e1) h5 hz y dx hy hdx ne
theorem we_gmake0 (F : Gk X.prog X.w X.K X.mg X.base x C k dd out) (h5 : dd.length = 5) (hr : Room (k + 1) X.A) (h : Φ (.fig C (out dd)) M) (hg : Gl X x := by rfl) (hdb : (x == ("__debug__" : Str)) = false := by decide) : WE X ρ M (.Call (.Name x p) [] [] pos) Φ := .mk fun {Z} σ H Q en w k => by
  obtain ⟨f, fd, ps, ds, F', hm, hb, hd⟩ := F.ex
  refine eOf (pe_make0 (E := E0) hm F' hr hg F.at_ hb hd pass0 hdb) ?_
  intro y dx hy hdx ne
  exact made_run w k h5 h y dx hy hdx ne
/-- e.f of such an instance -/
theorem we_gfld {fs : List Str} {f : Str} (S : SlC X.K C fs) (h : WE X ρ M e fun d M1 => ∃ (ns : List Int) (i : Nat) (n : Int), d = .fig C ns ∧ fs[i]? = some f ∧ ns[i]? = some n ∧ Φ (.int n) M1) (hb : attributeBase e f X.env (eval e X.env) = eval e X.env := by rfl) : WE X ρ M (.Attribute e f pos) Φ := .mk fun {Z} σ H Q en w k =>
  eOf (pe_sl pe_sem hb) (h.run σ H _ en w fun v d H1 M1 e1 w1 r1 hz => by
    obtain ⟨ns, i, n, rfl, hf, hn, hz⟩ := hz
    obtain ⟨q, hq⟩ := S.sl i f hf
    cases r1 with
    | @fig y _ dx _ h1 hd m md =>
      exact ⟨y, C, dx, q, _, i, .int n, rfl, .inr ⟨h1, hd⟩, S.sc, hq, by rw [List.getElem?_map, hn]; rfl, (k.step e1).now w1 (.int n) hz⟩)
/-- a method of such an instance -/
structure Mg (P : Program) (w : World) (K : PySem.W.Frag) (mg : Str → Option Value) (base : Heap) (C : Addr) (m : Str) (k n : Nat) (c : Con) : Prop where
  sc : SCls K C
  ex : ∃ (f : Addr) (fd : FuncData) (ps : List Str), FnOk P w K mg base CX0 k f fd ps (spD K n c) ∧ Meth K C m f ∧ Binds K fd ps []
theorem we_gmeth {m : Str} {n : Nat} {c : Con} {pl : Sem Bool} (F : Mg X.prog X.w X.K X.mg X.base C m k n c) (hr : Room k X.A) (h : WE X ρ M o fun d M1 => ∃ ns, d = .fig C ns ∧ WA X ρ M1 (e :: es) fun ds M2 => (D.fig C ns :: ds).length = n ∧ c (.fig C ns :: ds) M2 Φ)
    (hst : starEach (e :: es) X.env = (false, eval e X.env) :: starEach es X.env := by rfl) (hpl : (backTo pos (starEach es X.env)).any (·.1) = false := by rfl)
    (ht : eval (.Call (.Attribute o m apos) (e :: es) [] pos) X.env = (do
      let ov ← eval o X.env
      standAt apos.atName
      let (f, first) ← holding [ov] (getMethod ov m pl)
      callWith pos f first (backTo pos (starEach (e :: es) X.env)) (backToKw pos (keywordEach [] X.env))) := by rfl) : WE X ρ M (.Call (.Attribute o m apos) (e :: es) [] pos) Φ := .mk fun {Z} σ H Q en w k => by
  obtain ⟨f, fd, ps, F', hm, hb⟩ := F.ex
  refine eOf (pe_methSl (pl := pl) (E := E0) pe_sem F.sc hm (F'.raw hb .nil) hr pass0 pa_sem hst hpl ht) (h.run σ H _ en w fun v d H1 M1 e1 w1 r1 hz => ?_)
  obtain ⟨ns, rfl, hz⟩ := hz
  cases r1 with
  | @fig y _ dx _ h1 hd md1 md2 =>
    refine ⟨y, dx, _, rfl, .inr ⟨h1, hd⟩, hz.run σ H1 _ (en.mono e1) w1 fun vs ds H2 M2 e2 w2 r2 hy => ?_⟩
    show spD X.K n c ((V.ref y :: vs) ++ []) H2 Q E0
    rw [List.append_nil]
    exact ⟨.fig C ns :: ds, M2, Z, Φ, hy.1, .cons (Rep.mono e2 (.fig h1 hd md1 md2)) r2, w2, hy.2, k.step (e1.trans e2)⟩
theorem we_maxL (hm : X.mg "max" = none) (h : WE X ρ M e fun d M1 => ∃ ns : List Int, LstOf M1 d (ns.map D.int) ∧ 0 < ns.length ∧ ∀ m, m ∈ ns → (∀ y, y ∈ ns → y ≤ m) → Φ (.int m) M1) (hc : X.calm = true := by rfl) (hg : Gl X "max" := by rfl)
    (he : starEach [e] X.env = (false, eval e X.env) :: starEach [] X.env := by rfl) (hpl : (backTo pos (starEach [] X.env)).any (·.1) = false := by rfl) : WE X ρ M (.Call (.Name "max" p) [e] [] pos) Φ :=
  we_callB (cr_max hc) hm (by decide +kernel) (wa_cons (h.imp fun d M1 hz => wa_nil fun Z vs H Q w rr k => by
    obtain ⟨ns, hl, h0, hz⟩ := hz
    cases rr with
    | cons r1 r2 =>
      cases r2
      obtain ⟨q, us, rfl, hq, rs⟩ := r1.asLst w hl
      obtain rfl := rs.ints
      exact ⟨q, ns, rfl, hq, h0, fun m h1 h2 => k.now w (.int m) (hz m h1 h2)⟩) he) hg (he := he) (hpl := hpl)
theorem we_minL (hm : X.mg "min" = none) (h : WE X ρ M e fun d M1 => ∃ ns : List Int, LstOf M1 d (ns.map D.int) ∧ 0 < ns.length ∧ ∀ m, m ∈ ns → (∀ y, y ∈ ns → m ≤ y) → Φ (.int m) M1) (hc : X.calm = true := by rfl) (hg : Gl X "min" := by rfl)
    (he : starEach [e] X.env = (false, eval e X.env) :: starEach [] X.env := by rfl) (hpl : (backTo pos (starEach [] X.env)).any (·.1) = false := by rfl) : WE X ρ M (.Call (.Name "min" p) [e] [] pos) Φ :=
  we_callB (cr_min hc) hm (by decide +kernel) (wa_cons (h.imp fun d M1 hz => wa_nil fun Z vs H Q w rr k => by
    obtain ⟨ns, hl, h0, hz⟩ := hz
    cases rr with
    | cons r1 r2 =>
      cases r2
      obtain ⟨q, us, rfl, hq, rs⟩ := r1.asLst w hl
      obtain rfl := rs.ints
      exact ⟨q, ns, rfl, hq, h0, fun m h1 h2 => k.now w (.int m) (hz m h1 h2)⟩) he) hg (he := he) (hpl := hpl)
end
end DL
namespace HK
open PySem PySem.Spec PyProof.Rows L2 DL He
theorem propB_ok {K : PySem.W.Frag} {C m : Str} (h : propB K (C, m) = true) : PropOf K (ga K C) m (ma K (ga K C) m) (pgA C m K) := by
  obtain ⟨h1, h2⟩ := Bool.and_eq_true_iff.mp h
  obtain ⟨h3, h4⟩ := Bool.and_eq_true_iff.mp h2
  obtain ⟨h5, h6⟩ := Bool.and_eq_true_iff.mp h4
  refine ⟨eqO_ok h1, eqO_ok h3, of_decide_eq_true h5, ?_⟩
  unfold pgA
  cases q : PySem.W.recIn K (ma K (ga K C) m) "property" with
  | none => rw [q] at h6; cases h6
  | some l =>
    rw [q] at h6
    cases l with
    | nil => cases h6
    | cons v r =>
      cases v with
      | ref g => exact ⟨r, rfl⟩
      | _ => cases h6
theorem nonV_ok {v : Value} (h : nonV v = true) : v = .none := by cases v <;> first | rfl | cases h
theorem excB_ok {K : PySem.W.Frag} {C : Addr} (q : excB K C = true) : ∃ nm qn N bs bm sn sub ab col dd k0 k1 k2 k3 k5, K.lookup C = some (excClassObj nm qn C N bs bm true sn sub ab col dd k0 k1 k2 k3 k5 "ValueError.__new__") ∧ PySem.HandSPX.refsVE bm = true := by
  unfold excB at q
  split at q
  · rename_i t dd cd sl ho
    obtain ⟨h0, q0⟩ := Bool.and_eq_true_iff.mp q
    clear q
    have h0 := of_decide_eq_true h0
    split at q0
    · rename_i C' bm k0 k1 k2 k3 n k5 hm hs
      obtain ⟨h1, q1⟩ := Bool.and_eq_true_iff.mp q0
      obtain ⟨h2, q2⟩ := Bool.and_eq_true_iff.mp q1
      obtain ⟨h3, q3⟩ := Bool.and_eq_true_iff.mp q2
      obtain ⟨h4, h5⟩ := Bool.and_eq_true_iff.mp q3
      have h1 := of_decide_eq_true h1
      have h2 := of_decide_eq_true h2
      clear q0 q1 q2 q3
      obtain ⟨nm, bs, mro, ns, qn, hd, sn, sub, ab, col, del⟩ := cd
      dsimp only at hm h3 h4
      have h6 : del = false := by cases del <;> first | rfl | cases h3
      clear h3
      obtain ⟨l⟩ := sl
      simp only at hs
      subst h0 h1 h2 hm h4 h6 hs
      exact ⟨nm, qn, ns, bs, bm, sn, sub, ab, col, dd, k0, k1, k2, k3, k5, ho, h5⟩
    · cases q0
  · cases q
theorem all_cons {b : Bool} {l : List Bool} (h : (b :: l).all id = true) : b = true ∧ l.all id = true := by
  rw [List.all_cons] at h
  exact Bool.and_eq_true_iff.mp h
theorem erB_ok {K : PySem.W.Frag} {mg : Str → Option Value} {x : Str} (h : erB K x = true) (hm : mg x = some (.ref (ga K x))) : XL.ErTxt K mg x (ga K x) (ga K "CrowdError") (ma K (ga K "CrowdError") "__init__") ∧ XL.ErV K (ga K x) ∧ PySem.W.kitOne K (.type "NoneType") (.ref (ga K x)) = some false ∧ PySem.W.exmOne K (.ref (ga K x)) (.ref (ga K "CrowdError")) = some true := by
  obtain ⟨h1, h⟩ := all_cons h
  obtain ⟨h2, h⟩ := all_cons h
  obtain ⟨h3, h⟩ := all_cons h
  obtain ⟨h4, h⟩ := all_cons h
  obtain ⟨h5, h⟩ := all_cons h
  obtain ⟨h6, h⟩ := all_cons h
  obtain ⟨h7, h⟩ := all_cons h
  obtain ⟨h8, h⟩ := all_cons h
  obtain ⟨h9, h⟩ := all_cons h
  obtain ⟨h10, h⟩ := all_cons h
  obtain ⟨h11, h⟩ := all_cons h
  obtain ⟨h12, h⟩ := all_cons h
  obtain ⟨h13, h⟩ := all_cons h
  obtain ⟨h14, h⟩ := all_cons h
  obtain ⟨h15, h⟩ := all_cons h
  obtain ⟨h16, h⟩ := all_cons h
  obtain ⟨h17, h⟩ := all_cons h
  obtain ⟨h18, h⟩ := all_cons h
  obtain ⟨h19, h⟩ := all_cons h
  obtain ⟨h20, h⟩ := all_cons h
  obtain ⟨h21, h⟩ := all_cons h
  exact ⟨⟨hm, excB_ok h1, h2, eqO_ok h3, eqO_ok h4, eqO_ok h5, eqO_ok h6, eqO_ok h7, h8, of_decide_eq_true h9, of_decide_eq_true h10, of_decide_eq_true h11, of_decide_eq_true h12, h13, eqO_ok h14⟩,
    ⟨h15, eqO_ok h4, eqO_ok h5, of_decide_eq_true h9, h13, eqO_ok h6, eqO_ok h16, eqO_ok h17, of_decide_eq_true h18, of_decide_eq_true h19⟩, of_decide_eq_true h20, of_decide_eq_true h21⟩
theorem clsIn_ob {K : PySem.W.Frag} {C : Addr} (h : (PySem.W.clsIn K C).isSome = true) : ∃ o cd, K.lookup C = some o ∧ o.data = .cls cd := by
  unfold PySem.W.clsIn at h
  split at h
  · rename_i ho
    exact ⟨_, _, ho, rfl⟩
  · cases h
theorem crB_ok {P : Program} {K : PySem.W.Frag} {file : Str} {st : Stmt} (h : crB K file = true) (e : fnZ K (crA K) = crVal st) (hf : (P.main.file == file) = true) (hs : (P.main.scope.names.lookup ("super" : Str)).isSome = false) :
    ∃ cl, XL.CrTxt P K "CrowdError.__init__" (defArgs st) (defBody st) (defScope st) (ga K "CrowdError") (crA K) cl := by
  obtain ⟨h1, h⟩ := Bool.and_eq_true_iff.mp h
  obtain ⟨h2, h⟩ := Bool.and_eq_true_iff.mp h
  obtain ⟨h3, h4⟩ := Bool.and_eq_true_iff.mp h
  unfold fnZ at e
  cases q : K.lookup (crA K) with
  | none => rw [q] at e; cases e
  | some o =>
    obtain ⟨oc, od, dt, osl⟩ := o
    rw [q] at h1 e
    cases dt with
    | func fd =>
      obtain ⟨x1, x2, x3, x4, x5, x6, x7, x8, x9, x10, x11, x12, x13, x14, x15⟩ := fd
      have e2 : (some (x1, x2, x3, x4, x5, x6, [], x15) : FnW) = (some (("__init__" : Str), ("CrowdError.__init__" : Str), defArgs st, .stmts (defBody st), defScope st, mainGlobals, [], builtinsNs) : FnW) := e
      simp only [Option.some.injEq, Prod.mk.injEq] at e2
      obtain ⟨g1, g2, g3, g4, g5, g6, _, g8⟩ := e2
      subst g1 g2 g3 g4 g5 g6 g8
      dsimp only at h1
      split at h1
      · rename_i y cl cc
        obtain ⟨k1, q1⟩ := Bool.and_eq_true_iff.mp h1
        obtain ⟨k2, q2⟩ := Bool.and_eq_true_iff.mp q1
        obtain ⟨k3, q3⟩ := Bool.and_eq_true_iff.mp q2
        obtain ⟨k4, q4⟩ := Bool.and_eq_true_iff.mp q3
        obtain ⟨k5, k6⟩ := Bool.and_eq_true_iff.mp q4
        clear h1 q1 q2 q3 q4
        have k1 := of_decide_eq_true k1
        have k2 := nonV_ok k2
        have k3 := nonV_ok k3
        subst k1 k2 k3
        refine ⟨cl, ⟨?_, ?_, clsIn_ob h2, of_decide_eq_true h3, hs, eqO_ok h4⟩⟩
        · split at k5
          · rename_i c1 c2 vs c3 hcc2
            split at k5
            · rename_i f tf hv
              have k5 := of_decide_eq_true k5
              subst k5
              exact ⟨oc, od, x10, x11, x12, cc, x14, osl, _, vs, f, tf, q, k4, hcc2, rfl, hv, hf⟩
            · cases k5
          · cases k5
        · split at k6
          · rename_i c1 c2 b c3 hcl2
            have k6 := of_decide_eq_true k6
            subst k6
            exact ⟨_, hcl2, rfl⟩
          · cases k6
      · cases h1
    | _ => cases e
theorem tbB_ok {K : PySem.W.Frag} {x : Str} (h : tbB K x = true) : ∃ p, PySem.W.tabIn K x = some p ∧ K.lookup p.2 = none := by
  unfold tbB at h
  split at h
  · rename_i p e
    refine ⟨p, e, ?_⟩
    cases q : K.lookup p.2 with
    | none => rfl
    | some o => rw [q] at h; cases h
  · cases h
theorem obsG_eq {n : Nat} {ns ms : List Str} {S : Sp} {g : Addr → Option Obj} {s : Shared} (h : ∀ a, g a = s.heap.get? a) : obsG n ns ms S g = (hook n ns ms S).obs s := by
  have e : g = s.heap.get? := funext h
  rw [e] <;> rfl
section
variable {S : Sp} {w : World} {K : PySem.W.Frag}
theorem Says.txs (c : Says S w K) {x : Str} {zs : List Str} (h : (x, zs) ∈ S.tx) : ∀ M Z H, Rep K M Z H (.ref (ga K x)) (.tup (zs.map D.str)) := by
  obtain ⟨v, rv, hr⟩ := Dt.rep (List.all_eq_true.mp c.bos.1.1.1.1.1.2 _ h)
  have e : v = .ref (ga K x) := by
    cases v with
    | ref a =>
      have : Value.ref (ga K x) = Value.ref a := rv
      cases this; rfl
    | _ => first | (obtain ⟨t, e⟩ := rv; cases e) | cases rv
  intro M Z H
  have := hr M Z H
  rw [e] at this
  exact this
theorem Says.ers (c : Says S w K) {x : Str} (h : x ∈ S.er) : erB K x = true := List.all_eq_true.mp c.bos.1.1.1.1.2 _ h
theorem Says.tbs (c : Says S w K) {x : Str} (h : x ∈ S.tb) : ∃ p, PySem.W.tabIn K x = some p ∧ K.lookup p.2 = none := tbB_ok (List.all_eq_true.mp c.bos.1.1.2 _ h)
theorem Says.crs (c : Says S w K) {file : Str} {st : Stmt} (h : S.ba = [(file, st)]) : crB K file = true ∧ fnZ K (crA K) = crVal st := by
  have e : S.ba.map (fun _ => fnZ K (crA K)) = S.ba.map fun q => crVal q.2 := congrArg (fun z : Al => z.2.2.2) c
  have b := c.bos.1.2
  rw [h] at e b
  exact ⟨List.all_eq_true.mp b _ List.mem_cons_self, (List.cons.inj e).1⟩
/-- one of the errors -/
theorem Says.err {P : Program} {mg : Str → Option Value} (c : Says S w K) {file : Str} {st : Stmt} {x : Str} (hb : S.ba = [(file, st)]) (sh : XL.Shape (defArgs st) (defBody st) (defScope st)) (hf : (P.main.file == file) = true) (hs : (P.main.scope.names.lookup ("super" : Str)).isSome = false) (hsup : mg "super" = none) (h : x ∈ S.er) (hm : mg x = some (.ref (ga K x))) :
    XL.Er P K mg x (ga K x) ∧ XL.ErV K (ga K x) ∧ PySem.W.kitOne K (.type "NoneType") (.ref (ga K x)) = some false ∧ PySem.W.exmOne K (.ref (ga K x)) (.ref (ga K "CrowdError")) = some true := by
  obtain ⟨h1, h2⟩ := c.crs hb
  obtain ⟨cl, T⟩ := crB_ok h1 h2 hf hs
  obtain ⟨G, V⟩ := erB_ok (c.ers h) hm
  exact ⟨⟨⟨_, _, cl, _, _, _, _, T, sh, G⟩, hsup⟩, V⟩
end
end HK
namespace PL
open PySem SX TL
def opn (s : Bool) : Nat := if s then 123 else 91
def sgn (s : Bool) : Nat := if s then 42 else 43
def sep (s : Bool) : List Nat := [32, sgn s, 32]
mutual
def txt : T → List Nat
  | .one => [49]
  | .name x => x
  | .cop s n t => opn s :: (numL n ++ 32 :: (txt t ++ [cls s]))
  | .row s ts => 40 :: (joinL (sep s) (txts ts) ++ [41])
def txts : List T → List (List Nat)
  | [] => []
  | t :: ts => txt t :: txts ts
end
theorem txts_map : ∀ ts : List T, txts ts = ts.map txt
  | [] => rfl
  | t :: ts => by rw [txts, txts_map ts, List.map_cons]
def letter (c : Nat) : Bool := decide (97 ≤ c) && decide (c ≤ 122)
mutual
/-- a plan as the texts allow it -/
def Good : T → Prop
  | .one => True
  | .name x => x ≠ [] ∧ x.length ≤ 8 ∧ ∀ c ∈ x, letter c = true
  | .cop _ n t => 2 ≤ n ∧ n ≤ 10 ^ 30 ∧ Good t
  | .row _ ts => 2 ≤ ts.length ∧ Goods ts
def Goods : List T → Prop
  | [] => True
  | t :: ts => Good t ∧ Goods ts
end
theorem goods_all : ∀ {ts : List T}, Goods ts ↔ ∀ t ∈ ts, Good t
  | [] => by simp [Goods]
  | t :: ts => by simp [Goods, goods_all (ts := ts)]
mutual
/-- nobody is unknown -/
def Told : T → Prop
  | .one => True
  | .name _ => False
  | .cop _ _ t => Told t
  | .row _ ts => Tolds ts
def Tolds : List T → Prop
  | [] => True
  | t :: ts => Told t ∧ Tolds ts
end
theorem tolds_all : ∀ {ts : List T}, Tolds ts ↔ ∀ t ∈ ts, Told t
  | [] => by simp [Tolds]
  | t :: ts => by simp [Tolds, tolds_all (ts := ts)]
theorem hts_le : ∀ {ts : List T} {t : T}, t ∈ ts → ht t ≤ hts ts
  | u :: ts, t, h => by
    rcases List.mem_cons.mp h with rfl | h
    · exact Nat.le_max_left _ _
    · exact Nat.le_trans (hts_le h) (Nat.le_max_right _ _)
theorem dep_app : ∀ p q : List Nat, dep (p ++ q) = dep p + dep q
  | [], q => by simp [dep]
  | c :: p, q => by rw [List.cons_append, dep, dep, dep_app p q]; omega
/-- no bracket is closed too much -/
def nn (d : Int) : List Nat → Prop
  | [] => True
  | c :: r => 0 ≤ d + wgt c ∧ nn (d + wgt c) r
theorem nn_app : ∀ (d : Int) (p q : List Nat), nn d p → nn (d + dep p) q → nn d (p ++ q)
  | d, [], q, _, h => by simpa [dep] using h
  | d, c :: p, q, h1, h2 => ⟨h1.1, nn_app _ p q h1.2 (by rw [dep] at h2; rw [show d + wgt c + dep p = d + (wgt c + dep p) by omega]; exact h2)⟩
/-- .. and no blank stands outside of brackets -/
def qu (d : Int) : List Nat → Prop
  | [] => True
  | c :: r => 0 ≤ d + wgt c ∧ (d + wgt c ≠ 0 ∨ c ≠ 32) ∧ qu (d + wgt c) r
theorem qu_app : ∀ (d : Int) (p q : List Nat), qu d p → qu (d + dep p) q → qu d (p ++ q)
  | d, [], q, _, h => by simpa [dep] using h
  | d, c :: p, q, h1, h2 => ⟨h1.1, h1.2.1, qu_app _ p q h1.2.2 (by rw [dep] at h2; rw [show d + wgt c + dep p = d + (wgt c + dep p) by omega]; exact h2)⟩
theorem qu_nn : ∀ (d : Int) (p : List Nat), qu d p → nn d p
  | _, [], _ => trivial
  | d, c :: p, h => ⟨h.1, qu_nn _ p h.2.2⟩
theorem nn_qu : ∀ (d : Int) (p : List Nat), nn d p → qu (d + 1) p
  | _, [], _ => trivial
  | d, c :: p, h => ⟨by have := h.1; omega, .inl (by have := h.1; omega), by have := nn_qu _ p h.2; rw [show d + 1 + wgt c = d + wgt c + 1 by omega]; exact this⟩
theorem wgt0 {c : Nat} (h : c ≠ 40 ∧ c ≠ 91 ∧ c ≠ 123 ∧ c ≠ 41 ∧ c ≠ 93 ∧ c ≠ 125) : wgt c = 0 := by
  unfold wgt
  rw [if_neg (by omega), if_neg (by omega)]; rfl
theorem plain_dep : ∀ {p : List Nat}, (∀ c ∈ p, wgt c = 0) → dep p = 0
  | [], _ => rfl
  | c :: p, h => by rw [dep, h c List.mem_cons_self, plain_dep fun x hx => h x (List.mem_cons_of_mem _ hx)]; rfl
theorem plain_nn : ∀ {d : Int} {p : List Nat}, 0 ≤ d → (∀ c ∈ p, wgt c = 0) → nn d p
  | _, [], _, _ => trivial
  | d, c :: p, h0, h => by
    have e := h c List.mem_cons_self
    refine ⟨by rw [e]; omega, ?_⟩
    rw [e, Int.add_zero]
    exact plain_nn h0 fun x hx => h x (List.mem_cons_of_mem _ hx)
theorem plain_qu : ∀ {d : Int} {p : List Nat}, 0 ≤ d → (∀ c ∈ p, wgt c = 0 ∧ c ≠ 32) → qu d p
  | _, [], _, _ => trivial
  | d, c :: p, h0, h => by
    obtain ⟨e, e2⟩ := h c List.mem_cons_self
    refine ⟨by rw [e]; omega, .inr e2, ?_⟩
    rw [e, Int.add_zero]
    exact plain_qu h0 fun x hx => h x (List.mem_cons_of_mem _ hx)
/-- o p c, brackets around -/
theorem around_ok {o c : Nat} {p : List Nat} (ho : wgt o = 1 ∧ o ≠ 32) (hc : wgt c = -1 ∧ c ≠ 32) (hp : nn 0 p) (hd : dep p = 0) : dep (o :: (p ++ [c])) = 0 ∧ qu 0 (o :: (p ++ [c])) := by
  have e1 : dep (p ++ [c]) = -1 := by rw [dep_app, hd, dep, dep, hc.1]; rfl
  refine ⟨by rw [dep, ho.1, e1]; rfl, by rw [ho.1]; decide, .inr ho.2, ?_⟩
  rw [ho.1]
  refine qu_app _ _ _ (nn_qu 0 p hp) ⟨?_, .inr hc.2, trivial⟩
  rw [hd, hc.1]; decide
theorem wgt_opn (s : Bool) : wgt (opn s) = 1 ∧ opn s ≠ 32 := by cases s <;> decide
theorem wgt_cls (s : Bool) : wgt (cls s) = -1 ∧ cls s ≠ 32 := by cases s <;> decide
theorem wgt_num {n c : Nat} (h : c ∈ numL n) : wgt c = 0 ∧ c ≠ 32 := by
  have q := numL_digits n c h
  exact ⟨wgt0 (by omega), by omega⟩
theorem wgt_letter {c : Nat} (h : letter c = true) : wgt c = 0 ∧ c ≠ 32 := by
  simp [letter] at h
  exact ⟨wgt0 (by omega), by omega⟩
theorem sep_ok (s : Bool) : dep (sep s) = 0 ∧ nn 0 (sep s) := by cases s <;> (unfold nn dep sep sgn; simp [wgt, nn, dep])
theorem join_ok (s : Bool) : ∀ {ps : List (List Nat)}, (∀ p ∈ ps, dep p = 0 ∧ nn 0 p) → dep (joinL (sep s) ps) = 0 ∧ nn 0 (joinL (sep s) ps)
  | [], _ => ⟨rfl, trivial⟩
  | [p], h => h p List.mem_cons_self
  | p :: q :: r, h => by
    obtain ⟨h1, h2⟩ := h p List.mem_cons_self
    obtain ⟨i1, i2⟩ := join_ok s (ps := q :: r) fun x hx => h x (List.mem_cons_of_mem _ hx)
    obtain ⟨s1, s2⟩ := sep_ok s
    refine ⟨?_, ?_⟩
    · rw [joinL, dep_app, dep_app, h1, s1, i1]; rfl
    · rw [joinL]
      refine nn_app _ _ _ h2 ?_
      rw [h1]
      refine nn_app _ _ _ s2 ?_
      rw [s1]; exact i2
mutual
theorem txt_ok : ∀ {t : T}, Good t → dep (txt t) = 0 ∧ qu 0 (txt t)
  | .one, _ => by simp [txt, dep, qu, wgt]
  | .name x, h => by
    obtain ⟨h0, h1, h2⟩ := h
    rw [txt]
    exact ⟨plain_dep fun c hc => (wgt_letter (h2 c hc)).1, plain_qu (by decide) fun c hc => wgt_letter (h2 c hc)⟩
  | .cop s n t, h => by
    obtain ⟨h1, h2, h3⟩ := h
    obtain ⟨e1, e2⟩ := txt_ok h3
    rw [txt, show numL n ++ 32 :: (txt t ++ [cls s]) = (numL n ++ 32 :: txt t) ++ [cls s] by simp]
    have d0 : dep (numL n) = 0 := plain_dep fun c hc => (wgt_num hc).1
    refine around_ok (wgt_opn s) (wgt_cls s) (nn_app _ _ _ (plain_nn (by decide) fun c hc => (wgt_num hc).1) ?_) ?_
    · rw [d0]
      exact ⟨by decide, qu_nn _ _ e2⟩
    · rw [dep_app, d0, dep, e1]; decide
  | .row s ts, h => by
    rw [txt]
    obtain ⟨j1, j2⟩ := join_ok s (ps := txts ts) fun p hp => by
      obtain ⟨q1, q2⟩ := txts_ok h.2 p hp
      exact ⟨q1, qu_nn _ _ q2⟩
    exact around_ok (by decide) (by decide) j2 j1
theorem txts_ok : ∀ {ts : List T}, Goods ts → ∀ p ∈ txts ts, dep p = 0 ∧ qu 0 p
  | [], _, p, hp => by simp [txts] at hp
  | t :: ts, h, p, hp => by
    rw [txts] at hp
    rcases List.mem_cons.mp hp with rfl | hp
    · exact txt_ok h.1
    · exact txts_ok h.2 p hp
end
/-- the first sign -/
theorem txt_head {t : T} (h : Good t) : ∃ c r, txt t = c :: r ∧ c ≠ 32 ∧ c ≠ 43 ∧ c ≠ 42 := by
  cases t with
  | one => exact ⟨49, [], by rw [txt], by decide, by decide, by decide⟩
  | name x =>
    obtain ⟨h0, h1, h2⟩ := h
    cases x with
    | nil => exact absurd rfl h0
    | cons c r =>
      have q := h2 c List.mem_cons_self
      simp [letter] at q
      exact ⟨c, r, by rw [txt], by omega, by omega, by omega⟩
  | cop s n t => exact ⟨opn s, _, by rw [txt], by cases s <;> decide, by cases s <;> decide, by cases s <;> decide⟩
  | row s ts => exact ⟨40, _, by rw [txt], by decide, by decide, by decide⟩
theorem G_qu {L : List Nat} (s : Nat) (S : List Nat) (hs : s = 32) : ∀ (p R : List Nat) (i : Nat) (d : Int) (b : Nat) (f : List (List Nat)), qu d p → G L (s :: S) (p ++ R) i d b f = G L (s :: S) R (i + p.length) (d + dep p) b f
  | [], R, i, d, b, f, _ => by simp [dep]
  | c :: p, R, i, d, b, f, h => by
    obtain ⟨h1, h2, h3⟩ := h
    rw [List.cons_append, G, if_neg, G_qu s S hs p R _ _ b f h3, dep, List.length_cons]
    · congr 1 <;> omega
    · rintro ⟨z, y⟩
      rcases h2 with h2 | h2
      · exact h2 z
      · rw [pre_of_head _ _ (by rw [hs]; exact h2)] at y
        cases y
theorem sep_len (s : Bool) : (sep s).length = 3 := rfl
theorem pre_other {x y z : Nat} {r : List Nat} (s : Bool) (h : y ≠ sgn s) : pre (sep s) (x :: y :: r) = false := by
  cases e : pre (sep s) (x :: y :: r) with
  | false => rfl
  | true =>
    unfold pre sep at e
    simp at e
    exact absurd e.2.1 h
/-- the sign itself: one more part -/
theorem G_sep {L : List Nat} (s : Bool) {c : Nat} {R : List Nat} (i b : Nat) (f : List (List Nat)) (hc : c ≠ 43 ∧ c ≠ 42) : G L (sep s) (sep s ++ (c :: R)) i 0 b f = G L (sep s) (c :: R) (i + 3) 0 (i + 3) (f ++ [(L.take i).drop b]) := by
  have w1 : wgt 32 = 0 := by decide
  have w2 : wgt (sgn s) = 0 := by cases s <;> decide
  show G L (sep s) (32 :: sgn s :: 32 :: c :: R) i 0 b f = _
  rw [G, if_pos ⟨by rw [w1]; rfl, by rw [show 32 :: sgn s :: 32 :: c :: R = sep s ++ (c :: R) from rfl]; exact pre_self _ _⟩]
  rw [G, if_neg (by rintro ⟨_, y⟩; rw [show sep s = 32 :: [sgn s, 32] from rfl, pre_of_head _ _ (by cases s <;> decide)] at y; cases y)]
  rw [G, if_neg (by rintro ⟨_, y⟩; rw [pre_other (z := 0) s (by cases s <;> simp [sgn, hc.1, hc.2])] at y; cases y)]
  rw [w1, w2]; rfl
/-- another sign: nothing -/
theorem G_no {L : List Nat} (s : Bool) {c : Nat} {R : List Nat} (i b : Nat) (f : List (List Nat)) (hc : c ≠ 43 ∧ c ≠ 42) : G L (sep s) (sep (!s) ++ (c :: R)) i 0 b f = G L (sep s) (c :: R) (i + 3) 0 b f := by
  have w1 : wgt 32 = 0 := by decide
  have w2 : wgt (sgn (!s)) = 0 := by cases s <;> decide
  show G L (sep s) (32 :: sgn (!s) :: 32 :: c :: R) i 0 b f = _
  rw [G, if_neg (by rintro ⟨_, y⟩; rw [pre_other (z := 0) s (by cases s <;> decide)] at y; cases y)]
  rw [G, if_neg (by rintro ⟨_, y⟩; rw [show sep s = 32 :: [sgn s, 32] from rfl, pre_of_head _ _ (by cases s <;> decide)] at y; cases y)]
  rw [G, if_neg (by rintro ⟨_, y⟩; rw [pre_other (z := 0) s (by cases s <;> simp [sgn, hc.1, hc.2])] at y; cases y)]
  rw [w1, w2]; rfl
theorem join_head {s : Bool} : ∀ {t : T} {ts : List T}, Good t → ∃ c r, joinL (sep s) (txts (t :: ts)) = c :: r ∧ c ≠ 43 ∧ c ≠ 42
  | t, [], h => by
    obtain ⟨c, r, e, h1, h2, h3⟩ := txt_head h
    exact ⟨c, r, by rw [txts, txts, joinL, e], h2, h3⟩
  | t, u :: ts, h => by
    obtain ⟨c, r, e, h1, h2, h3⟩ := txt_head h
    exact ⟨c, _, by rw [txts, txts, joinL, e, List.cons_append], h2, h3⟩
theorem G_join {s : Bool} : ∀ {ts : List T} {L P : List Nat} (f : List (List Nat)), ts ≠ [] → Goods ts → L = P ++ joinL (sep s) (txts ts) → G L (sep s) (joinL (sep s) (txts ts)) P.length 0 P.length f = f ++ txts ts
  | [], _, _, _, h, _, _ => absurd rfl h
  | [t], L, P, f, _, h, e => by
    obtain ⟨d0, q0⟩ := txt_ok h.1
    rw [txts, txts, joinL] at e ⊢
    have := G_qu (L := L) 32 [sgn s, 32] rfl (txt t) [] P.length 0 P.length f q0
    rw [List.append_nil] at this
    rw [show sep s = 32 :: [sgn s, 32] from rfl, this, G, e, List.drop_left]
  | t :: u :: ts, L, P, f, _, h, e => by
    obtain ⟨d0, q0⟩ := txt_ok h.1
    obtain ⟨c, R, ej, c1, c2⟩ := join_head (s := s) (ts := ts) h.2.1
    have e1 : joinL (sep s) (txts (t :: u :: ts)) = txt t ++ (sep s ++ joinL (sep s) (txts (u :: ts))) := by rw [txts, txts, joinL]
    rw [e1] at e ⊢
    rw [show G L (sep s) = G L (32 :: [sgn s, 32]) from rfl, G_qu 32 [sgn s, 32] rfl _ _ _ _ _ _ q0, d0, ej]
    show G L (sep s) (sep s ++ (c :: R)) (P.length + (txt t).length) (0 + 0) P.length f = _
    rw [show (0 : Int) + 0 = 0 from rfl, G_sep s _ _ _ ⟨c1, c2⟩]
    have e2 : (L.take (P.length + (txt t).length)).drop P.length = txt t := by
      rw [e, ← List.length_append, ← List.append_assoc, List.take_left, List.drop_left]
    have ih := G_join (s := s) (ts := u :: ts) (L := L) (P := P ++ txt t ++ sep s) (f ++ [txt t]) (by simp) h.2 (by rw [e]; simp)
    rw [ej] at ih
    rw [e2]
    have el : (P ++ txt t ++ sep s).length = P.length + (txt t).length + 3 := by simp [sep_len]; omega
    rw [el] at ih
    rw [ih, show txts (t :: u :: ts) = txt t :: txts (u :: ts) by rw [txts]]
    simp
theorem G_none {s : Bool} : ∀ {ts : List T} {L : List Nat} (i b : Nat) (f : List (List Nat)), ts ≠ [] → Goods ts → G L (sep s) (joinL (sep (!s)) (txts ts)) i 0 b f = f ++ [L.drop b]
  | [], _, _, _, _, h, _ => absurd rfl h
  | [t], L, i, b, f, _, h => by
    obtain ⟨d0, q0⟩ := txt_ok h.1
    rw [txts, txts, joinL]
    have := G_qu (L := L) 32 [sgn s, 32] rfl (txt t) [] i 0 b f q0
    rw [List.append_nil] at this
    rw [show sep s = 32 :: [sgn s, 32] from rfl, this, G]
  | t :: u :: ts, L, i, b, f, _, h => by
    obtain ⟨d0, q0⟩ := txt_ok h.1
    obtain ⟨c, R, ej, c1, c2⟩ := join_head (s := !s) (ts := ts) h.2.1
    have e1 : joinL (sep (!s)) (txts (t :: u :: ts)) = txt t ++ (sep (!s) ++ joinL (sep (!s)) (txts (u :: ts))) := by rw [txts, txts, joinL]
    rw [e1, show G L (sep s) = G L (32 :: [sgn s, 32]) from rfl, G_qu 32 [sgn s, 32] rfl _ _ _ _ _ _ q0, d0, ej]
    show G L (sep s) (sep (!s) ++ (c :: R)) (i + (txt t).length) (0 + 0) b f = _
    rw [show (0 : Int) + 0 = 0 from rfl, G_no s _ _ _ ⟨c1, c2⟩, ← ej]
    exact G_none _ _ _ (by simp) h.2
/-- what parted tells -/
def parts (L S : List Nat) : List (List Nat) := G L S L 0 0 0 []
theorem parts_join {s : Bool} {ts : List T} (h0 : ts ≠ []) (h : Goods ts) : parts (joinL (sep s) (txts ts)) (sep s) = txts ts := G_join (P := []) [] h0 h rfl
theorem parts_none {s : Bool} {ts : List T} (h0 : ts ≠ []) (h : Goods ts) : parts (joinL (sep (!s)) (txts ts)) (sep s) = [joinL (sep (!s)) (txts ts)] := G_none 0 0 [] h0 h
theorem numL_head : ∀ {n : Nat}, 1 ≤ n → ∃ c r, numL n = c :: r ∧ c ≠ 48 := by
  intro n
  induction n using Nat.strongRecOn with
  | _ n ih =>
    intro h
    by_cases hn : n < 10
    · exact ⟨48 + n, [], numL_lt hn, by omega⟩
    · obtain ⟨c, r, e, hc⟩ := ih (n / 10) (by omega) (by omega)
      exact ⟨c, r ++ [48 + n % 10], by rw [numL_step (by omega), e, List.cons_append], hc⟩
end PL
namespace W
open PySem PySem.Spec PyProof.Rows L2 DL SX PL
abbrev tS (l : List Nat) : D := .str (S l)
def signsD : List (Str × D) := [("beside", .str " + "), ("introduced", .str " * ")]
def aroundD : List (Str × D) := [("beside", .tup [.str "[", .str "]"]), ("introduced", .tup [.str "{", .str "}"])]
def turnedD : List (Str × D) := [("+", .str "*"), ("*", .str "+"), ("[", .str "{"), ("{", .str "["), ("]", .str "}"), ("}", .str "]")]
/-- what is known of the module behind the top -/
structure Fx (w : World) (K : PySem.W.Frag) (mg : Str → Option Value) : Prop where
  bn : ∀ x, x ∈ bns → mg x = none
  gONE : ∃ t, mg "ONE" = some (.str "one" t)
  gNAME : ∃ t, mg "NAME" = some (.str "name" t)
  gBESIDE : ∃ t, mg "BESIDE" = some (.str "beside" t)
  gINTRODUCED : ∃ t, mg "INTRODUCED" = some (.str "introduced" t)
  gBLANK : ∃ t, mg "BLANK" = some (.str " " t)
  gLETTERS : ∃ t, mg "LETTERS" = some (.str "abcdefghijklmnopqrstuvwxyz" t)
  gFIGURES : ∃ t, mg "FIGURES" = some (.str "0123456789" t)
  gMOST_LETTERS : ∃ t, mg "MOST_LETTERS" = some (.int 8 t)
  gPERSON : ∃ t, mg "PERSON" = some (.str "1" t)
  gLEAST_MANY : ∃ t, mg "LEAST_MANY" = some (.int 2 t)
  gMOST_MANY : ∃ t, mg "MOST_MANY" = some (.int (10 ^ 30) t)
  gMOST_NAMES : ∃ t, mg "MOST_NAMES" = some (.int 3 t)
  gMOST_DEPTH : ∃ t, mg "MOST_DEPTH" = some (.int 60 t)
  gSIGNS : ∃ a kvs, mg "SIGNS" = some (.ref a) ∧ WrD K w a kvs ∧ ∀ M Z H, RepF K M Z H kvs signsD
  gAROUND : ∃ a kvs, mg "AROUND" = some (.ref a) ∧ WrD K w a kvs ∧ ∀ M Z H, RepF K M Z H kvs aroundD
  gTURNED : ∃ a kvs, mg "TURNED" = some (.ref a) ∧ WrD K w a kvs ∧ ∀ M Z H, RepF K M Z H kvs turnedD
section
variable {P : Program} {w : World} {K : PySem.W.Frag} {mg : Str → Option Value} {base : Heap}
def cIsInt : Con := fun ds M Φ => ∃ i l h, ds = [.int i, .int l, .int h] ∧ Φ (.bl (decide (l ≤ i) && decide (i ≤ h))) M
theorem ok_is_integer (F : Fx w K mg) : BodyOk P w K mg base "is_integer" s_is_integer ["value", "low", "high"] 3 0 cIsInt := by
  intro f cdv A outer s H E hr ds M Φ hl hc
  obtain ⟨i, l, h, rfl, hc⟩ := hc
  refine wss_cons (ws_if (wt_ww (ww_or (wt_not (wt_val (we_isi (F.bn _ (by decide +kernel)) (we_var 0 rfl (we_bty (F.bn _ (by decide +kernel)) rfl ⟨_, _, true, rfl, rfl, (by intro C h; cases h), rfl, _, rfl, ?_⟩))))))))
  refine ww_or1 (wt_val (we_isi (F.bn _ (by decide +kernel)) (we_var 0 rfl (we_bty (F.bn _ (by decide +kernel)) rfl ⟨_, _, false, rfl, rfl, (by intro C h; cases h), rfl, _, rfl, ?_⟩))))
  refine wss_nil (wss_cons (ws_ret (we_and (we_or (we_isN (we_var 1 rfl ⟨_, rfl, we_one (we_leI (we_var 1 rfl (we_var 0 rfl ⟨_, _, rfl, rfl, _, rfl, ?_⟩)))⟩))))))
  refine ite_dec (fun h1 => ?_) fun h1 => ?_
  · refine we_one (we_or (we_isN (we_var 2 rfl ⟨_, rfl, we_one (we_leI (we_var 0 rfl (we_var 2 rfl ⟨_, _, rfl, rfl, Lets.of ?_⟩)))⟩)))
    rw [decide_eq_true h1] at hc; exact hc
  · rw [decide_eq_false h1] at hc; exact Lets.of hc
def isNameL (l : List Nat) : Bool := decide (1 ≤ l.length) && (decide (l.length ≤ 8) && l.all letter)
theorem letters_eq : ("abcdefghijklmnopqrstuvwxyz" : Str) = S ((List.range 26).map (97 + ·)) := by decide +kernel
theorem figures_eq : ("0123456789" : Str) = S ((List.range 10).map (48 + ·)) := by decide +kernel
theorem mem_letters (c : Nat) : decide (c ∈ ("abcdefghijklmnopqrstuvwxyz" : Str).cps.toList) = letter c := by
  rw [letters_eq]
  unfold letter
  rw [← Bool.decide_and]
  apply decide_eq_decide.mpr
  show c ∈ (List.range 26).map (97 + ·) ↔ _
  simp only [List.mem_map, List.mem_range]
  constructor
  · rintro ⟨a, h, rfl⟩; omega
  · rintro ⟨h1, h2⟩; exact ⟨c - 97, by omega, by omega⟩
def figure (c : Nat) : Bool := decide (48 ≤ c) && decide (c ≤ 57)
theorem mem_figures (c : Nat) : decide (c ∈ ("0123456789" : Str).cps.toList) = figure c := by
  rw [figures_eq]
  unfold figure
  rw [← Bool.decide_and]
  apply decide_eq_decide.mpr
  show c ∈ (List.range 10).map (48 + ·) ↔ _
  simp only [List.mem_map, List.mem_range]
  constructor
  · rintro ⟨a, h, rfl⟩; omega
  · rintro ⟨h1, h2⟩; exact ⟨c - 48, by omega, by omega⟩
theorem signs_S (l : List Nat) : DL.signs (S l) = l.map fun c => D.str ⟨#[c]⟩ := rfl
theorem signs_get {l : List Nat} {i : Nat} {x : D} (h : (DL.signs (S l))[i]? = some x) : ∃ c, l[i]? = some c ∧ x = .str ⟨#[c]⟩ := by
  rw [signs_S, List.getElem?_map] at h
  obtain ⟨c, h1, rfl⟩ := Option.map_eq_some_iff.mp h
  exact ⟨c, h1, rfl⟩
theorem take_snoc {α : Type} {l : List α} {i : Nat} {c : α} (h : l[i]? = some c) : l.take (i + 1) = l.take i ++ [c] := by
  rw [List.take_add_one, h]; rfl
def cIsName : Con := fun ds M Φ => ∃ l, ds = [tS l] ∧ l.length ≤ 1000000 ∧ Φ (.bl (isNameL l)) M
theorem ok_is_name (F : Fx w K mg) : BodyOk P w K mg base "is_name" s_is_name ["value", "letter"] 1 0 cIsName := by
  intro f cdv A outer s H E hr ds M Φ hl hc
  obtain ⟨l, rfl, hl, hc⟩ := hc
  have nd : (["value", "letter"] : List Str).Nodup := by decide +kernel
  refine wss_cons (ws_if (wt_ww (ww_or (wt_not (wt_val (we_isi (F.bn _ (by decide +kernel)) (we_var 0 rfl (we_bty (F.bn _ (by decide +kernel)) rfl ⟨_, _, true, rfl, rfl, (by intro C h; cases h), rfl, _, rfl, ?_⟩))))))))
  refine ww_or1 (wt_not (wt_chainI (we_int (we_len (F.bn _ (by decide +kernel)) (we_var 0 rfl ⟨_, lenS (by rw [S_len, sizeLine_eq]; omega), _, _, rfl, rfl, ?_⟩)))))
  have e0 : ((S l).length : Int) = (l.length : Int) := by rw [S_len]
  have ret : ∀ c, isNameL l = c → Φ (.bl c) M := fun c e => e ▸ hc
  refine ite_dec (fun h1 => we_gint F.gMOST_LETTERS ⟨_, rfl, ?_⟩) fun h1 => ?_
  · by_cases h2 : ((S l).length : Int) ≤ 8
    · rw [decide_eq_true h2]
      refine wss_nil (wss_cons (ws_ret (we_all (F.bn _ (by decide +kernel)) (we_lc nd (blkOk_by (N := ["value", "letter"]) (sc := defScope s_is_name) (own := [("letter", 1)]) (by decide +kernel)) (fun _ _ _ _ _ => pg_name (i := 1) nd rfl (Or.inl rfl)) (gt_name (by decide)) (fun _ _ _ _ _ => pts_nil) tk_nil
        (wi_str (we_var 0 rfl ⟨_, rfl, ?_⟩))))))
      refine ⟨by rw [signs_S, List.length_map, sizeLine_eq]; omega, fun i acc M' => M' = M ∧ acc = (l.take i).map fun c => .bl (letter c), ⟨rfl, rfl⟩, ?_, ?_⟩
      · rintro i x acc M' hx ⟨rfl, rfl⟩ 
        obtain ⟨c, hc1, rfl⟩ := signs_get hx
        intro s1 H1 C cl fp
        refine we_inC (we_var 1 rfl (we_gstr F.gLETTERS ⟨c, _, rfl, rfl, rfl, ?_⟩))
        rw [mem_letters, take_snoc hc1, List.map_append]; rfl
      · rintro acc M' ⟨rfl, rfl⟩
        rw [signs_S, List.length_map, List.take_length]
        refine ⟨l.map letter, by rw [List.map_map]; rfl, Lets.of (ret _ ?_)⟩
        unfold isNameL
        rw [decide_eq_true (show 1 ≤ l.length by omega), decide_eq_true (show l.length ≤ 8 by omega)]
        simp
    · rw [decide_eq_false h2]
      refine wss_cons (ws_ret (we_bl (Lets.of (ret _ ?_))))
      unfold isNameL
      rw [decide_eq_false (show ¬ l.length ≤ 8 by omega)]; simp
  · refine wss_cons (ws_ret (we_bl (Lets.of (ret _ ?_))))
    unfold isNameL
    rw [decide_eq_false (show ¬ 1 ≤ l.length by omega)]; rfl
end
end W
namespace W
open PySem PySem.Spec PyProof.Rows L2 DL SX PL
section
variable {P : Program} {w : World} {K : PySem.W.Frag} {mg : Str → Option Value} {base : Heap}
theorem num_len {n : Nat} (h : n ≤ 10 ^ 30) : (TL.numL n).length ≤ 31 := TL.numL_len (by decide) (Nat.lt_of_le_of_lt h (by decide))
theorem num_int (n : Nat) (h : n ≤ 10 ^ 30) : PySem.intText? (S (TL.numL n)) = some (n : Int) := by
  rw [← num_S]
  exact TL.int_num (by have := num_len h; omega)
def cNumberIn : Con := fun ds M Φ => ∃ n : Nat, ds = [tS (TL.numL n)] ∧ 1 ≤ n ∧ n ≤ 10 ^ 30 ∧ Φ (.int n) M
theorem ok_number_in (F : Fx w K mg) : BodyOk P w K mg base "number_in" s_number_in ["text", "figure"] 1 0 cNumberIn := by
  intro f cdv A outer s H E hr ds M Φ hl hc
  obtain ⟨n, rfl, n1, n2, hc⟩ := hc
  have nd : (["text", "figure"] : List Str).Nodup := by decide +kernel
  obtain ⟨c, r, ec, c48⟩ := numL_head n1
  have hlen := num_len n2
  have e1 : decide (S (TL.numL n) = ("" : Str)) = false := decide_eq_false fun h => by
    have := S_inj (h.trans (show ("" : Str) = S [] by decide +kernel))
    rw [ec] at this; cases this
  have e2 : decide (S (TL.numL n) = ("0" : Str)) = false := decide_eq_false fun h => by
    have := S_inj (h.trans (show ("0" : Str) = S [48] by decide +kernel))
    rw [ec] at this; injection this with h1 _; exact c48 h1
  refine wss_cons (ws_if (wt_ww (ww_or (wt_eqS (we_var 0 rfl (we_str ⟨_, rfl, ?_⟩))))))
  rw [e1]
  refine ww_or1 (wt_not (wt_val (we_all (F.bn _ (by decide +kernel)) (we_lc nd (blkOk_by (N := ["text", "figure"]) (sc := defScope s_number_in) (own := [("figure", 1)]) (by decide +kernel)) (fun _ _ _ _ _ => pg_name (i := 1) nd rfl (Or.inl rfl)) (gt_name (by decide)) (fun _ _ _ _ _ => pts_nil) tk_nil
        (wi_str (we_var 0 rfl ⟨_, rfl, ?_⟩))))))
  refine ⟨by rw [signs_S, List.length_map, sizeLine_eq]; omega, fun i acc M' => M' = M ∧ acc = ((TL.numL n).take i).map fun c => .bl (figure c), ⟨rfl, rfl⟩, ?_, ?_⟩
  · rintro i x acc M' hx ⟨rfl, rfl⟩
    obtain ⟨c, hc1, rfl⟩ := signs_get hx
    intro s1 H1 C cl fp
    refine we_inC (we_var 1 rfl (we_gstr F.gFIGURES ⟨c, _, rfl, rfl, rfl, ?_⟩))
    rw [mem_figures, take_snoc hc1, List.map_append]; rfl
  · rintro acc M' ⟨rfl, rfl⟩
    rw [signs_S, List.length_map, List.take_length]
    refine ⟨(TL.numL n).map figure, by rw [List.map_map]; rfl, _, rfl, ?_⟩
    have e3 : ((TL.numL n).map figure).all id = true := by
      rw [List.all_map]
      refine List.all_eq_true.mpr fun c hc => ?_
      have q := TL.numL_digits n c hc
      show (decide (48 ≤ c) && decide (c ≤ 57)) = true
      rw [decide_eq_true q.1, decide_eq_true q.2]; rfl
    rw [e3]
    refine wss_nil (wss_cons (ws_ret (we_if (wt_ww (ww_or (wt_eqS (we_var 0 rfl (we_str ⟨_, rfl, ?_⟩))))))))
    rw [e2]
    refine ww_or1 (wt_neS (we_ix (we_var 0 rfl (we_int ⟨0, _, rfl, .inr (.inr ⟨_, c, rfl, by rw [S_len, sizeLine_eq]; omega, by show atI (TL.numL n) 0 = some c; rw [ec]; exact atI_nat (j := 0) rfl, rfl⟩), we_str ⟨_, rfl, ?_⟩⟩))))
    have e4 : decide ((⟨#[c]⟩ : Str) = ("0" : Str)) = false := decide_eq_false fun h => by
      have := S_inj (a := [c]) (h.trans (show ("0" : Str) = S [48] by decide +kernel))
      injection this with h1 _; exact c48 h1
    rw [e4]
    exact we_intS (F.bn _ (by decide +kernel)) (we_var 0 rfl ⟨_, _, rfl, num_int n n2, by rw [S_len]; omega, Lets.of hc⟩)
theorem cut_bi (l : List Nat) (b i : Nat) (h : i ≤ l.length) : cutS (S l) (some (b : Int)) (some (i : Int)) = S ((l.take i).drop b) := by
  unfold cutS
  rw [S_len, HT.sIx_nat, HT.sIx_nat, Nat.min_eq_left h]
  show S ((l.drop (min b l.length)).take (i - min b l.length)) = _
  congr 1
  by_cases hb : b ≤ l.length
  · rw [Nat.min_eq_left hb, List.drop_take]
  · rw [Nat.min_eq_right (by omega), List.drop_length, List.drop_eq_nil_of_le (by rw [List.length_take]; omega)]; simp
theorem cut_b (l : List Nat) (b : Nat) : cutS (S l) (some (b : Int)) none = S (l.drop b) := by
  unfold cutS
  rw [S_len, HT.sIx_nat, HT.sIx_none]
  show S ((l.drop (min b l.length)).take (l.length - min b l.length)) = _
  congr 1
  by_cases hb : b ≤ l.length
  · rw [Nat.min_eq_left hb]; exact List.take_of_length_le (by rw [List.length_drop]; omega)
  · rw [Nat.min_eq_right (by omega), List.drop_length, List.drop_eq_nil_of_le (by omega)]; simp
theorem starts_at {l s : List Nat} (hs : s ≠ []) (i : Nat) (hi : i ≤ l.length) : Txt.startswith3 (S l) (S s) (i : Int) = TL.pre s (l.drop i) := by
  have e : PySem.fromIndex (S l).length (i : Int) = i := by
    rw [S_len]; unfold PySem.fromIndex; rw [if_neg (by omega)]; omega
  unfold Txt.startswith3
  rw [e]
  have q := TL.at_iff (x := S l) (y := S s) hs i
  cases hp : TL.pre s (l.drop i) with
  | true =>
    obtain ⟨h1, h2⟩ := q.mpr hp
    rw [h2, decide_eq_true h1]; rfl
  | false =>
    cases h1 : decide (i + (S s).length ≤ (S l).length) with
    | false => rfl
    | true =>
      cases h2 : Builtin.Str.subAt (S l) (S s) i with
      | false => rfl
      | true =>
        have := q.mp ⟨of_decide_eq_true h1, h2⟩
        rw [show TL.pre (TL.tl (S s)) ((TL.tl (S l)).drop i) = TL.pre s (l.drop i) from rfl, hp] at this
        cases this
theorem enumS_get {l : List Nat} {i : Nat} {x : D} (h : (enumS (S l))[i]? = some x) : ∃ c, l[i]? = some c ∧ x = .tup [.int (i : Nat), .str ⟨#[c]⟩] := by
  unfold enumS at h
  rw [List.getElem?_map] at h
  obtain ⟨j, h1, rfl⟩ := Option.map_eq_some_iff.mp h
  obtain ⟨h2, rfl⟩ := List.getElem?_eq_some_iff.mp h1
  rw [List.length_range] at h2
  rw [List.getElem_range]
  have h3 : i < l.length := by simpa using h2
  refine ⟨l[i], List.getElem?_eq_getElem h3, ?_⟩
  have : (S l).cps.getD i 0 = l[i] := by simp [Array.getD, h3]
  rw [this]
theorem enumS_len (l : List Nat) : (enumS (S l)).length = l.length := by simp [enumS]
theorem opens (c : Nat) : decide (c ∈ ("([{" : Str).cps.toList) = decide (c = 40 ∨ c = 91 ∨ c = 123) := by
  rw [show ("([{" : Str) = S [40, 91, 123] by decide +kernel]
  simp
theorem closes (c : Nat) : decide (c ∈ (")]}" : Str).cps.toList) = decide (c = 41 ∨ c = 93 ∨ c = 125) := by
  rw [show (")]}" : Str) = S [41, 93, 125] by decide +kernel]
  simp
theorem wgt_code (d : Int) (c : Nat) : d + (if decide (c ∈ ("([{" : Str).cps.toList) = true then 1 else 0) - (if decide (c ∈ (")]}" : Str).cps.toList) = true then 1 else 0) = d + wgt c := by
  rw [opens, closes]
  unfold wgt
  simp only [decide_eq_true_eq]
  omega
def cParted : Con := fun ds M Φ => ∃ l b, ds = [tS l, tS (sep b)] ∧ l.length ≤ 1000000 ∧ Φ (.lst ((parts l (sep b)).map tS)) M
theorem les_new {M : Mp} {p : Addr} {o : MO} (h : M p = none) : Les M (mset M p o) := fun b => by
  by_cases e : b = p
  · rw [e]; exact .inr h
  · rw [mset_ne e]; exact .inl rfl
theorem ok_parted (F : Fx w K mg) : BodyOk P w K mg base "parted" s_parted ["text", "sign", "found", "depth", "begin", "at", "letter"] 2 0 cParted := by
  intro f cdv A outer s H E hr ds M Φ hl hc
  obtain ⟨l, sb, rfl, hl, hc⟩ := hc
  have nd : (["text", "sign", "found", "depth", "begin", "at", "letter"] : List Str).Nodup := by decide +kernel
  refine wss_cons (ws_set 2 nd (we_lstM (wa_nil ⟨by decide, fun p hp => ?_⟩)))
  refine wss_cons (ws_set 3 nd (we_int ?_))
  refine wss_cons (ws_set 4 nd (we_int ?_))
  refine wss_cons (ws_for PassesOwn.never (wi_enumS (F.bn _ (by decide +kernel)) (we_var 0 rfl ⟨_, rfl, ?_⟩)))
  refine ⟨fun i ρ' M' => ∃ o1 o2 d b fo, ρ' = [some (tS l), some (tS (sep sb)), some (.ob p), some (.int d), some (.int (b : Nat)), o1, o2] ∧ M' = mset M p (.lst (fo.map tS)) ∧ fo.length ≤ i ∧ G l (sep sb) (l.drop i) i d b fo = parts l (sep sb), ?_, ?_, ?_⟩
  · exact ⟨none, none, 0, 0, [], rfl, rfl, Nat.le_refl _, rfl⟩
  · rintro i x ρ' M' hx ⟨o1, o2, d, b, fo, rfl, rfl, hf, hG⟩
    obtain ⟨c, hc1, rfl⟩ := enumS_get hx
    have hi : i < l.length := (List.getElem?_eq_some_iff.mp hc1).1
    refine wg_tup ⟨rfl, rfl, wgs_cons (wg_name 5 (wgs_cons (wg_name 6 (wgs_nil ⟨rfl, ?_⟩) nd)) nd)⟩
    refine wss_cons (ws_set 3 nd (we_subI (we_addI (we_var 3 rfl (we_intN (F.bn _ (by decide +kernel)) (we_inC (we_var 6 rfl (we_str ⟨c, _, rfl, rfl, .inr ⟨_, rfl, _, _, rfl, rfl, ?_⟩⟩))))))))
    refine we_intN (F.bn _ (by decide +kernel)) (we_inC (we_var 6 rfl (we_str ⟨c, _, rfl, rfl, .inr ⟨_, rfl, _, _, rfl, rfl, ?_⟩⟩)))
    rw [wgt_code]
    have ed : l.drop i = c :: l.drop (i + 1) := by
      rw [List.drop_eq_getElem_cons hi]
      rw [List.getElem?_eq_getElem hi] at hc1; cases hc1; rfl
    rw [ed, PL.G] at hG
    refine wss_cons (ws_if (wt_ww (ww_and (wt_eqS (we_var 3 rfl (we_int ⟨_, rfl, ?_⟩))))))
    by_cases h0 : d + wgt c = 0
    · rw [decide_eq_true h0]
      refine ww_and1 (wt_val (we_startsAt (we_var 0 rfl ⟨_, rfl, we_var 1 rfl (we_var 5 rfl ⟨_, _, rfl, rfl, _, rfl, ?_⟩)⟩)))
      rw [starts_at (by simp [sep]) i (by omega), ed]
      cases hp2 : TL.pre (sep sb) (c :: l.drop (i + 1)) with
      | true =>
        rw [if_pos ⟨h0, hp2⟩] at hG
        refine wss_cons (ws_expr (we_append (we_var 2 rfl ⟨p, _, rfl, mset_same, we_slice (we_var 0 rfl (we_var 4 rfl ⟨_, rfl, we_var 5 rfl ⟨_, rfl, _, .inr (.inr ⟨_, rfl, by rw [S_len, sizeLine_eq]; omega, rfl⟩), _, mset_same, by rw [List.length_map, sizeLine_eq]; omega, ?_⟩⟩))⟩)))
        rw [mset_mset, cut_bi _ _ _ (by omega)]
        refine wss_cons (ws_set 4 nd (we_addI (we_var 5 rfl (we_len (F.bn _ (by decide +kernel)) (we_var 1 rfl ⟨_, lenS (by rw [S_len, sizeLine_eq, sep_len]; omega), _, _, rfl, rfl, wss_nil (wss_nil ?_)⟩)))))
        refine ⟨some (.int (i : Nat)), some (.str ⟨#[c]⟩), d + wgt c, i + 3, fo ++ [(l.take i).drop b], ?_, ?_, by rw [List.length_append, List.length_singleton]; omega, hG⟩
        · rw [S_len, sep_len]
          rfl
        · rw [List.map_append]; rfl
      | false =>
        rw [if_neg (by rintro ⟨_, y⟩; rw [hp2] at y; cases y)] at hG
        exact wss_nil (wss_nil ⟨_, _, _, b, fo, rfl, rfl, by omega, hG⟩)
    · rw [decide_eq_false h0]
      rw [if_neg (fun y => h0 y.1)] at hG
      exact wss_nil (wss_nil ⟨_, _, _, b, fo, rfl, rfl, by omega, hG⟩)
  · rintro ρ' M' ⟨o1, o2, d, b, fo, rfl, rfl, hf, hG⟩
    rw [enumS_len] at hG hf
    rw [List.drop_length, PL.G] at hG
    refine wss_cons (ws_ret (we_lst (wa_star (we_var 2 rfl ⟨_, .inl mset_same, wa_cons (we_slice (we_var 0 rfl (we_var 4 rfl ⟨_, rfl, _, .inr (.inr ⟨_, rfl, by rw [S_len, sizeLine_eq]; omega, rfl⟩), wa_nil fun ys ey => ⟨?_, ?_⟩⟩)))⟩))))
    · rw [ey, List.length_append, List.length_map, List.length_singleton, sizeLine_eq]; omega
    · refine ⟨_, M, les_new hp, .same _, ?_⟩
      rw [ey, cut_b]
      rw [← hG, List.map_append] at hc
      exact hc
end
end W
namespace W
open PySem PySem.Spec PyProof.Rows L2 DL SX PL
section
variable {P : Program} {w : World} {K : PySem.W.Frag} {mg : Str → Option Value} {base : Heap}
theorem le30 {n : Nat} (h : n ≤ 10 ^ 30) : (n : Int) ≤ 10 ^ 30 := by
  have e : ((10 ^ 30 : Nat) : Int) = 10 ^ 30 := by decide +kernel
  omega
theorem sz1 : 1 ≤ sizeLine := by decide
theorem sz2 : 2 ≤ sizeLine := by decide
theorem sz3 : 3 ≤ sizeLine := by decide
def wrd (b : Bool) : Str := if b then "introduced" else "beside"
theorem starts1 (c d : Nat) (r : List Nat) : Txt.startswith (S (c :: r)) (S [d]) = decide (c = d) := by
  have q := TL.at_iff (x := S (c :: r)) (y := S [d]) (by simp [TL.tl]) 0
  have e : TL.pre (TL.tl (S [d])) ((TL.tl (S (c :: r))).drop 0) = decide (c = d) := by
    show TL.pre [d] (c :: r) = _
    unfold TL.pre
    simp
    rfl
  rw [e] at q
  unfold Txt.startswith
  rw [S_len, S_len]
  rw [show decide (0 + [d].length ≤ (c :: r).length) = true from decide_eq_true (by simp), Bool.true_and]
  by_cases h : c = d
  · rw [decide_eq_true h] at q ⊢
    exact (q.mpr rfl).2
  · rw [decide_eq_false h] at q ⊢
    cases hs : Builtin.Str.subAt (S (c :: r)) (S [d]) 0 with
    | false => rfl
    | true => exact absurd (q.mp ⟨by rw [S_len, S_len]; simp, hs⟩) (by decide)
theorem ends1 (c d : Nat) (r : List Nat) : Txt.endswith (S (r ++ [c])) (S [d]) = decide (c = d) := by
  have q := TL.at_iff (x := S (r ++ [c])) (y := S [d]) (by simp [TL.tl]) r.length
  have e : TL.pre (TL.tl (S [d])) ((TL.tl (S (r ++ [c]))).drop r.length) = decide (c = d) := by
    show TL.pre [d] ((r ++ [c]).drop r.length) = _
    rw [List.drop_left]
    unfold TL.pre
    simp
    rfl
  rw [e] at q
  unfold Txt.endswith
  have el : (S (r ++ [c])).length - (S [d]).length = r.length := by rw [S_len, S_len]; simp
  rw [el, S_len, S_len]
  rw [show decide (0 + [d].length ≤ (r ++ [c]).length) = true from decide_eq_true (by simp), Bool.true_and]
  by_cases h : c = d
  · rw [decide_eq_true h] at q ⊢
    exact (q.mpr rfl).2
  · rw [decide_eq_false h] at q ⊢
    cases hs : Builtin.Str.subAt (S (r ++ [c])) (S [d]) r.length with
    | false => rfl
    | true => exact absurd (q.mp ⟨by rw [S_len, S_len]; simp, hs⟩) (by decide)
theorem cut_mid (o c : Nat) (m : List Nat) : cutS (S (o :: (m ++ [c]))) (some 1) (some (-1)) = S m := by
  unfold cutS
  rw [S_len, show (some (1 : Int)) = some ((1 : Nat) : Int) from rfl, HT.sIx_nat]
  have e1 : (o :: (m ++ [c])).length = m.length + 2 := by simp
  have e2 : HT.sIx (o :: (m ++ [c])).length (o :: (m ++ [c])).length (some (-1)) = m.length + 1 := by
    rw [e1]; simp only [HT.sIx]; rw [if_pos (by decide)]; omega
  rw [e2, e1, Nat.min_eq_left (by omega)]
  show S (((m ++ [c]).drop 0).take (m.length + 1 - 1)) = _
  rw [List.drop_zero, Nat.add_sub_cancel, List.take_left]
theorem br_S (b : Bool) : (S [opn b], S [cls b]) = (if b then (("{" : Str), ("}" : Str)) else (("[" : Str), ("]" : Str))) := by
  cases b <;> decide +kernel
theorem around_get {i : Nat} {x : D} (h : (gitems aroundD)[i]? = some x) : ∃ b : Bool, x = .tup [.str (wrd b), .tup [tS [opn b], tS [cls b]]] ∧ i = if b then 1 else 0 := by
  match i, h with
  | 0, h =>
    cases h
    refine ⟨false, ?_, rfl⟩
    have := br_S false
    injection this with h1 h2
    rw [tS, tS, h1, h2]; rfl
  | 1, h =>
    cases h
    refine ⟨true, ?_, rfl⟩
    have := br_S true
    injection this with h1 h2
    rw [tS, tS, h1, h2]; rfl
  | n + 2, h => simp [gitems, aroundD] at h
theorem sep_S (b : Bool) : S (sep b) = (if b then (" * " : Str) else (" + " : Str)) := by cases b <;> decide +kernel
theorem signs_of {i : Nat} {x : D} (h : (gitems signsD)[i]? = some x) : ∃ b : Bool, x = .tup [.str (wrd b), tS (sep b)] ∧ i = if b then 1 else 0 := by
  match i, h with
  | 0, h => cases h; refine ⟨false, ?_, rfl⟩; rw [tS, sep_S]; rfl
  | 1, h => cases h; refine ⟨true, ?_, rfl⟩; rw [tS, sep_S]; rfl
  | n + 2, h => simp [gitems, signsD] at h
/-- the first sign, and no bracket of copies -/
theorem txt_no {t : T} (h : Good t) (hn : ∀ s n u, t ≠ .cop s n u) : ∃ c r, txt t = c :: r ∧ ∀ b, c ≠ opn b := by
  cases t with
  | one => exact ⟨49, [], by rw [txt], fun b => by cases b <;> decide⟩
  | name x =>
    obtain ⟨h0, h1, h2⟩ := h
    cases x with
    | nil => exact absurd rfl h0
    | cons c r =>
      have q := h2 c List.mem_cons_self
      simp [letter] at q
      exact ⟨c, r, by rw [txt], fun b => by cases b <;> simp [opn] <;> omega⟩
  | cop s n u => exact absurd rfl (hn s n u)
  | row s ts => exact ⟨40, _, by rw [txt], fun b => by cases b <;> decide⟩
def copR : T → D
  | .cop s n t => .tup [.str (wrd s), .lst [.tup [.int (n : Nat), tS (txt t)]]]
  | _ => .non
theorem opn_inj {a b : Bool} : decide (opn a = opn b) = decide (a = b) := by cases a <;> cases b <;> decide
def cCopiesIn : Con := fun ds M Φ => ∃ t, ds = [tS (txt t)] ∧ Good t ∧ (txt t).length ≤ 1000000 ∧ Φ (copR t) M
theorem ok_copies_in (F : Fx w K mg) (Fn : Fc P w K mg base "number_in" [] 1 1 cNumberIn) : BodyOk P w K mg base "copies_in" s_copies_in ["text", "word", "head", "end", "number", "blank", "rest", "many"] 1 1 cCopiesIn := by
  intro f cdv A outer s H E hr ds M Φ hl hc
  obtain ⟨t, rfl, hg, hl, hc⟩ := hc
  have nd : (["text", "word", "head", "end", "number", "blank", "rest", "many"] : List Str).Nodup := by decide +kernel
  obtain ⟨a, kvs, h1, h2, h3⟩ := F.gAROUND
  refine wss_cons (ws_for PassesOwn.never (wi_gitems h1 h2 h3 ?_))
  refine ⟨fun i ρ' M' => ∃ o1 o2 o3 o4 o5 o6 o7, ρ' = [some (tS (txt t)), o1, o2, o3, o4, o5, o6, o7] ∧ M' = M ∧ ∀ s n u, t = .cop s n u → i ≤ if s then 1 else 0, ?_, ?_, ?_⟩
  · exact ⟨none, none, none, none, none, none, none, rfl, rfl, fun s n u _ => Nat.zero_le _⟩
  · rintro i x ρ' M' hx ⟨o1, o2, o3, o4, o5, o6, o7, rfl, rfl, hi⟩
    obtain ⟨b, rfl, rfl⟩ := around_get hx
    refine wg_tup ⟨rfl, rfl, wgs_cons (wg_name 1 (wgs_cons (wg_tup ⟨rfl, rfl, wgs_cons (wg_name 2 (wgs_cons (wg_name 3 (wgs_nil ⟨rfl, wgs_nil ⟨rfl, ?_⟩⟩) nd)) nd)⟩)) nd)⟩
    refine wss_cons (ws_if (wt_ww (ww_and (wt_val (we_startswith (we_var 0 rfl ⟨_, rfl, we_var 2 rfl ⟨_, rfl, _, rfl, ?_⟩⟩))))))
    by_cases hcop : ∃ s n u, t = .cop s n u
    · obtain ⟨s, n, u, rfl⟩ := hcop
      obtain ⟨n1, n2, hu⟩ := hg
      have et : txt (.cop s n u) = opn s :: ((TL.numL n ++ 32 :: txt u) ++ [cls s]) := by rw [txt]; simp
      have hl2 : (TL.numL n).length + (txt u).length + 3 ≤ 1000000 := by rw [et] at hl; simp at hl; omega
      rw [et, starts1, opn_inj]
      by_cases hs : s = b
      · subst hs
        rw [decide_eq_true rfl]
        refine ww_and1 (wt_val (we_endswith (we_var 0 (by rfl) ⟨_, rfl, we_var 3 rfl ⟨_, rfl, _, rfl, ?_⟩⟩)))
        rw [show opn s :: ((TL.numL n ++ 32 :: txt u) ++ [cls s]) = (opn s :: (TL.numL n ++ 32 :: txt u)) ++ [cls s] from rfl, ends1, decide_eq_true rfl]
        refine wss_cons (ws_asg (we_partition (we_slice (we_var 0 rfl (we_int ⟨1, rfl, we_negI (we_int ⟨1, rfl, _, rfl, _, .inr (.inr ⟨_, rfl, ?_, rfl⟩), _, rfl, we_gstr F.gBLANK ⟨_, rfl, ?_, ?_, ?_⟩⟩)⟩)))))
        · rw [S_len, sizeLine_eq]; simp; omega
        · decide +kernel
        · refine Nat.le_trans (cutS_length _ _ _) ?_
          rw [S_len, sizeLine_eq]; simp; omega
        · rw [show (opn s :: (TL.numL n ++ 32 :: txt u)) ++ [cls s] = opn s :: ((TL.numL n ++ 32 :: txt u) ++ [cls s]) from rfl, cut_mid, show (" " : Str) = S [32] by decide +kernel]
          have hp : Txt.partition (S (TL.numL n ++ 32 :: txt u)) (S [32]) = (S (TL.numL n), S [32], S (txt u)) :=
            partition_some (by simp) (par_head (c := 32) (sep := []) (p := TL.numL n) (txt u) (TL.numL_free (by omega)))
          rw [hp]
          refine wg_tup ⟨rfl, rfl, wgs_cons (wg_name 4 (wgs_cons (wg_name 5 (wgs_cons (wg_name 6 (wgs_nil ⟨rfl, ?_⟩) nd)) nd)) nd)⟩
          refine wss_cons (ws_set 7 nd (we_call Fn (hr.mono (by decide)) (wa_cons (we_var 4 rfl (wa_nil ⟨rfl, n, rfl, by omega, n2, ?_⟩)))))
          refine wss_cons (ws_if (wt_ww (ww_and (wt_notN (we_var 7 rfl ?_)))))
          refine ww_and1 (wt_chainI (we_gint F.gLEAST_MANY (we_var 7 rfl ⟨_, _, rfl, rfl, ?_⟩)))
          rw [decide_eq_true (show (2 : Int) ≤ (n : Int) by omega)]
          refine we_gint F.gMOST_MANY ⟨_, rfl, ?_⟩
          rw [decide_eq_true (le30 n2)]
          refine wss_cons (ws_ret (we_tup (wa_cons (we_var 1 rfl (wa_cons (we_lst (wa_cons (we_tup (wa_cons (we_var 7 rfl (wa_cons (we_var 6 rfl (wa_nil ⟨sz2, wa_nil ⟨sz1, wa_nil ⟨sz2, Lets.of hc⟩⟩⟩)))))))))))))
      · rw [decide_eq_false hs]
        refine wss_nil (wss_nil ⟨_, _, _, _, _, _, _, rfl, rfl, fun s' n' u' e => ?_⟩)
        cases e
        have := hi s n u rfl
        cases s <;> cases b <;> simp_all
    · obtain ⟨c, r, et, hno⟩ := txt_no hg fun s n u e => hcop ⟨s, n, u, e⟩
      rw [et, starts1, decide_eq_false (hno b)]
      exact wss_nil (wss_nil ⟨_, _, _, _, _, _, _, by rw [← et]; rfl, rfl, fun s' n' u' e => absurd ⟨s', n', u', e⟩ hcop⟩)
  · rintro ρ' M' ⟨o1, o2, o3, o4, o5, o6, o7, rfl, rfl, hi⟩
    refine wss_cons (ws_ret (we_non (Lets.of ?_)))
    cases t with
    | cop s n u =>
      have := hi s n u rfl
      cases s <;> simp [gitems, aroundD] at this
    | one => exact hc
    | name x => exact hc
    | row s ts => exact hc
def rowR (s : Bool) (ts : List T) : D := .tup [.str (wrd s), .lst (ts.map fun t => .tup [.int 1, tS (txt t)])]
theorem txts_len (ts : List T) : (txts ts).length = ts.length := by rw [txts_map, List.length_map]
theorem joins_len (s : Bool) : ∀ (ps : List (List Nat)), ps.length ≤ (TL.joinL (sep s) ps).length + 1
  | [] => Nat.zero_le _
  | [p] => by simp
  | p :: q :: r => by
    have ih := joins_len s (q :: r)
    rw [TL.joinL, List.length_append, List.length_append, sep_len]
    simp only [List.length_cons] at ih ⊢
    omega
theorem row_txt (s : Bool) (ts : List T) : txt (.row s ts) = 40 :: (TL.joinL (sep s) (txts ts) ++ [41]) := by rw [txt]
theorem row_len (s : Bool) (ts : List T) : (txt (.row s ts)).length = (TL.joinL (sep s) (txts ts)).length + 2 := by rw [row_txt]; simp
def cRowIn : Con := fun ds M Φ => ∃ s ts, ds = [tS (txt (.row s ts))] ∧ Good (.row s ts) ∧ (txt (.row s ts)).length ≤ 1000000 ∧ Φ (rowR s ts) M
theorem ok_row_in (F : Fx w K mg) (Fp : Fc P w K mg base "parted" [] 1 2 cParted) : BodyOk P w K mg base "row_in" s_row_in ["text", "word", "sign", "parts", "part"] 1 1 cRowIn := by
  intro f cdv A outer s H E hr ds M Φ hl hc
  obtain ⟨b, ts, rfl, ⟨hg1, hg⟩, hl, hc⟩ := hc
  have nd : (["text", "word", "sign", "parts", "part"] : List Str).Nodup := by decide +kernel
  obtain ⟨a, kvs, h1, h2, h3⟩ := F.gSIGNS
  have hz := row_len b ts
  have hn : ts ≠ [] := by rintro rfl; simp at hg1
  have hj := joins_len b (txts ts)
  rw [txts_len] at hj
  refine wss_cons (ws_if (wt_ww (ww_or (wt_not (wt_val (we_startswith (we_var 0 rfl ⟨_, rfl, we_str ⟨_, rfl, _, rfl, ?_⟩⟩)))))))
  have e1 : Txt.startswith (S (txt (.row b ts))) ("(" : Str) = true := by rw [row_txt, show ("(" : Str) = S [40] by decide +kernel, starts1, decide_eq_true rfl]
  have e2 : Txt.endswith (S (txt (.row b ts))) (")" : Str) = true := by rw [row_txt, show (")" : Str) = S [41] by decide +kernel, show 40 :: (TL.joinL (sep b) (txts ts) ++ [41]) = (40 :: TL.joinL (sep b) (txts ts)) ++ [41] from rfl, ends1, decide_eq_true rfl]
  rw [e1]
  refine ww_or1 (wt_not (wt_val (we_endswith (we_var 0 rfl ⟨_, rfl, we_str ⟨_, rfl, _, rfl, ?_⟩⟩))))
  rw [e2]
  refine wss_nil (wss_cons (ws_for PassesOwn.never (wi_gitems h1 h2 h3 ?_)))
  refine ⟨fun i ρ' M' => ∃ o1 o2 o3 o4, ρ' = [some (tS (txt (.row b ts))), o1, o2, o3, o4] ∧ M' = M ∧ i ≤ if b then 1 else 0, ?_, ?_, ?_⟩
  · exact ⟨none, none, none, none, rfl, rfl, Nat.zero_le _⟩
  · rintro i x ρ' M' hx ⟨o1, o2, o3, o4, rfl, rfl, hi⟩
    obtain ⟨c, rfl, rfl⟩ := signs_of hx
    refine wg_tup ⟨rfl, rfl, wgs_cons (wg_name 1 (wgs_cons (wg_name 2 (wgs_nil ⟨rfl, ?_⟩) nd)) nd)⟩
    refine wss_cons (ws_set 3 nd (we_call Fp (hr.mono (by decide)) (wa_cons (we_slice (we_var 0 rfl (we_int ⟨1, rfl, we_negI (we_int ⟨1, rfl, _, rfl, _, .inr (.inr ⟨_, rfl, ?_, rfl⟩), wa_cons (we_var 2 rfl (wa_nil ⟨rfl, TL.joinL (sep b) (txts ts), c, ?_, ?_, ?_⟩))⟩)⟩))))))
    · rw [S_len, sizeLine_eq]; omega
    · rw [row_txt, cut_mid]; rfl
    · omega
    · by_cases hbc : b = c
      · subst hbc
        rw [parts_join hn hg]
        refine wss_cons (ws_if (wt_gtI (we_len (F.bn _ (by decide +kernel)) (we_var 3 rfl ⟨_, lenL, we_int ⟨_, _, rfl, rfl, ?_⟩⟩))))
        rw [List.length_map, txts_len, decide_eq_true (show (1 : Int) < (ts.length : Int) by omega)]
        refine wss_cons (ws_ret (we_tup (wa_cons (we_var 1 rfl (wa_cons (we_lc nd (blkOk_by (N := ["text", "word", "sign", "parts", "part"]) (sc := defScope s_row_in) (own := [("part", 4)]) (by decide +kernel)) (fun _ _ _ _ _ => pg_name (i := 4) nd rfl (Or.inl rfl)) (gt_name (by decide)) (fun _ _ _ _ _ => pts_nil) tk_nil
          (wi_list (we_var 3 rfl ⟨_, .inl rfl, ?_⟩)))))))) 
        refine ⟨by rw [List.length_map, txts_len, sizeLine_eq]; omega, fun i acc M'' => M'' = M' ∧ acc = (ts.take i).map fun t => .tup [.int 1, tS (txt t)], ⟨rfl, rfl⟩, ?_, ?_⟩
        · rintro i x acc M'' hx ⟨rfl, rfl⟩
          rw [txts_map, List.map_map, List.getElem?_map] at hx
          obtain ⟨t, ht, rfl⟩ := Option.map_eq_some_iff.mp hx
          intro s1 H1 C cl fp
          refine we_tup (wa_cons (we_int (wa_cons (we_var 4 rfl (wa_nil ⟨sz2, rfl, ?_⟩)))))
          rw [take_snoc ht, List.map_append]; rfl
        · rintro acc M'' ⟨rfl, rfl⟩
          rw [List.length_map, txts_len, List.take_length]
          exact wa_nil ⟨sz2, Lets.of hc⟩
      · have hcb : c = !b := by cases b <;> cases c <;> simp_all
        subst hcb
        have := parts_none (s := !b) hn hg
        rw [Bool.not_not] at this
        rw [this]
        refine wss_cons (ws_if (wt_gtI (we_len (F.bn _ (by decide +kernel)) (we_var 3 rfl ⟨_, lenL, we_int ⟨_, _, rfl, rfl, ?_⟩⟩))))
        rw [show decide ((1 : Int) < ((([TL.joinL (sep b) (txts ts)].map tS).length : Nat) : Int)) = false from rfl]
        refine wss_nil (wss_nil ⟨_, _, _, _, rfl, rfl, ?_⟩)
        cases b <;> simp_all
  · rintro ρ' M' ⟨o1, o2, o3, o4, rfl, rfl, hi⟩
    cases b <;> simp [gitems, signsD] at hi
end
end W
namespace PL
open PySem SX TL
/-- how often, what -/
def kids : T → List (Nat × T)
  | .cop _ n t => [(n, t)]
  | .row _ ts => ts.map fun t => (1, t)
  | _ => []
def isCop : T → Bool
  | .cop _ _ _ => true
  | _ => false
mutual
def ppl : T → Nat
  | .one => 1
  | .name _ => 1
  | .cop _ n t => n * ppl t
  | .row _ ts => ppls ts
def ppls : List T → Nat
  | [] => 0
  | t :: ts => ppl t + ppls ts
end
theorem ppls_sum : ∀ ts : List T, ppls ts = (ts.map ppl).sum
  | [] => rfl
  | t :: ts => by rw [ppls, ppls_sum ts, List.map_cons, List.sum_cons]
theorem ppl_kids {t : T} (h : kids t ≠ []) : ppl t = ((kids t).map fun q => q.1 * ppl q.2).sum := by
  cases t with
  | one => simp [kids] at h
  | name x => simp [kids] at h
  | cop s n t => simp [kids, ppl]
  | row s ts =>
    rw [ppl, ppls_sum, kids, List.map_map]
    congr 1
    apply List.map_congr_left
    intro t _
    simp
theorem ppl_none {t : T} (h : kids t = []) (hg : Good t) : ppl t = 1 := by
  cases t with
  | one => rw [ppl]
  | name x => rw [ppl]
  | cop s n t => simp [kids] at h
  | row s ts =>
    have := hg.1
    simp [kids] at h
    subst h
    simp at this
theorem join_len_mem {S : List Nat} : ∀ {ps : List (List Nat)} {p : List Nat}, p ∈ ps → p.length ≤ (joinL S ps).length
  | [q], p, h => by
    have : p = q := by simpa using h
    subst this
    rw [joinL]; exact Nat.le_refl _
  | q :: r :: ps, p, h => by
    rw [joinL, List.length_append, List.length_append]
    rcases List.mem_cons.mp h with rfl | h
    · omega
    · have := join_len_mem (S := S) h
      omega
theorem kids_ok {t : T} {q : Nat × T} (hq : q ∈ kids t) (hg : Good t) : Good q.2 ∧ ht q.2 < ht t ∧ (txt q.2).length < (txt t).length ∧ 1 ≤ q.1 ∧ q.1 ≤ 10 ^ 30 := by
  cases t with
  | one => simp [kids] at hq
  | name x => simp [kids] at hq
  | cop s n t =>
    have : q = (n, t) := by simpa [kids] using hq
    subst this
    obtain ⟨h1, h2, h3⟩ := hg
    refine ⟨h3, by rw [ht]; exact Nat.lt_succ_self _, by rw [txt]; simp; omega, by show 1 ≤ n; omega, h2⟩
  | row s ts =>
    obtain ⟨t, ht', rfl⟩ := List.mem_map.mp (show q ∈ ts.map (fun t => (1, t)) from hq)
    refine ⟨goods_all.mp hg.2 t ht', ?_, ?_, Nat.le_refl _, show 1 ≤ 10 ^ 30 by decide⟩
    · rw [ht]; have := hts_le ht'; show ht t < _; omega
    · rw [txt]
      have : (txt t).length ≤ (joinL (sep s) (txts ts)).length := join_len_mem (by rw [txts_map]; exact List.mem_map_of_mem ht')
      simp; omega
theorem kids_told {t : T} {q : Nat × T} (hq : q ∈ kids t) (hg : Told t) : Told q.2 := by
  cases t with
  | one => simp [kids] at hq
  | name x => simp [kids] at hq
  | cop s n t =>
    have : q = (n, t) := by simpa [kids] using hq
    subst this
    exact hg
  | row s ts =>
    obtain ⟨t, ht', rfl⟩ := List.mem_map.mp (show q ∈ ts.map (fun t => (1, t)) from hq)
    exact tolds_all.mp hg t ht'
theorem numL_lt16 : ∀ n : Nat, n < 16 ^ (numL n).length := by
  intro n
  induction n using Nat.strongRecOn with
  | _ n ih =>
    by_cases hn : n < 10
    · rw [numL_lt hn]; show n < 16 ^ 1; omega
    · have := ih (n / 10) (by omega)
      rw [numL_step (by omega), List.length_append, List.length_singleton, Nat.pow_succ]
      omega
theorem pow16_add {a b m n : Nat} (h1 : a < 16 ^ m) (h2 : b < 16 ^ n) : a + b < 16 ^ (m + n + 1) := by
  have e1 : 16 ^ m ≤ 16 ^ (m + n) := Nat.pow_le_pow_right (by decide) (by omega)
  have e2 : 16 ^ n ≤ 16 ^ (m + n) := Nat.pow_le_pow_right (by decide) (by omega)
  rw [Nat.pow_succ]
  omega
theorem pow16_le {a m n : Nat} (h1 : a < 16 ^ m) (h : m ≤ n) : a < 16 ^ n := Nat.lt_of_lt_of_le h1 (Nat.pow_le_pow_right (by decide) h)
mutual
theorem ppl_lt : ∀ {t : T}, Good t → ppl t < 16 ^ (txt t).length
  | .one, _ => by rw [ppl, txt]; decide
  | .name x, h => by
    rw [ppl, txt]
    have : 0 < x.length := List.length_pos_iff.mpr h.1
    exact pow16_le (m := 1) (by decide) this
  | .cop s n t, h => by
    rw [ppl, txt]
    have h1 := numL_lt16 n
    have h2 := ppl_lt h.2.2
    have h3 : n * ppl t < 16 ^ ((numL n).length + (txt t).length) := by
      rw [Nat.pow_add]
      exact Nat.mul_lt_mul'' h1 h2
    exact pow16_le h3 (by simp; omega)
  | .row s ts, h => by
    rw [ppl, txt]
    exact pow16_le (ppls_lt (s := s) h.2) (by simp; omega)
theorem ppls_lt {s : Bool} : ∀ {ts : List T}, Goods ts → ppls ts < 16 ^ (joinL (sep s) (txts ts)).length
  | [], _ => by rw [ppls]; exact Nat.pow_pos (by decide)
  | [t], h => by rw [ppls, ppls, txts, txts, joinL]; exact ppl_lt h.1
  | t :: u :: ts, h => by
    have h1 := ppl_lt h.1
    have h2 := ppls_lt (s := s) (ts := u :: ts) h.2
    rw [ppls, show txts (t :: u :: ts) = txt t :: txt u :: txts ts by rw [txts, txts], joinL]
    rw [show txts (u :: ts) = txt u :: txts ts by rw [txts]] at h2
    refine pow16_le (pow16_add h1 h2) ?_
    rw [List.length_append, List.length_append, sep_len]; omega
end
mutual
theorem txt_lt : ∀ {t : T}, Good t → ∀ c ∈ txt t, c < 128
  | .one, _, c, hc => by rw [txt] at hc; simp at hc; omega
  | .name x, h, c, hc => by
    rw [txt] at hc
    have q := h.2.2 c hc
    simp [letter] at q; omega
  | .cop s n t, h, c, hc => by
    rw [txt] at hc
    simp at hc
    rcases hc with rfl | hc | rfl | hc | rfl
    · cases s <;> decide
    · have := numL_digits n c hc; omega
    · decide
    · exact txt_lt h.2.2 c hc
    · cases s <;> decide
  | .row s ts, h, c, hc => by
    rw [txt] at hc
    simp at hc
    rcases hc with rfl | hc | rfl
    · decide
    · exact txts_lt (s := s) h.2 c hc
    · decide
theorem txts_lt {s : Bool} : ∀ {ts : List T}, Goods ts → ∀ c ∈ joinL (sep s) (txts ts), c < 128
  | [], _, c, hc => by rw [txts, joinL] at hc; simp at hc
  | [t], h, c, hc => by rw [txts, txts, joinL] at hc; exact txt_lt h.1 c hc
  | t :: u :: ts, h, c, hc => by
    rw [show txts (t :: u :: ts) = txt t :: txt u :: txts ts by rw [txts, txts], joinL] at hc
    rcases List.mem_append.mp hc with hc | hc
    · exact txt_lt h.1 c hc
    · rcases List.mem_append.mp hc with hc | hc
      · cases s <;> (simp [sep, sgn] at hc; omega)
      · exact txts_lt (s := s) (ts := u :: ts) h.2 c (by rw [show txts (u :: ts) = txt u :: txts ts by rw [txts]]; exact hc)
end
theorem log16 {a m : Nat} (h : a < 16 ^ m) : a.log2 ≤ 4 * m := by
  by_cases h0 : a = 0
  · subst h0; simp
  · have e : a < 2 ^ (4 * m) := by rw [Nat.pow_mul]; exact h
    exact Nat.le_of_lt ((Nat.log2_lt h0).mpr e)
end PL
namespace W
open PySem PySem.Spec PyProof.Rows L2 DL SX PL
section
variable {P : Program} {w : World} {K : PySem.W.Frag} {mg : Str → Option Value} {base : Heap}
def wordT : T → Str
  | .one => "one"
  | .name _ => "name"
  | .cop s _ _ => wrd s
  | .row s _ => wrd s
def grpD (t : T) : List D := (kids t).map fun q => .tup [.int (q.1 : Nat), tS (txt q.2)]
def isOne : T → Bool
  | .one => true
  | _ => false
def isNm : T → Bool
  | .name _ => true
  | _ => false
theorem first_no {t : T} (h : Good t) (h1 : isNm t = false) : ∃ c r, txt t = c :: r ∧ letter c = false := by
  cases t with
  | one => exact ⟨49, [], by rw [txt], by decide⟩
  | name x => cases h1
  | cop s n u => exact ⟨opn s, _, by rw [txt], by cases s <;> decide⟩
  | row s ts => exact ⟨40, _, by rw [txt], by decide⟩
theorem isName_txt {t : T} (h : Good t) : isNameL (txt t) = isNm t := by
  cases hn : isNm t with
  | true =>
    cases t with
    | name x =>
      obtain ⟨h0, h1, h2⟩ := h
      rw [txt]
      unfold isNameL
      rw [decide_eq_true (show 1 ≤ x.length from List.length_pos_iff.mpr h0), decide_eq_true h1, List.all_eq_true.mpr h2]; rfl
    | _ => cases hn
  | false =>
    obtain ⟨c, r, e, hc⟩ := first_no h hn
    rw [e]
    unfold isNameL
    rw [List.all_cons, hc]; simp
theorem isOne_txt {t : T} (h : Good t) : decide (S (txt t) = ("1" : Str)) = isOne t := by
  rw [show ("1" : Str) = S [49] by decide +kernel]
  have e : decide (S (txt t) = S [49]) = decide (txt t = [49]) := decide_eq_decide.mpr ⟨S_inj, fun h => by rw [h]⟩
  rw [e]
  cases t with
  | one => rw [txt]; rfl
  | name x =>
    obtain ⟨h0, h1, h2⟩ := h
    rw [txt]
    refine decide_eq_false fun q => ?_
    subst q
    exact absurd (h2 49 (by simp)) (by decide)
  | cop s n u => rw [txt]; refine decide_eq_false fun q => ?_; injection q with q1 _; cases s <;> cases q1
  | row s ts => rw [txt]; refine decide_eq_false fun q => ?_; injection q with q1 _; cases q1
def cGroupsIn : Con := fun ds M Φ => ∃ t, ds = [tS (txt t)] ∧ Good t ∧ (txt t).length ≤ 1000000 ∧ Φ (.tup [.str (wordT t), .lst (grpD t)]) M
theorem ok_groups_in (F : Fx w K mg) (F1 : Fc P w K mg base "is_name" [] 1 1 cIsName) (F2 : Fc P w K mg base "copies_in" [] 2 1 cCopiesIn) (F3 : Fc P w K mg base "row_in" [] 2 1 cRowIn) :
    BodyOk P w K mg base "groups_in" s_groups_in ["text", "found"] 1 2 cGroupsIn := by
  intro f cdv A outer s H E hr ds M Φ hl hc
  obtain ⟨t, rfl, hg, hl, hc⟩ := hc
  have nd : (["text", "found"] : List Str).Nodup := by decide +kernel
  refine wss_cons (ws_if (wt_eqS (we_var 0 rfl (we_gstr F.gPERSON ⟨_, rfl, ?_⟩))))
  rw [isOne_txt hg]
  cases h1 : isOne t with
  | true =>
    cases t with
    | one => exact wss_cons (ws_ret (we_tup (wa_cons (we_gstr F.gONE (wa_cons (we_lst (wa_nil ⟨Nat.zero_le _, wa_nil ⟨sz2, Lets.of hc⟩⟩)))))))
    | _ => cases h1
  | false =>
    refine wss_nil (wss_cons (ws_if (wt_val (we_call F1 (hr.mono (by decide)) (wa_cons (we_var 0 rfl (wa_nil ⟨rfl, _, rfl, hl, _, rfl, ?_⟩)))))))
    rw [isName_txt hg]
    cases h2 : isNm t with
    | true =>
      cases t with
      | name x => exact wss_cons (ws_ret (we_tup (wa_cons (we_gstr F.gNAME (wa_cons (we_lst (wa_nil ⟨Nat.zero_le _, wa_nil ⟨sz2, Lets.of hc⟩⟩)))))))
      | _ => cases h2
    | false =>
      refine wss_nil (wss_cons (ws_set 1 nd (we_call F2 (hr.mono (by decide)) (wa_cons (we_var 0 rfl (wa_nil ⟨rfl, _, rfl, hg, hl, ?_⟩))))))
      refine wss_cons (ws_ret (we_if (wt_isN (we_var 1 rfl ?_))))
      cases t with
      | one => cases h1
      | name x => cases h2
      | cop b n u => exact we_var 1 rfl (Lets.of hc)
      | row b ts =>
        refine we_call F3 (hr.mono (by decide)) (wa_cons (we_var 0 rfl (wa_nil ⟨rfl, _, _, rfl, hg, hl, Lets.of ?_⟩)))
        unfold grpD kids at hc
        rw [List.map_map] at hc
        exact hc
def cPlanText (h : Nat) : Con := fun ds M Φ => ∃ t d, ds = [tS (txt t), .int (d : Nat)] ∧ Good t ∧ (txt t).length ≤ 1000000 ∧ ht t ≤ h ∧ d + ht t ≤ 60 ∧ Φ (.bl true) M
theorem kids_len {t : T} (hg : Good t) : (kids t).length ≤ (txt t).length := by
  cases t with
  | one => simp [kids]
  | name x => simp [kids]
  | cop s n u => rw [txt]; simp [kids]
  | row s ts =>
    have := joins_len s (txts ts)
    rw [txts_len] at this
    rw [row_len]; simp [kids]; omega
theorem ok_is_plan_text (h : Nat) (F : Fx w K mg) (F1 : Fc P w K mg base "groups_in" [] 3 1 cGroupsIn) (F2 : ∀ j, h = j + 1 → Fc P w K mg base "is_plan_text" [] (j + 4) 2 (cPlanText j)) :
    BodyOk P w K mg base "is_plan_text" s_is_plan_text ["text", "depth", "found", "many", "part"] 2 (h + 3) (cPlanText h) := by
  intro f cdv A outer s H E hr ds M Φ hl hc
  obtain ⟨t, d, rfl, hg, hl, hh, hd, hc⟩ := hc
  have nd : (["text", "depth", "found", "many", "part"] : List Str).Nodup := by decide +kernel
  have hk := kids_len hg
  refine wss_cons (ws_set 2 nd (we_if (wt_leI (we_var 1 rfl (we_gint F.gMOST_DEPTH ⟨_, _, rfl, rfl, ?_⟩)))))
  rw [decide_eq_true (show (d : Int) ≤ 60 by omega)]
  refine we_call F1 (hr.mono (by omega)) (wa_cons (we_var 0 rfl (wa_nil ⟨rfl, _, rfl, hg, hl, ?_⟩)))
  refine wss_cons (ws_ret (we_and (we_notN (we_var 2 rfl ⟨_, rfl, ?_⟩))))
  refine we_one (we_all (F.bn _ (by decide +kernel)) (we_lc nd (blkOk_by (N := ["text", "depth", "found", "many", "part"]) (sc := defScope s_is_plan_text) (own := [("many", 3), ("part", 4)]) (by decide +kernel)) (fun _ _ _ _ _ => pg_tup rfl (pgs_cons (pg_name (i := 3) nd rfl (Or.inl rfl)) (pgs_cons (pg_name (i := 4) nd rfl (Or.inl rfl)) pgs_nil)) rfl rfl) (gt_two (by decide) (by decide)) (fun _ _ _ _ _ => pts_nil) tk_nil
    (wi_list (we_ix (we_var 2 rfl (we_int ⟨1, _, rfl, ixT (atI_nat (j := 1) rfl), _, .inl rfl, ?_⟩))))))
  refine ⟨by rw [grpD, List.length_map, sizeLine_eq]; omega, fun i acc M' => M' = M ∧ acc = (List.replicate i true).map D.bl, ⟨rfl, rfl⟩, ?_, ?_⟩
  · rintro i x acc M' hx ⟨rfl, rfl⟩
    rw [grpD, List.getElem?_map] at hx
    obtain ⟨q, hq, rfl⟩ := Option.map_eq_some_iff.mp hx
    obtain ⟨g1, g2, g3, g4, g5⟩ := kids_ok (List.mem_of_getElem? hq) hg
    refine ⟨_, _, rfl, ?_⟩
    intro s1 H1 C cl fp
    obtain ⟨j, rfl⟩ : ∃ j, h = j + 1 := ⟨h - 1, by omega⟩
    refine we_call (F2 j rfl) (hr.mono (by omega)) (wa_cons (we_var 4 rfl (wa_cons (we_addI (we_var 1 rfl (we_int ⟨_, _, rfl, rfl, wa_nil ⟨rfl, q.2, d + 1, rfl, g1, by omega, by omega, by omega, rfl, ?_⟩⟩))))))
    rw [List.replicate_succ', List.map_append]; rfl
  · rintro acc M' ⟨rfl, rfl⟩
    exact ⟨_, rfl, by rw [List.all_replicate]; simp; exact Lets.of hc⟩
theorem wordT_told {t : T} (h : Told t) : decide (wordT t = ("name" : Str)) = false := by
  cases t with
  | one => decide +kernel
  | name x => exact h.elim
  | cop s n u =>
    show decide (wrd s = ("name" : Str)) = false
    cases s <;> decide +kernel
  | row s ts =>
    show decide (wrd s = ("name" : Str)) = false
    cases s <;> decide +kernel
end
end W
namespace W
open PySem PySem.Spec PyProof.Rows L2 DL SX PL
def six (a b c d e f : D) : List (Str × D) := [("own_text", a), ("own_names", b), ("own_word", c), ("own_groups", d), ("own_copies", e), ("own_people", f)]
theorem putD_ne {g f : Str} {d y : D} {r : List (Str × D)} (h : g ≠ f) : putD f d ((g, y) :: r) = (g, y) :: putD f d r := by
  rw [putD, if_neg h]
def f1 (a : D) : List (Str × D) := [("own_text", a)]
def f2 (a b : D) : List (Str × D) := [("own_text", a), ("own_names", b)]
def f3 (a b c : D) : List (Str × D) := [("own_text", a), ("own_names", b), ("own_word", c)]
def f4 (a b c d : D) : List (Str × D) := [("own_text", a), ("own_names", b), ("own_word", c), ("own_groups", d)]
def f5 (a b c d e : D) : List (Str × D) := [("own_text", a), ("own_names", b), ("own_word", c), ("own_groups", d), ("own_copies", e)]
section
variable {a b c d e f x : D}
theorem put1 : putD "own_text" x [] = f1 x := rfl
theorem put2 : putD "own_names" x (f1 a) = f2 a x := by unfold f1; rw [putD_ne] <;> first | rfl | decide +kernel
theorem put3 : putD "own_word" x (f2 a b) = f3 a b x := by unfold f2; rw [putD_ne, putD_ne] <;> first | rfl | decide +kernel
theorem put4 : putD "own_groups" x (f3 a b c) = f4 a b c x := by unfold f3; rw [putD_ne, putD_ne, putD_ne] <;> first | rfl | decide +kernel
theorem put5 : putD "own_copies" x (f4 a b c d) = f5 a b c d x := by unfold f4; rw [putD_ne, putD_ne, putD_ne, putD_ne] <;> first | rfl | decide +kernel
theorem put6 : putD "own_people" x (f5 a b c d e) = six a b c d e x := by unfold f5; rw [putD_ne, putD_ne, putD_ne, putD_ne, putD_ne] <;> first | rfl | decide +kernel
theorem sl1 : (f1 a).length < 1000 := by show 1 < 1000; decide
theorem sl2 : (f2 a b).length < 1000 := by show 2 < 1000; decide
theorem sl3 : (f3 a b c).length < 1000 := by show 3 < 1000; decide
theorem sl4 : (f4 a b c d).length < 1000 := by show 4 < 1000; decide
theorem sl5 : (f5 a b c d e).length < 1000 := by show 5 < 1000; decide
theorem lk_hit {g : Str} {y : D} {r : List (Str × D)} : ((g, y) :: r).lookup g = some y := by rw [List.lookup_cons]; simp
theorem lk_miss {g h : Str} {y : D} {r : List (Str × D)} (hn : (g == h) = false) : ((h, y) :: r).lookup g = r.lookup g := by rw [List.lookup_cons, hn]
theorem lk_text : List.lookup ("own_text" : Str) (six a b c d e f) = some a := lk_hit
theorem lk_names : List.lookup ("own_names" : Str) (six a b c d e f) = some b := by unfold six; rw [lk_miss, lk_hit]; decide +kernel
theorem lk_word : List.lookup ("own_word" : Str) (six a b c d e f) = some c := by unfold six; rw [lk_miss, lk_miss, lk_hit] <;> decide +kernel
theorem lk_groups : List.lookup ("own_groups" : Str) (six a b c d e f) = some d := by unfold six; rw [lk_miss, lk_miss, lk_miss, lk_hit] <;> decide +kernel
theorem lk_people : List.lookup ("own_people" : Str) (six a b c d e f) = some f := by unfold six; rw [lk_miss, lk_miss, lk_miss, lk_miss, lk_miss, lk_hit] <;> decide +kernel
theorem lk5_groups : List.lookup ("own_groups" : Str) (f5 a b c d e) = some d := by unfold f5; rw [lk_miss, lk_miss, lk_miss, lk_hit] <;> decide +kernel
end
mutual
/-- the plan as an instance of the class at C -/
def planD (C : Addr) : T → D
  | .one => .ins C (six (tS (txt .one)) (.tup []) (.str (wordT .one)) (.lst []) (.bl false) (.int (ppl .one : Nat)))
  | .name x => .ins C (six (tS (txt (.name x))) (.tup [tS x]) (.str (wordT (.name x))) (.lst []) (.bl false) (.int (ppl (.name x) : Nat)))
  | .cop s n t => .ins C (six (tS (txt (.cop s n t))) (.tup []) (.str (wordT (.cop s n t))) (.lst [.tup [.int (n : Nat), planD C t]]) (.bl true) (.int (ppl (.cop s n t) : Nat)))
  | .row s ts => .ins C (six (tS (txt (.row s ts))) (.tup []) (.str (wordT (.row s ts))) (.lst (plansD C ts)) (.bl false) (.int (ppl (.row s ts) : Nat)))
def plansD (C : Addr) : List T → List D
  | [] => []
  | t :: ts => .tup [.int ((1 : Nat) : Int), planD C t] :: plansD C ts
end
theorem plansD_map (C : Addr) : ∀ ts : List T, plansD C ts = ts.map fun t => .tup [.int ((1 : Nat) : Int), planD C t]
  | [] => by rw [plansD]; rfl
  | t :: ts => by rw [plansD, plansD_map C ts, List.map_cons]
def subsD (C : Addr) (t : T) : List D := (kids t).map fun q => .tup [.int (q.1 : Nat), planD C q.2]
def fldsD (C : Addr) (t : T) : List (Str × D) := six (tS (txt t)) (.tup []) (.str (wordT t)) (.lst (subsD C t)) (.bl (isCop t)) (.int (ppl t : Nat))
theorem planD_told {C : Addr} {t : T} (h : Told t) : planD C t = .ins C (fldsD C t) := by
  cases t with
  | one => rw [planD]; rfl
  | name x => exact h.elim
  | cop s n t => rw [planD]; rfl
  | row s ts =>
    rw [planD, plansD_map]
    unfold fldsD subsD kids
    rw [List.map_map]; rfl
/-- what is known of the class -/
structure Px (K : PySem.W.Frag) (mg : Str → Option Value) (C : Addr) : Prop where
  at_ : mg "Plan" = some (.ref C)
  cl : Cls K C
  na : ∀ f, f ∈ fNames → NoAttr K C f
  init : ∃ f, Mk K C f ∧ Md K C "__init__" "Plan.__init__" s_Plan___init__ f
  text : ∃ p f, PropOf K C "text" p f ∧ Md K C "text" "Plan.text" s_Plan_text f
  names : ∃ p f, PropOf K C "names" p f ∧ Md K C "names" "Plan.names" s_Plan_names f
  word : ∃ p f, PropOf K C "word" p f ∧ Md K C "word" "Plan.word" s_Plan_word f
  many : ∃ p f, PropOf K C "many" p f ∧ Md K C "many" "Plan.many" s_Plan_many f
  invert : ∃ f, Meth K C "__invert__" f ∧ Md K C "__invert__" "Plan.__invert__" s_Plan___invert__ f
section
variable {P : Program} {w : World} {K : PySem.W.Frag} {mg : Str → Option Value} {base : Heap} {C : Addr}
theorem cop_in {t : T} (h : Good t) : ∃ c r, txt t = c :: r ∧ decide (S [c] ∈ (["[", "{"] : List Str)) = isCop t := by
  have e1 : (["[", "{"] : List Str) = [S [91], S [123]] := by decide +kernel
  rw [e1]
  have key : ∀ c : Nat, decide (S [c] ∈ [S [91], S [123]]) = (decide (c = 91) || decide (c = 123)) := fun c => by
    rw [← Bool.decide_or]
    refine decide_eq_decide.mpr ?_
    simp only [List.mem_cons, List.not_mem_nil, or_false]
    constructor
    · rintro (h | h)
      · left; injection S_inj h
      · right; injection S_inj h
    · rintro (rfl | rfl)
      · exact .inl rfl
      · exact .inr rfl
  cases t with
  | one => exact ⟨49, [], by rw [txt], by rw [key]; rfl⟩
  | name x =>
    obtain ⟨h0, h1, h2⟩ := h
    cases x with
    | nil => exact absurd rfl h0
    | cons c r =>
      have q := h2 c List.mem_cons_self
      simp [letter] at q
      exact ⟨c, r, by rw [txt], by rw [key, decide_eq_false (by omega), decide_eq_false (by omega)]; rfl⟩
  | cop s n u => exact ⟨opn s, _, by rw [txt], by rw [key]; cases s <;> rfl⟩
  | row s ts => exact ⟨40, _, by rw [txt], by rw [key]; rfl⟩
theorem cut_1 (c : Nat) (r : List Nat) : cutS (S (c :: r)) none (some 1) = S [c] := by
  unfold cutS
  rw [S_len, show (some (1 : Int)) = some ((1 : Nat) : Int) from rfl, HT.sIx_nat, HT.sIx_none, Nat.min_eq_left (by simp)]
  rfl
theorem grp_cmp {t : T} (h : Good t) : ∃ ps, CmpDs (grpD t) ps 1 :=
  ⟨_, cmps_map (j := 1) (Nat.le_refl _) (g := fun q => .tuple [.int (q.1 : Nat), .str (S (txt q.2))]) fun q hq => cmp_tup (cmps_cons (cmp_int _) (Nat.le_refl _) (cmps_cons (cmp_str fun c hc => by
    have := txt_lt (kids_ok hq h).1 c hc; omega) (Nat.le_refl _) cmps_nil))⟩
end
end W
namespace W
open PySem PySem.Spec PyProof.Rows L2 DL He HK
theorem mem_bn {x : Str} (h : x ∈ bns) : Fa.free x ∈ spec.fa := List.mem_append_left _ (List.mem_map_of_mem h)
theorem mem_glo {x : Str} (h : x ∈ globsA) : Fa.glo x ∈ spec.fa := List.mem_append_right _ (List.mem_append_left _ (List.mem_map_of_mem h))
theorem mem_na {x : Str} (h : x ∈ fNames) : Fa.noat "Plan" x ∈ spec.fa := List.mem_append_right _ (List.mem_append_right _ (List.mem_append_left _ (List.mem_map_of_mem h)))
theorem mem_co (i : Nat) {f : Fa} (h : consts[i]? = some f) : f ∈ spec.fa := List.mem_append_right _ (List.mem_append_right _ (List.mem_append_right _ (List.mem_of_getElem? h)))
theorem ob_eq (s : PySem.W.SharedT) : ob s = hk.obs s.abs := obsG_eq (HandSHeadRun.getT_eq s)
end W
namespace PL
open PySem SX TL
/-- canonical figures -/
theorem canon : ∀ (k : Nat) {l : List Nat}, l.length ≤ k → l ≠ [] → (∀ c ∈ l, 48 ≤ c ∧ c ≤ 57) → (l = [48] ∨ l.head? ≠ some 48) → ∃ n, l = numL n
  | 0, l, hk, h0, _, _ => absurd (List.length_eq_zero_iff.mp (by omega)) h0
  | k + 1, l, hk, h0, hd, hc => by
    obtain ⟨p, c, rfl⟩ : ∃ p c, l = p ++ [c] := ⟨_, _, (List.dropLast_concat_getLast h0).symm⟩
    have c1 := hd c (List.mem_append_right _ List.mem_cons_self)
    by_cases hp : p = []
    · subst hp
      refine ⟨c - 48, ?_⟩
      rw [numL_lt (by omega), List.nil_append, show 48 + (c - 48) = c by omega]
    · have hh : (p ++ [c]).head? = p.head? := by
        cases p with
        | nil => exact absurd rfl hp
        | cons a r => rfl
      have hne : p.head? ≠ some 48 := by
        rcases hc with e | e
        · have h1 := congrArg List.length e
          have h2 := List.length_pos_iff.mpr hp
          rw [List.length_append, List.length_singleton, List.length_singleton] at h1
          omega
        · rw [hh] at e; exact e
      obtain ⟨m, hm⟩ := canon k (l := p) (by rw [List.length_append, List.length_singleton] at hk; omega) hp (fun x hx => hd x (List.mem_append_left _ hx)) (.inr hne)
      have m1 : 1 ≤ m := by
        refine Nat.pos_of_ne_zero fun e => ?_
        subst e
        rw [hm, numL_lt (by decide)] at hne
        exact hne rfl
      refine ⟨10 * m + (c - 48), ?_⟩
      rw [numL_step (by omega), show (10 * m + (c - 48)) / 10 = m by omega, show (10 * m + (c - 48)) % 10 = c - 48 by omega, show 48 + (c - 48) = c by omega, ← hm]
theorem join_snoc (S : List Nat) (x y : List Nat) : ∀ f : List (List Nat), joinL S (f ++ [x ++ (S ++ y)]) = joinL S (f ++ [x] ++ [y])
  | [] => by simp [joinL]
  | [a] => by simp [joinL]
  | a :: b :: f => by
    have ih := join_snoc S x y (b :: f)
    show joinL S (a :: b :: (f ++ [x ++ (S ++ y)])) = joinL S (a :: b :: (f ++ [x] ++ [y]))
    rw [joinL, joinL]
    have e1 : joinL S (b :: (f ++ [x ++ (S ++ y)])) = joinL S (b :: f ++ [x ++ (S ++ y)]) := rfl
    have e2 : joinL S (b :: (f ++ [x] ++ [y])) = joinL S (b :: f ++ [x] ++ [y]) := rfl
    rw [e1, e2, ih]
theorem pre_eq {S : List Nat} : ∀ {l : List Nat}, pre S l = true → ∃ r, l = S ++ r := by
  intro l h
  refine ⟨l.drop S.length, ?_⟩
  have : l.take S.length = S := by unfold pre at h; exact eq_of_beq h
  conv => lhs; rw [← List.take_append_drop S.length l, this]
theorem G_back {L S : List Nat} (hS : S.length = 3) : ∀ (R : List Nat) (i : Nat) (d : Int) (b : Nat) (f : List (List Nat)), R = L.drop i → ([] ∈ f ∨ joinL S (f ++ [L.drop b]) = L) → [] ∈ G L S R i d b f ∨ joinL S (G L S R i d b f) = L
  | [], i, d, b, f, hR, h => by
    rw [G]
    rcases h with h | h
    · exact .inl (List.mem_append_left _ h)
    · exact .inr h
  | c :: R, i, d, b, f, hR, h => by
    have hR2 : R = L.drop (i + 1) := by
      have := congrArg (List.drop 1) hR
      rw [List.drop_drop] at this
      simpa using this
    rw [G]
    split
    · rename_i hp
      obtain ⟨r, hr⟩ := pre_eq hp.2
      refine G_back hS R (i + 1) _ _ _ hR2 ?_
      by_cases hb : b < i
      · rcases h with h | h
        · exact .inl (List.mem_append_left _ h)
        · right
          have e1 : L.drop b = (L.take i).drop b ++ (S ++ L.drop (i + S.length)) := by
            have a1 : L.drop b = (L.take i).drop b ++ L.drop i := by
              conv => lhs; rw [← List.take_append_drop i L]
              have hlen : b ≤ (L.take i).length := by
                rw [List.length_take]
                have : i < L.length := by
                  refine Nat.lt_of_not_le fun hge => ?_
                  rw [List.drop_eq_nil_of_le hge] at hR; cases hR
                omega
              rw [List.drop_append_of_le_length hlen]
            rw [a1]
            congr 1
            rw [← hR, hr]
            congr 1
            have := congrArg (List.drop S.length) (hR.symm.trans hr)
            rw [List.drop_drop, List.drop_left] at this
            exact this.symm
          rw [e1, join_snoc] at h
          exact h
      · by_cases hb2 : b = i
        · left
          refine List.mem_append_right _ (List.mem_singleton.mpr ?_)
          rw [hb2, List.drop_eq_nil_of_le (by rw [List.length_take]; exact Nat.min_le_left _ _)]
        · left
          refine List.mem_append_right _ (List.mem_singleton.mpr ?_)
          rw [List.drop_eq_nil_of_le (by rw [List.length_take]; have := Nat.min_le_left i L.length; omega)]
    · exact G_back hS R (i + 1) _ b f hR2 h
theorem parts_back (l : List Nat) (s : Bool) : [] ∈ parts l (sep s) ∨ joinL (sep s) (parts l (sep s)) = l := G_back (by cases s <;> rfl) l 0 0 0 [] rfl (.inr rfl)
/-- the text of a plan -/
def Tx (l : List Nat) : Prop := ∃ t, Good t ∧ txt t = l
theorem tx_ne {l : List Nat} (h : Tx l) : l ≠ [] := by
  obtain ⟨t, g, rfl⟩ := h
  cases t with
  | one => rw [txt]; exact List.cons_ne_nil _ _
  | name x => rw [txt]; exact g.1
  | cop s n u => rw [txt]; exact List.cons_ne_nil _ _
  | row s ts => rw [txt]; exact List.cons_ne_nil _ _
theorem tx_cop {b : Bool} {n : Nat} {r : List Nat} (h2 : 2 ≤ n) (h30 : n ≤ 10 ^ 30) (h : Tx r) : Tx (opn b :: ((numL n ++ 32 :: r) ++ [cls b])) := by
  obtain ⟨t, g, rfl⟩ := h
  exact ⟨.cop b n t, ⟨h2, h30, g⟩, by rw [txt]; simp⟩
theorem tx_row {b : Bool} {m : List Nat} (h2 : 2 ≤ (parts m (sep b)).length) (h : ∀ p ∈ parts m (sep b), Tx p) : Tx (40 :: (m ++ [41])) := by
  have back := (parts_back m b).resolve_left fun hm => tx_ne (h [] hm) rfl
  have key : ∀ ps : List (List Nat), (∀ p ∈ ps, Tx p) → ∃ ts : List T, Goods ts ∧ txts ts = ps := by
    intro ps
    induction ps with
    | nil => intro _; exact ⟨[], trivial, by rw [txts]⟩
    | cons p ps ih =>
      intro h
      obtain ⟨t, g, e⟩ := h p List.mem_cons_self
      obtain ⟨ts, gs, es⟩ := ih fun q hq => h q (List.mem_cons_of_mem _ hq)
      exact ⟨t :: ts, ⟨g, gs⟩, by rw [txts, e, es]⟩
  obtain ⟨ts, gs, es⟩ := key _ h
  refine ⟨.row b ts, ⟨?_, gs⟩, ?_⟩
  · have := congrArg List.length es
    rw [txts_map, List.length_map] at this
    omega
  · rw [txt, es, back]
end PL
namespace W
open PySem PySem.Spec PyProof.Rows L2 DL SX PL
theorem S_eqi {x y : List Nat} : (S x = S y) ↔ x = y := ⟨S_inj, fun h => by rw [h]⟩
theorem num_int_g (n : Nat) (h : (TL.numL n).length ≤ 600) : PySem.intText? (S (TL.numL n)) = some (n : Int) := by
  rw [← num_S]
  exact TL.int_num (by omega)
theorem dig_of (n : Nat) : ∀ c ∈ TL.numL n, figure c = true := fun c hc => by
  have q := TL.numL_digits n c hc
  show (decide (48 ≤ c) && decide (c ≤ 57)) = true
  rw [decide_eq_true q.1, decide_eq_true q.2]; rfl
theorem num_head0 {n : Nat} {r : List Nat} (h : TL.numL n = 48 :: r) : r = [] := by
  by_cases h0 : n = 0
  · subst h0
    rw [TL.numL_lt (by decide)] at h
    injection h with _ h; exact h.symm
  · obtain ⟨c, r2, e, h48⟩ := numL_head (n := n) (by omega)
    rw [e] at h
    injection h with h _; exact absurd h h48
section
variable {P : Program} {w : World} {K : PySem.W.Frag} {mg : Str → Option Value} {base : Heap}
def cNumG : Con := fun ds M Φ => ∃ l, ds = [tS l] ∧ l.length ≤ 600 ∧ (∀ n, l = TL.numL n → Φ (.int (n : Nat)) M) ∧ ((¬ ∃ n, l = TL.numL n) → Φ .non M)
theorem ok_number_in_g (F : Fx w K mg) : BodyOk P w K mg base "number_in" s_number_in ["text", "figure"] 1 0 cNumG := by
  intro f cdv A outer s H E hr ds M Φ hl hc
  obtain ⟨l, rfl, hlen, hc1, hc2⟩ := hc
  have nd : (["text", "figure"] : List Str).Nodup := by decide +kernel
  have e1 : decide (S l = ("" : Str)) = decide (l = []) := by rw [show ("" : Str) = S [] by decide +kernel]; exact decide_eq_decide.mpr S_eqi
  have e2 : decide (S l = ("0" : Str)) = decide (l = [48]) := by rw [show ("0" : Str) = S [48] by decide +kernel]; exact decide_eq_decide.mpr S_eqi
  refine wss_cons (ws_if (wt_ww (ww_or (wt_eqS (we_var 0 rfl (we_str ⟨_, rfl, ?_⟩))))))
  rw [e1]
  by_cases h0 : l = []
  · rw [decide_eq_true h0]
    exact wss_cons (ws_ret (we_non (Lets.of (hc2 fun ⟨n, e⟩ => TL.numL_ne n (e.symm.trans h0)))))
  rw [decide_eq_false h0]
  refine ww_or1 (wt_not (wt_val (we_all (F.bn _ (by decide +kernel)) (we_lc nd (blkOk_by (N := ["text", "figure"]) (sc := defScope s_number_in) (own := [("figure", 1)]) (by decide +kernel)) (fun _ _ _ _ _ => pg_name (i := 1) nd rfl (Or.inl rfl)) (gt_name (by decide)) (fun _ _ _ _ _ => pts_nil) tk_nil
        (wi_str (we_var 0 rfl ⟨_, rfl, ?_⟩))))))
  refine ⟨by rw [signs_S, List.length_map, sizeLine_eq]; omega, fun i acc M' => M' = M ∧ acc = (l.take i).map fun c => .bl (figure c), ⟨rfl, rfl⟩, ?_, ?_⟩
  · rintro i x acc M' hx ⟨rfl, rfl⟩
    obtain ⟨c, hc1, rfl⟩ := signs_get hx
    intro s1 H1 C cl fp
    refine we_inC (we_var 1 rfl (we_gstr F.gFIGURES ⟨c, _, rfl, rfl, rfl, ?_⟩))
    rw [mem_figures, take_snoc hc1, List.map_append]; rfl
  · rintro acc M' ⟨rfl, rfl⟩
    rw [signs_S, List.length_map, List.take_length]
    refine ⟨l.map figure, by rw [List.map_map]; rfl, _, rfl, ?_⟩
    cases hd : (l.map figure).all id with
    | false =>
      refine wss_cons (ws_ret (we_non (Lets.of (hc2 ?_))))
      rintro ⟨n, rfl⟩
      rw [List.all_map, List.all_eq_true.mpr (show ∀ c ∈ TL.numL n, (id ∘ figure) c = true from fun c hc => dig_of n c hc)] at hd
      cases hd
    | true =>
      rw [List.all_map, List.all_eq_true] at hd
      have hdig : ∀ c ∈ l, 48 ≤ c ∧ c ≤ 57 := fun c hc => by
        have := hd c hc
        unfold figure at this
        simpa using this
      refine wss_nil (wss_cons (ws_ret (we_if (wt_ww (ww_or (wt_eqS (we_var 0 rfl (we_str ⟨_, rfl, ?_⟩))))))))
      rw [e2]
      have done : (l = [48] ∨ l.head? ≠ some 48) → WE (bx P w K mg base ["text", "figure"] "number_in" (defScope s_number_in) f cdv A outer s H E) [some (tS l), none] M' (match ((defBody s_number_in).getD 1 (.Pass ⟨0, 0, 0, 0⟩)) with | .Return (some (.IfExp _ b _ _)) _ => b | _ => .Constant .none 0 ⟨0, 0, 0, 0⟩) (Lets Φ) := fun hcan => by
        obtain ⟨n, rfl⟩ := canon l.length (Nat.le_refl _) h0 hdig hcan
        exact we_intS (F.bn _ (by decide +kernel)) (we_var 0 rfl ⟨_, _, rfl, num_int_g n hlen, by rw [S_len]; omega, Lets.of (hc1 n rfl)⟩)
      by_cases h48 : l = [48]
      · rw [decide_eq_true h48]
        exact done (.inl h48)
      · rw [decide_eq_false h48]
        obtain ⟨c, r, ec⟩ : ∃ c r, l = c :: r := by
          cases l with
          | nil => exact absurd rfl h0
          | cons c r => exact ⟨c, r, rfl⟩
        refine ww_or1 (wt_neS (we_ix (we_var 0 rfl (we_int ⟨0, _, rfl, .inr (.inr ⟨_, c, rfl, by rw [S_len, sizeLine_eq]; omega, by show atI l 0 = some c; rw [ec]; exact atI_nat (j := 0) rfl, rfl⟩), we_str ⟨_, rfl, ?_⟩⟩))))
        have e4 : decide ((⟨#[c]⟩ : Str) = ("0" : Str)) = decide (c = 48) := by
          rw [show (⟨#[c]⟩ : Str) = S [c] from rfl, show ("0" : Str) = S [48] by decide +kernel]
          exact decide_eq_decide.mpr (S_eqi.trans ⟨fun h => by injection h, fun h => by rw [h]⟩)
        rw [e4]
        by_cases hc48 : c = 48
        · rw [decide_eq_true hc48]
          refine we_non (Lets.of (hc2 ?_))
          rintro ⟨n, e⟩
          rw [ec, hc48] at e
          have := num_head0 e.symm
          exact h48 (by rw [ec, hc48, this])
        · rw [decide_eq_false hc48]
          exact done (.inr (by rw [ec]; intro e; injection e with e; exact hc48 e))
theorem starts0 (d : Nat) : Txt.startswith (S []) (S [d]) = false := by
  unfold Txt.startswith
  rw [S_len, S_len]
  rfl
theorem starts_g (l : List Nat) (d : Nat) : Txt.startswith (S l) (S [d]) = decide (l.head? = some d) := by
  cases l with
  | nil => rw [starts0]; rfl
  | cons c r => rw [starts1]; exact decide_eq_decide.mpr ⟨fun h => by rw [h]; rfl, fun h => by injection h⟩
theorem ends_g {l : List Nat} (h : l ≠ []) (d : Nat) : Txt.endswith (S l) (S [d]) = decide (l.getLast? = some d) := by
  obtain ⟨r, c, rfl⟩ : ∃ r c, l = r ++ [c] := ⟨_, _, (List.dropLast_concat_getLast h).symm⟩
  rw [ends1]
  exact decide_eq_decide.mpr ⟨fun h => by rw [h]; simp, fun h => by simpa using h⟩
theorem around_shape {l : List Nat} {o c : Nat} (h : o ≠ c) (h1 : l.head? = some o) (h2 : l.getLast? = some c) : ∃ m, l = o :: (m ++ [c]) := by
  cases l with
  | nil => cases h1
  | cons x r =>
    have e : x = o := by injection h1
    subst e
    cases r with
    | nil =>
      have : x = c := by simpa using h2
      exact absurd this h
    | cons y r =>
      rw [List.getLast?_cons_cons] at h2
      obtain ⟨m, hm⟩ := List.getLast?_eq_some_iff.mp h2
      exact ⟨m, by rw [hm]⟩
theorem first_blank : ∀ {m : List Nat}, 32 ∈ m → ∃ p r, m = p ++ 32 :: r ∧ 32 ∉ p
  | [], h => by cases h
  | x :: m, h => by
    by_cases hx : x = 32
    · subst hx; exact ⟨[], m, rfl, fun h => by cases h⟩
    · rcases List.mem_cons.mp h with h | h
      · exact absurd h.symm hx
      · obtain ⟨p, r, e, hp⟩ := first_blank h
        exact ⟨x :: p, r, by rw [e]; rfl, fun hm => (List.mem_cons.mp hm).elim (fun e => hx e.symm) hp⟩
def cCopG : Con := fun ds M Φ => ∃ l, ds = [tS l] ∧ l.length ≤ 600 ∧ Φ .non M ∧ ∀ (b : Bool) (n : Nat) (r : List Nat), 2 ≤ n → n ≤ 10 ^ 30 → r.length ≤ l.length → (r = [] ∨ l = opn b :: ((TL.numL n ++ 32 :: r) ++ [cls b])) → Φ (.tup [.str (wrd b), .lst [.tup [.int (n : Nat), tS r]]]) M
abbrev nCopG : List Str := ["text", "word", "head", "end", "number", "blank", "rest", "many"]
theorem ok_copies_in_g (F : Fx w K mg) (Fn : Fc P w K mg base "number_in" [] 1 1 cNumG) : BodyOk P w K mg base "copies_in" s_copies_in nCopG 1 1 cCopG := by
  intro f cdv A outer s H E hr ds M Φ hl hc
  obtain ⟨l, rfl, hlen, hc1, hc2⟩ := hc
  have nd : nCopG.Nodup := by decide +kernel
  obtain ⟨a, kvs, h1, h2, h3⟩ := F.gAROUND
  refine wss_cons (ws_for PassesOwn.never (wi_gitems h1 h2 h3 ?_))
  refine ⟨fun i ρ' M' => ∃ o1 o2 o3 o4 o5 o6 o7, ρ' = [some (tS l), o1, o2, o3, o4, o5, o6, o7] ∧ M' = M, ⟨none, none, none, none, none, none, none, rfl, rfl⟩, ?_, ?_⟩
  · rintro i x ρ' M' hx ⟨o1, o2, o3, o4, o5, o6, o7, rfl, rfl⟩
    obtain ⟨b, rfl, rfl⟩ := around_get hx
    refine wg_tup ⟨rfl, rfl, wgs_cons (wg_name 1 (wgs_cons (wg_tup ⟨rfl, rfl, wgs_cons (wg_name 2 (wgs_cons (wg_name 3 (wgs_nil ⟨rfl, wgs_nil ⟨rfl, ?_⟩⟩) nd)) nd)⟩)) nd)⟩
    refine wss_cons (ws_if (wt_ww (ww_and (wt_val (we_startswith (we_var 0 rfl ⟨_, rfl, we_var 2 rfl ⟨_, rfl, _, rfl, ?_⟩⟩))))))
    rw [starts_g]
    by_cases hh : l.head? = some (opn b)
    · rw [decide_eq_true hh]
      have hne : l ≠ [] := fun e => by rw [e] at hh; cases hh
      refine ww_and1 (wt_val (we_endswith (we_var 0 (by rfl) ⟨_, rfl, we_var 3 rfl ⟨_, rfl, _, rfl, ?_⟩⟩)))
      rw [ends_g hne]
      by_cases he : l.getLast? = some (cls b)
      · rw [decide_eq_true he]
        obtain ⟨m, rfl⟩ := around_shape (by cases b <;> decide) hh he
        have hml : m.length + 2 ≤ 600 := by simpa using hlen
        refine wss_cons (ws_asg (we_partition (we_slice (we_var 0 rfl (we_int ⟨1, rfl, we_negI (we_int ⟨1, rfl, _, rfl, _, .inr (.inr ⟨_, rfl, ?_, rfl⟩), _, rfl, we_gstr F.gBLANK ⟨_, rfl, ?_, ?_, ?_⟩⟩)⟩)))))
        · rw [S_len, sizeLine_eq]; omega
        · decide +kernel
        · refine Nat.le_trans (cutS_length _ _ _) ?_
          rw [S_len, sizeLine_eq]; omega
        · rw [cut_mid, show (" " : Str) = S [32] by decide +kernel]
          have key : ∃ p q r, Txt.partition (S m) (S [32]) = (S p, q, S r) ∧ p.length ≤ m.length ∧ r.length ≤ m.length ∧ (r = [] ∨ m = p ++ 32 :: r) := by
            by_cases h32 : 32 ∈ m
            · obtain ⟨p, r, e, hp⟩ := first_blank h32
              refine ⟨p, S [32], r, ?_, ?_, ?_, .inr e⟩
              · rw [e]; exact partition_some (by simp) (par_head (c := 32) (sep := []) r hp)
              · rw [e, List.length_append]; omega
              · rw [e, List.length_append, List.length_cons]; omega
            · exact ⟨m, S [], [], partition_none (by simp) (par_head_none (sep := []) h32), Nat.le_refl _, Nat.zero_le _, .inl rfl⟩
          obtain ⟨p, q, r, ep, hpl, hrl, hpr⟩ := key
          rw [ep]
          refine wg_tup ⟨rfl, rfl, wgs_cons (wg_name 4 (wgs_cons (wg_name 5 (wgs_cons (wg_name 6 (wgs_nil ⟨rfl, ?_⟩) nd)) nd)) nd)⟩
          refine wss_cons (ws_set 7 nd (we_call Fn (hr.mono (by decide)) (wa_cons (we_var 4 rfl (wa_nil ⟨rfl, p, rfl, by omega, fun n en => ?_, fun _ => ?_⟩)))))
          · refine wss_cons (ws_if (wt_ww (ww_and (wt_notN (we_var 7 rfl ?_)))))
            refine ww_and1 (wt_chainI (we_gint F.gLEAST_MANY (we_var 7 rfl ⟨_, _, rfl, rfl, ?_⟩)))
            by_cases n2 : 2 ≤ n
            · rw [decide_eq_true (show (2 : Int) ≤ (n : Int) by omega)]
              refine we_gint F.gMOST_MANY ⟨_, rfl, ?_⟩
              by_cases n30 : n ≤ 10 ^ 30
              · rw [decide_eq_true (le30 n30)]
                refine wss_cons (ws_ret (we_tup (wa_cons (we_var 1 rfl (wa_cons (we_lst (wa_cons (we_tup (wa_cons (we_var 7 rfl (wa_cons (we_var 6 rfl (wa_nil ⟨sz2, wa_nil ⟨sz1, wa_nil ⟨sz2, Lets.of (hc2 b n r n2 n30 ?_ ?_)⟩⟩⟩)))))))))))))
                · simp only [List.length_cons, List.length_append]; omega
                · exact hpr.imp id fun e => by rw [e, en]
              · have : ¬ (n : Int) ≤ 10 ^ 30 := fun h => n30 (by
                  have e : ((10 ^ 30 : Nat) : Int) = 10 ^ 30 := by decide +kernel
                  omega)
                rw [decide_eq_false this]
                refine wss_nil (wss_nil (wss_nil ?_))
                exact ⟨_, _, _, _, _, _, _, rfl, rfl⟩
            · rw [decide_eq_false (show ¬ (2 : Int) ≤ (n : Int) by omega)]
              refine wss_nil (wss_nil (wss_nil ?_))
              exact ⟨_, _, _, _, _, _, _, rfl, rfl⟩
          · refine wss_cons (ws_if (wt_ww (ww_and (wt_notN (we_var 7 rfl ?_)))))
            refine wss_nil (wss_nil (wss_nil ?_))
            exact ⟨_, _, _, _, _, _, _, rfl, rfl⟩
      · rw [decide_eq_false he]
        refine wss_nil (wss_nil ?_)
        exact ⟨_, _, _, _, _, _, _, rfl, rfl⟩
    · rw [decide_eq_false hh]
      refine wss_nil (wss_nil ?_)
      exact ⟨_, _, _, _, _, _, _, rfl, rfl⟩
  · rintro ρ' M' ⟨o1, o2, o3, o4, o5, o6, o7, rfl, rfl⟩
    exact wss_cons (ws_ret (we_non (Lets.of hc1)))
end
end W
namespace W
open PySem SX TL PL
open Classical
/-- while the next sign is the joint's: one part more -/
noncomputable def LL (le : List Nat → Option (List Nat)) (J : List Nat) : Nat → List Nat → Option (List Nat)
  | 0, r => some r
  | g + 1, r => if r.take 3 = J then (match le (r.drop 3) with | none => none | some r2 => LL le J g r2) else some r
def fin (c : Nat) : Option (List Nat) → Option (List Nat)
  | some (x :: r) => if x = c then some r else none
  | _ => none
def okN (d : List Nat) : Prop := ∃ n, d = numL n ∧ 2 ≤ n ∧ n ≤ 10 ^ 30
noncomputable def LE : Nat → List Nat → Option (List Nat)
  | 0, _ => none
  | _ + 1, [] => none
  | f + 1, c :: r =>
    if c = 49 then some r
    else if c = 91 ∨ c = 123 then
      (if okN (r.takeWhile figure) ∧ (r.dropWhile figure).head? = some 32 then fin (c + 2) (LE f ((r.dropWhile figure).drop 1)) else none)
    else if c = 40 then
      (match LE f r with
        | none => none
        | some r1 => if r1.take 3 = sep false ∨ r1.take 3 = sep true then fin 41 (LL (LE f) (r1.take 3) (r1.length + 1) r1) else none)
    else if 1 ≤ ((c :: r).takeWhile letter).length ∧ ((c :: r).takeWhile letter).length ≤ 8 then some ((c :: r).dropWhile letter) else none
theorem fin_eq {c : Nat} {r : List Nat} : fin c (some (c :: r)) = some r := by rw [fin, if_pos rfl]
theorem opn_cls {b : Bool} : opn b + 2 = cls b := by cases b <;> rfl
/-- the parts behind the first -/
def tails (s : Bool) (us : List T) : List Nat := us.flatMap fun u => sep s ++ txt u
theorem tails_join (s : Bool) : ∀ (us : List T) (t : T), joinL (sep s) (txts (t :: us)) = txt t ++ tails s us
  | [], t => by rw [txts, txts, joinL]; simp [tails]
  | u :: us, t => by
    have e : joinL (sep s) (txts (t :: u :: us)) = txt t ++ (sep s ++ joinL (sep s) (txts (u :: us))) := by rw [txts, txts, joinL]
    rw [e, tails_join s us u]
    simp [tails]
theorem run_of {p : Nat → Bool} : ∀ {x r : List Nat}, (∀ c ∈ x, p c = true) → (∀ c, r.head? = some c → p c = false) → (x ++ r).takeWhile p = x ∧ (x ++ r).dropWhile p = r
  | [], [], _, _ => ⟨rfl, rfl⟩
  | [], c :: r, _, h => by
    have := h c rfl
    simp [this]
  | c :: x, r, h, h2 => by
    have i := run_of (x := x) (r := r) (fun d hd => h d (List.mem_cons_of_mem _ hd)) h2
    have := h c List.mem_cons_self
    simp [this, i.1, i.2]
theorem LL_full {f : Nat} {s : Bool} {r : List Nat} (hle : ∀ t q, Good t → ht t < f → (∀ c, q.head? = some c → letter c = false) → LE f (txt t ++ q) = some q) : ∀ (us : List T) (g : Nat), Goods us → (∀ u ∈ us, ht u < f) → us.length < g → LL (LE f) (sep s) g (tails s us ++ 41 :: r) = some (41 :: r)
  | [], g + 1, _, _, _ => by
    rw [LL, if_neg]
    · rfl
    · cases s <;> simp [tails, sep]
  | u :: us, g + 1, gs, hh, hg => by
    have e : tails s (u :: us) ++ 41 :: r = sep s ++ (txt u ++ (tails s us ++ 41 :: r)) := by simp [tails]
    rw [LL, e, if_pos (by cases s <;> rfl), show (sep s ++ (txt u ++ (tails s us ++ 41 :: r))).drop 3 = txt u ++ (tails s us ++ 41 :: r) by cases s <;> rfl]
    rw [hle u _ gs.1 (hh u List.mem_cons_self) fun c hc => ?_]
    · exact LL_full hle us g gs.2 (fun x hx => hh x (List.mem_cons_of_mem _ hx)) (by rw [List.length_cons] at hg; omega)
    · cases us with
      | nil => cases hc; rfl
      | cons v us => cases s <;> (cases hc; rfl)
theorem LE_full : ∀ (f : Nat) (t : T) (q : List Nat), Good t → ht t < f → (∀ c, q.head? = some c → letter c = false) → LE f (txt t ++ q) = some q
  | 0, t, q, g, h, _ => absurd h (Nat.not_lt_zero _)
  | f + 1, .one, q, g, h, hq => by
    rw [txt]; show LE (f + 1) (49 :: q) = _
    rw [LE, if_pos rfl]
  | f + 1, .name x, q, g, h, hq => by
    rw [txt]
    obtain ⟨h1, h2, h3⟩ := g
    have rn := run_of h3 hq
    cases x with
    | nil => exact absurd rfl h1
    | cons c r =>
      have hc := h3 c List.mem_cons_self
      have c97 : 97 ≤ c ∧ c ≤ 122 := by simpa [letter] using hc
      rw [List.cons_append] at rn ⊢
      rw [LE, if_neg (by omega), if_neg (by omega), if_neg (by omega), rn.1, rn.2, if_pos ⟨by simp, h2⟩]
  | f + 1, .cop b n u, q, g, h, hq => by
    obtain ⟨n2, n30, gu⟩ := g
    rw [ht] at h
    have e : txt (.cop b n u) ++ q = opn b :: (numL n ++ 32 :: (txt u ++ cls b :: q)) := by rw [txt]; simp
    have rn := run_of (p := figure) (x := numL n) (r := 32 :: (txt u ++ cls b :: q)) (dig_of n) (fun c hc => by cases hc; rfl)
    rw [e, LE, if_neg (by cases b <;> decide), if_pos (by cases b <;> decide), rn.1, rn.2, if_pos ⟨⟨n, rfl, n2, n30⟩, rfl⟩, List.drop_succ_cons, List.drop_zero, LE_full f u (cls b :: q) gu (by omega) (fun c hc => by cases b <;> (cases hc; rfl)), opn_cls, fin_eq]
  | f + 1, .row s [], q, g, h, hq => absurd g.1 (by simp)
  | f + 1, .row s [u], q, g, h, hq => absurd g.1 (by simp)
  | f + 1, .row s (t :: u :: us), q, g, h, hq => by
    obtain ⟨_, gt, gu, gs⟩ := g
    rw [ht] at h
    have hh : ∀ x ∈ t :: u :: us, ht x < f := fun x hx => by have := hts_le hx; omega
    have e : txt (.row s (t :: u :: us)) ++ q = 40 :: (txt t ++ (tails s (u :: us) ++ 41 :: q)) := by rw [txt, tails_join]; simp
    have J : (tails s (u :: us) ++ 41 :: q).take 3 = sep s := by cases s <;> simp [tails, sep]
    rw [e, LE, if_neg (by decide), if_neg (by decide), if_pos rfl, LE_full f t _ gt (hh t List.mem_cons_self) (fun c hc => by cases s <;> (simp [tails, sep] at hc; subst hc; rfl))]
    dsimp only
    rw [J, if_pos (by cases s <;> simp), LL_full (LE_full f) (u :: us) _ ⟨gu, gs⟩ (fun x hx => hh x (List.mem_cons_of_mem _ hx)), fin_eq]
    have : ∀ vs : List T, vs.length ≤ (tails s vs).length := fun vs => by
      induction vs with
      | nil => exact Nat.zero_le _
      | cons v vs ih =>
        have : tails s (v :: vs) = sep s ++ (txt v ++ tails s vs) := by simp [tails]
        rw [this, List.length_append, List.length_append, List.length_cons]
        have : (sep s).length = 3 := by cases s <;> rfl
        omega
    have := this (u :: us)
    rw [List.length_append, List.length_cons] at *
    omega
theorem all_LE {f : Nat} {t : T} (g : Good t) (h : ht t < f) : LE f (txt t) = some [] := by
  have := LE_full f t [] g h (fun c hc => by cases hc)
  rwa [List.append_nil] at this
def opener (c : Nat) : Bool := c == 40 || c == 91 || c == 123
def opns (l : List Nat) : Nat := l.countP opener
theorem opns_app (a b : List Nat) : opns (a ++ b) = opns a + opns b := List.countP_append
theorem opns_cons (c : Nat) (l : List Nat) : opns (c :: l) = opns l + (if opener c = true then 1 else 0) := List.countP_cons
theorem opns_mem {S : List Nat} : ∀ {ps : List (List Nat)} {p : List Nat}, p ∈ ps → opns p ≤ opns (joinL S ps)
  | [p], q, h => by rw [List.mem_singleton] at h; subst h; rw [joinL]; exact Nat.le_refl _
  | p :: p2 :: ps, q, h => by
    rw [joinL, opns_app, opns_app]
    rcases List.mem_cons.mp h with rfl | h
    · omega
    · have := opns_mem (S := S) (ps := p2 :: ps) h
      omega
theorem ht_opns : ∀ t, ht t ≤ opns (txt t)
  | .one => by rw [ht]; exact Nat.zero_le _
  | .name x => by rw [ht]; exact Nat.zero_le _
  | .cop b n t => by
    have := ht_opns t
    rw [ht, txt, opns_cons, opns_app, opns_cons, opns_app]
    have : opener (opn b) = true := by cases b <;> rfl
    rw [if_pos this]; omega
  | .row s ts => by
    rw [ht, txt, opns_cons, opns_app, if_pos (by decide)]
    have : hts ts ≤ opns (joinL (sep s) (txts ts)) := by
      have : ∀ us : List T, (∀ u ∈ us, u ∈ ts) → hts us ≤ opns (joinL (sep s) (txts ts)) := by
        intro us
        induction us with
        | nil => intro _; rw [hts]; exact Nat.zero_le _
        | cons u us ih =>
          intro hm
          have hu := hm u List.mem_cons_self
          have := ht_opns u
          have h2 := ih fun x hx => hm x (List.mem_cons_of_mem _ hx)
          have h3 : opns (txt u) ≤ opns (joinL (sep s) (txts ts)) := opns_mem (by rw [txts_map]; exact List.mem_map_of_mem hu)
          rw [hts]
          omega
      exact this ts fun _ h => h
    omega
end W
namespace W
open PySem PySem.Spec PyProof.Rows L2 DL SX PL
section
variable {P : Program} {w : World} {K : PySem.W.Frag} {mg : Str → Option Value} {base : Heap} {C : Addr}
abbrev nInit : List Str := ["self", "text", "groups", "many", "part"]
theorem mul_ok {n p m : Nat} (h1 : n ≤ 10 ^ 30) (h2 : p < 16 ^ m) (h3 : m ≤ 100000) : CMulW (n : Nat) (p : Nat) := by
  show ((n : Int)).natAbs.log2 + ((p : Int)).natAbs.log2 < 1000000
  rw [Int.natAbs_natCast, Int.natAbs_natCast]
  have e1 := log16 h2
  have e2 : n < 16 ^ 26 := Nat.lt_of_le_of_lt h1 (by decide)
  have e3 := log16 e2
  omega
theorem sum_cast {α : Type} (f : α → Nat) : ∀ l : List α, (l.map fun q => ((f q : Nat) : Int)).sum = (((l.map f).sum : Nat) : Int)
  | [] => rfl
  | x :: l => by simp [sum_cast f l]
end
end W
namespace DL
open PySem PySem.Spec PyProof.Rows L2
abbrev eSet (w : World) : Obj := { cls := .type "set", dict := none, data := .set #[] 0 (.fresh 0 0 (!w.params.followText "set-order")) }
end DL
namespace DL
open PySem PySem.Spec PyProof.Rows L2
def GoodZ (w : World) (e : Int × Value) : Prop := ∃ x t, e.2 = Value.str x t ∧ e.1 = hashStr w x
/-- the set of texts at a: L its members, none twice -/
def SetZ (w : World) (h : Heap) (a : Addr) (L : List Str) : Prop :=
  ∃ o es ep t, h.get? a = some o ∧ (o.ExactSet ∧ o.data = .set es ep t) ∧ ((∀ e ∈ es.toList, GoodZ w e) ∧ (es.toList.map fun e => strOf e.2).Perm L ∧ L.Nodup) ∧ (es.size < scanBound ∧ t.fits es.size = true) ∧ Ris t.place.toList ∧ (w.params.followText "set-order" = true ∨ t.led = true)
section
variable {P : Program} {w : World} {h h' : Heap} {a : Addr} {L : List Str}
theorem SetZ.keep (R : SetZ w h a L) (k : ∀ o, h.get? a = some o → h'.get? a = some o) : SetZ w h' a L := by
  obtain ⟨o, es, ep, t, ho, r⟩ := R
  exact ⟨o, es, ep, t, k o ho, r⟩
theorem goodZ_elems {l : List (Int × Value)} (g : ∀ e ∈ l, GoodZ w e) : ElemsOf (PySem.strKind P w) l := fun e he => by
  obtain ⟨x, t, h1, h2⟩ := g e he
  exact ⟨⟨x, by rw [h1]; exact strKind_is P w x t, h2⟩, by rw [h1]; rfl⟩
theorem goodZ_is {e : Int × Value} (g : GoodZ w e) (x : Str) : (PySem.strKind P w).is x e.2 = true ↔ strOf e.2 = x := by
  obtain ⟨y, t, h1, _⟩ := g
  rw [h1]
  have q := strKind_is P w y t
  refine ⟨fun z => ((PySem.strKind P w).inj _ _ _ z q).symm, fun z => ?_⟩
  have z' : y = x := z
  rw [← z']; exact q
theorem goodZ_mem {l : List (Int × Value)} (g : ∀ e ∈ l, GoodZ w e) (x : Str) : (∃ e ∈ l, (PySem.strKind P w).is x e.2 = true) ↔ x ∈ l.map fun e => strOf e.2 := by
  rw [List.mem_map]
  exact ⟨fun ⟨e, he, q⟩ => ⟨e, he, (goodZ_is (g e he) x).mp q⟩, fun ⟨e, he, q⟩ => ⟨e, he, (goodZ_is (g e he) x).mpr q⟩⟩
end
section
variable {P : Program} {w : World} {A : Around} {E : Value → Shared → Prop} {s : Shared} {a : Addr} {L : List Str}
theorem setZ_tail {g : Bool → Sem Unit} (hg : ∀ (b : Bool) (s1 : Shared) (Q' : Unit → Shared → Prop), Q' () s1 → wpAny (model P w) A (g b) Q' E s1) {o : Obj} {es es1 : Array (Int × Value)} {ep : Nat} {t t2 : SetTable} {L' : List Str} {wd : Bool} {R : Option Bool → Shared → Prop}
    (ho : s.heap.get? a = some o) (hex : o.ExactSet) (hd : o.data = .set es ep t) (g1 : (∀ e ∈ es1.toList, GoodZ w e) ∧ (es1.toList.map fun e => strOf e.2).Perm L' ∧ L'.Nodup) (hb : es1.size < scanBound) (hf : t2.fits es1.size = true) (hr : Ris t2.place.toList) (hl : w.params.followText "set-order" = true ∨ t2.led = true)
    (hR : ∀ h', Heap.SameBut a s.heap h' → SetZ w h' a L' → R (some true) { s with heap := h' }) :
    wpAny (model P w) A (do
      storeSet a es1 t2
      if (!wd && t2.tooFull) = true then do
          g (relayAll t2 es1 (SetTable.grown es1.size)).2.2
          storeSet a (relayAll t2 es1 (SetTable.grown es1.size)).1 (relayAll t2 es1 (SetTable.grown es1.size)).2.1
          pure (some true)
        else pure (some true)) R E s := by
  have ho1 := store_at (es' := es1) (t' := t2) ho hd
  have sb := Heap.SameBut.update s.heap a (Obj.putSet es1 t2)
  refine wpAny_bind (wpAny_storeSet_of ho hd ?_ (fits_of_scanBound hb))
  by_cases hc : (!wd && t2.tooFull) = true
  · rw [if_pos hc]
    have q1 := relayAll_perm t2 es1 (SetTable.grown es1.size)
    have q2 := relayAll_fits t2 es1 (SetTable.grown es1.size)
    have q3 := relayAll_ris t2 es1 (SetTable.grown es1.size)
    have q4 := relayAll_led t2 es1 (SetTable.grown es1.size)
    generalize relayAll t2 es1 (SetTable.grown es1.size) = Y at q1 q2 q3 q4 ⊢
    obtain ⟨es2, t3, gv⟩ := Y
    dsimp only at q1 q2 q3 q4 ⊢
    have hb2 : es2.size < scanBound := by
      have : es2.size = es1.size := by rw [← Array.length_toList, q1.length_eq, Array.length_toList]
      omega
    refine wpAny_bind (hg _ _ _ (wpAny_bind (wpAny_storeSet_of ho1 rfl ?_ (fits_of_scanBound hb2))))
    refine wpAny_pure (hR _ (sb.trans (Heap.SameBut.update _ a _)) ⟨_, es2, _, t3, store_at (es' := es2) (t' := t3) ho1 rfl, ⟨hex, rfl⟩, ⟨fun e he => g1.1 e (q1.mem_iff.mp he), (q1.map _).trans g1.2.1, g1.2.2⟩, ⟨hb2, q2⟩, q3, ?_⟩)
    rw [q4]; exact hl
  · rw [if_neg hc]
    exact wpAny_pure (hR _ sb ⟨_, es1, _, t2, ho1, ⟨hex, rfl⟩, g1, ⟨hb, hf⟩, hr, hl⟩)
theorem setZ_add {x : Str} {tk : Tok} {Q : Bool → Shared → Prop} (R : SetZ w s.heap a L) (room : L.length + 1 < scanBound)
    (hQ : ∀ h' b, Heap.SameBut a s.heap h' → SetZ w h' a (if x ∈ L then L else x :: L) → Q b { s with heap := h' }) : wpAny (model P w) A (setAddHashed a (.str x tk) ((PySem.strKind P w).hash x)) Q E s := by
  obtain ⟨o, es, ep, t, ho, ⟨hex, hd⟩, ⟨g, pm, nd⟩, ⟨hb, hf⟩, hr, hl⟩ := R
  have hel : ElemsOf (PySem.strKind P w) es.toList := goodZ_elems g
  have hsc : (Value.str x tk).scannable = true := rfl
  unfold setAddHashed setAddHashedIn
  refine wpAny_holding (wpAny_bind (wpAny_setState_of ho hd hf ?_))
  dsimp only
  rw [byScan_of hsc hb hel]
  simp only [↓reduceIte]
  unfold setAddByScan
  refine wpAny_bind (wpAny_bind (wpAny_rule (wpAny_bind (wpAny_setScan_of (strKind_is P w x tk) ho hd hf hel ?_))))
  by_cases hx : x ∈ L
  · cases hfi : List.findIdx? (fun e => (PySem.strKind P w).is x e.2) es.toList with
    | none =>
      exfalso
      obtain ⟨e, he, q⟩ := (goodZ_mem (P := P) g x).mpr (pm.mem_iff.mpr hx)
      have c := List.findIdx?_eq_none_iff.mp hfi e he
      rw [q] at c; cases c
    | some j =>
      dsimp only
      have q := hQ s.heap false (Heap.SameBut.refl a s.heap)
      rw [if_pos hx] at q
      exact wpAny_pure (wpAny_pure (q ⟨o, es, ep, t, ho, ⟨hex, hd⟩, ⟨g, pm, nd⟩, ⟨hb, hf⟩, hr, hl⟩))
  · cases hfi : List.findIdx? (fun e => (PySem.strKind P w).is x e.2) es.toList with
    | some j =>
      exfalso
      obtain ⟨hj, pj, _⟩ := List.findIdx?_eq_some_iff_getElem.mp hfi
      exact hx (pm.mem_iff.mp ((goodZ_mem (P := P) g x).mp ⟨es.toList[j], List.getElem_mem hj, pj⟩))
    | none =>
      dsimp only
      have gw : ∀ (b : Bool) {s1 : Shared} {Q' : Unit → Shared → Prop}, Q' () s1 → wpAny (model P w) A (match b with | true => rule "set.scan.the-table-gave-way" | false => pure ()) Q' E s1 := fun b s1 Q' q => by
        cases b <;> first | exact wpAny_pure q | exact wpAny_rule q
      have p1 := layNew_perm t es ((PySem.strKind P w).hash x) (.str x tk)
      have p2 := layNew_fits t es ((PySem.strKind P w).hash x) (.str x tk)
      have p3 := layNew_ris t es ((PySem.strKind P w).hash x) (.str x tk) hr
      have p4 := layNew_led t es ((PySem.strKind P w).hash x) (.str x tk)
      generalize layNew t es ((PySem.strKind P w).hash x) (.str x tk) = Y at p1 p2 p3 p4 ⊢
      obtain ⟨es1, t1, wd, gv⟩ := Y
      dsimp only at p1 p2 p3 p4 ⊢
      rw [Array.toList_push] at p1
      have pc := p1.trans (List.perm_append_singleton _ _)
      have gN : (∀ e ∈ es1.toList, GoodZ w e) ∧ (es1.toList.map fun e => strOf e.2).Perm (x :: L) ∧ (x :: L).Nodup := by
        refine ⟨fun e he => ?_, (pc.map _).trans (pm.cons _), List.nodup_cons.mpr ⟨hx, nd⟩⟩
        rcases List.mem_cons.mp (pc.mem_iff.mp he) with z | z
        · rw [z]; exact ⟨x, tk, rfl, rfl⟩
        · exact g e z
      have hb1 : es1.size < scanBound := by
        have := gN.2.1.length_eq
        rw [List.length_map, Array.length_toList, List.length_cons] at this
        omega
      have hled : w.params.followText "set-order" = true ∨ t1.led = true := by rw [p4]; exact hl
      have fin : ∀ h', Heap.SameBut a s.heap h' → SetZ w h' a (x :: L) → Q true { s with heap := h' } := fun h' sb r => hQ h' true sb (by rw [if_neg hx]; exact r)
      refine wpAny_bind (gw _ ?_)
      split
      · refine wpAny_bind ?_
        rw [hashByValue_scannable 8 hsc]
        refine wpAny_pure (setZ_tail ?_ ho hex hd gN hb1 ?_ ?_ ?_ ?_)
        · intro b s1 Q' q
          cases b <;> first | exact wpAny_pure q | exact wpAny_rule q
        · first | (split <;> first | exact p2 | exact SetTable.fits_plain_off p2) | exact p2
        · first | (split <;> exact p3) | exact p3
        · first | (split <;> exact hled) | exact hled
        · intro h' sb r
          dsimp only
          exact wpAny_pure (fin h' sb r)
      · refine wpAny_bind (wpAny_pure ?_)
        simp only [↓reduceIte]
        refine setZ_tail ?_ ho hex hd gN hb1 p2 p3 hled ?_
        · intro b s1 Q' q
          cases b <;> first | exact wpAny_pure q | exact wpAny_rule q
        · intro h' sb r
          dsimp only
          exact wpAny_pure (fin h' sb r)
end
/-- the members behind the adds of some texts -/
def dedZ : List Str → List Str → List Str
  | L, [] => L
  | L, x :: r => dedZ (if x ∈ L then L else x :: L) r
theorem dedZ_snoc : ∀ (L r : List Str) (x : Str), dedZ L (r ++ [x]) = if x ∈ dedZ L r then dedZ L r else x :: dedZ L r
  | L, [], x => rfl
  | L, y :: r, x => dedZ_snoc _ r x
theorem dedZ_len : ∀ (L r : List Str), (dedZ L r).length ≤ L.length + r.length
  | L, [] => Nat.le_refl _
  | L, y :: r => by
    have := dedZ_len (if y ∈ L then L else y :: L) r
    unfold dedZ
    split at this <;> simp only [List.length_cons] at this ⊢ <;> split <;> simp_all <;> omega
theorem dedZ_mem : ∀ (L r : List Str) (k : Str), k ∈ dedZ L r ↔ k ∈ L ∨ k ∈ r
  | L, [], k => by simp [dedZ]
  | L, y :: r, k => by
    unfold dedZ
    rw [dedZ_mem, List.mem_cons]
    split
    · rename_i h
      constructor
      · rintro (z | z)
        · exact .inl z
        · exact .inr (.inr z)
      · rintro (z | z | z)
        · exact .inl z
        · exact .inl (z ▸ h)
        · exact .inr z
    · rw [List.mem_cons]
      constructor
      · rintro ((z | z) | z)
        · exact .inr (.inl z)
        · exact .inl z
        · exact .inr (.inr z)
      · rintro (z | z | z)
        · exact .inl (.inr z)
        · exact .inl (.inl z)
        · exact .inr z
theorem dedZ_nd : ∀ (L r : List Str), L.Nodup → (dedZ L r).Nodup
  | L, [], h => h
  | L, y :: r, h => by
    unfold dedZ
    refine dedZ_nd _ r ?_
    split
    · exact h
    · exact List.nodup_cons.mpr ⟨by assumption, h⟩
theorem setZ_new {w : World} {h : Heap} {a : Addr} (ho : h.get? a = some (eSet w)) : SetZ w h a [] :=
  ⟨_, #[], 0, _, ho, ⟨⟨rfl, rfl, rfl⟩, rfl⟩, ⟨fun e he => by simp at he, .nil, .nil⟩, ⟨by decide, by rfl⟩, List.Pairwise.nil, by
    show _ ∨ (!w.params.followText "set-order") = true
    cases w.params.followText "set-order"
    · exact .inr rfl
    · exact .inl rfl⟩
section
variable {P : Program} {w : World} {A : Around} {E : Value → Shared → Prop} {s : Shared}
theorem setZ_update {I : Addr} {fp wr : List Addr} {G : Array GenState → Array GenState → Prop} {n : Nat} {Pv : Nat → Value → Prop} {St : Nat → Shared → Prop} {R : Result → Shared → Prop}
    (W : WalksS P w A.in1 I fp wr G n Pv St) (S : Addr) (hSf : S ∉ fp) (zs : List Str) (hn : n = zs.length) (hb : zs.length + 1 < scanBound) (hv : ∀ i v, Pv i v → ∃ x t, zs[i]? = some x ∧ v = .str x t) :
    ∀ (k i : Nat) (s : Shared), n - i = k → i ≤ n → St i s → SetZ w s.heap S (dedZ [] (zs.take i)) → (∀ s', Moved (S :: wr) G s s' → SetZ w s'.heap S (dedZ [] zs) → R (.ok (.ret .none)) s') →
      codeAny (model P w) A (.builtin "set.update.loop" ⟨[.ref S, .ref I], []⟩) R s := by
  have nw : S ∉ wr := fun z => hSf (W.sub _ z)
  have sub : ∀ b ∈ wr, b ∈ S :: wr := fun b => List.mem_cons_of_mem _
  intro k
  induction k with
  | zero =>
    intro i s hk hi st hS hR
    refine codeAny_builtin PyProof.Rows.F.entry_set_update_loop ?_
    rw [Around.under_plainId PyProof.Rows.F.plain_set_update_loop _]
    obtain rfl : i = n := by omega
    refine wpAny_bind (m := pyNext _) (W.done s _ _ st fun s' hm => wpAny_pure (hR s' (hm.mono sub) ?_))
    have := hS.keep (h' := s'.heap) fun o e => hm.heap S o nw e
    rwa [List.take_of_length_le (Nat.le_of_eq hn.symm)] at this
  | succ k ih =>
    intro i s hk hi st hS hR
    refine codeAny_builtin PyProof.Rows.F.entry_set_update_loop ?_
    rw [Around.under_plainId PyProof.Rows.F.plain_set_update_loop _]
    refine wpAny_bind (m := pyNext _) (W.item i s _ _ (by omega) st fun v s' hP st' hm => ?_)
    obtain ⟨x, t, hz, rfl⟩ := hv i v hP
    have hS' := hS.keep (h' := s'.heap) fun o e => hm.heap S o nw e
    refine wpAny_bind (m := holding [Value.str x t] (setAdd S (.str x t))) (wpAny_holding ?_)
    unfold setAdd
    have hlen := dedZ_len [] (zs.take i)
    rw [List.length_nil, List.length_take] at hlen
    refine wpAny_holding (wpAny_bind ((PySem.strKind P w).pyHash (k := x) (strKind_is _ _ _ _) (setZ_add (s := { s' with toks := s'.toks + 1 }) hS' (by omega) fun h' b sb hS2 => ?_)))
    have hS3 : SetZ w h' S (dedZ [] (zs.take (i + 1))) := by
      rw [List.take_add_one, hz]
      show SetZ w h' S (dedZ [] (zs.take i ++ [x]))
      rw [dedZ_snoc]; exact hS2
    refine wpAny_pure ⟨plainId_quiet PyProof.Rows.F.plain_set_update_loop _, ih (i + 1) _ (by omega) (by omega) (W.frame _ s' _ _ st' (Nat.le_succ _) fun b hb o e => ?_) hS3 fun s2 hm2 hS4 => hR s2 (Moved.trans W.gtrans ((hm.mono sub).then_heap (Nat.le_succ _) fun b o hb e => ?_) hm2) hS4⟩
    · rw [sb.2 b fun q : b = S => hSf (q ▸ hb)]; exact e
    · rw [sb.2 b fun q : b = S => hb (q ▸ List.mem_cons_self)]; exact e
theorem set_of_texts {l : Addr} {its : Array Value} (zs : List Str) {Q : Value → Shared → Prop} (hh : A.handled = none) (hl : s.heap.IsList l its) (hit : StrsAre its.toList zs) (hb : zs.length + 1 < scanBound)
    (hQ : ∀ (h' : Heap) (tk : Nat), SetZ w h' s.heap.objs.size (dedZ [] zs) → (∀ b o, s.heap.get? b = some o → h'.get? b = some o) → Q (.ref s.heap.objs.size) { s with heap := h', toks := tk }) : wpAny (model P w) A (call (.type "set") [.ref l]) Q E s := by
  have size : its.size = zs.length := by have q := StrsAre.length hit; rwa [Array.length_toList] at q
  obtain ⟨c, tl, hmro⟩ := F.called_set.mro
  have f1 := F.called_set.made
  have f2 := F.called_set.sub
  have f3 := F.called_set.notType
  have f4 := F.called_set.canCreate
  have f5 := F.typeCall_set_1 (.ref l)
  refine wpAny_call (codeAny_of_tree (show wpAny _ _ (callAny (.type "set") _) _ _ _ from wpAny_pure ⟨Code.quiet_builtin _ (by decide +kernel), codeAny_builtin F.entry_type_call ?_⟩))
  rw [Around.under_plain (weight_type_call_type "set" [.ref l] []) rfl]
  repeat any_goals first | assumption | wp_step
  refine codeAny_mono (code_set_led1 (.ref l) (E := E) (Q₁ := fun x s1 => x = .ref s.heap.objs.size ∧ s1 = { s with heap := s.heap.push (eSet w) }) ⟨rfl, rfl⟩) fun r s1 hr => ?_
  cases r with
  | error e => exact hr
  | ok fl =>
    cases fl with
    | ret obj =>
      obtain ⟨rfl, rfl⟩ := hr
      have at0 : (s.heap.push (eSet w)).get? s.heap.objs.size = some (eSet w) := Heap.get?_push_size _ rfl
      have ty0 : Shared.TypeIs { s with heap := s.heap.push (eSet w) } (.ref s.heap.objs.size) "set" := ⟨_, at0, rfl⟩
      have g1 := F.called_set.init.lookup
      have g2 := F.called_set.init.bind (.ref s.heap.objs.size)
      repeat any_goals first | assumption | wp_step
      refine codeAny_mono (codeAny_call_builtin (R := wants (fun r s2 => r = .none ∧ ∃ h' tk, s2 = { s with heap := h', toks := tk } ∧ SetZ w h' s.heap.objs.size (dedZ [] zs) ∧ (∀ b o, s.heap.get? b = some o → h'.get? b = some o)) E) F.called_set.init.plain F.entry_set_init (check_set_init_1 ty0 ?_)) fun r2 s2 hr2 => ?_
      · obtain ⟨ol, hol, hcl, nl, hdl⟩ := hl
        obtain ⟨c1, c2, c3, c4⟩ := ol
        simp only at hcl hdl
        subst hcl hdl
        have hol1 : (s.heap.push (eSet w)).get? l = some { cls := .type "list", dict := c2, data := .seq its nl, slots := c4 } := Heap.get?_push_of_some _ hol
        have k1 := F.sub_list_set
        have k2 := F.sub_list_frozenset
        have k3 : (Value.type "list" == Value.type "dict") = false := by decide
        have hl1 : (s.heap.push (eSet w)).IsList l its := ⟨_, hol1, rfl, nl, rfl⟩
        unfold Builtin.«set.__init__» noKeywords Builtin.Frozenset.updateFrom
        generalize hPI : pyIter = PI
        wp_walk
        subst hPI
        refine wpAny_pyIter_list hl1 (wpAny_bind (wpAny_runValue ?_))
        have ll : l < s.heap.objs.size := Heap.lt_size hol
        have hh3 : A.in1.in1.in1.handled = none := by simp [hh]
        have z1 : (s.heap.push (eSet w)).objs.size = s.heap.objs.size + 1 := Heap.size_push ..
        have ne1 : l ≠ (s.heap.push (eSet w)).objs.size := by rw [z1]; exact Nat.ne_of_lt (Nat.lt_succ_of_lt ll)
        have ne2 : s.heap.objs.size ∉ [(s.heap.push (eSet w)).objs.size, l] := by
          rw [z1]; simp only [List.mem_cons, List.not_mem_nil, or_false, not_or]; exact And.intro (Nat.ne_of_lt (Nat.lt_succ_self _)) (Nat.ne_of_gt ll)
        have vals : ∀ (i : Nat) (v : Value), its[i]? = some v → ∃ x t, zs[i]? = some x ∧ v = .str x t := fun i v hv => by
          obtain ⟨y, t, e1, e2⟩ := StrsAre.item hit i v (by rw [Array.getElem?_toList]; exact hv)
          exact ⟨y, t, e2, e1⟩
        refine setZ_update ((Walks.list hh3 _ l ne1 its).toS) s.heap.objs.size ne2 zs size hb vals (its.size - 0) 0 _ (by omega) (Nat.zero_le _) ⟨⟨_, Heap.get?_push_size _ rfl, rfl, rfl⟩, (hl1.push _)⟩ (setZ_new (Heap.get?_push_of_some _ at0)) ?_
        intro s' hm hS'
        obtain ⟨h', g', d', t', o'⟩ := s'
        have e1 : g' = s.gens := hm.gens
        have e2 : d' = s.drawn := hm.drawn
        have e3 : o' = s.os := hm.os
        subst e1 e2 e3
        refine wpAny_pure (show wpAny _ _ (ret Value.none) _ _ _ from wpAny_pure ⟨rfl, h', t', rfl, hS', fun b o e => ?_⟩)
        have b0 : b < s.heap.objs.size := Heap.lt_size e
        exact hm.heap b o (by rw [z1]; simp only [List.mem_cons, List.not_mem_nil, or_false, not_or]; exact And.intro (Nat.ne_of_lt b0) (Nat.ne_of_lt (Nat.lt_succ_of_lt b0))) (Heap.get?_push_of_some _ (Heap.get?_push_of_some _ e))
      · cases r2 with
        | error e => exact hr2
        | ok fl2 =>
          cases fl2 with
          | ret r =>
            obtain ⟨rfl, h', tk, rfl, q1, q2⟩ := hr2
            repeat any_goals first | assumption | wp_step
            exact hQ _ _ q1 q2
          | _ => exact hr2.elim
    | _ => exact hr.elim
/-- sorted(a set of texts) -/
theorem sorted_setZ {a : Addr} {L : List Str} {Q : Value → Shared → Prop} (R : SetZ w s.heap a L) (hh : A.handled = none)
    (hQ : ∀ s' p (out : Array Value) (c : Nat) (zs : List Str), (∀ b o, s.heap.get? b = some o → s'.heap.get? b = some o) → s'.gens = s.gens → s'.os = s.os → s.heap.objs.size ≤ p →
      s'.heap.get? p = some (seqObj "list" out c) → StrsAre out.toList zs → zs.Perm L → sortedS zs = true → Q (.ref p) s') :
    wpAny (model P w) A (call (.builtin "sorted") [.ref a]) Q E s := by
  obtain ⟨o, es, ep, t, ho, ⟨hex, hd⟩, ⟨g, pm, nd⟩, ⟨hb, hf⟩, hr, hl⟩ := R
  refine Calls.call_function_entry kind_sorted plain_sorted entry_sorted (args_sorted1 _) ?_
  unfold Builtin.«sorted»
  refine wpAny_bind (m := checkCount "sorted" 1 1 _) (wpAny_pure ?_)
  refine wpAny_bind (collect_set (A := A.in1) hh ⟨o, ho, hex.1, hd⟩ hf hb hr hl fun s1 vs k1 hz g1 o1 pv => ?_)
  have hI : StrsAre vs (vs.map strOf) := strsAre_map vs fun v hv => by
    obtain ⟨e, he, rfl⟩ := List.mem_map.mp (pv.mem_iff.mp hv)
    obtain ⟨x, tk, h1, _⟩ := g e he
    exact ⟨x, tk, h1⟩
  have hvl : vs.length ≤ sizeLine := by
    rw [pv.length_eq, List.length_map, Array.length_toList]
    exact fits_of_scanBound hb
  have pz : (vs.map strOf).Perm L := by
    have q := pv.map strOf
    rw [List.map_map] at q
    exact q.trans pm
  refine wpAny_bind (wpAny_newList ?_ hvl)
  have hoL : (s1.heap.push (seqObj "list" vs.toArray 0)).get? s1.heap.objs.size = some (seqObj "list" vs.toArray 0) := Heap.get?_push_size _ rfl
  refine wpAny_bind (wpAny_holding (wpAny_call_entry slot_list_sort ⟨_, hoL, rfl⟩ entry_list_sort (list_sort_treeKAny strKind_oneLt hoL hI.keysOf (fun v1 v2 rest e => keyKind_strs (by rw [← e]; exact hI)) hvl fun st' hp hs => ⟨_, rfl, ?_⟩) (args_list_sort _)))
  obtain ⟨zs, q1, q2, q3⟩ := sorted_out_str hI hp hs
  obtain ⟨c, hc⟩ := sortedHeap_at (vs := vs) (out := (arrOf st').map (·.2)) hoL
  refine wpAny_pure ⟨_, rfl, hQ _ s1.heap.objs.size _ c zs (fun b u e => ?_) g1 o1 hz hc q1 (q2.trans pz) q3⟩
  have q := k1 b u e
  have hlt := Heap.lt_size q
  refine (sortedHeap_old (Nat.ne_of_lt hlt) (by rw [size_push']; exact Nat.lt_succ_of_lt hlt)).trans ?_
  exact Heap.get?_push_of_some _ q
end
end DL
namespace DL
open PySem PySem.Spec PyProof.Rows L2
/-- the set of texts at a -/
def SetZO (w : World) (a : Addr) (L : List Str) : HO := .ext fun h => SetZ w h a L
theorem setZO_new {w : World} {P : Program} {H : Hp} {h : Heap} {a : Addr} {L : List Str} (R : SetZ w h a L) : ObjOk P w H h a (SetZO w a L) := by
  have ⟨o, _, _, _, ho, _⟩ := R
  exact ⟨R, ⟨o, ho⟩, fun h1 h2 p k => SetZ.keep p k⟩
theorem vals_of_strs : ∀ {us : List Value} {zs : List Str}, StrsAre us zs → Vals (zs.map V.str) us
  | _, _, .nil => .nil
  | _, _, .cons x t h => .cons (a := V.str x) ⟨t, rfl⟩ (vals_of_strs h)
section
variable {X : Cx} {ρ : Rho} {M : Mp} {Φ : D → Mp → Prop} {e : Expr} {pos p p2 pos2 : Pos}
def rSetZ (K : PySem.W.Frag) (w : World) : List V → Hp → VK → Prop := fun xs H Q => ∃ (l : Addr) (zs : List Str), xs = [V.ref l] ∧ SqL K H l (zs.map V.str) ∧ zs.length + 1 < scanBound ∧ ∀ p : Addr, H p = none → Q (.ref p) (upd H p (SetZO w p (dedZ [] zs)))
theorem cr_setZ (hc : X.calm = true) : CallR X (.type "set") (rSetZ X.K X.w) := by
  intro pins s σ H vs us Q I r h
  obtain ⟨l, zs, rfl, hq, hl, q⟩ := h
  rw [Vals.ref1 r]
  obtain ⟨its, rv, pl, hz⟩ := I.list hq
  refine set_of_texts zs (I.ok.hd hc) pl.isList (by simpa using strsAre_of rv) hl fun h' tk R k => ?_
  exact ⟨.ref s.heap.objs.size, _, I.laid k (Nat.le_refl _) (setZO_new R), rfl, q _ (I.hok.fresh (Nat.le_refl _))⟩
def rSortZ (w : World) : List V → Hp → VK → Prop := fun vs H Q => ∃ (a : Addr) (L : List Str), vs = [V.ref a] ∧ H a = some (SetZO w a L) ∧ L.length ≤ sizeLine ∧ ∀ (zs : List Str) (p : Addr), zs.Perm L → sortedS zs = true → H p = none → Q (.ref p) (upd H p (.lst (zs.map V.str)))
theorem cr_sortZ (hc : X.calm = true) : CallR X (.builtin "sorted") (rSortZ X.w) := by
  intro pins s σ H vs us Q I r h
  obtain ⟨a, L, rfl, ha, hl, q⟩ := h
  have R : SetZ X.w s.heap a L := (I.hok a _ ha).1
  rw [Vals.ref1 r]
  refine sorted_setZ R (I.ok.hd hc) fun s' p out c zs k g o hp hg hi pm hs => ?_
  have hlen : (zs.map V.str).length ≤ sizeLine := by rw [List.length_map, pm.length_eq]; exact hl
  have hn : H p = none := I.hok.fresh hp
  have J : Inv X pins σ (upd H p (.lst (zs.map V.str))) { s with heap := s'.heap, gens := s'.gens, drawn := s'.drawn, toks := s'.toks } :=
    I.call (ch := []) (Un.laid k hp hn) (I.hok.laid k hp ⟨hlen, out.toList, c, vals_of_strs hi, hg⟩) (by rw [g]; exact I.bare) (fun _ z => nomatch z)
  have e : s' = { s with heap := s'.heap, gens := s'.gens, drawn := s'.drawn, toks := s'.toks } := by
    cases s'; cases s; cases o; rfl
  rw [e]
  exact ⟨.ref p, _, J, rfl, q zs p pm hs hn⟩
/-- sorted(set(e)), e a list of texts -/
theorem we_sortedSetS (hm : X.mg "sorted" = none) (hm2 : X.mg "set" = none) (h : WE X ρ M e fun d M1 => ∃ zs : List Str, LstOf M1 d (zs.map D.str) ∧ zs.length < 1000 ∧ ∀ ys : List Str, ys.Perm (dedZ [] zs) → sortedS ys = true → Φ (.lst (ys.map D.str)) M1) (hc : X.calm = true := by rfl)
    (hg : Gl X "sorted" := by rfl) (hg2 : Gl X "set" := by rfl) (he : starEach [.Call (.Name "set" p2) [e] [] pos2] X.env = (false, eval (.Call (.Name "set" p2) [e] [] pos2) X.env) :: starEach [] X.env := by rfl) (hpl : (backTo pos (starEach [] X.env)).any (·.1) = false := by rfl)
    (he2 : starEach [e] X.env = (false, eval e X.env) :: starEach [] X.env := by rfl) (hpl2 : (backTo pos2 (starEach [] X.env)).any (·.1) = false := by rfl) : WE X ρ M (.Call (.Name "sorted" p) [.Call (.Name "set" p2) [e] [] pos2] [] pos) Φ := .mk fun {Z} σ H Q en w k =>
  eOf (pe_callB (cr_sortZ hc) hg hm (by decide +kernel) (pa_cons (pe_callTy (cr_setZ hc) hg2 hm2 (by decide +kernel) pa_sem (by decide) (by decide) he2 hpl2) pa_nil he) (by decide) (by decide) he hpl)
    ((wa_cons (ΦA := fun ds M2 => ∃ d, ∃ zs : List Str, ds = [d] ∧ LstOf M2 d (zs.map D.str) ∧ zs.length < 1000 ∧ ∀ ys : List Str, ys.Perm (dedZ [] zs) → sortedS ys = true → Φ (.lst (ys.map D.str)) M2) (h.imp fun d M1 ⟨zs, h1, h2, h3⟩ => wa_nil ⟨d, zs, rfl, h1, h2, h3⟩) he2).run σ H _ en w fun vs ds H1 M1 e1 w1 r1 hz => by
      obtain ⟨d, zs, rfl, hl, hn, hz⟩ := hz
      cases r1 with
      | cons r1 r2 =>
        cases r2
        obtain ⟨l, us, rfl, hq, rs⟩ := r1.asLst w1 hl
        obtain rfl := rs.strs
        have hd := dedZ_len [] zs
        rw [List.length_nil] at hd
        refine ⟨l, zs, rfl, hq, by unfold scanBound; omega, fun q hq0 => ⟨q, _, rfl, upd_same, by rw [sizeLine_eq]; omega, fun ys q2 pm hs hq2 => ?_⟩⟩
        have x1 := Ext.new (o := SetZO X.w q (dedZ [] zs)) w1 hq0
        exact (k.step (e1.trans x1)).new (w1.new hq0) hq2 (.lst upd_same ((w1.new hq0).fresh hq2) (Reps.ofStrs ys)) (hz ys pm hs))
end
end DL
namespace PL
open PySem PySem.Spec SX TL PyProof.Rows DL
def leZ (a b : Str) : Bool := !ltCps b.cps.toList a.cps.toList
theorem leZ_iff (a b : Str) : leZ a b = true ↔ a.cps.toList ≤ b.cps.toList := by
  unfold leZ
  rw [ltCps_eq, Bool.not_eq_true', decide_eq_false_iff_not]
  exact List.not_lt
theorem str_ext {a b : Str} (h : a.cps.toList = b.cps.toList) : a = b := by
  obtain ⟨⟨a⟩⟩ := a
  obtain ⟨⟨b⟩⟩ := b
  simp only at h
  subst h; rfl
theorem leZ_trans {a b c : Str} (h : leZ a b = true) (g : leZ b c = true) : leZ a c = true := (leZ_iff _ _).mpr (List.le_trans ((leZ_iff _ _).mp h) ((leZ_iff _ _).mp g))
theorem leZ_total (a b : Str) : leZ a b = true ∨ leZ b a = true := (List.le_total a.cps.toList b.cps.toList).imp (leZ_iff _ _).mpr (leZ_iff _ _).mpr
theorem leZ_anti {a b : Str} (h : leZ a b = true) (g : leZ b a = true) : a = b := str_ext (List.le_antisymm ((leZ_iff _ _).mp h) ((leZ_iff _ _).mp g))
theorem rising_pw : ∀ (p : Str) (l : List Str), risingS p l = true → (p :: l).Pairwise fun a b => leZ a b = true
  | p, [], _ => List.pairwise_cons.mpr ⟨fun _ h => (nomatch h), List.Pairwise.nil⟩
  | p, x :: r, h => by
    obtain ⟨h1, h2⟩ := Bool.and_eq_true_iff.mp (show (leZ p x && risingS x r) = true from h)
    have ih := rising_pw x r h2
    refine List.pairwise_cons.mpr ⟨fun y hy => ?_, ih⟩
    rcases List.mem_cons.mp hy with rfl | hy
    · exact h1
    · exact leZ_trans h1 (List.rel_of_pairwise_cons ih hy)
theorem sorted_pw : ∀ (l : List Str), sortedS l = true → l.Pairwise fun a b => leZ a b = true
  | [], _ => .nil
  | x :: r, h => rising_pw x r h
def insZ (x : Str) : List Str → List Str
  | [] => [x]
  | y :: r => if leZ x y = true then x :: y :: r else y :: insZ x r
theorem insZ_perm (x : Str) : ∀ l : List Str, (insZ x l).Perm (x :: l)
  | [] => .refl _
  | y :: r => by
    unfold insZ
    split
    · exact .refl _
    · exact ((insZ_perm x r).cons y).trans (.swap x y r)
theorem insZ_pw (x : Str) : ∀ l : List Str, (l.Pairwise fun a b => leZ a b = true) → (insZ x l).Pairwise fun a b => leZ a b = true
  | [], _ => List.pairwise_cons.mpr ⟨fun _ h => (nomatch h), List.Pairwise.nil⟩
  | y :: r, h => by
    obtain ⟨h1, h2⟩ := List.pairwise_cons.mp h
    unfold insZ
    split
    · rename_i q
      refine List.pairwise_cons.mpr ⟨fun z hz => ?_, h⟩
      rcases List.mem_cons.mp hz with rfl | hz
      · exact q
      · exact leZ_trans q (h1 z hz)
    · rename_i q
      refine List.pairwise_cons.mpr ⟨fun z hz => ?_, insZ_pw x r h2⟩
      rcases List.mem_cons.mp ((insZ_perm x r).mem_iff.mp hz) with rfl | hz
      · exact (leZ_total z y).resolve_left q
      · exact h1 z hz
def srtZ (l : List Str) : List Str := l.foldr insZ []
theorem srtZ_perm : ∀ l : List Str, (srtZ l).Perm l
  | [] => .refl _
  | x :: l => (insZ_perm x (srtZ l)).trans ((srtZ_perm l).cons x)
theorem srtZ_pw : ∀ l : List Str, (srtZ l).Pairwise fun a b => leZ a b = true
  | [] => .nil
  | x :: l => insZ_pw x _ (srtZ_pw l)
/-- ascending, none twice -/
def nmsOf (zs : List Str) : List Str := srtZ (dedZ [] zs)
theorem pw_perm_eq : ∀ {l m : List Str}, (l.Pairwise fun a b => leZ a b = true) → (m.Pairwise fun a b => leZ a b = true) → l.Perm m → l = m
  | [], m, _, _, p => (List.Perm.nil_eq p)
  | x :: l, [], _, _, p => absurd p.length_eq (by simp)
  | x :: l, y :: m, h, g, p => by
    obtain ⟨h1, h2⟩ := List.pairwise_cons.mp h
    obtain ⟨g1, g2⟩ := List.pairwise_cons.mp g
    have e : x = y := by
      rcases List.mem_cons.mp (p.mem_iff.mp List.mem_cons_self) with e | hx
      · exact e
      · rcases List.mem_cons.mp (p.mem_iff.mpr List.mem_cons_self) with e | hy
        · exact e.symm
        · exact leZ_anti (h1 y hy) (g1 x hx)
    subst e
    rw [pw_perm_eq h2 g2 ((List.perm_cons x).mp p)]
theorem nmsOf_uniq {zs ys : List Str} (p : ys.Perm (dedZ [] zs)) (h : sortedS ys = true) : ys = nmsOf zs := pw_perm_eq (sorted_pw ys h) (srtZ_pw _) (p.trans (srtZ_perm _).symm)
theorem nmsOf_mem (zs : List Str) (k : Str) : k ∈ nmsOf zs ↔ k ∈ zs := by
  unfold nmsOf
  rw [(srtZ_perm _).mem_iff, dedZ_mem]
  simp
theorem nmsOf_nd (zs : List Str) : (nmsOf zs).Nodup := (srtZ_perm _).nodup_iff.mpr (dedZ_nd [] zs .nil)
theorem nmsOf_len (zs : List Str) : (nmsOf zs).length ≤ zs.length := by
  unfold nmsOf
  rw [(srtZ_perm _).length_eq]
  have := dedZ_len [] zs
  simpa using this
theorem nmsOf_congr {zs ws : List Str} (h : ∀ k, k ∈ zs ↔ k ∈ ws) : nmsOf zs = nmsOf ws :=
  pw_perm_eq (srtZ_pw _) (srtZ_pw _) ((List.perm_ext_iff_of_nodup (nmsOf_nd zs) (nmsOf_nd ws)).mpr fun k => by rw [nmsOf_mem, nmsOf_mem]; exact h k)
theorem nmsOf_one (x : Str) : nmsOf [x] = [x] := rfl
mutual
/-- the names, as they stand in the text -/
def lv : T → List Str
  | .one => []
  | .name x => [S x]
  | .cop _ _ t => lv t
  | .row _ ts => lvL ts
def lvL : List T → List Str
  | [] => []
  | t :: ts => lv t ++ lvL ts
end
theorem lvL_flat : ∀ ts : List T, lvL ts = ts.flatMap lv
  | [] => rfl
  | t :: ts => by rw [lvL, lvL_flat ts, List.flatMap_cons]
def nmT (t : T) : List Str := nmsOf (lv t)
theorem lv_kids {t : T} (h : ∀ x, t ≠ .name x) : lv t = (kids t).flatMap fun q => lv q.2 := by
  cases t with
  | one => rw [lv]; rfl
  | name x => exact absurd rfl (h x)
  | cop s n u => rw [lv]; simp [kids]
  | row s ts => rw [lv, lvL_flat, kids, List.flatMap_map]
theorem lv_told : ∀ {t : T}, Told t → lv t = []
  | .one, _ => by rw [lv]
  | .name x, h => h.elim
  | .cop s n u, h => by rw [lv]; exact lv_told h
  | .row s ts, h => by
    rw [lv, lvL_flat]
    exact List.flatMap_eq_nil_iff.mpr fun u hu => lv_told (tolds_all.mp h u hu)
theorem nmT_told {t : T} (h : Told t) : nmT t = [] := by unfold nmT; rw [lv_told h]; rfl
theorem nmT_mem (t : T) (k : Str) : k ∈ nmT t ↔ k ∈ lv t := nmsOf_mem _ _
theorem nmT_len (t : T) : (nmT t).length ≤ (lv t).length := nmsOf_len _
/-- the names of the parts, put together -/
theorem nmT_kids {t : T} (h : ∀ x, t ≠ .name x) : nmsOf ((kids t).flatMap fun q => nmT q.2) = nmT t := by
  unfold nmT
  rw [lv_kids h]
  refine nmsOf_congr fun k => ?_
  simp only [List.mem_flatMap, nmsOf_mem]
theorem flat_len {α : Type} (f g : α → List Str) (h : ∀ x, (f x).length ≤ (g x).length) : ∀ l : List α, (l.flatMap f).length ≤ (l.flatMap g).length
  | [] => Nat.le_refl _
  | x :: l => by
    rw [List.flatMap_cons, List.flatMap_cons, List.length_append, List.length_append]
    have := h x
    have := flat_len f g h l
    omega
theorem kid_names {t : T} {q : Nat × T} (hq : q ∈ kids t) : (nmT q.2).length ≤ (nmT t).length ∧ (lv q.2).length ≤ (lv t).length := by
  have hn : ∀ x, t ≠ .name x := fun x e => by rw [e] at hq; simp [kids] at hq
  have e := lv_kids hn
  constructor
  · refine List.Nodup.length_le_of_subset (nmsOf_nd _) fun k hk => ?_
    rw [nmT_mem] at hk ⊢
    rw [e]
    exact List.mem_flatMap.mpr ⟨q, hq, hk⟩
  · rw [e]
    generalize kids t = l at hq
    induction l with
    | nil => cases hq
    | cons a r ih =>
      rw [List.flatMap_cons, List.length_append]
      rcases List.mem_cons.mp hq with rfl | hq
      · omega
      · have := ih hq
        omega
end PL
namespace W
open PySem PySem.Spec PyProof.Rows L2 DL SX PL
section
variable {P : Program} {w : World} {K : PySem.W.Frag} {mg : Str → Option Value} {base : Heap}
def cNamesN (h : Nat) : Con := fun ds M Φ => ∃ t, ds = [tS (txt t)] ∧ Good t ∧ (lv t).length < 1000 ∧ (txt t).length ≤ 1000000 ∧ ht t ≤ h ∧ Φ (.lst ((nmT t).map D.str)) M
theorem wordT_nn {t : T} (h : ∀ x, t ≠ .name x) : decide (wordT t = ("name" : Str)) = false := by
  cases t with
  | one => decide +kernel
  | name x => exact absurd rfl (h x)
  | cop s n u =>
    show decide (wrd s = ("name" : Str)) = false
    cases s <;> decide +kernel
  | row s ts =>
    show decide (wrd s = ("name" : Str)) = false
    cases s <;> decide +kernel
theorem nmT_name (x : List Nat) : nmT (.name x) = [S x] := by
  unfold nmT
  rw [lv]; rfl
abbrev nNin : List Str := ["text", "word", "groups", "found", "many", "part", "name"]
theorem ok_names_n (h : Nat) (F : Fx w K mg) (F1 : Fc P w K mg base "groups_in" [] 3 1 cGroupsIn) (F2 : ∀ j, h = j + 1 → Fc P w K mg base "names_in" [] (j + 4) 1 (cNamesN j)) :
    BodyOk P w K mg base "names_in" s_names_in nNin 1 (h + 3) (cNamesN h) := by
  intro f cdv A outer s H E hr ds M Φ hl hc
  obtain ⟨t, rfl, hg, hlv, hl, hh, hc⟩ := hc
  have nd : nNin.Nodup := by decide +kernel
  refine wss_cons (ws_asg (we_call F1 (hr.mono (by omega)) (wa_cons (we_var 0 rfl (wa_nil ⟨rfl, _, rfl, hg, hl, ?_⟩)))))
  refine wg_tup ⟨rfl, rfl, wgs_cons (wg_name 1 (wgs_cons (wg_name 2 (wgs_nil ⟨rfl, ?_⟩) nd)) nd)⟩
  refine wss_cons (ws_if (wt_eqS (we_var 1 rfl (we_gstr F.gNAME ⟨_, rfl, ?_⟩))))
  by_cases hn : ∃ x, t = .name x
  · obtain ⟨x, rfl⟩ := hn
    rw [show decide (wordT (.name x) = ("name" : Str)) = true from rfl]
    rw [nmT_name] at hc
    exact wss_cons (ws_ret (we_lst (wa_cons (we_var 0 rfl (wa_nil ⟨sz1, Lets.of (by rw [txt] at *; exact hc)⟩)))))
  have hn : ∀ x, t ≠ .name x := fun x e => hn ⟨x, e⟩
  rw [wordT_nn hn]
  have hk := kids_len hg
  have tot : ∀ i, (((kids t).take i).flatMap fun q => nmT q.2).length < 1000 := fun i => by
    have h1 := flat_len (fun q : Nat × T => nmT q.2) (fun q => lv q.2) (fun q => nmT_len q.2) (kids t)
    rw [← lv_kids hn] at h1
    have h2 : (((kids t).take i).flatMap fun q => nmT q.2).length ≤ ((kids t).flatMap fun q => nmT q.2).length := by
      conv => rhs; rw [← List.take_append_drop i (kids t)]
      rw [List.flatMap_append, List.length_append]
      omega
    omega
  refine wss_nil (wss_cons (ws_set 3 nd (we_lstM (wa_nil ⟨Nat.zero_le _, fun p hp => ?_⟩))))
  refine wss_cons (ws_for PassesOwn.never (wi_list (we_var 2 rfl ⟨_, .inl rfl, ?_⟩)))
  refine ⟨fun i ρ' M' => ∃ o1 o2, ρ' = [some (tS (txt t)), some (.str (wordT t)), some (.lst (grpD t)), some (.ob p), o1, o2, none] ∧ M' = mset M p (.lst ((((kids t).take i).flatMap fun q => nmT q.2).map D.str)), ⟨_, _, rfl, rfl⟩, ?_, ?_⟩
  · rintro i x ρ' M' hx ⟨o1, o2, rfl, rfl⟩
    rw [grpD, List.getElem?_map] at hx
    obtain ⟨q, hq, rfl⟩ := Option.map_eq_some_iff.mp hx
    have hm := List.mem_of_getElem? hq
    obtain ⟨g1, g2, g3, g4, g5⟩ := kids_ok hm hg
    obtain ⟨n1, n2⟩ := kid_names hm
    refine wg_tup ⟨rfl, rfl, wgs_cons (wg_name 4 (wgs_cons (wg_name 5 (wgs_nil ⟨rfl, ?_⟩) nd)) nd)⟩
    obtain ⟨j, rfl⟩ : ∃ j, h = j + 1 := ⟨h - 1, by omega⟩
    have e : ((kids t).take (i + 1)).flatMap (fun q => nmT q.2) = ((kids t).take i).flatMap (fun q => nmT q.2) ++ nmT q.2 := by
      rw [take_snoc hq, List.flatMap_append]; simp
    have h1000 := tot (i + 1)
    rw [e, List.length_append] at h1000
    refine wss_cons (ws_expr (we_extend (we_var 3 rfl ⟨p, _, rfl, mset_same, we_call (F2 j rfl) (hr.mono (by omega)) (wa_cons (we_var 5 rfl (wa_nil ⟨rfl, q.2, rfl, g1, by omega, by omega, by omega, _, _, mset_same, rfl, ?_, ?_⟩)))⟩)))
    · rw [List.length_map, List.length_map, sizeLine_eq]; omega
    rw [mset_mset, ← List.map_append, ← e]
    exact wss_nil ⟨_, _, rfl, rfl⟩
  · rintro ρ' M' ⟨o1, o2, rfl, rfl⟩
    have el : (grpD t).length = (kids t).length := by rw [grpD, List.length_map]
    rw [el, List.take_length]
    have h1000 := tot (kids t).length
    rw [List.take_length] at h1000
    refine wss_let (M' := M) (ρ' := [some (tS (txt t)), some (.str (wordT t)), some (.lst (grpD t)), some (.lst (((kids t).flatMap fun q => nmT q.2).map D.str)), none, none, none]) (les_new hp) ?_ ?_
    · exact .val (.same _) (.val (.same _) (.val (.same _) (.val (.lst mset_same hp) (.drop (.drop (.drop .nil))))))
    refine wss_cons (ws_ret (we_sortedSetS (F.bn _ (by decide +kernel)) (F.bn _ (by decide +kernel)) (we_lc nd (blkOk_by (N := nNin) (sc := defScope s_names_in) (own := [("name", 6)]) (by decide +kernel)) (fun _ _ _ _ _ => pg_name (i := 6) nd rfl (Or.inl rfl)) (gt_name (by decide)) (fun _ _ _ _ _ => pts_nil) tk_nil
      (wi_list (we_var 3 rfl ⟨_, .inl rfl, ?_⟩)))))
    refine ⟨by rw [List.length_map, sizeLine_eq]; omega, fun i acc M' => M' = M ∧ acc = (((kids t).flatMap fun q => nmT q.2).take i).map D.str, ⟨rfl, rfl⟩, ?_, ?_⟩
    · rintro i x acc M' hx ⟨rfl, rfl⟩
      rw [List.getElem?_map] at hx
      obtain ⟨z, hz, rfl⟩ := Option.map_eq_some_iff.mp hx
      intro s1 H1 C' cl fp
      refine we_strS (F.bn _ (by decide +kernel)) (we_var 6 rfl ⟨z, rfl, rfl, ?_⟩)
      rw [take_snoc hz, List.map_append]; rfl
    · rintro acc M' ⟨rfl, rfl⟩
      refine ⟨(kids t).flatMap fun q => nmT q.2, by rw [List.length_map, List.take_length]; rfl, by omega, fun ys hy hs => Lets.of ?_⟩
      rw [nmsOf_uniq hy hs, nmT_kids hn]
      exact hc
end
mutual
/-- the plan as an instance of the class at C, with its names -/
def planN (C : Addr) : T → D
  | .one => .ins C (six (tS (txt .one)) (.tup []) (.str (wordT .one)) (.lst []) (.bl false) (.int (ppl .one : Nat)))
  | .name x => .ins C (six (tS (txt (.name x))) (.tup ((nmT (.name x)).map D.str)) (.str (wordT (.name x))) (.lst []) (.bl false) (.int (ppl (.name x) : Nat)))
  | .cop s n t => .ins C (six (tS (txt (.cop s n t))) (.tup ((nmT (.cop s n t)).map D.str)) (.str (wordT (.cop s n t))) (.lst [.tup [.int (n : Nat), planN C t]]) (.bl true) (.int (ppl (.cop s n t) : Nat)))
  | .row s ts => .ins C (six (tS (txt (.row s ts))) (.tup ((nmT (.row s ts)).map D.str)) (.str (wordT (.row s ts))) (.lst (plansN C ts)) (.bl false) (.int (ppl (.row s ts) : Nat)))
def plansN (C : Addr) : List T → List D
  | [] => []
  | t :: ts => .tup [.int ((1 : Nat) : Int), planN C t] :: plansN C ts
end
theorem plansN_map (C : Addr) : ∀ ts : List T, plansN C ts = ts.map fun t => .tup [.int ((1 : Nat) : Int), planN C t]
  | [] => by rw [plansN]; rfl
  | t :: ts => by rw [plansN, plansN_map C ts, List.map_cons]
def subsN (C : Addr) (t : T) : List D := (kids t).map fun q => .tup [.int (q.1 : Nat), planN C q.2]
def fldsN (C : Addr) (t : T) : List (Str × D) := six (tS (txt t)) (.tup ((nmT t).map D.str)) (.str (wordT t)) (.lst (subsN C t)) (.bl (isCop t)) (.int (ppl t : Nat))
theorem planN_ins (C : Addr) (t : T) : planN C t = .ins C (fldsN C t) := by
  cases t with
  | one =>
    rw [planN]; unfold fldsN
    rw [nmT_told (t := .one) trivial]; rfl
  | name x => rw [planN]; rfl
  | cop s n t => rw [planN]; rfl
  | row s ts =>
    rw [planN, plansN_map]
    unfold fldsN subsN kids
    rw [List.map_map]; rfl
mutual
theorem planN_told (C : Addr) : ∀ {t : T}, Told t → planN C t = planD C t
  | .one, _ => by rw [planN, planD]
  | .name x, h => h.elim
  | .cop s n t, h => by
    have h' : Told t := h
    rw [planN, planD, planN_told C h', nmT_told (t := .cop s n t) h]; rfl
  | .row s ts, h => by
    have h' : Tolds ts := h
    rw [planN, planD, plansN_told C h', nmT_told (t := .row s ts) h]; rfl
theorem plansN_told (C : Addr) : ∀ {ts : List T}, Tolds ts → plansN C ts = plansD C ts
  | [], _ => by rw [plansN, plansD]
  | t :: ts, h => by rw [plansN, plansD, planN_told C h.1, plansN_told C h.2]
end
end W
namespace W
open PySem PySem.Spec PyProof.Rows L2 DL SX PL
section
variable {P : Program} {w : World} {K : PySem.W.Frag} {mg : Str → Option Value} {base : Heap} {C : Addr}
def cInitN (C : Addr) (h : Nat) : Con := fun ds M Φ => ∃ a t, ds = [.ob a, tS (txt t)] ∧ Good t ∧ (lv t).length < 1000 ∧ (nmT t).length ≤ 3 ∧ (txt t).length ≤ 100000 ∧ ht t ≤ h ∧ ht t ≤ 60 ∧ M a = some (.ins C []) ∧ Φ .non (mset M a (.ins C (fldsN C t)))
/-- Plan(e) -/
theorem we_plan_n {X : Cx} {ρ : Rho} {M : Mp} {Φ : D → Mp → Prop} {e : Expr} {p pos : Pos} {h k : Nat} (F : Kc X.prog X.w X.K X.mg X.base "Plan" C [] k 2 (cInitN C h)) (hr : Room (k + 1) X.A)
    (q : WE X ρ M e fun d M1 => ∃ t, d = tS (txt t) ∧ Good t ∧ (lv t).length < 1000 ∧ (nmT t).length ≤ 3 ∧ (txt t).length ≤ 100000 ∧ ht t ≤ h ∧ ht t ≤ 60 ∧ Φ (planN C t) M1) (hg : Gl X "Plan" := by rfl)
    (he : starEach [e] X.env = (false, eval e X.env) :: starEach [] X.env := by rfl) (hpl : (backTo pos (starEach [] X.env)).any (·.1) = false := by rfl) : WE X ρ M (.Call (.Name "Plan" p) [e] [] pos) Φ :=
  we_make F hr (wa_cons (q.imp fun d M1 ⟨t, e1, h1, h2, h3, h4, h5, h6, h7⟩ => wa_nil fun a ha => ⟨rfl, a, t, by rw [e1]; rfl, h1, h2, h3, h4, h5, h6, mset_same, rfl, by
    rw [mset_mset]
    exact ⟨_, M1, les_new ha, .ins mset_same ha, by rw [← planN_ins]; exact h7⟩⟩) he) hg (he := he) (hpl := hpl)
theorem ok_init_n (h : Nat) (F : Fx w K mg) (X : Px K mg C) (F1 : Fc P w K mg base "is_plan_text" [] (h + 4) 2 (cPlanText h)) (F2 : Fc P w K mg base "names_in" [] (h + 4) 1 (cNamesN h)) (F3 : Fc P w K mg base "groups_in" [] 3 1 cGroupsIn)
    (F4 : ∀ j, h = j + 1 → Kc P w K mg base "Plan" C [] (2 * j + 6) 2 (cInitN C j)) : BodyOk P w K mg base "Plan.__init__" s_Plan___init__ nInit 2 (2 * h + 5) (cInitN C h) := by
  intro f cdv A outer s H E hr ds M Φ hl hc
  obtain ⟨a, t, rfl, hg, hlv, hn3, hl, hh, h60, hM, hc⟩ := hc
  have nd : nInit.Nodup := by decide +kernel
  have hk := kids_len hg
  obtain ⟨ps, hcmp⟩ := grp_cmp hg
  -- nothing is wrong
  refine wss_cons (ws_if (wt_ww (ww_or (wt_not (wt_val (we_isi (F.bn _ (by decide +kernel)) (we_var 1 rfl (we_bty (F.bn _ (by decide +kernel)) rfl ⟨_, _, true, rfl, rfl, (by intro C h; cases h), rfl, _, rfl, ?_⟩))))))))
  refine ww_or (wt_not (wt_val (we_call F1 (hr.mono (by omega)) (wa_cons (we_var 1 rfl (wa_cons (we_int (wa_nil ⟨rfl, t, 0, rfl, hg, by omega, hh, by omega, _, rfl, ?_⟩))))))))
  refine ww_or1 (wt_gtI (we_len (F.bn _ (by decide +kernel)) (we_call F2 (hr.mono (by omega)) (wa_cons (we_var 1 rfl (wa_nil ⟨rfl, t, rfl, hg, hlv, by omega, hh, _, lenL, we_gint F.gMOST_NAMES ⟨_, _, rfl, rfl, ?_⟩⟩))))))
  rw [decide_eq_false (show ¬ (3 : Int) < ((((nmT t).map D.str).length : Nat) : Int) by rw [List.length_map]; omega)]
  refine wss_nil ?_
  -- the fields
  refine wss_cons (ws_fld (C := C) (we_var 1 rfl (we_var 0 rfl ⟨a, _, rfl, hM, X.cl, X.na _ (by decide +kernel), by decide, ?_⟩)))
  rw [put1]
  refine wss_cons (ws_fld (C := C) (we_tupleOf (F.bn _ (by decide +kernel)) (we_call F2 (hr.mono (by omega)) (wa_cons (we_var 1 rfl (wa_nil ⟨rfl, t, rfl, hg, hlv, by omega, hh, _, .inl rfl, we_var 0 rfl ⟨a, _, rfl, mset_same, X.cl, X.na _ (by decide +kernel), sl1, ?_⟩⟩))))))
  rw [mset_mset, put2]
  refine wss_cons (ws_asg (we_call F3 (hr.mono (by omega)) (wa_cons (we_var 1 rfl (wa_nil ⟨rfl, t, rfl, hg, by omega, ?_⟩)))))
  refine wg_tup ⟨rfl, rfl, wgs_cons (wg_fld (C := C) (we_var 0 rfl ⟨a, _, rfl, mset_same, X.cl, X.na _ (by decide +kernel), sl2, wgs_cons (wg_name 2 (wgs_nil ⟨rfl, ?_⟩) nd)⟩))⟩
  rw [mset_mset, put3]
  refine wss_cons (ws_fld (C := C) (we_lc nd (blkOk_by (N := nInit) (sc := defScope s_Plan___init__) (own := [("many", 3), ("part", 4)]) (by decide +kernel)) (fun _ _ _ _ _ => pg_tup rfl (pgs_cons (pg_name (i := 3) nd rfl (Or.inl rfl)) (pgs_cons (pg_name (i := 4) nd rfl (Or.inl rfl)) pgs_nil)) rfl rfl) (gt_two (by decide) (by decide)) (fun _ _ _ _ _ => pts_nil) tk_nil
    (wi_list (we_var 2 rfl ⟨_, .inl rfl, ?_⟩))))
  refine ⟨by rw [grpD, List.length_map, sizeLine_eq]; omega, fun i acc M' => M' = mset M a (.ins C (f3 (tS (txt t)) (.tup ((nmT t).map D.str)) (.str (wordT t)))) ∧ acc = ((kids t).take i).map fun q => .tup [.int (q.1 : Nat), planN C q.2], ⟨rfl, rfl⟩, ?_, ?_⟩
  · rintro i x acc M' hx ⟨rfl, rfl⟩
    rw [grpD, List.getElem?_map] at hx
    obtain ⟨q, hq, rfl⟩ := Option.map_eq_some_iff.mp hx
    have hm := List.mem_of_getElem? hq
    obtain ⟨g1, g2, g3, g4, g5⟩ := kids_ok hm hg
    obtain ⟨n1, n2⟩ := kid_names hm
    refine ⟨_, _, rfl, ?_⟩
    intro s1 H1 C' cl fp
    obtain ⟨j, rfl⟩ : ∃ j, h = j + 1 := ⟨h - 1, by omega⟩
    refine we_tup (wa_cons (we_var 3 rfl (wa_cons (we_plan_n (F4 j rfl) (hr.mono (by omega)) (we_var 4 rfl ⟨q.2, rfl, g1, by omega, by omega, by omega, by omega, by omega, wa_nil ⟨sz2, rfl, ?_⟩⟩)))))
    rw [take_snoc hq, List.map_append]; rfl
  rintro acc M' ⟨rfl, rfl⟩
  refine we_var 0 rfl ⟨a, _, rfl, mset_same, X.cl, X.na _ (by decide +kernel), sl3, ?_⟩
  have el : (grpD t).length = (kids t).length := by rw [grpD, List.length_map]
  rw [mset_mset, put4, el, List.take_length]
  obtain ⟨c, r, ec, hcop⟩ := cop_in hg
  refine wss_cons (ws_fld (C := C) (we_inS (we_slice (we_var 1 rfl (we_int ⟨1, rfl, _, .inr (.inr ⟨_, rfl, by rw [S_len, sizeLine_eq]; omega, rfl⟩), we_txts ⟨_, _, rfl, .inl rfl, we_var 0 rfl ⟨a, _, rfl, mset_same, X.cl, X.na _ (by decide +kernel), sl4, ?_⟩⟩⟩)))))
  rw [mset_mset, put5, show cutS (S (txt t)) none (some 1) = S [c] by rw [ec, cut_1], hcop]
  -- people
  have fin : ∀ n : Int, n = (ppl t : Nat) → Φ .non (mset (mset M a (.ins C (f5 (tS (txt t)) (.tup ((nmT t).map D.str)) (.str (wordT t)) (.lst (subsN C t)) (.bl (isCop t))))) a (.ins C (putD "own_people" (.int n) (f5 (tS (txt t)) (.tup ((nmT t).map D.str)) (.str (wordT t)) (.lst (subsN C t)) (.bl (isCop t)))))) := fun n hn => by
    rw [mset_mset, put6, hn]
    exact hc
  refine wss_cons (ws_fld (C := C) (we_if (wt_neNil hr.units (we_var 2 rfl ⟨_, ps, 1, rfl, hcmp, by decide, ?_⟩))))
  by_cases hk0 : kids t = []
  · 
    have e1 : (grpD t).isEmpty = true := by unfold grpD; rw [hk0]; rfl
    rw [e1]
    refine we_int (we_var 0 rfl ⟨a, _, rfl, mset_same, X.cl, X.na _ (by decide +kernel), sl5, ?_⟩)
    exact wss_nil (fin 1 (by rw [ppl_none hk0 hg]; rfl))
  · have e1 : (grpD t).isEmpty = false := by
      unfold grpD
      cases hh2 : kids t with
      | nil => exact absurd hh2 hk0
      | cons q qs => rfl
    rw [e1]
    refine we_sum (F.bn _ (by decide +kernel)) (we_lc nd (blkOk_by (N := nInit) (sc := defScope s_Plan___init__) (own := [("many", 3), ("part", 4)]) (by decide +kernel)) (fun _ _ _ _ _ => pg_tup rfl (pgs_cons (pg_name (i := 3) nd rfl (Or.inl rfl)) (pgs_cons (pg_name (i := 4) nd rfl (Or.inl rfl)) pgs_nil)) rfl rfl) (gt_two (by decide) (by decide)) (fun _ _ _ _ _ => pts_nil) tk_nil
      (wi_list (we_fld (C := C) (we_var 0 rfl ⟨_, _, mset_same, X.cl, X.na _ (by decide +kernel), lk5_groups, _, .inl rfl, ?_⟩))))
    refine ⟨by rw [List.length_map, sizeLine_eq]; omega, fun i acc M' => M' = mset M a (.ins C (f5 (tS (txt t)) (.tup ((nmT t).map D.str)) (.str (wordT t)) (.lst (subsN C t)) (.bl (isCop t)))) ∧ acc = (((kids t).take i).map fun q => ((q.1 * ppl q.2 : Nat) : Int)).map D.int, ⟨rfl, rfl⟩, ?_, ?_⟩
    · rintro i x acc M' hx ⟨rfl, rfl⟩
      rw [List.getElem?_map] at hx
      obtain ⟨q, hq, rfl⟩ := Option.map_eq_some_iff.mp hx
      have hm := List.mem_of_getElem? hq
      obtain ⟨g1, g2, g3, g4, g5⟩ := kids_ok hm hg
      refine ⟨_, _, rfl, ?_⟩
      intro s1 H1 C' cl fp
      refine we_mulI (we_var 3 rfl (we_fld (C := C) (we_var 4 rfl ⟨_, _, by rw [planN_ins]; exact ⟨rfl, rfl⟩, X.cl, X.na _ (by decide +kernel), lk_people, _, _, rfl, rfl, mul_ok g5 (ppl_lt g1) (by omega), rfl, ?_⟩)))
      rw [take_snoc hq, List.map_append, List.map_append, ← Int.natCast_mul]; rfl
    · rintro acc M' ⟨rfl, rfl⟩
      refine ⟨_, rfl, we_var 0 rfl ⟨a, _, rfl, mset_same, X.cl, X.na _ (by decide +kernel), sl5, ?_⟩⟩
      rw [List.length_map, List.take_length]
      refine wss_nil (fin _ ?_)
      rw [ppl_kids hk0, sum_cast]
end
end W
namespace PL
open PySem SX TL
def Ok (t : T) : Prop := Good t ∧ Told t ∧ (txt t).length ≤ 100000
theorem kids_Ok {t : T} {q : Nat × T} (hq : q ∈ kids t) (h : Ok t) : Ok q.2 := by
  obtain ⟨h1, h2, h3⟩ := h
  obtain ⟨g1, g2, g3, g4, g5⟩ := kids_ok hq h1
  exact ⟨g1, kids_told hq h2, by omega⟩
def cnt (t : T) : Nat := ((kids t).map (·.1)).sum
/-- the part with the number i (of copies: any) -/
def piece : T → Nat → Option T
  | .cop _ _ t, _ => some t
  | .row _ ts, i => ts[i]?
  | _, _ => none
theorem cnt_cop (s : Bool) (n : Nat) (t : T) : cnt (.cop s n t) = n := by simp [cnt, kids]
theorem ones_sum : ∀ ts : List T, ((ts.map fun t => (1, t)).map (fun q : Nat × T => q.1)).sum = ts.length
  | [] => rfl
  | t :: ts => by rw [List.map_cons, List.map_cons, List.sum_cons, ones_sum ts, List.length_cons]; show 1 + _ = _; omega
theorem cnt_row (s : Bool) (ts : List T) : cnt (.row s ts) = ts.length := by
  unfold cnt kids; exact ones_sum ts
theorem piece_some {t : T} {i : Nat} (h : i < cnt t) : ∃ u, piece t i = some u := by
  cases t with
  | one => simp [cnt, kids] at h
  | name x => simp [cnt, kids] at h
  | cop s n t => exact ⟨t, rfl⟩
  | row s ts => rw [cnt_row] at h; exact ⟨ts[i], List.getElem?_eq_getElem h⟩
def isOneT : T → Bool
  | .one => true
  | _ => false
/-- whether the parts know one another -/
def intr : T → Bool
  | .cop s _ _ => s
  | .row s _ => s
  | _ => false
def flip (c : Nat) : Nat := if c = 43 then 42 else if c = 42 then 43 else if c = 91 then 123 else if c = 123 then 91 else if c = 93 then 125 else if c = 125 then 93 else c
mutual
def mir : T → T
  | .one => .one
  | .name x => .name x
  | .cop s n t => .cop (!s) n (mir t)
  | .row s ts => .row (!s) (mirs ts)
def mirs : List T → List T
  | [] => []
  | t :: ts => mir t :: mirs ts
end
theorem mirs_map : ∀ ts : List T, mirs ts = ts.map mir
  | [] => rfl
  | t :: ts => by rw [mirs, mirs_map ts, List.map_cons]
mutual
theorem mir_good : ∀ {t : T}, Good t → Good (mir t)
  | .one, _ => by rw [mir]; trivial
  | .name x, h => by rw [mir]; exact h
  | .cop s n t, h => by rw [mir]; exact ⟨h.1, h.2.1, mir_good h.2.2⟩
  | .row s ts, h => by
    rw [mir]
    refine ⟨by rw [mirs_map, List.length_map]; exact h.1, mirs_good h.2⟩
theorem mirs_good : ∀ {ts : List T}, Goods ts → Goods (mirs ts)
  | [], _ => by rw [mirs]; trivial
  | t :: ts, h => by rw [mirs]; exact ⟨mir_good h.1, mirs_good h.2⟩
end
end PL
namespace W
open PySem PySem.Spec PyProof.Rows L2 DL SX PL
section
variable {P : Program} {w : World} {K : PySem.W.Frag} {mg : Str → Option Value} {base : Heap} {C : Addr}
/-- what a question of the plan tells -/
def cGet (C : Addr) (g : T → D) : Con := fun ds M Φ => ∃ t, ds = [planD C t] ∧ Ok t ∧ Φ (g t) M
theorem insP {M : Mp} {t : T} (h : Told t) : InsOf M C (planD C t) (fldsD C t) := by rw [planD_told h]; exact ⟨rfl, rfl⟩
theorem ok_names (X : Px K mg C) : BodyOk P w K mg base "Plan.names" s_Plan_names ["self"] 1 0 (cGet C fun t => .tup []) := by
  intro f cdv A outer s H E hr ds M Φ hl hc
  obtain ⟨t, rfl, ok, hc⟩ := hc
  exact wss_cons (ws_ret (we_fld (C := C) (we_var 0 rfl ⟨_, _, insP ok.2.1, X.cl, X.na _ (by decide +kernel), lk_names, Lets.of hc⟩)))
theorem ok_word (X : Px K mg C) : BodyOk P w K mg base "Plan.word" s_Plan_word ["self"] 1 0 (cGet C fun t => .str (wordT t)) := by
  intro f cdv A outer s H E hr ds M Φ hl hc
  obtain ⟨t, rfl, ok, hc⟩ := hc
  exact wss_cons (ws_ret (we_fld (C := C) (we_var 0 rfl ⟨_, _, insP ok.2.1, X.cl, X.na _ (by decide +kernel), lk_word, Lets.of hc⟩)))
def cTold (C : Addr) : Con := fun ds M Φ => ∃ t, ds = [planD C t] ∧ Ok t ∧ Φ .non M
theorem ok_check_told (F1 : Pc P w K mg base C "names" 1 (cGet C fun t => .tup [])) : BodyOk P w K mg base "check_told" s_check_told ["plan"] 1 2 (cTold C) := by
  intro f cdv A outer s H E hr ds M Φ hl hc
  obtain ⟨t, rfl, ok, hc⟩ := hc
  exact wss_cons (ws_if (wt_neNilT hr.units (we_prop F1 (hr.mono (by decide)) (we_var 0 rfl ⟨_, insP ok.2.1, t, rfl, ok, [], [], 0, rfl, cmps_nil, by decide, wss_nil (wss_nil hc)⟩))))
/-- one sign turned -/
theorem turned (c : Nat) : (List.lookup (S [c]) turnedD).getD (.str (S [c])) = .str (S [PL.flip c]) := by
  have e : turnedD = [(S [43], tS [42]), (S [42], tS [43]), (S [91], tS [123]), (S [123], tS [91]), (S [93], tS [125]), (S [125], tS [93])] := by
    unfold turnedD
    rw [show ("+" : Str) = S [43] by decide +kernel, show ("*" : Str) = S [42] by decide +kernel, show ("[" : Str) = S [91] by decide +kernel, show ("{" : Str) = S [123] by decide +kernel, show ("]" : Str) = S [93] by decide +kernel, show ("}" : Str) = S [125] by decide +kernel]
  have b : ∀ d, (S [c] == S [d]) = decide (c = d) := fun d => by
    rw [S_beq_eq]
    exact decide_eq_decide.mpr ⟨fun h => by injection h, fun h => by rw [h]⟩
  rw [e]
  unfold PL.flip
  simp only [List.lookup_cons, b, List.lookup_nil]
  by_cases h1 : c = 43
  · subst h1; rfl
  by_cases h2 : c = 42
  · subst h2; rfl
  by_cases h3 : c = 91
  · subst h3; rfl
  by_cases h4 : c = 123
  · subst h4; rfl
  by_cases h5 : c = 93
  · subst h5; rfl
  by_cases h6 : c = 125
  · subst h6; rfl
  rw [if_neg h1, if_neg h2, if_neg h3, if_neg h4, if_neg h5, if_neg h6]
  simp [h1, h2, h3, h4, h5, h6]
end
end W
namespace PL
open PySem SX TL
theorem fm_congr {α β : Type} {f g : α → List β} : ∀ {l : List α}, (∀ x ∈ l, f x = g x) → l.flatMap f = l.flatMap g
  | [], _ => rfl
  | x :: l, h => by rw [List.flatMap_cons, List.flatMap_cons, h x List.mem_cons_self, fm_congr fun y hy => h y (List.mem_cons_of_mem _ hy)]
theorem piece_ht {t u : T} {i : Nat} (h : piece t i = some u) : ht u < ht t := by
  cases t with
  | one => cases h
  | name x => cases h
  | cop s n v => obtain rfl := Option.some.inj h; rw [ht]; omega
  | row s ts => have := hts_le (List.mem_of_getElem? (show ts[i]? = some u from h)); rw [ht]; omega
theorem mem_le_sum : ∀ {l : List Nat} {n : Nat}, n ∈ l → n ≤ l.sum
  | x :: l, n, h => by
    rw [List.sum_cons]
    rcases List.mem_cons.mp h with rfl | h
    · omega
    · have := mem_le_sum h; omega
mutual
theorem ppl_pos : ∀ {t : T}, Good t → 1 ≤ ppl t
  | .one, _ => by rw [ppl]; omega
  | .name x, _ => by rw [ppl]; omega
  | .cop s n t, h => by
    rw [ppl]
    have h1 := ppl_pos h.2.2
    have h2 := h.1
    exact Nat.mul_pos (by omega) h1
  | .row s ts, h => by
    rw [ppl]
    have := ppls_pos h.2
    have := h.1
    omega
theorem ppls_pos : ∀ {ts : List T}, Goods ts → ts.length ≤ ppls ts
  | [], _ => Nat.zero_le _
  | t :: ts, h => by
    rw [ppls, List.length_cons]
    have h1 := ppl_pos h.1
    have h2 := ppls_pos h.2
    omega
end
end PL
namespace PL
open PySem SX TL
theorem split_at {x : Nat} : ∀ {p p' r r' : List Nat}, (∀ c ∈ p, c ≠ x) → (∀ c ∈ p', c ≠ x) → p ++ x :: r = p' ++ x :: r' → p = p' ∧ r = r'
  | [], [], _, _, _, _, e => by injection e with _ e; exact ⟨rfl, e⟩
  | [], c :: p', _, _, _, h', e => by
    injection e with e1 e2
    exact absurd e1.symm (h' c List.mem_cons_self)
  | c :: p, [], _, _, h, _, e => by
    injection e with e1 e2
    exact absurd e1 (h c List.mem_cons_self)
  | c :: p, d :: p', r, r', h, h', e => by
    injection e with e1 e2
    obtain ⟨a, b⟩ := split_at (fun c hc => h c (List.mem_cons_of_mem _ hc)) (fun c hc => h' c (List.mem_cons_of_mem _ hc)) e2
    exact ⟨by rw [e1, a], b⟩
theorem snoc_inj {α : Type} {p q : List α} {a b : α} (h : p ++ [a] = q ++ [b]) : p = q ∧ a = b := by
  have := List.append_inj' h rfl
  exact ⟨this.1, by simpa using this.2⟩
theorem opn_inj {s s' : Bool} (h : opn s = opn s') : s = s' := by cases s <;> cases s' <;> first | rfl | cases h
theorem numL_inj {n m : Nat} (hn : n ≤ 10 ^ 30) (hm : m ≤ 10 ^ 30) (h : numL n = numL m) : n = m := by
  have l : ∀ {n : Nat}, n ≤ 10 ^ 30 → (numL n).length ≤ 31 := fun {n} h => numL_len (by decide) (Nat.lt_of_le_of_lt h (by decide))
  have a := int_num (n := n) (by have := l hn; omega)
  have b := int_num (n := m) (by have := l hm; omega)
  rw [num_S] at a b
  rw [h, b] at a
  have := Option.some.inj a
  omega
theorem letter_ne {c : Nat} (h : letter c = true) : c ≠ 49 ∧ c ≠ 40 ∧ c ≠ 91 ∧ c ≠ 123 := by
  simp only [letter, Bool.and_eq_true, decide_eq_true_eq] at h
  omega
theorem name_head {x : List Nat} (h : Good (.name x)) : ∃ c r, x = c :: r ∧ letter c = true := by
  obtain ⟨h0, _, h2⟩ := h
  cases x with
  | nil => exact absurd rfl h0
  | cons c r => exact ⟨c, r, rfl, h2 c List.mem_cons_self⟩
theorem txt_inj : ∀ (n : Nat) {t u : T}, (txt t).length ≤ n → Good t → Good u → txt t = txt u → t = u
  | 0, t, u, hn, ht, _, _ => by
    obtain ⟨c, r, e, _⟩ := txt_head ht
    rw [e] at hn; simp at hn
  | n + 1, t, u, hn, hg, hu, e => by
    have lists : ∀ {ts us : List T}, ts.map txt = us.map txt → (∀ a ∈ ts, (txt a).length ≤ n ∧ Good a) → (∀ b ∈ us, Good b) → ts = us := by
      intro ts
      induction ts with
      | nil => intro us h _ _; cases us with
        | nil => rfl
        | cons b us => cases h
      | cons a ts ih => intro us h h1 h2; cases us with
        | nil => cases h
        | cons b us =>
          injection h with e1 e2
          obtain ⟨l1, g1⟩ := h1 a List.mem_cons_self
          rw [txt_inj n l1 g1 (h2 b List.mem_cons_self) e1, ih e2 (fun x hx => h1 x (List.mem_cons_of_mem _ hx)) fun x hx => h2 x (List.mem_cons_of_mem _ hx)]
    cases t with
    | one =>
      cases u with
      | one => rfl
      | name x =>
        obtain ⟨c, r, rfl, hc⟩ := name_head hu
        rw [txt, txt] at e; injection e with e1 _
        exact absurd e1.symm (letter_ne hc).1
      | cop s m v => rw [txt, txt] at e; injection e with e1 _; cases s <;> cases e1
      | row s ts => rw [txt, txt] at e; injection e with e1 _; cases e1
    | name x =>
      obtain ⟨c, r, rfl, hc⟩ := name_head hg
      cases u with
      | one => rw [txt, txt] at e; injection e with e1 _; exact absurd e1 (letter_ne hc).1
      | name y => rw [txt, txt] at e; rw [e]
      | cop s m v => rw [txt, txt] at e; injection e with e1 _; cases s <;> first | exact absurd e1 (letter_ne hc).2.2.1 | exact absurd e1 (letter_ne hc).2.2.2
      | row s ts => rw [txt, txt] at e; injection e with e1 _; exact absurd e1 (letter_ne hc).2.1
    | cop s m v =>
      cases u with
      | one => rw [txt, txt] at e; injection e with e1 _; cases s <;> cases e1
      | name x =>
        obtain ⟨c, r, rfl, hc⟩ := name_head hu
        rw [txt, txt] at e; injection e with e1 _; cases s <;> first | exact absurd e1.symm (letter_ne hc).2.2.1 | exact absurd e1.symm (letter_ne hc).2.2.2
      | cop s' m' v' =>
        rw [txt] at hn
        rw [txt, txt] at e
        injection e with e1 e2
        obtain rfl := opn_inj e1
        obtain ⟨e3, e4⟩ := split_at (fun c hc => (wgt_num hc).2) (fun c hc => (wgt_num hc).2) e2
        obtain rfl := numL_inj hg.2.1 hu.2.1 e3
        obtain ⟨e5, _⟩ := snoc_inj e4
        rw [txt_inj n (by simp at hn; omega) hg.2.2 hu.2.2 e5]
      | row s' ts => rw [txt, txt] at e; injection e with e1 _; cases s <;> cases e1
    | row s ts =>
      cases u with
      | one => rw [txt, txt] at e; injection e with e1 _; cases e1
      | name x =>
        obtain ⟨c, r, rfl, hc⟩ := name_head hu
        rw [txt, txt] at e; injection e with e1 _; exact absurd e1.symm (letter_ne hc).2.1
      | cop s' m v => rw [txt, txt] at e; injection e with e1 _; cases s' <;> cases e1
      | row s' us =>
        have hn' := hn
        rw [txt] at hn'
        rw [txt, txt] at e
        injection e with _ e2
        obtain ⟨e3, _⟩ := snoc_inj e2
        have h0 : ts ≠ [] := fun h => by have := hg.1; rw [h] at this; simp at this
        have h0' : us ≠ [] := fun h => by have := hu.1; rw [h] at this; simp at this
        have p1 := parts_join (s := s) h0 hg.2
        have hlen : ∀ a ∈ ts, (txt a).length ≤ n ∧ Good a := fun a ha => by
          have := join_len_mem (S := sep s) (p := txt a) (ps := txts ts) (by rw [txts_map]; exact List.mem_map_of_mem ha)
          simp at hn'
          exact ⟨by omega, goods_all.mp hg.2 a ha⟩
        by_cases hs : s = s'
        · subst hs
          have p2 := parts_join (s := s) h0' hu.2
          rw [← e3, p1] at p2
          rw [txts_map, txts_map] at p2
          rw [lists p2 hlen (goods_all.mp hu.2)]
        · have : s' = !s := by cases s <;> cases s' <;> first | rfl | exact absurd rfl hs
          subst this
          have p2 := parts_none (s := s) h0' hu.2
          rw [← e3, p1] at p2
          have l2 := congrArg List.length p2
          rw [txts_map, List.length_map] at l2
          have := hg.1
          simp at l2; omega
theorem txt_eq {t u : T} (h1 : Good t) (h2 : Good u) (e : txt t = txt u) : t = u := txt_inj _ (Nat.le_refl _) h1 h2 e
abbrev CL := List (Nat × List Nat)
def tot (L : CL) (k : List Nat) : Nat := ((L.filter fun q => decide (q.2 = k)).map (·.1)).sum
def ky (L : CL) : List (List Nat) := (nmsOf (L.map fun q => S q.2)).map fun z => z.cps.toList
def pt (s : Bool) (n : Nat) (k : List Nat) : List Nat := if n = 1 then k else opn s :: (numL n ++ 32 :: (k ++ [cls s]))
def jn (s : Bool) (L : CL) : List Nat := match (ky L).map fun k => pt s (tot L k) k with
  | [x] => x
  | xs => 40 :: (joinL (sep s) xs ++ [41])
def scl (n : Nat) (L : CL) : CL := L.map fun q => (n * q.1, q.2)
mutual
def nf : T → List Nat × (Bool → CL)
  | .one => ([49], fun _ => [(1, [49])])
  | .name x => (x, fun _ => [(1, x)])
  | .cop s n u => (jn s (scl n ((nf u).2 s)), fun b => if b = s then scl n ((nf u).2 s) else [(1, jn s (scl n ((nf u).2 s)))])
  | .row s ts => (jn s (nfs s ts), fun b => if b = s then nfs s ts else [(1, jn s (nfs s ts))])
def nfs (s : Bool) : List T → CL
  | [] => []
  | t :: ts => (nf t).2 s ++ nfs s ts
end
/-- the text of the normal form; the pieces for a word, with the texts of their normal forms -/
def nrm (t : T) : List Nat := (nf t).1
def cn (b : Bool) (t : T) : CL := (nf t).2 b
def wd : T → Option Bool
  | .cop s _ _ => some s
  | .row s _ => some s
  | _ => none
theorem nfs_flat (s : Bool) : ∀ ts : List T, nfs s ts = ts.flatMap (cn s)
  | [] => by rw [nfs]; rfl
  | t :: ts => by rw [nfs, nfs_flat s ts, List.flatMap_cons]; rfl
theorem scl_one (L : CL) : scl 1 L = L := by
  unfold scl
  conv => rhs; rw [← List.map_id L]
  exact List.map_congr_left fun q _ => by simp
theorem cn_in {t : T} {s : Bool} (h : wd t = some s) : cn s t = (kids t).flatMap fun q => scl q.1 (cn s q.2) := by
  cases t with
  | one => cases h
  | name x => cases h
  | cop s' n u => cases h; unfold cn; rw [nf]; simp [kids]
  | row s' ts =>
    cases h
    unfold cn
    rw [nf]
    simp only [if_pos]
    rw [nfs_flat, kids, List.flatMap_map]
    refine fm_congr fun t _ => ?_
    exact (scl_one _).symm
theorem cn_out {t : T} {b : Bool} (h : wd t ≠ some b) : cn b t = [(1, nrm t)] := by
  cases t with
  | one => unfold cn nrm; rw [nf]
  | name x => unfold cn nrm; rw [nf]
  | cop s' n u => unfold cn nrm; rw [nf]; simp only; rw [if_neg (fun e => h (by rw [e]; rfl))]
  | row s' ts => unfold cn nrm; rw [nf]; simp only; rw [if_neg (fun e => h (by rw [e]; rfl))]
theorem nrm_in {t : T} {s : Bool} (h : wd t = some s) : nrm t = jn s (cn s t) := by
  cases t with
  | one => cases h
  | name x => cases h
  | cop s' n u => cases h; unfold nrm cn; rw [nf]; simp
  | row s' ts => cases h; unfold nrm cn; rw [nf]; simp
theorem nrm_leaf {t : T} (h : wd t = none) : nrm t = txt t := by
  cases t with
  | one => unfold nrm; rw [nf, txt]
  | name x => unfold nrm; rw [nf, txt]
  | cop s n u => cases h
  | row s ts => cases h
theorem un_S (z : Str) : S z.cps.toList = z := by cases z; rfl
theorem ky_mem {L : CL} {k : List Nat} : k ∈ ky L ↔ ∃ q ∈ L, q.2 = k := by
  unfold ky
  rw [List.mem_map]
  constructor
  · rintro ⟨z, hz, rfl⟩
    obtain ⟨q, hq, rfl⟩ := List.mem_map.mp ((nmsOf_mem _ _).mp hz)
    exact ⟨q, hq, rfl⟩
  · rintro ⟨q, hq, rfl⟩
    exact ⟨S q.2, (nmsOf_mem _ _).mpr (List.mem_map.mpr ⟨q, hq, rfl⟩), rfl⟩
theorem ky_nd (L : CL) : (ky L).Nodup := by
  unfold ky
  refine List.Pairwise.map _ (fun a b h e => h ?_) (nmsOf_nd _)
  rw [← un_S a, ← un_S b, e]
theorem ky_congr {L L' : CL} (h : ∀ k, (∃ q ∈ L, q.2 = k) ↔ ∃ q ∈ L', q.2 = k) : ky L = ky L' := by
  unfold ky
  rw [nmsOf_congr fun z => ?_]
  rw [List.mem_map, List.mem_map]
  constructor
  · rintro ⟨q, hq, rfl⟩
    obtain ⟨q', h1, h2⟩ := (h q.2).mp ⟨q, hq, rfl⟩
    exact ⟨q', h1, by rw [h2]⟩
  · rintro ⟨q, hq, rfl⟩
    obtain ⟨q', h1, h2⟩ := (h q.2).mpr ⟨q, hq, rfl⟩
    exact ⟨q', h1, by rw [h2]⟩
theorem tot_ge {L : CL} {q : Nat × List Nat} (h : q ∈ L) : q.1 ≤ tot L q.2 := by
  unfold tot
  exact mem_le_sum (List.mem_map_of_mem (List.mem_filter.mpr ⟨h, decide_eq_true rfl⟩))
theorem tot_le (L : CL) (k : List Nat) : tot L k ≤ (L.map (·.1)).sum := by
  unfold tot
  induction L with
  | nil => simp
  | cons q r ih =>
    rw [List.filter_cons]
    split
    · simp only [List.map_cons, List.sum_cons]; omega
    · simp only [List.map_cons, List.sum_cons]; omega
end PL
namespace PL
open PySem SX TL
/-- how many p knows -/
def mf : T → List Nat → Nat
  | t, i :: p => match piece t i with
    | some u => (if intr t = true then ppl t - ppl u else 0) + mf u p
    | none => 0
  | _, [] => 0
end PL
namespace PL
open PySem SX TL
mutual
/-- the fewest rows -/
def rws : T → Nat
  | .one => 1
  | .name _ => 1
  | .cop s n t => if s = true then max 1 (rws t + ppl t - n * ppl t) else n * rws t
  | .row s ts => if s = true then max 1 (exs ts - ppls ts) else rwss ts
def rwss : List T → Nat
  | [] => 0
  | t :: ts => rws t + rwss ts
def exs : List T → Nat
  | [] => 0
  | t :: ts => max (rws t + ppl t) (exs ts)
end
theorem piece_le' {t u : T} {i : Nat} (h : piece t i = some u) (hg : Good t) : ppl u ≤ ppl t ∧ Good u := by
  cases t with
  | one => cases h
  | name x => cases h
  | cop s n v =>
    obtain rfl : v = u := Option.some.inj h
    rw [show ppl (.cop s n v) = n * ppl v by rw [ppl]]
    exact ⟨Nat.le_mul_of_pos_left _ (by have := hg.1; omega), hg.2.2⟩
  | row s ts =>
    have hm := List.mem_of_getElem? (show ts[i]? = some u from h)
    refine ⟨?_, goods_all.mp hg.2 u hm⟩
    rw [ppl, ppls_sum]
    exact mem_le_sum (List.mem_map_of_mem hm)
mutual
theorem rws_pos : ∀ {t : T}, Good t → 1 ≤ rws t
  | .one, _ => by rw [rws]; exact Nat.le_refl _
  | .name x, _ => by rw [rws]; exact Nat.le_refl _
  | .cop s n t, h => by
    rw [rws]
    have := rws_pos h.2.2
    split
    · exact Nat.le_max_left _ _
    · exact Nat.mul_pos (by have := h.1; omega) this
  | .row s ts, h => by
    rw [rws]
    split
    · exact Nat.le_max_left _ _
    · have := rwss_pos h.2
      have := h.1
      omega
theorem rwss_pos : ∀ {ts : List T}, Goods ts → ts.length ≤ rwss ts
  | [], _ => Nat.zero_le _
  | t :: ts, h => by
    have h1 := rws_pos h.1
    have h2 := rwss_pos h.2
    rw [rwss, List.length_cons]; omega
end
mutual
theorem rws_le : ∀ {t : T}, Good t → rws t ≤ ppl t
  | .one, _ => by rw [rws, ppl]; exact Nat.le_refl _
  | .name x, _ => by rw [rws, ppl]; exact Nat.le_refl _
  | .cop s n t, h => by
    have h1 := rws_le h.2.2
    have h2 := ppl_pos h.2.2
    have h3 : 1 * ppl t ≤ n * ppl t := Nat.mul_le_mul_right _ (by have := h.1; omega)
    rw [rws, ppl]
    split
    · refine Nat.max_le.mpr ⟨by omega, by omega⟩
    · exact Nat.mul_le_mul_left _ h1
  | .row s ts, h => by
    have h1 := rwss_le h.2
    have h2 := exs_le h.2
    have h3 := ppls_pos h.2
    have h4 := h.1
    rw [rws, ppl]
    split
    · refine Nat.max_le.mpr ⟨by omega, by omega⟩
    · exact h1
theorem rwss_le : ∀ {ts : List T}, Goods ts → rwss ts ≤ ppls ts
  | [], _ => by rw [rwss]; exact Nat.zero_le _
  | t :: ts, h => by
    have h1 := rws_le h.1
    have h2 := rwss_le h.2
    rw [rwss, ppls]; omega
theorem exs_le : ∀ {ts : List T}, Goods ts → exs ts ≤ 2 * ppls ts
  | [], _ => by rw [exs]; exact Nat.zero_le _
  | t :: ts, h => by
    have h1 := rws_le h.1
    have h2 := exs_le h.2
    rw [exs, ppls]
    refine Nat.max_le.mpr ⟨by omega, by omega⟩
end
mutual
def pcs : T → Nat
  | .one => 1
  | .name _ => 1
  | .cop s n t => if s = true then 1 else n * pcs t
  | .row s ts => if s = true then 1 else pcss ts
def pcss : List T → Nat
  | [] => 0
  | t :: ts => pcs t + pcss ts
end
mutual
theorem pcs_le : ∀ {t : T}, Good t → pcs t ≤ rws t
  | .one, _ => by rw [rws, pcs]; exact Nat.le_refl _
  | .name x, _ => by rw [rws, pcs]; exact Nat.le_refl _
  | .cop s n t, h => by
    rw [rws, pcs]
    by_cases hs : s = true
    · rw [if_pos hs, if_pos hs]; exact Nat.le_max_left _ _
    · rw [if_neg hs, if_neg hs]; exact Nat.mul_le_mul_left _ (pcs_le h.2.2)
  | .row s ts, h => by
    rw [rws, pcs]
    by_cases hs : s = true
    · rw [if_pos hs, if_pos hs]; exact Nat.le_max_left _ _
    · rw [if_neg hs, if_neg hs]; exact pcss_le h.2
theorem pcss_le : ∀ {ts : List T}, Goods ts → pcss ts ≤ rwss ts
  | [], _ => by rw [rwss, pcss]; exact Nat.le_refl _
  | t :: ts, h => by
    have h1 := pcs_le h.1
    have h2 := pcss_le h.2
    rw [rwss, pcss]; omega
end
inductive Bar where
  | nil | at_ (i : Nat) (b : Bar) | bes (bs : List Bar)
mutual
/-- b is a bar of t: f pieces stay, l people leave -/
inductive Lb : T → Bar → Nat → Nat → Prop where
  | nil (t : T) : Lb t .nil (pcs t) 0
  | at_ {t u : T} {i f l : Nat} {b : Bar} (hI : intr t = true) (hi : i < cnt t) (hp : piece t i = some u) (h : Lb u b f l) : Lb t (.at_ i b) f (l + (ppl t - ppl u))
  | cop {t : T} {n f l : Nat} {b : Bar} (h : Lb t b f l) : Lb (.cop false n t) (.bes [b]) (n * f) (n * l)
  | row {ts : List T} {bs : List Bar} {f l : Nat} (h : Lbs ts bs f l) : Lb (.row false ts) (.bes bs) f l
inductive Lbs : List T → List Bar → Nat → Nat → Prop where
  | nil : Lbs [] [] 0 0
  | cons {t : T} {ts : List T} {b : Bar} {bs : List Bar} {f l f' l' : Nat} (h : Lb t b f l) (r : Lbs ts bs f' l') : Lbs (t :: ts) (b :: bs) (f + f') (l + l')
end
mutual
theorem Lb.sum : ∀ {t : T} {b : Bar} {f l : Nat}, Lb t b f l → Good t → f + l ≤ ppl t
  | _, _, _, _, .nil t, g => by
    have h1 := pcs_le g
    have h2 := rws_le g
    omega
  | _, _, _, _, .at_ hI hi hp h, g => by
    obtain ⟨h1, h2⟩ := piece_le' hp g
    have := Lb.sum h h2
    omega
  | _, _, _, _, .cop (n := n) h, g => by
    have := Lb.sum h g.2.2
    rw [ppl, ← Nat.mul_add]
    exact Nat.mul_le_mul_left _ this
  | _, _, _, _, .row h, g => by rw [ppl]; exact Lbs.sum h g.2
theorem Lbs.sum : ∀ {ts : List T} {bs : List Bar} {f l : Nat}, Lbs ts bs f l → Goods ts → f + l ≤ ppls ts
  | _, _, _, _, .nil, _ => Nat.zero_le _
  | _, _, _, _, .cons h r, g => by
    have h1 := Lb.sum h g.1
    have h2 := Lbs.sum r g.2
    rw [ppls]; omega
end
theorem Lbs.len : ∀ {ts : List T} {bs : List Bar} {f l : Nat}, Lbs ts bs f l → bs.length = ts.length
  | _, _, _, _, .nil => rfl
  | _, _, _, _, .cons h r => by rw [List.length_cons, List.length_cons, Lbs.len r]
end PL
namespace PL
open PySem SX TL
mutual
def nds : T → Nat
  | .one => 1
  | .name _ => 1
  | .cop _ _ t => nds t + 1
  | .row _ ts => ndss ts + 1
def ndss : List T → Nat
  | [] => 0
  | t :: ts => nds t + ndss ts
end
def lmG : Nat → Nat
  | 0 => 1
  | d + 1 => 3 * lmG d + 60
def ndG : Nat → Nat
  | 0 => 1
  | d + 1 => 3 * ndG d + 1
/-- told plans of at most m people, d deep -/
def Gt (t : T) (m d : Nat) : Prop := Good t ∧ Told t ∧ ppl t ≤ m ∧ ht t ≤ d ∧ (txt t).length ≤ lmG d ∧ nds t ≤ ndG d
/-- told plans that go deep -/
def Dp (t : T) (k : Nat) : Prop := Good t ∧ Told t ∧ ppl t ≤ 4 ^ k ∧ ht t ≤ k ∧ (txt t).length ≤ 1 + 10 * k ∧ nds t ≤ 1 + 3 * k
end PL
namespace PL
open PySem SX TL
/-- by the parts -/
theorem kids_rec {P : T → Prop} (h : ∀ t, (∀ q ∈ kids t, P q.2) → P t) : ∀ t, P t := fun t => by
  refine T.rec (motive_1 := P) (motive_2 := fun ts => ∀ u ∈ ts, P u) ?_ ?_ ?_ ?_ ?_ ?_ t
  · exact h _ fun q hq => by simp [kids] at hq
  · exact fun x => h _ fun q hq => by simp [kids] at hq
  · exact fun s n u ih => h _ fun q hq => by
      simp [kids] at hq
      rw [hq]; exact ih
  · exact fun s ts ih => h _ fun q hq => by
      obtain ⟨u, hu, rfl⟩ := List.mem_map.mp (show q ∈ ts.map fun t => (1, t) from hq)
      exact ih u hu
  · exact fun u hu => by cases hu
  · exact fun t ts h1 h2 u hu => (List.mem_cons.mp hu).elim (fun e => e ▸ h1) (h2 u)
theorem sum_sub {α : Type} [DecidableEq α] (g : α → Nat) : ∀ {ks ls : List α}, ks.Nodup → (∀ k ∈ ks, k ∈ ls) → (ks.map g).sum ≤ (ls.map g).sum
  | [], _, _, _ => by simp
  | k :: ks, ls, hn, hs => by
    obtain ⟨h1, h2⟩ := List.nodup_cons.mp hn
    have p := List.perm_cons_erase (hs k List.mem_cons_self)
    have e := (p.map g).sum_nat
    rw [List.map_cons, List.sum_cons] at e
    have := sum_sub g h2 (ls := ls.erase k) fun x hx => (List.mem_erase_of_ne (by intro e; subst e; exact h1 hx)).mpr (hs x (List.mem_cons_of_mem _ hx))
    rw [List.map_cons, List.sum_cons]
    omega
theorem kids_nds {t : T} (h : kids t ≠ []) : ((kids t).map fun q => nds q.2).sum + 1 = nds t := by
  cases t with
  | one => exact absurd rfl h
  | name x => exact absurd rfl h
  | cop s n u => rw [nds]; simp [kids]
  | row s ts =>
    rw [nds, kids, List.map_map]
    have : ∀ ts : List T, (ts.map ((fun q : Nat × T => nds q.2) ∘ fun t => (1, t))).sum = ndss ts := by
      intro ts
      induction ts with
      | nil => rw [ndss]; rfl
      | cons t r ih => rw [ndss, List.map_cons, List.sum_cons, ih]; rfl
    rw [this]
/-- u is the normal form of t -/
structure Nz (t u : T) : Prop where
  g : Good u
  tx : txt u = nrm t
  wd : wd u = wd t
  nf : nrm u = txt u
  ht : ht u ≤ 2 * ht t
  nd : nds u + 1 ≤ 2 * nds t
  pp : ppl u = ppl t
  lv : ∀ k, k ∈ lv u ↔ k ∈ lv t
/-- a piece: how often, its normal form, how many people it has -/
abbrev Pc3 := Nat × T × Nat
structure Cz (b : Bool) (L : CL) (m h z : Nat) (N : Str → Prop) (us : List Pc3) : Prop where
  eq : L = us.map fun q => (q.1, txt q.2.1)
  ok : ∀ q ∈ us, 1 ≤ q.1 ∧ 1 ≤ q.2.2 ∧ Good q.2.1 ∧ wd q.2.1 ≠ some b ∧ nrm q.2.1 = txt q.2.1 ∧ ht q.2.1 ≤ h ∧ q.2.2 = ppl q.2.1
  sum : (us.map fun q => q.1 * q.2.2).sum = m
  nd : (us.map fun q => nds q.2.1 + 1).sum ≤ z
  lv : ∀ k, (∃ q ∈ us, k ∈ lv q.2.1) ↔ N k
theorem mul_sum (n : Nat) {α : Type} (f : α → Nat) : ∀ l : List α, (l.map fun x => n * f x).sum = n * (l.map f).sum
  | [] => by simp
  | x :: l => by rw [List.map_cons, List.sum_cons, mul_sum n f l, List.map_cons, List.sum_cons, Nat.mul_add]
theorem Cz.scl {b : Bool} {L : CL} {m h z n : Nat} {N : Str → Prop} {us : List Pc3} (c : Cz b L m h z N us) (hn : 1 ≤ n) : Cz b (PL.scl n L) (n * m) h z N (us.map fun q => (n * q.1, q.2)) where
  eq := by rw [c.eq]; unfold PL.scl; rw [List.map_map, List.map_map]; rfl
  ok := fun q hq => by
    obtain ⟨q0, h0, rfl⟩ := List.mem_map.mp hq
    obtain ⟨a1, a2⟩ := c.ok q0 h0
    exact ⟨Nat.mul_pos hn a1, a2⟩
  sum := by
    rw [List.map_map, ← c.sum, ← mul_sum]
    refine congrArg List.sum (List.map_congr_left fun q _ => ?_)
    exact Nat.mul_assoc _ _ _
  nd := by rw [List.map_map]; exact c.nd
  lv := fun k => by
    rw [← c.lv k]
    constructor
    · rintro ⟨q, hq, hk⟩
      obtain ⟨q0, h0, rfl⟩ := List.mem_map.mp hq
      exact ⟨q0, h0, hk⟩
    · rintro ⟨q, hq, hk⟩
      exact ⟨_, List.mem_map_of_mem hq, hk⟩
theorem Cz.append {b : Bool} {L L' : CL} {m m' h z z' : Nat} {N N' : Str → Prop} {us us' : List Pc3} (c : Cz b L m h z N us) (c' : Cz b L' m' h z' N' us') : Cz b (L ++ L') (m + m') h (z + z') (fun k => N k ∨ N' k) (us ++ us') where
  eq := by rw [c.eq, c'.eq, List.map_append]
  ok := fun q hq => (List.mem_append.mp hq).elim (c.ok q) (c'.ok q)
  sum := by rw [List.map_append, List.sum_append, c.sum, c'.sum]
  nd := by rw [List.map_append, List.sum_append]; exact Nat.add_le_add c.nd c'.nd
  lv := fun k => by
    rw [← c.lv k, ← c'.lv k]
    constructor
    · rintro ⟨q, hq, hk⟩
      exact (List.mem_append.mp hq).imp (fun h => ⟨q, h, hk⟩) fun h => ⟨q, h, hk⟩
    · rintro (⟨q, hq, hk⟩ | ⟨q, hq, hk⟩)
      · exact ⟨q, List.mem_append_left _ hq, hk⟩
      · exact ⟨q, List.mem_append_right _ hq, hk⟩
theorem Cz.nil {b : Bool} {h : Nat} : Cz b [] 0 h 0 (fun _ => False) [] := ⟨rfl, fun q hq => (by cases hq), rfl, Nat.le_refl _, fun k => ⟨fun ⟨q, hq, _⟩ => (by cases hq), fun h => h.elim⟩⟩
theorem Cz.up {b : Bool} {L : CL} {m h h' z z' : Nat} {N N' : Str → Prop} {us : List Pc3} (c : Cz b L m h z N us) (hh : h ≤ h') (hz : z ≤ z') (hN : ∀ k, N k ↔ N' k) : Cz b L m h' z' N' us := ⟨c.eq, fun q hq => by
  obtain ⟨a1, a2, a3, a4, a5, a6, a7⟩ := c.ok q hq
  exact ⟨a1, a2, a3, a4, a5, by omega, a7⟩, c.sum, Nat.le_trans c.nd hz, fun k => (c.lv k).trans (hN k)⟩
/-- the pieces of some parts -/
theorem Cz.kids {b : Bool} {h : Nat} : ∀ {l : List (Nat × T)}, (∀ q ∈ l, 1 ≤ q.1 ∧ 1 ≤ ppl q.2 ∧ ∃ us, Cz b (cn b q.2) (ppl q.2) h (2 * nds q.2) (fun k => k ∈ PL.lv q.2) us) →
    ∃ us, Cz b (l.flatMap fun q => PL.scl q.1 (cn b q.2)) ((l.map fun q => q.1 * ppl q.2).sum) h (2 * (l.map fun q => nds q.2).sum) (fun k => ∃ q ∈ l, k ∈ PL.lv q.2) us ∧ (l.map (·.1)).sum ≤ (us.map (·.1)).sum
  | [], _ => ⟨[], Cz.nil.up (Nat.le_refl _) (Nat.zero_le _) fun k => ⟨fun h => h.elim, fun ⟨q, hq, _⟩ => (by cases hq)⟩, by simp⟩
  | q :: l, H => by
    obtain ⟨hq, hpos, us, c⟩ := H q List.mem_cons_self
    obtain ⟨vs, d, hd⟩ := Cz.kids (b := b) (h := h) (l := l) fun x hx => H x (List.mem_cons_of_mem _ hx)
    have c2 := c.scl hq
    refine ⟨_, by
      rw [List.flatMap_cons, List.map_cons, List.sum_cons]
      exact (c2.append d).up (Nat.le_refl _) (by rw [List.map_cons, List.sum_cons]; omega) fun k => ⟨fun h => h.elim (fun h => ⟨q, List.mem_cons_self, h⟩) fun ⟨x, hx, hk⟩ => ⟨x, List.mem_cons_of_mem _ hx, hk⟩, fun ⟨x, hx, hk⟩ => (List.mem_cons.mp hx).elim (fun e => .inl (e ▸ hk)) fun hx => .inr ⟨x, hx, hk⟩⟩, ?_⟩
    rw [List.map_append, List.sum_append, List.map_cons, List.sum_cons]
    have hne : us ≠ [] := fun e => by
      have h1 := c.sum
      rw [e] at h1
      simp at h1; omega
    obtain ⟨x, r, e⟩ : ∃ x r, us = x :: r := by
      cases us with
      | nil => exact absurd rfl hne
      | cons x r => exact ⟨x, r, rfl⟩
    have h1 := (c.ok x (by rw [e]; exact List.mem_cons_self)).1
    have : q.1 ≤ ((us.map fun z => (q.1 * z.1, z.2)).map (·.1)).sum := by
      rw [e, List.map_cons, List.map_cons, List.sum_cons]
      have := Nat.mul_le_mul_left q.1 h1
      simp only; omega
    exact Nat.add_le_add this hd
theorem choose_list {R : List Nat → T → Prop} : ∀ {ks : List (List Nat)}, (∀ k ∈ ks, ∃ v, R k v ∧ txt v = k) → ∃ vs : List T, vs.map txt = ks ∧ ∀ v ∈ vs, R (txt v) v
  | [], _ => ⟨[], rfl, fun v hv => (by cases hv)⟩
  | k :: ks, h => by
    obtain ⟨v, hv, rfl⟩ := h k List.mem_cons_self
    obtain ⟨vs, h1, h2⟩ := choose_list fun x hx => h x (List.mem_cons_of_mem _ hx)
    exact ⟨v :: vs, by rw [List.map_cons, h1], fun x hx => (List.mem_cons.mp hx).elim (fun e => e ▸ hv) (h2 x)⟩
theorem tot_one {f : T → Nat} : ∀ {vs : List T} {v : T}, (vs.map txt).Nodup → v ∈ vs → tot (vs.map fun v => (f v, txt v)) (txt v) = f v
  | x :: vs, v, hn, hv => by
    rw [List.map_cons] at hn
    obtain ⟨h1, h2⟩ := List.nodup_cons.mp hn
    have no : ∀ {vs : List T} {k : List Nat}, k ∉ vs.map txt → tot (vs.map fun v => (f v, txt v)) k = 0 := by
      intro vs k hk
      unfold tot
      rw [List.filter_eq_nil_iff.mpr]
      · rfl
      · intro q hq
        obtain ⟨y, hy, rfl⟩ := List.mem_map.mp hq
        simp only [decide_eq_true_eq]
        exact fun e => hk (e ▸ List.mem_map_of_mem hy)
    have cons : ∀ k, tot ((x :: vs).map fun v => (f v, txt v)) k = (if txt x = k then f x else 0) + tot (vs.map fun v => (f v, txt v)) k := fun k => by
      unfold tot
      rw [List.map_cons, List.filter_cons]
      by_cases e : txt x = k
      · simp [e]
      · simp [e]
    rw [cons]
    rcases List.mem_cons.mp hv with rfl | hv
    · rw [if_pos rfl, no h1, Nat.add_zero]
    · have : txt x ≠ txt v := fun e => h1 (e ▸ List.mem_map_of_mem hv)
      rw [if_neg this, Nat.zero_add]
      exact tot_one h2 hv
def prt (s : Bool) (L : CL) (v : T) : T := if tot L (txt v) = 1 then v else .cop s (tot L (txt v)) v
theorem prt_txt (s : Bool) (L : CL) (v : T) : txt (prt s L v) = pt s (tot L (txt v)) (txt v) := by
  unfold prt pt
  split
  · rfl
  · rw [txt]
theorem prt_lv (s : Bool) (L : CL) (v : T) : lv (prt s L v) = lv v := by
  unfold prt
  split
  · rfl
  · rw [lv]
theorem pick_sum {f : T → Nat} {n : Nat} : ∀ {vs : List T} {x : T}, (vs.map txt).Nodup → x ∈ vs → (vs.map fun v => (if txt x = txt v then n else 0) * f v).sum = n * f x
  | y :: vs, x, hn, hx => by
    rw [List.map_cons] at hn
    obtain ⟨h1, h2⟩ := List.nodup_cons.mp hn
    rw [List.map_cons, List.sum_cons]
    have zero : ∀ l : List T, txt x ∉ l.map txt → (l.map fun v => (if txt x = txt v then n else 0) * f v).sum = 0 := by
      intro l
      induction l with
      | nil => intro _; rfl
      | cons z r ih =>
        intro hz
        rw [List.map_cons, List.sum_cons, if_neg (fun e => hz (by rw [List.map_cons, e]; exact List.mem_cons_self)), ih fun h => hz (List.mem_cons_of_mem _ h)]
        simp
    rcases List.mem_cons.mp hx with rfl | hx
    · rw [if_pos rfl, zero vs h1, Nat.add_zero]
    · rw [if_neg (fun e => h1 (by rw [← e]; exact List.mem_map_of_mem hx)), pick_sum h2 hx]; simp
theorem group_sum {f : T → Nat} {vs : List T} (hn : (vs.map txt).Nodup) : ∀ {us : List Pc3}, (∀ q ∈ us, q.2.1 ∈ vs) → (vs.map fun v => tot (us.map fun q => (q.1, txt q.2.1)) (txt v) * f v).sum = (us.map fun q => q.1 * f q.2.1).sum
  | [], _ => by
    have : ∀ l : List T, (l.map fun v => tot (([] : List Pc3).map fun q => (q.1, txt q.2.1)) (txt v) * f v).sum = 0 := by
      intro l
      induction l with
      | nil => rfl
      | cons x r ih => rw [List.map_cons, List.sum_cons, ih]; simp [tot]
    exact this vs
  | q :: us, h => by
    have ih := group_sum (f := f) hn (us := us) fun x hx => h x (List.mem_cons_of_mem _ hx)
    have e1 : ∀ k, tot ((q :: us).map fun q => (q.1, txt q.2.1)) k = (if txt q.2.1 = k then q.1 else 0) + tot (us.map fun q => (q.1, txt q.2.1)) k := fun k => by
      unfold tot
      rw [List.map_cons, List.filter_cons]
      by_cases e : txt q.2.1 = k
      · simp [e]
      · simp [e]
    have e2 : ∀ l : List T, (l.map fun v => tot ((q :: us).map fun q => (q.1, txt q.2.1)) (txt v) * f v).sum = (l.map fun v => (if txt q.2.1 = txt v then q.1 else 0) * f v).sum + (l.map fun v => tot (us.map fun q => (q.1, txt q.2.1)) (txt v) * f v).sum := by
      intro l
      induction l with
      | nil => rfl
      | cons x r ih2 =>
        have a1 := e1 (txt x)
        generalize (q :: us).map (fun q => (q.1, txt q.2.1)) = B at ih2 a1
        simp only [List.map_cons, List.sum_cons]
        rw [ih2, a1, Nat.add_mul]
        omega
    rw [e2, ih, pick_sum hn (h q List.mem_cons_self), List.map_cons, List.sum_cons]
theorem nz_join {t : T} {s : Bool} {us : List Pc3} {h z : Nat} (hw : wd t = some s) (c : Cz s (cn s t) (ppl t) h z (fun k => k ∈ lv t) us) (h2 : 2 ≤ (us.map (·.1)).sum) (hh : h + 2 ≤ 2 * ht t) (hz : z + 2 ≤ 2 * nds t) (h30 : ppl t ≤ 10 ^ 30) : ∃ u, Nz t u := by
  have ht' := nrm_in hw
  generalize hL : cn s t = L at c ht'
  have hus : ∀ q ∈ us, (q.1, txt q.2.1) ∈ L := fun q hq => by rw [c.eq]; exact List.mem_map_of_mem (f := fun q : Pc3 => (q.1, txt q.2.1)) hq
  have hsumL : (L.map (·.1)).sum = (us.map (·.1)).sum := by rw [c.eq, List.map_map]; rfl
  have hsum : (us.map (·.1)).sum ≤ ppl t := by
    rw [← c.sum]
    have : ∀ l : List Pc3, (∀ q ∈ l, 1 ≤ q.2.2) → (l.map (·.1)).sum ≤ (l.map fun q => q.1 * q.2.2).sum := by
      intro l
      induction l with
      | nil => intro _; exact Nat.le_refl _
      | cons q r ih =>
        intro hl
        have h1 := ih fun x hx => hl x (List.mem_cons_of_mem _ hx)
        have h2 := Nat.mul_le_mul_left q.1 (hl q List.mem_cons_self)
        simp only [List.map_cons, List.sum_cons]; omega
    exact this us fun q hq => (c.ok q hq).2.1
  obtain ⟨vs, hv1, hv2⟩ := choose_list (R := fun _ v => ∃ n m, ((n, v, m) : Pc3) ∈ us) (ks := ky L) fun k hk => by
    obtain ⟨q, hq, rfl⟩ := ky_mem.mp hk
    rw [c.eq] at hq
    obtain ⟨⟨n, v, m⟩, hq0, rfl⟩ := List.mem_map.mp hq
    exact ⟨v, ⟨n, m, hq0⟩, rfl⟩
  have hnd : (vs.map txt).Nodup := by rw [hv1]; exact ky_nd L
  have hok : ∀ v ∈ vs, 1 ≤ tot L (txt v) ∧ tot L (txt v) ≤ 10 ^ 30 ∧ Good v ∧ wd v ≠ some s ∧ nrm v = txt v ∧ ht v ≤ h := fun v hv => by
    obtain ⟨n, m, hq⟩ := hv2 v hv
    obtain ⟨a1, a2, a3, a4, a5, a6, a7⟩ := c.ok _ hq
    have b1 := tot_ge (hus _ hq)
    have b2 := tot_le L (txt v)
    simp only at a1 a2 a3 a4 a5 a6 b1
    exact ⟨by omega, by omega, a3, a4, a5, a6⟩
  have hall : ∀ q ∈ us, q.2.1 ∈ vs := fun q hq => by
    have : txt q.2.1 ∈ vs.map txt := by rw [hv1]; exact ky_mem.mpr ⟨_, hus q hq, rfl⟩
    obtain ⟨v, hv, e⟩ := List.mem_map.mp this
    rw [← txt_eq (hok v hv).2.2.1 (c.ok q hq).2.2.1 e]
    exact hv
  have hpg : ∀ v ∈ vs, Good (prt s L v) ∧ ht (prt s L v) ≤ h + 1 ∧ cn s (prt s L v) = [(tot L (txt v), txt v)] := fun v hv => by
    obtain ⟨a1, a2, a3, a4, a5, a6⟩ := hok v hv
    have e1 : cn s v = [(1, txt v)] := by rw [cn_out a4, a5]
    unfold prt
    split
    · rename_i e
      exact ⟨a3, by omega, by rw [e1, e]⟩
    · rename_i e
      refine ⟨⟨by omega, a2, a3⟩, by rw [PL.ht]; omega, ?_⟩
      rw [cn_in (s := s) rfl]
      simp [kids, e1, PL.scl]
  have hjn : ∀ L', ky L' = ky L → (∀ v ∈ vs, tot L' (txt v) = tot L (txt v)) → jn s L' = jn s L := fun L' e1 e2 => by
    unfold jn
    rw [e1, ← hv1]
    have : (vs.map txt).map (fun k => pt s (tot L' k) k) = (vs.map txt).map fun k => pt s (tot L k) k := by
      rw [List.map_map, List.map_map]
      exact List.map_congr_left fun v hv => by simp only [Function.comp]; rw [e2 v hv]
    rw [this]
  have hjv : (ky L).map (fun k => pt s (tot L k) k) = (vs.map (prt s L)).map txt := by
    rw [← hv1, List.map_map, List.map_map]
    exact List.map_congr_left fun v hv => by simp only [Function.comp]; rw [prt_txt]
  have hlv : ∀ k, (∃ v ∈ vs, k ∈ lv v) ↔ k ∈ lv t := fun k => by
    rw [← c.lv k]
    constructor
    · rintro ⟨v, hv, hk⟩
      obtain ⟨n, m, hq⟩ := hv2 v hv
      exact ⟨_, hq, hk⟩
    · rintro ⟨q, hq, hk⟩
      exact ⟨_, hall q hq, hk⟩
  have hnz : (vs.map fun v => nds v + 1).sum ≤ z := by
    have : DecidableEq T := fun a b => Classical.propDecidable (a = b)
    refine Nat.le_trans (sum_sub (fun v : T => nds v + 1) ((List.pairwise_map.mp hnd).imp fun h e => h (by rw [e])) (ls := us.map (·.2.1)) fun v hv => ?_) (by rw [List.map_map]; exact c.nd)
    obtain ⟨n, m, hq⟩ := hv2 v hv
    exact List.mem_map.mpr ⟨_, hq, rfl⟩
  have hpn : ∀ v, nds (prt s L v) ≤ nds v + 1 := fun v => by
    unfold prt
    split
    · omega
    · rw [nds]; exact Nat.le_refl _
  have hpp : (vs.map fun v => tot L (txt v) * ppl v).sum = ppl t := by
    rw [← c.sum, c.eq, group_sum hnd hall]
    exact congrArg List.sum (List.map_congr_left fun q hq => by rw [(c.ok q hq).2.2.2.2.2.2])
  have hpv : ∀ v, ppl (prt s L v) = tot L (txt v) * ppl v := fun v => by
    unfold prt
    split
    · rename_i e; rw [e]; simp
    · rw [ppl]
  have hL' : ky (vs.map fun v => (tot L (txt v), txt v)) = ky L := by
    refine ky_congr fun k => ?_
    have : k ∈ ky L ↔ ∃ q ∈ L, q.2 = k := ky_mem
    rw [← this, ← hv1]
    constructor
    · rintro ⟨q, hq, rfl⟩
      obtain ⟨v, hv, rfl⟩ := List.mem_map.mp hq
      exact List.mem_map_of_mem hv
    · intro hk
      obtain ⟨v, hv, rfl⟩ := List.mem_map.mp hk
      exact ⟨_, List.mem_map_of_mem (f := fun v => (tot L (txt v), txt v)) hv, rfl⟩
  have hfin := hjn _ hL' fun v hv => tot_one (f := fun v => tot L (txt v)) hnd hv
  match vs, hjv, hnd, hok, hall, hpg, hlv, hfin, hnz, hpp with
  | [], _, _, _, hall, _, _, _, _, _ =>
    cases us with
    | nil => simp at h2
    | cons q r => exact absurd (hall q List.mem_cons_self) (by simp)
  | [v], hjv, _, hok, hall, hpg, hlv, hfin, hnz, hpp =>
    obtain ⟨a1, a2, a3, a4, a5, a6⟩ := hok v List.mem_cons_self
    have ec : tot L (txt v) = (L.map (·.1)).sum := by
      unfold tot
      rw [List.filter_eq_self.mpr]
      intro q hq
      rw [c.eq] at hq
      obtain ⟨q0, h0, rfl⟩ := List.mem_map.mp hq
      rw [List.mem_singleton.mp (hall q0 h0)]
      exact decide_eq_true rfl
    have e2 : prt s L v = .cop s (tot L (txt v)) v := by unfold prt; rw [if_neg (by omega)]
    obtain ⟨b1, b2, b3⟩ := hpg v List.mem_cons_self
    have tx : txt (prt s L v) = jn s L := by unfold jn; rw [hjv]; rfl
    refine ⟨prt s L v, b1, by rw [tx, ht'], by rw [e2, hw]; rfl, ?_, by omega, by have := hpn v; simp at hnz; omega, by rw [hpv]; simpa using hpp, fun k => ?_⟩
    · rw [nrm_in (s := s) (by rw [e2]; rfl), b3, tx]; exact hfin
    · rw [prt_lv, ← hlv k]; simp
  | v :: v' :: r, hjv, _, hok, hall, hpg, hlv, hfin, hnz, hpp =>
    have tx : txt (.row s ((v :: v' :: r).map (prt s L))) = jn s L := by unfold jn; rw [hjv, txt, txts_map]; rfl
    refine ⟨.row s ((v :: v' :: r).map (prt s L)), ⟨by simp, goods_all.mpr fun x hx => ?_⟩, by rw [tx, ht'], by rw [hw]; rfl, ?_, ?_, ?_, ?_, fun k => ?_⟩
    · obtain ⟨y, hy, rfl⟩ := List.mem_map.mp hx
      exact (hpg y hy).1
    · rw [nrm_in (s := s) rfl, cn_in (s := s) rfl, tx, ← hfin]
      congr 1
      rw [kids, List.flatMap_map, List.flatMap_map]
      rw [← List.flatMap_singleton' (List.map (fun v => (tot L (txt v), txt v)) (v :: v' :: r)), List.flatMap_map]
      refine fm_congr fun y hy => ?_
      rw [scl_one, (hpg y hy).2.2]
    · rw [PL.ht]
      have : hts ((v :: v' :: r).map (prt s L)) ≤ h + 1 := by
        have : ∀ l : List T, (∀ x ∈ l, PL.ht x ≤ h + 1) → hts l ≤ h + 1 := by
          intro l
          induction l with
          | nil => intro _; rw [hts]; omega
          | cons x r ih => intro hl; rw [hts]; have a := hl x List.mem_cons_self; have b := ih fun y hy => hl y (List.mem_cons_of_mem _ hy); omega
        refine this _ fun x hx => ?_
        obtain ⟨y, hy, rfl⟩ := List.mem_map.mp hx
        exact (hpg y hy).2.1
      omega
    · have : ∀ l : List T, ndss (l.map (prt s L)) ≤ (l.map fun v => nds v + 1).sum := by
        intro l
        induction l with
        | nil => rw [List.map_nil, ndss]; exact Nat.zero_le _
        | cons x r ih => rw [List.map_cons, ndss, List.map_cons, List.sum_cons]; exact Nat.add_le_add (hpn x) ih
      have := this (v :: v' :: r)
      rw [nds]; omega
    · rw [ppl, ppls_sum, List.map_map, ← hpp]
      exact congrArg List.sum (List.map_congr_left fun v _ => hpv v)
    · rw [lv, lvL_flat, List.mem_flatMap, ← hlv k]
      constructor
      · rintro ⟨x, hx, hk⟩
        obtain ⟨y, hy, rfl⟩ := List.mem_map.mp hx
        rw [prt_lv] at hk
        exact ⟨y, hy, hk⟩
      · rintro ⟨y, hy, hk⟩
        exact ⟨_, List.mem_map_of_mem hy, by rw [prt_lv]; exact hk⟩
theorem nz_all : ∀ t, Good t → ppl t ≤ 10 ^ 30 → (∃ u, Nz t u) ∧ ∀ b, ∃ us, Cz b (cn b t) (ppl t) (if wd t = some b then 2 * ht t - 2 else 2 * ht t) (if wd t = some b then 2 * nds t - 2 else 2 * nds t) (fun k => k ∈ lv t) us := by
  refine kids_rec fun t ih hg h30 => ?_
  cases hw : wd t with
  | none =>
    have e1 := nrm_leaf hw
    have e2 : ppl t = 1 := by
      cases t with
      | one => rw [ppl]
      | name x => rw [ppl]
      | cop s n u => cases hw
      | row s ts => cases hw
    have e3 : nds t = 1 := by
      cases t with
      | one => rw [nds]
      | name x => rw [nds]
      | cop s n u => cases hw
      | row s ts => cases hw
    refine ⟨⟨t, hg, e1.symm, rfl, e1, by omega, by omega, rfl, fun k => Iff.rfl⟩, fun b => ⟨[(1, t, 1)], ?_⟩⟩
    rw [cn_out (by rw [hw]; simp), if_neg (by simp), if_neg (by simp)]
    exact ⟨by rw [e1]; rfl, fun q hq => by rw [List.mem_singleton.mp hq]; exact ⟨Nat.le_refl _, Nat.le_refl _, hg, by rw [hw]; simp, e1, by simp; omega, e2.symm⟩, by simp [e2], by simp [e3], fun k => by simp⟩
  | some s =>
    have hn : ∀ x, t ≠ .name x := fun x e => by rw [e] at hw; cases hw
    have hk0 : kids t ≠ [] := by
      cases t with
      | one => cases hw
      | name x => cases hw
      | cop s n u => simp [kids]
      | row s ts =>
        have := hg.1
        intro e
        have h0 : ts.map (fun t => (1, t)) = [] := e
        rw [List.map_eq_nil_iff] at h0
        rw [h0] at this; simp at this
    have epp := ppl_kids hk0
    have h2 : 2 ≤ ((kids t).map (·.1)).sum := by
      cases t with
      | one => cases hw
      | name x => cases hw
      | cop s n u => simp [kids]; exact hg.1
      | row s ts => rw [show ((kids (.row s ts)).map (·.1)).sum = cnt (.row s ts) from rfl, cnt_row]; exact hg.1
    obtain ⟨us, c, hc⟩ := Cz.kids (b := s) (h := 2 * ht t - 2) (l := kids t) fun q hq => by
      obtain ⟨g1, g2, g3, g4, g5⟩ := kids_ok hq hg
      have hp := ppl_pos g1
      have hle : q.1 * ppl q.2 ≤ ppl t := by rw [epp]; exact mem_le_sum (List.mem_map_of_mem (f := fun q : Nat × T => q.1 * ppl q.2) hq)
      have hle2 : ppl q.2 ≤ q.1 * ppl q.2 := Nat.le_mul_of_pos_left _ (by omega)
      obtain ⟨us, c⟩ := (ih q hq g1 (by omega)).2 s
      refine ⟨g4, hp, us, c.up ?_ ?_ fun k => Iff.rfl⟩
      · split <;> omega
      · split <;> omega
    rw [← cn_in hw, ← epp] at c
    have hkn := kids_nds hk0
    have c := c.up (N' := fun k => k ∈ lv t) (Nat.le_refl _) (show 2 * ((kids t).map fun q => nds q.2).sum ≤ 2 * nds t - 2 by omega) fun k => by rw [lv_kids hn, List.mem_flatMap]
    have hpos : 1 ≤ ht t := by
      cases t with
      | one => cases hw
      | name x => cases hw
      | cop s n u => rw [ht]; omega
      | row s ts => rw [ht]; omega
    have hnp : 1 ≤ nds t := by omega
    have J := nz_join hw c (by omega) (by omega) (by omega) h30
    refine ⟨J, fun b => ?_⟩
    by_cases hb : s = b
    · subst hb
      rw [if_pos rfl, if_pos rfl]
      exact ⟨us, c⟩
    · have hb' : wd t ≠ some b := by rw [hw]; exact fun e => hb (Option.some.inj e)
      have hb2 : ¬ some s = some b := fun e => hb (Option.some.inj e)
      obtain ⟨u, z⟩ := J
      rw [cn_out hb', if_neg hb2, if_neg hb2]
      have hp := ppl_pos hg
      refine ⟨[(1, u, ppl t)], by rw [← z.tx]; rfl, fun q hq => ?_, by simp, ?_, fun k => ?_⟩
      · rw [List.mem_singleton.mp hq]
        exact ⟨Nat.le_refl _, hp, z.g, by rw [z.wd]; exact hb', z.nf, z.ht, z.pp.symm⟩
      · simp; exact z.nd
      · rw [← z.lv k]; simp
end PL
namespace PL
open PySem SX TL
def wl (L : CL) : Nat := (L.map fun q => q.2.length + 45).sum
theorem join_len2 (S : List Nat) (hS : S.length = 3) : ∀ ps : List (List Nat), (joinL S ps).length ≤ (ps.map fun p => p.length + 3).sum
  | [] => by rw [joinL]; simp
  | [p] => by rw [joinL]; simp
  | p :: q :: r => by
    have ih := join_len2 S hS (q :: r)
    have e : joinL S (p :: q :: r) = p ++ (S ++ joinL S (q :: r)) := by rw [joinL]
    rw [e, List.length_append, List.length_append, hS, List.map_cons, List.sum_cons]
    omega
theorem pt_len {s : Bool} {n : Nat} {k : List Nat} (h : n ≤ 10 ^ 30) : (pt s n k).length ≤ k.length + 34 := by
  have : (numL n).length ≤ 31 := numL_len (by decide) (Nat.lt_of_le_of_lt h (by decide))
  unfold pt
  split
  · omega
  · simp; omega
theorem jn_len {s : Bool} {L : CL} (h : ∀ k ∈ ky L, tot L k ≤ 10 ^ 30) : (jn s L).length ≤ wl L + 2 := by
  have h1 : (((ky L).map fun k => pt s (tot L k) k).map fun p => p.length + 3).sum ≤ ((ky L).map fun k => k.length + 45).sum := by
    rw [List.map_map]
    generalize ky L = ks at h
    induction ks with
    | nil => simp
    | cons k r ih =>
      have := ih fun x hx => h x (List.mem_cons_of_mem _ hx)
      have := pt_len (s := s) (k := k) (h k List.mem_cons_self)
      simp only [List.map_cons, List.sum_cons, Function.comp] at *
      omega
  have h2 : ((ky L).map fun k => k.length + 45).sum ≤ wl L := by
    unfold wl
    have := sum_sub (fun k : List Nat => k.length + 45) (ky_nd L) (ls := L.map (·.2)) fun k hk => by
      obtain ⟨q, hq, rfl⟩ := ky_mem.mp hk
      exact List.mem_map_of_mem hq
    rw [List.map_map] at this
    exact this
  have h3 := join_len2 (sep s) rfl ((ky L).map fun k => pt s (tot L k) k)
  unfold jn
  split
  · rename_i x e
    rw [e] at h1
    simp at h1; omega
  · simp; omega
theorem wl_app (L L' : CL) : wl (L ++ L') = wl L + wl L' := by unfold wl; rw [List.map_append, List.sum_append]
theorem wl_scl (n : Nat) (L : CL) : wl (scl n L) = wl L := by unfold wl scl; rw [List.map_map]; rfl
theorem cn_sum {t : T} (b : Bool) (hg : Good t) (h30 : ppl t ≤ 10 ^ 30) : ((cn b t).map (·.1)).sum ≤ ppl t := by
  obtain ⟨us, c⟩ := (nz_all t hg h30).2 b
  rw [c.eq, ← c.sum, List.map_map]
  have : ∀ l : List Pc3, (∀ q ∈ l, 1 ≤ q.2.2) → (l.map ((·.1) ∘ fun q : Pc3 => (q.1, txt q.2.1))).sum ≤ (l.map fun q => q.1 * q.2.2).sum := by
    intro l
    induction l with
    | nil => intro _; exact Nat.le_refl _
    | cons q r ih =>
      intro hl
      have h1 := ih fun x hx => hl x (List.mem_cons_of_mem _ hx)
      have h2 := Nat.mul_le_mul_left q.1 (hl q List.mem_cons_self)
      simp only [List.map_cons, List.sum_cons, Function.comp] at *; omega
  exact this us fun q hq => (c.ok q hq).2.1
theorem wd_kids {t : T} {s : Bool} (h : wd t = some s) (hg : Good t) : kids t ≠ [] := by
  cases t with
  | one => cases h
  | name x => cases h
  | cop s n u => simp [kids]
  | row s ts =>
    have := hg.1
    intro e
    have h0 : ts.map (fun t => (1, t)) = [] := e
    rw [List.map_eq_nil_iff] at h0
    rw [h0] at this; simp at this
theorem kid_ppl {t : T} {q : Nat × T} (hq : q ∈ kids t) (hg : Good t) : ppl q.2 ≤ ppl t := by
  obtain ⟨g1, g2, g3, g4, g5⟩ := kids_ok hq hg
  have hle : q.1 * ppl q.2 ≤ ppl t := by rw [ppl_kids (t := t) (fun e => by rw [e] at hq; cases hq)]; exact mem_le_sum (List.mem_map_of_mem (f := fun q : Nat × T => q.1 * ppl q.2) hq)
  exact Nat.le_trans (Nat.le_mul_of_pos_left _ (by omega)) hle
theorem wl_all : ∀ t, Good t → ppl t ≤ 10 ^ 30 → (nrm t).length + 45 ≤ 90 * nds t ∧ ∀ b, wl (cn b t) ≤ 90 * nds t := by
  refine kids_rec fun t ih hg h30 => ?_
  cases hw : wd t with
  | none =>
    have e1 := nrm_leaf hw
    have h1 : (txt t).length ≤ 8 ∧ nds t = 1 := by
      cases t with
      | one => rw [txt, nds]; decide
      | name x => rw [txt, nds]; exact ⟨hg.2.1, rfl⟩
      | cop s n u => cases hw
      | row s ts => cases hw
    refine ⟨by rw [e1]; omega, fun b => ?_⟩
    rw [cn_out (by rw [hw]; simp), e1]
    unfold wl
    simp; omega
  | some s =>
    have hk0 := wd_kids hw hg
    have hn := kids_nds hk0
    have hs : wl (cn s t) + 90 ≤ 90 * nds t := by
      rw [cn_in hw]
      have : ∀ l : List (Nat × T), (∀ q ∈ l, wl (cn s q.2) ≤ 90 * nds q.2) → wl (l.flatMap fun q => scl q.1 (cn s q.2)) ≤ 90 * (l.map fun q => nds q.2).sum := by
        intro l
        induction l with
        | nil => intro _; simp [wl]
        | cons q r ih =>
          intro hl
          have h1 := ih fun x hx => hl x (List.mem_cons_of_mem _ hx)
          have h2 := hl q List.mem_cons_self
          rw [List.flatMap_cons, wl_app, wl_scl, List.map_cons, List.sum_cons, Nat.mul_add]
          omega
      have := this (kids t) fun q hq => (ih q hq (kids_ok hq hg).1 (Nat.le_trans (kid_ppl hq hg) h30)).2 s
      omega
    have hj := jn_len (s := s) (L := cn s t) fun k hk => by
      have a := tot_le (cn s t) k
      have b := cn_sum s hg h30
      omega
    have h45 : (nrm t).length + 45 ≤ 90 * nds t := by rw [nrm_in hw]; omega
    refine ⟨h45, fun b => ?_⟩
    by_cases hb : s = b
    · subst hb; omega
    · rw [cn_out (by rw [hw]; exact fun e => hb (Option.some.inj e))]
      unfold wl
      simp; omega
end PL
namespace DL
open PySem PySem.Spec PyProof.Rows L2
section
variable {X : Cx} {ρ : Rho} {M : Mp} {Φ : D → Mp → Prop} {Θ : Bool → Mp → Prop} {a b c e : Expr} {pos : Pos}
def valK (kvs : List (Key × D)) (k : Key) : Option D := (kvs.find? fun kv => decide (kv.1 = k)).map (·.2)
theorem RepK.val {K : PySem.W.Frag} {Z : Zn} {H : Hp} {k : Key} {d : D} : ∀ {vs : List (Key × V)} {ds : List (Key × D)}, RepK K M Z H vs ds → valK ds k = some d → ∃ v, valV vs k = some v ∧ Rep K M Z H v d
  | _, _, .nil, h => by simp [valK] at h
  | _, _, .cons (k := k') (v := v) (d := d') r t, h => by
    unfold valK at h
    unfold valV
    rw [List.find?_cons] at h ⊢
    by_cases hk : k' = k
    · rw [decide_eq_true hk] at h ⊢
      obtain rfl := Option.some.inj h
      exact ⟨v, rfl, r⟩
    · rw [decide_eq_false hk] at h ⊢
      exact RepK.val t h
end
end DL
namespace DL
open PySem PySem.Spec PyProof.Rows L2
def putKD (kvs : List (Key × D)) (k : Key) (d : D) : List (Key × D) := if (kvs.any fun kv => decide (kv.1 = k)) = true then kvs.map (fun kv => if kv.1 = k then (kv.1, d) else kv) else kvs ++ [(k, d)]
section
variable {K : PySem.W.Frag} {M : Mp} {Z : Zn} {H : Hp} {k : Key} {v : V} {d : D}
theorem RepK.length : ∀ {vs : List (Key × V)} {ds : List (Key × D)}, RepK K M Z H vs ds → vs.length = ds.length
  | _, _, .nil => rfl
  | _, _, .cons r t => by rw [List.length_cons, List.length_cons, RepK.length t]
theorem RepK.any : ∀ {vs : List (Key × V)} {ds : List (Key × D)}, RepK K M Z H vs ds → (vs.any fun kv => decide (kv.1 = k)) = ds.any fun kv => decide (kv.1 = k)
  | _, _, .nil => rfl
  | _, _, .cons r t => by rw [List.any_cons, List.any_cons, RepK.any t]
theorem RepK.snoc (r : Rep K M Z H v d) : ∀ {vs : List (Key × V)} {ds : List (Key × D)}, RepK K M Z H vs ds → RepK K M Z H (vs ++ [(k, v)]) (ds ++ [(k, d)])
  | _, _, .nil => .cons r .nil
  | _, _, .cons r1 t => .cons r1 (RepK.snoc r t)
theorem RepK.repl (r : Rep K M Z H v d) : ∀ {vs : List (Key × V)} {ds : List (Key × D)}, RepK K M Z H vs ds → RepK K M Z H (vs.map fun kv => if kv.1 = k then (kv.1, v) else kv) (ds.map fun kv => if kv.1 = k then (kv.1, d) else kv)
  | _, _, .nil => .nil
  | _, _, .cons (k := j) r1 t => by
    rw [List.map_cons, List.map_cons]
    by_cases e : j = k
    · simp only [if_pos e]; exact .cons r (RepK.repl r t)
    · simp only [if_neg e]; exact .cons r1 (RepK.repl r t)
theorem RepK.put {vs : List (Key × V)} {ds : List (Key × D)} (r : Rep K M Z H v d) (t : RepK K M Z H vs ds) : RepK K M Z H (putK vs k v) (putKD ds k d) := by
  unfold putK putKD
  rw [t.any]
  split
  · exact t.repl r
  · exact t.snoc r
end
section
variable {X : Cx} {ρ : Rho} {M : Mp} {Φ : D → Mp → Prop} {a b o i : Expr} {pos : Pos}
theorem we_disp3I {a1 b1 a2 b2 a3 b3 : Expr} {dp : Pos} (h : WE X ρ M a1 fun x1 M1 => WE X ρ M1 b1 fun y1 M2 => WE X ρ M2 a2 fun x2 M3 => WE X ρ M3 b2 fun y2 M4 => WE X ρ M4 a3 fun x3 M5 => WE X ρ M5 b3 fun y3 M6 => ∃ (k1 k2 k3 : Str) (n1 n2 n3 : Int), x1 = .str k1 ∧ y1 = .int n1 ∧ x2 = .str k2 ∧ y2 = .int n2 ∧ x3 = .str k3 ∧ y3 = .int n3 ∧ k1 ≠ k2 ∧ k1 ≠ k3 ∧ k2 ≠ k3 ∧ ∀ p, M6 p = none → Φ (.ob p) (mset M6 p (.dK [(.inr k1, .int n1), (.inr k2, .int n2), (.inr k3, .int n3)]))) :
    WE X ρ M (.Dict [some a1, some a2, some a3] [b1, b2, b3] dp) Φ := .mk fun {Z} σ H Q en w k => by
  refine eOf (pe_disp (pps_cons pe_sem pe_sem (pps_cons pe_sem pe_sem (pps_cons pe_sem pe_sem pps_nil))) rfl rfl (by simp) (by simp)) ?_
  intro t ht
  have zne := w.zne ht
  have xh : ExI M Z H M (hid Z t) (upd H t (.dK [])) := hide_x ht
  have wh : Wd X.K M (hid Z t) (upd H t (.dK [])) := hide_w w ht
  have en0 := en.monoI xh
  refine h.run σ _ _ en0 wh fun v1 x1 H1 M1 e1 w1 r1 hz => ?_
  refine hz.run σ H1 _ (en0.mono e1) w1 fun u1 y1 H2 M2 e2 w2 s1 hz => ?_
  have e12 := e1.trans e2
  refine hz.run σ H2 _ (en0.mono e12) w2 fun v2 x2 H3 M3 e3 w3 r2 hz => ?_
  have e13 := e12.trans e3
  refine hz.run σ H3 _ (en0.mono e13) w3 fun u2 y2 H4 M4 e4 w4 s2 hz => ?_
  have e14 := e13.trans e4
  refine hz.run σ H4 _ (en0.mono e14) w4 fun v3 x3 H5 M5 e5 w5 r3 hz => ?_
  have e15 := e14.trans e5
  refine hz.run σ H5 _ (en0.mono e15) w5 fun u3 y3 H6 M6 e6 w6 s3 hz => ?_
  have e16 := e15.trans e6
  obtain ⟨k1, k2, k3, n1, n2, n3, rfl, rfl, rfl, rfl, rfl, rfl, h12, h13, h23, hz⟩ := hz
  cases r1
  cases s1
  cases r2
  cases s2
  cases r3
  cases s3
  have hT : H6 t = some (.dK []) := (e16.2 t (.inr rfl)).1.trans upd_same
  refine ⟨hT, [(.inr k1, .int n1), (.inr k2, .int n2), (.inr k3, .int n3)], rfl, by simp, ?_⟩
  have em : mergeK [] [((.inr k1 : Key), V.int n1), (.inr k2, .int n2), (.inr k3, .int n3)] = [(.inr k1, .int n1), (.inr k2, .int n2), (.inr k3, .int n3)] := by
    simp [mergeK, putK, h12, h13, h23]
  rw [em]
  have mT : M6 t = none := (w6.2 t (.inr rfl)).1
  have xi : ExI M6 (hid Z t) H6 (mset M6 t (.dK [(.inr k1, .int n1), (.inr k2, .int n2), (.inr k3, .int n3)])) Z (upd H6 t (.dK [(.inr k1, .int n1), (.inr k2, .int n2), (.inr k3, .int n3)])) := fun b u q m => by
    have n : b ≠ t := fun e => m.2 (.inr e)
    exact ⟨by rw [upd_ne n]; exact q, by rw [mset_ne n]; exact m.1, fun z => m.2 (.inl z)⟩
  have x0 : ExI M Z H M6 (hid Z t) H6 := xh.trans e16.i
  refine k _ (.ob t) _ _ ⟨fun b u q m => ?_, fun b z => ?_⟩ ⟨fun c u e => ?_, fun b z => ?_⟩ (.ob t) (hz t mT)
  · obtain ⟨q1, m1⟩ := x0 b u q m
    exact xi b u q1 m1
  · have n := zne b z
    have := e16.2 b (.inl z)
    exact ⟨by rw [upd_ne n, this.1, upd_ne n], by rw [mset_ne n]; exact this.2⟩
  · by_cases hc : c = t
    · subst hc
      rw [mset_same] at e
      cases e
      exact ⟨_, upd_same, .cons (.int _) (.cons (.int _) (.cons (.int _) .nil))⟩
    · rw [mset_ne hc] at e
      exact (w6.1 c u e).stepI xi (upd_ne hc)
  · have n := zne b z
    obtain ⟨m, u, q⟩ := w6.2 b (.inl z)
    exact ⟨by rw [mset_ne n]; exact m, u, by rw [upd_ne n]; exact q⟩
/-- d[k] of a dict that changes -/
theorem we_dKgetO (hu : X.A.units + 1 < cLine) (h : WE X ρ M a fun x M1 => WE X ρ M1 b fun y M2 => ∃ q kvs k d, x = .ob q ∧ M2 q = some (.dK kvs) ∧ y = .str k ∧ valK kvs (.inr k) = some d ∧ Φ d M2) (hs : NoSl b := by exact fun _ _ => rfl) : WE X ρ M (.Subscript a b pos) Φ := .mk fun {Z} σ H Q en w k =>
  eOf (pe_dget hu pe_sem pe_sem hs) (bind2 h en w fun v u x y H2 M2 e2 w2 r1 r2 hz => by
    obtain ⟨q, kvs, z, d, rfl, hM, rfl, hv, hz⟩ := hz
    cases r1
    cases r2
    obtain ⟨vs, hq, rs⟩ := w2.1 q _ hM
    obtain ⟨v, h1, rv⟩ := rs.val hv
    exact ⟨_, v, rfl, by rw [← h1]; exact DGet.k (k := .inr z) hq, (k.step e2).now w2 rv hz⟩)
/-- d[k] = v -/
theorem wg_dputK {d : D} {Ω : Rho → Mp → Prop} (hu : X.A.units + 1 < cLine) (h : WE X ρ M o fun x M1 => WE X ρ M1 i fun y M2 => ∃ q kvs z, x = .ob q ∧ y = .str z ∧ M2 q = some (.dK kvs) ∧ kvs.length < sizeLine ∧ Ω ρ (mset M2 q (.dK (putKD kvs (.inr z) d))))
    (ha : ∀ v, assign (.Subscript o i pos) X.env v = (do
      let ov ← holding [v] (eval o X.env)
      let iv ← holding [v, ov] (eval i X.env)
      standAt pos
      holding [v, ov, iv] (setItem ov iv v)
      release [v, ov, iv] []) := by intro _; rfl) : WG X (.Subscript o i pos) d ρ M Ω := .mk fun {Z} σ H v Q en w r k =>
  gOf (pg_sub pe_sem pe_sem (set_dict hu) ha) (bind2 h en w fun v1 v2 x y H2 M2 e2 w2 r1 r2 hz => by
    obtain ⟨q, kvs, z, rfl, rfl, hM, hl, hz⟩ := hz
    cases r1
    cases r2
    obtain ⟨vs, hv, rs⟩ := w2.1 q _ hM
    refine ⟨q, _, rfl, DPut.k (k := .inr z) hv (by rw [rs.length]; exact hl), ?_⟩
    have x3 : Ext M2 _ H2 (mset M2 q (.dK (putKD kvs (.inr z) d))) (upd H2 q (.dK (putK vs (.inr z) v))) := Ext.put w2 hM
    exact k σ ρ _ _ (e2.trans x3) (w2.put hM ⟨_, upd_same, (rs.mono x3).put ((r.mono e2).mono x3)⟩) (en.mono (e2.trans x3)) hz)
end
end DL
namespace DL
open PySem PySem.Spec PyProof.Rows L2
section
variable {X : Cx} {ρ : Rho} {M : Mp} {Φ : D → Mp → Prop} {a b o i : Expr} {pos : Pos}
/-- {}, which will be changed -/
theorem we_dnewK (h : ∀ p, M p = none → Φ (.ob p) (mset M p (.dK []))) : WE X ρ M (.Dict [] [] pos) Φ := .mk fun σ H Q en w k =>
  eOf pe_dnewK fun p hp => k _ (.ob p) _ (mset M p (.dK [])) (Ext.newM w hp) (w.newM hp ⟨[], upd_same, .nil⟩) (.ob p) (h p (w.fresh hp).1)
end
end DL
namespace DL
open PySem PySem.Spec PyProof.Rows L2
theorem keyD_rep {K : PySem.W.Frag} {M : Mp} {Z : Zn} {H : Hp} (k : Key) : Rep K M Z H (kV k) (keyD k) := by
  cases k with
  | inl i => exact .int i
  | inr x => exact .str x
theorem RepK.get {K : PySem.W.Frag} {M : Mp} {Z : Zn} {H : Hp} : ∀ {vs : List (Key × V)} {ds : List (Key × D)} {i : Nat} {k : Key} {d : D}, RepK K M Z H vs ds → ds[i]? = some (k, d) → ∃ v, vs[i]? = some (k, v) ∧ Rep K M Z H v d
  | _, _, _, _, _, .nil, e => by simp at e
  | _, _, 0, _, _, .cons r _, e => by simp at e; obtain ⟨rfl, rfl⟩ := e; exact ⟨_, rfl, r⟩
  | _, _, i + 1, k, d, .cons _ t, e => by
    obtain ⟨u, h1, h2⟩ := RepK.get (i := i) (d := d) t (by simpa using e)
    exact ⟨u, by simpa using h1, h2⟩
theorem RepK.valN {K : PySem.W.Frag} {M : Mp} {Z : Zn} {H : Hp} {k : Key} : ∀ {vs : List (Key × V)} {ds : List (Key × D)}, RepK K M Z H vs ds → valK ds k = none → valV vs k = none
  | _, _, .nil, _ => rfl
  | _, _, .cons (k := j) r t, e => by
    unfold valK at e
    rw [List.find?_cons] at e
    by_cases h : j = k
    · simp [h] at e
    · rw [valV_neg h]
      refine RepK.valN t ?_
      unfold valK
      simpa [h] using e
section
variable {X : Cx} {ρ : Rho} {M : Mp} {Φ : D → Mp → Prop} {Θ : Bool → Mp → Prop} {Ψ : DE} {a b o e f i tg : Expr} {ss : List Stmt} {pos apos p : Pos}
theorem frz_x {Z : Zn} {H : Hp} {q : Addr} {u : MO} {x : HO} (w : Wd X.K M Z H) (hq : M q = some u) : Ext M Z H (mdel M q) (upd H q x) := ⟨fun b o h m => by
    have n : b ≠ q := fun e => by have m := m.1; rw [e, hq] at m; cases m
    exact ⟨by rw [upd_ne n]; exact h, by rw [mdel_ne n]; exact m.1, m.2⟩, fun b z => ⟨upd_ne (w.zneM hq b z), mdel_ne (w.zneM hq b z)⟩⟩
theorem frz_w {Z : Zn} {H : Hp} {q : Addr} {u : MO} {x : HO} (w : Wd X.K M Z H) (hq : M q = some u) : Wd X.K (mdel M q) Z (upd H q x) := ⟨fun c v e => by
    by_cases hc : c = q
    · subst hc; rw [mdel_same] at e; cases e
    · rw [mdel_ne hc] at e
      exact (w.1 c v e).step (frz_x w hq) (upd_ne hc), fun b z => by
    obtain ⟨m, v, h⟩ := w.2 b z
    exact ⟨by rw [mdel_ne (w.zneM hq b z)]; exact m, v, by rw [upd_ne (w.zneM hq b z)]; exact h⟩⟩
theorem frz_r {Z : Zn} {H : Hp} {q : Addr} {kvs : List (Key × D)} {od : Obj} {vs : List (Key × V)} (w : Wd X.K M Z H) (hq : M q = some (.dK kvs)) (r : RepK X.K M Z H vs kvs) : Rep X.K (mdel M q) Z (upd H q (.frz od (.dK vs))) (.ref q) (.fdK kvs) :=
  .fdK (o := od) (vs := vs) upd_same ⟨mdel_same, fun z => by have := (w.2 q z).1; rw [hq] at this; cases this⟩ (r.mono (frz_x w hq))
theorem set_self {α : Type} {l : List α} {i : Nat} {v : α} (hv : l[i]? = some v) : l.set i v = l := by
  apply List.ext_getElem?
  intro j
  by_cases hj : i = j
  · subst hj
    rw [List.getElem?_set_self (List.getElem?_eq_some_iff.mp hv).1, hv]
  · rw [List.getElem?_set_ne hj]
/-- a dict in a slot -/
theorem wss_frz {i : Nat} {q : Addr} {kvs : List (Key × D)} (hi : ρ[i]? = some (some (.ob q))) (hq : M q = some (.dK kvs)) (h : WSs X (ρ.set i (some (.fdK kvs))) (mdel M q) ss Ψ) : WSs X ρ M ss Ψ := .mk fun {Z} σ H E en w k => by
  intro pins s I
  obtain ⟨v, hv, r⟩ := en.get hi
  cases r
  obtain ⟨vs, hH, rs⟩ := w.1 q _ hq
  obtain ⟨od, I2⟩ := I.lock hH trivial
  have en2 := (en.mono (frz_x (x := .frz od (.dK vs)) w hq)).set (frz_r (od := od) w hq rs) i
  rw [set_self hv] at en2
  exact h.run σ _ E en2 (frz_w w hq) (k.step (frz_x w hq)) pins s I2
def tFrz (t : TE) : TE := fun σ H Q => t σ H fun v H1 => ∃ d u, v = .ref d ∧ H1 d = some u ∧ Mut (some u) ∧ ∀ od, Q v (upd H1 d (.frz od u))
theorem pe_frz {t : TE} (h : PE X e t) : PE X e (tFrz t) := ⟨fun pins s σ H Q I hw => thn (h.run pins s σ H _ I hw) fun v s1 ⟨v', H1, I2, r, d, u, e1, hd, mu, q⟩ => by
  obtain ⟨od, I3⟩ := I2.lock hd mu
  exact ⟨v', _, I3, r, q od⟩⟩
def itemsD (kvs : List (Key × D)) : List D := kvs.map fun kv => .tup [keyD kv.1, kv.2]
def keysD (kvs : List (Key × D)) : List D := kvs.map fun kv => keyD kv.1
theorem sq_items {K : PySem.W.Frag} {M1 : Mp} {Z1 : Zn} {H1 : Hp} {q : Addr} {od : Obj} {vs : List (Key × V)} {kvs : List (Key × D)} (hq : H1 q = some (.frz od (.dK vs))) (m : Im M1 Z1 q) (rs : RepK K M1 Z1 H1 vs kvs) : Sq K M1 Z1 H1 (Iti q od vs) (itemsD kvs) := fun i M Z H x w => by
  have h1 := (x _ _ hq m).1
  have r2 := rs.monoI x
  refine ⟨fun hi => ⟨h1, ?_⟩, fun d hd => ?_⟩
  · rw [hi, r2.length]; unfold itemsD; rw [List.length_map]; exact Nat.le_refl _
  · unfold itemsD at hd
    rw [List.getElem?_map] at hd
    obtain ⟨⟨k, y⟩, hk, rfl⟩ := Option.map_eq_some_iff.mp hd
    obtain ⟨v, hv, rv⟩ := r2.get hk
    refine ⟨⟨h1, (List.getElem?_eq_some_iff.mp hv).1⟩, fun z H2 yl => ?_⟩
    obtain ⟨T, k', v', hkv, rfl, hT, rfl⟩ := yl
    rw [hv] at hkv; cases hkv
    have x3 : Ext M Z H M (upd H T (.tup [kV k, v])) := Ext.new w hT
    exact ⟨x3, w.new hT, .tup (.inl upd_same) (w.fresh hT) (.cons (keyD_rep k) (.cons (rv.mono x3) .nil))⟩
theorem sq_keys {K : PySem.W.Frag} {M1 : Mp} {Z1 : Zn} {H1 : Hp} {q : Addr} {od : Obj} {vs : List (Key × V)} {kvs : List (Key × D)} (hq : H1 q = some (.frz od (.dK vs))) (m : Im M1 Z1 q) (rs : RepK K M1 Z1 H1 vs kvs) : Sq K M1 Z1 H1 (Itk q od vs) (keysD kvs) := fun i M Z H x w => by
  have h1 := (x _ _ hq m).1
  have r2 := rs.monoI x
  refine ⟨fun hi => ⟨h1, ?_⟩, fun d hd => ?_⟩
  · rw [hi, r2.length]; unfold keysD; rw [List.length_map]; exact Nat.le_refl _
  · unfold keysD at hd
    rw [List.getElem?_map] at hd
    obtain ⟨⟨k, y⟩, hk, rfl⟩ := Option.map_eq_some_iff.mp hd
    obtain ⟨v, hv, rv⟩ := r2.get hk
    refine ⟨⟨h1, (List.getElem?_eq_some_iff.mp hv).1⟩, fun z H2 yl => ?_⟩
    obtain ⟨rfl, k', v', hkv, rfl⟩ := yl
    rw [hv] at hkv; cases hkv
    exact ⟨Ext.refl, w, keyD_rep k⟩
/-- for .. in e.items(), the dict is e's own and falls -/
theorem wi_itemsO {elts : List Expr} {kk : Nat} {tpos : Pos} {Φ : List D → Mp → Prop} (h : WE X ρ M e fun d M1 => ∃ q kvs, d = .ob q ∧ M1 q = some (.dK kvs) ∧ Φ (itemsD kvs) (mdel M1 q))
    (hbase : attributeBase e "items" X.env (eval e X.env) = eval e X.env := by rfl) (hline : (apos.endLine == pos.line) = true := by rfl) : WI X ρ M (.Tuple elts kk tpos) (.Call (.Attribute e "items" apos) [] [] pos) Φ := .mk fun {Z} σ H R en w k =>
  iOf (pi_items (pe_frz pe_sem) hbase hline) (h.run σ H _ en w fun v d H1 M1 e1 w1 r1 hz => by
    obtain ⟨q, kvs, rfl, hq, hz⟩ := hz
    cases r1
    obtain ⟨vs, hH, rs⟩ := w1.1 q _ hq
    refine ⟨q, .dK vs, rfl, hH, trivial, fun od => ⟨q, od, vs, rfl, upd_same, ?_⟩⟩
    have x2 := frz_x (x := .frz od (.dK vs)) w1 hq
    exact k _ _ _ (mdel M1 q) (e1.trans x2) (frz_w w1 hq) (sq_items upd_same ⟨mdel_same, fun z => by have := (w1.2 q z).1; rw [hq] at this; cases this⟩ (rs.mono x2)) hz)
theorem wi_fkeys {Φ : List D → Mp → Prop} (h : WE X ρ M e fun d M1 => ∃ kvs, d = .fdK kvs ∧ Φ (keysD kvs) M1) : WI X ρ M tg e Φ := .mk fun {Z} σ H R en w k =>
  iOf (pi_keys pe_sem) (h.run σ H _ en w fun v d H1 M1 e1 w1 r1 hz => by
    obtain ⟨kvs, rfl, hz⟩ := hz
    cases r1 with
    | fdK hH m rs => exact ⟨_, _, rfl, .inl ⟨_, hH, k _ _ _ M1 e1 w1 (sq_keys hH m rs) hz⟩⟩)
theorem we_fget (hu : X.A.units + 1 < cLine) (h : WE X ρ M a fun x M1 => WE X ρ M1 b fun y M2 => ∃ kvs k d, x = .fdK kvs ∧ y = keyD k ∧ valK kvs k = some d ∧ Φ d M2) (hs : NoSl b := by exact fun _ _ => rfl) : WE X ρ M (.Subscript a b pos) Φ := .mk fun {Z} σ H Q en w k =>
  eOf (pe_dget hu pe_sem pe_sem hs) (bind2 h en w fun v u x y H2 M2 e2 w2 r1 r2 hz => by
    obtain ⟨kvs, z, d, rfl, rfl, hv, hz⟩ := hz
    cases r1 with
    | fdK hH m rs =>
      obtain ⟨v, h1, rv⟩ := rs.val hv
      have e : u = kV z := by cases z <;> (cases r2; rfl)
      subst e
      exact ⟨_, v, rfl, .inl ⟨_, z, .inr ⟨_, hH⟩, rfl, h1.symm⟩, (k.step e2).now w2 rv hz⟩)
/-- d.get(k, x) -/
theorem we_dgetX (hu : X.A.units + 1 < cLine) (h : WE X ρ M o fun x M1 => ∃ q kvs0, x = .ob q ∧ M1 q = some (.dK kvs0) ∧ WE X ρ M1 e fun y M2 => WE X ρ M2 f fun z M3 => ∃ kvs k, M3 q = some (.dK kvs) ∧ y = keyD k ∧ Φ ((valK kvs k).getD z) M3)
    (m : M2 X o "get" apos e f pos := by exact ⟨rfl, rfl, rfl, rfl⟩) : WE X ρ M (.Call (.Attribute o "get" apos) [e, f] [] pos) Φ := .mk fun {Z} σ H Q en w k =>
  eOf (pe_dget2 hu pe_sem pe_sem pe_sem m) (h.run σ H _ en w fun v x H1 M1 e1 w1 r1 hz => by
    obtain ⟨q, kvs0, rfl, hq0, hz⟩ := hz
    cases r1
    obtain ⟨vs0, hH0, _⟩ := w1.1 q _ hq0
    refine ⟨q, rfl, .inl ⟨_, .inl hH0⟩, hz.run σ H1 _ (en.mono e1) w1 fun u y H2 M2 e2 w2 r2 hz => hz.run σ H2 _ (en.mono (e1.trans e2)) w2 fun t z H3 M3 e3 w3 r3 hz3 => ?_⟩
    obtain ⟨kvs, kk, hq, rfl, hz3⟩ := hz3
    obtain ⟨vs, hH, rs⟩ := w3.1 q _ hq
    have e : u = kV kk := by cases kk <;> (cases r2; rfl)
    subst e
    refine ⟨_, .inl ⟨_, kk, .inl hH, rfl, rfl⟩, ?_⟩
    have ks := k.step ((e1.trans e2).trans e3)
    cases hv : valK kvs kk with
    | some d =>
      obtain ⟨v, h1, rv⟩ := rs.val hv
      rw [hv] at hz3
      rw [h1]
      exact ks.now w3 rv hz3
    | none =>
      rw [hv] at hz3
      have : valV vs kk = none := rs.valN hv
      rw [this]
      exact ks.now w3 r3 hz3)
/-- d[k] = v -/
theorem wg_dputA {d : D} {Ω : Rho → Mp → Prop} (hu : X.A.units + 1 < cLine) (h : WE X ρ M o fun x M1 => WE X ρ M1 i fun y M2 => ∃ q kvs z, x = .ob q ∧ y = keyD z ∧ M2 q = some (.dK kvs) ∧ kvs.length < sizeLine ∧ Ω ρ (mset M2 q (.dK (putKD kvs z d))))
    (ha : ∀ v, assign (.Subscript o i pos) X.env v = (do
      let ov ← holding [v] (eval o X.env)
      let iv ← holding [v, ov] (eval i X.env)
      standAt pos
      holding [v, ov, iv] (setItem ov iv v)
      release [v, ov, iv] []) := by intro _; rfl) : WG X (.Subscript o i pos) d ρ M Ω := .mk fun {Z} σ H v Q en w r k =>
  gOf (pg_sub pe_sem pe_sem (set_dict hu) ha) (bind2 h en w fun v1 v2 x y H2 M2 e2 w2 r1 r2 hz => by
    obtain ⟨q, kvs, z, rfl, rfl, hM, hl, hz⟩ := hz
    cases r1
    have e : v2 = kV z := by cases z <;> (cases r2; rfl)
    subst e
    obtain ⟨vs, hv, rs⟩ := w2.1 q _ hM
    refine ⟨q, _, rfl, DPut.k (k := z) hv (by rw [rs.length]; exact hl), ?_⟩
    have x3 : Ext M2 _ H2 (mset M2 q (.dK (putKD kvs z d))) (upd H2 q (.dK (putK vs z v))) := Ext.put w2 hM
    exact k σ ρ _ _ (e2.trans x3) (w2.put hM ⟨_, upd_same, (rs.mono x3).put ((r.mono e2).mono x3)⟩) (en.mono (e2.trans x3)) hz)
end
end DL
namespace W
open PySem PySem.Spec PyProof.Rows L2 DL SX PL
section
variable {P : Program} {w : World} {K : PySem.W.Frag} {mg : Str → Option Value} {base : Heap} {C : Addr}
theorem sgn_look (s : Bool) : List.lookup (wrd s) ([("beside", .str " + "), ("introduced", .str " * ")] : List (Str × D)) = some (tS (sep s)) := by
  cases s
  · show _ = some (D.str _)
    rw [show S (sep false) = (" + " : Str) by decide +kernel]; rfl
  · show _ = some (D.str _)
    rw [show S (sep true) = (" * " : Str) by decide +kernel]; rfl
theorem we_fm {X : Cx} {ρ : Rho} {M : Mp} {e : Expr} {pos : Pos} {Φ : D → Mp → Prop} (h : WE X ρ M e fun d M1 => ∃ y : List Nat, d = tS y ∧ y.length ≤ 1000000 ∧ Φ (tS y) M1) : WE X ρ M (.FormattedValue e (-1) none pos) Φ :=
  we_fmt (h.imp fun d M1 ⟨y, e1, h1, h2⟩ => .inl ⟨_, e1, by rw [S_len, sizeLine_eq]; omega, h2⟩)
theorem emp_S : Str.empty = S [] := by decide +kernel
theorem ok_row_text (F : Fx w K mg) : BodyOk P w K mg base "row_text" s_row_text ["word", "texts"] 2 0 (fun ds M Φ => ∃ (s : Bool) (y : D) (xs : List (List Nat)), ds = [.str (wrd s), y] ∧ LstOf M y (xs.map tS) ∧ ((xs.map (·.length)).sum + xs.length * 3) ≤ 1000000 ∧ Φ (tS (40 :: (TL.joinL (sep s) xs ++ [41]))) M) := by
  intro f cdv A outer s0 H E hr ds M Φ hl hc
  obtain ⟨s, y, xs, rfl, hy, hlen, hc⟩ := hc
  obtain ⟨a, kvs, h1, h2, h3⟩ := F.gSIGNS
  have jl := join_len2 (sep s) rfl xs
  have jl2 : (xs.map fun p => p.length + 3).sum = (xs.map (·.length)).sum + xs.length * 3 := by
    clear hlen hy jl hl hc
    induction xs with
    | nil => rfl
    | cons p r ih => rw [List.map_cons, List.sum_cons, ih, List.map_cons, List.sum_cons, List.length_cons]; omega
  refine wss_cons (ws_ret (we_fstr ?_))
  refine we_str ⟨S [40], by rw [show ("(" : Str) = S [40] by decide +kernel], by rw [emp_S, S_cat, S_len, sizeLine_eq]; simp, ?_⟩
  rw [emp_S, S_cat]
  refine we_fmt (we_join (we_gix h1 h2 h3 (we_var 0 rfl ⟨_, _, rfl, sgn_look s, S (sep s), rfl, we_var 1 rfl ⟨xs.map S, .inl (by rw [List.map_map]; exact hy), ?_, .inl ⟨_, rfl, ?_, ?_⟩⟩⟩)))
  · rw [lens, List.length_map, S_len, show (sep s).length = 3 from rfl]; omega
  · rw [join_S, S_len, sizeLine_eq]; omega
  rw [join_S]
  refine ⟨S (TL.joinL (sep s) xs), rfl, by rw [S_cat, S_len, sizeLine_eq]; simp; omega, ?_⟩
  rw [S_cat]
  refine we_str ⟨S [41], by rw [show (")" : Str) = S [41] by decide +kernel], by rw [S_cat, S_len, sizeLine_eq]; simp; omega, ?_⟩
  rw [S_cat]
  exact Lets.of hc
def cCopT : Con := fun ds M Φ => ∃ (s : Bool) (n : Nat) (k : List Nat), ds = [.str (wrd s), .int (n : Nat), tS k] ∧ n ≤ 10 ^ 30 ∧ k.length ≤ 1000000 ∧ Φ (tS (opn s :: (TL.numL n ++ 32 :: (k ++ [cls s])))) M
theorem aro_look (s : Bool) : List.lookup (wrd s) aroundD = some (.tup [tS [opn s], tS [cls s]]) := by
  cases s
  · unfold aroundD
    rw [show tS [opn false] = D.str "[" by exact congrArg D.str (by decide +kernel), show tS [cls false] = D.str "]" by exact congrArg D.str (by decide +kernel)]; rfl
  · unfold aroundD
    rw [show tS [opn true] = D.str "{" by exact congrArg D.str (by decide +kernel), show tS [cls true] = D.str "}" by exact congrArg D.str (by decide +kernel)]; rfl
abbrev nCopT : List Str := ["word", "many", "text", "head", "end"]
theorem ok_copies_text (F : Fx w K mg) : BodyOk P w K mg base "copies_text" s_copies_text nCopT 3 0 cCopT := by
  intro f cdv A outer s0 H E hr ds M Φ hl hc
  obtain ⟨s, n, k, rfl, hn, hk, hc⟩ := hc
  have nd : nCopT.Nodup := by decide +kernel
  obtain ⟨a, kvs, h1, h2, h3⟩ := F.gAROUND
  have hnl : (TL.numL n).length ≤ 31 := TL.numL_len (by decide) (Nat.lt_of_le_of_lt hn (by decide))
  refine wss_cons (ws_asg (we_gix h1 h2 h3 (we_var 0 rfl ⟨_, _, rfl, aro_look s, ?_⟩)))
  refine wg_tup ⟨rfl, rfl, wgs_cons (wg_name 3 (wgs_cons (wg_name 4 (wgs_nil ⟨rfl, ?_⟩) nd)) nd)⟩
  refine wss_cons (ws_ret (we_fstr ?_))
  refine we_fm (we_var 3 rfl ⟨_, rfl, by simp, _, rfl, by rw [emp_S, S_cat, S_len, sizeLine_eq]; simp, ?_⟩)
  rw [emp_S, S_cat]
  refine we_fmt (we_var 1 rfl (.inr ⟨_, rfl, ?_, _, rfl, ?_, ?_⟩))
  · rw [Int.natAbs_natCast]
    have e2 : n < 16 ^ 26 := Nat.lt_of_le_of_lt hn (by decide)
    have e3 : n.log2 ≤ _ := log16 e2
    show n.log2 < 1920
    omega
  · rw [num_S, S_cat, S_len, sizeLine_eq]; simp; omega
  rw [num_S, S_cat]
  refine we_str ⟨S [32], by rw [show (" " : Str) = S [32] by decide +kernel], by rw [S_cat, S_len, sizeLine_eq]; simp; omega, ?_⟩
  rw [S_cat]
  refine we_fm (we_var 2 rfl ⟨_, rfl, hk, _, rfl, by rw [S_cat, S_len, sizeLine_eq]; simp; omega, ?_⟩)
  rw [S_cat]
  refine we_fm (we_var 4 rfl ⟨_, rfl, by simp, _, rfl, by rw [S_cat, S_len, sizeLine_eq]; simp; omega, ?_⟩)
  rw [S_cat]
  refine Lets.of ?_
  rw [show [] ++ [opn s] ++ TL.numL n ++ [32] ++ k ++ [cls s] = opn s :: (TL.numL n ++ 32 :: (k ++ [cls s])) by simp]
  exact hc
end
end W
namespace DL
open PySem PySem.Spec PyProof.Rows L2
section
variable {X : Cx} {ρ : Rho} {M : Mp} {Φ : D → Mp → Prop} {a b o e f i tg : Expr} {ss : List Stmt} {pos apos p : Pos}
theorem we_disp1I {a1 b1 : Expr} {dp : Pos} (h : WE X ρ M a1 fun x1 M1 => WE X ρ M1 b1 fun y1 M2 => ∃ (k1 : Str) (n1 : Int), x1 = .str k1 ∧ y1 = .int n1 ∧ ∀ p, M2 p = none → Φ (.ob p) (mset M2 p (.dK [(.inr k1, .int n1)]))) :
    WE X ρ M (.Dict [some a1] [b1] dp) Φ := .mk fun {Z} σ H Q en w k => by
  refine eOf (pe_disp (pps_cons pe_sem pe_sem pps_nil) rfl rfl (by simp) (by simp)) ?_
  intro t ht
  have zne := w.zne ht
  have xh : ExI M Z H M (hid Z t) (upd H t (.dK [])) := hide_x ht
  have wh : Wd X.K M (hid Z t) (upd H t (.dK [])) := hide_w w ht
  have en0 := en.monoI xh
  refine h.run σ _ _ en0 wh fun v1 x1 H1 M1 e1 w1 r1 hz => ?_
  refine hz.run σ H1 _ (en0.mono e1) w1 fun u1 y1 H2 M2 e2 w2 s1 hz => ?_
  have e12 := e1.trans e2
  obtain ⟨k1, n1, rfl, rfl, hz⟩ := hz
  cases r1
  cases s1
  have hT : H2 t = some (.dK []) := (e12.2 t (.inr rfl)).1.trans upd_same
  refine ⟨hT, [(.inr k1, .int n1)], rfl, by simp, ?_⟩
  have em : mergeK [] [((.inr k1 : Key), V.int n1)] = [(.inr k1, .int n1)] := by
    simp [mergeK, putK]
  rw [em]
  have mT : M2 t = none := (w2.2 t (.inr rfl)).1
  have xi : ExI M2 (hid Z t) H2 (mset M2 t (.dK [(.inr k1, .int n1)])) Z (upd H2 t (.dK [(.inr k1, .int n1)])) := fun b u q m => by
    have n : b ≠ t := fun e => m.2 (.inr e)
    exact ⟨by rw [upd_ne n]; exact q, by rw [mset_ne n]; exact m.1, fun z => m.2 (.inl z)⟩
  have x0 : ExI M Z H M2 (hid Z t) H2 := xh.trans e12.i
  refine k _ (.ob t) _ _ ⟨fun b u q m => ?_, fun b z => ?_⟩ ⟨fun c u e => ?_, fun b z => ?_⟩ (.ob t) (hz t mT)
  · obtain ⟨q1, m1⟩ := x0 b u q m
    exact xi b u q1 m1
  · have n := zne b z
    have := e12.2 b (.inl z)
    exact ⟨by rw [upd_ne n, this.1, upd_ne n], by rw [mset_ne n]; exact this.2⟩
  · by_cases hc : c = t
    · subst hc
      rw [mset_same] at e
      cases e
      exact ⟨_, upd_same, .cons (.int _) .nil⟩
    · rw [mset_ne hc] at e
      exact (w2.1 c u e).stepI xi (upd_ne hc)
  · have n := zne b z
    obtain ⟨m, u, q⟩ := w2.2 b (.inl z)
    exact ⟨by rw [mset_ne n]; exact m, u, by rw [upd_ne n]; exact q⟩
theorem Reps.erase {K : PySem.W.Frag} {M : Mp} {Z : Zn} {H : Hp} : ∀ {vs : List V} {ds : List D} (k : Nat), Reps K M Z H vs ds → Reps K M Z H (vs.eraseIdx k) (ds.eraseIdx k)
  | _, _, _, .nil => by simp; exact .nil
  | _, _, 0, .cons r t => t
  | _, _, k + 1, .cons r t => .cons r (Reps.erase k t)
/-- xs.pop(i) -/
theorem we_popAt (h : WE X ρ M o fun d M1 => ∃ q ds0, d = .ob q ∧ M1 q = some (.lst ds0) ∧ WE X ρ M1 e fun y M2 => ∃ ds i k x, y = .int i ∧ M2 q = some (.lst ds) ∧ -(2 ^ 63) ≤ i ∧ i < 2 ^ 63 ∧ seqIndex? i ds.length = some k ∧ ds[k]? = some x ∧ Φ x (mset M2 q (.lst (ds.eraseIdx k))))
    (hbase : attributeBase o "pop" X.env (eval o X.env) = eval o X.env := by rfl)
    (hfew : ((backTo pos (starEach (e :: []) X.env)).all (fun x => !x.1) && (backToKw pos (keywordEach [] X.env)).all (fun x => x.1.isSome)
      && decide ((e :: []).length + ([] : List Keyword).length + (if ([] : List Keyword).isEmpty then 0 else 1) < 30)) = true := by rfl)
    (hline : (apos.endLine == pos.line) = true := by rfl) (hs : starEach (e :: []) X.env = (false, eval e X.env) :: starEach [] X.env := by rfl) (hplain : (backTo pos (starEach [] X.env)).any (·.1) = false := by rfl) : WE X ρ M (.Call (.Attribute o "pop" apos) [e] [] pos) Φ := .mk fun {Z} σ H Q en w k =>
  eOf (pe_bm PySem.F.plainAttrs_list PySem.F.slot_list_pop PySem.F.type_list_pop mt_popAt pe_sem (pa_cons pe_sem pa_nil hs) hbase hfew hline hs hplain) (h.run σ H _ en w fun v d H1 M1 e1 w1 r1 hz => by
    obtain ⟨q, ds0, rfl, hM, hz⟩ := hz
    cases r1
    obtain ⟨vs0, h0, _⟩ := w1.1 q _ hM
    refine ⟨.inl ⟨rfl, _, .inl (.inl h0)⟩, hz.run σ H1 _ (en.mono e1) w1 fun u y H2 M2 e2 w2 r2 hy => ?_⟩
    obtain ⟨ds, i, k', x, rfl, hM2, h1, h2, h3, h4, hy⟩ := hy
    cases r2
    obtain ⟨vs, hv, rs⟩ := w2.1 q _ hM2
    obtain ⟨vx, hvx, rx⟩ := rs.get h4
    refine ⟨q, vs, i, k', vx, rfl, rfl, hv, h1, h2, by rw [rs.length]; exact h3, hvx, ?_⟩
    have x3 : Ext M2 _ H2 (mset M2 q (.lst (ds.eraseIdx k'))) (upd H2 q (.lst (vs.eraseIdx k'))) := Ext.put w2 hM2
    exact k _ _ _ _ ((e1.trans e2).trans x3) (w2.put hM2 ⟨_, upd_same, (rs.erase k').mono x3⟩) (rx.mono x3) hy)
end
end DL
namespace W
open PySem PySem.Spec PyProof.Rows L2 DL SX PL
abbrev Cps := List (List Nat × Nat)
def dkD (ps : Cps) : List (Key × D) := ps.map fun p => ((.inr (S p.1) : Key), D.int (p.2 : Nat))
structure Dr (ps : Cps) (L : CL) : Prop where
  nd : (ps.map (·.1)).Nodup
  mem : ∀ k, k ∈ ps.map (·.1) ↔ ∃ q ∈ L, q.2 = k
  tot : ∀ p ∈ ps, p.2 = tot L p.1
theorem tot_app (L L' : CL) (k : List Nat) : tot (L ++ L') k = tot L k + tot L' k := by unfold tot; rw [List.filter_append, List.map_append, List.sum_append]
theorem tot_zero {L : CL} {k : List Nat} (h : ¬ ∃ q ∈ L, q.2 = k) : tot L k = 0 := by
  unfold tot
  rw [List.filter_eq_nil_iff.mpr]
  · rfl
  · intro q hq
    simp only [decide_eq_true_eq]
    exact fun e => h ⟨q, hq, e⟩
theorem tot_cons (n : Nat) (x : List Nat) (L : CL) (k : List Nat) : tot ((n, x) :: L) k = (if x = k then n else 0) + tot L k := by
  unfold tot
  rw [List.filter_cons]
  by_cases e : x = k
  · simp [e]
  · simp [e]
theorem tot_scl (m : Nat) : ∀ (L : CL) (k : List Nat), tot (scl m L) k = m * tot L k
  | [], k => by simp [tot, scl]
  | (n, x) :: L, k => by
    have e : scl m ((n, x) :: L) = (m * n, x) :: scl m L := rfl
    rw [e, tot_cons, tot_cons, tot_scl m L, Nat.mul_add]
    split <;> simp
theorem Dr.nil : Dr [] [] := ⟨.nil, fun k => ⟨fun h => (by cases h), fun ⟨q, h, _⟩ => (by cases h)⟩, fun p h => (by cases h)⟩
theorem Dr.congr {ps : Cps} {L L' : CL} (d : Dr ps L) (h1 : ∀ k, (∃ q ∈ L, q.2 = k) ↔ ∃ q ∈ L', q.2 = k) (h2 : ∀ k, PL.tot L k = PL.tot L' k) : Dr ps L' := ⟨d.nd, fun k => (d.mem k).trans (h1 k), fun p hp => (d.tot p hp).trans (h2 _)⟩
theorem find_dk (k : List Nat) : ∀ ps : Cps, valK (dkD ps) (.inr (S k)) = (ps.find? fun p => decide (p.1 = k)).map fun p => D.int (p.2 : Nat)
  | [] => rfl
  | p :: ps => by
    have e : dkD (p :: ps) = ((.inr (S p.1) : Key), D.int (p.2 : Nat)) :: dkD ps := rfl
    have ih := find_dk k ps
    unfold valK at ih ⊢
    rw [e, List.find?_cons, List.find?_cons]
    by_cases h : p.1 = k
    · rw [decide_eq_true h, decide_eq_true (by rw [h])]; rfl
    · rw [decide_eq_false h, decide_eq_false (fun e => h (by injection e with e; exact S_inj e))]
      exact ih
theorem Dr.find {ps : Cps} {L : CL} (d : Dr ps L) (k : List Nat) : (k ∈ ps.map (·.1) ∧ valK (dkD ps) (.inr (S k)) = some (.int (PL.tot L k : Nat))) ∨ (k ∉ ps.map (·.1) ∧ valK (dkD ps) (.inr (S k)) = none ∧ PL.tot L k = 0) := by
  rw [find_dk]
  cases h : ps.find? fun p => decide (p.1 = k) with
  | some p =>
    have h1 := List.mem_of_find?_eq_some h
    have h2 := List.find?_some h
    have h2 : p.1 = k := of_decide_eq_true h2
    refine .inl ⟨h2 ▸ List.mem_map_of_mem h1, ?_⟩
    rw [Option.map_some, d.tot p h1, h2]
  | none =>
    have hn : k ∉ ps.map (·.1) := fun hm => by
      obtain ⟨p, hp, e⟩ := List.mem_map.mp hm
      have := List.find?_eq_none.mp h p hp
      exact this (decide_eq_true e)
    refine .inr ⟨hn, rfl, tot_zero fun hq => hn ((d.mem k).mpr hq)⟩
theorem Dr.getD {ps : Cps} {L : CL} (d : Dr ps L) (k : List Nat) : (valK (dkD ps) (.inr (S k))).getD (.int 0) = .int (PL.tot L k : Nat) := by
  rcases d.find k with ⟨_, h⟩ | ⟨_, h, h0⟩
  · rw [h]; rfl
  · rw [h, h0]; rfl
def putP (ps : Cps) (k : List Nat) (n : Nat) : Cps := if k ∈ ps.map (·.1) then ps.map fun p => if p.1 = k then (p.1, n) else p else ps ++ [(k, n)]
theorem putKD_dk (ps : Cps) (k : List Nat) (n : Nat) : putKD (dkD ps) (.inr (S k)) (.int (n : Nat)) = dkD (putP ps k n) := by
  have e1 : ((dkD ps).any fun kv => decide (kv.1 = (.inr (S k) : Key))) = decide (k ∈ ps.map (·.1)) := by
    rw [Bool.eq_iff_iff, List.any_eq_true, decide_eq_true_eq, List.mem_map]
    constructor
    · rintro ⟨x, hx, h⟩
      obtain ⟨p, hp, rfl⟩ := List.mem_map.mp hx
      refine ⟨p, hp, ?_⟩
      have := of_decide_eq_true h
      injection this with this
      exact S_inj this
    · rintro ⟨p, hp, rfl⟩
      exact ⟨_, List.mem_map_of_mem hp, by simp⟩
  unfold putKD putP
  rw [e1]
  by_cases h : k ∈ ps.map (·.1)
  · rw [if_pos (decide_eq_true h), if_pos h]
    unfold dkD
    rw [List.map_map, List.map_map]
    refine List.map_congr_left fun p _ => ?_
    simp only [Function.comp]
    by_cases e : p.1 = k
    · rw [if_pos (by rw [e]), if_pos e]
    · rw [if_neg (fun z => e (by injection z with z; exact S_inj z)), if_neg e]
  · rw [if_neg (by simp [h]), if_neg h]
    unfold dkD
    rw [List.map_append]; rfl
theorem Dr.put {ps : Cps} {L : CL} (d : Dr ps L) (k : List Nat) (n : Nat) : Dr (putP ps k (PL.tot L k + n)) (L ++ [(n, k)]) := by
  have ht : ∀ x, PL.tot (L ++ [(n, k)]) x = PL.tot L x + if k = x then n else 0 := fun x => by rw [tot_app, tot_cons]; simp [PL.tot]
  have hm : ∀ x, (∃ q ∈ L ++ [(n, k)], q.2 = x) ↔ (∃ q ∈ L, q.2 = x) ∨ x = k := fun x => by
    constructor
    · rintro ⟨q, hq, rfl⟩
      rcases List.mem_append.mp hq with h | h
      · exact .inl ⟨q, h, rfl⟩
      · rw [List.mem_singleton.mp h]; exact .inr rfl
    · rintro (⟨q, hq, rfl⟩ | rfl)
      · exact ⟨q, List.mem_append_left _ hq, rfl⟩
      · exact ⟨(n, x), by simp, rfl⟩
  unfold putP
  by_cases h : k ∈ ps.map (·.1)
  · rw [if_pos h]
    have e1 : (ps.map fun p => if p.1 = k then (p.1, PL.tot L k + n) else p).map (·.1) = ps.map (·.1) := by
      rw [List.map_map]
      refine List.map_congr_left fun p _ => ?_
      simp only [Function.comp]; split <;> rfl
    refine ⟨by rw [e1]; exact d.nd, fun x => ?_, fun p hp => ?_⟩
    · rw [e1, hm, d.mem]
      exact ⟨.inl, fun h' => h'.elim id fun e => e ▸ (d.mem k).mp h⟩
    · obtain ⟨p0, hp0, rfl⟩ := List.mem_map.mp hp
      by_cases e : p0.1 = k
      · rw [if_pos e, ht, if_pos e.symm, e]
      · rw [if_neg e, ht, if_neg (fun z => e z.symm), Nat.add_zero]; exact d.tot p0 hp0
  · rw [if_neg h]
    have h0 : PL.tot L k = 0 := tot_zero fun hq => h ((d.mem k).mpr hq)
    refine ⟨?_, fun x => ?_, fun p hp => ?_⟩
    · rw [List.map_append, List.nodup_append]
      exact ⟨d.nd, by simp, fun a ha b hb => by simp at hb; rw [hb]; exact fun e => h (e ▸ ha)⟩
    · rw [List.map_append, List.mem_append, hm, d.mem]
      simp
    · rw [ht]
      rcases List.mem_append.mp hp with hp | hp
      · have : p.1 ≠ k := fun e => h (e ▸ List.mem_map_of_mem hp)
        rw [if_neg (fun z => this z.symm), Nat.add_zero]; exact d.tot p hp
      · rw [List.mem_singleton.mp hp, if_pos rfl]
theorem Dr.len {ps : Cps} {L L' : CL} (d : Dr ps L) (h : ∀ q ∈ L, ∃ q' ∈ L', q'.2 = q.2) : ps.length ≤ L'.length := by
  have := List.Nodup.length_le_of_subset d.nd (l₂ := L'.map (·.2)) fun k hk => by
    obtain ⟨q, hq, rfl⟩ := (d.mem k).mp hk
    obtain ⟨q', h1, h2⟩ := h q hq
    rw [← h2]; exact List.mem_map_of_mem h1
  simpa using this
/-- the pieces of a part, one by one or put together first -/
theorem Dr.inner {ps0 : Cps} {L0 : CL} (d : Dr ps0 L0) (m : Nat) : (∀ k, (∃ q ∈ ps0.map fun p => (m * p.2, p.1), q.2 = k) ↔ ∃ q ∈ scl m L0, q.2 = k) ∧ ∀ k, PL.tot (ps0.map fun p => (m * p.2, p.1)) k = PL.tot (scl m L0) k := by
  refine ⟨fun k => ?_, fun k => ?_⟩
  · have := d.mem k
    constructor
    · rintro ⟨q, hq, rfl⟩
      obtain ⟨p, hp, rfl⟩ := List.mem_map.mp hq
      obtain ⟨q', h1, h2⟩ := (d.mem p.1).mp (List.mem_map_of_mem hp)
      exact ⟨_, List.mem_map_of_mem (f := fun q : Nat × List Nat => (m * q.1, q.2)) h1, h2⟩
    · rintro ⟨q, hq, rfl⟩
      obtain ⟨q', h1, rfl⟩ := List.mem_map.mp hq
      obtain ⟨p, hp, e⟩ := List.mem_map.mp ((d.mem q'.2).mpr ⟨q', h1, rfl⟩)
      exact ⟨_, List.mem_map_of_mem (f := fun p : List Nat × Nat => (m * p.2, p.1)) hp, e⟩
  · rw [tot_scl]
    have key : ∀ ps : Cps, (ps.map (·.1)).Nodup → (∀ p ∈ ps, p.2 = PL.tot L0 p.1) → PL.tot (ps.map fun p => (m * p.2, p.1)) k = if k ∈ ps.map (·.1) then m * PL.tot L0 k else 0 := by
      intro ps
      induction ps with
      | nil => intro _ _; rfl
      | cons p r ih =>
        intro hn ht
        rw [List.map_cons] at hn
        obtain ⟨h1, h2⟩ := List.nodup_cons.mp hn
        rw [List.map_cons, tot_cons, ih h2 fun x hx => ht x (List.mem_cons_of_mem _ hx), List.map_cons]
        by_cases e : p.1 = k
        · subst e
          rw [if_pos rfl, if_neg h1, if_pos List.mem_cons_self, ht p List.mem_cons_self]; omega
        · rw [if_neg e, Nat.zero_add]
          by_cases h : k ∈ r.map (·.1)
          · rw [if_pos h, if_pos (List.mem_cons_of_mem _ h)]
          · rw [if_neg h, if_neg]
            intro hm
            rcases List.mem_cons.mp hm with hm | hm
            · exact e hm.symm
            · exact h hm
    rw [key ps0 d.nd d.tot]
    split
    · rfl
    · rename_i h
      rw [tot_zero fun hq => h ((d.mem k).mpr hq)]; rfl
theorem eqv_app {L A B : CL} (h1 : ∀ k, (∃ q ∈ A, q.2 = k) ↔ ∃ q ∈ B, q.2 = k) (h2 : ∀ k, PL.tot A k = PL.tot B k) : (∀ k, (∃ q ∈ L ++ A, q.2 = k) ↔ ∃ q ∈ L ++ B, q.2 = k) ∧ ∀ k, PL.tot (L ++ A) k = PL.tot (L ++ B) k := by
  refine ⟨fun k => ?_, fun k => by rw [tot_app, tot_app, h2]⟩
  have sp : ∀ {A : CL}, (∃ q ∈ L ++ A, q.2 = k) ↔ (∃ q ∈ L, q.2 = k) ∨ ∃ q ∈ A, q.2 = k := fun {A} => by
    constructor
    · rintro ⟨q, hq, e⟩
      exact (List.mem_append.mp hq).imp (fun h => ⟨q, h, e⟩) fun h => ⟨q, h, e⟩
    · rintro (⟨q, hq, e⟩ | ⟨q, hq, e⟩)
      · exact ⟨q, List.mem_append_left _ hq, e⟩
      · exact ⟨q, List.mem_append_right _ hq, e⟩
  rw [sp, sp, h1 k]
theorem ky_of {ps : Cps} {L : CL} (d : Dr ps L) : nmsOf (ps.map fun p => S p.1) = (ky L).map S := by
  have e : nmsOf (ps.map fun p => S p.1) = nmsOf (L.map fun q => S q.2) := nmsOf_congr fun z => by
    rw [List.mem_map, List.mem_map]
    constructor
    · rintro ⟨p, hp, rfl⟩
      obtain ⟨q, h1, h2⟩ := (d.mem p.1).mp (List.mem_map_of_mem hp)
      exact ⟨q, h1, by rw [h2]⟩
    · rintro ⟨q, hq, rfl⟩
      obtain ⟨p, h1, h2⟩ := List.mem_map.mp ((d.mem q.2).mpr ⟨q, hq, rfl⟩)
      exact ⟨p, h1, by rw [h2]⟩
  rw [e]
  unfold ky
  rw [List.map_map]
  conv => lhs; rw [← List.map_id (nmsOf (L.map fun q => S q.2))]
  exact List.map_congr_left fun z _ => (un_S z).symm
theorem wrd_dec (a b : Bool) : decide (wrd a = wrd b) = decide ((some a : Option Bool) = some b) := by cases a <;> cases b <;> decide +kernel
theorem wordT_wd (t : T) (b : Bool) : decide (wordT t = wrd b) = decide (wd t = some b) := by
  cases t with
  | one => cases b <;> decide +kernel
  | name x =>
    show decide (("name" : Str) = wrd b) = decide ((none : Option Bool) = some b)
    cases b <;> decide +kernel
  | cop s n u => exact wrd_dec s b
  | row s ts => exact wrd_dec s b
end W
namespace W
open PySem PySem.Spec PyProof.Rows L2 DL SX PL
structure Sm (t : T) : Prop where
  g : Good t
  p : ppl t ≤ 10 ^ 30
  n : nds t ≤ 600
theorem Sm.kid {t : T} {q : Nat × T} (h : Sm t) (hq : q ∈ kids t) : Sm q.2 := by
  refine ⟨(kids_ok hq h.g).1, Nat.le_trans (kid_ppl hq h.g) h.p, ?_⟩
  have := kids_nds (t := t) (fun e => by rw [e] at hq; cases hq)
  have := mem_le_sum (List.mem_map_of_mem (f := fun q : Nat × T => nds q.2) hq)
  have := h.n
  omega
theorem Sm.txt {t : T} (h : Sm t) : (nrm t).length ≤ 54000 := by
  have := (wl_all t h.g h.p).1
  have := h.n
  omega
theorem cnl_nds : ∀ t : T, ∀ b, (cn b t).length ≤ nds t := by
  refine kids_rec fun t ih b => ?_
  unfold cn
  cases t with
  | one => rw [nf, nds]; exact Nat.le_refl _
  | name x => rw [nf, nds]; exact Nat.le_refl _
  | cop s n u =>
    have h : (cn s u).length ≤ nds u := ih (n, u) (by simp [kids]) s
    unfold cn at h
    rw [nf, nds]
    show (if b = s then scl n ((nf u).2 s) else _).length ≤ _
    by_cases e : b = s
    · rw [if_pos e]; unfold scl; rw [List.length_map]; omega
    · rw [if_neg e]; show 1 ≤ _; omega
  | row s ts =>
    rw [nf, nds]
    show (if b = s then nfs s ts else _).length ≤ _
    by_cases e : b = s
    · rw [if_pos e]
      have key : ∀ l : List T, (∀ u ∈ l, (cn s u).length ≤ nds u) → (nfs s l).length ≤ ndss l := by
        intro l
        induction l with
        | nil => intro _; rw [nfs, ndss]; exact Nat.le_refl _
        | cons u l ihl =>
          intro h
          rw [nfs, ndss, List.length_append]
          have h1 := h u List.mem_cons_self
          unfold cn at h1
          have h2 := ihl fun v hv => h v (List.mem_cons_of_mem _ hv)
          omega
      have := key ts fun u hu => ih (1, u) (List.mem_map.mpr ⟨u, hu, rfl⟩) s
      omega
    · rw [if_neg e]; show 1 ≤ _; omega
theorem Sm.cnl {t : T} (h : Sm t) (b : Bool) : (cn b t).length ≤ 800 := by
  have := cnl_nds t b
  have := h.n
  omega
theorem Sm.tot {t : T} (h : Sm t) (b : Bool) (k : List Nat) : PL.tot (cn b t) k ≤ 10 ^ 30 := by
  have := tot_le (cn b t) k
  have := cn_sum b h.g h.p
  have := h.p
  omega
theorem unitsA' {k : Nat} {A : Around} (r : Room k A) : A.units + 1 < cLine := by have := r.un; omega
section
variable {P : Program} {w : World} {K : PySem.W.Frag} {mg : Str → Option Value} {base : Heap} {C : Addr}
theorem insM {M : Mp} {t : T} : InsOf M C (planN C t) (fldsN C t) := by rw [planN_ins]; exact ⟨rfl, rfl⟩
/-- a question of a plan with names -/
def cGetN (C : Addr) (g : T → D) : Con := fun ds M Φ => ∃ t, ds = [planN C t] ∧ Φ (g t) M
theorem ok_word_n (X : Px K mg C) : BodyOk P w K mg base "Plan.word" s_Plan_word ["self"] 1 0 (cGetN C fun t => .str (wordT t)) := by
  intro f cdv A outer s H E hr ds M Φ hl hc
  obtain ⟨t, rfl, hc⟩ := hc
  exact wss_cons (ws_ret (we_fld (C := C) (we_var 0 rfl ⟨_, _, insM, X.cl, X.na _ (by decide +kernel), lk_word, Lets.of hc⟩)))
theorem ok_text_n (X : Px K mg C) : BodyOk P w K mg base "Plan.text" s_Plan_text ["self"] 1 0 (cGetN C fun t => tS (txt t)) := by
  intro f cdv A outer s H E hr ds M Φ hl hc
  obtain ⟨t, rfl, hc⟩ := hc
  exact wss_cons (ws_ret (we_fld (C := C) (we_var 0 rfl ⟨_, _, insM, X.cl, X.na _ (by decide +kernel), lk_text, Lets.of hc⟩)))
def cPc (C : Addr) (h : Nat) (own : Bool) : Con := fun ds M Φ => ∃ t b, ds = [planN C t, .str (wrd b)] ∧ Sm t ∧ ht t ≤ h ∧ (own = true → wd t = some b) ∧ ∀ q ps, M q = none → Dr ps (cn b t) → Φ (.ob q) (mset M q (.dK (dkD ps)))
def cNT (C : Addr) (h : Nat) : Con := fun ds M Φ => ∃ t, ds = [planN C t] ∧ Sm t ∧ ht t ≤ h ∧ Φ (tS (nrm t)) M
abbrev nPc : List Str := ["plan", "word", "found", "many", "part", "text", "times"]
theorem ok_pieces_own (h : Nat) (F : Fx w K mg) (X : Px K mg C) (F1 : Pc P w K mg base C "word" 1 (cGetN C fun t => .str (wordT t))) (F2 : ∀ j, h = j + 1 → Fc P w K mg base "pieces_of" [] (3 * j + 6) 2 (cPc C j false)) :
    BodyOk P w K mg base "pieces_of" s_pieces_of nPc 2 (3 * h + 3) (cPc C h true) := by
  intro f cdv A outer s0 H E hr ds M Φ hl hc
  obtain ⟨t, b, rfl, sm, hh, hw, hc⟩ := hc
  have hw := hw rfl
  have nd : nPc.Nodup := by decide +kernel
  have hu1 := unitsA' hr
  have hk := kids_len sm.g
  have hkids := sm.cnl b
  have cin := cn_in hw
  refine wss_cons (ws_if (wt_neS (we_prop F1 (hr.mono (by omega)) (we_var 0 rfl ⟨_, insM, t, rfl, we_var 1 rfl ⟨_, rfl, ?_⟩⟩))))
  rw [wordT_wd, decide_eq_true hw]
  refine wss_nil (wss_cons (ws_set 2 nd (we_dnewK fun q hq => ?_)))
  refine wss_cons (ws_for PassesOwn.never (wi_list (we_fld (C := C) (we_var 0 rfl ⟨_, _, insM, X.cl, X.na _ (by decide +kernel), lk_groups, _, .inl rfl, ?_⟩))))
  let pre := fun i => ((kids t).take i).flatMap fun x => scl x.1 (cn b x.2)
  refine ⟨fun i ρ' M' => ∃ o3 o4 o5 o6 ps, ρ' = [some (planN C t), some (.str (wrd b)), some (.ob q), o3, o4, o5, o6] ∧ M' = mset M q (.dK (dkD ps)) ∧ Dr ps (pre i), ⟨_, _, _, _, [], rfl, rfl, Dr.nil⟩, ?_, ?_⟩
  · rintro i x ρ' M' hx ⟨o3, o4, o5, o6, ps, rfl, rfl, hd⟩
    unfold subsN at hx
    rw [List.getElem?_map] at hx
    obtain ⟨z, hz, rfl⟩ := Option.map_eq_some_iff.mp hx
    have hm := List.mem_of_getElem? hz
    obtain ⟨g1, g2, g3, g4, g5⟩ := kids_ok hm sm.g
    have smz := sm.kid hm
    obtain ⟨j, rfl⟩ : ∃ j, h = j + 1 := ⟨h - 1, by omega⟩
    have hpre : pre (i + 1) = pre i ++ scl z.1 (cn b z.2) := by
      show ((kids t).take (i + 1)).flatMap _ = _
      rw [take_snoc hz, List.flatMap_append, List.flatMap_singleton]
    have hsub : ∀ q ∈ pre (i + 1), ∃ q' ∈ cn b t, q'.2 = q.2 := fun q hq => by
      refine ⟨q, ?_, rfl⟩
      rw [cin]
      obtain ⟨y, hy, h2⟩ := List.mem_flatMap.mp hq
      exact List.mem_flatMap.mpr ⟨y, List.mem_of_mem_take hy, h2⟩
    refine wg_tup ⟨rfl, rfl, wgs_cons (wg_name 3 (wgs_cons (wg_name 4 (wgs_nil ⟨rfl, ?_⟩) nd)) nd)⟩
    refine wss_cons (ws_for PassesOwn.never (wi_itemsO (we_call (F2 j rfl) (hr.mono (by omega)) (wa_cons (we_var 4 rfl (wa_cons (we_var 1 rfl (wa_nil ⟨rfl, z.2, b, rfl, smz, by omega, (fun e => by cases e), fun q2 ps2 hq2 hd2 => ⟨q2, _, rfl, mset_same, ?_⟩⟩))))))))
    rw [mdel_mset hq2]
    obtain ⟨in1, in2⟩ := hd2.inner z.1
    refine ⟨fun i2 ρ' M' => ∃ o5 o6 ps', ρ' = [some (planN C t), some (.str (wrd b)), some (.ob q), some (.int (z.1 : Nat)), some (planN C z.2), o5, o6] ∧ M' = mset M q (.dK (dkD ps')) ∧ Dr ps' (pre i ++ (ps2.take i2).map fun p => (z.1 * p.2, p.1)), ⟨_, _, ps, rfl, rfl, by simpa using hd⟩, ?_, ?_⟩
    · rintro i2 x ρ' M' hx ⟨o5, o6, ps', rfl, rfl, hd'⟩
      unfold itemsD dkD at hx
      rw [List.map_map, List.getElem?_map] at hx
      obtain ⟨p, hp, rfl⟩ := Option.map_eq_some_iff.mp hx
      have hpm := List.mem_of_getElem? hp
      have hp30 : p.2 ≤ 10 ^ 30 := by rw [hd2.tot p hpm]; exact smz.tot b p.1
      have hlen : ps'.length ≤ (cn b t).length := hd'.len fun q hq => by
        rcases List.mem_append.mp hq with hq | hq
        · exact hsub q (by rw [hpre]; exact List.mem_append_left _ hq)
        · obtain ⟨p1, hp1, rfl⟩ := List.mem_map.mp hq
          obtain ⟨q', h1, h2⟩ := (in1 p1.1).mp ⟨_, List.mem_map_of_mem (f := fun p : List Nat × Nat => (z.1 * p.2, p.1)) (List.mem_of_mem_take hp1), rfl⟩
          obtain ⟨q'', h3, h4⟩ := hsub q' (by rw [hpre]; exact List.mem_append_right _ h1)
          exact ⟨q'', h3, h4.trans h2⟩
      refine wg_tup ⟨rfl, rfl, wgs_cons (wg_name 5 (wgs_cons (wg_name 6 (wgs_nil ⟨rfl, ?_⟩) nd)) nd)⟩
      refine wss_cons (ws_asg (we_addI (we_dgetX hu1 (we_var 2 rfl ⟨q, _, rfl, mset_same, we_var 5 rfl (we_int ⟨_, .inr (S p.1), mset_same, rfl, ?_⟩)⟩))))
      rw [hd'.getD]
      refine we_mulI (we_var 3 rfl (we_var 6 rfl ⟨_, _, rfl, rfl, mul_ok g5 (show p.2 < 16 ^ 26 from Nat.lt_of_le_of_lt hp30 (by decide)) (by decide), _, _, rfl, rfl, wg_dputA hu1 (we_var 2 rfl (we_var 5 rfl ⟨q, _, .inr (S p.1), rfl, rfl, mset_same, by unfold dkD; rw [List.length_map, sizeLine_eq]; omega, ?_⟩))⟩))
      rw [mset_mset, ← Int.natCast_mul, ← Int.natCast_add, putKD_dk]
      refine wss_nil ⟨_, _, _, rfl, rfl, ?_⟩
      rw [take_snoc hp, List.map_append, ← List.append_assoc]
      exact hd'.put p.1 (z.1 * p.2)
    · rintro ρ' M' ⟨o5, o6, ps', rfl, rfl, hd'⟩
      unfold itemsD dkD at hd'
      rw [List.length_map, List.length_map, List.take_length] at hd'
      refine wss_nil ⟨_, _, _, _, ps', rfl, rfl, ?_⟩
      rw [hpre]
      obtain ⟨e1, e2⟩ := eqv_app (L := pre i) in1 in2
      exact hd'.congr e1 e2
  · rintro ρ' M' ⟨o3, o4, o5, o6, ps, rfl, rfl, hd⟩
    refine wss_cons (ws_ret (we_var 2 rfl (Lets.of (hc q ps hq ?_))))
    unfold subsN at hd
    rw [List.length_map] at hd
    have : pre (kids t).length = cn b t := by
      show ((kids t).take _).flatMap _ = _
      rw [List.take_length, cin]
    rw [← this]; exact hd
theorem ok_pieces_all (h : Nat) (F : Fx w K mg) (X : Px K mg C) (F1 : Pc P w K mg base C "word" 1 (cGetN C fun t => .str (wordT t))) (F2 : BodyOk P w K mg base "pieces_of" s_pieces_of nPc 2 (3 * h + 3) (cPc C h true)) (F3 : Fc P w K mg base "normal_text" [] (3 * h + 5) 1 (cNT C h)) :
    BodyOk P w K mg base "pieces_of" s_pieces_of nPc 2 (3 * h + 5) (cPc C h false) := by
  intro f cdv A outer s0 H E hr ds M Φ hl hc
  obtain ⟨t, b, rfl, sm, hh, _, hc⟩ := hc
  by_cases hw : wd t = some b
  · exact F2 f cdv A outer s0 H E (hr.mono (by omega)) _ M Φ rfl ⟨t, b, rfl, sm, hh, fun _ => hw, hc⟩
  have nd : nPc.Nodup := by decide +kernel
  refine wss_cons (ws_if (wt_neS (we_prop F1 (hr.mono (by omega)) (we_var 0 rfl ⟨_, insM, t, rfl, we_var 1 rfl ⟨_, rfl, ?_⟩⟩))))
  rw [wordT_wd, decide_eq_false hw]
  refine wss_cons (ws_ret (we_disp1I (we_call F3 (hr.mono (by omega)) (wa_cons (we_var 0 rfl (wa_nil ⟨rfl, t, rfl, sm, hh, we_int ⟨_, _, rfl, rfl, fun q hq => Lets.of (hc q [(nrm t, 1)] hq ?_)⟩⟩))))))
  rw [cn_out hw]
  refine ⟨by simp, fun k => by simp [eq_comm], fun p hp => ?_⟩
  rw [List.mem_singleton.mp hp, tot_cons, if_pos rfl]; rfl
def cJT : Con := fun ds M Φ => ∃ s q ps L, ds = [.str (wrd s), .ob q] ∧ M q = some (.dK (dkD ps)) ∧ Dr ps L ∧ wl L ≤ 90000 ∧ (∀ k, PL.tot L k ≤ 10 ^ 30) ∧ L.length < 1000 ∧ L ≠ [] ∧ Φ (tS (jn s L)) (mdel M q)
abbrev nJT : List Str := ["word", "pieces", "texts", "text", "piece"]
theorem get_of {ps : Cps} {L : CL} (d : Dr ps L) {k : List Nat} (h : k ∈ ky L) : valK (dkD ps) (.inr (S k)) = some (.int (PL.tot L k : Nat)) := by
  rcases d.find k with ⟨_, h1⟩ | ⟨h1, _⟩
  · exact h1
  · exact absurd ((d.mem k).mpr (ky_mem.mp h)) h1
theorem ok_joined_text (F : Fx w K mg) (F1 : Fc P w K mg base "copies_text" [] 1 3 cCopT) (F2 : Fc P w K mg base "row_text" [] 1 2 (fun ds M Φ => ∃ (s : Bool) (y : D) (xs : List (List Nat)), ds = [.str (wrd s), y] ∧ LstOf M y (xs.map tS) ∧ ((xs.map (·.length)).sum + xs.length * 3) ≤ 1000000 ∧ Φ (tS (40 :: (TL.joinL (sep s) xs ++ [41]))) M)) :
    BodyOk P w K mg base "joined_text" s_joined_text nJT 2 1 cJT := by
  intro f cdv A outer s0 H E hr ds M Φ hl hc
  obtain ⟨s, q, ps, L, rfl, hq, hd, hwl, h30, hlen, hne, hc⟩ := hc
  have nd : nJT.Nodup := by decide +kernel
  have hu1 := unitsA' hr
  have hpl : ps.length ≤ L.length := hd.len fun q hq => ⟨q, hq, rfl⟩
  have ln : ∀ k ∈ ky L, k.length ≤ 90000 := fun k hk => by
    obtain ⟨q, hq, rfl⟩ := ky_mem.mp hk
    have : q.2.length + 45 ≤ wl L := mem_le_sum (List.mem_map_of_mem (f := fun q : Nat × List Nat => q.2.length + 45) hq)
    omega
  have hkl : (ky L).length ≤ L.length := by
    have := List.Nodup.length_le_of_subset (ky_nd L) (l₂ := L.map (·.2)) fun k hk => by
      obtain ⟨q, hq, rfl⟩ := ky_mem.mp hk
      exact List.mem_map_of_mem hq
    simpa using this
  refine wss_frz (i := 1) rfl hq ?_
  have hqn : (mdel M q) q = none := mdel_same
  generalize mdel M q = M at hqn hc
  refine wss_cons (ws_set 2 nd (we_lstM (wa_nil ⟨Nat.zero_le _, fun t ht => ?_⟩)))
  refine wss_cons (ws_for PassesOwn.never (wi_list (we_sortedSetS (F.bn _ (by decide +kernel)) (F.bn _ (by decide +kernel)) (we_lc nd (blkOk_by (N := nJT) (sc := defScope s_joined_text) (own := [("piece", 4)]) (by decide +kernel)) (fun _ _ _ _ _ => pg_name (i := 4) nd rfl (Or.inl rfl)) (gt_name (by decide)) (fun _ _ _ _ _ => pts_nil) tk_nil (wi_fkeys (we_var 1 rfl ⟨_, rfl, ?_⟩))))))
  have ek : keysD (dkD ps) = (ps.map fun p => S p.1).map D.str := by unfold keysD dkD; rw [List.map_map, List.map_map]; rfl
  rw [ek]
  refine ⟨by rw [List.length_map, List.length_map, sizeLine_eq]; omega, fun i acc M' => M' = mset M t (.lst []) ∧ acc = ((ps.map fun p => S p.1).take i).map D.str, ⟨rfl, rfl⟩, ?_, ?_⟩
  · rintro i x acc M' hx ⟨rfl, rfl⟩
    rw [List.getElem?_map] at hx
    obtain ⟨z, hz, rfl⟩ := Option.map_eq_some_iff.mp hx
    intro s1 H1 C' cl fp
    refine we_strS (F.bn _ (by decide +kernel)) (we_var 4 rfl ⟨z, rfl, rfl, ?_⟩)
    rw [take_snoc hz, List.map_append]; rfl
  rintro acc M' ⟨rfl, rfl⟩
  rw [List.length_map, List.take_length]
  refine ⟨_, rfl, by rw [List.length_map]; omega, fun ys hy hs => ⟨_, .inl rfl, ?_⟩⟩
  rw [nmsOf_uniq hy hs, ky_of hd]
  refine ⟨fun i ρ' M' => ∃ o3 o4, ρ' = [some (.str (wrd s)), some (.fdK (dkD ps)), some (.ob t), o3, o4] ∧ M' = mset M t (.lst ((((ky L).take i).map fun k => pt s (PL.tot L k) k).map tS)), ⟨_, _, rfl, rfl⟩, ?_, ?_⟩
  · rintro i x ρ' M' hx ⟨o3, o4, rfl, rfl⟩
    rw [List.map_map, List.getElem?_map] at hx
    obtain ⟨k, hk, rfl⟩ := Option.map_eq_some_iff.mp hx
    have hkm := List.mem_of_getElem? hk
    have hkl := ln k hkm
    have hki := (List.getElem?_eq_some_iff.mp hk).1
    have fin : ∀ k', k' = pt s (PL.tot L k) k → WSs (bx P w K mg base nJT "joined_text" (defScope s_joined_text) f cdv A outer s0 H E) [some (.str (wrd s)), some (.fdK (dkD ps)), some (.ob t), some (tS k), o4] (mset M t (.lst ((((ky L).take i).map fun k => pt s (PL.tot L k) k).map tS ++ [tS k']))) [] { nx := fun ρ' M' => ∃ o3 o4, ρ' = [some (.str (wrd s)), some (.fdK (dkD ps)), some (.ob t), o3, o4] ∧ M' = mset M t (.lst ((((ky L).take (i + 1)).map fun k => pt s (PL.tot L k) k).map tS)), ct := fun ρ' M' => ∃ o3 o4, ρ' = [some (.str (wrd s)), some (.fdK (dkD ps)), some (.ob t), o3, o4] ∧ M' = mset M t (.lst ((((ky L).take (i + 1)).map fun k => pt s (PL.tot L k) k).map tS)), bk := fun ρ' M' => WSs (bx P w K mg base nJT "joined_text" (defScope s_joined_text) f cdv A outer s0 H E) ρ' M' ((defBody s_joined_text).drop 2) { nx := fun _ M' => Φ .non M', rt := Lets Φ }, rt := Lets Φ } := fun k' e => wss_nil ⟨_, _, rfl, by rw [take_snoc hk, List.map_append, List.map_append, e]; rfl⟩
    refine wg_name 3 ?_ nd
    refine wss_cons (ws_expr (we_append (we_var 2 rfl ⟨t, _, rfl, mset_same, we_if (wt_eqS (we_fget hu1 (we_var 1 rfl (we_var 3 rfl ⟨_, .inr (S k), _, rfl, rfl, get_of hd hkm, we_int ⟨_, rfl, ?_⟩⟩))))⟩)))
    by_cases h1 : PL.tot L k = 1
    · rw [decide_eq_true (show ((PL.tot L k : Nat) : Int) = 1 by omega)]
      refine we_var 3 rfl ⟨_, mset_same, by rw [List.length_map, List.length_map, List.length_take, sizeLine_eq]; omega, ?_⟩
      rw [mset_mset]
      exact fin k (by unfold pt; rw [if_pos h1])
    · rw [decide_eq_false (show ¬ ((PL.tot L k : Nat) : Int) = 1 by omega)]
      refine we_call F1 (hr.mono (by decide)) (wa_cons (we_var 0 rfl (wa_cons (we_fget hu1 (we_var 1 rfl (we_var 3 rfl ⟨_, .inr (S k), _, rfl, rfl, get_of hd hkm, wa_cons (we_var 3 rfl (wa_nil ⟨rfl, s, PL.tot L k, k, rfl, h30 k, by omega, _, mset_same, by rw [List.length_map, List.length_map, List.length_take, sizeLine_eq]; omega, ?_⟩))⟩))))))
      rw [mset_mset]
      exact fin _ (by unfold pt; rw [if_neg h1])
  · rintro ρ' M' ⟨o3, o4, rfl, rfl⟩
    rw [List.length_map, List.length_map, List.take_length]
    have hxs : (((ky L).map fun k => pt s (PL.tot L k) k).map (·.length)).sum + ((ky L).map fun k => pt s (PL.tot L k) k).length * 3 ≤ 1000000 := by
      have h1 : ∀ ks : List (List Nat), (((ks.map fun k => pt s (PL.tot L k) k).map (·.length)).sum + (ks.map fun k => pt s (PL.tot L k) k).length * 3) ≤ (ks.map fun k => k.length + 45).sum := by
        intro ks
        induction ks with
        | nil => simp
        | cons k r ih =>
          have := pt_len (s := s) (k := k) (h30 k)
          simp only [List.map_cons, List.sum_cons, List.length_cons, List.length_map] at *
          omega
      have h2 := sum_sub (fun k : List Nat => k.length + 45) (ky_nd L) (ls := L.map (·.2)) fun k hk => by
        obtain ⟨q, hq, rfl⟩ := ky_mem.mp hk
        exact List.mem_map_of_mem hq
      rw [List.map_map] at h2
      have h3 := h1 (ky L)
      have h4 : (L.map ((fun k : List Nat => k.length + 45) ∘ fun x => x.2)).sum = wl L := rfl
      omega
    have hjn : jn s L = match (ky L).map fun k => pt s (PL.tot L k) k with
        | [x] => x
        | xs => 40 :: (TL.joinL (sep s) xs ++ [41]) := rfl
    generalize (ky L).map (fun k => pt s (PL.tot L k) k) = xs at hxs hjn
    refine wss_cons (ws_ret (we_if (wt_eqS (we_len (F.bn _ (by decide +kernel)) (we_var 2 rfl ⟨_, lenO mset_same, we_int ⟨_, rfl, ?_⟩⟩)))))
    by_cases h1 : xs.length = 1
    · rw [List.length_map, decide_eq_true (show ((xs.length : Nat) : Int) = 1 by omega)]
      obtain ⟨x, rfl⟩ := List.length_eq_one_iff.mp h1
      rw [hjn] at hc
      refine we_ix (we_var 2 rfl (we_int ⟨0, tS x, rfl, ixO mset_same (atI_nat (j := 0) rfl), tS x, M, les_new ht, .same _, hc⟩))
    · rw [List.length_map, decide_eq_false (show ¬ ((xs.length : Nat) : Int) = 1 by omega)]
      have e : jn s L = 40 :: (TL.joinL (sep s) xs ++ [41]) := by
        rw [hjn]
        match xs, h1 with
        | [], _ => rfl
        | [x], h1 => exact absurd rfl h1
        | x :: y :: r, _ => rfl
      rw [e] at hc
      exact we_call F2 (hr.mono (by decide)) (wa_cons (we_var 0 rfl (wa_cons (we_var 2 rfl (wa_nil ⟨rfl, s, _, xs, rfl, mset_same, hxs, _, M, les_new ht, .same _, hc⟩)))))
theorem wrd_leaf (s : Bool) : decide (wrd s ∈ (["one", "name"] : List Str)) = false := by cases s <;> decide +kernel
theorem leaf_word (t : T) : decide (wordT t ∈ (["one", "name"] : List Str)) = decide (wd t = none) := by
  cases t with
  | one => decide +kernel
  | name x =>
    show decide (("name" : Str) ∈ (["one", "name"] : List Str)) = decide ((none : Option Bool) = none)
    decide +kernel
  | cop s n u => exact wrd_leaf s
  | row s ts => exact wrd_leaf s
theorem ok_normal_text (h : Nat) (F : Fx w K mg) (X : Px K mg C) (F1 : Pc P w K mg base C "word" 1 (cGetN C fun t => .str (wordT t))) (F0 : Pc P w K mg base C "text" 1 (cGetN C fun t => tS (txt t))) (F2 : Fc P w K mg base "pieces_of" [] (3 * h + 4) 2 (cPc C h true)) (F3 : Fc P w K mg base "joined_text" [] 2 2 cJT) :
    BodyOk P w K mg base "normal_text" s_normal_text ["plan"] 1 (3 * h + 4) (cNT C h) := by
  intro f cdv A outer s0 H E hr ds M Φ hl hc
  obtain ⟨t, rfl, sm, hh, hc⟩ := hc
  refine wss_cons (ws_if (wt_inS (we_prop F1 (hr.mono (by omega)) (we_var 0 rfl ⟨_, insM, t, rfl, we_tup (wa_cons (we_gstr F.gONE (wa_cons (we_gstr F.gNAME (wa_nil ⟨sz2, wordT t, ["one", "name"], rfl, .inl rfl, ?_⟩)))))⟩))))
  rw [leaf_word]
  cases hw : wd t with
  | none =>
    rw [nrm_leaf hw] at hc
    exact wss_cons (ws_ret (we_prop F0 (hr.mono (by omega)) (we_var 0 rfl ⟨_, insM, t, rfl, Lets.of hc⟩)))
  | some s =>
    have ew : wordT t = wrd s := by
      have := wordT_wd t s
      rw [hw, decide_eq_true rfl] at this
      exact of_decide_eq_true this
    have hn := (wl_all t sm.g sm.p).2 s
    have hnn := sm.n
    rw [nrm_in hw] at hc
    have hne : cn s t ≠ [] := fun e => by
      obtain ⟨us, c⟩ := (nz_all t sm.g sm.p).2 s
      have h1 := c.eq
      rw [e] at h1
      have h2 := c.sum
      rw [List.map_eq_nil_iff.mp h1.symm] at h2
      have := ppl_pos sm.g
      simp at h2; omega
    refine wss_nil (wss_cons (ws_ret (we_call F3 (hr.mono (by omega)) (wa_cons (we_prop F1 (hr.mono (by omega)) (we_var 0 rfl ⟨_, insM, t, rfl, wa_cons (we_call F2 (hr.mono (by omega)) (wa_cons (we_var 0 rfl (wa_cons (we_prop F1 (hr.mono (by omega)) (we_var 0 rfl ⟨_, insM, t, rfl, wa_nil ⟨rfl, t, s, (by show [_, D.str (wordT t)] = _; rw [ew]), sm, hh, fun _ => hw, fun q ps hq hd => wa_nil ⟨rfl, s, q, ps, cn s t, (by show [D.str (wordT t), _] = _; rw [ew]), mset_same, hd, by omega, fun k => sm.tot s k, ?_, hne, ?_⟩⟩⟩))))))⟩))))))
    · have := sm.cnl s
      omega
    · rw [mdel_mset hq]; exact Lets.of hc
def cNormal (C : Addr) (h : Nat) : Con := fun ds M Φ => ∃ t u, ds = [planN C t] ∧ Sm t ∧ ht t ≤ h ∧ Nz t u ∧ ht u ≤ 2 * h ∧ (lv u).length < 1000 ∧ (nmT u).length ≤ 3 ∧ Φ (planN C u) M
theorem ok_normal (h : Nat) (h30 : h ≤ 30) (F1 : Fc P w K mg base "normal_text" [] (3 * h + 5) 1 (cNT C h)) (F2 : Kc P w K mg base "Plan" C [] (2 * (2 * h) + 6) 2 (cInitN C (2 * h))) : BodyOk P w K mg base "normal" s_normal ["plan"] 1 (4 * h + 7) (cNormal C h) := by
  intro f cdv A outer s0 H E hr ds M Φ hl hc
  obtain ⟨t, u, rfl, sm, hh, z, hu, hlv, h3, hc⟩ := hc
  have ht := sm.txt
  refine wss_cons (ws_ret (we_plan_n F2 (hr.mono (by omega)) (we_call F1 (hr.mono (by omega)) (wa_cons (we_var 0 rfl (wa_nil ⟨rfl, t, rfl, sm, hh, u, by rw [z.tx], z.g, hlv, h3, by rw [z.tx]; omega, hu, by omega, Lets.of hc⟩))))))
end
end W
namespace PL
open PySem SX TL
mutual
def crc : T → Nat
  | .one => 1
  | .name _ => 1
  | .cop s n t => if s = true then n * crc t else crc t
  | .row s ts => if s = true then crcS ts else crcM ts
def crcS : List T → Nat
  | [] => 0
  | t :: ts => crc t + crcS ts
def crcM : List T → Nat
  | [] => 0
  | t :: ts => max (crc t) (crcM ts)
end
mutual
def stg : T → Nat
  | .one => 1
  | .name _ => 1
  | .cop s n t => if s = true then stg t else n * stg t
  | .row s ts => if s = true then stgM ts else stgS ts
def stgS : List T → Nat
  | [] => 0
  | t :: ts => stg t + stgS ts
def stgM : List T → Nat
  | [] => 0
  | t :: ts => max (stg t) (stgM ts)
end
mutual
def hal : T → Nat
  | .one => 1
  | .name _ => 1
  | .cop s n t => if s = true then hal t + (n * ppl t - ppl t) else hal t
  | .row s ts => if s = true then ppls ts - hdf ts else halM ts
def hdf : List T → Nat
  | [] => 0
  | t :: ts => max (ppl t - hal t) (hdf ts)
def halM : List T → Nat
  | [] => 0
  | t :: ts => max (hal t) (halM ts)
end
mutual
theorem stg_mir : ∀ t : T, crc (mir t) = stg t
  | .one => by rw [mir, crc, stg]
  | .name x => by rw [mir, crc, stg]
  | .cop s n t => by rw [mir, crc, stg, stg_mir t]; cases s <;> rfl
  | .row s ts => by
    rw [mir, crc, stg, (stgs_mir ts).1, (stgs_mir ts).2]; cases s <;> rfl
theorem stgs_mir : ∀ ts : List T, crcS (mirs ts) = stgS ts ∧ crcM (mirs ts) = stgM ts
  | [] => by rw [mirs, crcS, crcM, stgS, stgM]; exact ⟨rfl, rfl⟩
  | t :: ts => by rw [mirs, crcS, crcM, stgS, stgM, stg_mir t, (stgs_mir ts).1, (stgs_mir ts).2]; exact ⟨rfl, rfl⟩
end
mutual
theorem crc_ok : ∀ {t : T}, Good t → 1 ≤ crc t ∧ crc t ≤ ppl t
  | .one, _ => by rw [crc, ppl]; exact ⟨Nat.le_refl _, Nat.le_refl _⟩
  | .name x, _ => by rw [crc, ppl]; exact ⟨Nat.le_refl _, Nat.le_refl _⟩
  | .cop s n t, h => by
    obtain ⟨h1, h2⟩ := crc_ok h.2.2
    have h3 : 1 * ppl t ≤ n * ppl t := Nat.mul_le_mul_right _ (by have := h.1; omega)
    rw [crc, ppl]
    split
    · exact ⟨Nat.mul_pos (by have := h.1; omega) h1, Nat.mul_le_mul_left _ h2⟩
    · exact ⟨h1, by omega⟩
  | .row s ts, h => by
    obtain ⟨h1, h2, h3, h4⟩ := crcs_ok h.2
    have h5 := h.1
    rw [crc, ppl]
    split
    · exact ⟨by omega, h2⟩
    · exact ⟨h4 (by omega), h3⟩
theorem crcs_ok : ∀ {ts : List T}, Goods ts → ts.length ≤ crcS ts ∧ crcS ts ≤ ppls ts ∧ crcM ts ≤ ppls ts ∧ (0 < ts.length → 1 ≤ crcM ts)
  | [], _ => by rw [crcS, crcM, ppls]; exact ⟨Nat.le_refl _, Nat.le_refl _, Nat.le_refl _, fun h => by simp at h⟩
  | t :: ts, h => by
    obtain ⟨h1, h2⟩ := crc_ok h.1
    obtain ⟨h3, h4, h5, _⟩ := crcs_ok h.2
    rw [crcS, crcM, ppls, List.length_cons]
    exact ⟨by omega, by omega, Nat.max_le.mpr ⟨by omega, by omega⟩, fun _ => Nat.le_trans h1 (Nat.le_max_left _ _)⟩
end
mutual
theorem mir_ppl : ∀ t : T, ppl (mir t) = ppl t
  | .one => by rw [mir]
  | .name x => by rw [mir]
  | .cop s n t => by rw [mir, ppl, ppl, mir_ppl t]
  | .row s ts => by rw [mir, ppl, ppl, mirs_ppl ts]
theorem mirs_ppl : ∀ ts : List T, ppls (mirs ts) = ppls ts
  | [] => by rw [mirs]
  | t :: ts => by rw [mirs, ppls, ppls, mir_ppl t, mirs_ppl ts]
end
theorem stg_ok {t : T} (h : Good t) : 1 ≤ stg t ∧ stg t ≤ ppl t := by
  have := crc_ok (mir_good h)
  rw [stg_mir] at this
  have e : ppl (mir t) = ppl t := mir_ppl t
  omega
mutual
theorem hal_ok : ∀ {t : T}, Good t → 1 ≤ hal t ∧ hal t ≤ ppl t
  | .one, _ => by rw [hal, ppl]; exact ⟨Nat.le_refl _, Nat.le_refl _⟩
  | .name x, _ => by rw [hal, ppl]; exact ⟨Nat.le_refl _, Nat.le_refl _⟩
  | .cop s n t, h => by
    obtain ⟨h1, h2⟩ := hal_ok h.2.2
    have h3 : 1 * ppl t ≤ n * ppl t := Nat.mul_le_mul_right _ (by have := h.1; omega)
    rw [hal, ppl]
    split
    · exact ⟨by omega, by omega⟩
    · exact ⟨h1, by omega⟩
  | .row s ts, h => by
    obtain ⟨h1, h3, h4⟩ := hals_ok h.2
    have h5 := h.1
    rw [hal, ppl]
    split
    · exact ⟨by have := h1 (by omega); omega, by omega⟩
    · exact ⟨h4 (by omega), h3⟩
theorem hals_ok : ∀ {ts : List T}, Goods ts → (0 < ts.length → hdf ts < ppls ts) ∧ halM ts ≤ ppls ts ∧ (0 < ts.length → 1 ≤ halM ts)
  | [], _ => by rw [halM, ppls]; exact ⟨fun h => by simp at h, Nat.le_refl _, fun h => by simp at h⟩
  | t :: ts, h => by
    obtain ⟨h1, h2⟩ := hal_ok h.1
    obtain ⟨h3, h5, _⟩ := hals_ok h.2
    have hp := ppl_pos h.1
    rw [hdf, halM, ppls]
    refine ⟨fun _ => Nat.max_lt.mpr ⟨by omega, ?_⟩, Nat.max_le.mpr ⟨by omega, by omega⟩, fun _ => Nat.le_trans h1 (Nat.le_max_left _ _)⟩
    cases ts with
    | nil => rw [hdf]; omega
    | cons u r => have := h3 (by simp); omega
end
/-- the rooms of the parts ahead -/
def cah : T → Nat → Nat
  | .cop _ _ t, i => i * crc t
  | .row _ ts, i => crcS (ts.take i)
  | _, _ => 0
def rm : T → List Nat → Nat
  | t, i :: p => match piece t i with
    | some u => (if intr t = true then cah t i else 0) + rm u p
    | none => 0
  | _, [] => 0
theorem crcS_snoc : ∀ (l : List T) (u : T), crcS (l ++ [u]) = crcS l + crc u
  | [], u => by simp [crcS]
  | t :: l, u => by rw [List.cons_append, crcS, crcS, crcS_snoc l u]; omega
theorem crcM_snoc : ∀ (l : List T) (u : T), crcM (l ++ [u]) = max (crcM l) (crc u)
  | [], u => by simp [crcM]
  | t :: l, u => by rw [List.cons_append, crcM, crcM, crcM_snoc l u, Nat.max_assoc]
end PL
namespace W
open PySem PySem.Spec PyProof.Rows L2 DL SX PL SlX
def deepC : Nat → T
  | 0 => .one
  | n + 1 => .cop false 2 (deepC n)
def odd' (n : Nat) : Bool := decide (n % 2 = 1)
def deepT : Nat → T
  | 0 => .one
  | n + 1 => .row (odd' (n + 1)) [.one, deepT n]
def dueT : Nat → T
  | 0 => .row false [.one, .cop true 2 .one]
  | n + 1 => if n + 1 ≤ 2 then .row false [.one, .cop true 2 .one] else .row (odd' (n + 1)) [dueT n, .one]
theorem nrmT : nrm (deepT 10) = txt (dueT 10) := by decide +kernel
end W
namespace W
open PySem PySem.Spec PyProof.Rows L2 DL SX PL SlX
abbrev ten : T := .cop false 10 .one
/-- k ones, ten, m ones -/
def lgL (k m : Nat) : List T := List.replicate k .one ++ ten :: List.replicate m .one
def longT (k m : Nat) : T := .row false (lgL k m)
theorem lg_mem {k m : Nat} {t : T} (h : t ∈ lgL k m) : t = .one ∨ t = ten := by
  unfold lgL at h
  rcases List.mem_append.mp h with h | h
  · exact .inl (List.eq_of_mem_replicate h)
  · rcases List.mem_cons.mp h with h | h
    · exact .inr h
    · exact .inl (List.eq_of_mem_replicate h)
theorem lg_len (k m : Nat) : (lgL k m).length = k + m + 1 := by unfold lgL; simp; omega
theorem lg_sum (f : List T → Nat) (g : T → Nat) (h0 : f [] = 0) (hs : ∀ t ts, f (t :: ts) = g t + f ts) (g1 : g .one = 1) (k m : Nat) : f (lgL k m) = k + (g ten + m) := by
  have hm : ∀ m, f (List.replicate m .one) = m := fun m => by
    induction m with
    | zero => exact h0
    | succ m ih => rw [List.replicate_succ, hs, g1, ih]; omega
  induction k with
  | zero => unfold lgL; rw [List.replicate_zero, List.nil_append, hs, hm]; omega
  | succ k ih =>
    unfold lgL at ih ⊢
    rw [List.replicate_succ, List.cons_append, hs, g1, ih]; omega
theorem lg_max (f : List T → Nat) (g : T → Nat) (h0 : f [] = 0) (hs : ∀ t ts, f (t :: ts) = max (g t) (f ts)) (g1 : g .one = 1) (gt : g ten = 1) (k m : Nat) : f (lgL k m) = 1 := by
  have hm : ∀ m, f (List.replicate m .one) ≤ 1 := fun m => by
    induction m with
    | zero => rw [List.replicate_zero, h0]; decide
    | succ m ih => rw [List.replicate_succ, hs, g1]; omega
  have hk : ∀ k, f (List.replicate k .one ++ ten :: List.replicate m .one) = 1 := fun k => by
    induction k with
    | zero => rw [List.replicate_zero, List.nil_append, hs, gt]; have := hm m; omega
    | succ k ih => rw [List.replicate_succ, List.cons_append, hs, g1, ih]; rfl
  exact hk k
theorem ten_n : ppl ten = 10 ∧ crc ten = 1 ∧ stg ten = 10 ∧ rws ten = 10 ∧ hal ten = 1 ∧ nds ten = 2 := by decide +kernel
theorem long_n (k m : Nat) : ppl (longT k m) = k + (10 + m) ∧ crc (longT k m) = 1 ∧ stg (longT k m) = k + (10 + m) ∧ rws (longT k m) = k + (10 + m) ∧ hal (longT k m) = 1 ∧ nds (longT k m) = k + (2 + m) + 1 ∧ PL.cnt (longT k m) = k + m + 1 := by
  obtain ⟨a1, a2, a3, a4, a5, a6⟩ := ten_n
  unfold longT
  refine ⟨?_, ?_, ?_, ?_, ?_, ?_, ?_⟩
  · rw [ppl, lg_sum ppls ppl (by rw [ppls]) (fun t ts => by rw [ppls]) (by rw [ppl]) k m, a1]
  · rw [crc, if_neg Bool.false_ne_true, lg_max crcM crc (by rw [crcM]) (fun t ts => by rw [crcM]) (by rw [crc]) a2 k m]
  · rw [stg, if_neg Bool.false_ne_true, lg_sum stgS stg (by rw [stgS]) (fun t ts => by rw [stgS]) (by rw [stg]) k m, a3]
  · rw [rws, if_neg Bool.false_ne_true, lg_sum rwss rws (by rw [rwss]) (fun t ts => by rw [rwss]) (by rw [rws]) k m, a4]
  · rw [hal, if_neg Bool.false_ne_true, lg_max halM hal (by rw [halM]) (fun t ts => by rw [halM]) (by rw [hal]) a5 k m]
  · rw [nds, lg_sum ndss nds (by rw [ndss]) (fun t ts => by rw [ndss]) (by rw [nds]) k m, a6]
  · have ones : ∀ l : List T, (l.map fun _ => 1).sum = l.length := fun l => by
      induction l with
      | nil => rfl
      | cons x l ih => rw [List.map_cons, List.sum_cons, ih, List.length_cons]; omega
    rw [PL.cnt, kids, List.map_map]
    show ((lgL k m).map fun _ => 1).sum = _
    rw [ones, lg_len]
theorem good_ten : Good ten := ⟨by decide, by decide, trivial⟩
theorem long_good (k m : Nat) (h : 1 ≤ k + m) : Good (longT k m) := ⟨by rw [lg_len]; omega, goods_all.mpr fun t ht => by
  rcases lg_mem ht with rfl | rfl
  · trivial
  · exact good_ten⟩
theorem long_told (k m : Nat) : Told (longT k m) := tolds_all.mpr fun t ht => by
  rcases lg_mem ht with rfl | rfl
  · trivial
  · trivial
theorem long_ht (k m : Nat) : ht (longT k m) ≤ 2 := by
  unfold longT
  rw [ht]
  have key : ∀ l : List T, (∀ t ∈ l, ht t ≤ 1) → hts l ≤ 1 := by
    intro l
    induction l with
    | nil => intro _; rw [hts]; omega
    | cons t l ih =>
      intro h
      rw [hts]
      have := h t List.mem_cons_self
      have := ih fun u hu => h u (List.mem_cons_of_mem _ hu)
      omega
  have := key (lgL k m) fun t h => by
    rcases lg_mem h with rfl | rfl
    · rw [ht]; omega
    · rw [ht, ht]; omega
  omega
theorem nrm_same {s : Bool} {ts : List T} {k : List Nat} (h : ∀ q ∈ nfs s ts, q.2 = k) (ne : nfs s ts ≠ []) : nrm (.row s ts) = pt s ((nfs s ts).map (·.1)).sum k := by
  have hk : ky (nfs s ts) = [k] := by
    unfold ky
    rw [nmsOf_congr (ws := [S k]) fun z => ?_, nmsOf_one]
    · simp
    · constructor
      · intro hz
        obtain ⟨q, hq, rfl⟩ := List.mem_map.mp hz
        rw [h q hq]; exact List.mem_singleton.mpr rfl
      · intro hz
        rw [List.mem_singleton.mp hz]
        obtain ⟨q, hq⟩ := List.exists_mem_of_ne_nil _ ne
        exact List.mem_map.mpr ⟨q, hq, by rw [h q hq]⟩
  have ht : tot (nfs s ts) k = ((nfs s ts).map (·.1)).sum := by
    unfold tot
    rw [List.filter_eq_self.mpr fun q hq => by rw [h q hq]; exact decide_eq_true rfl]
  unfold nrm
  rw [nf]
  show jn s (nfs s ts) = _
  unfold jn
  rw [hk, List.map_cons, List.map_nil, ht]
theorem nf_one : (nf T.one).2 false = [(1, [49])] := by rw [nf]
theorem nf_ten : (nf ten).2 false = [(10, [49])] := by decide +kernel
theorem long_nfs (k m : Nat) : (∀ q ∈ nfs false (lgL k m), q.2 = [49]) ∧ ((nfs false (lgL k m)).map (·.1)).sum = k + (10 + m) := by
  constructor
  · intro q hq
    rw [nfs_flat] at hq
    obtain ⟨t, ht, hq⟩ := List.mem_flatMap.mp hq
    unfold cn at hq
    rcases lg_mem ht with rfl | rfl
    · rw [nf_one] at hq; rw [List.mem_singleton.mp hq]
    · rw [nf_ten] at hq; rw [List.mem_singleton.mp hq]
  · have := lg_sum (fun ts => ((nfs false ts).map (·.1)).sum) (fun t => ((nf t).2 false |>.map (·.1)).sum) (by show ((nfs false []).map (·.1)).sum = 0; rw [nfs]; rfl) (fun t ts => by show ((nfs false (t :: ts)).map (·.1)).sum = _; rw [nfs, List.map_append, List.sum_append]) (by show (((nf T.one).2 false).map (·.1)).sum = 1; rw [nf_one]; rfl) k m
    rw [show (((nf ten).2 false).map (·.1)).sum = 10 by rw [nf_ten]; rfl] at this
    exact this
theorem long_nrm (k m : Nat) : nrm (longT k m) = pt false (k + (10 + m)) [49] := by
  obtain ⟨h1, h2⟩ := long_nfs k m
  unfold longT
  rw [nrm_same h1 (fun e => by rw [e] at h2; simp at h2; omega), h2]
theorem join_length (J : List Nat) : ∀ (x : List Nat) (xs : List (List Nat)), (TL.joinL J (x :: xs)).length = x.length + (xs.map fun y => J.length + y.length).sum
  | x, [] => by simp [TL.joinL]
  | x, y :: xs => by
    rw [TL.joinL, List.length_append, List.length_append, join_length J y xs, List.map_cons, List.sum_cons]; omega
theorem long_parts (k m : Nat) : txts (lgL k m) = List.replicate k [49] ++ txt ten :: List.replicate m [49] := by
  rw [txts_map]
  unfold lgL
  rw [List.map_append, List.map_cons, List.map_replicate, List.map_replicate]
  rfl
theorem ten_txt : txt ten = "[10 1]".toList.map Char.toNat := by decide +kernel
theorem long_len (k m : Nat) (h : k + m = 498) : (txt (longT k m)).length = 2000 := by
  unfold longT
  rw [txt, long_parts]
  have hl : (txt ten).length = 6 := by rw [ten_txt]; rfl
  have hr : ∀ n, ((List.replicate n [49]).map fun y : List Nat => (sep false).length + y.length).sum = 4 * n := fun n => by
    induction n with
    | zero => rfl
    | succ n ih => rw [List.replicate_succ, List.map_cons, List.sum_cons, ih]; show 3 + 1 + 4 * n = _; omega
  cases k with
  | zero =>
    rw [List.replicate_zero, List.nil_append, List.length_cons, List.length_append, join_length, hl, hr]
    simp; omega
  | succ k =>
    rw [List.replicate_succ, List.cons_append, List.length_cons, List.length_append, join_length, List.map_append, List.sum_append, List.map_cons, List.sum_cons, hl, hr, hr]
    simp [sep]; omega
end W
namespace W
open PySem PySem.Spec PyProof.Rows L2 DL SX PL SlX
open Classical in
theorem okN_iff (d : List Nat) : okN d ↔ (d = TL.numL (NumText.digitsVal d) ∧ 2 ≤ NumText.digitsVal d ∧ NumText.digitsVal d ≤ 10 ^ 30) := by
  constructor
  · rintro ⟨n, rfl, h1, h2⟩
    rw [TL.numL_val]; exact ⟨rfl, h1, h2⟩
  · exact fun h => ⟨_, h.1, h.2⟩
def okNb (d : List Nat) : Bool := decide (d = TL.numL (NumText.digitsVal d)) && (decide (2 ≤ NumText.digitsVal d) && decide (NumText.digitsVal d ≤ 10 ^ 30))
theorem okNb_iff (d : List Nat) : okNb d = true ↔ okN d := by
  rw [okN_iff]; unfold okNb
  simp only [Bool.and_eq_true, decide_eq_true_eq]
def LLc (le : List Nat → Option (List Nat)) (J : List Nat) : Nat → List Nat → Option (List Nat)
  | 0, r => some r
  | g + 1, r => if r.take 3 = J then (match le (r.drop 3) with | none => none | some r2 => LLc le J g r2) else some r
def LEc : Nat → List Nat → Option (List Nat)
  | 0, _ => none
  | _ + 1, [] => none
  | f + 1, c :: r =>
    if c = 49 then some r
    else if c = 91 ∨ c = 123 then
      (if okNb (r.takeWhile figure) = true ∧ (r.dropWhile figure).head? = some 32 then fin (c + 2) (LEc f ((r.dropWhile figure).drop 1)) else none)
    else if c = 40 then
      (match LEc f r with
        | none => none
        | some r1 => if r1.take 3 = sep false ∨ r1.take 3 = sep true then fin 41 (LLc (LEc f) (r1.take 3) (r1.length + 1) r1) else none)
    else if 1 ≤ ((c :: r).takeWhile letter).length ∧ ((c :: r).takeWhile letter).length ≤ 8 then some ((c :: r).dropWhile letter) else none
theorem LLc_eq (le : List Nat → Option (List Nat)) (J : List Nat) : ∀ (g : Nat) (r : List Nat), LL le J g r = LLc le J g r
  | 0, r => by rw [LL, LLc]
  | g + 1, r => by
    rw [LL, LLc]
    by_cases h : r.take 3 = J
    · rw [if_pos h, if_pos h]
      cases le (r.drop 3) with
      | none => rfl
      | some r2 => exact LLc_eq le J g r2
    · rw [if_neg h, if_neg h]
theorem LEc_eq : ∀ (f : Nat) (l : List Nat), LE f l = LEc f l
  | 0, l => by rw [LE, LEc]
  | f + 1, [] => by rw [LE, LEc]
  | f + 1, c :: r => by
    have hf : LE f = LEc f := funext (LEc_eq f)
    have hL : LL (LEc f) = LLc (LEc f) := by funext J g r; exact LLc_eq _ _ _ _
    rw [LE, LEc, hf, hL]
    by_cases h1 : c = 49
    · rw [if_pos h1, if_pos h1]
    rw [if_neg h1, if_neg h1]
    by_cases h2 : c = 91 ∨ c = 123
    · rw [if_pos h2, if_pos h2]
      by_cases h3 : okN (r.takeWhile figure) ∧ (r.dropWhile figure).head? = some 32
      · rw [if_pos h3, if_pos ⟨(okNb_iff _).mpr h3.1, h3.2⟩]
      · rw [if_neg h3, if_neg fun z => h3 ⟨(okNb_iff _).mp z.1, z.2⟩]
    rw [if_neg h2, if_neg h2]
    all_goals
      by_cases h4 : c = 40
      · rw [if_pos h4, if_pos h4]
        cases LEc f r with
        | none => rfl
        | some r1 =>
          show (if r1.take 3 = sep false ∨ r1.take 3 = sep true then _ else _) = if r1.take 3 = sep false ∨ r1.take 3 = sep true then _ else _
          by_cases h5 : r1.take 3 = sep false ∨ r1.take 3 = sep true
          · rw [if_pos h5]
          · rw [if_neg h5]
      rw [if_neg h4, if_neg h4]
theorem no_tx {l : List Nat} (h : LEc (opns l + 1) l ≠ some []) : ¬ Tx l := fun ⟨t, g, e⟩ => by
  have h1 := ht_opns t
  rw [e] at h1
  have := all_LE (f := opns l + 1) g (by omega)
  rw [e, LEc_eq] at this
  exact h this
def poolK : List Str := ["x", "y", "ann", "zzzzzzzz", "b", "cccccccc"]
def nL (a : Str) : List Nat := a.cps.toList
theorem S_nL (a : Str) : S (nL a) = a := by unfold nL; simp
def badA : List Str := ["", "0", "2", "11", "abcdefghi", "A", "a1", "x y", "(1)", "()", "(1 + )", "(1 +1)", "(1+ 1)", "(1 + 1"]
def badB : List Str := ["(1 + 1 * 1)", "(1 * 1 + 1)", "[1 1]", "[0 1]", "[-2 1]", "[02 1]", "[2 1}", "{2 1]", "[2  1]"]
def badC : List Str := ["1 + 1", "[2 ]", "[2]", "[2 1 1]", "[2 (1)]", " 1", "1 ", "(1 + 1) ", "(1  + 1)", "[x 1]", "(1 - 1)"]
def badS : List Str := badA ++ (badB ++ badC)
theorem badS_no : ∀ z ∈ badS, LEc (opns (nL z) + 1) (nL z) ≠ some [] ∧ z.length ≤ 20 ∧ ∀ c ∈ nL z, c < 0x110000 := by decide +kernel
def bigS : Str := "[1000000000000000000000000000001 1]"
theorem bigS_no : LEc (opns (nL bigS) + 1) (nL bigS) ≠ some [] ∧ bigS.length ≤ 40 ∧ ∀ c ∈ nL bigS, c < 0x110000 := by decide +kernel
mutual
def goodB : T → Bool
  | .one => true
  | .name x => !x.isEmpty && (decide (x.length ≤ 8) && x.all letter)
  | .cop _ n t => decide (2 ≤ n) && (decide (n ≤ 10 ^ 30) && goodB t)
  | .row _ ts => decide (2 ≤ ts.length) && goodsB ts
def goodsB : List T → Bool
  | [] => true
  | t :: ts => goodB t && goodsB ts
end
mutual
theorem good_of : ∀ t : T, goodB t = true → Good t
  | .one, _ => trivial
  | .name x, h => by
    rw [goodB, Bool.and_eq_true, Bool.and_eq_true] at h
    refine ⟨fun e => by rw [e] at h; exact absurd h.1 (by decide), of_decide_eq_true h.2.1, List.all_eq_true.mp h.2.2⟩
  | .cop s n t, h => by
    rw [goodB, Bool.and_eq_true, Bool.and_eq_true] at h
    exact ⟨of_decide_eq_true h.1, of_decide_eq_true h.2.1, good_of t h.2.2⟩
  | .row s ts, h => by
    rw [goodB, Bool.and_eq_true] at h
    exact ⟨of_decide_eq_true h.1, goods_of ts h.2⟩
theorem goods_of : ∀ ts : List T, goodsB ts = true → Goods ts
  | [], _ => trivial
  | t :: ts, h => by
    rw [goodsB, Bool.and_eq_true] at h
    exact ⟨good_of t h.1, goods_of ts h.2⟩
end
def nmK (a : Str) : T := .name (nL a)
def t30 : T := .cop false (10 ^ 30) .one
def fineT (a b c : Str) : List T := [.one, nmK a, nmK "abcdefgh", .row false [.one, .one], .row true [.one, .one], .cop false 2 .one, .cop true 2 .one, t30, .cop true (10 ^ 30) .one,
  .row false [nmK a, nmK b, nmK c, nmK a], .cop false 3 (.row true [nmK a, .cop true 2 (nmK b)]), .row false (List.replicate 30 .one)]
theorem fine_ok : ∀ a ∈ poolK, ∀ b ∈ poolK, ∀ c ∈ poolK, ∀ t ∈ fineT a b c, goodB t = true ∧ (lv t).length < 1000 ∧ (nmT t).length ≤ 3 ∧ (txt t).length ≤ 600 ∧ ht t ≤ 4 := by decide +kernel
def fourT (a b c d : Str) : List T := [.row false [nmK a, nmK b, nmK c, nmK d], .cop false 2 (.row true [nmK a, .row false [nmK b, .cop false 3 (.row true [nmK c, nmK d])]])]
theorem four_ok : ∀ a ∈ poolK, ∀ b ∈ poolK, ∀ c ∈ poolK, ∀ d ∈ poolK, [a, b, c, d].Nodup → ∀ t ∈ fourT a b c d, goodB t = true ∧ (lv t).length < 1000 ∧ 3 < (nmT t).length ∧ (txt t).length ≤ 600 ∧ ht t ≤ 5 := by decide +kernel
end W
namespace DL
open PySem PySem.Spec PyProof.Rows L2
section
variable {X : Cx} {ρ : Rho} {M : Mp} {Φ : D → Mp → Prop} {Θ : Bool → Mp → Prop} {a b e o : Expr} {es : List Expr} {pos p apos : Pos}
theorem wg_unl {d : D} {ds : List D} {k1 n : Nat} {Ω : Rho → Mp → Prop} (h : d = .lst ds ∧ ds.length = n ∧ WGs X es ds ρ M Ω) (hc : X.calm = true := by rfl) (hn : (assignEach es X.env).length = n := by rfl) (hst : (assignEach es X.env).findIdx? (·.1) = none := by rfl) : WG X (.Tuple es k1 pos) d ρ M Ω := .mk fun {Z} σ H v Q en w r k => by
  obtain ⟨rfl, hl, h⟩ := h
  obtain ⟨a, vs, rfl, hq, rs⟩ := r.asLst (ds := ds) w rfl
  exact gOf (L2.pg_unl hc pgs_sem hn hst) ⟨a, vs, rfl, hq, by rw [rs.length]; exact hl, h.run σ H vs Q en w rs k⟩
theorem we_dict0 (h : Φ (.dK []) M) : WE X ρ M (.Dict [] [] pos) Φ := .mk fun σ H Q en w k => eOf pe_dnewK fun p hp => k.new w hp (.dK upd_same (w.fresh hp) .nil) h
end
end DL
namespace W
open PySem PySem.Spec PyProof.Rows L2 DL SX PL SlX
abbrev figF : List Str := ["own_circle", "own_hall", "own_people", "own_rows", "own_strangers"]
def out5 : List Int → List Int
  | [p, c, s, r, h] => [c, h, p, r, s]
  | l => l
/-- what the written part says of Figures -/
structure Gx (K : PySem.W.Frag) (mg : Str → Option Value) (G : Addr) : Prop where
  at_ : mg "Figures" = some (.ref G)
  sl : SlC K G figF
  init : ∃ f fd, Mk K G f ∧ FunD K "__init__" "Figures.__init__" (defArgs s_Figures___init__) (defBody s_Figures___init__) (defScope s_Figures___init__) [.int 1, .int 1, .int 1, .int 1, .int 1] [] f fd
  copied : ∃ f, Meth K G "copied" f ∧ Md K G "copied" "Figures.copied" s_Figures_copied f
  joined : ∃ f, Meth K G "joined" f ∧ Md K G "joined" "Figures.joined" s_Figures_joined f
section
variable {P : Program} {w : World} {K : PySem.W.Frag} {mg : Str → Option Value} {base : Heap} {C G : Addr}
abbrev nFi : List Str := ["self", "people", "circle", "strangers", "rows", "hall"]
theorem fig_init {f : Addr} {fd : FuncData} (S : SlC K G figF) (F : FunD K "__init__" "Figures.__init__" (defArgs s_Figures___init__) (defBody s_Figures___init__) (defScope s_Figures___init__) [.int 1, .int 1, .int 1, .int 1, .int 1] [] f fd) : FnOk P w K mg base CX0 1 f fd nFi (spF G out5) := by
  refine F.ok (N := nFi) (ps := nFi) ⟨rfl, rfl, rfl, by decide +kernel, rfl, by decide +kernel, by decide +kernel⟩ (fun vs H Q E q => ?_) (fun cdv A outer s H vs Q E hr q => ?_)
  · obtain ⟨a, dx, ns, rfl, h5, _⟩ := q
    rw [List.length_cons, List.length_map, h5]; rfl
  · obtain ⟨a, dx, ns, rfl, h5, hH, ne, q⟩ := q
    match ns, h5 with
    | [p, c, st, r, h], _ =>
    obtain ⟨d0, t0⟩ := S.sl 0 _ rfl
    obtain ⟨d1, t1⟩ := S.sl 1 _ rfl
    obtain ⟨d2, t2⟩ := S.sl 2 _ rfl
    obtain ⟨d3, t3⟩ := S.sl 3 _ rfl
    obtain ⟨d4, t4⟩ := S.sl 4 _ rfl
    refine ⟨_, PSs.nox (pss_cons (ps_sl (pe_var (i := 0) rfl (Or.inl rfl)) (pe_var (i := 1) rfl (Or.inl rfl))) (pss_cons (ps_sl (pe_var (i := 0) rfl (Or.inl rfl)) (pe_var (i := 2) rfl (Or.inl rfl))) (pss_cons (ps_sl (pe_var (i := 0) rfl (Or.inl rfl)) (pe_var (i := 3) rfl (Or.inl rfl))) (pss_cons (ps_sl (pe_var (i := 0) rfl (Or.inl rfl)) (pe_var (i := 4) rfl (Or.inl rfl))) (pss_cons (ps_sl (pe_var (i := 0) rfl (Or.inl rfl)) (pe_var (i := 5) rfl (Or.inl rfl))) pss_nil))))), ?_⟩
    refine ⟨_, rfl, _, rfl, a, G, dx, d2, [], 2, rfl, .inl ⟨hH, rfl⟩, S.sc, t2, ?_⟩
    refine ⟨_, rfl, _, rfl, a, G, dx, d0, _, 0, rfl, slH_slt ne, S.sc, t0, ?_⟩
    refine ⟨_, rfl, _, rfl, a, G, dx, d4, _, 4, rfl, slH_slt ne, S.sc, t4, ?_⟩
    refine ⟨_, rfl, _, rfl, a, G, dx, d3, _, 3, rfl, slH_slt ne, S.sc, t3, ?_⟩
    refine ⟨_, rfl, _, rfl, a, G, dx, d1, _, 1, rfl, slH_slt ne, S.sc, t1, ?_⟩
    rw [slH_twice ne, slH_twice ne, slH_twice ne, slH_twice ne]
    exact q
theorem gk5 (X : Gx K mg G) : Gk P w K mg base "Figures" G 1 [] out5 ∧ Gk P w K mg base "Figures" G 1 [1, 1, 1, 1, 1] out5 := by
  obtain ⟨f, fd, mk, F⟩ := X.init
  have o := fig_init (P := P) (w := w) (mg := mg) (base := base) X.sl F
  obtain ⟨ds, hv, hB⟩ := F.binds1 (ps := nFi) 6 5 (by simp) rfl (fun _ _ _ _ _ _ _ us its h1 h2 => match us, its, h1, h2 with | [_, _, _, _, _, _], [_, _, _, _, _], _, _ => ⟨_, rfl, rfl⟩)
  obtain ⟨ds', hv', hB'⟩ := F.binds1 (ps := nFi) 1 0 (by simp) rfl (fun _ _ _ _ _ _ _ us its h1 h2 => match us, its, h1, h2 with | [_], [_, _, _, _, _], _, _ => ⟨_, rfl, rfl⟩)
  exact ⟨⟨X.at_, f, fd, nFi, ds, o, mk, hB, hv⟩, ⟨X.at_, f, fd, nFi, ds', o, mk, hB', hv'⟩⟩
end
end W
namespace W
open PySem PySem.Spec PyProof.Rows L2 DL SX PL SlX
def figD (G : Addr) (p c s r h : Nat) : D := .fig G [(c : Int), (h : Int), (p : Int), (r : Int), (s : Int)]
theorem wrd_beside (b : Bool) : decide (wrd b = ("beside" : Str)) = !b := by cases b <;> decide +kernel
section
variable {P : Program} {w : World} {K : PySem.W.Frag} {mg : Str → Option Value} {base : Heap} {C G : Addr}
def cCopied (G : Addr) : Con := fun ds M Φ => ∃ (p c s r h n m : Nat) (b : Bool), ds = [figD G p c s r h, .str (wrd b), .int (n : Nat)] ∧ 1 ≤ n ∧ n ≤ 10 ^ 30 ∧ 1 ≤ r ∧ r ≤ p ∧ c ≤ p ∧ s ≤ p ∧ h ≤ p ∧ p < 16 ^ m ∧ m ≤ 100000 ∧
  Φ (figD G (n * p) (if b = true then n * c else c) (if b = true then s else n * s) (if b = true then max 1 (r + p - n * p) else n * r) (if b = true then h + (n * p - p) else h)) M
abbrev nCopied : List Str := ["self", "word", "many", "people", "more", "rows"]
theorem ok_copied (F : Fx w K mg) (X : Gx K mg G) : BodyOk P w K mg base "Figures.copied" s_Figures_copied nCopied 3 2 (cCopied G) := by
  intro f cdv A outer s H E hr ds M Φ hl hc
  obtain ⟨p, c, st, r, h, n, m, b, rfl, n1, n30, r1, rp, cp, sp, hp, p16, m5, hc⟩ := hc
  have nd : nCopied.Nodup := by decide +kernel
  have G5 := (gk5 (P := P) (w := w) (base := base) X).1
  have np : p ≤ n * p := Nat.le_mul_of_pos_left _ (by omega)
  refine wss_cons (ws_set 3 nd (we_mulI (we_var 2 rfl (we_gfld X.sl (we_var 0 rfl ⟨_, 2, _, rfl, rfl, rfl, _, _, rfl, rfl, mul_ok n30 p16 m5, ?_⟩)))))
  rw [← Int.natCast_mul]
  refine wss_cons (ws_if (wt_eqS (we_var 1 rfl (we_gstr F.gBESIDE ⟨_, rfl, ?_⟩))))
  rw [wrd_beside]
  cases b with
  | false =>
    refine wss_cons (ws_ret (we_gmake G5 (hr.mono (by decide)) (wa_cons (we_var 3 rfl (wa_cons (we_gfld X.sl (we_var 0 rfl ⟨_, 0, _, rfl, rfl, rfl, wa_cons (we_mulI (we_var 2 rfl (we_gfld X.sl (we_var 0 rfl ⟨_, 4, _, rfl, rfl, rfl, _, _, rfl, rfl, mul_ok n30 (Nat.lt_of_le_of_lt sp p16) m5, wa_cons (we_mulI (we_var 2 rfl (we_gfld X.sl (we_var 0 rfl ⟨_, 3, _, rfl, rfl, rfl, _, _, rfl, rfl, mul_ok n30 (Nat.lt_of_le_of_lt rp p16) m5, wa_cons (we_gfld X.sl (we_var 0 rfl ⟨_, 1, _, rfl, rfl, rfl, wa_nil ⟨[_, _, _, _, _], rfl, rfl, Lets.of ?_⟩⟩))⟩))))⟩))))⟩)))))))
    have := hc
    change Φ (figD G (n * p) c (n * st) (n * r) h) M at this
    unfold figD at this
    rw [Int.natCast_mul n st, Int.natCast_mul n r] at this
    exact this
  | true =>
    have mle : n * c ≤ n * p := Nat.mul_le_mul_left _ cp
    refine wss_nil (wss_cons (ws_set 4 nd (we_subI (we_var 3 rfl (we_gfld X.sl (we_var 0 rfl ⟨_, 2, _, rfl, rfl, rfl, _, _, rfl, rfl, ?_⟩))))))
    refine wss_cons (ws_set 5 nd (we_maxL (F.bn _ (by decide +kernel)) (we_lst (wa_cons (we_int (wa_cons (we_subI (we_gfld X.sl (we_var 0 rfl ⟨_, 3, _, rfl, rfl, rfl, we_var 4 rfl ⟨_, _, rfl, rfl, wa_nil ⟨sz2, [_, _], rfl, by simp, fun mx h1 h2 => ?_⟩⟩⟩)))))))))
    have e : mx = ((max 1 (r + p - n * p) : Nat) : Int) := by
      have g1 := h2 1 (by simp)
      have g2 := h2 _ (List.mem_cons_of_mem _ List.mem_cons_self)
      simp only [List.mem_cons, List.not_mem_nil, or_false] at h1
      omega
    refine wss_cons (ws_ret (we_gmake G5 (hr.mono (by decide)) (wa_cons (we_var 3 rfl (wa_cons (we_mulI (we_var 2 rfl (we_gfld X.sl (we_var 0 rfl ⟨_, 0, _, rfl, rfl, rfl, _, _, rfl, rfl, mul_ok n30 (Nat.lt_of_le_of_lt cp p16) m5, wa_cons (we_gfld X.sl (we_var 0 rfl ⟨_, 4, _, rfl, rfl, rfl, wa_cons (we_var 5 rfl (wa_cons (we_addI (we_gfld X.sl (we_var 0 rfl ⟨_, 1, _, rfl, rfl, rfl, we_var 4 rfl ⟨_, _, rfl, rfl, wa_nil ⟨[_, _, _, _, _], rfl, rfl, Lets.of ?_⟩⟩⟩)))))⟩))⟩)))))))))
    have := hc
    change Φ (figD G (n * p) (n * c) st (max 1 (r + p - n * p)) (h + (n * p - p))) M at this
    unfold figD at this
    rw [Int.natCast_mul n c, show ((h + (n * p - p) : Nat) : Int) = (h : Int) + (((n * p : Nat) : Int) - (p : Nat)) by omega, ← e] at this
    exact this
def cJoined (G : Addr) : Con := fun ds M Φ => ∃ (p c s r h p2 c2 s2 r2 h2 : Nat) (b : Bool), ds = [figD G p c s r h, .str (wrd b), figD G p2 c2 s2 r2 h2] ∧ c ≤ p ∧ s ≤ p ∧ h ≤ p ∧ c2 ≤ p2 ∧ s2 ≤ p2 ∧ h2 ≤ p2 ∧
  Φ (figD G (p + p2) (if b = true then c + c2 else max c c2) (if b = true then max s s2 else s + s2) (if b = true then max 1 (max (r - p2) (r2 - p)) else r + r2) (if b = true then min (h + p2) (h2 + p) else max h h2)) M
abbrev nJoined : List Str := ["self", "word", "other", "people", "circle", "hall", "strangers", "rows"]
theorem max_of {x y : Nat} {m : Int} (h : m ∈ [(x : Int), (y : Int)]) (g : ∀ z, z ∈ [(x : Int), (y : Int)] → z ≤ m) : m = ((max x y : Nat) : Int) := by
  have g1 := g x List.mem_cons_self
  have g2 := g y (List.mem_cons_of_mem _ List.mem_cons_self)
  simp only [List.mem_cons, List.not_mem_nil, or_false] at h
  omega
theorem min_of {x y : Nat} {m : Int} (h : m ∈ [(x : Int), (y : Int)]) (g : ∀ z, z ∈ [(x : Int), (y : Int)] → m ≤ z) : m = ((min x y : Nat) : Int) := by
  have g1 := g x List.mem_cons_self
  have g2 := g y (List.mem_cons_of_mem _ List.mem_cons_self)
  simp only [List.mem_cons, List.not_mem_nil, or_false] at h
  omega
theorem ok_joined (F : Fx w K mg) (X : Gx K mg G) : BodyOk P w K mg base "Figures.joined" s_Figures_joined nJoined 3 2 (cJoined G) := by
  intro f cdv A outer s H E hr ds M Φ hl hc
  obtain ⟨p, c, st, r, h, p2, c2, s2, r2, h22, b, rfl, cp, sp, hp, cp2, sp2, hp2, hc⟩ := hc
  have nd : nJoined.Nodup := by decide +kernel
  have G5 := (gk5 (P := P) (w := w) (base := base) X).1
  refine wss_cons (ws_set 3 nd (we_addI (we_gfld X.sl (we_var 0 rfl ⟨_, 2, _, rfl, rfl, rfl, we_gfld X.sl (we_var 2 rfl ⟨_, 2, _, rfl, rfl, rfl, _, _, rfl, rfl, ?_⟩)⟩))))
  rw [← Int.natCast_add]
  refine wss_cons (ws_if (wt_eqS (we_var 1 rfl (we_gstr F.gBESIDE ⟨_, rfl, ?_⟩))))
  rw [wrd_beside]
  cases b with
  | false =>
    refine wss_cons (ws_par 4 5 nd (wa_cons (we_maxL (F.bn _ (by decide +kernel)) (we_lst (wa_cons (we_gfld X.sl (we_var 0 rfl ⟨_, 0, _, rfl, rfl, rfl, wa_cons (we_gfld X.sl (we_var 2 rfl ⟨_, 0, _, rfl, rfl, rfl, wa_nil ⟨sz2, [_, _], rfl, by simp, fun m1 g1 g1' => ?_⟩⟩))⟩)))))))
    obtain rfl := max_of g1 g1'
    refine wa_cons (we_maxL (F.bn _ (by decide +kernel)) (we_lst (wa_cons (we_gfld X.sl (we_var 0 rfl ⟨_, 1, _, rfl, rfl, rfl, wa_cons (we_gfld X.sl (we_var 2 rfl ⟨_, 1, _, rfl, rfl, rfl, wa_nil ⟨sz2, [_, _], rfl, by simp, fun m2 g2 g2' => ?_⟩⟩))⟩)))))
    obtain rfl := max_of g2 g2'
    refine wa_nil ⟨_, _, rfl, ?_⟩
    refine wss_cons (ws_par 6 7 nd (wa_cons (we_addI (we_gfld X.sl (we_var 0 rfl ⟨_, 4, _, rfl, rfl, rfl, we_gfld X.sl (we_var 2 rfl ⟨_, 4, _, rfl, rfl, rfl, _, _, rfl, rfl, wa_cons (we_addI (we_gfld X.sl (we_var 0 rfl ⟨_, 3, _, rfl, rfl, rfl, we_gfld X.sl (we_var 2 rfl ⟨_, 3, _, rfl, rfl, rfl, _, _, rfl, rfl, wa_nil ⟨_, _, rfl, ?_⟩⟩)⟩)))⟩)⟩)))))
    refine wss_cons (ws_ret (we_gmake G5 (hr.mono (by decide)) (wa_cons (we_var 3 rfl (wa_cons (we_var 4 rfl (wa_cons (we_var 6 rfl (wa_cons (we_var 7 rfl (wa_cons (we_var 5 rfl (wa_nil ⟨[_, _, _, _, _], rfl, rfl, Lets.of ?_⟩)))))))))))))
    have := hc
    change Φ (figD G (p + p2) (max c c2) (st + s2) (r + r2) (max h h22)) M at this
    unfold figD at this
    rw [Int.natCast_add st s2, Int.natCast_add r r2] at this
    exact this
  | true =>
    refine wss_nil (wss_cons (ws_set 7 nd (we_maxL (F.bn _ (by decide +kernel)) (we_lst (wa_cons (we_int (wa_cons (we_subI (we_gfld X.sl (we_var 0 rfl ⟨_, 3, _, rfl, rfl, rfl, we_gfld X.sl (we_var 2 rfl ⟨_, 2, _, rfl, rfl, rfl, _, _, rfl, rfl, wa_cons (we_subI (we_gfld X.sl (we_var 2 rfl ⟨_, 3, _, rfl, rfl, rfl, we_gfld X.sl (we_var 0 rfl ⟨_, 2, _, rfl, rfl, rfl, _, _, rfl, rfl, wa_nil ⟨sz3, [_, _, _], rfl, by simp, fun mx h1 h2 => ?_⟩⟩)⟩)))⟩)⟩))))))))))
    have e : mx = ((max 1 (max (r - p2) (r2 - p)) : Nat) : Int) := by
      have g1 := h2 1 (by simp)
      have g2 := h2 _ (List.mem_cons_of_mem _ List.mem_cons_self)
      have g3 := h2 _ (List.mem_cons_of_mem _ (List.mem_cons_of_mem _ List.mem_cons_self))
      simp only [List.mem_cons, List.not_mem_nil, or_false] at h1
      omega
    refine wss_cons (ws_set 5 nd (we_minL (F.bn _ (by decide +kernel)) (we_lst (wa_cons (we_addI (we_gfld X.sl (we_var 0 rfl ⟨_, 1, _, rfl, rfl, rfl, we_gfld X.sl (we_var 2 rfl ⟨_, 2, _, rfl, rfl, rfl, _, _, rfl, rfl, wa_cons (we_addI (we_gfld X.sl (we_var 2 rfl ⟨_, 1, _, rfl, rfl, rfl, we_gfld X.sl (we_var 0 rfl ⟨_, 2, _, rfl, rfl, rfl, _, _, rfl, rfl, wa_nil ⟨sz2, [_, _], rfl, by simp, fun m2 g2 g2' => ?_⟩⟩)⟩)))⟩)⟩)))))))
    rw [← Int.natCast_add, ← Int.natCast_add] at g2 g2'
    obtain rfl := min_of g2 g2'
    refine wss_cons (ws_set 6 nd (we_maxL (F.bn _ (by decide +kernel)) (we_lst (wa_cons (we_gfld X.sl (we_var 0 rfl ⟨_, 4, _, rfl, rfl, rfl, wa_cons (we_gfld X.sl (we_var 2 rfl ⟨_, 4, _, rfl, rfl, rfl, wa_nil ⟨sz2, [_, _], rfl, by simp, fun m3 g3 g3' => ?_⟩⟩))⟩))))))
    obtain rfl := max_of g3 g3'
    refine wss_cons (ws_ret (we_gmake G5 (hr.mono (by decide)) (wa_cons (we_var 3 rfl (wa_cons (we_addI (we_gfld X.sl (we_var 0 rfl ⟨_, 0, _, rfl, rfl, rfl, we_gfld X.sl (we_var 2 rfl ⟨_, 0, _, rfl, rfl, rfl, _, _, rfl, rfl, wa_cons (we_var 6 rfl (wa_cons (we_var 7 rfl (wa_cons (we_var 5 rfl (wa_nil ⟨[_, _, _, _, _], rfl, rfl, Lets.of ?_⟩))))))⟩)⟩))))))))
    have := hc
    change Φ (figD G (p + p2) (c + c2) (max st s2) (max 1 (max (r - p2) (r2 - p))) (min (h + p2) (h22 + p))) M at this
    unfold figD at this
    rw [Int.natCast_add c c2, ← e] at this
    exact this
end
end W
namespace W
open PySem PySem.Spec PyProof.Rows L2 DL SX PL SlX
/-- rows of some parts -/
def rr (b : Bool) (l : List T) : Nat := if b = true then max 1 (exs l - ppls l) else rwss l
theorem exs_snoc : ∀ (l : List T) (u : T), exs (l ++ [u]) = max (exs l) (rws u + ppl u)
  | [], u => by simp [exs]
  | t :: l, u => by rw [List.cons_append, exs, exs, exs_snoc l u, Nat.max_assoc]
theorem ppls_snoc : ∀ (l : List T) (u : T), ppls (l ++ [u]) = ppls l + ppl u
  | [], u => by simp [ppls]
  | t :: l, u => by rw [List.cons_append, ppls, ppls, ppls_snoc l u]; omega
theorem rwss_snoc : ∀ (l : List T) (u : T), rwss (l ++ [u]) = rwss l + rws u
  | [], u => by simp [rwss]
  | t :: l, u => by rw [List.cons_append, rwss, rwss, rwss_snoc l u]; omega
theorem rr_snoc {b : Bool} {l : List T} {u : T} (h : 1 ≤ rws u) (hp : 1 ≤ ppl u) : (if b = true then max 1 (max (rr b l - ppl u) (rws u - ppls l)) else rr b l + rws u) = rr b (l ++ [u]) := by
  unfold rr
  rw [exs_snoc, ppls_snoc, rwss_snoc]
  by_cases hb : b = true
  · rw [if_pos hb, if_pos hb, if_pos hb]; omega
  · rw [if_neg hb, if_neg hb, if_neg hb]
theorem rr_one {b : Bool} {u : T} (h : 1 ≤ rws u) : rr b [u] = rws u := by
  unfold rr
  rw [exs, exs, ppls, ppls, rwss, rwss]
  split <;> omega
theorem cop1 {b : Bool} {u : T} (h : 1 ≤ rws u) : (if b = true then max 1 (rws u + ppl u - 1 * ppl u) else 1 * rws u) = rws u := by split <;> omega
def cc (b : Bool) (l : List T) : Nat := if b = true then crcS l else crcM l
def sg (b : Bool) (l : List T) : Nat := if b = true then stgM l else stgS l
def hlf (b : Bool) (l : List T) : Nat := if b = true then ppls l - hdf l else halM l
theorem stgS_snoc : ∀ (l : List T) (u : T), stgS (l ++ [u]) = stgS l + stg u
  | [], u => by simp [stgS]
  | t :: l, u => by rw [List.cons_append, stgS, stgS, stgS_snoc l u]; omega
theorem stgM_snoc : ∀ (l : List T) (u : T), stgM (l ++ [u]) = max (stgM l) (stg u)
  | [], u => by simp [stgM]
  | t :: l, u => by rw [List.cons_append, stgM, stgM, stgM_snoc l u, Nat.max_assoc]
theorem halM_snoc : ∀ (l : List T) (u : T), halM (l ++ [u]) = max (halM l) (hal u)
  | [], u => by simp [halM]
  | t :: l, u => by rw [List.cons_append, halM, halM, halM_snoc l u, Nat.max_assoc]
theorem hdf_snoc : ∀ (l : List T) (u : T), hdf (l ++ [u]) = max (hdf l) (ppl u - hal u)
  | [], u => by simp [hdf]
  | t :: l, u => by rw [List.cons_append, hdf, hdf, hdf_snoc l u, Nat.max_assoc]
theorem hdf_le : ∀ (l : List T), hdf l ≤ ppls l
  | [] => by rw [hdf]; exact Nat.zero_le _
  | t :: l => by have := hdf_le l; rw [hdf, ppls]; omega
theorem cc_snoc {b : Bool} {l : List T} {u : T} : (if b = true then cc b l + crc u else max (cc b l) (crc u)) = cc b (l ++ [u]) := by
  unfold cc
  rw [crcS_snoc, crcM_snoc]
  cases b <;> rfl
theorem sg_snoc {b : Bool} {l : List T} {u : T} : (if b = true then max (sg b l) (stg u) else sg b l + stg u) = sg b (l ++ [u]) := by
  unfold sg
  rw [stgS_snoc, stgM_snoc]
  cases b <;> rfl
theorem hlf_snoc {b : Bool} {l : List T} {u : T} (h : hal u ≤ ppl u) : (if b = true then min (hlf b l + ppl u) (hal u + ppls l) else max (hlf b l) (hal u)) = hlf b (l ++ [u]) := by
  have h2 := hdf_le l
  unfold hlf
  rw [halM_snoc, hdf_snoc, ppls_snoc]
  cases b with
  | false => rfl
  | true => simp only [if_true]; omega
theorem cc_one {b : Bool} {u : T} : cc b [u] = crc u := by
  unfold cc
  rw [crcS, crcS, crcM, crcM]
  split <;> omega
theorem sg_one {b : Bool} {u : T} : sg b [u] = stg u := by
  unfold sg
  rw [stgS, stgS, stgM, stgM]
  split <;> omega
theorem hlf_one {b : Bool} {u : T} (h : hal u ≤ ppl u) : hlf b [u] = hal u := by
  unfold hlf
  rw [hdf, hdf, halM, halM, ppls, ppls]
  split <;> omega
theorem cop1c {b : Bool} {u : T} : (if b = true then 1 * crc u else crc u) = crc u := by split <;> omega
theorem cop1s {b : Bool} {u : T} : (if b = true then stg u else 1 * stg u) = stg u := by split <;> omega
theorem cop1h {b : Bool} {u : T} : (if b = true then hal u + (1 * ppl u - ppl u) else hal u) = hal u := by split <;> omega
section
variable {P : Program} {w : World} {K : PySem.W.Frag} {mg : Str → Option Value} {base : Heap} {C G : Addr}
def cFigs (C G : Addr) (h : Nat) : Con := fun ds M Φ => ∃ t, ds = [planD C t, .dK []] ∧ Ok t ∧ ht t ≤ h ∧ Φ (figD G (ppl t) (crc t) (stg t) (rws t) (hal t)) M
abbrev nFigs : List Str := ["plan", "known", "found", "many", "part", "here"]
theorem name_word {t : T} (h : Told t) : decide (wordT t = ("name" : Str)) = false := wordT_told h
theorem one_wordT {t : T} (h : Told t) : decide (wordT t = ("one" : Str)) = isOneT t := by
  cases t with
  | one => decide +kernel
  | name x => exact h.elim
  | cop s n u =>
    show decide (wrd s = ("one" : Str)) = false
    cases s <;> decide +kernel
  | row s ts =>
    show decide (wrd s = ("one" : Str)) = false
    cases s <;> decide +kernel
theorem ok_figures (h : Nat) (F : Fx w K mg) (Y : Px K mg C) (X : Gx K mg G) (F1 : Pc P w K mg base C "word" 1 (cGet C fun t => .str (wordT t))) (F2 : Mg P w K mg base G "copied" 3 3 (cCopied G)) (F3 : Mg P w K mg base G "joined" 3 3 (cJoined G)) (F4 : ∀ j, h = j + 1 → Fc P w K mg base "figures" [] (j + 4) 2 (cFigs C G j)) :
    BodyOk P w K mg base "figures" s_figures nFigs 2 (h + 3) (cFigs C G h) := by
  intro f cdv A outer s H E hr ds M Φ hl hc
  obtain ⟨t, rfl, ok, hh, hc⟩ := hc
  have nd : nFigs.Nodup := by decide +kernel
  have hk := kids_len ok.1
  have hlen := ok.2.2
  refine wss_cons (ws_if (wt_eqS (we_prop F1 (hr.mono (by omega)) (we_var 0 rfl ⟨_, insP ok.2.1, t, rfl, ok, we_gstr F.gONE ⟨_, rfl, ?_⟩⟩))))
  rw [one_wordT ok.2.1]
  cases h1 : isOneT t with
  | true =>
    cases t with
    | one =>
      refine wss_cons (ws_ret (we_gmake0 (gk5 (P := P) (w := w) (base := base) X).2 rfl (hr.mono (by omega)) (Lets.of ?_)))
      rw [ppl, rws, crc, stg, hal] at hc
      exact hc
    | _ => cases h1
  | false =>
  refine wss_nil (wss_cons (ws_if (wt_eqS (we_prop F1 (hr.mono (by omega)) (we_var 0 rfl ⟨_, insP ok.2.1, t, rfl, ok, we_gstr F.gNAME ⟨_, rfl, ?_⟩⟩)))))
  rw [name_word ok.2.1]
  refine wss_nil (wss_cons (ws_set 2 nd (we_non ?_)))
  refine wss_cons (ws_for PassesOwn.never (wi_list (we_fld (C := C) (we_var 0 rfl ⟨_, _, insP ok.2.1, Y.cl, Y.na _ (by decide +kernel), lk_groups, _, .inl rfl, ?_⟩))))
  cases t with
  | one => cases h1
  | name x => exact ok.2.1.elim
  | cop b n u =>
    have okv : Ok u := kids_Ok (q := (n, u)) (by simp [kids]) ok
    have hu := piece_ht (t := .cop b n u) (i := 0) (u := u) rfl
    obtain ⟨j, rfl⟩ : ∃ j, h = j + 1 := ⟨h - 1, by omega⟩
    have oc := crc_ok okv.1
    have os := stg_ok okv.1
    have oh := hal_ok okv.1
    refine ⟨fun i ρ' M' => M' = M ∧ ((i = 0 ∧ ρ' = [some (planD C (.cop b n u)), some (.dK []), some .non, none, none, none]) ∨ (i = 1 ∧ ∃ (o3 o4 o5 : Option D), ρ' = [some (planD C (.cop b n u)), some (.dK []), some (figD G (ppl (.cop b n u)) (crc (.cop b n u)) (stg (.cop b n u)) (rws (.cop b n u)) (hal (.cop b n u))), o3, o4, o5])), ⟨rfl, .inl ⟨rfl, rfl⟩⟩, ?_, ?_⟩
    · rintro i x ρ' M' hx ⟨rfl, hρ⟩
      have hi : i = 0 := by
        have := (List.getElem?_eq_some_iff.mp hx).1
        simpa [subsD, kids] using this
      subst hi
      rcases hρ with ⟨_, rfl⟩ | ⟨z, _⟩
      · have hx : x = .tup [.int (n : Nat), planD C u] := by simpa [subsD, kids] using hx.symm
        subst hx
        refine wg_tup ⟨rfl, rfl, wgs_cons (wg_name 3 (wgs_cons (wg_name 4 (wgs_nil ⟨rfl, ?_⟩) nd)) nd)⟩
        refine wss_cons (ws_set 5 nd (we_gmeth F2 (hr.mono (by omega)) (we_call (F4 j rfl) (hr.mono (by omega)) (wa_cons (we_var 4 rfl (wa_cons (we_var 1 rfl (wa_nil ⟨rfl, u, rfl, okv, by omega, ⟨_, rfl, ?_⟩⟩))))))))
        refine wa_cons (we_prop F1 (hr.mono (by omega)) (we_var 0 rfl ⟨_, insP ok.2.1, _, rfl, ok, wa_cons (we_var 3 rfl (wa_nil ⟨rfl, ppl u, crc u, stg u, rws u, hal u, n, (txt u).length, b, rfl, by have := ok.1.1; omega, ok.1.2.1, rws_pos okv.1, rws_le okv.1, oc.2, os.2, oh.2, ppl_lt okv.1, okv.2.2, ?_⟩))⟩))
        refine wss_cons (ws_set 2 nd (we_if (wt_isN (we_var 2 rfl ?_))))
        refine we_var 5 rfl (wss_nil ⟨rfl, .inr ⟨rfl, some (.int (n : Nat)), some (planD C u), some (figD G (ppl (.cop b n u)) (crc (.cop b n u)) (stg (.cop b n u)) (rws (.cop b n u)) (hal (.cop b n u))), ?_⟩⟩)
        rw [ppl, crc, stg, rws, hal]; rfl
      · omega
    · rintro ρ' M' ⟨rfl, hρ⟩
      rcases hρ with ⟨z, _⟩ | ⟨_, o3, o4, o5, rfl⟩
      · simp [subsD, kids] at z
      · exact wss_cons (ws_ret (we_var 2 rfl (Lets.of hc)))
  | row b ts =>
    have h2 := ok.1.1
    refine ⟨fun i ρ' M' => M' = M ∧ i ≤ ts.length ∧ ((i = 0 ∧ ρ' = [some (planD C (.row b ts)), some (.dK []), some .non, none, none, none]) ∨ (1 ≤ i ∧ ∃ (o3 o4 o5 : Option D), ρ' = [some (planD C (.row b ts)), some (.dK []), some (figD G (ppls (ts.take i)) (cc b (ts.take i)) (sg b (ts.take i)) (rr b (ts.take i)) (hlf b (ts.take i))), o3, o4, o5])), ⟨rfl, Nat.zero_le _, .inl ⟨rfl, rfl⟩⟩, ?_, ?_⟩
    · rintro i x ρ' M' hx ⟨rfl, hi, hρ⟩
      have hx2 : ∃ u, ts[i]? = some u ∧ x = .tup [.int ((1 : Nat) : Int), planD C u] := by
        have e : subsD C (.row b ts) = ts.map fun u => D.tup [.int ((1 : Nat) : Int), planD C u] := by
          show ((ts.map fun t => (1, t)).map fun q : Nat × T => D.tup [.int (q.1 : Nat), planD C q.2]) = _
          rw [List.map_map]; rfl
        rw [e, List.getElem?_map] at hx
        obtain ⟨u, hu, rfl⟩ := Option.map_eq_some_iff.mp hx
        exact ⟨u, hu, rfl⟩
      obtain ⟨u, hu, rfl⟩ := hx2
      have hilt := (List.getElem?_eq_some_iff.mp hu).1
      have okv : Ok u := kids_Ok (q := (1, u)) (by unfold kids; exact List.mem_map.mpr ⟨u, List.mem_of_getElem? hu, rfl⟩) ok
      have hut := piece_ht (t := .row b ts) (i := i) (u := u) hu
      obtain ⟨j, rfl⟩ : ∃ j, h = j + 1 := ⟨h - 1, by omega⟩
      have rp := rws_pos okv.1
      have pp := ppl_pos okv.1
      have oc := crc_ok okv.1
      have os := stg_ok okv.1
      have oh := hal_ok okv.1
      have tk : ts.take (i + 1) = ts.take i ++ [u] := take_snoc hu
      have tg : Goods (ts.take i) := goods_all.mpr fun x hx => goods_all.mp ok.1.2 x (List.mem_of_mem_take hx)
      have c1 : cc b (ts.take i) ≤ ppls (ts.take i) := by
        obtain ⟨_, g2, g3, _⟩ := crcs_ok tg
        unfold cc; split
        · exact g2
        · exact g3
      have c2 : sg b (ts.take i) ≤ ppls (ts.take i) := by
        obtain ⟨_, g2, g3, _⟩ := crcs_ok (mirs_good tg)
        rw [(stgs_mir _).1, mirs_ppl] at g2
        rw [(stgs_mir _).2, mirs_ppl] at g3
        unfold sg; split
        · exact g3
        · exact g2
      have c3 : hlf b (ts.take i) ≤ ppls (ts.take i) := by
        obtain ⟨_, g2, _⟩ := hals_ok tg
        unfold hlf; split
        · omega
        · exact g2
      have hstart : ∃ (y : D) (o3 o4 o5 : Option D), ρ' = [some (planD C (.row b ts)), some (.dK []), some y, o3, o4, o5] ∧ ((i = 0 ∧ y = .non) ∨ (1 ≤ i ∧ y = figD G (ppls (ts.take i)) (cc b (ts.take i)) (sg b (ts.take i)) (rr b (ts.take i)) (hlf b (ts.take i)))) := by
        rcases hρ with ⟨z, rfl⟩ | ⟨z, o3, o4, o5, rfl⟩
        · exact ⟨_, _, _, _, rfl, .inl ⟨z, rfl⟩⟩
        · exact ⟨_, _, _, _, rfl, .inr ⟨z, rfl⟩⟩
      obtain ⟨y, o3, o4, o5, rfl, hy⟩ := hstart
      refine wg_tup ⟨rfl, rfl, wgs_cons (wg_name 3 (wgs_cons (wg_name 4 (wgs_nil ⟨rfl, ?_⟩) nd)) nd)⟩
      refine wss_cons (ws_set 5 nd (we_gmeth F2 (hr.mono (by omega)) (we_call (F4 j rfl) (hr.mono (by omega)) (wa_cons (we_var 4 rfl (wa_cons (we_var 1 rfl (wa_nil ⟨rfl, u, rfl, okv, by omega, ⟨_, rfl, ?_⟩⟩))))))))
      refine wa_cons (we_prop F1 (hr.mono (by omega)) (we_var 0 rfl ⟨_, insP ok.2.1, _, rfl, ok, wa_cons (we_var 3 rfl (wa_nil ⟨rfl, ppl u, crc u, stg u, rws u, hal u, 1, (txt u).length, b, rfl, Nat.le_refl _, by decide, rp, rws_le okv.1, oc.2, os.2, oh.2, ppl_lt okv.1, okv.2.2, ?_⟩))⟩))
      rw [cop1 rp, cop1c, cop1s, cop1h, Nat.one_mul]
      refine wss_cons (ws_set 2 nd (we_if (wt_isN (we_var 2 rfl ?_))))
      rcases hy with ⟨z, rfl⟩ | ⟨z, rfl⟩
      · subst z
        refine we_var 5 rfl (wss_nil ⟨rfl, by omega, .inr ⟨by omega, some (.int ((1 : Nat) : Int)), some (planD C u), some (figD G (ppl u) (crc u) (stg u) (rws u) (hal u)), ?_⟩⟩)
        rw [tk, List.take_zero, List.nil_append, rr_one rp, cc_one, sg_one, hlf_one oh.2, show ppls [u] = ppl u by rw [ppls, ppls]; omega]; rfl
      · refine we_gmeth F3 (hr.mono (by omega)) (we_var 2 rfl ⟨_, rfl, wa_cons (we_prop F1 (hr.mono (by omega)) (we_var 0 rfl ⟨_, insP ok.2.1, _, rfl, ok, wa_cons (we_var 5 rfl (wa_nil ⟨rfl, _, _, _, _, _, _, _, _, _, _, b, rfl, c1, c2, c3, oc.2, os.2, oh.2, ?_⟩))⟩))⟩)
        rw [rr_snoc rp pp, cc_snoc, sg_snoc, hlf_snoc oh.2]
        refine wss_nil ⟨rfl, by omega, .inr ⟨by omega, some (.int ((1 : Nat) : Int)), some (planD C u), some (figD G (ppl u) (crc u) (stg u) (rws u) (hal u)), ?_⟩⟩
        rw [tk, ppls_snoc]; rfl
    · rintro ρ' M' ⟨rfl, hi, hρ⟩
      have hlen2 : (subsD C (.row b ts)).length = ts.length := by unfold subsD kids; rw [List.length_map, List.length_map]
      rw [hlen2] at hρ
      rcases hρ with ⟨z, _⟩ | ⟨_, o3, o4, o5, rfl⟩
      · omega
      · refine wss_cons (ws_ret (we_var 2 rfl (Lets.of ?_)))
        rw [List.take_length]
        rw [ppl, crc, stg, rws, hal] at hc
        exact hc
end
end W
namespace DL
open PySem PySem.Spec PyProof.Rows L2
section
variable {X : Cx} {ρ : Rho} {M : Mp} {Φ : D → Mp → Prop} {Θ : Bool → Mp → Prop} {Ψ : DE} {a b c e : Expr} {es : List Expr} {ss : List Stmt} {pos p p2 pos2 : Pos}
/-- a list that is changed no more -/
theorem wss_fz {i : Nat} {q : Addr} {ds : List D} (hi : ρ[i]? = some (some (.ob q))) (hq : M q = some (.lst ds)) (h : WSs X (ρ.set i (some (.lst ds))) (mdel M q) ss Ψ) : WSs X ρ M ss Ψ := .mk fun {Z} σ H E en w k => by
  have l : Les (mdel M q) M := les_del
  obtain ⟨v, hv, r⟩ := en.get hi
  have r2 := Fz.rep (.lst hq mdel_same) l w r
  have en2 := (en.mono (l.ext w)).set r2 i
  have e : σ.set i (some v) = σ := by
    apply List.ext_getElem?
    intro j
    by_cases hj : i = j
    · subst hj
      rw [List.getElem?_set_self (List.getElem?_eq_some_iff.mp hv).1, hv]
    · rw [List.getElem?_set_ne hj]
  rw [e] at en2
  exact h.run σ H E en2 (l.w w) (k.step (l.ext w))
end
end DL
namespace DL
open PySem PySem.Spec PyProof.Rows L2
section
variable {X : Cx} {ρ : Rho} {M : Mp} {Φ : D → Mp → Prop} {Ψ : DE} {a b e o : Expr} {es : List Expr} {pos p apos : Pos} {ss : List Stmt}
inductive FzF (M M' : Mp) : List (Str × D) → List (Str × D) → Prop where
  | nil : FzF M M' [] []
  | cons {k : Str} {d d' : D} {r r' : List (Str × D)} : Fz M M' d d' → FzF M M' r r' → FzF M M' ((k, d) :: r) ((k, d') :: r')
theorem FzF.rep {K : PySem.W.Frag} {M M' : Mp} {Z : Zn} {H : Hp} (l : Les M' M) (w : Wd K M Z H) : ∀ {vs : List (Str × V)} {fs fs' : List (Str × D)}, FzF M M' fs fs' → RepF K M Z H vs fs → RepF K M' Z H vs fs'
  | _, _, _, .nil, .nil => .nil
  | _, _, _, .cons f t, .cons r u => .cons (f.rep l w r) (FzF.rep l w t u)
end
end DL
namespace DL
open PySem PySem.Spec PyProof.Rows L2
section
variable {X : Cx} {ρ : Rho} {M : Mp} {Φ : D → Mp → Prop} {a b e o : Expr} {es : List Expr} {pos p apos : Pos}
theorem flat_rep {α : Type} (x : α) : ∀ n : Nat, (List.replicate n [x]).flatten = List.replicate n x
  | 0 => rfl
  | n + 1 => by rw [List.replicate_succ, List.flatten_cons, flat_rep x n, List.replicate_succ]; rfl
theorem reps_rep {K : PySem.W.Frag} {M : Mp} {Z : Zn} {H : Hp} {v : V} {d : D} (r : Rep K M Z H v d) : ∀ n : Nat, Reps K M Z H (List.replicate n v) (List.replicate n d)
  | 0 => .nil
  | n + 1 => by rw [List.replicate_succ, List.replicate_succ]; exact .cons r (reps_rep r n)
end
end DL
namespace DL
open PySem PySem.Spec PyProof.Rows L2
section
variable {X : Cx} {ρ : Rho} {M : Mp} {Φ : D → Mp → Prop} {Θ : Bool → Mp → Prop} {a b c : Expr} {pos : Pos}
theorem we_repI (h : WE X ρ M a fun x M1 => WE X ρ M1 b fun y M2 => ∃ (d : D) (n : Nat), x = .lst [d] ∧ y = .int (n : Nat) ∧ n ≤ sizeLine ∧ Φ (.lst (List.replicate n d)) M2) : WE X ρ M (.BinOp a .Mult b pos) Φ := we_op op_rep (h.imp fun _ _ h => h.imp fun _ _ h Z v u H Q w r1 r2 k => by
  obtain ⟨d, n, rfl, rfl, hz, h⟩ := h
  cases r2
  cases r1 with
  | lst h1 m1 r1 =>
    cases r1 with
    | cons r1 r2 =>
      cases r2
      have hs := sizeLine_eq
      refine ⟨_, _, _, rfl, rfl, h1, by omega, by omega, by rw [Int.toNat_natCast]; simp; exact hz, fun q hq => ?_⟩
      rw [Int.toNat_natCast, flat_rep]
      exact k.new w hq (.lst upd_same (w.fresh hq) ((reps_rep r1 n).mono (Ext.new w hq))) h)
end
end DL
namespace W
open PySem PySem.Spec PyProof.Rows L2 DL SX PL SlX
theorem units1 {k : Nat} {A : Around} (r : Room k A) : A.units + 1 < cLine := by have := r.un; omega
def wordsL : List Str := ["people", "circle", "strangers", "rows", "hall"]
section
variable {P : Program} {w : World} {K : PySem.W.Frag} {mg : Str → Option Value} {base : Heap} {C G : Addr}
def cIsW : Con := fun ds M Φ => ∃ (z : Str) (zs : List Str), ds = [.str z, .tup (zs.map D.str)] ∧ Φ (.bl (decide (z ∈ zs))) M
theorem ok_is_word (F : Fx w K mg) : BodyOk P w K mg base "is_word" s_is_word ["value", "words"] 2 0 cIsW := by
  intro f cdv A outer s H E hr ds M Φ hl hc
  obtain ⟨z, zs, rfl, hc⟩ := hc
  refine wss_cons (ws_ret (we_and (we_isi (F.bn _ (by decide +kernel)) (we_var 0 rfl (we_bty (F.bn _ (by decide +kernel)) rfl ⟨_, _, true, rfl, rfl, (by intro C h; cases h), rfl, true, rfl, ?_⟩)))))
  exact we_one (we_inS (we_var 0 rfl (we_var 1 rfl ⟨z, zs, rfl, .inl rfl, Lets.of hc⟩)))
end
end W
namespace W
open PySem PySem.Spec PyProof.Rows L2 DL SX PL SlX
section
variable {P : Program} {w : World} {K : PySem.W.Frag} {mg : Str → Option Value} {base : Heap} {C G : Addr}
def cChkW : Con := fun ds M Φ => ∃ z, ds = [.str z, .tup (wordsL.map D.str)] ∧ z ∈ wordsL ∧ Φ .non M
theorem ok_check_word (F1 : Fc P w K mg base "is_word" [] 1 2 cIsW) : BodyOk P w K mg base "check_word" s_check_word ["value", "words"] 2 1 cChkW := by
  intro f cdv A outer s H E hr ds M Φ hl hc
  obtain ⟨z, rfl, hz, hc⟩ := hc
  refine wss_cons (ws_if (wt_not (wt_val (we_call F1 (hr.mono (by decide)) (wa_cons (we_var 0 rfl (wa_cons (we_var 1 rfl (wa_nil ⟨rfl, _, _, rfl, _, rfl, ?_⟩)))))))))
  rw [decide_eq_true hz]
  exact wss_nil (wss_nil hc)
/-- the five numbers by their words -/
def numV (c h p r s : Int) : List (Str × Int) := [("people", p), ("circle", c), ("strangers", s), ("rows", r), ("hall", h)]
def cToldFor (G : Addr) : Con := fun ds M Φ => ∃ (c h p r s : Int) (z : Str) (v : Int), ds = [.fig G [c, h, p, r, s], .str z] ∧ (z, v) ∈ numV c h p r s ∧ Φ (.int v) M
theorem ok_told_for (X : Gx K mg G) (gPE : ∃ t, mg "PEOPLE" = some (.str "people" t)) (gCI : ∃ t, mg "CIRCLE" = some (.str "circle" t)) (gST : ∃ t, mg "STRANGERS" = some (.str "strangers" t)) (gRO : ∃ t, mg "ROWS" = some (.str "rows" t)) (gHA : ∃ t, mg "HALL" = some (.str "hall" t)) : BodyOk P w K mg base "Figures.told_for" s_Figures_told_for ["self", "word", "numbers"] 2 1 (cToldFor G) := by
  intro f cdv A outer s H E hr ds M Φ hl hc
  obtain ⟨c, h, p, r, s', z, v, rfl, hz, hc⟩ := hc
  have nd : (["self", "word", "numbers"] : List Str).Nodup := by decide +kernel
  have s5 : ∀ n : Nat, n ≤ 10 → n < sizeLine := fun n h => by rw [sizeLine_eq]; omega
  refine wss_cons (ws_set 2 nd (we_disp3I (we_gstr gPE (we_gfld X.sl (we_var 0 rfl ⟨_, 2, _, rfl, rfl, rfl, we_gstr gCI (we_gfld X.sl (we_var 0 rfl ⟨_, 0, _, rfl, rfl, rfl, we_gstr gST (we_gfld X.sl (we_var 0 rfl ⟨_, 4, _, rfl, rfl, rfl, _, _, _, _, _, _, rfl, rfl, rfl, rfl, rfl, rfl, by decide +kernel, by decide +kernel, by decide +kernel, fun q hq => ?_⟩))⟩))⟩)))))
  refine wss_cons (ws_asg (we_tup (wa_cons (we_gfld X.sl (we_var 0 rfl ⟨_, 3, _, rfl, rfl, rfl, wa_cons (we_gfld X.sl (we_var 0 rfl ⟨_, 1, _, rfl, rfl, rfl, wa_nil ⟨sz2, ?_⟩⟩))⟩)))))
  have e1 : putKD [((.inr "people" : Key), D.int p), (.inr "circle", .int c), (.inr "strangers", .int s')] (.inr "rows") (.int r) = [(.inr "people", .int p), (.inr "circle", .int c), (.inr "strangers", .int s'), (.inr "rows", .int r)] := rfl
  have e2 : putKD [((.inr "people" : Key), D.int p), (.inr "circle", .int c), (.inr "strangers", .int s'), (.inr "rows", .int r)] (.inr "hall") (.int h) = [(.inr "people", .int p), (.inr "circle", .int c), (.inr "strangers", .int s'), (.inr "rows", .int r), (.inr "hall", .int h)] := rfl
  have e3 : valK [((.inr "people" : Key), D.int p), (.inr "circle", .int c), (.inr "strangers", .int s'), (.inr "rows", .int r), (.inr "hall", .int h)] (.inr z) = some (.int v) := by
    unfold numV at hz
    simp only [List.mem_cons, List.not_mem_nil, or_false, Prod.mk.injEq] at hz
    rcases hz with ⟨rfl, rfl⟩ | ⟨rfl, rfl⟩ | ⟨rfl, rfl⟩ | ⟨rfl, rfl⟩ | ⟨rfl, rfl⟩ <;> rfl
  refine wg_tup ⟨rfl, rfl, wgs_cons (wg_dputK (units1 hr) (we_var 2 rfl (we_gstr gRO ⟨q, _, _, rfl, rfl, mset_same, s5 3 (by decide), ?_⟩)))⟩
  rw [mset_mset, e1]
  refine wgs_cons (wg_dputK (units1 hr) (we_var 2 rfl (we_gstr gHA ⟨q, _, _, rfl, rfl, mset_same, s5 4 (by decide), wgs_nil ⟨rfl, ?_⟩⟩)))
  rw [mset_mset, e2]
  exact wss_cons (ws_ret (we_dKgetO (units1 hr) (we_var 2 rfl (we_var 1 rfl ⟨q, _, _, _, rfl, mset_same, rfl, e3, ⟨_, M, les_new hq, .same _, hc⟩⟩))))
/-- the five numbers of a plan -/
def numL (t : T) : List (Str × Nat) := [("people", ppl t), ("circle", crc t), ("strangers", stg t), ("rows", rws t), ("hall", hal t)]
theorem numL_word {t : T} {z : Str} {v : Nat} (h : (z, v) ∈ numL t) : z ∈ wordsL := by
  unfold numL at h
  simp only [List.mem_cons, List.not_mem_nil, or_false, Prod.mk.injEq] at h
  rcases h with ⟨rfl, _⟩ | ⟨rfl, _⟩ | ⟨rfl, _⟩ | ⟨rfl, _⟩ | ⟨rfl, _⟩ <;> decide +kernel
theorem numL_V {t : T} {z : Str} {v : Nat} (h : (z, v) ∈ numL t) : (z, (v : Int)) ∈ numV (crc t : Nat) (hal t : Nat) (ppl t : Nat) (rws t : Nat) (stg t : Nat) := by
  have := List.mem_map_of_mem (f := fun q : Str × Nat => (q.1, (q.2 : Int))) h
  exact this
def cNum5 (C : Addr) (h : Nat) : Con := fun ds M Φ => ∃ t z v, ds = [planD C t, .str z] ∧ Ok t ∧ ht t ≤ h ∧ (z, v) ∈ numL t ∧ Φ (.int (v : Nat)) M
theorem ok_number (h : Nat) (X : Gx K mg G) (F1 : Fc P w K mg base "check_told" [] 3 1 (cTold C)) (F2 : Fc P w K mg base "check_word" [.tup (wordsL.map D.str)] 2 2 cChkW) (F3 : Fc P w K mg base "figures" [] (h + 4) 2 (cFigs C G h)) (F4 : Mg P w K mg base G "told_for" 2 2 (cToldFor G)) : BodyOk P w K mg base "number" s_number ["plan", "word"] 2 (h + 4) (cNum5 C h) := by
  intro f cdv A outer s H E hr ds M Φ hl hc
  obtain ⟨t, z, v, rfl, ok, hh, hz, hc⟩ := hc
  refine wss_cons (ws_expr (we_call F1 (hr.mono (by omega)) (wa_cons (we_var 0 rfl (wa_nil ⟨rfl, t, rfl, ok, ?_⟩)))))
  refine wss_cons (ws_expr (we_call F2 (hr.mono (by omega)) (wa_cons (we_var 1 rfl (wa_nil ⟨rfl, z, rfl, numL_word hz, ?_⟩)))))
  exact wss_cons (ws_ret (we_gmeth F4 (hr.mono (by omega)) (we_call F3 (hr.mono (by omega)) (wa_cons (we_var 0 rfl (wa_cons (we_dict0 (wa_nil ⟨rfl, t, rfl, ok, hh, ⟨_, rfl, wa_cons (we_var 1 rfl (wa_nil ⟨rfl, _, _, _, _, _, z, v, rfl, numL_V hz, Lets.of hc⟩))⟩⟩))))))))
end
end W
namespace W
open PySem PySem.Spec PyProof.Rows L2 DL SX PL
section
variable {P : Program} {w : World} {K : PySem.W.Frag} {mg : Str → Option Value} {base : Heap} {C : Addr}
abbrev potL (a c d : Int) : MO := .lst [.int a, .int c, .int d]
def cOk (c : Int) : Prop := 0 ≤ c ∧ c < 2305843009213693921
def cTake : Con := fun ds M Φ => ∃ p u a c d, ds = [.ob p, .int u] ∧ 1 ≤ u ∧ u ≤ 10 ^ 40 ∧ M p = some (potL a c d) ∧ cOk c ∧ 0 ≤ d ∧ d < 100000 ∧ ∀ r a' d', 0 ≤ r → r < u → d ≤ d' → d' ≤ d + 1 → Φ (.int r) (mset M p (potL a' c d'))
theorem at0 {a c d : Int} : atI [D.int a, D.int c, D.int d] 0 = some (.int a) := atI_nat (j := 0) rfl
theorem at1 {a c d : Int} : atI [D.int a, D.int c, D.int d] 1 = some (.int c) := atI_nat (j := 1) rfl
theorem at2 {a c d : Int} : atI [D.int a, D.int c, D.int d] 2 = some (.int d) := atI_nat (j := 2) rfl
def primes : List Int := [2147483647, 2147483629, 2147483587, 2147483579, 2147483563]
theorem prime_at {i : Int} (h0 : 0 ≤ i) (h5 : i < 5) : ∃ q, atI (primes.map D.int) i = some (.int q) ∧ 2147483563 ≤ q ∧ q ≤ 2147483647 := by
  obtain ⟨n, rfl⟩ := Int.eq_ofNat_of_zero_le h0
  have : n < 5 := by omega
  match n, this with
  | 0, _ => exact ⟨2147483647, atI_nat (j := 0) rfl, by decide, by decide⟩
  | 1, _ => exact ⟨2147483629, atI_nat (j := 1) rfl, by decide, by decide⟩
  | 2, _ => exact ⟨2147483587, atI_nat (j := 2) rfl, by decide, by decide⟩
  | 3, _ => exact ⟨2147483579, atI_nat (j := 3) rfl, by decide, by decide⟩
  | 4, _ => exact ⟨2147483563, atI_nat (j := 4) rfl, by decide, by decide⟩
theorem log40 {u : Int} (h1 : 1 ≤ u) (h2 : u ≤ 10 ^ 40) : u.natAbs.log2 < 9000 := by
  have e : u.natAbs < 16 ^ 40 := by
    have : (10 : Int) ^ 40 < 16 ^ 40 := by decide +kernel
    have e2 : ((16 ^ 40 : Nat) : Int) = 16 ^ 40 := by decide +kernel
    omega
  have := log16 e
  omega
abbrev nTake : List Str := ["_law_pot_here", "_law_upto", "_law_digit", "_law_prime", "_law_mixed"]
theorem sq_le {d : Int} (h0 : 0 ≤ d) (h : d ≤ 100000) : 0 ≤ 98035 * d * d ∧ 98035 * d * d ≤ 98035 * 100000 * 100000 := by
  have h1 : 0 ≤ d * d := Int.mul_nonneg h0 h0
  have h2 : d * d ≤ 100000 * 100000 := Int.mul_le_mul h h h0 (by decide)
  rw [Int.mul_assoc]
  omega
theorem ok_take (F : Fx w K mg) : BodyOk P w K mg base "_law_take" s__law_take nTake 2 0 cTake := by
  intro f cdv A outer s H E hr ds M Φ hl hc
  obtain ⟨p, u, a, c, d, rfl, hu, hu2, hM, ⟨c0, c1⟩, d0, d1, hc⟩ := hc
  have nd : nTake.Nodup := by decide +kernel
  refine wss_cons (ws_if (wt_gtI (we_ix (we_var 0 rfl (we_int ⟨0, _, rfl, ixO hM at0, we_int ⟨_, _, rfl, rfl, ?_⟩⟩)))))
  refine ite_dec (fun ha => ?_) fun ha => ?_
  · refine wss_cons (ws_set 2 nd (we_modI (we_intN (F.bn _ (by decide +kernel)) (we_ix (we_var 0 rfl (we_int ⟨0, _, rfl, ixO hM at0, .inl ⟨_, rfl, we_var 1 rfl ⟨_, _, rfl, rfl, by omega, ?_⟩⟩⟩))))))
    refine wss_cons (ws_asg (we_divI (we_ix (we_var 0 rfl (we_int ⟨0, _, rfl, ixO hM at0, we_var 1 rfl ⟨_, _, rfl, rfl, ⟨by omega, ?_⟩, ?_⟩⟩)))))
    · exact log40 hu hu2
    · refine wg_sub (we_var 0 rfl (we_int ⟨p, _, 0, 0, rfl, rfl, hM, rfl, ?_⟩))
      refine wss_cons (ws_ret (we_var 2 rfl (Lets.of ?_)))
      exact hc _ _ _ (Int.emod_nonneg _ (by omega)) (Int.emod_lt_of_pos _ (by omega)) (Int.le_refl _) (by omega)
  · refine wss_nil ?_
    refine wss_cons (ws_asg (we_addI (we_ix (we_var 0 rfl (we_int ⟨2, _, rfl, ixO hM at2, we_int ⟨_, _, rfl, rfl, ?_⟩⟩)))))
    refine wg_sub (we_var 0 rfl (we_int ⟨p, _, 2, 2, rfl, rfl, hM, rfl, ?_⟩))
    show WSs _ _ (mset M p (potL a c (d + 1))) _ _
    have hM2 : mset M p (potL a c (d + 1)) p = some (potL a c (d + 1)) := mset_same
    obtain ⟨q, hq, q1, q2⟩ := prime_at (i := (d + 1) % 5) (Int.emod_nonneg _ (by decide)) (Int.emod_lt_of_pos _ (by decide))
    refine wss_cons (ws_set 3 nd (we_ix (we_lst (wa_cons (we_int (wa_cons (we_int (wa_cons (we_int (wa_cons (we_int (wa_cons (we_int (wa_nil ⟨by show 5 ≤ sizeLine; decide, ?_⟩))))))))))))))
    refine we_modI (we_intN (F.bn _ (by decide +kernel)) (we_ix (we_var 0 rfl (we_int ⟨2, _, rfl, ixO hM2 at2, .inl ⟨_, rfl, we_int ⟨_, _, rfl, rfl, by decide, _, _, rfl, ixL hq, ?_⟩⟩⟩))))
    obtain ⟨s1, s2⟩ := sq_le (d := d + 1) (by omega) (by omega)
    refine wss_cons (ws_set 4 nd (we_modI (we_intN (F.bn _ (by decide +kernel)) (we_powI (we_intN (F.bn _ (by decide +kernel)) (we_addI (we_addI (we_ix (we_var 0 rfl (we_int ⟨1, _, rfl, ixO hM2 at1, ?_⟩))))))))))
    refine we_mulS (we_mulS (we_int (we_ix (we_var 0 rfl (we_int ⟨2, _, rfl, ixO hM2 at2, _, _, rfl, rfl, .inl ⟨by decide, by decide⟩, we_ix (we_var 0 rfl (we_int ⟨2, _, rfl, ixO hM2 at2, _, _, rfl, rfl, .inr ⟨by omega, by omega⟩, _, _, rfl, rfl, ?_⟩))⟩)))))
    refine we_int ⟨_, _, rfl, rfl, .inl ⟨_, rfl, we_int ⟨_, _, rfl, rfl, ⟨by decide, by decide, ?_⟩, .inl ⟨_, rfl, we_var 3 rfl ⟨_, _, rfl, rfl, by omega, ?_⟩⟩⟩⟩⟩
    · omega
    generalize hm : ((c + 98035 * (d + 1) * (d + 1) + 44) ^ (3 : Int).toNat) % q = m
    have m0 : 0 ≤ m := by rw [← hm]; exact Int.emod_nonneg _ (by omega)
    have m1 : m < q := by rw [← hm]; exact Int.emod_lt_of_pos _ (by omega)
    refine wss_cons (ws_set 4 nd (we_modI (we_intN (F.bn _ (by decide +kernel)) (we_mulS (we_var 4 rfl (we_addI (we_modI (we_intN (F.bn _ (by decide +kernel)) (we_var 4 rfl (.inl ⟨_, rfl, we_int ⟨_, _, rfl, rfl, by decide, ?_⟩⟩))))))))))
    refine we_mulS (we_int (we_ix (we_var 0 rfl (we_int ⟨2, _, rfl, ixO hM2 at2, _, _, rfl, rfl, .inl ⟨by decide, by decide⟩, _, _, rfl, rfl, _, _, rfl, rfl, .inl ⟨by omega, by omega⟩, .inl ⟨_, rfl, we_int ⟨_, _, rfl, rfl, by decide, ?_⟩⟩⟩))))
    refine wss_cons (ws_ret (we_modI (we_intN (F.bn _ (by decide +kernel)) (we_divI (we_var 4 rfl (we_int ⟨_, _, rfl, rfl, ⟨by decide, by decide⟩, .inl ⟨_, rfl, we_var 1 rfl ⟨_, _, rfl, rfl, by omega, Lets.of ?_⟩⟩⟩))))))
    exact hc _ _ _ (Int.emod_nonneg _ (by omega)) (Int.emod_lt_of_pos _ (by omega)) (by omega) (by omega)
end
end W
namespace W
open PySem PySem.Spec PyProof.Rows L2 DL SX PL
section
variable {P : Program} {w : World} {K : PySem.W.Frag} {mg : Str → Option Value} {base : Heap} {C : Addr}
/-- the script -/
abbrev scrD (ns : List Int) : D := .rol (ns.map D.int)
theorem bb (c : Bool) : -(2 ^ 64) < (if c = true then (1 : Int) else 0) ∧ (if c = true then (1 : Int) else 0) < 2 ^ 64 := by cases c <;> decide
def cCells : Con := fun ds M Φ => ∃ ns m, ds = [scrD ns, .int (m : Nat)] ∧ 1 ≤ m ∧ m ≤ 1000 ∧ ∀ n : Nat, n ≤ m → Φ (.lst (rngD 0 n)) M
end
end W
namespace XL
open PySem PySem.W PySem.Calls PyProof.Rows PySem.HandSPX L2 LamX
theorem pe_actV {X : Cx} {pins : List (Addr × Obj)} {σ : L2.St} {H : Hp} {s : Shared} {CXg : CXT} {Eg : XK} {Ng : List Str} {qg : Str} {sg : Scope} {g : Addr} {cdg : Value} {k i : Nat} {a : Str} {pn : List (Addr × Obj)} {xe : Value → Shared → Prop} {W : WX} {E : L2.St → XK} {p1 p2 : Pos} {tb : XK → Arguments → Expr → Scope → TE}
    (I : L2.Inv X pins σ H s) (tk : Takes ((cxOf CXg X.prog X.w X.K X.mg X.base Ng qg sg g cdg X.A X.stack s H Eg).tr pn xe) W) (hW : ∀ σZ cls d H', E σZ cls d H' → W cls d σZ H')
    (hr : Room (k + 1) (X.A.deeper (envOfC qg sg s.heap.objs.size g cdg)))
    (hbody : ∀ (E : XK) (params : Arguments) (body : Expr) (scope : Scope) (f c' : Addr) (A : Around) (outer : List Env) (s : Shared) (H : Hp), Room k (A.deeper (lamEnv X scope s.heap.objs.size f c')) → PE (lamCx X A outer s H E scope f c') body (tb E params body scope))
    (hN : Ng[i]? = some a) (hv : Vis sg a) (hd : (a == ("__debug__" : Str)) = false) (hcd : (a == ("__classdict__" : Str)) = false) :
    PE ((cxOf CXg X.prog X.w X.K X.mg X.base Ng qg sg g cdg X.A X.stack s H Eg).tr pn xe) (.Call (.Name a p1) [] [] p2)
      (fun σZ HZ Q => ∃ (f c' : Addr) (params : Arguments) (body : Expr) (scope : Scope), σZ[i]? = some (some (.ref f)) ∧ HZ f = some (LamO f (X.env.qual ++ "<lambda>") params body scope (cloFrom X.env.cells scope.names []) c') ∧ HZ c' = some (CodeO c' (X.env.qual ++ "<lambda>")) ∧
        LamS X.env.scope scope ∧ (∀ (pm cv ctv : Value), bindArgs (PySem.W.kla_fn "<lambda>" (X.env.qual ++ "<lambda>") params body scope (cloFrom X.env.cells scope.names []) pm cv ctv) ⟨[], []⟩ = pure []) ∧ tb (E σZ) params body scope σ HZ Q) := by
  refine ⟨fun pinsZ sZ σZ HZ Q IZ h => ?_⟩
  obtain ⟨f, c', params, body, scope, hs, hfo, hc, L, hbind, ht⟩ := h
  refine wpAny_Call_Name_kw (thn ((pe_var hN hv hd hcd).run pinsZ sZ σZ HZ (fun v H1 => v = V.ref f ∧ H1 = HZ) IZ ⟨.ref f, hs, rfl, rfl⟩) fun u s1 hh => ?_)
  obtain ⟨v, H1, I1, r1, rfl, rfl⟩ := hh
  obtain rfl : u = Value.ref f := r1
  obtain ⟨pm, ctv, of1⟩ := lamO_get I1.hok hfo
  refine PySem.W.callWith_F0 ⟨_, _, _, _, of1⟩ ?_
  have un := I1.base
  have hco := I1.hok c' _ hc
  unfold CodeO ObjOk at hco
  obtain ⟨⟨oc, vs, t, hoc, hdc, hvc⟩, _, _⟩ := hco
  have rc : codeAny (model X.prog X.w) (X.A.deeper (envOfC qg sg s.heap.objs.size g cdg)) (.call (.ref f) ⟨[], []⟩) (CR (CX X.prog X.w) (envOfC qg sg s.heap.objs.size g cdg :: X.stack) X.prog X.w H1 s1 Q (E σZ)) s1 := by
    refine PySem.W.kla_callFunE hr.depth of1 rfl L.co L.gen rfl ⟨c', oc, vs, t, rfl, hoc, hdc, hvc⟩ ?_
    rw [hbind]
    refine wpAny_pure (wpAny_newFunctionEnv (fun y hy => (L.own y hy).2) (fun y hy => absurd hy List.not_mem_nil) (fun h₁ hns hsb => ⟨I1.nolimit.fresh _ hsb, ?_⟩) L.kind)
    have kp : ∀ b o, s1.heap.get? b = some o → h₁.get? b = some o := fun b o e => hsb.extBut b o (Nat.ne_of_lt (Heap.lt_size e)) (Heap.get?_push_of_some _ e)
    have J := lam_start2 (tk := s1.toks + ([] : List (Str × Value)).length) (E := E σZ) (f := f) (c' := c') I L I1.env0 hr.hd un hns kp
    exact PySem.W.kla_codeExpr (wpAny_mono ((hbody (E σZ) params body scope f c' _ _ s1 H1 (hr.deeper _)).run [] _ σ H1 Q J ht) (fun v s' hq => by
      obtain ⟨w', H', J', rv, q⟩ := hq
      exact ⟨w', H', J'.os, J'.bare, J'.base, J'.hok, rv, q⟩) fun e s' hq => hq)
  refine wpAny_call (codeAny_mono rc fun r s' hq => ?_)
  cases r with
  | error e =>
    obtain ⟨a, B, H', cls, d, y1, y2, y3, y4, y5, y6, y7, y8⟩ := hq
    exact passAt tk σZ pinsZ H1 s1 e s' I1 ⟨a, B, H', cls, d, y1, y2, y3, y4, y5, y6, y7, hW _ _ _ _ y8⟩
  | ok fl =>
    cases fl with
    | ret u => exact I1.after hq
    | next => exact hq.elim
    | brk => exact hq.elim
    | cont => exact hq.elim
end XL
namespace DL
open PySem PySem.Spec PyProof.Rows L2
/-- what is wanted where an error is raised: its class, its fields -/
abbrev Xi := Addr → List (Str × D) → Mp → Prop
def KX (K : PySem.W.Frag) (M : Mp) (Z : Zn) (H : Hp) (Ξ : Xi) (E : XK) : Prop := ∀ C fs vs d H' M', Ext M Z H M' H' → Wd K M' Z H' → H' d = some (.xd vs) → Im M' Z d → RepF K M' Z H' vs fs → Ξ C fs M' → E (.ref C) (some d) H'
theorem KX.step {K : PySem.W.Frag} {M M1 : Mp} {Z : Zn} {H H1 : Hp} {Ξ : Xi} {E : XK} (k : KX K M Z H Ξ E) (e : Ext M Z H M1 H1) : KX K M1 Z H1 Ξ E := fun C fs vs d H' M' x w h m r z => k C fs vs d H' M' (e.trans x) w h m r z
/-- X takes what is raised as E, whatever stands in the slots -/
def TakesE (X : Cx) (E : XK) : Prop := Takes X fun cls d _ H => E cls d H
theorem TakesE.pass {X : Cx} {E : XK} (t : TakesE X E) : Passes (CX X.prog X.w) X E := fun pins σ H s e s' I q => passes_call (E := E) t (fun _ _ _ _ z => z) pins σ H s e s' I q
theorem pass_no {X : Cx} : Passes (CX X.prog X.w) X (fun _ _ _ => False) := fun pins σ H s e s' I q => by
  obtain ⟨a, B, H', cls, d, _, _, _, _, _, _, _, z⟩ := q
  exact z.elim
structure WEx (X : Cx) (ρ : Rho) (M : Mp) (e : Expr) (Φ : D → Mp → Prop) (Ξ : Xi) : Prop where
  run : ∀ {Z : Zn} σ H (Q : VK) (E : XK), EnvR X.K M Z H σ ρ → Wd X.K M Z H → KE X.K M Z H Φ Q → TakesE X E → KX X.K M Z H Ξ E → eSem X e σ H Q
structure WTx (X : Cx) (ρ : Rho) (M : Mp) (e : Expr) (Φ : Bool → Mp → Prop) (Ξ : Xi) : Prop where
  run : ∀ {Z : Zn} σ H (Q : Bool → Hp → Prop) (E : XK), EnvR X.K M Z H σ ρ → Wd X.K M Z H → KT X.K M Z H Φ Q → TakesE X E → KX X.K M Z H Ξ E → tSem X e σ H Q
structure WAx (X : Cx) (ρ : Rho) (M : Mp) (es : List Expr) (Φ : List D → Mp → Prop) (Ξ : Xi) : Prop where
  run : ∀ {Z : Zn} σ H (Q : List V → Hp → Prop) (E : XK), EnvR X.K M Z H σ ρ → Wd X.K M Z H → KA X.K M Z H Φ Q → TakesE X E → KX X.K M Z H Ξ E → aSem X es σ H Q
structure WSx (X : Cx) (ρ : Rho) (M : Mp) (st : Stmt) (Ψ : DE) (Ξ : Xi) : Prop where
  run : ∀ {Z : Zn} σ H (D : Ends) (E : XK), EnvR X.K M Z H σ ρ → Wd X.K M Z H → KS X.K M Z H Ψ D → TakesE X E → KX X.K M Z H Ξ E → sSem X st D σ H
structure WSsx (X : Cx) (ρ : Rho) (M : Mp) (st : List Stmt) (Ψ : DE) (Ξ : Xi) : Prop where
  run : ∀ {Z : Zn} σ H (D : Ends) (E : XK), EnvR X.K M Z H σ ρ → Wd X.K M Z H → KS X.K M Z H Ψ D → TakesE X E → KX X.K M Z H Ξ E → ssSem X st D σ H
section
variable {X : Cx} {ρ : Rho} {M : Mp} {Φ : D → Mp → Prop} {Ξ : Xi} {Ψ : DE} {e a b : Expr} {es : List Expr} {st : Stmt} {sts rest : List Stmt} {pos p : Pos} {x : Str}
theorem WE.up (h : WE X ρ M e Φ) : WEx X ρ M e Φ Ξ := .mk fun σ H Q E en w k _ _ => h.run σ H Q en w k
theorem WT.up {Φ : Bool → Mp → Prop} (h : WT X ρ M e Φ) : WTx X ρ M e Φ Ξ := .mk fun σ H Q E en w k _ _ => h.run σ H Q en w k
theorem WA.up {Φ : List D → Mp → Prop} (h : WA X ρ M es Φ) : WAx X ρ M es Φ Ξ := .mk fun σ H Q E en w k _ _ => h.run σ H Q en w k
theorem WS.up (h : WS X ρ M st Ψ) : WSx X ρ M st Ψ Ξ := .mk fun σ H Q E en w k _ _ => h.run σ H Q en w k
theorem WSs.up (h : WSs X ρ M sts Ψ) : WSsx X ρ M sts Ψ Ξ := .mk fun σ H Q E en w k _ _ => h.run σ H Q en w k
theorem wssx_nil (h : Ψ.nx ρ M) : WSsx X ρ M [] Ψ Ξ := (wss_nil h).up
theorem wssx_cons (h : WSx X ρ M st { Ψ with nx := fun ρ' M' => WSsx X ρ' M' rest Ψ Ξ } Ξ) : WSsx X ρ M (st :: rest) Ψ Ξ := .mk fun σ H D E en w k t kx =>
  ssOf (pss_cons ps_sem pss_sem) (h.run σ H _ E en w ⟨fun σ' ρ' H' M' x w' en' z => z.run σ' H' D E en' w' (k.step x) t (kx.step x), k.rt, k.bk, k.ct⟩ t kx)
theorem wsx_if {c : Expr} {sa sb : List Stmt} (h : WTx X ρ M c (fun b' M1 => if b' = true then WSsx X ρ M1 sa Ψ Ξ else WSsx X ρ M1 sb Ψ Ξ) Ξ) : WSx X ρ M (.If c sa sb pos) Ψ Ξ := .mk fun σ H D E en w k t kx =>
  sOf (ps_if pt_sem pss_sem pss_sem) (h.run σ H _ E en w (fun c H1 M1 e1 w1 hz => by
    cases c with
    | true => exact WSsx.run hz σ H1 D E (en.mono e1) w1 (k.step e1) t (kx.step e1)
    | false => exact WSsx.run hz σ H1 D E (en.mono e1) w1 (k.step e1) t (kx.step e1)) t kx)
/-- raise C(e) -/
theorem wsx_raise {C : Addr} {k : Nat} {pos2 : Pos} (hc : X.calm = true) (T : XL.Er X.prog X.K X.mg x C) (hr : Room k X.A) (h : WE X ρ M e fun d M1 => ∃ d' M2, Les M2 M1 ∧ Fz M1 M2 d d' ∧ Ξ C [("value", d')] M2) (hg : Gl X x := by rfl) (hdb : (x == ("__debug__" : Str)) = false := by decide)
    (he : starEach (e :: []) X.env = (false, eval e X.env) :: starEach [] X.env := by rfl) (hpl : (backTo pos (starEach [] X.env)).any (·.1) = false := by rfl) : WSx X ρ M (.Raise (some (.Call (.Name x p) [e] [] pos)) none pos2) Ψ Ξ := .mk fun σ H D E en w k t kx =>
  sOf (XL.ps_raiseE hc T hr t (pa_sem (es := [e])) hg hdb he hpl) ((wa_cons (es := []) (ΦA := fun ds M1 => ∃ d, ds = [d] ∧ ∃ d' M2, Les M2 M1 ∧ Fz M1 M2 d d' ∧ Ξ C [("value", d')] M2) (h.imp fun d M1 z => wa_nil ⟨d, rfl, z⟩) he).run σ H _ en w fun vs ds H1 M1 e1 w1 r1 hz => by
    obtain ⟨d, rfl, d', M2, l, f, hz⟩ := hz
    cases r1 with
    | cons r1 r2 =>
      cases r2
      rename_i v
      refine ⟨v, rfl, fun q hq => ?_⟩
      have x2 : Ext M1 _ H1 M1 (upd H1 q (.xd [("value", v)])) := Ext.new w1 hq
      have w2 := w1.new (o := .xd [("value", v)]) hq
      have r3 := f.rep l w2 (r1.mono x2)
      exact kx C _ _ q _ M2 ((e1.trans x2).trans (l.ext w2)) (l.w w2) upd_same (l.x (H := upd H1 q (.xd [("value", v)])) q _ upd_same (w1.fresh hq)).2 (.cons r3 .nil) hz)
end
end DL
namespace DL
open PySem PySem.Spec PyProof.Rows L2
/-- a contract with what is wanted where an error is raised -/
abbrev ConX := List D → Mp → (D → Mp → Prop) → Xi → Prop
def spX (K : PySem.W.Frag) (n : Nat) (c : ConX) : Sp := fun vs H Q E => ∃ ds M Z Φ Ξ, ds.length = n ∧ Reps K M Z H vs ds ∧ Wd K M Z H ∧ c ds M Φ Ξ ∧ KE K M Z H Φ Q ∧ KX K M Z H Ξ E
/-- the context of a body that may raise -/
abbrev bxX (P : Program) (w : World) (K : PySem.W.Frag) (mg : Str → Option Value) (base : Heap) (N : List Str) (qual : Str) (scope : Scope) (f : Addr) (cdv : Value) (A : Around) (outer : List Env) (s : Shared) (H : Hp) (E : XK) : Cx :=
  cxOf (CX P w) P w K mg base N qual scope f cdv A outer s H E
/-- a body keeps a contract -/
def BodyX (P : Program) (w : World) (K : PySem.W.Frag) (mg : Str → Option Value) (base : Heap) (qual : Str) (st : Stmt) (N : List Str) (n k : Nat) (c : ConX) : Prop :=
  ∀ (f : Addr) (cdv : Value) (A : Around) (outer : List Env) (s : Shared) (H : Hp) (E : XK), Room k (A.deeper (envOfC qual (defScope st) s.heap.objs.size f cdv)) → ∀ ds M Φ Ξ, ds.length = n → c ds M Φ Ξ →
      WSsx (bxX P w K mg base N qual (defScope st) f cdv A outer s H E) (start N ds) M (defBody st) { nx := fun _ M' => Φ .non M', rt := Lets Φ } Ξ
section
variable {P : Program} {w : World} {K : PySem.W.Frag} {mg : Str → Option Value} {base : Heap} {x qual : Str} {st : Stmt} {dvs : List V} {kws : List (Str × V)} {f : Addr} {fd : FuncData} {N ps : List Str} {k n : Nat} {c : ConX}
theorem fnX_ok (F : FunD K x qual (defArgs st) (defBody st) (defScope st) dvs kws f fd) (S : FnScope N ps (defScope st)) (h : BodyX P w K mg base qual st N ps.length k c) : FnOk P w K mg base (CX P w) (k + 1) f fd ps (spX K ps.length c) := by
  obtain ⟨oc, od, dV, kV, doc, pm, an, cdv, ct, osl, rfl, lk, hcd, _, _⟩ := F.ex
  have ln : ∀ vs H Q E, spX K ps.length c vs H Q E → vs.length = ps.length := fun vs H Q E q => by
    obtain ⟨ds, M, Z, Φ, Ξ, hl, r, _⟩ := q
    rw [r.length, hl]
  refine ⟨ln, fun A outer s H args us vs Q E hr e0 hb rv hsp => ?_⟩
  have hlen := ln _ _ _ _ hsp
  have hK : K.In s.heap := e0.mod.kin.keeps fun b o z => (e0.bs b o z).1
  have hlim : s.heap.NoLimit := e0.mod.nolimit.keeps fun b o z => (e0.bs b o z).1
  have kinds : ∀ y ∈ ps.zip us, (defScope st).names.lookup y.1 = some .local ∨ ((defScope st).names.lookup y.1 = some .cell ∧ ((cellsFrom (s.heap.objs.size + 1) (defScope st).names []).lookup y.1).isSome = true) := fun y hy => by
    rcases S.par y.1 (List.of_mem_zip hy).1 with z | z
    · exact .inl z
    · exact .inr ⟨z, PySem.W.cellsFrom_some _ _ _ (.inl z)⟩
  refine codeAny_call_function hr.depth (hK _ _ lk) rfl S.co S.gen rfl (PySem.W.codeRec_of hK hcd) (hb _ _ _ _ (wpAny_newFunctionEnv_cells S.kind kinds fun env he s1 xx => ?_))
  subst he
  refine ⟨hlim.keeps xx.toInCall.keep, codeAny_func ?_⟩
  obtain ⟨ds, M, Z, Φ, Ξ, hl, r, wd, hc, kk, kx⟩ := hsp
  have I : Inv (cxOf (CX P w) P w K mg base N qual (defScope st) f cdv A outer s H E) [] (L2.start N vs) H s1 := inv_start S hr.hd e0 hlen rv xx
  have tk : TakesE (cxOf (CX P w) P w K mg base N qual (defScope st) f cdv A outer s H E) E := takes_of rfl rfl rfl rfl
  have body := (h f cdv A outer s H E (hr.deeper _) ds M Φ Ξ hl hc).run (L2.start N vs) H { nx := fun _ H' => Q .non H', rt := Q } E (env_start r) wd ⟨fun σ' ρ' H' M' x w' en z => kk _ .non H' M' x w' .non z, lets_k kk, fun _ _ _ _ _ _ _ z => z.elim, fun _ _ _ _ _ _ _ z => z.elim⟩ tk kx
  have done : ∀ {σ' : L2.St} {H' : Hp} {v : V} {u : Value} {s' : Shared}, Inv (cxOf (CX P w) P w K mg base N qual (defScope st) f cdv A outer s H E) [] σ' H' s' → RelV v u → Q v H' → CE outer P w H s Q u s' := fun {σ' H' v u s'} J ru q => ⟨v, H', J.os, J.bare, J.base, J.hok, ru, q⟩
  refine wpAny_mono ((pss_sem (X := cxOf (CX P w) P w K mg base N qual (defScope st) f cdv A outer s H E)).run [] s1 (L2.start N vs) H _ I body) (fun fl s' hs => ?_) fun e s' hs => hs
  cases fl with
  | ret u => obtain ⟨v, σ', H', J, ru, q⟩ := hs; exact done J ru q
  | next => obtain ⟨σ', H', J, q⟩ := hs; exact done (v := V.non) (u := Value.none) J rfl q
  | brk => obtain ⟨_, _, _, q⟩ := hs; exact q.elim
  | cont => obtain ⟨_, _, _, q⟩ := hs; exact q.elim
end
/-- the global x is a def with this contract -/
structure Fcx (P : Program) (w : World) (K : PySem.W.Frag) (mg : Str → Option Value) (base : Heap) (x : Str) (dd : List D) (k n : Nat) (c : ConX) : Prop where
  ex : ∃ (f : Addr) (fd : FuncData) (ps : List Str) (dvs : List V) (ds : List Value), FnOk P w K mg base (CX P w) k f fd ps (spX K n c) ∧ mg x = some (.ref f) ∧ PySem.W.keepIn K (.ref f) = true ∧ Binds K fd ps ds ∧ Vals dvs ds ∧ ∀ M Z H, Reps K M Z H dvs dd
/-- the method m of the class at C has this contract -/
structure Mcx (P : Program) (w : World) (K : PySem.W.Frag) (mg : Str → Option Value) (base : Heap) (C : Addr) (m : Str) (dd : List D) (k n : Nat) (c : ConX) : Prop where
  cl : Cls K C
  ex : ∃ (f : Addr) (fd : FuncData) (ps : List Str) (dvs : List V) (ds : List Value), FnOk P w K mg base (CX P w) k f fd ps (spX K n c) ∧ Meth K C m f ∧ Binds K fd ps ds ∧ Vals dvs ds ∧ ∀ M Z H, Reps K M Z H dvs dd
section
variable {X : Cx} {ρ : Rho} {M : Mp} {Φ : D → Mp → Prop} {Ξ : Xi} {e o : Expr} {es : List Expr} {pos p apos : Pos} {x m : Str} {dd : List D} {k n : Nat} {c : ConX}
theorem we_methN {C : Addr} {pl : Sem Bool} (F : Mcx X.prog X.w X.K X.mg X.base C m dd k n c) (hr : Room k X.A)
    (h : WE X ρ M o fun d M1 => ∃ fs, InsOf M1 C d fs ∧ fs.lookup m = none ∧ WA X ρ M1 (e :: es) fun as M2 => (d :: (as ++ dd)).length = n ∧ c (d :: (as ++ dd)) M2 Φ fun _ _ _ => False)
    (hst : starEach (e :: es) X.env = (false, eval e X.env) :: starEach es X.env := by rfl) (hpl : (backTo pos (starEach es X.env)).any (·.1) = false := by rfl)
    (ht : eval (.Call (.Attribute o m apos) (e :: es) [] pos) X.env = (do
      let ov ← eval o X.env
      standAt apos.atName
      let (f, first) ← holding [ov] (getMethod ov m pl)
      callWith pos f first (backTo pos (starEach (e :: es) X.env)) (backToKw pos (keywordEach [] X.env))) := by rfl) : WE X ρ M (.Call (.Attribute o m apos) (e :: es) [] pos) Φ := .mk fun σ H Q en w k => by
  obtain ⟨f, fd, ps, dvs, ds, F', hm, hbd, hd, hdd⟩ := F.ex
  refine eOf (pe_meth (pl := pl) (E := fun _ _ _ => False) pe_sem F.cl hm F' hr hbd hd pass_no pa_sem hst hpl ht) (h.run σ H _ en w fun v d H1 M1 e1 w1 r1 hz => ?_)
  obtain ⟨fs, hi, hl, hz⟩ := hz
  obtain ⟨a, dx, vs, rfl, ha, rf⟩ := r1.asIns w1 hi
  refine ⟨a, dx, vs, rfl, ha, (rf.lookup m).1 hl, hz.run σ H1 _ (en.mono e1) w1 fun us as H2 M2 e2 w2 r2 hy => ?_⟩
  exact ⟨d :: (as ++ dd), M2, _, Φ, _, hy.1, .cons (r1.mono e2) (r2.append (hdd _ _ _)), w2, hy.2, k.step (e1.trans e2), fun _ _ _ _ _ _ _ _ _ _ _ z => z⟩
end
end DL
namespace DL
open PySem PySem.Spec PyProof.Rows L2
section
variable {P : Program} {w : World} {K : PySem.W.Frag} {mg : Str → Option Value} {base : Heap} {x qual : Str} {st : Stmt} {N ps : List Str} {j k n : Nat} {c : ConX} {dd : List D} {C : Addr} {m : Str} {f : Addr}
theorem Md.mx (D : Md K C m qual st f) (cl : Cls K C) (me : Meth K C m f) (S : FnScope N ps (defScope st))
    (hb : ∀ (kV doc pm : Value) (an : Option Addr) (cdv ct : Value) (us : List Value), us.length = ps.length → bindArgs (PySem.W.fnOf m qual (defArgs st) (defBody st) (defScope st) .none kV doc pm an cdv ct) ⟨us, []⟩ = pure (ps.zip us))
    (h : BodyX P w K mg base qual st N ps.length k c) : Mcx P w K mg base C m [] (k + 1) ps.length c := by
  obtain ⟨fd, F⟩ := D.ex
  exact ⟨cl, f, fd, ps, [], [], fnX_ok F S h, me, F.bindsN hb, .nil, fun _ _ _ => .nil⟩
theorem Fcx.up (F : Fcx P w K mg base x dd j n c) (h : j ≤ k) : Fcx P w K mg base x dd k n c := by
  obtain ⟨f, fd, ps, dvs, ds, F, r⟩ := F.ex
  exact ⟨f, fd, ps, dvs, ds, F.mono h, r⟩
theorem Mcx.up (F : Mcx P w K mg base C m dd j n c) (h : j ≤ k) : Mcx P w K mg base C m dd k n c := by
  obtain ⟨f, fd, ps, dvs, ds, G, r⟩ := F.ex
  exact ⟨F.cl, f, fd, ps, dvs, ds, G.mono h, r⟩
/-- the class of the name x, the contract of its __init__, which may raise -/
structure Kcx (P : Program) (w : World) (K : PySem.W.Frag) (mg : Str → Option Value) (base : Heap) (x : Str) (C : Addr) (dd : List D) (k n : Nat) (c : ConX) : Prop where
  at_ : mg x = some (.ref C)
  ex : ∃ (f : Addr) (fd : FuncData) (ps : List Str) (dvs : List V) (ds : List Value), FnOk P w K mg base (CX P w) k f fd ps (spX K n c) ∧ Mk K C f ∧ Binds K fd ps ds ∧ Vals dvs ds ∧ ∀ M Z H, Reps K M Z H dvs dd
theorem Md.kx (D : Md K C "__init__" qual st f) (hm : mg x = some (.ref C)) (me : Mk K C f) (S : FnScope N ps (defScope st))
    (hb : ∀ (kV doc pm : Value) (an : Option Addr) (cdv ct : Value) (us : List Value), us.length = ps.length → bindArgs (PySem.W.fnOf "__init__" qual (defArgs st) (defBody st) (defScope st) .none kV doc pm an cdv ct) ⟨us, []⟩ = pure (ps.zip us))
    (h : BodyX P w K mg base qual st N ps.length k c) : Kcx P w K mg base x C [] (k + 1) ps.length c := by
  obtain ⟨fd, F⟩ := D.ex
  exact ⟨hm, f, fd, ps, [], [], fnX_ok F S h, me, F.bindsN hb, .nil, fun _ _ _ => .nil⟩
theorem Kcx.up (F : Kcx P w K mg base x C dd j n c) (h : j ≤ k) : Kcx P w K mg base x C dd k n c := by
  obtain ⟨f, fd, ps, dvs, ds, G, r⟩ := F.ex
  exact ⟨F.at_, f, fd, ps, dvs, ds, G.mono h, r⟩
end
/-- an error behind which some objects are let go -/
def LetX (Ξ : Xi) : Xi := fun C fs M => ∃ M', Les M' M ∧ Ξ C fs M'
theorem letX_k {K : PySem.W.Frag} {M : Mp} {Z : Zn} {H : Hp} {Ξ : Xi} {E : XK} (k : KX K M Z H Ξ E) : KX K M Z H (LetX Ξ) E := fun C fs vs d H' M' x w h m r z => by
  obtain ⟨M2, l, z⟩ := z
  exact k C fs vs d H' M2 (x.trans (l.ext w)) (l.w w) h (l.x d _ h m).2 (r.monoI l.x) z
section
variable {X : Cx} {ρ : Rho} {M : Mp} {Φ : D → Mp → Prop} {Ξ : Xi} {Ψ : DE} {e a b o : Expr} {es : List Expr} {sts : List Stmt} {st : Stmt} {pos p apos : Pos} {x m : Str} {dd : List D} {k n : Nat} {c : ConX}
/-- C(e, ..), whose __init__ may raise -/
theorem wex_make {C : Addr} (F : Kcx X.prog X.w X.K X.mg X.base x C dd k n c) (hr : Room (k + 1) X.A)
    (h : WA X ρ M (e :: es) fun as M1 => ∀ a, M1 a = none → (.ob a :: (as ++ dd)).length = n ∧ c (.ob a :: (as ++ dd)) (mset M1 a (.ins C [])) (fun d M2 => d = .non ∧ Lets Φ (.ob a) M2) (LetX Ξ)) (hg : Gl X x := by rfl)
    (hdb : (x == ("__debug__" : Str)) = false := by decide) (he : starEach (e :: es) X.env = (false, eval e X.env) :: starEach es X.env := by rfl) (hpl : (backTo pos (starEach es X.env)).any (·.1) = false := by rfl) : WEx X ρ M (.Call (.Name x p) (e :: es) [] pos) Φ Ξ := .mk fun σ H Q E en w k t kx => by
  obtain ⟨f, fd, ps, dvs, ds, F', hm, hbd, hd, hdd⟩ := F.ex
  refine eOf (pe_make (E := E) hm F' hr hg F.at_ hbd hd t.pass pa_sem hdb he hpl) (h.run σ H _ en w fun vs as H1 M1 e1 w1 r1 hz => ?_)
  intro a dx ha hdx ne
  obtain ⟨hl, hz⟩ := hz a (w1.fresh ha).1
  have ha1 : (upd H1 dx (.own a)) a = none := by rw [upd_ne (Ne.symm ne)]; exact ha
  have x1 : Ext M1 _ H1 M1 (upd H1 dx (.own a)) := Ext.new w1 hdx
  have wa := w1.new (o := .own a) hdx
  have x2 : Ext M1 _ (upd H1 dx (.own a)) (mset M1 a (.ins C [])) (upd (upd H1 dx (.own a)) a (.ins C dx [])) := Ext.newM wa ha1
  have x12 := x1.trans x2
  refine ⟨.ob a :: (as ++ dd), mset M1 a (.ins C []), _, _, _, hl, .cons (.ob a) ((r1.mono x12).append (hdd _ _ _)), wa.newM ha1 ⟨dx, [], upd_same, .nil⟩, hz, fun v d H2 M2 x3 w2 r2 hy => ?_, letX_k (kx.step (e1.trans x12))⟩
  obtain ⟨rfl, hy⟩ := hy
  cases r2
  exact ⟨rfl, lets_k (k.step (e1.trans x12)) _ _ H2 M2 x3 w2 (.ob a) hy⟩
/-- isinstance(v, C), v an error -/
theorem call_isX : CallR X (.builtin "isinstance") (fun xs H Q => ∃ a C dx fs b c cv, xs = [.ref a, c] ∧ ClsV c cv ∧ XL.ErV X.K C ∧ H a = some (XL.XV a (.ref C) (some dx)) ∧ H dx = some (.xd fs) ∧ PySem.W.kitOne X.K (.ref C) cv = some b ∧ Q (.bl b) H) := by
  intro pins s σ H xs us Q I r h
  obtain ⟨a, C, dd, fs, b, c, cv, rfl, hc, E, ea, ed, hk, q⟩ := h
  refine XL.call_isV c cv (fun u hu => ?_) pins s σ H _ us Q I r ⟨a, C, dd, fs, b, rfl, E, ea, ed, hk, q⟩
  cases hc with
  | ty n => exact hu
  | own C => exact hu
theorem we_isX (hm : X.mg "isinstance" = none) (h : WE X ρ M a fun x M1 => WE X ρ M1 b fun y M2 => ∃ C fs u c, x = .exc C fs ∧ ClsD y u ∧ XL.ErV X.K C ∧ PySem.W.kitOne X.K (.ref C) u = some c ∧ Φ (.bl c) M2) (hg : Gl X "isinstance" := by rfl)
    (ha : starEach [a, b] X.env = (false, eval a X.env) :: starEach [b] X.env := by rfl) (hb : starEach [b] X.env = (false, eval b X.env) :: starEach [] X.env := by rfl) (hpl : (backTo pos (starEach [b] X.env)).any (·.1) = false := by rfl) : WE X ρ M (.Call (.Name "isinstance" p) [a, b] [] pos) Φ :=
  we_callB call_isX hm (by decide +kernel) (wa_cons (h.imp fun x M1 h => wa_cons (h.imp fun y M2 h => wa_nil fun Z vs H Q w rr k => by
    obtain ⟨v, u, rfl, r1, r2⟩ := rr.two
    obtain ⟨C, fs, cu, c, rfl, h2, E, h3, h⟩ := h
    cases r1 with
    | exc e1 e2 m1 m2 rf =>
      refine ⟨_, C, _, _, c, u, cu, rfl, ?_, E, e1, e2, h3, k.now w (.bl _) h⟩
      cases r2 with
      | ty n => cases h2; exact .ty n
      | fn C => cases h2; exact .own C
      | _ => cases h2) hb) ha) hg (he := ha) (hpl := hpl)
/-- v.value, v an error -/
theorem we_valX {f : Str} (h : WE X ρ M o fun d M1 => ∃ C fs v, d = .exc C fs ∧ XL.ErV X.K C ∧ PySem.W.findIn X.K (.ref C) f = some none ∧ fs.lookup f = some v ∧ Φ v M1) (hb : attributeBase o f X.env (eval o X.env) = eval o X.env := by rfl) : WE X ρ M (.Attribute o f pos) Φ := .mk fun σ H Q en w k =>
  eOf (XL.pe_valV pe_sem hb) (h.run σ H _ en w fun v d H1 M1 e1 w1 r1 hz => by
    obtain ⟨C, fs, y, rfl, E, hno, hl, hz⟩ := hz
    cases r1 with
    | exc q1 q2 m1 m2 rf =>
      obtain ⟨u, hu, ru⟩ := (rf.lookup f).2 y hl
      exact ⟨_, C, _, _, u, rfl, E, hno, q1, q2, hu, (k.step e1).now w1 ru hz⟩)
end
end DL
namespace XL
open PySem PySem.W PySem.Calls PyProof.Rows PySem.HandSPX L2 LamX
/-- a lambda is made -/
theorem lam_make4 {X : Cx} {pins : List (Addr × Obj)} {σ : L2.St} {H : Hp} {s : Shared} {c P : Addr} {params : Arguments} {body : Expr} {scope : Scope} {pos : Pos} {E Q : Value → Shared → Prop} (I : L2.Inv X pins σ H s) (TB : TabB X.base X.mg c P) (hcode : X.env.code = .ref c) (hex : X.ex = []) (hT : TabS H P (X.env.qual ++ "<lambda>"))
    (hdef : defaultsOf params X.env = ([], [])) (hfree : ∀ y ∈ scope.names, y.2 = NameKind.free → ∃ c, X.env.cells.lookup y.1 = some c)
    (h : ∀ (f c' : Addr) (H1 : Hp) (s' : Shared), L2.Inv X pins σ H1 s' → (∀ b o, H b = some o → b ≠ P → H1 b = some o) → TabS H1 P (X.env.qual ++ "<lambda>") → H f = none →
      H1 f = some (LamO f (X.env.qual ++ "<lambda>") params body scope (cloFrom X.env.cells scope.names []) c') → H1 c' = some (CodeO c' (X.env.qual ++ "<lambda>")) → f ≠ c' → c' ≠ P → (H c' = none ∨ ∃ ps pos, H P = some (.tbl ps) ∧ codeAmong pos ps.toList = some (.ref c')) →
      (∀ ps1 pos' cv, H1 P = some (.tbl ps1) → codeAmong pos' ps1.toList = some cv → cv = .ref c' ∨ ∃ ps, H P = some (.tbl ps) ∧ codeAmong pos' ps.toList = some cv) → Q (.ref f) s') :
    wpAny (model X.prog X.w) X.A (eval (.Lambda params body scope pos) X.env) Q E s := by
  obtain ⟨ps, hP, ht, ha⟩ := hT
  refine W.kla_eval hdef ?_
  have bP := TB.bm.keeps I.bk
  have hP' := I.hok P (.tbl ps) hP
  cases hc : codeAmong pos ps.toList with
  | none =>
    refine W.kla_makeFunction (closure_ok hfree) I.ok.glob (I.mod.glob.keeps I.bk) hcode (TB.code.keeps I.bk) hP' ht hc TB.gP bP fun c' ctv h' tk hx hge hlt hrec htb => ?_
    obtain ⟨c2, oc, vs, t, e2, hoc, hd, hv⟩ := hrec
    cases e2
    have hsz : s.heap.objs.size ≤ h'.objs.size := Nat.le_trans hge (Nat.le_of_lt hlt)
    have nC : H c' = none := I.hok.fresh hge
    have I1 := inv_table (t' := tk) I hP (fun b o hb e => Heap.get?_push_of_some (W.kla_obj "<lambda>" (X.env.qual ++ "<lambda>") params body scope (cloFrom X.env.cells scope.names []) ((X.mg "__name__").getD .none) c' ctv) (hx b o hb e)) (Heap.get?_push_of_some _ htb) hge ⟨oc, vs, t, Heap.get?_push_of_some _ hoc, hd, hv⟩
    have n1 : h'.objs.size ≠ c' := Nat.ne_of_gt hlt
    have n2 : h'.objs.size ≠ P := Nat.ne_of_gt (Nat.lt_of_lt_of_le (Heap.lt_size hP') hsz)
    have n3 : c' ≠ P := fun z => by rw [z, hP] at nC; cases nC
    have fN0 : H h'.objs.size = none := I.hok.fresh hsz
    have fN : (upd (upd H P (.tbl (ps ++ #[rawInt pos.line, rawInt pos.col, .ref c']))) c' (CodeO c' (X.env.qual ++ "<lambda>"))) h'.objs.size = none := by rw [upd_ne n1, upd_ne n2]; exact fN0
    have I2 := give_lam I I1 hex hsz fN (Heap.get?_push_size h' rfl)
    have kk : ∀ b o, H b = some o → b ≠ P → (upd (upd (upd H P (.tbl (ps ++ #[rawInt pos.line, rawInt pos.col, .ref c']))) c' (CodeO c' (X.env.qual ++ "<lambda>"))) h'.objs.size (LamO h'.objs.size (X.env.qual ++ "<lambda>") params body scope (cloFrom X.env.cells scope.names []) c')) b = some o := fun b o e n => by
      rw [upd_ne (ne_of_none e fN0), upd_ne (ne_of_none e nC), upd_ne n]; exact e
    have hc1 : (upd (upd (upd H P (.tbl (ps ++ #[rawInt pos.line, rawInt pos.col, .ref c']))) c' (CodeO c' (X.env.qual ++ "<lambda>"))) h'.objs.size (LamO h'.objs.size (X.env.qual ++ "<lambda>") params body scope (cloFrom X.env.cells scope.names []) c')) c' = some (CodeO c' (X.env.qual ++ "<lambda>")) := by rw [upd_ne (Ne.symm n1), upd_same]
    have eL : (ps ++ #[rawInt pos.line, rawInt pos.col, .ref c']).toList = ps.toList ++ [rawInt pos.line, rawInt pos.col, .ref c'] := by simp
    have hP1 : (upd (upd (upd H P (.tbl (ps ++ #[rawInt pos.line, rawInt pos.col, .ref c']))) c' (CodeO c' (X.env.qual ++ "<lambda>"))) h'.objs.size (LamO h'.objs.size (X.env.qual ++ "<lambda>") params body scope (cloFrom X.env.cells scope.names []) c')) P = some (.tbl (ps ++ #[rawInt pos.line, rawInt pos.col, .ref c'])) := by rw [upd_ne (Ne.symm n2), upd_ne (Ne.symm n3), upd_same]
    refine h _ c' _ _ I2 kk ⟨_, by rw [upd_ne (Ne.symm n2), upd_ne (Ne.symm n3), upd_same], by rw [eL]; exact TriplesOk_snoc _ _ _ _ ht, fun p' cv hcv => ?_⟩ fN0 upd_same hc1 n1 n3 (.inl nC) (fun ps1 pos' cv e1 hcv => ?_)
    rotate_left
    · rw [hP1] at e1; cases e1
      rw [eL] at hcv
      rcases among_app ps.toList ht hcv with z | z
      · exact .inr ⟨ps, hP, z⟩
      · exact .inl z
    rw [eL] at hcv
    rcases among_app ps.toList ht hcv with z | z
    · obtain ⟨c0, e1, e2⟩ := ha p' cv z
      exact ⟨c0, e1, kk c0 _ e2 (fun q => by rw [q, hP] at e2; cases e2)⟩
    · exact ⟨c', z, hc1⟩
  | some cv =>
    obtain ⟨c', rfl, hco⟩ := ha pos cv hc
    refine W.kla_makeFunctionHit (closure_ok hfree) I.ok.glob (I.mod.glob.keeps I.bk) hcode (TB.code.keeps I.bk) hP' ht hc bP fun ctv h' tk hx hsz => ?_
    have I1 := I.kept (t' := tk) fun b o e => Heap.get?_push_of_some (W.kla_obj "<lambda>" (X.env.qual ++ "<lambda>") params body scope (cloFrom X.env.cells scope.names []) ((X.mg "__name__").getD .none) c' ctv) (hx b o e)
    have fN0 : H h'.objs.size = none := I.hok.fresh hsz
    have I2 := give_lam I I1 hex hsz fN0 (Heap.get?_push_size h' rfl)
    have kk : ∀ b o, H b = some o → (upd H h'.objs.size (LamO h'.objs.size (X.env.qual ++ "<lambda>") params body scope (cloFrom X.env.cells scope.names []) c')) b = some o := fun b o e => by
      rw [upd_ne (ne_of_none e fN0)]; exact e
    refine h _ c' _ _ I2 (fun b o e _ => kk b o e) ⟨ps, kk _ _ hP, ht, fun p' cv hcv => ?_⟩ fN0 upd_same (kk _ _ hco) (fun z => by rw [z, hco] at fN0; cases fN0) (fun z => by rw [z, hP] at hco; cases hco) (.inr ⟨ps, pos, hP, hc⟩) (fun ps1 pos' cv e1 hcv => ?_)
    rotate_left
    · rw [kk _ _ hP] at e1; cases e1
      exact .inr ⟨ps, hP, hcv⟩
    obtain ⟨c0, e1, e2⟩ := ha p' cv hcv
    exact ⟨c0, e1, kk c0 _ e2⟩
end XL
namespace DL
open PySem PySem.Spec PyProof.Rows L2
section
variable {X : Cx} {ρ : Rho} {M : Mp} {Φ : D → Mp → Prop} {pos : Pos}
/-- a lambda -/
theorem we_lam {P c : Addr} {params : Arguments} {body : Expr} {scope : Scope} (TB : LamX.TabB X.base X.mg c P) (hcode : X.env.code = .ref c) (hex : X.ex = []) (hM : M P = some (.tbl (X.env.qual ++ "<lambda>"))) (hdef : defaultsOf params X.env = ([], []))
    (hfree : ∀ y ∈ scope.names, y.2 = NameKind.free → ∃ c, X.env.cells.lookup y.1 = some c) (h : Φ (.lam (X.env.qual ++ "<lambda>") params body scope (cloFrom X.env.cells scope.names [])) M) : WE X ρ M (.Lambda params body scope pos) Φ := .mk fun {Z} σ H Q en w k => by
  intro pins s I
  obtain ⟨ps, hP, ht, ha⟩ := w.1 P _ hM
  refine XL.lam_make4 I TB hcode hex ⟨ps, hP, ht, fun p cv z => let ⟨c, e1, e2, _⟩ := ha p cv z; ⟨c, e1, e2⟩⟩ hdef hfree fun f c' H1 s' I1 kk T1 hf hf1 hc1 nfc ncP hor htab => ?_
  have mc : Im M Z c' := by
    rcases hor with e | ⟨ps2, pos2, e1, e2⟩
    · exact w.fresh e
    · rw [hP] at e1; cases e1
      obtain ⟨c, e3, _, m⟩ := ha _ _ e2
      cases e3
      exact m
  have mf : Im M Z f := w.fresh hf
  have x1 : Ext M Z H M H1 := ⟨fun b o e m => ⟨kk b o e (fun z => by rw [z] at m; rw [m.1] at hM; cases hM), m⟩, fun b z => by
    obtain ⟨m, u, e⟩ := w.2 b z
    refine ⟨?_, rfl⟩
    rw [e]
    exact kk b u e fun z => by rw [z, hM] at m; cases m⟩
  have w1 : Wd X.K M Z H1 := by
    refine ⟨fun a o e => ?_, fun a z => ?_⟩
    · by_cases q : a = P
      · rw [q, hM] at e; cases e
        rw [q]
        obtain ⟨ps1, y1, y2, y3⟩ := T1
        refine ⟨ps1, y1, y2, fun p cv z => ?_⟩
        obtain ⟨c2, e1, e2⟩ := y3 p cv z
        subst e1
        refine ⟨c2, rfl, e2, ?_⟩
        rcases htab ps1 p _ y1 z with e3 | ⟨ps2, e3, e4⟩
        · cases e3; exact mc
        · rw [hP] at e3; cases e3
          obtain ⟨c3, e5, _, m⟩ := ha _ _ e4
          cases e5
          exact m
      · have r := w.1 a o e
        obtain ⟨u, hu⟩ := r.there
        exact r.step x1 ((kk a u hu q).trans hu.symm)
    · obtain ⟨m, u, e⟩ := w.2 a z
      exact ⟨m, u, by rw [(x1.2 a z).1]; exact e⟩
  exact ⟨.ref f, H1, I1, rfl, k _ _ H1 M x1 w1 (.lam hf1 hc1 mf mc) h⟩
end
end DL
namespace XL
open PySem PySem.W PySem.Calls PyProof.Rows PySem.HandSPX L2 LamX
/-- look(), E what is wanted where it raises -/
def tAct (X : Cx) (σ : L2.St) (i : Nat) (tb : XK → Arguments → Expr → Scope → TE) (E : L2.St → XK) : TE := fun σZ HZ Q => ∃ (f c' : Addr) (params : Arguments) (body : Expr) (scope : Scope), σZ[i]? = some (some (.ref f)) ∧ HZ f = some (LamO f (X.env.qual ++ "<lambda>") params body scope (cloFrom X.env.cells scope.names []) c') ∧ HZ c' = some (CodeO c' (X.env.qual ++ "<lambda>")) ∧
  LamS X.env.scope scope ∧ (∀ (pm cv ctv : Value), bindArgs (PySem.W.kla_fn "<lambda>" (X.env.qual ++ "<lambda>") params body scope (cloFrom X.env.cells scope.names []) pm cv ctv) ⟨[], []⟩ = pure []) ∧ tb (E σZ) params body scope σ HZ Q
section
variable {X : Cx} {pins : List (Addr × Obj)} {σ : L2.St} {H : Hp} {s : Shared} {Ng : List Str} {qg : Str} {sg : Scope} {g B : Addr} {cdg : Value} {k i j : Nat} {a n x : Str} {p1 p2 p3 np pos pos' : Pos} {tb : XK → Arguments → Expr → Scope → TE} {b₀ : Stmt} {suite : List Stmt} {ts : Addr → Value → Option Addr → TS}
/-- try: look() except X as n: suite -/
theorem try_look (I : L2.Inv X pins σ H s) (hr : Room (k + 1) (X.A.deeper (envOfC qg sg s.heap.objs.size g cdg)))
    (hbody : ∀ (E : XK) (params : Arguments) (body : Expr) (scope : Scope) (f c' : Addr) (A : Around) (outer : List Env) (s : Shared) (H : Hp), Room k (A.deeper (lamEnv X scope s.heap.objs.size f c')) → PE (lamCx X A outer s H E scope f c') body (tb E params body scope))
    (hN : Ng[i]? = some a) (hv : Vis sg a) (hd : (a == ("__debug__" : Str)) = false) (hcd : (a == ("__classdict__" : Str)) = false)
    (nd : Ng.Nodup) (hj : Ng[j]? = some n) (hln : (envOfC qg sg s.heap.objs.size g cdg).kindOf n = some .local) (hc : Names (cxOf CX0 X.prog X.w X.K X.mg X.base Ng qg sg g cdg X.A X.stack s H E0).nox x (.ref B))
    (hsw : swapsWith (.Call (.Name a p1) [] [] p2) none p3.line (envOfC qg sg s.heap.objs.size g cdg) = pure false)
    (hsu : ∀ (a : Addr) (oe : Obj) (cls : Value) (d : Option Addr) (pn : List (Addr × Obj)), Zc cls d oe → (∃ vs, oe.data = .fields vs) → PSs ((cxOf CX0 X.prog X.w X.K X.mg X.base Ng qg sg g cdg X.A X.stack s H E0).nox.suite a ((a, oe) :: pn)) (b₀ :: suite) (ts a cls d)) :
    PS (cxOf CX0 X.prog X.w X.K X.mg X.base Ng qg sg g cdg X.A X.stack s H E0).nox (.Try [.Expr (.Call (.Name a p1) [] [] p2) p3] [.ExceptHandler (some (.Name x np)) (some n) (b₀ :: suite) pos'] [] [] pos)
      (fun D σZ HZ => tSeq (tDrop (tAct X σ i tb (fun σZ cls d H' => wAsV X.K (.ref B) j ts (fun _ _ _ _ => False) D cls d σZ H'))) tNext D σZ HZ) :=
  ps_try_asV (X := (cxOf CX0 X.prog X.w X.K X.mg X.base Ng qg sg g cdg X.A X.stack s H E0).nox) (tb := fun W => tSeq (tDrop (tAct X σ i tb (fun σZ cls d H' => W cls d σZ H'))) tNext) rfl rfl rfl nd hj hln hc L2.takes0
    (fun W pn xe tk _ => pss_cons (ps_expr (pe_actV (CXg := CX0) (Eg := E0) (E := fun σZ cls d H' => W cls d σZ H') I tk (fun _ _ _ _ z => z) hr hbody hN hv hd hcd) hsw) pss_nil) hsu
/-- what the def makes of the lambda at f: None, or the error that it raises -/
def GiveC (X : Cx) (σ : L2.St) (K : Frag) (B : Addr) (tb : XK → Arguments → Expr → Scope → TE) (f : Addr) (H : Hp) (Q : VK) : Prop := ∃ (c' : Addr) (params : Arguments) (body : Expr) (scope : Scope), H f = some (LamO f (X.env.qual ++ "<lambda>") params body scope (cloFrom X.env.cells scope.names []) c') ∧ H c' = some (CodeO c' (X.env.qual ++ "<lambda>")) ∧
  LamS X.env.scope scope ∧ (∀ (pm cv ctv : Value), bindArgs (PySem.W.kla_fn "<lambda>" (X.env.qual ++ "<lambda>") params body scope (cloFrom X.env.cells scope.names []) pm cv ctv) ⟨[], []⟩ = pure []) ∧
  ∀ (E : XK) (R : VK), (∀ v H', Q .non H' → R v H') → (∀ cls d H', exmOne K cls (.ref B) = some true → (∀ a, H' a = none → Q (.ref a) (upd H' a (XV a cls d))) → E cls d H') → tb E params body scope σ H R
/-- here = None; try: look() except X as n: here = n; return here -/
theorem caughtB {here : Str} {q1 q2 q3 q4 q5 q6 q7 q8 : Pos} {jn : Nat} (I : L2.Inv X pins σ H s) (hr : Room (k + 1) (X.A.deeper (envOfC qg sg s.heap.objs.size g cdg)))
    (hbody : ∀ (E : XK) (params : Arguments) (body : Expr) (scope : Scope) (f c' : Addr) (A : Around) (outer : List Env) (s : Shared) (H : Hp), Room k (A.deeper (lamEnv X scope s.heap.objs.size f c')) → PE (lamCx X A outer s H E scope f c') body (tb E params body scope))
    (hv : Vis sg a) (hvn : Vis sg n) (hvh : Vis sg here) (hlh : L2.Loc sg here) (hd : (a == ("__debug__" : Str)) = false) (hcd : (a == ("__classdict__" : Str)) = false) (hd2 : (n == ("__debug__" : Str)) = false) (hcd2 : (n == ("__classdict__" : Str)) = false) (hd3 : (here == ("__debug__" : Str)) = false) (hcd3 : (here == ("__classdict__" : Str)) = false)
    (nd : Ng.Nodup) (hNg : Ng = [a, here, n]) (hln : (envOfC qg sg s.heap.objs.size g cdg).kindOf n = some .local) (hc : Names (cxOf CX0 X.prog X.w X.K X.mg X.base Ng qg sg g cdg X.A X.stack s H E0).nox x (.ref B))
    (hsw : swapsWith (.Call (.Name a p1) [] [] p2) none p3.line (envOfC qg sg s.heap.objs.size g cdg) = pure false)
    {f : Addr} {Q : VK} (h : GiveC X σ X.K B tb f H Q) :
    ∃ t, PSs (cxOf CX0 X.prog X.w X.K X.mg X.base Ng qg sg g cdg X.A X.stack s H E0).nox [.Assign [.Name here q1] (.Constant .none jn q2) q3, .Try [.Expr (.Call (.Name a p1) [] [] p2) p3] [.ExceptHandler (some (.Name x np)) (some n) [.Assign [.Name here q4] (.Name n q5) q6] pos'] [] [] pos, .Return (some (.Name here q7)) q8] t ∧
      t { nx := fun _ H' => Q .non H', rt := Q } (L2.start Ng [.ref f]) H := by
  subst hNg
  refine ⟨_, pss_cons (ps_asg pe_non (pg_name (i := 1) nd rfl hlh (Or.inl rfl)) rfl rfl rfl) (pss_cons (try_look (i := 0) (j := 2) I hr hbody rfl hv hd hcd nd rfl hln hc hsw (fun a oe cls d pn hz hf => pss_cons (ps_asg (pe_var (i := 2) rfl hvn hd2 hcd2) (pg_name (i := 1) nd rfl hlh (Or.inl rfl)) rfl rfl rfl) pss_nil)) (pss_cons (ps_ret (pe_var (i := 1) rfl hvh hd3 hcd3)) pss_nil)), ?_⟩
  obtain ⟨c', params, body, scope, h1, h2, h3, h4, h5⟩ := h
  refine ⟨f, c', params, body, scope, rfl, h1, h2, h3, h4, ?_⟩
  exact h5 _ _ (fun v H' z => ⟨_, rfl, z⟩) fun cls d H' he hq => ⟨true, he, fun _ a ha => ⟨_, rfl, _, rfl, hq a ha⟩, fun z => by cases z⟩
end
end XL
namespace DL
open PySem PySem.Spec PyProof.Rows L2
/-- the lambda's reading, whatever stands around it -/
def tbL (X : Cx) (k : Nat) : XK → Arguments → Expr → Scope → TE := fun E _ body scope σ H Q => ∀ (f c' : Addr) (A : Around) (outer : List Env) (s : Shared) (H0 : Hp), Room k (A.deeper (LamX.lamEnv X scope s.heap.objs.size f c')) → eSem (LamX.lamCx X A outer s H0 E scope f c') body σ H Q
theorem tbL_pe {X : Cx} {k : Nat} (E : XK) (params : Arguments) (body : Expr) (scope : Scope) (f c' : Addr) (A : Around) (outer : List Env) (s : Shared) (H : Hp) (hr : Room k (A.deeper (LamX.lamEnv X scope s.heap.objs.size f c'))) : PE (LamX.lamCx X A outer s H E scope f c') body (tbL X k E params body scope) :=
  ⟨fun pins s1 σ H1 Q I h => h f c' A outer s H hr pins s1 I⟩
/-- the def at g (slots Ng, scope sg, body bg) gives what the lambda raises, of the class at B -/
def Gives (X : Cx) (k : Nat) (B g : Addr) (x : Str) (Ng : List Str) (sg : Scope) (cdg : Value) (bg : List Stmt) : Prop := ∀ (pins : List (Addr × Obj)) (σ : L2.St) (H : Hp) (s : Shared) (f : Addr) (Q : VK), L2.Inv X pins σ H s → Room (k + 1) (X.A.deeper (envOfC x sg s.heap.objs.size g cdg)) → XL.GiveC X σ X.K B (tbL X k) f H Q →
  ∃ t, PSs (cxOf CX0 X.prog X.w X.K X.mg X.base Ng x sg g cdg X.A X.stack s H E0).nox bg t ∧ t { nx := fun _ H' => Q .non H', rt := Q } (L2.start Ng [.ref f]) H
section
variable {X : Cx} {ρ : Rho} {M : Mp} {Φ : D → Mp → Prop} {e : Expr} {pos p : Pos} {x a : Str} {k : Nat} {B g : Addr} {Ng : List Str} {sg : Scope} {cdg : Value} {bg : List Stmt} {pg : Arguments} {dV kV doc pm ct oc : Value} {an od : Option Addr} {osl : Array (Option Value)}
theorem we_caught (hm : X.mg x = some (.ref g)) (hk : PySem.W.keepIn X.K (.ref g) = true) (lk : X.K.lookup g = some ⟨oc, od, .func (PySem.W.fnOf x x pg bg sg dV kV doc pm an cdg ct), osl⟩) (hcg : PySem.W.codeIn X.K cdg x = true) (hb : Binds X.K (PySem.W.fnOf x x pg bg sg dV kV doc pm an cdg ct) [a] []) (Sg : FnScope Ng [a] sg)
    (hG : Gives X k B g x Ng sg cdg bg) (hr : Room (k + 2) X.A)
    (h : WE X ρ M e fun d M1 => ∃ params body scope, d = .lam (X.env.qual ++ "<lambda>") params body scope (cloFrom X.env.cells scope.names []) ∧ LamX.LamS X.env.scope scope ∧
      (∀ (q : Str) (cl : List (Str × Addr)) (pm cv ctv : Value), bindArgs (PySem.W.kla_fn "<lambda>" q params body scope cl pm cv ctv) ⟨[], []⟩ = pure []) ∧
      ∀ (f c' : Addr) (A : Around) (outer : List Env) (s : Shared) (H0 : Hp) (E : XK), Room k (A.deeper (LamX.lamEnv X scope s.heap.objs.size f c')) → WEx (LamX.lamCx X A outer s H0 E scope f c') ρ M1 body (fun _ M2 => Φ .non M2) (fun C fs M2 => PySem.W.exmOne X.K (.ref C) (.ref B) = some true ∧ Φ (.exc C fs) M2))
    (hg : Gl X x := by rfl) (hdb : (x == ("__debug__" : Str)) = false := by decide) (he : starEach [e] X.env = (false, eval e X.env) :: starEach [] X.env := by rfl) (hpl : (backTo pos (starEach [] X.env)).any (·.1) = false := by rfl) : WE X ρ M (.Call (.Name x p) [e] [] pos) Φ := .mk fun {Z} σ H Q en w kk => by
  intro pins s I
  refine wpAny_Call_Name_kw (ld_glob I hg hm ?_ hdb)
  refine PySem.W.callWith_K (h₀ := X.base) I.ok.mod.kin hk (thn ((pa_sem (es := [e])).run pos pins s σ H (fun vs H1 => ∃ f, vs = [.ref f] ∧ XL.GiveC X σ X.K B (tbL X k) f H1 Q) I ?_) fun us s1 z => ?_) he hpl
  · refine (wa_cons (es := []) (ΦA := fun ds M1 => ∃ d, ds = [d] ∧ ∃ params body scope, d = .lam (X.env.qual ++ "<lambda>") params body scope (cloFrom X.env.cells scope.names []) ∧ LamX.LamS X.env.scope scope ∧ (∀ (q : Str) (cl : List (Str × Addr)) (pm cv ctv : Value), bindArgs (PySem.W.kla_fn "<lambda>" q params body scope cl pm cv ctv) ⟨[], []⟩ = pure []) ∧
      ∀ (f c' : Addr) (A : Around) (outer : List Env) (s : Shared) (H0 : Hp) (E : XK), Room k (A.deeper (LamX.lamEnv X scope s.heap.objs.size f c')) → WEx (LamX.lamCx X A outer s H0 E scope f c') ρ M1 body (fun _ M2 => Φ .non M2) (fun C fs M2 => PySem.W.exmOne X.K (.ref C) (.ref B) = some true ∧ Φ (.exc C fs) M2)) (h.imp fun d M1 z => wa_nil ⟨d, rfl, z⟩) he).run σ H _ en w fun vs ds H1 M1 e1 w1 r1 hz => ?_
    obtain ⟨d, rfl, params, body, scope, rfl, L, hbind, hbd⟩ := hz
    cases r1 with
    | cons r1 r2 =>
      cases r2
      cases r1 with
      | lam q1 q2 m1 m2 =>
        refine ⟨_, rfl, _, params, body, scope, q1, q2, L, fun pm cv ctv => hbind _ _ pm cv ctv, fun E R hR hE f c' A outer s0 H0 hr' => ?_⟩
        refine (hbd f c' A outer s0 H0 E hr').run σ H1 R E (en.mono e1) w1 (fun v d H2 M2 e2 w2 r2 hz => hR v H2 ((kk.step (e1.trans e2)).now w2 .non hz)) (takes_of rfl rfl rfl rfl) fun C fs vs d H2 M2 e2 w2 hd md rf hz => ?_
        refine hE _ _ _ hz.1 fun q hq => ?_
        have nq : d ≠ q := fun z => by rw [z, hq] at hd; cases hd
        have x3 : Ext M2 Z H2 M2 (upd H2 q (XL.XV q (.ref C) (some d))) := Ext.new w2 hq
        exact (kk.step ((e1.trans e2).trans x3)).now (w2.new hq) (.exc upd_same (by rw [upd_ne nq]; exact hd) (w2.fresh hq) md (rf.mono x3)) hz.2
  · obtain ⟨vs, H1, I1, r, f, rfl, hgv⟩ := z
    refine ⟨I1.kIn, ?_⟩
    cases r with
    | cons r1 r2 =>
      cases r2
      rename_i u
      obtain rfl : u = Value.ref f := r1
      have rc := LamX.run_ofS (CX := CX0) (P := X.prog) (w := X.w) (mg := X.mg) (base := X.base) (Q := Q) (E := E0) lk hcg Sg hr I1.env0 (hb s1 [Value.ref f] I1.kIn rfl) (Paired.cons (a := V.ref f) rfl Paired.nil) rfl fun hr' => by
        obtain ⟨t', ht, hq⟩ := hG pins σ H1 s1 f Q I1 hr' hgv
        exact ⟨t', PSs.nox ht, hq⟩
      refine wpAny_call (codeAny_mono rc fun r s' hq => ?_)
      cases r with
      | error er => exact hq.elim
      | ok fl =>
        cases fl with
        | ret u => exact I1.after hq
        | next => exact hq.elim
        | brk => exact hq.elim
        | cont => exact hq.elim
end
end DL
namespace DL
open PySem PySem.Spec PyProof.Rows L2
/-- nothing but the script and some empty tables is known -/
def OnlyT (cs : List (Addr × Addr)) (H : Hp) : Prop := (∀ p ∈ cs, H p.2 = some (.tbl #[])) ∧ ∀ b, H b = none ∨ b ∈ cs.map (·.2) ∨ ∃ o xs, H b = some (.frz o (.lst xs))
theorem lawGT {P : Program} {w : World} {K : PySem.W.Frag} {mg mb : Str → Option Value} {k : Nat} {fa a : Addr} {cs : List (Addr × Addr)} {fd : FuncData} {x : Str} {sp : Sp} {s : Shared} {vs : List Value} {ns : List Int}
    (KX : K.In s.heap) (gn : s.heap.Ns mainGlobals mg) (bn : s.heap.Ns builtinsNs mb) (bb : ∀ x : Str, x ≠ "__name__" → mb x = bootBuiltins x) (lim : s.heap.NoLimit) (hg : s.gens = #[])
    (tc : ∀ p ∈ cs, PySem.W.CodeHd s.heap p.1 p.2 ∧ s.heap.get? p.2 = some { cls := .none, data := .fields #[] }) (tn : ∀ p ∈ cs, K.lookup p.2 = none)
    (bm : ∃ (m : Addr) (ob : Obj), mg "__builtins__" = some (.ref m) ∧ m ≠ builtinsNs ∧ s.heap.get? m = some ob ∧ ob.cls = .type "module" ∧ ob.dict = some builtinsNs ∧ ob.data = .plain)
    (ha : s.heap.get? a = some { cls := .type "list", data := .seq vs.toArray }) (hi : IntsAre vs ns) (hl : ns.length ≤ sizeLine) (hr : Room k callerA)
    (F : ∀ base : Heap, K.In base → base.Ns mainGlobals mg → (∀ p ∈ cs, LamX.TabB base mg p.1 p.2) → FnG P w K mg base k fa fd [x] sp) (bind_ : ∀ (s : Shared) (u : Value), BindsTo s fd ⟨[u], []⟩ [(x, u)])
    (hsp : ∀ H : Hp, OnlyT cs H → SqL K H a (ns.map V.int) → sp [.ref a] H (fun v _ => v = .bl true) fun _ _ _ => False) :
    codeAny (model P w) callerA (.call (.ref fa) ⟨[.ref a], []⟩) (fun r s' => r = .ok (.ret (.bool true)) ∧ OldK s.heap s'.heap ∧ s'.os = s.os ∧ AllBare s'.gens) s := by
  have rv := vals_ints hi
  have lenV := hi.length
  have tob : ∀ b : Addr, b ∈ cs.map (·.2) → s.heap.get? b = some { cls := .none, data := .fields #[] } := fun b h => by
    obtain ⟨p, h1, rfl⟩ := List.mem_map.mp h
    exact (tc p h1).2
  have tin : ∀ p ∈ cs, p.2 ∈ cs.map (·.2) := fun p h => List.mem_map.mpr ⟨p, h, rfl⟩
  have at_a : a ∉ cs.map (·.2) := fun z => by
    have q := tob a z
    rw [ha] at q
    cases congrArg Obj.data (Option.some.inj q)
  have main : ∀ H : Hp, OnlyT cs H → SqL K H a (ns.map V.int) → HOk P w H s.heap → (∀ b, H b ≠ none → b = a ∨ b ∈ cs.map (·.2)) → (H a ≠ none → K.lookup a = none) →
      codeAny (model P w) callerA (.call (.ref fa) ⟨[.ref a], []⟩) (fun r s' => r = .ok (.ret (.bool true)) ∧ OldK s.heap s'.heap ∧ s'.os = s.os ∧ AllBare s'.gens) s := fun H o1 o2 hok at_ hK => by
    have keep0 : ∀ {b : Addr} {o : Obj}, s.heap.get? b = some o → H b = none → (hidT s.heap H).get? b = some o := fun z y => hidT_get z y
    -- what is neither the script nor a table is hidden
    have free : ∀ {b : Addr} {o : Obj}, s.heap.get? b = some o → o.data ≠ .fields #[] → (∀ n, o.data ≠ .seq vs.toArray n) → H b = none := fun {b o} z d1 d2 => by
      cases q : H b with
      | none => rfl
      | some u =>
        exfalso
        rcases at_ b (by rw [q]; simp) with e | e
        · rw [e, ha] at z
          cases z
          exact d2 _ rfl
        · rw [tob b e] at z
          cases z
          exact d1 rfl
    have noD : ∀ {b : Addr} {o : Obj} {es : Array DictEntry} {ep : Nat}, s.heap.get? b = some o → o.data = .dict es ep → H b = none := fun z d => free z (by rw [d]; simp) (by rw [d]; simp)
    have nsK : ∀ {b : Addr} {m : Str → Option Value}, s.heap.Ns b m → (hidT s.heap H).Ns b m := fun {b m} z => by
      obtain ⟨o, es, ep, y, d, r⟩ := z
      exact ⟨o, es, ep, keep0 y (noD y d), d, r⟩
    have inB : K.In (hidT s.heap H) := fun b o z => keep0 (KX b o z) (by
      cases q : H b with
      | none => rfl
      | some u =>
        rcases at_ b (by rw [q]; simp) with e | e
        · rw [e] at z q
          rw [hK (by rw [q]; simp)] at z
          cases z
        · obtain ⟨p, h1, rfl⟩ := List.mem_map.mp e
          rw [tn p h1] at z
          cases z)
    have hM : Mod K mg (hidT s.heap H) := ⟨inB, nsK gn, ⟨mb, nsK bn, bb⟩, by obtain ⟨mc, h1, h2⟩ := lim; exact ⟨mc, nsK h1, h2⟩⟩
    have TB : ∀ p ∈ cs, LamX.TabB (hidT s.heap H) mg p.1 p.2 := fun p h => by
      obtain ⟨hc, hP⟩ := tc p h
      have gP : mainGlobals ≠ p.2 := fun z => by
        obtain ⟨o, es, ep, e, hd, _⟩ := gn
        rw [z, hP] at e
        cases e
        cases hd
      refine ⟨?_, ?_, gP⟩
      · obtain ⟨o, us, file, tf, flags, tg, inF, text, tt, e1, r1, r2, r3, r⟩ := hc
        refine ⟨o, us, file, tf, flags, tg, inF, text, tt, keep0 e1 (free e1 (fun z => ?_) fun n z => ?_), r1, r2, r3, r⟩
        · rw [r2] at z
          cases z
          simp at r3
        · rw [r2] at z
          cases z
      · obtain ⟨m, ob, b1, b2, b3, b4, b5, b6⟩ := bm
        have n1 : m ≠ mainGlobals := fun q => by
          obtain ⟨o, es, ep, e, hd, _⟩ := gn
          rw [q, e] at b3
          cases b3
          rw [hd] at b6
          cases b6
        have n2 : m ≠ p.2 := fun q => by
          rw [q, hP] at b3
          cases b3
          cases b6
        exact ⟨m, ob, b1, b2, n1, n2, keep0 b3 (free b3 (by rw [b6]; simp) (by rw [b6]; simp)), b4, b5, b6⟩
    have e0 : Env0 P w K mg (hidT s.heap H) callerA [] s H := ⟨rfl, hM, fun b o z => of_hidT z, Nat.le_of_eq (hidT_size _ _), trivial, fun b hb => absurd (show b ∈ ([] : List Addr) from hb) (by simp), hok, .of_eq hg⟩
    refine codeAny_mono ((F _ inB (nsK gn) TB).run callerA [] s H ⟨[.ref a], []⟩ [.ref a] [.ref a] _ _ rfl hr e0 (bind_ s (.ref a)) (.cons rfl .nil) (hsp H o1 o2)) fun r s' h => ?_
    cases r with
    | error e => exact False.elim h
    | ok fl =>
      cases fl with
      | ret u =>
        obtain ⟨v, H', os, bare, un, hok', r', q⟩ := h
        obtain rfl : v = .bl true := q
        obtain rfl : u = Value.bool true := r'
        have old : ∀ b o, b ∉ cs.map (·.2) → s.heap.get? b = some o → s'.heap.get? b = some o := fun b o nb z => by
          cases q : H b with
          | none => exact un.keep b o z q (fun y => absurd (show b ∈ ([] : List Addr) from y) (by simp)) (by simp)
          | some u =>
            rcases o1.2 b with y | y | ⟨ob, xs, y⟩
            · rw [q] at y; cases y
            · exact absurd y nb
            · have y3 := (hok b _ y).1
              have y4 := (hok' b _ (un.frzs b ob _ y)).1
              rw [z] at y3; cases y3
              exact y4
        have grew : ∀ p ∈ cs, ∃ more : Array Value, s'.heap.get? p.2 = some { cls := .none, data := .fields more } := fun p h => by
          obtain ⟨more, z⟩ := un.tbls p.2 #[] (o1.1 p h)
          exact ⟨_, hok' p.2 _ z⟩
        refine ⟨rfl, ⟨fun b o z => ?_, fun b o z => ?_⟩, os, bare⟩
        · by_cases hb : b ∈ cs.map (·.2)
          · obtain ⟨p, h1, rfl⟩ := List.mem_map.mp hb
            obtain ⟨more, hm⟩ := grew p h1
            rw [(tc p h1).2] at z
            cases z
            exact .inr (.inl ⟨((tc p h1).1.tab (tc p h1).2).isCodeTable, rfl, #[], more, rfl, by rw [Array.empty_append]; exact hm⟩)
          · exact .inl (old b o hb z)
        · by_cases hb : b ∈ cs.map (·.2)
          · obtain ⟨p, h1, rfl⟩ := List.mem_map.mp hb
            obtain ⟨more, hm⟩ := grew p h1
            exact ⟨_, hm⟩
          · exact ⟨o, old b o hb z⟩
      | _ => exact False.elim h
  cases hk : K.lookup a with
  | some o =>
    have z := KX a o hk
    rw [ha] at z
    cases z
    refine main (fun b => if b ∈ cs.map (·.2) then some (.tbl #[]) else none) ⟨fun p h => if_pos (tin p h), fun b => ?_⟩ (.inr ⟨_, vs.toArray, _, hk, rfl, rfl, rfl, by rw [List.size_toArray, lenV]; exact hl, by simpa using rv⟩) (fun b u z => ?_) (fun b z => ?_) fun z => absurd (show (if a ∈ cs.map (·.2) then some (HO.tbl #[]) else none) = none from if_neg at_a) z
    · by_cases hb : b ∈ cs.map (·.2)
      · exact .inr (.inl hb)
      · exact .inl (if_neg hb)
    · by_cases hb : b ∈ cs.map (·.2)
      · cases (if_pos hb).symm.trans z
        exact tob b hb
      · cases (if_neg hb).symm.trans z
    · by_cases hb : b ∈ cs.map (·.2)
      · exact .inr hb
      · exact absurd (if_neg hb) z
  | none =>
    have ne : ∀ p ∈ cs, ¬ p.2 = a := fun p h z => at_a (z ▸ tin p h)
    refine main (fun b => if b = a then some (.frz { cls := .type "list", data := .seq vs.toArray } (.lst (ns.map V.int))) else if b ∈ cs.map (·.2) then some (.tbl #[]) else none) ⟨fun p h => (if_neg (ne p h)).trans (if_pos (tin p h)), fun b => ?_⟩ (.inl (.inr ⟨_, if_pos rfl⟩)) (fun b u z => ?_) (fun b z => ?_) fun _ => hk
    · by_cases hb : b = a
      · exact .inr (.inr ⟨_, _, if_pos hb⟩)
      · by_cases hb2 : b ∈ cs.map (·.2)
        · exact .inr (.inl hb2)
        · exact .inl ((if_neg hb).trans (if_neg hb2))
    · by_cases hb : b = a
      · cases (if_pos hb).symm.trans z
        subst hb
        exact ⟨ha, by rw [List.length_map]; exact hl, vs, _, rv, ha⟩
      · have z1 := (if_neg hb).symm.trans z
        by_cases hb2 : b ∈ cs.map (·.2)
        · cases (if_pos hb2).symm.trans z1
          exact tob b hb2
        · cases (if_neg hb2).symm.trans z1
    · by_cases hb : b = a
      · exact .inl hb
      · by_cases hb2 : b ∈ cs.map (·.2)
        · exact .inr hb2
        · exact absurd ((if_neg hb).trans (if_neg hb2)) z
theorem walk_ofGT {l : PySem.W.OpenLaw} {n k : Nat} {q : Program} {loose names : List Str} {XP : (Str → Option Value) → Heap → Prop} {YP : World → Heap → Prop} {d : DefRec} {x : Str}
    (hn : l.most = some n) (hn2 : n ≤ sizeLine) (hdf : d.params.defaults = []) (hr : Room k callerA) (hrec : ∀ y ∈ names, ((recsOf q).find? fun e => e.name == y).isSome = true)
    (F : ∀ (w : World) (mg : Str → Option Value) (fa : Addr) (h : Heap), YP w h → h.Ns mainGlobals mg → mg d.name = some (.ref fa) →
      ∃ (K : PySem.W.Frag) (fd : FuncData) (sp : Sp) (cs : List (Addr × Addr)), K.In h ∧ (∀ (s : Shared) (u : Value), BindsTo s fd ⟨[u], []⟩ [(x, u)]) ∧ (∀ p ∈ cs, K.lookup p.2 = none ∧ ∃ y ∈ names, PySem.W.tabIn K y = some p) ∧
        (∀ (H : Hp) (a : Addr) (ns : List Int), ns.length ≤ n → OnlyT cs H → SqL K H a (ns.map V.int) → sp [.ref a] H (fun v _ => v = .bl true) fun _ _ _ => False) ∧
        ∀ base : Heap, K.In base → base.Ns mainGlobals mg → (∀ p ∈ cs, LamX.TabB base mg p.1 p.2) → FnG l.prog w K mg base k fa fd [x] sp) :
    PySem.W.WalkO q loose XP YP l.row.toRowW d [] (fun f vs => PySem.call f vs) := by
  refine Att.attach_call hn hdf fun w s0 s1 mg mb fa o pm cd doc a vs ns G Y ho hd hcd hmg hobj hints hlen hg => ?_
  obtain ⟨K, fd, sp, cs, KX, hb, ht, hsp, hF⟩ := F w mg fa _ Y G.T.g hmg
  refine lawGT KX G.T.g G.T.b G.T.builtins G.T.nolimit hg (fun p hp => ?_) (fun p hp => (ht p hp).1) G.T.bmain hobj hints (Nat.le_trans hlen hn2) hr hF hb fun H hO hS => hsp H a ns hlen hO hS
  obtain ⟨y, hy, e⟩ := (ht p hp).2
  obtain ⟨r, hr'⟩ := Option.isSome_iff_exists.mp (hrec y hy)
  exact PySem.W.tab_of G.T KX hr' e
end DL
namespace DL
open PySem PySem.Spec PyProof.Rows L2 SX
abbrev dctP (x y : Str) (n : Int) : PyData := .dict [(.tuple [.str x, .str y], .int n)]
abbrev dctD (x y : Str) (n : Int) : D := .dT [([.inr x, .inr y], .int n)]
section
variable {X : Cx} {ρ : Rho} {M : Mp} {Φ : D → Mp → Prop} {e : Expr} {pos p : Pos}
theorem cr_reprT (hg : X.A.guards = some []) (hu : X.A.units + 64 < cLine) {x y : Str} {n : Int} (hs : (dctP x y n).showable = true) (hz : (dctP x y n).shown.length ≤ sizeLine) (hdp : (dctP x y n).depth ≤ 8) : CallR X (.builtin "repr") (fun xs H Q => ∃ a, xs = [.ref a] ∧ H a = some (.dT [([.inr x, .inr y], .int n)]) ∧ Q (.str (dctP x y n).shown) H) := by
  intro pins s σ H xs us Q I r h
  obtain ⟨a, rfl, ha, h⟩ := h
  obtain ⟨u, rfl, ru⟩ := vals1 r
  obtain rfl : u = Value.ref a := ru
  obtain ⟨_, hs0, ys, kv, o, es, ep, ho, hx, hd, hk, _⟩ := I.hok a _ ha
  cases kv with
  | @cons _ q _ qs pr t =>
    cases t
    obtain ⟨e1, e2, e3⟩ := pr
    obtain ⟨_, its, ri, o2, h1, h2, n2, h3⟩ := (show ObjOk X.prog X.w H s.heap q.2.1 (.tup [V.str x, V.str y]) from I.hok q.2.1 _ e2)
    cases ri with
    | @cons _ w1 _ _ p1 r2 =>
      cases r2 with
      | @cons _ w2 _ _ p2 r3 =>
        cases r3
        obtain ⟨t1, rfl⟩ := p1
        obtain ⟨t2, rfl⟩ := p2
        obtain ⟨t3, e3⟩ := e3
        have rk : Reads s.heap (.ref q.2.1) (.tuple [.str x, .str y]) ([] ++ ([] ++ [])) := Reads.tuple h1 h2 h3 (.cons (.str x t1) (.cons (.str y t2) .nil))
        have rd : Reads s.heap (.ref a) (dctP x y n) (a :: (([] ++ ([] ++ [])) ++ []) ++ ([] ++ [])) := Reads.dict ho hx.1 hd (by rw [hk]; exact .cons rk .nil) (by rw [hk]; show ReadsAll s.heap [q.2.2] [.int n] ([] ++ []); rw [e3]; exact .cons (.int n t3) .nil)
        refine repr_of_reads' rd hs (fun _ => ?_) hg (by omega) (fun _ _ z => z) (fun h' t tk kp => ⟨.str _, H, I.kept kp, ⟨t, rfl⟩, h⟩) hz
        intro z
        rcases List.mem_cons.mp z with z | z
        · rw [← z] at hs0; simp at hs0
        · cases z
end
end DL
namespace DL
open PySem PySem.Spec PyProof.Rows L2 SX
/-- a value of any kind -/
inductive AV where
  | non | bl (b : Bool) | int (i : Int) | str (x : Str) | tup (l : List AV) | lst (l : List AV) | dic | dct (x y : Str) (n : Int)
mutual
def avD : AV → D
  | .non => .non
  | .bl b => .bl b
  | .int i => .int i
  | .str x => .str x
  | .tup l => .tup (avsD l)
  | .lst l => .lst (avsD l)
  | .dic => .dK []
  | .dct x y n => dctD x y n
def avsD : List AV → List D
  | [] => []
  | v :: l => avD v :: avsD l
end
def avT : AV → String
  | .non => "NoneType"
  | .bl _ => "bool"
  | .int _ => "int"
  | .str _ => "str"
  | .tup _ => "tuple"
  | .lst _ => "list"
  | .dic => "dict"
  | .dct _ _ _ => "dict"
theorem avTy (M : Mp) (v : AV) : TyD M (avD v) (.type (avT v)) := by
  cases v <;> (rw [avD]; rfl)
mutual
def avP : AV → PyData
  | .non => .none
  | .bl b => .bool b
  | .int i => .int i
  | .str x => .str x
  | .tup l => .tuple (avsP l)
  | .lst l => .list (avsP l)
  | .dic => .dict []
  | .dct x y n => dctP x y n
def avsP : List AV → List PyData
  | [] => []
  | v :: l => avP v :: avsP l
end
section
variable {X : Cx} {ρ : Rho} {M : Mp} {Φ : D → Mp → Prop} {e : Expr} {pos p : Pos}
theorem cr_reprA (hg : X.A.guards = some []) (hu : X.A.units + 64 < cLine) : CallR X (.builtin "repr") (fun xs H Q => (∃ v q, xs = [v] ∧ Dp X.K H v q ∧ q.showable = true ∧ q.canLay0 = true ∧ q.depth ≤ 60 ∧ q.shown.length ≤ sizeLine ∧ Q (.str q.shown) H) ∨ (∃ a, xs = [.ref a] ∧ H a = some (.dK []) ∧ Q (.str (PyData.dict []).shown) H) ∨ ∃ x y n, (dctP x y n).showable = true ∧ (dctP x y n).shown.length ≤ sizeLine ∧ (dctP x y n).depth ≤ 8 ∧ ∃ a, xs = [.ref a] ∧ H a = some (.dT [([.inr x, .inr y], .int n)]) ∧ Q (.str (dctP x y n).shown) H) := by
  intro pins s σ H xs us Q I r h
  rcases h with h | ⟨a, rfl, ha, h⟩ | ⟨x, y, n, g1, g2, g3, h⟩
  · exact cr_reprD hg hu pins s σ H xs us Q I r h
  rotate_left
  · exact cr_reprT hg hu g1 g2 g3 pins s σ H xs us Q I r h
  · obtain ⟨u, rfl, ru⟩ := vals1 r
    obtain rfl : u = Value.ref a := ru
    obtain ⟨_, hs, vs, kv, o, es, ep, ho, hx, hd, hk, hp, _⟩ := I.hok a _ ha
    cases kv
    have e0 : es.toList = [] := by
      cases hp' : es.toList with
      | nil => rfl
      | cons q r => rw [hp'] at hp; cases hp
    have rd : Reads s.heap (.ref a) (PyData.dict []) (a :: [] ++ []) := Reads.dict ho hx.1 hd (by rw [e0]; exact .nil) (by rw [e0]; exact .nil)
    refine repr_of_reads' rd (by decide) (fun _ => ?_) hg (by show X.A.units + (1 + 1) < cLine; omega) (fun _ _ z => z) (fun h' t tk kp => ⟨.str _, H, I.kept kp, ⟨t, rfl⟩, h⟩) (by decide +kernel)
    intro z
    rcases List.mem_cons.mp z with z | z
    · rw [← z] at hs; simp at hs
    · cases z
/-- repr(e), e any value -/
theorem we_reprA (hm : X.mg "repr" = none) (hg0 : X.A.guards = some []) (hu : X.A.units + 64 < cLine) (h : WE X ρ M e fun d M1 => ((∃ q k, CmpD d q k ∧ k ≤ 60 ∧ q.showable = true ∧ q.shown.length ≤ sizeLine ∧ Φ (.str q.shown) M1) ∨ (d = .dK [] ∧ Φ (.str (PyData.dict []).shown) M1) ∨ ∃ x y n, d = dctD x y n ∧ (dctP x y n).showable = true ∧ (dctP x y n).shown.length ≤ sizeLine ∧ (dctP x y n).depth ≤ 8 ∧ Φ (.str (dctP x y n).shown) M1)) (hg : Gl X "repr" := by rfl)
    (he : starEach [e] X.env = (false, eval e X.env) :: starEach [] X.env := by rfl) (hpl : (backTo pos (starEach [] X.env)).any (·.1) = false := by rfl) : WE X ρ M (.Call (.Name "repr" p) [e] [] pos) Φ :=
  we_callB (cr_reprA hg0 hu) hm (by decide +kernel) (wa_cons (h.imp fun d M1 h => wa_nil fun Z vs H Q w rr k => by
    obtain ⟨v, rfl, r⟩ := rr.one
    rcases h with ⟨q, j, c, hj, h1, h2, h⟩ | ⟨rfl, h⟩ | ⟨x, y, n, rfl, g1, g2, g3, h⟩
    · exact .inl ⟨v, q, rfl, r.dp c.eq, h1, c.lay, Nat.le_trans c.dep hj, h2, k.now w (.str _) h⟩
    · cases r with
      | dK h1 m r =>
        cases r
        exact .inr (.inl ⟨_, rfl, h1, k.now w (.str _) h⟩)
    · cases r with
      | dT h1 m r =>
        cases r with
        | cons r1 t =>
          cases t
          cases r1
          exact .inr (.inr ⟨x, y, n, g1, g2, g3, _, rfl, h1, k.now w (.str _) h⟩)) he) hg (he := he) (hpl := hpl)
end
/-- how a value is shown, where it can be -/
def RpD (v : AV) : Prop := (∃ k, CmpD (avD v) (avP v) k ∧ k ≤ 60 ∧ (avP v).showable = true ∧ (avP v).shown.length ≤ sizeLine) ∨ v = .dic ∨ ∃ x y n, v = .dct x y n ∧ (dctP x y n).showable = true ∧ (dctP x y n).shown.length ≤ sizeLine ∧ (dctP x y n).depth ≤ 8
theorem we_reprV {X : Cx} {ρ : Rho} {M : Mp} {Φ : D → Mp → Prop} {e : Expr} {pos p : Pos} (hm : X.mg "repr" = none) (hg0 : X.A.guards = some []) (hu : X.A.units + 64 < cLine) (h : WE X ρ M e fun d M1 => ∃ v, d = avD v ∧ RpD v ∧ Φ (.str (avP v).shown) M1) (hg : Gl X "repr" := by rfl)
    (he : starEach [e] X.env = (false, eval e X.env) :: starEach [] X.env := by rfl) (hpl : (backTo pos (starEach [] X.env)).any (·.1) = false := by rfl) : WE X ρ M (.Call (.Name "repr" p) [e] [] pos) Φ :=
  we_reprA hm hg0 hu (h.imp fun d M1 ⟨v, e1, hv, hz⟩ => by
    subst e1
    rcases hv with ⟨k, c, h1, h2, h3⟩ | rfl | ⟨x, y, n, rfl, g1, g2, g3⟩
    · exact .inl ⟨_, k, c, h1, h2, h3, hz⟩
    · exact .inr (.inl ⟨by rw [avD], by rw [avP] at hz; exact hz⟩)
    · exact .inr (.inr ⟨x, y, n, by rw [avD], g1, g2, g3, by rw [avP] at hz; exact hz⟩)) hg he hpl
end DL
namespace DL
open PySem PySem.Spec PyProof.Rows L2
section
variable {X : Cx} {ρ : Rho} {M : Mp} {Φ : D → Mp → Prop} {Θ : Bool → Mp → Prop} {a b c e f o : Expr} {pos apos : Pos}
/-- how long a shown text is -/
theorem sh_str {x : Str} {n : Nat} (h : ∀ c ∈ x.cps.toList, c < 0x110000) (hl : x.length ≤ n) : ShD (.str x) (10 * n + 2) := by
  refine ⟨by simp only [PyData.showable], ?_⟩
  simp only [PyData.shown]
  have := StrLaws.reprText_len x fun c hc => Nat.lt_trans (h c hc) (by decide)
  omega
end
end DL
namespace W
open PySem PySem.Spec PyProof.Rows L2 DL SX PL SlX
section
variable {P : Program} {w : World} {K : PySem.W.Frag} {mg : Str → Option Value} {base : Heap} {C U : Addr}
/-- is it an int from l to h -/
def whB (v : AV) (l h : Int) : Bool := match v with
  | .int i => decide (l ≤ i) && decide (i ≤ h)
  | _ => false
def cIsIntA : Con := fun ds M Φ => ∃ v l h, ds = [avD v, .int l, .int h] ∧ Φ (.bl (whB v l h)) M
theorem ok_is_integer_a (F : Fx w K mg) : BodyOk P w K mg base "is_integer" s_is_integer ["value", "low", "high"] 3 0 cIsIntA := by
  intro f cdv A outer s H E hr ds M Φ hl hc
  obtain ⟨v, l, h, rfl, hc⟩ := hc
  by_cases hi : ∃ i, v = .int i
  · obtain ⟨i, rfl⟩ := hi
    exact ok_is_integer F f cdv A outer s H E hr _ M Φ rfl ⟨i, l, h, by rw [avD], hc⟩
  by_cases hb : ∃ b, v = .bl b
  · obtain ⟨b, rfl⟩ := hb
    rw [avD]
    refine wss_cons (ws_if (wt_ww (ww_or (wt_not (wt_val (we_isi (F.bn _ (by decide +kernel)) (we_var 0 rfl (we_bty (F.bn _ (by decide +kernel)) rfl ⟨_, _, true, rfl, rfl, (by intro C h; cases h), rfl, _, rfl, ?_⟩))))))))
    refine ww_or1 (wt_val (we_isi (F.bn _ (by decide +kernel)) (we_var 0 rfl (we_bty (F.bn _ (by decide +kernel)) rfl ⟨_, _, true, rfl, rfl, (by intro C h; cases h), rfl, _, rfl, ?_⟩))))
    exact wss_cons (ws_ret (we_bl (Lets.of hc)))
  · have e : whB v l h = false := by
      cases v with
      | int i => exact absurd ⟨i, rfl⟩ hi
      | _ => rfl
    rw [e] at hc
    have key : ∀ t : String, TyD M (avD v) (.type t) → PySem.W.kitOne K (.type t) (.type "int") = some false →
        WSs (bx P w K mg base ["value", "low", "high"] "is_integer" (defScope s_is_integer) f cdv A outer s H E) (DL.start ["value", "low", "high"] [avD v, .int l, .int h]) M (defBody s_is_integer) { nx := fun _ M' => Φ .non M', rt := Lets Φ } := fun t ht hk => by
      refine wss_cons (ws_if (wt_ww (ww_or (wt_not (wt_val (we_isi (F.bn _ (by decide +kernel)) (we_var 0 rfl (we_bty (F.bn _ (by decide +kernel)) rfl ⟨_, _, false, ht, rfl, (by intro C h; cases h), hk, _, rfl, ?_⟩))))))))
      exact wss_cons (ws_ret (we_bl (Lets.of hc)))
    refine key _ (avTy M v) ?_
    cases v with
    | int i => exact absurd ⟨i, rfl⟩ hi
    | bl b => exact absurd ⟨b, rfl⟩ hb
    | _ => rfl
def natV (n : Nat) : AV := .int (n : Int)
theorem natV_D (n : Nat) : avD (natV n) = .int (n : Nat) := by unfold natV; rw [avD]
theorem whB_nat {v : AV} {n : Nat} (h : whB v 0 ((n : Nat) - 1) = true) : ∃ i : Nat, v = natV i ∧ i < n := by
  cases v with
  | int i =>
    have h : (decide ((0 : Int) ≤ i) && decide (i ≤ (n : Nat) - 1)) = true := h
    rw [Bool.and_eq_true] at h
    have h0 := of_decide_eq_true h.1
    have h1 := of_decide_eq_true h.2
    exact ⟨i.toNat, by unfold natV; rw [Int.toNat_of_nonneg h0], by omega⟩
  | _ => cases h
end
end W
namespace DL
open PySem PySem.Spec PyProof.Rows L2
section
variable {P : Program} {w : World} {K : PySem.W.Frag} {mg : Str → Option Value} {base : Heap} {x qual : Str} {st : Stmt} {kws : List (Str × V)} {f : Addr} {fd : FuncData} {N ps : List Str} {k n : Nat} {c : Con} {cd : Addr}
/-- a body keeps a contract where nothing is being shown; its code object stands at cd -/
def BodyC (P : Program) (w : World) (K : PySem.W.Frag) (mg : Str → Option Value) (base : Heap) (qual : Str) (st : Stmt) (N : List Str) (n k : Nat) (cd : Addr) (c : Con) : Prop :=
  ∀ (f : Addr) (A : Around) (outer : List Env) (s : Shared) (H : Hp) (E : XK), (A.deeper (envOfC qual (defScope st) s.heap.objs.size f (.ref cd))).guards = some [] → Room k (A.deeper (envOfC qual (defScope st) s.heap.objs.size f (.ref cd))) → ∀ ds M Φ, ds.length = n → c ds M Φ →
      WSs (bx P w K mg base N qual (defScope st) f (.ref cd) A outer s H E) (start N ds) M (defBody st) { nx := fun _ M' => Φ .non M', rt := Lets Φ }
theorem fnC_ok {dvs : List V} (F : FunD K x qual (defArgs st) (defBody st) (defScope st) dvs kws f fd) (hcd : fd.code = .ref cd) (S : FnScope N ps (defScope st)) (h : BodyC P w K mg base qual st N ps.length k cd c) : FnG P w K mg base (k + 1) f fd ps (spD K ps.length c) := by
  obtain ⟨oc, od, dV, kV, doc, pm, an, cdv, ct, osl, rfl, lk, hq, _, _⟩ := F.ex
  obtain rfl : cdv = .ref cd := hcd
  have ln : ∀ vs H Q E, spD K ps.length c vs H Q E → vs.length = ps.length := fun vs H Q E q => by
    obtain ⟨ds, M, Z, Φ, hl, r, _⟩ := q
    rw [r.length, hl]
  refine ⟨ln, fun A outer s H args us vs Q E hg hr e0 hb rv hsp => ?_⟩
  have hlen := ln _ _ _ _ hsp
  have hK : K.In s.heap := e0.mod.kin.keeps fun b o z => (e0.bs b o z).1
  have hlim : s.heap.NoLimit := e0.mod.nolimit.keeps fun b o z => (e0.bs b o z).1
  have kinds : ∀ y ∈ ps.zip us, (defScope st).names.lookup y.1 = some .local ∨ ((defScope st).names.lookup y.1 = some .cell ∧ ((cellsFrom (s.heap.objs.size + 1) (defScope st).names []).lookup y.1).isSome = true) := fun y hy => by
    rcases S.par y.1 (List.of_mem_zip hy).1 with z | z
    · exact .inl z
    · exact .inr ⟨z, PySem.W.cellsFrom_some _ _ _ (.inl z)⟩
  refine codeAny_call_function hr.depth (hK _ _ lk) rfl S.co S.gen rfl (PySem.W.codeRec_of hK hq) (hb _ _ _ _ (wpAny_newFunctionEnv_cells S.kind kinds fun env he s1 xx => ?_))
  subst he
  refine ⟨hlim.keeps xx.toInCall.keep, codeAny_func ?_⟩
  obtain ⟨ds, M, Z, Φ, hl, r, wd, hc, kk⟩ := hsp
  have I : Inv (cxOf CX0 P w K mg base N qual (defScope st) f (.ref cd) A outer s H E) [] (L2.start N vs) H s1 := inv_start S hr.hd e0 hlen rv xx
  have body := (h f A outer s H E hg (hr.deeper _) ds M Φ hl hc).run (L2.start N vs) H { nx := fun _ H' => Q .non H', rt := Q } (env_start r) wd ⟨fun σ' ρ' H' M' x w' en z => kk _ .non H' M' x w' .non z, lets_k kk, fun _ _ _ _ _ _ _ z => z.elim, fun _ _ _ _ _ _ _ z => z.elim⟩
  have done : ∀ {σ' : L2.St} {H' : Hp} {v : V} {u : Value} {s' : Shared}, Inv (cxOf CX0 P w K mg base N qual (defScope st) f (.ref cd) A outer s H E) [] σ' H' s' → RelV v u → Q v H' → CE outer P w H s Q u s' := fun {σ' H' v u s'} J ru q => ⟨v, H', J.os, J.bare, J.base, J.hok, ru, q⟩
  refine wpAny_mono ((PSs.nox (pss_sem (X := bx P w K mg base N qual (defScope st) f (.ref cd) A outer s H E))).run [] s1 (L2.start N vs) H _ I body) (fun fl s' hs => ?_) fun e s' hs => hs
  cases fl with
  | ret u => obtain ⟨v, σ', H', J, ru, q⟩ := hs; exact done J ru q
  | next => obtain ⟨σ', H', J, q⟩ := hs; exact done (v := V.non) (u := Value.none) J rfl q
  | brk => obtain ⟨_, _, _, q⟩ := hs; exact q.elim
  | cont => obtain ⟨_, _, _, q⟩ := hs; exact q.elim
/-- the module's def x is the statement st, its code object stands at cd -/
structure Dc (K : PySem.W.Frag) (mg : Str → Option Value) (x : Str) (st : Stmt) (cd : Addr) : Prop where
  ex : ∃ (f : Addr) (fd : FuncData), FunD K x x (defArgs st) (defBody st) (defScope st) [] [] f fd ∧ mg x = some (.ref f) ∧ fd.code = .ref cd
theorem Dc.gc (D : Dc K mg x st cd) (S : FnScope N ps (defScope st))
    (hb : ∀ (kV doc pm : Value) (an : Option Addr) (cdv ct : Value) (us : List Value), us.length = ps.length → bindArgs (PySem.W.fnOf x x (defArgs st) (defBody st) (defScope st) .none kV doc pm an cdv ct) ⟨us, []⟩ = pure (ps.zip us))
    (h : BodyC P w K mg base x st N ps.length k cd c) : Gc P w K mg base x (k + 1) ps.length c := by
  obtain ⟨f, fd, F, hm, hcd⟩ := D.ex
  exact ⟨f, fd, ps, fnC_ok F hcd S h, hm, F.kp, F.bindsN hb⟩
end
/-- the def _law_caught -/
structure Ct (K : PySem.W.Frag) (mg : Str → Option Value) (x : Str) (st : Stmt) (a : Str) : Prop where
  df : Df K mg x st []
  bind : ∀ (kV doc pm : Value) (an : Option Addr) (cdv ct : Value) (us : List Value), us.length = 1 → bindArgs (PySem.W.fnOf x x (defArgs st) (defBody st) (defScope st) .none kV doc pm an cdv ct) ⟨us, []⟩ = pure ([a].zip us)
section
variable {X : Cx} {ρ : Rho} {M : Mp} {Φ : D → Mp → Prop} {e : Expr} {pos p : Pos} {x a : Str} {k : Nat} {B : Addr} {Ng : List Str} {st : Stmt}
/-- `_law_caught(e)`, e a lambda -/
theorem we_ct (T : Ct X.K X.mg x st a) (Sg : FnScope Ng [a] (defScope st)) (hG : ∀ (g : Addr) (cdg : Value), Gives X k B g x Ng (defScope st) cdg (defBody st)) (hr : Room (k + 2) X.A)
    (h : WE X ρ M e fun d M1 => ∃ params body scope, d = .lam (X.env.qual ++ "<lambda>") params body scope (cloFrom X.env.cells scope.names []) ∧ LamX.LamS X.env.scope scope ∧
      (∀ (q : Str) (cl : List (Str × Addr)) (pm cv ctv : Value), bindArgs (PySem.W.kla_fn "<lambda>" q params body scope cl pm cv ctv) ⟨[], []⟩ = pure []) ∧
      ∀ (f c' : Addr) (A : Around) (outer : List Env) (s : Shared) (H0 : Hp) (E : XK), Room k (A.deeper (LamX.lamEnv X scope s.heap.objs.size f c')) → WEx (LamX.lamCx X A outer s H0 E scope f c') ρ M1 body (fun _ M2 => Φ .non M2) (fun C fs M2 => PySem.W.exmOne X.K (.ref C) (.ref B) = some true ∧ Φ (.exc C fs) M2))
    (hg : Gl X x := by rfl) (hdb : (x == ("__debug__" : Str)) = false := by decide) (he : starEach [e] X.env = (false, eval e X.env) :: starEach [] X.env := by rfl) (hpl : (backTo pos (starEach [] X.env)).any (·.1) = false := by rfl) : WE X ρ M (.Call (.Name x p) [e] [] pos) Φ := by
  obtain ⟨g, fd, F, hm⟩ := T.df.ex
  obtain ⟨oc, od, dV, kV, doc, pm, an, cdg, ct, osl, rfl, lk, hcg, hdv, _⟩ := F.ex
  have hb := F.bindsN (ps := [a]) T.bind
  exact we_caught hm F.kp lk hcg hb Sg (hG g cdg) hr h hg hdb he hpl
end
end DL
namespace W
open PySem PySem.Spec PyProof.Rows L2 DL SX PL SlX
section
variable {P : Program} {w : World} {K : PySem.W.Frag} {mg : Str → Option Value} {base : Heap} {C U : Addr}
theorem nms_lt {t : T} (hg : Good t) : ∀ x ∈ nmT t, ∀ c ∈ x.cps.toList, c < 0x110000 := fun x hx => by
  rw [nmT_mem] at hx
  revert hx
  suffices h : ∀ t : T, Good t → ∀ x ∈ lv t, ∀ c ∈ x.cps.toList, c < 0x110000 from h t hg x
  intro t
  exact T.rec (motive_1 := fun t => Good t → ∀ x ∈ lv t, ∀ c ∈ x.cps.toList, c < 0x110000) (motive_2 := fun ts => Goods ts → ∀ x ∈ lvL ts, ∀ c ∈ x.cps.toList, c < 0x110000)
    (fun _ x hx => by rw [lv] at hx; cases hx)
    (fun y hg x hx c hc => by
      rw [lv, List.mem_singleton] at hx
      subst hx
      have h1 := hg.2.2 c hc
      simp [letter] at h1
      omega)
    (fun s n u ih hg x hx => ih hg.2.2 x (by rw [lv] at hx; exact hx))
    (fun s ts ih hg x hx => ih hg.2 x (by rw [lv] at hx; exact hx))
    (fun _ x hx => by rw [lvL] at hx; cases hx)
    (fun t ts ih1 ih2 hg x hx => by
      rw [lvL] at hx
      rcases List.mem_append.mp hx with h | h
      · exact ih1 hg.1 x h
      · exact ih2 hg.2 x h) t
theorem ok_many_n (F : Fx w K mg) (X : Px K mg C) : BodyOk P w K mg base "Plan.many" s_Plan_many ["self", "many", "part"] 1 0 (fun ds M Φ => ∃ t, ds = [planN C t] ∧ Good t ∧ (txt t).length ≤ 100000 ∧ Φ (.int (cnt t : Nat)) M) := by
  intro f cdv A outer s H E hr ds M Φ hl hc
  obtain ⟨t, rfl, hg, h3, hc⟩ := hc
  have nd : (["self", "many", "part"] : List Str).Nodup := by decide +kernel
  have hk := kids_len hg
  refine wss_cons (ws_ret (we_sum (F.bn _ (by decide +kernel)) (we_lc nd (blkOk_by (N := ["self", "many", "part"]) (sc := defScope s_Plan_many) (own := [("many", 1), ("part", 2)]) (by decide +kernel)) (fun _ _ _ _ _ => pg_tup rfl (pgs_cons (pg_name (i := 1) nd rfl (Or.inl rfl)) (pgs_cons (pg_name (i := 2) nd rfl (Or.inl rfl)) pgs_nil)) rfl rfl) (gt_two (by decide) (by decide)) (fun _ _ _ _ _ => pts_nil) tk_nil
    (wi_list (we_fld (C := C) (we_var 0 rfl ⟨_, _, insM, X.cl, X.na _ (by decide +kernel), lk_groups, _, .inl rfl, ?_⟩))))))
  refine ⟨by rw [subsN, List.length_map, sizeLine_eq]; omega, fun i acc M' => M' = M ∧ acc = (((kids t).take i).map fun q => ((q.1 : Nat) : Int)).map D.int, ⟨rfl, rfl⟩, ?_, ?_⟩
  · rintro i x acc M' hx ⟨rfl, rfl⟩
    rw [subsN, List.getElem?_map] at hx
    obtain ⟨q, hq, rfl⟩ := Option.map_eq_some_iff.mp hx
    refine ⟨_, _, rfl, ?_⟩
    intro s1 H1 C' cl fp
    refine we_var 1 rfl ⟨rfl, ?_⟩
    rw [take_snoc hq, List.map_append, List.map_append]; rfl
  · rintro acc M' ⟨rfl, rfl⟩
    refine ⟨_, rfl, Lets.of ?_⟩
    rw [subsN, List.length_map, List.take_length, sum_cast (fun q : Nat × T => q.1)]
    exact hc
def cManyN (C : Addr) : Con := fun ds M Φ => ∃ t, ds = [planN C t] ∧ Good t ∧ (txt t).length ≤ 100000 ∧ Φ (.int (cnt t : Nat)) M
/-- how many people, where no name is -/
def pplD (t : T) : D := if (nmT t).isEmpty then .int (ppl t : Nat) else .non
def cPeoN (C : Addr) : Con := fun ds M Φ => ∃ t, ds = [planN C t] ∧ Good t ∧ Φ (pplD t) M
theorem ok_people_n (X : Px K mg C) : BodyOk P w K mg base "Plan.people" s_Plan_people ["self"] 1 0 (cPeoN C) := by
  intro f cdv A outer s H E hr ds M Φ hl hc
  obtain ⟨t, rfl, hg, hc⟩ := hc
  have hn := nms_lt hg
  refine wss_cons (ws_ret (we_if (wt_eqNilT hr.units (we_fld (C := C) (we_var 0 rfl ⟨_, _, insM, X.cl, X.na _ (by decide +kernel), lk_names, _, (nmT t).map PyData.str, 0, rfl, cmps_map (j := 0) (Nat.le_refl _) (fun z hz => cmp_str (hn z hz)), by decide, ?_⟩)))))
  unfold pplD at hc
  rw [List.isEmpty_map]
  cases he : (nmT t).isEmpty with
  | true =>
    rw [he] at hc
    exact we_fld (C := C) (we_var 0 rfl ⟨_, _, insM, X.cl, X.na _ (by decide +kernel), lk_people, Lets.of hc⟩)
  | false =>
    rw [he] at hc
    exact we_non (Lets.of hc)
/-- a part, by a value of any kind -/
def cPartX (C U : Addr) : ConX := fun ds M Φ Ξ => ∃ t v, ds = [planN C t, avD v] ∧ Good t ∧ (txt t).length ≤ 100000 ∧ (∀ i u, v = natV i → i < cnt t → piece t i = some u → Φ (planN C u) M) ∧ (whB v 0 ((cnt t : Nat) - 1) = false → Ξ U [("value", avD v)] M)
abbrev nPart : List Str := ["self", "number", "left", "many", "part"]
theorem ok_part_x (F : Fx w K mg) (X : Px K mg C) (T : XL.Er P K mg "NoPart" U) (F1 : Fc P w K mg base "is_integer" [] 1 3 cIsIntA) (F2 : Pc P w K mg base C "many" 1 (cManyN C)) : BodyX P w K mg base "Plan.part" s_Plan_part nPart 2 2 (cPartX C U) := by
  intro f cdv A outer s H E hr ds M Φ Ξ hl hc
  obtain ⟨t, v, rfl, hg, hlen, h1, h2⟩ := hc
  have nd : nPart.Nodup := by decide +kernel
  refine wssx_cons (wsx_if (WT.up (wt_not (wt_val (we_call F1 (hr.mono (by omega)) (wa_cons (we_var 1 rfl (wa_cons (we_int (wa_cons (we_subI (we_prop F2 (hr.mono (by omega)) (we_var 0 rfl ⟨_, insM, t, rfl, hg, hlen, we_int ⟨_, _, rfl, rfl, wa_nil ⟨rfl, v, _, _, rfl, _, rfl, ?_⟩⟩⟩)))))))))))))
  cases hw : whB v 0 ((cnt t : Nat) - 1) with
  | false => exact wssx_cons (wsx_raise rfl T hr (we_var 1 rfl ⟨_, _, Les.refl, .same _, h2 hw⟩))
  | true =>
    obtain ⟨i, rfl, hi⟩ := whB_nat hw
    obtain ⟨u, hu⟩ := piece_some hi
    have hc := h1 i u rfl hi hu
    refine wssx_nil (WSs.up (wss_cons (ws_set 2 nd (we_var 1 rfl ?_))))
    rw [natV_D]
    refine wss_cons (ws_for (passes_of rfl) (wi_list (we_fld (C := C) (we_var 0 rfl ⟨_, _, insM, X.cl, X.na _ (by decide +kernel), lk_groups, _, .inl rfl, ?_⟩))))
    refine ⟨fun j ρ' M' => ∃ o3 o4, ρ' = [some (planN C t), some (.int (i : Nat)), some (.int ((i : Nat) - (j : Nat) : Int)), o3, o4] ∧ M' = M ∧ j ≤ i ∧ (isCop t = true → j = 0), ⟨none, none, by rw [show ((i : Nat) : Int) - ((0 : Nat) : Int) = (i : Nat) by omega]; rfl, rfl, Nat.zero_le _, fun _ => rfl⟩, ?_, ?_⟩
    · rintro j x ρ' M' hx ⟨o3, o4, rfl, rfl, hj, hj2⟩
      rw [subsN, List.getElem?_map] at hx
      obtain ⟨q, hq, rfl⟩ := Option.map_eq_some_iff.mp hx
      refine wg_tup ⟨rfl, rfl, wgs_cons (wg_name 3 (wgs_cons (wg_name 4 (wgs_nil ⟨rfl, ?_⟩) nd)) nd)⟩
      refine wss_cons (ws_if (wt_ltI (we_var 2 rfl (we_var 3 rfl ⟨_, _, rfl, rfl, ?_⟩))))
      cases t with
      | one => cases hu
      | name x => cases hu
      | cop b n z =>
        obtain rfl : j = 0 := hj2 rfl
        obtain rfl : (n, z) = q := by simpa [kids] using hq
        obtain rfl : z = u := Option.some.inj hu
        rw [cnt_cop] at hi
        rw [decide_eq_true (by simp; omega)]
        exact wss_cons (ws_ret (we_var 4 rfl (Lets.of hc)))
      | row b ts =>
        have hq2 : (ts.map fun t => (1, t))[j]? = some q := hq
        rw [List.getElem?_map] at hq2
        obtain ⟨z, hz, rfl⟩ := Option.map_eq_some_iff.mp hq2
        have hu2 : ts[i]? = some u := hu
        by_cases hij : i = j
        · subst hij
          rw [hz] at hu2
          cases hu2
          rw [decide_eq_true (by simp)]
          exact wss_cons (ws_ret (we_var 4 rfl (Lets.of hc)))
        · rw [decide_eq_false (by simp; omega)]
          have e : ((i : Nat) : Int) - (j : Nat) - ((1 : Nat) : Int) = (i : Nat) - ((j + 1 : Nat) : Int) := by omega
          refine wss_nil (wss_cons (ws_set 2 nd (we_subI (we_var 2 rfl (we_var 3 rfl ⟨_, _, rfl, rfl, wss_nil ?_⟩)))))
          exact ⟨some (.int ((1 : Nat) : Int)), some (planN C z), by rw [← e]; rfl, rfl, by omega, fun z => by cases z⟩
    · rintro ρ' M' ⟨o3, o4, rfl, rfl, hj, hj2⟩
      exfalso
      rw [subsN, List.length_map] at hj hj2
      cases t with
      | one => cases hu
      | name x => cases hu
      | cop b n z => exact absurd (hj2 rfl) (by simp [kids])
      | row b ts =>
        rw [cnt_row] at hi
        have : (kids (.row b ts)).length = ts.length := by simp [kids]
        omega
end
end W
namespace W
open PySem PySem.Spec PyProof.Rows L2 DL SX PL SlX
section
variable {P : Program} {w : World} {K : PySem.W.Frag} {mg : Str → Option Value} {base : Heap} {C U : Addr}
def cSome : Con := fun ds M Φ => ∃ p xs n a c d, ds = [.ob p, .lst xs, .int (n : Nat)] ∧ n ≤ xs.length ∧ xs.length ≤ 1000 ∧ M p = some (potL a c d) ∧ cOk c ∧ 0 ≤ d ∧ d + (n : Nat) < 100000 ∧ ∀ ys a' d', ys.length = n → (∀ y ∈ ys, y ∈ xs) → (xs.Nodup → ys.Nodup) → d ≤ d' → d' ≤ d + (n : Nat) → Φ (.lst ys) (mset M p (potL a' c d'))
abbrev nSome : List Str := ["_law_pot_here", "_law_pool", "_law_wanted", "_law_left", "_law_found", "_law_turn"]
theorem perm_erase {l : List D} {k : Nat} {x : D} (h : l[k]? = some x) : l.Perm (x :: l.eraseIdx k) := by
  induction l generalizing k with
  | nil => simp at h
  | cons y r ih =>
    cases k with
    | zero => simp at h; subst h; simp
    | succ k =>
      rw [List.eraseIdx_cons_succ]
      exact ((ih (by simpa using h)).cons y).trans (.swap x y _)
theorem ok_some (F : Fx w K mg) (F1 : Fc P w K mg base "_law_take" [] 1 2 cTake) : BodyOk P w K mg base "_law_some" s__law_some nSome 3 1 cSome := by
  intro f cdv A outer s0 H E hr ds M Φ hl hc
  obtain ⟨p, xs, n, a, c, d, rfl, hn, hx, hM, co, d0, d1, hc⟩ := hc
  have nd : nSome.Nodup := by decide +kernel
  refine wss_cons (ws_par 3 4 nd (wa_cons (we_listOfM (F.bn _ (by decide +kernel)) (we_var 1 rfl ⟨xs, .inl rfl, fun q1 h1 => wa_cons (we_lstM (wa_nil ⟨Nat.zero_le _, fun q2 h2 => wa_nil ⟨_, _, rfl, ?_⟩⟩))⟩))))
  have hpq1 : p ≠ q1 := fun e => by rw [e, h1] at hM; cases hM
  have hq12 : q1 ≠ q2 := fun e => by rw [e, mset_same] at h2; cases h2
  have hpq2 : p ≠ q2 := fun e => by rw [← e, mset_ne hpq1, hM] at h2; cases h2
  have h2' : M q2 = none := by rw [mset_ne (Ne.symm hq12)] at h2; exact h2
  refine wss_cons (ws_for PassesOwn.never (wi_range1 (F.bn _ (by decide +kernel)) (wa_cons (we_var 2 rfl (wa_nil ⟨_, rfl, by omega, by omega, ?_⟩)))))
  rw [show ((n : Nat) : Int).toNat = n by omega]
  refine ⟨fun i ρ' M' => ∃ o5 l f a' d', ρ' = [some (.ob p), some (.lst xs), some (.int (n : Nat)), some (.ob q1), some (.ob q2), o5] ∧ M' p = some (potL a' c d') ∧ M' q1 = some (.lst l) ∧ M' q2 = some (.lst f) ∧ (∀ b, b ≠ p → b ≠ q1 → b ≠ q2 → M' b = M b) ∧ f.length = i ∧ xs.Perm (f ++ l) ∧ d ≤ d' ∧ d' ≤ d + (i : Nat), ⟨_, xs, [], a, d, rfl, by rw [mset_ne hpq2, mset_ne hpq1]; exact hM, by rw [mset_ne hq12, mset_same], mset_same, fun b e1 e2 e3 => by rw [mset_ne e3, mset_ne e2], rfl, .refl _, Int.le_refl _, by omega⟩, ?_, ?_⟩
  · rintro i x ρ' M' hx2 ⟨o5, l, f, a', d', rfl, m1, m2, m3, m4, hfl, hpm, k1, k2⟩
    obtain ⟨hi, rfl⟩ := rngD_get hx2
    have hll : l.length + i = xs.length := by rw [hpm.length_eq, List.length_append]; omega
    refine wg_name 5 ?_ nd
    refine wss_cons (ws_expr (we_append (we_var 4 rfl ⟨q2, f, rfl, m3, we_popAt (we_var 3 rfl ⟨q1, l, rfl, m2, we_call F1 (hr.mono (by decide)) (wa_cons (we_var 0 rfl (wa_cons (we_len (F.bn _ (by decide +kernel)) (we_var 3 rfl ⟨_, lenO m2, wa_nil ⟨rfl, p, _, a', c, d', rfl, by omega, ?_, m1, co, by omega, by omega, ?_⟩⟩)))))⟩)⟩)))
    · have : (1000000 : Int) ≤ 10 ^ 40 := by decide +kernel
      omega
    intro r a2 e2 r0 r1 k3 k4
    obtain ⟨j, rfl⟩ := Int.eq_ofNat_of_zero_le r0
    have hj : j < l.length := by omega
    have hg := List.getElem?_eq_getElem hj
    refine ⟨l, _, j, l[j], rfl, by rw [mset_ne (Ne.symm hpq1)]; exact m2, by omega, by omega, ?_, hg, f, by rw [mset_ne (Ne.symm hq12), mset_ne (Ne.symm hpq2)]; exact m3, by rw [sizeLine_eq]; omega, ?_⟩
    · unfold seqIndex?
      simp
      omega
    refine wss_nil ⟨_, l.eraseIdx j, f ++ [l[j]], a2, e2, rfl, by rw [mset_ne hpq2, mset_ne hpq1, mset_same], by rw [mset_ne hq12, mset_same], mset_same, fun b e1 e2 e3 => by rw [mset_ne e3, mset_ne e2, mset_ne e1]; exact m4 b e1 e2 e3, by rw [List.length_append, hfl]; rfl, ?_, by omega, by omega⟩
    refine hpm.trans ?_
    rw [List.append_assoc]
    exact (perm_erase hg).append_left f
  · rintro ρ' M' ⟨o5, l, f, a', d', rfl, m1, m2, m3, m4, hfl, hpm, k1, k2⟩
    rw [rngD_len] at hfl k2
    refine wss_cons (ws_ret (we_var 4 rfl ⟨.lst f, mset M p (potL a' c d'), fun b => ?_, .lst m3 (by rw [mset_ne (Ne.symm hpq2)]; exact h2'), hc f a' d' hfl (fun y hy => hpm.mem_iff.mpr (List.mem_append_left _ hy)) (fun nx => (List.nodup_append.mp (hpm.nodup_iff.mp nx)).1) k1 k2⟩))
    by_cases e1 : b = p
    · rw [e1, mset_same]; exact .inl m1.symm
    · rw [mset_ne e1]
      by_cases e2 : b = q1
      · rw [e2]; exact .inr h1
      · by_cases e3 : b = q2
        · rw [e3]; exact .inr h2'
        · exact .inl (m4 b e1 e2 e3).symm
end
end W
namespace W
open PySem PySem.Spec PyProof.Rows L2 DL SX PL
theorem G_small {L S : List Nat} : ∀ (R : List Nat) (i : Nat) (d : Int) (b : Nat) (f : List (List Nat)), (∀ p ∈ f, p.length ≤ L.length) → (∀ p ∈ G L S R i d b f, p.length ≤ L.length) ∧ (G L S R i d b f).length ≤ f.length + R.length + 1
  | [], i, d, b, f, h => by
    rw [G]
    refine ⟨fun p hp => ?_, by rw [List.length_append]; simp⟩
    rcases List.mem_append.mp hp with hp | hp
    · exact h p hp
    · rw [List.mem_singleton.mp hp, List.length_drop]; omega
  | c :: R, i, d, b, f, h => by
    rw [G]
    split
    · obtain ⟨h1, h2⟩ := G_small (L := L) (S := S) R (i + 1) (d + wgt c) (i + S.length) (f ++ [(L.take i).drop b]) fun p hp => by
        rcases List.mem_append.mp hp with hp | hp
        · exact h p hp
        · rw [List.mem_singleton.mp hp, List.length_drop, List.length_take]; omega
      refine ⟨h1, ?_⟩
      rw [List.length_append, List.length_singleton] at h2
      rw [List.length_cons]; omega
    · obtain ⟨h1, h2⟩ := G_small (L := L) (S := S) R (i + 1) (d + wgt c) b f h
      exact ⟨h1, by rw [List.length_cons]; omega⟩
theorem parts_small (m S : List Nat) : (∀ p ∈ parts m S, p.length ≤ m.length) ∧ (parts m S).length ≤ m.length + 1 := by
  have := G_small (L := m) (S := S) m 0 0 0 [] fun p h => by cases h
  simpa [parts] using this
section
variable {P : Program} {w : World} {K : PySem.W.Frag} {mg : Str → Option Value} {base : Heap}
def cRowG : Con := fun ds M Φ => ∃ l, ds = [tS l] ∧ l.length ≤ 600 ∧ Φ .non M ∧ ∀ (b : Bool) (m : List Nat), l = 40 :: (m ++ [41]) → 2 ≤ (parts m (sep b)).length → Φ (.tup [.str (wrd b), .lst ((parts m (sep b)).map fun p => .tup [.int 1, tS p])]) M
abbrev nRowG : List Str := ["text", "word", "sign", "parts", "part"]
theorem ok_row_in_g (F : Fx w K mg) (Fp : Fc P w K mg base "parted" [] 1 2 cParted) : BodyOk P w K mg base "row_in" s_row_in nRowG 1 1 cRowG := by
  intro f cdv A outer s H E hr ds M Φ hl hc
  obtain ⟨l, rfl, hlen, hc1, hc2⟩ := hc
  have nd : nRowG.Nodup := by decide +kernel
  obtain ⟨a, kvs, h1, h2, h3⟩ := F.gSIGNS
  refine wss_cons (ws_if (wt_ww (ww_or (wt_not (wt_val (we_startswith (we_var 0 rfl ⟨_, rfl, we_str ⟨_, rfl, _, rfl, ?_⟩⟩)))))))
  rw [show ("(" : Str) = S [40] by decide +kernel, starts_g]
  by_cases hh : l.head? = some 40
  case neg =>
    rw [decide_eq_false hh]
    exact wss_cons (ws_ret (we_non (Lets.of hc1)))
  rw [decide_eq_true hh]
  have hne : l ≠ [] := fun e => by rw [e] at hh; cases hh
  refine ww_or1 (wt_not (wt_val (we_endswith (we_var 0 rfl ⟨_, rfl, we_str ⟨_, rfl, _, rfl, ?_⟩⟩))))
  rw [show (")" : Str) = S [41] by decide +kernel, ends_g hne]
  by_cases he : l.getLast? = some 41
  case neg =>
    rw [decide_eq_false he]
    exact wss_cons (ws_ret (we_non (Lets.of hc1)))
  rw [decide_eq_true he]
  obtain ⟨m, rfl⟩ := around_shape (by decide) hh he
  have hml : m.length + 2 ≤ 600 := by simpa using hlen
  refine wss_nil (wss_cons (ws_for PassesOwn.never (wi_gitems h1 h2 h3 ?_)))
  refine ⟨fun i ρ' M' => ∃ o1 o2 o3 o4, ρ' = [some (tS (40 :: (m ++ [41]))), o1, o2, o3, o4] ∧ M' = M, ⟨none, none, none, none, rfl, rfl⟩, ?_, ?_⟩
  · rintro i x ρ' M' hx ⟨o1, o2, o3, o4, rfl, rfl⟩
    obtain ⟨c, rfl, rfl⟩ := signs_of hx
    refine wg_tup ⟨rfl, rfl, wgs_cons (wg_name 1 (wgs_cons (wg_name 2 (wgs_nil ⟨rfl, ?_⟩) nd)) nd)⟩
    refine wss_cons (ws_set 3 nd (we_call Fp (hr.mono (by decide)) (wa_cons (we_slice (we_var 0 rfl (we_int ⟨1, rfl, we_negI (we_int ⟨1, rfl, _, rfl, _, .inr (.inr ⟨_, rfl, ?_, rfl⟩), wa_cons (we_var 2 rfl (wa_nil ⟨rfl, m, c, ?_, ?_, ?_⟩))⟩)⟩))))))
    · rw [S_len, sizeLine_eq]; omega
    · rw [cut_mid]; rfl
    · omega
    obtain ⟨q1, q2⟩ := parts_small m (sep c)
    refine wss_cons (ws_if (wt_gtI (we_len (F.bn _ (by decide +kernel)) (we_var 3 rfl ⟨_, lenL, we_int ⟨_, _, rfl, rfl, ?_⟩⟩))))
    rw [List.length_map]
    by_cases h2p : 2 ≤ (parts m (sep c)).length
    · rw [decide_eq_true (show (1 : Int) < ((parts m (sep c)).length : Int) by omega)]
      have hres := hc2 c m rfl h2p
      generalize parts m (sep c) = ps at q1 q2 hres
      refine wss_cons (ws_ret (we_tup (wa_cons (we_var 1 rfl (wa_cons (we_lc nd (blkOk_by (N := nRowG) (sc := defScope s_row_in) (own := [("part", 4)]) (by decide +kernel)) (fun _ _ _ _ _ => pg_name (i := 4) nd rfl (Or.inl rfl)) (gt_name (by decide)) (fun _ _ _ _ _ => pts_nil) tk_nil
        (wi_list (we_var 3 rfl ⟨_, .inl rfl, ?_⟩))))))))
      refine ⟨by rw [List.length_map, sizeLine_eq]; omega, fun i acc M'' => M'' = M' ∧ acc = (ps.take i).map fun p => .tup [.int 1, tS p], ⟨rfl, rfl⟩, ?_, ?_⟩
      · rintro i x acc M'' hx ⟨rfl, rfl⟩
        rw [List.getElem?_map] at hx
        obtain ⟨p, hp, rfl⟩ := Option.map_eq_some_iff.mp hx
        intro s1 H1 C cl fp
        refine we_tup (wa_cons (we_int (wa_cons (we_var 4 rfl (wa_nil ⟨sz2, rfl, ?_⟩)))))
        rw [take_snoc hp, List.map_append]; rfl
      · rintro acc M'' ⟨rfl, rfl⟩
        rw [List.length_map, List.take_length]
        exact wa_nil ⟨sz2, Lets.of hres⟩
    · rw [decide_eq_false (show ¬ (1 : Int) < ((parts m (sep c)).length : Int) by omega)]
      refine wss_nil (wss_nil ?_)
      exact ⟨_, _, _, _, rfl, rfl⟩
  · rintro ρ' M' ⟨o1, o2, o3, o4, rfl, rfl⟩
    exact wss_cons (ws_ret (we_non (Lets.of hc1)))
def grpG (gs : List (Nat × List Nat)) : D := .lst (gs.map fun g => .tup [.int (g.1 : Nat), tS g.2])
def cGrpG : Con := fun ds M Φ => ∃ l, ds = [tS l] ∧ l.length ≤ 600 ∧ Φ .non M ∧ ∀ (z : Str) (gs : List (Nat × List Nat)), ((∀ g ∈ gs, Tx g.2) → Tx l) → (∀ g ∈ gs, g.2.length ≤ l.length) → gs.length ≤ 600 → Φ (.tup [.str z, grpG gs]) M
theorem ok_groups_in_g (F : Fx w K mg) (F1 : Fc P w K mg base "is_name" [] 1 1 cIsName) (F2 : Fc P w K mg base "copies_in" [] 2 1 cCopG) (F3 : Fc P w K mg base "row_in" [] 2 1 cRowG) :
    BodyOk P w K mg base "groups_in" s_groups_in ["text", "found"] 1 2 cGrpG := by
  intro f cdv A outer s H E hr ds M Φ hl hc
  obtain ⟨l, rfl, hlen, hc1, hc2⟩ := hc
  have nd : (["text", "found"] : List Str).Nodup := by decide +kernel
  refine wss_cons (ws_if (wt_eqS (we_var 0 rfl (we_gstr F.gPERSON ⟨_, rfl, ?_⟩))))
  rw [show decide (S l = ("1" : Str)) = decide (l = [49]) by rw [show ("1" : Str) = S [49] by decide +kernel]; exact decide_eq_decide.mpr S_eqi]
  by_cases h1 : l = [49]
  · rw [decide_eq_true h1]
    have := hc2 "one" [] (fun _ => ⟨.one, trivial, by rw [txt, h1]⟩) (fun g hg => by cases hg) (Nat.zero_le _)
    exact wss_cons (ws_ret (we_tup (wa_cons (we_gstr F.gONE (wa_cons (we_lst (wa_nil ⟨Nat.zero_le _, wa_nil ⟨sz2, Lets.of this⟩⟩)))))))
  rw [decide_eq_false h1]
  refine wss_nil (wss_cons (ws_if (wt_val (we_call F1 (hr.mono (by decide)) (wa_cons (we_var 0 rfl (wa_nil ⟨rfl, l, rfl, by omega, _, rfl, ?_⟩)))))))
  cases hN : isNameL l with
  | true =>
    have hN2 : 1 ≤ l.length ∧ l.length ≤ 8 ∧ ∀ c ∈ l, letter c = true := by
      unfold isNameL at hN
      rw [Bool.and_eq_true, Bool.and_eq_true, decide_eq_true_iff, decide_eq_true_iff, List.all_eq_true] at hN
      exact hN
    have := hc2 "name" [] (fun _ => ⟨.name l, ⟨fun e => by rw [e] at hN2; simp at hN2, hN2.2.1, hN2.2.2⟩, by rw [txt]⟩) (fun g hg => by cases hg) (Nat.zero_le _)
    exact wss_cons (ws_ret (we_tup (wa_cons (we_gstr F.gNAME (wa_cons (we_lst (wa_nil ⟨Nat.zero_le _, wa_nil ⟨sz2, Lets.of this⟩⟩)))))))
  | false =>
  refine wss_nil (wss_cons (ws_set 1 nd (we_call F2 (hr.mono (by decide)) (wa_cons (we_var 0 rfl (wa_nil ⟨rfl, l, rfl, hlen, ?_, fun b n r n2 n30 hr2 hor => ?_⟩))))))
  · refine wss_cons (ws_ret (we_if (wt_isN (we_var 1 rfl ?_))))
    refine we_call F3 (hr.mono (by decide)) (wa_cons (we_var 0 rfl (wa_nil ⟨rfl, l, rfl, hlen, Lets.of hc1, fun b m em h2p => Lets.of ?_⟩)))
    obtain ⟨q1, q2⟩ := parts_small m (sep b)
    have hml : m.length + 2 = l.length := by rw [em]; simp
    have := hc2 (wrd b) ((parts m (sep b)).map fun p => (1, p)) (fun h => by
      rw [em]
      exact tx_row h2p fun p hp => h (1, p) (List.mem_map_of_mem (f := fun p => (1, p)) hp)) (fun g hg => by
      obtain ⟨p, hp, rfl⟩ := List.mem_map.mp hg
      have := q1 p hp
      show p.length ≤ _
      omega) (by rw [List.length_map]; omega)
    unfold grpG at this
    rw [List.map_map] at this
    exact this
  · refine wss_cons (ws_ret (we_if (wt_isN (we_var 1 rfl ?_))))
    have := hc2 (wrd b) [(n, r)] (fun h => by
      have hr := h (n, r) List.mem_cons_self
      rcases hor with e | e
      · exact absurd e (tx_ne hr)
      · rw [e]; exact tx_cop n2 n30 hr) (fun g hg => by rw [List.mem_singleton.mp hg]; exact hr2) (show 1 ≤ 600 by decide)
    exact we_var 1 rfl (Lets.of this)
def cIptG (h : Nat) : Con := fun ds M Φ => ∃ l d, ds = [tS l, .int (d : Nat)] ∧ l.length ≤ 600 ∧ d + h = 61 ∧ ∀ b : Bool, (b = true → Tx l) → Φ (.bl b) M
abbrev nIptG : List Str := ["text", "depth", "found", "many", "part"]
theorem ok_is_plan_text_g (h : Nat) (F : Fx w K mg) (F1 : Fc P w K mg base "groups_in" [] 3 1 cGrpG) (F2 : ∀ j, h = j + 1 → Fc P w K mg base "is_plan_text" [] (j + 4) 2 (cIptG j)) :
    BodyOk P w K mg base "is_plan_text" s_is_plan_text nIptG 2 (h + 3) (cIptG h) := by
  intro f cdv A outer s H E hr ds M Φ hl hc
  obtain ⟨l, d, rfl, hlen, hd, hc⟩ := hc
  have nd : nIptG.Nodup := by decide +kernel
  have none_ : WSs (bx P w K mg base nIptG "is_plan_text" (defScope s_is_plan_text) f cdv A outer s H E) [some (tS l), some (.int (d : Nat)), some .non, none, none] M ((defBody s_is_plan_text).drop 1) { nx := fun _ M' => Φ .non M', rt := Lets Φ } := by
    refine wss_cons (ws_ret (we_and (we_notN (we_var 2 rfl ⟨_, rfl, ?_⟩))))
    exact Lets.of (hc false fun h => by cases h)
  refine wss_cons (ws_set 2 nd (we_if (wt_leI (we_var 1 rfl (we_gint F.gMOST_DEPTH ⟨_, _, rfl, rfl, ?_⟩)))))
  by_cases h0 : h = 0
  · rw [decide_eq_false (show ¬ (d : Int) ≤ 60 by omega)]
    exact we_non none_
  obtain ⟨j, rfl⟩ : ∃ j, h = j + 1 := ⟨h - 1, by omega⟩
  rw [decide_eq_true (show (d : Int) ≤ 60 by omega)]
  refine we_call F1 (hr.mono (by omega)) (wa_cons (we_var 0 rfl (wa_nil ⟨rfl, l, rfl, hlen, none_, fun z gs hb hsm hgl => ?_⟩)))
  refine wss_cons (ws_ret (we_and (we_notN (we_var 2 rfl ⟨_, rfl, ?_⟩))))
  refine we_one (we_all (F.bn _ (by decide +kernel)) (we_lc nd (blkOk_by (N := nIptG) (sc := defScope s_is_plan_text) (own := [("many", 3), ("part", 4)]) (by decide +kernel)) (fun _ _ _ _ _ => pg_tup rfl (pgs_cons (pg_name (i := 3) nd rfl (Or.inl rfl)) (pgs_cons (pg_name (i := 4) nd rfl (Or.inl rfl)) pgs_nil)) rfl rfl) (gt_two (by decide) (by decide)) (fun _ _ _ _ _ => pts_nil) tk_nil
    (wi_list (we_ix (we_var 2 rfl (we_int ⟨1, _, rfl, ixT (atI_nat (j := 1) rfl), _, .inl rfl, ?_⟩))))))
  refine ⟨by rw [List.length_map, sizeLine_eq]; omega, fun i acc M' => M' = M ∧ ∃ bs : List Bool, acc = bs.map D.bl ∧ bs.length = i ∧ ∀ k b, bs[k]? = some b → b = true → ∀ g : Nat × List Nat, gs[k]? = some g → Tx g.2, ⟨rfl, [], rfl, rfl, fun k b (e : ([] : List Bool)[k]? = some b) => absurd (List.mem_of_getElem? e) List.not_mem_nil⟩, ?_, ?_⟩
  · rintro i x acc M' hx ⟨rfl, bs, rfl, hbl, hbs⟩
    rw [List.getElem?_map] at hx
    obtain ⟨g, hg, rfl⟩ := Option.map_eq_some_iff.mp hx
    have hgs := hsm g (List.mem_of_getElem? hg)
    refine ⟨_, _, rfl, ?_⟩
    intro s1 H1 C cl fp
    refine we_call (F2 j rfl) (hr.mono (by omega)) (wa_cons (we_var 4 rfl (wa_cons (we_addI (we_var 1 rfl (we_int ⟨_, _, rfl, rfl, wa_nil ⟨rfl, g.2, d + 1, rfl, by omega, by omega, fun b hb2 => ⟨rfl, bs ++ [b], by rw [List.map_append]; rfl, by rw [List.length_append, hbl]; rfl, fun k b' e ht g' hg' => ?_⟩⟩⟩))))))
    by_cases hk : k < bs.length
    · rw [List.getElem?_append_left hk] at e
      exact hbs k b' e ht g' hg'
    · rw [List.getElem?_append_right (by omega)] at e
      have hk0 : k - bs.length = 0 := by
        have := (List.getElem?_eq_some_iff.mp e).1
        simpa using this
      rw [hk0] at e
      have e2 : k = i := by omega
      subst e2
      rw [hg] at hg'
      obtain rfl := Option.some.inj hg'
      obtain rfl : b = b' := by simpa using e
      exact hb2 ht
  · rintro acc M' ⟨rfl, bs, rfl, hbl, hbs⟩
    rw [List.length_map] at hbl
    refine ⟨bs, rfl, Lets.of (hc _ fun hall => hb fun g hg => ?_)⟩
    obtain ⟨k, hk⟩ := List.getElem?_of_mem hg
    have hkl : k < bs.length := by have := (List.getElem?_eq_some_iff.mp hk).1; omega
    have hbk := List.getElem?_eq_getElem hkl
    refine hbs k _ hbk ?_ g hk
    exact List.all_eq_true.mp hall _ (List.getElem_mem hkl)
end
end W
namespace W
open PySem PySem.Spec PyProof.Rows L2 DL SX PL SlX
/-- what is no plan's text -/
inductive Bad (h : Nat) : D → Prop where
  | any (v : AV) (hv : ∀ z, v ≠ .str z) : Bad h (avD v)
  | text (l : List Nat) (hl : l.length ≤ 600) (hn : ¬ Tx l) : Bad h (tS l)
  | names (t : T) (g : Good t) (hl : (txt t).length ≤ 600) (hh : ht t ≤ h) (h60 : ht t ≤ 60) (hlv : (lv t).length < 1000) (h3 : 3 < (nmT t).length) : Bad h (tS (txt t))
theorem kit_str (K : PySem.W.Frag) {v : AV} (hv : ∀ z, v ≠ .str z) : PySem.W.kitOne K (.type (avT v)) (.type "str") = some false := by
  cases v with
  | str z => exact absurd rfl (hv z)
  | _ => rfl
section
variable {P : Program} {w : World} {K : PySem.W.Frag} {mg : Str → Option Value} {base : Heap} {C U : Addr}
def cInitB (C U : Addr) (h : Nat) : ConX := fun ds M Φ Ξ => ∃ a d, ds = [.ob a, d] ∧ Bad h d ∧ Ξ U [("value", d)] M
theorem ok_init_b (h : Nat) (F : Fx w K mg) (T : XL.Er P K mg "BadPlan" U) (F1 : Fc P w K mg base "is_plan_text" [] 65 2 (cIptG 61)) (F2 : Fc P w K mg base "is_plan_text" [] (h + 4) 2 (cPlanText h)) (F3 : Fc P w K mg base "names_in" [] (h + 4) 1 (cNamesN h)) : BodyX P w K mg base "Plan.__init__" s_Plan___init__ nInit 2 (h + 65) (cInitB C U h) := by
  intro f cdv A outer s H E hr ds M Φ Ξ hl hc
  obtain ⟨a, d, rfl, hb, hc⟩ := hc
  have nd : nInit.Nodup := by decide +kernel
  cases hb with
  | any v hv =>
    refine wssx_cons (wsx_if (wt_ww (ww_or (wt_not (wt_val (we_isi (F.bn _ (by decide +kernel)) (we_var 1 rfl (we_bty (F.bn _ (by decide +kernel)) rfl ⟨_, _, false, avTy M v, rfl, (by intro C h; cases h), kit_str K hv, _, rfl, ?_⟩))))))).up)
    exact wssx_cons (wsx_raise rfl T hr (we_var 1 rfl ⟨_, _, Les.refl, .same _, hc⟩))
  | text l hl2 hn =>
    refine wssx_cons (wsx_if (wt_ww (ww_or (wt_not (wt_val (we_isi (F.bn _ (by decide +kernel)) (we_var 1 rfl (we_bty (F.bn _ (by decide +kernel)) rfl ⟨_, _, true, avTy M (.str (S l)), rfl, (by intro C h; cases h), rfl, _, rfl, ?_⟩))))))).up)
    refine ww_or (wt_not (wt_val (we_call F1 (hr.mono (by omega)) (wa_cons (we_var 1 rfl (wa_cons (we_int (wa_nil ⟨rfl, l, 0, rfl, hl2, rfl, fun b hb => ⟨_, rfl, ?_⟩⟩))))))))
    cases b with
    | true => exact absurd (hb rfl) hn
    | false => exact wssx_cons (wsx_raise rfl T hr (we_var 1 rfl ⟨_, _, Les.refl, .same _, hc⟩))
  | names t g hl2 hh h60 hlv h3 =>
    refine wssx_cons (wsx_if (wt_ww (ww_or (wt_not (wt_val (we_isi (F.bn _ (by decide +kernel)) (we_var 1 rfl (we_bty (F.bn _ (by decide +kernel)) rfl ⟨_, _, true, avTy M (.str (S (txt t))), rfl, (by intro C h; cases h), rfl, _, rfl, ?_⟩))))))).up)
    refine ww_or (wt_not (wt_val (we_call F2 (hr.mono (by omega)) (wa_cons (we_var 1 rfl (wa_cons (we_int (wa_nil ⟨rfl, t, 0, rfl, g, by omega, hh, by omega, _, rfl, ?_⟩))))))))
    refine ww_or1 (wt_gtI (we_len (F.bn _ (by decide +kernel)) (we_call F3 (hr.mono (by omega)) (wa_cons (we_var 1 rfl (wa_nil ⟨rfl, t, rfl, g, hlv, by omega, hh, _, lenL, we_gint F.gMOST_NAMES ⟨_, _, rfl, rfl, ?_⟩⟩))))))
    rw [decide_eq_true (show (3 : Int) < ((((nmT t).map D.str).length : Nat) : Int) by rw [List.length_map]; omega)]
    exact wssx_cons (wsx_raise rfl T hr (we_var 1 rfl ⟨_, _, Les.refl, .same _, hc⟩))
end
end W
namespace W
open PySem PySem.Spec PyProof.Rows L2 DL SX PL SlX
section
variable {P : Program} {w : World} {K : PySem.W.Frag} {mg : Str → Option Value} {base : Heap} {C U : Addr}
/-- what is known of an error -/
structure Ek (P : Program) (K : PySem.W.Frag) (mg : Str → Option Value) (B : Addr) (x : Str) (U : Addr) : Prop where
  er : XL.Er P K mg x U
  ev : XL.ErV K U
  at_ : mg x = some (.ref U)
  ex : PySem.W.exmOne K (.ref U) (.ref B) = some true
  no : PySem.W.kitOne K (.type "NoneType") (.ref U) = some false
theorem kit_self {U : Addr} : PySem.W.kitOne K (.ref U) (.ref U) = some true := by
  unfold PySem.W.kitOne
  simp
theorem hfree_of {qual : Str} {sc lsc : Scope} {L f : Addr} {cd : Value} (h : (lsc.names.all fun y => !decide (y.2 = NameKind.free) || decide (sc.names.lookup y.1 = some .cell)) = true) : ∀ y ∈ lsc.names, y.2 = NameKind.free → ∃ c, (envOfC qual sc L f cd).cells.lookup y.1 = some c := fun y hy e => by
  have q := List.all_eq_true.mp h y hy
  rw [e] at q
  simp only [decide_true, Bool.not_true, Bool.false_or, decide_eq_true_eq] at q
  exact cell_has q
end
end W
namespace W
open PySem PySem.Spec PyProof.Rows L2 DL SX PL SlX
theorem tlK_inj {a b : Str} (h : TL.tl a = TL.tl b) : a = b := by
  cases a; cases b
  unfold TL.tl at h
  simp only at h
  congr
  exact Array.toList_inj.mp h
theorem tlK_app (a b : Str) : TL.tl (a ++ b) = TL.tl a ++ TL.tl b := by
  show (a.cps ++ b.cps).toList = _
  rw [Array.toList_append]
theorem tlK_S (l : List Nat) : TL.tl (S l) = l := by simp [TL.tl]
theorem lenK_app (a b : Str) : (a ++ b).length = a.length + b.length := by
  show (a.cps ++ b.cps).size = _
  rw [Array.size_append]; rfl
theorem lenK_S (l : List Nat) : (S l).length = l.length := S_len l
theorem cutK_fr {α : Type} (xs : List α) (n : Nat) : DL.cutD xs (some ((n : Nat) : Int)) none = xs.drop n := by
  unfold DL.cutD
  rw [HT.sIx_none, HT.sIx_nat]
  by_cases h : n ≤ xs.length
  · rw [Nat.min_eq_left h]
    exact List.take_of_length_le (by rw [List.length_drop]; exact Nat.le_refl _)
  · rw [Nat.min_eq_right (by omega), List.drop_eq_nil_of_le (Nat.le_refl _), List.drop_eq_nil_of_le (by omega)]; simp
theorem cutK_to {α : Type} (xs : List α) (n : Nat) : DL.cutD xs none (some (n : Int)) = xs.take n := by
  unfold DL.cutD
  rw [HT.sIx_nat, HT.sIx_none]
  show (xs.drop 0).take (min n xs.length - 0) = _
  rw [List.drop_zero, Nat.sub_zero]
  by_cases h : n ≤ xs.length
  · rw [Nat.min_eq_left h]
  · rw [Nat.min_eq_right (by omega), List.take_of_length_le (Nat.le_refl _), List.take_of_length_le (by omega)]
theorem copK (u : T) : (("[2 " : Str) ++ S (txt u)) ++ ("]" : Str) = S (txt (.cop false 2 u)) := tlK_inj (by
  rw [tlK_app, tlK_app, tlK_S (txt u), tlK_S (txt (.cop false 2 u)), txt, show TL.tl ("[2 " : Str) = [91, 50, 32] by decide +kernel, show TL.tl ("]" : Str) = [93] by decide +kernel, show TL.numL 2 = [50] by decide +kernel]
  rfl)
def sgK (s : Bool) : Str := if s = true then "*" else "+"
theorem rowK (s : Bool) (u : T) : (((("(1 " : Str) ++ sgK s) ++ (" " : Str)) ++ S (txt u)) ++ (")" : Str) = S (txt (.row s [.one, u])) := tlK_inj (by
  rw [tlK_app, tlK_app, tlK_app, tlK_app, tlK_S (txt u), tlK_S (txt (.row s [.one, u])), txt, txts, txts, txts, show TL.tl ("(1 " : Str) = [40, 49, 32] by decide +kernel, show TL.tl (")" : Str) = [41] by decide +kernel, show TL.tl (" " : Str) = [32] by decide +kernel, txt]
  cases s
  · rw [show TL.tl (sgK false) = [43] by decide +kernel, show sep false = [32, 43, 32] by decide +kernel]; rfl
  · rw [show TL.tl (sgK true) = [42] by decide +kernel, show sep true = [32, 42, 32] by decide +kernel]; rfl)
theorem dueK (s : Bool) (u : T) : (((("(" : Str) ++ S (txt u)) ++ (" " : Str)) ++ sgK s) ++ (" 1)" : Str) = S (txt (.row s [u, .one])) := tlK_inj (by
  rw [tlK_app, tlK_app, tlK_app, tlK_app, tlK_S (txt u), tlK_S (txt (.row s [u, .one])), txt, txts, txts, txts, show TL.tl ("(" : Str) = [40] by decide +kernel, show TL.tl (" 1)" : Str) = [32, 49, 41] by decide +kernel, show TL.tl (" " : Str) = [32] by decide +kernel, show txt T.one = [49] by rw [txt]]
  cases s
  · rw [show TL.tl (sgK false) = [43] by decide +kernel, show sep false = [32, 43, 32] by decide +kernel]; simp [TL.joinL]
  · rw [show TL.tl (sgK true) = [42] by decide +kernel, show sep true = [32, 42, 32] by decide +kernel]; simp [TL.joinL])
theorem deep_len : ∀ i < 11, (txt (deepC i)).length ≤ 100 ∧ (txt (deepT i)).length ≤ 100 ∧ (txt (dueT i)).length ≤ 100 := by decide +kernel
theorem deep_ok : (goodB (deepC 10) = true ∧ goodB (deepT 10) = true) ∧ (ht (deepC 10) = 10 ∧ ht (deepT 10) = 10) ∧ (nds (deepC 10) ≤ 50 ∧ nds (deepT 10) ≤ 50) ∧ lv (deepC 10) = [] ∧ lv (deepT 10) = [] := by decide +kernel
theorem lv_nm {t : T} (h : lv t = []) : nmT t = [] := by unfold nmT; rw [h]; rfl
/-- a told plan and its normal form -/
theorem norm_ex {t : T} (g : Good t) (hl : lv t = []) (p : ppl t ≤ 10 ^ 30) : ∃ u, Nz t u ∧ lv u = [] ∧ nmT u = [] := by
  obtain ⟨u, z⟩ := (nz_all t g p).1
  have hu : lv u = [] := List.eq_nil_iff_forall_not_mem.mpr fun k hk => by have := (z.lv k).mp hk; rw [hl] at this; cases this
  exact ⟨u, z, hu, lv_nm hu⟩
theorem told_ofK {t : T} (h : lv t = []) : Told t := by
  revert h
  refine kids_rec (P := fun t => lv t = [] → Told t) (fun t ih h => ?_) t
  cases t with
  | one => trivial
  | name x => rw [lv] at h; cases h
  | cop s n u =>
    have : lv u = [] := by rw [lv] at h; exact h
    exact ih (n, u) (by simp [kids]) this
  | row s ts =>
    refine tolds_all.mpr fun u hu => ih (1, u) (List.mem_map.mpr ⟨u, hu, rfl⟩) ?_
    rw [lv] at h
    have key : ∀ l : List T, lvL l = [] → ∀ u ∈ l, lv u = [] := by
      intro l
      induction l with
      | nil => intro _ u hu; cases hu
      | cons x l ih =>
        intro h u hu
        rw [lvL] at h
        obtain ⟨h1, h2⟩ := List.append_eq_nil_iff.mp h
        rcases List.mem_cons.mp hu with rfl | hu
        · exact h1
        · exact ih h2 u hu
    exact key ts h u hu
def nums5 (t : T) : List Nat := [ppl t, crc t, stg t, rws t, hal t]
def natD (n : Nat) : D := .int (n : Nat)
section
variable {P : Program} {w : World} {K : PySem.W.Frag} {mg : Str → Option Value} {base : Heap} {B C U V G : Addr}
def cNumsOf (C : Addr) : Con := fun ds M Φ => ∃ t, ds = [planN C t] ∧ Good t ∧ lv t = [] ∧ (txt t).length ≤ 100000 ∧ ht t ≤ 30 ∧ Φ (.tup ((nums5 t).map natD)) M
theorem ok_numsof (F : Fx w K mg) (F1 : Fc P w K mg base "number" [] 35 2 (cNum5 C 30)) : BodyOk P w K mg base "_law_numbers_of" s__law_numbers_of ["_law_plan", "_law_word"] 1 35 (cNumsOf C) := by
  intro f cdv A outer s H E hr ds M Φ hl hc
  obtain ⟨t, rfl, g, hlv, hlen, hh, hc⟩ := hc
  have nd : (["_law_plan", "_law_word"] : List Str).Nodup := by decide +kernel
  have tl := told_ofK hlv
  refine wss_cons (ws_ret (we_tupleOf (F.bn _ (by decide +kernel)) (we_lc nd (blkOk_by (N := ["_law_plan", "_law_word"]) (sc := defScope s__law_numbers_of) (own := [("_law_word", 1)]) (by decide +kernel)) (fun _ _ _ _ _ => pg_name (i := 1) nd rfl (Or.inl rfl)) (gt_name (by decide)) (fun _ _ _ _ _ => pts_nil) tk_nil (wi_tup (we_tup (wa_cons (we_str (wa_cons (we_str (wa_cons (we_str (wa_cons (we_str (wa_cons (we_str (wa_nil ⟨by show 5 ≤ sizeLine; decide, _, rfl, ?_⟩))))))))))))))))
  refine ⟨by show 5 ≤ sizeLine; decide, fun i acc M2 => M2 = M ∧ acc = ((nums5 t).take i).map natD, ⟨rfl, rfl⟩, ?_, ?_⟩
  · rintro i x acc M2 hx ⟨rfl, rfl⟩
    intro s1 H1 C1 cl1 fp1
    have key : ∃ z v, x = .str z ∧ (z, v) ∈ numL t ∧ (nums5 t)[i]? = some v := by
      match i, hx with
      | 0, hx => exact ⟨_, _, (Option.some.inj hx).symm, by unfold numL; exact List.mem_cons_self, rfl⟩
      | 1, hx => exact ⟨_, _, (Option.some.inj hx).symm, by unfold numL; simp, rfl⟩
      | 2, hx => exact ⟨_, _, (Option.some.inj hx).symm, by unfold numL; simp, rfl⟩
      | 3, hx => exact ⟨_, _, (Option.some.inj hx).symm, by unfold numL; simp, rfl⟩
      | 4, hx => exact ⟨_, _, (Option.some.inj hx).symm, by unfold numL; simp, rfl⟩
      | n + 5, hx => simp at hx
    obtain ⟨z, v, rfl, hz, hv⟩ := key
    refine we_call F1 (hr.mono (by decide)) (wa_cons (we_var 0 rfl (wa_cons (we_var 1 rfl (wa_nil ⟨rfl, t, z, v, by rw [planN_told C tl]; rfl, ⟨g, tl, hlen⟩, hh, hz, rfl, ?_⟩)))))
    rw [take_snoc hv, List.map_append]; rfl
  · rintro acc M2 ⟨rfl, rfl⟩
    exact ⟨_, .inl rfl, Lets.of hc⟩
end
end W
namespace W
open PySem PySem.Spec PyProof.Rows L2 DL SX PL SlX
theorem ppl_deep : ppl (deepC 10) = 1024 ∧ ppl (deepT 10) = 11 := by decide +kernel
theorem nums_deep : nums5 (deepC 10) = [1024, 1, 1024, 1024, 1] ∧ nums5 (deepT 10) = [11, 6, 6, 2, 6] := by decide +kernel
theorem nrmC_S : S (nrm (deepC 10)) = ("[1024 1]" : Str) := by decide +kernel
theorem due0 : S (txt (dueT 0)) = ("(1 + {2 1})" : Str) := by decide +kernel
theorem sgK_at (n : Nat) : (["+", "*"] : List Str)[n % 2]? = some (sgK (odd' n)) := by
  unfold odd' sgK
  rcases Nat.mod_two_eq_zero_or_one n with h | h
  · rw [h]; rfl
  · rw [h]; rfl
theorem sgK_len (s : Bool) : (sgK s).length = 1 := by cases s <;> decide +kernel
theorem toPy_nats : ∀ l : List Nat, toPy (.tup (l.map natD)) = some (.tuple (l.map fun n => PyData.int (n : Nat))) := fun l => by
  have h : ∀ l : List Nat, toPys (l.map natD) = some (l.map fun n => PyData.int (n : Nat)) := fun l => by
    induction l with
    | nil => rfl
    | cons n l ih => rw [List.map_cons, toPys, ih]; rfl
  rw [toPy, h]; rfl
theorem eqv_nats : ∀ a b : List Nat, PyData.eqvAll (a.map fun n => PyData.int (n : Nat)) (b.map fun n => PyData.int (n : Nat)) = decide (a = b)
  | [], [] => rfl
  | [], _ :: _ => rfl
  | _ :: _, [] => rfl
  | x :: a, y :: b => by
    rw [List.map_cons, List.map_cons, PyData.eqvAll, eqv_nats a b, Bool.eq_iff_iff]
    simp [PyData.eqv]
    intro _
    exact Int.ofNat_inj
theorem WS.nxtK {X : Cx} {ρ : Rho} {M : Mp} {st : Stmt} {Ψ : DE} {R : Rho → Mp → Prop} (h : WS X ρ M st { Ψ with nx := R }) (k : ∀ ρ' M', R ρ' M' → Ψ.nx ρ' M') : WS X ρ M st Ψ := .mk fun σ H E en w q => h.run σ H E en w ⟨fun σ' ρ' H' M' x w' en' z => q.nx σ' ρ' H' M' x w' en' (k ρ' M' z), q.rt, q.bk, q.ct⟩
/-- a statement, what holds behind it, the rest -/
theorem wss_stepK {X : Cx} {ρ : Rho} {M : Mp} {st : Stmt} {rest : List Stmt} {Ψ : DE} (R : Rho → Mp → Prop) (h : WS X ρ M st { Ψ with nx := R }) (k : ∀ ρ' M', R ρ' M' → WSs X ρ' M' rest Ψ) : WSs X ρ M (st :: rest) Ψ := wss_cons (WS.nxtK (R := R) h k)
section
variable {P : Program} {w : World} {K : PySem.W.Frag} {mg : Str → Option Value} {base : Heap} {B C U V G : Addr}
abbrev nDeep : List Str := ["_law_copies", "_law_text", "_law_due", "_law_deep", "_law_sign", "_law_plan", "_law_other"]
theorem ok_deep (F : Fx w K mg) (K1 : Kc P w K mg base "Plan" C [] 78 2 (cInitN C 36)) (F1 : Pc P w K mg base C "text" 1 (cGetN C fun t => tS (txt t))) (F2 : Pc P w K mg base C "people" 1 (cPeoN C)) (F3 : Fc P w K mg base "normal" [] 80 1 (cNormal C 18)) (F4 : Fc P w K mg base "_law_numbers_of" [] 36 1 (cNumsOf C)) :
    BodyOk P w K mg base "_law_is_deep_right" s__law_is_deep_right nDeep 0 80 (fun ds M Φ => ds = [] ∧ Φ (.bl true) M) := by
  intro f cdv A outer s H E hr ds M Φ hl hc
  obtain ⟨rfl, hc⟩ := hc
  have nd : nDeep.Nodup := by decide +kernel
  have sz3 : 3 ≤ sizeLine := by decide
  refine wss_cons (ws_asg (we_tup (wa_cons (we_str (wa_cons (we_str (wa_cons (we_str (wa_nil ⟨sz3, wg_tup ⟨rfl, rfl, wgs_cons (wg_name 0 (wgs_cons (wg_name 1 (wgs_cons (wg_name 2 (wgs_nil ⟨rfl, ?_⟩) nd)) nd)) nd)⟩⟩)))))))))
  have e1 : ("1" : Str) = S (txt .one) := by decide +kernel
  refine wss_stepK (R := fun ρ' M' => ∃ o3 o4, ρ' = [some (tS (txt (deepC 10))), some (tS (txt (deepT 10))), some (tS (txt (dueT 10))), o3, o4, none, none] ∧ M' = M) (ws_for PassesOwn.never (wi_range2 (F.bn _ (by decide +kernel)) (wa_cons (we_int (wa_cons (we_int (wa_nil ⟨1, 11, rfl, ⟨by decide, by decide, by decide, by decide⟩, ?_⟩))))))) ?_
  · refine ⟨fun i ρ' M' => ∃ o3 o4, ρ' = [some (tS (txt (deepC i))), some (tS (txt (deepT i))), some (tS (txt (dueT i))), o3, o4, none, none] ∧ M' = M, ⟨none, none, ?_, rfl⟩, ?_, ?_⟩
    · rw [← due0, e1]; rfl
    · rintro i x ρ' M' hx ⟨o3, o4, rfl, rfl⟩
      obtain ⟨hi, rfl⟩ := rngD_get hx
      have hi : i < 10 := hi
      obtain ⟨l1, l2, l3⟩ := deep_len i (by omega)
      have sz : ∀ n : Nat, n ≤ 1000 → n ≤ sizeLine := fun n h => by rw [sizeLine_eq]; omega
      have n3 : ("[2 " : Str).length = 3 := by decide +kernel
      have n1 : ("]" : Str).length = 1 := by decide +kernel
      have p3 : ("(1 " : Str).length = 3 := by decide +kernel
      have p1 : (" " : Str).length = 1 := by decide +kernel
      have q1 : (")" : Str).length = 1 := by decide +kernel
      have q2 : ("(" : Str).length = 1 := by decide +kernel
      have q3 : (" 1)" : Str).length = 3 := by decide +kernel
      have em : (1 + (i : Int)) % 2 = (((i + 1) % 2 : Nat) : Int) := by omega
      refine wg_name 3 ?_ nd
      refine wss_cons (ws_par 0 4 nd (wa_cons (we_addS (we_addS (we_str (we_var 0 rfl ⟨_, _, rfl, rfl, by rw [n3, lenK_S]; exact sz _ (by omega), we_str ⟨_, _, rfl, rfl, by rw [lenK_app, n3, n1, lenK_S]; exact sz _ (by omega), ?_⟩⟩))))))
      refine wa_cons (we_ix (we_lst (wa_cons (we_str (wa_cons (we_str (wa_nil ⟨by show 2 ≤ sizeLine; decide, we_modI (we_intN (F.bn _ (by decide +kernel)) (we_var 3 rfl (.inl ⟨_, rfl, we_int ⟨_, _, rfl, rfl, by decide, ?_⟩⟩)))⟩)))))))
      rw [em, copK]
      refine ⟨(((i + 1) % 2 : Nat) : Int), .str (sgK (odd' (i + 1))), rfl, ixL (atI_nat (by rw [show ([D.str "+", D.str "*"] : List D) = (["+", "*"] : List Str).map D.str from rfl, List.getElem?_map, sgK_at]; rfl)), wa_nil ⟨_, _, rfl, ?_⟩⟩
      generalize hs : odd' (i + 1) = sb
      have ls := sgK_len sb
      refine wss_cons (ws_set 1 nd (we_addS (we_addS (we_addS (we_addS (we_str (we_var 4 rfl ⟨_, _, rfl, rfl, by rw [p3, ls]; exact sz _ (by omega), we_str ⟨_, _, rfl, rfl, by rw [lenK_app, p3, ls, p1]; exact sz _ (by omega), we_var 1 rfl ⟨_, _, rfl, rfl, by rw [lenK_app, lenK_app, p3, ls, p1, lenK_S]; exact sz _ (by omega), we_str ⟨_, _, rfl, rfl, by rw [lenK_app, lenK_app, lenK_app, p3, ls, p1, q1, lenK_S]; exact sz _ (by omega), ?_⟩⟩⟩⟩)))))))
      rw [rowK]
      refine wss_cons (ws_set 2 nd (we_if (wt_gtI (we_var 3 rfl (we_int ⟨_, _, rfl, rfl, ?_⟩)))))
      by_cases h2 : i + 1 ≤ 2
      · rw [decide_eq_false (show ¬ ((2 : Int) < 1 + (i : Nat)) by omega)]
        have ed : dueT (i + 1) = dueT i := by
          match i, h2 with
          | 0, _ => rfl
          | 1, _ => rfl
        exact we_var 2 rfl (wss_nil ⟨_, _, by rw [ed, deepT, hs]; rfl, rfl⟩)
      · rw [decide_eq_true (show ((2 : Int) < 1 + (i : Nat)) by omega)]
        refine we_addS (we_addS (we_addS (we_addS (we_str (we_var 2 rfl ⟨_, _, rfl, rfl, by rw [q2, lenK_S]; exact sz _ (by omega), we_str ⟨_, _, rfl, rfl, by rw [lenK_app, q2, p1, lenK_S]; exact sz _ (by omega), we_var 4 rfl ⟨_, _, rfl, rfl, by rw [lenK_app, lenK_app, q2, p1, ls, lenK_S]; exact sz _ (by omega), we_str ⟨_, _, rfl, rfl, by rw [lenK_app, lenK_app, lenK_app, q2, p1, ls, q3, lenK_S]; exact sz _ (by omega), ?_⟩⟩⟩⟩)))))
        rw [dueK]
        have ed : dueT (i + 1) = .row sb [dueT i, .one] := by rw [dueT, if_neg h2, hs]
        exact wss_nil ⟨_, _, by rw [ed, deepT, hs]; rfl, rfl⟩
    · rintro ρ' M' ⟨o3, o4, rfl, rfl⟩
      rw [rngD_len]
      exact ⟨o3, o4, rfl, rfl⟩
  rintro ρ' M' ⟨o3, o4, rfl, eM⟩
  rw [eM]
  clear eM
  obtain ⟨⟨g1, g2⟩, ⟨h1, h2⟩, ⟨m1, m2⟩, v1, v2⟩ := deep_ok
  have g1 := good_of _ g1
  have g2 := good_of _ g2
  obtain ⟨l1, l2, l3⟩ := deep_len 10 (by decide)
  obtain ⟨p1, p2⟩ := ppl_deep
  have lv0 : ∀ {t : T}, lv t = [] → (lv t).length < 1000 := fun h => by rw [h]; decide
  have nm0 : ∀ {t : T}, lv t = [] → (nmT t).length ≤ 3 := fun h => by rw [lv_nm h]; decide
  refine wss_cons (ws_par 5 6 nd (wa_cons (we_plan_n K1 (hr.mono (by decide)) (we_var 0 rfl ⟨_, rfl, g1, lv0 v1, nm0 v1, by omega, by omega, by omega, wa_cons (we_plan_n K1 (hr.mono (by decide)) (we_var 1 rfl ⟨_, rfl, g2, lv0 v2, nm0 v2, by omega, by omega, by omega, wa_nil ⟨_, _, rfl, ?_⟩⟩))⟩))))
  generalize hA : deepC 10 = A1 at *
  generalize hB : deepT 10 = B1 at *
  have big : (100000 : Nat) ≤ 10 ^ 30 := by decide +kernel
  obtain ⟨uA, zA, vA, nA⟩ := norm_ex g1 v1 (by rw [p1]; omega)
  obtain ⟨uB, zB, vB, nB⟩ := norm_ex g2 v2 (by rw [p2]; omega)
  have smA : Sm A1 := ⟨g1, by rw [p1]; omega, by omega⟩
  have smB : Sm B1 := ⟨g2, by rw [p2]; omega, by omega⟩
  have eA : EqS (tS (txt uA)) (.str "[1024 1]") true := by
    rw [zA.tx, ← hA, ← nrmC_S]; exact (decide_eq_true rfl).symm
  have eB : EqS (tS (txt uB)) (tS (txt (dueT 10))) true := by
    rw [zB.tx, ← hB, nrmT]; exact (decide_eq_true rfl).symm
  have hzA := zA.ht
  have hzB := zB.ht
  have pl : ∀ {t : T} {n : Nat}, lv t = [] → ppl t = n → pplD t = .int (n : Nat) := fun h e => by unfold pplD; rw [lv_nm h, e]; rfl
  refine wss_cons (ws_if (wt_ww (ww_or (wt_neS (we_prop F1 (hr.mono (by decide)) (we_var 5 rfl ⟨_, insM, _, rfl, we_var 0 rfl ⟨true, (decide_eq_true rfl).symm, ?_⟩⟩))))))
  refine ww_or (wt_neS (we_prop F2 (hr.mono (by decide)) (we_var 5 rfl ⟨_, insM, A1, rfl, g1, we_int ⟨true, ?_, ?_⟩⟩)))
  · rw [pl v1 p1]; exact (decide_eq_true rfl).symm
  refine ww_or1 (wt_neS (we_prop F1 (hr.mono (by decide)) (we_call F3 (hr.mono (by decide)) (wa_cons (we_var 5 rfl (wa_nil ⟨rfl, A1, uA, rfl, smA, by omega, zA, by omega, lv0 vA, nm0 vA, ⟨_, insM, uA, rfl, we_str ⟨true, eA, ?_⟩⟩⟩))))))
  obtain ⟨q1, q2⟩ := nums_deep
  rw [hA] at q1
  rw [hB] at q2
  refine wss_nil (wss_cons (ws_if (wt_ww (ww_or (wt_neD hr.units (we_call F4 (hr.mono (by decide)) (wa_cons (we_var 5 rfl (wa_nil ⟨rfl, A1, rfl, g1, v1, by omega, by omega, ?_⟩)))))))))
  rw [q1]
  refine we_tup (wa_cons (we_int (wa_cons (we_int (wa_cons (we_int (wa_cons (we_int (wa_cons (we_int (wa_nil ⟨by show 5 ≤ sizeLine; decide, _, _, toPy_nats _, toPy_nats [1024, 1, 1024, 1024, 1], rfl, rfl, ?_⟩)))))))))))
  rw [PyData.eqv, eqv_nats, decide_eq_true rfl]
  refine ww_or1 (wt_neD hr.units (we_call F4 (hr.mono (by decide)) (wa_cons (we_var 6 rfl (wa_nil ⟨rfl, B1, rfl, g2, v2, by omega, by omega, ?_⟩)))))
  rw [q2]
  refine we_tup (wa_cons (we_int (wa_cons (we_int (wa_cons (we_int (wa_cons (we_int (wa_cons (we_int (wa_nil ⟨by show 5 ≤ sizeLine; decide, _, _, toPy_nats _, toPy_nats [11, 6, 6, 2, 6], rfl, rfl, ?_⟩)))))))))))
  rw [PyData.eqv, eqv_nats, decide_eq_true rfl]
  refine wss_nil (wss_cons (ws_ret (we_and (we_eqS (we_prop F1 (hr.mono (by decide)) (we_var 6 rfl ⟨_, insM, _, rfl, we_var 1 rfl ⟨true, (decide_eq_true rfl).symm, true, rfl, ?_⟩⟩))))))
  exact we_one (we_eqS (we_prop F1 (hr.mono (by decide)) (we_call F3 (hr.mono (by decide)) (wa_cons (we_var 6 rfl (wa_nil ⟨rfl, B1, uB, rfl, smB, by omega, zB, by omega, lv0 vB, nm0 vB, ⟨_, insM, uB, rfl, we_var 2 rfl ⟨true, eB, Lets.of hc⟩⟩⟩))))))
end
end W
namespace W
open PySem PySem.Spec PyProof.Rows L2 DL SX PL SlX
theorem sum_le6 : ∀ {ys : List Str}, (∀ y ∈ ys, y.length ≤ 6) → (ys.map (·.length)).sum ≤ 6 * ys.length
  | [], _ => Nat.le_refl _
  | y :: ys, h => by
    rw [List.map_cons, List.sum_cons, List.length_cons]
    have := h y List.mem_cons_self
    have := sum_le6 fun z hz => h z (List.mem_cons_of_mem _ hz)
    omega
def lgS (k m : Nat) : List Str := (List.replicate k ("1" : Str) : List Str) ++ (("[10 1]" : Str) :: (List.replicate m ("1" : Str) : List Str) : List Str)
theorem lgS_len (k m : Nat) : (lgS k m).length = k + m + 1 := by unfold lgS; simp; omega
theorem lgS_S (k m : Nat) : lgS k m = (txts (lgL k m)).map S := by
  rw [long_parts]
  unfold lgS
  rw [List.map_append, List.map_cons, List.map_replicate, List.map_replicate, show S [49] = ("1" : Str) by decide +kernel, show S (txt ten) = ("[10 1]" : Str) by decide +kernel]
theorem lgS_6 {k m : Nat} : ∀ y ∈ lgS k m, y.length ≤ 6 := fun y hy => by
  have a : ("1" : Str).length ≤ 6 := by decide +kernel
  have b : ("[10 1]" : Str).length ≤ 6 := by decide +kernel
  unfold lgS at hy
  rcases List.mem_append.mp hy with hy | hy
  · rw [List.eq_of_mem_replicate hy]; exact a
  · rcases List.mem_cons.mp hy with rfl | hy
    · exact b
    · rw [List.eq_of_mem_replicate hy]; exact a
theorem lgS_txt (k m : Nat) : (("(" : Str) ++ Txt.join " + " (lgS k m)) ++ (")" : Str) = S (txt (longT k m)) := tlK_inj (by
  rw [lgS_S, show (" + " : Str) = S (sep false) by decide +kernel, join_S, tlK_app, tlK_app, tlK_S (TL.joinL (sep false) (txts (lgL k m))), tlK_S (txt (longT k m)), show TL.tl ("(" : Str) = [40] by decide +kernel, show TL.tl (")" : Str) = [41] by decide +kernel]
  unfold longT
  rw [txt]; rfl)
theorem lg_at (k m : Nat) : (lgL k m)[k]? = some ten := by
  unfold lgL
  rw [List.getElem?_append_right (by rw [List.length_replicate]; exact Nat.le_refl _), List.length_replicate, Nat.sub_self]; rfl
section
variable {P : Program} {w : World} {K : PySem.W.Frag} {mg : Str → Option Value} {base : Heap} {B C U V G : Addr}
def cLong : Con := fun ds M Φ => ∃ k : Nat, ds = [.int (k : Nat)] ∧ k < 499 ∧ Φ (.bl true) M
abbrev nLong : List Str := ["_law_spot", "_law_parts", "_law_text", "_law_plan"]
theorem ok_long (F : Fx w K mg) (K1 : Kc P w K mg base "Plan" C [] 78 2 (cInitN C 36)) (F1 : Pc P w K mg base C "text" 1 (cGetN C fun t => tS (txt t))) (F2 : Pc P w K mg base C "many" 1 (cManyN C)) (F3 : Fc P w K mg base "normal" [] 80 1 (cNormal C 18)) (F4 : Fc P w K mg base "_law_numbers_of" [] 36 1 (cNumsOf C)) (F5 : Mcx P w K mg base C "part" [] 3 2 (cPartX C U)) :
    BodyOk P w K mg base "_law_is_long_right" s__law_is_long_right nLong 1 80 cLong := by
  intro f cdv A outer s H E hr ds M Φ hl hc
  obtain ⟨k, rfl, hk, hc⟩ := hc
  have nd : nLong.Nodup := by decide +kernel
  have sz : ∀ n : Nat, n ≤ 100000 → n ≤ sizeLine := fun n h => by rw [sizeLine_eq]; omega
  obtain ⟨m, hm⟩ : ∃ m, k + m = 498 := ⟨498 - k, by omega⟩
  have l1 : ("(" : Str).length = 1 := by decide +kernel
  have l2 : (")" : Str).length = 1 := by decide +kernel
  have l3 : (" + " : Str).length = 3 := by decide +kernel
  have etx := lgS_txt k m
  have hlen := long_len k m hm
  have hS : (S (txt (longT k m))).length = 2000 := by rw [lenK_S]; exact hlen
  have hJ : (Txt.join " + " (lgS k m)).length = 1998 := by
    rw [← etx, lenK_app, lenK_app, l1, l2] at hS; omega
  refine wss_cons (ws_set 1 nd (we_repI (we_lst (wa_cons (we_str (wa_nil ⟨by show 1 ≤ sizeLine; decide, we_int ⟨_, 498, rfl, rfl, sz _ (by decide), ?_⟩⟩))))))
  refine wss_cons (ws_set 2 nd (we_addS (we_addS (we_str (we_join (we_str ⟨_, rfl, we_addL (we_addL (we_slice (we_var 1 rfl (we_var 0 rfl ⟨_, rfl, _, .inl ⟨_, rfl, rfl⟩, we_lst (wa_cons (we_str (wa_nil ⟨by show 1 ≤ sizeLine; decide, _, _, rfl, rfl, ?_, we_slice (we_var 1 rfl (we_var 0 rfl ⟨_, rfl, _, .inl ⟨_, rfl, rfl⟩, _, _, rfl, rfl, ?_, ?_⟩))⟩)))⟩))))⟩))))))
  · rw [cutK_to, List.length_take, List.length_replicate, List.length_singleton]; exact sz _ (by omega)
  · rw [cutK_to, cutK_fr, List.length_append, List.length_take, List.length_drop, List.length_replicate, List.length_singleton]; exact sz _ (by omega)
  rw [cutK_to, cutK_fr, List.take_replicate, List.drop_replicate, Nat.min_eq_left (show k ≤ 498 by omega), show 498 - k = m by omega]
  refine ⟨lgS k m, .inl ?_, ?_, _, _, rfl, rfl, by rw [l1, hJ]; exact sz _ (by decide), we_str ⟨_, _, rfl, rfl, by rw [lenK_app, l1, l2, hJ]; exact sz _ (by decide), ?_⟩⟩
  · have e : (lgS k m).map D.str = List.replicate k (D.str "1") ++ [D.str "[10 1]"] ++ List.replicate m (D.str "1") := by
      unfold lgS
      rw [List.map_append, List.map_cons, List.map_replicate, List.map_replicate, List.append_assoc]; rfl
    rw [e]; exact rfl
  · have := sum_le6 (lgS_6 (k := k) (m := m))
    rw [lgS_len] at this
    rw [lgS_len, l3]; omega
  rw [etx]
  obtain ⟨n1, n2, n3, n4, n5, n6, n7⟩ := long_n k m
  have g := long_good k m (by omega)
  have tl := long_told k m
  have hlv : lv (longT k m) = [] := lv_told tl
  have hh := long_ht k m
  have p1 : ppl (longT k m) = 508 := by rw [n1]; omega
  have big : (100000 : Nat) ≤ 10 ^ 30 := by decide +kernel
  have lv0 : ∀ {t : T}, lv t = [] → (lv t).length < 1000 := fun h => by rw [h]; decide
  have nm0 : ∀ {t : T}, lv t = [] → (nmT t).length ≤ 3 := fun h => by rw [lv_nm h]; decide
  refine wss_cons (ws_set 3 nd (we_plan_n K1 (hr.mono (by decide)) (we_var 2 rfl ⟨_, rfl, g, lv0 hlv, nm0 hlv, by rw [hlen]; omega, by omega, by omega, ?_⟩)))
  obtain ⟨u, z, vu, nu⟩ := norm_ex g hlv (by rw [p1]; omega)
  have sm : Sm (longT k m) := ⟨g, by rw [p1]; omega, by rw [n6]; omega⟩
  have hz := z.ht
  have eu : EqS (tS (txt u)) (.str "[508 1]") true := by
    rw [z.tx, long_nrm, show k + (10 + m) = 508 by omega]
    rw [show ("[508 1]" : Str) = S (pt false 508 [49]) by decide +kernel]; exact (decide_eq_true rfl).symm
  have q5 : nums5 (longT k m) = [508, 1, 508, 508, 1] := by
    unfold nums5
    rw [n1, n2, n3, n4, n5, show k + (10 + m) = 508 by omega]
  refine wss_cons (ws_if (wt_ww (ww_or (wt_neS (we_len (F.bn _ (by decide +kernel)) (we_var 2 rfl ⟨_, lenS (by rw [hS]; exact sz _ (by decide)), we_int ⟨true, ?_, ?_⟩⟩))))))
  · rw [hS]; exact (decide_eq_true rfl).symm
  refine ww_or (wt_neS (we_prop F1 (hr.mono (by decide)) (we_var 3 rfl ⟨_, insM, _, rfl, we_var 2 rfl ⟨true, (decide_eq_true rfl).symm, ?_⟩⟩)))
  refine ww_or (wt_neS (we_prop F2 (hr.mono (by decide)) (we_var 3 rfl ⟨_, insM, _, rfl, g, by rw [hlen]; omega, we_int ⟨true, ?_, ?_⟩⟩)))
  · rw [n7, show k + m + 1 = 499 by omega]; exact (decide_eq_true rfl).symm
  refine ww_or1 (wt_neS (we_prop F1 (hr.mono (by decide)) (we_methN (C := C) F5 (hr.mono (by decide)) (we_var 3 rfl ⟨_, insM, rfl, wa_cons (we_var 0 rfl (wa_nil ⟨rfl, longT k m, natV k, by rw [natV_D]; rfl, g, by rw [hlen]; omega, fun i u' hi h1 h2 => ?_, fun hw => ?_⟩))⟩))))
  rotate_left
  · exfalso
    have : whB (natV k) 0 ((PL.cnt (longT k m) : Nat) - 1) = (decide ((0 : Int) ≤ (k : Nat)) && decide (((k : Nat) : Int) ≤ (PL.cnt (longT k m) : Nat) - 1)) := rfl
    rw [this, n7, decide_eq_true (by omega), decide_eq_true (by omega)] at hw
    cases hw
  have hik : i = k := by
    unfold natV at hi
    injection hi with hi
    omega
  rw [hik] at h2
  have h2 : (lgL k m)[k]? = some u' := h2
  rw [lg_at] at h2
  obtain rfl : ten = u' := Option.some.inj h2
  refine ⟨_, insM, ten, rfl, we_str ⟨true, ?_, ?_⟩⟩
  · rw [show ("[10 1]" : Str) = S (txt ten) by decide +kernel]; exact (decide_eq_true rfl).symm
  refine wss_nil (wss_cons (ws_ret (we_and (we_eqD hr.units (we_call F4 (hr.mono (by decide)) (wa_cons (we_var 3 rfl (wa_nil ⟨rfl, longT k m, rfl, g, hlv, by rw [hlen]; omega, by omega, ?_⟩))))))))
  rw [q5]
  refine we_tup (wa_cons (we_int (wa_cons (we_int (wa_cons (we_int (wa_cons (we_int (wa_cons (we_int (wa_nil ⟨by show 5 ≤ sizeLine; decide, _, _, toPy_nats _, toPy_nats [508, 1, 508, 508, 1], rfl, rfl, ?_⟩)))))))))))
  rw [PyData.eqv, eqv_nats, decide_eq_true rfl]
  exact ⟨true, rfl, we_one (we_eqS (we_prop F1 (hr.mono (by decide)) (we_call F3 (hr.mono (by decide)) (wa_cons (we_var 3 rfl (wa_nil ⟨rfl, longT k m, u, rfl, sm, by omega, z, by omega, lv0 vu, nm0 vu, ⟨_, insM, u, rfl, we_str ⟨true, eu, Lets.of hc⟩⟩⟩))))))⟩
end
end W
namespace W
open PySem PySem.Spec PyProof.Rows L2 DL SX PL SlX
def G30 : Str := "1000000000000000000000000000000"
theorem g30_eq : (Str.ofString (toString ((10 : Int) ^ (30 : Int).toNat)) : Str) = G30 := by decide +kernel
theorem g31_eq : (Str.ofString (toString ((10 : Int) ^ (30 : Int).toNat + 1)) : Str) = "1000000000000000000000000000001" := by decide +kernel
def x8 : Str := (("[" : Str) ++ G30) ++ (" 1]" : Str)
def x9 : Str := (("{" : Str) ++ G30) ++ (" 1}" : Str)
def x10 (a b c : Str) : Str := (((((((("(" : Str) ++ a) ++ (" + " : Str)) ++ b) ++ (" + " : Str)) ++ c) ++ (" + " : Str)) ++ a) ++ (")" : Str)
def x11 (a b : Str) : Str := (((("[3 (" : Str) ++ a) ++ (" * {2 " : Str)) ++ b) ++ ("})]" : Str)
def x12 : Str := (("(" : Str) ++ Txt.join " + " (List.replicate 30 ("1" : Str))) ++ (")" : Str)
def y1 (a b c d : Str) : Str := (("(" : Str) ++ Txt.join " + " [a, b, c, d]) ++ (")" : Str)
def y2 (a b c d : Str) : Str := (((((((("[2 (" : Str) ++ a) ++ (" * (" : Str)) ++ b) ++ (" + [3 (" : Str)) ++ c) ++ (" * " : Str)) ++ d) ++ (")]))]" : Str)
def z31 : Str := (("[" : Str) ++ ("1000000000000000000000000000001" : Str)) ++ (" 1]" : Str)
theorem t_op : TL.tl ("(" : Str) = [40] := by decide +kernel
theorem t_cl : TL.tl (")" : Str) = [41] := by decide +kernel
theorem t_pl : TL.tl (" + " : Str) = [32, 43, 32] := by decide +kernel
theorem t_3 : TL.tl ("[3 (" : Str) = [91, 51, 32, 40] := by decide +kernel
theorem t_2i : TL.tl (" * {2 " : Str) = [32, 42, 32, 123, 50, 32] := by decide +kernel
theorem t_e3 : TL.tl ("})]" : Str) = [125, 41, 93] := by decide +kernel
theorem t_2 : TL.tl ("[2 (" : Str) = [91, 50, 32, 40] := by decide +kernel
theorem t_mo : TL.tl (" * (" : Str) = [32, 42, 32, 40] := by decide +kernel
theorem t_p3 : TL.tl (" + [3 (" : Str) = [32, 43, 32, 91, 51, 32, 40] := by decide +kernel
theorem t_mu : TL.tl (" * " : Str) = [32, 42, 32] := by decide +kernel
theorem t_e5 : TL.tl (")]))]" : Str) = [41, 93, 41, 41, 93] := by decide +kernel
theorem n2 : TL.numL 2 = [50] := by decide +kernel
theorem n3 : TL.numL 3 = [51] := by decide +kernel
theorem sp0 : sep false = [32, 43, 32] := by decide +kernel
theorem sp1 : sep true = [32, 42, 32] := by decide +kernel
theorem tl_nL (a : Str) : TL.tl a = nL a := rfl
theorem nm_txt (a : Str) : txt (nmK a) = nL a := by unfold nmK; rw [txt]
theorem x10_eq (a b c : Str) : x10 a b c = S (txt (.row false [nmK a, nmK b, nmK c, nmK a])) := tlK_inj (by
  rw [tlK_S (txt (.row false [nmK a, nmK b, nmK c, nmK a]))]
  unfold x10
  simp only [tlK_app, t_op, t_cl, t_pl]
  simp only [tl_nL, txt, txts, nm_txt, TL.joinL, sp0]
  simp)
theorem x11_eq (a b : Str) : x11 a b = S (txt (.cop false 3 (.row true [nmK a, .cop true 2 (nmK b)]))) := tlK_inj (by
  rw [tlK_S (txt (.cop false 3 (.row true [nmK a, .cop true 2 (nmK b)])))]
  unfold x11
  simp only [tlK_app, t_3, t_2i, t_e3]
  simp only [tl_nL, txt, txts, nm_txt, TL.joinL, sp1, n2, n3]
  simp [opn, cls])
theorem y1_eq (a b c d : Str) : y1 a b c d = S (txt (.row false [nmK a, nmK b, nmK c, nmK d])) := tlK_inj (by
  rw [tlK_S (txt (.row false [nmK a, nmK b, nmK c, nmK d]))]
  unfold y1
  have e : Txt.join (" + " : Str) [a, b, c, d] = S (TL.joinL [32, 43, 32] [nL a, nL b, nL c, nL d]) := by
    have h := join_S [32, 43, 32] [nL a, nL b, nL c, nL d]
    rw [show S [32, 43, 32] = (" + " : Str) by decide +kernel] at h
    rw [← h]
    simp only [List.map_cons, List.map_nil, S_nL]
  rw [e]
  simp only [tlK_app, t_op, t_cl, txt, txts, nm_txt, sp0, tlK_S (TL.joinL [32, 43, 32] [nL a, nL b, nL c, nL d])]
  simp)
theorem y2_eq (a b c d : Str) : y2 a b c d = S (txt (.cop false 2 (.row true [nmK a, .row false [nmK b, .cop false 3 (.row true [nmK c, nmK d])]]))) := tlK_inj (by
  rw [tlK_S (txt (.cop false 2 (.row true [nmK a, .row false [nmK b, .cop false 3 (.row true [nmK c, nmK d])]])))]
  unfold y2
  simp only [tlK_app, t_2, t_mo, t_p3, t_mu, t_e5]
  simp only [tl_nL, txt, txts, nm_txt, TL.joinL, sp0, sp1, n2, n3]
  simp [opn, cls])
theorem st_eq : (["1", "abcdefgh", "(1 + 1)", "(1 * 1)", "[2 1]", "{2 1}"] : List Str) = [S (txt .one), S (txt (nmK "abcdefgh")), S (txt (.row false [.one, .one])), S (txt (.row true [.one, .one])), S (txt (.cop false 2 .one)), S (txt (.cop true 2 .one))] := by decide +kernel
theorem x8_eq : x8 = S (txt t30) ∧ x9 = S (txt (.cop true (10 ^ 30) .one)) ∧ x12 = S (txt (.row false (List.replicate 30 .one))) := by decide +kernel
theorem fine_eq (a b c : Str) : (["1", a, "abcdefgh", "(1 + 1)", "(1 * 1)", "[2 1]", "{2 1}", x8, x9] : List Str) ++ [x10 a b c] ++ [x11 a b] ++ [x12] = (fineT a b c).map fun t => S (txt t) := by
  obtain ⟨e8, e9, e12⟩ := x8_eq
  have st := st_eq
  simp only [List.cons.injEq, and_true] at st
  obtain ⟨q1, q2, q3, q4, q5, q6⟩ := st
  rw [x10_eq, x11_eq, e8, e9, e12, q1, q2, q3, q4, q5, q6]
  unfold fineT
  simp only [List.map_cons, List.map_nil, nm_txt, S_nL]
  rfl
theorem four_eq (a b c d : Str) : [y1 a b c d] ++ [y2 a b c d] = (fourT a b c d).map fun t => S (txt t) := by
  rw [y1_eq, y2_eq]; rfl
theorem z31_eq : z31 = bigS := by decide +kernel
def badAll (a b c d : Str) : List Str := badA ++ badB ++ badC ++ [z31] ++ [y1 a b c d] ++ [y2 a b c d]
theorem pool_len : ∀ a ∈ poolK, a.length ≤ 8 ∧ 1 ≤ a.length := by decide +kernel
theorem y1_len (a b c d : Str) : (y1 a b c d).length = a.length + b.length + c.length + d.length + 11 := by
  rw [y1_eq, lenK_S]
  simp only [txt, txts, nm_txt, TL.joinL, sp0]
  simp only [List.length_cons, List.length_append, List.length_nil]
  show (nL a).length + (3 + ((nL b).length + (3 + ((nL c).length + (3 + (nL d).length))))) + 1 + 1 = _
  rw [show (nL a).length = a.length from rfl, show (nL b).length = b.length from rfl, show (nL c).length = c.length from rfl, show (nL d).length = d.length from rfl]
  omega
theorem four_cps {a b c d : Str} (ha : a ∈ poolK) (hb : b ∈ poolK) (hc : c ∈ poolK) (hd : d ∈ poolK) (nd : [a, b, c, d].Nodup) : ∀ z ∈ [y1 a b c d] ++ [y2 a b c d], z.length ≤ 600 ∧ ∀ k ∈ z.cps.toList, k < 0x110000 := by
  intro z hz
  rw [four_eq] at hz
  obtain ⟨t, ht, rfl⟩ := List.mem_map.mp hz
  obtain ⟨k1, _, _, k4, _⟩ := four_ok a ha b hb c hc d hd nd t ht
  refine ⟨?_, fun k hk => ?_⟩
  · rw [lenK_S]; exact k4
  · have hk : k ∈ TL.tl (S (txt t)) := hk
    rw [tlK_S (txt t)] at hk
    have := txt_lt (good_of t k1) k hk
    omega
end W
namespace W
open PySem PySem.Spec PyProof.Rows L2 DL SX
theorem gives_B {X : Cx} {k : Nat} {B g : Addr} {cdg : Value} (hm : X.mg "CrowdError" = some (.ref B)) : Gives X k B g "_law_caught" ["_law_look", "_law_caught_here", "error"] (defScope s__law_caught) cdg (defBody s__law_caught) := by
  intro pins σ H s f Q I hr h
  exact XL.caughtB (X := X) (Ng := ["_law_look", "_law_caught_here", "error"]) (a := "_law_look") (here := "_law_caught_here") (n := "error") (x := "CrowdError") I hr (fun E ps b sc f c' A outer s H hr => tbL_pe E ps b sc f c' A outer s H hr) (Or.inl rfl) (Or.inl rfl) (Or.inl rfl) (Or.inl rfl) (by decide) (by decide) (by decide) (by decide) (by decide) (by decide) (by decide +kernel) rfl rfl ⟨rfl, by decide, .inl hm⟩ rfl h
end W
namespace XL
open PySem PySem.W PySem.Calls PyProof.Rows PySem.HandSPX L2 LamX
section
variable {X : Cx} {pins : List (Addr × Obj)} {σ : L2.St} {H : Hp} {s : Shared} {Ng : List Str} {qg : Str} {sg : Scope} {g B : Addr} {cdg : Value} {k i j jr : Nat} {a n x rp : Str} {p1 p2 p3 pr np pos pos' : Pos} {tb : XK → Arguments → Expr → Scope → TE} {b₀ : Stmt} {suite : List Stmt} {ts : Addr → Value → Option Addr → TS}
/-- try: r = look() except X as n: suite -/
theorem try_ans (I : L2.Inv X pins σ H s) (hr : Room (k + 1) (X.A.deeper (envOfC qg sg s.heap.objs.size g cdg)))
    (hbody : ∀ (E : XK) (params : Arguments) (body : Expr) (scope : Scope) (f c' : Addr) (A : Around) (outer : List Env) (s : Shared) (H : Hp), Room k (A.deeper (lamEnv X scope s.heap.objs.size f c')) → PE (lamCx X A outer s H E scope f c') body (tb E params body scope))
    (hN : Ng[i]? = some a) (hv : Vis sg a) (hd : (a == ("__debug__" : Str)) = false) (hcd : (a == ("__classdict__" : Str)) = false) (hjr : Ng[jr]? = some rp) (hlr : L2.Loc sg rp) (hfr : sg.names.lookup rp = some .local)
    (nd : Ng.Nodup) (hj : Ng[j]? = some n) (hln : (envOfC qg sg s.heap.objs.size g cdg).kindOf n = some .local) (hc : Names (cxOf CX0 X.prog X.w X.K X.mg X.base Ng qg sg g cdg X.A X.stack s H E0).nox x (.ref B))
    (hsw : swapsWith (.Call (.Name a p1) [] [] p2) (some (.Name rp pr)) p3.line (envOfC qg sg s.heap.objs.size g cdg) = pure false)
    (hsu : ∀ (a : Addr) (oe : Obj) (cls : Value) (d : Option Addr) (pn : List (Addr × Obj)), Zc cls d oe → (∃ vs, oe.data = .fields vs) → PSs ((cxOf CX0 X.prog X.w X.K X.mg X.base Ng qg sg g cdg X.A X.stack s H E0).nox.suite a ((a, oe) :: pn)) (b₀ :: suite) (ts a cls d)) :
    PS (cxOf CX0 X.prog X.w X.K X.mg X.base Ng qg sg g cdg X.A X.stack s H E0).nox (.Try [.Assign [.Name rp pr] (.Call (.Name a p1) [] [] p2) p3] [.ExceptHandler (some (.Name x np)) (some n) (b₀ :: suite) pos'] [] [] pos)
      (fun D σZ HZ => tSeq (tAsg (tAct X σ i tb (fun σZ cls d H' => wAsV X.K (.ref B) j ts (fun _ _ _ _ => False) D cls d σZ H')) (gName jr)) tNext D σZ HZ) :=
  ps_try_asV (X := (cxOf CX0 X.prog X.w X.K X.mg X.base Ng qg sg g cdg X.A X.stack s H E0).nox) (tb := fun W => tSeq (tAsg (tAct X σ i tb (fun σZ cls d H' => W cls d σZ H')) (gName jr)) tNext) rfl rfl rfl nd hj hln hc L2.takes0
    (fun W pn xe tk _ => pss_cons (ps_set nd hjr hlr (pe_actV (CXg := CX0) (Eg := E0) (E := fun σZ cls d H' => W cls d σZ H') I tk (fun _ _ _ _ z => z) hr hbody hN hv hd hcd) hsw (.inr hfr)) pss_nil) hsu
/-- what the def makes of the lambda at f: (None, what it gives), or (the error that it raises, None) -/
def GiveR (X : Cx) (σ : L2.St) (K : Frag) (B : Addr) (tb : XK → Arguments → Expr → Scope → TE) (f : Addr) (H : Hp) (Q : VK) : Prop := ∃ (c' : Addr) (params : Arguments) (body : Expr) (scope : Scope), H f = some (LamO f (X.env.qual ++ "<lambda>") params body scope (cloFrom X.env.cells scope.names []) c') ∧ H c' = some (CodeO c' (X.env.qual ++ "<lambda>")) ∧
  LamS X.env.scope scope ∧ (∀ (pm cv ctv : Value), bindArgs (PySem.W.kla_fn "<lambda>" (X.env.qual ++ "<lambda>") params body scope (cloFrom X.env.cells scope.names []) pm cv ctv) ⟨[], []⟩ = pure []) ∧
  ∀ p0, H p0 = none → ∀ (E : XK) (R : VK), (∀ v H', (∀ p, H' p = none → Q (.ref p) (upd H' p (.tup [.non, v]))) → R v H') → (∀ cls d H', exmOne K cls (.ref B) = some true → (∀ a p, H' a = none → upd H' a (XV a cls d) p = none → Q (.ref p) (upd (upd H' a (XV a cls d)) p (.tup [.ref a, .non]))) → E cls d H') → tb E params body scope σ (upd H p0 (.tup [.non, .non])) R
/-- here, r = (None, None); try: r = look() except X as n: here = n; return (here, r) -/
theorem answered {here : Str} {q1 q2 q3 q4 q5 q6 q7 q8 q9 q10 q11 q12 q13 q14 : Pos} {k1 k2 k3 j1 j2 : Nat} (I : L2.Inv X pins σ H s) (hr : Room (k + 1) (X.A.deeper (envOfC qg sg s.heap.objs.size g cdg)))
    (hbody : ∀ (E : XK) (params : Arguments) (body : Expr) (scope : Scope) (f c' : Addr) (A : Around) (outer : List Env) (s : Shared) (H : Hp), Room k (A.deeper (lamEnv X scope s.heap.objs.size f c')) → PE (lamCx X A outer s H E scope f c') body (tb E params body scope))
    (hv : Vis sg a) (hvn : Vis sg n) (hvh : Vis sg here) (hlh : L2.Loc sg here) (hfh : sg.names.lookup here = some .local) (hvr : Vis sg rp) (hlr : L2.Loc sg rp) (hfr : sg.names.lookup rp = some .local) (hd : (a == ("__debug__" : Str)) = false) (hcd : (a == ("__classdict__" : Str)) = false) (hd2 : (n == ("__debug__" : Str)) = false) (hcd2 : (n == ("__classdict__" : Str)) = false) (hd3 : (here == ("__debug__" : Str)) = false) (hcd3 : (here == ("__classdict__" : Str)) = false) (hd4 : (rp == ("__debug__" : Str)) = false) (hcd4 : (rp == ("__classdict__" : Str)) = false)
    (nd : Ng.Nodup) (hNg : Ng = [a, here, rp, n]) (hln : (envOfC qg sg s.heap.objs.size g cdg).kindOf n = some .local) (hc : Names (cxOf CX0 X.prog X.w X.K X.mg X.base Ng qg sg g cdg X.A X.stack s H E0).nox x (.ref B))
    (hsw : swapsWith (.Call (.Name a p1) [] [] p2) (some (.Name rp pr)) p3.line (envOfC qg sg s.heap.objs.size g cdg) = pure false)
    (hst : PS (cxOf CX0 X.prog X.w X.K X.mg X.base Ng qg sg g cdg X.A X.stack s H E0).nox (.Assign [.Tuple [.Name here q1, .Name rp q2] k1 q3] (.Tuple [.Constant .none j1 q4, .Constant .none j2 q5] k2 q6) q7) (fun D σ H => ∀ p0, H p0 = none → D.nx ((σ.set 1 (some .non)).set 2 (some .non)) (upd H p0 (.tup [.non, .non]))))
    {f : Addr} {Q : VK} (h : GiveR X σ X.K B tb f H Q) :
    ∃ t, PSs (cxOf CX0 X.prog X.w X.K X.mg X.base Ng qg sg g cdg X.A X.stack s H E0).nox [.Assign [.Tuple [.Name here q1, .Name rp q2] k1 q3] (.Tuple [.Constant .none j1 q4, .Constant .none j2 q5] k2 q6) q7, .Try [.Assign [.Name rp pr] (.Call (.Name a p1) [] [] p2) p3] [.ExceptHandler (some (.Name x np)) (some n) [.Assign [.Name here q8] (.Name n q9) q10] pos'] [] [] pos, .Return (some (.Tuple [.Name here q11, .Name rp q12] k3 q13)) q14] t ∧
      t { nx := fun _ H' => Q .non H', rt := Q } (L2.start Ng [.ref f]) H := by
  subst hNg
  refine ⟨_, pss_cons hst (pss_cons (try_ans (i := 0) (j := 3) (jr := 2) I hr hbody rfl hv hd hcd rfl hlr hfr nd rfl hln hc hsw (fun a oe cls d pn hz hf => pss_cons (ps_asg (pe_var (i := 3) rfl hvn hd2 hcd2) (pg_name (i := 1) nd rfl hlh (Or.inl rfl)) rfl rfl rfl) pss_nil)) (pss_cons (ps_ret (pe_tup (pa_cons (pe_var (i := 1) rfl hvh hd3 hcd3) (pa_cons (pe_var (i := 2) rfl hvr hd4 hcd4) pa_nil)))) pss_nil)), ?_⟩
  obtain ⟨c', params, body, scope, h1, h2, h3, h4, h5⟩ := h
  intro p0 hp0
  have n1 : f ≠ p0 := fun z => by rw [z, hp0] at h1; cases h1
  have n2 : c' ≠ p0 := fun z => by rw [z, hp0] at h2; cases h2
  refine ⟨f, c', params, body, scope, rfl, by rw [upd_ne n1]; exact h1, by rw [upd_ne n2]; exact h2, h3, h4, ?_⟩
  exact h5 p0 hp0 _ _ (fun v H' z => ⟨_, rfl, _, rfl, (show 2 ≤ sizeLine by decide), z⟩) fun cls d H' he hq => ⟨true, he, fun _ a ha => ⟨_, rfl, _, rfl, _, rfl, (show 2 ≤ sizeLine by decide), fun p hp => hq a p ha hp⟩, fun z => by cases z⟩
end
end XL
namespace DL
open PySem PySem.Spec PyProof.Rows L2
/-- the def at g gives the pair of the two -/
def GivesR (X : Cx) (k : Nat) (B g : Addr) (x : Str) (Ng : List Str) (sg : Scope) (cdg : Value) (bg : List Stmt) : Prop := ∀ (pins : List (Addr × Obj)) (σ : L2.St) (H : Hp) (s : Shared) (f : Addr) (Q : VK), L2.Inv X pins σ H s → Room (k + 1) (X.A.deeper (envOfC x sg s.heap.objs.size g cdg)) → XL.GiveR X σ X.K B (tbL X k) f H Q →
  ∃ t, PSs (cxOf CX0 X.prog X.w X.K X.mg X.base Ng x sg g cdg X.A X.stack s H E0).nox bg t ∧ t { nx := fun _ H' => Q .non H', rt := Q } (L2.start Ng [.ref f]) H
section
variable {X : Cx} {ρ : Rho} {M : Mp} {Φ : D → Mp → Prop} {e : Expr} {pos p : Pos} {x a : Str} {k : Nat} {B g : Addr} {Ng : List Str} {sg : Scope} {cdg : Value} {bg : List Stmt} {pg : Arguments} {dV kV doc pm ct oc : Value} {an od : Option Addr} {osl : Array (Option Value)}
/-- what is asked of the lambda -/
def LamAns (X : Cx) (ρ : Rho) (k : Nat) (B : Addr) (Φ : D → Mp → Prop) (d : D) (M1 : Mp) : Prop := ∃ params body scope, d = .lam (X.env.qual ++ "<lambda>") params body scope (cloFrom X.env.cells scope.names []) ∧ LamX.LamS X.env.scope scope ∧
      (∀ (q : Str) (cl : List (Str × Addr)) (pm cv ctv : Value), bindArgs (PySem.W.kla_fn "<lambda>" q params body scope cl pm cv ctv) ⟨[], []⟩ = pure []) ∧
      ∀ (f c' : Addr) (A : Around) (outer : List Env) (s : Shared) (H0 : Hp) (E : XK), Room k (A.deeper (LamX.lamEnv X scope s.heap.objs.size f c')) → WEx (LamX.lamCx X A outer s H0 E scope f c') ρ M1 body (fun v M2 => Φ (.tup [.non, v]) M2) (fun C fs M2 => PySem.W.exmOne X.K (.ref C) (.ref B) = some true ∧ Φ (.tup [.exc C fs, .non]) M2)
theorem we_answer (hm : X.mg x = some (.ref g)) (hk : PySem.W.keepIn X.K (.ref g) = true) (lk : X.K.lookup g = some ⟨oc, od, .func (PySem.W.fnOf x x pg bg sg dV kV doc pm an cdg ct), osl⟩) (hcg : PySem.W.codeIn X.K cdg x = true) (hb : Binds X.K (PySem.W.fnOf x x pg bg sg dV kV doc pm an cdg ct) [a] []) (Sg : FnScope Ng [a] sg)
    (hG : GivesR X k B g x Ng sg cdg bg) (hr : Room (k + 2) X.A) (h : WE X ρ M e (LamAns X ρ k B Φ))
    (hg : Gl X x := by rfl) (hdb : (x == ("__debug__" : Str)) = false := by decide) (he : starEach [e] X.env = (false, eval e X.env) :: starEach [] X.env := by rfl) (hpl : (backTo pos (starEach [] X.env)).any (·.1) = false := by rfl) : WE X ρ M (.Call (.Name x p) [e] [] pos) Φ := .mk fun {Z} σ H Q en w kk => by
  intro pins s I
  refine wpAny_Call_Name_kw (ld_glob I hg hm ?_ hdb)
  refine PySem.W.callWith_K (h₀ := X.base) I.ok.mod.kin hk (thn ((pa_sem (es := [e])).run pos pins s σ H (fun vs H1 => ∃ f, vs = [.ref f] ∧ XL.GiveR X σ X.K B (tbL X k) f H1 Q) I ?_) fun us s1 z => ?_) he hpl
  · refine (wa_cons (es := []) (ΦA := fun ds M1 => ∃ d, ds = [d] ∧ LamAns X ρ k B Φ d M1) (h.imp fun d M1 z => wa_nil ⟨d, rfl, z⟩) he).run σ H _ en w fun vs ds H1 M1 e1 w1 r1 hz => ?_
    obtain ⟨d, rfl, params, body, scope, rfl, L, hbind, hbd⟩ := hz
    cases r1 with
    | cons r1 r2 =>
      cases r2
      cases r1 with
      | lam q1 q2 m1 m2 =>
        refine ⟨_, rfl, _, params, body, scope, q1, q2, L, fun pm cv ctv => hbind _ _ pm cv ctv, fun p0 hp0 E R hR hE f c' A outer s0 H0 hr' => ?_⟩
        have x0 : Ext M1 Z H1 M1 (upd H1 p0 (.tup [.non, .non])) := Ext.new w1 hp0
        refine (hbd f c' A outer s0 H0 E hr').run σ _ R E ((en.mono e1).mono x0) (w1.new hp0) (fun v d H2 M2 e2 w2 r2 hz => hR v H2 fun q hq => ?_) (takes_of rfl rfl rfl rfl) fun C fs vs d H2 M2 e2 w2 hd md rf hz => ?_
        · have x3 : Ext M2 Z H2 M2 (upd H2 q (.tup [.non, v])) := Ext.new w2 hq
          exact (kk.step (((e1.trans x0).trans e2).trans x3)).now (w2.new hq) (.tup (.inl upd_same) (w2.fresh hq) (.cons .non (.cons (r2.mono x3) .nil))) hz
        · refine hE _ _ _ hz.1 fun q t hq ht => ?_
          have nq : d ≠ q := fun z => by rw [z, hq] at hd; cases hd
          have x3 : Ext M2 Z H2 M2 (upd H2 q (XL.XV q (.ref C) (some d))) := Ext.new w2 hq
          have w3 := w2.new (o := XL.XV q (.ref C) (some d)) hq
          have r3 : Rep X.K M2 Z (upd H2 q (XL.XV q (.ref C) (some d))) (.ref q) (.exc C fs) := .exc upd_same (by rw [upd_ne nq]; exact hd) (w2.fresh hq) md (rf.mono x3)
          have x4 : Ext M2 Z (upd H2 q (XL.XV q (.ref C) (some d))) M2 (upd (upd H2 q (XL.XV q (.ref C) (some d))) t (.tup [.ref q, .non])) := Ext.new w3 ht
          exact (kk.step ((((e1.trans x0).trans e2).trans x3).trans x4)).now (w3.new ht) (.tup (.inl upd_same) (w3.fresh ht) (.cons (r3.mono x4) (.cons .non .nil))) hz.2
  · obtain ⟨vs, H1, I1, r, f, rfl, hgv⟩ := z
    refine ⟨I1.kIn, ?_⟩
    cases r with
    | cons r1 r2 =>
      cases r2
      rename_i u
      obtain rfl : u = Value.ref f := r1
      have rc := LamX.run_ofS (CX := CX0) (P := X.prog) (w := X.w) (mg := X.mg) (base := X.base) (Q := Q) (E := E0) lk hcg Sg hr I1.env0 (hb s1 [Value.ref f] I1.kIn rfl) (Paired.cons (a := V.ref f) rfl Paired.nil) rfl fun hr' => by
        obtain ⟨t', ht, hq⟩ := hG pins σ H1 s1 f Q I1 hr' hgv
        exact ⟨t', PSs.nox ht, hq⟩
      refine wpAny_call (codeAny_mono rc fun r s' hq => ?_)
      cases r with
      | error er => exact hq.elim
      | ok fl =>
        cases fl with
        | ret u => exact I1.after hq
        | next => exact hq.elim
        | brk => exact hq.elim
        | cont => exact hq.elim
end
section
variable {X : Cx} {ρ : Rho} {M : Mp} {Φ : D → Mp → Prop} {e : Expr} {pos p : Pos} {x a : Str} {k : Nat} {B : Addr} {Ng : List Str} {st : Stmt}
/-- `_law_answer(e)`, e a lambda -/
theorem we_ans (T : Ct X.K X.mg x st a) (Sg : FnScope Ng [a] (defScope st)) (hG : ∀ (g : Addr) (cdg : Value), GivesR X k B g x Ng (defScope st) cdg (defBody st)) (hr : Room (k + 2) X.A) (h : WE X ρ M e (LamAns X ρ k B Φ))
    (hg : Gl X x := by rfl) (hdb : (x == ("__debug__" : Str)) = false := by decide) (he : starEach [e] X.env = (false, eval e X.env) :: starEach [] X.env := by rfl) (hpl : (backTo pos (starEach [] X.env)).any (·.1) = false := by rfl) : WE X ρ M (.Call (.Name x p) [e] [] pos) Φ := by
  obtain ⟨g, fd, F, hm⟩ := T.df.ex
  obtain ⟨oc, od, dV, kV, doc, pm, an, cdg, ct, osl, rfl, lk, hcg, hdv, _⟩ := F.ex
  have hb := F.bindsN (ps := [a]) T.bind
  exact we_answer hm F.kp lk hcg hb Sg (hG g cdg) hr h hg hdb he hpl
end
end DL
namespace W
open PySem PySem.Spec PyProof.Rows L2 DL SX
theorem gives_R {X : Cx} {k : Nat} {B g : Addr} {cdg : Value} (hm : X.mg "CrowdError" = some (.ref B)) : GivesR X k B g "_law_answer" ["_law_look", "_law_caught_here", "_law_reply", "error"] (defScope s__law_answer) cdg (defBody s__law_answer) := by
  intro pins σ H s f Q I hr h
  refine XL.answered (X := X) (Ng := ["_law_look", "_law_caught_here", "_law_reply", "error"]) (a := "_law_look") (here := "_law_caught_here") (rp := "_law_reply") (n := "error") (x := "CrowdError") I hr (fun E ps b sc f c' A outer s H hr => tbL_pe E ps b sc f c' A outer s H hr) (Or.inl rfl) (Or.inl rfl) (Or.inl rfl) (Or.inl rfl) rfl (Or.inl rfl) (Or.inl rfl) rfl (by decide) (by decide) (by decide) (by decide) (by decide) (by decide) (by decide) (by decide) (by decide +kernel) rfl rfl ⟨rfl, by decide, .inl hm⟩ rfl ?_ h
  refine ⟨fun pins s σ H D I h => ?_⟩
  have nd : (["_law_look", "_law_caught_here", "_law_reply", "error"] : List Str).Nodup := by decide +kernel
  exact (ps_asg (pe_tup (pa_cons pe_non (pa_cons pe_non pa_nil))) (pg_tup rfl (pgs_cons (pg_name (i := 1) nd rfl (Or.inl rfl) (Or.inl rfl)) (pgs_cons (pg_name (i := 2) nd rfl (Or.inl rfl) (Or.inl rfl)) pgs_nil)) rfl rfl) rfl rfl rfl).run pins s σ H D I ⟨show 2 ≤ sizeLine by decide, fun p hp => ⟨p, _, rfl, .inl (.inl upd_same), rfl, _, _, rfl, _, _, rfl, rfl, h p hp⟩⟩
end W
namespace DL
open PySem PySem.Spec PyProof.Rows L2
section
variable {X : Cx} {ρ : Rho} {M : Mp} {Φ : D → Mp → Prop} {a b : Expr} {pos : Pos}
theorem we_addOM (h : WE X ρ M a fun x M1 => WE X ρ M1 b fun y M2 => ∃ p xs ys, x = .ob p ∧ M2 p = some (.lst xs) ∧ y = .lst ys ∧ xs.length + ys.length ≤ sizeLine ∧ ∀ q, M2 q = none → Φ (.ob q) (mset M2 q (.lst (xs ++ ys)))) : WE X ρ M (.BinOp a .Add b pos) Φ :=
  we_op op_cat (h.imp fun _ _ h => h.imp fun _ M2 h Z v u H Q w r1 r2 k => by
    obtain ⟨p, xs, ys, rfl, hM, rfl, hz, h⟩ := h
    cases r1
    obtain ⟨vs, hv, rs⟩ := w.1 p _ hM
    cases r2 with
    | lst h2 m2 r2 =>
      exact ⟨_, _, _, _, rfl, rfl, hv, h2, by rw [rs.length, r2.length]; exact hz, fun q hq =>
        k _ (.ob q) _ (mset M2 q (.lst (xs ++ ys))) (Ext.newM w hq) (w.newM hq ⟨_, upd_same, (rs.append r2).mono (Ext.newM w hq)⟩) (.ob q) (h q (w.fresh hq).1)⟩)
end
end DL
namespace W
open PySem PySem.Spec PyProof.Rows L2 DL SX PL SlX
/-- each of the texts that are none -/
theorem bad_all {a b c d : Str} (ha : a ∈ poolK) (hb : b ∈ poolK) (hc : c ∈ poolK) (hd : d ∈ poolK) (nd : [a, b, c, d].Nodup) : ∀ z ∈ badAll a b c d, Bad 36 (.str z) ∧ z.length ≤ 600 ∧ ∀ k ∈ z.cps.toList, k < 0x110000 := by
  have st : ∀ z : Str, LEc (opns (nL z) + 1) (nL z) ≠ some [] → z.length ≤ 600 → (∀ k ∈ nL z, k < 0x110000) → Bad 36 (.str z) ∧ z.length ≤ 600 ∧ ∀ k ∈ z.cps.toList, k < 0x110000 := fun z h1 h2 h3 => by
    refine ⟨?_, h2, h3⟩
    have := Bad.text (h := 36) (nL z) (by show z.length ≤ 600; omega) (no_tx h1)
    have e : tS (nL z) = .str z := by show D.str (S (nL z)) = _; rw [S_nL]
    rw [e] at this; exact this
  intro z hz
  unfold badAll at hz
  rw [List.append_assoc _ [y1 a b c d] [y2 a b c d]] at hz
  rcases List.mem_append.mp hz with hz | hz
  · rcases List.mem_append.mp hz with hz | hz
    · have hz : z ∈ badS := by unfold badS; rw [← List.append_assoc]; exact hz
      obtain ⟨h1, h2, h3⟩ := badS_no z hz
      exact st z h1 (by omega) h3
    · rw [List.mem_singleton.mp hz, z31_eq]
      obtain ⟨h1, h2, h3⟩ := bigS_no
      exact st _ h1 (by omega) h3
  · obtain ⟨c1, c2⟩ := four_cps ha hb hc hd nd z hz
    refine ⟨?_, c1, c2⟩
    rw [four_eq] at hz
    obtain ⟨t, ht, rfl⟩ := List.mem_map.mp hz
    obtain ⟨k1, k2, k3, k4, k5⟩ := four_ok a ha b hb c hc d hd nd t ht
    exact Bad.names t (good_of t k1) k4 (by omega) (by omega) k2 k3
theorem rpK {z : Str} (hl : z.length ≤ 600) (hc : ∀ c ∈ z.cps.toList, c < 0x110000) : RpD (.str z) := by
  have s := sh_str hc hl
  refine .inl ⟨0, ?_, by decide, ?_, ?_⟩
  · rw [avD, avP]; exact cmp_str hc
  · rw [avP]; exact s.ok
  · rw [avP]; exact Nat.le_trans s.le (by rw [sizeLine_eq]; decide)
theorem t30_facts : goodB t30 = true ∧ lv t30 = [] ∧ nmT t30 = [] ∧ (txt t30).length ≤ 100 ∧ ht t30 ≤ 2 ∧ ppl t30 = 10 ^ 30 ∧ cnt t30 = 10 ^ 30 := by decide +kernel
theorem t30_piece (n : Nat) : piece t30 n = some .one := rfl
section
variable {P : Program} {w : World} {K : PySem.W.Frag} {mg : Str → Option Value} {base : Heap} {B C U V G : Addr}
theorem ans_sgK : FnScope ["_law_look", "_law_caught_here", "_law_reply", "error"] ["_law_look"] (defScope s__law_answer) := ⟨rfl, rfl, rfl, by decide +kernel, rfl, by decide +kernel, by decide +kernel⟩
theorem ct_sgK : FnScope ["_law_look", "_law_caught_here", "error"] ["_law_look"] (defScope s__law_caught) := ⟨rfl, rfl, rfl, by decide +kernel, rfl, by decide +kernel, by decide +kernel⟩
def qRgt3 : Str := "_law_right.<locals>.<lambda>"
abbrev nRgt3 : List Str := ["_law_pot_here", "_law_one", "_law_two", "_law_three", "_law_four", "_law_great", "_law_fine", "_law_bad", "_law_text", "_law_caught_here", "_law_plan"]
theorem right_tail {T1 cd p f : Addr} {A : Around} {outer : List Env} {s : Shared} {H : Hp} {EX : XK} {M : Mp} {Φ : D → Mp → Prop} {a b c d : Str} {a1 c0 d1 : Int} (F : Fx w K mg) (gR : mg "repr" = none) (TB : LamX.TabB base mg cd T1) (gB : mg "CrowdError" = some (.ref B)) (E : Ek P K mg B "BadPlan" U) (Ta : Ct K mg "_law_answer" s__law_answer "_law_look") (Tc : Ct K mg "_law_caught" s__law_caught "_law_look")
    (F0 : Fc P w K mg base "_law_take" [] 1 2 cTake) (K1 : Kc P w K mg base "Plan" C [] 78 2 (cInitN C 36)) (KX : Kcx P w K mg base "Plan" C [] 102 2 (cInitB C U 36)) (F1 : Pc P w K mg base C "text" 1 (cGetN C fun t => tS (txt t))) (F2 : Pc P w K mg base C "people" 1 (cPeoN C)) (F3 : Pc P w K mg base C "many" 1 (cManyN C)) (F5 : Mcx P w K mg base C "part" [] 3 2 (cPartX C V))
    (FD : Fc P w K mg base "_law_is_deep_right" [] 81 0 (fun ds M Φ => ds = [] ∧ Φ (.bl true) M)) (FL : Fc P w K mg base "_law_is_long_right" [] 81 1 cLong)
    (hgd : (A.deeper (envOfC "_law_right" (defScope s__law_right) s.heap.objs.size f (.ref cd))).guards = some []) (hr : Room 106 (A.deeper (envOfC "_law_right" (defScope s__law_right) s.heap.objs.size f (.ref cd))))
    (ha : a ∈ poolK) (hb : b ∈ poolK) (hcc : c ∈ poolK) (hd : d ∈ poolK) (hnd : [a, b, c, d].Nodup) (hM : M p = some (potL a1 c0 d1)) (hT : M T1 = some (.tbl qRgt3)) (co : cOk c0) (k0 : 0 ≤ d1) (k1 : d1 < 90000) (hc : ∀ M', M' T1 = some (.tbl qRgt3) → Φ (.bl true) M') :
    WSs (bx P w K mg base nRgt3 "_law_right" (defScope s__law_right) f (.ref cd) A outer s H EX) [some (.ob p), some (.str a), some (.str b), some (.str c), some (.str d), some (.str G30), some (.lst ((fineT a b c).map fun t => tS (txt t))), some (.lst ((badAll a b c d).map D.str)), none, none, none] M ((defBody s__law_right).drop 12) { nx := fun _ M' => Φ .non M', rt := Lets Φ } := by
  have nd : nRgt3.Nodup := by decide +kernel
  refine wss_cons (ws_for PassesOwn.never (wi_list (we_var 6 rfl ⟨_, .inl rfl, ?_⟩)))
  refine ⟨fun i ρ' M' => ∃ x y z, ρ' = [some (.ob p), some (.str a), some (.str b), some (.str c), some (.str d), some (.str G30), some (.lst ((fineT a b c).map fun t => tS (txt t))), some (.lst ((badAll a b c d).map D.str)), x, y, z] ∧ M' = M, ⟨_, _, _, rfl, rfl⟩, ?_, ?_⟩
  · rintro i x ρ' M' hx ⟨o8, o9, o10, rfl, rfl⟩
    rw [List.getElem?_map] at hx
    obtain ⟨t, ht, rfl⟩ := Option.map_eq_some_iff.mp hx
    obtain ⟨g, h1, h2, h3, h4⟩ := fine_ok a ha b hb c hcc t (List.mem_of_getElem? ht)
    have g := good_of t g
    refine wg_name 8 ?_ nd
    refine wss_cons (ws_asg (we_ans (k := 104) Ta ans_sgK (fun g cdg => gives_R gB) (hr.mono (by decide)) (we_lam TB rfl rfl hT rfl (hfree_of (by rfl)) ⟨_, _, _, rfl, LamX.lamS_by (by rfl), (by intros; rfl), fun f' c' A' outer' s' H0 E' hr2 => ?_⟩)))
    refine (we_plan_n K1 (hr2.mono (by decide)) (we_var 8 rfl ⟨t, rfl, g, h1, h2, by omega, by omega, by omega, ?_⟩)).up
    refine wg_tup ⟨rfl, rfl, wgs_cons (wg_name 9 (wgs_cons (wg_name 10 (wgs_nil ⟨rfl, ?_⟩) nd)) nd)⟩
    refine wss_cons (ws_if (wt_ww (ww_or (wt_notN (we_var 9 rfl ?_)))))
    refine ww_or1 (wt_neS (we_prop F1 (hr.mono (by decide)) (we_var 10 rfl ⟨_, insM, t, rfl, we_var 8 rfl ⟨true, (decide_eq_true rfl).symm, ?_⟩⟩)))
    exact wss_nil (wss_nil ⟨_, _, _, rfl, rfl⟩)
  rintro ρ' M' ⟨o8, o9, o10, rfl, rfl⟩
  refine wss_cons (ws_for PassesOwn.never (wi_list (we_var 7 rfl ⟨_, .inl rfl, ?_⟩)))
  refine ⟨fun i ρ' M'' => ∃ x y z, ρ' = [some (.ob p), some (.str a), some (.str b), some (.str c), some (.str d), some (.str G30), some (.lst ((fineT a b c).map fun t => tS (txt t))), some (.lst ((badAll a b c d).map D.str)), x, y, z] ∧ M'' = M', ⟨_, _, _, rfl, rfl⟩, ?_, ?_⟩
  · rintro i x ρ' M'' hx ⟨q8, q9, q10, rfl, rfl⟩
    rw [List.getElem?_map] at hx
    obtain ⟨z, hz, rfl⟩ := Option.map_eq_some_iff.mp hx
    obtain ⟨zb, zl, zc⟩ := bad_all ha hb hcc hd hnd z (List.mem_of_getElem? hz)
    have hrp := rpK zl zc
    refine wg_name 8 ?_ nd
    refine wss_cons (ws_asg (we_ct (k := 104) Tc ct_sgK (fun g cdg => gives_B gB) (hr.mono (by decide)) (we_lam TB rfl rfl hT rfl (hfree_of (by rfl)) ⟨_, _, _, rfl, LamX.lamS_by (by rfl), (by intros; rfl), fun f' c' A' outer' s' H0 E' hr2 => ?_⟩)))
    refine wex_make KX (hr2.mono (by decide)) (wa_cons (we_var 8 rfl (wa_nil fun b hb0 => ⟨rfl, b, .str z, rfl, zb, _, les_new hb0, E.ex, ?_⟩)))
    refine wg_name 9 ?_ nd
    refine wss_cons (ws_if (wt_ww (ww_or (wt_not (wt_val (we_isX (F.bn _ (by decide +kernel)) (we_var 9 rfl (we_gref E.at_ (fun _ _ _ => .fn _) ⟨U, _, .ref U, true, rfl, rfl, E.ev, kit_self, true, rfl, ?_⟩))))))))
    refine ww_or1 (wt_neS (we_reprV gR hgd hr.units (we_valX (we_var 9 rfl ⟨U, _, .str z, rfl, E.ev, E.ev.noV, by simp [List.lookup], .str z, by rw [avD], hrp, we_reprV gR hgd hr.units (we_var 8 rfl ⟨.str z, by rw [avD], hrp, true, (decide_eq_true rfl).symm, ?_⟩)⟩))))
    exact wss_nil (wss_nil ⟨_, _, _, rfl, rfl⟩)
  rintro ρ' M'' ⟨q8, q9, q10, rfl, rfl⟩
  refine wss_cons (ws_if (wt_ww (ww_or (wt_not (wt_val (we_call0 FD (hr.mono (by decide)) ⟨rfl, rfl, true, rfl, ?_⟩))))))
  refine ww_or1 (wt_not (wt_val (we_call FL (hr.mono (by decide)) (wa_cons (we_call F0 (hr.mono (by decide)) (wa_cons (we_var 0 rfl (wa_cons (we_int (wa_nil ⟨rfl, p, _, a1, c0, d1, rfl, by decide, by decide, hM, co, k0, by omega, fun r a' d' r0 r1 r2 r3 => ?_⟩))))))))))
  obtain ⟨k, rfl⟩ : ∃ k : Nat, r = (k : Int) := ⟨r.toNat, by omega⟩
  refine wa_nil ⟨rfl, k, rfl, by omega, true, rfl, ?_⟩
  obtain ⟨g, l1, l2, l3, l4, l5, l6⟩ := t30_facts
  have g := good_of _ g
  have sG : G30.length = 31 := by decide +kernel
  have s1 : ("[" : Str).length = 1 := by decide +kernel
  have s2 : (" 1]" : Str).length = 3 := by decide +kernel
  have sz : ∀ n : Nat, n ≤ 10000 → n ≤ sizeLine := fun n h => by rw [sizeLine_eq]; omega
  refine wss_nil (wss_cons (ws_set 10 nd (we_plan_n K1 (hr.mono (by decide)) (we_addS (we_addS (we_str (we_var 5 rfl ⟨_, _, rfl, rfl, by rw [s1, sG]; exact sz _ (by decide), we_str ⟨_, _, rfl, rfl, by rw [lenK_app, s1, sG, s2]; exact sz _ (by decide), t30, ?_, g, by rw [l1]; decide, by rw [l2]; decide, by omega, by omega, by omega, ?_⟩⟩)))))))
  · have := x8_eq.1
    unfold x8 at this
    rw [this]
  have ep : pplD t30 = .int ((10 ^ 30 : Nat) : Int) := by unfold pplD; rw [l2, l5]; rfl
  refine wss_cons (ws_ret (we_and (we_eqS (we_prop F2 (hr.mono (by decide)) (we_var 10 rfl ⟨_, insM, t30, rfl, g, we_powI (we_int (we_int ⟨_, _, rfl, rfl, ⟨by decide, by decide, by decide⟩, true, ?_, true, rfl, ?_⟩))⟩)))))
  · rw [ep]; exact (decide_eq_true (by decide +kernel : (((10 ^ 30 : Nat) : Int)) = 10 ^ (30 : Int).toNat)).symm
  refine we_and (we_eqS (we_prop F3 (hr.mono (by decide)) (we_var 10 rfl ⟨_, insM, t30, rfl, g, by omega, we_powI (we_int (we_int ⟨_, _, rfl, rfl, ⟨by decide, by decide, by decide⟩, true, ?_, true, rfl, ?_⟩))⟩)))
  · rw [l6]; exact (decide_eq_true (by decide +kernel : (((10 ^ 30 : Nat) : Int)) = 10 ^ (30 : Int).toNat)).symm
  refine we_one (we_eqS (we_prop F1 (hr.mono (by decide)) (we_methN (C := C) F5 (hr.mono (by decide)) (we_var 10 rfl ⟨_, insM, rfl, wa_cons (we_subI (we_powI (we_int (we_int ⟨_, _, rfl, rfl, ⟨by decide, by decide, by decide⟩, we_int ⟨_, _, rfl, rfl, ?_⟩⟩))))⟩))))
  refine wa_nil ⟨rfl, t30, natV (10 ^ 30 - 1), ?_, g, by omega, fun i u' hi h1 h2 => ?_, fun hw => ?_⟩
  · rw [natV_D]; rfl
  · have hik : i = 10 ^ 30 - 1 := by
      unfold natV at hi
      injection hi with hi
      omega
    rw [hik, t30_piece] at h2
    obtain rfl := Option.some.inj h2
    exact ⟨_, insM, _, rfl, we_str ⟨true, (decide_eq_true (by decide +kernel : S (txt .one) = ("1" : Str))).symm, Lets.of (hc _ (by rw [mset_ne (fun e => by rw [e, hM] at hT; cases hT)]; exact hT))⟩⟩
  · exfalso
    revert hw
    rw [l6]
    decide +kernel
end
end W
namespace W
open PySem PySem.Spec PyProof.Rows L2 DL SX PL SlX
section
variable {P : Program} {w : World} {K : PySem.W.Frag} {mg : Str → Option Value} {base : Heap} {B C U V G : Addr}
theorem right_mid {T1 cd p f : Addr} {A : Around} {outer : List Env} {s : Shared} {H : Hp} {EX : XK} {M : Mp} {Φ : D → Mp → Prop} {a b c d : Str} {a1 c0 d1 : Int} (F : Fx w K mg) (gR : mg "repr" = none) (TB : LamX.TabB base mg cd T1) (gB : mg "CrowdError" = some (.ref B)) (E : Ek P K mg B "BadPlan" U) (Ta : Ct K mg "_law_answer" s__law_answer "_law_look") (Tc : Ct K mg "_law_caught" s__law_caught "_law_look")
    (F0 : Fc P w K mg base "_law_take" [] 1 2 cTake) (K1 : Kc P w K mg base "Plan" C [] 78 2 (cInitN C 36)) (KX : Kcx P w K mg base "Plan" C [] 102 2 (cInitB C U 36)) (F1 : Pc P w K mg base C "text" 1 (cGetN C fun t => tS (txt t))) (F2 : Pc P w K mg base C "people" 1 (cPeoN C)) (F3 : Pc P w K mg base C "many" 1 (cManyN C)) (F5 : Mcx P w K mg base C "part" [] 3 2 (cPartX C V))
    (FD : Fc P w K mg base "_law_is_deep_right" [] 81 0 (fun ds M Φ => ds = [] ∧ Φ (.bl true) M)) (FL : Fc P w K mg base "_law_is_long_right" [] 81 1 cLong)
    (hgd : (A.deeper (envOfC "_law_right" (defScope s__law_right) s.heap.objs.size f (.ref cd))).guards = some []) (hr : Room 106 (A.deeper (envOfC "_law_right" (defScope s__law_right) s.heap.objs.size f (.ref cd))))
    (ha : a ∈ poolK) (hb : b ∈ poolK) (hcc : c ∈ poolK) (hd : d ∈ poolK) (hnd : [a, b, c, d].Nodup) (m2p : M p = some (potL a1 c0 d1)) (m2T : M T1 = some (.tbl qRgt3)) (co : cOk c0) (k0 : 0 ≤ d1) (k1 : d1 < 90000) (hc : ∀ M', M' T1 = some (.tbl qRgt3) → Φ (.bl true) M') :
    WSs (bx P w K mg base nRgt3 "_law_right" (defScope s__law_right) f (.ref cd) A outer s H EX) [some (.ob p), some (.str a), some (.str b), some (.str c), some (.str d), some (.str G30), some (.lst ((fineT a b c).map fun t => tS (txt t))), none, none, none, none] M ((defBody s__law_right).drop 6) { nx := fun _ M' => Φ .non M', rt := Lets Φ } := by
  have nd : nRgt3.Nodup := by decide +kernel
  have sz : ∀ n : Nat, n ≤ 10000 → n ≤ sizeLine := fun n h => by rw [sizeLine_eq]; omega
  obtain ⟨la, la1⟩ := pool_len a ha
  obtain ⟨lb, lb1⟩ := pool_len b hb
  obtain ⟨lc, lc1⟩ := pool_len c hcc
  obtain ⟨ld, ld1⟩ := pool_len d hd
  have s1 : ("[" : Str).length = 1 := by decide +kernel
  have s2 : (" 1]" : Str).length = 3 := by decide +kernel
  have s3 : ("{" : Str).length = 1 := by decide +kernel
  have s4 : (" 1}" : Str).length = 3 := by decide +kernel
  have s5 : ("(" : Str).length = 1 := by decide +kernel
  have s6 : (" + " : Str).length = 3 := by decide +kernel
  have s7 : (")" : Str).length = 1 := by decide +kernel
  have s8 : ("[3 (" : Str).length = 4 := by decide +kernel
  have s9 : (" * {2 " : Str).length = 6 := by decide +kernel
  have s10 : ("})]" : Str).length = 3 := by decide +kernel
  have s11 : ("[2 (" : Str).length = 4 := by decide +kernel
  have s12 : (" * (" : Str).length = 4 := by decide +kernel
  have s13 : (" + [3 (" : Str).length = 7 := by decide +kernel
  have s14 : (" * " : Str).length = 3 := by decide +kernel
  have s15 : (")]))]" : Str).length = 5 := by decide +kernel
  have s16 : ("1000000000000000000000000000001" : Str).length = 31 := by decide +kernel
  have s17 : (Txt.join " + " (List.replicate 30 ("1" : Str))).length = 117 := by decide +kernel
  have s18 : ("1" : Str).length = 1 := by decide +kernel
  have y1l := y1_len a b c d
  refine wss_cons (ws_set 7 nd (we_lstM (wa_cons (we_str (wa_cons (we_str (wa_cons (we_str (wa_cons (we_str (wa_cons (we_str (wa_cons (we_str (wa_cons (we_str (wa_cons (we_str (wa_cons (we_str (wa_cons (we_str (wa_cons (we_str (wa_cons (we_str (wa_cons (we_str (wa_cons (we_str (wa_nil ⟨by show 14 ≤ sizeLine; decide, fun q1 hq1 => ?_⟩)))))))))))))))))))))))))))))))
  have n1p : p ≠ q1 := fun e => by rw [← e, m2p] at hq1; cases hq1
  have n1T : T1 ≠ q1 := fun e => by rw [← e, m2T] at hq1; cases hq1
  refine wss_cons (ws_set 7 nd (we_addOM (we_var 7 rfl (we_lst (wa_cons (we_str (wa_cons (we_str (wa_cons (we_str (wa_cons (we_str (wa_cons (we_str (wa_cons (we_str (wa_cons (we_str (wa_cons (we_str (wa_cons (we_str (wa_nil ⟨by show 9 ≤ sizeLine; decide, q1, _, _, rfl, mset_same, rfl, by show 14 + 9 ≤ sizeLine; decide, fun q2 hq2 => ?_⟩)))))))))))))))))))))))
  have n2p : p ≠ q2 := fun e => by rw [← e, mset_ne n1p, m2p] at hq2; cases hq2
  have n2T : T1 ≠ q2 := fun e => by rw [← e, mset_ne n1T, m2T] at hq2; cases hq2
  refine wss_cons (ws_set 7 nd (we_addOM (we_var 7 rfl (we_lst (wa_cons (we_str (wa_cons (we_str (wa_cons (we_str (wa_cons (we_str (wa_cons (we_str (wa_cons (we_str (wa_cons (we_str (wa_cons (we_str (wa_cons (we_str (wa_cons (we_str (wa_cons (we_str (wa_nil ⟨by show 11 ≤ sizeLine; decide, q2, _, _, rfl, mset_same, rfl, by show 23 + 11 ≤ sizeLine; decide, fun q3 hq3 => ?_⟩)))))))))))))))))))))))))))
  have n3p : p ≠ q3 := fun e => by rw [← e, mset_ne n2p, mset_ne n1p, m2p] at hq3; cases hq3
  have n3T : T1 ≠ q3 := fun e => by rw [← e, mset_ne n2T, mset_ne n1T, m2T] at hq3; cases hq3
  refine wss_cons (ws_set 7 nd (we_addOM (we_var 7 rfl (we_lst (wa_cons (we_addS (we_addS (we_str (we_strI (F.bn _ (by decide +kernel)) (we_addI (we_powI (we_int (we_int ⟨_, _, rfl, rfl, ⟨by decide, by decide, by decide⟩, we_int ⟨_, _, rfl, rfl, _, rfl, by decide +kernel, ?_⟩⟩)))))))))))))
  rw [g31_eq]
  refine ⟨_, _, rfl, rfl, by rw [s1, s16]; exact sz _ (by decide), we_str ⟨_, _, rfl, rfl, by rw [lenK_app, s1, s16, s2]; exact sz _ (by decide), wa_nil ⟨by show 1 ≤ sizeLine; decide, q3, _, _, rfl, mset_same, rfl, by show 34 + 1 ≤ sizeLine; decide, fun q hq => ?_⟩⟩⟩
  have npq : p ≠ q := fun e => by rw [← e, mset_ne n3p, mset_ne n2p, mset_ne n1p, m2p] at hq; cases hq
  have nTq : T1 ≠ q := fun e => by rw [← e, mset_ne n3T, mset_ne n2T, mset_ne n1T, m2T] at hq; cases hq
  have jl : (Txt.join (" + " : Str) [a, b, c, d]).length = a.length + b.length + c.length + d.length + 9 := by
    unfold y1 at y1l
    rw [lenK_app, lenK_app, s5, s7] at y1l
    omega
  refine wss_cons (ws_expr (we_append (we_var 7 rfl ⟨q, _, rfl, mset_same, we_addS (we_addS (we_str (we_join (we_str ⟨_, rfl, we_lst (wa_cons (we_var 1 rfl (wa_cons (we_var 2 rfl (wa_cons (we_var 3 rfl (wa_cons (we_var 4 rfl (wa_nil ⟨by show 4 ≤ sizeLine; decide, [a, b, c, d], .inl rfl, ?_, _, _, rfl, rfl, by rw [s5, jl]; exact sz _ (by omega), we_str ⟨_, _, rfl, rfl, by rw [lenK_app, s5, s7, jl]; exact sz _ (by omega), _, mset_same, by rw [sizeLine_eq]; show 35 < _; decide, ?_⟩⟩)))))))))⟩))))⟩)))
  · show a.length + (b.length + (c.length + (d.length + 0))) + _ ≤ _
    exact sz _ (by rw [s6]; show _ + 4 * 3 ≤ _; omega)
  rw [mset_mset]
  refine wss_cons (ws_expr (we_append (we_var 7 rfl ⟨q, _, rfl, mset_same, we_addS (we_addS (we_addS (we_addS (we_addS (we_addS (we_addS (we_addS (we_str (we_var 1 rfl ⟨_, _, rfl, rfl, by rw [s11]; exact sz _ (by omega), we_str ⟨_, _, rfl, rfl, by simp only [lenK_app, s11, s12]; exact sz _ (by omega), we_var 2 rfl ⟨_, _, rfl, rfl, by simp only [lenK_app, s11, s12]; exact sz _ (by omega), we_str ⟨_, _, rfl, rfl, by simp only [lenK_app, s11, s12, s13]; exact sz _ (by omega), we_var 3 rfl ⟨_, _, rfl, rfl, by simp only [lenK_app, s11, s12, s13]; exact sz _ (by omega), we_str ⟨_, _, rfl, rfl, by simp only [lenK_app, s11, s12, s13, s14]; exact sz _ (by omega), we_var 4 rfl ⟨_, _, rfl, rfl, by simp only [lenK_app, s11, s12, s13, s14]; exact sz _ (by omega), we_str ⟨_, _, rfl, rfl, by simp only [lenK_app, s11, s12, s13, s14, s15]; exact sz _ (by omega), _, mset_same, by rw [sizeLine_eq]; show 36 < _; decide, ?_⟩⟩⟩⟩⟩⟩⟩⟩)))))))))⟩)))
  rw [mset_mset]
  refine wss_fz (i := 7) (ds := (badAll a b c d).map D.str) rfl mset_same ?_
  exact right_tail F gR TB gB E Ta Tc F0 K1 KX F1 F2 F3 F5 FD FL hgd hr ha hb hcc hd hnd (by rw [mdel_ne npq, mset_ne npq, mset_ne n3p, mset_ne n2p, mset_ne n1p]; exact m2p) (by rw [mdel_ne nTq, mset_ne nTq, mset_ne n3T, mset_ne n2T, mset_ne n1T]; exact m2T) co k0 k1 hc
end
end W
namespace W
open PySem PySem.Spec PyProof.Rows L2 DL SX PL SlX
section
variable {P : Program} {w : World} {K : PySem.W.Frag} {mg : Str → Option Value} {base : Heap} {B C U V G : Addr}
def cRgt3 (T1 : Addr) : Con := fun ds M Φ => ∃ p a c d, ds = [.ob p] ∧ M p = some (potL a c d) ∧ cOk c ∧ 0 ≤ d ∧ d < 60000 ∧ M T1 = some (.tbl qRgt3) ∧ ∀ M', M' T1 = some (.tbl qRgt3) → Φ (.bl true) M'
theorem ok_right3 {T1 cd : Addr} (F : Fx w K mg) (gR : mg "repr" = none) (TB : LamX.TabB base mg cd T1) (gB : mg "CrowdError" = some (.ref B)) (E : Ek P K mg B "BadPlan" U) (Ta : Ct K mg "_law_answer" s__law_answer "_law_look") (Tc : Ct K mg "_law_caught" s__law_caught "_law_look")
    (F0 : Fc P w K mg base "_law_take" [] 1 2 cTake) (FS : Fc P w K mg base "_law_some" [] 2 3 cSome) (K1 : Kc P w K mg base "Plan" C [] 78 2 (cInitN C 36)) (KX : Kcx P w K mg base "Plan" C [] 102 2 (cInitB C U 36)) (F1 : Pc P w K mg base C "text" 1 (cGetN C fun t => tS (txt t))) (F2 : Pc P w K mg base C "people" 1 (cPeoN C)) (F3 : Pc P w K mg base C "many" 1 (cManyN C)) (F5 : Mcx P w K mg base C "part" [] 3 2 (cPartX C V))
    (FD : Fc P w K mg base "_law_is_deep_right" [] 81 0 (fun ds M Φ => ds = [] ∧ Φ (.bl true) M)) (FL : Fc P w K mg base "_law_is_long_right" [] 81 1 cLong) : BodyC P w K mg base "_law_right" s__law_right nRgt3 1 106 cd (cRgt3 T1) := by
  intro f A outer s H EX hgd hr ds M Φ hl hc
  obtain ⟨p, a0, c0, d0, rfl, hM, co, k0, k1, hT, hc⟩ := hc
  have nd : nRgt3.Nodup := by decide +kernel
  have e40 : (1000000 : Int) ≤ 10 ^ 40 := by decide +kernel
  have sz : ∀ n : Nat, n ≤ 10000 → n ≤ sizeLine := fun n h => by rw [sizeLine_eq]; omega
  refine wss_cons (ws_asg (we_call FS (hr.mono (by decide)) (wa_cons (we_var 0 rfl (wa_cons (we_lst (wa_cons (we_str (wa_cons (we_str (wa_cons (we_str (wa_cons (we_str (wa_cons (we_str (wa_cons (we_str (wa_nil ⟨by show 6 ≤ sizeLine; decide, wa_cons (we_int (wa_nil ⟨rfl, p, poolK.map D.str, 4, a0, c0, d0, rfl, by decide, by decide, hM, co, k0, by omega, fun ys a1 d1 h4 hin hnd k2 k3 => ?_⟩))⟩)))))))))))))))))))
  have hyn : ys.Nodup := hnd (List.Pairwise.map D.str (fun x y hxy e => hxy (by injection e)) (by decide +kernel : poolK.Nodup))
  obtain ⟨v1, v2, v3, v4, rfl⟩ : ∃ v1 v2 v3 v4, ys = [v1, v2, v3, v4] := by
    match ys, h4 with
    | [v1, v2, v3, v4], _ => exact ⟨v1, v2, v3, v4, rfl⟩
  obtain ⟨a, ha, rfl⟩ := List.mem_map.mp (hin v1 (by simp))
  obtain ⟨b, hb, rfl⟩ := List.mem_map.mp (hin v2 (by simp))
  obtain ⟨c, hcc, rfl⟩ := List.mem_map.mp (hin v3 (by simp))
  obtain ⟨d, hd, rfl⟩ := List.mem_map.mp (hin v4 (by simp))
  have hnd4 : [a, b, c, d].Nodup := List.Pairwise.of_map (f := D.str) (fun x y hxy e => hxy (by rw [e])) hyn
  refine wg_unl ⟨rfl, rfl, wgs_cons (wg_name 1 (wgs_cons (wg_name 2 (wgs_cons (wg_name 3 (wgs_cons (wg_name 4 (wgs_nil ⟨rfl, ?_⟩) nd)) nd)) nd)) nd)⟩
  obtain ⟨la, la1⟩ := pool_len a ha
  obtain ⟨lb, lb1⟩ := pool_len b hb
  obtain ⟨lc, lc1⟩ := pool_len c hcc
  obtain ⟨ld, ld1⟩ := pool_len d hd
  generalize hM1 : mset M p (potL a1 c0 d1) = M1
  have m1p : M1 p = some (potL a1 c0 d1) := by rw [← hM1, mset_same]
  have m1T : M1 T1 = some (.tbl qRgt3) := by rw [← hM1, mset_ne (fun e => by rw [e, hM] at hT; cases hT)]; exact hT
  have lG : G30.length = 31 := by decide +kernel
  have s1 : ("[" : Str).length = 1 := by decide +kernel
  have s2 : (" 1]" : Str).length = 3 := by decide +kernel
  have s3 : ("{" : Str).length = 1 := by decide +kernel
  have s4 : (" 1}" : Str).length = 3 := by decide +kernel
  have s5 : ("(" : Str).length = 1 := by decide +kernel
  have s6 : (" + " : Str).length = 3 := by decide +kernel
  have s7 : (")" : Str).length = 1 := by decide +kernel
  have s8 : ("[3 (" : Str).length = 4 := by decide +kernel
  have s9 : (" * {2 " : Str).length = 6 := by decide +kernel
  have s10 : ("})]" : Str).length = 3 := by decide +kernel
  have s11 : ("[2 (" : Str).length = 4 := by decide +kernel
  have s12 : (" * (" : Str).length = 4 := by decide +kernel
  have s13 : (" + [3 (" : Str).length = 7 := by decide +kernel
  have s14 : (" * " : Str).length = 3 := by decide +kernel
  have s15 : (")]))]" : Str).length = 5 := by decide +kernel
  have s16 : ("1000000000000000000000000000001" : Str).length = 31 := by decide +kernel
  have s17 : (Txt.join " + " (List.replicate 30 ("1" : Str))).length = 117 := by decide +kernel
  have s18 : ("1" : Str).length = 1 := by decide +kernel
  refine wss_cons (ws_set 5 nd (we_strI (F.bn _ (by decide +kernel)) (we_powI (we_int (we_int ⟨_, _, rfl, rfl, ⟨by decide, by decide, by decide⟩, _, rfl, by decide +kernel, ?_⟩)))))
  rw [g30_eq]
  refine wss_cons (ws_set 6 nd (we_lstM (wa_cons (we_str (wa_cons (we_var 1 rfl (wa_cons (we_str (wa_cons (we_str (wa_cons (we_str (wa_cons (we_str (wa_cons (we_str ?_))))))))))))))))
  refine wa_cons (we_addS (we_addS (we_str (we_var 5 rfl ⟨_, _, rfl, rfl, by rw [s1, lG]; exact sz _ (by decide), we_str ⟨_, _, rfl, rfl, by rw [lenK_app, s1, lG, s2]; exact sz _ (by decide), ?_⟩⟩))))
  refine wa_cons (we_addS (we_addS (we_str (we_var 5 rfl ⟨_, _, rfl, rfl, by rw [s3, lG]; exact sz _ (by decide), we_str ⟨_, _, rfl, rfl, by rw [lenK_app, s3, lG, s4]; exact sz _ (by decide), ?_⟩⟩))))
  refine wa_nil ⟨by show 9 ≤ sizeLine; decide, fun q hq => ?_⟩
  have npq : p ≠ q := fun e => by rw [← e, m1p] at hq; cases hq
  have nTq : T1 ≠ q := fun e => by rw [← e, m1T] at hq; cases hq
  refine wss_cons (ws_expr (we_append (we_var 6 rfl ⟨q, _, rfl, mset_same, we_addS (we_addS (we_addS (we_addS (we_addS (we_addS (we_addS (we_addS (we_str (we_var 1 rfl ⟨_, _, rfl, rfl, by rw [s5]; exact sz _ (by omega), we_str ⟨_, _, rfl, rfl, by simp only [lenK_app, s5, s6]; exact sz _ (by omega), we_var 2 rfl ⟨_, _, rfl, rfl, by simp only [lenK_app, s5, s6]; exact sz _ (by omega), we_str ⟨_, _, rfl, rfl, by simp only [lenK_app, s5, s6]; exact sz _ (by omega), we_var 3 rfl ⟨_, _, rfl, rfl, by simp only [lenK_app, s5, s6]; exact sz _ (by omega), we_str ⟨_, _, rfl, rfl, by simp only [lenK_app, s5, s6]; exact sz _ (by omega), we_var 1 rfl ⟨_, _, rfl, rfl, by simp only [lenK_app, s5, s6]; exact sz _ (by omega), we_str ⟨_, _, rfl, rfl, by simp only [lenK_app, s5, s6, s7]; exact sz _ (by omega), _, mset_same, by rw [sizeLine_eq]; show 9 < _; decide, ?_⟩⟩⟩⟩⟩⟩⟩⟩)))))))))⟩)))
  rw [mset_mset]
  refine wss_cons (ws_expr (we_append (we_var 6 rfl ⟨q, _, rfl, mset_same, we_addS (we_addS (we_addS (we_addS (we_str (we_var 1 rfl ⟨_, _, rfl, rfl, by rw [s8]; exact sz _ (by omega), we_str ⟨_, _, rfl, rfl, by simp only [lenK_app, s8, s9]; exact sz _ (by omega), we_var 2 rfl ⟨_, _, rfl, rfl, by simp only [lenK_app, s8, s9]; exact sz _ (by omega), we_str ⟨_, _, rfl, rfl, by simp only [lenK_app, s8, s9, s10]; exact sz _ (by omega), _, mset_same, by rw [sizeLine_eq]; show 10 < _; decide, ?_⟩⟩⟩⟩)))))⟩)))
  rw [mset_mset]
  refine wss_cons (ws_expr (we_append (we_var 6 rfl ⟨q, _, rfl, mset_same, we_addS (we_addS (we_str (we_join (we_str ⟨_, rfl, we_repI (we_lst (wa_cons (we_str (wa_nil ⟨by show 1 ≤ sizeLine; decide, we_int ⟨_, 30, rfl, rfl, sz _ (by decide), List.replicate 30 ("1" : Str), .inl (by rw [List.map_replicate]; exact rfl), by decide +kernel, _, _, rfl, rfl, by rw [s5, s17]; exact sz _ (by decide), we_str ⟨_, _, rfl, rfl, by rw [lenK_app, s5, s17, s7]; exact sz _ (by decide), _, mset_same, by rw [sizeLine_eq]; show 11 < _; decide, ?_⟩⟩⟩))))⟩))))⟩)))
  rw [mset_mset]
  have efin : ([D.str "1", .str a, .str "abcdefgh", .str "(1 + 1)", .str "(1 * 1)", .str "[2 1]", .str "{2 1}", .str ((("[" : Str) ++ G30) ++ (" 1]" : Str)), .str ((("{" : Str) ++ G30) ++ (" 1}" : Str))] ++ [D.str (x10 a b c)] ++ [D.str (x11 a b)] ++ [D.str x12] : List D) = (fineT a b c).map fun t => tS (txt t) := by
    have := congrArg (List.map D.str) (fine_eq a b c)
    rw [List.map_map] at this
    exact this
  refine wss_fz (i := 6) (ds := (fineT a b c).map fun t => tS (txt t)) rfl (by rw [← efin]; exact mset_same) ?_
  exact right_mid F gR TB gB E Ta Tc F0 K1 KX F1 F2 F3 F5 FD FL hgd hr ha hb hcc hd hnd4 (by rw [mdel_ne npq, mset_ne npq]; exact m1p) (by rw [mdel_ne nTq, mset_ne nTq]; exact m1T) co (by omega) (by omega) hc
end
end W
namespace DL
open PySem PySem.Spec PyProof.Rows L2 SlX
section
variable {P : Program} {w : World} {K : PySem.W.Frag} {mg : Str → Option Value} {base : Heap} {x qual : Str} {st : Stmt} {N ps : List Str} {j k n : Nat} {c : Con} {dd : List D} {C : Addr} {m : Str} {f p : Addr}
theorem Md.sm (D : Md K C m qual st f) (cl : SCls K C) (me : Meth K C m f) (S : FnScope N ps (defScope st))
    (hb : ∀ (kV doc pm : Value) (an : Option Addr) (cdv ct : Value) (us : List Value), us.length = ps.length → bindArgs (PySem.W.fnOf m qual (defArgs st) (defBody st) (defScope st) .none kV doc pm an cdv ct) ⟨us, []⟩ = pure (ps.zip us))
    (h : BodyOk P w K mg base qual st N ps.length k c) : Mg P w K mg base C m (k + 1) ps.length c := by
  obtain ⟨fd, F⟩ := D.ex
  exact ⟨cl, f, fd, ps, fn_ok F S (h f), me, F.bindsN hb⟩
end
end DL
namespace W
open PySem PySem.Spec PyProof.Rows L2 DL SX PL SlX
section
variable {P : Program} {w : World} {K : PySem.W.Frag} {mg : Str → Option Value} {base : Heap} {B C S R U V G D' : Addr}
theorem sz3P (a b c : D) : ([a, b, c] : List D).length ≤ sizeLine := by show 3 ≤ sizeLine; decide
def cPotH : Con := fun ds M Φ => ∃ ns pl, ds = [scrD ns, .int (pl : Nat)] ∧ pl ≤ 1000 ∧ ∀ q a c, M q = none → cOk c → Φ (.ob q) (mset M q (potL a c 0))
abbrev nPotH : List Str := ["_law_script", "_law_place", "_law_cell", "_law_own", "_law_small"]
theorem ok_potH (F : Fx w K mg) : BodyOk P w K mg base "_law_pot" s__law_pot nPotH 2 0 cPotH := by
  intro f cdv A outer s H E hr ds M Φ hl hc
  obtain ⟨ns, pl, rfl, hpl, hc⟩ := hc
  have nd : nPotH.Nodup := by decide +kernel
  have rest : ∀ cell : Int, WSs (bx P w K mg base nPotH "_law_pot" (defScope s__law_pot) f cdv A outer s H E) [some (scrD ns), some (.int (pl : Nat)), some (.int cell), none, none] M ((defBody s__law_pot).drop 1) { nx := fun _ M' => Φ .non M', rt := Lets Φ } := fun cell => by
    refine wss_cons (ws_set 3 nd (we_mulS (we_modI (we_intN (F.bn _ (by decide +kernel)) (we_abs (F.bn _ (by decide +kernel)) (we_var 2 rfl ⟨_, rfl, .inl ⟨_, rfl, we_powW (we_powI (we_int (we_int ⟨_, _, rfl, rfl, ⟨by decide, by decide, by decide⟩, we_int ⟨_, _, rfl, rfl, ⟨by decide, by decide +kernel⟩, _, _, rfl, rfl, by decide +kernel, ?_⟩⟩)))⟩⟩))))))
    refine we_intN (F.bn _ (by decide +kernel)) (we_geI (we_abs (F.bn _ (by decide +kernel)) (we_var 2 rfl ⟨_, rfl, we_powI (we_int (we_int ⟨_, _, rfl, rfl, ⟨by decide, by decide, by decide⟩, _, _, rfl, rfl, .inr ⟨_, rfl, _, _, rfl, rfl, .inr ⟨?_, ?_⟩, ?_⟩⟩))⟩)))
    · exact (bb _).1
    · exact (bb _).2
    refine wss_cons (ws_set 4 nd (we_modI (we_intN (F.bn _ (by decide +kernel)) (we_var 2 rfl (.inl ⟨_, rfl, we_int ⟨_, _, rfl, rfl, by decide, ?_⟩⟩)))))
    have b0 : 0 ≤ cell % 2305843009213693951 := Int.emod_nonneg _ (by decide)
    have b1 : cell % 2305843009213693951 < 2305843009213693951 := Int.emod_lt_of_pos _ (by decide)
    refine wss_cons (ws_ret (we_lstM (wa_cons (we_var 3 rfl (wa_cons (we_modI (we_intN (F.bn _ (by decide +kernel)) (we_addI (we_addI (we_mulS (we_var 4 rfl (we_int ⟨_, _, rfl, rfl, .inl ⟨by omega, by omega⟩, we_mulS (we_mulS (we_int (we_var 1 rfl ⟨_, _, rfl, rfl, .inl ⟨by decide, by decide⟩, we_var 1 rfl ⟨_, _, rfl, rfl, .inr ⟨by omega, by omega⟩, _, _, rfl, rfl, we_int ⟨_, _, rfl, rfl, .inl ⟨_, rfl, we_int ⟨_, _, rfl, rfl, by decide, wa_cons (we_int (wa_nil ⟨sz3P _ _ _, fun q hq => Lets.of ?_⟩))⟩⟩⟩⟩⟩)))⟩))))))))))))
    exact hc q _ _ hq ⟨Int.emod_nonneg _ (by decide), Int.emod_lt_of_pos _ (by decide)⟩
  refine wss_cons (ws_set 2 nd (we_if (wt_ltI (we_var 1 rfl (we_len (F.bn _ (by decide +kernel)) (we_var 0 rfl ⟨_, lenR, _, _, rfl, rfl, ?_⟩))))))
  refine ite_dec (fun h => ?_) fun h => ?_
  · rw [List.length_map] at h
    have hq : (ns.map D.int)[pl]? = some (.int ns[pl]) := by rw [List.getElem?_map, List.getElem?_eq_getElem (by omega)]; rfl
    exact we_ix (we_var 0 rfl (we_var 1 rfl ⟨_, _, rfl, ixR (atI_nat hq), rest _⟩))
  · exact we_addI (we_mulS (we_int (we_var 1 rfl ⟨_, _, rfl, rfl, .inl ⟨by decide, by decide⟩, we_int ⟨_, _, rfl, rfl, rest _⟩⟩)))
theorem ok_cellsH (F : Fx w K mg) : BodyOk P w K mg base "_law_cells" s__law_cells ["_law_script", "_law_most"] 2 0 cCells := by
  intro f cdv A outer s H E hr ds M Φ hl hc
  obtain ⟨ns, m, rfl, h1, h2, hc⟩ := hc
  refine wss_cons (ws_ret (we_listRg1 (F.bn _ (by decide +kernel)) (F.bn _ (by decide +kernel)) (we_max2 (F.bn _ (by decide +kernel)) (we_int (we_min2 (F.bn _ (by decide +kernel)) (we_var 1 rfl (we_len (F.bn _ (by decide +kernel)) (we_var 0 rfl ⟨_, lenR, _, _, rfl, rfl, _, _, rfl, rfl, _, rfl, ?_, Lets.of (hc _ ?_)⟩))))))))
  · unfold RgOk; split <;> split <;> omega
  · split <;> split <;> omega
def cLaw (T1 : Addr) : Con := fun ds M Φ => ∃ ns, ds = [scrD ns] ∧ M T1 = some (.tbl qRgt3) ∧ ∀ M', Φ (.bl true) M'
abbrev nLaw : List Str := ["_law_script", "_law_place"]
theorem ok_law03 {T1 : Addr} (F : Fx w K mg) (F1 : Fc P w K mg base "_law_cells" [] 1 2 cCells) (F2 : Fc P w K mg base "_law_pot" [] 1 2 cPotH) (F3 : Gc P w K mg base "_law_right" 107 1 (cRgt3 T1)) : BodyG P w K mg base "law" s_law nLaw 1 107 (cLaw T1) := by
  intro f cdv A outer s H E hgd hr ds M Φ hl hc
  obtain ⟨ns, rfl, hT, hc⟩ := hc
  have nd : nLaw.Nodup := by decide +kernel
  refine wss_cons (ws_ret (we_all (F.bn _ (by decide +kernel)) (we_lc nd (blkOk_by (N := nLaw) (sc := defScope s_law) (own := [("_law_place", 1)]) (by decide +kernel)) (fun _ _ _ _ _ => pg_name (i := 1) nd rfl (Or.inl rfl)) (gt_name (by decide)) (fun _ _ _ _ _ => pts_nil) tk_nil (wi_list (we_call F1 (hr.mono (by decide)) (wa_cons (we_var 0 rfl (wa_cons (we_int (wa_nil ⟨rfl, ns, 3, rfl, by decide, by decide, fun n hn => ⟨_, .inl rfl, ?_⟩⟩))))))))))
  refine ⟨by rw [rngD_len, sizeLine_eq]; omega, fun i acc M' => M' T1 = some (.tbl qRgt3) ∧ acc = (List.replicate i true).map D.bl, ⟨hT, rfl⟩, ?_, ?_⟩
  · rintro i x acc M' hx ⟨h1, rfl⟩
    obtain ⟨hi, rfl⟩ := rngD_get hx
    intro s1 H1 C' cl fp
    refine we_callG F3 hgd (hr.mono (by decide)) (wa_cons (we_call F2 (hr.mono (by decide)) (wa_cons (we_var 0 rfl (wa_cons (we_var 1 rfl (wa_nil ⟨rfl, ns, i, by rw [Int.zero_add]; rfl, by omega, ?_⟩)))))))
    intro p a c hp co
    have n1 : T1 ≠ p := fun z => by rw [← z, h1] at hp; cases hp
    refine wa_nil ⟨rfl, p, a, c, 0, rfl, mset_same, co, by decide, by decide, by rw [mset_ne n1]; exact h1, fun M' hM' => ⟨hM', ?_⟩⟩
    show _ ++ [_] = (List.replicate (i + 1) true).map D.bl
    rw [List.replicate_succ', List.map_append]; rfl
  · rintro acc M' ⟨h1, rfl⟩
    refine ⟨_, rfl, ?_⟩
    rw [List.all_eq_true.mpr fun b hb => by rw [List.eq_of_mem_replicate hb]; rfl]
    exact Lets.of (hc _)
end
end W
namespace W
open PySem PySem.Spec PyProof.Rows L2 DL He HK
section
variable {P : Program} {w : World} {K : PySem.W.Frag} {mg : Str → Option Value} {base h : Heap}
theorem mkFx (X : K.In h) (G : h.Ns mainGlobals mg) (c : Says spec w K) : Fx w K mg where
  bn := fun x hx => free_ok X G (c.fa (mem_bn hx))
  gONE := str_ok X G (c.fa (f := .str "ONE" "one") (mem_co 0 rfl))
  gNAME := str_ok X G (c.fa (f := .str "NAME" "name") (mem_co 1 rfl))
  gBESIDE := str_ok X G (c.fa (f := .str "BESIDE" "beside") (mem_co 2 rfl))
  gINTRODUCED := str_ok X G (c.fa (f := .str "INTRODUCED" "introduced") (mem_co 3 rfl))
  gBLANK := str_ok X G (c.fa (f := .str "BLANK" " ") (mem_co 4 rfl))
  gLETTERS := str_ok X G (c.fa (f := .str "LETTERS" "abcdefghijklmnopqrstuvwxyz") (mem_co 5 rfl))
  gFIGURES := str_ok X G (c.fa (f := .str "FIGURES" "0123456789") (mem_co 6 rfl))
  gMOST_LETTERS := int_ok X G (c.fa (f := .int "MOST_LETTERS" 8) (mem_co 7 rfl))
  gPERSON := str_ok X G (c.fa (f := .str "PERSON" "1") (mem_co 8 rfl))
  gLEAST_MANY := int_ok X G (c.fa (f := .int "LEAST_MANY" 2) (mem_co 9 rfl))
  gMOST_MANY := int_ok X G (c.fa (f := .int "MOST_MANY" (10 ^ 30)) (mem_co 10 rfl))
  gMOST_NAMES := int_ok X G (c.fa (f := .int "MOST_NAMES" 3) (mem_co 11 rfl))
  gMOST_DEPTH := int_ok X G (c.fa (f := .int "MOST_DEPTH" 60) (mem_co 12 rfl))
  gSIGNS := let ⟨kvs, h1, h2⟩ := c.ta 0 (x := "SIGNS") (qs := tSigns) rfl (by decide +kernel); ⟨_, kvs, glo_ok X G (c.fa (f := .glo "SIGNS") (mem_glo (by decide +kernel))), h1, h2⟩
  gAROUND := let ⟨kvs, h1, h2⟩ := c.ta 1 (x := "AROUND") (qs := tAround) rfl (by decide +kernel); ⟨_, kvs, glo_ok X G (c.fa (f := .glo "AROUND") (mem_glo (by decide +kernel))), h1, h2⟩
  gTURNED := let ⟨kvs, h1, h2⟩ := c.ta 2 (x := "TURNED") (qs := tTurned) rfl (by decide +kernel); ⟨_, kvs, glo_ok X G (c.fa (f := .glo "TURNED") (mem_glo (by decide +kernel))), h1, h2⟩
theorem mkPx (X : K.In h) (G : h.Ns mainGlobals mg) (c : Says spec w K) : Px K mg (ga K "Plan") where
  at_ := glo_ok X G (c.fa (f := .glo "Plan") (mem_glo (by decide +kernel)))
  cl := cls_ok (c.fa (f := .cls "Plan") (mem_co 13 rfl))
  na := fun f hf => noat_ok (c.fa (mem_na hf))
  init := ⟨_, mkr_ok (c.fa (f := .mkr "Plan") (mem_co 15 rfl)), ⟨c.dd 1 rfl⟩⟩
  text := ⟨_, _, propB_ok (c.pr (q := ("Plan", "text")) (by decide +kernel)), ⟨c.dd 2 rfl⟩⟩
  names := ⟨_, _, propB_ok (c.pr (q := ("Plan", "names")) (by decide +kernel)), ⟨c.dd 3 rfl⟩⟩
  word := ⟨_, _, propB_ok (c.pr (q := ("Plan", "word")) (by decide +kernel)), ⟨c.dd 4 rfl⟩⟩
  many := ⟨_, _, propB_ok (c.pr (q := ("Plan", "many")) (by decide +kernel)), ⟨c.dd 5 rfl⟩⟩
  invert := ⟨_, meth_ok (c.fa (f := .meth "Plan" "__invert__") (mem_co 14 rfl)), ⟨c.dd 7 rfl⟩⟩
theorem mkDf (X : K.In h) (G : h.Ns mainGlobals mg) (c : Says spec w K) (i : Nat) {x : Str} {st : Stmt} (hd : dds[i]? = some (gl x st)) (hx : x ∈ globsA) : Df K mg x st [] :=
  let ⟨fd, F⟩ := c.dd i hd
  ⟨_, fd, F, glo_ok X G (c.fa (mem_glo hx))⟩
theorem mkGx (X : K.In h) (G : h.Ns mainGlobals mg) (c : Says spec w K) : Gx K mg (ga K "Figures") where
  at_ := glo_ok X G (c.fa (f := .glo "Figures") (mem_glo (by decide +kernel)))
  sl := c.sl (List.mem_singleton.mpr rfl)
  init := let ⟨fd, F⟩ := c.dd 12 rfl; ⟨_, fd, mkr_ok (c.fa (f := .mkr "Figures") (mem_co 19 rfl)), F⟩
  copied := ⟨_, meth_ok (c.fa (f := .meth "Figures" "copied") (mem_co 20 rfl)), ⟨c.dd 9 rfl⟩⟩
  joined := ⟨_, meth_ok (c.fa (f := .meth "Figures" "joined") (mem_co 21 rfl)), ⟨c.dd 10 rfl⟩⟩
theorem shX : XL.Shape (defArgs s_CrowdError___init__) (defBody s_CrowdError___init__) (defScope s_CrowdError___init__) where
  args := ⟨_, _, rfl⟩
  body := ⟨_, _, _, _, _, _, _, _, _, _, rfl, fun _ _ _ _ _ => ⟨_, rfl⟩⟩
  kind := rfl
  co := rfl
  gen := rfl
  cellless := by decide +kernel
  self := by rfl
  value := by rfl
  cls := fun _ _ _ _ _ => rfl
  sup := fun _ _ _ _ _ => rfl
  inter := fun _ _ _ _ _ => rfl
  kself := fun _ _ _ _ _ => rfl
  kvalue := fun _ _ _ _ _ => rfl
theorem mkEk (X : K.In h) (G : h.Ns mainGlobals mg) (c : Says spec w K) (hf : (P.main.file == "/claim/cut.py") = true) (hs : (P.main.scope.names.lookup ("super" : Str)).isSome = false) {x : Str} (hx : x ∈ spec.er) (hg : x ∈ globsA) : Ek P K mg (ga K "CrowdError") x (ga K x) := by
  have hm := glo_ok X G (c.fa (f := .glo x) (mem_glo hg))
  obtain ⟨a, b, d, e⟩ := c.err (P := P) (mg := mg) (file := "/claim/cut.py") (st := s_CrowdError___init__) rfl shX hf hs (free_ok X G (c.fa (f := .free "super") (mem_co 17 rfl))) hx hm
  exact ⟨a, b, hm, e, d⟩
theorem mkDc (X : K.In h) (G : h.Ns mainGlobals mg) (c : Says spec w K) (i : Nat) {x : Str} {st : Stmt} {p : Addr × Addr} (hd : dds[i]? = some (gl x st)) (hg : mg x = some (.ref (ga K x))) (ht : PySem.W.tabIn K x = some p) : Dc K mg x st p.1 := by
  obtain ⟨fd, F⟩ := c.dd i hd
  obtain ⟨oc, od, dV, kV, doc, pm, an, cdv, ct, osl, e, lk, r⟩ := F.ex
  exact ⟨_, fd, F, hg, PySem.W.law_code X G ht hg (X _ _ lk) rfl⟩
theorem chain {C B U_BadPlan U_NoPart c1 T1 : Addr} {f : Addr} {fd : FuncData} (F : Fx w K mg) (X : Px K mg C) (X_people : ∃ p f, PropOf K C "people" p f ∧ Md K C "people" "Plan.people" s_Plan_people f) (X_part : ∃ f, Meth K C "part" f ∧ Md K C "part" "Plan.part" s_Plan_part f) {GF : Addr} (XF : Gx K mg GF) (XT : ∃ f, Meth K GF "told_for" f ∧ Md K GF "told_for" "Figures.told_for" s_Figures_told_for f) {aWo : Addr} (DW : Df K mg "check_word" s_check_word [V.ref aWo]) (rW : ∀ M Z H, Rep K M Z H (.ref aWo) (.tup (wordsL.map DL.D.str))) (gPE : ∃ t, mg "PEOPLE" = some (.str "people" t)) (gCI : ∃ t, mg "CIRCLE" = some (.str "circle" t)) (gST : ∃ t, mg "STRANGERS" = some (.str "strangers" t)) (gRO : ∃ t, mg "ROWS" = some (.str "rows" t)) (gHA : ∃ t, mg "HALL" = some (.str "hall" t)) (gB : mg "CrowdError" = some (.ref B)) (E_BadPlan : Ek P K mg B "BadPlan" U_BadPlan) (E_NoPart : Ek P K mg B "NoPart" U_NoPart) (D__law_right : Dc K mg "_law_right" s__law_right c1) (TB__law_right : LamX.TabB base mg c1 T1) (DI : Df K mg "is_integer" s_is_integer [.non, .non]) (D : ∀ (i : Nat) {x : Str} {st : Stmt}, dds[i]? = some (gl x st) → x ∈ globsA → Df K mg x st [])
    (L : FunD K "law" "law" (defArgs s_law) (defBody s_law) (defScope s_law) [] [] f fd) : FnG P w K mg base 108 f fd ["_law_script"] (spD K 1 (cLaw T1)) := by
  have FI : Fc P w K mg base "is_integer" [] 1 3 cIsInt := DI.fcD (N := ["value", "low", "high"]) (ps := ["value", "low", "high"]) ⟨rfl, rfl, rfl, by decide +kernel, rfl, by decide +kernel, by decide +kernel⟩ 3 2 (by simp) rfl (fun _ _ _ => .nil) (fun _ _ _ _ _ _ _ us its h1 h2 => match us, its, h1, h2 with | [_, _, _], [_, _], _, _ => ⟨_, rfl, rfl⟩) (ok_is_integer F)
  have FIA : Fc P w K mg base "is_integer" [] 1 3 cIsIntA := DI.fcD (N := ["value", "low", "high"]) (ps := ["value", "low", "high"]) ⟨rfl, rfl, rfl, by decide +kernel, rfl, by decide +kernel, by decide +kernel⟩ 3 2 (by simp) rfl (fun _ _ _ => .nil) (fun _ _ _ _ _ _ _ us its h1 h2 => match us, its, h1, h2 with | [_, _, _], [_, _], _, _ => ⟨_, rfl, rfl⟩) (ok_is_integer_a F)
  have fName : Fc P w K mg base "is_name" [] 1 1 cIsName := (D 13 rfl (by decide +kernel)).fc (N := ["value", "letter"]) (ps := ["value"]) ⟨rfl, rfl, rfl, by decide +kernel, rfl, by decide +kernel, by decide +kernel⟩ (fun _ _ _ _ _ _ us hl => match us, hl with | [_], _ => rfl) (ok_is_name F)
  have fNum : Fc P w K mg base "number_in" [] 1 1 cNumberIn := (D 14 rfl (by decide +kernel)).fc (N := ["text", "figure"]) (ps := ["text"]) ⟨rfl, rfl, rfl, by decide +kernel, rfl, by decide +kernel, by decide +kernel⟩ (fun _ _ _ _ _ _ us hl => match us, hl with | [_], _ => rfl) (ok_number_in F)
  have fPar : Fc P w K mg base "parted" [] 1 2 cParted := (D 15 rfl (by decide +kernel)).fc (N := ["text", "sign", "found", "depth", "begin", "at", "letter"]) (ps := ["text", "sign"]) ⟨rfl, rfl, rfl, by decide +kernel, rfl, by decide +kernel, by decide +kernel⟩ (fun _ _ _ _ _ _ us hl => match us, hl with | [_, _], _ => rfl) (ok_parted F)
  have fCop : Fc P w K mg base "copies_in" [] 2 1 cCopiesIn := (D 16 rfl (by decide +kernel)).fc (N := ["text", "word", "head", "end", "number", "blank", "rest", "many"]) (ps := ["text"]) ⟨rfl, rfl, rfl, by decide +kernel, rfl, by decide +kernel, by decide +kernel⟩ (fun _ _ _ _ _ _ us hl => match us, hl with | [_], _ => rfl) (ok_copies_in F fNum)
  have fRow : Fc P w K mg base "row_in" [] 2 1 cRowIn := (D 17 rfl (by decide +kernel)).fc (N := ["text", "word", "sign", "parts", "part"]) (ps := ["text"]) ⟨rfl, rfl, rfl, by decide +kernel, rfl, by decide +kernel, by decide +kernel⟩ (fun _ _ _ _ _ _ us hl => match us, hl with | [_], _ => rfl) (ok_row_in F fPar)
  have fGrp : Fc P w K mg base "groups_in" [] 3 1 cGroupsIn := (D 18 rfl (by decide +kernel)).fc (N := ["text", "found"]) (ps := ["text"]) ⟨rfl, rfl, rfl, by decide +kernel, rfl, by decide +kernel, by decide +kernel⟩ (fun _ _ _ _ _ _ us hl => match us, hl with | [_], _ => rfl) (ok_groups_in F fName fCop fRow)
  have fPt : ∀ h, Fc P w K mg base "is_plan_text" [] (h + 4) 2 (cPlanText h) := by
    intro h
    induction h with
    | zero => exact (D 19 rfl (by decide +kernel)).fc (N := ["text", "depth", "found", "many", "part"]) (ps := ["text", "depth"]) ⟨rfl, rfl, rfl, by decide +kernel, rfl, by decide +kernel, by decide +kernel⟩ (fun _ _ _ _ _ _ us hl => match us, hl with | [_, _], _ => rfl) (ok_is_plan_text 0 F fGrp (fun j hj => by omega))
    | succ h ih => exact (D 19 rfl (by decide +kernel)).fc (N := ["text", "depth", "found", "many", "part"]) (ps := ["text", "depth"]) ⟨rfl, rfl, rfl, by decide +kernel, rfl, by decide +kernel, by decide +kernel⟩ (fun _ _ _ _ _ _ us hl => match us, hl with | [_, _], _ => rfl) (ok_is_plan_text (h + 1) F fGrp (fun j hj => by cases hj; exact ih))
  have fNm : ∀ h, Fc P w K mg base "names_in" [] (h + 4) 1 (cNamesN h) := by
    intro h
    induction h with
    | zero => exact (D 20 rfl (by decide +kernel)).fc (N := nNin) (ps := ["text"]) ⟨rfl, rfl, rfl, by decide +kernel, rfl, by decide +kernel, by decide +kernel⟩ (fun _ _ _ _ _ _ us hl => match us, hl with | [_], _ => rfl) (ok_names_n 0 F fGrp (fun j hj => by omega))
    | succ h ih => exact (D 20 rfl (by decide +kernel)).fc (N := nNin) (ps := ["text"]) ⟨rfl, rfl, rfl, by decide +kernel, rfl, by decide +kernel, by decide +kernel⟩ (fun _ _ _ _ _ _ us hl => match us, hl with | [_], _ => rfl) (ok_names_n (h + 1) F fGrp (fun j hj => by cases hj; exact ih))
  obtain ⟨fi, mk, mi⟩ := X.init
  have kPlan : ∀ h, Kc P w K mg base "Plan" C [] (2 * h + 6) 2 (cInitN C h) := by
    intro h
    induction h with
    | zero => exact mi.kc X.at_ mk (N := nInit) (ps := ["self", "text"]) ⟨rfl, rfl, rfl, by decide +kernel, rfl, by decide +kernel, by decide +kernel⟩ (fun _ _ _ _ _ _ us hl => match us, hl with | [_, _], _ => rfl) (ok_init_n 0 F X (fPt 0) (fNm 0) fGrp (fun j hj => by omega))
    | succ h ih => exact mi.kc X.at_ mk (N := nInit) (ps := ["self", "text"]) ⟨rfl, rfl, rfl, by decide +kernel, rfl, by decide +kernel, by decide +kernel⟩ (fun _ _ _ _ _ _ us hl => match us, hl with | [_, _], _ => rfl) (ok_init_n (h + 1) F X (fPt (h + 1)) (fNm (h + 1)) fGrp (fun j hj => by cases hj; exact ih))
  obtain ⟨p1, g1, pr1, m1⟩ := X.text
  obtain ⟨p2, g2, pr2, m2⟩ := X.names
  obtain ⟨p3, g3, pr3, m3⟩ := X.word
  obtain ⟨p4, g4, pr4, m4⟩ := X.many
  have pNames : Pc P w K mg base C "names" 1 (cGet C fun t => .tup []) := m2.pc X.cl pr2 (N := ["self"]) ⟨rfl, rfl, rfl, by decide +kernel, rfl, by decide +kernel, by decide +kernel⟩ (fun _ _ _ _ _ _ us hl => match us, hl with | [_], _ => rfl) (ok_names X)
  have pWord : Pc P w K mg base C "word" 1 (cGet C fun t => .str (wordT t)) := m3.pc X.cl pr3 (N := ["self"]) ⟨rfl, rfl, rfl, by decide +kernel, rfl, by decide +kernel, by decide +kernel⟩ (fun _ _ _ _ _ _ us hl => match us, hl with | [_], _ => rfl) (ok_word X)
  have fTold : Fc P w K mg base "check_told" [] 3 1 (cTold C) := (D 21 rfl (by decide +kernel)).fc (N := ["plan"]) (ps := ["plan"]) ⟨rfl, rfl, rfl, by decide +kernel, rfl, by decide +kernel, by decide +kernel⟩ (fun _ _ _ _ _ _ us hl => match us, hl with | [_], _ => rfl) (ok_check_told pNames)
  have pTxN : Pc P w K mg base C "text" 1 (cGetN C fun t => tS (PL.txt t)) := m1.pc X.cl pr1 (N := ["self"]) ⟨rfl, rfl, rfl, by decide +kernel, rfl, by decide +kernel, by decide +kernel⟩ (fun _ _ _ _ _ _ us hl => match us, hl with | [_], _ => rfl) (ok_text_n X)
  have pWdN : Pc P w K mg base C "word" 1 (cGetN C fun t => .str (wordT t)) := m3.pc X.cl pr3 (N := ["self"]) ⟨rfl, rfl, rfl, by decide +kernel, rfl, by decide +kernel, by decide +kernel⟩ (fun _ _ _ _ _ _ us hl => match us, hl with | [_], _ => rfl) (ok_word_n X)
  have pMnN : Pc P w K mg base C "many" 1 (cManyN C) := m4.pc X.cl pr4 (N := ["self", "many", "part"]) ⟨rfl, rfl, rfl, by decide +kernel, rfl, by decide +kernel, by decide +kernel⟩ (fun _ _ _ _ _ _ us hl => match us, hl with | [_], _ => rfl) (ok_many_n F X)
  obtain ⟨pPeop, pPeog, pPeopr, pPeom⟩ := X_people
  have pPeo : Pc P w K mg base C "people" 1 (cPeoN C) := pPeom.pc X.cl pPeopr (N := ["self"]) ⟨rfl, rfl, rfl, by decide +kernel, rfl, by decide +kernel, by decide +kernel⟩ (fun _ _ _ _ _ _ us hl => match us, hl with | [_], _ => rfl) (ok_people_n X)
  obtain ⟨mpartf, mpartm, mpartd⟩ := X_part
  have mPa : Mcx P w K mg base C "part" [] 3 2 (cPartX C U_NoPart) := mpartd.mx X.cl mpartm (N := nPart) (ps := ["self", "number"]) ⟨rfl, rfl, rfl, by decide +kernel, rfl, by decide +kernel, by decide +kernel⟩ (fun _ _ _ _ _ _ us hl => match us, hl with | [_, _], _ => rfl) (ok_part_x F X E_NoPart.er FIA pMnN)
  have gNum : Fc P w K mg base "number_in" [] 1 1 cNumG := (D 14 rfl (by decide +kernel)).fc (N := ["text", "figure"]) (ps := ["text"]) ⟨rfl, rfl, rfl, by decide +kernel, rfl, by decide +kernel, by decide +kernel⟩ (fun _ _ _ _ _ _ us hl => match us, hl with | [_], _ => rfl) (ok_number_in_g F)
  have gCpi : Fc P w K mg base "copies_in" [] 2 1 cCopG := (D 16 rfl (by decide +kernel)).fc (N := nCopG) (ps := ["text"]) ⟨rfl, rfl, rfl, by decide +kernel, rfl, by decide +kernel, by decide +kernel⟩ (fun _ _ _ _ _ _ us hl => match us, hl with | [_], _ => rfl) (ok_copies_in_g F gNum)
  have gRow : Fc P w K mg base "row_in" [] 2 1 cRowG := (D 17 rfl (by decide +kernel)).fc (N := nRowG) (ps := ["text"]) ⟨rfl, rfl, rfl, by decide +kernel, rfl, by decide +kernel, by decide +kernel⟩ (fun _ _ _ _ _ _ us hl => match us, hl with | [_], _ => rfl) (ok_row_in_g F fPar)
  have gGrp : Fc P w K mg base "groups_in" [] 3 1 cGrpG := (D 18 rfl (by decide +kernel)).fc (N := ["text", "found"]) (ps := ["text"]) ⟨rfl, rfl, rfl, by decide +kernel, rfl, by decide +kernel, by decide +kernel⟩ (fun _ _ _ _ _ _ us hl => match us, hl with | [_], _ => rfl) (ok_groups_in_g F fName gCpi gRow)
  have gIpt : ∀ h, Fc P w K mg base "is_plan_text" [] (h + 4) 2 (cIptG h) := by
    intro h
    induction h with
    | zero => exact (D 19 rfl (by decide +kernel)).fc (N := nIptG) (ps := ["text", "depth"]) ⟨rfl, rfl, rfl, by decide +kernel, rfl, by decide +kernel, by decide +kernel⟩ (fun _ _ _ _ _ _ us hl => match us, hl with | [_, _], _ => rfl) (ok_is_plan_text_g 0 F gGrp (fun j hj => by omega))
    | succ h ih => exact (D 19 rfl (by decide +kernel)).fc (N := nIptG) (ps := ["text", "depth"]) ⟨rfl, rfl, rfl, by decide +kernel, rfl, by decide +kernel, by decide +kernel⟩ (fun _ _ _ _ _ _ us hl => match us, hl with | [_, _], _ => rfl) (ok_is_plan_text_g (h + 1) F gGrp (fun j hj => by cases hj; exact ih))
  have xPlan : Kcx P w K mg base "Plan" C [] 102 2 (cInitB C U_BadPlan 36) := mi.kx X.at_ mk (N := nInit) (ps := ["self", "text"]) ⟨rfl, rfl, rfl, by decide +kernel, rfl, by decide +kernel, by decide +kernel⟩ (fun _ _ _ _ _ _ us hl => match us, hl with | [_, _], _ => rfl) (ok_init_b 36 F E_BadPlan.er (gIpt 61) (fPt 36) (fNm 36))
  have fRt : Fc P w K mg base "row_text" [] 1 2 _ := (D 22 rfl (by decide +kernel)).fc (N := ["word", "texts"]) (ps := ["word", "texts"]) ⟨rfl, rfl, rfl, by decide +kernel, rfl, by decide +kernel, by decide +kernel⟩ (fun _ _ _ _ _ _ us hl => match us, hl with | [_, _], _ => rfl) (ok_row_text F)
  have fCt : Fc P w K mg base "copies_text" [] 1 3 cCopT := (D 23 rfl (by decide +kernel)).fc (N := nCopT) (ps := ["word", "many", "text"]) ⟨rfl, rfl, rfl, by decide +kernel, rfl, by decide +kernel, by decide +kernel⟩ (fun _ _ _ _ _ _ us hl => match us, hl with | [_, _, _], _ => rfl) (ok_copies_text F)
  have fJt : Fc P w K mg base "joined_text" [] 2 2 cJT := (D 24 rfl (by decide +kernel)).fc (N := nJT) (ps := ["word", "pieces"]) ⟨rfl, rfl, rfl, by decide +kernel, rfl, by decide +kernel, by decide +kernel⟩ (fun _ _ _ _ _ _ us hl => match us, hl with | [_, _], _ => rfl) (ok_joined_text F fCt fRt)
  have fPP : ∀ h, Fc P w K mg base "normal_text" [] (3 * h + 5) 1 (cNT C h) ∧ Fc P w K mg base "pieces_of" [] (3 * h + 6) 2 (cPc C h false) := by
    intro h
    induction h with
    | zero =>
      have o := ok_pieces_own (base := base) 0 F X pWdN (fun j hj => by omega)
      have a : Fc P w K mg base "normal_text" [] (3 * 0 + 5) 1 (cNT C 0) := (D 25 rfl (by decide +kernel)).fc (N := ["plan"]) (ps := ["plan"]) ⟨rfl, rfl, rfl, by decide +kernel, rfl, by decide +kernel, by decide +kernel⟩ (fun _ _ _ _ _ _ us hl => match us, hl with | [_], _ => rfl) (ok_normal_text 0 F X pWdN pTxN ((D 26 rfl (by decide +kernel)).fc (N := nPc) (ps := ["plan", "word"]) ⟨rfl, rfl, rfl, by decide +kernel, rfl, by decide +kernel, by decide +kernel⟩ (fun _ _ _ _ _ _ us hl => match us, hl with | [_, _], _ => rfl) (o)) fJt)
      exact ⟨a, (D 26 rfl (by decide +kernel)).fc (N := nPc) (ps := ["plan", "word"]) ⟨rfl, rfl, rfl, by decide +kernel, rfl, by decide +kernel, by decide +kernel⟩ (fun _ _ _ _ _ _ us hl => match us, hl with | [_, _], _ => rfl) (ok_pieces_all 0 F X pWdN o a)⟩
    | succ h ih =>
      have o := ok_pieces_own (base := base) (h + 1) F X pWdN (fun j hj => by cases hj; exact ih.2)
      have a : Fc P w K mg base "normal_text" [] (3 * (h + 1) + 5) 1 (cNT C (h + 1)) := (D 25 rfl (by decide +kernel)).fc (N := ["plan"]) (ps := ["plan"]) ⟨rfl, rfl, rfl, by decide +kernel, rfl, by decide +kernel, by decide +kernel⟩ (fun _ _ _ _ _ _ us hl => match us, hl with | [_], _ => rfl) (ok_normal_text (h + 1) F X pWdN pTxN ((D 26 rfl (by decide +kernel)).fc (N := nPc) (ps := ["plan", "word"]) ⟨rfl, rfl, rfl, by decide +kernel, rfl, by decide +kernel, by decide +kernel⟩ (fun _ _ _ _ _ _ us hl => match us, hl with | [_, _], _ => rfl) (o)) fJt)
      exact ⟨a, (D 26 rfl (by decide +kernel)).fc (N := nPc) (ps := ["plan", "word"]) ⟨rfl, rfl, rfl, by decide +kernel, rfl, by decide +kernel, by decide +kernel⟩ (fun _ _ _ _ _ _ us hl => match us, hl with | [_, _], _ => rfl) (ok_pieces_all (h + 1) F X pWdN o a)⟩
  have fNo : Fc P w K mg base "normal" [] 80 1 (cNormal C 18) := (D 27 rfl (by decide +kernel)).fc (N := ["plan"]) (ps := ["plan"]) ⟨rfl, rfl, rfl, by decide +kernel, rfl, by decide +kernel, by decide +kernel⟩ (fun _ _ _ _ _ _ us hl => match us, hl with | [_], _ => rfl) (ok_normal 18 (by decide) (fPP 18).1 (kPlan 36))
  obtain ⟨gCopf, gCopm, gCopd⟩ := XF.copied
  have gCop : Mg P w K mg base GF "copied" 3 3 (cCopied GF) := gCopd.sm XF.sl.sc gCopm (N := nCopied) (ps := ["self", "word", "many"]) ⟨rfl, rfl, rfl, by decide +kernel, rfl, by decide +kernel, by decide +kernel⟩ (fun _ _ _ _ _ _ us hl => match us, hl with | [_, _, _], _ => rfl) (ok_copied F XF)
  obtain ⟨gJoif, gJoim, gJoid⟩ := XF.joined
  have gJoi : Mg P w K mg base GF "joined" 3 3 (cJoined GF) := gJoid.sm XF.sl.sc gJoim (N := nJoined) (ps := ["self", "word", "other"]) ⟨rfl, rfl, rfl, by decide +kernel, rfl, by decide +kernel, by decide +kernel⟩ (fun _ _ _ _ _ _ us hl => match us, hl with | [_, _, _], _ => rfl) (ok_joined F XF)
  obtain ⟨gTff, gTfm, gTfd⟩ := XT
  have gTf : Mg P w K mg base GF "told_for" 2 2 (cToldFor GF) := gTfd.sm XF.sl.sc gTfm (N := ["self", "word", "numbers"]) (ps := ["self", "word"]) ⟨rfl, rfl, rfl, by decide +kernel, rfl, by decide +kernel, by decide +kernel⟩ (fun _ _ _ _ _ _ us hl => match us, hl with | [_, _], _ => rfl) (ok_told_for XF gPE gCI gST gRO gHA)
  have fFg : ∀ h, Fc P w K mg base "figures" [] (h + 4) 2 (cFigs C GF h) := by
    intro h
    induction h with
    | zero => exact (D 28 rfl (by decide +kernel)).fc (N := nFigs) (ps := ["plan", "known"]) ⟨rfl, rfl, rfl, by decide +kernel, rfl, by decide +kernel, by decide +kernel⟩ (fun _ _ _ _ _ _ us hl => match us, hl with | [_, _], _ => rfl) (ok_figures 0 F X XF pWord gCop gJoi (fun j hj => by omega))
    | succ h ih => exact (D 28 rfl (by decide +kernel)).fc (N := nFigs) (ps := ["plan", "known"]) ⟨rfl, rfl, rfl, by decide +kernel, rfl, by decide +kernel, by decide +kernel⟩ (fun _ _ _ _ _ _ us hl => match us, hl with | [_, _], _ => rfl) (ok_figures (h + 1) F X XF pWord gCop gJoi (fun j hj => by cases hj; exact ih))
  have fIw : Fc P w K mg base "is_word" [] 1 2 cIsW := (D 29 rfl (by decide +kernel)).fc (N := ["value", "words"]) (ps := ["value", "words"]) ⟨rfl, rfl, rfl, by decide +kernel, rfl, by decide +kernel, by decide +kernel⟩ (fun _ _ _ _ _ _ us hl => match us, hl with | [_, _], _ => rfl) (ok_is_word F)
  have fCw : Fc P w K mg base "check_word" [.tup (wordsL.map DL.D.str)] 2 2 cChkW := DW.fcD (N := ["value", "words"]) (ps := ["value", "words"]) ⟨rfl, rfl, rfl, by decide +kernel, rfl, by decide +kernel, by decide +kernel⟩ 1 0 (by simp) rfl (fun M Z H => .cons (rW M Z H) .nil) (fun _ _ _ _ _ _ _ us its h1 h2 => match us, its, h1, h2 with | [_], [_], _, _ => ⟨_, rfl, rfl⟩) (ok_check_word fIw)
  have fNr : Fc P w K mg base "number" [] 35 2 (cNum5 C 30) := (D 30 rfl (by decide +kernel)).fc (N := ["plan", "word"]) (ps := ["plan", "word"]) ⟨rfl, rfl, rfl, by decide +kernel, rfl, by decide +kernel, by decide +kernel⟩ (fun _ _ _ _ _ _ us hl => match us, hl with | [_, _], _ => rfl) (ok_number 30 XF fTold fCw (fFg 30) gTf)
  have fTk : Fc P w K mg base "_law_take" [] 1 2 cTake := (D 31 rfl (by decide +kernel)).fc (N := nTake) (ps := ["_law_pot_here", "_law_upto"]) ⟨rfl, rfl, rfl, by decide +kernel, rfl, by decide +kernel, by decide +kernel⟩ (fun _ _ _ _ _ _ us hl => match us, hl with | [_, _], _ => rfl) (ok_take F)
  have fSo : Fc P w K mg base "_law_some" [] 2 3 cSome := (D 32 rfl (by decide +kernel)).fc (N := nSome) (ps := ["_law_pot_here", "_law_pool", "_law_wanted"]) ⟨rfl, rfl, rfl, by decide +kernel, rfl, by decide +kernel, by decide +kernel⟩ (fun _ _ _ _ _ _ us hl => match us, hl with | [_, _, _], _ => rfl) (ok_some F fTk)
  have fCe : Fc P w K mg base "_law_cells" [] 1 2 cCells := (D 33 rfl (by decide +kernel)).fc (N := ["_law_script", "_law_most"]) (ps := ["_law_script", "_law_most"]) ⟨rfl, rfl, rfl, by decide +kernel, rfl, by decide +kernel, by decide +kernel⟩ (fun _ _ _ _ _ _ us hl => match us, hl with | [_, _], _ => rfl) (ok_cellsH F)
  have fPot : Fc P w K mg base "_law_pot" [] 1 2 cPotH := (D 34 rfl (by decide +kernel)).fc (N := nPotH) (ps := ["_law_script", "_law_place"]) ⟨rfl, rfl, rfl, by decide +kernel, rfl, by decide +kernel, by decide +kernel⟩ (fun _ _ _ _ _ _ us hl => match us, hl with | [_, _], _ => rfl) (ok_potH F)
  have tCt : Ct K mg "_law_caught" s__law_caught "_law_look" := ⟨D 35 rfl (by decide +kernel), (fun _ _ _ _ _ _ us hl => match us, hl with | [_], _ => rfl)⟩
  have tAn : Ct K mg "_law_answer" s__law_answer "_law_look" := ⟨D 36 rfl (by decide +kernel), (fun _ _ _ _ _ _ us hl => match us, hl with | [_], _ => rfl)⟩
  have fNf : Fc P w K mg base "_law_numbers_of" [] 36 1 (cNumsOf C) := (D 37 rfl (by decide +kernel)).fc (N := ["_law_plan", "_law_word"]) (ps := ["_law_plan"]) ⟨rfl, rfl, rfl, by decide +kernel, rfl, by decide +kernel, by decide +kernel⟩ (fun _ _ _ _ _ _ us hl => match us, hl with | [_], _ => rfl) (ok_numsof F fNr)
  have fDp : Fc P w K mg base "_law_is_deep_right" [] 81 0 (fun ds M Φ => ds = [] ∧ Φ (.bl true) M) := (D 38 rfl (by decide +kernel)).fc (N := nDeep) (ps := []) ⟨rfl, rfl, rfl, by decide +kernel, rfl, by decide +kernel, by decide +kernel⟩ (fun _ _ _ _ _ _ us hl => match us, hl with | [], _ => rfl) (ok_deep F (kPlan 36) pTxN pPeo fNo fNf)
  have fLg : Fc P w K mg base "_law_is_long_right" [] 81 1 cLong := (D 39 rfl (by decide +kernel)).fc (N := nLong) (ps := ["_law_spot"]) ⟨rfl, rfl, rfl, by decide +kernel, rfl, by decide +kernel, by decide +kernel⟩ (fun _ _ _ _ _ _ us hl => match us, hl with | [_], _ => rfl) (ok_long F (kPlan 36) pTxN pMnN fNo fNf mPa)
  have gRi : Gc P w K mg base "_law_right" 107 1 (cRgt3 T1) := D__law_right.gc (N := nRgt3) (ps := ["_law_pot_here"]) ⟨rfl, rfl, rfl, by decide +kernel, rfl, by decide +kernel, by decide +kernel⟩ (fun _ _ _ _ _ _ us hl => match us, hl with | [_], _ => rfl) (ok_right3 F (F.bn _ (by decide +kernel)) TB__law_right gB E_BadPlan tAn tCt fTk fSo (kPlan 36) xPlan pTxN pPeo pMnN mPa fDp fLg)
  exact fnG_ok (N := nLaw) (ps := ["_law_script"]) L ⟨rfl, rfl, rfl, by decide +kernel, rfl, by decide +kernel, by decide +kernel⟩ (ok_law03 F fCe fPot gRi)
theorem spLaw_okT {H : Hp} {a : Addr} {ns : List Int} {E : XK} {cs : List (Addr × Addr)} {T1 : Addr} (hO : OnlyT cs H) (m0 : T1 ∈ cs.map (·.2)) (hS : SqL K H a (ns.map V.int)) : spD K 1 (cLaw T1) [.ref a] H (fun v _ => v = .bl true) E := by
  have at_ : ∀ {T : Addr}, T ∈ cs.map (·.2) → H T = some (.tbl #[]) := fun hT => by
    obtain ⟨p, hp, rfl⟩ := List.mem_map.mp hT
    exact hO.1 p hp
  have rm : ∀ {M : Mp} {Z : Zn} {T : Addr} (qn : Str), T ∈ cs.map (·.2) → RepM K M Z H T (.tbl qn) := fun qn hT => ⟨#[], at_ hT, True.intro, fun pos cv hc => by
    have z : codeAmong pos [] = some cv := hc
    simp [codeAmong] at z⟩
  have ne : ∀ {T : Addr}, T ∈ cs.map (·.2) → Rd H a (.lst (ns.map V.int)) → a ≠ T := fun hT hr z => by
    have q := at_ hT
    rw [← z] at q
    rcases hr with r | ⟨o, r⟩
    · rw [q] at r; cases r
    · rw [q] at r; cases r
  refine ⟨[scrD ns], fun b => if b = T1 then some (MO.tbl qRgt3) else none, fun _ => False, fun d _ => d = .bl true, rfl, .cons ?_ .nil, ⟨fun b o e => ?_, fun b z => z.elim⟩, ⟨ns, rfl, by show (if T1 = T1 then some (MO.tbl qRgt3) else none) = _; rw [if_pos rfl], fun _ => rfl⟩, fun v d H' M' x w' r e => ?_⟩
  · rcases hS with h1 | h1
    · refine .rol h1 ⟨?_, id⟩ (Reps.ofInts ns)
      show (if a = T1 then some (MO.tbl qRgt3) else none) = none
      rw [if_neg (ne m0 h1)]
    · exact .rolK h1 (Reps.ofInts ns)
  · have e : (if b = T1 then some (MO.tbl qRgt3) else none) = some o := e
    by_cases h0 : b = T1
    · rw [if_pos h0] at e
      cases e; rw [h0]; exact rm _ m0
    rw [if_neg h0] at e; cases e
  · subst e; cases r; rfl
theorem facts {f : Addr} (X : K.In h) (G : h.Ns mainGlobals mg) (hfa : mg ("law" : Str) = some (.ref f)) (c : Says spec w K) (hf : (P.main.file == "/claim/cut.py") = true) (hs : (P.main.scope.names.lookup ("super" : Str)).isSome = false) :
    ∃ (fd : FuncData) (T1 : Addr) (cs : List (Addr × Addr)), (∀ (s : Shared) (v : Value), BindsTo s fd ⟨[v], []⟩ [("_law_script", v)]) ∧ (∀ p ∈ cs, K.lookup p.2 = none ∧ ∃ y ∈ tbsA, PySem.W.tabIn K y = some p) ∧ (T1 ∈ cs.map (·.2)) ∧ ∀ base : Heap, K.In base → base.Ns mainGlobals mg → (∀ p ∈ cs, LamX.TabB base mg p.1 p.2) → FnG P w K mg base 108 f fd ["_law_script"] (spD K 1 (cLaw T1)) := by
  obtain ⟨fd, L⟩ := c.dd 42 (d := gl "law" s_law) rfl
  have e := hfa.symm.trans (glo_ok X G (c.fa (f := .glo "law") (mem_glo (by decide +kernel))))
  cases e
  have b := FunD.bindsA (ps := ["_law_script"]) L fun _ _ _ _ _ _ us hl => match us, hl with | [_], _ => rfl
  obtain ⟨fi, DI⟩ := c.dd 0 rfl
  obtain ⟨p0, t0, l0⟩ := c.tbs (x := "_law_right") (by decide +kernel)
  have g0 := glo_ok X G (c.fa (f := .glo "_law_right") (mem_co 18 rfl))
  have d0 := mkDc X G c 41 (x := "_law_right") (st := s__law_right) rfl g0 t0
  refine ⟨fd, p0.2, [p0], fun s v => b s [v] rfl, fun p hp => ?_, (by simp), fun base _ _ TB => ?_⟩
  · simp only [List.mem_cons, List.not_mem_nil, or_false] at hp
    rcases hp with rfl
    · exact ⟨l0, _, by decide +kernel, t0⟩
  · exact chain (mkFx X G c) (mkPx X G c) ⟨_, _, propB_ok (c.pr (q := ("Plan", "people")) (by decide +kernel)), ⟨c.dd 6 rfl⟩⟩ ⟨_, meth_ok (c.fa (f := .meth "Plan" "part") (mem_co 16 rfl)), ⟨c.dd 8 rfl⟩⟩ (mkGx X G c) ⟨_, meth_ok (c.fa (f := .meth "Figures" "told_for") (mem_co 22 rfl)), ⟨c.dd 11 rfl⟩⟩ (let ⟨fd, F⟩ := c.dd 40 rfl; ⟨_, fd, F, glo_ok X G (c.fa (f := .glo "check_word") (mem_glo (by decide +kernel)))⟩) (c.txs (x := "WORDS") (zs := wordsL) (List.mem_singleton.mpr rfl)) (str_ok X G (c.fa (f := .str "PEOPLE" "people") (mem_co 23 rfl))) (str_ok X G (c.fa (f := .str "CIRCLE" "circle") (mem_co 24 rfl))) (str_ok X G (c.fa (f := .str "STRANGERS" "strangers") (mem_co 25 rfl))) (str_ok X G (c.fa (f := .str "ROWS" "rows") (mem_co 26 rfl))) (str_ok X G (c.fa (f := .str "HALL" "hall") (mem_co 27 rfl))) (glo_ok X G (c.fa (f := .glo "CrowdError") (mem_glo (by decide +kernel)))) (mkEk X G c hf hs (x := "BadPlan") (by decide +kernel) (by decide +kernel)) (mkEk X G c hf hs (x := "NoPart") (by decide +kernel) (by decide +kernel)) d0 (TB p0 (by simp)) ⟨_, fi, DI, glo_ok X G (c.fa (f := .glo "is_integer") (mem_glo (by decide +kernel)))⟩ (fun i {x st} hd hx => mkDf X G c i hd hx) L
end
end W
open PySem PySem.W PySem.Calls PyProof.Rows
theorem PySem.Challenge.cw_greetall_k03_bounds_of_texts_holds : PySem.Challenge.rw_greetall_k03_bounds_of_texts.Holds := by
  w_on; o_law
  refine HandSHeadRun.head_any (r := W.R) (q := view W.R.prog [68, 69]) (H := W.hk) (ob := W.ob) (M := 9000) (loose := W.names0 ++ W.names1 ++ W.names2) (d := HandSHeadRun.topDef W.R.prog 69) (kwd := []) W.ob_eq
    (by kernel_rfl) (fun s => by kernel_rfl) W.run (by kernel_rfl) (by kernel_rfl) (by kernel_rfl) (by rfl) (by first | assumption | decide +kernel) (by decide +kernel) ⟨rfl, rfl, rfl, rfl, rfl, by decide +kernel⟩ ?hw ?hc
  case hw => w_witness2
  case hc =>
    refine DL.walk_ofGT (l := PySem.Challenge.rw_greetall_k03_bounds_of_texts) (n := 63) (k := 108) (x := "_law_script") (names := W.tbsA) rfl (by decide) (by kernel_rfl) ⟨rfl, by decide, by decide⟩ (by decide +kernel) ?F
    intro w mg fa h Y G hmg0
    obtain ⟨K, KX, c⟩ := Y
    have hmg : mg ("law" : PySem.Str) = some (.ref fa) := by
      have e : (HandSHeadRun.topDef W.R.prog 69).name = ("law" : PySem.Str) := by kernel_rfl
      rw [← e]
      exact hmg0
    obtain ⟨fd, T1, cs, hb, ht, m0, hF⟩ := W.facts (P := (PySem.Challenge.rw_greetall_k03_bounds_of_texts).prog) (w := w) KX G hmg c (by rfl) (by decide +kernel)
    exact ⟨K, fd, DL.spD K 1 (W.cLaw T1), cs, KX, hb, ht, fun H a ns hl hO hS => W.spLaw_okT hO m0 hS, hF⟩
