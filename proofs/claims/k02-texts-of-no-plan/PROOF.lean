import PyProof.Rows.All
import Wide.All
import OpenK.AllK
import Wide.FinOn
import HandS.ForMost
import HandS.ForExc
import HandS.ExcInit
import HandS.IsInst
import KE.KExcSuper
import KE.KSuper
import KE.KSuperObj
import HandS.TryOnly
import KE.KExcIs
import KE.KIsAll
import HandS.Lambda
import HandS.Defaults
import HandS.Wide
import HandS.Flow
import HandS.Zip
import HandS.StrMore
import HandS.FStr
import HandS.Conv
import HandS.More
import HandS.Property
import HandS.OwnEq
import HandS.Slots
import HandS.TupAny
import HandS.Star
import HandS.Strs
import KE.GoesMore
import HandS.Style
import HandS.RaiseMore
import HandS.HeadEnd
import HandS.SortRule
import HandS.TupSets
import PyProof.ReprLen
import HandS.Codes
import KE.KUnpackStar
import HandS.Small
import HandS.Deep
import HandS.List
import HandS.Head0
import HandS.Head1
import HandS.Head2
import HandS.HeadHook1
import HandS.HeadHook2
import HandS.HeadHook3
import KE.KNest
import HandS.SetFor
import PyProof.Rows.SortShellAny
import HandS.EndOwn
import KE.KRevSl
import HandS.Replace
import HandS.ReplaceList
import HandS.Iter
import PyProof.StrLawsRepr
import KE.DataMinMax
import KE.GoesEnum
import HandS.NoneIn
import PySem.Challenge.RW_greetall_k02_texts_of_no_plan
set_option Elab.async false
set_option linter.all false
set_option maxRecDepth 100000
set_option maxHeartbeats 0
/-! XL1: an error of the package is made: its __init__ says super().__init__(value) and keeps the value. -/
namespace XL
open PySem PySem.W PySem.Calls PyProof.Rows PySem.HandSPX

def iA (p1 p2 : Pos) : Arguments := { posonlyargs := [], args := [{ arg := "self", annotation := none, pos := p1 }, { arg := "value", annotation := none, pos := p2 }], vararg := none, kwonlyargs := [], kw_defaults := [], kwarg := none, defaults := [] }
def iB (q1 q2 q3 q4 q5 q6 q7 q8 q9 q10 : Pos) : List Stmt :=
  [.Expr (.Call (.Attribute (.Call (.Name "super" q1) [] [] q2) "__init__" q3) [.Name "value" q4] [] q5) q6, .Assign [.Attribute (.Name "self" q7) "value" q8] (.Name "value" q9) q10]
/-- the text of __init__ -/
structure Shape (a : Arguments) (b : List Stmt) (sc : Scope) : Prop where
  args : ∃ p1 p2, a = iA p1 p2
  body : ∃ q1 q2 q3 q4 q5 q6 q7 q8 q9 q10, b = iB q1 q2 q3 q4 q5 q6 q7 q8 q9 q10 ∧ ∀ (q : Str) (L f : Addr) (cd : Value) (cc : Addr), ∃ pl : Sem Bool, eval (.Call (.Attribute (.Call (.Name "super" q1) [] [] q2) "__init__" q3) [.Name "value" q4] [] q5) (ksEnv q sc L f cd cc) = (do
    let ov ← attributeBase (.Call (.Name "super" q1) [] [] q2) "__init__" (ksEnv q sc L f cd cc) (eval (.Call (.Name "super" q1) [] [] q2) (ksEnv q sc L f cd cc))
    standAt q3.atName
    let (fn, first) ← holding [ov] (getMethod ov "__init__" pl)
    callWith q5 fn first (backTo q5 (starEach [.Name "value" q4] (ksEnv q sc L f cd cc))) [])
  kind : sc.kind = .function
  co : sc.isCoroutine = false
  gen : sc.isGenerator = false
  cellless : ∀ y ∈ sc.names, y.2 ≠ NameKind.cell
  self : sc.names.lookup ("self" : Str) = some .local
  value : sc.names.lookup ("value" : Str) = some .local
  cls : ∀ (q : Str) (L f : Addr) (cd : Value) (cc : Addr), (ksEnv q sc L f cd cc).kindOf "__class__" = some .free
  sup : ∀ (q : Str) (L f : Addr) (cd : Value) (cc : Addr), (ksEnv q sc L f cd cc).kindOf "super" = some .globalImplicit
  inter : ∀ (q : Str) (L f : Addr) (cd : Value) (cc : Addr), interactive (ksEnv q sc L f cd cc) = false
  kself : ∀ (q : Str) (L f : Addr) (cd : Value) (cc : Addr), (ksEnv q sc L f cd cc).kindOf "self" = some .local
  kvalue : ∀ (q : Str) (L f : Addr) (cd : Value) (cc : Addr), (ksEnv q sc L f cd cc).kindOf "value" = some .local
/-- what the written part says of the base class at B and its __init__ at fI, whose cell of the class stands at cl -/
structure CrTxt (P : Program) (K : Frag) (q : Str) (a : Arguments) (b : List Stmt) (sc : Scope) (B fI cl : Addr) : Prop where
  fn : ∃ (oc : Value) (od : Option Addr) (doc pm : Value) (an : Option Addr) (cc : Addr) (ct : Value) (osl : Array (Option Value)) (occ : Obj) (vs : Array Value) (file : Str) (tf : Tok),
    K.lookup fI = some ⟨oc, od, .func (ksFn "__init__" q a b sc .none .none doc pm an (.ref cc) ct cl), osl⟩ ∧ codeIn K (.ref cc) q = true ∧ K.lookup cc = some occ ∧ occ.data = .fields vs ∧ vs[2]? = some (.str file tf) ∧ (P.main.file == file) = true
  cell : ∃ o, K.lookup cl = some o ∧ o.data = .cell (some (.ref B))
  bcls : ∃ o cd, K.lookup B = some o ∧ o.data = .cls cd
  typ : typeIn K (.ref fI) = some (.type "function")
  sup : (P.main.scope.names.lookup ("super" : Str)).isSome = false
  nsS : nsIn K cStatics "thirdparty.any" = some none
/-- what it says of one of the errors, at C -/
structure ErTxt (K : Frag) (mg : Str → Option Value) (x : Str) (C B fI : Addr) : Prop where
  gC : mg x = some (.ref C)
  cls : ∃ nm q N bs bm sn sub ab col dd k0 k1 k2 k3 k5, K.lookup C = some (excClassObj nm q C N bs bm true sn sub ab col dd k0 k1 k2 k3 k5 "ValueError.__new__") ∧ refsVE bm = true
  ini : excInitIn K C [.type "ValueError", .type "Exception", .type "BaseException", .type "object"] "ValueError.__new__" = true
  sa : findIn K (.ref C) "__setattr__" = some (some (.builtin "object.__setattr__"))
  ga : findIn K (.ref C) "__getattribute__" = some (some (.builtin "BaseException.__getattribute__"))
  gg : findIn K (.ref C) "__getattr__" = some none
  noV : findIn K (.ref C) "value" = some none
  iC : findIn K (.ref C) "__init__" = some (some (.ref fI))
  kC : keepIn K (.ref C) = true
  exC : subIn K (.ref C) (.type "BaseException") = some true
  veC : subIn K (.ref C) (.type "ValueError") = some true
  sB : subIn K (.ref C) (.ref B) = some true
  tyC : typeIn K (.ref C) = some (.type "type")
  hdC : hasDictIn K C = true
  sup : ks_superIn K C B "__init__" = some (some (.builtin "ValueError.__init__"))
/-- what __init__ leaves of a fresh error at x -/
structure InitEnd (h h' : Heap) (x C dx t1 : Addr) (v : Value) : Prop where
  keep : ∀ b o, h.get? b = some o → h'.get? b = some o
  obj : h'.get? x = some { cls := .ref C, dict := some dx, data := .fields #[.ref t1, .none, .none, .none, .bool false, .none] }
  dbig : h.objs.size ≤ dx
  dne : dx ≠ x
  ns : h'.Ns1 dx (fun y => if y = "value" then some v else none)
theorem one_size (v : Value) : [v].length ≤ sizeLine := by
  rw [sizeLine_eq]
  exact (by decide : 1 ≤ 16777216)
theorem at_of_any {α : Type} {M : Model} {A : Around} {c : Code} {t : Sem α} {Q : α → Shared → Prop} {E : Value → Shared → Prop} {s : Shared} (h : wpAny M A t Q E s) : PySem.wpAt M A c t Q E s := fun Γ p _ hA => h Γ p hA
theorem ldC {M : Model} {A : Around} {s : Shared} {E : Value → Shared → Prop} {env : Env} {m : Str → Option Value} {x : Str} {pos : Pos} {v : Value} {Q : Value → Shared → Prop} (hn : s.heap.Ns env.locals m) (hv : m x = some v) (h : Q v s)
    (hk : env.scope.kind = .function) (hl : env.kindOf x = some .local) (hd : (x == ("__debug__" : Str)) = false) : wpAny M A (eval (.Name x pos) env) Q E s := wpAny_Name (wpAny_loadName_local hk hl hn hv h) hd
section
variable {prog : Program} {w : World} {A : Around} {E : Value → Shared → Prop} {R : Result → Shared → Prop} {K : Frag} {mg : Str → Option Value} {C B fI cl : Addr} {q x : Str} {a : Arguments} {b : List Stmt} {sc : Scope}
theorem crowd_init (T : CrTxt prog K q a b sc B fI cl) (S : Shape a b sc) (G : ErTxt K mg x C B fI) {h0 : Heap} (M : L2.Mod K mg h0) (hms : mg "super" = none) {hp : Heap} {g : Array GenState} {dr : Drawn} {tk0 : Nat} {os : OsState} {xo t0 : Addr} {v : Value} (k0 : ∀ b o, h0.get? b = some o → hp.get? b = some o) (hsz : h0.objs.size ≤ hp.objs.size)
    (hlim : hp.NoLimit) (hx : hp.get? xo = some (excO C t0)) (hnx : h0.get? xo = none) (hroom : A.depth < recursionLimit)
    (hq : ∀ h' tk dx t1, InitEnd h0 h' xo C dx t1 v → R (.ok (.ret .none)) ⟨h', g, dr, tk, os⟩) :
    codeAny (model prog w) A (.call (.ref fI) ⟨[.ref xo, v], []⟩) R ⟨hp, g, dr, tk0, os⟩ := by
  obtain ⟨oc, od, doc, pm, an, cc, ct, osl, occ, vs, file, tf, ho, hcd, hcc, hvs, hv2, hfile⟩ := T.fn
  obtain ⟨oce, hce, hced⟩ := T.cell
  obtain ⟨oB, cdB, hB, hBd⟩ := T.bcls
  obtain ⟨p1, p2, rfl⟩ := S.args
  obtain ⟨q1, q2, q3, q4, q5, q6, q7, q8, q9, q10, rfl, meth⟩ := S.body
  obtain ⟨nm, qn, N, bs, bm, sn, sub, ab, col, dd, y0, y1, y2, y3, y5, hC, hbm⟩ := G.cls
  have hcl : clsIn K C = some { name := nm, bases := bs, mro := .ref C :: bm, ns := N, qualname := qn, hasDict := true, slotNames := sn, subclasses := sub, abstract := ab, collection := col, hasDel := false } := by unfold clsIn; rw [hC] <;> rfl
  have X0 := M.kin
  have X : K.In hp := fun b o e => k0 b o (X0 b o e)
  refine ks_codeAny_call_defAt (binds := [("self", .ref xo), ("value", v)]) hroom (X _ _ ho) rfl hlim (codeRec_of X hcd) rfl (BindsTo.of_eq (by first | rfl | with_unfolding_all rfl)) S.cellless ?_ (fun h₁ hn k1 => ?_) S.co S.gen S.kind
  · intro y hy
    rcases List.mem_cons.mp hy with rfl | hy
    · exact S.self
    · rw [List.mem_singleton.mp hy]; exact S.value
  have X1 : K.In h₁ := fun b o e => k1 b o (X b o e)
  have k01 : ∀ b o, h0.get? b = some o → h₁.get? b = some o := fun b o e => k1 b o (k0 b o e)
  have hx1 : h₁.get? xo = some (excO C t0) := k1 _ _ hx
  have hxL : hp.objs.size ≠ xo := Nat.ne_of_gt (Heap.lt_size hx)
  obtain ⟨mb, nb, hmb⟩ := M.blt
  show PySem.wpAt _ (A.deeper (ksEnv q sc hp.objs.size fI (.ref cc) cl)) (Code.func (iB q1 q2 q3 q4 q5 q6 q7 q8 q9 q10) (ksEnv q sc hp.objs.size fI (.ref cc) cl)) (execs (iB q1 q2 q3 q4 q5 q6 q7 q8 q9 q10) (ksEnv q sc hp.objs.size fI (.ref cc) cl)) _ _ _
  obtain ⟨pl, hpl⟩ := meth q hp.objs.size fI (.ref cc) cl
  refine ks_wpAt_execs_cons (ks_wpAt_Expr_any (hi := S.inter _ _ _ _ _) (ks_wpAt_MethodCall (pl := pl) (he := hpl) (ks_wpAt_super_base (f := fI) (cc := cc) (S.sup _ _ _ _ _) (S.cls _ _ _ _ _) (by decide) rfl (X1 _ _ ho) rfl rfl rfl (X1 _ _ hcc) hvs hv2 hfile T.sup ?_)))
  refine ks_loadName_global S.kind (S.sup _ _ _ _ _) (Calls.loadGlobal_builtin (M.glob.keeps k01) hms (nb.keeps k01) ((hmb "super" (by decide)).trans rfl) ?_)
  refine ⟨rfl, wpAny_loadName_free S.kind (S.cls _ _ _ _ _) (c := cl) (v := .ref B) rfl ⟨oce, X1 _ _ hce, hced⟩ ?_⟩
  refine wpAny_loadName_local S.kind (S.kself _ _ _ _ _) hn (v := .ref xo) rfl ?_
  refine ks_wpAny_isType_cls (X1 _ _ hB) hBd ⟨rfl, ?_⟩
  refine ks_wpAny_call_super (X1 _ _ hB) hBd hx1 rfl (fun c => by intro h; cases h) (looks_subIn X1 G.sB) fun h2 hso k2 => ?_
  have hn2 := hn.keeps k2
  have hL : h0.objs.size ≤ hp.objs.size := hsz
  have fr2 : Fr h0 hp.objs.size h2 (fun x => List.lookup x [(("self" : Str), Value.ref xo), (("value" : Str), v)].reverse) := ⟨hn2, fun b o e => k2 b o (k01 b o e), hL⟩
  have hxso : h₁.objs.size ≠ xo := Nat.ne_of_gt (Heap.lt_size hx1)
  have nw2 : News h0 hp.objs.size h2 [(h₁.objs.size, ks_superObj B xo C), (xo, excO C t0)] := fun p hp => by
    rcases List.mem_cons.mp hp with rfl | hp
    · refine ⟨hso, Ne.symm (Nat.ne_of_lt hn.lt), ?_⟩
      cases e : h0.get? h₁.objs.size with
      | none => rfl
      | some o => exact absurd (Heap.lt_size (k01 _ _ e)) (Nat.lt_irrefl _)
    · rw [List.mem_singleton.mp hp]
      exact ⟨k2 _ _ hx1, fun z => hxL z.symm, hnx⟩
  refine kxs_method (odx := none) kxs_ValueError fr2 X0 nw2 List.mem_cons_self ⟨k2 _ _ hx1, rfl, rfl, trivial⟩ T.nsS G.sup G.veC (by decide) fun q3' h3 fr3 nw3 lt3 => ?_
  refine kxs_callWith1 nw3 List.mem_cons_self ?_
  refine spliced_cons (ldC (m := fun x => List.lookup x [(("self" : Str), Value.ref xo), (("value" : Str), v)].reverse) (v := v) fr3.ns rfl ?_ S.kind (S.kvalue _ _ _ _ _) (by decide))
  refine spliced_nil ⟨kxs_at nw3 List.mem_cons_self, ?_⟩
  refine kxs_call (C := C) (t := t0) (dv := none) (c2 := .none) fr3 X0 nw3 F.excBase_ValueError G.ini List.mem_cons_self (UpdF.tail (fun z => ?_) (UpdF.tail hxso (UpdF.head (fun p hp => by cases hp)))) (one_size v) fun t' h' fr' nw' lt' => ?_
  · exact Nat.ne_of_gt (lt3 (xo, excO C t0) (List.mem_cons_of_mem _ List.mem_cons_self)) z
  have X5 : K.In h' := fun b o e => fr'.keep b o (X0 b o e)
  have hx5 : h'.get? xo = some (excO C t') := (nw' (xo, excObj C t' none .none) (List.mem_cons_of_mem _ (List.mem_cons_of_mem _ (List.mem_cons_of_mem _ List.mem_cons_self)))).1
  -- self.value = value
  refine at_of_any (wpAny_execs_cons (plainObj_wpAny_Assign_Attribute ?_))
  refine ldC fr'.ns (v := v) rfl ?_ S.kind (S.kvalue _ _ _ _ _) (by decide)
  refine ldC fr'.ns (v := .ref xo) rfl ?_ S.kind (S.kself _ _ _ _ _) (by decide)
  refine set_plain X5 (ox := excO C t') (od := none) ⟨hx5, rfl, rfl, trivial⟩ G.sa ?_
  refine exc_osa X5 hx5 hcl (show refsVE (.ref C :: bm) = true from hbm) rfl G.noV (fun h6 tk6 dx k6 dn dne hx6 hn6 => ?_)
  have zz : hp.objs.size < h'.objs.size := fr'.ns.lt
  refine wpAny_execs_nil (hq h6 tk6 dx t' ⟨fun b o e => k6 b o (fun z => ?_) (fr'.keep b o e), hx6, Nat.le_trans (Nat.le_trans hsz (Nat.le_of_lt zz)) dn, dne, hn6⟩)
  rw [z, hnx] at e; cases e
end
end XL
/-! XL2: errors of the package, made to be raised. -/
namespace XL
open PySem PySem.W PySem.Calls PyProof.Rows PySem.HandSPX L2
/-- a made error -/
structure OwnMade (h h' : Heap) (e C d : Addr) (v : Value) : Prop where
  keep : ∀ b o, h.get? b = some o → h'.get? b = some o
  new : h.objs.size ≤ e
  obj : ∃ oe vs, h'.get? e = some oe ∧ oe.cls = .ref C ∧ oe.dict = some d ∧ oe.data = .fields vs ∧ vs[1]? = some .none
  dbig : h.objs.size ≤ d
  dne : d ≠ e
  ns : h'.Ns1 d (fun y => if y = "value" then some v else none)
/-- one of the errors, at C, under the name x -/
structure Er (P : Program) (K : Frag) (mg : Str → Option Value) (x : Str) (C : Addr) : Prop where
  ex : ∃ (B fI cl : Addr) (q : Str) (a : Arguments) (b : List Stmt) (sc : Scope), CrTxt P K q a b sc B fI cl ∧ Shape a b sc ∧ ErTxt K mg x C B fI
  sup : mg "super" = none
theorem Mod.keeps {K : Frag} {mg : Str → Option Value} {h h' : Heap} (M : L2.Mod K mg h) (k : ∀ b o, h.get? b = some o → h'.get? b = some o) : L2.Mod K mg h' := by
  obtain ⟨mb, nb, hmb⟩ := M.blt
  exact ⟨M.kin.keeps k, M.glob.keeps k, ⟨mb, nb.keeps k, hmb⟩, M.nolimit.keeps k⟩
section
variable {prog : Program} {w : World} {A : Around} {R : Result → Shared → Prop} {K : Frag} {mg : Str → Option Value} {C : Addr} {x : Str}
theorem crowd_made (T : Er prog K mg x C) {hp : Heap} {g : Array GenState} {dr : Drawn} {tk : Nat} {os : OsState} {v : Value} (M : L2.Mod K mg hp) (hroom : A.depth + 1 < recursionLimit)
    (hq : ∀ h' tk e d, OwnMade hp h' e C d v → R (.ok (.ret (.ref e))) ⟨h', g, dr, tk, os⟩) :
    codeAny (model prog w) A (.call (.ref C) ⟨[v], []⟩) R ⟨hp, g, dr, tk, os⟩ := by
  obtain ⟨B, fI, cl, q, a, b, sc, T1, S, G⟩ := T.ex
  obtain ⟨nm, qn, N, bs, bm, sn, sub, ab, col, dd, k0, k1, k2, k3, k5, hC, hbm⟩ := G.cls
  have X := M.kin
  have k : ∀ b o, hp.get? b = some o → ((hp.push (kdv_tup [v])).push (excO C hp.objs.size)).get? b = some o := fun b o e => Heap.get?_push_of_some _ (Heap.get?_push_of_some _ e)
  have hget : ((hp.push (kdv_tup [v])).push (excO C hp.objs.size)).get? (hp.objs.size + 1) = some (excO C hp.objs.size) := by heap_get
  have hnx : hp.get? (hp.objs.size + 1) = none := by
    cases e : hp.get? (hp.objs.size + 1) with
    | none => rfl
    | some o => exact absurd (Nat.lt_of_succ_lt (Heap.lt_size e)) (Nat.lt_irrefl _)
  refine call_own F.excBase_ValueError (fun X => refsVE_contains X bm hbm) (X _ _ hC) (looks_findIn X G.iC) (fun self => bind_fn X self T1.typ) (one_size v) ?_
  refine crowd_init T1 S G M T.sup k (by rw [Heap.size_push, Heap.size_push]; omega) (M.nolimit.keeps k) hget hnx hroom fun h' tk' dx t1 I => ?_
  exact ⟨rfl, hq h' tk' (hp.objs.size + 1) dx ⟨I.keep, Nat.le_succ _, ⟨_, _, I.obj, rfl, rfl, rfl, rfl⟩, I.dbig, I.dne, I.ns⟩⟩
end
theorem relO_value {v : V} {v' : Value} (r : RelV v v') (f : Str) : RelO (List.lookup f [(("value" : Str), v)]) (if f = "value" then some v' else none) := by
  by_cases hw : f = "value"
  · subst hw
    rw [if_pos rfl]
    have q : List.lookup ("value" : Str) [(("value" : Str), v)] = some v := by simp [List.lookup]
    rw [q]
    exact r
  · rw [if_neg hw]
    have qw : (f == ("value" : Str)) = false := by simpa using hw
    have q2 : List.lookup f [(("value" : Str), v)] = none := by simp [List.lookup, qw]
    rw [q2]
    trivial
section
variable {X : Cx} {C : Addr} {x : Str}
/-- C(e) -/
def tMkE (C : Addr) (ta : TA) : L2.St → Hp → XK → Prop := fun σ H Q => ta σ H fun vs H1 => ∃ v, vs = [v] ∧ ∀ d, H1 d = none → Q (.ref C) (some d) (upd H1 d (.xd [(("value" : Str), v)]))
theorem pmk_err {a : Expr} {ta : TA} {p pos : Pos} {k : Nat} (T : Er X.prog X.K X.mg x C) (hr : Room k X.A) (ha : PA X [a] ta) (hg : Gl X x) (hdb : (x == ("__debug__" : Str)) = false)
    (he : starEach (a :: []) X.env = (false, eval a X.env) :: starEach [] X.env := by rfl) (hpl : (backTo pos (starEach [] X.env)).any (·.1) = false := by rfl) :
    PMk X (.Call (.Name x p) [a] [] pos) (tMkE C ta) := by
  intro pins s σ H Q I h
  obtain ⟨B, fI, cl, q, aa, b, sc, T1, S, G⟩ := T.ex
  refine wpAny_Call_Name_kw (ld_glob I hg G.gC ?_ hdb)
  refine PySem.W.callWith_K (h₀ := X.base) I.ok.mod.kin G.kC (thn (ha.run pos pins s σ H _ I h) fun us s1 hh => ?_) he hpl
  obtain ⟨vs, H1, I1, r1, v, ev, q1⟩ := hh
  subst ev
  refine ⟨I1.kIn, ?_⟩
  cases r1 with
  | cons rv rn =>
    rename_i v' us'
    cases rn
    show wpAny _ _ (call (.ref C) [v']) _ _ _
    obtain ⟨hp, g, dr, tk, os⟩ := s1
    refine wpAny_call (crowd_made T (Mod.keeps I1.mod I1.bk) (by have := hr.dp; omega) fun h' tk' e d M => ?_)
    show MkP X pins σ Q (.ref e) ⟨h', g, dr, tk', os⟩
    obtain ⟨oe, fv, hoe, hc, hd, hdat, h1⟩ := M.obj
    have hns := M.ns
    obtain ⟨G', g1, g2⟩ := restrict h' fun b => decide (b ≠ e)
    have gk : ∀ b, b ≠ e → G'.get? b = h'.get? b := fun b hb => g1 b (decide_eq_true hb)
    have ge : G'.get? e = none := g2 e (by simp)
    have old : ∀ b o, hp.get? b = some o → G'.get? b = some o := fun b o q => (gk b (Nat.ne_of_lt (Nat.lt_of_lt_of_le (Heap.lt_size q) M.new))).trans (M.keep b o q)
    have ob : ObjOk X.prog X.w (upd H1 d (.xd [(("value" : Str), v)])) G' d (.xd [(("value" : Str), v)]) :=
      ⟨_, hns.at (fun o q => (gk d M.dne).trans q), fun f => relO_value rv f⟩
    have J : Inv X pins σ (upd H1 d (.xd [(("value" : Str), v)])) ⟨G', g, dr, tk', os⟩ := I1.laid (t' := tk') old M.dbig ob
    refine ⟨e, oe, fv, ⟨G', g, dr, tk', os⟩, _, .ref C, some d, rfl, J, fun b o q => ?_, ge, hoe, ⟨hc, hd⟩, hdat, h1, ?_, rfl, I1.bare, raises_own G.exC G.tyC, q1 d (I1.hok.fresh M.dbig)⟩
    · by_cases hb : b = e
      · have q' : G'.get? b = some o := q
        rw [hb, ge] at q'; cases q'
      · exact (gk b hb).symm.trans q
    · rw [upd_ne (Ne.symm M.dne)]
      exact I1.hok.fresh M.new
/-- raise C(e) -/
theorem ps_raiseE {a : Expr} {ta : TA} {W : WX} {p pos pos2 : Pos} {k : Nat} (hc : X.calm = true) (T : Er X.prog X.K X.mg x C) (hr : Room k X.A) (tk : Takes X W) (ha : PA X [a] ta) (hg : Gl X x) (hdb : (x == ("__debug__" : Str)) = false)
    (he : starEach (a :: []) X.env = (false, eval a X.env) :: starEach [] X.env := by rfl) (hpl : (backTo pos (starEach [] X.env)).any (·.1) = false := by rfl) :
    PS X (.Raise (some (.Call (.Name x p) [a] [] pos)) none pos2) (fun _ σ H => tMkE C ta σ H fun cls d H' => W cls d σ H') := ps_raise hc tk (pmk_err T hr ha hg hdb he hpl)
end
end XL
/-! XL3: a caught error is kept as a value. -/
namespace XL
open PySem PySem.W PySem.Calls PyProof.Rows PySem.HandSPX L2
/-- an error object: its class, its own dict -/
def XV (a : Addr) (cls : Value) (d : Option Addr) : HO := .ext fun h => ∃ oe vs, h.get? a = some oe ∧ Zc cls d oe ∧ oe.data = .fields vs
theorem xv_ok {P : Program} {w : World} {H : Hp} {h : Heap} {a : Addr} {cls : Value} {d : Option Addr} {oe : Obj} {vs : Array Value} (e : h.get? a = some oe) (z : Zc cls d oe) (f : oe.data = .fields vs) : ObjOk P w H h a (XV a cls d) := by
  unfold XV ObjOk
  refine ⟨⟨oe, vs, e, z, f⟩, ⟨oe, e⟩, fun h1 h2 p k => ?_⟩
  obtain ⟨oe, vs, e, r⟩ := p
  exact ⟨oe, vs, k _ e, r⟩
theorem xv_get {P : Program} {w : World} {H : Hp} {h : Heap} {a : Addr} {cls : Value} {d : Option Addr} (k : HOk P w H h) (e : H a = some (XV a cls d)) : ∃ oe vs, h.get? a = some oe ∧ Zc cls d oe ∧ oe.data = .fields vs := by
  have := k a _ e
  unfold XV ObjOk at this
  exact this.1
theorem paired_imp {α β : Type} {R R' : α → β → Prop} (k : ∀ x y, R x y → R' x y) : ∀ {xs : List α} {ys : List β}, Paired R xs ys → Paired R' xs ys
  | _, _, .nil => .nil
  | _, _, .cons h t => .cons (k _ _ h) (paired_imp k t)
theorem objOk_give {P : Program} {w : World} {H : Hp} {h : Heap} {a b : Addr} {o u : HO} (hn : H a = none) (k : ObjOk P w H h b u) : ObjOk P w (upd H a o) h b u := by
  have up : ∀ {c : Addr} {z : HO}, H c = some z → upd H a o c = some z := fun {c z} e => by
    rw [upd_ne (fun q => by rw [q, hn] at e; cases e)]; exact e
  induction u with
  | dT kvs =>
    obtain ⟨h1, h2, xs, h3, r⟩ := k
    refine ⟨h1, h2, xs, ?_, r⟩
    exact paired_imp (fun p q ⟨y1, y2, y3⟩ => ⟨y1, up y2, y3⟩) h3
  | ins C dx fs =>
    obtain ⟨h1, r⟩ := k
    exact ⟨up h1, r⟩
  | frz o u ih => exact ⟨k.1, ih k.2⟩
  | lst xs => exact k
  | tup xs => exact k
  | dK xs => exact k
  | set S n => exact k
  | own x => exact k
  | xd fs => exact k
  | rng lo hi => exact k
  | tbl ps => exact k
  | met f x => exact k
  | ext φ => exact k
theorem inv_give {X : Cx} {pins : List (Addr × Obj)} {σ : L2.St} {H : Hp} {s : Shared} {a : Addr} {o : HO} (I : L2.Inv X pins σ H s) (hn : H a = none) (hnb : ∀ xs, o ≠ HO.tbl xs) (h0 : X.s_0.heap.get? a = none) (nL : a ≠ X.env.locals) (nC : ∀ v, ¬ s.heap.IsCell a v)
    (nP : ∀ p ∈ X.pn ++ pins, p.1 ≠ a) (ob : ObjOk X.prog X.w (upd H a o) s.heap a o) : L2.Inv X pins σ (upd H a o) s := by
  refine ⟨I.ok, I.os, I.bare, ⟨I.base.keep, I.base.slot, fun b u e f g => ?_, I.base.there, fun b xs e => ?_, fun b u z e => ?_, fun b ps e => ?_⟩, I.loc, I.cell, ?_, fun x c e => ?_, fun p hp => ?_, fun b u e => ?_, I.len⟩
  · by_cases q : b = a
    · rw [q, h0] at e; cases e
    · rw [upd_ne q]; exact I.base.free b u e f g
  · have z := I.base.tups b xs e
    rw [upd_ne (fun q => by rw [q, hn] at z; cases z)]; exact z
  · have y := I.base.frzs b u z e
    rw [upd_ne (fun q => by rw [q, hn] at y; cases y)]; exact y
  · obtain ⟨more, y⟩ := I.base.tbls b ps e
    exact ⟨more, by rw [upd_ne (fun q => by rw [q, hn] at y; cases y)]; exact y⟩
  · rw [upd_ne (Ne.symm nL)]; exact I.free
  · rw [upd_ne (fun q => ?_)]
    · exact I.freeC x c e
    · obtain ⟨v, hv⟩ := I.cell x c e
      rw [q] at hv; exact nC v hv
  · obtain ⟨p1, p2, r⟩ := I.pin p hp
    exact ⟨p1, by rw [upd_ne (nP p hp)]; exact p2, r⟩
  · by_cases q : b = a
    · rw [q, upd_same] at e
      cases e
      rw [q]; exact ob
    · rw [upd_ne q] at e
      exact objOk_give hn (I.hok b u e)
end XL
/-! XL4: try .. except X as e, the error kept as a value behind it. -/
namespace XL
open PySem PySem.W PySem.Calls PyProof.Rows PySem.HandSPX L2
def endsV (i : Nat) (a : Addr) (cls : Value) (d : Option Addr) (D : Ends) : Ends :=
  { nx := fun σ' H' => D.nx (σ'.set i none) (upd H' a (XV a cls d)), rt := fun v H' => D.rt v (upd H' a (XV a cls d)), bk := fun σ' H' => D.bk (σ'.set i none) (upd H' a (XV a cls d)), ct := fun σ' H' => D.ct (σ'.set i none) (upd H' a (XV a cls d)) }
def wAsV (K : Frag) (c : Value) (i : Nat) (ts : Addr → Value → Option Addr → TS) (Wout : WX) (D : Ends) : WX := fun cls d σ H =>
  ∃ b, exmOne K cls c = some b ∧ (b = true → ∀ a, H a = none → ts a cls d (endsV i a cls d D) (σ.set i (some (.ref a))) H) ∧ (b = false → Wout cls d σ H)
theorem ps_try_asV {X : Cx} {x n : Str} {c : Value} {i : Nat} {body suite : List Stmt} {b₀ : Stmt} {np pos pos' : Pos} {tb : WX → TS} {ts : Addr → Value → Option Addr → TS} {Wout : WX}
    (hs : X.stack = X.env :: X.outer) (hf : X.env.frame = some X.env.locals) (hex : X.ex = []) (hN : X.N.Nodup) (hi : X.N[i]? = some n) (hln : X.env.kindOf n = some .local) (hc : Names X x c) (tk : Takes X Wout)
    (hb : ∀ (W : WX) (pn : List (Addr × Obj)) (xe : Value → Shared → Prop), Takes (X.tr pn xe) W → PassesOwn (model X.prog X.w) X.A X.env xe → PSs (X.tr pn xe) body (tb W))
    (hsu : ∀ (a : Addr) (oe : Obj) (cls : Value) (d : Option Addr) (pn : List (Addr × Obj)), Zc cls d oe → (∃ vs, oe.data = .fields vs) → PSs (X.suite a ((a, oe) :: pn)) (b₀ :: suite) (ts a cls d)) :
    PS X (.Try body [.ExceptHandler (some (.Name x np)) (some n) (b₀ :: suite) pos'] [] [] pos) (fun D σ H => tb (wAsV X.K c i ts Wout D) D σ H) := ⟨fun pins s σ H D I h => by
  have ok := I.ok
  have hfr : X.A.frames = some (X.env :: X.outer) := by rw [ok.frames, hs]
  have hloc : X.env.kindOf n = some .local ∨ X.env.kindOf n = some .cell := Or.inl hln
  refine wpAny_Try_except (wpAny_mono ((hb (wAsV X.K c i ts Wout D) (X.pn ++ pins) (fun e s₁ => wpAny (model X.prog X.w) X.A (noteFrame e X.env) (fun _ s₂ => wpAny (model X.prog X.w) X.A (setFlight e none) (fun _ s₃ =>
    wpAny (model X.prog X.w) X.A (handleBy e X.env [.ExceptHandler (some (.Name x np)) (some n) (b₀ :: suite) pos']) (SP X pins D) X.xe s₃) X.xe s₂) X.xe s₁) ?_ PassesOwn.looking).run [] s σ H D (I.toTry _) h) (fun f s1 hsp => ?_) (fun e s1 he => he))
  · intro u s' xx
    obtain ⟨a, B, sI, pins', σ', H', cls, d, rfl, J', nb, up, sky, na, os, ag, b, hb1, hyes, hno⟩ := xx
    have J := J'.ofTry ok
    have sky' : Sky B (X.env :: X.outer) a (Zc cls d) X.env.locals s'.heap := by rw [← hs]; exact sky
    refine Sky.land Zc.steady hfr hf sky' fun h3 fl3 up3 => ?_
    have J3 := J.landed (s' := ⟨h3, s'.gens, s'.drawn, s'.toks, s'.os⟩) nb fl3.1 (up.trans up3) os ag
    obtain ⟨oe3, vs3, he3, hz3, hd3⟩ := fl3.there
    have ha0 : B.get? a = none := fl3.2.1
    have nfr : a ∉ frs (X.env :: X.outer) := fun hm => by
      obtain ⟨_, o', e', hnf⟩ := fl3.2.2.1.mem hm
      rw [he3] at e'; cases e'
      exact hnf _ hd3
    have nL : a ≠ X.env.locals := fun z => nfr (List.mem_filterMap.mpr ⟨X.env, List.mem_cons_self, by rw [hf, z]⟩)
    have nF : a ∉ X.fs := fun hm => by
      obtain ⟨e, he, q⟩ := List.mem_filterMap.mp hm
      exact nfr (List.mem_filterMap.mpr ⟨e, List.mem_cons_of_mem _ he, q⟩)
    have nfr' : a ∉ frs X.stack := by rw [hs]; exact nfr
    have hsI : sI.heap.get? a = none := by
      cases e : sI.heap.get? a with
      | none => rfl
      | some o => have := nb a o e nfr'; rw [ha0] at this; cases this
    have hs0 : X.s_0.heap.get? a = none := by
      cases e : X.s_0.heap.get? a with
      | none => rfl
      | some o =>
        obtain ⟨o', q⟩ := J.base.there a o e (by rw [hex]; exact List.not_mem_nil)
        rw [hsI] at q; cases q
    have hpn : ∀ p ∈ X.pn ++ pins, p.1 ≠ a := fun p hp z => by
      have q := (J.pin p hp).1
      rw [z, hsI] at q; cases q
    have S3 := J3.suite he3 hd3 na nL nF
    refine wpAny_handleBy_cons (codeAny_handlers_test ?_) ?_
    · have LT : ∀ A Q E s, (∀ b o, h3.get? b = some o → s.heap.get? b = some o) → Q cls s → wpAny (model X.prog X.w) A (typeOf (Value.ref a)) Q E s := fun A Q E s k q => wpAny_typeOf_ref (k a oe3 he3) (by rw [hz3.1]; exact q)
      have LM := W.exm_one J3.kIn LT hb1
      have test : ∀ {Q : Value → Shared → Prop} {E : Value → Shared → Prop}, Q c ⟨h3, s'.gens, s'.drawn, s'.toks, s'.os⟩ → wpAny (model X.prog X.w) (X.A.mark (some (Value.ref a))) (eval (.Name x np) X.env) Q E ⟨h3, s'.gens, s'.drawn, s'.toks, s'.os⟩ := fun {Q E} q => by
        obtain ⟨hg, hdbg, hm | ⟨hm, hv, hnn⟩⟩ := hc
        · exact ld_glob S3 hg hm q hdbg
        · exact ld_blt S3 hg hm hv q hnn hdbg
      refine test (LM.here ?_)
      cases b with
      | false =>
        refine wpAny_handleBy_nil ?_
        obtain ⟨k1, k2, k3, oe, vs, T, oT, ts', he, hz, hd, h1, hr⟩ := id fl3
        refine wpAny_bind (wpAny_field he hd h1 ?_)
        rw [if_neg (by simp)]
        refine wpAny_bind ?_
        show wpAny _ _ (setFlight (Value.ref a) X.env.frame) _ _ _
        rw [hf]
        refine HandSPX.setFlight_upZ fl3 fun h4 hh4 up4 => wpAny_throw (tk _ _ ⟨a, B, sI, pins, σ', H', cls, d, rfl, J, nb, (up.trans up3).trans up4, .inr (.inr ?_), na, os, ag, hno rfl⟩)
        rw [hs]; exact hh4
      | true =>
        refine codeAny_handlers_suite_as ?_
        refine HandSPX.lands_againZ fl3 fun h4 fl4 up4 => ?_
        have J4 := J.landed (s' := ⟨h4, s'.gens, s'.drawn, s'.toks, s'.os⟩) nb fl4.1 ((up.trans up3).trans up4) os ag
        obtain ⟨oe4, vs4, he4, hz4, hd4⟩ := fl4.there
        have S4 := J4.suite he4 hd4 na nL nF
        refine store_ok (X := X.suite a ((a, oe4) :: (X.pn ++ pins))) (v := .ref a) S4 hN hi hloc rfl (fun s5 S5 => ?_) (Or.inr hln)
        refine wpAny_mono ((hsu a oe4 cls d (X.pn ++ pins) hz4 ⟨vs4, hd4⟩).run [] s5 (σ'.set i (some (.ref a))) H' (endsV i a cls d D) S5 (hyes rfl a na)) (fun f s6 hsp => ?_) (fun _ _ z => z.elim)
        have giv : ∀ {σ6 : L2.St} {H6 : Hp} {s6 : Shared}, L2.Inv (X.suite a ((a, oe4) :: (X.pn ++ pins))) [] σ6 H6 s6 → L2.Inv X pins σ6 (upd H6 a (XV a cls d)) s6 := fun {σ6 H6 s6} S6 => by
          obtain ⟨p1, p2, p3, p4, p5⟩ := S6.pin (a, oe4) (List.mem_append_left _ List.mem_cons_self)
          refine inv_give (S6.unsuite ok) p2 (fun xs z => by cases z) hs0 nL (fun v hv => ?_) hpn (xv_ok p1 hz4 hd4)
          obtain ⟨o, y1, y2⟩ := hv
          rw [p1] at y1; cases y1
          exact p5 _ y2
        have end_ : ∀ {σ6 : L2.St} {H6 : Hp} {s6 : Shared} {Q : Unit → Shared → Prop}, L2.Inv (X.suite a ((a, oe4) :: (X.pn ++ pins))) [] σ6 H6 s6 → (∀ s7, L2.Inv X pins (σ6.set i none) (upd H6 a (XV a cls d)) s7 → Q () s7) → wpAny (model X.prog X.w) X.A (do bindName X.env n Value.none; unbindBehindTheSuite X.env n pos') Q X.xe s6 :=
          fun {σ6 H6 s6 Q} S6 hq => gone_ok (giv S6) hN hi hln hq
        cases f with
        | next => obtain ⟨σ6, H6, S6, q6⟩ := hsp; exact end_ S6 fun s7 J7 => ⟨_, _, J7, q6⟩
        | brk => obtain ⟨σ6, H6, S6, q6⟩ := hsp; exact end_ S6 fun s7 J7 => ⟨_, _, J7, q6⟩
        | cont => obtain ⟨σ6, H6, S6, q6⟩ := hsp; exact end_ S6 fun s7 J7 => ⟨_, _, J7, q6⟩
        | ret u => obtain ⟨v6, σ6, H6, S6, r6, q6⟩ := hsp; exact end_ S6 fun s7 J7 => ⟨v6, _, _, J7, r6, q6⟩
    · intro q
      cases q
  · cases f with
    | next => obtain ⟨σ', H', J', q⟩ := hsp; exact wpAny_execs_nil ⟨σ', H', J'.ofTry ok, q⟩
    | brk => obtain ⟨σ', H', J', q⟩ := hsp; exact ⟨σ', H', J'.ofTry ok, q⟩
    | cont => obtain ⟨σ', H', J', q⟩ := hsp; exact ⟨σ', H', J'.ofTry ok, q⟩
    | ret u => obtain ⟨v, σ', H', J', r, q⟩ := hsp; exact ⟨v, σ', H', J'.ofTry ok, r, q⟩⟩
end XL
/-! XL5: an error that is a value: isinstance, its field. -/
namespace XL
open PySem PySem.W PySem.Calls PyProof.Rows PySem.HandSPX L2
/-- what isinstance and a field ask of the class at C -/
structure ErV (K : Frag) (C : Addr) : Prop where
  cl : (clsIn K C).isSome = true
  ga : findIn K (.ref C) "__getattribute__" = some (some (.builtin "BaseException.__getattribute__"))
  gg : findIn K (.ref C) "__getattr__" = some none
  exC : subIn K (.ref C) (.type "BaseException") = some true
  hdC : hasDictIn K C = true
  noV : findIn K (.ref C) "value" = some none
  ha : findIn K (.ref C) "__class__" = some (some (.builtin "object.__class__"))
  hn : specialIn K (.builtin "object.__class__") "__get__" = some (some (.builtin "getset_descriptor.__get__"))
  ht : takesIn K (.builtin "object.__class__") = some true
  hm : mroIn K C (.type "object") = some true
section
variable {X : Cx} {C : Addr}
theorem xv_inst {pins : List (Addr × Obj)} {σ : L2.St} {H : Hp} {s : Shared} {a dd : Addr} {fs : List (Str × V)} (I : L2.Inv X pins σ H s) (e : H a = some (XV a (.ref C) (some dd))) (ed : H dd = some (.xd fs)) :
    ∃ oe od mA, InstAt s.heap a oe C (some od) ∧ s.heap.get? dd = some od ∧ s.heap.Ns1 dd mA ∧ ∀ f, RelO (fs.lookup f) (mA f) := by
  obtain ⟨oe, vs, h1, z, h2⟩ := xv_get I.hok e
  have hx : ObjOk X.prog X.w H s.heap dd (.xd fs) := I.hok dd _ ed
  obtain ⟨mA, hns, hr⟩ := hx
  obtain ⟨od, ho, hl⟩ := lookIn_ns hns
  refine ⟨oe, od, mA, ⟨h1, z.1, by unfold PySem.W.notCls; rw [h2] <;> rfl, by rw [z.2]; exact ho⟩, ho, hns, hr⟩
theorem call_isV (c : V) (cv : Value) (hcv : ∀ u, RelV c u → u = cv) : CallR X (.builtin "isinstance") (fun xs H Q => ∃ a C dd fs b, xs = [.ref a, c] ∧ ErV X.K C ∧ H a = some (XV a (.ref C) (some dd)) ∧ H dd = some (.xd fs) ∧ kitOne X.K (.ref C) cv = some b ∧ Q (.bl b) H) := by
  intro pins s σ H xs us Q I r h
  obtain ⟨a, C, dd, fs, b, rfl, E, ea, ed, hk, q⟩ := h
  obtain ⟨oe, od, mA, J, _⟩ := xv_inst I ea ed
  cases r with
  | cons r1 r2 =>
    cases r2 with
    | cons r3 r4 =>
      cases r4
      obtain rfl : _ = Value.ref a := r1
      obtain rfl := hcv _ r3
      exact kia_one (kitx_exc E.cl E.ga E.gg E.exC E.ha E.hn E.ht E.hm) I.kIn J hk (by intro z; cases z) fun tk => ⟨.bl b, H, I.kept fun _ _ z => z, rfl, q⟩
theorem pe_valV {e : Expr} {te : TE} {pos : Pos} {n : Str} (he : PE X e te) (hb : attributeBase e n X.env (eval e X.env) = eval e X.env) :
    PE X (.Attribute e n pos) (fun σ H Q => te σ H fun x H1 => ∃ (a C dd : Addr) (fs : List (Str × V)) (v : V), x = .ref a ∧ ErV X.K C ∧ findIn X.K (.ref C) n = some none ∧ H1 a = some (XV a (.ref C) (some dd)) ∧ H1 dd = some (.xd fs) ∧ fs.lookup n = some v ∧ Q v H1) := by
  refine ⟨fun pins s σ H Q I h => ?_⟩
  refine attr_of hb (thn (he.run pins s σ H _ I h) fun u s1 hh => ?_)
  obtain ⟨x, H1, I1, rx, a, C, dd, fs, v, rfl, E, hno, ea, ed, hl, q⟩ := hh
  obtain rfl : u = Value.ref a := rx
  obtain ⟨oe, od, mA, J, ho, hns, hr⟩ := xv_inst I1 ea ed
  obtain ⟨od', ho', hlo⟩ := lookIn_ns hns
  rw [ho] at ho'; cases ho'
  obtain ⟨u, hu, ru⟩ := RelO.some_of (v := v) (o := mA n) (by rw [← hl]; exact hr n)
  exact HandSPX.exc_get I1.kIn J E.ga E.gg E.exC (PySem.W.findObj_own E.hdC hno rfl (by rw [hlo, hu])) (handed_of ru) ⟨v, H1, I1.tok _, ru, q⟩
end
end XL
/-! XL6: a lambda is a value. -/
namespace XL
open PySem PySem.W PySem.Calls PyProof.Rows PySem.HandSPX L2 LamX
/-- a lambda at f, its code object at c' -/
def LamO (f : Addr) (q : Str) (params : Arguments) (body : Expr) (scope : Scope) (cells : List (Str × Addr)) (c' : Addr) : HO := .ext fun h => ∃ pm ctv, h.get? f = some (W.kla_obj "<lambda>" q params body scope cells pm c' ctv)
theorem lamO_ok {P : Program} {w : World} {H : Hp} {h : Heap} {f : Addr} {q : Str} {params : Arguments} {body : Expr} {scope : Scope} {cells : List (Str × Addr)} {c' : Addr} {pm ctv : Value} (e : h.get? f = some (W.kla_obj "<lambda>" q params body scope cells pm c' ctv)) : ObjOk P w H h f (LamO f q params body scope cells c') := by
  unfold LamO ObjOk
  refine ⟨⟨pm, ctv, e⟩, ⟨_, e⟩, fun h1 h2 p k => ?_⟩
  obtain ⟨pm, ctv, e⟩ := p
  exact ⟨pm, ctv, k _ e⟩
theorem lamO_get {P : Program} {w : World} {H : Hp} {h : Heap} {f : Addr} {q : Str} {params : Arguments} {body : Expr} {scope : Scope} {cells : List (Str × Addr)} {c' : Addr} (k : HOk P w H h) (e : H f = some (LamO f q params body scope cells c')) : ∃ pm ctv, h.get? f = some (W.kla_obj "<lambda>" q params body scope cells pm c' ctv) := by
  have := k f _ e
  unfold LamO ObjOk at this
  exact this.1
theorem give_lam {X : Cx} {pins : List (Addr × Obj)} {σ : L2.St} {H H1 : Hp} {s s1 : Shared} {f : Addr} {q : Str} {params : Arguments} {body : Expr} {scope : Scope} {cells : List (Str × Addr)} {c' : Addr} {pm ctv : Value} (I : L2.Inv X pins σ H s) (I1 : L2.Inv X pins σ H1 s1) (hex : X.ex = []) (hf : s.heap.objs.size ≤ f) (hn : H1 f = none)
    (e : s1.heap.get? f = some (W.kla_obj "<lambda>" q params body scope cells pm c' ctv)) : L2.Inv X pins σ (upd H1 f (LamO f q params body scope cells c')) s1 := by
  have old : ∀ b o, s.heap.get? b = some o → b ≠ f := fun b o k z => by
    have := Heap.lt_size k
    rw [z] at this
    exact absurd this (Nat.not_lt.mpr hf)
  refine inv_give I1 hn (fun xs z => by cases z) ?_ (fun z => ?_) (fun v hv => ?_) (fun p hp => old p.1 p.2 (I.pin p hp).1) (lamO_ok e)
  · cases k : X.s_0.heap.get? f with
    | none => rfl
    | some o =>
      obtain ⟨o', k'⟩ := I.base.there f o k (by rw [hex]; exact List.not_mem_nil)
      exact absurd rfl (old f o' k')
  · have := I.lt
    rw [← z] at this
    exact absurd this (Nat.not_lt.mpr hf)
  · obtain ⟨o, y1, y2⟩ := hv
    rw [e] at y1; cases y1
    cases y2
/-- a lambda is made -/
theorem lam_make3 {X : Cx} {pins : List (Addr × Obj)} {σ : L2.St} {H : Hp} {s : Shared} {c P : Addr} {params : Arguments} {body : Expr} {scope : Scope} {pos : Pos} {E Q : Value → Shared → Prop} (I : L2.Inv X pins σ H s) (TB : TabB X.base X.mg c P) (hcode : X.env.code = .ref c) (hex : X.ex = []) (hT : TabS H P (X.env.qual ++ "<lambda>"))
    (hdef : defaultsOf params X.env = ([], [])) (hfree : ∀ y ∈ scope.names, y.2 = NameKind.free → ∃ c, X.env.cells.lookup y.1 = some c)
    (h : ∀ (f c' : Addr) (H1 : Hp) (s' : Shared), L2.Inv X pins σ H1 s' → (∀ b o, H b = some o → b ≠ P → H1 b = some o) → TabS H1 P (X.env.qual ++ "<lambda>") → H f = none →
      H1 f = some (LamO f (X.env.qual ++ "<lambda>") params body scope (cloFrom X.env.cells scope.names []) c') → H1 c' = some (CodeO c' (X.env.qual ++ "<lambda>")) → f ≠ c' → c' ≠ P → (H c' = none ∨ ∃ ps pos, H P = some (.tbl ps) ∧ codeAmong pos ps.toList = some (.ref c')) → Q (.ref f) s') :
    wpAny (model X.prog X.w) X.A (eval (.Lambda params body scope pos) X.env) Q E s := by
  obtain ⟨ps, hP, ht, ha⟩ := hT
  refine W.kla_eval hdef ?_
  have bP := TB.bm.keeps I.bk
  have hP' := I.hok P (.tbl ps) hP
  cases hc : codeAmong pos ps.toList with
  | none =>
    refine W.kla_makeFunction (closure_ok hfree) I.ok.glob (I.mod.glob.keeps I.bk) hcode (TB.code.keeps I.bk) hP' ht hc TB.gP bP fun c' ctv h' tk hx hge hlt hrec htb => ?_
    obtain ⟨c2, oc, vs, t, e2, hoc, hd, hv⟩ := hrec
    cases e2
    have hsz : s.heap.objs.size ≤ h'.objs.size := Nat.le_trans hge (Nat.le_of_lt hlt)
    have nC : H c' = none := I.hok.fresh hge
    have I1 := inv_table (t' := tk) I hP (fun b o hb e => Heap.get?_push_of_some (W.kla_obj "<lambda>" (X.env.qual ++ "<lambda>") params body scope (cloFrom X.env.cells scope.names []) ((X.mg "__name__").getD .none) c' ctv) (hx b o hb e)) (Heap.get?_push_of_some _ htb) hge ⟨oc, vs, t, Heap.get?_push_of_some _ hoc, hd, hv⟩
    have n1 : h'.objs.size ≠ c' := Nat.ne_of_gt hlt
    have n2 : h'.objs.size ≠ P := Nat.ne_of_gt (Nat.lt_of_lt_of_le (Heap.lt_size hP') hsz)
    have n3 : c' ≠ P := fun z => by rw [z, hP] at nC; cases nC
    have fN0 : H h'.objs.size = none := I.hok.fresh hsz
    have fN : (upd (upd H P (.tbl (ps ++ #[rawInt pos.line, rawInt pos.col, .ref c']))) c' (CodeO c' (X.env.qual ++ "<lambda>"))) h'.objs.size = none := by rw [upd_ne n1, upd_ne n2]; exact fN0
    have I2 := give_lam I I1 hex hsz fN (Heap.get?_push_size h' rfl)
    have kk : ∀ b o, H b = some o → b ≠ P → (upd (upd (upd H P (.tbl (ps ++ #[rawInt pos.line, rawInt pos.col, .ref c']))) c' (CodeO c' (X.env.qual ++ "<lambda>"))) h'.objs.size (LamO h'.objs.size (X.env.qual ++ "<lambda>") params body scope (cloFrom X.env.cells scope.names []) c')) b = some o := fun b o e n => by
      rw [upd_ne (ne_of_none e fN0), upd_ne (ne_of_none e nC), upd_ne n]; exact e
    have hc1 : (upd (upd (upd H P (.tbl (ps ++ #[rawInt pos.line, rawInt pos.col, .ref c']))) c' (CodeO c' (X.env.qual ++ "<lambda>"))) h'.objs.size (LamO h'.objs.size (X.env.qual ++ "<lambda>") params body scope (cloFrom X.env.cells scope.names []) c')) c' = some (CodeO c' (X.env.qual ++ "<lambda>")) := by rw [upd_ne (Ne.symm n1), upd_same]
    have eL : (ps ++ #[rawInt pos.line, rawInt pos.col, .ref c']).toList = ps.toList ++ [rawInt pos.line, rawInt pos.col, .ref c'] := by simp
    refine h _ c' _ _ I2 kk ⟨_, by rw [upd_ne (Ne.symm n2), upd_ne (Ne.symm n3), upd_same], by rw [eL]; exact TriplesOk_snoc _ _ _ _ ht, fun p' cv hcv => ?_⟩ fN0 upd_same hc1 n1 n3 (.inl nC)
    rw [eL] at hcv
    rcases among_app ps.toList ht hcv with z | z
    · obtain ⟨c0, e1, e2⟩ := ha p' cv z
      exact ⟨c0, e1, kk c0 _ e2 (fun q => by rw [q, hP] at e2; cases e2)⟩
    · exact ⟨c', z, hc1⟩
  | some cv =>
    obtain ⟨c', rfl, hco⟩ := ha pos cv hc
    refine W.kla_makeFunctionHit (closure_ok hfree) I.ok.glob (I.mod.glob.keeps I.bk) hcode (TB.code.keeps I.bk) hP' ht hc bP fun ctv h' tk hx hsz => ?_
    have I1 := I.kept (t' := tk) fun b o e => Heap.get?_push_of_some (W.kla_obj "<lambda>" (X.env.qual ++ "<lambda>") params body scope (cloFrom X.env.cells scope.names []) ((X.mg "__name__").getD .none) c' ctv) (hx b o e)
    have fN0 : H h'.objs.size = none := I.hok.fresh hsz
    have I2 := give_lam I I1 hex hsz fN0 (Heap.get?_push_size h' rfl)
    have kk : ∀ b o, H b = some o → (upd H h'.objs.size (LamO h'.objs.size (X.env.qual ++ "<lambda>") params body scope (cloFrom X.env.cells scope.names []) c')) b = some o := fun b o e => by
      rw [upd_ne (ne_of_none e fN0)]; exact e
    refine h _ c' _ _ I2 (fun b o e _ => kk b o e) ⟨ps, kk _ _ hP, ht, fun p' cv hcv => ?_⟩ fN0 upd_same (kk _ _ hco) (fun z => by rw [z, hco] at fN0; cases fN0) (fun z => by rw [z, hP] at hco; cases hco) (.inr ⟨ps, pos, hP, hc⟩)
    obtain ⟨c0, e1, e2⟩ := ha p' cv hcv
    exact ⟨c0, e1, kk c0 _ e2⟩
end XL
/-! DL1: data without addresses over the hand layer: values D, the mutable objects M, what stands for what (Rep), judgements by weakest preconditions over data. -/
namespace DL
open PySem L2

/-- a value as data: immutable things by what they hold, mutable ones by their address -/
inductive D where
  | non | bl (b : Bool) | int (i : Int) | str (x : Str)
  | lst (xs : List D) | rol (xs : List D) | tup (xs : List D)
  | dK (kvs : List (Key × D)) | dT (kvs : List (List Key × D))
  | ins (C : Addr) (fs : List (Str × D))
  | ty (n : String) | fn (a : Addr) | ob (a : Addr)
  | key (ks : List Key)
  | fig (C : Addr) (ns : List Int)
  | exc (C : Addr) (fs : List (Str × D))
  | lam (q : Str) (params : Arguments) (body : Expr) (scope : Scope) (cells : List (Str × Addr))
  | fdK (kvs : List (Key × D))

/-- a mutable object's content -/
inductive MO where
  | lst (xs : List D) | dK (kvs : List (Key × D)) | dT (kvs : List (List Key × D)) | ins (C : Addr) (fs : List (Str × D)) | tbl (q : Str) | fdK (kvs : List (Key × D))

abbrev Mp := Addr → Option MO
abbrev Rho := List (Option D)
def mset (M : Mp) (a : Addr) (o : MO) : Mp := fun b => if b = a then some o else M b
def mdel (M : Mp) (a : Addr) : Mp := fun b => if b = a then none else M b
theorem mset_same {M : Mp} {a : Addr} {o : MO} : mset M a o a = some o := if_pos rfl
theorem mset_ne {M : Mp} {a b : Addr} {o : MO} (h : b ≠ a) : mset M a o b = M b := if_neg h
theorem mdel_same {M : Mp} {a : Addr} : mdel M a a = none := if_pos rfl
theorem mdel_ne {M : Mp} {a b : Addr} (h : b ≠ a) : mdel M a b = M b := if_neg h
theorem mset_mset {M : Mp} {a : Addr} {o u : MO} : mset (mset M a o) a u = mset M a u := by
  funext b; unfold mset; split <;> rfl
theorem mdel_mset {M : Mp} {a : Addr} {o : MO} (h : M a = none) : mdel (mset M a o) a = M := by
  funext b; unfold mdel
  by_cases e : b = a
  · rw [if_pos e, e, h]
  · rw [if_neg e, mset_ne e]

/-- addresses that stand hidden: nothing that the code reads leads there -/
abbrev Zn := Addr → Prop
/-- neither mutable nor hidden -/
def Im (M : Mp) (Z : Zn) (a : Addr) : Prop := M a = none ∧ ¬ Z a
/-- a list, a tuple of the written part -/
def WrL (K : PySem.W.Frag) (a : Addr) (xs : List V) : Prop := ∃ (o : Obj) (its : Array Value) (n : Nat), K.lookup a = some o ∧ o.cls = .type "list" ∧ o.dict = none ∧ o.data = .seq its n ∧ its.size ≤ sizeLine ∧ Vals xs its.toList
def WrT (K : PySem.W.Frag) (a : Addr) (xs : List V) : Prop := ∃ (o : Obj) (its : Array Value) (n : Nat), K.lookup a = some o ∧ o.cls = .type "tuple" ∧ o.data = .seq its n ∧ its.size ≤ sizeLine ∧ Vals xs its.toList

mutual
/-- the value v stands for the data d -/
inductive Rep (K : PySem.W.Frag) (M : Mp) (Z : Zn) (H : Hp) : V → D → Prop where
  | non : Rep K M Z H .non .non
  | bl (b : Bool) : Rep K M Z H (.bl b) (.bl b)
  | int (i : Int) : Rep K M Z H (.int i) (.int i)
  | str (x : Str) : Rep K M Z H (.str x) (.str x)
  | ty (n : String) : Rep K M Z H (.ty n) (.ty n)
  | fn (a : Addr) : Rep K M Z H (.ref a) (.fn a)
  | ob (a : Addr) : Rep K M Z H (.ref a) (.ob a)
  | lst {a : Addr} {vs : List V} {ds : List D} (h : H a = some (.lst vs)) (m : Im M Z a) (r : Reps K M Z H vs ds) : Rep K M Z H (.ref a) (.lst ds)
  | rol {a : Addr} {vs : List V} {ds : List D} (h : Rd H a (.lst vs)) (m : Im M Z a) (r : Reps K M Z H vs ds) : Rep K M Z H (.ref a) (.rol ds)
  | rolK {a : Addr} {vs : List V} {ds : List D} (h : WrL K a vs) (r : Reps K M Z H vs ds) : Rep K M Z H (.ref a) (.rol ds)
  | tup {a : Addr} {vs : List V} {ds : List D} (h : Rd H a (.tup vs)) (m : Im M Z a) (r : Reps K M Z H vs ds) : Rep K M Z H (.ref a) (.tup ds)
  | tupK {a : Addr} {vs : List V} {ds : List D} (h : WrT K a vs) (r : Reps K M Z H vs ds) : Rep K M Z H (.ref a) (.tup ds)
  | dK {a : Addr} {vs : List (Key × V)} {ds : List (Key × D)} (h : H a = some (.dK vs)) (m : Im M Z a) (r : RepK K M Z H vs ds) : Rep K M Z H (.ref a) (.dK ds)
  | dT {a : Addr} {vs : List (List Key × V)} {ds : List (List Key × D)} (h : H a = some (.dT vs)) (m : Im M Z a) (r : RepT K M Z H vs ds) : Rep K M Z H (.ref a) (.dT ds)
  | ins {a C dx : Addr} {vs : List (Str × V)} {ds : List (Str × D)} (h : H a = some (.ins C dx vs)) (m : Im M Z a) (r : RepF K M Z H vs ds) : Rep K M Z H (.ref a) (.ins C ds)
  | key {a : Addr} {ks : List Key} (h : H a = some (.tup (ks.map kV))) (m : Im M Z a) : Rep K M Z H (.ref a) (.key ks)
  | fig {a C dx : Addr} {ns : List Int} (h : H a = some (SlX.SlO a C dx (ns.map fun i => some (V.int i)))) (hd : H dx = some (.xd [])) (m : Im M Z a) (md : Im M Z dx) : Rep K M Z H (.ref a) (.fig C ns)
  | exc {a C dd : Addr} {vs : List (Str × V)} {ds : List (Str × D)} (h : H a = some (XL.XV a (.ref C) (some dd))) (hd : H dd = some (.xd vs)) (m : Im M Z a) (md : Im M Z dd) (r : RepF K M Z H vs ds) : Rep K M Z H (.ref a) (.exc C ds)
  | lam {a c : Addr} {q : Str} {ps : Arguments} {b : Expr} {sc : Scope} {cl : List (Str × Addr)} (h : H a = some (XL.LamO a q ps b sc cl c)) (hc : H c = some (LamX.CodeO c q)) (m : Im M Z a) (mc : Im M Z c) : Rep K M Z H (.ref a) (.lam q ps b sc cl)
  | fdK {a : Addr} {o : Obj} {vs : List (Key × V)} {ds : List (Key × D)} (h : H a = some (.frz o (.dK vs))) (m : Im M Z a) (r : RepK K M Z H vs ds) : Rep K M Z H (.ref a) (.fdK ds)
inductive Reps (K : PySem.W.Frag) (M : Mp) (Z : Zn) (H : Hp) : List V → List D → Prop where
  | nil : Reps K M Z H [] []
  | cons {v : V} {d : D} {vs : List V} {ds : List D} (r : Rep K M Z H v d) (t : Reps K M Z H vs ds) : Reps K M Z H (v :: vs) (d :: ds)
inductive RepK (K : PySem.W.Frag) (M : Mp) (Z : Zn) (H : Hp) : List (Key × V) → List (Key × D) → Prop where
  | nil : RepK K M Z H [] []
  | cons {k : Key} {v : V} {d : D} {vs : List (Key × V)} {ds : List (Key × D)} (r : Rep K M Z H v d) (t : RepK K M Z H vs ds) : RepK K M Z H ((k, v) :: vs) ((k, d) :: ds)
inductive RepT (K : PySem.W.Frag) (M : Mp) (Z : Zn) (H : Hp) : List (List Key × V) → List (List Key × D) → Prop where
  | nil : RepT K M Z H [] []
  | cons {k : List Key} {v : V} {d : D} {vs : List (List Key × V)} {ds : List (List Key × D)} (r : Rep K M Z H v d) (t : RepT K M Z H vs ds) : RepT K M Z H ((k, v) :: vs) ((k, d) :: ds)
inductive RepF (K : PySem.W.Frag) (M : Mp) (Z : Zn) (H : Hp) : List (Str × V) → List (Str × D) → Prop where
  | nil : RepF K M Z H [] []
  | cons {k : Str} {v : V} {d : D} {vs : List (Str × V)} {ds : List (Str × D)} (r : Rep K M Z H v d) (t : RepF K M Z H vs ds) : RepF K M Z H ((k, v) :: vs) ((k, d) :: ds)
end

/-- what is immutable stays, what is hidden stays -/
def Ext (M : Mp) (Z : Zn) (H : Hp) (M' : Mp) (H' : Hp) : Prop := (∀ b o, H b = some o → Im M Z b → H' b = some o ∧ Im M' Z b) ∧ ∀ b, Z b → H' b = H b ∧ M' b = M b
theorem Ext.refl {M : Mp} {Z : Zn} {H : Hp} : Ext M Z H M H := ⟨fun _ _ h m => ⟨h, m⟩, fun _ _ => ⟨rfl, rfl⟩⟩
theorem Ext.trans {M M1 M2 : Mp} {Z : Zn} {H H1 H2 : Hp} (a : Ext M Z H M1 H1) (b : Ext M1 Z H1 M2 H2) : Ext M Z H M2 H2 := ⟨fun c o h m =>
  b.1 c o (a.1 c o h m).1 (a.1 c o h m).2, fun c z => ⟨(b.2 c z).1.trans (a.2 c z).1, (b.2 c z).2.trans (a.2 c z).2⟩⟩
theorem Ext.rd {M M' : Mp} {Z : Zn} {H H' : Hp} {a : Addr} {u : HO} (e : Ext M Z H M' H') (h : Rd H a u) (m : Im M Z a) : Rd H' a u := by
  rcases h with h | ⟨o, h⟩
  · exact .inl (e.1 _ _ h m).1
  · exact .inr ⟨o, (e.1 _ _ h m).1⟩
theorem Ext.md {M M' : Mp} {Z : Zn} {H H' : Hp} {a : Addr} {u : HO} (e : Ext M Z H M' H') (h : Rd H a u) (m : Im M Z a) : Im M' Z a := by
  rcases h with h | ⟨o, h⟩
  · exact (e.1 _ _ h m).2
  · exact (e.1 _ _ h m).2

/-- .. among other hidden ones -/
def ExI (M : Mp) (Z : Zn) (H : Hp) (M' : Mp) (Z' : Zn) (H' : Hp) : Prop := ∀ b o, H b = some o → Im M Z b → H' b = some o ∧ Im M' Z' b
theorem Ext.i {M M' : Mp} {Z : Zn} {H H' : Hp} (e : Ext M Z H M' H') : ExI M Z H M' Z H' := e.1
theorem ExI.refl {M : Mp} {Z : Zn} {H : Hp} : ExI M Z H M Z H := fun _ _ h m => ⟨h, m⟩
theorem ExI.trans {M M1 M2 : Mp} {Z Z1 Z2 : Zn} {H H1 H2 : Hp} (a : ExI M Z H M1 Z1 H1) (b : ExI M1 Z1 H1 M2 Z2 H2) : ExI M Z H M2 Z2 H2 := fun c o h m => b c o (a c o h m).1 (a c o h m).2
theorem ExI.rd {M M' : Mp} {Z Z' : Zn} {H H' : Hp} {a : Addr} {u : HO} (e : ExI M Z H M' Z' H') (h : Rd H a u) (m : Im M Z a) : Rd H' a u := by
  rcases h with h | ⟨o, h⟩
  · exact .inl (e _ _ h m).1
  · exact .inr ⟨o, (e _ _ h m).1⟩
theorem ExI.md {M M' : Mp} {Z Z' : Zn} {H H' : Hp} {a : Addr} {u : HO} (e : ExI M Z H M' Z' H') (h : Rd H a u) (m : Im M Z a) : Im M' Z' a := by
  rcases h with h | ⟨o, h⟩
  · exact (e _ _ h m).2
  · exact (e _ _ h m).2
section
variable {K : PySem.W.Frag} {M M' : Mp} {Z Z' : Zn} {H H' : Hp}
mutual
theorem Rep.monoI (e : ExI M Z H M' Z' H') : ∀ {v : V} {d : D}, Rep K M Z H v d → Rep K M' Z' H' v d
  | _, _, .non => .non
  | _, _, .bl b => .bl b
  | _, _, .int i => .int i
  | _, _, .str x => .str x
  | _, _, .ty n => .ty n
  | _, _, .fn a => .fn a
  | _, _, .ob a => .ob a
  | _, _, .lst h m r => .lst (e _ _ h m).1 (e _ _ h m).2 (Reps.monoI e r)
  | _, _, .rol h m r => .rol (e.rd h m) (e.md h m) (Reps.monoI e r)
  | _, _, .rolK h r => .rolK h (Reps.monoI e r)
  | _, _, .tup h m r => .tup (e.rd h m) (e.md h m) (Reps.monoI e r)
  | _, _, .tupK h r => .tupK h (Reps.monoI e r)
  | _, _, .dK h m r => .dK (e _ _ h m).1 (e _ _ h m).2 (RepK.monoI e r)
  | _, _, .dT h m r => .dT (e _ _ h m).1 (e _ _ h m).2 (RepT.monoI e r)
  | _, _, .ins h m r => .ins (e _ _ h m).1 (e _ _ h m).2 (RepF.monoI e r)
  | _, _, .key h m => .key (e _ _ h m).1 (e _ _ h m).2
  | _, _, .fig h hd m md => .fig (e _ _ h m).1 (e _ _ hd md).1 (e _ _ h m).2 (e _ _ hd md).2
  | _, _, .exc h hd m md r => .exc (e _ _ h m).1 (e _ _ hd md).1 (e _ _ h m).2 (e _ _ hd md).2 (RepF.monoI e r)
  | _, _, .lam h hc m mc => .lam (e _ _ h m).1 (e _ _ hc mc).1 (e _ _ h m).2 (e _ _ hc mc).2
  | _, _, .fdK h m r => .fdK (e _ _ h m).1 (e _ _ h m).2 (RepK.monoI e r)
theorem Reps.monoI (e : ExI M Z H M' Z' H') : ∀ {v : List V} {d : List D}, Reps K M Z H v d → Reps K M' Z' H' v d
  | _, _, .nil => .nil
  | _, _, .cons r t => .cons (Rep.monoI e r) (Reps.monoI e t)
theorem RepK.monoI (e : ExI M Z H M' Z' H') : ∀ {v : List (Key × V)} {d : List (Key × D)}, RepK K M Z H v d → RepK K M' Z' H' v d
  | _, _, .nil => .nil
  | _, _, .cons r t => .cons (Rep.monoI e r) (RepK.monoI e t)
theorem RepT.monoI (e : ExI M Z H M' Z' H') : ∀ {v : List (List Key × V)} {d : List (List Key × D)}, RepT K M Z H v d → RepT K M' Z' H' v d
  | _, _, .nil => .nil
  | _, _, .cons r t => .cons (Rep.monoI e r) (RepT.monoI e t)
theorem RepF.monoI (e : ExI M Z H M' Z' H') : ∀ {v : List (Str × V)} {d : List (Str × D)}, RepF K M Z H v d → RepF K M' Z' H' v d
  | _, _, .nil => .nil
  | _, _, .cons r t => .cons (Rep.monoI e r) (RepF.monoI e t)
end
end
section
variable {K : PySem.W.Frag} {M M' : Mp} {Z : Zn} {H H' : Hp}
theorem Rep.mono (e : Ext M Z H M' H') {v : V} {d : D} (r : Rep K M Z H v d) : Rep K M' Z H' v d := r.monoI e.i
theorem Reps.mono (e : Ext M Z H M' H') {v : List V} {d : List D} (r : Reps K M Z H v d) : Reps K M' Z H' v d := r.monoI e.i
theorem RepK.mono (e : Ext M Z H M' H') {v : List (Key × V)} {d : List (Key × D)} (r : RepK K M Z H v d) : RepK K M' Z H' v d := r.monoI e.i
theorem RepT.mono (e : Ext M Z H M' H') {v : List (List Key × V)} {d : List (List Key × D)} (r : RepT K M Z H v d) : RepT K M' Z H' v d := r.monoI e.i
theorem RepF.mono (e : Ext M Z H M' H') {v : List (Str × V)} {d : List (Str × D)} (r : RepF K M Z H v d) : RepF K M' Z H' v d := r.monoI e.i
end

theorem Reps.length {K : PySem.W.Frag} {M : Mp} {Z : Zn} {H : Hp} : ∀ {vs : List V} {ds : List D}, Reps K M Z H vs ds → vs.length = ds.length
  | _, _, .nil => rfl
  | _, _, .cons _ t => by rw [List.length_cons, List.length_cons, t.length]
theorem Reps.get {K : PySem.W.Frag} {M : Mp} {Z : Zn} {H : Hp} : ∀ {vs : List V} {ds : List D} {i : Nat} {d : D}, Reps K M Z H vs ds → ds[i]? = some d → ∃ v, vs[i]? = some v ∧ Rep K M Z H v d
  | _, _, _, _, .nil, e => by simp at e
  | _, _, 0, _, .cons r _, e => by simp at e; subst e; exact ⟨_, rfl, r⟩
  | _, _, i + 1, d, .cons _ t, e => by
    obtain ⟨u, h1, h2⟩ := Reps.get (i := i) (d := d) t (by simpa using e)
    exact ⟨u, by simpa using h1, h2⟩
theorem Reps.getV {K : PySem.W.Frag} {M : Mp} {Z : Zn} {H : Hp} : ∀ {vs : List V} {ds : List D} {i : Nat} {v : V}, Reps K M Z H vs ds → vs[i]? = some v → ∃ d, ds[i]? = some d ∧ Rep K M Z H v d
  | _, _, _, _, .nil, e => by simp at e
  | _, _, 0, _, .cons r _, e => by simp at e; subst e; exact ⟨_, rfl, r⟩
  | _, _, i + 1, v, .cons _ t, e => by
    obtain ⟨u, h1, h2⟩ := Reps.getV (i := i) (v := v) t (by simpa using e)
    exact ⟨u, by simpa using h1, h2⟩
theorem Reps.append {K : PySem.W.Frag} {M : Mp} {Z : Zn} {H : Hp} : ∀ {vs ws : List V} {ds es : List D}, Reps K M Z H vs ds → Reps K M Z H ws es → Reps K M Z H (vs ++ ws) (ds ++ es)
  | _, _, _, _, .nil, s => s
  | _, _, _, _, .cons r t, s => .cons r (Reps.append t s)
theorem Reps.drop {K : PySem.W.Frag} {M : Mp} {Z : Zn} {H : Hp} : ∀ {vs : List V} {ds : List D} (n : Nat), Reps K M Z H vs ds → Reps K M Z H (vs.drop n) (ds.drop n)
  | _, _, 0, r => r
  | _, _, _ + 1, .nil => .nil
  | _, _, n + 1, .cons _ t => Reps.drop n t
theorem Reps.take {K : PySem.W.Frag} {M : Mp} {Z : Zn} {H : Hp} : ∀ {vs : List V} {ds : List D} (n : Nat), Reps K M Z H vs ds → Reps K M Z H (vs.take n) (ds.take n)
  | _, _, 0, _ => .nil
  | _, _, _ + 1, .nil => .nil
  | _, _, n + 1, .cons r t => .cons r (Reps.take n t)
theorem Reps.ints {K : PySem.W.Frag} {M : Mp} {Z : Zn} {H : Hp} : ∀ {vs : List V} {ns : List Int}, Reps K M Z H vs (ns.map D.int) → vs = ns.map V.int
  | _, [], .nil => rfl
  | _, _ :: _, .cons (.int _) t => by rw [List.map_cons, Reps.ints t]
theorem Reps.ofInts {K : PySem.W.Frag} {M : Mp} {Z : Zn} {H : Hp} : ∀ (ns : List Int), Reps K M Z H (ns.map V.int) (ns.map D.int)
  | [] => .nil
  | _ :: r => .cons (.int _) (Reps.ofInts r)
theorem Reps.bls {K : PySem.W.Frag} {M : Mp} {Z : Zn} {H : Hp} : ∀ {vs : List V} {ns : List Bool}, Reps K M Z H vs (ns.map D.bl) → vs = ns.map V.bl
  | _, [], .nil => rfl
  | _, _ :: _, .cons (.bl _) t => by rw [List.map_cons, Reps.bls t]
theorem Reps.strs {K : PySem.W.Frag} {M : Mp} {Z : Zn} {H : Hp} : ∀ {vs : List V} {ns : List Str}, Reps K M Z H vs (ns.map D.str) → vs = ns.map V.str
  | _, [], .nil => rfl
  | _, _ :: _, .cons (.str _) t => by rw [List.map_cons, Reps.strs t]
theorem Reps.ofStrs {K : PySem.W.Frag} {M : Mp} {Z : Zn} {H : Hp} : ∀ (ns : List Str), Reps K M Z H (ns.map V.str) (ns.map D.str)
  | [] => .nil
  | _ :: r => .cons (.str _) (Reps.ofStrs r)

/-- a mutable object is held -/
def RepM (K : PySem.W.Frag) (M : Mp) (Z : Zn) (H : Hp) (a : Addr) : MO → Prop
  | .lst ds => ∃ vs, H a = some (.lst vs) ∧ Reps K M Z H vs ds
  | .dK ds => ∃ vs, H a = some (.dK vs) ∧ RepK K M Z H vs ds
  | .dT ds => ∃ vs, H a = some (.dT vs) ∧ RepT K M Z H vs ds
  | .ins C ds => ∃ dx vs, H a = some (.ins C dx vs) ∧ RepF K M Z H vs ds
  | .fdK ds => ∃ o vs, H a = some (.frz o (.dK vs)) ∧ RepK K M Z H vs ds
  | .tbl q => ∃ ps, H a = some (.tbl ps) ∧ TriplesOk ps.toList ∧ ∀ (pos : Pos) (cv : Value), codeAmong pos ps.toList = some cv → ∃ c, cv = .ref c ∧ H c = some (LamX.CodeO c q) ∧ Im M Z c
/-- the mutable objects are held, the hidden ones stand -/
def Wd (K : PySem.W.Frag) (M : Mp) (Z : Zn) (H : Hp) : Prop := (∀ a o, M a = some o → RepM K M Z H a o) ∧ ∀ a, Z a → M a = none ∧ ∃ u, H a = some u
theorem RepM.there {K : PySem.W.Frag} {M : Mp} {Z : Zn} {H : Hp} {a : Addr} {o : MO} (h : RepM K M Z H a o) : ∃ u, H a = some u := by
  cases o with
  | lst ds => obtain ⟨vs, e, _⟩ := h; exact ⟨_, e⟩
  | dK ds => obtain ⟨vs, e, _⟩ := h; exact ⟨_, e⟩
  | dT ds => obtain ⟨vs, e, _⟩ := h; exact ⟨_, e⟩
  | ins C ds => obtain ⟨dx, vs, e, _⟩ := h; exact ⟨_, e⟩
  | tbl q => obtain ⟨ps, e, _⟩ := h; exact ⟨_, e⟩
  | fdK ds => obtain ⟨o, vs, e, _⟩ := h; exact ⟨_, e⟩
theorem Wd.fresh {K : PySem.W.Frag} {M : Mp} {Z : Zn} {H : Hp} (w : Wd K M Z H) {a : Addr} (h : H a = none) : Im M Z a := by
  refine ⟨?_, fun z => ?_⟩
  · cases e : M a with
    | none => rfl
    | some o =>
      obtain ⟨u, q⟩ := (w.1 a o e).there
      rw [h] at q; cases q
  · obtain ⟨_, u, q⟩ := w.2 a z
    rw [h] at q; cases q
theorem RepM.stepI {K : PySem.W.Frag} {M M' : Mp} {Z Z' : Zn} {H H' : Hp} {a : Addr} {o : MO} (h : RepM K M Z H a o) (e : ExI M Z H M' Z' H') (k : H' a = H a) : RepM K M' Z' H' a o := by
  cases o with
  | lst ds => obtain ⟨vs, q, r⟩ := h; exact ⟨vs, k.trans q, r.monoI e⟩
  | dK ds => obtain ⟨vs, q, r⟩ := h; exact ⟨vs, k.trans q, r.monoI e⟩
  | dT ds => obtain ⟨vs, q, r⟩ := h; exact ⟨vs, k.trans q, r.monoI e⟩
  | ins C ds => obtain ⟨dx, vs, q, r⟩ := h; exact ⟨dx, vs, k.trans q, r.monoI e⟩
  | fdK ds => obtain ⟨o, vs, q, r⟩ := h; exact ⟨o, vs, k.trans q, r.monoI e⟩
  | tbl q => obtain ⟨ps, y, ht, ha⟩ := h; exact ⟨ps, k.trans y, ht, fun pos cv z => let ⟨c, e1, e2, e3⟩ := ha pos cv z; ⟨c, e1, (e c _ e2 e3).1, (e c _ e2 e3).2⟩⟩
theorem RepM.step {K : PySem.W.Frag} {M M' : Mp} {Z : Zn} {H H' : Hp} {a : Addr} {o : MO} (h : RepM K M Z H a o) (e : Ext M Z H M' H') (k : H' a = H a) : RepM K M' Z H' a o := h.stepI e.i k
section
variable {K : PySem.W.Frag} {M : Mp} {Z : Zn} {H : Hp} {p : Addr} {o : HO} {u v : MO}
theorem Wd.zne (w : Wd K M Z H) (h : H p = none) : ∀ b, Z b → b ≠ p := fun b z e => by
  obtain ⟨_, u, q⟩ := w.2 b z
  rw [e, h] at q; cases q
theorem Wd.zneM (w : Wd K M Z H) (h : M p = some v) : ∀ b, Z b → b ≠ p := fun b z e => by
  have q := (w.2 b z).1
  rw [e, h] at q; cases q
/-- a new immutable object -/
theorem Ext.new (w : Wd K M Z H) (h : H p = none) : Ext M Z H M (upd H p o) := ⟨fun b u q m => ⟨by rw [upd_ne (ne_of_none q h)]; exact q, m⟩, fun b z => ⟨upd_ne (w.zne h b z), rfl⟩⟩
theorem Wd.new (w : Wd K M Z H) (h : H p = none) : Wd K M Z (upd H p o) := ⟨fun a u e => by
  obtain ⟨z, q⟩ := (w.1 a u e).there
  exact (w.1 a u e).step (Ext.new w h) (upd_ne (ne_of_none q h)), fun b z => by
  obtain ⟨m, u, q⟩ := w.2 b z
  exact ⟨m, u, by rw [upd_ne (w.zne h b z)]; exact q⟩⟩
/-- a new mutable object -/
theorem Ext.newM (w : Wd K M Z H) (h : H p = none) : Ext M Z H (mset M p u) (upd H p o) := ⟨fun b z q m => ⟨by rw [upd_ne (ne_of_none q h)]; exact q, by rw [mset_ne (ne_of_none q h)]; exact m.1, m.2⟩, fun b z => ⟨upd_ne (w.zne h b z), mset_ne (w.zne h b z)⟩⟩
theorem Wd.newM (w : Wd K M Z H) (h : H p = none) (r : RepM K (mset M p u) Z (upd H p o) p u) : Wd K (mset M p u) Z (upd H p o) := ⟨fun a z e => by
  by_cases ha : a = p
  · subst ha; rw [mset_same] at e; cases e; exact r
  · rw [mset_ne ha] at e
    exact (w.1 a z e).step (Ext.newM w h) (upd_ne ha), fun b z => by
  obtain ⟨m, u, q⟩ := w.2 b z
  exact ⟨by rw [mset_ne (w.zne h b z)]; exact m, u, by rw [upd_ne (w.zne h b z)]; exact q⟩⟩
/-- a mutable object changed -/
theorem Ext.put (w : Wd K M Z H) (h : M p = some v) : Ext M Z H (mset M p u) (upd H p o) := ⟨fun b z q m => by
  have n : b ≠ p := fun e => by have m := m.1; rw [e, h] at m; cases m
  exact ⟨by rw [upd_ne n]; exact q, by rw [mset_ne n]; exact m.1, m.2⟩, fun b z => ⟨upd_ne (w.zneM h b z), mset_ne (w.zneM h b z)⟩⟩
theorem Wd.put (w : Wd K M Z H) (h : M p = some v) (r : RepM K (mset M p u) Z (upd H p o) p u) : Wd K (mset M p u) Z (upd H p o) := ⟨fun a z e => by
  by_cases ha : a = p
  · subst ha; rw [mset_same] at e; cases e; exact r
  · rw [mset_ne ha] at e
    exact (w.1 a z e).step (Ext.put w h) (upd_ne ha), fun b z => by
  obtain ⟨m, u, q⟩ := w.2 b z
  exact ⟨by rw [mset_ne (w.zneM h b z)]; exact m, u, by rw [upd_ne (w.zneM h b z)]; exact q⟩⟩
end

/-- the slots -/
inductive EnvR (K : PySem.W.Frag) (M : Mp) (Z : Zn) (H : Hp) : St → Rho → Prop where
  | nil : EnvR K M Z H [] []
  | val {v : V} {d : D} {σ : St} {ρ : Rho} (r : Rep K M Z H v d) (t : EnvR K M Z H σ ρ) : EnvR K M Z H (some v :: σ) (some d :: ρ)
  | any {o : Option V} {σ : St} {ρ : Rho} (t : EnvR K M Z H σ ρ) : EnvR K M Z H (o :: σ) (none :: ρ)
theorem EnvR.monoI {K : PySem.W.Frag} {M M' : Mp} {Z Z' : Zn} {H H' : Hp} (e : ExI M Z H M' Z' H') : ∀ {σ : St} {ρ : Rho}, EnvR K M Z H σ ρ → EnvR K M' Z' H' σ ρ
  | _, _, .nil => .nil
  | _, _, .val r t => .val (r.monoI e) (EnvR.monoI e t)
  | _, _, .any t => .any (EnvR.monoI e t)
theorem EnvR.mono {K : PySem.W.Frag} {M M' : Mp} {Z : Zn} {H H' : Hp} (e : Ext M Z H M' H') {σ : St} {ρ : Rho} (r : EnvR K M Z H σ ρ) : EnvR K M' Z H' σ ρ := r.monoI e.i
theorem EnvR.get {K : PySem.W.Frag} {M : Mp} {Z : Zn} {H : Hp} : ∀ {σ : St} {ρ : Rho} {i : Nat} {d : D}, EnvR K M Z H σ ρ → ρ[i]? = some (some d) → ∃ v, σ[i]? = some (some v) ∧ Rep K M Z H v d
  | _, _, _, _, .nil, e => by simp at e
  | _, _, 0, _, .val r _, e => by simp at e; subst e; exact ⟨_, rfl, r⟩
  | _, _, 0, _, .any _, e => by simp at e
  | _, _, i + 1, d, .val _ t, e => EnvR.get (i := i) t (by simpa using e)
  | _, _, i + 1, d, .any t, e => EnvR.get (i := i) t (by simpa using e)
theorem EnvR.set {K : PySem.W.Frag} {M : Mp} {Z : Zn} {H : Hp} {v : V} {d : D} (r : Rep K M Z H v d) : ∀ {σ : St} {ρ : Rho} (i : Nat), EnvR K M Z H σ ρ → EnvR K M Z H (σ.set i (.some v)) (ρ.set i (.some d))
  | _, _, _, .nil => .nil
  | _, _, 0, .val _ t => .val r t
  | _, _, 0, .any t => .val r t
  | _, _, i + 1, .val q t => .val q (EnvR.set r i t)
  | _, _, i + 1, .any t => .any (EnvR.set r i t)
theorem EnvR.unset {K : PySem.W.Frag} {M : Mp} {Z : Zn} {H : Hp} {o : Option V} : ∀ {σ : St} {ρ : Rho} (i : Nat), EnvR K M Z H σ ρ → EnvR K M Z H (σ.set i o) (ρ.set i .none)
  | _, _, _, .nil => .nil
  | _, _, 0, .val _ t => .any t
  | _, _, 0, .any t => .any t
  | _, _, i + 1, .val q t => .val q (EnvR.unset i t)
  | _, _, i + 1, .any t => .any (EnvR.unset i t)
theorem EnvR.empty {K : PySem.W.Frag} {M : Mp} {Z : Zn} {H : Hp} : ∀ (n : Nat), EnvR K M Z H (List.replicate n .none) (List.replicate n .none)
  | 0 => .nil
  | n + 1 => .any (EnvR.empty n)
theorem EnvR.start {K : PySem.W.Frag} {M : Mp} {Z : Zn} {H : Hp} {σ : St} {ρ : Rho} (t : EnvR K M Z H σ ρ) : ∀ {vs : List V} {ds : List D}, Reps K M Z H vs ds → EnvR K M Z H (vs.map Option.some ++ σ) (ds.map Option.some ++ ρ)
  | _, _, .nil => t
  | _, _, .cons r q => .val r (EnvR.start t q)
/-- the slots at a def's entry -/
def start (N : List Str) (ds : List D) : Rho := ds.map some ++ List.replicate (N.length - ds.length) none
theorem env_start {K : PySem.W.Frag} {M : Mp} {Z : Zn} {H : Hp} {N : List Str} {vs : List V} {ds : List D} (r : Reps K M Z H vs ds) : EnvR K M Z H (L2.start N vs) (start N ds) := by
  unfold L2.start start
  rw [r.length]
  exact EnvR.start (EnvR.empty _) r
end DL
/-! DL2: the judgements, expressions. -/
namespace DL
open PySem L2

/-! ### the weakest readings -/
section
variable (X : Cx)
def eSem (e : Expr) : TE := fun σ H Q => ∀ pins s, Inv X pins σ H s → wpAny (model X.prog X.w) X.A (eval e X.env) (EP X pins σ Q) X.xe s
def tSem (e : Expr) : TT := fun σ H Q => ∀ pins s, Inv X pins σ H s → wpAny (model X.prog X.w) X.A (isTrue e X.env (eval e X.env)) (TP X pins σ Q) X.xe s
def wSem (e : Expr) : TT := fun σ H Q => ∀ (whole : Sem Value) pins s, Inv X pins σ H s → wpAny (model X.prog X.w) X.A (isTrue e X.env whole) (TP X pins σ Q) X.xe s
def aSem (es : List Expr) : TA := fun σ H Q => ∀ pos pins s, Inv X pins σ H s → wpAny (model X.prog X.w) X.A (spliced (backTo pos (starEach es X.env))) (AP X pins σ Q) X.xe s
def sSem (st : Stmt) : TS := fun D σ H => ∀ pins s, Inv X pins σ H s → wpAny (model X.prog X.w) X.A (exec st X.env) (SP X pins D) X.xe s
def ssSem (st : List Stmt) : TS := fun D σ H => ∀ pins s, Inv X pins σ H s → wpAny (model X.prog X.w) X.A (execs st X.env) (SP X pins D) X.xe s
def gSem (tg : Expr) : TG := fun v σ H Q => ∀ pins s u, Inv X pins σ H s → RelV v u → wpAny (model X.prog X.w) X.A (assign tg X.env u) (fun _ s' => ∃ σ' H', Inv X pins σ' H' s' ∧ Q σ' H') X.xe s
def gsSem (ts : List Expr) : TGs := fun vs σ H Q => ∀ pins s us, Inv X pins σ H s → Vals vs us → wpAny (model X.prog X.w) X.A (assignInOrder ((assignEach ts X.env).map (·.2)) us) (fun _ s' => ∃ σ' H', Inv X pins σ' H' s' ∧ Q σ' H') X.xe s
def iSem (tg iter : Expr) : TI := fun σ H R => ∀ pins s, Inv X pins σ H s → wpAny (model X.prog X.w) X.A (eval iter X.env) (fun v s1 => wpAny (model X.prog X.w) X.A (pyIter v) (PIE X pins σ tg R) X.xe s1) X.xe s
end
section
variable {X : Cx} {e tg : Expr} {es : List Expr} {st : Stmt} {sts : List Stmt} {σ : L2.St} {H : Hp}
theorem pe_sem : PE X e (eSem X e) := ⟨fun pins s σ H Q I h => h pins s I⟩
theorem pt_sem : PT X e (tSem X e) := ⟨fun pins s σ H Q I h => h pins s I⟩
theorem pw_sem : PW X e (wSem X e) := ⟨fun wh pins s σ H Q I h => h wh pins s I⟩
theorem pa_sem : PA X es (aSem X es) := ⟨fun pos pins s σ H Q I h => h pos pins s I⟩
theorem ps_sem : PS X st (sSem X st) := ⟨fun pins s σ H D I h => h pins s I⟩
theorem pss_sem : PSs X sts (ssSem X sts) := ⟨fun pins s σ H D I h => h pins s I⟩
theorem pg_sem : PG X tg (gSem X tg) := ⟨fun pins s σ H v u Q I r h => h pins s u I r⟩
theorem pgs_sem : PGs X es (gsSem X es) := ⟨fun pins s σ H v u Q I r h => h pins s u I r⟩
theorem pi_sem : PI X tg e (iSem X tg e) := ⟨fun pins s σ H R I h => h pins s I⟩
theorem eOf {t : TE} {Q : VK} (h : PE X e t) (q : t σ H Q) : eSem X e σ H Q := fun pins s I => h.run pins s σ H Q I q
theorem tOf {t : TT} {Q : Bool → Hp → Prop} (h : PT X e t) (q : t σ H Q) : tSem X e σ H Q := fun pins s I => h.run pins s σ H Q I q
theorem wOf {t : TT} {Q : Bool → Hp → Prop} (h : PW X e t) (q : t σ H Q) : wSem X e σ H Q := fun wh pins s I => h.run wh pins s σ H Q I q
theorem aOf {t : TA} {Q : List V → Hp → Prop} (h : PA X es t) (q : t σ H Q) : aSem X es σ H Q := fun pos pins s I => h.run pos pins s σ H Q I q
theorem sOf {t : TS} {D : Ends} (h : PS X st t) (q : t D σ H) : sSem X st D σ H := fun pins s I => h.run pins s σ H D I q
theorem ssOf {t : TS} {D : Ends} (h : PSs X sts t) (q : t D σ H) : ssSem X sts D σ H := fun pins s I => h.run pins s σ H D I q
theorem gOf {t : TG} {v : V} {Q : L2.St → Hp → Prop} (h : PG X tg t) (q : t v σ H Q) : gSem X tg v σ H Q := fun pins s u I r => h.run pins s σ H v u Q I r q
theorem gsOf {t : TGs} {vs : List V} {Q : L2.St → Hp → Prop} (h : PGs X es t) (q : t vs σ H Q) : gsSem X es vs σ H Q := fun pins s u I r => h.run pins s σ H vs u Q I r q
end

/-! ### what is wanted behind -/
def KE (K : PySem.W.Frag) (M : Mp) (Z : Zn) (H : Hp) (Φ : D → Mp → Prop) (Q : VK) : Prop := ∀ v d H' M', Ext M Z H M' H' → Wd K M' Z H' → Rep K M' Z H' v d → Φ d M' → Q v H'
def KT (K : PySem.W.Frag) (M : Mp) (Z : Zn) (H : Hp) (Φ : Bool → Mp → Prop) (Q : Bool → Hp → Prop) : Prop := ∀ b H' M', Ext M Z H M' H' → Wd K M' Z H' → Φ b M' → Q b H'
def KA (K : PySem.W.Frag) (M : Mp) (Z : Zn) (H : Hp) (Φ : List D → Mp → Prop) (Q : List V → Hp → Prop) : Prop := ∀ vs ds H' M', Ext M Z H M' H' → Wd K M' Z H' → Reps K M' Z H' vs ds → Φ ds M' → Q vs H'
def KG (K : PySem.W.Frag) (M : Mp) (Z : Zn) (H : Hp) (Φ : Rho → Mp → Prop) (Q : L2.St → Hp → Prop) : Prop := ∀ σ' ρ' H' M', Ext M Z H M' H' → Wd K M' Z H' → EnvR K M' Z H' σ' ρ' → Φ ρ' M' → Q σ' H'
/-- what is wanted behind a statement -/
structure DE where
  nx : Rho → Mp → Prop
  rt : D → Mp → Prop
  bk : Rho → Mp → Prop := fun _ _ => False
  ct : Rho → Mp → Prop := fun _ _ => False
structure KS (K : PySem.W.Frag) (M : Mp) (Z : Zn) (H : Hp) (Ψ : DE) (E : Ends) : Prop where
  nx : KG K M Z H Ψ.nx E.nx
  rt : KE K M Z H Ψ.rt E.rt
  bk : KG K M Z H Ψ.bk E.bk
  ct : KG K M Z H Ψ.ct E.ct
section
variable {K : PySem.W.Frag} {M M1 : Mp} {Z : Zn} {H H1 : Hp}
theorem KE.step {Φ : D → Mp → Prop} {Q : VK} (k : KE K M Z H Φ Q) (e : Ext M Z H M1 H1) : KE K M1 Z H1 Φ Q := fun v d H' M' x w r h => k v d H' M' (e.trans x) w r h
theorem KT.step {Φ : Bool → Mp → Prop} {Q : Bool → Hp → Prop} (k : KT K M Z H Φ Q) (e : Ext M Z H M1 H1) : KT K M1 Z H1 Φ Q := fun b H' M' x w h => k b H' M' (e.trans x) w h
theorem KA.step {Φ : List D → Mp → Prop} {Q : List V → Hp → Prop} (k : KA K M Z H Φ Q) (e : Ext M Z H M1 H1) : KA K M1 Z H1 Φ Q := fun v d H' M' x w r h => k v d H' M' (e.trans x) w r h
theorem KG.step {Φ : Rho → Mp → Prop} {Q : L2.St → Hp → Prop} (k : KG K M Z H Φ Q) (e : Ext M Z H M1 H1) : KG K M1 Z H1 Φ Q := fun v d H' M' x w r h => k v d H' M' (e.trans x) w r h
theorem KS.step {Ψ : DE} {E : Ends} (k : KS K M Z H Ψ E) (e : Ext M Z H M1 H1) : KS K M1 Z H1 Ψ E := ⟨k.nx.step e, k.rt.step e, k.bk.step e, k.ct.step e⟩
theorem KE.now {Φ : D → Mp → Prop} {Q : VK} {v : V} {d : D} (k : KE K M Z H Φ Q) (w : Wd K M Z H) (r : Rep K M Z H v d) (h : Φ d M) : Q v H := k v d H M Ext.refl w r h
theorem KE.new {Φ : D → Mp → Prop} {Q : VK} {p : Addr} {o : HO} {d : D} (k : KE K M Z H Φ Q) (w : Wd K M Z H) (hp : H p = none) (r : Rep K M Z (upd H p o) (.ref p) d) (h : Φ d M) : Q (.ref p) (upd H p o) :=
  k _ d _ M (Ext.new w hp) (w.new hp) r h
theorem KT.now {Φ : Bool → Mp → Prop} {Q : Bool → Hp → Prop} {b : Bool} (k : KT K M Z H Φ Q) (w : Wd K M Z H) (h : Φ b M) : Q b H := k b H M Ext.refl w h
end

/-! ### the judgements -/
structure WE (X : Cx) (ρ : Rho) (M : Mp) (e : Expr) (Φ : D → Mp → Prop) : Prop where
  run : ∀ {Z : Zn} σ H (Q : VK), EnvR X.K M Z H σ ρ → Wd X.K M Z H → KE X.K M Z H Φ Q → eSem X e σ H Q
structure WT (X : Cx) (ρ : Rho) (M : Mp) (e : Expr) (Φ : Bool → Mp → Prop) : Prop where
  run : ∀ {Z : Zn} σ H (Q : Bool → Hp → Prop), EnvR X.K M Z H σ ρ → Wd X.K M Z H → KT X.K M Z H Φ Q → tSem X e σ H Q
structure WW (X : Cx) (ρ : Rho) (M : Mp) (e : Expr) (Φ : Bool → Mp → Prop) : Prop where
  run : ∀ {Z : Zn} σ H (Q : Bool → Hp → Prop), EnvR X.K M Z H σ ρ → Wd X.K M Z H → KT X.K M Z H Φ Q → wSem X e σ H Q
structure WA (X : Cx) (ρ : Rho) (M : Mp) (es : List Expr) (Φ : List D → Mp → Prop) : Prop where
  run : ∀ {Z : Zn} σ H (Q : List V → Hp → Prop), EnvR X.K M Z H σ ρ → Wd X.K M Z H → KA X.K M Z H Φ Q → aSem X es σ H Q
structure WS (X : Cx) (ρ : Rho) (M : Mp) (st : Stmt) (Ψ : DE) : Prop where
  run : ∀ {Z : Zn} σ H (E : Ends), EnvR X.K M Z H σ ρ → Wd X.K M Z H → KS X.K M Z H Ψ E → sSem X st E σ H
structure WSs (X : Cx) (ρ : Rho) (M : Mp) (st : List Stmt) (Ψ : DE) : Prop where
  run : ∀ {Z : Zn} σ H (E : Ends), EnvR X.K M Z H σ ρ → Wd X.K M Z H → KS X.K M Z H Ψ E → ssSem X st E σ H
structure WG (X : Cx) (tg : Expr) (d : D) (ρ : Rho) (M : Mp) (Φ : Rho → Mp → Prop) : Prop where
  run : ∀ {Z : Zn} σ H v (Q : L2.St → Hp → Prop), EnvR X.K M Z H σ ρ → Wd X.K M Z H → Rep X.K M Z H v d → KG X.K M Z H Φ Q → gSem X tg v σ H Q
structure WGs (X : Cx) (tg : List Expr) (ds : List D) (ρ : Rho) (M : Mp) (Φ : Rho → Mp → Prop) : Prop where
  run : ∀ {Z : Zn} σ H vs (Q : L2.St → Hp → Prop), EnvR X.K M Z H σ ρ → Wd X.K M Z H → Reps X.K M Z H vs ds → KG X.K M Z H Φ Q → gsSem X tg vs σ H Q

section
variable {X : Cx} {ρ : Rho} {M : Mp} {Φ : D → Mp → Prop} {e a b : Expr} {pos : Pos}
/-- weaken the end -/
theorem WE.imp {Φ' : D → Mp → Prop} (h : WE X ρ M e Φ') (k : ∀ d M', Φ' d M' → Φ d M') : WE X ρ M e Φ := .mk fun σ H Q en w q => h.run σ H Q en w fun v d H' M' x w' r z => q v d H' M' x w' r (k d M' z)
theorem WA.imp {es : List Expr} {Φ Φ' : List D → Mp → Prop} (h : WA X ρ M es Φ') (k : ∀ d M', Φ' d M' → Φ d M') : WA X ρ M es Φ := .mk fun σ H Q en w q => h.run σ H Q en w fun v d H' M' x w' r z => q v d H' M' x w' r (k d M' z)
theorem WT.imp {Φ Φ' : Bool → Mp → Prop} (h : WT X ρ M e Φ') (k : ∀ d M', Φ' d M' → Φ d M') : WT X ρ M e Φ := .mk fun σ H Q en w q => h.run σ H Q en w fun b H' M' x w' z => q b H' M' x w' (k b M' z)

/-! ### names and constants -/
theorem we_var (i : Nat) {x : Str} {d : D} (hr : ρ[i]? = some (some d)) (h : Φ d M) (hN : X.N[i]? = some x := by rfl) (hv : Vis X.env.scope x := by first | exact Or.inl rfl | exact Or.inr (Or.inl rfl) | exact Or.inr (Or.inr rfl))
    (hd : (x == ("__debug__" : Str)) = false := by decide) (hcd : (x == ("__classdict__" : Str)) = false := by decide) : WE X ρ M (.Name x pos) Φ := .mk fun σ H Q en w k => by
  obtain ⟨v, e1, r⟩ := en.get hr
  exact eOf (pe_var hN hv hd hcd) ⟨v, e1, k.now w r h⟩
theorem we_int {i : Int} {j : Nat} (h : Φ (.int i) M) : WE X ρ M (.Constant (.int i) j pos) Φ := .mk fun σ H Q en w k => eOf pe_int (k.now w (.int i) h)
theorem we_bl {i : Bool} {j : Nat} (h : Φ (.bl i) M) : WE X ρ M (.Constant (.bool i) j pos) Φ := .mk fun σ H Q en w k => eOf pe_bl (k.now w (.bl i) h)
theorem we_non {j : Nat} (h : Φ .non M) : WE X ρ M (.Constant .none j pos) Φ := .mk fun σ H Q en w k => eOf pe_non (k.now w .non h)
theorem we_str {i : Str} {j : Nat} (h : Φ (.str i) M) : WE X ρ M (.Constant (.str i) j pos) Φ := .mk fun σ H Q en w k => eOf pe_str (k.now w (.str i) h)
/-- a module's constant -/
theorem we_gint {x : Str} {i : Int} (hm : ∃ t, X.mg x = some (.int i t)) (h : Φ (.int i) M) (hg : Gl X x := by rfl) (hd : (x == ("__debug__" : Str)) = false := by decide) : WE X ρ M (.Name x pos) Φ := .mk fun σ H Q en w k => by
  obtain ⟨t, hm⟩ := hm
  exact eOf (pe_glob (v := .int i) hg hm ⟨t, rfl⟩ hd) (k.now w (.int i) h)
theorem we_gstr {x : Str} {i : Str} (hm : ∃ t, X.mg x = some (.str i t)) (h : Φ (.str i) M) (hg : Gl X x := by rfl) (hd : (x == ("__debug__" : Str)) = false := by decide) : WE X ρ M (.Name x pos) Φ := .mk fun σ H Q en w k => by
  obtain ⟨t, hm⟩ := hm
  exact eOf (pe_glob (v := .str i) hg hm ⟨t, rfl⟩ hd) (k.now w (.str i) h)
theorem we_gref {x : Str} {a : Addr} {d : D} (hm : X.mg x = some (.ref a)) (hr : ∀ M Z H, Rep X.K M Z H (.ref a) d) (h : Φ d M) (hg : Gl X x := by rfl) (hd : (x == ("__debug__" : Str)) = false := by decide) : WE X ρ M (.Name x pos) Φ := .mk fun σ H Q en w k =>
  eOf (pe_glob (v := .ref a) hg hm rfl hd) (k.now w (hr _ _ _) h)
/-- a built-in class as a value -/
theorem we_bty {x : Str} {n : String} (hm : X.mg x = none) (hv : bootBuiltins x = some (.type n)) (h : Φ (.ty n) M) (hg : Gl X x := by rfl) (hn : x ≠ "__name__" := by decide) (hd : (x == ("__debug__" : Str)) = false := by decide) : WE X ρ M (.Name x pos) Φ := .mk fun σ H Q en w k =>
  eOf (pe_bltn (v := .ty n) hg hm hv rfl hn hd) (k.now w (.ty n) h)

/-! ### operators by values -/
def RD (K : PySem.W.Frag) (r : R2) (x y : D) (M : Mp) (Φ : D → Mp → Prop) : Prop := ∀ (Z : Zn) v u H Q, Wd K M Z H → Rep K M Z H v x → Rep K M Z H u y → KE K M Z H Φ Q → r v u H Q
def RU (K : PySem.W.Frag) (r : V → Hp → VK → Prop) (x : D) (M : Mp) (Φ : D → Mp → Prop) : Prop := ∀ (Z : Zn) v H Q, Wd K M Z H → Rep K M Z H v x → KE K M Z H Φ Q → r v H Q
def RC (K : PySem.W.Frag) (r : List V → Hp → VK → Prop) (xs : List D) (M : Mp) (Φ : D → Mp → Prop) : Prop := ∀ (Z : Zn) vs H Q, Wd K M Z H → Reps K M Z H vs xs → KE K M Z H Φ Q → r vs H Q
theorem bind2 {Ψ : D → D → Mp → Prop} (h : WE X ρ M a fun x M1 => WE X ρ M1 b fun y M2 => Ψ x y M2) {Z : Zn} {σ : L2.St} {H : Hp} {R : V → V → Hp → Prop} (en : EnvR X.K M Z H σ ρ) (w : Wd X.K M Z H)
    (k : ∀ v u x y H2 M2, Ext M Z H M2 H2 → Wd X.K M2 Z H2 → Rep X.K M2 Z H2 v x → Rep X.K M2 Z H2 u y → Ψ x y M2 → R v u H2) : eSem X a σ H fun x H1 => eSem X b σ H1 fun y H2 => R x y H2 :=
  h.run σ H _ en w fun v x H1 M1 e1 w1 r1 hb => hb.run σ H1 _ (en.mono e1) w1 fun u y H2 M2 e2 w2 r2 hr => k v u x y H2 M2 (e1.trans e2) w2 (r1.mono e2) r2 hr
theorem we_op {op : Operator} {r : R2} (ho : OpR X (binaryOp op) r) (h : WE X ρ M a fun x M1 => WE X ρ M1 b fun y M2 => RD X.K r x y M2 Φ) : WE X ρ M (.BinOp a op b pos) Φ := .mk fun σ H Q en w k =>
  eOf (pe_op ho pe_sem pe_sem) (bind2 h en w fun v u x y H2 M2 e w2 r1 r2 hr => hr _ v u H2 Q w2 r1 r2 (k.step e))
theorem we_cmp {op : CmpOp} {r : R2} (ho : OpR X (compareOp op) r) (hm : behindInMarks op b = false) (h : WE X ρ M a fun x M1 => WE X ρ M1 b fun y M2 => RD X.K r x y M2 Φ) : WE X ρ M (.Compare a [op] [b] pos) Φ := .mk fun σ H Q en w k =>
  eOf (pe_cmpR ho pe_sem pe_sem hm) (bind2 h en w fun v u x y H2 M2 e w2 r1 r2 hr => hr _ v u H2 Q w2 r1 r2 (k.step e))
theorem we_un {op : UnaryOp} {r : V → Hp → VK → Prop} (ho : UnR X (unaryOp op) r) (h : WE X ρ M a fun x M1 => RU X.K r x M1 Φ) : WE X ρ M (.UnaryOp op a pos) Φ := .mk fun σ H Q en w k =>
  eOf (pe_un ho pe_sem) (h.run σ H _ en w fun v x H1 M1 e1 w1 r1 hr => hr _ v H1 Q w1 r1 (k.step e1))
/-- one comparison as a test -/
theorem wt_cmp {op : CmpOp} {r : R2} {Φ : Bool → Mp → Prop} (ho : OpR X (compareOp op) r) (hm : behindInMarks op b = false) (h : WE X ρ M a fun x M1 => WE X ρ M1 b fun y M2 => RD X.K r x y M2 fun d M3 => ∃ c, d = .bl c ∧ Φ c M3) : WT X ρ M (.Compare a [op] [b] pos) Φ := .mk fun σ H Q en w k =>
  tOf (pt_cmpR ho pe_sem pe_sem hm) (bind2 h en w fun v u x y H2 M2 e w2 r1 r2 hr => hr _ v u H2 _ w2 r1 r2 fun z d H3 M3 e3 w3 r3 hz => by
    obtain ⟨c, rfl, hz⟩ := hz
    cases r3
    exact ⟨c, rfl, k c H3 M3 (e.trans e3) w3 hz⟩)
/-- a value that is a bool, as a test -/
theorem wt_val {Φ : Bool → Mp → Prop} (h : WE X ρ M e fun d M1 => ∃ c, d = .bl c ∧ Φ c M1) (he : ∀ whole, isTrue e X.env whole = (do let v ← whole; standAt e.pos; holding [v] (truthy v)) := by intro _; rfl) : WT X ρ M e Φ := .mk fun σ H Q en w k =>
  tOf (pt_val pe_sem he) (h.run σ H _ en w fun v x H1 M1 e1 w1 r1 hz => by
    obtain ⟨c, rfl, hz⟩ := hz
    cases r1
    exact ⟨c, rfl, k c H1 M1 e1 w1 hz⟩)

/-! ### and, or, not, if -/
theorem wt_not {Φ : Bool → Mp → Prop} (h : WT X ρ M a fun c M1 => Φ (!c) M1) : WT X ρ M (.UnaryOp .Not a pos) Φ := .mk fun σ H Q en w k =>
  tOf (pt_not pt_sem) (h.run σ H _ en w fun c H1 M1 e1 w1 hz => k _ H1 M1 e1 w1 hz)
theorem ww_and1 {Φ : Bool → Mp → Prop} (h : WT X ρ M a Φ) : WW X ρ M (.BoolOp .And [a] pos) Φ := .mk fun σ H Q en w k => wOf (pw_and1 pt_sem) (h.run σ H Q en w k)
theorem ww_or1 {Φ : Bool → Mp → Prop} (h : WT X ρ M a Φ) : WW X ρ M (.BoolOp .Or [a] pos) Φ := .mk fun σ H Q en w k => wOf (pw_or1 pt_sem) (h.run σ H Q en w k)
theorem ww_and {Φ : Bool → Mp → Prop} {rest : List Expr} (h : WT X ρ M a fun c M1 => if c = true then WW X ρ M1 (.BoolOp .And (b :: rest) pos) Φ else Φ false M1) : WW X ρ M (.BoolOp .And (a :: b :: rest) pos) Φ := .mk fun σ H Q en w k =>
  wOf (pw_and pt_sem pw_sem) (h.run σ H _ en w fun c H1 M1 e1 w1 hz => by
    cases c with
    | true => exact hz.run σ H1 Q (en.mono e1) w1 (k.step e1)
    | false => exact k false H1 M1 e1 w1 hz)
theorem ww_or {Φ : Bool → Mp → Prop} {rest : List Expr} (h : WT X ρ M a fun c M1 => if c = true then Φ true M1 else WW X ρ M1 (.BoolOp .Or (b :: rest) pos) Φ) : WW X ρ M (.BoolOp .Or (a :: b :: rest) pos) Φ := .mk fun σ H Q en w k =>
  wOf (pw_or pt_sem pw_sem) (h.run σ H _ en w fun c H1 M1 e1 w1 hz => by
    cases c with
    | true => exact k true H1 M1 e1 w1 hz
    | false => exact hz.run σ H1 Q (en.mono e1) w1 (k.step e1))
theorem wt_ww {Φ : Bool → Mp → Prop} (h : WW X ρ M e Φ) : WT X ρ M e Φ := .mk fun σ H Q en w k => tOf pw_sem.pt (h.run σ H Q en w k)
/-- as values (all but the last are bools) -/
theorem we_one {op : BoolOp} (h : WE X ρ M a Φ) : WE X ρ M (.BoolOp op [a] pos) Φ := .mk fun σ H Q en w k => eOf (pe_one pe_sem) (h.run σ H Q en w k)
theorem we_and {rest : List Expr} (h : WE X ρ M a fun d M1 => ∃ c, d = .bl c ∧ if c = true then WE X ρ M1 (.BoolOp .And (b :: rest) pos) Φ else Φ (.bl false) M1) : WE X ρ M (.BoolOp .And (a :: b :: rest) pos) Φ := .mk fun σ H Q en w k =>
  eOf (pe_and pe_sem pe_sem) (h.run σ H _ en w fun v x H1 M1 e1 w1 r1 hz => by
    obtain ⟨c, rfl, hz⟩ := hz
    cases r1
    refine ⟨c, rfl, ?_⟩
    cases c with
    | true => exact hz.run σ H1 Q (en.mono e1) w1 (k.step e1)
    | false => exact k.step e1 |>.now w1 (.bl false) hz)
theorem we_or {rest : List Expr} (h : WE X ρ M a fun d M1 => ∃ c, d = .bl c ∧ if c = true then Φ (.bl true) M1 else WE X ρ M1 (.BoolOp .Or (b :: rest) pos) Φ) : WE X ρ M (.BoolOp .Or (a :: b :: rest) pos) Φ := .mk fun σ H Q en w k =>
  eOf (pe_or pe_sem pe_sem) (h.run σ H _ en w fun v x H1 M1 e1 w1 r1 hz => by
    obtain ⟨c, rfl, hz⟩ := hz
    cases r1
    refine ⟨c, rfl, ?_⟩
    cases c with
    | true => exact k.step e1 |>.now w1 (.bl true) hz
    | false => exact hz.run σ H1 Q (en.mono e1) w1 (k.step e1))
theorem we_not (h : WE X ρ M a fun d M1 => ∃ c, d = .bl c ∧ Φ (.bl (!c)) M1) : WE X ρ M (.UnaryOp .Not a pos) Φ := .mk fun σ H Q en w k =>
  eOf (pe_not pe_sem) (h.run σ H _ en w fun v x H1 M1 e1 w1 r1 hz => by
    obtain ⟨c, rfl, hz⟩ := hz
    cases r1
    exact ⟨c, rfl, k.step e1 |>.now w1 (.bl _) hz⟩)
theorem we_if {c : Expr} (h : WT X ρ M c fun b' M1 => if b' = true then WE X ρ M1 a Φ else WE X ρ M1 b Φ) : WE X ρ M (.IfExp c a b pos) Φ := .mk fun σ H Q en w k =>
  eOf (pe_ifExp pt_sem pe_sem pe_sem) (h.run σ H _ en w fun c H1 M1 e1 w1 hz => by
    cases c with
    | true => exact hz.run σ H1 Q (en.mono e1) w1 (k.step e1)
    | false => exact hz.run σ H1 Q (en.mono e1) w1 (k.step e1))

/-! ### arguments, displays -/
variable {es : List Expr} {ΦA : List D → Mp → Prop}
theorem wa_nil (h : ΦA [] M) : WA X ρ M [] ΦA := .mk fun σ H Q en w k => aOf pa_nil (k [] [] H M Ext.refl w .nil h)
theorem wa_cons (h : WE X ρ M e fun d M1 => WA X ρ M1 es fun ds M2 => ΦA (d :: ds) M2) (hs : starEach (e :: es) X.env = (false, eval e X.env) :: starEach es X.env := by rfl) : WA X ρ M (e :: es) ΦA := .mk fun σ H Q en w k =>
  aOf (pa_cons pe_sem pa_sem hs) (h.run σ H _ en w fun v d H1 M1 e1 w1 r1 hz => hz.run σ H1 _ (en.mono e1) w1 fun vs ds H2 M2 e2 w2 r2 hy => k (v :: vs) (d :: ds) H2 M2 (e1.trans e2) w2 (.cons (r1.mono e2) r2) hy)
theorem we_tup {k1 : Nat} (h : WA X ρ M es fun ds M1 => ds.length ≤ sizeLine ∧ Φ (.tup ds) M1) : WE X ρ M (.Tuple es k1 pos) Φ := .mk fun σ H Q en w k =>
  eOf (pe_tup pa_sem) (h.run σ H _ en w fun vs ds H1 M1 e1 w1 r1 hz => ⟨by rw [r1.length]; exact hz.1, fun p hp => (k.step e1).new w1 hp (.tup (.inl upd_same) (w1.fresh hp) (r1.mono (Ext.new w1 hp))) hz.2⟩)
theorem we_lst (h : WA X ρ M es fun ds M1 => ds.length ≤ sizeLine ∧ Φ (.lst ds) M1) : WE X ρ M (.List es pos) Φ := .mk fun σ H Q en w k =>
  eOf (pe_lst pa_sem) (h.run σ H _ en w fun vs ds H1 M1 e1 w1 r1 hz => ⟨by rw [r1.length]; exact hz.1, fun p hp => (k.step e1).new w1 hp (.lst upd_same (w1.fresh hp) (r1.mono (Ext.new w1 hp))) hz.2⟩)
/-- a list that will be changed -/
theorem we_lstM (h : WA X ρ M es fun ds M1 => ds.length ≤ sizeLine ∧ ∀ p, M1 p = none → Φ (.ob p) (mset M1 p (.lst ds))) : WE X ρ M (.List es pos) Φ := .mk fun σ H Q en w k =>
  eOf (pe_lst pa_sem) (h.run σ H _ en w fun vs ds H1 M1 e1 w1 r1 hz => ⟨by rw [r1.length]; exact hz.1, fun p hp =>
    (k.step e1) _ (.ob p) _ (mset M1 p (.lst ds)) (Ext.newM w1 hp) (w1.newM hp ⟨vs, upd_same, r1.mono (Ext.newM w1 hp)⟩) (.ob p) (hz.2 p (w1.fresh hp).1)⟩)
end
end DL
/-! DL3: statements, targets, loops, calls of defs. -/
namespace DL
open PySem L2
section
variable {X : Cx} {ρ : Rho} {M : Mp} {Ψ : DE} {e a b tg : Expr} {st : Stmt} {rest : List Stmt} {pos : Pos}

/-! ### blocks and small statements -/
theorem wss_nil (h : Ψ.nx ρ M) : WSs X ρ M [] Ψ := .mk fun σ H E en w k => ssOf pss_nil (k.nx σ ρ H M Ext.refl w en h)
theorem wss_cons (h : WS X ρ M st { Ψ with nx := fun ρ' M' => WSs X ρ' M' rest Ψ }) : WSs X ρ M (st :: rest) Ψ := .mk fun σ H E en w k =>
  ssOf (pss_cons ps_sem pss_sem) (h.run σ H _ en w ⟨fun σ1 ρ1 H1 M1 e1 w1 en1 hz => hz.run σ1 H1 E en1 w1 (k.step e1), k.rt, k.bk, k.ct⟩)
theorem ws_pass (h : Ψ.nx ρ M) : WS X ρ M (.Pass pos) Ψ := .mk fun σ H E en w k => sOf ps_pass (k.nx σ ρ H M Ext.refl w en h)
theorem ws_break (h : Ψ.bk ρ M) : WS X ρ M (.Break pos) Ψ := .mk fun σ H E en w k => sOf ps_break (k.bk σ ρ H M Ext.refl w en h)
theorem ws_continue (h : Ψ.ct ρ M) : WS X ρ M (.Continue pos) Ψ := .mk fun σ H E en w k => sOf ps_continue (k.ct σ ρ H M Ext.refl w en h)
theorem ws_expr (h : WE X ρ M e fun _ M1 => Ψ.nx ρ M1) (hs : swapsWith e none pos.line X.env = pure false := by rfl) : WS X ρ M (.Expr e pos) Ψ := .mk fun σ H E en w k =>
  sOf (ps_expr pe_sem hs) (h.run σ H _ en w fun v d H1 M1 e1 w1 r1 hz => k.nx σ ρ H1 M1 e1 w1 (en.mono e1) hz)
theorem ws_ret (h : WE X ρ M e Ψ.rt) : WS X ρ M (.Return (some e) pos) Ψ := .mk fun σ H E en w k => sOf (ps_ret pe_sem) (h.run σ H _ en w k.rt)
theorem ws_retN (h : Ψ.rt .non M) : WS X ρ M (.Return none pos) Ψ := .mk fun σ H E en w k => sOf ps_retN (k.rt.now w .non h)
theorem ws_if {c : Expr} {sa sb : List Stmt} (h : WT X ρ M c fun b' M1 => if b' = true then WSs X ρ M1 sa Ψ else WSs X ρ M1 sb Ψ) : WS X ρ M (.If c sa sb pos) Ψ := .mk fun σ H E en w k =>
  sOf (ps_if pt_sem pss_sem pss_sem) (h.run σ H _ en w fun c H1 M1 e1 w1 hz => by
    cases c with
    | true => exact hz.run σ H1 E (en.mono e1) w1 (k.step e1)
    | false => exact hz.run σ H1 E (en.mono e1) w1 (k.step e1))
theorem ws_never (h : False) : WS X ρ M st Ψ := h.elim
/-- other slots' data, less known -/
theorem WS.imp {Ψ' : DE} (h : WS X ρ M st Ψ') (n : ∀ ρ' M', Ψ'.nx ρ' M' → Ψ.nx ρ' M') (r : ∀ d M', Ψ'.rt d M' → Ψ.rt d M') (bk : ∀ ρ' M', Ψ'.bk ρ' M' → Ψ.bk ρ' M') (ct : ∀ ρ' M', Ψ'.ct ρ' M' → Ψ.ct ρ' M') : WS X ρ M st Ψ := .mk fun σ H E en w k =>
  h.run σ H E en w ⟨fun σ' ρ' H' M' x w' en' z => k.nx σ' ρ' H' M' x w' en' (n _ _ z), fun v d H' M' x w' r' z => k.rt v d H' M' x w' r' (r _ _ z), fun σ' ρ' H' M' x w' en' z => k.bk σ' ρ' H' M' x w' en' (bk _ _ z), fun σ' ρ' H' M' x w' en' z => k.ct σ' ρ' H' M' x w' en' (ct _ _ z)⟩

/-! ### targets -/
variable {Φ : Rho → Mp → Prop} {d : D} {ds : List D} {es : List Expr}
theorem wg_name (i : Nat) {x : Str} (h : Φ (ρ.set i (some d)) M) (hN : X.N.Nodup) (hi : X.N[i]? = some x := by rfl) (hx : Loc X.env.scope x := by first | exact Or.inl rfl | exact Or.inr rfl)
    (hf : X.fn x = true ∨ X.env.scope.names.lookup x = some .local := by first | exact .inl rfl | exact .inr rfl) : WG X (.Name x pos) d ρ M Φ := .mk fun σ H v Q en w r k =>
  gOf (pg_name hN hi hx hf) (k _ _ H M Ext.refl w (en.set r i) h)
theorem wgs_nil (h : ds = [] ∧ Φ ρ M) : WGs X [] ds ρ M Φ := .mk fun σ H vs Q en w r k => by
  obtain ⟨rfl, h⟩ := h
  cases r
  exact gsOf pgs_nil ⟨rfl, k _ _ H M Ext.refl w en h⟩
theorem wgs_cons {t : Expr} (h : WG X t d ρ M fun ρ1 M1 => WGs X es ds ρ1 M1 Φ) (hs : (assignEach (t :: es) X.env).map (·.2) = assign t X.env :: (assignEach es X.env).map (·.2) := by rfl) : WGs X (t :: es) (d :: ds) ρ M Φ := .mk fun σ H vs Q en w r k => by
  cases r with
  | cons r1 r2 =>
    exact gsOf (pgs_cons pg_sem pgs_sem hs) ⟨_, _, rfl, h.run σ H _ _ en w r1 fun σ1 ρ1 H1 M1 e1 w1 en1 hz => hz.run σ1 H1 _ Q en1 w1 (r2.mono e1) (k.step e1)⟩
theorem sqT_of {K : PySem.W.Frag} {H : Hp} {a : Addr} {vs : List V} (h : Rd H a (.tup vs) ∨ WrT K a vs) : SqT K H a vs := by
  rcases h with h | h
  · exact .inl h
  · exact .inr h
theorem sqL_of {K : PySem.W.Frag} {H : Hp} {a : Addr} {vs : List V} (h : Rd H a (.lst vs) ∨ WrL K a vs) : SqL K H a vs := by
  rcases h with h | h
  · exact .inl h
  · exact .inr h
theorem Rep.asTup {K : PySem.W.Frag} {M : Mp} {Z : Zn} {H : Hp} {v : V} {ds : List D} (r : Rep K M Z H v (.tup ds)) : ∃ a vs, v = .ref a ∧ SqT K H a vs ∧ Reps K M Z H vs ds := by
  cases r with
  | tup h m r => exact ⟨_, _, rfl, .inl h, r⟩
  | tupK h r => exact ⟨_, _, rfl, .inr h, r⟩
/-- what can be read as a list -/
def LstOf (M : Mp) : D → List D → Prop
  | .lst xs, ds => ds = xs
  | .rol xs, ds => ds = xs
  | .ob a, ds => M a = some (.lst ds)
  | _, _ => False
theorem Rep.asLst {K : PySem.W.Frag} {M : Mp} {Z : Zn} {H : Hp} {v : V} {d : D} {ds : List D} (w : Wd K M Z H) (r : Rep K M Z H v d) (l : LstOf M d ds) : ∃ a vs, v = .ref a ∧ SqL K H a vs ∧ Reps K M Z H vs ds := by
  cases r with
  | lst h m r => cases l; exact ⟨_, _, rfl, .inl (.inl h), r⟩
  | rol h m r => cases l; exact ⟨_, _, rfl, .inl h, r⟩
  | rolK h r => cases l; exact ⟨_, _, rfl, .inr h, r⟩
  | ob a =>
    obtain ⟨vs, h, r⟩ := w.1 a _ l
    exact ⟨_, _, rfl, .inl (.inl h), r⟩
  | _ => cases l
theorem wg_tup {k1 n : Nat} (h : d = .tup ds ∧ ds.length = n ∧ WGs X es ds ρ M Φ) (hc : X.calm = true := by rfl) (hn : (assignEach es X.env).length = n := by rfl) (hst : (assignEach es X.env).findIdx? (·.1) = none := by rfl) : WG X (.Tuple es k1 pos) d ρ M Φ := .mk fun σ H v Q en w r k => by
  obtain ⟨rfl, hl, h⟩ := h
  obtain ⟨a, vs, rfl, hq, rs⟩ := r.asTup
  exact gOf (pg_tup hc pgs_sem hn hst) ⟨a, vs, rfl, hq, by rw [rs.length]; exact hl, h.run σ H vs Q en w rs k⟩
theorem ws_asg (h : WE X ρ M e fun d M1 => WG X tg d ρ M1 Ψ.nx) (hs : swapsWithSole [tg] e pos.line X.env = pure false := by rfl) (hw : swappedStores [tg] e X.env = pure none := by rfl)
    (h1 : (assignEach [tg] X.env).map (·.2) = [assign tg X.env] := by rfl) : WS X ρ M (.Assign [tg] e pos) Ψ := .mk fun σ H E en w k =>
  sOf (ps_asg pe_sem pg_sem hs hw h1) (h.run σ H _ en w fun v d H1 M1 e1 w1 r1 hz => hz.run σ H1 v _ (en.mono e1) w1 r1 (k.nx.step e1))
theorem ws_set (i : Nat) {x : Str} {pos' : Pos} (hN : X.N.Nodup) (h : WE X ρ M e fun d M1 => Ψ.nx (ρ.set i (some d)) M1) (hi : X.N[i]? = some x := by rfl) (hx : Loc X.env.scope x := by first | exact Or.inl rfl | exact Or.inr rfl)
    (hs : swapsWith e (some (.Name x pos')) pos.line X.env = pure false := by rfl) (hf : X.fn x = true ∨ X.env.scope.names.lookup x = some .local := by first | exact .inl rfl | exact .inr rfl) : WS X ρ M (.Assign [.Name x pos'] e pos) Ψ := .mk fun σ H E en w k =>
  sOf (ps_set hN hi hx pe_sem hs hf) (h.run σ H _ en w fun v d H1 M1 e1 w1 r1 hz => k.nx _ _ H1 M1 e1 w1 ((en.mono e1).set r1 i) hz)
/-- a, b = x, y -/
theorem ws_par (i j : Nat) {x y : Str} {px py pt : Pos} {kt k2 : Nat} {pt2 : Pos} (hN : X.N.Nodup) (h : WA X ρ M [a, b] fun ds M1 => ∃ c d, ds = [c, d] ∧ Ψ.nx ((ρ.set i (some c)).set j (some d)) M1) (hi : X.N[i]? = some x := by rfl) (hj : X.N[j]? = some y := by rfl) (hij : i ≠ j := by decide)
    (hx : X.env.scope.names.lookup x = some .local := by rfl) (hy : X.env.scope.names.lookup y = some .local := by rfl) (hw : swappedStores [.Tuple [.Name x px, .Name y py] kt pt] (.Tuple [a, b] k2 pt2) X.env = pure (some [x, y]) := by rfl)
    (hc : X.calm = true := by rfl) (hs : swapsWithSole [.Tuple [.Name x px, .Name y py] kt pt] (.Tuple [a, b] k2 pt2) pos.line X.env = pure false := by rfl) : WS X ρ M (.Assign [.Tuple [.Name x px, .Name y py] kt pt] (.Tuple [a, b] k2 pt2) pos) Ψ := .mk fun σ H E en w k =>
  sOf (ps_par hc hN hi hj hij hx hy pa_sem hw hs) (h.run σ H _ en w fun vs ds H1 M1 e1 w1 r1 hz => by
    obtain ⟨c, d, rfl, hz⟩ := hz
    cases r1 with
    | cons r1 r2 =>
      cases r2 with
      | cons r2 r3 =>
        cases r3
        exact ⟨_, _, rfl, k.nx _ _ H1 M1 e1 w1 (((en.mono e1).set r1 i).set r2 j) hz⟩)
/-- x op= e -/
theorem ws_aug (i : Nat) {x : Str} {op : Operator} {ti : TIp} {pos' : Pos} {c : D} (ho : PIp X op ti) (hr : ρ[i]? = some (some c)) (hN : X.N.Nodup) (h : WE X ρ M e fun d M1 => RD X.K ti c d M1 fun z M2 => Ψ.nx (ρ.set i (some z)) M2) (hi : X.N[i]? = some x := by rfl) (hx : Loc X.env.scope x := by first | exact Or.inl rfl | exact Or.inr rfl)
    (hf : X.fn x = true ∨ X.env.scope.names.lookup x = some .local := by first | exact .inl rfl | exact .inr rfl) : WS X ρ M (.AugAssign (.Name x pos') op e pos) Ψ := .mk fun σ H E en w k => by
  obtain ⟨v, e1, r⟩ := en.get hr
  exact sOf (ps_aug hN hi hx pe_sem ho hf) ⟨v, e1, h.run σ H _ en w fun u d H1 M1 e1 w1 r1 hz => hz _ v u H1 _ w1 (r.mono e1) r1 fun z dz H2 M2 e2 w2 r2 hy => k.nx _ _ H2 M2 (e1.trans e2) w2 ((en.mono (e1.trans e2)).set r2 i) hy⟩

/-! ### if with the two ways -/
theorem ite_tt {A B : Prop} {c : Bool} (h1 : c = true → A) (h2 : c = false → B) : if c = true then A else B := by
  cases c with
  | true => exact h1 rfl
  | false => exact h2 rfl
theorem ite_dec {p A B : Prop} [Decidable p] (h1 : p → A) (h2 : ¬ p → B) : if (decide p) = true then A else B := by
  by_cases h : p
  · rw [decide_eq_true h]; exact h1 h
  · rw [decide_eq_false h]; exact h2 h

/-! ### what is walked -/
/-- the walk J yields these data, whatever comes besides -/
def Sq (K : PySem.W.Frag) (M1 : Mp) (Z1 : Zn) (H1 : Hp) (J : It) (items : List D) : Prop := ∀ i M Z H, ExI M1 Z1 H1 M Z H → Wd K M Z H →
  (i = items.length → J.stop i H) ∧ ∀ d, items[i]? = some d → J.go i H ∧ ∀ x H', J.yld i H x H' → Ext M Z H M H' ∧ Wd K M Z H' ∧ Rep K M Z H' x d
structure WI (X : Cx) (ρ : Rho) (M : Mp) (tg iter : Expr) (Φ : List D → Mp → Prop) : Prop where
  run : ∀ {Z : Zn} σ H (R : It → Hp → Prop), EnvR X.K M Z H σ ρ → Wd X.K M Z H →
  (∀ J items H1 M1, Ext M Z H M1 H1 → Wd X.K M1 Z H1 → Sq X.K M1 Z H1 J items → Φ items M1 → R J H1) → iSem X tg iter σ H R
theorem iOf {iter : Expr} {wi : TI} {σ : L2.St} {H : Hp} {R : It → Hp → Prop} (h : PI X tg iter wi) (q : wi σ H R) : iSem X tg iter σ H R := fun pins s I => h.run pins s σ H R I q
theorem sq_tup {K : PySem.W.Frag} {M1 : Mp} {Z1 : Zn} {H1 : Hp} {a : Addr} {vs : List V} {ds : List D} (hq : ∀ M Z H, ExI M1 Z1 H1 M Z H → SqT K H a vs) (rs : Reps K M1 Z1 H1 vs ds) : Sq K M1 Z1 H1 (Itt K a) ds := fun i M Z H e w => by
  refine ⟨fun hi => ⟨vs, hq M Z H e, by rw [rs.length, hi]; exact Nat.le_refl _⟩, fun d hd => ?_⟩
  obtain ⟨v, hv, r⟩ := rs.get hd
  refine ⟨⟨vs, v, hq M Z H e, hv⟩, fun x H' y => ?_⟩
  obtain ⟨rfl, y⟩ := y
  have := y vs (hq M Z _ e)
  rw [hv] at this
  cases this
  exact ⟨Ext.refl, w, r.monoI e⟩
/-- a list, a tuple that stays -/
theorem Rep.tupKeep {K : PySem.W.Frag} {M : Mp} {Z : Zn} {H : Hp} {v : V} {ds : List D} (r : Rep K M Z H v (.tup ds)) : ∃ a vs, v = .ref a ∧ (∀ M' Z' H', ExI M Z H M' Z' H' → SqT K H' a vs) ∧ Reps K M Z H vs ds := by
  cases r with
  | tup h m r => exact ⟨_, _, rfl, fun M' Z' H' e => .inl (e.rd h m), r⟩
  | tupK h r => exact ⟨_, _, rfl, fun _ _ _ _ => .inr h, r⟩
theorem Rep.lstKeep {K : PySem.W.Frag} {M : Mp} {Z : Zn} {H : Hp} {v : V} {d : D} {ds : List D} (r : Rep K M Z H v d) (hd : d = .lst ds ∨ d = .rol ds) : ∃ a vs, v = .ref a ∧ (∀ M' Z' H', ExI M Z H M' Z' H' → SqL K H' a vs) ∧ Reps K M Z H vs ds := by
  rcases hd with rfl | rfl
  · cases r with
    | lst h m r => exact ⟨_, _, rfl, fun M' Z' H' e => .inl (.inl (e _ _ h m).1), r⟩
  · cases r with
    | rol h m r => exact ⟨_, _, rfl, fun M' Z' H' e => .inl (e.rd h m), r⟩
    | rolK h r => exact ⟨_, _, rfl, fun _ _ _ _ => .inr h, r⟩
theorem wi_list {iter : Expr} {Φ : List D → Mp → Prop} (h : WE X ρ M iter fun d M1 => ∃ ds, (d = .lst ds ∨ d = .rol ds) ∧ Φ ds M1) : WI X ρ M tg iter Φ := .mk fun σ H R en w k =>
  iOf (pi_list pe_sem) (h.run σ H _ en w fun v d H1 M1 e1 w1 r1 hz => by
    obtain ⟨ds, hd, hz⟩ := hz
    obtain ⟨a, vs, rfl, hq, rs⟩ := r1.lstKeep hd
    refine ⟨a, rfl, ⟨vs, hq _ _ _ ExI.refl⟩, k _ ds H1 M1 e1 w1 ?_ hz⟩
    intro i M Z H e w
    refine ⟨fun hi => ⟨vs, hq M Z H e, by rw [rs.length, hi]; exact Nat.le_refl _⟩, fun d hd => ?_⟩
    obtain ⟨v, hv, r⟩ := rs.get hd
    refine ⟨⟨vs, v, hq M Z H e, hv⟩, fun x H' y => ?_⟩
    obtain ⟨rfl, y⟩ := y
    have := y vs (hq M Z _ e)
    rw [hv] at this
    cases this
    exact ⟨Ext.refl, w, r.monoI e⟩)
theorem wi_tup {iter : Expr} {Φ : List D → Mp → Prop} (h : WE X ρ M iter fun d M1 => ∃ ds, d = .tup ds ∧ Φ ds M1) : WI X ρ M tg iter Φ := .mk fun σ H R en w k =>
  iOf (pi_tup pe_sem) (h.run σ H _ en w fun v d H1 M1 e1 w1 r1 hz => by
    obtain ⟨ds, rfl, hz⟩ := hz
    obtain ⟨a, vs, rfl, hq, rs⟩ := r1.tupKeep
    exact ⟨a, rfl, ⟨vs, hq _ _ _ ExI.refl⟩, k _ ds H1 M1 e1 w1 (sq_tup hq rs) hz⟩)
/-- lo, lo + 1, .. -/
def rngD (lo : Int) (n : Nat) : List D := (List.range n).map fun (i : Nat) => D.int (lo + (i : Int))
theorem rngD_len (lo : Int) (n : Nat) : (rngD lo n).length = n := by simp [rngD]
theorem rngD_get {lo : Int} {n i : Nat} {d : D} (h : (rngD lo n)[i]? = some d) : i < n ∧ d = .int (lo + (i : Int)) := by
  have hi : i < (rngD lo n).length := (List.getElem?_eq_some_iff.mp h).1
  rw [rngD_len] at hi
  refine ⟨hi, ?_⟩
  unfold rngD at h
  rw [List.getElem?_map, List.getElem?_range hi] at h
  exact (Option.some.inj h).symm
theorem sq_range {K : PySem.W.Frag} {M1 : Mp} {Z1 : Zn} {H1 : Hp} (lo : Int) (n : Nat) : Sq K M1 Z1 H1 (Itr lo n) (rngD lo n) := fun i M Z H e w => by
  refine ⟨fun hi => by rw [hi, rngD_len]; exact Nat.le_refl _, fun d hd => ?_⟩
  obtain ⟨h1, rfl⟩ := rngD_get hd
  refine ⟨h1, fun x H' y => ?_⟩
  obtain ⟨rfl, rfl⟩ := y
  exact ⟨Ext.refl, w, .int _⟩
theorem wi_range1 {p : Pos} {Φ : List D → Mp → Prop} (hm : X.mg "range" = none) (h : WA X ρ M [a] fun ds M1 => ∃ j : Int, ds = [.int j] ∧ -(2 ^ 62) ≤ j ∧ j < 2 ^ 62 ∧ Φ (rngD 0 j.toNat) M1) (hg : Gl X "range" := by rfl) (hs : starEach [a] X.env = [(false, eval a X.env)] := by rfl) : WI X ρ M tg (.Call (.Name "range" p) [a] [] pos) Φ := .mk fun σ H R en w k =>
  iOf (pi_range1 hg hm pa_sem hs) (h.run σ H _ en w fun vs ds H1 M1 e1 w1 r1 hz => by
    obtain ⟨j, rfl, h1, h2, hz⟩ := hz
    cases r1 with
    | cons r1 r2 =>
      cases r1
      cases r2
      exact ⟨j, rfl, h1, h2, k _ _ H1 M1 e1 w1 (sq_range 0 _) hz⟩)
theorem wi_range2 {p : Pos} {Φ : List D → Mp → Prop} (hm : X.mg "range" = none) (h : WA X ρ M [a, b] fun ds M1 => ∃ i j : Int, ds = [.int i, .int j] ∧ (-(2 ^ 62) ≤ i ∧ i < 2 ^ 62 ∧ -(2 ^ 62) ≤ j ∧ j < 2 ^ 62) ∧ Φ (rngD i (j - i).toNat) M1) (hg : Gl X "range" := by rfl) (hs : starEach [a, b] X.env = [(false, eval a X.env), (false, eval b X.env)] := by rfl) (hs2 : starEach [b] X.env = [(false, eval b X.env)] := by rfl) : WI X ρ M tg (.Call (.Name "range" p) [a, b] [] pos) Φ := .mk fun σ H R en w k =>
  iOf (pi_range2 hg hm pa_sem hs hs2) (h.run σ H _ en w fun vs ds H1 M1 e1 w1 r1 hz => by
    obtain ⟨i, j, rfl, h1, hz⟩ := hz
    cases r1 with
    | cons r1 r2 =>
      cases r1
      cases r2 with
      | cons r2 r3 =>
        cases r2
        cases r3
        exact ⟨i, j, rfl, h1, k _ _ H1 M1 e1 w1 (sq_range i _) hz⟩)

/-! ### for -/
theorem ws_for {body : List Stmt} {iter : Expr} (hp : PassesOwn (model X.prog X.w) X.A X.env X.xe)
    (h : WI X ρ M tg iter fun ds M1 => ∃ I : Nat → Rho → Mp → Prop, I 0 ρ M1 ∧
      (∀ i x ρ' M', ds[i]? = some x → I i ρ' M' → WG X tg x ρ' M' fun ρ2 M2 => WSs X ρ2 M2 body { nx := I (i + 1), ct := I (i + 1), bk := Ψ.nx, rt := Ψ.rt }) ∧ ∀ ρ' M', I ds.length ρ' M' → Ψ.nx ρ' M')
    (hc : X.calm = true := by rfl) (hs : ∀ x, foldedSetIterable iter X.env x = pure x := by intro _; rfl) : WS X ρ M (.For tg iter body [] pos) Ψ := .mk fun {Z} σ H E en w k =>
  sOf (ps_for hp hc pi_sem pg_sem pss_sem hs) (h.run σ H _ en w fun J ds H1 M1 e1 w1 sq hz => by
    obtain ⟨I, h0, turn, done⟩ := hz
    refine ⟨fun i m σ' H' => m = ds.length - i ∧ i ≤ ds.length ∧ ∃ ρ' M', Ext M1 Z H1 M' H' ∧ Wd X.K M' Z H' ∧ EnvR X.K M' Z H' σ' ρ' ∧ I i ρ' M', ⟨ds.length, by simp, Nat.zero_le _, ρ, M1, Ext.refl, w1, en.mono e1, h0⟩, ?_⟩
    rintro i m σ' H' ⟨rfl, hi, ρ', M', x', w', en', inv⟩
    obtain ⟨s1, s2⟩ := sq i M' Z H' x'.i w'
    by_cases hlt : i < ds.length
    · have hd : ds[i]? = some ds[i] := List.getElem?_eq_getElem hlt
      obtain ⟨go, yl⟩ := s2 _ hd
      refine .inr ⟨go, fun σ2 H2 => ∃ ρ2 M2, Ext M1 Z H1 M2 H2 ∧ Wd X.K M2 Z H2 ∧ EnvR X.K M2 Z H2 σ2 ρ2 ∧ I (i + 1) ρ2 M2, fun σ2 H2 ⟨ρ2, M2, x2, w2, en2, i2⟩ => ⟨ds.length - (i + 1), by omega, rfl, hlt, ρ2, M2, x2, w2, en2, i2⟩, fun v H2 y => ?_⟩
      obtain ⟨x2, w2, r2⟩ := yl v H2 y
      have x12 := x'.trans x2
      refine (turn i _ ρ' M' hd inv).run σ' H2 v _ (en'.mono x2) w2 r2 fun σ3 ρ3 H3 M3 x3 w3 en3 hb => ?_
      have x13 := x12.trans x3
      have ks := (k.step e1).step x13
      exact hb.run σ3 H3 _ en3 w3 ⟨fun σ4 ρ4 H4 M4 x4 w4 en4 z => ⟨ρ4, M4, x13.trans x4, w4, en4, z⟩, ks.rt, ks.nx, fun σ4 ρ4 H4 M4 x4 w4 en4 z => ⟨ρ4, M4, x13.trans x4, w4, en4, z⟩⟩
    · have e : i = ds.length := by omega
      exact .inl ⟨s1 e, (k.step e1).nx σ' ρ' H' M' x' w' en' (done _ _ (e ▸ inv))⟩)

/-! ### while -/
theorem ws_while {c : Expr} {body : List Stmt} (hp : PassesOwn (model X.prog X.w) X.A X.env X.xe) (I : Nat → Rho → Mp → Prop) (n : Nat) (h0 : I n ρ M)
    (turn : ∀ n ρ' M', I n ρ' M' → WT X ρ' M' c fun b M1 => if b = true then WSs X ρ' M1 body { nx := fun ρ2 M2 => ∃ m, m < n ∧ I m ρ2 M2, ct := fun ρ2 M2 => ∃ m, m < n ∧ I m ρ2 M2, bk := Ψ.nx, rt := Ψ.rt } else Ψ.nx ρ' M1) : WS X ρ M (.While c body [] pos) Ψ := .mk fun {Z} σ H E en w k => by
  refine sOf (ps_while hp pt_sem pss_sem) ⟨fun m σ' H' => ∃ ρ' M', Ext M Z H M' H' ∧ Wd X.K M' Z H' ∧ EnvR X.K M' Z H' σ' ρ' ∧ I m ρ' M', ⟨n, ρ, M, Ext.refl, w, en, h0⟩, ?_⟩
  rintro m σ' H' ⟨ρ', M', x', w', en', inv⟩
  refine (turn m ρ' M' inv).run σ' H' _ en' w' fun b H1 M1 x1 w1 hz => ?_
  have x01 := x'.trans x1
  have ks := k.step x01
  cases b with
  | true =>
    refine ⟨fun σ2 H2 => ∃ ρ2 M2, Ext M Z H M2 H2 ∧ Wd X.K M2 Z H2 ∧ EnvR X.K M2 Z H2 σ2 ρ2 ∧ ∃ j, j < m ∧ I j ρ2 M2, fun σ2 H2 ⟨ρ2, M2, x2, w2, en2, j, hj, i2⟩ => ⟨j, hj, ρ2, M2, x2, w2, en2, i2⟩, ?_⟩
    exact hz.run σ' H1 _ (en'.mono x1) w1 ⟨fun σ4 ρ4 H4 M4 x4 w4 en4 z => ⟨ρ4, M4, x01.trans x4, w4, en4, z⟩, ks.rt, ks.nx, fun σ4 ρ4 H4 M4 x4 w4 en4 z => ⟨ρ4, M4, x01.trans x4, w4, en4, z⟩⟩
  | false => exact ks.nx σ' ρ' H1 M1 Ext.refl w1 (en'.mono x1) hz
end
end DL
/-! DL4: comprehensions. -/
namespace DL
open PySem L2
/-! ### hidden objects -/
def hid (Z : Zn) (p : Addr) : Zn := fun b => Z b ∨ b = p
section
variable {K : PySem.W.Frag} {M M' : Mp} {Z : Zn} {H H' : Hp} {p : Addr} {o : HO}
theorem hide_x (h : H p = none) : ExI M Z H M (hid Z p) (upd H p o) := fun b u q m => by
  have n : b ≠ p := ne_of_none q h
  exact ⟨by rw [upd_ne n]; exact q, m.1, fun z => z.elim m.2 n⟩
theorem hide_w (w : Wd K M Z H) (h : H p = none) : Wd K M (hid Z p) (upd H p o) := ⟨fun a u e => by
  obtain ⟨z, q⟩ := (w.1 a u e).there
  exact (w.1 a u e).stepI (hide_x h) (upd_ne (ne_of_none q h)), fun b z => by
  rcases z with z | rfl
  · obtain ⟨m, u, q⟩ := w.2 b z
    exact ⟨m, u, by rw [upd_ne (ne_of_none q h)]; exact q⟩
  · exact ⟨(w.fresh h).1, o, upd_same⟩⟩
/-- the hidden object changed -/
theorem hidput_x : ExI M (hid Z p) H M (hid Z p) (upd H p o) := fun b u q m => ⟨by rw [upd_ne (fun e => m.2 (.inr e))]; exact q, m⟩
theorem hidput_w (w : Wd K M (hid Z p) H) : Wd K M (hid Z p) (upd H p o) := ⟨fun a u e => by
  have n : a ≠ p := fun z => by have := (w.2 p (.inr rfl)).1; rw [z, this] at e; cases e
  exact (w.1 a u e).stepI hidput_x (upd_ne n), fun b z => by
  obtain ⟨m, u, q⟩ := w.2 b z
  by_cases hb : b = p
  · exact ⟨m, o, by rw [hb]; exact upd_same⟩
  · exact ⟨m, u, by rw [upd_ne hb]; exact q⟩⟩
/-- .. shown -/
theorem show_x : ExI M (hid Z p) H M Z H := fun b u q m => ⟨q, m.1, fun z => m.2 (.inl z)⟩
theorem show_w (w : Wd K M (hid Z p) H) : Wd K M Z H := ⟨fun a u e => (w.1 a u e).stepI show_x rfl, fun b z => w.2 b (.inl z)⟩
end

/-! ### wiped slots -/
def wipeR (ρ : Rho) : List Nat → Rho
  | [] => ρ
  | v :: vs => (wipeR ρ vs).set v none
theorem env_wipe {K : PySem.W.Frag} {M : Mp} {Z : Zn} {H : Hp} {σ : L2.St} {ρ : Rho} (en : EnvR K M Z H σ ρ) : ∀ vs : List Nat, EnvR K M Z H (wipe σ vs) (wipeR ρ vs)
  | [] => en
  | v :: vs => EnvR.unset v (env_wipe en vs)
theorem wipe_get (σ : L2.St) (j : Nat) : ∀ vs : List Nat, (wipe σ vs)[j]? = if j ∈ vs then (σ[j]?).map (fun _ => none) else σ[j]?
  | [] => by simp [wipe]
  | v :: vs => by
    unfold wipe
    have ih := wipe_get σ j vs
    by_cases hj : v = j
    · subst hj
      rw [if_pos List.mem_cons_self]
      by_cases hl : v < (wipe σ vs).length
      · rw [List.getElem?_set_self hl]
        rw [wipe_length] at hl
        rw [List.getElem?_eq_getElem hl]; rfl
      · rw [List.getElem?_eq_none (by simpa using hl)]
        rw [wipe_length] at hl
        rw [List.getElem?_eq_none (by omega)]; rfl
    · rw [List.getElem?_set_ne hj, ih]
      by_cases hm : j ∈ vs
      · rw [if_pos hm, if_pos (List.mem_cons_of_mem _ hm)]
      · rw [if_neg hm, if_neg (by simp only [List.mem_cons, not_or]; exact ⟨fun e => hj e.symm, hm⟩)]
theorem wipe_ext {σ τ : L2.St} {vs : List Nat} (h : ∀ j, j ∉ vs → σ[j]? = τ[j]?) (hl : σ.length = τ.length) : wipe σ vs = wipe τ vs := by
  apply List.ext_getElem?
  intro j
  rw [wipe_get, wipe_get]
  by_cases hj : j ∈ vs
  · rw [if_pos hj, if_pos hj]
    by_cases hs : j < σ.length
    · rw [List.getElem?_eq_getElem hs, List.getElem?_eq_getElem (by omega)]; rfl
    · rw [List.getElem?_eq_none (by omega), List.getElem?_eq_none (by omega)]
  · rw [if_neg hj, if_neg hj]; exact h j hj
theorem wipe_twice (σ : L2.St) (vs : List Nat) : wipe (wipe σ vs) vs = wipe σ vs := wipe_ext (fun j hj => by rw [wipe_get, if_neg hj]) (wipe_length _ _)
theorem wipe_set {σ : L2.St} {vs : List Nat} {i : Nat} {o : Option V} (hi : i ∈ vs) : wipe (σ.set i o) vs = wipe σ vs := wipe_ext (fun j hj => List.getElem?_set_ne (fun (e : i = j) => hj (e ▸ hi))) (List.length_set ..)

/-! ### targets of a comprehension -/
def GT (K : PySem.W.Frag) (g : TG) (vs : List Nat) (G : D → Rho → (Rho → Prop) → Prop) : Prop := ∀ M Z H v d σ ρ (R : Rho → Prop) (Q : L2.St → Hp → Prop), EnvR K M Z H (wipe σ vs) ρ → Rep K M Z H v d → G d ρ R →
  (∀ σ2 ρ2, EnvR K M Z H σ2 ρ2 → wipe σ2 vs = wipe σ vs → R ρ2 → Q σ2 H) → g v (wipe σ vs) H Q
theorem gt_name {K : PySem.W.Frag} {vs : List Nat} {i : Nat} (hi : i ∈ vs) : GT K (gName i) vs (fun d ρ R => R (ρ.set i (some d))) := fun M Z H v d σ ρ R Q en r g k =>
  k _ _ (en.set r i) (by rw [wipe_set hi, wipe_twice]) g
theorem gt_two {K : PySem.W.Frag} {vs : List Nat} {i j : Nat} (hi : i ∈ vs) (hj : j ∈ vs) : GT K (gTup K 2 (gCons (gName i) (gCons (gName j) gNil))) vs (fun d ρ R => ∃ a b, d = .tup [a, b] ∧ R ((ρ.set i (some a)).set j (some b))) := fun M Z H v d σ ρ R Q en r g k => by
  obtain ⟨a, b, rfl, g⟩ := g
  obtain ⟨p, vs, rfl, hq, rs⟩ := r.asTup
  cases rs with
  | cons r1 r2 =>
    cases r2 with
    | cons r2 r3 =>
      cases r3
      exact ⟨p, _, rfl, hq, rfl, _, _, rfl, _, _, rfl, rfl, k _ _ ((en.set r1 i).set r2 j) (by rw [wipe_set hj, wipe_set hi, wipe_twice]) g⟩
theorem gt_three {K : PySem.W.Frag} {vs : List Nat} {i j l : Nat} (hi : i ∈ vs) (hj : j ∈ vs) (hl : l ∈ vs) : GT K (gTup K 3 (gCons (gName i) (gCons (gName j) (gCons (gName l) gNil)))) vs (fun d ρ R => ∃ a b c, d = .tup [a, b, c] ∧ R (((ρ.set i (some a)).set j (some b)).set l (some c))) := fun M Z H v d σ ρ R Q en r g k => by
  obtain ⟨a, b, c, rfl, g⟩ := g
  obtain ⟨p, vs, rfl, hq, rs⟩ := r.asTup
  cases rs with
  | cons r1 r2 =>
    cases r2 with
    | cons r2 r3 =>
      cases r3 with
      | cons r3 r4 =>
        cases r4
        exact ⟨p, _, rfl, hq, rfl, _, _, rfl, _, _, rfl, _, _, rfl, rfl, k _ _ (((en.set r1 i).set r2 j).set r3 l) (by rw [wipe_set hl, wipe_set hj, wipe_set hi, wipe_twice]) g⟩

/-! ### the comprehension -/
section
variable {X : Cx} {ρ : Rho} {M : Mp} {elt tg iter : Expr} {pos : Pos} {scope : Scope}
/-- within the block -/
def eBlk (X : Cx) (scope : Scope) (e : Expr) : TE := fun σ H Q => ∀ s H0 C cl fp, eSem (X.blk s H0 scope (compEnvC scope cl C X.env) fp) e σ H Q
def tBlk (X : Cx) (scope : Scope) (e : Expr) : TT := fun σ H Q => ∀ s H0 C cl fp, tSem (X.blk s H0 scope (compEnvC scope cl C X.env) fp) e σ H Q
def WEb (X : Cx) (scope : Scope) (ρ : Rho) (M : Mp) (e : Expr) (Φ : D → Mp → Prop) : Prop := ∀ s H0 C cl fp, WE (X.blk s H0 scope (compEnvC scope cl C X.env) fp) ρ M e Φ
def WTb (X : Cx) (scope : Scope) (ρ : Rho) (M : Mp) (e : Expr) (Φ : Bool → Mp → Prop) : Prop := ∀ s H0 C cl fp, WT (X.blk s H0 scope (compEnvC scope cl C X.env) fp) ρ M e Φ
/-- the tests -/
def TK (X : Cx) (tt : TT) (T : Rho → Mp → (Bool → Mp → Prop) → Prop) : Prop := ∀ {Z : Zn} M H σ ρ (Θ : Bool → Mp → Prop) (Q : Bool → Hp → Prop), EnvR X.K M Z H σ ρ → Wd X.K M Z H → T ρ M Θ → KT X.K M Z H Θ Q → tt σ H Q
theorem tk_nil : TK X tYes (fun _ M Θ => Θ true M) := fun M H σ ρ Θ Q en w h k => k.now w h
theorem tk_one {c : Expr} : TK X (tBlk X scope c) (fun ρ M Θ => WTb X scope ρ M c Θ) := fun M H σ ρ Θ Q en w h k s H0 C cl fp => (h s H0 C cl fp).run σ H Q en w k
/-- what a comprehension asks: I by the turn, what is gathered, the mutable objects -/
def LcI (X : Cx) (scope : Scope) (ρ : Rho) (vs : List Nat) (G : D → Rho → (Rho → Prop) → Prop) (T : Rho → Mp → (Bool → Mp → Prop) → Prop) (elt : Expr) (Φ : D → Mp → Prop) (ds : List D) (M1 : Mp) : Prop :=
  ds.length ≤ sizeLine ∧ ∃ I : Nat → List D → Mp → Prop, I 0 [] M1 ∧
    (∀ i x acc M', ds[i]? = some x → I i acc M' → G x (wipeR ρ vs) fun ρ2 => T ρ2 M' fun b M2 => if b = true then WEb X scope ρ2 M2 elt fun y M3 => I (i + 1) (acc ++ [y]) M3 else I (i + 1) acc M2) ∧
    ∀ acc M', I ds.length acc M' → Φ (.lst acc) M'
theorem lc_run {g : TG} {tt : TT} {vs : List Nat} {G : D → Rho → (Rho → Prop) → Prop} {T : Rho → Mp → (Bool → Mp → Prop) → Prop} {Φ : D → Mp → Prop} (hg : GT X.K g vs G) (ht : TK X tt T)
    (h : WI X ρ M tg iter (LcI X scope ρ vs G T elt Φ)) {Z : Zn} {σ : L2.St} {H : Hp} {Q : VK} (en : EnvR X.K M Z H σ ρ) (w : Wd X.K M Z H) (k : KE X.K M Z H Φ Q) : tLc (iSem X tg iter) g tt (eBlk X scope elt) vs σ H Q :=
  h.run σ H _ en w fun J ds H1 M1 e1 w1 sq hz => by
    obtain ⟨hn, I, h0, turn, done⟩ := hz
    intro Dd hD
    have zne : ∀ b, Z b → b ≠ Dd := w1.zne hD
    refine ⟨fun i m H' => m = ds.length - i ∧ i ≤ ds.length ∧ ∃ accV acc M', ExI M1 Z H1 M' (hid Z Dd) H' ∧ (∀ b, Z b → H' b = H1 b ∧ M' b = M1 b) ∧ Wd X.K M' (hid Z Dd) H' ∧ H' Dd = some (.lst accV) ∧ Reps X.K M' (hid Z Dd) H' accV acc ∧ acc.length ≤ i ∧ I i acc M',
      ⟨ds.length, by simp, Nat.zero_le _, [], [], M1, hide_x hD, fun b z => ⟨upd_ne (zne b z), rfl⟩, hide_w w1 hD, upd_same, .nil, Nat.zero_le _, h0⟩, ?_⟩
    rintro i m H' ⟨rfl, hi, accV, acc, M', x', zk, w', hA, rA, la, inv⟩
    obtain ⟨s1, s2⟩ := sq i M' (hid Z Dd) H' x' w'
    by_cases hlt : i < ds.length
    · have hd : ds[i]? = some ds[i] := List.getElem?_eq_getElem hlt
      obtain ⟨go, yl⟩ := s2 _ hd
      refine .inr ⟨go, fun H2 => ∃ accV acc M2, ExI M1 Z H1 M2 (hid Z Dd) H2 ∧ (∀ b, Z b → H2 b = H1 b ∧ M2 b = M1 b) ∧ Wd X.K M2 (hid Z Dd) H2 ∧ H2 Dd = some (.lst accV) ∧ Reps X.K M2 (hid Z Dd) H2 accV acc ∧ acc.length ≤ i + 1 ∧ I (i + 1) acc M2,
        fun H2 ⟨aV, a, M2, x2, z2, w2, hA2, rA2, l2, i2⟩ => ⟨ds.length - (i + 1), by omega, rfl, hlt, aV, a, M2, x2, z2, w2, hA2, rA2, l2, i2⟩, fun v H2 y => ?_⟩
      obtain ⟨x2, w2, r2⟩ := yl v H2 y
      have en2 : EnvR X.K M' (hid Z Dd) H2 (wipe σ vs) (wipeR ρ vs) := env_wipe ((en.mono e1).monoI (x'.trans x2.i)) vs
      refine hg M' (hid Z Dd) H2 v _ σ _ _ _ en2 r2 (turn i _ acc M' hd inv) fun σ3 ρ3 en3 wp3 hT => ⟨wp3, ?_⟩
      refine ht M' H2 σ3 ρ3 _ _ en3 w2 hT fun b H3 M3 x3 w3 hb => ?_
      have x23 : Ext M' (hid Z Dd) H' M3 H3 := x2.trans x3
      have zk3 : ∀ b, Z b → H3 b = H1 b ∧ M3 b = M1 b := fun b z => ⟨(x23.2 b (.inl z)).1.trans (zk b z).1, (x23.2 b (.inl z)).2.trans (zk b z).2⟩
      cases b with
      | false => exact ⟨accV, acc, M3, x'.trans x23.i, zk3, w3, (x23.2 Dd (.inr rfl)).1.trans hA, rA.mono x23, Nat.le_succ_of_le la, hb⟩
      | true =>
        intro s H0 C cl fp
        refine (hb s H0 C cl fp).run σ3 H3 _ (en3.mono x3) w3 fun yv yd H4 M4 x4 w4 r4 hI => ?_
        have x24 := x23.trans x4
        have hA4 : H4 Dd = some (.lst accV) := (x24.2 Dd (.inr rfl)).1.trans hA
        refine ⟨accV, hA4, by rw [rA.length]; omega, accV ++ [yv], acc ++ [yd], M4, (x'.trans x24.i).trans hidput_x, fun b z => ⟨(upd_ne (zne b z)).trans ((x4.2 b (.inl z)).1.trans (zk3 b z).1), (x4.2 b (.inl z)).2.trans (zk3 b z).2⟩, hidput_w w4, upd_same, ?_, by rw [List.length_append, List.length_singleton]; omega, hI⟩
        exact (((rA.mono x24).append (.cons r4 .nil))).monoI hidput_x
    · have e : i = ds.length := by omega
      refine .inl ⟨s1 e, ?_⟩
      refine k _ (.lst acc) H' M' (e1.trans ⟨x'.trans show_x, zk⟩) (show_w w') (.lst hA ⟨(w'.2 Dd (.inr rfl)).1, fun z => zne Dd z rfl⟩ (rA.monoI show_x)) (done _ _ (e ▸ inv))
/-- [elt for x in iter] -/
theorem we_lc {own : List (Str × Nat)} {g : TG} {tt : TT} {ifs : List Expr} {G : D → Rho → (Rho → Prop) → Prop} {T : Rho → Mp → (Bool → Mp → Prop) → Prop} {Φ : D → Mp → Prop} (hN : X.N.Nodup) (ok : BlkOk X.N X.env.scope scope own)
    (pg : ∀ (s : Shared) (H : Hp) (C : Addr) (cl : List (Str × Addr)) (fp : List Addr), PG (X.blk s H scope (compEnvC scope cl C X.env) fp) tg g) (hg : GT X.K g (own.map (·.2)) G)
    (pt : ∀ (s : Shared) (H : Hp) (C : Addr) (cl : List (Str × Addr)) (fp : List Addr), PTs (X.blk s H scope (compEnvC scope cl C X.env) fp) ifs tt) (ht : TK X tt T)
    (h : WI X ρ M tg iter (LcI X scope ρ (own.map (·.2)) G T elt Φ)) (hc : X.calm = true := by rfl) (hs : ∀ x, foldedSetIterable iter X.env x = pure x := by intro _; rfl) : WE X ρ M (.ListComp elt [⟨tg, iter, ifs, 0⟩] scope pos) Φ := .mk fun σ H Q en w k =>
  eOf (pe_lc hc hN pi_sem ok pg pt (fun s H0 C cl fp => ⟨fun pins s' σ' H' Q' I q => q s H0 C cl fp pins s' I⟩) hs) (lc_run hg ht h en w k)
/-- y = [elt for x in iter] -/
theorem ws_setLc (i : Nat) {y : Str} {py spos : Pos} {own : List (Str × Nat)} {g : TG} {tt : TT} {ifs : List Expr} {G : D → Rho → (Rho → Prop) → Prop} {T : Rho → Mp → (Bool → Mp → Prop) → Prop} {Ψ : DE} (hN : X.N.Nodup) (ok : BlkOk X.N X.env.scope scope own)
    (pg : ∀ (s : Shared) (H : Hp) (C : Addr) (cl : List (Str × Addr)) (fp : List Addr), PG (X.blk s H scope (compEnvC scope cl C X.env) fp) tg g) (hg : GT X.K g (own.map (·.2)) G)
    (pt : ∀ (s : Shared) (H : Hp) (C : Addr) (cl : List (Str × Addr)) (fp : List Addr), PTs (X.blk s H scope (compEnvC scope cl C X.env) fp) ifs tt) (ht : TK X tt T)
    (h : WI X ρ M tg iter (LcI X scope ρ (own.map (·.2)) G T elt fun d M1 => Ψ.nx (ρ.set i (some d)) M1))
    (hsw : swapsWith (.ListComp elt [⟨tg, iter, ifs, 0⟩] scope pos) (some (.Name y py)) spos.line X.env = pure true) (hy : X.N[i]? = some y := by rfl) (hyl : X.env.scope.names.lookup y = some .local := by rfl)
    (hc : X.calm = true := by rfl) (hs : ∀ x, foldedSetIterable iter X.env x = pure x := by intro _; rfl) : WS X ρ M (.Assign [.Name y py] (.ListComp elt [⟨tg, iter, ifs, 0⟩] scope pos) spos) Ψ := .mk fun σ H E en w k =>
  sOf (ps_setLc hc hN hy hyl hsw pi_sem ok pg pt (fun s H0 C cl fp => ⟨fun pins s' σ' H' Q' I q => q s H0 C cl fp pins s' I⟩) hs) (lc_run hg ht h en w fun v d H' M' x w' r z => k.nx _ _ H' M' x w' ((en.mono x).set r i) z)
end
end DL
/-! DL5: contracts of defs over data, calls, instances. -/
namespace DL
open PySem PySem.Spec PyProof.Rows L2

/-! ### contracts -/
/-- a def's contract: arguments, mutable objects, what is wanted behind -/
abbrev Con := List D → Mp → (D → Mp → Prop) → Prop
/-- its promise in the hand layer -/
def spD (K : PySem.W.Frag) (n : Nat) (c : Con) : Sp := fun vs H Q _ => ∃ ds M Z Φ, ds.length = n ∧ Reps K M Z H vs ds ∧ Wd K M Z H ∧ c ds M Φ ∧ KE K M Z H Φ Q

/-! ### letting mutable objects go: what is left of them is data, or nothing -/
/-- M' has no more than M -/
def Les (M' M : Mp) : Prop := ∀ b, M' b = M b ∨ M' b = none
theorem Les.refl {M : Mp} : Les M M := fun _ => .inl rfl
theorem Les.x {M M' : Mp} {Z : Zn} {H : Hp} (l : Les M' M) : ExI M Z H M' Z H := fun b o q m => by
  refine ⟨q, ?_, m.2⟩
  rcases l b with e | e
  · rw [e]; exact m.1
  · exact e
theorem Les.w {K : PySem.W.Frag} {M M' : Mp} {Z : Zn} {H : Hp} (l : Les M' M) (w : Wd K M Z H) : Wd K M' Z H := by
  refine ⟨fun a o e => ?_, fun b z => ?_⟩
  · rcases l a with q | q
    · rw [q] at e; exact (w.1 a o e).stepI l.x rfl
    · rw [q] at e; cases e
  · obtain ⟨m, u⟩ := w.2 b z
    rcases l b with q | q
    · exact ⟨q.trans m, u⟩
    · exact ⟨q, u⟩
theorem Les.ext {K : PySem.W.Frag} {M M' : Mp} {Z : Zn} {H : Hp} (l : Les M' M) (w : Wd K M Z H) : Ext M Z H M' H := by
  refine ⟨l.x, fun b z => ⟨rfl, ?_⟩⟩
  have m := (w.2 b z).1
  rcases l b with q | q
  · exact q
  · rw [q, m]
theorem les_del {M : Mp} {a : Addr} : Les (mdel M a) M := fun b => by
  by_cases h : b = a
  · rw [h]; exact .inr mdel_same
  · exact .inl (mdel_ne h)
/-- d, read while M stands, is d' where only M' is left -/
inductive Fz (M M' : Mp) : D → D → Prop where
  | same (d : D) : Fz M M' d d
  | lst {a : Addr} {ds : List D} : M a = some (.lst ds) → M' a = none → Fz M M' (.ob a) (.lst ds)
  | dK {a : Addr} {ds : List (Key × D)} : M a = some (.dK ds) → M' a = none → Fz M M' (.ob a) (.dK ds)
  | dT {a : Addr} {ds : List (List Key × D)} : M a = some (.dT ds) → M' a = none → Fz M M' (.ob a) (.dT ds)
  | ins {a C : Addr} {fs : List (Str × D)} : M a = some (.ins C fs) → M' a = none → Fz M M' (.ob a) (.ins C fs)
  | fdK {a : Addr} {ds : List (Key × D)} : M a = some (.fdK ds) → M' a = none → Fz M M' (.ob a) (.fdK ds)
theorem Fz.rep {K : PySem.W.Frag} {M M' : Mp} {Z : Zn} {H : Hp} {v : V} {d d' : D} (f : Fz M M' d d') (l : Les M' M) (w : Wd K M Z H) (r : Rep K M Z H v d) : Rep K M' Z H v d' := by
  cases f with
  | same d => exact r.monoI l.x
  | lst h h' =>
    cases r
    obtain ⟨vs, e, r⟩ := w.1 _ _ h
    exact .lst e ⟨h', fun z => by have := (w.2 _ z).1; rw [h] at this; cases this⟩ (r.monoI l.x)
  | dK h h' =>
    cases r
    obtain ⟨vs, e, r⟩ := w.1 _ _ h
    exact .dK e ⟨h', fun z => by have := (w.2 _ z).1; rw [h] at this; cases this⟩ (r.monoI l.x)
  | dT h h' =>
    cases r
    obtain ⟨vs, e, r⟩ := w.1 _ _ h
    exact .dT e ⟨h', fun z => by have := (w.2 _ z).1; rw [h] at this; cases this⟩ (r.monoI l.x)
  | ins h h' =>
    cases r
    obtain ⟨dx, vs, e, r⟩ := w.1 _ _ h
    exact .ins e ⟨h', fun z => by have := (w.2 _ z).1; rw [h] at this; cases this⟩ (r.monoI l.x)
  | fdK h h' =>
    cases r
    obtain ⟨o, vs, e, r⟩ := w.1 _ _ h
    exact .fdK e ⟨h', fun z => by have := (w.2 _ z).1; rw [h] at this; cases this⟩ (r.monoI l.x)
/-- the end, some objects let go -/
def Lets (Φ : D → Mp → Prop) : D → Mp → Prop := fun d M => ∃ d' M', Les M' M ∧ Fz M M' d d' ∧ Φ d' M'
theorem Lets.of {Φ : D → Mp → Prop} {d : D} {M : Mp} (h : Φ d M) : Lets Φ d M := ⟨d, M, Les.refl, .same d, h⟩
theorem lets_k {K : PySem.W.Frag} {M : Mp} {Z : Zn} {H : Hp} {Φ : D → Mp → Prop} {Q : VK} (k : KE K M Z H Φ Q) : KE K M Z H (Lets Φ) Q := fun v d H' M' x w r z => by
  obtain ⟨d', M2, l, f, z⟩ := z
  exact k v d' H' M2 (x.trans (l.ext w)) (l.w w) (f.rep l w r) z
/-- slots, some objects let go -/
inductive FzE (M M' : Mp) : Rho → Rho → Prop where
  | nil : FzE M M' [] []
  | val {d d' : D} {ρ ρ' : Rho} : Fz M M' d d' → FzE M M' ρ ρ' → FzE M M' (some d :: ρ) (some d' :: ρ')
  | drop {o : Option D} {ρ ρ' : Rho} : FzE M M' ρ ρ' → FzE M M' (o :: ρ) (none :: ρ')
theorem FzE.env {K : PySem.W.Frag} {M M' : Mp} {Z : Zn} {H : Hp} (l : Les M' M) (w : Wd K M Z H) : ∀ {σ : L2.St} {ρ ρ' : Rho}, FzE M M' ρ ρ' → EnvR K M Z H σ ρ → EnvR K M' Z H σ ρ'
  | _, _, _, .nil, .nil => .nil
  | _, _, _, .val f t, .val r u => .val (f.rep l w r) (FzE.env l w t u)
  | _, _, _, .drop t, .val r u => .any (FzE.env l w t u)
  | _, _, _, .drop t, .any u => .any (FzE.env l w t u)
theorem FzE.refl {M M' : Mp} : ∀ (ρ : Rho), FzE M M' ρ ρ
  | [] => .nil
  | some d :: ρ => .val (.same d) (FzE.refl ρ)
  | none :: ρ => .drop (FzE.refl ρ)
/-- go on with less -/
theorem wss_let {X : Cx} {ρ ρ' : Rho} {M M' : Mp} {sts : List Stmt} {Ψ : DE} (l : Les M' M) (f : FzE M M' ρ ρ') (h : WSs X ρ' M' sts Ψ) : WSs X ρ M sts Ψ := .mk fun σ H E en w k =>
  h.run σ H E (f.env l w en) (l.w w) (k.step (l.ext w))

/-! ### a def keeps its contract -/
section
variable {P : Program} {w : World} {K : PySem.W.Frag} {mg : Str → Option Value} {base : Heap} {x qual : Str} {params : Arguments} {body : List Stmt} {scope : Scope} {dvs : List V} {kws : List (Str × V)} {f : Addr} {fd : FuncData}
/-- the context of a body -/
abbrev bx (P : Program) (w : World) (K : PySem.W.Frag) (mg : Str → Option Value) (base : Heap) (N : List Str) (qual : Str) (scope : Scope) (f : Addr) (cdv : Value) (A : Around) (outer : List Env) (s : Shared) (H : Hp) (E : XK) : Cx :=
  (cxOf CX0 P w K mg base N qual scope f cdv A outer s H E).nox
theorem fn_ok {N ps : List Str} {k : Nat} {c : Con} (F : FunD K x qual params body scope dvs kws f fd) (S : FnScope N ps scope)
    (h : ∀ (cdv : Value) (A : Around) (outer : List Env) (s : Shared) (H : Hp) (E : XK), Room k (A.deeper (envOfC qual scope s.heap.objs.size f cdv)) → ∀ ds M Φ, ds.length = ps.length → c ds M Φ →
      WSs (bx P w K mg base N qual scope f cdv A outer s H E) (start N ds) M body { nx := fun _ M' => Φ .non M', rt := Lets Φ }) : FnOk P w K mg base CX0 (k + 1) f fd ps (spD K ps.length c) := by
  refine F.ok S (fun vs H Q E q => ?_) (fun cdv A outer s H vs Q E hr q => ?_)
  · obtain ⟨ds, M, Z, Φ, hl, r, _⟩ := q
    rw [r.length, hl]
  · obtain ⟨ds, M, Z, Φ, hl, r, wd, hc, k⟩ := q
    refine ⟨_, PSs.nox (pss_sem (X := bx P w K mg base N qual scope f cdv A outer s H E)), ?_⟩
    exact (h cdv A outer s H E hr ds M Φ hl hc).run (L2.start N vs) H _ (env_start r) wd ⟨fun σ' ρ' H' M' x w' en z => k _ .non H' M' x w' .non z, lets_k k, fun _ _ _ _ _ _ _ z => z.elim, fun _ _ _ _ _ _ _ z => z.elim⟩
end

/-! ### calls -/
/-- the global x is a def with this contract; dd the data of the defaults that fill up -/
structure Fc (P : Program) (w : World) (K : PySem.W.Frag) (mg : Str → Option Value) (base : Heap) (x : Str) (dd : List D) (k n : Nat) (c : Con) : Prop where
  ex : ∃ (f : Addr) (fd : FuncData) (ps : List Str) (dvs : List V) (ds : List Value), FnOk P w K mg base CX0 k f fd ps (spD K n c) ∧ mg x = some (.ref f) ∧ PySem.W.keepIn K (.ref f) = true ∧ Binds K fd ps ds ∧ Vals dvs ds ∧ ∀ M Z H, Reps K M Z H dvs dd
section
variable {X : Cx} {ρ : Rho} {M : Mp} {Φ : D → Mp → Prop} {e o : Expr} {es : List Expr} {pos p apos : Pos} {x m : Str} {dd : List D} {k n : Nat} {c : Con}
theorem sp_run {n : Nat} {vs dvs : List V} {ds : List D} {M1 : Mp} {Z : Zn} {H1 : Hp} {Q : VK} {E : XK} (r : Reps X.K M1 Z H1 vs ds) (rd : Reps X.K M1 Z H1 dvs dd) (w1 : Wd X.K M1 Z H1) (hz : (ds ++ dd).length = n ∧ c (ds ++ dd) M1 Φ) (k : KE X.K M1 Z H1 Φ Q) : spD X.K n c (vs ++ dvs) H1 Q E :=
  ⟨ds ++ dd, M1, Z, Φ, hz.1, r.append rd, w1, hz.2, k⟩
theorem we_call (F : Fc X.prog X.w X.K X.mg X.base x dd k n c) (hr : Room k X.A) (h : WA X ρ M (e :: es) fun ds M1 => (ds ++ dd).length = n ∧ c (ds ++ dd) M1 Φ) (hg : Gl X x := by rfl)
    (hdb : (x == ("__debug__" : Str)) = false := by decide) (he : starEach (e :: es) X.env = (false, eval e X.env) :: starEach es X.env := by rfl) (hpl : (backTo pos (starEach es X.env)).any (·.1) = false := by rfl) : WE X ρ M (.Call (.Name x p) (e :: es) [] pos) Φ := .mk fun σ H Q en w k => by
  obtain ⟨f, fd, ps, dvs, ds, F, hm, hk, hb, hd, hdd⟩ := F.ex
  exact eOf (pe_call (E := E0) F hr hg hm hk hb hd pass0 pa_sem hdb he hpl) (h.run σ H _ en w fun vs as H1 M1 e1 w1 r1 hz => sp_run r1 (hdd _ _ _) w1 hz (k.step e1))
theorem we_call0 (F : Fc X.prog X.w X.K X.mg X.base x dd k n c) (hr : Room k X.A) (h : dd.length = n ∧ c dd M Φ) (hg : Gl X x := by rfl)
    (hdb : (x == ("__debug__" : Str)) = false := by decide) : WE X ρ M (.Call (.Name x p) [] [] pos) Φ := .mk fun σ H Q en w k => by
  obtain ⟨f, fd, ps, dvs, ds, F, hm, hk, hb, hd, hdd⟩ := F.ex
  exact eOf (pe_call0 (E := E0) F hr hg hm hk hb hd pass0 hdb) (sp_run (E := E0) (ds := []) (vs := []) .nil (hdd _ _ _) w h k)

/-! ### instances -/
/-- d is an instance of the class at C with these fields -/
def InsOf (M : Mp) (C : Addr) : D → List (Str × D) → Prop
  | .ins C' fs, gs => C' = C ∧ gs = fs
  | .ob a, gs => M a = some (.ins C gs)
  | _, _ => False
theorem RepF.lookup {K : PySem.W.Frag} {M : Mp} {Z : Zn} {H : Hp} (f : Str) : ∀ {vs : List (Str × V)} {ds : List (Str × D)}, RepF K M Z H vs ds → (ds.lookup f = none → vs.lookup f = none) ∧ ∀ d, ds.lookup f = some d → ∃ v, vs.lookup f = some v ∧ Rep K M Z H v d
  | _, _, .nil => ⟨fun _ => rfl, fun d e => by cases e⟩
  | _, _, .cons (k := g) (v := v) (d := d) (vs := vs) (ds := ds) r t => by
    rw [List.lookup_cons, List.lookup_cons]
    cases hg : f == g with
    | true =>
      refine ⟨fun e => ?_, fun d e => ?_⟩
      · cases e
      · cases e; exact ⟨_, rfl, r⟩
    | false => exact RepF.lookup f t
theorem RepF.length {K : PySem.W.Frag} {M : Mp} {Z : Zn} {H : Hp} : ∀ {vs : List (Str × V)} {ds : List (Str × D)}, RepF K M Z H vs ds → vs.length = ds.length
  | _, _, .nil => rfl
  | _, _, .cons _ t => by rw [List.length_cons, List.length_cons, t.length]
theorem Rep.asIns {K : PySem.W.Frag} {M : Mp} {Z : Zn} {H : Hp} {C : Addr} {v : V} {d : D} {fs : List (Str × D)} (w : Wd K M Z H) (r : Rep K M Z H v d) (i : InsOf M C d fs) : ∃ a dx vs, v = .ref a ∧ H a = some (.ins C dx vs) ∧ RepF K M Z H vs fs := by
  cases r with
  | ins h m r =>
    obtain ⟨rfl, rfl⟩ := i
    exact ⟨_, _, _, rfl, h, r⟩
  | ob a =>
    obtain ⟨dx, vs, h, r⟩ := w.1 a _ i
    exact ⟨_, _, _, rfl, h, r⟩
  | _ => cases i
theorem InsOf.mono {K : PySem.W.Frag} {C : Addr} {d : D} {fs : List (Str × D)} {M : Mp} (h : InsOf M C d fs) {M' : Mp} (k : ∀ a, d = .ob a → M' a = M a) : InsOf M' C d fs := by
  cases d with
  | ins C' gs => exact h
  | ob a => exact (k a rfl).trans h
  | _ => cases h
/-- o.f, a field -/
theorem we_fld {f : Str} {C : Addr} (h : WE X ρ M o fun d M1 => ∃ fs v, InsOf M1 C d fs ∧ Cls X.K C ∧ NoAttr X.K C f ∧ fs.lookup f = some v ∧ Φ v M1) (hb : attributeBase o f X.env (eval o X.env) = eval o X.env := by rfl) : WE X ρ M (.Attribute o f pos) Φ := .mk fun σ H Q en w k =>
  eOf (pe_fld pe_sem hb) (h.run σ H _ en w fun v d H1 M1 e1 w1 r1 hz => by
    obtain ⟨fs, y, hi, cl, na, hl, hz⟩ := hz
    obtain ⟨a, dx, vs, rfl, ha, rf⟩ := r1.asIns w1 hi
    obtain ⟨u, hu, ru⟩ := (rf.lookup f).2 y hl
    exact ⟨a, C, dx, vs, u, rfl, ha, cl, na, hu, (k.step e1).now w1 ru hz⟩)
/-- the fields, one stored -/
def putD (f : Str) (d : D) : List (Str × D) → List (Str × D)
  | [] => [(f, d)]
  | (g, y) :: r => if g = f then (g, d) :: r else (g, y) :: putD f d r
theorem RepF.put {K : PySem.W.Frag} {M : Mp} {Z : Zn} {H : Hp} {f : Str} {v : V} {d : D} (r : Rep K M Z H v d) : ∀ {vs : List (Str × V)} {ds : List (Str × D)}, RepF K M Z H vs ds → RepF K M Z H (putF f v vs) (putD f d ds)
  | _, _, .nil => .cons r .nil
  | _, _, .cons (k := g) r' t => by
    unfold putF putD
    by_cases h : g = f
    · rw [if_pos h, if_pos h]; exact .cons r t
    · rw [if_neg h, if_neg h]; exact .cons r' (RepF.put r t)
/-- o.f = e, o a mutable instance -/
theorem ws_fld {f : Str} {C : Addr} {value : Expr} {pos' : Pos} {Ψ : DE} (h : WE X ρ M value fun d M1 => WE X ρ M1 o fun x M2 => ∃ a fs, x = .ob a ∧ M2 a = some (.ins C fs) ∧ Cls X.K C ∧ NoAttr X.K C f ∧ fs.length < 1000 ∧ Ψ.nx ρ (mset M2 a (.ins C (putD f d fs))))
    (hs : swapsWith value (some (.Attribute o f pos')) pos.line X.env = pure false := by rfl) : WS X ρ M (.Assign [.Attribute o f pos'] value pos) Ψ := .mk fun σ H E en w k =>
  sOf (ps_fld pe_sem pe_sem hs) (bind2 h en w fun v u d x H2 M2 e2 w2 r1 r2 hz => by
    obtain ⟨a, fs, rfl, hM, cl, na, hl, hz⟩ := hz
    cases r2
    obtain ⟨dx, vs, ha, rf⟩ := w2.1 a _ hM
    refine ⟨a, C, dx, vs, rfl, ha, cl, na, by rw [rf.length]; exact hl, ?_⟩
    have x3 : Ext M2 _ H2 (mset M2 a (.ins C (putD f d fs))) (upd H2 a (.ins C dx (putF f v vs))) := Ext.put w2 hM
    exact k.nx σ ρ _ _ (e2.trans x3) (w2.put hM ⟨dx, _, upd_same, (rf.mono x3).put (r1.mono x3)⟩) (en.mono (e2.trans x3)) hz)
/-- the method m of the class at C has this contract (self among the arguments) -/
structure Mc (P : Program) (w : World) (K : PySem.W.Frag) (mg : Str → Option Value) (base : Heap) (C : Addr) (m : Str) (dd : List D) (k n : Nat) (c : Con) : Prop where
  cl : Cls K C
  ex : ∃ (f : Addr) (fd : FuncData) (ps : List Str) (dvs : List V) (ds : List Value), FnOk P w K mg base CX0 k f fd ps (spD K n c) ∧ Meth K C m f ∧ Binds K fd ps ds ∧ Vals dvs ds ∧ ∀ M Z H, Reps K M Z H dvs dd
theorem we_meth {C : Addr} {pl : Sem Bool} (F : Mc X.prog X.w X.K X.mg X.base C m dd k n c) (hr : Room k X.A)
    (h : WE X ρ M o fun d M1 => ∃ fs, InsOf M1 C d fs ∧ fs.lookup m = none ∧ WA X ρ M1 (e :: es) fun as M2 => (d :: (as ++ dd)).length = n ∧ c (d :: (as ++ dd)) M2 Φ)
    (hst : starEach (e :: es) X.env = (false, eval e X.env) :: starEach es X.env := by rfl) (hpl : (backTo pos (starEach es X.env)).any (·.1) = false := by rfl)
    (ht : eval (.Call (.Attribute o m apos) (e :: es) [] pos) X.env = (do
      let ov ← eval o X.env
      standAt apos.atName
      let (f, first) ← holding [ov] (getMethod ov m pl)
      callWith pos f first (backTo pos (starEach (e :: es) X.env)) (backToKw pos (keywordEach [] X.env))) := by rfl) : WE X ρ M (.Call (.Attribute o m apos) (e :: es) [] pos) Φ := .mk fun σ H Q en w k => by
  obtain ⟨f, fd, ps, dvs, ds, F', hm, hbd, hd, hdd⟩ := F.ex
  refine eOf (pe_meth (pl := pl) (E := E0) pe_sem F.cl hm F' hr hbd hd pass0 pa_sem hst hpl ht) (h.run σ H _ en w fun v d H1 M1 e1 w1 r1 hz => ?_)
  obtain ⟨fs, hi, hl, hz⟩ := hz
  obtain ⟨a, dx, vs, rfl, ha, rf⟩ := r1.asIns w1 hi
  refine ⟨a, dx, vs, rfl, ha, (rf.lookup m).1 hl, hz.run σ H1 _ (en.mono e1) w1 fun us as H2 M2 e2 w2 r2 hy => ?_⟩
  exact ⟨d :: (as ++ dd), M2, _, Φ, hy.1, .cons (r1.mono e2) (r2.append (hdd _ _ _)), w2, hy.2, k.step (e1.trans e2)⟩
theorem we_meth0 {C : Addr} {pl : Sem Bool} (F : Mc X.prog X.w X.K X.mg X.base C m dd k n c) (hr : Room k X.A)
    (h : WE X ρ M o fun d M1 => ∃ fs, InsOf M1 C d fs ∧ fs.lookup m = none ∧ (d :: dd).length = n ∧ c (d :: dd) M1 Φ)
    (ht : eval (.Call (.Attribute o m apos) [] [] pos) X.env = (do
      let ov ← eval o X.env
      standAt apos.atName
      let (f, first) ← holding [ov] (getMethod ov m pl)
      callWith pos f first (backTo pos (starEach [] X.env)) (backToKw pos (keywordEach [] X.env))) := by rfl) : WE X ρ M (.Call (.Attribute o m apos) [] [] pos) Φ := .mk fun σ H Q en w k => by
  obtain ⟨f, fd, ps, dvs, ds, F', hm, hbd, hd, hdd⟩ := F.ex
  refine eOf (pe_meth0 (pl := pl) (E := E0) pe_sem F.cl hm F' hr hbd hd pass0 ht) (h.run σ H _ en w fun v d H1 M1 e1 w1 r1 hz => ?_)
  obtain ⟨fs, hi, hl, hz⟩ := hz
  obtain ⟨a, dx, vs, rfl, ha, rf⟩ := r1.asIns w1 hi
  exact ⟨a, dx, vs, rfl, ha, (rf.lookup m).1 hl, d :: dd, M1, _, Φ, hz.1, .cons r1 (hdd _ _ _), w1, hz.2, k.step e1⟩
/-- a property of the class at C, its getter's contract -/
structure Pc (P : Program) (w : World) (K : PySem.W.Frag) (mg : Str → Option Value) (base : Heap) (C : Addr) (m : Str) (k : Nat) (c : Con) : Prop where
  cl : Cls K C
  ex : ∃ (p g : Addr) (fd : FuncData) (ps : List Str), FnOk P w K mg base CX0 k g fd ps (spD K 1 c) ∧ PropOf K C m p g ∧ Binds K fd ps []
theorem we_prop {C : Addr} (F : Pc X.prog X.w X.K X.mg X.base C m k c) (hr : Room (k + 1) X.A) (h : WE X ρ M o fun d M1 => ∃ fs, InsOf M1 C d fs ∧ c [d] M1 Φ)
    (hab : attributeBase o m X.env (eval o X.env) = eval o X.env := by rfl) : WE X ρ M (.Attribute o m pos) Φ := .mk fun σ H Q en w k => by
  obtain ⟨p, g, fd, ps, F', hp, hb⟩ := F.ex
  refine eOf (pe_prop (E := E0) pe_sem F.cl hp F' hr hb .nil pass0 hab) (h.run σ H _ en w fun v d H1 M1 e1 w1 r1 hz => ?_)
  obtain ⟨fs, hi, hz⟩ := hz
  obtain ⟨a, dx, vs, rfl, ha, rf⟩ := r1.asIns w1 hi
  exact ⟨a, dx, vs, rfl, ha, [d], M1, _, Φ, rfl, .cons r1 .nil, w1, hz, k.step e1⟩
/-- the class of the name x, its __init__'s contract: the new instance is the first argument -/
structure Kc (P : Program) (w : World) (K : PySem.W.Frag) (mg : Str → Option Value) (base : Heap) (x : Str) (C : Addr) (dd : List D) (k n : Nat) (c : Con) : Prop where
  at_ : mg x = some (.ref C)
  ex : ∃ (f : Addr) (fd : FuncData) (ps : List Str) (dvs : List V) (ds : List Value), FnOk P w K mg base CX0 k f fd ps (spD K n c) ∧ Mk K C f ∧ Binds K fd ps ds ∧ Vals dvs ds ∧ ∀ M Z H, Reps K M Z H dvs dd
theorem we_make {C : Addr} (F : Kc X.prog X.w X.K X.mg X.base x C dd k n c) (hr : Room (k + 1) X.A)
    (h : WA X ρ M (e :: es) fun as M1 => ∀ a, M1 a = none → (.ob a :: (as ++ dd)).length = n ∧ c (.ob a :: (as ++ dd)) (mset M1 a (.ins C [])) fun d M2 => d = .non ∧ Lets Φ (.ob a) M2) (hg : Gl X x := by rfl)
    (hdb : (x == ("__debug__" : Str)) = false := by decide) (he : starEach (e :: es) X.env = (false, eval e X.env) :: starEach es X.env := by rfl) (hpl : (backTo pos (starEach es X.env)).any (·.1) = false := by rfl) : WE X ρ M (.Call (.Name x p) (e :: es) [] pos) Φ := .mk fun σ H Q en w k => by
  obtain ⟨f, fd, ps, dvs, ds, F', hm, hbd, hd, hdd⟩ := F.ex
  refine eOf (pe_make (E := E0) hm F' hr hg F.at_ hbd hd pass0 pa_sem hdb he hpl) (h.run σ H _ en w fun vs as H1 M1 e1 w1 r1 hz => ?_)
  intro a dx ha hdx ne
  obtain ⟨hl, hz⟩ := hz a (w1.fresh ha).1
  have ha1 : (upd H1 dx (.own a)) a = none := by rw [upd_ne (Ne.symm ne)]; exact ha
  have x1 : Ext M1 _ H1 M1 (upd H1 dx (.own a)) := Ext.new w1 hdx
  have wa := w1.new (o := .own a) hdx
  have x2 : Ext M1 _ (upd H1 dx (.own a)) (mset M1 a (.ins C [])) (upd (upd H1 dx (.own a)) a (.ins C dx [])) := Ext.newM wa ha1
  have x12 := x1.trans x2
  refine ⟨.ob a :: (as ++ dd), mset M1 a (.ins C []), _, _, hl, .cons (.ob a) ((r1.mono x12).append (hdd _ _ _)), wa.newM ha1 ⟨dx, [], upd_same, .nil⟩, hz, fun v d H2 M2 x3 w2 r2 hy => ?_⟩
  obtain ⟨rfl, hy⟩ := hy
  cases r2
  exact ⟨rfl, lets_k (k.step (e1.trans x12)) _ _ H2 M2 x3 w2 (.ob a) hy⟩
end
end DL
/-! DL6: operators, comparisons, subscripts, slices. -/
namespace DL
open PySem PySem.Spec PyProof.Rows L2
section
variable {X : Cx} {ρ : Rho} {M : Mp} {Φ : D → Mp → Prop} {Θ : Bool → Mp → Prop} {a b e : Expr} {pos : Pos} {K : PySem.W.Frag}

/-! ### ints -/
theorem rd_I {C : Int → Int → Prop} {g : Int → Int → Int} {x y : D} (h : ∃ i j, x = .int i ∧ y = .int j ∧ C i j ∧ Φ (.int (g i j)) M) : RD K (rI C fun i j => .int (g i j)) x y M Φ := fun Z v u H Q w r1 r2 k => by
  obtain ⟨i, j, rfl, rfl, hc, h⟩ := h
  cases r1; cases r2
  exact ⟨i, j, rfl, rfl, hc, k.now w (.int _) h⟩
theorem rd_I0 {g : Int → Int → Int} {x y : D} (h : ∃ i j, x = .int i ∧ y = .int j ∧ Φ (.int (g i j)) M) : RD K (rI0 fun i j => .int (g i j)) x y M Φ := fun Z v u H Q w r1 r2 k => by
  obtain ⟨i, j, rfl, rfl, h⟩ := h
  cases r1; cases r2
  exact ⟨i, j, rfl, rfl, k.now w (.int _) h⟩
theorem rd_B0 {g : Int → Int → Bool} {x y : D} (h : ∃ i j, x = .int i ∧ y = .int j ∧ Φ (.bl (g i j)) M) : RD K (rI0 fun i j => .bl (g i j)) x y M Φ := fun Z v u H Q w r1 r2 k => by
  obtain ⟨i, j, rfl, rfl, h⟩ := h
  cases r1; cases r2
  exact ⟨i, j, rfl, rfl, k.now w (.bl _) h⟩
theorem we_addI (h : WE X ρ M a fun x M1 => WE X ρ M1 b fun y M2 => ∃ i j, x = .int i ∧ y = .int j ∧ Φ (.int (i + j)) M2) : WE X ρ M (.BinOp a .Add b pos) Φ := we_op op_add (h.imp fun _ _ h => h.imp fun _ _ h => rd_I0 h)
theorem we_subI (h : WE X ρ M a fun x M1 => WE X ρ M1 b fun y M2 => ∃ i j, x = .int i ∧ y = .int j ∧ Φ (.int (i - j)) M2) : WE X ρ M (.BinOp a .Sub b pos) Φ := we_op op_sub (h.imp fun _ _ h => h.imp fun _ _ h => rd_I0 h)
theorem we_mulI (h : WE X ρ M a fun x M1 => WE X ρ M1 b fun y M2 => ∃ i j, x = .int i ∧ y = .int j ∧ CMulW i j ∧ Φ (.int (i * j)) M2) : WE X ρ M (.BinOp a .Mult b pos) Φ := we_op op_mulW (h.imp fun _ _ h => h.imp fun _ _ h => rd_I h)
/-- one factor small -/
theorem we_mulS (h : WE X ρ M a fun x M1 => WE X ρ M1 b fun y M2 => ∃ i j, x = .int i ∧ y = .int j ∧ CMul i j ∧ Φ (.int (i * j)) M2) : WE X ρ M (.BinOp a .Mult b pos) Φ := we_op op_mul (h.imp fun _ _ h => h.imp fun _ _ h => rd_I h)
theorem we_modI (h : WE X ρ M a fun x M1 => WE X ρ M1 b fun y M2 => ∃ i j, x = .int i ∧ y = .int j ∧ 0 < j ∧ Φ (.int (i % j)) M2) : WE X ρ M (.BinOp a .Mod b pos) Φ := we_op op_mod (h.imp fun _ _ h => h.imp fun _ _ h => rd_I (C := fun _ j => 0 < j) h)
theorem we_divI (h : WE X ρ M a fun x M1 => WE X ρ M1 b fun y M2 => ∃ i j, x = .int i ∧ y = .int j ∧ CDivW i j ∧ Φ (.int (i / j)) M2) : WE X ρ M (.BinOp a .FloorDiv b pos) Φ := we_op op_fdivW (h.imp fun _ _ h => h.imp fun _ _ h => rd_I h)
theorem we_powI (h : WE X ρ M a fun x M1 => WE X ρ M1 b fun y M2 => ∃ i j, x = .int i ∧ y = .int j ∧ CPow i j ∧ Φ (.int (i ^ j.toNat)) M2) : WE X ρ M (.BinOp a .Pow b pos) Φ := we_op op_pow (h.imp fun _ _ h => h.imp fun _ _ h => rd_I h)
theorem we_negI (h : WE X ρ M a fun x M1 => ∃ i, x = .int i ∧ Φ (.int (-i)) M1) : WE X ρ M (.UnaryOp .USub a pos) Φ := we_un un_neg (h.imp fun _ _ h Z v H Q w r k => by
  obtain ⟨i, rfl, h⟩ := h
  cases r
  exact ⟨i, rfl, k.now w (.int _) h⟩)
section
variable {op : CmpOp}
theorem we_ltI (h : WE X ρ M a fun x M1 => WE X ρ M1 b fun y M2 => ∃ i j, x = .int i ∧ y = .int j ∧ Φ (.bl (decide (i < j))) M2) : WE X ρ M (.Compare a [.Lt] [b] pos) Φ := we_cmp op_lt (nomark _) (h.imp fun _ _ h => h.imp fun _ _ h => rd_B0 h)
theorem we_leI (h : WE X ρ M a fun x M1 => WE X ρ M1 b fun y M2 => ∃ i j, x = .int i ∧ y = .int j ∧ Φ (.bl (decide (i ≤ j))) M2) : WE X ρ M (.Compare a [.LtE] [b] pos) Φ := we_cmp op_le (nomark _) (h.imp fun _ _ h => h.imp fun _ _ h => rd_B0 h)
theorem we_gtI (h : WE X ρ M a fun x M1 => WE X ρ M1 b fun y M2 => ∃ i j, x = .int i ∧ y = .int j ∧ Φ (.bl (decide (j < i))) M2) : WE X ρ M (.Compare a [.Gt] [b] pos) Φ := we_cmp op_gt (nomark _) (h.imp fun _ _ h => h.imp fun _ _ h => rd_B0 h)
theorem we_geI (h : WE X ρ M a fun x M1 => WE X ρ M1 b fun y M2 => ∃ i j, x = .int i ∧ y = .int j ∧ Φ (.bl (decide (j ≤ i))) M2) : WE X ρ M (.Compare a [.GtE] [b] pos) Φ := we_cmp op_ge (nomark _) (h.imp fun _ _ h => h.imp fun _ _ h => rd_B0 h)
theorem wt_ltI (h : WE X ρ M a fun x M1 => WE X ρ M1 b fun y M2 => ∃ i j, x = .int i ∧ y = .int j ∧ Θ (decide (i < j)) M2) : WT X ρ M (.Compare a [.Lt] [b] pos) Θ := wt_cmp op_lt (nomark _) (h.imp fun _ _ h => h.imp fun _ _ ⟨i, j, e1, e2, h⟩ => rd_B0 ⟨i, j, e1, e2, _, rfl, h⟩)
theorem wt_leI (h : WE X ρ M a fun x M1 => WE X ρ M1 b fun y M2 => ∃ i j, x = .int i ∧ y = .int j ∧ Θ (decide (i ≤ j)) M2) : WT X ρ M (.Compare a [.LtE] [b] pos) Θ := wt_cmp op_le (nomark _) (h.imp fun _ _ h => h.imp fun _ _ ⟨i, j, e1, e2, h⟩ => rd_B0 ⟨i, j, e1, e2, _, rfl, h⟩)
theorem wt_gtI (h : WE X ρ M a fun x M1 => WE X ρ M1 b fun y M2 => ∃ i j, x = .int i ∧ y = .int j ∧ Θ (decide (j < i)) M2) : WT X ρ M (.Compare a [.Gt] [b] pos) Θ := wt_cmp op_gt (nomark _) (h.imp fun _ _ h => h.imp fun _ _ ⟨i, j, e1, e2, h⟩ => rd_B0 ⟨i, j, e1, e2, _, rfl, h⟩)
theorem wt_geI (h : WE X ρ M a fun x M1 => WE X ρ M1 b fun y M2 => ∃ i j, x = .int i ∧ y = .int j ∧ Θ (decide (j ≤ i)) M2) : WT X ρ M (.Compare a [.GtE] [b] pos) Θ := wt_cmp op_ge (nomark _) (h.imp fun _ _ h => h.imp fun _ _ ⟨i, j, e1, e2, h⟩ => rd_B0 ⟨i, j, e1, e2, _, rfl, h⟩)
end

/-! ### == of scalars -/
/-- the answer of == between scalars -/
def EqS : D → D → Bool → Prop
  | .int i, .int j, c => c = decide (i = j)
  | .str i, .str j, c => c = decide (i = j)
  | .bl i, .bl j, c => c = decide (i = j)
  | .non, .non, c => c = true
  | .non, .int _, c => c = false
  | .int _, .non, c => c = false
  | .non, .str _, c => c = false
  | .str _, .non, c => c = false
  | .int _, .str _, c => c = false
  | .str _, .int _, c => c = false
  | _, _, _ => False
theorem EqS.rep {x y : D} {c : Bool} {M : Mp} {Z : Zn} {H : Hp} {v u : V} (h : EqS x y c) (r1 : Rep K M Z H v x) (r2 : Rep K M Z H u y) : scal v u = true ∧ decide (v = u) = c := by
  cases r1 <;> cases r2 <;> first
    | (cases h; exact ⟨rfl, by simp⟩)
    | (exact False.elim h)
    | (cases h; exact ⟨rfl, rfl⟩)
theorem rd_eq {x y : D} (h : ∃ c, EqS x y c ∧ Φ (.bl c) M) : RD K rEq x y M Φ := fun Z v u H Q w r1 r2 k => by
  obtain ⟨c, hc, h⟩ := h
  obtain ⟨s1, s2⟩ := hc.rep r1 r2
  exact ⟨s1, by rw [s2]; exact k.now w (.bl c) h⟩
theorem rd_ne {x y : D} (h : ∃ c, EqS x y c ∧ Φ (.bl (!c)) M) : RD K rNe x y M Φ := fun Z v u H Q w r1 r2 k => by
  obtain ⟨c, hc, h⟩ := h
  obtain ⟨s1, s2⟩ := hc.rep r1 r2
  exact ⟨s1, by rw [s2]; exact k.now w (.bl (!c)) h⟩
theorem we_eqS (h : WE X ρ M a fun x M1 => WE X ρ M1 b fun y M2 => ∃ c, EqS x y c ∧ Φ (.bl c) M2) : WE X ρ M (.Compare a [.Eq] [b] pos) Φ := we_cmp op_eq (nomark _) (h.imp fun _ _ h => h.imp fun _ _ h => rd_eq h)
theorem we_neS (h : WE X ρ M a fun x M1 => WE X ρ M1 b fun y M2 => ∃ c, EqS x y c ∧ Φ (.bl (!c)) M2) : WE X ρ M (.Compare a [.NotEq] [b] pos) Φ := we_cmp op_ne (nomark _) (h.imp fun _ _ h => h.imp fun _ _ h => rd_ne h)
theorem wt_eqS (h : WE X ρ M a fun x M1 => WE X ρ M1 b fun y M2 => ∃ c, EqS x y c ∧ Θ c M2) : WT X ρ M (.Compare a [.Eq] [b] pos) Θ := wt_cmp op_eq (nomark _) (h.imp fun _ _ h => h.imp fun _ _ ⟨c, e, h⟩ => rd_eq ⟨c, e, _, rfl, h⟩)
theorem wt_neS (h : WE X ρ M a fun x M1 => WE X ρ M1 b fun y M2 => ∃ c, EqS x y c ∧ Θ (!c) M2) : WT X ρ M (.Compare a [.NotEq] [b] pos) Θ := wt_cmp op_ne (nomark _) (h.imp fun _ _ h => h.imp fun _ _ ⟨c, e, h⟩ => rd_ne ⟨c, e, _, rfl, h⟩)

/-! ### == of data -/
mutual
def toPy : D → Option PyData
  | .non => some .none
  | .bl b => some (.bool b)
  | .int i => some (.int i)
  | .str x => some (.str x)
  | .lst xs => (toPys xs).map .list
  | .rol xs => (toPys xs).map .list
  | .tup xs => (toPys xs).map .tuple
  | _ => none
def toPys : List D → Option (List PyData)
  | [] => some []
  | x :: xs => (toPy x).bind fun d => (toPys xs).map fun ds => d :: ds
end
mutual
theorem Rep.dp {M : Mp} {Z : Zn} {H : Hp} : ∀ {v : V} {d : D} {p : PyData}, Rep K M Z H v d → toPy d = some p → Dp K H v p
  | _, _, _, .non, e => by cases e; exact .non
  | _, _, _, .bl b, e => by cases e; exact .bl b
  | _, _, _, .int i, e => by cases e; exact .int i
  | _, _, _, .str x, e => by cases e; exact .str x
  | _, _, _, .ty n, e => by simp [toPy] at e
  | _, _, _, .fn n, e => by simp [toPy] at e
  | _, _, _, .ob n, e => by simp [toPy] at e
  | _, _, _, .dK h m r, e => by simp [toPy] at e
  | _, _, _, .dT h m r, e => by simp [toPy] at e
  | _, _, _, .ins h m r, e => by simp [toPy] at e
  | _, _, _, .key h m, e => by simp [toPy] at e
  | _, _, _, .fig h hd m md, e => by simp [toPy] at e
  | _, _, _, .exc h hd m md r, e => by simp [toPy] at e
  | _, _, _, .lam h hc m mc, e => by simp [toPy] at e
  | _, _, _, .fdK h m r, e => by simp [toPy] at e
  | _, _, _, .lst h m r, e => by
    obtain ⟨ps, e1, rfl⟩ := Option.map_eq_some_iff.mp (by simpa only [toPy] using e)
    exact .lst (.inl (.inl h)) (Reps.dp r e1)
  | _, _, _, .rol h m r, e => by
    obtain ⟨ps, e1, rfl⟩ := Option.map_eq_some_iff.mp (by simpa only [toPy] using e)
    exact .lst (.inl h) (Reps.dp r e1)
  | _, _, _, .rolK h r, e => by
    obtain ⟨ps, e1, rfl⟩ := Option.map_eq_some_iff.mp (by simpa only [toPy] using e)
    exact .lst (.inr h) (Reps.dp r e1)
  | _, _, _, .tup h m r, e => by
    obtain ⟨ps, e1, rfl⟩ := Option.map_eq_some_iff.mp (by simpa only [toPy] using e)
    exact .tup (.inl h) (Reps.dp r e1)
  | _, _, _, .tupK h r, e => by
    obtain ⟨ps, e1, rfl⟩ := Option.map_eq_some_iff.mp (by simpa only [toPy] using e)
    exact .tup (.inr h) (Reps.dp r e1)
theorem Reps.dp {M : Mp} {Z : Zn} {H : Hp} : ∀ {vs : List V} {ds : List D} {ps : List PyData}, Reps K M Z H vs ds → toPys ds = some ps → DpAll K H vs ps
  | _, _, _, .nil, e => by cases (show some [] = some _ from (by simpa only [toPys] using e)); exact .nil
  | _, _, _, .cons r t, e => by
    simp only [toPys] at e
    obtain ⟨p, e1, e2⟩ := Option.bind_eq_some_iff.mp e
    obtain ⟨qs, e3, rfl⟩ := Option.map_eq_some_iff.mp e2
    exact .cons (Rep.dp r e1) (Reps.dp t e3)
end
theorem rd_eqD {x y : D} (h : ∃ p q, toPy x = some p ∧ toPy y = some q ∧ SeqAt.shaped p = true ∧ SeqAt.shaped q = true ∧ Φ (.bl (PyData.eqv p q)) M) : RD K (rEqD K) x y M Φ := fun Z v u H Q w r1 r2 k => by
  obtain ⟨p, q, e1, e2, s1, s2, h⟩ := h
  exact ⟨p, q, r1.dp e1, r2.dp e2, s1, s2, k.now w (.bl _) h⟩
theorem rd_neD {x y : D} (h : ∃ p q, toPy x = some p ∧ toPy y = some q ∧ SeqAt.shaped p = true ∧ SeqAt.shaped q = true ∧ Φ (.bl (!PyData.eqv p q)) M) : RD K (rNeD K) x y M Φ := fun Z v u H Q w r1 r2 k => by
  obtain ⟨p, q, e1, e2, s1, s2, h⟩ := h
  exact ⟨p, q, r1.dp e1, r2.dp e2, s1, s2, k.now w (.bl _) h⟩
theorem we_eqD (hu : X.A.units + 64 < cLine) (h : WE X ρ M a fun x M1 => WE X ρ M1 b fun y M2 => ∃ p q, toPy x = some p ∧ toPy y = some q ∧ SeqAt.shaped p = true ∧ SeqAt.shaped q = true ∧ Φ (.bl (PyData.eqv p q)) M2) : WE X ρ M (.Compare a [.Eq] [b] pos) Φ := we_cmp (op_eqD hu) (nomark _) (h.imp fun _ _ h => h.imp fun _ _ h => rd_eqD h)
theorem we_neD (hu : X.A.units + 64 < cLine) (h : WE X ρ M a fun x M1 => WE X ρ M1 b fun y M2 => ∃ p q, toPy x = some p ∧ toPy y = some q ∧ SeqAt.shaped p = true ∧ SeqAt.shaped q = true ∧ Φ (.bl (!PyData.eqv p q)) M2) : WE X ρ M (.Compare a [.NotEq] [b] pos) Φ := we_cmp (op_neD hu) (nomark _) (h.imp fun _ _ h => h.imp fun _ _ h => rd_neD h)
theorem wt_eqD (hu : X.A.units + 64 < cLine) (h : WE X ρ M a fun x M1 => WE X ρ M1 b fun y M2 => ∃ p q, toPy x = some p ∧ toPy y = some q ∧ SeqAt.shaped p = true ∧ SeqAt.shaped q = true ∧ Θ (PyData.eqv p q) M2) : WT X ρ M (.Compare a [.Eq] [b] pos) Θ := wt_cmp (op_eqD hu) (nomark _) (h.imp fun _ _ h => h.imp fun _ _ ⟨p, q, e1, e2, s1, s2, h⟩ => rd_eqD ⟨p, q, e1, e2, s1, s2, _, rfl, h⟩)
theorem wt_neD (hu : X.A.units + 64 < cLine) (h : WE X ρ M a fun x M1 => WE X ρ M1 b fun y M2 => ∃ p q, toPy x = some p ∧ toPy y = some q ∧ SeqAt.shaped p = true ∧ SeqAt.shaped q = true ∧ Θ (!PyData.eqv p q) M2) : WT X ρ M (.Compare a [.NotEq] [b] pos) Θ := wt_cmp (op_neD hu) (nomark _) (h.imp fun _ _ h => h.imp fun _ _ ⟨p, q, e1, e2, s1, s2, h⟩ => rd_neD ⟨p, q, e1, e2, s1, s2, _, rfl, h⟩)

/-! ### is None -/
def isNon : D → Bool
  | .non => true
  | _ => false
theorem Rep.isNon {M : Mp} {Z : Zn} {H : Hp} {v : V} {d : D} (r : Rep K M Z H v d) : decide (v = .non) = DL.isNon d := by
  cases r <;> first | rfl | simp [DL.isNon]
theorem we_isN {j : Nat} {p' : Pos} (h : WE X ρ M a fun x M1 => Φ (.bl (isNon x)) M1) : WE X ρ M (.Compare a [.Is] [.Constant .none j p'] pos) Φ := .mk fun σ H Q en w k =>
  eOf (pe_cmp (pc_isN pe_sem)) (h.run σ H _ en w fun v d H1 M1 e1 w1 r1 hz => by
    show Q (.bl (decide (v = .non))) H1
    rw [r1.isNon]
    exact (k.step e1).now w1 (.bl _) hz)
theorem we_notN {j : Nat} {p' : Pos} (h : WE X ρ M a fun x M1 => Φ (.bl (!isNon x)) M1) : WE X ρ M (.Compare a [.IsNot] [.Constant .none j p'] pos) Φ := .mk fun σ H Q en w k =>
  eOf (pe_cmp (pc_notN pe_sem)) (h.run σ H _ en w fun v d H1 M1 e1 w1 r1 hz => by
    show Q (.bl (!decide (v = .non))) H1
    rw [r1.isNon]
    exact (k.step e1).now w1 (.bl _) hz)
theorem wt_isN {j : Nat} {p' : Pos} (h : WE X ρ M a fun x M1 => Θ (isNon x) M1) : WT X ρ M (.Compare a [.Is] [.Constant .none j p'] pos) Θ := .mk fun σ H Q en w k =>
  tOf (pt_cmp (pc_isN pe_sem)) (h.run σ H _ en w fun v d H1 M1 e1 w1 r1 hz => by
    show ∃ c, V.bl (decide (v = .non)) = .bl c ∧ Q c H1
    rw [r1.isNon]
    exact ⟨_, rfl, (k.step e1).now w1 hz⟩)
theorem wt_notN {j : Nat} {p' : Pos} (h : WE X ρ M a fun x M1 => Θ (!isNon x) M1) : WT X ρ M (.Compare a [.IsNot] [.Constant .none j p'] pos) Θ := .mk fun σ H Q en w k =>
  tOf (pt_cmp (pc_notN pe_sem)) (h.run σ H _ en w fun v d H1 M1 e1 w1 r1 hz => by
    show ∃ c, V.bl (!decide (v = .non)) = .bl c ∧ Q c H1
    rw [r1.isNon]
    exact ⟨_, rfl, (k.step e1).now w1 hz⟩)

/-! ### chains of two comparisons -/
theorem wt_chainI {c : Expr} (h : WE X ρ M a fun x M1 => WE X ρ M1 b fun y M2 => ∃ i j, x = .int i ∧ y = .int j ∧ if decide (i ≤ j) = true then WE X ρ M2 c fun z M3 => ∃ l, z = .int l ∧ Θ (decide (j ≤ l)) M3 else Θ false M2) (hm : lastMarks [.LtE, .LtE] [b, c] = false := by rfl) : WT X ρ M (.Compare a [.LtE, .LtE] [b, c] pos) Θ := .mk fun σ H Q en w k =>
  tOf (pt_chain op_le op_le pe_sem pe_sem pe_sem (hm := hm)) (bind2 h en w fun v u x y H2 M2 e2 w2 r1 r2 hz => by
    obtain ⟨i, j, rfl, rfl, hz⟩ := hz
    cases r1; cases r2
    refine ⟨i, j, rfl, rfl, _, rfl, ?_⟩
    cases hd : decide (i ≤ j) with
    | false =>
      rw [hd] at hz
      exact ⟨_, rfl, (k.step e2).now w2 hz⟩
    | true =>
      rw [hd] at hz
      exact hz.run σ H2 _ (en.mono e2) w2 fun v3 z H3 M3 e3 w3 r3 hy => by
        obtain ⟨l, rfl, hy⟩ := hy
        cases r3
        exact ⟨j, l, rfl, rfl, _, rfl, (k.step (e2.trans e3)).now w3 hy⟩)

/-! ### texts -/
theorem we_addS (h : WE X ρ M a fun x M1 => WE X ρ M1 b fun y M2 => ∃ i j, x = .str i ∧ y = .str j ∧ i.length + j.length ≤ sizeLine ∧ Φ (.str (i ++ j)) M2) : WE X ρ M (.BinOp a .Add b pos) Φ := we_op op_add_str (h.imp fun _ _ h => h.imp fun _ _ h Z v u H Q w r1 r2 k => by
  obtain ⟨i, j, rfl, rfl, hz, h⟩ := h
  cases r1; cases r2
  exact ⟨i, j, rfl, rfl, hz, k.now w (.str _) h⟩)
theorem we_inC (h : WE X ρ M a fun x M1 => WE X ρ M1 b fun y M2 => ∃ c z, x = .str ⟨#[c]⟩ ∧ y = .str z ∧ Φ (.bl (decide (c ∈ z.cps.toList))) M2) (hm : behindInMarks .In b = false := by rfl) : WE X ρ M (.Compare a [.In] [b] pos) Φ := we_cmp op_in_sign hm (h.imp fun _ _ h => h.imp fun _ _ h Z v u H Q w r1 r2 k => by
  obtain ⟨i, j, rfl, rfl, h⟩ := h
  cases r1; cases r2
  exact ⟨i, j, rfl, rfl, k.now w (.bl _) h⟩)

/-! ### lists, tuples -/
theorem we_addL (h : WE X ρ M a fun x M1 => WE X ρ M1 b fun y M2 => ∃ xs ys, x = .lst xs ∧ y = .lst ys ∧ xs.length + ys.length ≤ sizeLine ∧ Φ (.lst (xs ++ ys)) M2) : WE X ρ M (.BinOp a .Add b pos) Φ := we_op op_cat (h.imp fun _ _ h => h.imp fun _ _ h Z v u H Q w r1 r2 k => by
  obtain ⟨xs, ys, rfl, rfl, hz, h⟩ := h
  cases r1 with
  | lst h1 m1 r1 =>
    cases r2 with
    | lst h2 m2 r2 =>
      exact ⟨_, _, _, _, rfl, rfl, h1, h2, by rw [r1.length, r2.length]; exact hz, fun p hp => k.new w hp (.lst upd_same (w.fresh hp) ((r1.append r2).mono (Ext.new w hp))) h⟩)
theorem we_addT (h : WE X ρ M a fun x M1 => WE X ρ M1 b fun y M2 => ∃ xs ys, x = .tup xs ∧ y = .tup ys ∧ xs.length + ys.length ≤ sizeLine ∧ Φ (.tup (xs ++ ys)) M2) : WE X ρ M (.BinOp a .Add b pos) Φ := we_op op_catA (h.imp fun _ _ h => h.imp fun _ _ h Z v u H Q w r1 r2 k => by
  obtain ⟨xs, ys, rfl, rfl, hz, h⟩ := h
  obtain ⟨p, vs, rfl, hq, rs⟩ := r1.asTup
  obtain ⟨p2, vs2, rfl, hq2, rs2⟩ := r2.asTup
  refine ⟨p, p2, vs, vs2, rfl, rfl, hq, hq2, by rw [rs.length, rs2.length]; exact hz, fun e => ?_, fun _ e => ?_, fun _ _ q hp => ?_⟩
  · subst e; cases rs; exact k.now w r2 h
  · subst e; cases rs2; rw [List.append_nil] at h; exact k.now w r1 h
  · exact k.new w hp (.tup (.inl upd_same) (w.fresh hp) ((rs.append rs2).mono (Ext.new w hp))) h)
/-- what a subscript reads -/
def IxD (M : Mp) (d : D) (i : Int) (y : D) : Prop := (∃ ds, LstOf M d ds ∧ atI ds i = some y) ∨ (∃ ds, d = .tup ds ∧ atI ds i = some y) ∨ ∃ z c, d = .str z ∧ z.length ≤ sizeLine ∧ atI z.cps.toList i = some c ∧ y = .str ⟨#[c]⟩
theorem Reps.atI {M : Mp} {Z : Zn} {H : Hp} {vs : List V} {ds : List D} {i : Int} {d : D} (r : Reps K M Z H vs ds) (h : L2.atI ds i = some d) : ∃ v, L2.atI vs i = some v ∧ Rep K M Z H v d := by
  unfold L2.atI at h ⊢
  rw [r.length]
  cases e : ixN ds.length i with
  | none => rw [e] at h; cases h
  | some j =>
    rw [e] at h
    exact r.get h
theorem we_ix (h : WE X ρ M a fun x M1 => WE X ρ M1 b fun y M2 => ∃ i d, y = .int i ∧ IxD M2 x i d ∧ Φ d M2) (hs : PlainIx b := by exact fun _ _ => rfl) : WE X ρ M (.Subscript a b pos) Φ := .mk fun σ H Q en w k =>
  eOf (pe_ix ix_seq pe_sem pe_sem hs) (bind2 h en w fun v u x y H2 M2 e2 w2 r1 r2 hz => by
    obtain ⟨i, d, rfl, hi, hz⟩ := hz
    cases r2
    rcases hi with ⟨ds, hl, ha⟩ | ⟨ds, rfl, ha⟩ | ⟨z, c, rfl, hl, ha, rfl⟩
    · obtain ⟨p, vs, rfl, hq, rs⟩ := r1.asLst w2 hl
      obtain ⟨v, hv, rv⟩ := rs.atI ha
      exact .inl ⟨p, vs, i, v, rfl, rfl, hq, hv, (k.step e2).now w2 rv hz⟩
    · obtain ⟨p, vs, rfl, hq, rs⟩ := r1.asTup
      obtain ⟨v, hv, rv⟩ := rs.atI ha
      exact .inr (.inl ⟨p, vs, i, v, rfl, rfl, hq, hv, (k.step e2).now w2 rv hz⟩)
    · cases r1
      exact .inr (.inr ⟨z, i, c, rfl, rfl, hl, ha, (k.step e2).now w2 (.str _) hz⟩))
theorem ixT {M : Mp} {ds : List D} {i : Int} {y : D} (h : atI ds i = some y) : IxD M (.tup ds) i y := .inr (.inl ⟨ds, rfl, h⟩)
theorem ixL {M : Mp} {ds : List D} {i : Int} {y : D} (h : atI ds i = some y) : IxD M (.lst ds) i y := .inl ⟨ds, rfl, h⟩
theorem ixR {M : Mp} {ds : List D} {i : Int} {y : D} (h : atI ds i = some y) : IxD M (.rol ds) i y := .inl ⟨ds, rfl, h⟩
theorem ixO {M : Mp} {p : Addr} {ds : List D} {i : Int} {y : D} (hp : M p = some (.lst ds)) (h : atI ds i = some y) : IxD M (.ob p) i y := .inl ⟨ds, hp, h⟩

/-! ### slices -/
def WO (X : Cx) (ρ : Rho) (M : Mp) (e : Option Expr) (Φ : Option Int → Mp → Prop) : Prop := match e with
  | none => Φ none M
  | some e => WE X ρ M e fun d M1 => ∃ i, d = .int i ∧ Φ (some i) M1
def oSem (X : Cx) : Option Expr → TO
  | none => tNoPart
  | some e => tPart (eSem X e)
theorem po_sem {o : Option Expr} : PO X o (oSem X o) := by
  cases o with
  | none => exact po_none
  | some e => exact po_some pe_sem
theorem wo_run {o : Option Expr} {ΦO : Option Int → Mp → Prop} (h : WO X ρ M o ΦO) {Z : Zn} {σ : L2.St} {H : Hp} {Q : Option Int → Hp → Prop} (en : EnvR X.K M Z H σ ρ) (w : Wd X.K M Z H) (k : ∀ i H' M', Ext M Z H M' H' → Wd X.K M' Z H' → ΦO i M' → Q i H') : oSem X o σ H Q := by
  cases o with
  | none => exact k none H M Ext.refl w h
  | some e =>
    refine (show WE X ρ M e (fun d M1 => ∃ i, d = .int i ∧ ΦO (some i) M1) from h).run σ H _ en w fun v d H1 M1 e1 w1 r1 hz => ?_
    obtain ⟨i, rfl, hz⟩ := hz
    cases r1
    exact ⟨i, rfl, k _ H1 M1 e1 w1 hz⟩
/-- the items of a slice -/
def cutD {α : Type} (xs : List α) (lo hi : Option Int) : List α := (xs.drop (HT.sIx xs.length 0 lo)).take (HT.sIx xs.length xs.length hi - HT.sIx xs.length 0 lo)
theorem Reps.cut {M : Mp} {Z : Zn} {H : Hp} {vs : List V} {ds : List D} (r : Reps K M Z H vs ds) (lo hi : Option Int) : Reps K M Z H (cutV vs lo hi) (cutD ds lo hi) := by
  unfold cutV cutD
  rw [r.length]
  exact (r.drop _).take _
/-- what a slice is -/
def SlD (M : Mp) (d : D) (lo hi : Option Int) (y : D) : Prop := (∃ ds, LstOf M d ds ∧ y = .lst (cutD ds lo hi)) ∨ (∃ ds, d = .tup ds ∧ y = .tup (cutD ds lo hi)) ∨ ∃ z, d = .str z ∧ z.length ≤ sizeLine ∧ y = .str (cutS z lo hi)
theorem sIx_le (n d : Nat) (hd : d ≤ n) (o : Option Int) : HT.sIx n d o ≤ n := by
  cases o with
  | none => simpa [HT.sIx] using hd
  | some i => simp only [HT.sIx]; split <;> omega
theorem cutD_all {α : Type} {xs : List α} {lo hi : Option Int} (h : HT.sIx xs.length 0 lo = 0 ∧ HT.sIx xs.length xs.length hi = xs.length) : cutD xs lo hi = xs := by
  unfold cutD; rw [h.1, h.2]; simp
theorem we_slice {lo hi : Option Expr} {p2 : Pos} (h : WE X ρ M a fun x M1 => WO X ρ M1 lo fun l M2 => WO X ρ M2 hi fun u M3 => ∃ d, SlD M3 x l u d ∧ Φ d M3) : WE X ρ M (.Subscript a (.Slice lo hi none p2) pos) Φ := .mk fun σ H Q en w k =>
  eOf (pe_slice (sl_list.or (sl_tupA.or sl_str)) pe_sem po_sem po_sem) (h.run σ H _ en w fun v x H1 M1 e1 w1 r1 hz => wo_run hz (en.mono e1) w1 fun l H2 M2 e2 w2 hz => wo_run hz (en.mono (e1.trans e2)) w2 fun u H3 M3 e3 w3 hz => by
    obtain ⟨d, hd, hz⟩ := hz
    have r3 := r1.mono (e2.trans e3)
    have k3 := k.step ((e1.trans e2).trans e3)
    rcases hd with ⟨ds, hl, rfl⟩ | ⟨ds, rfl, rfl⟩ | ⟨z, rfl, hl, rfl⟩
    · obtain ⟨p, vs, rfl, hq, rs⟩ := r3.asLst w3 hl
      exact .inl ⟨p, vs, rfl, hq, fun q hp => k3.new w3 hp (.lst upd_same (w3.fresh hp) ((rs.cut l u).mono (Ext.new w3 hp))) hz⟩
    · obtain ⟨p, vs, rfl, hq, rs⟩ := r3.asTup
      refine .inr (.inl ⟨p, vs, rfl, hq, fun hw => ?_, fun hw q hp => ?_⟩)
      · rw [rs.length] at hw
        rw [cutD_all hw] at hz
        exact k3.now w3 r3 hz
      · exact k3.new w3 hp (.tup (.inl upd_same) (w3.fresh hp) ((rs.cut l u).mono (Ext.new w3 hp))) hz
    · cases r3
      exact .inr (.inr ⟨z, rfl, hl, k3.now w3 (.str _) hz⟩))
end
end DL
/-! DL7: built-ins, methods of texts and lists, f-strings, walks. -/
namespace DL
open PySem PySem.Spec PyProof.Rows L2
section
variable {K : PySem.W.Frag} {M : Mp} {Z : Zn} {H : Hp}
theorem Reps.set {v : V} {d : D} (r : Rep K M Z H v d) : ∀ {vs : List V} {ds : List D} (j : Nat), Reps K M Z H vs ds → Reps K M Z H (vs.set j v) (ds.set j d)
  | _, _, _, .nil => .nil
  | _, _, 0, .cons _ t => .cons r t
  | _, _, j + 1, .cons q t => .cons q (Reps.set r j t)
theorem Reps.one {vs : List V} {d : D} (r : Reps K M Z H vs [d]) : ∃ v, vs = [v] ∧ Rep K M Z H v d := by
  cases r with
  | cons r t => cases t; exact ⟨_, rfl, r⟩
theorem Reps.two {vs : List V} {d e : D} (r : Reps K M Z H vs [d, e]) : ∃ v u, vs = [v, u] ∧ Rep K M Z H v d ∧ Rep K M Z H u e := by
  cases r with
  | cons r t =>
    obtain ⟨u, rfl, r2⟩ := t.one
    exact ⟨_, u, rfl, r, r2⟩
theorem Reps.three {vs : List V} {d e f : D} (r : Reps K M Z H vs [d, e, f]) : ∃ v u x, vs = [v, u, x] ∧ Rep K M Z H v d ∧ Rep K M Z H u e ∧ Rep K M Z H x f := by
  cases r with
  | cons r t =>
    obtain ⟨u, x, rfl, r2, r3⟩ := t.two
    exact ⟨_, u, x, rfl, r, r2, r3⟩
end
section
variable {X : Cx} {ρ : Rho} {M : Mp} {Φ : D → Mp → Prop} {Θ : Bool → Mp → Prop} {a b e o : Expr} {es : List Expr} {pos p apos : Pos} {x : Str}
/-! ### calls of built-ins -/
theorem we_callB {id : String} {r : List V → Hp → VK → Prop} (hc : CallR X (.builtin id) r) (hm : X.mg x = none) (hv : bootBuiltins x = some (.builtin id)) (h : WA X ρ M (e :: es) fun ds M1 => RC X.K r ds M1 Φ) (hg : Gl X x := by rfl) (hn : x ≠ "__name__" := by decide) (hdb : (x == ("__debug__" : Str)) = false := by decide)
    (he : starEach (e :: es) X.env = (false, eval e X.env) :: starEach es X.env := by rfl) (hpl : (backTo pos (starEach es X.env)).any (·.1) = false := by rfl) : WE X ρ M (.Call (.Name x p) (e :: es) [] pos) Φ := .mk fun σ H Q en w k =>
  eOf (pe_callB hc hg hm hv pa_sem hn hdb he hpl) (h.run σ H _ en w fun vs ds H1 M1 e1 w1 r1 hz => hz _ vs H1 Q w1 r1 (k.step e1))
theorem we_callTy {T : String} {r : List V → Hp → VK → Prop} (hc : CallR X (.type T) r) (hm : X.mg x = none) (hv : bootBuiltins x = some (.type T)) (h : WA X ρ M (e :: es) fun ds M1 => RC X.K r ds M1 Φ) (hg : Gl X x := by rfl) (hn : x ≠ "__name__" := by decide) (hdb : (x == ("__debug__" : Str)) = false := by decide)
    (he : starEach (e :: es) X.env = (false, eval e X.env) :: starEach es X.env := by rfl) (hpl : (backTo pos (starEach es X.env)).any (·.1) = false := by rfl) : WE X ρ M (.Call (.Name x p) (e :: es) [] pos) Φ := .mk fun σ H Q en w k =>
  eOf (pe_callTy hc hg hm hv pa_sem hn hdb he hpl) (h.run σ H _ en w fun vs ds H1 M1 e1 w1 r1 hz => hz _ vs H1 Q w1 r1 (k.step e1))
/-- how many -/
def LenD (M : Mp) (d : D) (n : Nat) : Prop := (∃ ds, LstOf M d ds ∧ n = ds.length) ∨ (∃ ds, d = .tup ds ∧ n = ds.length) ∨ ∃ z, d = .str z ∧ z.length ≤ sizeLine ∧ n = z.length
theorem we_len (hm : X.mg "len" = none) (h : WE X ρ M e fun d M1 => ∃ n : Nat, LenD M1 d n ∧ Φ (.int n) M1) (hg : Gl X "len" := by rfl)
    (he : starEach [e] X.env = (false, eval e X.env) :: starEach [] X.env := by rfl) (hpl : (backTo pos (starEach [] X.env)).any (·.1) = false := by rfl) : WE X ρ M (.Call (.Name "len" p) [e] [] pos) Φ :=
  we_callB call_len hm boot_len (wa_cons (h.imp fun d M1 h => wa_nil fun Z vs H Q w rr k => by
    obtain ⟨n, hn, h⟩ := h
    obtain ⟨v, rfl, r⟩ := rr.one
    refine ⟨v, n, rfl, ?_, k.now w (.int _) h⟩
    rcases hn with ⟨ds, hl, rfl⟩ | ⟨ds, rfl, rfl⟩ | ⟨z, rfl, hz, rfl⟩
    · obtain ⟨p, vs, rfl, hq, rs⟩ := r.asLst w hl
      exact .inl ⟨vs, hq, rs.length.symm⟩
    · obtain ⟨p, vs, rfl, hq, rs⟩ := r.asTup
      exact .inr ⟨vs, hq, rs.length.symm⟩
    · cases r
      exact ⟨hz, rfl⟩) he) hg (he := he) (hpl := hpl)
theorem lenL {M : Mp} {ds : List D} : LenD M (.lst ds) ds.length := .inl ⟨ds, rfl, rfl⟩
theorem lenR {M : Mp} {ds : List D} : LenD M (.rol ds) ds.length := .inl ⟨ds, rfl, rfl⟩
theorem lenT {M : Mp} {ds : List D} : LenD M (.tup ds) ds.length := .inr (.inl ⟨ds, rfl, rfl⟩)
theorem lenS {M : Mp} {z : Str} (h : z.length ≤ sizeLine) : LenD M (.str z) z.length := .inr (.inr ⟨z, rfl, h, rfl⟩)
theorem lenO {M : Mp} {p : Addr} {ds : List D} (h : M p = some (.lst ds)) : LenD M (.ob p) ds.length := .inl ⟨ds, h, rfl⟩
theorem we_abs (hm : X.mg "abs" = none) (h : WE X ρ M e fun d M1 => ∃ i, d = .int i ∧ Φ (.int (if i < 0 then -i else i)) M1) (hg : Gl X "abs" := by rfl)
    (he : starEach [e] X.env = (false, eval e X.env) :: starEach [] X.env := by rfl) (hpl : (backTo pos (starEach [] X.env)).any (·.1) = false := by rfl) : WE X ρ M (.Call (.Name "abs" p) [e] [] pos) Φ :=
  we_callB call_abs hm (by decide +kernel) (wa_cons (h.imp fun d M1 h => wa_nil fun Z vs H Q w rr k => by
    obtain ⟨i, rfl, h⟩ := h
    obtain ⟨v, rfl, r⟩ := rr.one
    cases r
    exact ⟨i, rfl, k.now w (.int _) h⟩) he) hg (he := he) (hpl := hpl)
/-- int(x) of an int, a bool -/
theorem we_intN (hm : X.mg "int" = none) (h : WE X ρ M e fun d M1 => (∃ i, d = .int i ∧ Φ (.int i) M1) ∨ ∃ c, d = .bl c ∧ Φ (.int (if c then 1 else 0)) M1) (hg : Gl X "int" := by rfl)
    (he : starEach [e] X.env = (false, eval e X.env) :: starEach [] X.env := by rfl) (hpl : (backTo pos (starEach [] X.env)).any (·.1) = false := by rfl) : WE X ρ M (.Call (.Name "int" p) [e] [] pos) Φ :=
  we_callTy call_int1 hm (by decide +kernel) (wa_cons (h.imp fun d M1 h => wa_nil fun Z vs H Q w rr k => by
    obtain ⟨v, rfl, r⟩ := rr.one
    rcases h with ⟨i, rfl, h⟩ | ⟨i, rfl, h⟩
    · cases r; exact .inl ⟨i, rfl, k.now w (.int _) h⟩
    · cases r; exact .inr ⟨i, rfl, k.now w (.int _) h⟩) he) hg (he := he) (hpl := hpl)
/-- int(text) -/
theorem we_intS (hm : X.mg "int" = none) (h : WE X ρ M e fun d M1 => ∃ z n, d = .str z ∧ PySem.intText? z = some n ∧ z.length ≤ 640 ∧ Φ (.int n) M1) (hg : Gl X "int" := by rfl)
    (he : starEach [e] X.env = (false, eval e X.env) :: starEach [] X.env := by rfl) (hpl : (backTo pos (starEach [] X.env)).any (·.1) = false := by rfl) : WE X ρ M (.Call (.Name "int" p) [e] [] pos) Φ :=
  we_callTy call_int_str hm (by decide +kernel) (wa_cons (h.imp fun d M1 h => wa_nil fun Z vs H Q w rr k => by
    obtain ⟨v, rfl, r⟩ := rr.one
    obtain ⟨z, n, rfl, h1, h2, h⟩ := h
    cases r
    exact ⟨z, n, rfl, h1, h2, k.now w (.int _) h⟩) he) hg (he := he) (hpl := hpl)
/-- str(int) -/
theorem we_strI (hm : X.mg "str" = none) (h : WE X ρ M e fun d M1 => ∃ i : Int, d = .int i ∧ i.natAbs.log2 < 1920 ∧ Φ (.str (toString i)) M1) (hg : Gl X "str" := by rfl)
    (he : starEach [e] X.env = (false, eval e X.env) :: starEach [] X.env := by rfl) (hpl : (backTo pos (starEach [] X.env)).any (·.1) = false := by rfl) : WE X ρ M (.Call (.Name "str" p) [e] [] pos) Φ :=
  we_callTy call_str_int hm (by decide +kernel) (wa_cons (h.imp fun d M1 h => wa_nil fun Z vs H Q w rr k => by
    obtain ⟨v, rfl, r⟩ := rr.one
    obtain ⟨i, rfl, h2, h⟩ := h
    cases r
    exact ⟨i, rfl, h2, k.now w (.str _) h⟩) he) hg (he := he) (hpl := hpl)
theorem we_max2 (hm : X.mg "max" = none) (h : WE X ρ M a fun x M1 => WE X ρ M1 b fun y M2 => ∃ i j, x = .int i ∧ y = .int j ∧ Φ (.int (if j > i then j else i)) M2) (hc : X.calm = true := by rfl) (hg : Gl X "max" := by rfl)
    (ha : starEach [a, b] X.env = (false, eval a X.env) :: starEach [b] X.env := by rfl) (hb : starEach [b] X.env = (false, eval b X.env) :: starEach [] X.env := by rfl) (hpl : (backTo pos (starEach [b] X.env)).any (·.1) = false := by rfl) : WE X ρ M (.Call (.Name "max" p) [a, b] [] pos) Φ :=
  we_callB (call_max2 hc) hm (by decide +kernel) (wa_cons (h.imp fun x M1 h => wa_cons (h.imp fun y M2 h => wa_nil fun Z vs H Q w rr k => by
    obtain ⟨v, u, rfl, r1, r2⟩ := rr.two
    obtain ⟨i, j, rfl, rfl, h⟩ := h
    cases r1; cases r2
    exact ⟨i, j, rfl, k.now w (.int _) h⟩) hb) ha) hg (he := ha) (hpl := hpl)
theorem we_min2 (hm : X.mg "min" = none) (h : WE X ρ M a fun x M1 => WE X ρ M1 b fun y M2 => ∃ i j, x = .int i ∧ y = .int j ∧ Φ (.int (if j < i then j else i)) M2) (hc : X.calm = true := by rfl) (hg : Gl X "min" := by rfl)
    (ha : starEach [a, b] X.env = (false, eval a X.env) :: starEach [b] X.env := by rfl) (hb : starEach [b] X.env = (false, eval b X.env) :: starEach [] X.env := by rfl) (hpl : (backTo pos (starEach [b] X.env)).any (·.1) = false := by rfl) : WE X ρ M (.Call (.Name "min" p) [a, b] [] pos) Φ :=
  we_callB (call_min2 hc) hm (by decide +kernel) (wa_cons (h.imp fun x M1 h => wa_cons (h.imp fun y M2 h => wa_nil fun Z vs H Q w rr k => by
    obtain ⟨v, u, rfl, r1, r2⟩ := rr.two
    obtain ⟨i, j, rfl, rfl, h⟩ := h
    cases r1; cases r2
    exact ⟨i, j, rfl, k.now w (.int _) h⟩) hb) ha) hg (he := ha) (hpl := hpl)
/-- sum, all, any -/
theorem we_sum (hm : X.mg "sum" = none) (h : WE X ρ M e fun d M1 => ∃ ns : List Int, LstOf M1 d (ns.map D.int) ∧ Φ (.int ns.sum) M1) (hc : X.calm = true := by rfl) (hg : Gl X "sum" := by rfl)
    (he : starEach [e] X.env = (false, eval e X.env) :: starEach [] X.env := by rfl) (hpl : (backTo pos (starEach [] X.env)).any (·.1) = false := by rfl) : WE X ρ M (.Call (.Name "sum" p) [e] [] pos) Φ :=
  we_callB (cr_sum hc) hm (by decide +kernel) (wa_cons (h.imp fun d M1 h => wa_nil fun Z vs H Q w rr k => by
    obtain ⟨v, rfl, r⟩ := rr.one
    obtain ⟨ns, hl, h⟩ := h
    obtain ⟨q, vs, rfl, hq, rs⟩ := r.asLst w hl
    rw [rs.ints] at hq
    exact ⟨q, ns, rfl, hq, k.now w (.int _) h⟩) he) hg (he := he) (hpl := hpl)
theorem we_all (hm : X.mg "all" = none) (h : WE X ρ M e fun d M1 => ∃ bs : List Bool, LstOf M1 d (bs.map D.bl) ∧ Φ (.bl (bs.all id)) M1) (hc : X.calm = true := by rfl) (hg : Gl X "all" := by rfl)
    (he : starEach [e] X.env = (false, eval e X.env) :: starEach [] X.env := by rfl) (hpl : (backTo pos (starEach [] X.env)).any (·.1) = false := by rfl) : WE X ρ M (.Call (.Name "all" p) [e] [] pos) Φ :=
  we_callB (cr_all hc) hm (by decide +kernel) (wa_cons (h.imp fun d M1 h => wa_nil fun Z vs H Q w rr k => by
    obtain ⟨v, rfl, r⟩ := rr.one
    obtain ⟨ns, hl, h⟩ := h
    obtain ⟨q, vs, rfl, hq, rs⟩ := r.asLst w hl
    rw [rs.bls] at hq
    exact ⟨q, ns, rfl, hq, k.now w (.bl _) h⟩) he) hg (he := he) (hpl := hpl)
/-- tuple(xs), list(xs) -/
theorem we_tupleOf (hm : X.mg "tuple" = none) (h : WE X ρ M e fun d M1 => ∃ ds, (LstOf M1 d ds ∨ d = .tup ds) ∧ Φ (.tup ds) M1) (hg : Gl X "tuple" := by rfl)
    (he : starEach [e] X.env = (false, eval e X.env) :: starEach [] X.env := by rfl) (hpl : (backTo pos (starEach [] X.env)).any (·.1) = false := by rfl) : WE X ρ M (.Call (.Name "tuple" p) [e] [] pos) Φ :=
  we_callTy call_tuple_of hm (by decide +kernel) (wa_cons (h.imp fun d M1 h => wa_nil fun Z vs H Q w rr k => by
    obtain ⟨v, rfl, r⟩ := rr.one
    obtain ⟨ds, hl | rfl, h⟩ := h
    · obtain ⟨q, vs, rfl, hq, rs⟩ := r.asLst w hl
      exact ⟨q, vs, rfl, .inl ⟨hq, fun l hp => k.new w hp (.tup (.inl upd_same) (w.fresh hp) (rs.mono (Ext.new w hp))) h⟩⟩
    · obtain ⟨q, vs, rfl, hq, rs⟩ := r.asTup
      exact ⟨q, vs, rfl, .inr ⟨hq, k.now w r h⟩⟩) he) hg (he := he) (hpl := hpl)
theorem we_listOf (hm : X.mg "list" = none) (h : WE X ρ M e fun d M1 => ∃ ds, (LstOf M1 d ds ∨ d = .tup ds) ∧ Φ (.lst ds) M1) (hg : Gl X "list" := by rfl)
    (he : starEach [e] X.env = (false, eval e X.env) :: starEach [] X.env := by rfl) (hpl : (backTo pos (starEach [] X.env)).any (·.1) = false := by rfl) : WE X ρ M (.Call (.Name "list" p) [e] [] pos) Φ :=
  we_callTy call_list_of hm (by decide +kernel) (wa_cons (h.imp fun d M1 h => wa_nil fun Z vs H Q w rr k => by
    obtain ⟨v, rfl, r⟩ := rr.one
    obtain ⟨ds, hl | rfl, h⟩ := h
    · obtain ⟨q, vs, rfl, hq, rs⟩ := r.asLst w hl
      exact ⟨q, vs, rfl, .inl hq, fun l hp => k.new w hp (.lst upd_same (w.fresh hp) (rs.mono (Ext.new w hp))) h⟩
    · obtain ⟨q, vs, rfl, hq, rs⟩ := r.asTup
      exact ⟨q, vs, rfl, .inr hq, fun l hp => k.new w hp (.lst upd_same (w.fresh hp) (rs.mono (Ext.new w hp))) h⟩) he) hg (he := he) (hpl := hpl)
/-- a list that will be changed -/
theorem we_listOfM (hm : X.mg "list" = none) (h : WE X ρ M e fun d M1 => ∃ ds, (LstOf M1 d ds ∨ d = .tup ds) ∧ ∀ q, M1 q = none → Φ (.ob q) (mset M1 q (.lst ds))) (hg : Gl X "list" := by rfl)
    (he : starEach [e] X.env = (false, eval e X.env) :: starEach [] X.env := by rfl) (hpl : (backTo pos (starEach [] X.env)).any (·.1) = false := by rfl) : WE X ρ M (.Call (.Name "list" p) [e] [] pos) Φ :=
  we_callTy call_list_of hm (by decide +kernel) (wa_cons (h.imp fun d M1 h => wa_nil fun Z vs H Q w rr k => by
    obtain ⟨v, rfl, r⟩ := rr.one
    obtain ⟨ds, hl, h⟩ := h
    obtain ⟨q, vs, rfl, hq, rs⟩ : ∃ q vs, v = .ref q ∧ (SqL X.K H q vs ∨ SqT X.K H q vs) ∧ Reps X.K M1 Z H vs ds := by
      rcases hl with hl | rfl
      · obtain ⟨q, vs, e, hq, rs⟩ := r.asLst w hl; exact ⟨q, vs, e, .inl hq, rs⟩
      · obtain ⟨q, vs, e, hq, rs⟩ := r.asTup; exact ⟨q, vs, e, .inr hq, rs⟩
    exact ⟨q, vs, rfl, hq, fun l hp => k _ (.ob l) _ (mset M1 l (.lst ds)) (Ext.newM w hp) (w.newM hp ⟨vs, upd_same, rs.mono (Ext.newM w hp)⟩) (.ob l) (h l (w.fresh hp).1)⟩) he) hg (he := he) (hpl := hpl)
/-- list(range(n)) -/
theorem we_listRg1 {p2 pos2 : Pos} (hm : X.mg "list" = none) (hm2 : X.mg "range" = none) (h : WE X ρ M e fun d M1 => ∃ n : Int, d = .int n ∧ RgOk 0 n ∧ Φ (.lst (rngD 0 n.toNat)) M1) (hc : X.calm = true := by rfl) (hg : Gl X "list" := by rfl) (hg2 : Gl X "range" := by rfl)
    (na : starEach [e] X.env = (false, eval e X.env) :: starEach [] X.env := by rfl) (nb : starEach [.Call (.Name "range" p2) [e] [] pos2] X.env = (false, eval (.Call (.Name "range" p2) [e] [] pos2) X.env) :: starEach [] X.env := by rfl) : WE X ρ M (.Call (.Name "list" p) [.Call (.Name "range" p2) [e] [] pos2] [] pos) Φ := .mk fun σ H Q en w k =>
  eOf (pe_listRg hc hg hm (prg_1 hg2 hm2 pe_sem na) nb) (h.run σ H _ en w fun v d H1 M1 e1 w1 r1 hz => by
    obtain ⟨n, rfl, ok, hz⟩ := hz
    cases r1
    refine ⟨n, rfl, ok, fun q hq => (k.step e1).new w1 hq (.lst upd_same (w1.fresh hq) ?_) hz⟩
    have e2 : ∀ (M : Mp) (Z : Zn) (H : Hp), Reps X.K M Z H (rgV 0 n) (rngD 0 n.toNat) := fun M Z H => by
      unfold rgV rngD
      rw [show (n - 0).toNat = n.toNat by omega]
      generalize List.range n.toNat = l
      induction l with
      | nil => exact .nil
      | cons i r ih => exact .cons (.int _) ih
    exact e2 _ _ _)

/-! ### isinstance -/
/-- the class of data, as the fragment's deciders take it -/
def TyD (M : Mp) : D → Value → Prop
  | .non, t => t = .type "NoneType"
  | .bl _, t => t = .type "bool"
  | .int _, t => t = .type "int"
  | .str _, t => t = .type "str"
  | .lst _, t => t = .type "list"
  | .tup _, t => t = .type "tuple"
  | .dK _, t => t = .type "dict"
  | .dT _, t => t = .type "dict"
  | .ins C _, t => t = .ref C
  | _, _ => False
/-- what isinstance asks of an own class -/
structure OwnC (K : PySem.W.Frag) (C : Addr) : Prop where
  cl : Cls K C
  ha : PySem.W.findIn K (.ref C) "__class__" = some (some (.builtin "object.__class__"))
  hn : PySem.W.specialIn K (.builtin "object.__class__") "__get__" = some (some (.builtin "getset_descriptor.__get__"))
  htk : PySem.W.takesIn K (.builtin "object.__class__") = some true
  hm : PySem.W.mroIn K C (.type "object") = some true
theorem TyD.rep {K : PySem.W.Frag} {M : Mp} {Z : Zn} {H : Hp} {v : V} {d : D} {t : Value} (r : Rep K M Z H v d) (h : TyD M d t) (own : ∀ C, t = .ref C → OwnC K C) : TyX K H v t := by
  cases r with
  | non => cases h; exact .base .non
  | bl b => cases h; exact .base (.bl b)
  | int i => cases h; exact .base (.int i)
  | str x => cases h; exact .base (.str x)
  | lst h1 m r => cases h; exact .base (.lst h1)
  | tup h1 m r =>
    cases h
    rcases h1 with h1 | ⟨o, h1⟩
    · exact .base (.tup h1)
    · exact .fTuple h1
  | tupK h1 r =>
    cases h
    obtain ⟨o, its, n, hk, hc, _⟩ := h1
    exact .kTuple hk hc
  | dK h1 m r => cases h; exact .base (.dK h1)
  | dT h1 m r => cases h; exact .base (.dT h1)
  | ins h1 m r =>
    cases h
    obtain ⟨cl, ha, hn, htk, hm⟩ := own _ rfl
    exact .base (.ins h1 cl ha hn htk hm)
  | _ => cases h
/-- a class as data -/
def ClsD : D → Value → Prop
  | .ty n, u => u = .type n
  | .fn C, u => u = .ref C
  | _, _ => False
theorem we_isi (hm : X.mg "isinstance" = none) (h : WE X ρ M a fun x M1 => WE X ρ M1 b fun y M2 => ∃ t u c, TyD M2 x t ∧ ClsD y u ∧ (∀ C, t = .ref C → OwnC X.K C) ∧ PySem.W.kitOne X.K t u = some c ∧ Φ (.bl c) M2) (hg : Gl X "isinstance" := by rfl)
    (ha : starEach [a, b] X.env = (false, eval a X.env) :: starEach [b] X.env := by rfl) (hb : starEach [b] X.env = (false, eval b X.env) :: starEach [] X.env := by rfl) (hpl : (backTo pos (starEach [b] X.env)).any (·.1) = false := by rfl) : WE X ρ M (.Call (.Name "isinstance" p) [a, b] [] pos) Φ :=
  we_callB call_isi hm (by decide +kernel) (wa_cons (h.imp fun x M1 h => wa_cons (h.imp fun y M2 h => wa_nil fun Z vs H Q w rr k => by
    obtain ⟨v, u, rfl, r1, r2⟩ := rr.two
    obtain ⟨t, cu, c, h1, h2, own, h3, h⟩ := h
    refine ⟨v, u, t, cu, c, rfl, ?_, h1.rep r1 own, h3, k.now w (.bl _) h⟩
    cases r2 with
    | ty n => cases h2; exact .ty n
    | fn C => cases h2; exact .own C
    | _ => cases h2) hb) ha) hg (he := ha) (hpl := hpl)

/-! ### methods of texts -/
theorem we_m0 {id : String} {name : Str} {r : V → List V → Hp → VK → Prop} (slot : Slot "str" name id) (ty : typeOf (.builtin id) = pure (.type "method_descriptor")) (rule : MtR X id r)
    (h : WE X ρ M o fun d M1 => ∃ z, d = .str z ∧ ∀ Z H Q, Wd X.K M1 Z H → KE X.K M1 Z H Φ Q → r (.str z) [] H Q) (hbase : attributeBase o name X.env (eval o X.env) = eval o X.env := by rfl) (hline : (apos.endLine == pos.line) = true := by rfl) : WE X ρ M (.Call (.Attribute o name apos) [] [] pos) Φ := .mk fun σ H Q en w k =>
  eOf (pe_m0 slot ty rule pe_sem hbase hline) (h.run σ H _ en w fun v d H1 M1 e1 w1 r1 hz => by
    obtain ⟨z, rfl, hz⟩ := hz
    cases r1
    exact ⟨⟨z, rfl⟩, hz _ H1 Q w1 (k.step e1)⟩)
theorem we_m1 {id : String} {name : Str} {r : V → List V → Hp → VK → Prop} (slot : Slot "str" name id) (ty : typeOf (.builtin id) = pure (.type "method_descriptor")) (rule : MtR X id r)
    (h : WE X ρ M o fun d M1 => ∃ z, d = .str z ∧ WE X ρ M1 e fun y M2 => ∀ Z H Q u, Wd X.K M2 Z H → Rep X.K M2 Z H u y → KE X.K M2 Z H Φ Q → r (.str z) [u] H Q)
    (hs : starEach [e] X.env = [(false, eval e X.env)] := by rfl) (hbase : attributeBase o name X.env (eval o X.env) = eval o X.env := by rfl) (hline : (apos.endLine == pos.line) = true := by rfl) : WE X ρ M (.Call (.Attribute o name apos) [e] [] pos) Φ := .mk fun σ H Q en w k =>
  eOf (pe_m1 slot ty rule pe_sem pe_sem hs hbase hline) (h.run σ H _ en w fun v d H1 M1 e1 w1 r1 hz => by
    obtain ⟨z, rfl, hz⟩ := hz
    cases r1
    exact ⟨⟨z, rfl⟩, hz.run σ H1 _ (en.mono e1) w1 fun u y H2 M2 e2 w2 r2 hy => hy _ H2 Q u w2 r2 (k.step (e1.trans e2))⟩)
theorem we_startswith (h : WE X ρ M o fun d M1 => ∃ z, d = .str z ∧ WE X ρ M1 e fun y M2 => ∃ s, y = .str s ∧ Φ (.bl (Txt.startswith z s)) M2) (hs : starEach [e] X.env = [(false, eval e X.env)] := by rfl) (hbase : attributeBase o "startswith" X.env (eval o X.env) = eval o X.env := by rfl) (hline : (apos.endLine == pos.line) = true := by rfl) : WE X ρ M (.Call (.Attribute o "startswith" apos) [e] [] pos) Φ :=
  we_m1 F.slot_str_startswith F.type_str_startswith mt_startswith (h.imp fun d M1 ⟨z, e1, h⟩ => ⟨z, e1, h.imp fun y M2 ⟨s, e2, h⟩ Z H Q u w r k => by subst e2; cases r; exact ⟨z, s, rfl, rfl, k.now w (.bl _) h⟩⟩) hs hbase hline
theorem we_endswith (h : WE X ρ M o fun d M1 => ∃ z, d = .str z ∧ WE X ρ M1 e fun y M2 => ∃ s, y = .str s ∧ Φ (.bl (Txt.endswith z s)) M2) (hs : starEach [e] X.env = [(false, eval e X.env)] := by rfl) (hbase : attributeBase o "endswith" X.env (eval o X.env) = eval o X.env := by rfl) (hline : (apos.endLine == pos.line) = true := by rfl) : WE X ρ M (.Call (.Attribute o "endswith" apos) [e] [] pos) Φ :=
  we_m1 F.slot_str_endswith F.type_str_endswith mt_endswith (h.imp fun d M1 ⟨z, e1, h⟩ => ⟨z, e1, h.imp fun y M2 ⟨s, e2, h⟩ Z H Q u w r k => by subst e2; cases r; exact ⟨z, s, rfl, rfl, k.now w (.bl _) h⟩⟩) hs hbase hline
theorem we_partition (h : WE X ρ M o fun d M1 => ∃ z, d = .str z ∧ WE X ρ M1 e fun y M2 => ∃ s, y = .str s ∧ (s.length == 0) = false ∧ z.length ≤ sizeLine ∧ Φ (.tup [.str (Txt.partition z s).1, .str (Txt.partition z s).2.1, .str (Txt.partition z s).2.2]) M2) (hs : starEach [e] X.env = [(false, eval e X.env)] := by rfl) (hbase : attributeBase o "partition" X.env (eval o X.env) = eval o X.env := by rfl) (hline : (apos.endLine == pos.line) = true := by rfl) : WE X ρ M (.Call (.Attribute o "partition" apos) [e] [] pos) Φ :=
  we_m1 F.slot_str_partition F.type_str_partition mt_partition (h.imp fun d M1 ⟨z, e1, h⟩ => ⟨z, e1, h.imp fun y M2 ⟨s, e2, h1, h2, h⟩ Z H Q u w r k => by
    subst e2
    cases r
    exact ⟨z, s, rfl, rfl, h1, h2, fun q hq => k.new w hq (.tup (.inl upd_same) (w.fresh hq) (.cons (.str _) (.cons (.str _) (.cons (.str _) .nil)))) h⟩⟩) hs hbase hline
theorem we_join (h : WE X ρ M o fun d M1 => ∃ z, d = .str z ∧ WE X ρ M1 e fun y M2 => ∃ ys : List Str, (LstOf M2 y (ys.map D.str) ∨ y = .tup (ys.map D.str)) ∧ (ys.map (·.length)).sum + ys.length * z.length ≤ 16777216 ∧ Φ (.str (Txt.join z ys)) M2) (hs : starEach [e] X.env = [(false, eval e X.env)] := by rfl) (hbase : attributeBase o "join" X.env (eval o X.env) = eval o X.env := by rfl) (hline : (apos.endLine == pos.line) = true := by rfl) : WE X ρ M (.Call (.Attribute o "join" apos) [e] [] pos) Φ :=
  we_m1 F.slot_str_join F.type_str_join mt_join (h.imp fun d M1 ⟨z, e1, h⟩ => ⟨z, e1, h.imp fun y M2 ⟨ys, e2, h1, h⟩ Z H Q u w r k => by
    rcases e2 with e2 | rfl
    · obtain ⟨q, vs, rfl, hq, rs⟩ := r.asLst w e2
      rw [rs.strs] at hq
      exact ⟨z, q, ys, rfl, rfl, .inl hq, h1, k.now w (.str _) h⟩
    · obtain ⟨q, vs, rfl, hq, rs⟩ := r.asTup
      rw [rs.strs] at hq
      exact ⟨z, q, ys, rfl, rfl, .inr hq, h1, k.now w (.str _) h⟩⟩) hs hbase hline

/-! ### f-strings -/
/-- the parts' texts, one behind another -/
def WJ (X : Cx) (ρ : Rho) : List Expr → Mp → Str → (Str → Mp → Prop) → Prop
  | [], M, acc, Ω => Ω acc M
  | e :: es, M, acc, Ω => WE X ρ M e fun d M1 => ∃ y : Str, d = .str y ∧ (acc ++ y).length ≤ sizeLine ∧ WJ X ρ es M1 (acc ++ y) Ω
theorem pj_sem : ∀ es : List Expr, PJ X es (es.map (eSem X))
  | [] => .nil
  | e :: es => .cons pe_sem (pj_sem es)
theorem wj_run {Z : Zn} {σ : L2.St} : ∀ (es : List Expr) {M : Mp} {H : Hp} {acc : Str} {Ω : Str → Mp → Prop} {Q : Str → Hp → Prop}, WJ X ρ es M acc Ω → EnvR X.K M Z H σ ρ → Wd X.K M Z H → (∀ y H' M', Ext M Z H M' H' → Wd X.K M' Z H' → Ω y M' → Q y H') → tJs (es.map (eSem X)) acc σ H Q
  | [], M, H, acc, Ω, Q, h, en, w, k => k acc H M Ext.refl w h
  | e :: es, M, H, acc, Ω, Q, h, en, w, k => (show WE X ρ M e (fun d M1 => ∃ y : Str, d = .str y ∧ (acc ++ y).length ≤ sizeLine ∧ WJ X ρ es M1 (acc ++ y) Ω) from h).run σ H _ en w fun v d H1 M1 e1 w1 r1 hz => by
    obtain ⟨y, rfl, hl, hz⟩ := hz
    cases r1
    exact ⟨y, rfl, hl, wj_run es hz (en.mono e1) w1 fun y H' M' x w' z => k y H' M' (e1.trans x) w' z⟩
theorem we_fstr {v1 v2 : Expr} {rest : List Expr} (h : WJ X ρ (v1 :: v2 :: rest) M Str.empty fun y M1 => Φ (.str y) M1) : WE X ρ M (.JoinedStr (v1 :: v2 :: rest) pos) Φ := .mk fun σ H Q en w k =>
  eOf (pe_joined (pj_sem _)) (wj_run _ h en w fun y H' M' x w' z => (k.step x).now w' (.str y) z)
theorem we_fmt (h : WE X ρ M e fun d M1 => (∃ y : Str, d = .str y ∧ y.length ≤ sizeLine ∧ Φ (.str y) M1) ∨ ∃ i : Int, d = .int i ∧ i.natAbs.log2 < 1920 ∧ Φ (.str (toString i)) M1) : WE X ρ M (.FormattedValue e (-1) none pos) Φ := .mk fun σ H Q en w k =>
  eOf (pe_fmt pe_sem) (h.run σ H _ en w fun v d H1 M1 e1 w1 r1 hz => by
    rcases hz with ⟨y, rfl, hl, hz⟩ | ⟨i, rfl, hl, hz⟩
    · cases r1; exact .inl ⟨y, rfl, hl, (k.step e1).now w1 (.str y) hz⟩
    · cases r1; exact .inr ⟨i, rfl, hl, (k.step e1).now w1 (.str _) hz⟩)

/-! ### lists that change -/
theorem we_append (h : WE X ρ M o fun d M1 => ∃ q ds0, d = .ob q ∧ M1 q = some (.lst ds0) ∧ WE X ρ M1 e fun y M2 => ∃ ds, M2 q = some (.lst ds) ∧ ds.length < sizeLine ∧ Φ .non (mset M2 q (.lst (ds ++ [y]))))
    (hbase : attributeBase o "append" X.env (eval o X.env) = eval o X.env := by rfl)
    (hfew : ((backTo pos (starEach (e :: []) X.env)).all (fun x => !x.1) && (backToKw pos (keywordEach [] X.env)).all (fun x => x.1.isSome)
      && decide ((e :: []).length + ([] : List Keyword).length + (if ([] : List Keyword).isEmpty then 0 else 1) < 30)) = true := by rfl)
    (hline : (apos.endLine == pos.line) = true := by rfl) (hs : starEach (e :: []) X.env = (false, eval e X.env) :: starEach [] X.env := by rfl) (hplain : (backTo pos (starEach [] X.env)).any (·.1) = false := by rfl) : WE X ρ M (.Call (.Attribute o "append" apos) [e] [] pos) Φ := .mk fun σ H Q en w k =>
  eOf (pe_bm PySem.F.plainAttrs_list PySem.F.slot_list_append PySem.F.type_list_append mt_append pe_sem (pa_cons pe_sem pa_nil hs) hbase hfew hline hs hplain) (h.run σ H _ en w fun v d H1 M1 e1 w1 r1 hz => by
    obtain ⟨q, ds0, rfl, hM, hz⟩ := hz
    cases r1
    obtain ⟨vs0, h0, _⟩ := w1.1 q _ hM
    refine ⟨.inl ⟨rfl, _, .inl (.inl h0)⟩, hz.run σ H1 _ (en.mono e1) w1 fun u y H2 M2 e2 w2 r2 hy => ?_⟩
    obtain ⟨ds, hM2, hl, hy⟩ := hy
    obtain ⟨vs, hv, rs⟩ := w2.1 q _ hM2
    refine ⟨q, vs, u, rfl, rfl, hv, by rw [rs.length]; exact hl, ?_⟩
    have x3 : Ext M2 _ H2 (mset M2 q (.lst (ds ++ [y]))) (upd H2 q (.lst (vs ++ [u]))) := Ext.put w2 hM2
    exact k _ .non _ _ ((e1.trans e2).trans x3) (w2.put hM2 ⟨_, upd_same, (rs.append (.cons r2 .nil)).mono x3⟩) .non hy)
theorem we_extend (h : WE X ρ M o fun d M1 => ∃ q ds0, d = .ob q ∧ M1 q = some (.lst ds0) ∧ WE X ρ M1 e fun y M2 => ∃ ds ys, M2 q = some (.lst ds) ∧ y = .lst ys ∧ ds.length + ys.length ≤ sizeLine ∧ Φ .non (mset M2 q (.lst (ds ++ ys))))
    (hbase : attributeBase o "extend" X.env (eval o X.env) = eval o X.env := by rfl)
    (hfew : ((backTo pos (starEach (e :: []) X.env)).all (fun x => !x.1) && (backToKw pos (keywordEach [] X.env)).all (fun x => x.1.isSome)
      && decide ((e :: []).length + ([] : List Keyword).length + (if ([] : List Keyword).isEmpty then 0 else 1) < 30)) = true := by rfl)
    (hline : (apos.endLine == pos.line) = true := by rfl) (hs : starEach (e :: []) X.env = (false, eval e X.env) :: starEach [] X.env := by rfl) (hplain : (backTo pos (starEach [] X.env)).any (·.1) = false := by rfl) : WE X ρ M (.Call (.Attribute o "extend" apos) [e] [] pos) Φ := .mk fun σ H Q en w k =>
  eOf (pe_bm PySem.F.plainAttrs_list PySem.F.slot_list_extend PySem.F.type_list_extend mt_extend pe_sem (pa_cons pe_sem pa_nil hs) hbase hfew hline hs hplain) (h.run σ H _ en w fun v d H1 M1 e1 w1 r1 hz => by
    obtain ⟨q, ds0, rfl, hM, hz⟩ := hz
    cases r1
    obtain ⟨vs0, h0, _⟩ := w1.1 q _ hM
    refine ⟨.inl ⟨rfl, _, .inl (.inl h0)⟩, hz.run σ H1 _ (en.mono e1) w1 fun u y H2 M2 e2 w2 r2 hy => ?_⟩
    obtain ⟨ds, ys, hM2, rfl, hl, hy⟩ := hy
    obtain ⟨vs, hv, rs⟩ := w2.1 q _ hM2
    cases r2 with
    | @lst _ us _ h2 m2 r2 =>
      refine ⟨q, _, vs, us, rfl, rfl, hv, h2, by rw [rs.length, r2.length]; exact hl, ?_⟩
      have x3 : Ext M2 _ H2 (mset M2 q (.lst (ds ++ ys))) (upd H2 q (.lst (vs ++ us))) := Ext.put w2 hM2
      exact k _ .non _ _ ((e1.trans e2).trans x3) (w2.put hM2 ⟨_, upd_same, (rs.append r2).mono x3⟩) .non hy)
/-- xs[i] = e -/
theorem wg_sub {i : Expr} {d : D} {Ω : Rho → Mp → Prop} (h : WE X ρ M o fun x M1 => WE X ρ M1 i fun y M2 => ∃ q ds n j, x = .ob q ∧ y = .int n ∧ M2 q = some (.lst ds) ∧ ixN ds.length n = some j ∧ Ω ρ (mset M2 q (.lst (ds.set j d))))
    (ha : ∀ v, assign (.Subscript o i pos) X.env v = (do
      let ov ← holding [v] (eval o X.env)
      let iv ← holding [v, ov] (eval i X.env)
      standAt pos
      holding [v, ov, iv] (setItem ov iv v)
      release [v, ov, iv] []) := by intro _; rfl) : WG X (.Subscript o i pos) d ρ M Ω := .mk fun {Z} σ H v Q en w r k =>
  gOf (pg_sub pe_sem pe_sem set_list ha) (bind2 h en w fun v1 v2 x y H2 M2 e2 w2 r1 r2 hz => by
    obtain ⟨q, ds, n, j, rfl, rfl, hM, hj, hz⟩ := hz
    cases r1; cases r2
    obtain ⟨vs, hv, rs⟩ := w2.1 q _ hM
    refine ⟨q, vs, n, j, rfl, rfl, hv, by rw [rs.length]; exact hj, ?_⟩
    have x3 : Ext M2 _ H2 (mset M2 q (.lst (ds.set j d))) (upd H2 q (.lst (vs.set j v))) := Ext.put w2 hM
    exact k σ ρ _ _ (e2.trans x3) (w2.put hM ⟨_, upd_same, (Reps.set (r.mono e2) j rs).mono x3⟩) (en.mono (e2.trans x3)) hz)
/-- [*xs, ..] -/
theorem wa_star {sp : Pos} {ΦA : List D → Mp → Prop} (h : WE X ρ M e fun d M1 => ∃ xs, (LstOf M1 d xs ∨ d = .tup xs) ∧ WA X ρ M1 es fun ds M2 => ∀ ys, ys = xs ++ ds → ΦA ys M2) (hs : starEach (.Starred e sp :: es) X.env = (true, eval e X.env) :: starEach es X.env := by rfl) : WA X ρ M (.Starred e sp :: es) ΦA := .mk fun σ H Q en w k =>
  aOf (StX.pa_star pe_sem pa_sem hs) (h.run σ H _ en w fun v d H1 M1 e1 w1 r1 hz => by
    obtain ⟨xs, hl, hz⟩ := hz
    obtain ⟨q, vs, rfl, hq, rs⟩ : ∃ q vs, v = .ref q ∧ (SqT X.K H1 q vs ∨ SqL X.K H1 q vs) ∧ Reps X.K M1 _ H1 vs xs := by
      rcases hl with hl | rfl
      · obtain ⟨q, vs, e, hq, rs⟩ := r1.asLst w1 hl; exact ⟨q, vs, e, .inr hq, rs⟩
      · obtain ⟨q, vs, e, hq, rs⟩ := r1.asTup; exact ⟨q, vs, e, .inl hq, rs⟩
    exact ⟨q, vs, rfl, hq, hz.run σ H1 _ (en.mono e1) w1 fun us ds H2 M2 e2 w2 r2 hy => k (vs ++ us) (xs ++ ds) H2 M2 (e1.trans e2) w2 ((rs.mono e2).append r2) (hy _ rfl)⟩)
end
end DL
/-! DL8: walks over texts, enumerate of a text, zip; written dicts. -/
namespace DL
open PySem PySem.Spec PyProof.Rows L2
/-! ### enumerate(text) -/
/-- the signs of a text, each with its number in a new pair -/
def Ites (x : Str) : It := ⟨fun i _ => i < x.cps.size, fun i H v H' => ∃ T c, v = .ref T ∧ H T = none ∧ H' = upd H T (.tup [.int (i : Nat), .str ⟨#[c]⟩]) ∧ x.cps[i]? = some c, fun i _ => i = x.cps.size⟩
theorem draws_txt {prog : Program} {w : World} {A : Around} (hh : A.handled = none) (it : Addr) (x : Str) (t : Tok) :
    Draws prog w A it [it] x.cps.size (fun i v => ∃ c u, x.cps[i]? = some c ∧ v = .str ⟨#[c]⟩ u) (fun i h => h.IsStrIter it (strIterType x) x t i) := by
  unfold strIterType
  cases x.cps.all (· < 128)
  · exact Draws.strWide hh it x t
  · exact Draws.strAscii hh it x t
theorem turn_enumS {P : Program} {w : World} {K : PySem.W.Frag} {elts : List Expr} {kk : Nat} {tpos : Pos} (x : Str) (t : Tok) (e it : Addr) :
    Turn P w K (.Tuple elts kk tpos) (Ites x) [e, it] e (fun i h => (∃ old, IsEnum h e it i old) ∧ h.IsStrIter it (strIterType x) x t i ∧ e ≠ it) where
  mem := by simp
  obj := fun i h st b hb => by
    obtain ⟨⟨old, he⟩, ⟨o, e1, c, d⟩, hne⟩ := st
    have e' : b = e ∨ b = it := by simpa using hb
    rcases e' with z | z
    · rw [z]; exact ⟨_, he, fun v z => nomatch z⟩
    · rw [z]; exact ⟨o, e1, fun v z => by rw [d] at z; cases z⟩
  keep := fun i h h' st k => by
    obtain ⟨⟨old, he⟩, ⟨o, e1, c, d⟩, hne⟩ := st
    exact ⟨⟨old, k e (by simp) _ he⟩, ⟨o, k it (by simp) _ e1, c, d⟩, hne⟩
  item := by
    intro X hP hw hK hc i pins s σ H E I hf st hg
    subst hP hw hK
    obtain ⟨⟨old, he⟩, hit, hne⟩ := st
    have hel : e < s.heap.objs.size := Heap.lt_size he
    have hil : it < s.heap.objs.size := by obtain ⟨_, q, _⟩ := hit; exact Heap.lt_size q
    refine wpAny_pyNext_enum_itemD (draws_txt (A := X.A.in1) (I.ok.hd hc) it x t) he hit hg hne (by simpa using hne) fun u h' tk hP ho hit' hT hsz hk => ?_
    obtain ⟨c, tk2, hcx, rfl⟩ := hP
    refine ⟨_, rfl, wpAny_letOwnedTupleGo_enum (s := { s with heap := h', toks := tk + 1 }) ho fun h'' he' sb => ?_⟩
    have hT2 : h''.get? s.heap.objs.size = some { cls := .type "tuple", data := .seq #[.int i tk, .str ⟨#[c]⟩ tk2] } := (sb.2 _ (Nat.ne_of_gt hel)).trans hT
    have new : ObjOk X.prog X.w (upd H s.heap.objs.size (.tup [.int (i : Nat), .str ⟨#[c]⟩])) h'' s.heap.objs.size (.tup [.int (i : Nat), .str ⟨#[c]⟩]) :=
      ⟨by show 2 ≤ sizeLine; decide, [.int i tk, .str ⟨#[c]⟩ tk2], .cons ⟨_, rfl⟩ (.cons ⟨_, rfl⟩ .nil), ⟨_, hT2, rfl, _, rfl⟩⟩
    have I1 : Inv X pins σ (upd H s.heap.objs.size (.tup [.int (i : Nat), .str ⟨#[c]⟩])) { s with heap := h'', toks := tk + 1 } :=
      I.turnedNew (ch := [e, it]) (fun b ob hb q => (sb.2 b (fun z => hb (by simp [z]))).trans (hk b ob (fun z => hb (by simp [z])) (fun z => hb (by simp [z])) q)) hf (Nat.le_refl _) new
    refine ⟨.ref s.heap.objs.size, _, I1, rfl, ⟨_, c, rfl, I.hok.fresh (Nat.le_refl _), rfl, hcx⟩, ⟨⟨.str ⟨#[c]⟩ tk2, ?_⟩, ?_, hne⟩, fun b hb => ?_⟩
    · have e1 : ((i + 1 : Nat) : Int) = (i : Int) + 1 := by omega
      rw [e1]; exact he'
    · obtain ⟨o, q1, q2⟩ := hit'
      exact ⟨o, (sb.2 it (Ne.symm hne)).trans q1, q2⟩
    · have hb' : b < s.heap.objs.size := by
        have e' : b = e ∨ b = it := by simpa using hb
        rcases e' with z | z
        · rw [z]; exact hel
        · rw [z]; exact hil
      rw [upd_ne (Nat.ne_of_lt hb')]
      exact (hf b hb).1
  done := by
    intro X hP hw hK hc i pins s σ H E I hf st hg
    subst hP hw hK
    obtain ⟨⟨old, he⟩, hit, hne⟩ := st
    obtain ⟨f0, f1, f2, f3, f4, f5⟩ := hf it (by simp)
    have hi : i = x.cps.size := hg
    subst hi
    exact wpAny_pyNext_enum_endD (draws_txt (A := X.A.in1) (I.ok.hd hc) it x t) he hit fun h' eb => ⟨rfl, I.turned (t' := s.toks) (fun b o hb q => eb b o hb q) f0 f1 f3 f4 f5⟩
  self := fun A i s Q E st h => let ⟨⟨_, he⟩, _⟩ := st; wpAny_pyIter_enum he h
def iEnumS (ta : TA) : TI := fun σ H R => ta σ H fun vs H1 => ∃ x, vs = [.str x] ∧ R (Ites x) H1
theorem pi_enumS {X : Cx} {e : Expr} {ta : TA} {p pos tpos : Pos} {elts : List Expr} {kk : Nat} (hg : Gl X "enumerate") (hm : X.mg "enumerate" = none) (ha : PA X [e] ta) (hs : starEach [e] X.env = [(false, eval e X.env)] := by rfl) :
    PI X (.Tuple elts kk tpos) (.Call (.Name "enumerate" p) [e] [] pos) (iEnumS ta) := by
  refine ⟨fun pins s σ H R I h => ?_⟩
  refine Call_ (ld_blt I hg hm boot_enumerate (PyProof.Rows.callWith_type1 (thn (ha.run pos pins s σ H _ I h) fun us s1 ⟨vs, H1, I1, r1, q1⟩ => ?_) hs rfl))
  obtain ⟨x, ex, q⟩ := q1
  subst ex
  cases r1 with
  | cons r rr =>
    cases rr
    obtain ⟨t, rfl⟩ := r
    refine call_enumerate_str fun h' he hit hsz hk => wpAny_pyIter_enum he ?_
    have I2 : Inv X pins σ H1 { s1 with heap := h' } := I1.kept (t' := s1.toks) hk
    refine ⟨s1.heap.objs.size + 1, [s1.heap.objs.size + 1, s1.heap.objs.size], _, _, H1, rfl, I2, turn_enumS x t (s1.heap.objs.size + 1) s1.heap.objs.size, ⟨⟨.none, he⟩, hit, Nat.succ_ne_self _⟩, fun b hb => ?_, q⟩
    have e' : b = s1.heap.objs.size + 1 ∨ b = s1.heap.objs.size := by simpa using hb
    have hle : s1.heap.objs.size ≤ b := by
      rcases e' with z | z
      · rw [z]; exact Nat.le_add_right _ _
      · rw [z]; exact Nat.le_refl _
    exact I1.fpOk hle (I1.hok.fresh hle)

section
variable {X : Cx} {ρ : Rho} {M : Mp} {tg a b e : Expr} {pos p : Pos} {Φ : List D → Mp → Prop}
/-- the signs of a text -/
def signs (x : Str) : List D := x.cps.toList.map fun c => .str ⟨#[c]⟩
/-- .. each with its number -/
def enumS (x : Str) : List D := (List.range x.cps.size).map fun (i : Nat) => .tup [.int (i : Nat), .str ⟨#[x.cps.getD i 0]⟩]
theorem sq_str {K : PySem.W.Frag} {M1 : Mp} {Z1 : Zn} {H1 : Hp} (x : Str) : Sq K M1 Z1 H1 (Its x) (signs x) := fun i M Z H e w => by
  refine ⟨fun hi => ?_, fun d hd => ?_⟩
  · show x.cps.size ≤ i
    rw [hi]; simp [signs]
  · unfold signs at hd
    rw [List.getElem?_map] at hd
    obtain ⟨c, hc, rfl⟩ := Option.map_eq_some_iff.mp hd
    rw [Array.getElem?_toList] at hc
    refine ⟨(Array.getElem?_eq_some_iff.mp hc).1, fun v H' y => ?_⟩
    obtain ⟨rfl, c', hc', rfl⟩ := y
    rw [hc] at hc'; cases hc'
    exact ⟨Ext.refl, w, .str _⟩
theorem wi_str (h : WE X ρ M e fun d M1 => ∃ x, d = .str x ∧ Φ (signs x) M1) : WI X ρ M tg e Φ := .mk fun σ H R en w k =>
  iOf (pi_str pe_sem) (h.run σ H _ en w fun v d H1 M1 e1 w1 r1 hz => by
    obtain ⟨x, rfl, hz⟩ := hz
    cases r1
    exact ⟨x, rfl, k _ _ H1 M1 e1 w1 (sq_str x) hz⟩)
theorem sq_enumS {K : PySem.W.Frag} {M1 : Mp} {Z1 : Zn} {H1 : Hp} (x : Str) : Sq K M1 Z1 H1 (Ites x) (enumS x) := fun i M Z H e w => by
  refine ⟨fun hi => ?_, fun d hd => ?_⟩
  · show i = x.cps.size
    rw [hi]; simp [enumS]
  · unfold enumS at hd
    rw [List.getElem?_map] at hd
    obtain ⟨j, hj, rfl⟩ := Option.map_eq_some_iff.mp hd
    obtain ⟨hlt, rfl⟩ : i < x.cps.size ∧ i = j := by
      have q : i < (List.range x.cps.size).length := (List.getElem?_eq_some_iff.mp hj).1
      rw [List.length_range] at q
      rw [List.getElem?_range q] at hj
      exact ⟨q, Option.some.inj hj⟩
    refine ⟨hlt, fun v H' y => ?_⟩
    obtain ⟨T, c, rfl, hT, rfl, hc⟩ := y
    have ec : x.cps.getD i 0 = c := by
      rw [Array.getD_eq_getD_getElem?, hc]; rfl
    rw [ec]
    exact ⟨Ext.new w hT, w.new hT, .tup (.inl upd_same) (w.fresh hT) (.cons (.int _) (.cons (.str _) .nil))⟩
theorem wi_enumS {elts : List Expr} {kk : Nat} {tpos : Pos} (hm : X.mg "enumerate" = none) (h : WE X ρ M e fun d M1 => ∃ x, d = .str x ∧ Φ (enumS x) M1) (hg : Gl X "enumerate" := by rfl) (hs : starEach [e] X.env = [(false, eval e X.env)] := by rfl) : WI X ρ M (.Tuple elts kk tpos) (.Call (.Name "enumerate" p) [e] [] pos) Φ := .mk fun σ H R en w k =>
  iOf (pi_enumS hg hm (pa_cons pe_sem pa_nil hs) hs) (h.run σ H _ en w fun v d H1 M1 e1 w1 r1 hz => by
    obtain ⟨x, rfl, hz⟩ := hz
    cases r1
    exact ⟨x, rfl, k _ _ H1 M1 e1 w1 (sq_enumS x) hz⟩)
/-- zip of two tuples -/
def zipD (xs ys : List D) : List D := (xs.zip ys).map fun q => .tup [q.1, q.2]
theorem zipD_get {xs ys : List D} {i : Nat} {d : D} (h : (zipD xs ys)[i]? = some d) : ∃ x y, xs[i]? = some x ∧ ys[i]? = some y ∧ d = .tup [x, y] := by
  unfold zipD at h
  rw [List.getElem?_map] at h
  obtain ⟨⟨x, y⟩, hq, rfl⟩ := Option.map_eq_some_iff.mp h
  rw [List.getElem?_zip_eq_some] at hq
  exact ⟨x, y, hq.1, hq.2, rfl⟩
theorem wi_zipT {elts : List Expr} {kk : Nat} {tpos : Pos} (hm : X.mg "zip" = none) (h : WE X ρ M a fun x M1 => WE X ρ M1 b fun y M2 => ∃ xs ys, x = .tup xs ∧ y = .tup ys ∧ Φ (zipD xs ys) M2) (hg : Gl X "zip" := by rfl)
    (ha : starEach [a, b] X.env = (false, eval a X.env) :: starEach [b] X.env := by rfl) (hb : starEach [b] X.env = (false, eval b X.env) :: starEach [] X.env := by rfl) (hpl : (backTo pos (starEach [b] X.env)).any (·.1) = false := by rfl) : WI X ρ M (.Tuple elts kk tpos) (.Call (.Name "zip" p) [a, b] [] pos) Φ := .mk fun σ H R en w k =>
  iOf (RZ.pi_zipA hg hm (pa_cons pe_sem (pa_cons pe_sem pa_nil hb) ha) ha hpl) (bind2 h en w fun v u x y H2 M2 e2 w2 r1 r2 hz => by
    obtain ⟨xs, ys, rfl, rfl, hz⟩ := hz
    obtain ⟨p1, vs, rfl, hq1, rs1⟩ := r1.tupKeep
    obtain ⟨p2, us, rfl, hq2, rs2⟩ := r2.tupKeep
    refine ⟨p1, p2, vs, us, rfl, .inr ⟨hq1 _ _ _ ExI.refl, hq2 _ _ _ ExI.refl, k _ _ H2 M2 e2 w2 ?_ hz⟩⟩
    intro i M Z H e w
    refine ⟨fun hi => ⟨vs, us, hq1 _ _ _ e, hq2 _ _ _ e, ?_⟩, fun d hd => ?_⟩
    · rw [rs1.length, rs2.length]
      have : (zipD xs ys).length = min xs.length ys.length := by simp [zipD]
      omega
    · obtain ⟨x, y, hx, hy, rfl⟩ := zipD_get hd
      obtain ⟨v, hv, rv⟩ := rs1.get hx
      obtain ⟨u, hu, ru⟩ := rs2.get hy
      refine ⟨⟨vs, us, v, u, hq1 _ _ _ e, hq2 _ _ _ e, hv, hu⟩, fun z H' yl => ?_⟩
      obtain ⟨T, v', u', rfl, hT, rfl, h1, h2⟩ := yl
      have z1 := h1 vs (hq1 _ _ _ e)
      have z2 := h2 us (hq2 _ _ _ e)
      rw [hv] at z1; cases z1
      rw [hu] at z2; cases z2
      have x3 : Ext M Z H M (upd H T (.tup [v, u])) := Ext.new w hT
      exact ⟨x3, w.new hT, .tup (.inl upd_same) (w.fresh hT) (.cons ((rv.monoI e).mono x3) (.cons ((ru.monoI e).mono x3) .nil))⟩)
end

/-! ### written dicts with text keys -/
/-- at a a dict of the top: these texts with these values, in this order -/
def WrD (K : PySem.W.Frag) (w : World) (a : Addr) (kvs : List (Str × V)) : Prop := ∃ es n, K.lookup a = some ⟨.type "dict", none, .dict es n, #[]⟩ ∧ (a == sysModules) = false ∧ PySem.W.KeysLit w.params es.toList ∧
  Paired (fun (p : Str × V) (e : DictEntry) => (∃ t, e.key = .str p.1 t) ∧ RelV p.2 e.val) kvs es.toList ∧ (kvs.map (·.1)).Nodup
/-- the pairs as values stand -/
def rawOf (es : List DictEntry) (kvs : List (Str × V)) : List (Str × Value) := (kvs.zip es).map fun q => (q.1.1, q.2.val)
theorem pairs_raw {prog : Program} {w : World} : ∀ {kvs : List (Str × V)} {es : List DictEntry}, Paired (fun (p : Str × V) (e : DictEntry) => (∃ t, e.key = .str p.1 t) ∧ RelV p.2 e.val) kvs es →
    Pairs (strKind prog w) es (rawOf es kvs) ∧ (rawOf es kvs).map (·.1) = kvs.map (·.1) ∧ (rawOf es kvs).length = kvs.length ∧ ∀ (i : Nat) (k : Str) (v : V), kvs[i]? = some (k, v) → ∃ u, (rawOf es kvs)[i]? = some (k, u) ∧ RelV v u
  | _, _, .nil => ⟨.nil, rfl, rfl, fun i k v e => by simp at e⟩
  | (k, v) :: kvs, e :: es, .cons ⟨⟨t, hk⟩, hv⟩ r => by
    obtain ⟨h1, h2, h3, h4⟩ := pairs_raw (prog := prog) (w := w) r
    refine ⟨.cons (by rw [hk]; exact strKind_is prog w k t) rfl h1, ?_, ?_, fun i k' v' e' => ?_⟩
    · show k :: (rawOf es kvs).map (·.1) = k :: kvs.map (·.1)
      rw [h2]
    · show (rawOf es kvs).length + 1 = kvs.length + 1
      rw [h3]
    · cases i with
      | zero => simp at e'; obtain ⟨rfl, rfl⟩ := e'; exact ⟨_, rfl, hv⟩
      | succ i => exact h4 i k' v' (by simpa using e')
theorem wrD_at {K : PySem.W.Frag} {w : World} {a : Addr} {kvs : List (Str × V)} (h : WrD K w a kvs) (prog : Program) {hp : Heap} (X : K.In hp) : (a == sysModules) = false ∧ ∃ vs n, hp.DictAt (strKind prog w) a vs n ∧ vs.length = kvs.length ∧ vs.map (·.1) = kvs.map (·.1) ∧ ∀ (i : Nat) (k : Str) (v : V), kvs[i]? = some (k, v) → ∃ u, vs[i]? = some (k, u) ∧ RelV v u := by
  obtain ⟨es, n, hl, hs, hk, pr, nd⟩ := h
  obtain ⟨h1, h2, h3, h4⟩ := pairs_raw (prog := prog) (w := w) pr
  refine ⟨hs, _, n, ⟨_, es, X _ _ hl, ⟨rfl, rfl, rfl⟩, rfl, fun e he => ?_, h1, by rw [h2]; exact nd⟩, h3, h2, h4⟩
  obtain ⟨x, t, e1, e2⟩ := hk.all e (Array.mem_toList_iff.mpr he)
  exact ⟨x, by rw [e1]; exact strKind_is prog w x t, e2⟩
def Itw (kvs : List (Str × V)) : It := ⟨fun i _ => i < kvs.length, fun i H x H' => ∃ T k v, kvs[i]? = some (k, v) ∧ x = .ref T ∧ H T = none ∧ H' = upd H T (.tup [.str k, v]), fun i _ => kvs.length ≤ i⟩
theorem turn_gitems {P : Program} {w : World} {K : PySem.W.Frag} {a : Addr} {kvs : List (Str × V)} {elts : List Expr} {kk : Nat} {tpos : Pos} (hw : WrD K w a kvs) (it : Addr) (ep : Nat) (hep : ∀ es n, K.lookup a = some ⟨.type "dict", none, .dict es n, #[]⟩ → n = ep) :
    Turn P w K (.Tuple elts kk tpos) (Itw kvs) [it] it (fun i h => ∃ ok ov, IsItemIter h it a i kvs.length ep ok ov) where
  mem := by simp
  obj := fun i h st b hb => by
    have e : b = it := by simpa using hb
    subst e
    obtain ⟨ok, ov, e⟩ := st
    exact ⟨_, e, fun v z => nomatch z⟩
  keep := fun i h h' st k => let ⟨ok, ov, e⟩ := st; ⟨ok, ov, k it (by simp) _ e⟩
  item := by
    intro X hP hw' hK hc i pins s σ H E I hf st hg
    subst hP hw' hK
    obtain ⟨es0, n0, hl0, _⟩ := id hw
    have en := hep es0 n0 hl0
    obtain ⟨hs, vs, n, hm, hl, hmm, hv⟩ := wrD_at hw X.prog I.kIn
    have hn : n = ep := by
      obtain ⟨o, es, ho, hx, hd, _⟩ := hm
      rw [I.kIn _ _ hl0] at ho
      cases ho
      injection hd with _ h2
      rw [← h2]; exact en
    subst hn
    obtain ⟨⟨k, v⟩, hkv⟩ : ∃ p, kvs[i]? = some p := ⟨kvs[i], List.getElem?_eq_getElem hg⟩
    obtain ⟨u, hu, ru⟩ := hv i k v hkv
    obtain ⟨ok, ov, he⟩ := st
    rw [← hl] at he
    have hlt : it < s.heap.objs.size := Heap.lt_size he
    refine wpAny_pyNext_items_item he hm hu fun key h' hkey ho hT hz hk => ?_
    refine ⟨_, rfl, wpAny_letOwnedTupleGo_items (s := { s with heap := h' }) ho fun h'' he' sb => ?_⟩
    have hT2 : h''.get? s.heap.objs.size = some { cls := .type "tuple", data := .seq #[key, u] } := (sb.2 _ (Nat.ne_of_gt hlt)).trans hT
    obtain ⟨tk, rfl⟩ : ∃ t, key = .str k t := Value.isStrOf_shape hkey
    have new : ObjOk X.prog X.w (upd H s.heap.objs.size (.tup [.str k, v])) h'' s.heap.objs.size (.tup [.str k, v]) :=
      ⟨by show 2 ≤ sizeLine; decide, [.str k tk, u], .cons ⟨tk, rfl⟩ (.cons ru .nil), ⟨_, hT2, rfl, _, rfl⟩⟩
    have I1 : Inv X pins σ (upd H s.heap.objs.size (.tup [.str k, v])) { s with heap := h'' } :=
      I.turnedNew (t' := s.toks) (ch := [it]) (fun b ob hb e => (sb.2 b (by simpa using hb)).trans (hk b ob (by simpa using hb) e)) hf (Nat.le_refl _) new
    refine ⟨.ref s.heap.objs.size, _, I1, rfl, ⟨_, k, v, hkv, rfl, I.hok.fresh (Nat.le_refl _), rfl⟩, ⟨.str k tk, u, ?_⟩, fun b hb => ?_⟩
    · rw [← hl]; exact he'
    · have e : b = it := by simpa using hb
      rw [e, upd_ne (Nat.ne_of_lt hlt)]
      exact (hf it (by simp)).1
  done := by
    intro X hP hw' hK hc i pins s σ H E I hf st hg
    subst hP hw' hK
    obtain ⟨es0, n0, hl0, _⟩ := id hw
    have en := hep es0 n0 hl0
    obtain ⟨hs, vs, n, hm, hl, hmm, hv⟩ := wrD_at hw X.prog I.kIn
    have hn : n = ep := by
      obtain ⟨o, es, ho, hx, hd, _⟩ := hm
      rw [I.kIn _ _ hl0] at ho
      cases ho
      injection hd with _ h2
      rw [← h2]; exact en
    subst hn
    obtain ⟨f0, f1, f2, f3, f4, f5⟩ := hf it (by simp)
    obtain ⟨ok, ov, he⟩ := st
    rw [← hl] at he
    exact wpAny_pyNext_items_end (I.ok.hd hc) he hm (List.getElem?_eq_none (by rw [hl]; exact hg)) fun h' eb => ⟨rfl, I.turned (t' := s.toks) (fun b ob hb e => eb b ob hb e) f0 f1 f3 f4 f5⟩
  self := fun A i s Q E st h => let ⟨_, _, e⟩ := st; PySem.W.kcp_self e h
section
variable {X : Cx} {ρ : Rho} {M : Mp} {a : Addr} {e f : Expr} {pos p apos : Pos} {x : Str} {kvs : List (Str × V)}
def iGItems (kvs : List (Str × V)) : TI := fun σ H R => R (Itw kvs) H
theorem pi_gitems {elts : List Expr} {kk : Nat} {tpos : Pos} (hm : X.mg x = some (.ref a)) (hw : WrD X.K X.w a kvs) (hg : Gl X x) (hdb : (x == ("__debug__" : Str)) = false) (hbase : attributeBase (.Name x p) "items" X.env (eval (.Name x p) X.env) = eval (.Name x p) X.env) (hline : (apos.endLine == pos.line) = true) :
    PI X (.Tuple elts kk tpos) (.Call (.Attribute (.Name x p) "items" apos) [] [] pos) (iGItems kvs) := by
  refine ⟨fun pins s σ H R I h => ?_⟩
  refine wpAny_Call_method (T := "dict") (id := "dict.items") hbase rfl hline F.plainAttrs_dict F.slot_dict_items F.type_dict_items (ld_glob I hg hm ?_ hdb)
  obtain ⟨es0, n0, hl0, _⟩ := id hw
  obtain ⟨hs, vs, n, hd, hl, hmm, hv⟩ := wrD_at hw X.prog I.kIn
  refine ⟨hd.dictOf.typeIs, hd.dictOf.mapOf.noDict, ?_⟩
  have I2 : Inv X pins σ H { s with heap := s.heap.push { cls := .type "dict_items", data := .fields #[.ref a] } } := I.kept (t' := s.toks) fun b ob q => Heap.get?_push_of_some _ q
  have hn : n = n0 := by
    obtain ⟨o, es, ho, hx, hd', _⟩ := hd
    rw [I.kIn _ _ hl0] at ho
    cases ho
    injection hd' with _ h2
    exact h2.symm
  have fin : wpAny (model X.prog X.w) X.A (pyIter (.ref s.heap.objs.size)) (PIE X pins σ (.Tuple elts kk tpos) R) X.xe { s with heap := s.heap.push { cls := .type "dict_items", data := .fields #[.ref a] } } := by
    refine wpAny_pyIter_items (d := a) (knd := strKind X.prog X.w) ⟨_, Heap.get?_push_size _ rfl, rfl, rfl⟩ (hd.push _) (pi_one (tk := s.toks) I2 _ (turn_gitems hw _ n fun es m hm' => by rw [hl0] at hm'; cases hm'; exact hn.symm) ⟨.none, .none, ?_⟩ h)
    rw [← hl]
    exact Heap.get?_push_size _ rfl
  show wpAny _ _ (callWith pos (.builtin "dict.items") [.ref a] [] []) _ X.xe s
  exact method_meetsIn F.slot_dict_items F.entry_dict_items rfl (PySem.evalArgs_none ⟨rfl, hd.dictOf.typeIs, F.args_dict_items_1 _, _, meets_dict_items (strKind X.prog X.w) a hs, ⟨vs, hd.dictOf⟩, fin⟩)
/-- the data of a written dict's pairs -/
def gitems (ds : List (Str × D)) : List D := ds.map fun q => .tup [.str q.1, q.2]
theorem RepF.get {K : PySem.W.Frag} {M : Mp} {Z : Zn} {H : Hp} : ∀ {vs : List (Str × V)} {ds : List (Str × D)} {i : Nat} {k : Str} {d : D}, RepF K M Z H vs ds → ds[i]? = some (k, d) → ∃ v, vs[i]? = some (k, v) ∧ Rep K M Z H v d
  | _, _, _, _, _, .nil, e => by simp at e
  | _, _, 0, _, _, .cons r _, e => by simp at e; obtain ⟨rfl, rfl⟩ := e; exact ⟨_, rfl, r⟩
  | _, _, i + 1, k, d, .cons _ t, e => by
    obtain ⟨u, h1, h2⟩ := RepF.get (i := i) (d := d) t (by simpa using e)
    exact ⟨u, by simpa using h1, h2⟩
theorem wi_gitems {elts : List Expr} {kk : Nat} {tpos : Pos} {ds : List (Str × D)} {Φ : List D → Mp → Prop} (hm : X.mg x = some (.ref a)) (hw : WrD X.K X.w a kvs) (hr : ∀ M Z H, RepF X.K M Z H kvs ds) (h : Φ (gitems ds) M) (hg : Gl X x := by rfl) (hdb : (x == ("__debug__" : Str)) = false := by decide)
    (hbase : attributeBase (.Name x p) "items" X.env (eval (.Name x p) X.env) = eval (.Name x p) X.env := by rfl) (hline : (apos.endLine == pos.line) = true := by rfl) : WI X ρ M (.Tuple elts kk tpos) (.Call (.Attribute (.Name x p) "items" apos) [] [] pos) Φ := .mk fun σ H R en w k =>
  iOf (pi_gitems hm hw hg hdb hbase hline) (k _ _ H M Ext.refl w (fun i M' Z' H' e w' => by
    have rf := hr M' Z' H'
    refine ⟨fun hi => ?_, fun d hd => ?_⟩
    · show kvs.length ≤ i
      rw [hi, rf.length]; simp [gitems]
    · unfold gitems at hd
      rw [List.getElem?_map] at hd
      obtain ⟨⟨k, y⟩, hq, rfl⟩ := Option.map_eq_some_iff.mp hd
      obtain ⟨v, hv, rv⟩ := rf.get hq
      refine ⟨(List.getElem?_eq_some_iff.mp hv).1, fun z H2 yl => ?_⟩
      obtain ⟨T, k', v', hkv, rfl, hT, rfl⟩ := yl
      rw [hv] at hkv; cases hkv
      have x3 : Ext M' Z' H' M' (upd H' T (.tup [.str k, v])) := Ext.new w' hT
      exact ⟨x3, w'.new hT, .tup (.inl upd_same) (w'.fresh hT) (.cons (.str _) (.cons (rv.mono x3) .nil))⟩) h)
/-- a written dict's value by a key -/
theorem raw_val (k : Str) : ∀ {kvs : List (Str × V)} {es : List DictEntry}, Paired (fun (p : Str × V) (e : DictEntry) => (∃ t, e.key = .str p.1 t) ∧ RelV p.2 e.val) kvs es →
    (∀ v, kvs.lookup k = some v → ∃ u, valueAt (rawOf es kvs) k = some u ∧ RelV v u) ∧ (kvs.lookup k = none → valueAt (rawOf es kvs) k = none)
  | _, _, .nil => by
    refine ⟨fun v e => ?_, fun _ => rfl⟩
    cases e
  | (k0, v0) :: kvs, e :: es, .cons ⟨_, hv⟩ r => by
    have ih := raw_val k r
    have e1 : rawOf (e :: es) ((k0, v0) :: kvs) = (k0, e.val) :: rawOf es kvs := rfl
    rw [e1, List.lookup_cons]
    unfold valueAt
    rw [List.find?_cons]
    by_cases h : k = k0
    · subst h
      refine ⟨fun v q => ?_, fun q => ?_⟩
      · simp only [beq_self_eq_true] at q
        cases q
        exact ⟨e.val, by simp, hv⟩
      · simp at q
    · have h1 : (k == k0) = false := by simpa using h
      have h2 : decide (k0 = k) = false := decide_eq_false fun z => h z.symm
      rw [h1, h2]
      exact ih
theorem wrD_val {K : PySem.W.Frag} {w : World} {a : Addr} {kvs : List (Str × V)} (h : WrD K w a kvs) (prog : Program) {hp : Heap} (X : K.In hp) (k : Str) : (a == sysModules) = false ∧ ∃ vs : List (Str × Value), hp.DictOf (strKind prog w) a vs ∧ (∀ v, kvs.lookup k = some v → ∃ u, valueAt vs k = some u ∧ RelV v u) ∧ (kvs.lookup k = none → valueAt vs k = none) := by
  obtain ⟨es, n, hl, hs, hk, pr, nd⟩ := h
  obtain ⟨h1, h2, h3, h4⟩ := pairs_raw (prog := prog) (w := w) pr
  refine ⟨hs, rawOf es.toList kvs, ⟨_, es, n, X _ _ hl, ⟨rfl, rfl, rfl⟩, rfl, fun e he => ?_, h1, by rw [h2]; exact nd⟩, raw_val k pr⟩
  obtain ⟨x, t, e1, e2⟩ := hk.all e (Array.mem_toList_iff.mpr he)
  exact ⟨x, by rw [e1]; exact strKind_is prog w x t, e2⟩
/-- x[e], x a written dict -/
theorem we_gix {ds : List (Str × D)} {Φ : D → Mp → Prop} (hm : X.mg x = some (.ref a)) (hw : WrD X.K X.w a kvs) (hr : ∀ M Z H, RepF X.K M Z H kvs ds) (h : WE X ρ M e fun y M1 => ∃ k d, y = .str k ∧ ds.lookup k = some d ∧ Φ d M1) (hg : Gl X x := by rfl) (hdb : (x == ("__debug__" : Str)) = false := by decide) (hs : PlainIx e := by exact fun _ _ => rfl) : WE X ρ M (.Subscript (.Name x p) e pos) Φ := .mk fun σ H Q en w k => by
  have ho : IxR X (fun v u H Q => ∃ z y, v = V.ref a ∧ u = V.str z ∧ kvs.lookup z = some y ∧ Q y H) := by
    intro value slice pins s σ H v u v' u' Q I rv ru q hs'
    obtain ⟨z, y, rfl, rfl, hl, q⟩ := q
    cases rv
    obtain ⟨t, rfl⟩ := ru
    obtain ⟨_, vs, dd, hv, _⟩ := wrD_val hw X.prog I.kIn z
    obtain ⟨u0, hu, ru⟩ := hv y hl
    exact tail_any dd.typeIs slot_dict_getitem.lookup (wpAny_getItem_of (strKind_is X.prog X.w z t) dd.mapOf hu ⟨y, H, I.tok _, ru, q⟩) hs'
  refine eOf (pe_ix ho (pe_glob (v := .ref a) hg hm rfl hdb) pe_sem hs) (h.run σ H _ en w fun v y H1 M1 e1 w1 r1 hz => ?_)
  obtain ⟨z, d, rfl, hl, hz⟩ := hz
  cases r1
  obtain ⟨v, hv, rv⟩ := ((hr M1 _ H1).lookup z).2 d hl
  exact ⟨z, v, rfl, rfl, hv, (k.step e1).now w1 rv hz⟩
/-- x.get(e, f), x a written dict -/
theorem we_gget {ds : List (Str × D)} {Φ : D → Mp → Prop} (hm : X.mg x = some (.ref a)) (hw : WrD X.K X.w a kvs) (hr : ∀ M Z H, RepF X.K M Z H kvs ds) (h : WE X ρ M e fun y M1 => ∃ k, y = .str k ∧ WE X ρ M1 f fun z M2 => Φ ((ds.lookup k).getD z) M2) (hg : Gl X x := by rfl) (hdb : (x == ("__debug__" : Str)) = false := by decide)
    (m : M2 X (.Name x p) "get" apos e f pos := by exact ⟨rfl, rfl, rfl, rfl⟩) : WE X ρ M (.Call (.Attribute (.Name x p) "get" apos) [e, f] [] pos) Φ := .mk fun {Z} σ H Q en w k => by
  intro pins s I
  refine wpAny_Call_method m.base m.few m.line PySem.F.plainAttrs_dict PySem.F.slot_dict_get PySem.F.type_dict_get (ld_glob I hg hm ?_ hdb)
  obtain ⟨_, vs0, dd0, _⟩ := wrD_val hw X.prog I.kIn ""
  refine ⟨dd0.typeIs, dd0.mapOf.noDict, ?_⟩
  rw [m.trees]
  refine Calls.callWith_builtin rfl (Calls.evalArgs_plain (Calls.spliced_cons (thn (h.run σ H (fun v H1 => ∃ z, v = V.str z ∧ eSem X f σ H1 fun u H2 => ∀ v', (∃ y, kvs.lookup z = some y ∧ v' = y) ∨ (kvs.lookup z = none ∧ v' = u) → Q v' H2) en w (fun v y H1 M1 e1 w1 r1 hz => ?_) pins s I) fun iv s2 ⟨y, H2, I2, ry, q2⟩ => ?_)))
  · obtain ⟨z, rfl, hz⟩ := hz
    cases r1
    refine ⟨z, rfl, hz.run σ H1 _ (en.mono e1) w1 fun u d H2 M2 e2 w2 r2 hy v' hv' => ?_⟩
    have rf := (hr M2 Z H2).lookup z
    rcases hv' with ⟨y, hl, rfl⟩ | ⟨hl, rfl⟩
    · cases hd : ds.lookup z with
      | none => rw [rf.1 hd] at hl; cases hl
      | some d' =>
        obtain ⟨v2, hv2, rv2⟩ := rf.2 d' hd
        rw [hl] at hv2; cases hv2
        rw [hd] at hy
        exact (k.step (e1.trans e2)).now w2 rv2 hy
    · cases hd : ds.lookup z with
      | none => rw [hd] at hy; exact (k.step (e1.trans e2)).now w2 r2 hy
      | some d' =>
        obtain ⟨v2, hv2, rv2⟩ := rf.2 d' hd
        rw [hl] at hv2; cases hv2
  · obtain ⟨z, rfl, q2⟩ := q2
    obtain ⟨t, rfl⟩ := ry
    refine Calls.spliced_cons (thn (q2 pins s2 I2) fun fv s3 ⟨u, H3, I3, ru, q3⟩ => Calls.spliced_nil ?_)
    obtain ⟨hd, vs, dd, hv, hv0⟩ := wrD_val hw X.prog I3.kIn z
    refine call_meetsIn PySem.F.slot_dict_get dd.typeIs PySem.F.entry_dict_get (PySem.F.args_dict_get_3 _ _ _) (meets_dict_get_default (strKind X.prog X.w) a (strKind_is X.prog X.w z t) hd fv) ⟨_, dd.mapOf, ?_⟩
    cases hl : kvs.lookup z with
    | none =>
      have e0 := hv0 hl
      exact ⟨u, H3, I3.tok _, by rw [e0]; exact ru, q3 u (.inr ⟨hl, rfl⟩)⟩
    | some y =>
      obtain ⟨u0, hu, ru0⟩ := hv y hl
      exact ⟨y, H3, I3.tok _, by rw [hu]; exact ru0, q3 y (.inl ⟨y, hl, rfl⟩)⟩
end
end DL
/-! DL9: what else the plans need: set of nothing, sorted; displays of dicts; repr of truths; ~ by an own method; membership; parallel assignments; fields as targets. -/
namespace DL
open PySem PySem.Spec PyProof.Rows L2
section
variable {P : Program} {w : World} {A : Around} {E : Value → Shared → Prop} {s : Shared}
abbrev emptySet (w : World) : Obj := { cls := .type "set", dict := none, data := .set #[] 0 (.fresh 0 0 (!w.params.followText "set-order")) }
theorem newSet1 (a : Value) {Q1 : Value → Shared → Prop} (h : Q1 (.ref s.heap.objs.size) { s with heap := s.heap.push (emptySet w) }) : codeAny (model P w) A (.call (.builtin "set.__new__") ⟨[.type "set", a], []⟩) (wants Q1 E) s := by
  refine codeAny_of_tree (show wpAny _ A.in1 (do checkBuiltinCall "set.__new__" ⟨[.type "set", a], []⟩; again (.builtin "set.__new__" ⟨[.type "set", a], []⟩)) _ _ s from ?_)
  refine wpAny_bind (wpAny_of_eq (PySem.F.newCall_set_1 a) (wpAny_pure ⟨plainId_quiet F.plain_set_new _, codeAny_builtin F.entry_set_new ?_⟩))
  rw [Around.under_plainId F.plain_set_new _]; unfold Builtin.«set.__new__» Builtin.Frozenset.newClass
  have q0 := sub_set_self
  obtain ⟨hp, gg, dd, tt, oo⟩ := s
  dsimp only; wp_walk
  refine wpAny_askSetting (wpAny_pure ?_)
  dsimp only; simp only [newObj]
  exact wpAny_bind (wpAny_alloc (wpAny_pure (wpAny_pure h)))
set_option maxHeartbeats 3200000 in
theorem setOfNone {l : Addr} {Q : Value → Shared → Prop} (hh : A.handled = none) (hl : s.heap.IsList l #[])
    (h : ∀ (h' : Heap) (tk : Nat), SetR w h' s.heap.objs.size (fun _ => false) 0 → (∀ b o, b < s.heap.objs.size → s.heap.get? b = some o → h'.get? b = some o) → Q (.ref s.heap.objs.size) { s with heap := h', toks := tk }) :
    wpAny (model P w) A (call (.type "set") [.ref l]) Q E s := by
  obtain ⟨c0, t0, m0⟩ := F.called_set.mro
  have m1 := F.called_set.made
  have m2 := F.called_set.sub
  refine wpAny_call (codeAny_of_tree (show wpAny _ _ (callAny (.type "set") _) _ _ _ from ?_))
  refine wpAny_pure ⟨Code.quiet_builtin _ (by decide +kernel), codeAny_builtin F.entry_type_call ?_⟩
  rw [Around.under_plain (weight_type_call_type "set" [.ref l] []) rfl]
  have m3 := F.called_set.notType
  have m4 := F.called_set.canCreate
  have m5 := PySem.F.typeCall_set_1 (.ref l)
  repeat (any_goals (first | assumption | wp_step))
  refine codeAny_mono (newSet1 (.ref l) (E := E) (Q1 := fun obj s1 => obj = .ref s.heap.objs.size ∧ s1 = { s with heap := s.heap.push (emptySet w) }) ⟨rfl, rfl⟩) fun r s1 hr => ?_
  cases r with
  | error e => exact hr
  | ok fl =>
    cases fl with
    | ret obj =>
      obtain ⟨rfl, rfl⟩ := hr
      have hS : (s.heap.push (emptySet w)).get? s.heap.objs.size = some (emptySet w) := Heap.get?_push_size _ rfl
      have hT : Shared.TypeIs { s with heap := s.heap.push (emptySet w) } (.ref s.heap.objs.size) "set" := ⟨_, hS, rfl⟩
      have i1 := F.called_set.init.lookup
      have i2 := F.called_set.init.bind (.ref s.heap.objs.size)
      repeat (any_goals (first | assumption | wp_step))
      refine codeAny_mono (codeAny_call_builtin (R := wants (fun r s2 => r = .none ∧ ∃ h' tk, s2 = { s with heap := h', toks := tk } ∧ SetR w h' s.heap.objs.size (fun _ => false) 0 ∧
          (∀ b o, b < s.heap.objs.size → s.heap.get? b = some o → h'.get? b = some o)) E) F.called_set.init.plain F.entry_set_init (PySem.check_set_init_1 hT ?_)) fun r2 s2 hr2 => ?_
      · obtain ⟨ol, hol, hcl, nl, hdl⟩ := hl
        obtain ⟨ocls, odict, odata, oslots⟩ := ol
        simp only at hcl hdl
        subst hcl hdl
        have hol' : (s.heap.push (emptySet w)).get? l = some { cls := .type "list", dict := odict, data := .seq #[] nl, slots := oslots } := Heap.get?_push_of_some _ hol
        have j1 := PySem.F.sub_list_set
        have j2 := PySem.F.sub_list_frozenset
        have j3 : (Value.type "list" == Value.type "dict") = false := by decide
        have hl1 : (s.heap.push (emptySet w)).IsList l #[] := ⟨_, hol', rfl, nl, rfl⟩
        unfold Builtin.«set.__init__» noKeywords Builtin.Frozenset.updateFrom
        generalize hPI : pyIter = PI
        wp_walk
        subst hPI
        refine wpAny_pyIter_list hl1 (wpAny_bind (wpAny_runValue ?_))
        refine codeAny_builtin PyProof.Rows.F.entry_set_update_loop ?_
        rw [Around.under_plainId PyProof.Rows.F.plain_set_update_loop _]
        have hlS : l < s.heap.objs.size := Heap.lt_size hol
        refine wpAny_bind (m := pyNext _) (wpAny_pyNext_list_end (i := 0) (items := #[]) (by simp [hh]) ⟨_, Heap.get?_push_size _ rfl, rfl, rfl⟩ (hl1.push _) (by simp) fun h' he => ?_)
        refine wpAny_pure ?_
        show wpAny _ _ _ _ _ _
        refine wpAny_pure (show wpAny _ _ (ret Value.none) _ _ _ from ?_)
        refine wpAny_pure ⟨rfl, h', _, rfl, (setR_fresh w).at fun o q => ?_, fun b o hb q => ?_⟩
        · exact he _ _ (by rw [Heap.size_push]; exact Nat.ne_of_lt (Nat.lt_succ_self _)) (Heap.get?_push_of_some _ q)
        · exact he _ _ (by rw [Heap.size_push]; exact Nat.ne_of_lt (Nat.lt_succ_of_lt hb)) (Heap.get?_push_of_some _ (Heap.get?_push_of_some _ q))
      · cases r2 with
        | error e => exact hr2
        | ok fl2 =>
          cases fl2 with
          | ret r =>
            obtain ⟨rfl, h', tk, rfl, hS', hk'⟩ := hr2
            repeat (any_goals (first | assumption | wp_step))
            exact h _ _ hS' hk'
          | _ => exact hr2.elim
    | _ => exact hr.elim
end
end DL
/-! DL10: sorted(set(nothing)); displays of dicts; repr of truths; ~ by an own method; membership; parallel assignments; fields as targets; a search from a place. -/
namespace DL
open PySem PySem.Spec PyProof.Rows L2
section
variable {X : Cx} {ρ : Rho} {M : Mp} {Φ : D → Mp → Prop} {Θ : Bool → Mp → Prop} {a b e o : Expr} {es : List Expr} {pos p apos : Pos} {x : Str}

/-! ### sorted(set(e)), e an empty list -/
theorem cr_setNone (hc : X.calm = true) : CallR X (.type "set") (fun xs H Q => ∃ q, xs = [V.ref q] ∧ SqL X.K H q [] ∧ ∀ p, H p = none → Q (.ref p) (upd H p (SetO X.w p (fun _ => false) 0))) := by
  intro pins s σ H xs us Q I r h
  obtain ⟨q, rfl, hq, k⟩ := h
  rw [Vals.ref1 r]
  obtain ⟨its, rv, pl, hz⟩ := I.list hq
  cases rv
  refine setOfNone (I.ok.hd hc) pl.isList fun h' tk R kp => ?_
  exact ⟨.ref _, upd H s.heap.objs.size (SetO X.w s.heap.objs.size (fun _ => false) 0), I.laid (t' := tk) (fun b u e => kp b u (Heap.lt_size e) e) (Nat.le_refl _) (setO_new R), rfl, k _ (I.hok.fresh (Nat.le_refl _))⟩
theorem we_sortedNone (hm : X.mg "sorted" = none) (hm2 : X.mg "set" = none) (h : WE X ρ M e fun d M1 => LstOf M1 d [] ∧ Φ (.lst []) M1) (hc : X.calm = true := by rfl) (hg : Gl X "sorted" := by rfl) (hg2 : Gl X "set" := by rfl)
    (he : starEach [.Call (.Name "set" p) [e] [] apos] X.env = (false, eval (.Call (.Name "set" p) [e] [] apos) X.env) :: starEach [] X.env := by rfl) (hpl : (backTo pos (starEach [] X.env)).any (·.1) = false := by rfl)
    (he2 : starEach [e] X.env = (false, eval e X.env) :: starEach [] X.env := by rfl) (hpl2 : (backTo apos (starEach [] X.env)).any (·.1) = false := by rfl) {p2 : Pos} : WE X ρ M (.Call (.Name "sorted" p2) [.Call (.Name "set" p) [e] [] apos] [] pos) Φ := .mk fun σ H Q en w k => by
  have p1 := pe_callTy (cr_setNone hc) hg2 hm2 (by decide +kernel) (pa_sem (es := [e])) (by decide) (by decide) he2 hpl2 (p := p)
  refine eOf (pe_callB (cr_sortedSet hc) hg hm (by decide +kernel) (pa_cons p1 pa_nil he) (by decide) (by decide) he hpl) ?_
  refine (wa_cons (ΦA := fun ds M1 => ∃ d, ds = [d] ∧ LstOf M1 d [] ∧ Φ (.lst []) M1) (h.imp fun d M1 h => wa_nil ⟨d, rfl, h⟩) he2).run σ H _ en w fun vs ds H1 M1 e1 w1 r1 hz => ?_
  obtain ⟨d, rfl, hl, hz⟩ := hz
  obtain ⟨v, rfl, r⟩ := r1.one
  obtain ⟨q, vs, rfl, hq, rs⟩ := r.asLst w1 hl
  cases rs
  refine ⟨q, rfl, hq, fun t ht => ⟨t, fun _ => false, 0, rfl, upd_same, by decide, fun ns p2 h1 h2 h3 hp => ?_⟩⟩
  have e0 : ns = [] := List.length_eq_zero_iff.mp h3
  subst e0
  have x1 : Ext M1 _ H1 M1 (upd H1 t (SetO X.w t (fun _ => false) 0)) := Ext.new w1 ht
  have w2 := w1.new (o := SetO X.w t (fun _ => false) 0) ht
  exact (k.step (e1.trans x1)).new w2 hp (.lst upd_same (w2.fresh hp) .nil) hz

/-! ### str(text) -/
theorem we_strS (hm : X.mg "str" = none) (h : WE X ρ M e fun d M1 => ∃ z, d = .str z ∧ Φ (.str z) M1) (hg : Gl X "str" := by rfl)
    (he : starEach [e] X.env = (false, eval e X.env) :: starEach [] X.env := by rfl) (hpl : (backTo pos (starEach [] X.env)).any (·.1) = false := by rfl) : WE X ρ M (.Call (.Name "str" p) [e] [] pos) Φ :=
  we_callTy SkE.call_str_str hm (by decide +kernel) (wa_cons (h.imp fun d M1 h => wa_nil fun Z vs H Q w rr k => by
    obtain ⟨v, rfl, r⟩ := rr.one
    obtain ⟨z, rfl, h⟩ := h
    cases r
    exact ⟨z, rfl, k.now w (.str _) h⟩) he) hg (he := he) (hpl := hpl)

/-! ### repr of a truth -/
def boolText (c : Bool) : Str := if c then "True" else "False"
theorem cr_reprB : CallR X (.builtin "repr") (fun xs H Q => ∃ c, xs = [V.bl c] ∧ Q (.str (boolText c)) H) := by
  intro pins s σ H xs us Q I r h
  obtain ⟨c, rfl, q⟩ := h
  obtain ⟨u, rfl, ru⟩ := vals1 r
  cases ru
  exact PySem.P.repr_of_bool ⟨.str _, H, I.tok _, ⟨_, rfl⟩, q⟩
theorem we_reprB (hm : X.mg "repr" = none) (h : WE X ρ M e fun d M1 => ∃ c, d = .bl c ∧ Φ (.str (boolText c)) M1) (hg : Gl X "repr" := by rfl)
    (he : starEach [e] X.env = (false, eval e X.env) :: starEach [] X.env := by rfl) (hpl : (backTo pos (starEach [] X.env)).any (·.1) = false := by rfl) : WE X ρ M (.Call (.Name "repr" p) [e] [] pos) Φ :=
  we_callB cr_reprB hm (by decide +kernel) (wa_cons (h.imp fun d M1 h => wa_nil fun Z vs H Q w rr k => by
    obtain ⟨v, rfl, r⟩ := rr.one
    obtain ⟨z, rfl, h⟩ := h
    cases r
    exact ⟨z, rfl, k.now w (.str _) h⟩) he) hg (he := he) (hpl := hpl)
theorem boolText_inj {c d : Bool} : decide (boolText c = boolText d) = decide (c = d) := by
  cases c <;> cases d <;> decide

/-! ### {k: v, k2: v2}[e], texts -/
theorem we_disp2 {k1 k2 v1 v2 : Str} {j1 j2 j3 j4 : Nat} {q1 q2 q3 q4 dp : Pos} (hu : X.A.units + 1 < cLine) (hne : k1 ≠ k2) (h : WE X ρ M e fun d M1 => ∃ k v, d = .str k ∧ [(k1, v1), (k2, v2)].lookup k = some v ∧ Φ (.str v) M1) (hs : NoSl e := by exact fun _ _ => rfl) :
    WE X ρ M (.Subscript (.Dict [some (.Constant (.str k1) j1 q1), some (.Constant (.str k2) j2 q2)] [.Constant (.str v1) j3 q3, .Constant (.str v2) j4 q4] dp) e pos) Φ := .mk fun σ H Q en w k => by
  refine eOf (pe_dget hu (pe_disp (pps_cons pe_str pe_str (pps_cons pe_str pe_str pps_nil)) rfl rfl (by simp) (by simp)) pe_sem hs) ?_
  intro t ht
  refine ⟨upd_same, [(.inr k1, .str v1), (.inr k2, .str v2)], rfl, by simp, ?_⟩
  have x1 : Ext M _ H M (upd H t (.dK [])) := Ext.new w ht
  have e2 : upd (upd H t (.dK [])) t (.dK (mergeK [] [(.inr k1, .str v1), (.inr k2, .str v2)])) = upd H t (.dK [(.inr k1, .str v1), (.inr k2, .str v2)]) := by
    have : mergeK [] [((.inr k1 : Key), V.str v1), (.inr k2, .str v2)] = [(.inr k1, .str v1), (.inr k2, .str v2)] := by
      simp [mergeK, putK, hne]
    rw [this]
    funext b; unfold upd; split <;> rfl
  rw [e2]
  have x2 : Ext M _ H M (upd H t (.dK [(.inr k1, .str v1), (.inr k2, .str v2)])) := Ext.new w ht
  refine h.run σ _ _ (en.mono x2) (w.new ht) fun v d H1 M1 e1 w1 r1 hz => ?_
  obtain ⟨z, y, rfl, hl, hz⟩ := hz
  cases r1
  have hd := (e1.1 t _ upd_same (w.fresh ht)).1
  refine ⟨t, .str y, rfl, ?_, (k.step (x2.trans e1)).now w1 (.str _) hz⟩
  have g := DGet.k (k := .inr z) hd
  have ev : valV [((.inr k1 : Key), V.str v1), (.inr k2, .str v2)] (.inr z) = some (.str y) := by
    unfold valV
    rw [List.lookup_cons] at hl
    by_cases c1 : z = k1
    · subst c1
      simp at hl
      subst hl
      simp
    · have c2 : (z == k1) = false := by simpa using c1
      rw [c2] at hl
      have c3 : ¬ k1 = z := fun q => c1 q.symm
      by_cases c4 : z = k2
      · subst c4
        simp [List.lookup_cons] at hl
        subst hl
        simp [c3]
      · have c5 : (z == k2) = false := by simpa using c4
        simp [List.lookup_cons, c5] at hl
  rw [ev] at g
  exact g

/-! ### ~o by an own method -/
theorem we_inv {C : Addr} {k : Nat} {c : Con} (F : Mc X.prog X.w X.K X.mg X.base C "__invert__" [] k 1 c) (hr : Room k X.A) (h : WE X ρ M o fun d M1 => ∃ fs, InsOf M1 C d fs ∧ c [d] M1 Φ) : WE X ρ M (.UnaryOp .Invert o pos) Φ :=
  .mk fun {Z} σ H Q en w k => by
  obtain ⟨f, fd, ps, dvs, ds, F', hm, hbd, hd, hdd⟩ := F.ex
  have u : UnR X (unaryOp .Invert) (fun v H Q => ∃ q C' dx fs, v = V.ref q ∧ C' = C ∧ H q = some (.ins C' dx fs) ∧ spD X.K 1 c (v :: dvs) H Q E0) := by
    intro pins s σ H x v Q I rx hq
    obtain ⟨q, C', dx, fs, rfl, rfl, ha, hq⟩ := hq
    cases rx
    obtain ⟨mA, O, _⟩ := ins_get I.hok ha
    obtain ⟨od, J, _⟩ := O.look
    unfold unaryOp
    refine wpAny_holding (wpAny_bind (PySem.W.special_fn I.kIn J hm.at_ (beq_iff_eq.mp hm.fn) ?_))
    refine wpAny_mono (run_fn F' hr hbd hd pass0 I (vs := [.ref q]) (.cons rfl .nil) hq) (fun _ _ z => wpAny_pure z) fun _ _ z => z
  refine eOf (pe_un u pe_sem) (h.run σ H _ en w fun v d H1 M1 e1 w1 r1 hz => ?_)
  obtain ⟨fs, hi, hz⟩ := hz
  obtain ⟨a, dx, vs, rfl, ha, rf⟩ := r1.asIns w1 hi
  have r0 : Reps X.K M1 Z H1 dvs [] := hdd _ _ _
  cases r0
  exact ⟨a, C, dx, vs, rfl, rfl, ha, [d], M1, _, Φ, rfl, .cons r1 .nil, w1, hz, k.step e1⟩

/-! ### x in a tuple, a list of texts -/
theorem inV_strs (z : Str) : ∀ zs : List Str, inV (.str z) (zs.map V.str) = decide (z ∈ zs)
  | [] => rfl
  | y :: zs => by
    have ih := inV_strs z zs
    unfold inV at ih ⊢
    rw [List.map_cons, List.any_cons, ih]
    show (decide (y = z) || _) = _
    by_cases h : y = z
    · subst h; simp
    · have h' : ¬ z = y := fun q => h q.symm
      simp [h, h']
theorem flat_strs (zs : List Str) : (zs.map V.str).all flatV = true := by
  rw [List.all_map]; exact List.all_eq_true.mpr fun _ _ => rfl
theorem rd_inS {x y : D} (h : ∃ (z : Str) (zs : List Str), x = .str z ∧ (y = .tup (zs.map D.str) ∨ LstOf M y (zs.map D.str)) ∧ Φ (.bl (decide (z ∈ zs))) M) : RD X.K (rIn X.K false) x y M Φ := fun Z v u H Q w r1 r2 k => by
  obtain ⟨z, zs, rfl, hy, h⟩ := h
  cases r1
  rcases hy with rfl | hy
  · obtain ⟨q, vs, rfl, hq, rs⟩ := r2.asTup
    rw [rs.strs] at hq
    exact ⟨q, _, rfl, .inr hq, rfl, flat_strs zs, by rw [inV_strs]; exact k.now w (.bl _) h⟩
  · obtain ⟨q, vs, rfl, hq, rs⟩ := r2.asLst w hy
    rw [rs.strs] at hq
    exact ⟨q, _, rfl, .inl hq, rfl, flat_strs zs, by rw [inV_strs]; exact k.now w (.bl _) h⟩
theorem we_inS (h : WE X ρ M a fun x M1 => WE X ρ M1 b fun y M2 => ∃ (z : Str) (zs : List Str), x = .str z ∧ (y = .tup (zs.map D.str) ∨ LstOf M2 y (zs.map D.str)) ∧ Φ (.bl (decide (z ∈ zs))) M2) (hm : behindInMarks .In b = false := by rfl) : WE X ρ M (.Compare a [.In] [b] pos) Φ :=
  we_cmp op_in_seq hm (h.imp fun _ _ h => h.imp fun _ _ h => rd_inS h)
theorem wt_inS (h : WE X ρ M a fun x M1 => WE X ρ M1 b fun y M2 => ∃ (z : Str) (zs : List Str), x = .str z ∧ (y = .tup (zs.map D.str) ∨ LstOf M2 y (zs.map D.str)) ∧ Θ (decide (z ∈ zs)) M2) (hm : behindInMarks .In b = false := by rfl) : WT X ρ M (.Compare a [.In] [b] pos) Θ :=
  wt_cmp op_in_seq hm (h.imp fun _ _ h => h.imp fun _ _ ⟨z, zs, e1, e2, h⟩ => rd_inS ⟨z, zs, e1, e2, _, rfl, h⟩)
/-- a written tuple of texts -/
theorem we_txts {e1 e2 : Str} {j1 j2 k1 : Nat} {q1 q2 : Pos} (h : Φ (.tup ([e1, e2].map D.str)) M) (hs : starEach [.Constant (.str e1) j1 q1, .Constant (.str e2) j2 q2] X.env = (false, eval (.Constant (.str e1) j1 q1) X.env) :: starEach [.Constant (.str e2) j2 q2] X.env := by rfl) (hs2 : starEach [.Constant (.str e2) j2 q2] X.env = (false, eval (.Constant (.str e2) j2 q2) X.env) :: starEach [] X.env := by rfl) :
    WE X ρ M (.Tuple [.Constant (.str e1) j1 q1, .Constant (.str e2) j2 q2] k1 pos) Φ :=
  we_tup (wa_cons (we_str (wa_cons (we_str (wa_nil ⟨by show 2 ≤ sizeLine; decide, h⟩)) hs2)) hs)

/-! ### a ** b of great numbers -/
theorem we_powW (h : WE X ρ M a fun x M1 => WE X ρ M1 b fun y M2 => ∃ i j, x = .int i ∧ y = .int j ∧ (0 ≤ j ∧ (Builtin.Int.intBits i : Int) * j ≤ 2 ^ 27) ∧ Φ (.int (i ^ j.toNat)) M2) : WE X ρ M (.BinOp a .Pow b pos) Φ :=
  we_op (r := rI (fun i j => 0 ≤ j ∧ (Builtin.Int.intBits i : Int) * j ≤ 2 ^ 27) fun i j => .int (i ^ j.toNat)) (opI fun _ _ _ _ _ _ _ hc q => pow_int hc.1 hc.2 q) (h.imp fun _ _ h => h.imp fun _ _ h => rd_I h)

/-! ### text.startswith(sign, at) -/
theorem we_startsAt {f : Expr} (h : WE X ρ M o fun d M1 => ∃ z, d = .str z ∧ WE X ρ M1 e fun y M2 => WE X ρ M2 f fun u M3 => ∃ s i, y = .str s ∧ u = .int i ∧ Φ (.bl (Txt.startswith3 z s i)) M3)
    (hbase : attributeBase o "startswith" X.env (eval o X.env) = eval o X.env := by rfl) (hline : (apos.endLine == pos.line) = true := by rfl)
    (hfew : ((backTo pos (starEach [e, f] X.env)).all (fun x => !x.1) && (backToKw pos (keywordEach [] X.env)).all (fun x => x.1.isSome) && decide ([e, f].length + ([] : List Keyword).length + (if ([] : List Keyword).isEmpty then 0 else 1) < 30)) = true := by rfl)
    (hs : starEach [e, f] X.env = (false, eval e X.env) :: starEach [f] X.env := by rfl) (hs2 : starEach [f] X.env = (false, eval f X.env) :: starEach [] X.env := by rfl) (hpl : (backTo pos (starEach [f] X.env)).any (·.1) = false := by rfl) : WE X ρ M (.Call (.Attribute o "startswith" apos) [e, f] [] pos) Φ := .mk fun σ H Q en w k => by
  refine eOf (pe_bm F.plainAttrs_str F.slot_str_startswith F.type_str_startswith mt_startswith3 pe_sem (pa_sem (es := [e, f])) hbase hfew hline hs hpl) (h.run σ H _ en w fun v d H1 M1 e1 w1 r1 hz => ?_)
  obtain ⟨z, rfl, hz⟩ := hz
  cases r1
  refine ⟨rfl, (wa_cons (ΦA := fun ds M3 => ∃ s i, ds = [.str s, .int i] ∧ Φ (.bl (Txt.startswith3 z s i)) M3) (hz.imp fun y M2 hy => wa_cons (hy.imp fun u M3 hu => wa_nil ?_) hs2) hs).run σ H1 _ (en.mono e1) w1 fun vs ds H2 M2 e2 w2 r2 hx => ?_⟩
  · obtain ⟨s, i, rfl, rfl, hu⟩ := hu
    exact ⟨s, i, rfl, hu⟩
  · obtain ⟨s, i, rfl, hx⟩ := hx
    obtain ⟨v1, v2, rfl, r3, r4⟩ := r2.two
    cases r3; cases r4
    exact ⟨z, s, i, rfl, rfl, (k.step (e1.trans e2)).now w2 (.bl _) hx⟩

/-! ### a, b, c = x, y, z -/
variable {Ψ : DE}
theorem ws_par3 (i j l : Nat) {x y z : Str} {c : Expr} {px py pz pt pt2 : Pos} {kt k2 : Nat} (hN : X.N.Nodup) (h : WA X ρ M [a, b, c] fun ds M1 => ∃ d1 d2 d3, ds = [d1, d2, d3] ∧ Ψ.nx (((ρ.set i (some d1)).set j (some d2)).set l (some d3)) M1)
    (hi : X.N[i]? = some x := by rfl) (hj : X.N[j]? = some y := by rfl) (hl : X.N[l]? = some z := by rfl) (hij : i ≠ j := by decide) (hil : i ≠ l := by decide) (hjl : j ≠ l := by decide)
    (hx : X.env.scope.names.lookup x = some .local := by rfl) (hy : X.env.scope.names.lookup y = some .local := by rfl) (hz : X.env.scope.names.lookup z = some .local := by rfl)
    (hw : swappedStores [.Tuple [.Name x px, .Name y py, .Name z pz] kt pt] (.Tuple [a, b, c] k2 pt2) X.env = pure (some [x, y, z]) := by rfl) (hc : X.calm = true := by rfl)
    (hs : swapsWithSole [.Tuple [.Name x px, .Name y py, .Name z pz] kt pt] (.Tuple [a, b, c] k2 pt2) pos.line X.env = pure false := by rfl) : WS X ρ M (.Assign [.Tuple [.Name x px, .Name y py, .Name z pz] kt pt] (.Tuple [a, b, c] k2 pt2) pos) Ψ := .mk fun σ H E en w k =>
  sOf (ps_par3 hc hN hi hj hl hij hil hjl hx hy hz pa_sem hw hs) (h.run σ H _ en w fun vs ds H1 M1 e1 w1 r1 hq => by
    obtain ⟨d1, d2, d3, rfl, hq⟩ := hq
    obtain ⟨v1, v2, v3, rfl, q1, q2, q3⟩ := r1.three
    exact ⟨_, _, _, rfl, k.nx _ _ H1 M1 e1 w1 ((((en.mono e1).set q1 i).set q2 j).set q3 l) hq⟩)

/-! ### a field as a target -/
theorem wg_fld {f : Str} {C : Addr} {d : D} {Ω : Rho → Mp → Prop} (h : WE X ρ M o fun x M1 => ∃ q fs, x = .ob q ∧ M1 q = some (.ins C fs) ∧ Cls X.K C ∧ NoAttr X.K C f ∧ fs.length < 1000 ∧ Ω ρ (mset M1 q (.ins C (putD f d fs)))) : WG X (.Attribute o f pos) d ρ M Ω := .mk fun {Z} σ H v Q en w r k => by
  intro pins s u I ru
  refine PySem.W.kas_attr (thn (h.run σ H (fun x H2 => ∃ q C' dx fs, x = .ref q ∧ H2 q = some (.ins C' dx fs) ∧ Cls X.K C' ∧ NoAttr X.K C' f ∧ fs.length < 1000 ∧ Q σ (upd H2 q (.ins C' dx (putF f v fs)))) en w (fun x dx H1 M1 e1 w1 r1 hz => ?_) pins s I) fun ov s2 ⟨y, H2, I2, ry, q2⟩ => ?_)
  · obtain ⟨q, fs, rfl, hM, cl, na, hl, hz⟩ := hz
    cases r1
    obtain ⟨dx, vs, ha, rf⟩ := w1.1 q _ hM
    have x3 : Ext M1 _ H1 (mset M1 q (.ins C (putD f d fs))) (upd H1 q (.ins C dx (putF f v vs))) := Ext.put w1 hM
    exact ⟨q, C, dx, vs, rfl, ha, cl, na, by rw [rf.length]; exact hl, k σ ρ _ _ (e1.trans x3) (w1.put hM ⟨dx, _, upd_same, (rf.mono x3).put (r.mono (e1.trans x3))⟩) (en.mono (e1.trans x3)) hz⟩
  · obtain ⟨q, C', dx, fs, rfl, ha, cl, na, hl, hq⟩ := q2
    cases ry
    exact setattr_ok I2 ha cl na hl ru fun s3 I3 => ⟨σ, _, I3, hq⟩
end
end DL
/-! DL11: defs of the text, by their statements. -/
namespace DL
open PySem PySem.Spec PyProof.Rows L2
/-- the module's def x is the statement st; dvs: its defaults -/
structure Df (K : PySem.W.Frag) (mg : Str → Option Value) (x : Str) (st : Stmt) (dvs : List V) : Prop where
  ex : ∃ (f : Addr) (fd : FuncData), FunD K x x (defArgs st) (defBody st) (defScope st) dvs [] f fd ∧ mg x = some (.ref f)
section
variable {P : Program} {w : World} {K : PySem.W.Frag} {mg : Str → Option Value} {base : Heap} {x : Str} {st : Stmt} {N ps : List Str} {j k n : Nat} {c : Con} {dd : List D} {C : Addr} {m : Str}
theorem Fc.up (F : Fc P w K mg base x dd j n c) (h : j ≤ k) : Fc P w K mg base x dd k n c := by
  obtain ⟨f, fd, ps, dvs, ds, F, r⟩ := F.ex
  exact ⟨f, fd, ps, dvs, ds, F.mono h, r⟩
theorem Kc.up (F : Kc P w K mg base x C dd j n c) (h : j ≤ k) : Kc P w K mg base x C dd k n c := by
  obtain ⟨f, fd, ps, dvs, ds, G, r⟩ := F.ex
  exact ⟨F.at_, f, fd, ps, dvs, ds, G.mono h, r⟩
theorem Mc.up (F : Mc P w K mg base C m dd j n c) (h : j ≤ k) : Mc P w K mg base C m dd k n c := by
  obtain ⟨f, fd, ps, dvs, ds, G, r⟩ := F.ex
  exact ⟨F.cl, f, fd, ps, dvs, ds, G.mono h, r⟩
theorem Pc.up (F : Pc P w K mg base C m j c) (h : j ≤ k) : Pc P w K mg base C m k c := by
  obtain ⟨p, g, fd, ps, G, r⟩ := F.ex
  exact ⟨F.cl, p, g, fd, ps, G.mono h, r⟩
/-- a body keeps a contract -/
def BodyOk (P : Program) (w : World) (K : PySem.W.Frag) (mg : Str → Option Value) (base : Heap) (qual : Str) (st : Stmt) (N : List Str) (n k : Nat) (c : Con) : Prop :=
  ∀ (f : Addr) (cdv : Value) (A : Around) (outer : List Env) (s : Shared) (H : Hp) (E : XK), Room k (A.deeper (envOfC qual (defScope st) s.heap.objs.size f cdv)) → ∀ ds M Φ, ds.length = n → c ds M Φ →
      WSs (bx P w K mg base N qual (defScope st) f cdv A outer s H E) (start N ds) M (defBody st) { nx := fun _ M' => Φ .non M', rt := Lets Φ }
theorem Df.fc (D : Df K mg x st []) (S : FnScope N ps (defScope st))
    (hb : ∀ (kV doc pm : Value) (an : Option Addr) (cdv ct : Value) (us : List Value), us.length = ps.length → bindArgs (PySem.W.fnOf x x (defArgs st) (defBody st) (defScope st) .none kV doc pm an cdv ct) ⟨us, []⟩ = pure (ps.zip us))
    (h : BodyOk P w K mg base x st N ps.length k c) : Fc P w K mg base x [] (k + 1) ps.length c := by
  obtain ⟨f, fd, F, hm⟩ := D.ex
  exact ⟨f, fd, ps, [], [], fn_ok F S (h f), hm, F.kp, F.bindsN hb, .nil, fun _ _ _ => .nil⟩
/-- with defaults: n values are written, the defaults behind the first j fill up -/
theorem Df.fcD {dvs : List V} (D : Df K mg x st dvs) (S : FnScope N ps (defScope st)) (nn jj : Nat) (hd : dvs ≠ []) (hn : nn + (dvs.length - jj) = ps.length) (hr : ∀ M Z H, Reps K M Z H (dvs.drop jj) dd)
    (hb : ∀ (T : Addr) (kV doc pm : Value) (an : Option Addr) (cdv ct : Value) (us its : List Value), us.length = nn → its.length = dvs.length →
      ∃ k, bindArgs (PySem.W.fnOf x x (defArgs st) (defBody st) (defScope st) (.ref T) kV doc pm an cdv ct) ⟨us, []⟩ = seqItems? (.ref T) >>= k ∧ k (some its.toArray) = pure (ps.zip (us ++ its.drop jj)))
    (h : BodyOk P w K mg base x st N ps.length k c) : Fc P w K mg base x dd (k + 1) ps.length c := by
  obtain ⟨f, fd, F, hm⟩ := D.ex
  obtain ⟨ds, hv, hB⟩ := F.binds1 (ps := ps) nn jj hd hn hb
  exact ⟨f, fd, ps, dvs.drop jj, ds, fn_ok F S (h f), hm, F.kp, hB, hv, hr⟩
end
/-- the method m of the class C of the name x is the statement st -/
structure Md (K : PySem.W.Frag) (C : Addr) (m qual : Str) (st : Stmt) (f : Addr) : Prop where
  ex : ∃ fd : FuncData, FunD K m qual (defArgs st) (defBody st) (defScope st) [] [] f fd
section
variable {P : Program} {w : World} {K : PySem.W.Frag} {mg : Str → Option Value} {base : Heap} {x qual : Str} {st : Stmt} {N ps : List Str} {j k n : Nat} {c : Con} {dd : List D} {C : Addr} {m : Str} {f p : Addr}
theorem Md.mc (D : Md K C m qual st f) (cl : Cls K C) (me : Meth K C m f) (S : FnScope N ps (defScope st))
    (hb : ∀ (kV doc pm : Value) (an : Option Addr) (cdv ct : Value) (us : List Value), us.length = ps.length → bindArgs (PySem.W.fnOf m qual (defArgs st) (defBody st) (defScope st) .none kV doc pm an cdv ct) ⟨us, []⟩ = pure (ps.zip us))
    (h : BodyOk P w K mg base qual st N ps.length k c) : Mc P w K mg base C m [] (k + 1) ps.length c := by
  obtain ⟨fd, F⟩ := D.ex
  exact ⟨cl, f, fd, ps, [], [], fn_ok F S (h f), me, F.bindsN hb, .nil, fun _ _ _ => .nil⟩
theorem Md.pc (D : Md K C m qual st f) (cl : Cls K C) (me : PropOf K C m p f) (S : FnScope N ["self"] (defScope st))
    (hb : ∀ (kV doc pm : Value) (an : Option Addr) (cdv ct : Value) (us : List Value), us.length = 1 → bindArgs (PySem.W.fnOf m qual (defArgs st) (defBody st) (defScope st) .none kV doc pm an cdv ct) ⟨us, []⟩ = pure ((["self"] : List Str).zip us))
    (h : BodyOk P w K mg base qual st N 1 k c) : Pc P w K mg base C m (k + 1) c := by
  obtain ⟨fd, F⟩ := D.ex
  exact ⟨cl, p, f, fd, ["self"], fn_ok F S (h f), me, F.bindsN hb⟩
theorem Md.kc (D : Md K C "__init__" qual st f) (hm : mg x = some (.ref C)) (me : Mk K C f) (S : FnScope N ps (defScope st))
    (hb : ∀ (kV doc pm : Value) (an : Option Addr) (cdv ct : Value) (us : List Value), us.length = ps.length → bindArgs (PySem.W.fnOf "__init__" qual (defArgs st) (defBody st) (defScope st) .none kV doc pm an cdv ct) ⟨us, []⟩ = pure (ps.zip us))
    (h : BodyOk P w K mg base qual st N ps.length k c) : Kc P w K mg base x C [] (k + 1) ps.length c := by
  obtain ⟨fd, F⟩ := D.ex
  exact ⟨hm, f, fd, ps, [], [], fn_ok F S (h f), me, F.bindsN hb, .nil, fun _ _ _ => .nil⟩
end
end DL
/-! DL12: data that can be compared; comparing with nothing. -/
namespace DL
open PySem PySem.Spec PyProof.Rows L2
/-- d can be compared: it is p, k deep at most -/
structure CmpD (d : D) (p : PyData) (k : Nat) : Prop where
  eq : toPy d = some p
  lay : p.canLay0 = true
  dep : p.depth ≤ k
theorem CmpD.shaped {d : D} {p : PyData} {k : Nat} (h : CmpD d p k) (hk : k ≤ 64) : SeqAt.shaped p = true := by
  unfold SeqAt.shaped
  rw [h.lay, decide_eq_true (Nat.le_trans h.dep hk)]; rfl
theorem cmp_int (i : Int) : CmpD (.int i) (.int i) 0 := ⟨by simp [toPy], by simp [PyData.canLay0], by simp [PyData.depth]⟩
theorem cmp_bl (i : Bool) : CmpD (.bl i) (.bool i) 0 := ⟨by simp [toPy], by simp [PyData.canLay0], by simp [PyData.depth]⟩
theorem cmp_non : CmpD .non .none 0 := ⟨by simp [toPy], by simp [PyData.canLay0], by simp [PyData.depth]⟩
theorem cmp_str {x : Str} (h : ∀ c ∈ x.cps.toList, c < 0x110000) : CmpD (.str x) (.str x) 0 := ⟨by simp [toPy], by
  simp only [PyData.canLay0, PyData.strOk]
  rw [← Array.all_toList]
  exact List.all_eq_true.mpr fun c hc => decide_eq_true (h c hc), by simp [PyData.depth]⟩
/-- lists of such -/
structure CmpDs (ds : List D) (ps : List PyData) (k : Nat) : Prop where
  eq : toPys ds = some ps
  lay : PyData.canLayAll0 ps = true
  dep : PyData.depthAll ps ≤ k
theorem cmps_nil {k : Nat} : CmpDs [] [] k := ⟨by simp [toPys], by simp [PyData.canLayAll0], by simp [PyData.depthAll]⟩
theorem cmps_cons {d : D} {p : PyData} {ds : List D} {ps : List PyData} {k j : Nat} (h : CmpD d p j) (hj : j ≤ k) (t : CmpDs ds ps k) : CmpDs (d :: ds) (p :: ps) k := ⟨by
  simp only [toPys, h.eq, t.eq]; rfl, by simp only [PyData.canLayAll0, h.lay, t.lay]; rfl, by
  simp only [PyData.depthAll]; have := h.dep; have := t.dep; omega⟩
theorem cmps_map {α : Type} {f : α → D} {g : α → PyData} {k j : Nat} (hj : j ≤ k) : ∀ {xs : List α}, (∀ x ∈ xs, CmpD (f x) (g x) j) → CmpDs (xs.map f) (xs.map g) k
  | [], _ => cmps_nil
  | x :: xs, h => cmps_cons (h x List.mem_cons_self) hj (cmps_map hj fun y hy => h y (List.mem_cons_of_mem _ hy))
theorem cmp_lst {ds : List D} {ps : List PyData} {k : Nat} (h : CmpDs ds ps k) : CmpD (.lst ds) (.list ps) (k + 1) := ⟨by simp only [toPy, h.eq]; rfl, by simp only [PyData.canLay0, h.lay], by simp only [PyData.depth]; have := h.dep; omega⟩
theorem cmp_tup {ds : List D} {ps : List PyData} {k : Nat} (h : CmpDs ds ps k) : CmpD (.tup ds) (.tuple ps) (k + 1) := ⟨by simp only [toPy, h.eq]; rfl, by simp only [PyData.canLay0, h.lay], by simp only [PyData.depth]; have := h.dep; omega⟩
theorem CmpDs.length {k : Nat} : ∀ {ds : List D} {ps : List PyData}, CmpDs ds ps k → ps.length = ds.length
  | [], ps, h => by
    have := h.eq
    simp only [toPys, Option.some.injEq] at this
    rw [← this]; rfl
  | d :: ds, ps, h => by
    have := h.eq
    simp only [toPys] at this
    obtain ⟨p, e1, e2⟩ := Option.bind_eq_some_iff.mp this
    obtain ⟨qs, e3, rfl⟩ := Option.map_eq_some_iff.mp e2
    have l := h.lay
    have dd := h.dep
    simp only [PyData.canLayAll0, Bool.and_eq_true, PyData.depthAll] at l dd
    rw [List.length_cons, List.length_cons, CmpDs.length (k := k) ⟨e3, l.2, by omega⟩]
theorem eqv_nilL (ps : List PyData) : PyData.eqv (.list ps) (.list []) = ps.isEmpty := by
  cases ps <;> simp [PyData.eqv, PyData.eqvAll]
theorem eqv_nilT (ps : List PyData) : PyData.eqv (.tuple ps) (.tuple []) = ps.isEmpty := by
  cases ps <;> simp [PyData.eqv, PyData.eqvAll]
section
variable {X : Cx} {ρ : Rho} {M : Mp} {Φ : D → Mp → Prop} {Θ : Bool → Mp → Prop} {a b : Expr} {pos : Pos}
theorem shaped_nilL : SeqAt.shaped (.list []) = true := by decide +kernel
theorem shaped_nilT : SeqAt.shaped (.tuple []) = true := by decide +kernel
theorem isEmpty_len {α β : Type} {xs : List α} {ys : List β} (h : xs.length = ys.length) : xs.isEmpty = ys.isEmpty := by
  cases xs <;> cases ys <;> simp_all
/-- x != [] -/
theorem wt_neNil {lp : Pos} (hu : X.A.units + 64 < cLine) (h : WE X ρ M a fun x M1 => ∃ xs ps k, x = .lst xs ∧ CmpDs xs ps k ∧ k ≤ 60 ∧ Θ (!xs.isEmpty) M1) : WT X ρ M (.Compare a [.NotEq] [.List [] lp] pos) Θ :=
  wt_neD hu (h.imp fun x M1 ⟨xs, ps, k, e, c, hk, h⟩ => we_lst (wa_nil ⟨Nat.zero_le _, _, _, by rw [e]; exact (cmp_lst c).eq, by simp [toPy, toPys], (cmp_lst c).shaped (by omega), shaped_nilL, by rw [eqv_nilL, isEmpty_len c.length]; exact h⟩))
/-- x != () -/
theorem wt_neNilT {lp : Pos} {kk : Nat} (hu : X.A.units + 64 < cLine) (h : WE X ρ M a fun x M1 => ∃ xs ps k, x = .tup xs ∧ CmpDs xs ps k ∧ k ≤ 60 ∧ Θ (!xs.isEmpty) M1) : WT X ρ M (.Compare a [.NotEq] [.Tuple [] kk lp] pos) Θ :=
  wt_neD hu (h.imp fun x M1 ⟨xs, ps, k, e, c, hk, h⟩ => we_tup (wa_nil ⟨Nat.zero_le _, _, _, by rw [e]; exact (cmp_tup c).eq, by simp [toPy, toPys], (cmp_tup c).shaped (by omega), shaped_nilT, by rw [eqv_nilT, isEmpty_len c.length]; exact h⟩))
theorem wt_eqNilT {lp : Pos} {kk : Nat} (hu : X.A.units + 64 < cLine) (h : WE X ρ M a fun x M1 => ∃ xs ps k, x = .tup xs ∧ CmpDs xs ps k ∧ k ≤ 60 ∧ Θ (xs.isEmpty) M1) : WT X ρ M (.Compare a [.Eq] [.Tuple [] kk lp] pos) Θ :=
  wt_eqD hu (h.imp fun x M1 ⟨xs, ps, k, e, c, hk, h⟩ => we_tup (wa_nil ⟨Nat.zero_le _, _, _, by rw [e]; exact (cmp_tup c).eq, by simp [toPy, toPys], (cmp_tup c).shaped (by omega), shaped_nilT, by rw [eqv_nilT, isEmpty_len c.length]; exact h⟩))
end
end DL
/-! DL13: defs that may show data (repr): they are called where no other showing goes on. -/
namespace DL
open PySem PySem.Spec PyProof.Rows L2
/-- as FnOk, where nothing is being shown -/
structure FnG (P : Program) (w : World) (K : PySem.W.Frag) (mg : Str → Option Value) (base : Heap) (k : Nat) (f : Addr) (fd : FuncData) (ps : List Str) (sp : Sp) : Prop where
  len : ∀ vs H Q E, sp vs H Q E → vs.length = ps.length
  run : ∀ (A : Around) (outer : List Env) (s : Shared) (H : Hp) (args : Args) (us : List Value) (vs : List V) (Q : VK) (E : XK), A.guards = some [] → Room k A → Env0 P w K mg base A outer s H → BindsTo s fd args (ps.zip us) → Vals vs us → sp vs H Q E →
    codeAny (model P w) A (.call (.ref f) args) (CR CX0 outer P w H s Q E) s
section
variable {P : Program} {w : World} {K : PySem.W.Frag} {mg : Str → Option Value} {base : Heap} {x qual : Str} {st : Stmt} {kws : List (Str × V)} {f : Addr} {fd : FuncData} {N ps : List Str} {k n : Nat} {c : Con}
theorem FnOk.g {sp : Sp} (F : FnOk P w K mg base CX0 k f fd ps sp) : FnG P w K mg base k f fd ps sp := ⟨F.len, fun A outer s H args us vs Q E _ => F.run A outer s H args us vs Q E⟩
theorem FnG.mono {j : Nat} {sp : Sp} (F : FnG P w K mg base j f fd ps sp) (h : j ≤ k) : FnG P w K mg base k f fd ps sp := ⟨F.len, fun A outer s H args us vs Q E hg hr => F.run A outer s H args us vs Q E hg (hr.mono h)⟩
/-- a body keeps a contract where nothing is being shown -/
def BodyG (P : Program) (w : World) (K : PySem.W.Frag) (mg : Str → Option Value) (base : Heap) (qual : Str) (st : Stmt) (N : List Str) (n k : Nat) (c : Con) : Prop :=
  ∀ (f : Addr) (cdv : Value) (A : Around) (outer : List Env) (s : Shared) (H : Hp) (E : XK), (A.deeper (envOfC qual (defScope st) s.heap.objs.size f cdv)).guards = some [] → Room k (A.deeper (envOfC qual (defScope st) s.heap.objs.size f cdv)) → ∀ ds M Φ, ds.length = n → c ds M Φ →
      WSs (bx P w K mg base N qual (defScope st) f cdv A outer s H E) (start N ds) M (defBody st) { nx := fun _ M' => Φ .non M', rt := Lets Φ }
theorem fnG_ok {dvs : List V} (F : FunD K x qual (defArgs st) (defBody st) (defScope st) dvs kws f fd) (S : FnScope N ps (defScope st)) (h : BodyG P w K mg base qual st N ps.length k c) : FnG P w K mg base (k + 1) f fd ps (spD K ps.length c) := by
  obtain ⟨oc, od, dV, kV, doc, pm, an, cdv, ct, osl, rfl, lk, hcd, _, _⟩ := F.ex
  have ln : ∀ vs H Q E, spD K ps.length c vs H Q E → vs.length = ps.length := fun vs H Q E q => by
    obtain ⟨ds, M, Z, Φ, hl, r, _⟩ := q
    rw [r.length, hl]
  refine ⟨ln, fun A outer s H args us vs Q E hg hr e0 hb rv hsp => ?_⟩
  have hlen := ln _ _ _ _ hsp
  have hK : K.In s.heap := e0.mod.kin.keeps fun b o z => (e0.bs b o z).1
  have hlim : s.heap.NoLimit := e0.mod.nolimit.keeps fun b o z => (e0.bs b o z).1
  have kinds : ∀ y ∈ ps.zip us, (defScope st).names.lookup y.1 = some .local ∨ ((defScope st).names.lookup y.1 = some .cell ∧ ((cellsFrom (s.heap.objs.size + 1) (defScope st).names []).lookup y.1).isSome = true) := fun y hy => by
    rcases S.par y.1 (List.of_mem_zip hy).1 with z | z
    · exact .inl z
    · exact .inr ⟨z, PySem.W.cellsFrom_some _ _ _ (.inl z)⟩
  refine codeAny_call_function hr.depth (hK _ _ lk) rfl S.co S.gen rfl (PySem.W.codeRec_of hK hcd) (hb _ _ _ _ (wpAny_newFunctionEnv_cells S.kind kinds fun env he s1 xx => ?_))
  subst he
  refine ⟨hlim.keeps xx.toInCall.keep, codeAny_func ?_⟩
  obtain ⟨ds, M, Z, Φ, hl, r, wd, hc, kk⟩ := hsp
  have I : Inv (cxOf CX0 P w K mg base N qual (defScope st) f cdv A outer s H E) [] (L2.start N vs) H s1 := inv_start S hr.hd e0 hlen rv xx
  have body := (h f cdv A outer s H E hg (hr.deeper _) ds M Φ hl hc).run (L2.start N vs) H { nx := fun _ H' => Q .non H', rt := Q } (env_start r) wd ⟨fun σ' ρ' H' M' x w' en z => kk _ .non H' M' x w' .non z, lets_k kk, fun _ _ _ _ _ _ _ z => z.elim, fun _ _ _ _ _ _ _ z => z.elim⟩
  have done : ∀ {σ' : L2.St} {H' : Hp} {v : V} {u : Value} {s' : Shared}, Inv (cxOf CX0 P w K mg base N qual (defScope st) f cdv A outer s H E) [] σ' H' s' → RelV v u → Q v H' → CE outer P w H s Q u s' := fun {σ' H' v u s'} J ru q => ⟨v, H', J.os, J.bare, J.base, J.hok, ru, q⟩
  refine wpAny_mono ((PSs.nox (pss_sem (X := bx P w K mg base N qual (defScope st) f cdv A outer s H E))).run [] s1 (L2.start N vs) H _ I body) (fun fl s' hs => ?_) fun e s' hs => hs
  cases fl with
  | ret u => obtain ⟨v, σ', H', J, ru, q⟩ := hs; exact done J ru q
  | next => obtain ⟨σ', H', J, q⟩ := hs; exact done (v := V.non) (u := Value.none) J rfl q
  | brk => obtain ⟨_, _, _, q⟩ := hs; exact q.elim
  | cont => obtain ⟨_, _, _, q⟩ := hs; exact q.elim
/-- such a def under its name -/
structure Gc (P : Program) (w : World) (K : PySem.W.Frag) (mg : Str → Option Value) (base : Heap) (x : Str) (k n : Nat) (c : Con) : Prop where
  ex : ∃ (f : Addr) (fd : FuncData) (ps : List Str), FnG P w K mg base k f fd ps (spD K n c) ∧ mg x = some (.ref f) ∧ PySem.W.keepIn K (.ref f) = true ∧ Binds K fd ps []
theorem Df.gc (D : Df K mg x st []) (S : FnScope N ps (defScope st))
    (hb : ∀ (kV doc pm : Value) (an : Option Addr) (cdv ct : Value) (us : List Value), us.length = ps.length → bindArgs (PySem.W.fnOf x x (defArgs st) (defBody st) (defScope st) .none kV doc pm an cdv ct) ⟨us, []⟩ = pure (ps.zip us))
    (h : BodyG P w K mg base x st N ps.length k c) : Gc P w K mg base x (k + 1) ps.length c := by
  obtain ⟨f, fd, F, hm⟩ := D.ex
  exact ⟨f, fd, ps, fnG_ok F S h, hm, F.kp, F.bindsN hb⟩
end
section
variable {X : Cx} {ρ : Rho} {M : Mp} {Φ : D → Mp → Prop} {e : Expr} {es : List Expr} {pos p : Pos} {x : Str} {k n : Nat} {c : Con}
theorem we_callG (F : Gc X.prog X.w X.K X.mg X.base x k n c) (hg0 : X.A.guards = some []) (hr : Room k X.A) (h : WA X ρ M (e :: es) fun ds M1 => ds.length = n ∧ c ds M1 Φ) (hg : Gl X x := by rfl)
    (hdb : (x == ("__debug__" : Str)) = false := by decide) (he : starEach (e :: es) X.env = (false, eval e X.env) :: starEach es X.env := by rfl) (hpl : (backTo pos (starEach es X.env)).any (·.1) = false := by rfl) : WE X ρ M (.Call (.Name x p) (e :: es) [] pos) Φ := .mk fun {Z} σ H Q en w k => by
  obtain ⟨f, fd, ps, F, hm, hk, hb⟩ := F.ex
  intro pins s I
  refine wpAny_Call_Name_kw (ld_glob I hg hm ?_ hdb)
  refine PySem.W.callWith_K (h₀ := X.base) I.ok.mod.kin hk (thn ((pa_sem (es := e :: es)).run pos pins s σ H (fun vs H1 => spD X.K n c vs H1 Q E0) I (h.run σ H _ en w fun vs ds H1 M1 e1 w1 r1 hz => ⟨ds, M1, Z, Φ, hz.1, r1, w1, hz.2, k.step e1⟩)) fun us s1 z => ⟨?_, ?_⟩) he hpl
  · obtain ⟨vs, H1, I1, r, q⟩ := z; exact I1.kIn
  · obtain ⟨vs, H1, I1, r, q⟩ := z
    have hl : (us ++ ([] : List Value)).length = ps.length := by rw [List.append_nil, ← r.length]; exact F.len _ _ _ _ q
    have bt := hb s1 us I1.kIn hl
    rw [List.append_nil] at bt
    refine wpAny_call (codeAny_mono (F.run X.A X.stack s1 H1 ⟨us, []⟩ us vs Q E0 hg0 hr I1.env0 bt r q) fun res s' hq => ?_)
    cases res with
    | error er => exact hq.elim
    | ok fl =>
      cases fl with
      | ret u => exact I1.after hq
      | next => exact hq.elim
      | brk => exact hq.elim
      | cont => exact hq.elim
end
end DL
/-! DL14: the law's call, where nothing is being shown. -/
namespace DL
open PySem PySem.Spec PyProof.Rows L2
theorem lawG {P : Program} {w : World} {K : PySem.W.Frag} {mg mb : Str → Option Value} {k : Nat} {fa a : Addr} {fd : FuncData} {x : Str} {sp : Sp} {s : Shared} {vs : List Value} {ns : List Int}
    (KX : K.In s.heap) (gn : s.heap.Ns mainGlobals mg) (bn : s.heap.Ns builtinsNs mb) (bb : ∀ x : Str, x ≠ "__name__" → mb x = bootBuiltins x) (lim : s.heap.NoLimit) (hg : s.gens = #[])
    (ha : s.heap.get? a = some { cls := .type "list", data := .seq vs.toArray }) (hi : IntsAre vs ns) (hl : ns.length ≤ sizeLine) (hr : Room k callerA)
    (F : ∀ base : Heap, K.In base → base.Ns mainGlobals mg → FnG P w K mg base k fa fd [x] sp) (bind_ : ∀ (s : Shared) (u : Value), BindsTo s fd ⟨[u], []⟩ [(x, u)])
    (hsp : ∀ H : Hp, Only H → SqL K H a (ns.map V.int) → sp [.ref a] H (fun v _ => v = .bl true) fun _ _ _ => False) :
    codeAny (model P w) callerA (.call (.ref fa) ⟨[.ref a], []⟩) (fun r s' => r = .ok (.ret (.bool true)) ∧ OldK s.heap s'.heap ∧ s'.os = s.os ∧ AllBare s'.gens) s := by
  have rv := vals_ints hi
  have lenV := hi.length
  have main : ∀ H : Hp, Only H → SqL K H a (ns.map V.int) → HOk P w H s.heap → (∀ b, H b ≠ none → b = a) → (H a ≠ none → K.lookup a = none) →
      codeAny (model P w) callerA (.call (.ref fa) ⟨[.ref a], []⟩) (fun r s' => r = .ok (.ret (.bool true)) ∧ OldK s.heap s'.heap ∧ s'.os = s.os ∧ AllBare s'.gens) s := fun H o1 o2 hok at_ hK => by
    have keep0 : ∀ {b : Addr} {o : Obj}, s.heap.get? b = some o → H b = none → (hidT s.heap H).get? b = some o := fun z y => hidT_get z y
    have noD : ∀ {b : Addr} {o : Obj} {es : Array DictEntry} {ep : Nat}, s.heap.get? b = some o → o.data = .dict es ep → H b = none := fun {b o es ep} z d => by
      cases q : H b with
      | none => rfl
      | some u =>
        have eb : b = a := at_ b (by rw [q]; simp)
        rw [eb, ha] at z
        cases z
        cases (show Data.seq vs.toArray _ = Data.dict es ep from d)
    have nsK : ∀ {b : Addr} {m : Str → Option Value}, s.heap.Ns b m → (hidT s.heap H).Ns b m := fun {b m} z => by
      obtain ⟨o, es, ep, y, d, r⟩ := z
      exact ⟨o, es, ep, keep0 y (noD y d), d, r⟩
    have inB : K.In (hidT s.heap H) := fun b o z => keep0 (KX b o z) (by
      cases q : H b with
      | none => rfl
      | some u =>
        have eb : b = a := at_ b (by rw [q]; simp)
        rw [eb, hK (by rw [← eb, q]; simp)] at z
        cases z)
    have hM : Mod K mg (hidT s.heap H) := ⟨inB, nsK gn, ⟨mb, nsK bn, bb⟩, by obtain ⟨mc, h1, h2⟩ := lim; exact ⟨mc, nsK h1, h2⟩⟩
    have e0 : Env0 P w K mg (hidT s.heap H) callerA [] s H := ⟨rfl, hM, fun b o z => of_hidT z, Nat.le_of_eq (hidT_size _ _), trivial, fun b hb => absurd (show b ∈ ([] : List Addr) from hb) (by simp), hok, .of_eq hg⟩
    refine codeAny_mono ((F _ inB (nsK gn)).run callerA [] s H ⟨[.ref a], []⟩ [.ref a] [.ref a] _ _ rfl hr e0 (bind_ s (.ref a)) (.cons rfl .nil) (hsp H o1 o2)) fun r s' h => ?_
    cases r with
    | error e => exact False.elim h
    | ok fl =>
      cases fl with
      | ret u =>
        obtain ⟨v, H', os, bare, un, hok', r', q⟩ := h
        obtain rfl : v = .bl true := q
        obtain rfl : u = Value.bool true := r'
        refine ⟨rfl, OldK.of_keep fun b o z => ?_, os, bare⟩
        cases q : H b with
        | none => exact un.keep b o z q (fun y => absurd (show b ∈ ([] : List Addr) from y) (by simp)) (by simp)
        | some u =>
          rcases o1 b with y | ⟨ob, xs, y⟩
          · rw [q] at y; cases y
          · have y2 := un.frzs b ob _ y
            have y3 := (hok b _ y).1
            have y4 := (hok' b _ y2).1
            rw [z] at y3; cases y3
            exact y4
      | _ => exact False.elim h
  cases hk : K.lookup a with
  | some o =>
    have z := KX a o hk
    rw [ha] at z
    cases z
    exact main (fun _ => none) (fun _ => .inl rfl) (.inr ⟨_, vs.toArray, _, hk, rfl, rfl, rfl, by rw [List.size_toArray, lenV]; exact hl, by simpa using rv⟩) (fun b u z => by cases (show (none : Option HO) = some u from z)) (fun b z => absurd rfl z) fun z => absurd rfl z
  | none =>
    refine main (fun b => if b = a then some (.frz { cls := .type "list", data := .seq vs.toArray } (.lst (ns.map V.int))) else none) (fun b => ?_) (.inl (.inr ⟨_, if_pos rfl⟩)) (fun b u z => ?_) (fun b z => ?_) fun _ => hk
    · by_cases hb : b = a
      · exact .inr ⟨_, _, if_pos hb⟩
      · exact .inl (if_neg hb)
    · by_cases hb : b = a
      · cases (if_pos hb).symm.trans z
        subst hb
        exact ⟨ha, by rw [List.length_map]; exact hl, vs, _, rv, ha⟩
      · cases (if_neg hb).symm.trans z
    · by_cases hb : b = a
      · exact hb
      · exact absurd (if_neg hb) z
theorem walk_ofG {l : PySem.W.OpenLaw} {n k : Nat} {q : Program} {loose : List Str} {XP : (Str → Option Value) → Heap → Prop} {YP : World → Heap → Prop} {d : DefRec} {x : Str}
    (hn : l.most = some n) (hn2 : n ≤ sizeLine) (hdf : d.params.defaults = []) (hr : Room k callerA)
    (F : ∀ (w : World) (mg : Str → Option Value) (fa : Addr) (h : Heap), YP w h → h.Ns mainGlobals mg → mg d.name = some (.ref fa) →
      ∃ (K : PySem.W.Frag) (fd : FuncData) (sp : Sp), K.In h ∧ (∀ (s : Shared) (u : Value), BindsTo s fd ⟨[u], []⟩ [(x, u)]) ∧
        (∀ (H : Hp) (a : Addr) (ns : List Int), ns.length ≤ n → Only H → SqL K H a (ns.map V.int) → sp [.ref a] H (fun v _ => v = .bl true) fun _ _ _ => False) ∧
        ∀ base : Heap, K.In base → base.Ns mainGlobals mg → FnG l.prog w K mg base k fa fd [x] sp) :
    PySem.W.WalkO q loose XP YP l.row.toRowW d [] (fun f vs => PySem.call f vs) := by
  refine Att.attach_call hn hdf fun w s0 s1 mg mb fa o pm cd doc a vs ns G Y ho hd hcd hmg hobj hints hlen hg => ?_
  obtain ⟨K, fd, sp, KX, hb, hsp, hF⟩ := F w mg fa _ Y G.T.g hmg
  exact lawG KX G.T.g G.T.b G.T.builtins G.T.nolimit hg hobj hints (Nat.le_trans hlen hn2) hr hF hb fun H hO hS => hsp H a ns hlen hO hS
end DL
/-! DL15: repr of data. -/
namespace DL
open PySem PySem.Spec PyProof.Rows L2
section
variable {X : Cx} {ρ : Rho} {M : Mp} {Φ : D → Mp → Prop} {e : Expr} {pos p : Pos}
theorem cr_reprD (hg : X.A.guards = some []) (hu : X.A.units + 64 < cLine) : CallR X (.builtin "repr") (fun xs H Q => ∃ v q, xs = [v] ∧ Dp X.K H v q ∧ q.showable = true ∧ q.canLay0 = true ∧ q.depth ≤ 60 ∧ q.shown.length ≤ sizeLine ∧ Q (.str q.shown) H) := by
  intro pins s σ H xs us Q I r h
  obtain ⟨v, q, rfl, hd, hs, hc, hk, hz, h⟩ := h
  obtain ⟨u, rfl, ru⟩ := vals1 r
  obtain ⟨as, rd⟩ := Dp.reads I q v u hd ru
  have fin : ∀ (h' : Heap) (tk : Nat) (t : Tok), (∀ b o, s.heap.get? b = some o → h'.get? b = some o) → EP X pins σ Q (.str q.shown t) { s with heap := h', toks := tk } := fun h' tk t kp => ⟨.str q.shown, H, I.kept kp, ⟨t, rfl⟩, h⟩
  have same : ∀ (tk : Nat) (t : Tok), EP X pins σ Q (.str q.shown t) { s with toks := tk } := fun tk t => ⟨.str q.shown, H, I.tok tk, ⟨t, rfl⟩, h⟩
  have big : ∀ a, u = .ref a → wpAny (model X.prog X.w) X.A (call (.builtin "repr") [u]) (EP X pins σ Q) X.xe s := fun a ea => by
    subst ea
    exact repr_of_reads' rd hs (fun z => by rw [PyData.hasDict_of_canLay q hc] at z; cases z) hg (by omega) (fun _ _ z => z) (fun h' t tk kp => fin h' tk t kp) hz
  cases hd with
  | non => cases ru; exact PySem.P.repr_of_none (by simp only [PyData.shown] at same; exact same _ _)
  | bl b => cases ru; exact PySem.P.repr_of_bool (by simp only [PyData.shown] at same; exact same _ _)
  | int i =>
    obtain ⟨t, rfl⟩ := ru
    simp only [PyData.showable, decide_eq_true_eq] at hs
    exact PySem.P.repr_of_int hs (by simp only [PyData.shown] at same; exact same _ _)
  | str x =>
    obtain ⟨t, rfl⟩ := ru
    simp only [PyData.shown] at hz
    exact PySem.P.repr_of_str (by simp only [PyData.shown] at same; exact same _ _) hz
  | lst h1 h2 => cases ru; exact big _ rfl
  | tup h1 h2 => cases ru; exact big _ rfl
theorem we_reprD (hm : X.mg "repr" = none) (hg0 : X.A.guards = some []) (hu : X.A.units + 64 < cLine) (h : WE X ρ M e fun d M1 => ∃ q k, CmpD d q k ∧ k ≤ 60 ∧ q.showable = true ∧ q.shown.length ≤ sizeLine ∧ Φ (.str q.shown) M1) (hg : Gl X "repr" := by rfl)
    (he : starEach [e] X.env = (false, eval e X.env) :: starEach [] X.env := by rfl) (hpl : (backTo pos (starEach [] X.env)).any (·.1) = false := by rfl) : WE X ρ M (.Call (.Name "repr" p) [e] [] pos) Φ :=
  we_callB (cr_reprD hg0 hu) hm (by decide +kernel) (wa_cons (h.imp fun d M1 h => wa_nil fun Z vs H Q w rr k => by
    obtain ⟨v, rfl, r⟩ := rr.one
    obtain ⟨q, j, c, hj, h1, h2, h⟩ := h
    exact ⟨v, q, rfl, r.dp c.eq, h1, c.lay, Nat.le_trans c.dep hj, h2, k.now w (.str _) h⟩) he) hg (he := he) (hpl := hpl)
end
end DL
/-! DL16: sorted of tuples of ints, of any lengths but none. -/
namespace DL
open PySem PySem.Spec PyProof.Rows L2
def lexI : List Int → List Int → Bool
  | [], [] => false
  | [], _ :: _ => true
  | _ :: _, [] => false
  | p :: ns, q :: ms => if p = q then lexI ns ms else decide (p < q)
theorem lexI_asym : ∀ {x y : List Int}, lexI x y = true → lexI y x = false
  | [], [], h => by cases h
  | [], _ :: _, _ => rfl
  | _ :: _, [], h => by cases h
  | p :: x, q :: y, h => by
    rw [lexI] at h ⊢
    by_cases e : p = q
    · subst e
      rw [if_pos rfl] at h ⊢
      exact lexI_asym h
    · rw [if_neg e] at h
      rw [if_neg (fun z => e z.symm)]
      have := of_decide_eq_true h
      exact decide_eq_false (by omega)
theorem lexI_tr : ∀ {x y z : List Int}, lexI y x = false → lexI z y = false → lexI z x = false
  | [], y, z, h1, h2 => by
    cases z with
    | nil => rfl
    | cons r z => rfl
  | p :: x, [], z, h1, h2 => by cases h1
  | p :: x, q :: y, [], h1, h2 => by cases h2
  | p :: x, q :: y, r :: z, h1, h2 => by
    rw [lexI] at h1 h2 ⊢
    by_cases e1 : q = p
    · subst e1
      rw [if_pos rfl] at h1
      by_cases e2 : r = q
      · subst e2
        rw [if_pos rfl] at h2 ⊢
        exact lexI_tr h1 h2
      · rw [if_neg e2] at h2 ⊢; exact h2
    · rw [if_neg e1] at h1
      have a1 := of_decide_eq_false h1
      by_cases e2 : r = q
      · subst e2
        rw [if_neg e1]; exact h1
      · rw [if_neg e2] at h2
        have a2 := of_decide_eq_false h2
        rw [if_neg (by omega)]
        exact decide_eq_false (by omega)
theorem swoI (k : Value → List Int) : SrtO.Swo fun v u => lexI (k v) (k u) := ⟨fun _ _ h => lexI_asym h, fun _ _ _ h1 h2 => lexI_tr h1 h2⟩
section
variable {prog : Program} {w : World} {A : Around} {E : Value → Shared → Prop} {s : Shared}
theorem lexN {b fin : Bool} {Q : Bool → Shared → Prop} : ∀ {xs ys : List Value} {ns ms : List Int} (i : Nat), IntsAre xs ns → IntsAre ys ms → fin = decide (ns.length < ms.length) → Q (lexI ns ms) s → PySem.W.KatLex prog w A b fin Q (xs.zip ys) i s
  | _, _, _, _, i, .nil, .nil, hf, h => by rw [hf]; exact PySem.W.kat_nil h
  | _, _, _, _, i, .nil, .cons q u hy, hf, h => by rw [hf]; exact PySem.W.kat_nil (by simpa [lexI] using h)
  | _, _, _, _, i, .cons p t hx, .nil, hf, h => by rw [hf]; exact PySem.W.kat_nil (by simpa [lexI] using h)
  | _, _, _, _, i, .cons (ns := ns) (vs := xs) p t hx, .cons (ns := ms) (vs := ys) q u hy, hf, h => by
    show PySem.W.KatLex prog w A b fin Q ((Value.int p t, Value.int q u) :: xs.zip ys) i s
    refine PySem.W.kat_cons (wpAny_eqBool_int ?_)
    rw [lexI] at h
    by_cases e : p = q
    · subst e
      rw [beq_self_eq_true]
      rw [if_pos rfl] at h
      exact PySem.W.kat_yes (lexN (i + 1) hx hy (by rw [hf]; exact decide_eq_decide.mpr (by simp)) h)
    · rw [show (p == q) = false from beq_eq_false_iff_ne.mpr e]
      rw [if_neg e] at h
      exact PySem.W.kat_no (TS.oneLt_ints _ h)
/-- the first ints -/
theorem firstsN {h : Heap} : ∀ vs : List Value, (∀ v ∈ vs, ∃ ns, TS.TupInts h v ns ∧ ns ≠ []) → ∃ fs, PySem.W.KatTups h vs fs ∧ fs.length = vs.length ∧ ∀ f, f ∈ fs → ∃ n t, f = Value.int n t
  | [], _ => ⟨[], PySem.W.KatTups.nil, rfl, fun f hf => by simp at hf⟩
  | v :: vs, x => by
    obtain ⟨fs, k, l, hi⟩ := firstsN vs fun u hu => x u (List.mem_cons_of_mem _ hu)
    obtain ⟨ns, ⟨a, xs, rfl, ⟨o, ho, hc, n, hdt⟩, ii⟩, hn⟩ := x v (List.mem_cons_self ..)
    cases e : xs.toList with
    | nil => rw [e] at ii; cases ii; exact absurd rfl hn
    | cons y ys =>
      obtain ⟨m, t, hy⟩ := ii.all y (by rw [e]; exact List.mem_cons_self ..)
      refine ⟨y :: fs, PySem.W.KatTups.cons ho hc hdt (by have z := congrArg (fun l : List Value => l[0]?) e; simpa using z) k, by simp [l], fun f hf => ?_⟩
      rcases List.mem_cons.mp hf with rfl | hf
      · exact ⟨m, t, hy⟩
      · exact hi f hf
theorem tupsSortable {a : Addr} {vs : List Value} {k : Value → List Int} (h0 : 0 < vs.length) (hp : ∀ v ∈ vs, TS.TupInts s.heap v (k v) ∧ k v ≠ []) (ha : ∀ o, s.heap.get? a = some o → o.cls ≠ .type "tuple") : SrtO.SortableO prog w A s a vs fun v u => lexI (k v) (k u) := by
  intro h' keep
  have hp' : ∀ v ∈ vs, TS.TupInts h' v (k v) := fun v hm => (hp v hm).1.keeps fun b o e c => keep b o (fun z => by subst z; exact ha o e c) e
  obtain ⟨fs, h1, h2, h3⟩ := firstsN (h := h') vs fun v hv => ⟨_, hp' v hv, (hp v hv).2⟩
  refine ⟨tuples' true, fun Q E hq => ?_, fun p q hm hm' => ?_⟩
  · refine PySem.W.kat_kind (T := .type "int") h1 (by omega) (fun f hm => ?_) (by rfl) ?_
    · obtain ⟨x, t, rfl⟩ := h3 f hm
      exact PySem.W.Looks.now
    · have e : (Value.type "int" != Value.type "tuple") = true := by first | decide +kernel | rfl | decide
      rw [e]
      exact hq
  · obtain ⟨a1, xs, e1, ⟨o1, ho1, hc1, n1, hd1⟩, i1⟩ := hp' _ hm
    obtain ⟨a2, ys, e2, ⟨o2, ho2, hc2, n2, hd2⟩, i2⟩ := hp' _ hm'
    show wpAny (model prog w) A (keyLt' (tuples' true) p.1 q.1) (fun r s' => s' = { s with heap := h' } ∧ r = lexI (k p.1) (k q.1)) (fun _ _ => False) { s with heap := h' }
    generalize k p.1 = np at i1 ⊢
    generalize k q.1 = nq at i2 ⊢
    rw [e1, e2]
    refine PySem.W.kat_lt ho1 hd1 ho2 hd2 (lexN 0 i1 i2 ?_ ⟨rfl, rfl⟩)
    have l1 := i1.length
    have l2 := i2.length
    rw [Array.length_toList] at l1 l2
    rw [l1, l2]
end
end DL
/-! DL17: sorted(xs), xs a list of tuples of ints that ascends already. -/
namespace DL
open PySem PySem.Spec PyProof.Rows L2
section
variable {X : Cx} {ρ : Rho} {M : Mp} {Φ : D → Mp → Prop} {e : Expr} {pos p : Pos}
def TupsV (K : PySem.W.Frag) (H : Hp) : List V → List (List Int) → Prop := Paired fun x ns => ∃ t, x = V.ref t ∧ SqT K H t (ns.map V.int)
theorem TupsV.raw {pins : List (Addr × Obj)} {σ : L2.St} {H : Hp} {s : Shared} (I : Inv X pins σ H s) : ∀ {xs : List V} {ps : List (List Int)} {us : List Value}, TupsV X.K H xs ps → Vals xs us → us.map (TS.intsOf s.heap) = ps ∧ ∀ u ∈ us, TS.TupInts s.heap u (TS.intsOf s.heap u)
  | _, _, _, .nil, .nil => ⟨rfl, fun u hu => by simp at hu⟩
  | _, _, _, .cons h t, .cons r v => by
    obtain ⟨a, rfl, hq⟩ := h
    cases r
    obtain ⟨h1, h2⟩ := TupsV.raw I t v
    have q := tupI_raw I hq
    refine ⟨by rw [List.map_cons, q.ints, h1], fun u hu => ?_⟩
    rcases List.mem_cons.mp hu with rfl | hu
    · rw [q.ints]; exact q
    · exact h2 u hu
theorem cr_sortedAsc : CallR X (.builtin "sorted") (fun vs H Q => ∃ (a : Addr) (xs : List V) (ps : List (List Int)), vs = [V.ref a] ∧ SqL X.K H a xs ∧ TupsV X.K H xs ps ∧ (2 ≤ xs.length → ∀ n ∈ ps, n ≠ []) ∧ ps.Pairwise (fun x y => lexI y x = false) ∧ ∀ p, H p = none → Q (.ref p) (upd H p (.lst xs))) := by
  intro pins s σ H vs us Q I r h
  obtain ⟨a, xs, ps, rfl, hs, ht, hne, hp, q⟩ := h
  rw [Vals.ref1 r]
  obtain ⟨its, rv, hl, hz⟩ := I.list hs
  obtain ⟨h1, h2⟩ := TupsV.raw I ht rv
  have lenI : xs.length = its.length := rv.length
  have hz2 : its.length ≤ sizeLine := by rw [← lenI]; exact hz
  refine SrtO.sorted_ord (swoI (TS.intsOf s.heap)) hl.isList hz2 (fun h2l hp1 a1 ha1 kk => ?_) fun out o1 o2 => ?_
  · refine tupsSortable (s := { s with heap := hp1 }) (by omega) (fun v hv => ⟨(h2 v hv).keeps fun b o z _ => (kk b o z).2, ?_⟩) fun o z => ?_
    · exact hne (by omega) _ (by rw [← h1]; exact List.mem_map_of_mem hv)
    · have z' := z.symm.trans ha1
      cases z'
      intro c
      exact absurd (Value.type.inj c) (by decide)
  · have srt : SrtO.Srtd (fun v u => lexI (TS.intsOf s.heap v) (TS.intsOf s.heap u)) its := by
      rw [← h1] at hp
      exact List.pairwise_map.mp hp
    have eo : out = its := SrtO.stb_uniq (swoI _) o1 srt o2
    subst eo
    obtain ⟨n, hn⟩ := sortedAll_at s.heap out out.toArray
    exact ⟨.ref _, upd H (s.heap.objs.size + 1) (.lst xs), I.laid (t' := s.toks) (fun b o z => sortedAll_old z) (Nat.le_succ _) ⟨hz, out, n, rv, hn⟩, rfl, q _ (I.hok.fresh (Nat.le_succ _))⟩
theorem Reps.tups {K : PySem.W.Frag} {M : Mp} {Z : Zn} {H : Hp} : ∀ {vs : List V} {ps : List (List Int)}, Reps K M Z H vs (ps.map fun q => .tup (q.map D.int)) → TupsV K H vs ps
  | _, [], .nil => .nil
  | _, q :: ps, .cons r t => by
    obtain ⟨a, us, rfl, hq, rs⟩ := r.asTup
    rw [rs.ints] at hq
    exact .cons ⟨a, rfl, hq⟩ (Reps.tups t)
theorem we_sortedAsc (hm : X.mg "sorted" = none) (h : WE X ρ M e fun d M1 => ∃ ps : List (List Int), LstOf M1 d (ps.map fun q => D.tup (q.map D.int)) ∧ (2 ≤ ps.length → ∀ n ∈ ps, n ≠ []) ∧ ps.Pairwise (fun x y => lexI y x = false) ∧ Φ (.lst (ps.map fun q => D.tup (q.map D.int))) M1) (hg : Gl X "sorted" := by rfl)
    (he : starEach [e] X.env = (false, eval e X.env) :: starEach [] X.env := by rfl) (hpl : (backTo pos (starEach [] X.env)).any (·.1) = false := by rfl) : WE X ρ M (.Call (.Name "sorted" p) [e] [] pos) Φ :=
  we_callB cr_sortedAsc hm (by decide +kernel) (wa_cons (h.imp fun d M1 h => wa_nil fun Z vs H Q w rr k => by
    obtain ⟨v, rfl, r⟩ := rr.one
    obtain ⟨ps, hl, h1, h2, h⟩ := h
    obtain ⟨q, us, rfl, hq, rs⟩ := r.asLst w hl
    refine ⟨q, us, ps, rfl, hq, rs.tups, fun z => h1 (by rw [rs.length, List.length_map] at z; exact z), h2, fun l hp => k.new w hp (.lst upd_same (w.fresh hp) (rs.mono (Ext.new w hp))) h⟩) he) hg (he := he) (hpl := hpl)
end
end DL
/-! DL18: how long shown data are. -/
namespace DL
open PySem PySem.Spec PyProof.Rows L2 SX
theorem shownAll_map : ∀ xs : List PyData, PyData.shownAll xs = xs.map PyData.shown
  | [] => by simp [PyData.shownAll]
  | x :: xs => by simp [PyData.shownAll, shownAll_map xs]
theorem showableAll_map : ∀ xs : List PyData, PyData.showableAll xs = xs.all PyData.showable
  | [] => by simp [PyData.showableAll]
  | x :: xs => by simp [PyData.showableAll, showableAll_map xs]
theorem sum_le {α : Type} {f : α → Nat} {b : Nat} : ∀ {l : List α}, (∀ x ∈ l, f x ≤ b) → (l.map f).sum ≤ l.length * b
  | [], _ => by simp
  | x :: l, h => by
    rw [List.map_cons, List.sum_cons, List.length_cons, Nat.succ_mul]
    have h1 := h x List.mem_cons_self
    have h2 := sum_le fun y hy => h y (List.mem_cons_of_mem _ hy)
    omega
/-- shown, at most b signs -/
structure ShD (p : PyData) (b : Nat) : Prop where
  ok : p.showable = true
  le : p.shown.length ≤ b
theorem sh_nat {n : Nat} (h : n < 10 ^ 30) : ShD (.int (n : Nat)) 30 := by
  refine ⟨?_, ?_⟩
  · simp only [PyData.showable, decide_eq_true_eq, Int.natAbs_natCast]
    have : n < 2 ^ 100 := Nat.lt_trans h (by decide)
    by_cases h0 : n = 0
    · subst h0; decide
    · have := (Nat.log2_lt h0).mpr this; omega
  · simp only [PyData.shown]
    rw [num_S, S_len]
    exact TL.numL_len (by decide) h
theorem sh_list {xs : List PyData} {b n : Nat} (h : ∀ x ∈ xs, ShD x b) (hn : xs.length ≤ n) : ShD (.list xs) (n * (b + 2) + 3) := by
  refine ⟨?_, ?_⟩
  · simp only [PyData.showable, showableAll_map]
    exact List.all_eq_true.mpr fun x hx => (h x hx).ok
  · simp only [PyData.shown, shownAll_map]
    have h1 := listText_len_le (xs.map PyData.shown)
    rw [List.map_map, List.length_map] at h1
    have h2 : (xs.map ((·.length) ∘ PyData.shown)).sum ≤ xs.length * b := sum_le fun x hx => (h x hx).le
    have h3 : xs.length * b ≤ n * b := Nat.mul_le_mul_right _ hn
    have h4 : n * (b + 2) = n * b + n * 2 := Nat.mul_add _ _ _
    omega
theorem sh_tup {xs : List PyData} {b n : Nat} (h : ∀ x ∈ xs, ShD x b) (hn : xs.length ≤ n) : ShD (.tuple xs) (n * (b + 2) + 3) := by
  refine ⟨?_, ?_⟩
  · simp only [PyData.showable, showableAll_map]
    exact List.all_eq_true.mpr fun x hx => (h x hx).ok
  · simp only [PyData.shown, shownAll_map]
    have h1 := tupleText_len_le (xs.map PyData.shown)
    rw [List.map_map, List.length_map] at h1
    have h2 : (xs.map ((·.length) ∘ PyData.shown)).sum ≤ xs.length * b := sum_le fun x hx => (h x hx).le
    have h3 : xs.length * b ≤ n * b := Nat.mul_le_mul_right _ hn
    have h4 : n * (b + 2) = n * b + n * 2 := Nat.mul_add _ _ _
    omega
end DL
/-! DL19: tuples as keys, dicts with such keys that are filled, membership of data, a starred target. -/
namespace DL
open PySem PySem.Spec PyProof.Rows L2
/-! ### reading data as other data -/
def Wk (d d' : D) : Prop := ∀ (K : PySem.W.Frag) (M : Mp) (Z : Zn) (H : Hp) (v : V), Rep K M Z H v d → Rep K M Z H v d'
theorem Wk.rfl' (d : D) : Wk d d := fun _ _ _ _ _ r => r
def keyD : Key → D
  | .inl i => .int i
  | .inr x => .str x
theorem reps_keys {K : PySem.W.Frag} {M : Mp} {Z : Zn} {H : Hp} : ∀ ks : List Key, Reps K M Z H (ks.map kV) (ks.map keyD)
  | [] => .nil
  | .inl i :: ks => .cons (.int i) (reps_keys ks)
  | .inr x :: ks => .cons (.str x) (reps_keys ks)
theorem keys_reps {K : PySem.W.Frag} {M : Mp} {Z : Zn} {H : Hp} : ∀ {ks : List Key} {vs : List V}, Reps K M Z H vs (ks.map keyD) → vs = ks.map kV
  | [], _, r => by cases r; rfl
  | .inl i :: ks, _, r => by
    cases r with
    | cons r1 r2 => cases r1; rw [keys_reps r2]; rfl
  | .inr x :: ks, _, r => by
    cases r with
    | cons r1 r2 => cases r1; rw [keys_reps r2]; rfl
theorem wk_key (ks : List Key) : Wk (.key ks) (.tup (ks.map keyD)) := fun K M Z H v r => by
  cases r with
  | key h m => exact .tup (.inl h) m (reps_keys ks)
theorem reps_wk {α : Type} {f g : α → D} {K : PySem.W.Frag} {M : Mp} {Z : Zn} {H : Hp} : ∀ {l : List α} {vs : List V}, (∀ x ∈ l, Wk (f x) (g x)) → Reps K M Z H vs (l.map f) → Reps K M Z H vs (l.map g)
  | [], _, _, r => by cases r; exact .nil
  | a :: l, _, h, r => by
    cases r with
    | cons r1 r2 => exact .cons (h a List.mem_cons_self _ _ _ _ _ r1) (reps_wk (fun x hx => h x (List.mem_cons_of_mem _ hx)) r2)
theorem wk_lst {α : Type} {f g : α → D} {l : List α} (h : ∀ x ∈ l, Wk (f x) (g x)) : Wk (.lst (l.map f)) (.lst (l.map g)) := fun K M Z H v r => by
  cases r with
  | lst h1 m r => exact .lst h1 m (reps_wk h r)
section
variable {X : Cx} {ρ : Rho} {M : Mp} {Φ : D → Mp → Prop} {Θ : Bool → Mp → Prop} {a b e o i : Expr} {es : List Expr} {pos p : Pos}
theorem we_wk (h : WE X ρ M e fun d M1 => ∃ d', Wk d d' ∧ Φ d' M1) : WE X ρ M e Φ := .mk fun σ H Q en w k => h.run σ H Q en w fun v d H1 M1 e1 w1 r1 ⟨d', wk, hz⟩ => k v d' H1 M1 e1 w1 (wk _ _ _ _ _ r1) hz
theorem we_tupK {k1 : Nat} (h : WA X ρ M es fun ds M1 => ∃ ks : List Key, ds = ks.map keyD ∧ ks.length ≤ sizeLine ∧ Φ (.key ks) M1) : WE X ρ M (.Tuple es k1 pos) Φ := .mk fun σ H Q en w k =>
  eOf (pe_tup pa_sem) (h.run σ H _ en w fun vs ds H1 M1 e1 w1 r1 hz => by
    obtain ⟨ks, rfl, hl, hz⟩ := hz
    obtain rfl := keys_reps r1
    exact ⟨by rw [List.length_map]; exact hl, fun p hp => (k.step e1).new w1 hp (.key upd_same (w1.fresh hp)) hz⟩)
theorem we_addK (h : WE X ρ M a fun x M1 => WE X ρ M1 b fun y M2 => ∃ xs ys, x = .key xs ∧ y = .key ys ∧ xs.length + ys.length ≤ sizeLine ∧ Φ (.key (xs ++ ys)) M2) : WE X ρ M (.BinOp a .Add b pos) Φ := we_op op_catA (h.imp fun _ _ h => h.imp fun _ _ h Z v u H Q w r1 r2 k => by
  obtain ⟨xs, ys, rfl, rfl, hz, h⟩ := h
  cases r1 with
  | @key p1 _ h1 m1 =>
    cases r2 with
    | @key p2 _ h2 m2 =>
      refine ⟨_, _, _, _, rfl, rfl, sqT_of (.inl (.inl h1)), sqT_of (.inl (.inl h2)), by rw [List.length_map, List.length_map]; exact hz, fun e => ?_, fun _ e => ?_, fun _ _ q hp => ?_⟩
      · obtain rfl := List.map_eq_nil_iff.mp e
        exact k.now w (.key h2 m2) h
      · obtain rfl := List.map_eq_nil_iff.mp e
        rw [List.append_nil] at h
        exact k.now w (.key h1 m1) h
      · exact k.new w hp (.key (by rw [List.map_append]; exact upd_same) (w.fresh hp)) h)
/-! ### dicts by tuples -/
def valD (kvs : List (List Key × D)) (k : List Key) : Option D := (kvs.find? fun kv => decide (kv.1 = k)).map (·.2)
def putT (kvs : List (List Key × D)) (k : List Key) (d : D) : List (List Key × D) := if (kvs.any fun kv => decide (kv.1 = k)) = true then kvs.map (fun kv => if kv.1 = k then (kv.1, d) else kv) else kvs ++ [(k, d)]
theorem RepT.length {K : PySem.W.Frag} {M : Mp} {Z : Zn} {H : Hp} : ∀ {vs : List (List Key × V)} {ds : List (List Key × D)}, RepT K M Z H vs ds → vs.length = ds.length
  | _, _, .nil => rfl
  | _, _, .cons _ t => by rw [List.length_cons, List.length_cons, RepT.length t]
theorem RepT.val {K : PySem.W.Frag} {M : Mp} {Z : Zn} {H : Hp} {k : List Key} {d : D} : ∀ {vs : List (List Key × V)} {ds : List (List Key × D)}, RepT K M Z H vs ds → valD ds k = some d → ∃ v, valV vs k = some v ∧ Rep K M Z H v d
  | _, _, .nil, h => by cases h
  | _, _, .cons (k := j) (v := v) (d := d0) (vs := vs) (ds := ds) r t, h => by
    by_cases e : j = k
    · have h2 : some d0 = some d := by rw [← h]; unfold valD; rw [List.find?_cons_of_pos (by simpa using e)]; rfl
      cases h2
      exact ⟨v, valV_pos (p := (j, v)) e, r⟩
    · have h2 : valD ds k = some d := by rw [← h]; unfold valD; rw [List.find?_cons_of_neg (by simpa using e)]
      obtain ⟨u, hu, ru⟩ := RepT.val t h2
      exact ⟨u, by rw [valV_neg (p := (j, v)) e]; exact hu, ru⟩
theorem RepT.any {K : PySem.W.Frag} {M : Mp} {Z : Zn} {H : Hp} {k : List Key} : ∀ {vs : List (List Key × V)} {ds : List (List Key × D)}, RepT K M Z H vs ds → (vs.any fun kv => decide (kv.1 = k)) = ds.any fun kv => decide (kv.1 = k)
  | _, _, .nil => rfl
  | _, _, .cons r t => by rw [List.any_cons, List.any_cons, RepT.any t]
theorem RepT.snoc {K : PySem.W.Frag} {M : Mp} {Z : Zn} {H : Hp} {k : List Key} {v : V} {d : D} (r : Rep K M Z H v d) : ∀ {vs : List (List Key × V)} {ds : List (List Key × D)}, RepT K M Z H vs ds → RepT K M Z H (vs ++ [(k, v)]) (ds ++ [(k, d)])
  | _, _, .nil => .cons r .nil
  | _, _, .cons r1 t => .cons r1 (RepT.snoc r t)
theorem RepT.repl {K : PySem.W.Frag} {M : Mp} {Z : Zn} {H : Hp} {k : List Key} {v : V} {d : D} (r : Rep K M Z H v d) : ∀ {vs : List (List Key × V)} {ds : List (List Key × D)}, RepT K M Z H vs ds → RepT K M Z H (vs.map fun kv => if kv.1 = k then (kv.1, v) else kv) (ds.map fun kv => if kv.1 = k then (kv.1, d) else kv)
  | _, _, .nil => .nil
  | _, _, .cons (k := j) r1 t => by
    rw [List.map_cons, List.map_cons]
    by_cases e : j = k
    · simp only [if_pos e]; exact .cons r (RepT.repl r t)
    · simp only [if_neg e]; exact .cons r1 (RepT.repl r t)
theorem RepT.put {K : PySem.W.Frag} {M : Mp} {Z : Zn} {H : Hp} {k : List Key} {v : V} {d : D} {vs : List (List Key × V)} {ds : List (List Key × D)} (r : Rep K M Z H v d) (t : RepT K M Z H vs ds) : RepT K M Z H (putK vs k v) (putT ds k d) := by
  unfold putK putT
  rw [t.any]
  split
  · exact t.repl r
  · exact t.snoc r
theorem we_dnewT (h : ∀ p, M p = none → Φ (.ob p) (mset M p (.dT []))) : WE X ρ M (.Dict [] [] pos) Φ := .mk fun σ H Q en w k =>
  eOf pe_dnewT fun p hp => k _ (.ob p) _ (mset M p (.dT [])) (Ext.newM w hp) (w.newM hp ⟨[], upd_same, .nil⟩) (.ob p) (h p (w.fresh hp).1)
theorem we_dgetT (hu : X.A.units + 1 < cLine) (h : WE X ρ M a fun x M1 => WE X ρ M1 b fun y M2 => ∃ q kvs ks d, x = .ob q ∧ M2 q = some (.dT kvs) ∧ y = .key ks ∧ valD kvs ks = some d ∧ Φ d M2) (hs : NoSl b := by exact fun _ _ => rfl) : WE X ρ M (.Subscript a b pos) Φ := .mk fun σ H Q en w k =>
  eOf (pe_dget hu pe_sem pe_sem hs) (bind2 h en w fun v u x y H2 M2 e2 w2 r1 r2 hz => by
    obtain ⟨q, kvs, ks, d, rfl, hM, rfl, hv, hz⟩ := hz
    cases r1
    cases r2 with
    | key hb mb =>
      obtain ⟨vs, hq, rs⟩ := w2.1 q _ hM
      obtain ⟨v, h1, rv⟩ := rs.val hv
      exact ⟨q, v, rfl, by rw [← h1]; exact DGet.t hq hb, (k.step e2).now w2 rv hz⟩)
theorem wg_dput {d : D} {Ω : Rho → Mp → Prop} (hu : X.A.units + 1 < cLine) (h : WE X ρ M o fun x M1 => WE X ρ M1 i fun y M2 => ∃ q kvs ks, x = .ob q ∧ y = .key ks ∧ M2 q = some (.dT kvs) ∧ kvs.length < sizeLine ∧ Ω ρ (mset M2 q (.dT (putT kvs ks d))))
    (ha : ∀ v, assign (.Subscript o i pos) X.env v = (do
      let ov ← holding [v] (eval o X.env)
      let iv ← holding [v, ov] (eval i X.env)
      standAt pos
      holding [v, ov, iv] (setItem ov iv v)
      release [v, ov, iv] []) := by intro _; rfl) : WG X (.Subscript o i pos) d ρ M Ω := .mk fun {Z} σ H v Q en w r k =>
  gOf (pg_sub pe_sem pe_sem (set_dict hu) ha) (bind2 h en w fun v1 v2 x y H2 M2 e2 w2 r1 r2 hz => by
    obtain ⟨q, kvs, ks, rfl, rfl, hM, hl, hz⟩ := hz
    cases r1
    cases r2 with
    | key hb mb =>
      obtain ⟨vs, hv, rs⟩ := w2.1 q _ hM
      refine ⟨q, _, rfl, DPut.t hv hb (by rw [rs.length]; exact hl), ?_⟩
      have x3 : Ext M2 _ H2 (mset M2 q (.dT (putT kvs ks d))) (upd H2 q (.dT (putK vs ks v))) := Ext.put w2 hM
      exact k σ ρ _ _ (e2.trans x3) (w2.put hM ⟨_, upd_same, (rs.put (r.mono e2)).mono x3⟩) (en.mono (e2.trans x3)) hz)
/-! ### x in a list of data -/
theorem rd_inD {x y : D} (h : ∃ p q, toPy x = some p ∧ toPy y = some (.list q) ∧ SeqAt.shaped p = true ∧ SeqAt.shaped (.list q) = true ∧ Φ (.bl (q.any fun z => PyData.eqv z p)) M) : RD X.K (rInD X.K) x y M Φ := fun Z v u H Q w r1 r2 k => by
  obtain ⟨p, q, e1, e2, s1, s2, h⟩ := h
  exact ⟨p, q, r1.dp e1, r2.dp e2, s1, s2, k.now w (.bl _) h⟩
theorem wt_inD (hu : X.A.units + 65 < cLine) (h : WE X ρ M a fun x M1 => WE X ρ M1 b fun y M2 => ∃ p q, toPy x = some p ∧ toPy y = some (.list q) ∧ SeqAt.shaped p = true ∧ SeqAt.shaped (.list q) = true ∧ Θ (q.any fun z => PyData.eqv z p) M2) (hm : behindInMarks .In b = false := by rfl) : WT X ρ M (.Compare a [.In] [b] pos) Θ :=
  wt_cmp (op_inD hu) hm (h.imp fun _ _ h => h.imp fun _ _ ⟨p, q, e1, e2, s1, s2, h⟩ => rd_inD ⟨p, q, e1, e2, s1, s2, _, rfl, h⟩)
/-! ### x, *rest = a tuple -/
theorem star2 {prog : Program} {w : World} {A : Around} {E : Value → Shared → Prop} {s : Shared} {l : Addr} {items : Array Value} {Q : List Value → Shared → Prop} (hl : IsTup s.heap l items) (hh : A.handled = none) (hn : 1 ≤ items.size) (hz : items.size ≤ sizeLine)
    (h : ∀ (h2 : Heap) (tk : Nat), (∀ b o, s.heap.get? b = some o → h2.get? b = some o) → wpAny (model prog w) A (newList (items.toList.drop 1)) (fun d s' => Q (items.toList.take 1 ++ [d]) s') E { s with heap := h2, toks := tk }) : wpAny (model prog w) A (unpackItems (.ref l) 2 (some 1)) Q E s := by
  have hlt : l ≠ s.heap.objs.size := by obtain ⟨o, ho, _⟩ := hl; exact Nat.ne_of_lt (Heap.lt_size ho)
  unfold unpackItems
  refine wpAny_bind ?_
  unfold notIterableAtAll
  refine wpAny_bind (wpAny_specialOf hl.typeIs slot_tuple_iter.lookup ?_)
  refine wpAny_pure ?_
  simp only [Bool.false_eq_true, if_false]
  refine wpAny_bind (wpAny_holding (iter_tuple hl ?_))
  refine wpAny_bind (wpAny_holding (draw_tuple hlt 1 0 _ _ ⟨_, Heap.get?_push_size _ rfl, rfl, rfl⟩ (hl.push _) (by omega) fun h₁ hit₁ hs₁ => ?_))
  have hl₁ : IsTup h₁ l items := (hl.push _).extBut hs₁.extBut hlt
  rw [Nat.zero_add] at hit₁
  have hit₁' := hit₁
  obtain ⟨oi, hoi, _⟩ := hit₁'
  have hl₁' := hl₁
  obtain ⟨ol, hol, _⟩ := hl₁'
  rw [List.drop_zero]
  have hfl : (items.toList.take 1).length = 1 := by rw [List.length_take, Array.length_toList]; omega
  rw [if_neg (show ¬ ((items.toList.take 1).length < 1) by rw [hfl]; omega)]
  refine wpAny_bind (wpAny_holding (PySem.W.kun_collect (s := { s with heap := h₁ }) (T := "tuple_iterator") (.inr (.inr (.inr rfl))) (Walks.tuple (A := A.in1) hh s.heap.objs.size l hlt items) (fun j u st => st.1.typeIs) (k := 1) (by omega) ⟨hit₁, hl₁⟩ (Heap.lt_size hoi) (Heap.lt_size hol) (fun h₂ tk hk => ?_) hz))
  have hrl : (items.toList.drop 1).length = items.size - 1 := by rw [List.length_drop, Array.length_toList]
  show wpAny _ _ (newList ((items.toList.drop 1).take ((items.toList.drop 1).length - 0)) >>= fun d => pure (items.toList.take 1 ++ [d] ++ (items.toList.drop 1).drop ((items.toList.drop 1).length - 0))) _ _ _
  rw [Nat.sub_zero, List.take_length, List.drop_length]
  have he : ∀ b o, s.heap.get? b = some o → h₂.get? b = some o := fun b o e => hk b o (Nat.ne_of_lt (Heap.lt_size e)) (hs₁.extBut b o (Nat.ne_of_lt (Heap.lt_size e)) (Heap.get?_push_of_some _ e))
  refine wpAny_bind (wpAny_mono (h h₂ tk he) (fun d s' q => wpAny_pure (by rw [List.append_nil]; exact q)) fun _ _ z => z)
theorem wg_star {t1 t2 : Expr} {sp : Pos} {k1 : Nat} {d : D} {Ω : Rho → Mp → Prop} (h : ∃ x xs, d = .tup (x :: xs) ∧ WGs X [t1, t2] [x, .lst xs] ρ M Ω) (hc : X.calm = true := by rfl) (hn : (assignEach [t1, .Starred t2 sp] X.env).length = 2 := by rfl) (hst : (assignEach [t1, .Starred t2 sp] X.env).findIdx? (·.1) = some 1 := by rfl)
    (he : (assignEach [t1, .Starred t2 sp] X.env).map (·.2) = (assignEach [t1, t2] X.env).map (·.2) := by rfl) : WG X (.Tuple [t1, .Starred t2 sp] k1 pos) d ρ M Ω := .mk fun {Z} σ H v Q en w r k => by
  obtain ⟨x, xs, rfl, h⟩ := h
  obtain ⟨a, vs, rfl, hq, rs⟩ := r.asTup
  intro pins s u I ru
  cases ru
  obtain ⟨its, rv, ht, hz⟩ := I.tuple hq
  cases rs with
  | @cons v1 _ vr _ r1 r2 =>
    cases rv with
    | @cons _ u1 _ ur q1 q2 =>
      have hlen := q2.length
      rw [PyProof.Rows.assign_Tuple]
      refine wpAny_bind (wpAny_standAt ?_)
      unfold unpack
      rw [hn, hst, he]
      refine wpAny_bind (wpAny_holding (star2 ht (I.ok.hd hc) (by simp) (by simp at hz ⊢; omega) fun h2 tk hk => ?_))
      refine wpAny_newList ?_ (by simp at hz ⊢; omega)
      have I1 : Inv X pins σ H { s with heap := h2, toks := tk } := I.kept hk
      have hD : H h2.objs.size = none := I1.hok.fresh (Nat.le_refl _)
      have I2 : Inv X pins σ (upd H h2.objs.size (.lst vr)) { s with heap := h2.push { cls := .type "list", data := .seq ur.toArray }, toks := tk } :=
        I1.laid (fun b o q => Heap.get?_push_of_some _ q) (Nat.le_refl _) ⟨by simp at hz; omega, ur, _, q2, Heap.get?_push_size _ rfl⟩
      have x3 := Ext.new (o := HO.lst vr) w hD
      exact h.run σ _ [v1, .ref h2.objs.size] Q (en.mono x3) (w.new hD) (.cons (r1.mono x3) (.cons (.lst upd_same (w.fresh hD) (r2.mono x3)) .nil)) (k.step x3) pins _ [u1, .ref h2.objs.size] I2 (.cons q1 (.cons rfl .nil))
end
end DL
/-! DL22: instances of a class with slots that hold ints and are never changed; max and min of lists of ints. -/
namespace DL
open PySem PySem.Spec PyProof.Rows L2 SlX
/-- a class with these slots -/
structure SlC (K : PySem.W.Frag) (C : Addr) (fs : List Str) : Prop where
  sc : SCls K C
  sl : ∀ (i : Nat) (f : Str), fs[i]? = some f → ∃ p, Slot1 K C f p i
/-- what __init__ of five slots does: the i-th value goes to the slot js[i] -/
def spF (C : Addr) (out : List Int → List Int) : Sp := fun vs H Q E => ∃ (a dx : Addr) (ns : List Int), vs = .ref a :: ns.map V.int ∧ ns.length = 5 ∧ H a = some (.ins C dx []) ∧ dx ≠ a ∧ Q .non (slH H a C dx ((out ns).map fun i => some (V.int i)))
/-- C(..), C such a class -/
structure Gk (P : Program) (w : World) (K : PySem.W.Frag) (mg : Str → Option Value) (base : Heap) (x : Str) (C : Addr) (k : Nat) (dd : List Int) (out : List Int → List Int) : Prop where
  at_ : mg x = some (.ref C)
  ex : ∃ (f : Addr) (fd : FuncData) (ps : List Str) (ds : List Value), FnOk P w K mg base CX0 k f fd ps (spF C out) ∧ Mk K C f ∧ Binds K fd ps ds ∧ Vals (dd.map V.int) ds
theorem slH_made {H1 : Hp} {x dx C : Addr} {vs : List (Option V)} (h : dx ≠ x) : slH (upd (upd H1 dx (.own x)) x (.ins C dx [])) x C dx vs = upd (upd H1 dx (.xd [])) x (SlO x C dx vs) := by
  funext b
  unfold slH
  by_cases h1 : b = x
  · rw [h1, upd_same, upd_same]
  · by_cases h2 : b = dx
    · rw [h2, upd_ne h, upd_same, upd_ne h, upd_same]
    · rw [upd_ne h1, upd_ne h2, upd_ne h1, upd_ne h2, upd_ne h1, upd_ne h2]
section
variable {X : Cx} {ρ : Rho} {M : Mp} {Φ : D → Mp → Prop} {Θ : Bool → Mp → Prop} {a b e o : Expr} {es : List Expr} {pos p apos : Pos} {x : Str} {C : Addr} {k : Nat} {out : List Int → List Int} {dd : List Int}
theorem made_run {Z : Zn} {H1 : Hp} {M1 : Mp} {Q : VK} (w1 : Wd X.K M1 Z H1) (k : KE X.K M1 Z H1 Φ Q) {ns : List Int} (h5 : ns.length = 5) (hz : Φ (.fig C (out ns)) M1) (y dx : Addr) (hy : H1 y = none) (hdx : H1 dx = none) (ne : dx ≠ y) :
    spF C out (.ref y :: ns.map V.int) (upd (upd H1 dx (.own y)) y (.ins C dx [])) (fun v H2 => v = .non ∧ Q (.ref y) H2) E0 := by
  refine ⟨y, dx, ns, rfl, h5, upd_same, ne, rfl, ?_⟩
  rw [slH_made ne]
  have x1 := Ext.new (o := HO.xd []) w1 hdx
  have w2 := w1.new (o := HO.xd []) hdx
  have hy2 : upd H1 dx (.xd []) y = none := by rw [upd_ne (Ne.symm ne)]; exact hy
  refine (k.step x1).new w2 hy2 (.fig upd_same (by rw [upd_ne ne, upd_same]) (w2.fresh hy2) (w1.fresh hdx)) hz
theorem we_gmake (F : Gk X.prog X.w X.K X.mg X.base x C k [] out) (hr : Room (k + 1) X.A) (h : WA X ρ M (e :: es) fun ds M1 => ∃ ns : List Int, ds = ns.map D.int ∧ ns.length = 5 ∧ Φ (.fig C (out ns)) M1) (hg : Gl X x := by rfl)
    (hdb : (x == ("__debug__" : Str)) = false := by decide) (he : starEach (e :: es) X.env = (false, eval e X.env) :: starEach es X.env := by rfl) (hpl : (backTo pos (starEach es X.env)).any (·.1) = false := by rfl) : WE X ρ M (.Call (.Name x p) (e :: es) [] pos) Φ := .mk fun {Z} σ H Q en w k => by
  obtain ⟨f, fd, ps, ds, F', hm, hb, hd⟩ := F.ex
  refine eOf (pe_make (E := E0) hm F' hr hg F.at_ hb hd pass0 pa_sem hdb he hpl) (h.run σ H _ en w fun vs ds H1 M1 e1 w1 r1 hz => ?_)
  obtain ⟨ns, rfl, h5, hz⟩ := hz
  obtain rfl := r1.ints
  intro y dx hy hdx ne
  rw [List.map_nil, List.append_nil]
  exact made_run w1 (k.step e1) h5 hz y dx hy hdx ne
theorem we_gmake0 (F : Gk X.prog X.w X.K X.mg X.base x C k dd out) (h5 : dd.length = 5) (hr : Room (k + 1) X.A) (h : Φ (.fig C (out dd)) M) (hg : Gl X x := by rfl) (hdb : (x == ("__debug__" : Str)) = false := by decide) : WE X ρ M (.Call (.Name x p) [] [] pos) Φ := .mk fun {Z} σ H Q en w k => by
  obtain ⟨f, fd, ps, ds, F', hm, hb, hd⟩ := F.ex
  refine eOf (pe_make0 (E := E0) hm F' hr hg F.at_ hb hd pass0 hdb) ?_
  intro y dx hy hdx ne
  exact made_run w k h5 h y dx hy hdx ne
/-- e.f of such an instance -/
theorem we_gfld {fs : List Str} {f : Str} (S : SlC X.K C fs) (h : WE X ρ M e fun d M1 => ∃ (ns : List Int) (i : Nat) (n : Int), d = .fig C ns ∧ fs[i]? = some f ∧ ns[i]? = some n ∧ Φ (.int n) M1) (hb : attributeBase e f X.env (eval e X.env) = eval e X.env := by rfl) : WE X ρ M (.Attribute e f pos) Φ := .mk fun {Z} σ H Q en w k =>
  eOf (pe_sl pe_sem hb) (h.run σ H _ en w fun v d H1 M1 e1 w1 r1 hz => by
    obtain ⟨ns, i, n, rfl, hf, hn, hz⟩ := hz
    obtain ⟨q, hq⟩ := S.sl i f hf
    cases r1 with
    | @fig y _ dx _ h1 hd m md =>
      exact ⟨y, C, dx, q, _, i, .int n, rfl, .inr ⟨h1, hd⟩, S.sc, hq, by rw [List.getElem?_map, hn]; rfl, (k.step e1).now w1 (.int n) hz⟩)
/-- a method of such an instance -/
structure Mg (P : Program) (w : World) (K : PySem.W.Frag) (mg : Str → Option Value) (base : Heap) (C : Addr) (m : Str) (k n : Nat) (c : Con) : Prop where
  sc : SCls K C
  ex : ∃ (f : Addr) (fd : FuncData) (ps : List Str), FnOk P w K mg base CX0 k f fd ps (spD K n c) ∧ Meth K C m f ∧ Binds K fd ps []
theorem we_gmeth {m : Str} {n : Nat} {c : Con} {pl : Sem Bool} (F : Mg X.prog X.w X.K X.mg X.base C m k n c) (hr : Room k X.A) (h : WE X ρ M o fun d M1 => ∃ ns, d = .fig C ns ∧ WA X ρ M1 (e :: es) fun ds M2 => (D.fig C ns :: ds).length = n ∧ c (.fig C ns :: ds) M2 Φ)
    (hst : starEach (e :: es) X.env = (false, eval e X.env) :: starEach es X.env := by rfl) (hpl : (backTo pos (starEach es X.env)).any (·.1) = false := by rfl)
    (ht : eval (.Call (.Attribute o m apos) (e :: es) [] pos) X.env = (do
      let ov ← eval o X.env
      standAt apos.atName
      let (f, first) ← holding [ov] (getMethod ov m pl)
      callWith pos f first (backTo pos (starEach (e :: es) X.env)) (backToKw pos (keywordEach [] X.env))) := by rfl) : WE X ρ M (.Call (.Attribute o m apos) (e :: es) [] pos) Φ := .mk fun {Z} σ H Q en w k => by
  obtain ⟨f, fd, ps, F', hm, hb⟩ := F.ex
  refine eOf (pe_methSl (pl := pl) (E := E0) pe_sem F.sc hm (F'.raw hb .nil) hr pass0 pa_sem hst hpl ht) (h.run σ H _ en w fun v d H1 M1 e1 w1 r1 hz => ?_)
  obtain ⟨ns, rfl, hz⟩ := hz
  cases r1 with
  | @fig y _ dx _ h1 hd md1 md2 =>
    refine ⟨y, dx, _, rfl, .inr ⟨h1, hd⟩, hz.run σ H1 _ (en.mono e1) w1 fun vs ds H2 M2 e2 w2 r2 hy => ?_⟩
    show spD X.K n c ((V.ref y :: vs) ++ []) H2 Q E0
    rw [List.append_nil]
    exact ⟨.fig C ns :: ds, M2, Z, Φ, hy.1, .cons (Rep.mono e2 (.fig h1 hd md1 md2)) r2, w2, hy.2, k.step (e1.trans e2)⟩
/-! ### max, min of a list of ints -/
theorem we_maxL (hm : X.mg "max" = none) (h : WE X ρ M e fun d M1 => ∃ ns : List Int, LstOf M1 d (ns.map D.int) ∧ 0 < ns.length ∧ ∀ m, m ∈ ns → (∀ y, y ∈ ns → y ≤ m) → Φ (.int m) M1) (hc : X.calm = true := by rfl) (hg : Gl X "max" := by rfl)
    (he : starEach [e] X.env = (false, eval e X.env) :: starEach [] X.env := by rfl) (hpl : (backTo pos (starEach [] X.env)).any (·.1) = false := by rfl) : WE X ρ M (.Call (.Name "max" p) [e] [] pos) Φ :=
  we_callB (cr_max hc) hm (by decide +kernel) (wa_cons (h.imp fun d M1 hz => wa_nil fun Z vs H Q w rr k => by
    obtain ⟨ns, hl, h0, hz⟩ := hz
    cases rr with
    | cons r1 r2 =>
      cases r2
      obtain ⟨q, us, rfl, hq, rs⟩ := r1.asLst w hl
      obtain rfl := rs.ints
      exact ⟨q, ns, rfl, hq, h0, fun m h1 h2 => k.now w (.int m) (hz m h1 h2)⟩) he) hg (he := he) (hpl := hpl)
theorem we_minL (hm : X.mg "min" = none) (h : WE X ρ M e fun d M1 => ∃ ns : List Int, LstOf M1 d (ns.map D.int) ∧ 0 < ns.length ∧ ∀ m, m ∈ ns → (∀ y, y ∈ ns → m ≤ y) → Φ (.int m) M1) (hc : X.calm = true := by rfl) (hg : Gl X "min" := by rfl)
    (he : starEach [e] X.env = (false, eval e X.env) :: starEach [] X.env := by rfl) (hpl : (backTo pos (starEach [] X.env)).any (·.1) = false := by rfl) : WE X ρ M (.Call (.Name "min" p) [e] [] pos) Φ :=
  we_callB (cr_min hc) hm (by decide +kernel) (wa_cons (h.imp fun d M1 hz => wa_nil fun Z vs H Q w rr k => by
    obtain ⟨ns, hl, h0, hz⟩ := hz
    cases rr with
    | cons r1 r2 =>
      cases r2
      obtain ⟨q, us, rfl, hq, rs⟩ := r1.asLst w hl
      obtain rfl := rs.ints
      exact ⟨q, ns, rfl, hq, h0, fun m h1 h2 => k.now w (.int m) (hz m h1 h2)⟩) he) hg (he := he) (hpl := hpl)
end
end DL
/-! HK: a Hook that tells all that the data layer asks of the module: facts, defs, methods, properties, written dicts. -/
namespace HK
open PySem PySem.Spec PyProof.Rows L2 DL He
/-- a def of the text: where it stands -/
structure Dd where
  adr : PySem.W.Frag → Addr
  name : Str
  qual : Str
  st : Stmt
  dfl : List V := []
  dfg : List Str := []
/-- the defaults: shown ones, then what stands under names -/
def Dd.dvs (d : Dd) (K : PySem.W.Frag) : List V := d.dfl ++ d.dfg.map fun x => V.ref (ga K x)
def fnA (K : PySem.W.Frag) (a : Addr) : FnW := match K.lookup a with
  | some ⟨_, _, .func fd, _⟩ => some (fd.name, fd.qualname, fd.params, fd.body, fd.scope, fd.globals, fd.closure, fd.builtins)
  | _ => none
def Dd.val (d : Dd) : FnW := some (d.name, d.qual, defArgs d.st, .stmts (defBody d.st), defScope d.st, mainGlobals, [], builtinsNs)
def Dd.ok (K : PySem.W.Frag) (d : Dd) : Bool := PySem.W.keepIn K (.ref (d.adr K)) && (match K.lookup (d.adr K) with
  | some ⟨_, _, .func fd, _⟩ => PySem.W.codeIn K fd.code d.qual && dflB K fd.defaults (d.dvs K)
  | _ => false)
theorem Dd.funD {K : PySem.W.Frag} {d : Dd} (e : fnA K (d.adr K) = d.val) (c : d.ok K = true) : ∃ fd, FunD K d.name d.qual (defArgs d.st) (defBody d.st) (defScope d.st) (d.dvs K) [] (d.adr K) fd := by
  obtain ⟨kp, c2⟩ := Bool.and_eq_true_iff.mp c
  unfold fnA at e
  cases q : K.lookup (d.adr K) with
  | none => rw [q] at c2; cases c2
  | some o =>
    obtain ⟨oc, od, dt, osl⟩ := o
    rw [q] at c2 e
    cases dt with
    | func fd =>
      obtain ⟨x1, x2, x3, x4, x5, x6, x7, x8, x9, x10, x11, x12, x13, x14, x15⟩ := fd
      have e2 : (some (x1, x2, x3, x4, x5, x6, x7, x15) : FnW) = some (d.name, d.qual, defArgs d.st, .stmts (defBody d.st), defScope d.st, mainGlobals, [], builtinsNs) := e
      simp only [Option.some.injEq, Prod.mk.injEq] at e2
      obtain ⟨h1, h2, h3, h4, h5, h6, h7, h8⟩ := e2
      subst h1 h2 h3 h4 h5 h6 h7 h8
      obtain ⟨y1, y2⟩ := Bool.and_eq_true_iff.mp (show (PySem.W.codeIn K x13 d.qual && dflB K x8 (d.dvs K)) = true from c2)
      exact ⟨_, ⟨oc, od, x8, x9, x10, x11, x12, x13, x14, osl, rfl, q, y1, dflB_ok y2, .inl rfl⟩, kp⟩
    | _ => cases c2
/-! ### properties -/
/-- the getter of a property -/
def pgA (C m : Str) (K : PySem.W.Frag) : Addr := match PySem.W.recIn K (ma K (ga K C) m) "property" with
  | some (.ref g :: _) => g
  | _ => 0
def propB (K : PySem.W.Frag) (q : Str × Str) : Bool := eqO (PySem.W.findIn K (.ref (ga K q.1)) q.2) (some (some (.ref (ma K (ga K q.1) q.2)))) && (eqO (PySem.W.specialIn K (.ref (ma K (ga K q.1) q.2)) "__get__") (some (some (.builtin "property.__get__"))) &&
  (decide (PySem.W.takesIn K (.ref (ma K (ga K q.1) q.2)) = some true) && (match PySem.W.recIn K (ma K (ga K q.1) q.2) "property" with
  | some (.ref _ :: _) => true
  | _ => false)))
theorem propB_ok {K : PySem.W.Frag} {C m : Str} (h : propB K (C, m) = true) : PropOf K (ga K C) m (ma K (ga K C) m) (pgA C m K) := by
  obtain ⟨h1, h2⟩ := Bool.and_eq_true_iff.mp h
  obtain ⟨h3, h4⟩ := Bool.and_eq_true_iff.mp h2
  obtain ⟨h5, h6⟩ := Bool.and_eq_true_iff.mp h4
  refine ⟨eqO_ok h1, eqO_ok h3, of_decide_eq_true h5, ?_⟩
  unfold pgA
  cases q : PySem.W.recIn K (ma K (ga K C) m) "property" with
  | none => rw [q] at h6; cases h6
  | some l =>
    rw [q] at h6
    cases l with
    | nil => cases h6
    | cons v r =>
      cases v with
      | ref g => exact ⟨r, rfl⟩
      | _ => cases h6
/-! ### written dicts with text keys -/
/-- a value: a text, a tuple of texts, an int -/
inductive Dt where
  | s (z : Str) | t (zs : List Str) | i (n : Int)
def Dt.d : Dt → D
  | .s z => .str z
  | .t zs => .tup (zs.map D.str)
  | .i n => .int n
def Dt.ok (K : PySem.W.Frag) : Dt → Value → Bool
  | .s z, .str y _ => decide (y = z)
  | .i n, .int m _ => decide (m = n)
  | .t zs, .ref b => (match K.lookup b with
    | some ⟨.type c, _, .seq its _, _⟩ => decide (c = "tuple") && (decide (its.size ≤ sizeLine) && relAll (zs.map V.str) its.toList)
    | _ => false)
  | _, _ => false
theorem Dt.rep {K : PySem.W.Frag} {x : Dt} {u : Value} (h : x.ok K u = true) : ∃ v, RelV v u ∧ ∀ M Z H, Rep K M Z H v x.d := by
  cases x with
  | s z =>
    cases u with
    | str y t =>
      obtain rfl : y = z := of_decide_eq_true h
      exact ⟨.str y, ⟨t, rfl⟩, fun _ _ _ => .str y⟩
    | _ => cases h
  | i n =>
    cases u with
    | int y t =>
      obtain rfl : y = n := of_decide_eq_true h
      exact ⟨.int y, ⟨t, rfl⟩, fun _ _ _ => .int y⟩
    | _ => cases h
  | t zs =>
    cases u with
    | ref b =>
      refine ⟨.ref b, rfl, fun M Z H => ?_⟩
      cases q : K.lookup b with
      | none => simp only [Dt.ok, q] at h; cases h
      | some o =>
        obtain ⟨oc, od, dt, osl⟩ := o
        simp only [Dt.ok, q] at h
        cases oc with
        | type c =>
          cases dt with
          | seq its n =>
            obtain ⟨h1, h2⟩ := Bool.and_eq_true_iff.mp (show (decide (c = "tuple") && (decide (its.size ≤ sizeLine) && relAll (zs.map V.str) its.toList)) = true from h)
            obtain ⟨h3, h4⟩ := Bool.and_eq_true_iff.mp h2
            exact .tupK ⟨_, its, n, q, congrArg Value.type (of_decide_eq_true h1), rfl, of_decide_eq_true h3, relAll_ok h4⟩ (Reps.ofStrs zs)
          | _ => cases h
        | _ => cases dt <;> cases h
    | _ => cases h
def entsB (K : PySem.W.Frag) : List (Str × Dt) → List DictEntry → Bool
  | [], [] => true
  | q :: qs, e :: es => (match e.key with
    | .str x _ => decide (x = q.1)
    | _ => false) && (q.2.ok K e.val && entsB K qs es)
  | _, _ => false
theorem entsB_ok {K : PySem.W.Frag} : ∀ {qs : List (Str × Dt)} {es : List DictEntry}, entsB K qs es = true → ∃ kvs : List (Str × V), Paired (fun (p : Str × V) (e : DictEntry) => (∃ t, e.key = .str p.1 t) ∧ RelV p.2 e.val) kvs es ∧ kvs.map (·.1) = qs.map (·.1) ∧ ∀ M Z H, RepF K M Z H kvs (qs.map fun q => (q.1, q.2.d))
  | [], [], _ => ⟨[], .nil, rfl, fun _ _ _ => .nil⟩
  | [], _ :: _, h => by cases h
  | _ :: _, [], h => by cases h
  | q :: qs, e :: es, h => by
    obtain ⟨h1, h2⟩ := Bool.and_eq_true_iff.mp (show ((match e.key with | .str x _ => decide (x = q.1) | _ => false) && (q.2.ok K e.val && entsB K qs es)) = true from h)
    obtain ⟨h3, h4⟩ := Bool.and_eq_true_iff.mp h2
    obtain ⟨kvs, a1, a2, a3⟩ := entsB_ok h4
    obtain ⟨v, b1, b2⟩ := Dt.rep h3
    refine ⟨(q.1, v) :: kvs, .cons ⟨?_, b1⟩ a1, by rw [List.map_cons, List.map_cons, a2], fun M Z H => .cons (b2 M Z H) (a3 M Z H)⟩
    cases hk : e.key with
    | str x t =>
      rw [hk] at h1
      exact ⟨t, by rw [of_decide_eq_true h1]⟩
    | _ => rw [hk] at h1; cases h1
def dicB (K : PySem.W.Frag) (q : Str × List (Str × Dt)) : Bool := match K.lookup (ga K q.1) with
  | some ⟨_, _, .dict es _, _⟩ => entsB K q.2 es.toList
  | _ => false
theorem dicB_ok {K : PySem.W.Frag} {w : World} {x : Str} {qs : List (Str × Dt)} (h : dicB K (x, qs) = true) (hk : dicW K (ga K x) = some (keysIn w.params (qs.map (·.1)))) (nd : (qs.map (·.1)).Nodup) :
    ∃ kvs, WrD K w (ga K x) kvs ∧ ∀ M Z H, RepF K M Z H kvs (qs.map fun q => (q.1, q.2.d)) := by
  obtain ⟨es, n, h1, h2, h3⟩ := dicW_ok hk
  unfold dicB at h
  rw [h1] at h
  obtain ⟨kvs, a1, a2, a3⟩ := entsB_ok (show entsB K qs es.toList = true from h)
  exact ⟨kvs, ⟨es, n, h1, h3, h2, a1, by rw [a2]; exact nd⟩, a3⟩
/-! ### slots -/
def slAll (K : PySem.W.Frag) (G : Addr) : Nat → List Str → Bool
  | _, [] => true
  | i, f :: fs => eqO (PySem.W.findIn K (.ref G) f) (some (some (.ref (ma K G f)))) && (eqO (PySem.W.specialIn K (.ref (ma K G f)) "__get__") (some (some (.builtin "member_descriptor.__get__"))) && (decide (PySem.W.takesIn K (.ref (ma K G f)) = some true) && (decide (PySem.W.typeIn K (.ref (ma K G f)) = some (.type "member_descriptor")) && (decide (PySem.W.slotIn K (ma K G f) G = some i) && (decide (i < 1000) && slAll K G (i + 1) fs)))))
theorem slAll_ok {K : PySem.W.Frag} {G : Addr} : ∀ {fs : List Str} {k : Nat}, slAll K G k fs = true → ∀ (i : Nat) (f : Str), fs[i]? = some f → ∃ p, SlX.Slot1 K G f p (k + i)
  | [], _, _, i, f, h => by simp at h
  | f0 :: fs, k, hb, i, f, h => by
    obtain ⟨h1, hb⟩ := Bool.and_eq_true_iff.mp (show (eqO (PySem.W.findIn K (.ref G) f0) (some (some (.ref (ma K G f0)))) && (eqO (PySem.W.specialIn K (.ref (ma K G f0)) "__get__") (some (some (.builtin "member_descriptor.__get__"))) && (decide (PySem.W.takesIn K (.ref (ma K G f0)) = some true) && (decide (PySem.W.typeIn K (.ref (ma K G f0)) = some (.type "member_descriptor")) && (decide (PySem.W.slotIn K (ma K G f0) G = some k) && (decide (k < 1000) && slAll K G (k + 1) fs)))))) = true from hb)
    obtain ⟨h2, hb⟩ := Bool.and_eq_true_iff.mp hb
    obtain ⟨h3, hb⟩ := Bool.and_eq_true_iff.mp hb
    obtain ⟨h4, hb⟩ := Bool.and_eq_true_iff.mp hb
    obtain ⟨h5, hb⟩ := Bool.and_eq_true_iff.mp hb
    obtain ⟨h6, hb⟩ := Bool.and_eq_true_iff.mp hb
    cases i with
    | zero =>
      obtain rfl := Option.some.inj h
      exact ⟨_, eqO_ok h1, eqO_ok h2, of_decide_eq_true h3, of_decide_eq_true h4, of_decide_eq_true h5, of_decide_eq_true h6⟩
    | succ i =>
      obtain ⟨p, q⟩ := slAll_ok hb i f h
      exact ⟨p, by rw [show k + (i + 1) = k + 1 + i by omega]; exact q⟩
def slB (K : PySem.W.Frag) (q : Str × List Str) : Bool := PySem.W.plainGet K (ga K q.1) Str.empty && (PySem.W.isClsIn K (ga K q.1) && (PySem.W.plainOver K (ga K q.1) && (eqO (PySem.W.findIn K (.ref (ga K q.1)) "__setattr__") (some (some (.builtin "object.__setattr__"))) && slAll K (ga K q.1) 0 q.2)))
theorem slB_ok {K : PySem.W.Frag} {x : Str} {fs : List Str} (h : slB K (x, fs) = true) : SlC K (ga K x) fs := by
  obtain ⟨h1, h⟩ := Bool.and_eq_true_iff.mp h
  obtain ⟨h2, h⟩ := Bool.and_eq_true_iff.mp h
  obtain ⟨h3, h⟩ := Bool.and_eq_true_iff.mp h
  obtain ⟨h4, h⟩ := Bool.and_eq_true_iff.mp h
  refine ⟨⟨h1, h2, h3, eqO_ok h4⟩, fun i f hf => ?_⟩
  obtain ⟨p, q⟩ := slAll_ok h i f hf
  exact ⟨p, by rw [Nat.zero_add] at q; exact q⟩
/-! ### classes with an own == -/
def eqB (K : PySem.W.Frag) (x : Str) : Bool := PySem.W.selfFirst K (ga K x) && ((Fa.cls x).ok K && (eqO (PySem.W.findIn K (.ref (ga K x)) "__class__") (some (some (.builtin "object.__class__"))) && (eqO (PySem.W.specialIn K (.builtin "object.__class__") "__get__") (some (some (.builtin "getset_descriptor.__get__"))) &&
  (decide (PySem.W.takesIn K (.builtin "object.__class__") = some true) && (decide (PySem.W.mroIn K (ga K x) (.type "object") = some true) && eqO (PySem.W.findIn K (.ref (ga K x)) "__ne__") (some (some (.builtin "object.__ne__"))))))))
theorem eqB_ok {K : PySem.W.Frag} {x : Str} (h : eqB K x = true) : PySem.W.selfFirst K (ga K x) = true ∧ OwnC K (ga K x) ∧ PySem.W.findIn K (.ref (ga K x)) "__ne__" = some (some (.builtin "object.__ne__")) := by
  obtain ⟨h0, h⟩ := Bool.and_eq_true_iff.mp h
  obtain ⟨h1, h⟩ := Bool.and_eq_true_iff.mp h
  obtain ⟨h2, h⟩ := Bool.and_eq_true_iff.mp h
  obtain ⟨h3, h⟩ := Bool.and_eq_true_iff.mp h
  obtain ⟨h4, h⟩ := Bool.and_eq_true_iff.mp h
  obtain ⟨h5, h⟩ := Bool.and_eq_true_iff.mp h
  exact ⟨h0, ⟨cls_ok h1, eqO_ok h2, eqO_ok h3, of_decide_eq_true h4, of_decide_eq_true h5⟩, eqO_ok h⟩
/-! ### errors of the package -/
def nonV : Value → Bool
  | .none => true
  | _ => false
theorem nonV_ok {v : Value} (h : nonV v = true) : v = .none := by cases v <;> first | rfl | cases h
/-- the class of errors at C -/
def excB (K : PySem.W.Frag) (C : Addr) : Bool := match K.lookup C with
  | some ⟨.type t, _, .cls cd, sl⟩ => decide (t = "type") && (match cd.mro, sl.toList with
    | .ref C' :: bm, [_, _, _, _, some (.builtin n), _] => decide (C' = C) && (decide (n = "ValueError.__new__") && (!cd.hasDel && (cd.hasDict && PySem.HandSPX.refsVE bm)))
    | _, _ => false)
  | _ => false
theorem excB_ok {K : PySem.W.Frag} {C : Addr} (q : excB K C = true) : ∃ nm qn N bs bm sn sub ab col dd k0 k1 k2 k3 k5, K.lookup C = some (excClassObj nm qn C N bs bm true sn sub ab col dd k0 k1 k2 k3 k5 "ValueError.__new__") ∧ PySem.HandSPX.refsVE bm = true := by
  unfold excB at q
  split at q
  · rename_i t dd cd sl ho
    obtain ⟨h0, q0⟩ := Bool.and_eq_true_iff.mp q
    clear q
    have h0 := of_decide_eq_true h0
    split at q0
    · rename_i C' bm k0 k1 k2 k3 n k5 hm hs
      obtain ⟨h1, q1⟩ := Bool.and_eq_true_iff.mp q0
      obtain ⟨h2, q2⟩ := Bool.and_eq_true_iff.mp q1
      obtain ⟨h3, q3⟩ := Bool.and_eq_true_iff.mp q2
      obtain ⟨h4, h5⟩ := Bool.and_eq_true_iff.mp q3
      have h1 := of_decide_eq_true h1
      have h2 := of_decide_eq_true h2
      clear q0 q1 q2 q3
      obtain ⟨nm, bs, mro, ns, qn, hd, sn, sub, ab, col, del⟩ := cd
      dsimp only at hm h3 h4
      have h6 : del = false := by cases del <;> first | rfl | cases h3
      clear h3
      obtain ⟨l⟩ := sl
      simp only at hs
      subst h0 h1 h2 hm h4 h6 hs
      exact ⟨nm, qn, ns, bs, bm, sn, sub, ab, col, dd, k0, k1, k2, k3, k5, ho, h5⟩
    · cases q0
  · cases q
/-- what XL.ErTxt and XL.ErV ask of the class of the name x -/
def erB (K : PySem.W.Frag) (x : Str) : Bool := [excB K (ga K x), PySem.W.excInitIn K (ga K x) [.type "ValueError", .type "Exception", .type "BaseException", .type "object"] "ValueError.__new__",
  eqO (PySem.W.findIn K (.ref (ga K x)) "__setattr__") (some (some (.builtin "object.__setattr__"))), eqO (PySem.W.findIn K (.ref (ga K x)) "__getattribute__") (some (some (.builtin "BaseException.__getattribute__"))), eqO (PySem.W.findIn K (.ref (ga K x)) "__getattr__") (some none),
  eqO (PySem.W.findIn K (.ref (ga K x)) "value") (some none), eqO (PySem.W.findIn K (.ref (ga K x)) "__init__") (some (some (.ref (ma K (ga K "CrowdError") "__init__")))), PySem.W.keepIn K (.ref (ga K x)), decide (PySem.W.subIn K (.ref (ga K x)) (.type "BaseException") = some true), decide (PySem.W.subIn K (.ref (ga K x)) (.type "ValueError") = some true),
  decide (PySem.W.subIn K (.ref (ga K x)) (.ref (ga K "CrowdError")) = some true), decide (PySem.W.typeIn K (.ref (ga K x)) = some (.type "type")), PySem.W.hasDictIn K (ga K x), eqO (PySem.W.ks_superIn K (ga K x) (ga K "CrowdError") "__init__") (some (some (.builtin "ValueError.__init__"))),
  (PySem.W.clsIn K (ga K x)).isSome, eqO (PySem.W.findIn K (.ref (ga K x)) "__class__") (some (some (.builtin "object.__class__"))), eqO (PySem.W.specialIn K (.builtin "object.__class__") "__get__") (some (some (.builtin "getset_descriptor.__get__"))), decide (PySem.W.takesIn K (.builtin "object.__class__") = some true), decide (PySem.W.mroIn K (ga K x) (.type "object") = some true), decide (PySem.W.kitOne K (.type "NoneType") (.ref (ga K x)) = some false), decide (PySem.W.exmOne K (.ref (ga K x)) (.ref (ga K "CrowdError")) = some true)].all id
theorem all_cons {b : Bool} {l : List Bool} (h : (b :: l).all id = true) : b = true ∧ l.all id = true := by
  rw [List.all_cons] at h
  exact Bool.and_eq_true_iff.mp h
theorem erB_ok {K : PySem.W.Frag} {mg : Str → Option Value} {x : Str} (h : erB K x = true) (hm : mg x = some (.ref (ga K x))) : XL.ErTxt K mg x (ga K x) (ga K "CrowdError") (ma K (ga K "CrowdError") "__init__") ∧ XL.ErV K (ga K x) ∧ PySem.W.kitOne K (.type "NoneType") (.ref (ga K x)) = some false ∧ PySem.W.exmOne K (.ref (ga K x)) (.ref (ga K "CrowdError")) = some true := by
  obtain ⟨h1, h⟩ := all_cons h
  obtain ⟨h2, h⟩ := all_cons h
  obtain ⟨h3, h⟩ := all_cons h
  obtain ⟨h4, h⟩ := all_cons h
  obtain ⟨h5, h⟩ := all_cons h
  obtain ⟨h6, h⟩ := all_cons h
  obtain ⟨h7, h⟩ := all_cons h
  obtain ⟨h8, h⟩ := all_cons h
  obtain ⟨h9, h⟩ := all_cons h
  obtain ⟨h10, h⟩ := all_cons h
  obtain ⟨h11, h⟩ := all_cons h
  obtain ⟨h12, h⟩ := all_cons h
  obtain ⟨h13, h⟩ := all_cons h
  obtain ⟨h14, h⟩ := all_cons h
  obtain ⟨h15, h⟩ := all_cons h
  obtain ⟨h16, h⟩ := all_cons h
  obtain ⟨h17, h⟩ := all_cons h
  obtain ⟨h18, h⟩ := all_cons h
  obtain ⟨h19, h⟩ := all_cons h
  obtain ⟨h20, h⟩ := all_cons h
  obtain ⟨h21, h⟩ := all_cons h
  exact ⟨⟨hm, excB_ok h1, h2, eqO_ok h3, eqO_ok h4, eqO_ok h5, eqO_ok h6, eqO_ok h7, h8, of_decide_eq_true h9, of_decide_eq_true h10, of_decide_eq_true h11, of_decide_eq_true h12, h13, eqO_ok h14⟩,
    ⟨h15, eqO_ok h4, eqO_ok h5, of_decide_eq_true h9, h13, eqO_ok h6, eqO_ok h16, eqO_ok h17, of_decide_eq_true h18, of_decide_eq_true h19⟩, of_decide_eq_true h20, of_decide_eq_true h21⟩
/-- a def with a closure, the closure left out -/
def fnZ (K : PySem.W.Frag) (a : Addr) : FnW := match K.lookup a with
  | some ⟨_, _, .func fd, _⟩ => some (fd.name, fd.qualname, fd.params, fd.body, fd.scope, fd.globals, [], fd.builtins)
  | _ => none
def crA (K : PySem.W.Frag) : Addr := ma K (ga K "CrowdError") "__init__"
def crVal (st : Stmt) : FnW := some ("__init__", "CrowdError.__init__", defArgs st, .stmts (defBody st), defScope st, mainGlobals, [], builtinsNs)
/-- what XL.CrTxt asks besides -/
def crB (K : PySem.W.Frag) (file : Str) : Bool := (match K.lookup (crA K) with
    | some ⟨_, _, .func fd, _⟩ => (match fd.closure, fd.code with
      | [(y, cl)], .ref cc => decide (y = "__class__") && (nonV fd.defaults && (nonV fd.kwdefaults && (PySem.W.codeIn K (.ref cc) "CrowdError.__init__" && ((match K.lookup cc with
        | some ⟨_, _, .fields vs, _⟩ => (match (vs[2]? : Option Value) with
          | some (.str f _) => decide (f = file)
          | _ => false)
        | _ => false) && (match K.lookup cl with
        | some ⟨_, _, .cell (some (.ref b)), _⟩ => decide (b = ga K "CrowdError")
        | _ => false)))))
      | _, _ => false)
    | _ => false) && ((PySem.W.clsIn K (ga K "CrowdError")).isSome && (decide (PySem.W.typeIn K (.ref (crA K)) = some (.type "function")) && eqO (PySem.W.nsIn K cStatics "thirdparty.any") (some none)))
theorem clsIn_ob {K : PySem.W.Frag} {C : Addr} (h : (PySem.W.clsIn K C).isSome = true) : ∃ o cd, K.lookup C = some o ∧ o.data = .cls cd := by
  unfold PySem.W.clsIn at h
  split at h
  · rename_i ho
    exact ⟨_, _, ho, rfl⟩
  · cases h
theorem crB_ok {P : Program} {K : PySem.W.Frag} {file : Str} {st : Stmt} (h : crB K file = true) (e : fnZ K (crA K) = crVal st) (hf : (P.main.file == file) = true) (hs : (P.main.scope.names.lookup ("super" : Str)).isSome = false) :
    ∃ cl, XL.CrTxt P K "CrowdError.__init__" (defArgs st) (defBody st) (defScope st) (ga K "CrowdError") (crA K) cl := by
  obtain ⟨h1, h⟩ := Bool.and_eq_true_iff.mp h
  obtain ⟨h2, h⟩ := Bool.and_eq_true_iff.mp h
  obtain ⟨h3, h4⟩ := Bool.and_eq_true_iff.mp h
  unfold fnZ at e
  cases q : K.lookup (crA K) with
  | none => rw [q] at e; cases e
  | some o =>
    obtain ⟨oc, od, dt, osl⟩ := o
    rw [q] at h1 e
    cases dt with
    | func fd =>
      obtain ⟨x1, x2, x3, x4, x5, x6, x7, x8, x9, x10, x11, x12, x13, x14, x15⟩ := fd
      have e2 : (some (x1, x2, x3, x4, x5, x6, [], x15) : FnW) = (some (("__init__" : Str), ("CrowdError.__init__" : Str), defArgs st, .stmts (defBody st), defScope st, mainGlobals, [], builtinsNs) : FnW) := e
      simp only [Option.some.injEq, Prod.mk.injEq] at e2
      obtain ⟨g1, g2, g3, g4, g5, g6, _, g8⟩ := e2
      subst g1 g2 g3 g4 g5 g6 g8
      dsimp only at h1
      split at h1
      · rename_i y cl cc
        obtain ⟨k1, q1⟩ := Bool.and_eq_true_iff.mp h1
        obtain ⟨k2, q2⟩ := Bool.and_eq_true_iff.mp q1
        obtain ⟨k3, q3⟩ := Bool.and_eq_true_iff.mp q2
        obtain ⟨k4, q4⟩ := Bool.and_eq_true_iff.mp q3
        obtain ⟨k5, k6⟩ := Bool.and_eq_true_iff.mp q4
        clear h1 q1 q2 q3 q4
        have k1 := of_decide_eq_true k1
        have k2 := nonV_ok k2
        have k3 := nonV_ok k3
        subst k1 k2 k3
        refine ⟨cl, ⟨?_, ?_, clsIn_ob h2, of_decide_eq_true h3, hs, eqO_ok h4⟩⟩
        · split at k5
          · rename_i c1 c2 vs c3 hcc2
            split at k5
            · rename_i f tf hv
              have k5 := of_decide_eq_true k5
              subst k5
              exact ⟨oc, od, x10, x11, x12, cc, x14, osl, _, vs, f, tf, q, k4, hcc2, rfl, hv, hf⟩
            · cases k5
          · cases k5
        · split at k6
          · rename_i c1 c2 b c3 hcl2
            have k6 := of_decide_eq_true k6
            subst k6
            exact ⟨_, hcl2, rfl⟩
          · cases k6
      · cases h1
    | _ => cases e
/-- isinstance of classes -/
def kiB (K : PySem.W.Frag) (q : Str × Str × Bool) : Bool := decide (PySem.W.kitOne K (.ref (ga K q.1)) (.ref (ga K q.2.1)) = some q.2.2)
/-- a def that makes lambdas: its table is none of what is known -/
def tbB (K : PySem.W.Frag) (x : Str) : Bool := match PySem.W.tabIn K x with
  | some p => (K.lookup p.2).isNone
  | none => false
/-- two such have two tables -/
def tdB (K : PySem.W.Frag) (q : Str × Str) : Bool := decide ((PySem.W.tabIn K q.1).map (·.2) ≠ (PySem.W.tabIn K q.2).map (·.2))
theorem tbB_ok {K : PySem.W.Frag} {x : Str} (h : tbB K x = true) : ∃ p, PySem.W.tabIn K x = some p ∧ K.lookup p.2 = none := by
  unfold tbB at h
  split at h
  · rename_i p e
    refine ⟨p, e, ?_⟩
    cases q : K.lookup p.2 with
    | none => rfl
    | some o => rw [q] at h; cases h
  · cases h
/-! ### the Hook -/
structure Sp where
  fa : List Fa
  dd : List Dd
  pr : List (Str × Str)
  ta : List (Str × List (Str × Dt))
  sl : List (Str × List Str)
  eq : List Str
  tx : List (Str × List Str)
  er : List Str := []
  ki : List (Str × Str × Bool) := []
  tb : List Str := []
  td : List (Str × Str) := []
  ba : List (Str × Stmt) := []
abbrev Al : Type := Bool × List FnW × List (Option (List (Option (Str × Int)))) × List FnW
def bosK (S : Sp) (K : PySem.W.Frag) : Bool := (S.fa.all fun f => f.ok K) && ((S.dd.all fun d => d.ok K) && ((S.pr.all fun q => propB K q) && ((S.ta.all fun q => dicB K q) && ((S.sl.all fun q => slB K q) && ((S.eq.all fun x => eqB K x) && ((S.tx.all fun q => (Dt.t q.2).ok K (.ref (ga K q.1))) && ((S.er.all fun x => erB K x) && ((S.ki.all fun q => kiB K q) && ((S.tb.all fun x => tbB K x) && ((S.td.all fun q => tdB K q) && S.ba.all fun q => crB K q.1))))))))))
def obsK (S : Sp) (K : PySem.W.Frag) : Al := (bosK S K, S.dd.map (fun d => fnA K (d.adr K)), S.ta.map (fun q => dicW K (ga K q.1)), S.ba.map fun _ => fnZ K (crA K))
def valK (S : Sp) (w : World) : Al := (true, S.dd.map Dd.val, S.ta.map (fun q => some (keysIn w.params (q.2.map (·.1)))), S.ba.map fun q => crVal q.2)
def Says (S : Sp) (w : World) (K : PySem.W.Frag) : Prop := obsK S K = valK S w
/-- what these names of the module reach, step by step -/
def lv0 (ns : List Str) (g : Addr → Option Obj) : List Addr := match g mainGlobals with
  | some ⟨_, _, .dict es _, _⟩ => es.toList.flatMap fun e => match e.key with
    | .str y _ => if ns.contains y then refV e.val else []
    | _ => []
  | _ => []
def refsX (o : Obj) : List Addr := refsD o ++ match o.data with
  | .func fd => fd.closure.map (·.2)
  | _ => []
def lvs (g : Addr → Option Obj) : Nat → List Addr → List Addr
  | 0, l => l
  | n + 1, l => l ++ lvs g n (l.flatMap fun a => match g a with
    | some o => refsX o
    | none => [])
def asN (n : Nat) (ns ms : List Str) (g : Addr → Option Obj) : List Addr := mainGlobals :: cStatics :: (lvs g n (lv0 ns g) ++ lvs g 1 (lv0 ms g))
def obsG (n : Nat) (ns ms : List Str) (S : Sp) (g : Addr → Option Obj) : Al := obsK S (frG g (asN n ns ms g))
def hook (n : Nat) (ns ms : List Str) (S : Sp) : PySem.W.Hook where
  α := Al
  obs := fun s => obsG n ns ms S s.heap.get?
  val := fun w => valK S w
  says := fun w h => ∃ K : PySem.W.Frag, K.In h ∧ Says S w K
  of := fun _ _ e => ⟨_, frG_in, e⟩
  keeps := fun _ _ _ ⟨K, hK, c⟩ k => ⟨K, PySem.W.Frag.In.keeps hK k, c⟩
theorem obsG_eq {n : Nat} {ns ms : List Str} {S : Sp} {g : Addr → Option Obj} {s : Shared} (h : ∀ a, g a = s.heap.get? a) : obsG n ns ms S g = (hook n ns ms S).obs s := by
  have e : g = s.heap.get? := funext h
  rw [e] <;> rfl
section
variable {S : Sp} {w : World} {K : PySem.W.Frag}
theorem Says.bos (c : Says S w K) : (((((((((((S.fa.all fun f => f.ok K) = true ∧ (S.dd.all fun d => d.ok K) = true) ∧ (S.pr.all fun q => propB K q) = true) ∧ (S.ta.all fun q => dicB K q) = true) ∧ (S.sl.all fun q => slB K q) = true) ∧ (S.eq.all fun x => eqB K x) = true) ∧ (S.tx.all fun q => (Dt.t q.2).ok K (.ref (ga K q.1))) = true) ∧ (S.er.all fun x => erB K x) = true) ∧ (S.ki.all fun q => kiB K q) = true) ∧ (S.tb.all fun x => tbB K x) = true) ∧ (S.ba.all fun q => crB K q.1) = true) ∧ (S.td.all fun q => tdB K q) = true := by
  have b : bosK S K = true := congrArg (fun z : Al => z.1) c
  unfold bosK at b
  simp only [Bool.and_eq_true] at b
  obtain ⟨a1, a2, a3, a4, a5, a6, a7, a8, a9, a10, a12, a11⟩ := b
  exact ⟨⟨⟨⟨⟨⟨⟨⟨⟨⟨⟨a1, a2⟩, a3⟩, a4⟩, a5⟩, a6⟩, a7⟩, a8⟩, a9⟩, a10⟩, a11⟩, a12⟩
theorem Says.fa (c : Says S w K) {f : Fa} (h : f ∈ S.fa) : f.ok K = true := List.all_eq_true.mp c.bos.1.1.1.1.1.1.1.1.1.1.1 f h
theorem Says.pr (c : Says S w K) {q : Str × Str} (h : q ∈ S.pr) : propB K q = true := List.all_eq_true.mp c.bos.1.1.1.1.1.1.1.1.1.2 q h
theorem Says.dd (c : Says S w K) (i : Nat) {d : Dd} (h : S.dd[i]? = some d) : ∃ fd, FunD K d.name d.qual (defArgs d.st) (defBody d.st) (defScope d.st) (d.dvs K) [] (d.adr K) fd := by
  have e : S.dd.map (fun d => fnA K (d.adr K)) = S.dd.map Dd.val := congrArg (fun z : Al => z.2.1) c
  have e2 : (S.dd.map fun d => fnA K (d.adr K))[i]? = (S.dd.map Dd.val)[i]? := by rw [e]
  rw [List.getElem?_map, List.getElem?_map, h] at e2
  exact Dd.funD (Option.some.inj e2) (List.all_eq_true.mp c.bos.1.1.1.1.1.1.1.1.1.1.2 d (List.mem_of_getElem? h))
theorem Says.ta (c : Says S w K) (i : Nat) {x : Str} {qs : List (Str × Dt)} (h : S.ta[i]? = some (x, qs)) (nd : (qs.map (·.1)).Nodup) : ∃ kvs, WrD K w (ga K x) kvs ∧ ∀ M Z H, RepF K M Z H kvs (qs.map fun q => (q.1, q.2.d)) := by
  have e : S.ta.map (fun q => dicW K (ga K q.1)) = S.ta.map fun q => some (keysIn w.params (q.2.map (·.1))) := congrArg (fun z : Al => z.2.2.1) c
  have e2 : (S.ta.map fun q => dicW K (ga K q.1))[i]? = (S.ta.map fun q => some (keysIn w.params (q.2.map (·.1))))[i]? := by rw [e]
  rw [List.getElem?_map, List.getElem?_map, h] at e2
  exact dicB_ok (List.all_eq_true.mp c.bos.1.1.1.1.1.1.1.1.2 _ (List.mem_of_getElem? h)) (Option.some.inj e2) nd
theorem Says.sl (c : Says S w K) {x : Str} {fs : List Str} (h : (x, fs) ∈ S.sl) : SlC K (ga K x) fs := slB_ok (List.all_eq_true.mp c.bos.1.1.1.1.1.1.1.2 _ h)
theorem Says.eqs (c : Says S w K) {x : Str} (h : x ∈ S.eq) : PySem.W.selfFirst K (ga K x) = true ∧ OwnC K (ga K x) ∧ PySem.W.findIn K (.ref (ga K x)) "__ne__" = some (some (.builtin "object.__ne__")) := eqB_ok (List.all_eq_true.mp c.bos.1.1.1.1.1.1.2 _ h)
theorem Says.txs (c : Says S w K) {x : Str} {zs : List Str} (h : (x, zs) ∈ S.tx) : ∀ M Z H, Rep K M Z H (.ref (ga K x)) (.tup (zs.map D.str)) := by
  obtain ⟨v, rv, hr⟩ := Dt.rep (List.all_eq_true.mp c.bos.1.1.1.1.1.2 _ h)
  have e : v = .ref (ga K x) := by
    cases v with
    | ref a =>
      have : Value.ref (ga K x) = Value.ref a := rv
      cases this; rfl
    | _ => first | (obtain ⟨t, e⟩ := rv; cases e) | cases rv
  intro M Z H
  have := hr M Z H
  rw [e] at this
  exact this
theorem Says.ers (c : Says S w K) {x : Str} (h : x ∈ S.er) : erB K x = true := List.all_eq_true.mp c.bos.1.1.1.1.2 _ h
theorem Says.kis (c : Says S w K) {x y : Str} {b : Bool} (h : (x, y, b) ∈ S.ki) : PySem.W.kitOne K (.ref (ga K x)) (.ref (ga K y)) = some b := of_decide_eq_true (List.all_eq_true.mp c.bos.1.1.1.2 _ h)
theorem Says.tbs (c : Says S w K) {x : Str} (h : x ∈ S.tb) : ∃ p, PySem.W.tabIn K x = some p ∧ K.lookup p.2 = none := tbB_ok (List.all_eq_true.mp c.bos.1.1.2 _ h)
theorem Says.tds (c : Says S w K) {x y : Str} (h : (x, y) ∈ S.td) : (PySem.W.tabIn K x).map (·.2) ≠ (PySem.W.tabIn K y).map (·.2) := of_decide_eq_true (List.all_eq_true.mp c.bos.2 _ h)
theorem Says.crs (c : Says S w K) {file : Str} {st : Stmt} (h : S.ba = [(file, st)]) : crB K file = true ∧ fnZ K (crA K) = crVal st := by
  have e : S.ba.map (fun _ => fnZ K (crA K)) = S.ba.map fun q => crVal q.2 := congrArg (fun z : Al => z.2.2.2) c
  have b := c.bos.1.2
  rw [h] at e b
  exact ⟨List.all_eq_true.mp b _ List.mem_cons_self, (List.cons.inj e).1⟩
/-- one of the errors -/
theorem Says.err {P : Program} {mg : Str → Option Value} (c : Says S w K) {file : Str} {st : Stmt} {x : Str} (hb : S.ba = [(file, st)]) (sh : XL.Shape (defArgs st) (defBody st) (defScope st)) (hf : (P.main.file == file) = true) (hs : (P.main.scope.names.lookup ("super" : Str)).isSome = false) (hsup : mg "super" = none) (h : x ∈ S.er) (hm : mg x = some (.ref (ga K x))) :
    XL.Er P K mg x (ga K x) ∧ XL.ErV K (ga K x) ∧ PySem.W.kitOne K (.type "NoneType") (.ref (ga K x)) = some false ∧ PySem.W.exmOne K (.ref (ga K x)) (.ref (ga K "CrowdError")) = some true := by
  obtain ⟨h1, h2⟩ := c.crs hb
  obtain ⟨cl, T⟩ := crB_ok h1 h2 hf hs
  obtain ⟨G, V⟩ := erB_ok (c.ers h) hm
  exact ⟨⟨⟨_, _, cl, _, _, _, _, T, sh, G⟩, hsup⟩, V⟩
end
/-! ### a head's run in parts -/
def Sp.app (S T : Sp) : Sp := ⟨S.fa ++ T.fa, S.dd ++ T.dd, S.pr ++ T.pr, S.ta ++ T.ta, S.sl ++ T.sl, S.eq ++ T.eq, S.tx ++ T.tx, S.er ++ T.er, S.ki ++ T.ki, S.tb ++ T.tb, S.td ++ T.td, S.ba ++ T.ba⟩
def Sp.lo (S : Sp) (a b : Nat) : Sp := ⟨S.fa.take a, S.dd.take b, S.pr, S.ta, S.sl, S.eq, S.tx, [], [], [], [], []⟩
def Sp.hi (S : Sp) (a b : Nat) : Sp := ⟨S.fa.drop a, S.dd.drop b, [], [], [], [], [], S.er, S.ki, S.tb, S.td, S.ba⟩
theorem Sp.cut (S : Sp) (a b : Nat) : (S.lo a b).app (S.hi a b) = S := by
  obtain ⟨fa, dd, pr, ta, sl, eq, tx, er, ki, tb, td, ba⟩ := S
  unfold Sp.app Sp.lo Sp.hi
  simp only [List.take_append_drop, List.append_nil, List.nil_append]
theorem obsK_app {S T : Sp} {w : World} {K : PySem.W.Frag} (h1 : obsK S K = valK S w) (h2 : obsK T K = valK T w) : obsK (S.app T) K = valK (S.app T) w := by
  have a1 : bosK S K = true := congrArg (fun z : Al => z.1) h1
  have a2 : bosK T K = true := congrArg (fun z : Al => z.1) h2
  have b1 : S.dd.map (fun d => fnA K (d.adr K)) = S.dd.map Dd.val := congrArg (fun z : Al => z.2.1) h1
  have b2 : T.dd.map (fun d => fnA K (d.adr K)) = T.dd.map Dd.val := congrArg (fun z : Al => z.2.1) h2
  have c1 : S.ta.map (fun q => dicW K (ga K q.1)) = S.ta.map fun q => some (keysIn w.params (q.2.map (·.1))) := congrArg (fun z : Al => z.2.2.1) h1
  have c2 : T.ta.map (fun q => dicW K (ga K q.1)) = T.ta.map fun q => some (keysIn w.params (q.2.map (·.1))) := congrArg (fun z : Al => z.2.2.1) h2
  have d1 : S.ba.map (fun _ => fnZ K (crA K)) = S.ba.map fun q => crVal q.2 := congrArg (fun z : Al => z.2.2.2) h1
  have d2 : T.ba.map (fun _ => fnZ K (crA K)) = T.ba.map fun q => crVal q.2 := congrArg (fun z : Al => z.2.2.2) h2
  have a : bosK (S.app T) K = true := by
    unfold bosK at a1 a2 ⊢
    unfold Sp.app
    simp only [Bool.and_eq_true] at a1 a2
    simp only [List.all_append, a1, a2, Bool.and_self, Bool.and_true, Bool.true_and]
  unfold obsK valK
  rw [a]
  unfold Sp.app
  simp only [List.map_append, b1, b2, c1, c2, d1, d2]
theorem map_pair {α β γ δ ε ζ : Type} {X : Option α} {p : α → β} {q : α → γ} {o1 : α → δ} {o2 : α → ε} {o : α → ζ} {u : β} {v : γ} {w1 : δ} {w2 : ε} {w : ζ} (h1 : X.map (fun s => (p s, q s, o1 s)) = some (u, v, w1)) (h2 : X.map (fun s => (p s, q s, o2 s)) = some (u, v, w2)) (k : ∀ s, o1 s = w1 → o2 s = w2 → o s = w) : X.map (fun s => (p s, q s, o s)) = some (u, v, w) := by
  cases X with
  | none => cases h1
  | some s =>
    have e1 := Option.some.inj h1
    have e2 := Option.some.inj h2
    show some (p s, q s, o s) = _
    rw [show p s = u from congrArg (fun z => z.1) e1, show q s = v from congrArg (fun z => z.2.1) e1, k s (congrArg (fun z => z.2.2) e1) (congrArg (fun z => z.2.2) e2)]
abbrev obT (n : Nat) (ns ms : List Str) (S : Sp) (s : PySem.W.SharedT) : Al := obsG n ns ms S (HandSHeadRun.getT s)
theorem run_cut {r : PySem.W.OpenRow} {q : Program} {n M : Nat} {ns ms loose : List Str} {S : Sp} {w : World} (a b : Nat) (h1 : HandSHeadRun.RunEq r q (hook n ns ms (S.lo a b)) (obT n ns ms (S.lo a b)) M loose w) (h2 : HandSHeadRun.RunEq r q (hook n ns ms (S.hi a b)) (obT n ns ms (S.hi a b)) M loose w) : HandSHeadRun.RunEq r q (hook n ns ms S) (obT n ns ms S) M loose w := fun os => by
  refine map_pair (h1 os) (h2 os) fun s e1 e2 => ?_
  have := obsK_app (S := S.lo a b) (T := S.hi a b) (w := w) e1 e2
  rw [Sp.cut] at this
  exact this
end HK
/-! PM1: plan trees, their texts, and how a text falls into its parts. No program here. -/
namespace PL
open PySem SX TL

/-- a plan: a person, an unknown crowd, so many copies, a row; false: beside, true: introduced -/
inductive T where
  | one | name (x : List Nat) | cop (s : Bool) (n : Nat) (t : T) | row (s : Bool) (ts : List T)

def opn (s : Bool) : Nat := if s then 123 else 91
def cls (s : Bool) : Nat := if s then 125 else 93
def sgn (s : Bool) : Nat := if s then 42 else 43
def sep (s : Bool) : List Nat := [32, sgn s, 32]
mutual
def txt : T → List Nat
  | .one => [49]
  | .name x => x
  | .cop s n t => opn s :: (numL n ++ 32 :: (txt t ++ [cls s]))
  | .row s ts => 40 :: (joinL (sep s) (txts ts) ++ [41])
def txts : List T → List (List Nat)
  | [] => []
  | t :: ts => txt t :: txts ts
end
theorem txts_map : ∀ ts : List T, txts ts = ts.map txt
  | [] => rfl
  | t :: ts => by rw [txts, txts_map ts, List.map_cons]

def letter (c : Nat) : Bool := decide (97 ≤ c) && decide (c ≤ 122)
mutual
/-- a plan as the texts allow it -/
def Good : T → Prop
  | .one => True
  | .name x => x ≠ [] ∧ x.length ≤ 8 ∧ ∀ c ∈ x, letter c = true
  | .cop _ n t => 2 ≤ n ∧ n ≤ 10 ^ 30 ∧ Good t
  | .row _ ts => 2 ≤ ts.length ∧ Goods ts
def Goods : List T → Prop
  | [] => True
  | t :: ts => Good t ∧ Goods ts
end
theorem goods_all : ∀ {ts : List T}, Goods ts ↔ ∀ t ∈ ts, Good t
  | [] => by simp [Goods]
  | t :: ts => by simp [Goods, goods_all (ts := ts)]
mutual
/-- nobody is unknown -/
def Told : T → Prop
  | .one => True
  | .name _ => False
  | .cop _ _ t => Told t
  | .row _ ts => Tolds ts
def Tolds : List T → Prop
  | [] => True
  | t :: ts => Told t ∧ Tolds ts
end
theorem tolds_all : ∀ {ts : List T}, Tolds ts ↔ ∀ t ∈ ts, Told t
  | [] => by simp [Tolds]
  | t :: ts => by simp [Tolds, tolds_all (ts := ts)]
mutual
def ht : T → Nat
  | .one => 0
  | .name _ => 0
  | .cop _ _ t => ht t + 1
  | .row _ ts => hts ts + 1
def hts : List T → Nat
  | [] => 0
  | t :: ts => max (ht t) (hts ts)
end
theorem hts_le : ∀ {ts : List T} {t : T}, t ∈ ts → ht t ≤ hts ts
  | u :: ts, t, h => by
    rcases List.mem_cons.mp h with rfl | h
    · exact Nat.le_max_left _ _
    · exact Nat.le_trans (hts_le h) (Nat.le_max_right _ _)

/-! ### depth of brackets -/
def wgt (c : Nat) : Int := (if c = 40 ∨ c = 91 ∨ c = 123 then 1 else 0) - (if c = 41 ∨ c = 93 ∨ c = 125 then 1 else 0)
def dep : List Nat → Int
  | [] => 0
  | c :: r => wgt c + dep r
theorem dep_app : ∀ p q : List Nat, dep (p ++ q) = dep p + dep q
  | [], q => by simp [dep]
  | c :: p, q => by rw [List.cons_append, dep, dep, dep_app p q]; omega
/-- no bracket is closed too much -/
def nn (d : Int) : List Nat → Prop
  | [] => True
  | c :: r => 0 ≤ d + wgt c ∧ nn (d + wgt c) r
theorem nn_app : ∀ (d : Int) (p q : List Nat), nn d p → nn (d + dep p) q → nn d (p ++ q)
  | d, [], q, _, h => by simpa [dep] using h
  | d, c :: p, q, h1, h2 => ⟨h1.1, nn_app _ p q h1.2 (by rw [dep] at h2; rw [show d + wgt c + dep p = d + (wgt c + dep p) by omega]; exact h2)⟩
theorem nn_up : ∀ (d e : Int) (p : List Nat), d ≤ e → nn d p → nn e p
  | _, _, [], _, _ => trivial
  | d, e, c :: p, h, q => ⟨by have := q.1; omega, nn_up _ _ p (by omega) q.2⟩
/-- .. and no blank stands outside of brackets -/
def qu (d : Int) : List Nat → Prop
  | [] => True
  | c :: r => 0 ≤ d + wgt c ∧ (d + wgt c ≠ 0 ∨ c ≠ 32) ∧ qu (d + wgt c) r
theorem qu_app : ∀ (d : Int) (p q : List Nat), qu d p → qu (d + dep p) q → qu d (p ++ q)
  | d, [], q, _, h => by simpa [dep] using h
  | d, c :: p, q, h1, h2 => ⟨h1.1, h1.2.1, qu_app _ p q h1.2.2 (by rw [dep] at h2; rw [show d + wgt c + dep p = d + (wgt c + dep p) by omega]; exact h2)⟩
theorem qu_nn : ∀ (d : Int) (p : List Nat), qu d p → nn d p
  | _, [], _ => trivial
  | d, c :: p, h => ⟨h.1, qu_nn _ p h.2.2⟩
theorem nn_qu : ∀ (d : Int) (p : List Nat), nn d p → qu (d + 1) p
  | _, [], _ => trivial
  | d, c :: p, h => ⟨by have := h.1; omega, .inl (by have := h.1; omega), by have := nn_qu _ p h.2; rw [show d + 1 + wgt c = d + wgt c + 1 by omega]; exact this⟩
theorem wgt0 {c : Nat} (h : c ≠ 40 ∧ c ≠ 91 ∧ c ≠ 123 ∧ c ≠ 41 ∧ c ≠ 93 ∧ c ≠ 125) : wgt c = 0 := by
  unfold wgt
  rw [if_neg (by omega), if_neg (by omega)]; rfl
theorem plain_dep : ∀ {p : List Nat}, (∀ c ∈ p, wgt c = 0) → dep p = 0
  | [], _ => rfl
  | c :: p, h => by rw [dep, h c List.mem_cons_self, plain_dep fun x hx => h x (List.mem_cons_of_mem _ hx)]; rfl
theorem plain_nn : ∀ {d : Int} {p : List Nat}, 0 ≤ d → (∀ c ∈ p, wgt c = 0) → nn d p
  | _, [], _, _ => trivial
  | d, c :: p, h0, h => by
    have e := h c List.mem_cons_self
    refine ⟨by rw [e]; omega, ?_⟩
    rw [e, Int.add_zero]
    exact plain_nn h0 fun x hx => h x (List.mem_cons_of_mem _ hx)
theorem plain_qu : ∀ {d : Int} {p : List Nat}, 0 ≤ d → (∀ c ∈ p, wgt c = 0 ∧ c ≠ 32) → qu d p
  | _, [], _, _ => trivial
  | d, c :: p, h0, h => by
    obtain ⟨e, e2⟩ := h c List.mem_cons_self
    refine ⟨by rw [e]; omega, .inr e2, ?_⟩
    rw [e, Int.add_zero]
    exact plain_qu h0 fun x hx => h x (List.mem_cons_of_mem _ hx)
/-- o p c, brackets around -/
theorem around_ok {o c : Nat} {p : List Nat} (ho : wgt o = 1 ∧ o ≠ 32) (hc : wgt c = -1 ∧ c ≠ 32) (hp : nn 0 p) (hd : dep p = 0) : dep (o :: (p ++ [c])) = 0 ∧ qu 0 (o :: (p ++ [c])) := by
  have e1 : dep (p ++ [c]) = -1 := by rw [dep_app, hd, dep, dep, hc.1]; rfl
  refine ⟨by rw [dep, ho.1, e1]; rfl, by rw [ho.1]; decide, .inr ho.2, ?_⟩
  rw [ho.1]
  refine qu_app _ _ _ (nn_qu 0 p hp) ⟨?_, .inr hc.2, trivial⟩
  rw [hd, hc.1]; decide
theorem wgt_opn (s : Bool) : wgt (opn s) = 1 ∧ opn s ≠ 32 := by cases s <;> decide
theorem wgt_cls (s : Bool) : wgt (cls s) = -1 ∧ cls s ≠ 32 := by cases s <;> decide
theorem wgt_num {n c : Nat} (h : c ∈ numL n) : wgt c = 0 ∧ c ≠ 32 := by
  have q := numL_digits n c h
  exact ⟨wgt0 (by omega), by omega⟩
theorem wgt_letter {c : Nat} (h : letter c = true) : wgt c = 0 ∧ c ≠ 32 := by
  simp [letter] at h
  exact ⟨wgt0 (by omega), by omega⟩
theorem sep_ok (s : Bool) : dep (sep s) = 0 ∧ nn 0 (sep s) := by cases s <;> (unfold nn dep sep sgn; simp [wgt, nn, dep])
theorem join_ok (s : Bool) : ∀ {ps : List (List Nat)}, (∀ p ∈ ps, dep p = 0 ∧ nn 0 p) → dep (joinL (sep s) ps) = 0 ∧ nn 0 (joinL (sep s) ps)
  | [], _ => ⟨rfl, trivial⟩
  | [p], h => h p List.mem_cons_self
  | p :: q :: r, h => by
    obtain ⟨h1, h2⟩ := h p List.mem_cons_self
    obtain ⟨i1, i2⟩ := join_ok s (ps := q :: r) fun x hx => h x (List.mem_cons_of_mem _ hx)
    obtain ⟨s1, s2⟩ := sep_ok s
    refine ⟨?_, ?_⟩
    · rw [joinL, dep_app, dep_app, h1, s1, i1]; rfl
    · rw [joinL]
      refine nn_app _ _ _ h2 ?_
      rw [h1]
      refine nn_app _ _ _ s2 ?_
      rw [s1]; exact i2
mutual
theorem txt_ok : ∀ {t : T}, Good t → dep (txt t) = 0 ∧ qu 0 (txt t)
  | .one, _ => by simp [txt, dep, qu, wgt]
  | .name x, h => by
    obtain ⟨h0, h1, h2⟩ := h
    rw [txt]
    exact ⟨plain_dep fun c hc => (wgt_letter (h2 c hc)).1, plain_qu (by decide) fun c hc => wgt_letter (h2 c hc)⟩
  | .cop s n t, h => by
    obtain ⟨h1, h2, h3⟩ := h
    obtain ⟨e1, e2⟩ := txt_ok h3
    rw [txt, show numL n ++ 32 :: (txt t ++ [cls s]) = (numL n ++ 32 :: txt t) ++ [cls s] by simp]
    have d0 : dep (numL n) = 0 := plain_dep fun c hc => (wgt_num hc).1
    refine around_ok (wgt_opn s) (wgt_cls s) (nn_app _ _ _ (plain_nn (by decide) fun c hc => (wgt_num hc).1) ?_) ?_
    · rw [d0]
      exact ⟨by decide, qu_nn _ _ e2⟩
    · rw [dep_app, d0, dep, e1]; decide
  | .row s ts, h => by
    rw [txt]
    obtain ⟨j1, j2⟩ := join_ok s (ps := txts ts) fun p hp => by
      obtain ⟨q1, q2⟩ := txts_ok h.2 p hp
      exact ⟨q1, qu_nn _ _ q2⟩
    exact around_ok (by decide) (by decide) j2 j1
theorem txts_ok : ∀ {ts : List T}, Goods ts → ∀ p ∈ txts ts, dep p = 0 ∧ qu 0 p
  | [], _, p, hp => by simp [txts] at hp
  | t :: ts, h, p, hp => by
    rw [txts] at hp
    rcases List.mem_cons.mp hp with rfl | hp
    · exact txt_ok h.1
    · exact txts_ok h.2 p hp
end
/-- the first sign -/
theorem txt_head {t : T} (h : Good t) : ∃ c r, txt t = c :: r ∧ c ≠ 32 ∧ c ≠ 43 ∧ c ≠ 42 := by
  cases t with
  | one => exact ⟨49, [], by rw [txt], by decide, by decide, by decide⟩
  | name x =>
    obtain ⟨h0, h1, h2⟩ := h
    cases x with
    | nil => exact absurd rfl h0
    | cons c r =>
      have q := h2 c List.mem_cons_self
      simp [letter] at q
      exact ⟨c, r, by rw [txt], by omega, by omega, by omega⟩
  | cop s n t => exact ⟨opn s, _, by rw [txt], by cases s <;> decide, by cases s <;> decide, by cases s <;> decide⟩
  | row s ts => exact ⟨40, _, by rw [txt], by decide, by decide, by decide⟩

/-! ### falling into parts -/
/-- the rest of the walk through L: at place i, depth d, begin b, found f -/
def G (L S : List Nat) : List Nat → Nat → Int → Nat → List (List Nat) → List (List Nat)
  | [], _, _, b, f => f ++ [L.drop b]
  | c :: r, i, d, b, f => if d + wgt c = 0 ∧ pre S (c :: r) = true then G L S r (i + 1) (d + wgt c) (i + S.length) (f ++ [(L.take i).drop b]) else G L S r (i + 1) (d + wgt c) b f
theorem G_qu {L : List Nat} (s : Nat) (S : List Nat) (hs : s = 32) : ∀ (p R : List Nat) (i : Nat) (d : Int) (b : Nat) (f : List (List Nat)), qu d p → G L (s :: S) (p ++ R) i d b f = G L (s :: S) R (i + p.length) (d + dep p) b f
  | [], R, i, d, b, f, _ => by simp [dep]
  | c :: p, R, i, d, b, f, h => by
    obtain ⟨h1, h2, h3⟩ := h
    rw [List.cons_append, G, if_neg, G_qu s S hs p R _ _ b f h3, dep, List.length_cons]
    · congr 1 <;> omega
    · rintro ⟨z, y⟩
      rcases h2 with h2 | h2
      · exact h2 z
      · rw [pre_of_head _ _ (by rw [hs]; exact h2)] at y
        cases y
theorem sep_len (s : Bool) : (sep s).length = 3 := rfl
theorem pre_other {x y z : Nat} {r : List Nat} (s : Bool) (h : y ≠ sgn s) : pre (sep s) (x :: y :: r) = false := by
  cases e : pre (sep s) (x :: y :: r) with
  | false => rfl
  | true =>
    unfold pre sep at e
    simp at e
    exact absurd e.2.1 h
/-- the sign itself: one more part -/
theorem G_sep {L : List Nat} (s : Bool) {c : Nat} {R : List Nat} (i b : Nat) (f : List (List Nat)) (hc : c ≠ 43 ∧ c ≠ 42) : G L (sep s) (sep s ++ (c :: R)) i 0 b f = G L (sep s) (c :: R) (i + 3) 0 (i + 3) (f ++ [(L.take i).drop b]) := by
  have w1 : wgt 32 = 0 := by decide
  have w2 : wgt (sgn s) = 0 := by cases s <;> decide
  show G L (sep s) (32 :: sgn s :: 32 :: c :: R) i 0 b f = _
  rw [G, if_pos ⟨by rw [w1]; rfl, by rw [show 32 :: sgn s :: 32 :: c :: R = sep s ++ (c :: R) from rfl]; exact pre_self _ _⟩]
  rw [G, if_neg (by rintro ⟨_, y⟩; rw [show sep s = 32 :: [sgn s, 32] from rfl, pre_of_head _ _ (by cases s <;> decide)] at y; cases y)]
  rw [G, if_neg (by rintro ⟨_, y⟩; rw [pre_other (z := 0) s (by cases s <;> simp [sgn, hc.1, hc.2])] at y; cases y)]
  rw [w1, w2]; rfl
/-- another sign: nothing -/
theorem G_no {L : List Nat} (s : Bool) {c : Nat} {R : List Nat} (i b : Nat) (f : List (List Nat)) (hc : c ≠ 43 ∧ c ≠ 42) : G L (sep s) (sep (!s) ++ (c :: R)) i 0 b f = G L (sep s) (c :: R) (i + 3) 0 b f := by
  have w1 : wgt 32 = 0 := by decide
  have w2 : wgt (sgn (!s)) = 0 := by cases s <;> decide
  show G L (sep s) (32 :: sgn (!s) :: 32 :: c :: R) i 0 b f = _
  rw [G, if_neg (by rintro ⟨_, y⟩; rw [pre_other (z := 0) s (by cases s <;> decide)] at y; cases y)]
  rw [G, if_neg (by rintro ⟨_, y⟩; rw [show sep s = 32 :: [sgn s, 32] from rfl, pre_of_head _ _ (by cases s <;> decide)] at y; cases y)]
  rw [G, if_neg (by rintro ⟨_, y⟩; rw [pre_other (z := 0) s (by cases s <;> simp [sgn, hc.1, hc.2])] at y; cases y)]
  rw [w1, w2]; rfl
theorem join_head {s : Bool} : ∀ {t : T} {ts : List T}, Good t → ∃ c r, joinL (sep s) (txts (t :: ts)) = c :: r ∧ c ≠ 43 ∧ c ≠ 42
  | t, [], h => by
    obtain ⟨c, r, e, h1, h2, h3⟩ := txt_head h
    exact ⟨c, r, by rw [txts, txts, joinL, e], h2, h3⟩
  | t, u :: ts, h => by
    obtain ⟨c, r, e, h1, h2, h3⟩ := txt_head h
    exact ⟨c, _, by rw [txts, txts, joinL, e, List.cons_append], h2, h3⟩
theorem G_join {s : Bool} : ∀ {ts : List T} {L P : List Nat} (f : List (List Nat)), ts ≠ [] → Goods ts → L = P ++ joinL (sep s) (txts ts) → G L (sep s) (joinL (sep s) (txts ts)) P.length 0 P.length f = f ++ txts ts
  | [], _, _, _, h, _, _ => absurd rfl h
  | [t], L, P, f, _, h, e => by
    obtain ⟨d0, q0⟩ := txt_ok h.1
    rw [txts, txts, joinL] at e ⊢
    have := G_qu (L := L) 32 [sgn s, 32] rfl (txt t) [] P.length 0 P.length f q0
    rw [List.append_nil] at this
    rw [show sep s = 32 :: [sgn s, 32] from rfl, this, G, e, List.drop_left]
  | t :: u :: ts, L, P, f, _, h, e => by
    obtain ⟨d0, q0⟩ := txt_ok h.1
    obtain ⟨c, R, ej, c1, c2⟩ := join_head (s := s) (ts := ts) h.2.1
    have e1 : joinL (sep s) (txts (t :: u :: ts)) = txt t ++ (sep s ++ joinL (sep s) (txts (u :: ts))) := by rw [txts, txts, joinL]
    rw [e1] at e ⊢
    rw [show G L (sep s) = G L (32 :: [sgn s, 32]) from rfl, G_qu 32 [sgn s, 32] rfl _ _ _ _ _ _ q0, d0, ej]
    show G L (sep s) (sep s ++ (c :: R)) (P.length + (txt t).length) (0 + 0) P.length f = _
    rw [show (0 : Int) + 0 = 0 from rfl, G_sep s _ _ _ ⟨c1, c2⟩]
    have e2 : (L.take (P.length + (txt t).length)).drop P.length = txt t := by
      rw [e, ← List.length_append, ← List.append_assoc, List.take_left, List.drop_left]
    have ih := G_join (s := s) (ts := u :: ts) (L := L) (P := P ++ txt t ++ sep s) (f ++ [txt t]) (by simp) h.2 (by rw [e]; simp)
    rw [ej] at ih
    rw [e2]
    have el : (P ++ txt t ++ sep s).length = P.length + (txt t).length + 3 := by simp [sep_len]; omega
    rw [el] at ih
    rw [ih, show txts (t :: u :: ts) = txt t :: txts (u :: ts) by rw [txts]]
    simp
theorem G_none {s : Bool} : ∀ {ts : List T} {L : List Nat} (i b : Nat) (f : List (List Nat)), ts ≠ [] → Goods ts → G L (sep s) (joinL (sep (!s)) (txts ts)) i 0 b f = f ++ [L.drop b]
  | [], _, _, _, _, h, _ => absurd rfl h
  | [t], L, i, b, f, _, h => by
    obtain ⟨d0, q0⟩ := txt_ok h.1
    rw [txts, txts, joinL]
    have := G_qu (L := L) 32 [sgn s, 32] rfl (txt t) [] i 0 b f q0
    rw [List.append_nil] at this
    rw [show sep s = 32 :: [sgn s, 32] from rfl, this, G]
  | t :: u :: ts, L, i, b, f, _, h => by
    obtain ⟨d0, q0⟩ := txt_ok h.1
    obtain ⟨c, R, ej, c1, c2⟩ := join_head (s := !s) (ts := ts) h.2.1
    have e1 : joinL (sep (!s)) (txts (t :: u :: ts)) = txt t ++ (sep (!s) ++ joinL (sep (!s)) (txts (u :: ts))) := by rw [txts, txts, joinL]
    rw [e1, show G L (sep s) = G L (32 :: [sgn s, 32]) from rfl, G_qu 32 [sgn s, 32] rfl _ _ _ _ _ _ q0, d0, ej]
    show G L (sep s) (sep (!s) ++ (c :: R)) (i + (txt t).length) (0 + 0) b f = _
    rw [show (0 : Int) + 0 = 0 from rfl, G_no s _ _ _ ⟨c1, c2⟩, ← ej]
    exact G_none _ _ _ (by simp) h.2
/-- what parted tells -/
def parts (L S : List Nat) : List (List Nat) := G L S L 0 0 0 []
theorem parts_join {s : Bool} {ts : List T} (h0 : ts ≠ []) (h : Goods ts) : parts (joinL (sep s) (txts ts)) (sep s) = txts ts := G_join (P := []) [] h0 h rfl
theorem parts_none {s : Bool} {ts : List T} (h0 : ts ≠ []) (h : Goods ts) : parts (joinL (sep (!s)) (txts ts)) (sep s) = [joinL (sep (!s)) (txts ts)] := G_none 0 0 [] h0 h

/-! ### numbers -/
theorem numL_head : ∀ {n : Nat}, 1 ≤ n → ∃ c r, numL n = c :: r ∧ c ≠ 48 := by
  intro n
  induction n using Nat.strongRecOn with
  | _ n ih =>
    intro h
    by_cases hn : n < 10
    · exact ⟨48 + n, [], numL_lt hn, by omega⟩
    · obtain ⟨c, r, e, hc⟩ := ih (n / 10) (by omega) (by omega)
      exact ⟨c, r ++ [48 + n % 10], by rw [numL_step (by omega), e, List.cons_append], hc⟩
end PL
namespace W
open PySem PySem.Spec PyProof.Rows L2 DL
abbrev pw : Program := PySem.Challenge.pw_greetall_k02_texts_of_no_plan
def top (i : Nat) : Stmt := pw.main.body.getD i (.Pass ⟨0, 0, 0, 0⟩)
abbrev s_CrowdError___init__ : Stmt := inClass (top 1) 0
abbrev s_is_integer : Stmt := top 17
abbrev s_is_name : Stmt := top 18
abbrev s_number_in : Stmt := top 19
abbrev s_parted : Stmt := top 29
abbrev s_copies_in : Stmt := top 30
abbrev s_row_in : Stmt := top 31
abbrev s_groups_in : Stmt := top 32
abbrev s_is_plan_text : Stmt := top 33
abbrev s_names_in : Stmt := top 34
abbrev s_Plan___init__ : Stmt := inClass (top 35) 0
abbrev s_Plan_text : Stmt := inClass (top 35) 1
abbrev s_Plan_names : Stmt := inClass (top 35) 2
abbrev s_Plan_word : Stmt := inClass (top 35) 3
abbrev s_Plan_many : Stmt := inClass (top 35) 4
abbrev s_Plan_people : Stmt := inClass (top 35) 5
abbrev s_Plan_part : Stmt := inClass (top 35) 6
abbrev s_Plan_copies : Stmt := inClass (top 35) 7
abbrev s_Plan_put : Stmt := inClass (top 35) 8
abbrev s_Plan___add__ : Stmt := inClass (top 35) 9
abbrev s_Plan___mul__ : Stmt := inClass (top 35) 10
abbrev s_Plan___invert__ : Stmt := inClass (top 35) 11
abbrev s_Plan___eq__ : Stmt := inClass (top 35) 12
abbrev s_check_told : Stmt := top 36
abbrev s_row_text : Stmt := top 37
abbrev s_copies_text : Stmt := top 38
abbrev s_text_put : Stmt := top 39
abbrev s__law_pot : Stmt := top 41
abbrev s__law_take : Stmt := top 42
abbrev s__law_of : Stmt := top 43
abbrev s__law_cells : Stmt := top 44
abbrev s__law_odd : Stmt := top 45
abbrev s__law_answer : Stmt := top 46
abbrev s__law_text : Stmt := top 47
abbrev s__law_built : Stmt := top 48
abbrev s__law_number_end : Stmt := top 49
abbrev s__law_end : Stmt := top 50
abbrev s__law_is_plan_text : Stmt := top 51
abbrev s__law_bent_text : Stmt := top 52
abbrev s__law_is_judged : Stmt := top 53
abbrev s__law_right : Stmt := top 54
abbrev s_law : Stmt := top 55
end W
/-! C1: the text functions of the package keep their contracts. -/
namespace W
open PySem PySem.Spec PyProof.Rows L2 DL SX PL
def bns : List Str := ["isinstance", "int", "bool", "str", "len", "all", "sum", "range", "enumerate", "sorted", "set", "tuple", "list", "zip", "repr", "abs", "max", "min"]
abbrev tS (l : List Nat) : D := .str (S l)
def signsD : List (Str × D) := [("beside", .str " + "), ("introduced", .str " * ")]
def aroundD : List (Str × D) := [("beside", .tup [.str "[", .str "]"]), ("introduced", .tup [.str "{", .str "}"])]
def turnedD : List (Str × D) := [("+", .str "*"), ("*", .str "+"), ("[", .str "{"), ("{", .str "["), ("]", .str "}"), ("}", .str "]")]
/-- what is known of the module behind the top -/
structure Fx (w : World) (K : PySem.W.Frag) (mg : Str → Option Value) : Prop where
  bn : ∀ x, x ∈ bns → mg x = none
  gONE : ∃ t, mg "ONE" = some (.str "one" t)
  gNAME : ∃ t, mg "NAME" = some (.str "name" t)
  gBESIDE : ∃ t, mg "BESIDE" = some (.str "beside" t)
  gINTRODUCED : ∃ t, mg "INTRODUCED" = some (.str "introduced" t)
  gBLANK : ∃ t, mg "BLANK" = some (.str " " t)
  gLETTERS : ∃ t, mg "LETTERS" = some (.str "abcdefghijklmnopqrstuvwxyz" t)
  gFIGURES : ∃ t, mg "FIGURES" = some (.str "0123456789" t)
  gMOST_LETTERS : ∃ t, mg "MOST_LETTERS" = some (.int 8 t)
  gPERSON : ∃ t, mg "PERSON" = some (.str "1" t)
  gLEAST_MANY : ∃ t, mg "LEAST_MANY" = some (.int 2 t)
  gMOST_MANY : ∃ t, mg "MOST_MANY" = some (.int (10 ^ 30) t)
  gMOST_NAMES : ∃ t, mg "MOST_NAMES" = some (.int 3 t)
  gMOST_DEPTH : ∃ t, mg "MOST_DEPTH" = some (.int 60 t)
  gSIGNS : ∃ a kvs, mg "SIGNS" = some (.ref a) ∧ WrD K w a kvs ∧ ∀ M Z H, RepF K M Z H kvs signsD
  gAROUND : ∃ a kvs, mg "AROUND" = some (.ref a) ∧ WrD K w a kvs ∧ ∀ M Z H, RepF K M Z H kvs aroundD
  gTURNED : ∃ a kvs, mg "TURNED" = some (.ref a) ∧ WrD K w a kvs ∧ ∀ M Z H, RepF K M Z H kvs turnedD
section
variable {P : Program} {w : World} {K : PySem.W.Frag} {mg : Str → Option Value} {base : Heap}

/-! ### is_integer, is_name, number_in -/
def cIsInt : Con := fun ds M Φ => ∃ i l h, ds = [.int i, .int l, .int h] ∧ Φ (.bl (decide (l ≤ i) && decide (i ≤ h))) M
theorem ok_is_integer (F : Fx w K mg) : BodyOk P w K mg base "is_integer" s_is_integer ["value", "low", "high"] 3 0 cIsInt := by
  intro f cdv A outer s H E hr ds M Φ hl hc
  obtain ⟨i, l, h, rfl, hc⟩ := hc
  refine wss_cons (ws_if (wt_ww (ww_or (wt_not (wt_val (we_isi (F.bn _ (by decide +kernel)) (we_var 0 rfl (we_bty (F.bn _ (by decide +kernel)) rfl ⟨_, _, true, rfl, rfl, (by intro C h; cases h), rfl, _, rfl, ?_⟩))))))))
  refine ww_or1 (wt_val (we_isi (F.bn _ (by decide +kernel)) (we_var 0 rfl (we_bty (F.bn _ (by decide +kernel)) rfl ⟨_, _, false, rfl, rfl, (by intro C h; cases h), rfl, _, rfl, ?_⟩))))
  refine wss_nil (wss_cons (ws_ret (we_and (we_or (we_isN (we_var 1 rfl ⟨_, rfl, we_one (we_leI (we_var 1 rfl (we_var 0 rfl ⟨_, _, rfl, rfl, _, rfl, ?_⟩)))⟩))))))
  refine ite_dec (fun h1 => ?_) fun h1 => ?_
  · refine we_one (we_or (we_isN (we_var 2 rfl ⟨_, rfl, we_one (we_leI (we_var 0 rfl (we_var 2 rfl ⟨_, _, rfl, rfl, Lets.of ?_⟩)))⟩)))
    rw [decide_eq_true h1] at hc; exact hc
  · rw [decide_eq_false h1] at hc; exact Lets.of hc
def isNameL (l : List Nat) : Bool := decide (1 ≤ l.length) && (decide (l.length ≤ 8) && l.all letter)
theorem letters_eq : ("abcdefghijklmnopqrstuvwxyz" : Str) = S ((List.range 26).map (97 + ·)) := by decide +kernel
theorem figures_eq : ("0123456789" : Str) = S ((List.range 10).map (48 + ·)) := by decide +kernel
theorem mem_letters (c : Nat) : decide (c ∈ ("abcdefghijklmnopqrstuvwxyz" : Str).cps.toList) = letter c := by
  rw [letters_eq]
  unfold letter
  rw [← Bool.decide_and]
  apply decide_eq_decide.mpr
  show c ∈ (List.range 26).map (97 + ·) ↔ _
  simp only [List.mem_map, List.mem_range]
  constructor
  · rintro ⟨a, h, rfl⟩; omega
  · rintro ⟨h1, h2⟩; exact ⟨c - 97, by omega, by omega⟩
def figure (c : Nat) : Bool := decide (48 ≤ c) && decide (c ≤ 57)
theorem mem_figures (c : Nat) : decide (c ∈ ("0123456789" : Str).cps.toList) = figure c := by
  rw [figures_eq]
  unfold figure
  rw [← Bool.decide_and]
  apply decide_eq_decide.mpr
  show c ∈ (List.range 10).map (48 + ·) ↔ _
  simp only [List.mem_map, List.mem_range]
  constructor
  · rintro ⟨a, h, rfl⟩; omega
  · rintro ⟨h1, h2⟩; exact ⟨c - 48, by omega, by omega⟩
theorem signs_S (l : List Nat) : DL.signs (S l) = l.map fun c => D.str ⟨#[c]⟩ := rfl
theorem signs_get {l : List Nat} {i : Nat} {x : D} (h : (DL.signs (S l))[i]? = some x) : ∃ c, l[i]? = some c ∧ x = .str ⟨#[c]⟩ := by
  rw [signs_S, List.getElem?_map] at h
  obtain ⟨c, h1, rfl⟩ := Option.map_eq_some_iff.mp h
  exact ⟨c, h1, rfl⟩
theorem take_snoc {α : Type} {l : List α} {i : Nat} {c : α} (h : l[i]? = some c) : l.take (i + 1) = l.take i ++ [c] := by
  rw [List.take_add_one, h]; rfl
def cIsName : Con := fun ds M Φ => ∃ l, ds = [tS l] ∧ l.length ≤ 1000000 ∧ Φ (.bl (isNameL l)) M
theorem ok_is_name (F : Fx w K mg) : BodyOk P w K mg base "is_name" s_is_name ["value", "letter"] 1 0 cIsName := by
  intro f cdv A outer s H E hr ds M Φ hl hc
  obtain ⟨l, rfl, hl, hc⟩ := hc
  have nd : (["value", "letter"] : List Str).Nodup := by decide +kernel
  refine wss_cons (ws_if (wt_ww (ww_or (wt_not (wt_val (we_isi (F.bn _ (by decide +kernel)) (we_var 0 rfl (we_bty (F.bn _ (by decide +kernel)) rfl ⟨_, _, true, rfl, rfl, (by intro C h; cases h), rfl, _, rfl, ?_⟩))))))))
  refine ww_or1 (wt_not (wt_chainI (we_int (we_len (F.bn _ (by decide +kernel)) (we_var 0 rfl ⟨_, lenS (by rw [S_len, sizeLine_eq]; omega), _, _, rfl, rfl, ?_⟩)))))
  have e0 : ((S l).length : Int) = (l.length : Int) := by rw [S_len]
  have ret : ∀ c, isNameL l = c → Φ (.bl c) M := fun c e => e ▸ hc
  refine ite_dec (fun h1 => we_gint F.gMOST_LETTERS ⟨_, rfl, ?_⟩) fun h1 => ?_
  · by_cases h2 : ((S l).length : Int) ≤ 8
    · rw [decide_eq_true h2]
      refine wss_nil (wss_cons (ws_ret (we_all (F.bn _ (by decide +kernel)) (we_lc nd (blkOk_by (N := ["value", "letter"]) (sc := defScope s_is_name) (own := [("letter", 1)]) (by decide +kernel)) (fun _ _ _ _ _ => pg_name (i := 1) nd rfl (Or.inl rfl)) (gt_name (by decide)) (fun _ _ _ _ _ => pts_nil) tk_nil
        (wi_str (we_var 0 rfl ⟨_, rfl, ?_⟩))))))
      refine ⟨by rw [signs_S, List.length_map, sizeLine_eq]; omega, fun i acc M' => M' = M ∧ acc = (l.take i).map fun c => .bl (letter c), ⟨rfl, rfl⟩, ?_, ?_⟩
      · rintro i x acc M' hx ⟨rfl, rfl⟩ 
        obtain ⟨c, hc1, rfl⟩ := signs_get hx
        intro s1 H1 C cl fp
        refine we_inC (we_var 1 rfl (we_gstr F.gLETTERS ⟨c, _, rfl, rfl, rfl, ?_⟩))
        rw [mem_letters, take_snoc hc1, List.map_append]; rfl
      · rintro acc M' ⟨rfl, rfl⟩
        rw [signs_S, List.length_map, List.take_length]
        refine ⟨l.map letter, by rw [List.map_map]; rfl, Lets.of (ret _ ?_)⟩
        unfold isNameL
        rw [decide_eq_true (show 1 ≤ l.length by omega), decide_eq_true (show l.length ≤ 8 by omega)]
        simp
    · rw [decide_eq_false h2]
      refine wss_cons (ws_ret (we_bl (Lets.of (ret _ ?_))))
      unfold isNameL
      rw [decide_eq_false (show ¬ l.length ≤ 8 by omega)]; simp
  · refine wss_cons (ws_ret (we_bl (Lets.of (ret _ ?_))))
    unfold isNameL
    rw [decide_eq_false (show ¬ 1 ≤ l.length by omega)]; rfl
end
end W
/-! C2: number_in, parted. -/
namespace W
open PySem PySem.Spec PyProof.Rows L2 DL SX PL
section
variable {P : Program} {w : World} {K : PySem.W.Frag} {mg : Str → Option Value} {base : Heap}
theorem num_len {n : Nat} (h : n ≤ 10 ^ 30) : (TL.numL n).length ≤ 31 := TL.numL_len (by decide) (Nat.lt_of_le_of_lt h (by decide))
theorem num_int (n : Nat) (h : n ≤ 10 ^ 30) : PySem.intText? (S (TL.numL n)) = some (n : Int) := by
  rw [← num_S]
  exact TL.int_num (by have := num_len h; omega)
def cNumberIn : Con := fun ds M Φ => ∃ n : Nat, ds = [tS (TL.numL n)] ∧ 1 ≤ n ∧ n ≤ 10 ^ 30 ∧ Φ (.int n) M
theorem ok_number_in (F : Fx w K mg) : BodyOk P w K mg base "number_in" s_number_in ["text", "figure"] 1 0 cNumberIn := by
  intro f cdv A outer s H E hr ds M Φ hl hc
  obtain ⟨n, rfl, n1, n2, hc⟩ := hc
  have nd : (["text", "figure"] : List Str).Nodup := by decide +kernel
  obtain ⟨c, r, ec, c48⟩ := numL_head n1
  have hlen := num_len n2
  have e1 : decide (S (TL.numL n) = ("" : Str)) = false := decide_eq_false fun h => by
    have := S_inj (h.trans (show ("" : Str) = S [] by decide +kernel))
    rw [ec] at this; cases this
  have e2 : decide (S (TL.numL n) = ("0" : Str)) = false := decide_eq_false fun h => by
    have := S_inj (h.trans (show ("0" : Str) = S [48] by decide +kernel))
    rw [ec] at this; injection this with h1 _; exact c48 h1
  refine wss_cons (ws_if (wt_ww (ww_or (wt_eqS (we_var 0 rfl (we_str ⟨_, rfl, ?_⟩))))))
  rw [e1]
  refine ww_or1 (wt_not (wt_val (we_all (F.bn _ (by decide +kernel)) (we_lc nd (blkOk_by (N := ["text", "figure"]) (sc := defScope s_number_in) (own := [("figure", 1)]) (by decide +kernel)) (fun _ _ _ _ _ => pg_name (i := 1) nd rfl (Or.inl rfl)) (gt_name (by decide)) (fun _ _ _ _ _ => pts_nil) tk_nil
        (wi_str (we_var 0 rfl ⟨_, rfl, ?_⟩))))))
  refine ⟨by rw [signs_S, List.length_map, sizeLine_eq]; omega, fun i acc M' => M' = M ∧ acc = ((TL.numL n).take i).map fun c => .bl (figure c), ⟨rfl, rfl⟩, ?_, ?_⟩
  · rintro i x acc M' hx ⟨rfl, rfl⟩
    obtain ⟨c, hc1, rfl⟩ := signs_get hx
    intro s1 H1 C cl fp
    refine we_inC (we_var 1 rfl (we_gstr F.gFIGURES ⟨c, _, rfl, rfl, rfl, ?_⟩))
    rw [mem_figures, take_snoc hc1, List.map_append]; rfl
  · rintro acc M' ⟨rfl, rfl⟩
    rw [signs_S, List.length_map, List.take_length]
    refine ⟨(TL.numL n).map figure, by rw [List.map_map]; rfl, _, rfl, ?_⟩
    have e3 : ((TL.numL n).map figure).all id = true := by
      rw [List.all_map]
      refine List.all_eq_true.mpr fun c hc => ?_
      have q := TL.numL_digits n c hc
      show (decide (48 ≤ c) && decide (c ≤ 57)) = true
      rw [decide_eq_true q.1, decide_eq_true q.2]; rfl
    rw [e3]
    refine wss_nil (wss_cons (ws_ret (we_if (wt_ww (ww_or (wt_eqS (we_var 0 rfl (we_str ⟨_, rfl, ?_⟩))))))))
    rw [e2]
    refine ww_or1 (wt_neS (we_ix (we_var 0 rfl (we_int ⟨0, _, rfl, .inr (.inr ⟨_, c, rfl, by rw [S_len, sizeLine_eq]; omega, by show atI (TL.numL n) 0 = some c; rw [ec]; exact atI_nat (j := 0) rfl, rfl⟩), we_str ⟨_, rfl, ?_⟩⟩))))
    have e4 : decide ((⟨#[c]⟩ : Str) = ("0" : Str)) = false := decide_eq_false fun h => by
      have := S_inj (a := [c]) (h.trans (show ("0" : Str) = S [48] by decide +kernel))
      injection this with h1 _; exact c48 h1
    rw [e4]
    exact we_intS (F.bn _ (by decide +kernel)) (we_var 0 rfl ⟨_, _, rfl, num_int n n2, by rw [S_len]; omega, Lets.of hc⟩)

/-! ### parted -/
theorem cut_bi (l : List Nat) (b i : Nat) (h : i ≤ l.length) : cutS (S l) (some (b : Int)) (some (i : Int)) = S ((l.take i).drop b) := by
  unfold cutS
  rw [S_len, HT.sIx_nat, HT.sIx_nat, Nat.min_eq_left h]
  show S ((l.drop (min b l.length)).take (i - min b l.length)) = _
  congr 1
  by_cases hb : b ≤ l.length
  · rw [Nat.min_eq_left hb, List.drop_take]
  · rw [Nat.min_eq_right (by omega), List.drop_length, List.drop_eq_nil_of_le (by rw [List.length_take]; omega)]; simp
theorem cut_b (l : List Nat) (b : Nat) : cutS (S l) (some (b : Int)) none = S (l.drop b) := by
  unfold cutS
  rw [S_len, HT.sIx_nat, HT.sIx_none]
  show S ((l.drop (min b l.length)).take (l.length - min b l.length)) = _
  congr 1
  by_cases hb : b ≤ l.length
  · rw [Nat.min_eq_left hb]; exact List.take_of_length_le (by rw [List.length_drop]; omega)
  · rw [Nat.min_eq_right (by omega), List.drop_length, List.drop_eq_nil_of_le (by omega)]; simp
theorem starts_at {l s : List Nat} (hs : s ≠ []) (i : Nat) (hi : i ≤ l.length) : Txt.startswith3 (S l) (S s) (i : Int) = TL.pre s (l.drop i) := by
  have e : PySem.fromIndex (S l).length (i : Int) = i := by
    rw [S_len]; unfold PySem.fromIndex; rw [if_neg (by omega)]; omega
  unfold Txt.startswith3
  rw [e]
  have q := TL.at_iff (x := S l) (y := S s) hs i
  cases hp : TL.pre s (l.drop i) with
  | true =>
    obtain ⟨h1, h2⟩ := q.mpr hp
    rw [h2, decide_eq_true h1]; rfl
  | false =>
    cases h1 : decide (i + (S s).length ≤ (S l).length) with
    | false => rfl
    | true =>
      cases h2 : Builtin.Str.subAt (S l) (S s) i with
      | false => rfl
      | true =>
        have := q.mp ⟨of_decide_eq_true h1, h2⟩
        rw [show TL.pre (TL.tl (S s)) ((TL.tl (S l)).drop i) = TL.pre s (l.drop i) from rfl, hp] at this
        cases this
theorem enumS_get {l : List Nat} {i : Nat} {x : D} (h : (enumS (S l))[i]? = some x) : ∃ c, l[i]? = some c ∧ x = .tup [.int (i : Nat), .str ⟨#[c]⟩] := by
  unfold enumS at h
  rw [List.getElem?_map] at h
  obtain ⟨j, h1, rfl⟩ := Option.map_eq_some_iff.mp h
  obtain ⟨h2, rfl⟩ := List.getElem?_eq_some_iff.mp h1
  rw [List.length_range] at h2
  rw [List.getElem_range]
  have h3 : i < l.length := by simpa using h2
  refine ⟨l[i], List.getElem?_eq_getElem h3, ?_⟩
  have : (S l).cps.getD i 0 = l[i] := by simp [Array.getD, h3]
  rw [this]
theorem enumS_len (l : List Nat) : (enumS (S l)).length = l.length := by simp [enumS]
theorem opens (c : Nat) : decide (c ∈ ("([{" : Str).cps.toList) = decide (c = 40 ∨ c = 91 ∨ c = 123) := by
  rw [show ("([{" : Str) = S [40, 91, 123] by decide +kernel]
  simp
theorem closes (c : Nat) : decide (c ∈ (")]}" : Str).cps.toList) = decide (c = 41 ∨ c = 93 ∨ c = 125) := by
  rw [show (")]}" : Str) = S [41, 93, 125] by decide +kernel]
  simp
theorem wgt_code (d : Int) (c : Nat) : d + (if decide (c ∈ ("([{" : Str).cps.toList) = true then 1 else 0) - (if decide (c ∈ (")]}" : Str).cps.toList) = true then 1 else 0) = d + wgt c := by
  rw [opens, closes]
  unfold wgt
  simp only [decide_eq_true_eq]
  omega
def cParted : Con := fun ds M Φ => ∃ l b, ds = [tS l, tS (sep b)] ∧ l.length ≤ 1000000 ∧ Φ (.lst ((parts l (sep b)).map tS)) M
theorem les_new {M : Mp} {p : Addr} {o : MO} (h : M p = none) : Les M (mset M p o) := fun b => by
  by_cases e : b = p
  · rw [e]; exact .inr h
  · rw [mset_ne e]; exact .inl rfl
theorem ok_parted (F : Fx w K mg) : BodyOk P w K mg base "parted" s_parted ["text", "sign", "found", "depth", "begin", "at", "letter"] 2 0 cParted := by
  intro f cdv A outer s H E hr ds M Φ hl hc
  obtain ⟨l, sb, rfl, hl, hc⟩ := hc
  have nd : (["text", "sign", "found", "depth", "begin", "at", "letter"] : List Str).Nodup := by decide +kernel
  refine wss_cons (ws_set 2 nd (we_lstM (wa_nil ⟨by decide, fun p hp => ?_⟩)))
  refine wss_cons (ws_set 3 nd (we_int ?_))
  refine wss_cons (ws_set 4 nd (we_int ?_))
  refine wss_cons (ws_for PassesOwn.never (wi_enumS (F.bn _ (by decide +kernel)) (we_var 0 rfl ⟨_, rfl, ?_⟩)))
  refine ⟨fun i ρ' M' => ∃ o1 o2 d b fo, ρ' = [some (tS l), some (tS (sep sb)), some (.ob p), some (.int d), some (.int (b : Nat)), o1, o2] ∧ M' = mset M p (.lst (fo.map tS)) ∧ fo.length ≤ i ∧ G l (sep sb) (l.drop i) i d b fo = parts l (sep sb), ?_, ?_, ?_⟩
  · exact ⟨none, none, 0, 0, [], rfl, rfl, Nat.le_refl _, rfl⟩
  · rintro i x ρ' M' hx ⟨o1, o2, d, b, fo, rfl, rfl, hf, hG⟩
    obtain ⟨c, hc1, rfl⟩ := enumS_get hx
    have hi : i < l.length := (List.getElem?_eq_some_iff.mp hc1).1
    refine wg_tup ⟨rfl, rfl, wgs_cons (wg_name 5 (wgs_cons (wg_name 6 (wgs_nil ⟨rfl, ?_⟩) nd)) nd)⟩
    refine wss_cons (ws_set 3 nd (we_subI (we_addI (we_var 3 rfl (we_intN (F.bn _ (by decide +kernel)) (we_inC (we_var 6 rfl (we_str ⟨c, _, rfl, rfl, .inr ⟨_, rfl, _, _, rfl, rfl, ?_⟩⟩))))))))
    refine we_intN (F.bn _ (by decide +kernel)) (we_inC (we_var 6 rfl (we_str ⟨c, _, rfl, rfl, .inr ⟨_, rfl, _, _, rfl, rfl, ?_⟩⟩)))
    rw [wgt_code]
    have ed : l.drop i = c :: l.drop (i + 1) := by
      rw [List.drop_eq_getElem_cons hi]
      rw [List.getElem?_eq_getElem hi] at hc1; cases hc1; rfl
    rw [ed, PL.G] at hG
    refine wss_cons (ws_if (wt_ww (ww_and (wt_eqS (we_var 3 rfl (we_int ⟨_, rfl, ?_⟩))))))
    by_cases h0 : d + wgt c = 0
    · rw [decide_eq_true h0]
      refine ww_and1 (wt_val (we_startsAt (we_var 0 rfl ⟨_, rfl, we_var 1 rfl (we_var 5 rfl ⟨_, _, rfl, rfl, _, rfl, ?_⟩)⟩)))
      rw [starts_at (by simp [sep]) i (by omega), ed]
      cases hp2 : TL.pre (sep sb) (c :: l.drop (i + 1)) with
      | true =>
        rw [if_pos ⟨h0, hp2⟩] at hG
        refine wss_cons (ws_expr (we_append (we_var 2 rfl ⟨p, _, rfl, mset_same, we_slice (we_var 0 rfl (we_var 4 rfl ⟨_, rfl, we_var 5 rfl ⟨_, rfl, _, .inr (.inr ⟨_, rfl, by rw [S_len, sizeLine_eq]; omega, rfl⟩), _, mset_same, by rw [List.length_map, sizeLine_eq]; omega, ?_⟩⟩))⟩)))
        rw [mset_mset, cut_bi _ _ _ (by omega)]
        refine wss_cons (ws_set 4 nd (we_addI (we_var 5 rfl (we_len (F.bn _ (by decide +kernel)) (we_var 1 rfl ⟨_, lenS (by rw [S_len, sizeLine_eq, sep_len]; omega), _, _, rfl, rfl, wss_nil (wss_nil ?_)⟩)))))
        refine ⟨some (.int (i : Nat)), some (.str ⟨#[c]⟩), d + wgt c, i + 3, fo ++ [(l.take i).drop b], ?_, ?_, by rw [List.length_append, List.length_singleton]; omega, hG⟩
        · rw [S_len, sep_len]
          rfl
        · rw [List.map_append]; rfl
      | false =>
        rw [if_neg (by rintro ⟨_, y⟩; rw [hp2] at y; cases y)] at hG
        exact wss_nil (wss_nil ⟨_, _, _, b, fo, rfl, rfl, by omega, hG⟩)
    · rw [decide_eq_false h0]
      rw [if_neg (fun y => h0 y.1)] at hG
      exact wss_nil (wss_nil ⟨_, _, _, b, fo, rfl, rfl, by omega, hG⟩)
  · rintro ρ' M' ⟨o1, o2, d, b, fo, rfl, rfl, hf, hG⟩
    rw [enumS_len] at hG hf
    rw [List.drop_length, PL.G] at hG
    refine wss_cons (ws_ret (we_lst (wa_star (we_var 2 rfl ⟨_, .inl mset_same, wa_cons (we_slice (we_var 0 rfl (we_var 4 rfl ⟨_, rfl, _, .inr (.inr ⟨_, rfl, by rw [S_len, sizeLine_eq]; omega, rfl⟩), wa_nil fun ys ey => ⟨?_, ?_⟩⟩)))⟩))))
    · rw [ey, List.length_append, List.length_map, List.length_singleton, sizeLine_eq]; omega
    · refine ⟨_, M, les_new hp, .same _, ?_⟩
      rw [ey, cut_b]
      rw [← hG, List.map_append] at hc
      exact hc
end
end W
/-! C3: copies_in, row_in, groups_in. -/
namespace W
open PySem PySem.Spec PyProof.Rows L2 DL SX PL
section
variable {P : Program} {w : World} {K : PySem.W.Frag} {mg : Str → Option Value} {base : Heap}
theorem le30 {n : Nat} (h : n ≤ 10 ^ 30) : (n : Int) ≤ 10 ^ 30 := by
  have e : ((10 ^ 30 : Nat) : Int) = 10 ^ 30 := by decide +kernel
  omega
theorem sz1 : 1 ≤ sizeLine := by decide
theorem sz2 : 2 ≤ sizeLine := by decide
theorem sz3 : 3 ≤ sizeLine := by decide
def wrd (b : Bool) : Str := if b then "introduced" else "beside"
theorem starts1 (c d : Nat) (r : List Nat) : Txt.startswith (S (c :: r)) (S [d]) = decide (c = d) := by
  have q := TL.at_iff (x := S (c :: r)) (y := S [d]) (by simp [TL.tl]) 0
  have e : TL.pre (TL.tl (S [d])) ((TL.tl (S (c :: r))).drop 0) = decide (c = d) := by
    show TL.pre [d] (c :: r) = _
    unfold TL.pre
    simp
    rfl
  rw [e] at q
  unfold Txt.startswith
  rw [S_len, S_len]
  rw [show decide (0 + [d].length ≤ (c :: r).length) = true from decide_eq_true (by simp), Bool.true_and]
  by_cases h : c = d
  · rw [decide_eq_true h] at q ⊢
    exact (q.mpr rfl).2
  · rw [decide_eq_false h] at q ⊢
    cases hs : Builtin.Str.subAt (S (c :: r)) (S [d]) 0 with
    | false => rfl
    | true => exact absurd (q.mp ⟨by rw [S_len, S_len]; simp, hs⟩) (by decide)
theorem ends1 (c d : Nat) (r : List Nat) : Txt.endswith (S (r ++ [c])) (S [d]) = decide (c = d) := by
  have q := TL.at_iff (x := S (r ++ [c])) (y := S [d]) (by simp [TL.tl]) r.length
  have e : TL.pre (TL.tl (S [d])) ((TL.tl (S (r ++ [c]))).drop r.length) = decide (c = d) := by
    show TL.pre [d] ((r ++ [c]).drop r.length) = _
    rw [List.drop_left]
    unfold TL.pre
    simp
    rfl
  rw [e] at q
  unfold Txt.endswith
  have el : (S (r ++ [c])).length - (S [d]).length = r.length := by rw [S_len, S_len]; simp
  rw [el, S_len, S_len]
  rw [show decide (0 + [d].length ≤ (r ++ [c]).length) = true from decide_eq_true (by simp), Bool.true_and]
  by_cases h : c = d
  · rw [decide_eq_true h] at q ⊢
    exact (q.mpr rfl).2
  · rw [decide_eq_false h] at q ⊢
    cases hs : Builtin.Str.subAt (S (r ++ [c])) (S [d]) r.length with
    | false => rfl
    | true => exact absurd (q.mp ⟨by rw [S_len, S_len]; simp, hs⟩) (by decide)
theorem cut_mid (o c : Nat) (m : List Nat) : cutS (S (o :: (m ++ [c]))) (some 1) (some (-1)) = S m := by
  unfold cutS
  rw [S_len, show (some (1 : Int)) = some ((1 : Nat) : Int) from rfl, HT.sIx_nat]
  have e1 : (o :: (m ++ [c])).length = m.length + 2 := by simp
  have e2 : HT.sIx (o :: (m ++ [c])).length (o :: (m ++ [c])).length (some (-1)) = m.length + 1 := by
    rw [e1]; simp only [HT.sIx]; rw [if_pos (by decide)]; omega
  rw [e2, e1, Nat.min_eq_left (by omega)]
  show S (((m ++ [c]).drop 0).take (m.length + 1 - 1)) = _
  rw [List.drop_zero, Nat.add_sub_cancel, List.take_left]
theorem br_S (b : Bool) : (S [opn b], S [cls b]) = (if b then (("{" : Str), ("}" : Str)) else (("[" : Str), ("]" : Str))) := by
  cases b <;> decide +kernel
theorem around_get {i : Nat} {x : D} (h : (gitems aroundD)[i]? = some x) : ∃ b : Bool, x = .tup [.str (wrd b), .tup [tS [opn b], tS [cls b]]] ∧ i = if b then 1 else 0 := by
  match i, h with
  | 0, h =>
    cases h
    refine ⟨false, ?_, rfl⟩
    have := br_S false
    injection this with h1 h2
    rw [tS, tS, h1, h2]; rfl
  | 1, h =>
    cases h
    refine ⟨true, ?_, rfl⟩
    have := br_S true
    injection this with h1 h2
    rw [tS, tS, h1, h2]; rfl
  | n + 2, h => simp [gitems, aroundD] at h
theorem sep_S (b : Bool) : S (sep b) = (if b then (" * " : Str) else (" + " : Str)) := by cases b <;> decide +kernel
theorem signs_of {i : Nat} {x : D} (h : (gitems signsD)[i]? = some x) : ∃ b : Bool, x = .tup [.str (wrd b), tS (sep b)] ∧ i = if b then 1 else 0 := by
  match i, h with
  | 0, h => cases h; refine ⟨false, ?_, rfl⟩; rw [tS, sep_S]; rfl
  | 1, h => cases h; refine ⟨true, ?_, rfl⟩; rw [tS, sep_S]; rfl
  | n + 2, h => simp [gitems, signsD] at h
/-- the first sign, and no bracket of copies -/
theorem txt_no {t : T} (h : Good t) (hn : ∀ s n u, t ≠ .cop s n u) : ∃ c r, txt t = c :: r ∧ ∀ b, c ≠ opn b := by
  cases t with
  | one => exact ⟨49, [], by rw [txt], fun b => by cases b <;> decide⟩
  | name x =>
    obtain ⟨h0, h1, h2⟩ := h
    cases x with
    | nil => exact absurd rfl h0
    | cons c r =>
      have q := h2 c List.mem_cons_self
      simp [letter] at q
      exact ⟨c, r, by rw [txt], fun b => by cases b <;> simp [opn] <;> omega⟩
  | cop s n u => exact absurd rfl (hn s n u)
  | row s ts => exact ⟨40, _, by rw [txt], fun b => by cases b <;> decide⟩
def copR : T → D
  | .cop s n t => .tup [.str (wrd s), .lst [.tup [.int (n : Nat), tS (txt t)]]]
  | _ => .non
theorem opn_inj {a b : Bool} : decide (opn a = opn b) = decide (a = b) := by cases a <;> cases b <;> decide
theorem cls_inj {a b : Bool} : decide (cls a = cls b) = decide (a = b) := by cases a <;> cases b <;> decide
def cCopiesIn : Con := fun ds M Φ => ∃ t, ds = [tS (txt t)] ∧ Good t ∧ (txt t).length ≤ 1000000 ∧ Φ (copR t) M
theorem ok_copies_in (F : Fx w K mg) (Fn : Fc P w K mg base "number_in" [] 1 1 cNumberIn) : BodyOk P w K mg base "copies_in" s_copies_in ["text", "word", "head", "end", "number", "blank", "rest", "many"] 1 1 cCopiesIn := by
  intro f cdv A outer s H E hr ds M Φ hl hc
  obtain ⟨t, rfl, hg, hl, hc⟩ := hc
  have nd : (["text", "word", "head", "end", "number", "blank", "rest", "many"] : List Str).Nodup := by decide +kernel
  obtain ⟨a, kvs, h1, h2, h3⟩ := F.gAROUND
  refine wss_cons (ws_for PassesOwn.never (wi_gitems h1 h2 h3 ?_))
  refine ⟨fun i ρ' M' => ∃ o1 o2 o3 o4 o5 o6 o7, ρ' = [some (tS (txt t)), o1, o2, o3, o4, o5, o6, o7] ∧ M' = M ∧ ∀ s n u, t = .cop s n u → i ≤ if s then 1 else 0, ?_, ?_, ?_⟩
  · exact ⟨none, none, none, none, none, none, none, rfl, rfl, fun s n u _ => Nat.zero_le _⟩
  · rintro i x ρ' M' hx ⟨o1, o2, o3, o4, o5, o6, o7, rfl, rfl, hi⟩
    obtain ⟨b, rfl, rfl⟩ := around_get hx
    refine wg_tup ⟨rfl, rfl, wgs_cons (wg_name 1 (wgs_cons (wg_tup ⟨rfl, rfl, wgs_cons (wg_name 2 (wgs_cons (wg_name 3 (wgs_nil ⟨rfl, wgs_nil ⟨rfl, ?_⟩⟩) nd)) nd)⟩)) nd)⟩
    refine wss_cons (ws_if (wt_ww (ww_and (wt_val (we_startswith (we_var 0 rfl ⟨_, rfl, we_var 2 rfl ⟨_, rfl, _, rfl, ?_⟩⟩))))))
    by_cases hcop : ∃ s n u, t = .cop s n u
    · obtain ⟨s, n, u, rfl⟩ := hcop
      obtain ⟨n1, n2, hu⟩ := hg
      have et : txt (.cop s n u) = opn s :: ((TL.numL n ++ 32 :: txt u) ++ [cls s]) := by rw [txt]; simp
      have hl2 : (TL.numL n).length + (txt u).length + 3 ≤ 1000000 := by rw [et] at hl; simp at hl; omega
      rw [et, starts1, opn_inj]
      by_cases hs : s = b
      · subst hs
        rw [decide_eq_true rfl]
        refine ww_and1 (wt_val (we_endswith (we_var 0 (by rfl) ⟨_, rfl, we_var 3 rfl ⟨_, rfl, _, rfl, ?_⟩⟩)))
        rw [show opn s :: ((TL.numL n ++ 32 :: txt u) ++ [cls s]) = (opn s :: (TL.numL n ++ 32 :: txt u)) ++ [cls s] from rfl, ends1, decide_eq_true rfl]
        refine wss_cons (ws_asg (we_partition (we_slice (we_var 0 rfl (we_int ⟨1, rfl, we_negI (we_int ⟨1, rfl, _, rfl, _, .inr (.inr ⟨_, rfl, ?_, rfl⟩), _, rfl, we_gstr F.gBLANK ⟨_, rfl, ?_, ?_, ?_⟩⟩)⟩)))))
        · rw [S_len, sizeLine_eq]; simp; omega
        · decide +kernel
        · refine Nat.le_trans (cutS_length _ _ _) ?_
          rw [S_len, sizeLine_eq]; simp; omega
        · rw [show (opn s :: (TL.numL n ++ 32 :: txt u)) ++ [cls s] = opn s :: ((TL.numL n ++ 32 :: txt u) ++ [cls s]) from rfl, cut_mid, show (" " : Str) = S [32] by decide +kernel]
          have hp : Txt.partition (S (TL.numL n ++ 32 :: txt u)) (S [32]) = (S (TL.numL n), S [32], S (txt u)) :=
            partition_some (by simp) (par_head (c := 32) (sep := []) (p := TL.numL n) (txt u) (TL.numL_free (by omega)))
          rw [hp]
          refine wg_tup ⟨rfl, rfl, wgs_cons (wg_name 4 (wgs_cons (wg_name 5 (wgs_cons (wg_name 6 (wgs_nil ⟨rfl, ?_⟩) nd)) nd)) nd)⟩
          refine wss_cons (ws_set 7 nd (we_call Fn (hr.mono (by decide)) (wa_cons (we_var 4 rfl (wa_nil ⟨rfl, n, rfl, by omega, n2, ?_⟩)))))
          refine wss_cons (ws_if (wt_ww (ww_and (wt_notN (we_var 7 rfl ?_)))))
          refine ww_and1 (wt_chainI (we_gint F.gLEAST_MANY (we_var 7 rfl ⟨_, _, rfl, rfl, ?_⟩)))
          rw [decide_eq_true (show (2 : Int) ≤ (n : Int) by omega)]
          refine we_gint F.gMOST_MANY ⟨_, rfl, ?_⟩
          rw [decide_eq_true (le30 n2)]
          refine wss_cons (ws_ret (we_tup (wa_cons (we_var 1 rfl (wa_cons (we_lst (wa_cons (we_tup (wa_cons (we_var 7 rfl (wa_cons (we_var 6 rfl (wa_nil ⟨sz2, wa_nil ⟨sz1, wa_nil ⟨sz2, Lets.of hc⟩⟩⟩)))))))))))))
      · rw [decide_eq_false hs]
        refine wss_nil (wss_nil ⟨_, _, _, _, _, _, _, rfl, rfl, fun s' n' u' e => ?_⟩)
        cases e
        have := hi s n u rfl
        cases s <;> cases b <;> simp_all
    · obtain ⟨c, r, et, hno⟩ := txt_no hg fun s n u e => hcop ⟨s, n, u, e⟩
      rw [et, starts1, decide_eq_false (hno b)]
      exact wss_nil (wss_nil ⟨_, _, _, _, _, _, _, by rw [← et]; rfl, rfl, fun s' n' u' e => absurd ⟨s', n', u', e⟩ hcop⟩)
  · rintro ρ' M' ⟨o1, o2, o3, o4, o5, o6, o7, rfl, rfl, hi⟩
    refine wss_cons (ws_ret (we_non (Lets.of ?_)))
    cases t with
    | cop s n u =>
      have := hi s n u rfl
      cases s <;> simp [gitems, aroundD] at this
    | one => exact hc
    | name x => exact hc
    | row s ts => exact hc

/-! ### row_in -/
def rowR (s : Bool) (ts : List T) : D := .tup [.str (wrd s), .lst (ts.map fun t => .tup [.int 1, tS (txt t)])]
theorem txts_len (ts : List T) : (txts ts).length = ts.length := by rw [txts_map, List.length_map]
theorem joins_len (s : Bool) : ∀ (ps : List (List Nat)), ps.length ≤ (TL.joinL (sep s) ps).length + 1
  | [] => Nat.zero_le _
  | [p] => by simp
  | p :: q :: r => by
    have ih := joins_len s (q :: r)
    rw [TL.joinL, List.length_append, List.length_append, sep_len]
    simp only [List.length_cons] at ih ⊢
    omega
theorem row_txt (s : Bool) (ts : List T) : txt (.row s ts) = 40 :: (TL.joinL (sep s) (txts ts) ++ [41]) := by rw [txt]
theorem row_len (s : Bool) (ts : List T) : (txt (.row s ts)).length = (TL.joinL (sep s) (txts ts)).length + 2 := by rw [row_txt]; simp
def cRowIn : Con := fun ds M Φ => ∃ s ts, ds = [tS (txt (.row s ts))] ∧ Good (.row s ts) ∧ (txt (.row s ts)).length ≤ 1000000 ∧ Φ (rowR s ts) M
theorem ok_row_in (F : Fx w K mg) (Fp : Fc P w K mg base "parted" [] 1 2 cParted) : BodyOk P w K mg base "row_in" s_row_in ["text", "word", "sign", "parts", "part"] 1 1 cRowIn := by
  intro f cdv A outer s H E hr ds M Φ hl hc
  obtain ⟨b, ts, rfl, ⟨hg1, hg⟩, hl, hc⟩ := hc
  have nd : (["text", "word", "sign", "parts", "part"] : List Str).Nodup := by decide +kernel
  obtain ⟨a, kvs, h1, h2, h3⟩ := F.gSIGNS
  have hz := row_len b ts
  have hn : ts ≠ [] := by rintro rfl; simp at hg1
  have hj := joins_len b (txts ts)
  rw [txts_len] at hj
  refine wss_cons (ws_if (wt_ww (ww_or (wt_not (wt_val (we_startswith (we_var 0 rfl ⟨_, rfl, we_str ⟨_, rfl, _, rfl, ?_⟩⟩)))))))
  have e1 : Txt.startswith (S (txt (.row b ts))) ("(" : Str) = true := by rw [row_txt, show ("(" : Str) = S [40] by decide +kernel, starts1, decide_eq_true rfl]
  have e2 : Txt.endswith (S (txt (.row b ts))) (")" : Str) = true := by rw [row_txt, show (")" : Str) = S [41] by decide +kernel, show 40 :: (TL.joinL (sep b) (txts ts) ++ [41]) = (40 :: TL.joinL (sep b) (txts ts)) ++ [41] from rfl, ends1, decide_eq_true rfl]
  rw [e1]
  refine ww_or1 (wt_not (wt_val (we_endswith (we_var 0 rfl ⟨_, rfl, we_str ⟨_, rfl, _, rfl, ?_⟩⟩))))
  rw [e2]
  refine wss_nil (wss_cons (ws_for PassesOwn.never (wi_gitems h1 h2 h3 ?_)))
  refine ⟨fun i ρ' M' => ∃ o1 o2 o3 o4, ρ' = [some (tS (txt (.row b ts))), o1, o2, o3, o4] ∧ M' = M ∧ i ≤ if b then 1 else 0, ?_, ?_, ?_⟩
  · exact ⟨none, none, none, none, rfl, rfl, Nat.zero_le _⟩
  · rintro i x ρ' M' hx ⟨o1, o2, o3, o4, rfl, rfl, hi⟩
    obtain ⟨c, rfl, rfl⟩ := signs_of hx
    refine wg_tup ⟨rfl, rfl, wgs_cons (wg_name 1 (wgs_cons (wg_name 2 (wgs_nil ⟨rfl, ?_⟩) nd)) nd)⟩
    refine wss_cons (ws_set 3 nd (we_call Fp (hr.mono (by decide)) (wa_cons (we_slice (we_var 0 rfl (we_int ⟨1, rfl, we_negI (we_int ⟨1, rfl, _, rfl, _, .inr (.inr ⟨_, rfl, ?_, rfl⟩), wa_cons (we_var 2 rfl (wa_nil ⟨rfl, TL.joinL (sep b) (txts ts), c, ?_, ?_, ?_⟩))⟩)⟩))))))
    · rw [S_len, sizeLine_eq]; omega
    · rw [row_txt, cut_mid]; rfl
    · omega
    · by_cases hbc : b = c
      · subst hbc
        rw [parts_join hn hg]
        refine wss_cons (ws_if (wt_gtI (we_len (F.bn _ (by decide +kernel)) (we_var 3 rfl ⟨_, lenL, we_int ⟨_, _, rfl, rfl, ?_⟩⟩))))
        rw [List.length_map, txts_len, decide_eq_true (show (1 : Int) < (ts.length : Int) by omega)]
        refine wss_cons (ws_ret (we_tup (wa_cons (we_var 1 rfl (wa_cons (we_lc nd (blkOk_by (N := ["text", "word", "sign", "parts", "part"]) (sc := defScope s_row_in) (own := [("part", 4)]) (by decide +kernel)) (fun _ _ _ _ _ => pg_name (i := 4) nd rfl (Or.inl rfl)) (gt_name (by decide)) (fun _ _ _ _ _ => pts_nil) tk_nil
          (wi_list (we_var 3 rfl ⟨_, .inl rfl, ?_⟩)))))))) 
        refine ⟨by rw [List.length_map, txts_len, sizeLine_eq]; omega, fun i acc M'' => M'' = M' ∧ acc = (ts.take i).map fun t => .tup [.int 1, tS (txt t)], ⟨rfl, rfl⟩, ?_, ?_⟩
        · rintro i x acc M'' hx ⟨rfl, rfl⟩
          rw [txts_map, List.map_map, List.getElem?_map] at hx
          obtain ⟨t, ht, rfl⟩ := Option.map_eq_some_iff.mp hx
          intro s1 H1 C cl fp
          refine we_tup (wa_cons (we_int (wa_cons (we_var 4 rfl (wa_nil ⟨sz2, rfl, ?_⟩)))))
          rw [take_snoc ht, List.map_append]; rfl
        · rintro acc M'' ⟨rfl, rfl⟩
          rw [List.length_map, txts_len, List.take_length]
          exact wa_nil ⟨sz2, Lets.of hc⟩
      · have hcb : c = !b := by cases b <;> cases c <;> simp_all
        subst hcb
        have := parts_none (s := !b) hn hg
        rw [Bool.not_not] at this
        rw [this]
        refine wss_cons (ws_if (wt_gtI (we_len (F.bn _ (by decide +kernel)) (we_var 3 rfl ⟨_, lenL, we_int ⟨_, _, rfl, rfl, ?_⟩⟩))))
        rw [show decide ((1 : Int) < ((([TL.joinL (sep b) (txts ts)].map tS).length : Nat) : Int)) = false from rfl]
        refine wss_nil (wss_nil ⟨_, _, _, _, rfl, rfl, ?_⟩)
        cases b <;> simp_all
  · rintro ρ' M' ⟨o1, o2, o3, o4, rfl, rfl, hi⟩
    cases b <;> simp [gitems, signsD] at hi
end
end W
/-! PM2: the parts of a plan, its people, lengths and sizes. -/
namespace PL
open PySem SX TL
/-- how often, what -/
def kids : T → List (Nat × T)
  | .cop _ n t => [(n, t)]
  | .row _ ts => ts.map fun t => (1, t)
  | _ => []
def isCop : T → Bool
  | .cop _ _ _ => true
  | _ => false
mutual
def ppl : T → Nat
  | .one => 1
  | .name _ => 1
  | .cop _ n t => n * ppl t
  | .row _ ts => ppls ts
def ppls : List T → Nat
  | [] => 0
  | t :: ts => ppl t + ppls ts
end
theorem ppls_sum : ∀ ts : List T, ppls ts = (ts.map ppl).sum
  | [] => rfl
  | t :: ts => by rw [ppls, ppls_sum ts, List.map_cons, List.sum_cons]
theorem ppl_kids {t : T} (h : kids t ≠ []) : ppl t = ((kids t).map fun q => q.1 * ppl q.2).sum := by
  cases t with
  | one => simp [kids] at h
  | name x => simp [kids] at h
  | cop s n t => simp [kids, ppl]
  | row s ts =>
    rw [ppl, ppls_sum, kids, List.map_map]
    congr 1
    apply List.map_congr_left
    intro t _
    simp
theorem ppl_none {t : T} (h : kids t = []) (hg : Good t) : ppl t = 1 := by
  cases t with
  | one => rw [ppl]
  | name x => rw [ppl]
  | cop s n t => simp [kids] at h
  | row s ts =>
    have := hg.1
    simp [kids] at h
    subst h
    simp at this
theorem join_len_mem {S : List Nat} : ∀ {ps : List (List Nat)} {p : List Nat}, p ∈ ps → p.length ≤ (joinL S ps).length
  | [q], p, h => by
    have : p = q := by simpa using h
    subst this
    rw [joinL]; exact Nat.le_refl _
  | q :: r :: ps, p, h => by
    rw [joinL, List.length_append, List.length_append]
    rcases List.mem_cons.mp h with rfl | h
    · omega
    · have := join_len_mem (S := S) h
      omega
theorem kids_ok {t : T} {q : Nat × T} (hq : q ∈ kids t) (hg : Good t) : Good q.2 ∧ ht q.2 < ht t ∧ (txt q.2).length < (txt t).length ∧ 1 ≤ q.1 ∧ q.1 ≤ 10 ^ 30 := by
  cases t with
  | one => simp [kids] at hq
  | name x => simp [kids] at hq
  | cop s n t =>
    have : q = (n, t) := by simpa [kids] using hq
    subst this
    obtain ⟨h1, h2, h3⟩ := hg
    refine ⟨h3, by rw [ht]; exact Nat.lt_succ_self _, by rw [txt]; simp; omega, by show 1 ≤ n; omega, h2⟩
  | row s ts =>
    obtain ⟨t, ht', rfl⟩ := List.mem_map.mp (show q ∈ ts.map (fun t => (1, t)) from hq)
    refine ⟨goods_all.mp hg.2 t ht', ?_, ?_, Nat.le_refl _, show 1 ≤ 10 ^ 30 by decide⟩
    · rw [ht]; have := hts_le ht'; show ht t < _; omega
    · rw [txt]
      have : (txt t).length ≤ (joinL (sep s) (txts ts)).length := join_len_mem (by rw [txts_map]; exact List.mem_map_of_mem ht')
      simp; omega
theorem kids_told {t : T} {q : Nat × T} (hq : q ∈ kids t) (hg : Told t) : Told q.2 := by
  cases t with
  | one => simp [kids] at hq
  | name x => simp [kids] at hq
  | cop s n t =>
    have : q = (n, t) := by simpa [kids] using hq
    subst this
    exact hg
  | row s ts =>
    obtain ⟨t, ht', rfl⟩ := List.mem_map.mp (show q ∈ ts.map (fun t => (1, t)) from hq)
    exact tolds_all.mp hg t ht'
theorem numL_lt16 : ∀ n : Nat, n < 16 ^ (numL n).length := by
  intro n
  induction n using Nat.strongRecOn with
  | _ n ih =>
    by_cases hn : n < 10
    · rw [numL_lt hn]; show n < 16 ^ 1; omega
    · have := ih (n / 10) (by omega)
      rw [numL_step (by omega), List.length_append, List.length_singleton, Nat.pow_succ]
      omega
theorem pow16_add {a b m n : Nat} (h1 : a < 16 ^ m) (h2 : b < 16 ^ n) : a + b < 16 ^ (m + n + 1) := by
  have e1 : 16 ^ m ≤ 16 ^ (m + n) := Nat.pow_le_pow_right (by decide) (by omega)
  have e2 : 16 ^ n ≤ 16 ^ (m + n) := Nat.pow_le_pow_right (by decide) (by omega)
  rw [Nat.pow_succ]
  omega
theorem pow16_le {a m n : Nat} (h1 : a < 16 ^ m) (h : m ≤ n) : a < 16 ^ n := Nat.lt_of_lt_of_le h1 (Nat.pow_le_pow_right (by decide) h)
mutual
theorem ppl_lt : ∀ {t : T}, Good t → ppl t < 16 ^ (txt t).length
  | .one, _ => by rw [ppl, txt]; decide
  | .name x, h => by
    rw [ppl, txt]
    have : 0 < x.length := List.length_pos_iff.mpr h.1
    exact pow16_le (m := 1) (by decide) this
  | .cop s n t, h => by
    rw [ppl, txt]
    have h1 := numL_lt16 n
    have h2 := ppl_lt h.2.2
    have h3 : n * ppl t < 16 ^ ((numL n).length + (txt t).length) := by
      rw [Nat.pow_add]
      exact Nat.mul_lt_mul'' h1 h2
    exact pow16_le h3 (by simp; omega)
  | .row s ts, h => by
    rw [ppl, txt]
    exact pow16_le (ppls_lt (s := s) h.2) (by simp; omega)
theorem ppls_lt {s : Bool} : ∀ {ts : List T}, Goods ts → ppls ts < 16 ^ (joinL (sep s) (txts ts)).length
  | [], _ => by rw [ppls]; exact Nat.pow_pos (by decide)
  | [t], h => by rw [ppls, ppls, txts, txts, joinL]; exact ppl_lt h.1
  | t :: u :: ts, h => by
    have h1 := ppl_lt h.1
    have h2 := ppls_lt (s := s) (ts := u :: ts) h.2
    rw [ppls, show txts (t :: u :: ts) = txt t :: txt u :: txts ts by rw [txts, txts], joinL]
    rw [show txts (u :: ts) = txt u :: txts ts by rw [txts]] at h2
    refine pow16_le (pow16_add h1 h2) ?_
    rw [List.length_append, List.length_append, sep_len]; omega
end
mutual
theorem txt_lt : ∀ {t : T}, Good t → ∀ c ∈ txt t, c < 128
  | .one, _, c, hc => by rw [txt] at hc; simp at hc; omega
  | .name x, h, c, hc => by
    rw [txt] at hc
    have q := h.2.2 c hc
    simp [letter] at q; omega
  | .cop s n t, h, c, hc => by
    rw [txt] at hc
    simp at hc
    rcases hc with rfl | hc | rfl | hc | rfl
    · cases s <;> decide
    · have := numL_digits n c hc; omega
    · decide
    · exact txt_lt h.2.2 c hc
    · cases s <;> decide
  | .row s ts, h, c, hc => by
    rw [txt] at hc
    simp at hc
    rcases hc with rfl | hc | rfl
    · decide
    · exact txts_lt (s := s) h.2 c hc
    · decide
theorem txts_lt {s : Bool} : ∀ {ts : List T}, Goods ts → ∀ c ∈ joinL (sep s) (txts ts), c < 128
  | [], _, c, hc => by rw [txts, joinL] at hc; simp at hc
  | [t], h, c, hc => by rw [txts, txts, joinL] at hc; exact txt_lt h.1 c hc
  | t :: u :: ts, h, c, hc => by
    rw [show txts (t :: u :: ts) = txt t :: txt u :: txts ts by rw [txts, txts], joinL] at hc
    rcases List.mem_append.mp hc with hc | hc
    · exact txt_lt h.1 c hc
    · rcases List.mem_append.mp hc with hc | hc
      · cases s <;> (simp [sep, sgn] at hc; omega)
      · exact txts_lt (s := s) (ts := u :: ts) h.2 c (by rw [show txts (u :: ts) = txt u :: txts ts by rw [txts]]; exact hc)
end
theorem log16 {a m : Nat} (h : a < 16 ^ m) : a.log2 ≤ 4 * m := by
  by_cases h0 : a = 0
  · subst h0; simp
  · have e : a < 2 ^ (4 * m) := by rw [Nat.pow_mul]; exact h
    exact Nat.le_of_lt ((Nat.log2_lt h0).mpr e)
end PL
/-! C4: groups_in, is_plan_text, names_in. -/
namespace W
open PySem PySem.Spec PyProof.Rows L2 DL SX PL
section
variable {P : Program} {w : World} {K : PySem.W.Frag} {mg : Str → Option Value} {base : Heap}
def wordT : T → Str
  | .one => "one"
  | .name _ => "name"
  | .cop s _ _ => wrd s
  | .row s _ => wrd s
def grpD (t : T) : List D := (kids t).map fun q => .tup [.int (q.1 : Nat), tS (txt q.2)]
def isOne : T → Bool
  | .one => true
  | _ => false
def isNm : T → Bool
  | .name _ => true
  | _ => false
theorem first_no {t : T} (h : Good t) (h1 : isNm t = false) : ∃ c r, txt t = c :: r ∧ letter c = false := by
  cases t with
  | one => exact ⟨49, [], by rw [txt], by decide⟩
  | name x => cases h1
  | cop s n u => exact ⟨opn s, _, by rw [txt], by cases s <;> decide⟩
  | row s ts => exact ⟨40, _, by rw [txt], by decide⟩
theorem isName_txt {t : T} (h : Good t) : isNameL (txt t) = isNm t := by
  cases hn : isNm t with
  | true =>
    cases t with
    | name x =>
      obtain ⟨h0, h1, h2⟩ := h
      rw [txt]
      unfold isNameL
      rw [decide_eq_true (show 1 ≤ x.length from List.length_pos_iff.mpr h0), decide_eq_true h1, List.all_eq_true.mpr h2]; rfl
    | _ => cases hn
  | false =>
    obtain ⟨c, r, e, hc⟩ := first_no h hn
    rw [e]
    unfold isNameL
    rw [List.all_cons, hc]; simp
theorem isOne_txt {t : T} (h : Good t) : decide (S (txt t) = ("1" : Str)) = isOne t := by
  rw [show ("1" : Str) = S [49] by decide +kernel]
  have e : decide (S (txt t) = S [49]) = decide (txt t = [49]) := decide_eq_decide.mpr ⟨S_inj, fun h => by rw [h]⟩
  rw [e]
  cases t with
  | one => rw [txt]; rfl
  | name x =>
    obtain ⟨h0, h1, h2⟩ := h
    rw [txt]
    refine decide_eq_false fun q => ?_
    subst q
    exact absurd (h2 49 (by simp)) (by decide)
  | cop s n u => rw [txt]; refine decide_eq_false fun q => ?_; injection q with q1 _; cases s <;> cases q1
  | row s ts => rw [txt]; refine decide_eq_false fun q => ?_; injection q with q1 _; cases q1
def cGroupsIn : Con := fun ds M Φ => ∃ t, ds = [tS (txt t)] ∧ Good t ∧ (txt t).length ≤ 1000000 ∧ Φ (.tup [.str (wordT t), .lst (grpD t)]) M
theorem ok_groups_in (F : Fx w K mg) (F1 : Fc P w K mg base "is_name" [] 1 1 cIsName) (F2 : Fc P w K mg base "copies_in" [] 2 1 cCopiesIn) (F3 : Fc P w K mg base "row_in" [] 2 1 cRowIn) :
    BodyOk P w K mg base "groups_in" s_groups_in ["text", "found"] 1 2 cGroupsIn := by
  intro f cdv A outer s H E hr ds M Φ hl hc
  obtain ⟨t, rfl, hg, hl, hc⟩ := hc
  have nd : (["text", "found"] : List Str).Nodup := by decide +kernel
  refine wss_cons (ws_if (wt_eqS (we_var 0 rfl (we_gstr F.gPERSON ⟨_, rfl, ?_⟩))))
  rw [isOne_txt hg]
  cases h1 : isOne t with
  | true =>
    cases t with
    | one => exact wss_cons (ws_ret (we_tup (wa_cons (we_gstr F.gONE (wa_cons (we_lst (wa_nil ⟨Nat.zero_le _, wa_nil ⟨sz2, Lets.of hc⟩⟩)))))))
    | _ => cases h1
  | false =>
    refine wss_nil (wss_cons (ws_if (wt_val (we_call F1 (hr.mono (by decide)) (wa_cons (we_var 0 rfl (wa_nil ⟨rfl, _, rfl, hl, _, rfl, ?_⟩)))))))
    rw [isName_txt hg]
    cases h2 : isNm t with
    | true =>
      cases t with
      | name x => exact wss_cons (ws_ret (we_tup (wa_cons (we_gstr F.gNAME (wa_cons (we_lst (wa_nil ⟨Nat.zero_le _, wa_nil ⟨sz2, Lets.of hc⟩⟩)))))))
      | _ => cases h2
    | false =>
      refine wss_nil (wss_cons (ws_set 1 nd (we_call F2 (hr.mono (by decide)) (wa_cons (we_var 0 rfl (wa_nil ⟨rfl, _, rfl, hg, hl, ?_⟩))))))
      refine wss_cons (ws_ret (we_if (wt_isN (we_var 1 rfl ?_))))
      cases t with
      | one => cases h1
      | name x => cases h2
      | cop b n u => exact we_var 1 rfl (Lets.of hc)
      | row b ts =>
        refine we_call F3 (hr.mono (by decide)) (wa_cons (we_var 0 rfl (wa_nil ⟨rfl, _, _, rfl, hg, hl, Lets.of ?_⟩)))
        unfold grpD kids at hc
        rw [List.map_map] at hc
        exact hc

/-! ### is_plan_text -/
def cPlanText (h : Nat) : Con := fun ds M Φ => ∃ t d, ds = [tS (txt t), .int (d : Nat)] ∧ Good t ∧ (txt t).length ≤ 1000000 ∧ ht t ≤ h ∧ d + ht t ≤ 60 ∧ Φ (.bl true) M
theorem kids_len {t : T} (hg : Good t) : (kids t).length ≤ (txt t).length := by
  cases t with
  | one => simp [kids]
  | name x => simp [kids]
  | cop s n u => rw [txt]; simp [kids]
  | row s ts =>
    have := joins_len s (txts ts)
    rw [txts_len] at this
    rw [row_len]; simp [kids]; omega
theorem ok_is_plan_text (h : Nat) (F : Fx w K mg) (F1 : Fc P w K mg base "groups_in" [] 3 1 cGroupsIn) (F2 : ∀ j, h = j + 1 → Fc P w K mg base "is_plan_text" [] (j + 4) 2 (cPlanText j)) :
    BodyOk P w K mg base "is_plan_text" s_is_plan_text ["text", "depth", "found", "many", "part"] 2 (h + 3) (cPlanText h) := by
  intro f cdv A outer s H E hr ds M Φ hl hc
  obtain ⟨t, d, rfl, hg, hl, hh, hd, hc⟩ := hc
  have nd : (["text", "depth", "found", "many", "part"] : List Str).Nodup := by decide +kernel
  have hk := kids_len hg
  refine wss_cons (ws_set 2 nd (we_if (wt_leI (we_var 1 rfl (we_gint F.gMOST_DEPTH ⟨_, _, rfl, rfl, ?_⟩)))))
  rw [decide_eq_true (show (d : Int) ≤ 60 by omega)]
  refine we_call F1 (hr.mono (by omega)) (wa_cons (we_var 0 rfl (wa_nil ⟨rfl, _, rfl, hg, hl, ?_⟩)))
  refine wss_cons (ws_ret (we_and (we_notN (we_var 2 rfl ⟨_, rfl, ?_⟩))))
  refine we_one (we_all (F.bn _ (by decide +kernel)) (we_lc nd (blkOk_by (N := ["text", "depth", "found", "many", "part"]) (sc := defScope s_is_plan_text) (own := [("many", 3), ("part", 4)]) (by decide +kernel)) (fun _ _ _ _ _ => pg_tup rfl (pgs_cons (pg_name (i := 3) nd rfl (Or.inl rfl)) (pgs_cons (pg_name (i := 4) nd rfl (Or.inl rfl)) pgs_nil)) rfl rfl) (gt_two (by decide) (by decide)) (fun _ _ _ _ _ => pts_nil) tk_nil
    (wi_list (we_ix (we_var 2 rfl (we_int ⟨1, _, rfl, ixT (atI_nat (j := 1) rfl), _, .inl rfl, ?_⟩))))))
  refine ⟨by rw [grpD, List.length_map, sizeLine_eq]; omega, fun i acc M' => M' = M ∧ acc = (List.replicate i true).map D.bl, ⟨rfl, rfl⟩, ?_, ?_⟩
  · rintro i x acc M' hx ⟨rfl, rfl⟩
    rw [grpD, List.getElem?_map] at hx
    obtain ⟨q, hq, rfl⟩ := Option.map_eq_some_iff.mp hx
    obtain ⟨g1, g2, g3, g4, g5⟩ := kids_ok (List.mem_of_getElem? hq) hg
    refine ⟨_, _, rfl, ?_⟩
    intro s1 H1 C cl fp
    obtain ⟨j, rfl⟩ : ∃ j, h = j + 1 := ⟨h - 1, by omega⟩
    refine we_call (F2 j rfl) (hr.mono (by omega)) (wa_cons (we_var 4 rfl (wa_cons (we_addI (we_var 1 rfl (we_int ⟨_, _, rfl, rfl, wa_nil ⟨rfl, q.2, d + 1, rfl, g1, by omega, by omega, by omega, rfl, ?_⟩⟩))))))
    rw [List.replicate_succ', List.map_append]; rfl
  · rintro acc M' ⟨rfl, rfl⟩
    exact ⟨_, rfl, by rw [List.all_replicate]; simp; exact Lets.of hc⟩

/-! ### names_in, of a told plan -/
def cNamesIn (h : Nat) : Con := fun ds M Φ => ∃ t, ds = [tS (txt t)] ∧ Good t ∧ Told t ∧ (txt t).length ≤ 1000000 ∧ ht t ≤ h ∧ Φ (.lst []) M
theorem wordT_told {t : T} (h : Told t) : decide (wordT t = ("name" : Str)) = false := by
  cases t with
  | one => decide +kernel
  | name x => exact h.elim
  | cop s n u =>
    show decide (wrd s = ("name" : Str)) = false
    cases s <;> decide +kernel
  | row s ts =>
    show decide (wrd s = ("name" : Str)) = false
    cases s <;> decide +kernel
theorem ok_names_in (h : Nat) (F : Fx w K mg) (F1 : Fc P w K mg base "groups_in" [] 3 1 cGroupsIn) (F2 : ∀ j, h = j + 1 → Fc P w K mg base "names_in" [] (j + 4) 1 (cNamesIn j)) :
    BodyOk P w K mg base "names_in" s_names_in ["text", "word", "groups", "found", "many", "part", "name"] 1 (h + 3) (cNamesIn h) := by
  intro f cdv A outer s H E hr ds M Φ hl hc
  obtain ⟨t, rfl, hg, htd, hl, hh, hc⟩ := hc
  have nd : (["text", "word", "groups", "found", "many", "part", "name"] : List Str).Nodup := by decide +kernel
  refine wss_cons (ws_asg (we_call F1 (hr.mono (by omega)) (wa_cons (we_var 0 rfl (wa_nil ⟨rfl, _, rfl, hg, hl, ?_⟩)))))
  refine wg_tup ⟨rfl, rfl, wgs_cons (wg_name 1 (wgs_cons (wg_name 2 (wgs_nil ⟨rfl, ?_⟩) nd)) nd)⟩
  refine wss_cons (ws_if (wt_eqS (we_var 1 rfl (we_gstr F.gNAME ⟨_, rfl, ?_⟩))))
  rw [wordT_told htd]
  refine wss_nil (wss_cons (ws_set 3 nd (we_lstM (wa_nil ⟨Nat.zero_le _, fun p hp => ?_⟩))))
  refine wss_cons (ws_for PassesOwn.never (wi_list (we_var 2 rfl ⟨_, .inl rfl, ?_⟩)))
  refine ⟨fun i ρ' M' => ∃ o1 o2, ρ' = [some (tS (txt t)), some (.str (wordT t)), some (.lst (grpD t)), some (.ob p), o1, o2, none] ∧ M' = mset M p (.lst []), ⟨_, _, rfl, rfl⟩, ?_, ?_⟩
  · rintro i x ρ' M' hx ⟨o1, o2, rfl, rfl⟩
    rw [grpD, List.getElem?_map] at hx
    obtain ⟨q, hq, rfl⟩ := Option.map_eq_some_iff.mp hx
    obtain ⟨g1, g2, g3, g4, g5⟩ := kids_ok (List.mem_of_getElem? hq) hg
    refine wg_tup ⟨rfl, rfl, wgs_cons (wg_name 4 (wgs_cons (wg_name 5 (wgs_nil ⟨rfl, ?_⟩) nd)) nd)⟩
    obtain ⟨j, rfl⟩ : ∃ j, h = j + 1 := ⟨h - 1, by omega⟩
    refine wss_cons (ws_expr (we_extend (we_var 3 rfl ⟨p, _, rfl, mset_same, we_call (F2 j rfl) (hr.mono (by omega)) (wa_cons (we_var 5 rfl (wa_nil ⟨rfl, q.2, rfl, g1, kids_told (List.mem_of_getElem? hq) htd, by omega, by omega, _, _, mset_same, rfl, Nat.zero_le _, ?_⟩)))⟩)))
    rw [mset_mset]
    exact wss_nil ⟨_, _, rfl, rfl⟩
  · rintro ρ' M' ⟨o1, o2, rfl, rfl⟩
    refine wss_let (M' := M) (ρ' := [some (tS (txt t)), some (.str (wordT t)), some (.lst (grpD t)), some (.lst []), none, none, none]) (les_new hp) ?_ ?_
    · exact .val (.same _) (.val (.same _) (.val (.same _) (.val (.lst mset_same hp) (.drop (.drop (.drop .nil))))))
    refine wss_cons (ws_ret (we_sortedNone (F.bn _ (by decide +kernel)) (F.bn _ (by decide +kernel)) (we_lc nd (blkOk_by (N := ["text", "word", "groups", "found", "many", "part", "name"]) (sc := defScope s_names_in) (own := [("name", 6)]) (by decide +kernel)) (fun _ _ _ _ _ => pg_name (i := 6) nd rfl (Or.inl rfl)) (gt_name (by decide)) (fun _ _ _ _ _ => pts_nil) tk_nil
      (wi_list (we_var 3 rfl ⟨_, .inl rfl, ?_⟩)))))
    refine ⟨Nat.zero_le _, fun i acc M' => M' = M ∧ acc = [], ⟨rfl, rfl⟩, ?_, ?_⟩
    · rintro i x acc M' hx
      simp at hx
    · rintro acc M' ⟨rfl, rfl⟩
      exact ⟨rfl, Lets.of hc⟩
end
end W
/-! C5: the class Plan. -/
namespace W
open PySem PySem.Spec PyProof.Rows L2 DL SX PL
def fNames : List Str := ["own_text", "own_names", "own_word", "own_groups", "own_copies", "own_people"]
def six (a b c d e f : D) : List (Str × D) := [("own_text", a), ("own_names", b), ("own_word", c), ("own_groups", d), ("own_copies", e), ("own_people", f)]
theorem putD_ne {g f : Str} {d y : D} {r : List (Str × D)} (h : g ≠ f) : putD f d ((g, y) :: r) = (g, y) :: putD f d r := by
  rw [putD, if_neg h]
def f1 (a : D) : List (Str × D) := [("own_text", a)]
def f2 (a b : D) : List (Str × D) := [("own_text", a), ("own_names", b)]
def f3 (a b c : D) : List (Str × D) := [("own_text", a), ("own_names", b), ("own_word", c)]
def f4 (a b c d : D) : List (Str × D) := [("own_text", a), ("own_names", b), ("own_word", c), ("own_groups", d)]
def f5 (a b c d e : D) : List (Str × D) := [("own_text", a), ("own_names", b), ("own_word", c), ("own_groups", d), ("own_copies", e)]
section
variable {a b c d e f x : D}
theorem put1 : putD "own_text" x [] = f1 x := rfl
theorem put2 : putD "own_names" x (f1 a) = f2 a x := by unfold f1; rw [putD_ne] <;> first | rfl | decide +kernel
theorem put3 : putD "own_word" x (f2 a b) = f3 a b x := by unfold f2; rw [putD_ne, putD_ne] <;> first | rfl | decide +kernel
theorem put4 : putD "own_groups" x (f3 a b c) = f4 a b c x := by unfold f3; rw [putD_ne, putD_ne, putD_ne] <;> first | rfl | decide +kernel
theorem put5 : putD "own_copies" x (f4 a b c d) = f5 a b c d x := by unfold f4; rw [putD_ne, putD_ne, putD_ne, putD_ne] <;> first | rfl | decide +kernel
theorem put6 : putD "own_people" x (f5 a b c d e) = six a b c d e x := by unfold f5; rw [putD_ne, putD_ne, putD_ne, putD_ne, putD_ne] <;> first | rfl | decide +kernel
theorem sl1 : (f1 a).length < 1000 := by show 1 < 1000; decide
theorem sl2 : (f2 a b).length < 1000 := by show 2 < 1000; decide
theorem sl3 : (f3 a b c).length < 1000 := by show 3 < 1000; decide
theorem sl4 : (f4 a b c d).length < 1000 := by show 4 < 1000; decide
theorem sl5 : (f5 a b c d e).length < 1000 := by show 5 < 1000; decide
theorem lk_hit {g : Str} {y : D} {r : List (Str × D)} : ((g, y) :: r).lookup g = some y := by rw [List.lookup_cons]; simp
theorem lk_miss {g h : Str} {y : D} {r : List (Str × D)} (hn : (g == h) = false) : ((h, y) :: r).lookup g = r.lookup g := by rw [List.lookup_cons, hn]
theorem lk_text : List.lookup ("own_text" : Str) (six a b c d e f) = some a := lk_hit
theorem lk_names : List.lookup ("own_names" : Str) (six a b c d e f) = some b := by unfold six; rw [lk_miss, lk_hit]; decide +kernel
theorem lk_word : List.lookup ("own_word" : Str) (six a b c d e f) = some c := by unfold six; rw [lk_miss, lk_miss, lk_hit] <;> decide +kernel
theorem lk_groups : List.lookup ("own_groups" : Str) (six a b c d e f) = some d := by unfold six; rw [lk_miss, lk_miss, lk_miss, lk_hit] <;> decide +kernel
theorem lk_copies : List.lookup ("own_copies" : Str) (six a b c d e f) = some e := by unfold six; rw [lk_miss, lk_miss, lk_miss, lk_miss, lk_hit] <;> decide +kernel
theorem lk_people : List.lookup ("own_people" : Str) (six a b c d e f) = some f := by unfold six; rw [lk_miss, lk_miss, lk_miss, lk_miss, lk_miss, lk_hit] <;> decide +kernel
theorem lk5_groups : List.lookup ("own_groups" : Str) (f5 a b c d e) = some d := by unfold f5; rw [lk_miss, lk_miss, lk_miss, lk_hit] <;> decide +kernel
end
mutual
/-- the plan as an instance of the class at C -/
def planD (C : Addr) : T → D
  | .one => .ins C (six (tS (txt .one)) (.tup []) (.str (wordT .one)) (.lst []) (.bl false) (.int (ppl .one : Nat)))
  | .name x => .ins C (six (tS (txt (.name x))) (.tup [tS x]) (.str (wordT (.name x))) (.lst []) (.bl false) (.int (ppl (.name x) : Nat)))
  | .cop s n t => .ins C (six (tS (txt (.cop s n t))) (.tup []) (.str (wordT (.cop s n t))) (.lst [.tup [.int (n : Nat), planD C t]]) (.bl true) (.int (ppl (.cop s n t) : Nat)))
  | .row s ts => .ins C (six (tS (txt (.row s ts))) (.tup []) (.str (wordT (.row s ts))) (.lst (plansD C ts)) (.bl false) (.int (ppl (.row s ts) : Nat)))
def plansD (C : Addr) : List T → List D
  | [] => []
  | t :: ts => .tup [.int ((1 : Nat) : Int), planD C t] :: plansD C ts
end
theorem plansD_map (C : Addr) : ∀ ts : List T, plansD C ts = ts.map fun t => .tup [.int ((1 : Nat) : Int), planD C t]
  | [] => by rw [plansD]; rfl
  | t :: ts => by rw [plansD, plansD_map C ts, List.map_cons]
def subsD (C : Addr) (t : T) : List D := (kids t).map fun q => .tup [.int (q.1 : Nat), planD C q.2]
def fldsD (C : Addr) (t : T) : List (Str × D) := six (tS (txt t)) (.tup []) (.str (wordT t)) (.lst (subsD C t)) (.bl (isCop t)) (.int (ppl t : Nat))
theorem planD_told {C : Addr} {t : T} (h : Told t) : planD C t = .ins C (fldsD C t) := by
  cases t with
  | one => rw [planD]; rfl
  | name x => exact h.elim
  | cop s n t => rw [planD]; rfl
  | row s ts =>
    rw [planD, plansD_map]
    unfold fldsD subsD kids
    rw [List.map_map]; rfl
/-- what is known of the class -/
structure Px (K : PySem.W.Frag) (mg : Str → Option Value) (C : Addr) : Prop where
  at_ : mg "Plan" = some (.ref C)
  cl : Cls K C
  na : ∀ f, f ∈ fNames → NoAttr K C f
  init : ∃ f, Mk K C f ∧ Md K C "__init__" "Plan.__init__" s_Plan___init__ f
  text : ∃ p f, PropOf K C "text" p f ∧ Md K C "text" "Plan.text" s_Plan_text f
  names : ∃ p f, PropOf K C "names" p f ∧ Md K C "names" "Plan.names" s_Plan_names f
  word : ∃ p f, PropOf K C "word" p f ∧ Md K C "word" "Plan.word" s_Plan_word f
  many : ∃ p f, PropOf K C "many" p f ∧ Md K C "many" "Plan.many" s_Plan_many f
  invert : ∃ f, Meth K C "__invert__" f ∧ Md K C "__invert__" "Plan.__invert__" s_Plan___invert__ f
section
variable {P : Program} {w : World} {K : PySem.W.Frag} {mg : Str → Option Value} {base : Heap} {C : Addr}
def cInit (C : Addr) (h : Nat) : Con := fun ds M Φ => ∃ a t, ds = [.ob a, tS (txt t)] ∧ Good t ∧ Told t ∧ (txt t).length ≤ 100000 ∧ ht t ≤ h ∧ ht t ≤ 60 ∧ M a = some (.ins C []) ∧ Φ .non (mset M a (.ins C (fldsD C t)))
/-- Plan(e) -/
theorem we_plan {X : Cx} {ρ : Rho} {M : Mp} {Φ : D → Mp → Prop} {e : Expr} {p pos : Pos} {h k : Nat} (F : Kc X.prog X.w X.K X.mg X.base "Plan" C [] k 2 (cInit C h)) (hr : Room (k + 1) X.A)
    (q : WE X ρ M e fun d M1 => ∃ t, d = tS (txt t) ∧ Good t ∧ Told t ∧ (txt t).length ≤ 100000 ∧ ht t ≤ h ∧ ht t ≤ 60 ∧ Φ (planD C t) M1) (hg : Gl X "Plan" := by rfl)
    (he : starEach [e] X.env = (false, eval e X.env) :: starEach [] X.env := by rfl) (hpl : (backTo pos (starEach [] X.env)).any (·.1) = false := by rfl) : WE X ρ M (.Call (.Name "Plan" p) [e] [] pos) Φ :=
  we_make F hr (wa_cons (q.imp fun d M1 ⟨t, e1, h1, h2, h3, h4, h5, h6⟩ => wa_nil fun a ha => ⟨rfl, a, t, by rw [e1]; rfl, h1, h2, h3, h4, h5, mset_same, rfl, by
    rw [mset_mset]
    exact ⟨_, M1, les_new ha, .ins mset_same ha, by rw [← planD_told h2]; exact h6⟩⟩) he) hg (he := he) (hpl := hpl)
theorem cop_in {t : T} (h : Good t) : ∃ c r, txt t = c :: r ∧ decide (S [c] ∈ (["[", "{"] : List Str)) = isCop t := by
  have e1 : (["[", "{"] : List Str) = [S [91], S [123]] := by decide +kernel
  rw [e1]
  have key : ∀ c : Nat, decide (S [c] ∈ [S [91], S [123]]) = (decide (c = 91) || decide (c = 123)) := fun c => by
    rw [← Bool.decide_or]
    refine decide_eq_decide.mpr ?_
    simp only [List.mem_cons, List.not_mem_nil, or_false]
    constructor
    · rintro (h | h)
      · left; injection S_inj h
      · right; injection S_inj h
    · rintro (rfl | rfl)
      · exact .inl rfl
      · exact .inr rfl
  cases t with
  | one => exact ⟨49, [], by rw [txt], by rw [key]; rfl⟩
  | name x =>
    obtain ⟨h0, h1, h2⟩ := h
    cases x with
    | nil => exact absurd rfl h0
    | cons c r =>
      have q := h2 c List.mem_cons_self
      simp [letter] at q
      exact ⟨c, r, by rw [txt], by rw [key, decide_eq_false (by omega), decide_eq_false (by omega)]; rfl⟩
  | cop s n u => exact ⟨opn s, _, by rw [txt], by rw [key]; cases s <;> rfl⟩
  | row s ts => exact ⟨40, _, by rw [txt], by rw [key]; rfl⟩
theorem cut_1 (c : Nat) (r : List Nat) : cutS (S (c :: r)) none (some 1) = S [c] := by
  unfold cutS
  rw [S_len, show (some (1 : Int)) = some ((1 : Nat) : Int) from rfl, HT.sIx_nat, HT.sIx_none, Nat.min_eq_left (by simp)]
  rfl
theorem grp_cmp {t : T} (h : Good t) : ∃ ps, CmpDs (grpD t) ps 1 :=
  ⟨_, cmps_map (j := 1) (Nat.le_refl _) (g := fun q => .tuple [.int (q.1 : Nat), .str (S (txt q.2))]) fun q hq => cmp_tup (cmps_cons (cmp_int _) (Nat.le_refl _) (cmps_cons (cmp_str fun c hc => by
    have := txt_lt (kids_ok hq h).1 c hc; omega) (Nat.le_refl _) cmps_nil))⟩
end
end W
/-! the head of law_k02_texts_of_no_plan. -/
namespace W
open PySem PySem.Spec PyProof.Rows L2 DL He HK
def gl (x : Str) (st : Stmt) : Dd := ⟨fun K => ga K x, x, x, st, [], []⟩
def me (m qual : Str) (st : Stmt) : Dd := ⟨fun K => ma K (ga K "Plan") m, m, qual, st, [], []⟩
def pg (m qual : Str) (st : Stmt) : Dd := ⟨pgA "Plan" m, m, qual, st, [], []⟩
def dds : List Dd := [
  ⟨fun K => ga K "is_integer", "is_integer", "is_integer", s_is_integer, [.non, .non], []⟩, me "__init__" "Plan.__init__" s_Plan___init__, pg "text" "Plan.text" s_Plan_text, pg "names" "Plan.names" s_Plan_names, pg "word" "Plan.word" s_Plan_word, pg "many" "Plan.many" s_Plan_many, me "__invert__" "Plan.__invert__" s_Plan___invert__, gl "is_name" s_is_name,
  gl "number_in" s_number_in, gl "parted" s_parted, gl "copies_in" s_copies_in, gl "row_in" s_row_in, gl "groups_in" s_groups_in, gl "is_plan_text" s_is_plan_text, gl "names_in" s_names_in, gl "_law_take" s__law_take,
  gl "_law_of" s__law_of, gl "_law_pot" s__law_pot, gl "_law_cells" s__law_cells, gl "_law_text" s__law_text, gl "_law_built" s__law_built, gl "_law_number_end" s__law_number_end, gl "_law_end" s__law_end, gl "_law_is_plan_text" s__law_is_plan_text,
  gl "_law_bent_text" s__law_bent_text, gl "_law_odd" s__law_odd, gl "_law_answer" s__law_answer, gl "_law_right" s__law_right, gl "_law_is_judged" s__law_is_judged, gl "law" s_law]
def globs0 : List Str := ["is_integer", "is_name", "number_in", "parted", "copies_in", "row_in", "groups_in", "is_plan_text", "names_in", "_law_take", "_law_of", "_law_pot", "_law_cells", "_law_text", "_law_built", "_law_number_end", "_law_end", "_law_is_plan_text"]
def globs1 : List Str := ["_law_bent_text", "_law_odd", "_law_answer", "_law_right", "law", "Plan", "SIGNS", "AROUND", "TURNED", "CrowdError", "BadPlan"]
def tbsA : List Str := ["_law_is_judged"]
def globsA : List Str := globs0 ++ globs1
def consts : List Fa := [
  .str "ONE" "one", .str "NAME" "name", .str "BESIDE" "beside", .str "INTRODUCED" "introduced", .str "BLANK" " ", .str "LETTERS" "abcdefghijklmnopqrstuvwxyz", .str "FIGURES" "0123456789", .int "MOST_LETTERS" 8, .str "PERSON" "1", .int "LEAST_MANY" 2, .int "MOST_MANY" (10 ^ 30), .int "MOST_NAMES" 3, .int "MOST_DEPTH" 60,
  .cls "Plan", .meth "Plan" "__invert__", .mkr "Plan", .free "super", .glo "_law_is_judged"]
def fas : List Fa := bns.map Fa.free ++ (globsA.map Fa.glo ++ (fNames.map (Fa.noat "Plan") ++ consts))
def tSigns : List (Str × Dt) := [("beside", .s " + "), ("introduced", .s " * ")]
def tAround : List (Str × Dt) := [("beside", .t ["[", "]"]), ("introduced", .t ["{", "}"])]
def tTurned : List (Str × Dt) := [("+", .s "*"), ("*", .s "+"), ("[", .s "{"), ("{", .s "["), ("]", .s "}"), ("}", .s "]")]
def spec : HK.Sp := ⟨fas, dds, [("Plan", "text"), ("Plan", "names"), ("Plan", "word"), ("Plan", "many")], [("SIGNS", tSigns), ("AROUND", tAround), ("TURNED", tTurned)], [], [], [], ["BadPlan"], [], ["_law_is_judged"], [], [("/claim/cut.py", s_CrowdError___init__)]⟩
theorem mem_bn {x : Str} (h : x ∈ bns) : Fa.free x ∈ spec.fa := List.mem_append_left _ (List.mem_map_of_mem h)
theorem mem_glo {x : Str} (h : x ∈ globsA) : Fa.glo x ∈ spec.fa := List.mem_append_right _ (List.mem_append_left _ (List.mem_map_of_mem h))
theorem mem_na {x : Str} (h : x ∈ fNames) : Fa.noat "Plan" x ∈ spec.fa := List.mem_append_right _ (List.mem_append_right _ (List.mem_append_left _ (List.mem_map_of_mem h)))
theorem mem_co (i : Nat) {f : Fa} (h : consts[i]? = some f) : f ∈ spec.fa := List.mem_append_right _ (List.mem_append_right _ (List.mem_append_right _ (List.mem_of_getElem? h)))
abbrev hk : PySem.W.Hook := hook 4 globsA tbsA spec
def ob (s : PySem.W.SharedT) : HK.Al := obsG 4 globsA tbsA spec (HandSHeadRun.getT s)
theorem ob_eq (s : PySem.W.SharedT) : ob s = hk.obs s.abs := obsG_eq (HandSHeadRun.getT_eq s)
def names0 : List PySem.Str := ["__name__", "CrowdError", "Unknown", "BadPlan", "NoPart", "BadMany", "NoName", "NoPlan", "ONE", "NAME", "BESIDE", "INTRODUCED", "BLANK", "LETTERS", "FIGURES", "MOST_LETTERS", "is_integer", "is_name", "number_in", "PERSON", "LEAST_MANY", "MOST_MANY", "MOST_NAMES", "MOST_DEPTH", "SIGNS", "AROUND", "TURNED", "parted"]
def names1 : List PySem.Str := ["copies_in", "row_in", "groups_in", "is_plan_text", "names_in", "Plan", "check_told", "row_text", "copies_text", "text_put", "_law_pot", "_law_take", "_law_of", "_law_cells", "_law_odd", "_law_answer", "_law_text", "_law_built", "_law_number_end", "_law_end", "_law_is_plan_text", "_law_bent_text", "_law_is_judged", "_law_right"]
abbrev R : PySem.W.OpenRow := PySem.W.OpenLaw.row PySem.Challenge.rw_greetall_k02_texts_of_no_plan
theorem run0a (w : World) : HandSHeadRun.RunEq R (PySem.W.view R.prog [53, 55]) (hook 4 globsA tbsA (Sp.lo spec 60 0)) (obT 4 globsA tbsA (Sp.lo spec 60 0)) 9000 (names0 ++ names1) (w.withFollow "special-get-raises" false) := by
  intro os
  kernel_rfl
theorem run0b (w : World) : HandSHeadRun.RunEq R (PySem.W.view R.prog [53, 55]) (hook 4 globsA tbsA (Sp.lo spec 60 0)) (obT 4 globsA tbsA (Sp.lo spec 60 0)) 9000 (names0 ++ names1) (w.withFollow "special-get-raises" true) := by
  intro os
  kernel_rfl
theorem run0 (w : World) : HandSHeadRun.RunEq R (PySem.W.view R.prog [53, 55]) (hook 4 globsA tbsA (Sp.lo spec 60 0)) (obT 4 globsA tbsA (Sp.lo spec 60 0)) 9000 (names0 ++ names1) w :=
  PySem.W.byRow2 "special-get-raises" (P := fun w => HandSHeadRun.RunEq R (PySem.W.view R.prog [53, 55]) (hook 4 globsA tbsA (Sp.lo spec 60 0)) (obT 4 globsA tbsA (Sp.lo spec 60 0)) 9000 (names0 ++ names1) w) run0a run0b w
theorem run1a (w : World) : HandSHeadRun.RunEq R (PySem.W.view R.prog [53, 55]) (hook 4 globsA tbsA (Sp.hi spec 60 0)) (obT 4 globsA tbsA (Sp.hi spec 60 0)) 9000 (names0 ++ names1) (w.withFollow "special-get-raises" false) := by
  intro os
  kernel_rfl
theorem run1b (w : World) : HandSHeadRun.RunEq R (PySem.W.view R.prog [53, 55]) (hook 4 globsA tbsA (Sp.hi spec 60 0)) (obT 4 globsA tbsA (Sp.hi spec 60 0)) 9000 (names0 ++ names1) (w.withFollow "special-get-raises" true) := by
  intro os
  kernel_rfl
theorem run1 (w : World) : HandSHeadRun.RunEq R (PySem.W.view R.prog [53, 55]) (hook 4 globsA tbsA (Sp.hi spec 60 0)) (obT 4 globsA tbsA (Sp.hi spec 60 0)) 9000 (names0 ++ names1) w :=
  PySem.W.byRow2 "special-get-raises" (P := fun w => HandSHeadRun.RunEq R (PySem.W.view R.prog [53, 55]) (hook 4 globsA tbsA (Sp.hi spec 60 0)) (obT 4 globsA tbsA (Sp.hi spec 60 0)) 9000 (names0 ++ names1) w) run1a run1b w
theorem run (w : World) : HandSHeadRun.RunEq R (PySem.W.view R.prog [53, 55]) hk ob 9000 (names0 ++ names1) w := run_cut 60 0 (run0 w) (run1 w)
end W
/-! GT1: texts of any kind: what is read is a plan's text. -/
namespace PL
open PySem SX TL
/-- canonical figures -/
theorem canon : ∀ (k : Nat) {l : List Nat}, l.length ≤ k → l ≠ [] → (∀ c ∈ l, 48 ≤ c ∧ c ≤ 57) → (l = [48] ∨ l.head? ≠ some 48) → ∃ n, l = numL n
  | 0, l, hk, h0, _, _ => absurd (List.length_eq_zero_iff.mp (by omega)) h0
  | k + 1, l, hk, h0, hd, hc => by
    obtain ⟨p, c, rfl⟩ : ∃ p c, l = p ++ [c] := ⟨_, _, (List.dropLast_concat_getLast h0).symm⟩
    have c1 := hd c (List.mem_append_right _ List.mem_cons_self)
    by_cases hp : p = []
    · subst hp
      refine ⟨c - 48, ?_⟩
      rw [numL_lt (by omega), List.nil_append, show 48 + (c - 48) = c by omega]
    · have hh : (p ++ [c]).head? = p.head? := by
        cases p with
        | nil => exact absurd rfl hp
        | cons a r => rfl
      have hne : p.head? ≠ some 48 := by
        rcases hc with e | e
        · have h1 := congrArg List.length e
          have h2 := List.length_pos_iff.mpr hp
          rw [List.length_append, List.length_singleton, List.length_singleton] at h1
          omega
        · rw [hh] at e; exact e
      obtain ⟨m, hm⟩ := canon k (l := p) (by rw [List.length_append, List.length_singleton] at hk; omega) hp (fun x hx => hd x (List.mem_append_left _ hx)) (.inr hne)
      have m1 : 1 ≤ m := by
        refine Nat.pos_of_ne_zero fun e => ?_
        subst e
        rw [hm, numL_lt (by decide)] at hne
        exact hne rfl
      refine ⟨10 * m + (c - 48), ?_⟩
      rw [numL_step (by omega), show (10 * m + (c - 48)) / 10 = m by omega, show (10 * m + (c - 48)) % 10 = c - 48 by omega, show 48 + (c - 48) = c by omega, ← hm]
/-! ### parts joined again -/
theorem join_snoc (S : List Nat) (x y : List Nat) : ∀ f : List (List Nat), joinL S (f ++ [x ++ (S ++ y)]) = joinL S (f ++ [x] ++ [y])
  | [] => by simp [joinL]
  | [a] => by simp [joinL]
  | a :: b :: f => by
    have ih := join_snoc S x y (b :: f)
    show joinL S (a :: b :: (f ++ [x ++ (S ++ y)])) = joinL S (a :: b :: (f ++ [x] ++ [y]))
    rw [joinL, joinL]
    have e1 : joinL S (b :: (f ++ [x ++ (S ++ y)])) = joinL S (b :: f ++ [x ++ (S ++ y)]) := rfl
    have e2 : joinL S (b :: (f ++ [x] ++ [y])) = joinL S (b :: f ++ [x] ++ [y]) := rfl
    rw [e1, e2, ih]
theorem pre_eq {S : List Nat} : ∀ {l : List Nat}, pre S l = true → ∃ r, l = S ++ r := by
  intro l h
  refine ⟨l.drop S.length, ?_⟩
  have : l.take S.length = S := by unfold pre at h; exact eq_of_beq h
  conv => lhs; rw [← List.take_append_drop S.length l, this]
theorem G_back {L S : List Nat} (hS : S.length = 3) : ∀ (R : List Nat) (i : Nat) (d : Int) (b : Nat) (f : List (List Nat)), R = L.drop i → ([] ∈ f ∨ joinL S (f ++ [L.drop b]) = L) → [] ∈ G L S R i d b f ∨ joinL S (G L S R i d b f) = L
  | [], i, d, b, f, hR, h => by
    rw [G]
    rcases h with h | h
    · exact .inl (List.mem_append_left _ h)
    · exact .inr h
  | c :: R, i, d, b, f, hR, h => by
    have hR2 : R = L.drop (i + 1) := by
      have := congrArg (List.drop 1) hR
      rw [List.drop_drop] at this
      simpa using this
    rw [G]
    split
    · rename_i hp
      obtain ⟨r, hr⟩ := pre_eq hp.2
      refine G_back hS R (i + 1) _ _ _ hR2 ?_
      by_cases hb : b < i
      · rcases h with h | h
        · exact .inl (List.mem_append_left _ h)
        · right
          have e1 : L.drop b = (L.take i).drop b ++ (S ++ L.drop (i + S.length)) := by
            have a1 : L.drop b = (L.take i).drop b ++ L.drop i := by
              conv => lhs; rw [← List.take_append_drop i L]
              have hlen : b ≤ (L.take i).length := by
                rw [List.length_take]
                have : i < L.length := by
                  refine Nat.lt_of_not_le fun hge => ?_
                  rw [List.drop_eq_nil_of_le hge] at hR; cases hR
                omega
              rw [List.drop_append_of_le_length hlen]
            rw [a1]
            congr 1
            rw [← hR, hr]
            congr 1
            have := congrArg (List.drop S.length) (hR.symm.trans hr)
            rw [List.drop_drop, List.drop_left] at this
            exact this.symm
          rw [e1, join_snoc] at h
          exact h
      · by_cases hb2 : b = i
        · left
          refine List.mem_append_right _ (List.mem_singleton.mpr ?_)
          rw [hb2, List.drop_eq_nil_of_le (by rw [List.length_take]; exact Nat.min_le_left _ _)]
        · left
          refine List.mem_append_right _ (List.mem_singleton.mpr ?_)
          rw [List.drop_eq_nil_of_le (by rw [List.length_take]; have := Nat.min_le_left i L.length; omega)]
    · exact G_back hS R (i + 1) _ b f hR2 h
theorem parts_back (l : List Nat) (s : Bool) : [] ∈ parts l (sep s) ∨ joinL (sep s) (parts l (sep s)) = l := G_back (by cases s <;> rfl) l 0 0 0 [] rfl (.inr rfl)
/-- the text of a plan -/
def Tx (l : List Nat) : Prop := ∃ t, Good t ∧ txt t = l
theorem tx_ne {l : List Nat} (h : Tx l) : l ≠ [] := by
  obtain ⟨t, g, rfl⟩ := h
  cases t with
  | one => rw [txt]; exact List.cons_ne_nil _ _
  | name x => rw [txt]; exact g.1
  | cop s n u => rw [txt]; exact List.cons_ne_nil _ _
  | row s ts => rw [txt]; exact List.cons_ne_nil _ _
theorem tx_cop {b : Bool} {n : Nat} {r : List Nat} (h2 : 2 ≤ n) (h30 : n ≤ 10 ^ 30) (h : Tx r) : Tx (opn b :: ((numL n ++ 32 :: r) ++ [cls b])) := by
  obtain ⟨t, g, rfl⟩ := h
  exact ⟨.cop b n t, ⟨h2, h30, g⟩, by rw [txt]; simp⟩
theorem tx_row {b : Bool} {m : List Nat} (h2 : 2 ≤ (parts m (sep b)).length) (h : ∀ p ∈ parts m (sep b), Tx p) : Tx (40 :: (m ++ [41])) := by
  have back := (parts_back m b).resolve_left fun hm => tx_ne (h [] hm) rfl
  have key : ∀ ps : List (List Nat), (∀ p ∈ ps, Tx p) → ∃ ts : List T, Goods ts ∧ txts ts = ps := by
    intro ps
    induction ps with
    | nil => intro _; exact ⟨[], trivial, by rw [txts]⟩
    | cons p ps ih =>
      intro h
      obtain ⟨t, g, e⟩ := h p List.mem_cons_self
      obtain ⟨ts, gs, es⟩ := ih fun q hq => h q (List.mem_cons_of_mem _ hq)
      exact ⟨t :: ts, ⟨g, gs⟩, by rw [txts, e, es]⟩
  obtain ⟨ts, gs, es⟩ := key _ h
  refine ⟨.row b ts, ⟨?_, gs⟩, ?_⟩
  · have := congrArg List.length es
    rw [txts_map, List.length_map] at this
    omega
  · rw [txt, es, back]
end PL
/-! GT2: number_in, copies_in, row_in, groups_in, is_plan_text of any text. -/
namespace W
open PySem PySem.Spec PyProof.Rows L2 DL SX PL
theorem S_eqi {x y : List Nat} : (S x = S y) ↔ x = y := ⟨S_inj, fun h => by rw [h]⟩
theorem num_int_g (n : Nat) (h : (TL.numL n).length ≤ 600) : PySem.intText? (S (TL.numL n)) = some (n : Int) := by
  rw [← num_S]
  exact TL.int_num (by omega)
theorem dig_of (n : Nat) : ∀ c ∈ TL.numL n, figure c = true := fun c hc => by
  have q := TL.numL_digits n c hc
  show (decide (48 ≤ c) && decide (c ≤ 57)) = true
  rw [decide_eq_true q.1, decide_eq_true q.2]; rfl
theorem num_head0 {n : Nat} {r : List Nat} (h : TL.numL n = 48 :: r) : r = [] := by
  by_cases h0 : n = 0
  · subst h0
    rw [TL.numL_lt (by decide)] at h
    injection h with _ h; exact h.symm
  · obtain ⟨c, r2, e, h48⟩ := numL_head (n := n) (by omega)
    rw [e] at h
    injection h with h _; exact absurd h h48
section
variable {P : Program} {w : World} {K : PySem.W.Frag} {mg : Str → Option Value} {base : Heap}
def cNumG : Con := fun ds M Φ => ∃ l, ds = [tS l] ∧ l.length ≤ 600 ∧ (∀ n, l = TL.numL n → Φ (.int (n : Nat)) M) ∧ ((¬ ∃ n, l = TL.numL n) → Φ .non M)
theorem ok_number_in_g (F : Fx w K mg) : BodyOk P w K mg base "number_in" s_number_in ["text", "figure"] 1 0 cNumG := by
  intro f cdv A outer s H E hr ds M Φ hl hc
  obtain ⟨l, rfl, hlen, hc1, hc2⟩ := hc
  have nd : (["text", "figure"] : List Str).Nodup := by decide +kernel
  have e1 : decide (S l = ("" : Str)) = decide (l = []) := by rw [show ("" : Str) = S [] by decide +kernel]; exact decide_eq_decide.mpr S_eqi
  have e2 : decide (S l = ("0" : Str)) = decide (l = [48]) := by rw [show ("0" : Str) = S [48] by decide +kernel]; exact decide_eq_decide.mpr S_eqi
  refine wss_cons (ws_if (wt_ww (ww_or (wt_eqS (we_var 0 rfl (we_str ⟨_, rfl, ?_⟩))))))
  rw [e1]
  by_cases h0 : l = []
  · rw [decide_eq_true h0]
    exact wss_cons (ws_ret (we_non (Lets.of (hc2 fun ⟨n, e⟩ => TL.numL_ne n (e.symm.trans h0)))))
  rw [decide_eq_false h0]
  refine ww_or1 (wt_not (wt_val (we_all (F.bn _ (by decide +kernel)) (we_lc nd (blkOk_by (N := ["text", "figure"]) (sc := defScope s_number_in) (own := [("figure", 1)]) (by decide +kernel)) (fun _ _ _ _ _ => pg_name (i := 1) nd rfl (Or.inl rfl)) (gt_name (by decide)) (fun _ _ _ _ _ => pts_nil) tk_nil
        (wi_str (we_var 0 rfl ⟨_, rfl, ?_⟩))))))
  refine ⟨by rw [signs_S, List.length_map, sizeLine_eq]; omega, fun i acc M' => M' = M ∧ acc = (l.take i).map fun c => .bl (figure c), ⟨rfl, rfl⟩, ?_, ?_⟩
  · rintro i x acc M' hx ⟨rfl, rfl⟩
    obtain ⟨c, hc1, rfl⟩ := signs_get hx
    intro s1 H1 C cl fp
    refine we_inC (we_var 1 rfl (we_gstr F.gFIGURES ⟨c, _, rfl, rfl, rfl, ?_⟩))
    rw [mem_figures, take_snoc hc1, List.map_append]; rfl
  · rintro acc M' ⟨rfl, rfl⟩
    rw [signs_S, List.length_map, List.take_length]
    refine ⟨l.map figure, by rw [List.map_map]; rfl, _, rfl, ?_⟩
    cases hd : (l.map figure).all id with
    | false =>
      refine wss_cons (ws_ret (we_non (Lets.of (hc2 ?_))))
      rintro ⟨n, rfl⟩
      rw [List.all_map, List.all_eq_true.mpr (show ∀ c ∈ TL.numL n, (id ∘ figure) c = true from fun c hc => dig_of n c hc)] at hd
      cases hd
    | true =>
      rw [List.all_map, List.all_eq_true] at hd
      have hdig : ∀ c ∈ l, 48 ≤ c ∧ c ≤ 57 := fun c hc => by
        have := hd c hc
        unfold figure at this
        simpa using this
      refine wss_nil (wss_cons (ws_ret (we_if (wt_ww (ww_or (wt_eqS (we_var 0 rfl (we_str ⟨_, rfl, ?_⟩))))))))
      rw [e2]
      have done : (l = [48] ∨ l.head? ≠ some 48) → WE (bx P w K mg base ["text", "figure"] "number_in" (defScope s_number_in) f cdv A outer s H E) [some (tS l), none] M' (match ((defBody s_number_in).getD 1 (.Pass ⟨0, 0, 0, 0⟩)) with | .Return (some (.IfExp _ b _ _)) _ => b | _ => .Constant .none 0 ⟨0, 0, 0, 0⟩) (Lets Φ) := fun hcan => by
        obtain ⟨n, rfl⟩ := canon l.length (Nat.le_refl _) h0 hdig hcan
        exact we_intS (F.bn _ (by decide +kernel)) (we_var 0 rfl ⟨_, _, rfl, num_int_g n hlen, by rw [S_len]; omega, Lets.of (hc1 n rfl)⟩)
      by_cases h48 : l = [48]
      · rw [decide_eq_true h48]
        exact done (.inl h48)
      · rw [decide_eq_false h48]
        obtain ⟨c, r, ec⟩ : ∃ c r, l = c :: r := by
          cases l with
          | nil => exact absurd rfl h0
          | cons c r => exact ⟨c, r, rfl⟩
        refine ww_or1 (wt_neS (we_ix (we_var 0 rfl (we_int ⟨0, _, rfl, .inr (.inr ⟨_, c, rfl, by rw [S_len, sizeLine_eq]; omega, by show atI l 0 = some c; rw [ec]; exact atI_nat (j := 0) rfl, rfl⟩), we_str ⟨_, rfl, ?_⟩⟩))))
        have e4 : decide ((⟨#[c]⟩ : Str) = ("0" : Str)) = decide (c = 48) := by
          rw [show (⟨#[c]⟩ : Str) = S [c] from rfl, show ("0" : Str) = S [48] by decide +kernel]
          exact decide_eq_decide.mpr (S_eqi.trans ⟨fun h => by injection h, fun h => by rw [h]⟩)
        rw [e4]
        by_cases hc48 : c = 48
        · rw [decide_eq_true hc48]
          refine we_non (Lets.of (hc2 ?_))
          rintro ⟨n, e⟩
          rw [ec, hc48] at e
          have := num_head0 e.symm
          exact h48 (by rw [ec, hc48, this])
        · rw [decide_eq_false hc48]
          exact done (.inr (by rw [ec]; intro e; injection e with e; exact hc48 e))
/-! ### copies_in -/
theorem starts0 (d : Nat) : Txt.startswith (S []) (S [d]) = false := by
  unfold Txt.startswith
  rw [S_len, S_len]
  rfl
theorem starts_g (l : List Nat) (d : Nat) : Txt.startswith (S l) (S [d]) = decide (l.head? = some d) := by
  cases l with
  | nil => rw [starts0]; rfl
  | cons c r => rw [starts1]; exact decide_eq_decide.mpr ⟨fun h => by rw [h]; rfl, fun h => by injection h⟩
theorem ends_g {l : List Nat} (h : l ≠ []) (d : Nat) : Txt.endswith (S l) (S [d]) = decide (l.getLast? = some d) := by
  obtain ⟨r, c, rfl⟩ : ∃ r c, l = r ++ [c] := ⟨_, _, (List.dropLast_concat_getLast h).symm⟩
  rw [ends1]
  exact decide_eq_decide.mpr ⟨fun h => by rw [h]; simp, fun h => by simpa using h⟩
theorem around_shape {l : List Nat} {o c : Nat} (h : o ≠ c) (h1 : l.head? = some o) (h2 : l.getLast? = some c) : ∃ m, l = o :: (m ++ [c]) := by
  cases l with
  | nil => cases h1
  | cons x r =>
    have e : x = o := by injection h1
    subst e
    cases r with
    | nil =>
      have : x = c := by simpa using h2
      exact absurd this h
    | cons y r =>
      rw [List.getLast?_cons_cons] at h2
      obtain ⟨m, hm⟩ := List.getLast?_eq_some_iff.mp h2
      exact ⟨m, by rw [hm]⟩
theorem first_blank : ∀ {m : List Nat}, 32 ∈ m → ∃ p r, m = p ++ 32 :: r ∧ 32 ∉ p
  | [], h => by cases h
  | x :: m, h => by
    by_cases hx : x = 32
    · subst hx; exact ⟨[], m, rfl, fun h => by cases h⟩
    · rcases List.mem_cons.mp h with h | h
      · exact absurd h.symm hx
      · obtain ⟨p, r, e, hp⟩ := first_blank h
        exact ⟨x :: p, r, by rw [e]; rfl, fun hm => (List.mem_cons.mp hm).elim (fun e => hx e.symm) hp⟩
def cCopG : Con := fun ds M Φ => ∃ l, ds = [tS l] ∧ l.length ≤ 600 ∧ Φ .non M ∧ ∀ (b : Bool) (n : Nat) (r : List Nat), 2 ≤ n → n ≤ 10 ^ 30 → r.length ≤ l.length → (r = [] ∨ l = opn b :: ((TL.numL n ++ 32 :: r) ++ [cls b])) → Φ (.tup [.str (wrd b), .lst [.tup [.int (n : Nat), tS r]]]) M
abbrev nCopG : List Str := ["text", "word", "head", "end", "number", "blank", "rest", "many"]
theorem ok_copies_in_g (F : Fx w K mg) (Fn : Fc P w K mg base "number_in" [] 1 1 cNumG) : BodyOk P w K mg base "copies_in" s_copies_in nCopG 1 1 cCopG := by
  intro f cdv A outer s H E hr ds M Φ hl hc
  obtain ⟨l, rfl, hlen, hc1, hc2⟩ := hc
  have nd : nCopG.Nodup := by decide +kernel
  obtain ⟨a, kvs, h1, h2, h3⟩ := F.gAROUND
  refine wss_cons (ws_for PassesOwn.never (wi_gitems h1 h2 h3 ?_))
  refine ⟨fun i ρ' M' => ∃ o1 o2 o3 o4 o5 o6 o7, ρ' = [some (tS l), o1, o2, o3, o4, o5, o6, o7] ∧ M' = M, ⟨none, none, none, none, none, none, none, rfl, rfl⟩, ?_, ?_⟩
  · rintro i x ρ' M' hx ⟨o1, o2, o3, o4, o5, o6, o7, rfl, rfl⟩
    obtain ⟨b, rfl, rfl⟩ := around_get hx
    refine wg_tup ⟨rfl, rfl, wgs_cons (wg_name 1 (wgs_cons (wg_tup ⟨rfl, rfl, wgs_cons (wg_name 2 (wgs_cons (wg_name 3 (wgs_nil ⟨rfl, wgs_nil ⟨rfl, ?_⟩⟩) nd)) nd)⟩)) nd)⟩
    refine wss_cons (ws_if (wt_ww (ww_and (wt_val (we_startswith (we_var 0 rfl ⟨_, rfl, we_var 2 rfl ⟨_, rfl, _, rfl, ?_⟩⟩))))))
    rw [starts_g]
    by_cases hh : l.head? = some (opn b)
    · rw [decide_eq_true hh]
      have hne : l ≠ [] := fun e => by rw [e] at hh; cases hh
      refine ww_and1 (wt_val (we_endswith (we_var 0 (by rfl) ⟨_, rfl, we_var 3 rfl ⟨_, rfl, _, rfl, ?_⟩⟩)))
      rw [ends_g hne]
      by_cases he : l.getLast? = some (cls b)
      · rw [decide_eq_true he]
        obtain ⟨m, rfl⟩ := around_shape (by cases b <;> decide) hh he
        have hml : m.length + 2 ≤ 600 := by simpa using hlen
        refine wss_cons (ws_asg (we_partition (we_slice (we_var 0 rfl (we_int ⟨1, rfl, we_negI (we_int ⟨1, rfl, _, rfl, _, .inr (.inr ⟨_, rfl, ?_, rfl⟩), _, rfl, we_gstr F.gBLANK ⟨_, rfl, ?_, ?_, ?_⟩⟩)⟩)))))
        · rw [S_len, sizeLine_eq]; omega
        · decide +kernel
        · refine Nat.le_trans (cutS_length _ _ _) ?_
          rw [S_len, sizeLine_eq]; omega
        · rw [cut_mid, show (" " : Str) = S [32] by decide +kernel]
          have key : ∃ p q r, Txt.partition (S m) (S [32]) = (S p, q, S r) ∧ p.length ≤ m.length ∧ r.length ≤ m.length ∧ (r = [] ∨ m = p ++ 32 :: r) := by
            by_cases h32 : 32 ∈ m
            · obtain ⟨p, r, e, hp⟩ := first_blank h32
              refine ⟨p, S [32], r, ?_, ?_, ?_, .inr e⟩
              · rw [e]; exact partition_some (by simp) (par_head (c := 32) (sep := []) r hp)
              · rw [e, List.length_append]; omega
              · rw [e, List.length_append, List.length_cons]; omega
            · exact ⟨m, S [], [], partition_none (by simp) (par_head_none (sep := []) h32), Nat.le_refl _, Nat.zero_le _, .inl rfl⟩
          obtain ⟨p, q, r, ep, hpl, hrl, hpr⟩ := key
          rw [ep]
          refine wg_tup ⟨rfl, rfl, wgs_cons (wg_name 4 (wgs_cons (wg_name 5 (wgs_cons (wg_name 6 (wgs_nil ⟨rfl, ?_⟩) nd)) nd)) nd)⟩
          refine wss_cons (ws_set 7 nd (we_call Fn (hr.mono (by decide)) (wa_cons (we_var 4 rfl (wa_nil ⟨rfl, p, rfl, by omega, fun n en => ?_, fun _ => ?_⟩)))))
          · refine wss_cons (ws_if (wt_ww (ww_and (wt_notN (we_var 7 rfl ?_)))))
            refine ww_and1 (wt_chainI (we_gint F.gLEAST_MANY (we_var 7 rfl ⟨_, _, rfl, rfl, ?_⟩)))
            by_cases n2 : 2 ≤ n
            · rw [decide_eq_true (show (2 : Int) ≤ (n : Int) by omega)]
              refine we_gint F.gMOST_MANY ⟨_, rfl, ?_⟩
              by_cases n30 : n ≤ 10 ^ 30
              · rw [decide_eq_true (le30 n30)]
                refine wss_cons (ws_ret (we_tup (wa_cons (we_var 1 rfl (wa_cons (we_lst (wa_cons (we_tup (wa_cons (we_var 7 rfl (wa_cons (we_var 6 rfl (wa_nil ⟨sz2, wa_nil ⟨sz1, wa_nil ⟨sz2, Lets.of (hc2 b n r n2 n30 ?_ ?_)⟩⟩⟩)))))))))))))
                · simp only [List.length_cons, List.length_append]; omega
                · exact hpr.imp id fun e => by rw [e, en]
              · have : ¬ (n : Int) ≤ 10 ^ 30 := fun h => n30 (by
                  have e : ((10 ^ 30 : Nat) : Int) = 10 ^ 30 := by decide +kernel
                  omega)
                rw [decide_eq_false this]
                refine wss_nil (wss_nil (wss_nil ?_))
                exact ⟨_, _, _, _, _, _, _, rfl, rfl⟩
            · rw [decide_eq_false (show ¬ (2 : Int) ≤ (n : Int) by omega)]
              refine wss_nil (wss_nil (wss_nil ?_))
              exact ⟨_, _, _, _, _, _, _, rfl, rfl⟩
          · refine wss_cons (ws_if (wt_ww (ww_and (wt_notN (we_var 7 rfl ?_)))))
            refine wss_nil (wss_nil (wss_nil ?_))
            exact ⟨_, _, _, _, _, _, _, rfl, rfl⟩
      · rw [decide_eq_false he]
        refine wss_nil (wss_nil ?_)
        exact ⟨_, _, _, _, _, _, _, rfl, rfl⟩
    · rw [decide_eq_false hh]
      refine wss_nil (wss_nil ?_)
      exact ⟨_, _, _, _, _, _, _, rfl, rfl⟩
  · rintro ρ' M' ⟨o1, o2, o3, o4, o5, o6, o7, rfl, rfl⟩
    exact wss_cons (ws_ret (we_non (Lets.of hc1)))
end
end W
/-! GT5: the law's own reading of a text, as a function on lists of signs; what it answers (plain). -/
namespace W
open PySem SX TL PL
open Classical
/-- while the next sign is the joint's: one part more -/
noncomputable def LL (le : List Nat → Option (List Nat)) (J : List Nat) : Nat → List Nat → Option (List Nat)
  | 0, r => some r
  | g + 1, r => if r.take 3 = J then (match le (r.drop 3) with | none => none | some r2 => LL le J g r2) else some r
def fin (c : Nat) : Option (List Nat) → Option (List Nat)
  | some (x :: r) => if x = c then some r else none
  | _ => none
def okN (d : List Nat) : Prop := ∃ n, d = numL n ∧ 2 ≤ n ∧ n ≤ 10 ^ 30
noncomputable def LE : Nat → List Nat → Option (List Nat)
  | 0, _ => none
  | _ + 1, [] => none
  | f + 1, c :: r =>
    if c = 49 then some r
    else if c = 91 ∨ c = 123 then
      (if okN (r.takeWhile figure) ∧ (r.dropWhile figure).head? = some 32 then fin (c + 2) (LE f ((r.dropWhile figure).drop 1)) else none)
    else if c = 40 then
      (match LE f r with
        | none => none
        | some r1 => if r1.take 3 = sep false ∨ r1.take 3 = sep true then fin 41 (LL (LE f) (r1.take 3) (r1.length + 1) r1) else none)
    else if 1 ≤ ((c :: r).takeWhile letter).length ∧ ((c :: r).takeWhile letter).length ≤ 8 then some ((c :: r).dropWhile letter) else none
theorem fin_some {c : Nat} {o : Option (List Nat)} {r : List Nat} (h : fin c o = some r) : o = some (c :: r) := by
  cases o with
  | none => cases h
  | some l =>
    cases l with
    | nil => cases h
    | cons x l =>
      have e : fin c (some (x :: l)) = if x = c then some l else none := by rw [fin]
      rw [e] at h
      by_cases hx : x = c
      · rw [if_pos hx] at h; cases h; rw [hx]
      · rw [if_neg hx] at h; cases h
theorem fin_eq {c : Nat} {r : List Nat} : fin c (some (c :: r)) = some r := by rw [fin, if_pos rfl]
theorem opn_cls {b : Bool} : opn b + 2 = cls b := by cases b <;> rfl
theorem opn_of {c : Nat} (h : c = 91 ∨ c = 123) : ∃ b, c = opn b := by
  rcases h with rfl | rfl
  · exact ⟨false, rfl⟩
  · exact ⟨true, rfl⟩
/-- the parts behind the first -/
def tails (s : Bool) (us : List T) : List Nat := us.flatMap fun u => sep s ++ txt u
theorem tails_join (s : Bool) : ∀ (us : List T) (t : T), joinL (sep s) (txts (t :: us)) = txt t ++ tails s us
  | [], t => by rw [txts, txts, joinL]; simp [tails]
  | u :: us, t => by
    have e : joinL (sep s) (txts (t :: u :: us)) = txt t ++ (sep s ++ joinL (sep s) (txts (u :: us))) := by rw [txts, txts, joinL]
    rw [e, tails_join s us u]
    simp [tails]
theorem LL_sound {le : List Nat → Option (List Nat)} {s : Bool} (hle : ∀ l r, le l = some r → ∃ t, Good t ∧ l = txt t ++ r) : ∀ (g : Nat) (r r2 : List Nat), LL le (sep s) g r = some r2 → ∃ us, Goods us ∧ r = tails s us ++ r2
  | 0, r, r2, h => by
    rw [LL] at h
    cases h
    exact ⟨[], trivial, rfl⟩
  | g + 1, r, r2, h => by
    rw [LL] at h
    split at h
    · rename_i hJ
      split at h
      · cases h
      · rename_i r3 h3
        obtain ⟨t, gt, e⟩ := hle _ _ h3
        obtain ⟨us, gs, e2⟩ := LL_sound hle g r3 r2 h
        refine ⟨t :: us, ⟨gt, gs⟩, ?_⟩
        rw [← List.take_append_drop 3 r, hJ, e, e2]
        simp [tails]
    · cases h
      exact ⟨[], trivial, rfl⟩
theorem tw_mem {p : Nat → Bool} : ∀ {l : List Nat} {x : Nat}, x ∈ l.takeWhile p → p x = true
  | c :: l, x, h => by
    rw [List.takeWhile_cons] at h
    by_cases hc : p c = true
    · rw [if_pos hc] at h
      rcases List.mem_cons.mp h with rfl | h
      · exact hc
      · exact tw_mem h
    · rw [if_neg hc] at h; cases h
theorem LE_sound : ∀ (f : Nat) (l r : List Nat), LE f l = some r → ∃ t, Good t ∧ l = txt t ++ r
  | 0, l, r, h => by rw [LE] at h; cases h
  | f + 1, [], r, h => by rw [LE] at h; cases h
  | f + 1, c :: q, r, h => by
    rw [LE] at h
    split at h
    · rename_i e
      cases h
      exact ⟨.one, trivial, by rw [e, txt]; rfl⟩
    split at h
    · rename_i e
      obtain ⟨b, rfl⟩ := opn_of e
      split at h
      · rename_i hn
        obtain ⟨⟨n, e1, n2, n30⟩, e2⟩ := hn
        have h1 := fin_some h
        obtain ⟨t, gt, e3⟩ := LE_sound f _ _ h1
        refine ⟨.cop b n t, ⟨n2, n30, gt⟩, ?_⟩
        obtain ⟨q2, e4⟩ : ∃ q2, q.dropWhile figure = 32 :: q2 := by
          cases hq : q.dropWhile figure with
          | nil => rw [hq] at e2; cases e2
          | cons x q2 => rw [hq] at e2; cases e2; exact ⟨q2, rfl⟩
        rw [e4, List.drop_succ_cons, List.drop_zero] at e3
        rw [txt, ← e1, ← opn_cls]
        conv => lhs; rw [← List.takeWhile_append_dropWhile (p := figure) (l := q), e4, e3]
        simp
      · cases h
    split at h
    · rename_i e
      subst e
      split at h
      · cases h
      · rename_i r1 h1
        obtain ⟨t, gt, e1⟩ := LE_sound f _ _ h1
        split at h
        · rename_i hJ
          obtain ⟨s, hs⟩ : ∃ s, r1.take 3 = sep s := hJ.elim (fun e => ⟨false, e⟩) fun e => ⟨true, e⟩
          rw [hs] at h
          have h2 := fin_some h
          rw [LL, if_pos hs] at h2
          split at h2
          · cases h2
          · rename_i r3 h3
            obtain ⟨u, gu, e2⟩ := LE_sound f _ _ h3
            obtain ⟨us, gs, e3⟩ := LL_sound (LE_sound f) _ _ _ h2
            refine ⟨.row s (t :: u :: us), ⟨by simp, gt, gu, gs⟩, ?_⟩
            have e4 : r1 = sep s ++ (txt u ++ r3) := by rw [← List.take_append_drop 3 r1, hs, e2]
            rw [txt, tails_join, e1, e4, e3]
            simp [tails]
        · cases h
    split at h
    · rename_i hl
      cases h
      refine ⟨.name ((c :: q).takeWhile letter), ⟨fun e => by rw [e] at hl; simp at hl, hl.2, fun x hx => tw_mem hx⟩, ?_⟩
      rw [txt, List.takeWhile_append_dropWhile]
    · cases h
theorem run_of {p : Nat → Bool} : ∀ {x r : List Nat}, (∀ c ∈ x, p c = true) → (∀ c, r.head? = some c → p c = false) → (x ++ r).takeWhile p = x ∧ (x ++ r).dropWhile p = r
  | [], [], _, _ => ⟨rfl, rfl⟩
  | [], c :: r, _, h => by
    have := h c rfl
    simp [this]
  | c :: x, r, h, h2 => by
    have i := run_of (x := x) (r := r) (fun d hd => h d (List.mem_cons_of_mem _ hd)) h2
    have := h c List.mem_cons_self
    simp [this, i.1, i.2]
theorem letter_no {c : Nat} (h : c < 97) : letter c = false := by unfold letter; rw [decide_eq_false (show ¬ 97 ≤ c by omega)]; rfl
theorem txt_head {t : T} (g : Good t) : ∃ c r, txt t = c :: r ∧ (∀ x, t = .name x → letter c = true) ∧ (t = .one → c = 49) ∧ (∀ b n u, t = .cop b n u → c = opn b) ∧ (∀ b us, t = .row b us → c = 40) := by
  cases t with
  | one => exact ⟨49, [], by rw [txt], (fun _ e => nomatch e), (fun _ => rfl), (fun _ _ _ e => nomatch e), (fun _ _ e => nomatch e)⟩
  | name x =>
    obtain ⟨h1, h2, h3⟩ := g
    cases x with
    | nil => exact absurd rfl h1
    | cons c r => exact ⟨c, r, by rw [txt], (fun _ _ => h3 c List.mem_cons_self), (fun e => nomatch e), (fun _ _ _ e => nomatch e), (fun _ _ e => nomatch e)⟩
  | cop b n u => exact ⟨_, _, by rw [txt], (fun _ e => nomatch e), (fun e => nomatch e), (fun _ _ _ e => by cases e; rfl), (fun _ _ e => nomatch e)⟩
  | row b us => exact ⟨_, _, by rw [txt], (fun _ e => nomatch e), (fun e => nomatch e), (fun _ _ _ e => nomatch e), (fun _ _ e => rfl)⟩
theorem LL_full {f : Nat} {s : Bool} {r : List Nat} (hle : ∀ t q, Good t → ht t < f → (∀ c, q.head? = some c → letter c = false) → LE f (txt t ++ q) = some q) : ∀ (us : List T) (g : Nat), Goods us → (∀ u ∈ us, ht u < f) → us.length < g → LL (LE f) (sep s) g (tails s us ++ 41 :: r) = some (41 :: r)
  | [], g + 1, _, _, _ => by
    rw [LL, if_neg]
    · rfl
    · cases s <;> simp [tails, sep]
  | u :: us, g + 1, gs, hh, hg => by
    have e : tails s (u :: us) ++ 41 :: r = sep s ++ (txt u ++ (tails s us ++ 41 :: r)) := by simp [tails]
    rw [LL, e, if_pos (by cases s <;> rfl), show (sep s ++ (txt u ++ (tails s us ++ 41 :: r))).drop 3 = txt u ++ (tails s us ++ 41 :: r) by cases s <;> rfl]
    rw [hle u _ gs.1 (hh u List.mem_cons_self) fun c hc => ?_]
    · exact LL_full hle us g gs.2 (fun x hx => hh x (List.mem_cons_of_mem _ hx)) (by rw [List.length_cons] at hg; omega)
    · cases us with
      | nil => cases hc; rfl
      | cons v us => cases s <;> (cases hc; rfl)
theorem LE_full : ∀ (f : Nat) (t : T) (q : List Nat), Good t → ht t < f → (∀ c, q.head? = some c → letter c = false) → LE f (txt t ++ q) = some q
  | 0, t, q, g, h, _ => absurd h (Nat.not_lt_zero _)
  | f + 1, .one, q, g, h, hq => by
    rw [txt]; show LE (f + 1) (49 :: q) = _
    rw [LE, if_pos rfl]
  | f + 1, .name x, q, g, h, hq => by
    rw [txt]
    obtain ⟨h1, h2, h3⟩ := g
    have rn := run_of h3 hq
    cases x with
    | nil => exact absurd rfl h1
    | cons c r =>
      have hc := h3 c List.mem_cons_self
      have c97 : 97 ≤ c ∧ c ≤ 122 := by simpa [letter] using hc
      rw [List.cons_append] at rn ⊢
      rw [LE, if_neg (by omega), if_neg (by omega), if_neg (by omega), rn.1, rn.2, if_pos ⟨by simp, h2⟩]
  | f + 1, .cop b n u, q, g, h, hq => by
    obtain ⟨n2, n30, gu⟩ := g
    rw [ht] at h
    have e : txt (.cop b n u) ++ q = opn b :: (numL n ++ 32 :: (txt u ++ cls b :: q)) := by rw [txt]; simp
    have rn := run_of (p := figure) (x := numL n) (r := 32 :: (txt u ++ cls b :: q)) (dig_of n) (fun c hc => by cases hc; rfl)
    rw [e, LE, if_neg (by cases b <;> decide), if_pos (by cases b <;> decide), rn.1, rn.2, if_pos ⟨⟨n, rfl, n2, n30⟩, rfl⟩, List.drop_succ_cons, List.drop_zero, LE_full f u (cls b :: q) gu (by omega) (fun c hc => by cases b <;> (cases hc; rfl)), opn_cls, fin_eq]
  | f + 1, .row s [], q, g, h, hq => absurd g.1 (by simp)
  | f + 1, .row s [u], q, g, h, hq => absurd g.1 (by simp)
  | f + 1, .row s (t :: u :: us), q, g, h, hq => by
    obtain ⟨_, gt, gu, gs⟩ := g
    rw [ht] at h
    have hh : ∀ x ∈ t :: u :: us, ht x < f := fun x hx => by have := hts_le hx; omega
    have e : txt (.row s (t :: u :: us)) ++ q = 40 :: (txt t ++ (tails s (u :: us) ++ 41 :: q)) := by rw [txt, tails_join]; simp
    have J : (tails s (u :: us) ++ 41 :: q).take 3 = sep s := by cases s <;> simp [tails, sep]
    rw [e, LE, if_neg (by decide), if_neg (by decide), if_pos rfl, LE_full f t _ gt (hh t List.mem_cons_self) (fun c hc => by cases s <;> (simp [tails, sep] at hc; subst hc; rfl))]
    dsimp only
    rw [J, if_pos (by cases s <;> simp), LL_full (LE_full f) (u :: us) _ ⟨gu, gs⟩ (fun x hx => hh x (List.mem_cons_of_mem _ hx)), fin_eq]
    have : ∀ vs : List T, vs.length ≤ (tails s vs).length := fun vs => by
      induction vs with
      | nil => exact Nat.zero_le _
      | cons v vs ih =>
        have : tails s (v :: vs) = sep s ++ (txt v ++ tails s vs) := by simp [tails]
        rw [this, List.length_append, List.length_append, List.length_cons]
        have : (sep s).length = 3 := by cases s <;> rfl
        omega
    have := this (u :: us)
    rw [List.length_append, List.length_cons] at *
    omega
/-- read from end to end: a plan's text -/
theorem LE_all {f : Nat} {l : List Nat} (h : LE f l = some []) : Tx l := by
  obtain ⟨t, g, e⟩ := LE_sound f l [] h
  exact ⟨t, g, by rw [e, List.append_nil]⟩
theorem all_LE {f : Nat} {t : T} (g : Good t) (h : ht t < f) : LE f (txt t) = some [] := by
  have := LE_full f t [] g h (fun c hc => by cases hc)
  rwa [List.append_nil] at this
/-! ### opening signs -/
def opener (c : Nat) : Bool := c == 40 || c == 91 || c == 123
def opns (l : List Nat) : Nat := l.countP opener
theorem opns_app (a b : List Nat) : opns (a ++ b) = opns a + opns b := List.countP_append
theorem opns_cons (c : Nat) (l : List Nat) : opns (c :: l) = opns l + (if opener c = true then 1 else 0) := List.countP_cons
theorem opns_mem {S : List Nat} : ∀ {ps : List (List Nat)} {p : List Nat}, p ∈ ps → opns p ≤ opns (joinL S ps)
  | [p], q, h => by rw [List.mem_singleton] at h; subst h; rw [joinL]; exact Nat.le_refl _
  | p :: p2 :: ps, q, h => by
    rw [joinL, opns_app, opns_app]
    rcases List.mem_cons.mp h with rfl | h
    · omega
    · have := opns_mem (S := S) (ps := p2 :: ps) h
      omega
theorem ht_opns : ∀ t, ht t ≤ opns (txt t)
  | .one => by rw [ht]; exact Nat.zero_le _
  | .name x => by rw [ht]; exact Nat.zero_le _
  | .cop b n t => by
    have := ht_opns t
    rw [ht, txt, opns_cons, opns_app, opns_cons, opns_app]
    have : opener (opn b) = true := by cases b <;> rfl
    rw [if_pos this]; omega
  | .row s ts => by
    rw [ht, txt, opns_cons, opns_app, if_pos (by decide)]
    have : hts ts ≤ opns (joinL (sep s) (txts ts)) := by
      have : ∀ us : List T, (∀ u ∈ us, u ∈ ts) → hts us ≤ opns (joinL (sep s) (txts ts)) := by
        intro us
        induction us with
        | nil => intro _; rw [hts]; exact Nat.zero_le _
        | cons u us ih =>
          intro hm
          have hu := hm u List.mem_cons_self
          have := ht_opns u
          have h2 := ih fun x hx => hm x (List.mem_cons_of_mem _ hx)
          have h3 : opns (txt u) ≤ opns (joinL (sep s) (txts ts)) := opns_mem (by rw [txts_map]; exact List.mem_map_of_mem hu)
          rw [hts]
          omega
      exact this ts fun _ h => h
    omega
end W
/-! C9: what the law draws. -/
namespace W
open PySem PySem.Spec PyProof.Rows L2 DL SX PL
section
variable {P : Program} {w : World} {K : PySem.W.Frag} {mg : Str → Option Value} {base : Heap} {C : Addr}
abbrev potL (a c d : Int) : MO := .lst [.int a, .int c, .int d]
def cOk (c : Int) : Prop := 0 ≤ c ∧ c < 2305843009213693921
def cTake : Con := fun ds M Φ => ∃ p u a c d, ds = [.ob p, .int u] ∧ 1 ≤ u ∧ u ≤ 10 ^ 40 ∧ M p = some (potL a c d) ∧ cOk c ∧ 0 ≤ d ∧ d < 100000 ∧ ∀ r a' d', 0 ≤ r → r < u → d ≤ d' → d' ≤ d + 1 → Φ (.int r) (mset M p (potL a' c d'))
theorem at0 {a c d : Int} : atI [D.int a, D.int c, D.int d] 0 = some (.int a) := atI_nat (j := 0) rfl
theorem at1 {a c d : Int} : atI [D.int a, D.int c, D.int d] 1 = some (.int c) := atI_nat (j := 1) rfl
theorem at2 {a c d : Int} : atI [D.int a, D.int c, D.int d] 2 = some (.int d) := atI_nat (j := 2) rfl
def primes : List Int := [2147483647, 2147483629, 2147483587, 2147483579, 2147483563]
theorem prime_at {i : Int} (h0 : 0 ≤ i) (h5 : i < 5) : ∃ q, atI (primes.map D.int) i = some (.int q) ∧ 2147483563 ≤ q ∧ q ≤ 2147483647 := by
  obtain ⟨n, rfl⟩ := Int.eq_ofNat_of_zero_le h0
  have : n < 5 := by omega
  match n, this with
  | 0, _ => exact ⟨2147483647, atI_nat (j := 0) rfl, by decide, by decide⟩
  | 1, _ => exact ⟨2147483629, atI_nat (j := 1) rfl, by decide, by decide⟩
  | 2, _ => exact ⟨2147483587, atI_nat (j := 2) rfl, by decide, by decide⟩
  | 3, _ => exact ⟨2147483579, atI_nat (j := 3) rfl, by decide, by decide⟩
  | 4, _ => exact ⟨2147483563, atI_nat (j := 4) rfl, by decide, by decide⟩
theorem log40 {u : Int} (h1 : 1 ≤ u) (h2 : u ≤ 10 ^ 40) : u.natAbs.log2 < 9000 := by
  have e : u.natAbs < 16 ^ 40 := by
    have : (10 : Int) ^ 40 < 16 ^ 40 := by decide +kernel
    have e2 : ((16 ^ 40 : Nat) : Int) = 16 ^ 40 := by decide +kernel
    omega
  have := log16 e
  omega
abbrev nTake : List Str := ["_law_pot_here", "_law_upto", "_law_digit", "_law_prime", "_law_mixed"]
theorem sq_le {d : Int} (h0 : 0 ≤ d) (h : d ≤ 100000) : 0 ≤ 98027 * d * d ∧ 98027 * d * d ≤ 98027 * 100000 * 100000 := by
  have h1 : 0 ≤ d * d := Int.mul_nonneg h0 h0
  have h2 : d * d ≤ 100000 * 100000 := Int.mul_le_mul h h h0 (by decide)
  rw [Int.mul_assoc]
  omega
theorem ok_take (F : Fx w K mg) : BodyOk P w K mg base "_law_take" s__law_take nTake 2 0 cTake := by
  intro f cdv A outer s H E hr ds M Φ hl hc
  obtain ⟨p, u, a, c, d, rfl, hu, hu2, hM, ⟨c0, c1⟩, d0, d1, hc⟩ := hc
  have nd : nTake.Nodup := by decide +kernel
  refine wss_cons (ws_if (wt_gtI (we_ix (we_var 0 rfl (we_int ⟨0, _, rfl, ixO hM at0, we_int ⟨_, _, rfl, rfl, ?_⟩⟩)))))
  refine ite_dec (fun ha => ?_) fun ha => ?_
  · refine wss_cons (ws_set 2 nd (we_modI (we_intN (F.bn _ (by decide +kernel)) (we_ix (we_var 0 rfl (we_int ⟨0, _, rfl, ixO hM at0, .inl ⟨_, rfl, we_var 1 rfl ⟨_, _, rfl, rfl, by omega, ?_⟩⟩⟩))))))
    refine wss_cons (ws_asg (we_divI (we_ix (we_var 0 rfl (we_int ⟨0, _, rfl, ixO hM at0, we_var 1 rfl ⟨_, _, rfl, rfl, ⟨by omega, ?_⟩, ?_⟩⟩)))))
    · exact log40 hu hu2
    · refine wg_sub (we_var 0 rfl (we_int ⟨p, _, 0, 0, rfl, rfl, hM, rfl, ?_⟩))
      refine wss_cons (ws_ret (we_var 2 rfl (Lets.of ?_)))
      exact hc _ _ _ (Int.emod_nonneg _ (by omega)) (Int.emod_lt_of_pos _ (by omega)) (Int.le_refl _) (by omega)
  · refine wss_nil ?_
    refine wss_cons (ws_asg (we_addI (we_ix (we_var 0 rfl (we_int ⟨2, _, rfl, ixO hM at2, we_int ⟨_, _, rfl, rfl, ?_⟩⟩)))))
    refine wg_sub (we_var 0 rfl (we_int ⟨p, _, 2, 2, rfl, rfl, hM, rfl, ?_⟩))
    show WSs _ _ (mset M p (potL a c (d + 1))) _ _
    have hM2 : mset M p (potL a c (d + 1)) p = some (potL a c (d + 1)) := mset_same
    obtain ⟨q, hq, q1, q2⟩ := prime_at (i := (d + 1) % 5) (Int.emod_nonneg _ (by decide)) (Int.emod_lt_of_pos _ (by decide))
    refine wss_cons (ws_set 3 nd (we_ix (we_lst (wa_cons (we_int (wa_cons (we_int (wa_cons (we_int (wa_cons (we_int (wa_cons (we_int (wa_nil ⟨by show 5 ≤ sizeLine; decide, ?_⟩))))))))))))))
    refine we_modI (we_intN (F.bn _ (by decide +kernel)) (we_ix (we_var 0 rfl (we_int ⟨2, _, rfl, ixO hM2 at2, .inl ⟨_, rfl, we_int ⟨_, _, rfl, rfl, by decide, _, _, rfl, ixL hq, ?_⟩⟩⟩))))
    obtain ⟨s1, s2⟩ := sq_le (d := d + 1) (by omega) (by omega)
    refine wss_cons (ws_set 4 nd (we_modI (we_intN (F.bn _ (by decide +kernel)) (we_powI (we_intN (F.bn _ (by decide +kernel)) (we_addI (we_addI (we_ix (we_var 0 rfl (we_int ⟨1, _, rfl, ixO hM2 at1, ?_⟩))))))))))
    refine we_mulS (we_mulS (we_int (we_ix (we_var 0 rfl (we_int ⟨2, _, rfl, ixO hM2 at2, _, _, rfl, rfl, .inl ⟨by decide, by decide⟩, we_ix (we_var 0 rfl (we_int ⟨2, _, rfl, ixO hM2 at2, _, _, rfl, rfl, .inr ⟨by omega, by omega⟩, _, _, rfl, rfl, ?_⟩))⟩)))))
    refine we_int ⟨_, _, rfl, rfl, .inl ⟨_, rfl, we_int ⟨_, _, rfl, rfl, ⟨by decide, by decide, ?_⟩, .inl ⟨_, rfl, we_var 3 rfl ⟨_, _, rfl, rfl, by omega, ?_⟩⟩⟩⟩⟩
    · omega
    generalize hm : ((c + 98027 * (d + 1) * (d + 1) + 43) ^ (3 : Int).toNat) % q = m
    have m0 : 0 ≤ m := by rw [← hm]; exact Int.emod_nonneg _ (by omega)
    have m1 : m < q := by rw [← hm]; exact Int.emod_lt_of_pos _ (by omega)
    refine wss_cons (ws_set 4 nd (we_modI (we_intN (F.bn _ (by decide +kernel)) (we_mulS (we_var 4 rfl (we_addI (we_modI (we_intN (F.bn _ (by decide +kernel)) (we_var 4 rfl (.inl ⟨_, rfl, we_int ⟨_, _, rfl, rfl, by decide, ?_⟩⟩))))))))))
    refine we_mulS (we_int (we_ix (we_var 0 rfl (we_int ⟨2, _, rfl, ixO hM2 at2, _, _, rfl, rfl, .inl ⟨by decide, by decide⟩, _, _, rfl, rfl, _, _, rfl, rfl, .inl ⟨by omega, by omega⟩, .inl ⟨_, rfl, we_int ⟨_, _, rfl, rfl, by decide, ?_⟩⟩⟩))))
    refine wss_cons (ws_ret (we_modI (we_intN (F.bn _ (by decide +kernel)) (we_divI (we_var 4 rfl (we_int ⟨_, _, rfl, rfl, ⟨by decide, by decide⟩, .inl ⟨_, rfl, we_var 1 rfl ⟨_, _, rfl, rfl, by omega, Lets.of ?_⟩⟩⟩))))))
    exact hc _ _ _ (Int.emod_nonneg _ (by omega)) (Int.emod_lt_of_pos _ (by omega)) (by omega) (by omega)
end
end W
/-! C10: pots, cells, lores and their texts. -/
namespace W
open PySem PySem.Spec PyProof.Rows L2 DL SX PL
section
variable {P : Program} {w : World} {K : PySem.W.Frag} {mg : Str → Option Value} {base : Heap} {C : Addr}
def cOf : Con := fun ds M Φ => ∃ p xs a c d, ds = [.ob p, .lst xs] ∧ xs ≠ [] ∧ xs.length ≤ 1000000 ∧ M p = some (potL a c d) ∧ cOk c ∧ 0 ≤ d ∧ d < 100000 ∧ ∀ x a' d', x ∈ xs → d ≤ d' → d' ≤ d + 1 → Φ x (mset M p (potL a' c d'))
theorem ok_of (F : Fx w K mg) (F1 : Fc P w K mg base "_law_take" [] 1 2 cTake) : BodyOk P w K mg base "_law_of" s__law_of ["_law_pot_here", "_law_some"] 2 1 cOf := by
  intro f cdv A outer s H E hr ds M Φ hl hc
  obtain ⟨p, xs, a, c, d, rfl, hx, hx2, hM, co, d0, d1, hc⟩ := hc
  have hpos : 0 < xs.length := List.length_pos_iff.mpr hx
  refine wss_cons (ws_ret (we_ix (we_var 1 rfl (we_call F1 (hr.mono (by decide)) (wa_cons (we_var 0 rfl (wa_cons (we_len (F.bn _ (by decide +kernel)) (we_var 1 rfl ⟨_, lenL, wa_nil ⟨rfl, p, _, a, c, d, rfl, by omega, ?_, hM, co, d0, d1, ?_⟩⟩)))))))))
  · have : (1000000 : Int) ≤ 10 ^ 40 := by decide +kernel
    omega
  · intro r a' d' r0 r1 h1 h2
    obtain ⟨n, rfl⟩ := Int.eq_ofNat_of_zero_le r0
    have hn : n < xs.length := by omega
    exact ⟨_, _, rfl, ixL (atI_nat (List.getElem?_eq_getElem hn)), Lets.of (hc _ _ _ (List.getElem_mem hn) h1 h2)⟩
/-- the script -/
abbrev scrD (ns : List Int) : D := .rol (ns.map D.int)
theorem bb (c : Bool) : -(2 ^ 64) < (if c = true then (1 : Int) else 0) ∧ (if c = true then (1 : Int) else 0) < 2 ^ 64 := by cases c <;> decide
theorem join_sum (b : Bool) : ∀ ps : List (List Nat), (ps.map (·.length)).sum + ps.length * 3 ≤ (TL.joinL (sep b) ps).length + 3
  | [] => by simp
  | [p] => by rw [TL.joinL]; simp
  | p :: q :: r => by
    have ih := join_sum b (q :: r)
    rw [TL.joinL, List.length_append, List.length_append, sep_len, List.map_cons, List.sum_cons, List.length_cons]
    omega
def cPot : Con := fun ds M Φ => ∃ ns pl, ds = [scrD ns, .int (pl : Nat)] ∧ pl ≤ 1000 ∧ ∀ q a c, M q = none → cOk c → Φ (.ob q) (mset M q (potL a c 0))
abbrev nPot : List Str := ["_law_script", "_law_place", "_law_cell", "_law_own", "_law_small"]
theorem ok_pot (F : Fx w K mg) : BodyOk P w K mg base "_law_pot" s__law_pot nPot 2 0 cPot := by
  intro f cdv A outer s H E hr ds M Φ hl hc
  obtain ⟨ns, pl, rfl, hpl, hc⟩ := hc
  have nd : nPot.Nodup := by decide +kernel
  have rest : ∀ cell : Int, WSs (bx P w K mg base nPot "_law_pot" (defScope s__law_pot) f cdv A outer s H E) [some (scrD ns), some (.int (pl : Nat)), some (.int cell), none, none] M ((defBody s__law_pot).drop 1) { nx := fun _ M' => Φ .non M', rt := Lets Φ } := fun cell => by
    refine wss_cons (ws_set 3 nd (we_mulS (we_modI (we_intN (F.bn _ (by decide +kernel)) (we_abs (F.bn _ (by decide +kernel)) (we_var 2 rfl ⟨_, rfl, .inl ⟨_, rfl, we_powW (we_powI (we_int (we_int ⟨_, _, rfl, rfl, ⟨by decide, by decide, by decide⟩, we_int ⟨_, _, rfl, rfl, ⟨by decide, by decide +kernel⟩, _, _, rfl, rfl, by decide +kernel, ?_⟩⟩)))⟩⟩))))))
    refine we_intN (F.bn _ (by decide +kernel)) (we_geI (we_abs (F.bn _ (by decide +kernel)) (we_var 2 rfl ⟨_, rfl, we_powI (we_int (we_int ⟨_, _, rfl, rfl, ⟨by decide, by decide, by decide⟩, _, _, rfl, rfl, .inr ⟨_, rfl, _, _, rfl, rfl, .inr ⟨?_, ?_⟩, ?_⟩⟩))⟩)))
    · exact (bb _).1
    · exact (bb _).2
    refine wss_cons (ws_set 4 nd (we_modI (we_intN (F.bn _ (by decide +kernel)) (we_var 2 rfl (.inl ⟨_, rfl, we_int ⟨_, _, rfl, rfl, by decide, ?_⟩⟩)))))
    have b0 : 0 ≤ cell % 2305843009213693951 := Int.emod_nonneg _ (by decide)
    have b1 : cell % 2305843009213693951 < 2305843009213693951 := Int.emod_lt_of_pos _ (by decide)
    refine wss_cons (ws_ret (we_lstM (wa_cons (we_var 3 rfl (wa_cons (we_modI (we_intN (F.bn _ (by decide +kernel)) (we_addI (we_addI (we_mulS (we_var 4 rfl (we_int ⟨_, _, rfl, rfl, .inl ⟨by omega, by omega⟩, we_mulS (we_mulS (we_int (we_var 1 rfl ⟨_, _, rfl, rfl, .inl ⟨by decide, by decide⟩, we_var 1 rfl ⟨_, _, rfl, rfl, .inr ⟨by omega, by omega⟩, _, _, rfl, rfl, we_int ⟨_, _, rfl, rfl, .inl ⟨_, rfl, we_int ⟨_, _, rfl, rfl, by decide, wa_cons (we_int (wa_nil ⟨sz3, fun q hq => Lets.of ?_⟩))⟩⟩⟩⟩⟩)))⟩))))))))))))
    exact hc q _ _ hq ⟨Int.emod_nonneg _ (by decide), Int.emod_lt_of_pos _ (by decide)⟩
  refine wss_cons (ws_set 2 nd (we_if (wt_ltI (we_var 1 rfl (we_len (F.bn _ (by decide +kernel)) (we_var 0 rfl ⟨_, lenR, _, _, rfl, rfl, ?_⟩))))))
  refine ite_dec (fun h => ?_) fun h => ?_
  · rw [List.length_map] at h
    have hq : (ns.map D.int)[pl]? = some (.int ns[pl]) := by rw [List.getElem?_map, List.getElem?_eq_getElem (by omega)]; rfl
    exact we_ix (we_var 0 rfl (we_var 1 rfl ⟨_, _, rfl, ixR (atI_nat hq), rest _⟩))
  · exact we_addI (we_mulS (we_int (we_var 1 rfl ⟨_, _, rfl, rfl, .inl ⟨by decide, by decide⟩, we_int ⟨_, _, rfl, rfl, rest _⟩⟩)))
def cCells : Con := fun ds M Φ => ∃ ns m, ds = [scrD ns, .int (m : Nat)] ∧ 1 ≤ m ∧ m ≤ 1000 ∧ ∀ n : Nat, n ≤ m → Φ (.lst (rngD 0 n)) M
theorem ok_cells (F : Fx w K mg) : BodyOk P w K mg base "_law_cells" s__law_cells ["_law_script", "_law_most"] 2 0 cCells := by
  intro f cdv A outer s H E hr ds M Φ hl hc
  obtain ⟨ns, m, rfl, h1, h2, hc⟩ := hc
  refine wss_cons (ws_ret (we_listRg1 (F.bn _ (by decide +kernel)) (F.bn _ (by decide +kernel)) (we_max2 (F.bn _ (by decide +kernel)) (we_int (we_min2 (F.bn _ (by decide +kernel)) (we_var 1 rfl (we_len (F.bn _ (by decide +kernel)) (we_var 0 rfl ⟨_, lenR, _, _, rfl, rfl, _, _, rfl, rfl, _, rfl, ?_, Lets.of (hc _ ?_)⟩))))))))
  · unfold RgOk; split <;> split <;> omega
  · split <;> split <;> omega

/-! ### lores -/
def firstS : T → Str
  | .one => "one"
  | .name _ => "name"
  | .cop s _ _ => S [opn s]
  | .row s _ => S [sgn s]
mutual
def loreD : T → D
  | .one => .tup [.str "one"]
  | .name x => .tup [.str "name", tS x]
  | .cop s n t => .tup [tS [opn s], .int (n : Nat), loreD t]
  | .row s ts => .tup [tS [sgn s], .tup (loresD ts)]
def loresD : List T → List D
  | [] => []
  | t :: ts => loreD t :: loresD ts
end
theorem loresD_map : ∀ ts : List T, loresD ts = ts.map loreD
  | [] => by rw [loresD]; rfl
  | t :: ts => by rw [loresD, loresD_map ts, List.map_cons]
theorem lore_tup (t : T) : ∃ r, loreD t = .tup (.str (firstS t) :: r) := by
  cases t with
  | one => exact ⟨_, by rw [loreD]; rfl⟩
  | name x => exact ⟨_, by rw [loreD]; rfl⟩
  | cop s n t => exact ⟨_, by rw [loreD]; rfl⟩
  | row s ts => exact ⟨_, by rw [loreD]; rfl⟩
theorem lore_at0 {M : Mp} (t : T) : IxD M (loreD t) 0 (.str (firstS t)) := by
  obtain ⟨r, e⟩ := lore_tup t
  rw [e]; exact ixT (atI_nat (j := 0) rfl)
theorem first_one {t : T} : decide (firstS t = ("one" : Str)) = isOne t := by
  cases t with
  | one => decide +kernel
  | name x => show decide (("name" : Str) = ("one" : Str)) = false; decide +kernel
  | cop s n u => show decide (S [opn s] = ("one" : Str)) = false; cases s <;> decide +kernel
  | row s ts => show decide (S [sgn s] = ("one" : Str)) = false; cases s <;> decide +kernel
theorem first_name {t : T} : decide (firstS t = ("name" : Str)) = isNm t := by
  cases t with
  | one => decide +kernel
  | name x => show decide (("name" : Str) = ("name" : Str)) = true; decide +kernel
  | cop s n u => show decide (S [opn s] = ("name" : Str)) = false; cases s <;> decide +kernel
  | row s ts => show decide (S [sgn s] = ("name" : Str)) = false; cases s <;> decide +kernel
theorem first_cop {t : T} : decide (firstS t ∈ (["[", "{"] : List Str)) = isCop t := by
  cases t with
  | one => decide +kernel
  | name x => show decide (("name" : Str) ∈ (["[", "{"] : List Str)) = false; decide +kernel
  | cop s n u => show decide (S [opn s] ∈ (["[", "{"] : List Str)) = true; cases s <;> decide +kernel
  | row s ts => show decide (S [sgn s] ∈ (["[", "{"] : List Str)) = false; cases s <;> decide +kernel
theorem first_leaf {t : T} : decide (firstS t ∈ (["one", "name"] : List Str)) = (isOne t || isNm t) := by
  cases t with
  | one => decide +kernel
  | name x => show decide (("name" : Str) ∈ (["one", "name"] : List Str)) = true; decide +kernel
  | cop s n u => show decide (S [opn s] ∈ (["one", "name"] : List Str)) = false; cases s <;> decide +kernel
  | row s ts => show decide (S [sgn s] ∈ (["one", "name"] : List Str)) = false; cases s <;> decide +kernel
def beside : T → Bool
  | .cop s _ _ => !s
  | .row s _ => !s
  | _ => false
theorem first_beside {t : T} : decide (firstS t ∈ (["+", "["] : List Str)) = beside t := by
  cases t with
  | one => decide +kernel
  | name x => show decide (("name" : Str) ∈ (["+", "["] : List Str)) = false; decide +kernel
  | cop s n u => show decide (S [opn s] ∈ (["+", "["] : List Str)) = !s; cases s <;> decide +kernel
  | row s ts => show decide (S [sgn s] ∈ (["+", "["] : List Str)) = !s; cases s <;> decide +kernel
def cText (h : Nat) : Con := fun ds M Φ => ∃ t, ds = [loreD t] ∧ Good t ∧ (txt t).length ≤ 100000 ∧ ht t ≤ h ∧ Φ (tS (txt t)) M
theorem ok_lawtext (h : Nat) (F : Fx w K mg) (F1 : ∀ j, h = j + 1 → Fc P w K mg base "_law_text" [] (j + 1) 1 (cText j)) : BodyOk P w K mg base "_law_text" s__law_text ["_law_lore", "_law_part"] 1 h (cText h) := by
  intro f cdv A outer s H E hr ds M Φ hl hc
  obtain ⟨t, rfl, hg, hl, hh, hc⟩ := hc
  have nd : (["_law_lore", "_law_part"] : List Str).Nodup := by decide +kernel
  refine wss_cons (ws_if (wt_eqS (we_ix (we_var 0 rfl (we_int ⟨0, _, rfl, lore_at0 t, we_str ⟨_, rfl, ?_⟩⟩)))))
  rw [first_one]
  cases h1 : isOne t with
  | true =>
    cases t with
    | one => exact wss_cons (ws_ret (we_str (Lets.of (by rw [show ("1" : Str) = S (txt .one) by rw [txt]; decide +kernel]; exact hc))))
    | _ => cases h1
  | false =>
  refine wss_nil (wss_cons (ws_if (wt_eqS (we_ix (we_var 0 rfl (we_int ⟨0, _, rfl, lore_at0 t, we_str ⟨_, rfl, ?_⟩⟩))))))
  rw [first_name]
  cases h2 : isNm t with
  | true =>
    cases t with
    | name x => exact wss_cons (ws_ret (we_ix (we_var 0 rfl (we_int ⟨1, _, rfl, by rw [loreD]; exact ixT (atI_nat (j := 1) rfl), Lets.of (by rw [txt] at hc; exact hc)⟩))))
    | _ => cases h2
  | false =>
  refine wss_nil (wss_cons (ws_if (wt_inS (we_ix (we_var 0 rfl (we_int ⟨0, _, rfl, lore_at0 t, we_txts ⟨_, _, rfl, .inl rfl, ?_⟩⟩))))))
  rw [first_cop]
  cases t with
  | one => cases h1
  | name x => cases h2
  | cop b n u =>
    obtain ⟨n1, n2, hu⟩ := hg
    obtain ⟨j, rfl⟩ : ∃ j, h = j + 1 := ⟨h - 1, by rw [ht] at hh; omega⟩
    have hl2 : (TL.numL n).length + (txt u).length + 3 ≤ 100000 := by rw [txt] at hl; simp at hl; omega
    have i1 : ∀ M, IxD M (loreD (.cop b n u)) 1 (.int (n : Nat)) := fun M => by rw [loreD]; exact ixT (atI_nat (j := 1) rfl)
    have i2 : ∀ M, IxD M (loreD (.cop b n u)) 2 (loreD u) := fun M => by rw [loreD]; exact ixT (atI_nat (j := 2) rfl)
    have e1 : ([("[", "]"), ("{", "}")] : List (Str × Str)).lookup (S [opn b]) = some (S [cls b]) := by cases b <;> decide +kernel
    refine wss_cons (ws_ret (we_addS (we_addS (we_addS (we_addS (we_ix (we_var 0 rfl (we_int ⟨0, _, rfl, lore_at0 _, we_strI (F.bn _ (by decide +kernel)) (we_ix (we_var 0 rfl (we_int ⟨1, _, rfl, i1 _, _, rfl, ?_, _, _, rfl, rfl, ?_, ?_⟩)))⟩))))))))
    · rw [Int.natAbs_natCast]
      have e2 : n < 16 ^ 26 := Nat.lt_of_le_of_lt n2 (by decide)
      have e3 := log16 e2
      omega
    · rw [num_S, show firstS (.cop b n u) = S [opn b] from rfl, S_len, S_len, sizeLine_eq]; simp; omega
    rw [num_S, show firstS (.cop b n u) = S [opn b] from rfl, S_cat]
    refine we_str ⟨_, _, rfl, rfl, ?_, we_call (F1 j rfl) (hr.mono (by omega)) (wa_cons (we_ix (we_var 0 rfl (we_int ⟨2, _, rfl, i2 _, wa_nil ⟨rfl, u, rfl, hu, by omega, by rw [ht] at hh; omega, _, _, rfl, rfl, ?_, ?_⟩⟩))))⟩
    · rw [show (" " : Str) = S [32] by decide +kernel, S_len, S_len, sizeLine_eq]; simp; omega
    · rw [show (" " : Str) = S [32] by decide +kernel, S_cat, S_len, S_len, sizeLine_eq]; simp; omega
    rw [show (" " : Str) = S [32] by decide +kernel, S_cat, S_cat]
    refine we_disp2 (hu_of hr) (by decide +kernel) (we_ix (we_var 0 rfl (we_int ⟨0, _, rfl, lore_at0 _, _, _, rfl, e1, _, _, rfl, rfl, ?_, Lets.of ?_⟩)))
    · rw [S_len, S_len, sizeLine_eq]; simp; omega
    · rw [S_cat]
      have e3 : ([opn b] ++ TL.numL n ++ [32] ++ txt u ++ [cls b]) = txt (.cop b n u) := by rw [txt]; simp
      rw [e3]; exact hc
  | row b ts =>
    have i1 : ∀ M, IxD M (loreD (.row b ts)) 1 (.tup (ts.map loreD)) := fun M => by rw [loreD, loresD_map]; exact ixT (atI_nat (j := 1) rfl)
    have hz := row_len b ts
    have hj := joins_len b (txts ts)
    rw [txts_len] at hj
    refine wss_nil (wss_cons (ws_ret (we_addS (we_addS (we_str (we_join (we_addS (we_addS (we_str (we_ix (we_var 0 rfl (we_int ⟨0, _, rfl, lore_at0 _, _, _, rfl, rfl, ?_, we_str ⟨_, _, rfl, rfl, ?_, _, rfl, ?_⟩⟩))))))))))))
    · rw [show firstS (.row b ts) = S [sgn b] from rfl, show (" " : Str) = S [32] by decide +kernel, S_len, S_len]; show 2 ≤ sizeLine; decide
    · rw [show firstS (.row b ts) = S [sgn b] from rfl, show (" " : Str) = S [32] by decide +kernel, S_cat, S_len, S_len]; show 3 ≤ sizeLine; decide
    rw [show firstS (.row b ts) = S [sgn b] from rfl, show (" " : Str) = S [32] by decide +kernel, S_cat, S_cat, show [32] ++ [sgn b] ++ [32] = sep b from rfl]
    refine we_lc nd (blkOk_by (N := ["_law_lore", "_law_part"]) (sc := defScope s__law_text) (own := [("_law_part", 1)]) (by decide +kernel)) (fun _ _ _ _ _ => pg_name (i := 1) nd rfl (Or.inl rfl)) (gt_name (by decide)) (fun _ _ _ _ _ => pts_nil) tk_nil (wi_tup (we_ix (we_var 0 rfl (we_int ⟨1, _, rfl, i1 _, _, rfl, ?_⟩))))
    refine ⟨by rw [List.length_map, sizeLine_eq]; omega, fun i acc M' => M' = M ∧ acc = (((ts.take i).map txt).map S).map D.str, ⟨rfl, rfl⟩, ?_, ?_⟩
    · rintro i x acc M' hx ⟨rfl, rfl⟩
      rw [List.getElem?_map] at hx
      obtain ⟨u, hu, rfl⟩ := Option.map_eq_some_iff.mp hx
      have hm : ((1, u) : Nat × T) ∈ kids (.row b ts) := by unfold kids; exact List.mem_map.mpr ⟨u, List.mem_of_getElem? hu, rfl⟩
      obtain ⟨g1, g2, g3, g4, g5⟩ := kids_ok hm hg
      have g2 : ht u < ht (.row b ts) := g2
      have g3 : (txt u).length < (txt (.row b ts)).length := g3
      obtain ⟨j, rfl⟩ : ∃ j, h = j + 1 := ⟨h - 1, by omega⟩
      intro s1 H1 C' cl fp
      refine we_call (F1 j rfl) (hr.mono (by omega)) (wa_cons (we_var 1 rfl (wa_nil ⟨rfl, u, rfl, g1, by omega, by omega, rfl, ?_⟩)))
      rw [take_snoc hu, List.map_append, List.map_append, List.map_append]; rfl
    · rintro acc M' ⟨rfl, rfl⟩
      rw [List.length_map, List.take_length]
      have hlen : ((txts ts).map (·.length)).sum + (txts ts).length * 3 ≤ (TL.joinL (sep b) (txts ts)).length + 3 := join_sum b _
      refine ⟨(ts.map txt).map S, .inl rfl, ?_, ?_⟩
      · rw [lens, ← txts_map, List.length_map, S_len, sep_len]; omega
      · rw [join_S, ← txts_map]
        refine ⟨_, _, rfl, rfl, ?_, we_str ⟨_, _, rfl, rfl, ?_, Lets.of ?_⟩⟩
        · rw [show ("(" : Str) = S [40] by decide +kernel, S_len, S_len, sizeLine_eq]; simp; omega
        · rw [show ("(" : Str) = S [40] by decide +kernel, show (")" : Str) = S [41] by decide +kernel, S_cat, S_len, S_len, sizeLine_eq]; simp; omega
        · rw [show ("(" : Str) = S [40] by decide +kernel, show (")" : Str) = S [41] by decide +kernel, S_cat, S_cat]
          have e3 : [40] ++ TL.joinL (sep b) (txts ts) ++ [41] = txt (.row b ts) := by rw [row_txt]; simp
          rw [e3]; exact hc
end
end W
/-! GT6: the law's own reading, walked. -/
namespace W
open PySem PySem.Spec PyProof.Rows L2 DL SX PL
theorem cut_ik (l : List Nat) (i k : Nat) (hi : i ≤ l.length) : cutS (S l) (some (i : Int)) (some ((i : Int) + (k : Int))) = S ((l.drop i).take k) := by
  have e : (i : Int) + (k : Int) = ((i + k : Nat) : Int) := by omega
  unfold cutS
  rw [e, S_len, HT.sIx_nat, HT.sIx_nat, Nat.min_eq_left hi]
  show S ((l.drop i).take (min (i + k) l.length - i)) = _
  congr 1
  by_cases h : i + k ≤ l.length
  · rw [Nat.min_eq_left h, Nat.add_sub_cancel_left]
  · rw [Nat.min_eq_right (by omega), List.take_of_length_le (by rw [List.length_drop]; omega), List.take_of_length_le (by rw [List.length_drop]; omega)]
theorem S_nil : ("" : Str) = S [] := by decide +kernel
theorem dec_S {x y : List Nat} {z : Str} (h : z = S y) : decide (S x = z) = decide (x = y) := by rw [h]; exact decide_eq_decide.mpr S_eqi
theorem drop_cons {l : List Nat} {j c : Nat} {r : List Nat} (h : l.drop j = c :: r) : j < l.length ∧ l[j]? = some c ∧ l.drop (j + 1) = r := by
  have h1 : j < l.length := by
    refine Nat.lt_of_not_le fun hg => ?_
    rw [List.drop_eq_nil_of_le hg] at h; cases h
  rw [List.drop_eq_getElem_cons h1] at h
  injection h with h2 h3
  exact ⟨h1, by rw [List.getElem?_eq_getElem h1, h2], h3⟩
theorem drop_nil {l : List Nat} {j : Nat} (h : l.drop j = []) : l.length ≤ j := List.drop_eq_nil_iff.mp h
section
variable {X : Cx} {ρ : Rho} {M : Mp} {a b : Expr} {pos : Pos} {Θ : Bool → Mp → Prop}
theorem wt_inC (h : WE X ρ M a fun x M1 => WE X ρ M1 b fun y M2 => ∃ c z, x = .str ⟨#[c]⟩ ∧ y = .str z ∧ Θ (decide (c ∈ z.cps.toList)) M2) (hm : behindInMarks .In b = false := by rfl) : WT X ρ M (.Compare a [.In] [b] pos) Θ := wt_cmp op_in_sign hm (h.imp fun _ _ h => h.imp fun _ _ h Z v u H Q w r1 r2 k => by
  obtain ⟨i, j, rfl, rfl, h⟩ := h
  cases r1; cases r2
  exact ⟨i, j, rfl, rfl, k.now w (.bl _) ⟨_, rfl, h⟩⟩)
end
section
variable {P : Program} {w : World} {K : PySem.W.Frag} {mg : Str → Option Value} {base : Heap}
def cNE : Con := fun ds M Φ => ∃ l i, ds = [tS l, .int (i : Nat)] ∧ i ≤ l.length ∧ l.length ≤ 600 ∧ Φ (.int ((i + ((l.drop i).takeWhile figure).length : Nat) : Int)) M
abbrev nNE : List Str := ["_law_text_here", "_law_spot", "_law_end_here"]
theorem ok_nend : BodyOk P w K mg base "_law_number_end" s__law_number_end nNE 2 0 cNE := by
  intro f cdv A outer s H E hr ds M Φ hl hc
  obtain ⟨l, i, rfl, hi, hlen, hc⟩ := hc
  have nd : nNE.Nodup := by decide +kernel
  have zl : (S l).length ≤ sizeLine := by rw [S_len, sizeLine_eq]; omega
  refine wss_cons (ws_set 2 nd (we_var 1 rfl ?_))
  refine wss_cons (ws_while PassesOwn.never (fun n ρ' M' => ∃ j : Nat, ρ' = [some (tS l), some (.int (i : Nat)), some (.int (j : Nat))] ∧ M' = M ∧ n = l.length - j ∧ j ≤ l.length ∧ j + ((l.drop j).takeWhile figure).length = i + ((l.drop i).takeWhile figure).length) (l.length - i) ⟨i, rfl, rfl, rfl, hi, rfl⟩ ?_)
  rintro n ρ' M' ⟨j, rfl, rfl, rfl, hj, hk⟩
  have done : (l.drop j).takeWhile figure = [] → WSs (bx P w K mg base nNE "_law_number_end" (defScope s__law_number_end) f cdv A outer s H E) [some (tS l), some (.int (i : Nat)), some (.int (j : Nat))] M' ((defBody s__law_number_end).drop 2) { nx := fun _ M' => Φ .non M', rt := Lets Φ } := fun e => by
    rw [e] at hk
    refine wss_cons (ws_ret (we_var 2 rfl (Lets.of ?_)))
    rw [← hk] at hc
    exact hc
  refine wt_ww (ww_and (wt_neS (we_slice (we_var 0 rfl (we_var 2 rfl ⟨_, rfl, we_addI (we_var 2 rfl (we_int ⟨_, _, rfl, rfl, _, rfl, _, .inr (.inr ⟨_, rfl, zl, rfl⟩), we_str ⟨_, rfl, ?_⟩⟩))⟩)))))
  rw [show ((j : Int) + 1) = (j : Int) + ((1 : Nat) : Int) from rfl, cut_ik l j 1 hj, dec_S S_nil]
  cases hd : l.drop j with
  | nil =>
    rw [show decide (([] : List Nat).take 1 = []) = true from rfl]
    exact done (by rw [hd]; rfl)
  | cons c r =>
    rw [show decide ((c :: r).take 1 = []) = false from rfl]
    obtain ⟨h1, h2, h3⟩ := drop_cons hd
    refine ww_and1 (wt_inC (we_ix (we_var 0 rfl (we_var 2 rfl ⟨_, _, rfl, .inr (.inr ⟨_, c, rfl, zl, atI_nat (j := j) h2, rfl⟩), we_str ⟨c, _, rfl, rfl, ?_⟩⟩))))
    rw [mem_figures]
    cases hf : figure c with
    | false =>
      exact done (by rw [hd, List.takeWhile_cons, hf]; rfl)
    | true =>
      refine wss_cons (ws_set 2 nd (we_addI (we_var 2 rfl (we_int ⟨_, _, rfl, rfl, wss_nil ?_⟩))))
      rw [hd, List.takeWhile_cons, if_pos hf, List.length_cons] at hk
      exact ⟨l.length - (j + 1), by omega, j + 1, rfl, rfl, rfl, by omega, by rw [h3]; omega⟩
end
end W
/-! GT7: _law_end walked. -/
namespace DL
open PySem PySem.Spec PyProof.Rows L2
section
variable {X : Cx} {ρ : Rho} {M : Mp} {Φ : D → Mp → Prop} {Θ : Bool → Mp → Prop} {a b : Expr} {pos : Pos}
theorem rd_outS {x y : D} (h : ∃ (z : Str) (zs : List Str), x = .str z ∧ (y = .tup (zs.map D.str) ∨ LstOf M y (zs.map D.str)) ∧ Φ (.bl (!decide (z ∈ zs))) M) : RD X.K (rIn X.K true) x y M Φ := fun Z v u H Q w r1 r2 k => by
  obtain ⟨z, zs, rfl, hy, h⟩ := h
  cases r1
  rcases hy with rfl | hy
  · obtain ⟨q, vs, rfl, hq, rs⟩ := r2.asTup
    rw [rs.strs] at hq
    exact ⟨q, _, rfl, .inr hq, rfl, flat_strs zs, by rw [inV_strs]; exact k.now w (.bl _) (by simpa using h)⟩
  · obtain ⟨q, vs, rfl, hq, rs⟩ := r2.asLst w hy
    rw [rs.strs] at hq
    exact ⟨q, _, rfl, .inl hq, rfl, flat_strs zs, by rw [inV_strs]; exact k.now w (.bl _) (by simpa using h)⟩
theorem wt_outS (h : WE X ρ M a fun x M1 => WE X ρ M1 b fun y M2 => ∃ (z : Str) (zs : List Str), x = .str z ∧ (y = .tup (zs.map D.str) ∨ LstOf M2 y (zs.map D.str)) ∧ Θ (!decide (z ∈ zs)) M2) (hm : behindInMarks .NotIn b = false := by rfl) : WT X ρ M (.Compare a [.NotIn] [b] pos) Θ :=
  wt_cmp op_notIn_seq hm (h.imp fun _ _ h => h.imp fun _ _ ⟨z, zs, e1, e2, h⟩ => rd_outS ⟨z, zs, e1, e2, _, rfl, h⟩)
end
end DL
namespace W
open PySem PySem.Spec PyProof.Rows L2 DL SX PL
/-- where the reading ends, as the law tells it -/
def resD (l : List Nat) : Option (List Nat) → D
  | none => .non
  | some r => .int ((l.length - r.length : Nat) : Int)
theorem resD_at {l : List Nat} {j : Nat} (h : j ≤ l.length) : resD l (some (l.drop j)) = .int (j : Nat) := by
  show D.int _ = _
  rw [List.length_drop, show l.length - (l.length - j) = j by omega]
theorem LE_suf {f : Nat} {l : List Nat} {i : Nat} {r : List Nat} (hi : i ≤ l.length) (h : LE f (l.drop i) = some r) : ∃ j, i < j ∧ j ≤ l.length ∧ r = l.drop j := by
  obtain ⟨t, g, e⟩ := LE_sound f _ _ h
  have hl := congrArg List.length e
  rw [List.length_drop, List.length_append] at hl
  have h0 : txt t ≠ [] := tx_ne ⟨t, g, rfl⟩
  have h1 := List.length_pos_iff.mpr h0
  refine ⟨i + (txt t).length, by omega, by omega, ?_⟩
  rw [← List.drop_drop, e, List.drop_left]
theorem opns_drop (l : List Nat) (i j : Nat) (h : i ≤ j) : opns (l.drop j) ≤ opns (l.drop i) := by
  have e : l.drop j = (l.drop i).drop (j - i) := by rw [List.drop_drop, show i + (j - i) = j by omega]
  rw [e]
  conv => rhs; rw [← List.take_append_drop (j - i) (l.drop i), opns_app]
  omega
theorem twdw (p : Nat → Bool) (l : List Nat) : l.dropWhile p = l.drop (l.takeWhile p).length := by
  have q := List.drop_left (l₁ := l.takeWhile p) (l₂ := l.dropWhile p)
  rw [List.takeWhile_append_dropWhile] at q
  exact q.symm
theorem tktw (p : Nat → Bool) (l : List Nat) : l.take (l.takeWhile p).length = l.takeWhile p := by
  have q := List.take_left (l₁ := l.takeWhile p) (l₂ := l.dropWhile p)
  rw [List.takeWhile_append_dropWhile] at q
  exact q
theorem tw_len (p : Nat → Bool) (l : List Nat) : (l.takeWhile p).length ≤ l.length := by
  have q := congrArg List.length (List.takeWhile_append_dropWhile (p := p) (l := l))
  rw [List.length_append] at q
  omega
theorem in_opn (c : Nat) : decide (S [c] ∈ (["[", "{"] : List Str)) = decide (c = 91 ∨ c = 123) := by
  rw [show ("[" : Str) = S [91] by decide +kernel, show ("{" : Str) = S [123] by decide +kernel]
  refine decide_eq_decide.mpr ?_
  rw [List.mem_cons, List.mem_singleton, S_eqi, S_eqi]
  simp
theorem in_sep (x : List Nat) : decide (S x ∈ ([" + ", " * "] : List Str)) = decide (x = sep false ∨ x = sep true) := by
  rw [show (" + " : Str) = S (sep false) by decide +kernel, show (" * " : Str) = S (sep true) by decide +kernel]
  refine decide_eq_decide.mpr ?_
  rw [List.mem_cons, List.mem_singleton, S_eqi, S_eqi]
theorem fin_not {c x : Nat} {r : List Nat} (h : x ≠ c) : fin c (some (x :: r)) = none := by rw [fin, if_neg h]
theorem fin_nil {c : Nat} : fin c (some []) = none := rfl
theorem fin_none {c : Nat} : fin c none = none := rfl
theorem cls_lk {c : Nat} (h : c = 91 ∨ c = 123) : ([("[", "]"), ("{", "}")] : List (Str × Str)).lookup (S [c]) = some (S [c + 2]) := by
  rcases h with rfl | rfl <;> decide +kernel
section
variable {P : Program} {w : World} {K : PySem.W.Frag} {mg : Str → Option Value} {base : Heap}
def cEnd (f : Nat) : Con := fun ds M Φ => ∃ l i, ds = [tS l, .int (i : Nat)] ∧ i ≤ l.length ∧ l.length ≤ 600 ∧ opns (l.drop i) < f ∧ Φ (resD l (LE f (l.drop i))) M
abbrev nEnd : List Str := ["_law_text_here", "_law_spot", "_law_sign", "_law_end_here", "_law_index", "_law_behind", "_law_joint"]
theorem ok_lend (m : Nat) (F : Fx w K mg) (F1 : Fc P w K mg base "_law_number_end" [] 1 2 cNE) (F2 : ∀ j, m = j + 1 → Fc P w K mg base "_law_end" [] (j + 3) 2 (cEnd j)) : BodyOk P w K mg base "_law_end" s__law_end nEnd 2 (m + 2) (cEnd m) := by
  intro f cdv A outer s H E hr ds M Φ hl hc
  obtain ⟨l, i, rfl, hi, hlen, hop, hc⟩ := hc
  have nd : nEnd.Nodup := by decide +kernel
  have zl : (S l).length ≤ sizeLine := by rw [S_len, sizeLine_eq]; omega
  obtain ⟨m, rfl⟩ : ∃ j, m = j + 1 := ⟨m - 1, by omega⟩
  have F2 := F2 m rfl
  have one : ((1 : Nat) : Int) = 1 := rfl
  have tailp : ∀ o2 : Option D, (LE (m + 1) (l.drop i) = if 1 ≤ ((l.drop i).takeWhile letter).length ∧ ((l.drop i).takeWhile letter).length ≤ 8 then some ((l.drop i).dropWhile letter) else none) →
      WSs (bx P w K mg base nEnd "_law_end" (defScope s__law_end) f cdv A outer s H E) [some (tS l), some (.int (i : Nat)), o2, none, none, none, none] M ((defBody s__law_end).drop 4) { nx := fun _ M' => Φ .non M', rt := Lets Φ } := fun o2 hLE => by
    refine wss_cons (ws_set 3 nd (we_var 1 rfl ?_))
    refine wss_cons (ws_while PassesOwn.never (fun n ρ' M' => ∃ j : Nat, ρ' = [some (tS l), some (.int (i : Nat)), o2, some (.int (j : Nat)), none, none, none] ∧ M' = M ∧ n = l.length - j ∧ i ≤ j ∧ j ≤ l.length ∧ j + ((l.drop j).takeWhile letter).length = i + ((l.drop i).takeWhile letter).length) (l.length - i) ⟨i, rfl, rfl, rfl, Nat.le_refl _, hi, rfl⟩ ?_)
    rintro n ρ' M' ⟨j, rfl, rfl, rfl, hij, hj, hk⟩
    have done : (l.drop j).takeWhile letter = [] → WSs (bx P w K mg base nEnd "_law_end" (defScope s__law_end) f cdv A outer s H E) [some (tS l), some (.int (i : Nat)), o2, some (.int (j : Nat)), none, none, none] M' ((defBody s__law_end).drop 6) { nx := fun _ M' => Φ .non M', rt := Lets Φ } := fun e => by
      rw [e] at hk
      have hk : j = i + ((l.drop i).takeWhile letter).length := hk
      have hdw : (l.drop i).dropWhile letter = l.drop j := by rw [twdw, List.drop_drop, hk]
      rw [hLE] at hc
      refine wss_cons (ws_ret (we_if (wt_chainI (we_int (we_subI (we_var 3 rfl (we_var 1 rfl ⟨_, _, rfl, rfl, _, _, rfl, rfl, ?_⟩)))))))
      by_cases h1 : 1 ≤ ((l.drop i).takeWhile letter).length
      · rw [decide_eq_true (show (1 : Int) ≤ (j : Int) - (i : Int) by omega)]
        refine we_int ⟨_, rfl, ?_⟩
        by_cases h8 : ((l.drop i).takeWhile letter).length ≤ 8
        · rw [decide_eq_true (show (j : Int) - (i : Int) ≤ 8 by omega)]
          rw [if_pos ⟨h1, h8⟩, hdw, resD_at hj] at hc
          exact we_var 3 rfl (Lets.of hc)
        · rw [decide_eq_false (show ¬ (j : Int) - (i : Int) ≤ 8 by omega)]
          rw [if_neg fun z => h8 z.2] at hc
          exact we_non (Lets.of hc)
      · rw [decide_eq_false (show ¬ (1 : Int) ≤ (j : Int) - (i : Int) by omega)]
        rw [if_neg fun z => h1 z.1] at hc
        exact we_non (Lets.of hc)
    refine wt_ww (ww_and (wt_neS (we_slice (we_var 0 rfl (we_var 3 rfl ⟨_, rfl, we_addI (we_var 3 rfl (we_int ⟨_, _, rfl, rfl, _, rfl, _, .inr (.inr ⟨_, rfl, zl, rfl⟩), we_str ⟨_, rfl, ?_⟩⟩))⟩)))))
    rw [show ((j : Int) + 1) = (j : Int) + ((1 : Nat) : Int) from rfl, cut_ik l j 1 hj, dec_S S_nil]
    cases hd : l.drop j with
    | nil =>
      rw [show decide (([] : List Nat).take 1 = []) = true from rfl]
      exact done (by rw [hd]; rfl)
    | cons c r =>
      rw [show decide ((c :: r).take 1 = []) = false from rfl]
      obtain ⟨h1, h2, h3⟩ := drop_cons hd
      refine ww_and1 (wt_inC (we_ix (we_var 0 rfl (we_var 3 rfl ⟨_, _, rfl, .inr (.inr ⟨_, c, rfl, zl, atI_nat (j := j) h2, rfl⟩), we_str ⟨c, _, rfl, rfl, ?_⟩⟩))))
      rw [mem_letters]
      cases hf : letter c with
      | false => exact done (by rw [hd, List.takeWhile_cons, hf]; rfl)
      | true =>
        refine wss_cons (ws_set 3 nd (we_addI (we_var 3 rfl (we_int ⟨_, _, rfl, rfl, wss_nil ?_⟩))))
        rw [hd, List.takeWhile_cons, if_pos hf, List.length_cons] at hk
        exact ⟨l.length - (j + 1), by omega, j + 1, rfl, rfl, rfl, by omega, by omega, by rw [h3]; omega⟩
  refine wss_cons (ws_set 2 nd (we_slice (we_var 0 rfl (we_var 1 rfl ⟨_, rfl, we_addI (we_var 1 rfl (we_int ⟨_, _, rfl, rfl, _, rfl, _, .inr (.inr ⟨_, rfl, zl, rfl⟩), ?_⟩))⟩))))
  rw [show ((i : Int) + 1) = (i : Int) + ((1 : Nat) : Int) from rfl, cut_ik l i 1 hi]
  refine wss_cons (ws_if (wt_eqS (we_var 2 rfl (we_str ⟨_, rfl, ?_⟩))))
  rw [dec_S (y := [49]) (by decide +kernel)]
  cases hd : l.drop i with
  | nil =>
    rw [show decide (([] : List Nat).take 1 = [49]) = false from rfl]
    refine wss_nil (wss_cons (ws_if (wt_inS (we_var 2 rfl (we_txts ⟨_, _, rfl, .inl rfl, ?_⟩)))))
    rw [show decide (S (([] : List Nat).take 1) ∈ (["[", "{"] : List Str)) = false by decide +kernel]
    refine wss_nil (wss_cons (ws_if (wt_eqS (we_var 2 rfl (we_str ⟨_, rfl, ?_⟩)))))
    rw [dec_S (y := [40]) (by decide +kernel), show decide (([] : List Nat).take 1 = [40]) = false from rfl]
    refine wss_nil (tailp _ ?_)
    rw [hd, LE]
    rfl
  | cons c r =>
    rw [hd] at hop
    obtain ⟨h1, h2, h3⟩ := drop_cons hd
    have e1 : (c :: r).take 1 = [c] := rfl
    rw [e1]
    by_cases c1 : c = 49
    · subst c1
      rw [decide_eq_true rfl]
      rw [hd, LE, if_pos rfl, ← h3, resD_at h1] at hc
      exact wss_cons (ws_ret (we_addI (we_var 1 rfl (we_int ⟨_, _, rfl, rfl, Lets.of hc⟩))))
    rw [decide_eq_false (show ¬ [c] = [49] from fun z => c1 (by injection z))]
    refine wss_nil (wss_cons (ws_if (wt_inS (we_var 2 rfl (we_txts ⟨_, _, rfl, .inl rfl, ?_⟩)))))
    rw [in_opn]
    by_cases c2 : c = 91 ∨ c = 123
    · rw [decide_eq_true c2]
      have opc : opener c = true := by rcases c2 with rfl | rfl <;> rfl
      rw [hd, LE, if_neg c1, if_pos c2] at hc
      rw [opns_cons, if_pos opc] at hop
      have hd1 : l.drop (i + 1) = r := h3
      generalize hdg : r.takeWhile figure = dg at hc
      have dlen : i + 1 + dg.length ≤ l.length := by
        have h5 := tw_len figure r
        have h6 := congrArg List.length h3
        rw [List.length_drop] at h6
        rw [hdg] at h5; omega
      have hdw : r.dropWhile figure = l.drop (i + 1 + dg.length) := by rw [twdw, hdg, ← h3, List.drop_drop]
      rw [hdw] at hc
      refine wss_cons (ws_set 3 nd (we_call F1 (hr.mono (by omega)) (wa_cons (we_var 0 rfl (wa_cons (we_addI (we_var 1 rfl (we_int ⟨_, _, rfl, rfl, wa_nil ⟨rfl, l, i + 1, rfl, h1, hlen, ?_⟩⟩))))))))
      rw [hd1, hdg]
      refine wss_cons (ws_set 4 nd (we_slice (we_var 0 rfl (we_addI (we_var 1 rfl (we_int ⟨_, _, rfl, rfl, _, rfl, we_var 3 rfl ⟨_, rfl, _, .inr (.inr ⟨_, rfl, zl, rfl⟩), ?_⟩⟩))))))
      rw [show ((i : Int) + 1) = ((i + 1 : Nat) : Int) from rfl, show ((i + 1 + dg.length : Nat) : Int) = ((i + 1 : Nat) : Int) + (dg.length : Int) from by omega, cut_ik l (i + 1) dg.length h1, hd1]
      rw [show r.take dg.length = dg by rw [← hdg]; exact tktw figure r]
      rw [show ((i + 1 : Nat) : Int) + (dg.length : Int) = ((i + 1 + dg.length : Nat) : Int) from by omega]
      generalize hee : i + 1 + dg.length = ee at *
      have no : ¬ (okN dg ∧ (l.drop ee).head? = some 32) → Lets Φ .non M := fun h => by
        rw [if_neg h] at hc
        exact Lets.of hc
      have dlen2 : dg.length ≤ 600 := by omega
      refine wss_cons (ws_if (wt_ww (ww_or (wt_eqS (we_var 4 rfl (we_str ⟨_, rfl, ?_⟩))))))
      rw [dec_S S_nil]
      cases hdd : dg with
      | nil =>
        rw [decide_eq_true rfl]
        rw [← hdd]
        refine wss_cons (ws_ret (we_non (no fun z => ?_)))
        obtain ⟨n, e, _⟩ := z.1
        exact TL.numL_ne n (e.symm.trans hdd)
      | cons x d2 =>
        rw [decide_eq_false (by simp)]
        refine ww_or (wt_eqS (we_ix (we_var 4 rfl (we_int ⟨0, _, rfl, .inr (.inr ⟨_, x, rfl, by rw [S_len, ← hdd, sizeLine_eq]; omega, atI_nat (j := 0) rfl, rfl⟩), we_str ⟨_, rfl, ?_⟩⟩))))
        rw [show (⟨#[x]⟩ : Str) = S [x] from rfl, dec_S (y := [48]) (by decide +kernel), ← hdd]
        by_cases x0 : x = 48
        · rw [decide_eq_true (by rw [x0])]
          refine wss_cons (ws_ret (we_non (no fun z => ?_)))
          obtain ⟨n, e, n2, _⟩ := z.1
          obtain ⟨y, q, e2, y48⟩ := numL_head (n := n) (by omega)
          rw [hdd, e2] at e
          injection e with e _
          exact y48 (e.symm.trans x0)
        rw [decide_eq_false (show ¬ [x] = [48] from fun z => x0 (by injection z))]
        obtain ⟨n, hn⟩ := canon dg.length (Nat.le_refl _) (by rw [hdd]; simp) (fun y hy => by
          have := tw_mem (p := figure) (l := r) (by rw [hdg]; exact hy)
          unfold figure at this
          simpa using this) (.inr (by rw [hdd]; intro z; injection z with z; exact x0 z))
        refine ww_or (wt_not (wt_chainI (we_int (we_intS (F.bn _ (by decide +kernel)) (we_var 4 rfl ⟨_, _, rfl, by rw [hn]; exact num_int_g n (by rw [← hn]; exact dlen2), by rw [S_len]; omega, _, _, rfl, rfl, ?_⟩)))))
        by_cases n2 : 2 ≤ n
        case neg =>
          rw [decide_eq_false (show ¬ (2 : Int) ≤ (n : Int) by omega)]
          refine wss_cons (ws_ret (we_non (no fun z => ?_)))
          obtain ⟨k, e, k2, _⟩ := z.1
          have := TL.numL_inj (hn.symm.trans e)
          omega
        rw [decide_eq_true (show (2 : Int) ≤ (n : Int) by omega)]
        refine we_powI (we_int (we_int ⟨_, _, rfl, rfl, ⟨by decide, by decide, by decide⟩, _, rfl, ?_⟩))
        have e30 : ((10 : Int) ^ (30 : Int).toNat) = ((10 ^ 30 : Nat) : Int) := by decide +kernel
        rw [e30]
        by_cases n30 : n ≤ 10 ^ 30
        case neg =>
          rw [decide_eq_false (fun z => n30 (Int.ofNat_le.mp z))]
          refine wss_cons (ws_ret (we_non (no fun z => ?_)))
          obtain ⟨k, e, _, k30⟩ := z.1
          have := TL.numL_inj (hn.symm.trans e)
          exact n30 (by rw [this]; exact k30)
        rw [decide_eq_true (Int.ofNat_le.mpr n30)]
        have hok : okN dg := ⟨n, hn, n2, n30⟩
        refine ww_or1 (wt_neS (we_slice (we_var 0 rfl (we_var 3 rfl ⟨_, rfl, we_addI (we_var 3 rfl (we_int ⟨_, _, rfl, rfl, _, rfl, _, .inr (.inr ⟨_, rfl, zl, rfl⟩), we_str ⟨_, rfl, ?_⟩⟩))⟩))))
        rw [show ((ee : Int) + 1) = (ee : Int) + ((1 : Nat) : Int) from rfl, cut_ik l ee 1 dlen, dec_S (y := [32]) (by decide +kernel)]
        cases hd4 : l.drop ee with
        | nil =>
          rw [show decide (([] : List Nat).take 1 = [32]) = false from rfl]
          exact wss_cons (ws_ret (we_non (no fun z => by rw [hd4] at z; cases z.2)))
        | cons y r4 =>
          rw [show (y :: r4).take 1 = [y] from rfl]
          by_cases y32 : y = 32
          case neg =>
            rw [decide_eq_false (show ¬ [y] = [32] from fun z => y32 (by injection z))]
            exact wss_cons (ws_ret (we_non (no fun z => y32 (by have := z.2; rw [hd4] at this; injection this))))
          subst y32
          rw [decide_eq_true rfl]
          obtain ⟨g1, g2, g3⟩ := drop_cons hd4
          rw [if_pos ⟨hok, by rw [hd4]; rfl⟩, hd4, List.drop_succ_cons, List.drop_zero, ← g3] at hc
          have hop2 : opns (l.drop (ee + 1)) < m := by
            have := opns_drop l (i + 1) (ee + 1) (by omega)
            rw [hd1] at this
            omega
          refine wss_nil (wss_cons (ws_set 5 nd (we_call F2 (hr.mono (by omega)) (wa_cons (we_var 0 rfl (wa_cons (we_addI (we_var 3 rfl (we_int ⟨_, _, rfl, rfl, wa_nil ⟨rfl, l, ee + 1, rfl, g1, hlen, hop2, ?_⟩⟩)))))))))
          cases hL : LE m (l.drop (ee + 1)) with
          | none =>
            rw [hL] at hc
            refine wss_cons (ws_ret (we_if (wt_ww (ww_or (wt_isN (we_var 5 rfl ?_))))))
            exact we_non (Lets.of hc)
          | some r5 =>
            obtain ⟨j, j1, j2, rfl⟩ := LE_suf g1 hL
            rw [hL] at hc
            rw [resD_at j2]
            refine wss_cons (ws_ret (we_if (wt_ww (ww_or (wt_isN (we_var 5 rfl ?_))))))
            refine ww_or1 (wt_neS (we_slice (we_var 0 rfl (we_var 5 rfl ⟨_, rfl, we_addI (we_var 5 rfl (we_int ⟨_, _, rfl, rfl, _, rfl, _, .inr (.inr ⟨_, rfl, zl, rfl⟩), we_disp2 (hu_of hr) (by decide +kernel) (we_var 2 rfl ⟨_, _, rfl, cls_lk c2, _, rfl, ?_⟩)⟩))⟩))))
            rw [show ((j : Int) + 1) = (j : Int) + ((1 : Nat) : Int) from rfl, cut_ik l j 1 j2, dec_S (y := [c + 2]) rfl]
            cases hd5 : l.drop j with
            | nil =>
              rw [show decide (([] : List Nat).take 1 = [c + 2]) = false from rfl]
              rw [hd5, fin_nil] at hc
              exact we_non (Lets.of hc)
            | cons z r6 =>
              rw [hd5] at hc
              rw [show (z :: r6).take 1 = [z] from rfl]
              by_cases hz : z = c + 2
              · subst hz
                obtain ⟨k1, k2, k3⟩ := drop_cons hd5
                rw [decide_eq_true rfl]
                rw [fin_eq, ← k3, resD_at k1] at hc
                exact we_addI (we_var 5 rfl (we_int ⟨_, _, rfl, rfl, Lets.of hc⟩))
              · rw [decide_eq_false (show ¬ [z] = [c + 2] from fun q => hz (by injection q))]
                rw [fin_not hz] at hc
                exact we_non (Lets.of hc)
    rw [decide_eq_false c2]
    refine wss_nil (wss_cons (ws_if (wt_eqS (we_var 2 rfl (we_str ⟨_, rfl, ?_⟩)))))
    rw [dec_S (y := [40]) (by decide +kernel)]
    by_cases c3 : c = 40
    · subst c3
      rw [decide_eq_true rfl]
      rw [hd, LE, if_neg c1, if_neg c2, if_pos rfl] at hc
      rw [opns_cons, if_pos (by decide)] at hop
      have hd1 : l.drop (i + 1) = r := h3
      refine wss_cons (ws_set 5 nd (we_call F2 (hr.mono (by omega)) (wa_cons (we_var 0 rfl (wa_cons (we_addI (we_var 1 rfl (we_int ⟨_, _, rfl, rfl, wa_nil ⟨rfl, l, i + 1, rfl, h1, hlen, by rw [hd1]; omega, ?_⟩⟩))))))))
      rw [hd1]
      cases hL : LE m r with
      | none =>
        rw [hL] at hc
        refine wss_cons (ws_set 6 nd (we_if (wt_isN (we_var 5 rfl ?_))))
        refine we_str ?_
        refine wss_cons (ws_if (wt_outS (we_var 6 rfl (we_txts ⟨_, _, rfl, .inl rfl, ?_⟩))))
        rw [S_nil, in_sep, decide_eq_false (show ¬ (([] : List Nat) = sep false ∨ [] = sep true) by rintro (z | z) <;> cases z)]
        exact wss_cons (ws_ret (we_non (Lets.of hc)))
      | some r1 =>
        rw [hL] at hc
        rw [← hd1] at hL
        obtain ⟨j, j1, j2, rfl⟩ := LE_suf h1 hL
        rw [resD_at j2]
        refine wss_cons (ws_set 6 nd (we_if (wt_isN (we_var 5 rfl ?_))))
        refine we_slice (we_var 0 rfl (we_var 5 rfl ⟨_, rfl, we_addI (we_var 5 rfl (we_int ⟨_, _, rfl, rfl, _, rfl, _, .inr (.inr ⟨_, rfl, zl, rfl⟩), ?_⟩))⟩))
        rw [show ((j : Int) + 3) = (j : Int) + ((3 : Nat) : Int) from rfl, cut_ik l j 3 j2]
        dsimp only at hc
        generalize hJ : (l.drop j).take 3 = J at hc ⊢
        refine wss_cons (ws_if (wt_outS (we_var 6 rfl (we_txts ⟨_, _, rfl, .inl rfl, ?_⟩))))
        rw [in_sep]
        by_cases hs : J = sep false ∨ J = sep true
        case neg =>
          rw [decide_eq_false hs]
          rw [if_neg hs] at hc
          exact wss_cons (ws_ret (we_non (Lets.of hc)))
        rw [decide_eq_true hs]
        rw [if_pos hs] at hc
        have J3 : J.length = 3 := by rcases hs with rfl | rfl <;> rfl
        have o1 : opns (l.drop j) < m := by
          have := opns_drop l (i + 1) j (by omega)
          rw [hd1] at this
          omega
        generalize hT : LL (LE m) J ((l.drop j).length + 1) (l.drop j) = T at hc
        refine wss_nil (wss_cons (ws_while PassesOwn.never (fun n ρ' M' => ∃ o : Option (List Nat), ρ' = [some (tS l), some (.int (i : Nat)), some (tS [40]), none, none, some (resD l o), some (tS J)] ∧ M' = M ∧
          ((o = none ∧ T = none ∧ n = 0) ∨ ∃ k g, o = some (l.drop k) ∧ j ≤ k ∧ k ≤ l.length ∧ (l.drop k).length < g ∧ LL (LE m) J g (l.drop k) = T ∧ n = (l.drop k).length + 1)) ((l.drop j).length + 1) ⟨some (l.drop j), by rw [resD_at j2]; rfl, rfl, .inr ⟨j, _, rfl, Nat.le_refl _, j2, Nat.lt_succ_self _, hT, rfl⟩⟩ ?_))
        rintro n ρ' M' ⟨o, rfl, rfl, ho⟩
        rcases ho with ⟨rfl, rfl, rfl⟩ | ⟨k, g, rfl, jk, kl, hg, hLL, rfl⟩
        · refine wt_ww (ww_and (wt_notN (we_var 5 rfl ?_)))
          refine wss_cons (ws_ret (we_if (wt_ww (ww_or (wt_isN (we_var 5 rfl ?_))))))
          exact we_non (Lets.of hc)
        · rw [resD_at kl]
          refine wt_ww (ww_and (wt_notN (we_var 5 rfl ?_)))
          refine ww_and1 (wt_eqS (we_slice (we_var 0 rfl (we_var 5 rfl ⟨_, rfl, we_addI (we_var 5 rfl (we_int ⟨_, _, rfl, rfl, _, rfl, _, .inr (.inr ⟨_, rfl, zl, rfl⟩), we_var 6 rfl ⟨_, rfl, ?_⟩⟩))⟩))))
          rw [show ((k : Int) + 3) = (k : Int) + ((3 : Nat) : Int) from rfl, cut_ik l k 3 kl, dec_S (y := J) rfl]
          obtain ⟨g, rfl⟩ : ∃ g', g = g' + 1 := ⟨g - 1, by omega⟩
          rw [LL] at hLL
          by_cases hk : (l.drop k).take 3 = J
          · rw [decide_eq_true hk]
            rw [if_pos hk, List.drop_drop] at hLL
            have k3 : k + 3 ≤ l.length := by
              have := congrArg List.length hk
              rw [List.length_take, List.length_drop, J3] at this
              omega
            refine wss_cons (ws_set 5 nd (we_call F2 (hr.mono (by omega)) (wa_cons (we_var 0 rfl (wa_cons (we_addI (we_var 5 rfl (we_int ⟨_, _, rfl, rfl, wa_nil ⟨rfl, l, k + 3, rfl, k3, hlen, by have := opns_drop l j (k + 3) (by omega); omega, ?_⟩⟩))))))))
            cases hE : LE m (l.drop (k + 3)) with
            | none =>
              rw [hE] at hLL
              exact wss_nil ⟨0, by omega, none, rfl, rfl, .inl ⟨rfl, hLL.symm, rfl⟩⟩
            | some r2 =>
              obtain ⟨k2, l1, l2, rfl⟩ := LE_suf k3 hE
              rw [hE] at hLL
              refine wss_nil ⟨(l.drop k2).length + 1, ?_, some (l.drop k2), rfl, rfl, .inr ⟨k2, g, rfl, by omega, l2, ?_, hLL, rfl⟩⟩
              · rw [List.length_drop, List.length_drop]; omega
              · rw [List.length_drop] at hg ⊢; omega
          · rw [decide_eq_false hk]
            rw [if_neg hk] at hLL
            subst hLL
            refine wss_cons (ws_ret (we_if (wt_ww (ww_or (wt_isN (we_var 5 rfl ?_))))))
            refine ww_or1 (wt_neS (we_slice (we_var 0 rfl (we_var 5 rfl ⟨_, rfl, we_addI (we_var 5 rfl (we_int ⟨_, _, rfl, rfl, _, rfl, _, .inr (.inr ⟨_, rfl, zl, rfl⟩), we_str ⟨_, rfl, ?_⟩⟩))⟩))))
            rw [show ((k : Int) + 1) = (k : Int) + ((1 : Nat) : Int) from rfl, cut_ik l k 1 kl, dec_S (y := [41]) (by decide +kernel)]
            cases hd5 : l.drop k with
            | nil =>
              rw [show decide (([] : List Nat).take 1 = [41]) = false from rfl]
              rw [hd5, fin_nil] at hc
              exact we_non (Lets.of hc)
            | cons z r6 =>
              rw [hd5] at hc
              rw [show (z :: r6).take 1 = [z] from rfl]
              by_cases hz : z = 41
              · subst hz
                obtain ⟨k1, k2, k3⟩ := drop_cons hd5
                rw [decide_eq_true rfl]
                rw [fin_eq, ← k3, resD_at k1] at hc
                exact we_addI (we_var 5 rfl (we_int ⟨_, _, rfl, rfl, Lets.of hc⟩))
              · rw [decide_eq_false (show ¬ [z] = [41] from fun q => hz (by injection q))]
                rw [fin_not hz] at hc
                exact we_non (Lets.of hc)
    rw [decide_eq_false (show ¬ [c] = [40] from fun z => c3 (by injection z))]
    refine wss_nil (tailp _ ?_)
    rw [hd, LE, if_neg c1, if_neg c2, if_neg c3]
end
end W
/-! DL69: len(set(t)), t a tuple of unlike ints, of unlike tuples of ints. -/
namespace DL
open PySem PySem.Spec PyProof.Rows L2
section
variable {P : Program} {w : World} {A : Around} {E : Value → Shared → Prop} {s : Shared}
abbrev hp0 (w : World) (s : Shared) : Heap := s.heap.push (emptySet w)
theorem hp0_new : (hp0 w s).get? s.heap.objs.size = some (emptySet w) := Heap.get?_push_size _ rfl
theorem hp0_keep {b : Addr} {o : Obj} (h : s.heap.get? b = some o) : (hp0 w s).get? b = some o := Heap.get?_push_of_some _ h
theorem hp0_size : (hp0 w s).objs.size = s.heap.objs.size + 1 := Heap.size_push ..
theorem heap_none {h : Heap} {b : Addr} (hb : h.objs.size ≤ b) : h.get? b = none := by
  rcases e : h.get? b with _ | o
  · rfl
  · exact absurd (Heap.lt_size e) (Nat.not_lt.mpr hb)
theorem ref_at {items : Array Value} {ks : List (Addr × List Int)} (hit : items.toList = ks.map fun p => Value.ref p.1) (i : Nat) (v : Value) (hv : items[i]? = some v) : ∃ p, ks[i]? = some p ∧ v = .ref p.1 := by
  rw [← Array.getElem?_toList, hit, List.getElem?_map] at hv
  obtain ⟨p, h1, h2⟩ := Option.map_eq_some_iff.mp hv
  exact ⟨p, h1, h2.symm⟩
/-- what stands there when the set has been made -/
def MadeT (P : Program) (w : World) (s : Shared) (ks : List (Addr × List Int)) (s2 : Shared) : Prop :=
  ∃ h' tk L es ep t, s2 = { s with heap := h', toks := tk } ∧ SetTR P w h' s.heap.objs.size L es ep t ∧ Got ks ks.length L ∧ ∀ b o, s.heap.get? b = some o → h'.get? b = some o
theorem setOfTups {l : Addr} {items : Array Value} (ks : List (Addr × List Int)) {Q : Value → Shared → Prop} (hh : A.handled = none) (hl : s.heap.IsTuple l items) (hit : items.toList = ks.map fun p => Value.ref p.1)
    (hk : ∀ p ∈ ks, IsT P w s.heap p.2 p.1) (hf : ks.length < 64) (hu : A.units + 3 < cLine) (h : ∀ s2, MadeT P w s ks s2 → Q (.ref s.heap.objs.size) s2) :
    wpAny (model P w) A (call (.type "set") [.ref l]) Q E s := by
  have hisz : items.size = ks.length := by
    rw [← Array.length_toList, hit, List.length_map]
  obtain ⟨c0, t0, m0⟩ := F.called_set.mro
  have m1 := F.called_set.made
  have m2 := F.called_set.sub
  refine wpAny_call (codeAny_of_tree (show wpAny _ _ (callAny (.type "set") _) _ _ _ from ?_))
  refine wpAny_pure ⟨Code.quiet_builtin _ (by decide +kernel), codeAny_builtin F.entry_type_call ?_⟩
  rw [Around.under_plain (weight_type_call_type "set" [.ref l] []) rfl]
  have m3 := F.called_set.notType
  have m4 := F.called_set.canCreate
  have m5 := PySem.F.typeCall_set_1 (.ref l)
  repeat (any_goals (first | assumption | wp_step))
  refine codeAny_mono (newSet1 (.ref l) (E := E) (Q1 := fun obj s1 => obj = .ref s.heap.objs.size ∧ s1 = { s with heap := hp0 w s }) ⟨rfl, rfl⟩) fun r s1 hr => ?_
  cases r with
  | error e => exact hr
  | ok fl =>
    cases fl with
    | ret obj =>
      obtain ⟨rfl, rfl⟩ := hr
      have hT : Shared.TypeIs { s with heap := hp0 w s } (.ref s.heap.objs.size) "set" := ⟨_, hp0_new, rfl⟩
      have i1 := F.called_set.init.lookup
      have i2 := F.called_set.init.bind (.ref s.heap.objs.size)
      repeat (any_goals (first | assumption | wp_step))
      refine codeAny_mono (codeAny_call_builtin (R := wants (fun r s2 => r = .none ∧ MadeT P w s ks s2) E) F.called_set.init.plain F.entry_set_init (PySem.check_set_init_1 hT ?_)) fun r2 s2 hr2 => ?_
      · obtain ⟨ol, hol, hcl, nl, hdl⟩ := hl
        obtain ⟨ocls, odict, odata, oslots⟩ := ol
        simp only at hcl hdl
        subst hcl hdl
        have hol' := hp0_keep (w := w) hol
        have j1 := PySem.F.sub_tuple_set
        have j2 := PySem.F.sub_tuple_frozenset
        have j3 : (Value.type "tuple" == Value.type "dict") = false := by decide
        have hl1 : (hp0 w s).IsTuple l items := ⟨_, hol', rfl, nl, rfl⟩
        unfold Builtin.«set.__init__» noKeywords Builtin.Frozenset.updateFrom
        generalize hPI : pyIter = PI
        wp_walk
        subst hPI
        refine wpAny_pyIter_tuple hl1 (wpAny_bind (wpAny_runValue ?_))
        have hlS : l < s.heap.objs.size := Heap.lt_size hol
        have hlI : l ≠ (hp0 w s).objs.size := by
          rw [hp0_size]; exact Nat.ne_of_lt (Nat.lt_succ_of_lt hlS)
        have out : s.heap.objs.size ∉ [(hp0 w s).objs.size, l] := by
          rw [hp0_size]
          intro hm
          rcases List.mem_cons.mp hm with e | hm
          · exact absurd e (Nat.ne_of_lt (Nat.lt_succ_self _))
          · exact absurd (List.mem_singleton.mp hm) (Nat.ne_of_gt hlS)
        have h3 : A.in1.in1.in1.handled = none := by simp [hh]
        have kp : ∀ b o, s.heap.get? b = some o → ((hp0 w s).push { cls := .type "tuple_iterator", data := .fields #[.ref l, .int 0 0] }).get? b = some o := fun b o e => Heap.get?_push_of_some _ (hp0_keep e)
        refine set_update_tups ((Walks.tuple h3 _ l hlI items).toS) s.heap.objs.size out ks hisz hf (ref_at hit) s.heap hk (heap_none (Nat.le_refl _))
          (fun b hb => heap_none (by rw [List.mem_singleton.mp hb, hp0_size]; exact Nat.le_succ _)) hu (items.size - 0) 0 _ (by omega) (Nat.zero_le _) ⟨⟨_, Heap.get?_push_size _ rfl, rfl, rfl⟩, hl1.push _⟩ kp
          ⟨[], #[], 0, _, setTR_fresh (Heap.get?_push_of_some _ hp0_new), Got.zero ks⟩ (fun s' L es ep t hm hS' g' kp2 => ?_)
        obtain ⟨h', g2, d', tk', os'⟩ := s'
        obtain ⟨eg, ed, eo⟩ : g2 = s.gens ∧ d' = s.drawn ∧ os' = s.os := ⟨hm.gens, hm.drawn, hm.os⟩
        subst eg ed eo
        rw [hisz] at g'
        exact wpAny_pure (show wpAny _ _ (ret Value.none) _ _ _ from wpAny_pure ⟨rfl, h', tk', L, es, ep, t, rfl, hS', g', kp2⟩)
      · cases r2 with
        | error e => exact hr2
        | ok fl2 =>
          cases fl2 with
          | ret r =>
            obtain ⟨rfl, hm⟩ := hr2
            repeat (any_goals (first | assumption | wp_step))
            exact h _ hm
          | _ => exact hr2.elim
    | _ => exact hr.elim
end
/-! ### how many -/
theorem nd_leG {α : Type} [DecidableEq α] : ∀ (l m : List α), l.Nodup → (∀ x ∈ l, x ∈ m) → l.length ≤ m.length
  | [], _, _, _ => Nat.zero_le _
  | x :: l, m, nd, sub => by
    obtain ⟨hx, nd'⟩ := List.nodup_cons.mp nd
    have hm := sub x List.mem_cons_self
    have le := nd_leG l (m.erase x) nd' fun y hy => (List.mem_erase_of_ne fun e => hx (by rw [← e]; exact hy)).mpr (sub y (List.mem_cons_of_mem _ hy))
    have := List.length_erase_of_mem hm
    have := List.length_pos_of_mem hm
    simp only [List.length_cons]
    omega
theorem got_len {ks L : List (Addr × List Int)} (g : Got ks ks.length L) (nd : (ks.map (·.2)).Nodup) : L.length = ks.length := by
  refine Nat.le_antisymm g.len ?_
  have := nd_leG (ks.map (·.2)) (L.map (·.2)) nd fun x hx => by
    obtain ⟨p, hp, rfl⟩ := List.mem_map.mp hx
    exact g.all p (by rw [List.take_length]; exact hp)
  rwa [List.length_map, List.length_map] at this
/-- a set of which nothing but its length is known -/
def LenO (a : Addr) (n : Nat) : HO := .ext fun h => ∃ o es ep t, h.get? a = some o ∧ o.ExactSet ∧ o.data = .set es ep t ∧ t.fits es.size = true ∧ es.size = n
theorem lenO_new {P : Program} {w : World} {H : Hp} {h : Heap} {a : Addr} {n : Nat} (R : ∃ o es ep t, h.get? a = some o ∧ o.ExactSet ∧ o.data = .set es ep t ∧ t.fits es.size = true ∧ es.size = n) : ObjOk P w H h a (LenO a n) := by
  have ⟨o, es, ep, t, ho, r⟩ := R
  exact ⟨R, ⟨o, ho⟩, fun h1 h2 p k => by
    have ⟨o', es', ep', t', ho', r'⟩ := p
    exact ⟨o', es', ep', t', k o' ho', r'⟩⟩
/-- a tuple of n unlike ints, of n unlike tuples of ints -/
def Unlike (K : PySem.W.Frag) (H : Hp) (l : Addr) (n : Nat) : Prop := n < 64 ∧ ((∃ ns : List Int, SqT K H l (ns.map V.int) ∧ ns.Nodup ∧ ns.length = n) ∨
  ∃ ks : List (Addr × List Int), SqT K H l (ks.map fun p => V.ref p.1) ∧ (∀ p ∈ ks, SqT K H p.1 (p.2.map V.int)) ∧ (ks.map (·.2)).Nodup ∧ ks.length = n)
section
variable {X : Cx}
theorem cr_setU (hc : X.calm = true) (hu : X.A.units + 64 < cLine) : CallR X (.type "set") (fun xs H Q => ∃ l n, xs = [V.ref l] ∧ Unlike X.K H l n ∧ ∀ p, H p = none → Q (.ref p) (upd H p (LenO p n))) := by
  intro pins s σ H xs us Q I r h
  obtain ⟨l, n, rfl, ⟨n64, hor⟩, k⟩ := h
  rw [Vals.ref1 r]
  have hd := I.ok.hd hc
  have fr : H s.heap.objs.size = none := I.hok.fresh (Nat.le_refl _)
  rcases hor with ⟨ns, hq, nd, rfl⟩ | ⟨ks, hq, hk, nd, rfl⟩
  · obtain ⟨its, rv, pt, hz⟩ := I.tuple hq
    refine call_set_tupI ns hd (show s.heap.IsTuple l its.toArray from pt) (by simpa using rv.ints) (by unfold scanBound; omega) fun h' tk c R1 hcn kp => ?_
    obtain ⟨o, es, ep, t, ho, hex, hdt, g, nd2, hm2, hb, hf, hn2, hr, hl2⟩ := R1
    have hlen : es.size = ns.length := by
      refine Nat.le_antisymm (by omega) ?_
      have := nd_leG ns (es.toList.map keyOf) nd fun x hx => (hm2 x).mp (decide_eq_true hx)
      rwa [List.length_map, Array.length_toList] at this
    exact ⟨.ref _, _, I.laid (t' := tk) kp (Nat.le_refl _) (lenO_new ⟨o, es, ep, t, ho, hex, hdt, hf, hlen⟩), rfl, k _ fr⟩
  · obtain ⟨its, rv, pt, hz⟩ := I.tuple hq
    refine setOfTups ks hd (show s.heap.IsTuple l its.toArray from pt) (by simpa using refs_of_vals rv) (fun p hp => I.isT (hk p hp)) n64 (by omega) fun s2 hs2 => ?_
    obtain ⟨h', tk, L, es, ep, t, rfl, R, g, kp⟩ := hs2
    obtain ⟨o, ho, hex, hdt⟩ := R.ob
    exact ⟨.ref _, _, I.laid (t' := tk) kp (Nat.le_refl _) (lenO_new ⟨o, es, ep, t, ho, hex, hdt, R.fits (s := { s with heap := h' }), R.size (s := { s with heap := h' }) |>.trans (got_len g nd)⟩), rfl, k _ fr⟩
theorem cr_lenU : CallR X (.builtin "len") (fun xs H Q => ∃ a n, xs = [V.ref a] ∧ H a = some (LenO a n) ∧ n < 64 ∧ Q (.int n) H) := by
  intro pins s σ H xs us Q I r h
  obtain ⟨a, n, rfl, ha, n64, k⟩ := h
  rw [Vals.ref1 r]
  obtain ⟨o, es, ep, t, ho, hex, hdt, hf, rfl⟩ := (I.hok a _ ha).1
  exact call_len_set ho hex hdt hf (by omega) ⟨.int es.size, H, I.tok _, ⟨_, rfl⟩, k⟩
end
section
variable {X : Cx} {ρ : Rho} {M : Mp} {Φ : D → Mp → Prop} {e : Expr} {pos p p2 apos : Pos}
/-- .. as data -/
def UnlD (d : D) (n : Nat) : Prop := n < 64 ∧ ((∃ ns : List Int, d = .tup (ns.map D.int) ∧ ns.Nodup ∧ ns.length = n) ∨ ∃ kss : List (List Int), d = .tup (kss.map fun k => .tup (k.map D.int)) ∧ kss.Nodup ∧ kss.length = n)
theorem reps_tups {K : PySem.W.Frag} {M : Mp} {Z : Zn} {H : Hp} : ∀ (kss : List (List Int)) (vs : List V), Reps K M Z H vs (kss.map fun k => D.tup (k.map D.int)) → ∃ ks : List (Addr × List Int), vs = ks.map (fun p => V.ref p.1) ∧ ks.map (·.2) = kss ∧ ∀ p ∈ ks, SqT K H p.1 (p.2.map V.int)
  | [], _, .nil => ⟨[], rfl, rfl, fun p hp => (by cases hp)⟩
  | k :: kss, _, .cons r t => by
    obtain ⟨ks, rfl, rfl, h⟩ := reps_tups kss _ t
    obtain ⟨a, us, rfl, hq, rs⟩ := r.asTup
    rw [rs.ints] at hq
    exact ⟨(a, k) :: ks, rfl, rfl, fun p hp => by
      rcases List.mem_cons.mp hp with rfl | hp
      · exact hq
      · exact h p hp⟩
theorem we_lenSet (hm : X.mg "len" = none) (hm2 : X.mg "set" = none) (hu : X.A.units + 64 < cLine) (h : WE X ρ M e fun d M1 => ∃ n : Nat, UnlD d n ∧ Φ (.int n) M1) (hc : X.calm = true := by rfl) (hg : Gl X "len" := by rfl) (hg2 : Gl X "set" := by rfl)
    (he : starEach [.Call (.Name "set" p) [e] [] apos] X.env = (false, eval (.Call (.Name "set" p) [e] [] apos) X.env) :: starEach [] X.env := by rfl) (hpl : (backTo pos (starEach [] X.env)).any (·.1) = false := by rfl)
    (he2 : starEach [e] X.env = (false, eval e X.env) :: starEach [] X.env := by rfl) (hpl2 : (backTo apos (starEach [] X.env)).any (·.1) = false := by rfl) : WE X ρ M (.Call (.Name "len" p2) [.Call (.Name "set" p) [e] [] apos] [] pos) Φ := .mk fun σ H Q en w k => by
  have made := pe_callTy (cr_setU hc hu) hg2 hm2 PyProof.Rows.boot_set (pa_sem (es := [e])) (by decide) (by decide) he2 hpl2 (p := p)
  refine eOf (pe_callB cr_lenU hg hm PySem.boot_len (pa_cons made pa_nil he) (by decide) (by decide) he hpl) ?_
  refine (wa_cons (ΦA := fun ds M1 => ∃ d, ds = [d] ∧ ∃ n : Nat, UnlD d n ∧ Φ (.int n) M1) (h.imp fun d M1 h => wa_nil ⟨d, rfl, h⟩) he2).run σ H _ en w fun vs ds H1 M1 e1 w1 r1 hz => ?_
  obtain ⟨d, rfl, n, ⟨n64, hor⟩, hz⟩ := hz
  obtain ⟨v, rfl, r⟩ := r1.one
  have un : ∃ l, Unlike X.K H1 l n ∧ v = V.ref l := by
    rcases hor with ⟨ns, rfl, nd, hn⟩ | ⟨kss, rfl, nd, hn⟩
    · obtain ⟨l, us, rfl, hq, rs⟩ := r.asTup
      rw [rs.ints] at hq
      exact ⟨l, ⟨n64, .inl ⟨ns, hq, nd, hn⟩⟩, rfl⟩
    · obtain ⟨l, us, rfl, hq, rs⟩ := r.asTup
      obtain ⟨ks, rfl, rfl, hks⟩ := reps_tups kss us rs
      exact ⟨l, ⟨n64, .inr ⟨ks, hq, hks, nd, by rw [← hn, List.length_map]⟩⟩, rfl⟩
  obtain ⟨l, hl, rfl⟩ := un
  refine ⟨l, n, rfl, hl, fun t ht => ?_⟩
  have x1 : Ext M1 _ H1 M1 (upd H1 t (LenO t n)) := Ext.new w1 ht
  have w2 := w1.new (o := LenO t n) ht
  exact ⟨t, n, rfl, upd_same, n64, (k.step (e1.trans x1)).now w2 (.int _) hz⟩
end
end DL
/-! DL20: sorted(set(a list of ints)); two comparisons in a row; `is not True`; a list that is changed no more. -/
namespace DL
open PySem PySem.Spec PyProof.Rows L2
abbrev eSet (w : World) : Obj := { cls := .type "set", dict := none, data := .set #[] 0 (.fresh 0 0 (!w.params.followText "set-order")) }
section
variable {P : Program} {w : World} {A : Around} {E : Value → Shared → Prop} {s : Shared}
theorem set_of_list {l : Addr} {its : Array Value} (ns : List Int) {Q : Value → Shared → Prop} (hh : A.handled = none) (hl : s.heap.IsList l its) (hit : IntsAre its.toList ns) (hb : ns.length + 1 < scanBound)
    (hQ : ∀ (h' : Heap) (tk c : Nat), SetR w h' s.heap.objs.size (fun j => decide (j ∈ ns)) c → c ≤ ns.length → (∀ b o, s.heap.get? b = some o → h'.get? b = some o) → Q (.ref s.heap.objs.size) { s with heap := h', toks := tk }) : wpAny (model P w) A (call (.type "set") [.ref l]) Q E s := by
  have size : its.size = ns.length := by have q := IntsAre.length hit; rwa [Array.length_toList] at q
  obtain ⟨c, tl, hmro⟩ := F.called_set.mro
  have f1 := F.called_set.made
  have f2 := F.called_set.sub
  have f3 := F.called_set.notType
  have f4 := F.called_set.canCreate
  have f5 := F.typeCall_set_1 (.ref l)
  refine wpAny_call (codeAny_of_tree (show wpAny _ _ (callAny (.type "set") _) _ _ _ from wpAny_pure ⟨Code.quiet_builtin _ (by decide +kernel), codeAny_builtin F.entry_type_call ?_⟩))
  rw [Around.under_plain (weight_type_call_type "set" [.ref l] []) rfl]
  repeat any_goals first | assumption | wp_step
  refine codeAny_mono (code_set_led1 (.ref l) (E := E) (Q₁ := fun x s1 => x = .ref s.heap.objs.size ∧ s1 = { s with heap := s.heap.push (eSet w) }) ⟨rfl, rfl⟩) fun r s1 hr => ?_
  cases r with
  | error e => exact hr
  | ok fl =>
    cases fl with
    | ret obj =>
      obtain ⟨rfl, rfl⟩ := hr
      have at0 : (s.heap.push (eSet w)).get? s.heap.objs.size = some (eSet w) := Heap.get?_push_size _ rfl
      have ty0 : Shared.TypeIs { s with heap := s.heap.push (eSet w) } (.ref s.heap.objs.size) "set" := ⟨_, at0, rfl⟩
      have g1 := F.called_set.init.lookup
      have g2 := F.called_set.init.bind (.ref s.heap.objs.size)
      repeat any_goals first | assumption | wp_step
      refine codeAny_mono (codeAny_call_builtin (R := wants (fun r s2 => r = .none ∧ ∃ h' tk c, s2 = { s with heap := h', toks := tk } ∧ SetR w h' s.heap.objs.size (fun j => decide (j ∈ ns)) c ∧ c ≤ ns.length ∧ (∀ b o, s.heap.get? b = some o → h'.get? b = some o)) E) F.called_set.init.plain F.entry_set_init (check_set_init_1 ty0 ?_)) fun r2 s2 hr2 => ?_
      · obtain ⟨ol, hol, hcl, nl, hdl⟩ := hl
        obtain ⟨c1, c2, c3, c4⟩ := ol
        simp only at hcl hdl
        subst hcl hdl
        have hol1 : (s.heap.push (eSet w)).get? l = some { cls := .type "list", dict := c2, data := .seq its nl, slots := c4 } := Heap.get?_push_of_some _ hol
        have k1 := F.sub_list_set
        have k2 := F.sub_list_frozenset
        have k3 : (Value.type "list" == Value.type "dict") = false := by decide
        have hl1 : (s.heap.push (eSet w)).IsList l its := ⟨_, hol1, rfl, nl, rfl⟩
        unfold Builtin.«set.__init__» noKeywords Builtin.Frozenset.updateFrom
        generalize hPI : pyIter = PI
        wp_walk
        subst hPI
        refine wpAny_pyIter_list hl1 (wpAny_bind (wpAny_runValue ?_))
        have ll : l < s.heap.objs.size := Heap.lt_size hol
        have hh3 : A.in1.in1.in1.handled = none := by simp [hh]
        have z1 : (s.heap.push (eSet w)).objs.size = s.heap.objs.size + 1 := Heap.size_push ..
        have ne1 : l ≠ (s.heap.push (eSet w)).objs.size := by rw [z1]; exact Nat.ne_of_lt (Nat.lt_succ_of_lt ll)
        have ne2 : s.heap.objs.size ∉ [(s.heap.push (eSet w)).objs.size, l] := by
          rw [z1]; simp only [List.mem_cons, List.not_mem_nil, or_false, not_or]; exact And.intro (Nat.ne_of_lt (Nat.lt_succ_self _)) (Nat.ne_of_gt ll)
        have vals : ∀ (i : Nat) (v : Value), its[i]? = some v → ∃ k t, ns[i]? = some k ∧ v = .int k t := fun i v hv => by
          have hi : i < ns.length := by rw [← size]; exact (Array.getElem?_eq_some_iff.mp hv).1
          obtain ⟨t, e⟩ := IntsAre.int_at hit i v (by rw [Array.getElem?_toList]; exact hv)
          exact ⟨ns[i], t, List.getElem?_eq_getElem hi, by rw [e, List.getD_eq_getElem?_getD, List.getElem?_eq_getElem hi]; rfl⟩
        refine set_update_ints ((Walks.list hh3 _ l ne1 its).toS) s.heap.objs.size ne2 ns size hb vals (its.size - 0) 0 _ (by omega) (Nat.zero_le _) ⟨⟨_, Heap.get?_push_size _ rfl, rfl, rfl⟩, (hl1.push _)⟩ ⟨0, Nat.le_refl 0, setR_new_at (Heap.get?_push_of_some _ at0)⟩ ?_
        intro s' c' hm hc' hS'
        obtain ⟨h', g', d', t', o'⟩ := s'
        have e1 : g' = s.gens := hm.gens
        have e2 : d' = s.drawn := hm.drawn
        have e3 : o' = s.os := hm.os
        subst e1 e2 e3
        rw [size] at hc'
        refine wpAny_pure (show wpAny _ _ (ret Value.none) _ _ _ from wpAny_pure ⟨rfl, h', t', c', rfl, hS', hc', fun b o e => ?_⟩)
        have b0 : b < s.heap.objs.size := Heap.lt_size e
        exact hm.heap b o (by rw [z1]; simp only [List.mem_cons, List.not_mem_nil, or_false, not_or]; exact And.intro (Nat.ne_of_lt b0) (Nat.ne_of_lt (Nat.lt_succ_of_lt b0))) (Heap.get?_push_of_some _ (Heap.get?_push_of_some _ e))
      · cases r2 with
        | error e => exact hr2
        | ok fl2 =>
          cases fl2 with
          | ret r =>
            obtain ⟨rfl, h', tk, c', rfl, q1, q2, q3⟩ := hr2
            repeat any_goals first | assumption | wp_step
            exact hQ _ _ _ q1 q2 q3
          | _ => exact hr2.elim
    | _ => exact hr.elim
end
section
variable {X : Cx} {ρ : Rho} {M : Mp} {Φ : D → Mp → Prop} {Θ : Bool → Mp → Prop} {Ψ : DE} {a b c e : Expr} {es : List Expr} {ss : List Stmt} {pos p p2 pos2 : Pos}
def rSetL (K : PySem.W.Frag) (w : World) : List V → Hp → VK → Prop := fun xs H Q => ∃ (l : Addr) (ns : List Int), xs = [V.ref l] ∧ SqL K H l (ns.map V.int) ∧ ns.length < 64 ∧ ∀ (p : Addr) (n : Nat), H p = none → n ≤ ns.length → Q (.ref p) (upd H p (SetO w p (fun j => decide (j ∈ ns)) n))
theorem cr_setL (hc : X.calm = true) : CallR X (.type "set") (rSetL X.K X.w) := by
  intro pins s σ H vs us Q I r h
  obtain ⟨l, ns, rfl, hq, hl, q⟩ := h
  rw [Vals.ref1 r]
  obtain ⟨its, rv, pl, hz⟩ := I.list hq
  refine set_of_list ns (I.ok.hd hc) pl.isList (by simpa using ints_of_vals rv) (by unfold scanBound; omega) fun h' tk n R hn k => ?_
  have fr : H s.heap.objs.size = none := I.hok.fresh (Nat.le_refl _)
  exact ⟨.ref s.heap.objs.size, _, I.laid k (Nat.le_refl _) (setO_new R), rfl, q _ _ fr hn⟩
/-- sorted(set(e)), e a list of ints -/
theorem we_sortedSetL (hm : X.mg "sorted" = none) (hm2 : X.mg "set" = none) (h : WE X ρ M e fun d M1 => ∃ ns : List Int, LstOf M1 d (ns.map D.int) ∧ ns.length < 63 ∧ ∀ ms : List Int, ms.Pairwise (· < ·) → (∀ k, k ∈ ms ↔ k ∈ ns) → Φ (.lst (ms.map D.int)) M1) (hc : X.calm = true := by rfl)
    (hg : Gl X "sorted" := by rfl) (hg2 : Gl X "set" := by rfl) (he : starEach [.Call (.Name "set" p2) [e] [] pos2] X.env = (false, eval (.Call (.Name "set" p2) [e] [] pos2) X.env) :: starEach [] X.env := by rfl) (hpl : (backTo pos (starEach [] X.env)).any (·.1) = false := by rfl)
    (he2 : starEach [e] X.env = (false, eval e X.env) :: starEach [] X.env := by rfl) (hpl2 : (backTo pos2 (starEach [] X.env)).any (·.1) = false := by rfl) : WE X ρ M (.Call (.Name "sorted" p) [.Call (.Name "set" p2) [e] [] pos2] [] pos) Φ := .mk fun {Z} σ H Q en w k =>
  eOf (pe_callB (cr_sortedSet hc) hg hm (by decide +kernel) (pa_cons (pe_callTy (cr_setL hc) hg2 hm2 (by decide +kernel) pa_sem (by decide) (by decide) he2 hpl2) pa_nil he) (by decide) (by decide) he hpl)
    ((wa_cons (ΦA := fun ds M2 => ∃ d, ∃ ns : List Int, ds = [d] ∧ LstOf M2 d (ns.map D.int) ∧ ns.length < 63 ∧ ∀ ms : List Int, ms.Pairwise (· < ·) → (∀ k, k ∈ ms ↔ k ∈ ns) → Φ (.lst (ms.map D.int)) M2) (h.imp fun d M1 ⟨ns, h1, h2, h3⟩ => wa_nil ⟨d, ns, rfl, h1, h2, h3⟩) he2).run σ H _ en w fun vs ds H1 M1 e1 w1 r1 hz => by
      obtain ⟨d, ns, rfl, hl, h63, hz⟩ := hz
      cases r1 with
      | cons r1 r2 =>
        cases r2
        obtain ⟨l, us, rfl, hq, rs⟩ := r1.asLst w1 hl
        obtain rfl := rs.ints
        refine ⟨l, ns, rfl, hq, by omega, fun q n hq0 hn => ⟨q, _, n, rfl, upd_same, by omega, fun ms q2 hs hm hlen hq2 => ?_⟩⟩
        have x1 := Ext.new (o := SetO X.w q (fun j => decide (j ∈ ns)) n) w1 hq0
        refine (k.step (e1.trans x1)).new (w1.new hq0) hq2 (.lst upd_same ((w1.new hq0).fresh hq2) (Reps.ofInts ms)) (hz ms hs fun k => ?_)
        rw [hm k]; exact decide_eq_true_iff)
end
end DL
/-! DS1: sorted(set(a list of texts)). -/
namespace DL
open PySem PySem.Spec PyProof.Rows L2
/-! ### what a set of texts is -/
def GoodZ (w : World) (e : Int × Value) : Prop := ∃ x t, e.2 = Value.str x t ∧ e.1 = hashStr w x
/-- the set of texts at a: L its members, none twice -/
def SetZ (w : World) (h : Heap) (a : Addr) (L : List Str) : Prop :=
  ∃ o es ep t, h.get? a = some o ∧ (o.ExactSet ∧ o.data = .set es ep t) ∧ ((∀ e ∈ es.toList, GoodZ w e) ∧ (es.toList.map fun e => strOf e.2).Perm L ∧ L.Nodup) ∧ (es.size < scanBound ∧ t.fits es.size = true) ∧ Ris t.place.toList ∧ (w.params.followText "set-order" = true ∨ t.led = true)
section
variable {P : Program} {w : World} {h h' : Heap} {a : Addr} {L : List Str}
theorem SetZ.keep (R : SetZ w h a L) (k : ∀ o, h.get? a = some o → h'.get? a = some o) : SetZ w h' a L := by
  obtain ⟨o, es, ep, t, ho, r⟩ := R
  exact ⟨o, es, ep, t, k o ho, r⟩
theorem goodZ_elems {l : List (Int × Value)} (g : ∀ e ∈ l, GoodZ w e) : ElemsOf (PySem.strKind P w) l := fun e he => by
  obtain ⟨x, t, h1, h2⟩ := g e he
  exact ⟨⟨x, by rw [h1]; exact strKind_is P w x t, h2⟩, by rw [h1]; rfl⟩
theorem goodZ_is {e : Int × Value} (g : GoodZ w e) (x : Str) : (PySem.strKind P w).is x e.2 = true ↔ strOf e.2 = x := by
  obtain ⟨y, t, h1, _⟩ := g
  rw [h1]
  have q := strKind_is P w y t
  refine ⟨fun z => ((PySem.strKind P w).inj _ _ _ z q).symm, fun z => ?_⟩
  have z' : y = x := z
  rw [← z']; exact q
theorem goodZ_mem {l : List (Int × Value)} (g : ∀ e ∈ l, GoodZ w e) (x : Str) : (∃ e ∈ l, (PySem.strKind P w).is x e.2 = true) ↔ x ∈ l.map fun e => strOf e.2 := by
  rw [List.mem_map]
  exact ⟨fun ⟨e, he, q⟩ => ⟨e, he, (goodZ_is (g e he) x).mp q⟩, fun ⟨e, he, q⟩ => ⟨e, he, (goodZ_is (g e he) x).mpr q⟩⟩
end
section
variable {P : Program} {w : World} {A : Around} {E : Value → Shared → Prop} {s : Shared} {a : Addr} {L : List Str}
theorem setZ_tail {g : Bool → Sem Unit} (hg : ∀ (b : Bool) (s1 : Shared) (Q' : Unit → Shared → Prop), Q' () s1 → wpAny (model P w) A (g b) Q' E s1) {o : Obj} {es es1 : Array (Int × Value)} {ep : Nat} {t t2 : SetTable} {L' : List Str} {wd : Bool} {R : Option Bool → Shared → Prop}
    (ho : s.heap.get? a = some o) (hex : o.ExactSet) (hd : o.data = .set es ep t) (g1 : (∀ e ∈ es1.toList, GoodZ w e) ∧ (es1.toList.map fun e => strOf e.2).Perm L' ∧ L'.Nodup) (hb : es1.size < scanBound) (hf : t2.fits es1.size = true) (hr : Ris t2.place.toList) (hl : w.params.followText "set-order" = true ∨ t2.led = true)
    (hR : ∀ h', Heap.SameBut a s.heap h' → SetZ w h' a L' → R (some true) { s with heap := h' }) :
    wpAny (model P w) A (do
      storeSet a es1 t2
      if (!wd && t2.tooFull) = true then do
          g (relayAll t2 es1 (SetTable.grown es1.size)).2.2
          storeSet a (relayAll t2 es1 (SetTable.grown es1.size)).1 (relayAll t2 es1 (SetTable.grown es1.size)).2.1
          pure (some true)
        else pure (some true)) R E s := by
  have ho1 := store_at (es' := es1) (t' := t2) ho hd
  have sb := Heap.SameBut.update s.heap a (Obj.putSet es1 t2)
  refine wpAny_bind (wpAny_storeSet_of ho hd ?_ (fits_of_scanBound hb))
  by_cases hc : (!wd && t2.tooFull) = true
  · rw [if_pos hc]
    have q1 := relayAll_perm t2 es1 (SetTable.grown es1.size)
    have q2 := relayAll_fits t2 es1 (SetTable.grown es1.size)
    have q3 := relayAll_ris t2 es1 (SetTable.grown es1.size)
    have q4 := relayAll_led t2 es1 (SetTable.grown es1.size)
    generalize relayAll t2 es1 (SetTable.grown es1.size) = Y at q1 q2 q3 q4 ⊢
    obtain ⟨es2, t3, gv⟩ := Y
    dsimp only at q1 q2 q3 q4 ⊢
    have hb2 : es2.size < scanBound := by
      have : es2.size = es1.size := by rw [← Array.length_toList, q1.length_eq, Array.length_toList]
      omega
    refine wpAny_bind (hg _ _ _ (wpAny_bind (wpAny_storeSet_of ho1 rfl ?_ (fits_of_scanBound hb2))))
    refine wpAny_pure (hR _ (sb.trans (Heap.SameBut.update _ a _)) ⟨_, es2, _, t3, store_at (es' := es2) (t' := t3) ho1 rfl, ⟨hex, rfl⟩, ⟨fun e he => g1.1 e (q1.mem_iff.mp he), (q1.map _).trans g1.2.1, g1.2.2⟩, ⟨hb2, q2⟩, q3, ?_⟩)
    rw [q4]; exact hl
  · rw [if_neg hc]
    exact wpAny_pure (hR _ sb ⟨_, es1, _, t2, ho1, ⟨hex, rfl⟩, g1, ⟨hb, hf⟩, hr, hl⟩)
theorem setZ_add {x : Str} {tk : Tok} {Q : Bool → Shared → Prop} (R : SetZ w s.heap a L) (room : L.length + 1 < scanBound)
    (hQ : ∀ h' b, Heap.SameBut a s.heap h' → SetZ w h' a (if x ∈ L then L else x :: L) → Q b { s with heap := h' }) : wpAny (model P w) A (setAddHashed a (.str x tk) ((PySem.strKind P w).hash x)) Q E s := by
  obtain ⟨o, es, ep, t, ho, ⟨hex, hd⟩, ⟨g, pm, nd⟩, ⟨hb, hf⟩, hr, hl⟩ := R
  have hel : ElemsOf (PySem.strKind P w) es.toList := goodZ_elems g
  have hsc : (Value.str x tk).scannable = true := rfl
  unfold setAddHashed setAddHashedIn
  refine wpAny_holding (wpAny_bind (wpAny_setState_of ho hd hf ?_))
  dsimp only
  rw [byScan_of hsc hb hel]
  simp only [↓reduceIte]
  unfold setAddByScan
  refine wpAny_bind (wpAny_bind (wpAny_rule (wpAny_bind (wpAny_setScan_of (strKind_is P w x tk) ho hd hf hel ?_))))
  by_cases hx : x ∈ L
  · cases hfi : List.findIdx? (fun e => (PySem.strKind P w).is x e.2) es.toList with
    | none =>
      exfalso
      obtain ⟨e, he, q⟩ := (goodZ_mem (P := P) g x).mpr (pm.mem_iff.mpr hx)
      have c := List.findIdx?_eq_none_iff.mp hfi e he
      rw [q] at c; cases c
    | some j =>
      dsimp only
      have q := hQ s.heap false (Heap.SameBut.refl a s.heap)
      rw [if_pos hx] at q
      exact wpAny_pure (wpAny_pure (q ⟨o, es, ep, t, ho, ⟨hex, hd⟩, ⟨g, pm, nd⟩, ⟨hb, hf⟩, hr, hl⟩))
  · cases hfi : List.findIdx? (fun e => (PySem.strKind P w).is x e.2) es.toList with
    | some j =>
      exfalso
      obtain ⟨hj, pj, _⟩ := List.findIdx?_eq_some_iff_getElem.mp hfi
      exact hx (pm.mem_iff.mp ((goodZ_mem (P := P) g x).mp ⟨es.toList[j], List.getElem_mem hj, pj⟩))
    | none =>
      dsimp only
      have gw : ∀ (b : Bool) {s1 : Shared} {Q' : Unit → Shared → Prop}, Q' () s1 → wpAny (model P w) A (match b with | true => rule "set.scan.the-table-gave-way" | false => pure ()) Q' E s1 := fun b s1 Q' q => by
        cases b <;> first | exact wpAny_pure q | exact wpAny_rule q
      have p1 := layNew_perm t es ((PySem.strKind P w).hash x) (.str x tk)
      have p2 := layNew_fits t es ((PySem.strKind P w).hash x) (.str x tk)
      have p3 := layNew_ris t es ((PySem.strKind P w).hash x) (.str x tk) hr
      have p4 := layNew_led t es ((PySem.strKind P w).hash x) (.str x tk)
      generalize layNew t es ((PySem.strKind P w).hash x) (.str x tk) = Y at p1 p2 p3 p4 ⊢
      obtain ⟨es1, t1, wd, gv⟩ := Y
      dsimp only at p1 p2 p3 p4 ⊢
      rw [Array.toList_push] at p1
      have pc := p1.trans (List.perm_append_singleton _ _)
      have gN : (∀ e ∈ es1.toList, GoodZ w e) ∧ (es1.toList.map fun e => strOf e.2).Perm (x :: L) ∧ (x :: L).Nodup := by
        refine ⟨fun e he => ?_, (pc.map _).trans (pm.cons _), List.nodup_cons.mpr ⟨hx, nd⟩⟩
        rcases List.mem_cons.mp (pc.mem_iff.mp he) with z | z
        · rw [z]; exact ⟨x, tk, rfl, rfl⟩
        · exact g e z
      have hb1 : es1.size < scanBound := by
        have := gN.2.1.length_eq
        rw [List.length_map, Array.length_toList, List.length_cons] at this
        omega
      have hled : w.params.followText "set-order" = true ∨ t1.led = true := by rw [p4]; exact hl
      have fin : ∀ h', Heap.SameBut a s.heap h' → SetZ w h' a (x :: L) → Q true { s with heap := h' } := fun h' sb r => hQ h' true sb (by rw [if_neg hx]; exact r)
      refine wpAny_bind (gw _ ?_)
      split
      · refine wpAny_bind ?_
        rw [hashByValue_scannable 8 hsc]
        refine wpAny_pure (setZ_tail ?_ ho hex hd gN hb1 ?_ ?_ ?_ ?_)
        · intro b s1 Q' q
          cases b <;> first | exact wpAny_pure q | exact wpAny_rule q
        · first | (split <;> first | exact p2 | exact SetTable.fits_plain_off p2) | exact p2
        · first | (split <;> exact p3) | exact p3
        · first | (split <;> exact hled) | exact hled
        · intro h' sb r
          dsimp only
          exact wpAny_pure (fin h' sb r)
      · refine wpAny_bind (wpAny_pure ?_)
        simp only [↓reduceIte]
        refine setZ_tail ?_ ho hex hd gN hb1 p2 p3 hled ?_
        · intro b s1 Q' q
          cases b <;> first | exact wpAny_pure q | exact wpAny_rule q
        · intro h' sb r
          dsimp only
          exact wpAny_pure (fin h' sb r)
end
/-! ### set(a list of texts) -/
/-- the members behind the adds of some texts -/
def dedZ : List Str → List Str → List Str
  | L, [] => L
  | L, x :: r => dedZ (if x ∈ L then L else x :: L) r
theorem dedZ_snoc : ∀ (L r : List Str) (x : Str), dedZ L (r ++ [x]) = if x ∈ dedZ L r then dedZ L r else x :: dedZ L r
  | L, [], x => rfl
  | L, y :: r, x => dedZ_snoc _ r x
theorem dedZ_len : ∀ (L r : List Str), (dedZ L r).length ≤ L.length + r.length
  | L, [] => Nat.le_refl _
  | L, y :: r => by
    have := dedZ_len (if y ∈ L then L else y :: L) r
    unfold dedZ
    split at this <;> simp only [List.length_cons] at this ⊢ <;> split <;> simp_all <;> omega
theorem dedZ_mem : ∀ (L r : List Str) (k : Str), k ∈ dedZ L r ↔ k ∈ L ∨ k ∈ r
  | L, [], k => by simp [dedZ]
  | L, y :: r, k => by
    unfold dedZ
    rw [dedZ_mem, List.mem_cons]
    split
    · rename_i h
      constructor
      · rintro (z | z)
        · exact .inl z
        · exact .inr (.inr z)
      · rintro (z | z | z)
        · exact .inl z
        · exact .inl (z ▸ h)
        · exact .inr z
    · rw [List.mem_cons]
      constructor
      · rintro ((z | z) | z)
        · exact .inr (.inl z)
        · exact .inl z
        · exact .inr (.inr z)
      · rintro (z | z | z)
        · exact .inl (.inr z)
        · exact .inl (.inl z)
        · exact .inr z
theorem dedZ_nd : ∀ (L r : List Str), L.Nodup → (dedZ L r).Nodup
  | L, [], h => h
  | L, y :: r, h => by
    unfold dedZ
    refine dedZ_nd _ r ?_
    split
    · exact h
    · exact List.nodup_cons.mpr ⟨by assumption, h⟩
theorem setZ_new {w : World} {h : Heap} {a : Addr} (ho : h.get? a = some (eSet w)) : SetZ w h a [] :=
  ⟨_, #[], 0, _, ho, ⟨⟨rfl, rfl, rfl⟩, rfl⟩, ⟨fun e he => by simp at he, .nil, .nil⟩, ⟨by decide, by rfl⟩, List.Pairwise.nil, by
    show _ ∨ (!w.params.followText "set-order") = true
    cases w.params.followText "set-order"
    · exact .inr rfl
    · exact .inl rfl⟩
section
variable {P : Program} {w : World} {A : Around} {E : Value → Shared → Prop} {s : Shared}
theorem setZ_update {I : Addr} {fp wr : List Addr} {G : Array GenState → Array GenState → Prop} {n : Nat} {Pv : Nat → Value → Prop} {St : Nat → Shared → Prop} {R : Result → Shared → Prop}
    (W : WalksS P w A.in1 I fp wr G n Pv St) (S : Addr) (hSf : S ∉ fp) (zs : List Str) (hn : n = zs.length) (hb : zs.length + 1 < scanBound) (hv : ∀ i v, Pv i v → ∃ x t, zs[i]? = some x ∧ v = .str x t) :
    ∀ (k i : Nat) (s : Shared), n - i = k → i ≤ n → St i s → SetZ w s.heap S (dedZ [] (zs.take i)) → (∀ s', Moved (S :: wr) G s s' → SetZ w s'.heap S (dedZ [] zs) → R (.ok (.ret .none)) s') →
      codeAny (model P w) A (.builtin "set.update.loop" ⟨[.ref S, .ref I], []⟩) R s := by
  have nw : S ∉ wr := fun z => hSf (W.sub _ z)
  have sub : ∀ b ∈ wr, b ∈ S :: wr := fun b => List.mem_cons_of_mem _
  intro k
  induction k with
  | zero =>
    intro i s hk hi st hS hR
    refine codeAny_builtin PyProof.Rows.F.entry_set_update_loop ?_
    rw [Around.under_plainId PyProof.Rows.F.plain_set_update_loop _]
    obtain rfl : i = n := by omega
    refine wpAny_bind (m := pyNext _) (W.done s _ _ st fun s' hm => wpAny_pure (hR s' (hm.mono sub) ?_))
    have := hS.keep (h' := s'.heap) fun o e => hm.heap S o nw e
    rwa [List.take_of_length_le (Nat.le_of_eq hn.symm)] at this
  | succ k ih =>
    intro i s hk hi st hS hR
    refine codeAny_builtin PyProof.Rows.F.entry_set_update_loop ?_
    rw [Around.under_plainId PyProof.Rows.F.plain_set_update_loop _]
    refine wpAny_bind (m := pyNext _) (W.item i s _ _ (by omega) st fun v s' hP st' hm => ?_)
    obtain ⟨x, t, hz, rfl⟩ := hv i v hP
    have hS' := hS.keep (h' := s'.heap) fun o e => hm.heap S o nw e
    refine wpAny_bind (m := holding [Value.str x t] (setAdd S (.str x t))) (wpAny_holding ?_)
    unfold setAdd
    have hlen := dedZ_len [] (zs.take i)
    rw [List.length_nil, List.length_take] at hlen
    refine wpAny_holding (wpAny_bind ((PySem.strKind P w).pyHash (k := x) (strKind_is _ _ _ _) (setZ_add (s := { s' with toks := s'.toks + 1 }) hS' (by omega) fun h' b sb hS2 => ?_)))
    have hS3 : SetZ w h' S (dedZ [] (zs.take (i + 1))) := by
      rw [List.take_add_one, hz]
      show SetZ w h' S (dedZ [] (zs.take i ++ [x]))
      rw [dedZ_snoc]; exact hS2
    refine wpAny_pure ⟨plainId_quiet PyProof.Rows.F.plain_set_update_loop _, ih (i + 1) _ (by omega) (by omega) (W.frame _ s' _ _ st' (Nat.le_succ _) fun b hb o e => ?_) hS3 fun s2 hm2 hS4 => hR s2 (Moved.trans W.gtrans ((hm.mono sub).then_heap (Nat.le_succ _) fun b o hb e => ?_) hm2) hS4⟩
    · rw [sb.2 b fun q : b = S => hSf (q ▸ hb)]; exact e
    · rw [sb.2 b fun q : b = S => hb (q ▸ List.mem_cons_self)]; exact e
theorem set_of_texts {l : Addr} {its : Array Value} (zs : List Str) {Q : Value → Shared → Prop} (hh : A.handled = none) (hl : s.heap.IsList l its) (hit : StrsAre its.toList zs) (hb : zs.length + 1 < scanBound)
    (hQ : ∀ (h' : Heap) (tk : Nat), SetZ w h' s.heap.objs.size (dedZ [] zs) → (∀ b o, s.heap.get? b = some o → h'.get? b = some o) → Q (.ref s.heap.objs.size) { s with heap := h', toks := tk }) : wpAny (model P w) A (call (.type "set") [.ref l]) Q E s := by
  have size : its.size = zs.length := by have q := StrsAre.length hit; rwa [Array.length_toList] at q
  obtain ⟨c, tl, hmro⟩ := F.called_set.mro
  have f1 := F.called_set.made
  have f2 := F.called_set.sub
  have f3 := F.called_set.notType
  have f4 := F.called_set.canCreate
  have f5 := F.typeCall_set_1 (.ref l)
  refine wpAny_call (codeAny_of_tree (show wpAny _ _ (callAny (.type "set") _) _ _ _ from wpAny_pure ⟨Code.quiet_builtin _ (by decide +kernel), codeAny_builtin F.entry_type_call ?_⟩))
  rw [Around.under_plain (weight_type_call_type "set" [.ref l] []) rfl]
  repeat any_goals first | assumption | wp_step
  refine codeAny_mono (code_set_led1 (.ref l) (E := E) (Q₁ := fun x s1 => x = .ref s.heap.objs.size ∧ s1 = { s with heap := s.heap.push (eSet w) }) ⟨rfl, rfl⟩) fun r s1 hr => ?_
  cases r with
  | error e => exact hr
  | ok fl =>
    cases fl with
    | ret obj =>
      obtain ⟨rfl, rfl⟩ := hr
      have at0 : (s.heap.push (eSet w)).get? s.heap.objs.size = some (eSet w) := Heap.get?_push_size _ rfl
      have ty0 : Shared.TypeIs { s with heap := s.heap.push (eSet w) } (.ref s.heap.objs.size) "set" := ⟨_, at0, rfl⟩
      have g1 := F.called_set.init.lookup
      have g2 := F.called_set.init.bind (.ref s.heap.objs.size)
      repeat any_goals first | assumption | wp_step
      refine codeAny_mono (codeAny_call_builtin (R := wants (fun r s2 => r = .none ∧ ∃ h' tk, s2 = { s with heap := h', toks := tk } ∧ SetZ w h' s.heap.objs.size (dedZ [] zs) ∧ (∀ b o, s.heap.get? b = some o → h'.get? b = some o)) E) F.called_set.init.plain F.entry_set_init (check_set_init_1 ty0 ?_)) fun r2 s2 hr2 => ?_
      · obtain ⟨ol, hol, hcl, nl, hdl⟩ := hl
        obtain ⟨c1, c2, c3, c4⟩ := ol
        simp only at hcl hdl
        subst hcl hdl
        have hol1 : (s.heap.push (eSet w)).get? l = some { cls := .type "list", dict := c2, data := .seq its nl, slots := c4 } := Heap.get?_push_of_some _ hol
        have k1 := F.sub_list_set
        have k2 := F.sub_list_frozenset
        have k3 : (Value.type "list" == Value.type "dict") = false := by decide
        have hl1 : (s.heap.push (eSet w)).IsList l its := ⟨_, hol1, rfl, nl, rfl⟩
        unfold Builtin.«set.__init__» noKeywords Builtin.Frozenset.updateFrom
        generalize hPI : pyIter = PI
        wp_walk
        subst hPI
        refine wpAny_pyIter_list hl1 (wpAny_bind (wpAny_runValue ?_))
        have ll : l < s.heap.objs.size := Heap.lt_size hol
        have hh3 : A.in1.in1.in1.handled = none := by simp [hh]
        have z1 : (s.heap.push (eSet w)).objs.size = s.heap.objs.size + 1 := Heap.size_push ..
        have ne1 : l ≠ (s.heap.push (eSet w)).objs.size := by rw [z1]; exact Nat.ne_of_lt (Nat.lt_succ_of_lt ll)
        have ne2 : s.heap.objs.size ∉ [(s.heap.push (eSet w)).objs.size, l] := by
          rw [z1]; simp only [List.mem_cons, List.not_mem_nil, or_false, not_or]; exact And.intro (Nat.ne_of_lt (Nat.lt_succ_self _)) (Nat.ne_of_gt ll)
        have vals : ∀ (i : Nat) (v : Value), its[i]? = some v → ∃ x t, zs[i]? = some x ∧ v = .str x t := fun i v hv => by
          obtain ⟨y, t, e1, e2⟩ := StrsAre.item hit i v (by rw [Array.getElem?_toList]; exact hv)
          exact ⟨y, t, e2, e1⟩
        refine setZ_update ((Walks.list hh3 _ l ne1 its).toS) s.heap.objs.size ne2 zs size hb vals (its.size - 0) 0 _ (by omega) (Nat.zero_le _) ⟨⟨_, Heap.get?_push_size _ rfl, rfl, rfl⟩, (hl1.push _)⟩ (setZ_new (Heap.get?_push_of_some _ at0)) ?_
        intro s' hm hS'
        obtain ⟨h', g', d', t', o'⟩ := s'
        have e1 : g' = s.gens := hm.gens
        have e2 : d' = s.drawn := hm.drawn
        have e3 : o' = s.os := hm.os
        subst e1 e2 e3
        refine wpAny_pure (show wpAny _ _ (ret Value.none) _ _ _ from wpAny_pure ⟨rfl, h', t', rfl, hS', fun b o e => ?_⟩)
        have b0 : b < s.heap.objs.size := Heap.lt_size e
        exact hm.heap b o (by rw [z1]; simp only [List.mem_cons, List.not_mem_nil, or_false, not_or]; exact And.intro (Nat.ne_of_lt b0) (Nat.ne_of_lt (Nat.lt_succ_of_lt b0))) (Heap.get?_push_of_some _ (Heap.get?_push_of_some _ e))
      · cases r2 with
        | error e => exact hr2
        | ok fl2 =>
          cases fl2 with
          | ret r =>
            obtain ⟨rfl, h', tk, rfl, q1, q2⟩ := hr2
            repeat any_goals first | assumption | wp_step
            exact hQ _ _ q1 q2
          | _ => exact hr2.elim
    | _ => exact hr.elim
/-- sorted(a set of texts) -/
theorem sorted_setZ {a : Addr} {L : List Str} {Q : Value → Shared → Prop} (R : SetZ w s.heap a L) (hh : A.handled = none)
    (hQ : ∀ s' p (out : Array Value) (c : Nat) (zs : List Str), (∀ b o, s.heap.get? b = some o → s'.heap.get? b = some o) → s'.gens = s.gens → s'.os = s.os → s.heap.objs.size ≤ p →
      s'.heap.get? p = some (seqObj "list" out c) → StrsAre out.toList zs → zs.Perm L → sortedS zs = true → Q (.ref p) s') :
    wpAny (model P w) A (call (.builtin "sorted") [.ref a]) Q E s := by
  obtain ⟨o, es, ep, t, ho, ⟨hex, hd⟩, ⟨g, pm, nd⟩, ⟨hb, hf⟩, hr, hl⟩ := R
  refine Calls.call_function_entry kind_sorted plain_sorted entry_sorted (args_sorted1 _) ?_
  unfold Builtin.«sorted»
  refine wpAny_bind (m := checkCount "sorted" 1 1 _) (wpAny_pure ?_)
  refine wpAny_bind (collect_set (A := A.in1) hh ⟨o, ho, hex.1, hd⟩ hf hb hr hl fun s1 vs k1 hz g1 o1 pv => ?_)
  have hI : StrsAre vs (vs.map strOf) := strsAre_map vs fun v hv => by
    obtain ⟨e, he, rfl⟩ := List.mem_map.mp (pv.mem_iff.mp hv)
    obtain ⟨x, tk, h1, _⟩ := g e he
    exact ⟨x, tk, h1⟩
  have hvl : vs.length ≤ sizeLine := by
    rw [pv.length_eq, List.length_map, Array.length_toList]
    exact fits_of_scanBound hb
  have pz : (vs.map strOf).Perm L := by
    have q := pv.map strOf
    rw [List.map_map] at q
    exact q.trans pm
  refine wpAny_bind (wpAny_newList ?_ hvl)
  have hoL : (s1.heap.push (seqObj "list" vs.toArray 0)).get? s1.heap.objs.size = some (seqObj "list" vs.toArray 0) := Heap.get?_push_size _ rfl
  refine wpAny_bind (wpAny_holding (wpAny_call_entry slot_list_sort ⟨_, hoL, rfl⟩ entry_list_sort (list_sort_treeKAny strKind_oneLt hoL hI.keysOf (fun v1 v2 rest e => keyKind_strs (by rw [← e]; exact hI)) hvl fun st' hp hs => ⟨_, rfl, ?_⟩) (args_list_sort _)))
  obtain ⟨zs, q1, q2, q3⟩ := sorted_out_str hI hp hs
  obtain ⟨c, hc⟩ := sortedHeap_at (vs := vs) (out := (arrOf st').map (·.2)) hoL
  refine wpAny_pure ⟨_, rfl, hQ _ s1.heap.objs.size _ c zs (fun b u e => ?_) g1 o1 hz hc q1 (q2.trans pz) q3⟩
  have q := k1 b u e
  have hlt := Heap.lt_size q
  refine (sortedHeap_old (Nat.ne_of_lt hlt) (by rw [size_push']; exact Nat.lt_succ_of_lt hlt)).trans ?_
  exact Heap.get?_push_of_some _ q
end
end DL
/-! DS2: sorted(set(e)), e a list of texts, as a rule. -/
namespace DL
open PySem PySem.Spec PyProof.Rows L2
/-- the set of texts at a -/
def SetZO (w : World) (a : Addr) (L : List Str) : HO := .ext fun h => SetZ w h a L
theorem setZO_new {w : World} {P : Program} {H : Hp} {h : Heap} {a : Addr} {L : List Str} (R : SetZ w h a L) : ObjOk P w H h a (SetZO w a L) := by
  have ⟨o, _, _, _, ho, _⟩ := R
  exact ⟨R, ⟨o, ho⟩, fun h1 h2 p k => SetZ.keep p k⟩
theorem vals_of_strs : ∀ {us : List Value} {zs : List Str}, StrsAre us zs → Vals (zs.map V.str) us
  | _, _, .nil => .nil
  | _, _, .cons x t h => .cons (a := V.str x) ⟨t, rfl⟩ (vals_of_strs h)
section
variable {X : Cx} {ρ : Rho} {M : Mp} {Φ : D → Mp → Prop} {e : Expr} {pos p p2 pos2 : Pos}
def rSetZ (K : PySem.W.Frag) (w : World) : List V → Hp → VK → Prop := fun xs H Q => ∃ (l : Addr) (zs : List Str), xs = [V.ref l] ∧ SqL K H l (zs.map V.str) ∧ zs.length + 1 < scanBound ∧ ∀ p : Addr, H p = none → Q (.ref p) (upd H p (SetZO w p (dedZ [] zs)))
theorem cr_setZ (hc : X.calm = true) : CallR X (.type "set") (rSetZ X.K X.w) := by
  intro pins s σ H vs us Q I r h
  obtain ⟨l, zs, rfl, hq, hl, q⟩ := h
  rw [Vals.ref1 r]
  obtain ⟨its, rv, pl, hz⟩ := I.list hq
  refine set_of_texts zs (I.ok.hd hc) pl.isList (by simpa using strsAre_of rv) hl fun h' tk R k => ?_
  exact ⟨.ref s.heap.objs.size, _, I.laid k (Nat.le_refl _) (setZO_new R), rfl, q _ (I.hok.fresh (Nat.le_refl _))⟩
def rSortZ (w : World) : List V → Hp → VK → Prop := fun vs H Q => ∃ (a : Addr) (L : List Str), vs = [V.ref a] ∧ H a = some (SetZO w a L) ∧ L.length ≤ sizeLine ∧ ∀ (zs : List Str) (p : Addr), zs.Perm L → sortedS zs = true → H p = none → Q (.ref p) (upd H p (.lst (zs.map V.str)))
theorem cr_sortZ (hc : X.calm = true) : CallR X (.builtin "sorted") (rSortZ X.w) := by
  intro pins s σ H vs us Q I r h
  obtain ⟨a, L, rfl, ha, hl, q⟩ := h
  have R : SetZ X.w s.heap a L := (I.hok a _ ha).1
  rw [Vals.ref1 r]
  refine sorted_setZ R (I.ok.hd hc) fun s' p out c zs k g o hp hg hi pm hs => ?_
  have hlen : (zs.map V.str).length ≤ sizeLine := by rw [List.length_map, pm.length_eq]; exact hl
  have hn : H p = none := I.hok.fresh hp
  have J : Inv X pins σ (upd H p (.lst (zs.map V.str))) { s with heap := s'.heap, gens := s'.gens, drawn := s'.drawn, toks := s'.toks } :=
    I.call (ch := []) (Un.laid k hp hn) (I.hok.laid k hp ⟨hlen, out.toList, c, vals_of_strs hi, hg⟩) (by rw [g]; exact I.bare) (fun _ z => nomatch z)
  have e : s' = { s with heap := s'.heap, gens := s'.gens, drawn := s'.drawn, toks := s'.toks } := by
    cases s'; cases s; cases o; rfl
  rw [e]
  exact ⟨.ref p, _, J, rfl, q zs p pm hs hn⟩
/-- sorted(set(e)), e a list of texts -/
theorem we_sortedSetS (hm : X.mg "sorted" = none) (hm2 : X.mg "set" = none) (h : WE X ρ M e fun d M1 => ∃ zs : List Str, LstOf M1 d (zs.map D.str) ∧ zs.length < 1000 ∧ ∀ ys : List Str, ys.Perm (dedZ [] zs) → sortedS ys = true → Φ (.lst (ys.map D.str)) M1) (hc : X.calm = true := by rfl)
    (hg : Gl X "sorted" := by rfl) (hg2 : Gl X "set" := by rfl) (he : starEach [.Call (.Name "set" p2) [e] [] pos2] X.env = (false, eval (.Call (.Name "set" p2) [e] [] pos2) X.env) :: starEach [] X.env := by rfl) (hpl : (backTo pos (starEach [] X.env)).any (·.1) = false := by rfl)
    (he2 : starEach [e] X.env = (false, eval e X.env) :: starEach [] X.env := by rfl) (hpl2 : (backTo pos2 (starEach [] X.env)).any (·.1) = false := by rfl) : WE X ρ M (.Call (.Name "sorted" p) [.Call (.Name "set" p2) [e] [] pos2] [] pos) Φ := .mk fun {Z} σ H Q en w k =>
  eOf (pe_callB (cr_sortZ hc) hg hm (by decide +kernel) (pa_cons (pe_callTy (cr_setZ hc) hg2 hm2 (by decide +kernel) pa_sem (by decide) (by decide) he2 hpl2) pa_nil he) (by decide) (by decide) he hpl)
    ((wa_cons (ΦA := fun ds M2 => ∃ d, ∃ zs : List Str, ds = [d] ∧ LstOf M2 d (zs.map D.str) ∧ zs.length < 1000 ∧ ∀ ys : List Str, ys.Perm (dedZ [] zs) → sortedS ys = true → Φ (.lst (ys.map D.str)) M2) (h.imp fun d M1 ⟨zs, h1, h2, h3⟩ => wa_nil ⟨d, zs, rfl, h1, h2, h3⟩) he2).run σ H _ en w fun vs ds H1 M1 e1 w1 r1 hz => by
      obtain ⟨d, zs, rfl, hl, hn, hz⟩ := hz
      cases r1 with
      | cons r1 r2 =>
        cases r2
        obtain ⟨l, us, rfl, hq, rs⟩ := r1.asLst w1 hl
        obtain rfl := rs.strs
        have hd := dedZ_len [] zs
        rw [List.length_nil] at hd
        refine ⟨l, zs, rfl, hq, by unfold scanBound; omega, fun q hq0 => ⟨q, _, rfl, upd_same, by rw [sizeLine_eq]; omega, fun ys q2 pm hs hq2 => ?_⟩⟩
        have x1 := Ext.new (o := SetZO X.w q (dedZ [] zs)) w1 hq0
        exact (k.step (e1.trans x1)).new (w1.new hq0) hq2 (.lst upd_same ((w1.new hq0).fresh hq2) (Reps.ofStrs ys)) (hz ys pm hs))
end
end DL
/-! DL74: len(set(a list of texts)), text.split(sep). -/
namespace DL
open PySem PySem.Spec PyProof.Rows L2
section
variable {X : Cx} {ρ : Rho} {M : Mp} {Φ : D → Mp → Prop} {e o : Expr} {pos p p2 apos : Pos}
theorem cr_lenZ : CallR X (.builtin "len") (fun xs H Q => ∃ a L, xs = [V.ref a] ∧ H a = some (SetZO X.w a L) ∧ Q (.int (L.length : Nat)) H) := by
  intro pins s σ H xs us Q I r h
  obtain ⟨a, L, rfl, ha, k⟩ := h
  rw [Vals.ref1 r]
  obtain ⟨o, es, ep, t, ho, ⟨hex, hdt⟩, ⟨_, pm, _⟩, ⟨hb, hf⟩, _⟩ := (I.hok a _ ha).1
  have hl : es.size = L.length := by
    have := pm.length_eq
    rwa [List.length_map, Array.length_toList] at this
  refine call_len_set ho hex hdt hf (by unfold scanBound at hb; omega) ⟨.int es.size, H, I.tok _, ⟨_, rfl⟩, ?_⟩
  rw [hl]; exact k
theorem we_lenSetS (hm : X.mg "len" = none) (hm2 : X.mg "set" = none) (h : WE X ρ M e fun d M1 => ∃ zs : List Str, LstOf M1 d (zs.map D.str) ∧ zs.length < 1000 ∧ Φ (.int ((dedZ [] zs).length : Nat)) M1) (hc : X.calm = true := by rfl) (hg : Gl X "len" := by rfl) (hg2 : Gl X "set" := by rfl)
    (he : starEach [.Call (.Name "set" p) [e] [] apos] X.env = (false, eval (.Call (.Name "set" p) [e] [] apos) X.env) :: starEach [] X.env := by rfl) (hpl : (backTo pos (starEach [] X.env)).any (·.1) = false := by rfl)
    (he2 : starEach [e] X.env = (false, eval e X.env) :: starEach [] X.env := by rfl) (hpl2 : (backTo apos (starEach [] X.env)).any (·.1) = false := by rfl) : WE X ρ M (.Call (.Name "len" p2) [.Call (.Name "set" p) [e] [] apos] [] pos) Φ := .mk fun {Z} σ H Q en w k =>
  eOf (pe_callB cr_lenZ hg hm PySem.boot_len (pa_cons (pe_callTy (cr_setZ hc) hg2 hm2 (by decide +kernel) pa_sem (by decide) (by decide) he2 hpl2) pa_nil he) (by decide) (by decide) he hpl)
    ((wa_cons (ΦA := fun ds M2 => ∃ d, ∃ zs : List Str, ds = [d] ∧ LstOf M2 d (zs.map D.str) ∧ zs.length < 1000 ∧ Φ (.int ((dedZ [] zs).length : Nat)) M2) (h.imp fun d M1 ⟨zs, h1, h2, h3⟩ => wa_nil ⟨d, zs, rfl, h1, h2, h3⟩) he2).run σ H _ en w fun vs ds H1 M1 e1 w1 r1 hz => by
      obtain ⟨d, zs, rfl, hl, hn, hz⟩ := hz
      cases r1 with
      | cons r1 r2 =>
        cases r2
        obtain ⟨l, us, rfl, hq, rs⟩ := r1.asLst w1 hl
        obtain rfl := rs.strs
        refine ⟨l, zs, rfl, hq, by unfold scanBound; omega, fun q hq0 => ⟨q, _, rfl, upd_same, ?_⟩⟩
        have x1 := Ext.new (o := SetZO X.w q (dedZ [] zs)) w1 hq0
        exact (k.step (e1.trans x1)).now (w1.new hq0) (.int _) hz)
theorem we_split (h : WE X ρ M o fun d M1 => ∃ z, d = .str z ∧ WE X ρ M1 e fun y M2 => ∃ b, y = .str b ∧ (b.length == 0) = false ∧ z.length + 2 ≤ sizeLine ∧ Φ (.lst ((Txt.split z b).map D.str)) M2) (hs : starEach [e] X.env = [(false, eval e X.env)] := by rfl) (hbase : attributeBase o "split" X.env (eval o X.env) = eval o X.env := by rfl) (hline : (apos.endLine == pos.line) = true := by rfl) : WE X ρ M (.Call (.Attribute o "split" apos) [e] [] pos) Φ :=
  we_m1 F.slot_str_split F.type_str_split mt_split (h.imp fun d M1 ⟨z, e1, h⟩ => ⟨z, e1, h.imp fun y M2 ⟨b, e2, h1, h2, h⟩ Z H Q u w r k => by
    subst e2
    cases r
    exact ⟨z, b, rfl, rfl, h1, h2, fun q hq => k.new w hq (.lst upd_same (w.fresh hq) (Reps.ofStrs _)) h⟩⟩) hs hbase hline
end
end DL
/-! PMN: the names of a plan, ascending, none twice. -/
namespace PL
open PySem PySem.Spec SX TL PyProof.Rows DL
def leZ (a b : Str) : Bool := !ltCps b.cps.toList a.cps.toList
theorem leZ_iff (a b : Str) : leZ a b = true ↔ a.cps.toList ≤ b.cps.toList := by
  unfold leZ
  rw [ltCps_eq, Bool.not_eq_true', decide_eq_false_iff_not]
  exact List.not_lt
theorem str_ext {a b : Str} (h : a.cps.toList = b.cps.toList) : a = b := by
  obtain ⟨⟨a⟩⟩ := a
  obtain ⟨⟨b⟩⟩ := b
  simp only at h
  subst h; rfl
theorem leZ_trans {a b c : Str} (h : leZ a b = true) (g : leZ b c = true) : leZ a c = true := (leZ_iff _ _).mpr (List.le_trans ((leZ_iff _ _).mp h) ((leZ_iff _ _).mp g))
theorem leZ_total (a b : Str) : leZ a b = true ∨ leZ b a = true := (List.le_total a.cps.toList b.cps.toList).imp (leZ_iff _ _).mpr (leZ_iff _ _).mpr
theorem leZ_anti {a b : Str} (h : leZ a b = true) (g : leZ b a = true) : a = b := str_ext (List.le_antisymm ((leZ_iff _ _).mp h) ((leZ_iff _ _).mp g))
theorem rising_pw : ∀ (p : Str) (l : List Str), risingS p l = true → (p :: l).Pairwise fun a b => leZ a b = true
  | p, [], _ => List.pairwise_cons.mpr ⟨fun _ h => (nomatch h), List.Pairwise.nil⟩
  | p, x :: r, h => by
    obtain ⟨h1, h2⟩ := Bool.and_eq_true_iff.mp (show (leZ p x && risingS x r) = true from h)
    have ih := rising_pw x r h2
    refine List.pairwise_cons.mpr ⟨fun y hy => ?_, ih⟩
    rcases List.mem_cons.mp hy with rfl | hy
    · exact h1
    · exact leZ_trans h1 (List.rel_of_pairwise_cons ih hy)
theorem sorted_pw : ∀ (l : List Str), sortedS l = true → l.Pairwise fun a b => leZ a b = true
  | [], _ => .nil
  | x :: r, h => rising_pw x r h
def insZ (x : Str) : List Str → List Str
  | [] => [x]
  | y :: r => if leZ x y = true then x :: y :: r else y :: insZ x r
theorem insZ_perm (x : Str) : ∀ l : List Str, (insZ x l).Perm (x :: l)
  | [] => .refl _
  | y :: r => by
    unfold insZ
    split
    · exact .refl _
    · exact ((insZ_perm x r).cons y).trans (.swap x y r)
theorem insZ_pw (x : Str) : ∀ l : List Str, (l.Pairwise fun a b => leZ a b = true) → (insZ x l).Pairwise fun a b => leZ a b = true
  | [], _ => List.pairwise_cons.mpr ⟨fun _ h => (nomatch h), List.Pairwise.nil⟩
  | y :: r, h => by
    obtain ⟨h1, h2⟩ := List.pairwise_cons.mp h
    unfold insZ
    split
    · rename_i q
      refine List.pairwise_cons.mpr ⟨fun z hz => ?_, h⟩
      rcases List.mem_cons.mp hz with rfl | hz
      · exact q
      · exact leZ_trans q (h1 z hz)
    · rename_i q
      refine List.pairwise_cons.mpr ⟨fun z hz => ?_, insZ_pw x r h2⟩
      rcases List.mem_cons.mp ((insZ_perm x r).mem_iff.mp hz) with rfl | hz
      · exact (leZ_total z y).resolve_left q
      · exact h1 z hz
def srtZ (l : List Str) : List Str := l.foldr insZ []
theorem srtZ_perm : ∀ l : List Str, (srtZ l).Perm l
  | [] => .refl _
  | x :: l => (insZ_perm x (srtZ l)).trans ((srtZ_perm l).cons x)
theorem srtZ_pw : ∀ l : List Str, (srtZ l).Pairwise fun a b => leZ a b = true
  | [] => .nil
  | x :: l => insZ_pw x _ (srtZ_pw l)
/-- ascending, none twice -/
def nmsOf (zs : List Str) : List Str := srtZ (dedZ [] zs)
theorem pw_perm_eq : ∀ {l m : List Str}, (l.Pairwise fun a b => leZ a b = true) → (m.Pairwise fun a b => leZ a b = true) → l.Perm m → l = m
  | [], m, _, _, p => (List.Perm.nil_eq p)
  | x :: l, [], _, _, p => absurd p.length_eq (by simp)
  | x :: l, y :: m, h, g, p => by
    obtain ⟨h1, h2⟩ := List.pairwise_cons.mp h
    obtain ⟨g1, g2⟩ := List.pairwise_cons.mp g
    have e : x = y := by
      rcases List.mem_cons.mp (p.mem_iff.mp List.mem_cons_self) with e | hx
      · exact e
      · rcases List.mem_cons.mp (p.mem_iff.mpr List.mem_cons_self) with e | hy
        · exact e.symm
        · exact leZ_anti (h1 y hy) (g1 x hx)
    subst e
    rw [pw_perm_eq h2 g2 ((List.perm_cons x).mp p)]
theorem nmsOf_uniq {zs ys : List Str} (p : ys.Perm (dedZ [] zs)) (h : sortedS ys = true) : ys = nmsOf zs := pw_perm_eq (sorted_pw ys h) (srtZ_pw _) (p.trans (srtZ_perm _).symm)
theorem nmsOf_mem (zs : List Str) (k : Str) : k ∈ nmsOf zs ↔ k ∈ zs := by
  unfold nmsOf
  rw [(srtZ_perm _).mem_iff, dedZ_mem]
  simp
theorem nmsOf_nd (zs : List Str) : (nmsOf zs).Nodup := (srtZ_perm _).nodup_iff.mpr (dedZ_nd [] zs .nil)
theorem nmsOf_len (zs : List Str) : (nmsOf zs).length ≤ zs.length := by
  unfold nmsOf
  rw [(srtZ_perm _).length_eq]
  have := dedZ_len [] zs
  simpa using this
theorem nmsOf_congr {zs ws : List Str} (h : ∀ k, k ∈ zs ↔ k ∈ ws) : nmsOf zs = nmsOf ws :=
  pw_perm_eq (srtZ_pw _) (srtZ_pw _) ((List.perm_ext_iff_of_nodup (nmsOf_nd zs) (nmsOf_nd ws)).mpr fun k => by rw [nmsOf_mem, nmsOf_mem]; exact h k)
theorem nmsOf_nil : nmsOf [] = [] := rfl
theorem nmsOf_one (x : Str) : nmsOf [x] = [x] := rfl
mutual
/-- the names, as they stand in the text -/
def lv : T → List Str
  | .one => []
  | .name x => [S x]
  | .cop _ _ t => lv t
  | .row _ ts => lvL ts
def lvL : List T → List Str
  | [] => []
  | t :: ts => lv t ++ lvL ts
end
theorem lvL_flat : ∀ ts : List T, lvL ts = ts.flatMap lv
  | [] => rfl
  | t :: ts => by rw [lvL, lvL_flat ts, List.flatMap_cons]
def nmT (t : T) : List Str := nmsOf (lv t)
theorem lv_kids {t : T} (h : ∀ x, t ≠ .name x) : lv t = (kids t).flatMap fun q => lv q.2 := by
  cases t with
  | one => rw [lv]; rfl
  | name x => exact absurd rfl (h x)
  | cop s n u => rw [lv]; simp [kids]
  | row s ts => rw [lv, lvL_flat, kids, List.flatMap_map]
theorem lv_told : ∀ {t : T}, Told t → lv t = []
  | .one, _ => by rw [lv]
  | .name x, h => h.elim
  | .cop s n u, h => by rw [lv]; exact lv_told h
  | .row s ts, h => by
    rw [lv, lvL_flat]
    exact List.flatMap_eq_nil_iff.mpr fun u hu => lv_told (tolds_all.mp h u hu)
theorem nmT_told {t : T} (h : Told t) : nmT t = [] := by unfold nmT; rw [lv_told h]; rfl
theorem nmT_mem (t : T) (k : Str) : k ∈ nmT t ↔ k ∈ lv t := nmsOf_mem _ _
theorem nmT_len (t : T) : (nmT t).length ≤ (lv t).length := nmsOf_len _
/-- the names of the parts, put together -/
theorem nmT_kids {t : T} (h : ∀ x, t ≠ .name x) : nmsOf ((kids t).flatMap fun q => nmT q.2) = nmT t := by
  unfold nmT
  rw [lv_kids h]
  refine nmsOf_congr fun k => ?_
  simp only [List.mem_flatMap, nmsOf_mem]
theorem flat_len {α : Type} (f g : α → List Str) (h : ∀ x, (f x).length ≤ (g x).length) : ∀ l : List α, (l.flatMap f).length ≤ (l.flatMap g).length
  | [] => Nat.le_refl _
  | x :: l => by
    rw [List.flatMap_cons, List.flatMap_cons, List.length_append, List.length_append]
    have := h x
    have := flat_len f g h l
    omega
theorem kid_names {t : T} {q : Nat × T} (hq : q ∈ kids t) : (nmT q.2).length ≤ (nmT t).length ∧ (lv q.2).length ≤ (lv t).length := by
  have hn : ∀ x, t ≠ .name x := fun x e => by rw [e] at hq; simp [kids] at hq
  have e := lv_kids hn
  constructor
  · refine List.Nodup.length_le_of_subset (nmsOf_nd _) fun k hk => ?_
    rw [nmT_mem] at hk ⊢
    rw [e]
    exact List.mem_flatMap.mpr ⟨q, hq, hk⟩
  · rw [e]
    generalize kids t = l at hq
    induction l with
    | nil => cases hq
    | cons a r ih =>
      rw [List.flatMap_cons, List.length_append]
      rcases List.mem_cons.mp hq with rfl | hq
      · omega
      · have := ih hq
        omega
end PL
/-! C6: Plan's methods. -/
namespace W
open PySem PySem.Spec PyProof.Rows L2 DL SX PL
section
variable {P : Program} {w : World} {K : PySem.W.Frag} {mg : Str → Option Value} {base : Heap} {C : Addr}
abbrev nInit : List Str := ["self", "text", "groups", "many", "part"]
theorem mul_ok {n p m : Nat} (h1 : n ≤ 10 ^ 30) (h2 : p < 16 ^ m) (h3 : m ≤ 100000) : CMulW (n : Nat) (p : Nat) := by
  show ((n : Int)).natAbs.log2 + ((p : Int)).natAbs.log2 < 1000000
  rw [Int.natAbs_natCast, Int.natAbs_natCast]
  have e1 := log16 h2
  have e2 : n < 16 ^ 26 := Nat.lt_of_le_of_lt h1 (by decide)
  have e3 := log16 e2
  omega
theorem sum_cast {α : Type} (f : α → Nat) : ∀ l : List α, (l.map fun q => ((f q : Nat) : Int)).sum = (((l.map f).sum : Nat) : Int)
  | [] => rfl
  | x :: l => by simp [sum_cast f l]
theorem ok_init (h : Nat) (F : Fx w K mg) (X : Px K mg C) (F1 : Fc P w K mg base "is_plan_text" [] (h + 4) 2 (cPlanText h)) (F2 : Fc P w K mg base "names_in" [] (h + 4) 1 (cNamesIn h)) (F3 : Fc P w K mg base "groups_in" [] 3 1 cGroupsIn)
    (F4 : ∀ j, h = j + 1 → Kc P w K mg base "Plan" C [] (2 * j + 6) 2 (cInit C j)) : BodyOk P w K mg base "Plan.__init__" s_Plan___init__ nInit 2 (2 * h + 5) (cInit C h) := by
  intro f cdv A outer s H E hr ds M Φ hl hc
  obtain ⟨a, t, rfl, hg, htd, hl, hh, h60, hM, hc⟩ := hc
  have nd : nInit.Nodup := by decide +kernel
  have hk := kids_len hg
  obtain ⟨ps, hcmp⟩ := grp_cmp hg
  -- nothing is wrong
  refine wss_cons (ws_if (wt_ww (ww_or (wt_not (wt_val (we_isi (F.bn _ (by decide +kernel)) (we_var 1 rfl (we_bty (F.bn _ (by decide +kernel)) rfl ⟨_, _, true, rfl, rfl, (by intro C h; cases h), rfl, _, rfl, ?_⟩))))))))
  refine ww_or (wt_not (wt_val (we_call F1 (hr.mono (by omega)) (wa_cons (we_var 1 rfl (wa_cons (we_int (wa_nil ⟨rfl, t, 0, rfl, hg, by omega, hh, by omega, _, rfl, ?_⟩))))))))
  refine ww_or1 (wt_gtI (we_len (F.bn _ (by decide +kernel)) (we_call F2 (hr.mono (by omega)) (wa_cons (we_var 1 rfl (wa_nil ⟨rfl, t, rfl, hg, htd, by omega, hh, _, lenL, we_gint F.gMOST_NAMES ⟨_, _, rfl, rfl, ?_⟩⟩))))))
  refine wss_nil ?_
  -- the fields
  refine wss_cons (ws_fld (C := C) (we_var 1 rfl (we_var 0 rfl ⟨a, _, rfl, hM, X.cl, X.na _ (by decide +kernel), by decide, ?_⟩)))
  rw [put1]
  refine wss_cons (ws_fld (C := C) (we_tupleOf (F.bn _ (by decide +kernel)) (we_call F2 (hr.mono (by omega)) (wa_cons (we_var 1 rfl (wa_nil ⟨rfl, t, rfl, hg, htd, by omega, hh, _, .inl rfl, we_var 0 rfl ⟨a, _, rfl, mset_same, X.cl, X.na _ (by decide +kernel), sl1, ?_⟩⟩))))))
  rw [mset_mset, put2]
  refine wss_cons (ws_asg (we_call F3 (hr.mono (by omega)) (wa_cons (we_var 1 rfl (wa_nil ⟨rfl, t, rfl, hg, by omega, ?_⟩)))))
  refine wg_tup ⟨rfl, rfl, wgs_cons (wg_fld (C := C) (we_var 0 rfl ⟨a, _, rfl, mset_same, X.cl, X.na _ (by decide +kernel), sl2, wgs_cons (wg_name 2 (wgs_nil ⟨rfl, ?_⟩) nd)⟩))⟩
  rw [mset_mset, put3]
  refine wss_cons (ws_fld (C := C) (we_lc nd (blkOk_by (N := nInit) (sc := defScope s_Plan___init__) (own := [("many", 3), ("part", 4)]) (by decide +kernel)) (fun _ _ _ _ _ => pg_tup rfl (pgs_cons (pg_name (i := 3) nd rfl (Or.inl rfl)) (pgs_cons (pg_name (i := 4) nd rfl (Or.inl rfl)) pgs_nil)) rfl rfl) (gt_two (by decide) (by decide)) (fun _ _ _ _ _ => pts_nil) tk_nil
    (wi_list (we_var 2 rfl ⟨_, .inl rfl, ?_⟩))))
  refine ⟨by rw [grpD, List.length_map, sizeLine_eq]; omega, fun i acc M' => M' = mset M a (.ins C (f3 (tS (txt t)) (.tup []) (.str (wordT t)))) ∧ acc = ((kids t).take i).map fun q => .tup [.int (q.1 : Nat), planD C q.2], ⟨rfl, rfl⟩, ?_, ?_⟩
  · rintro i x acc M' hx ⟨rfl, rfl⟩
    rw [grpD, List.getElem?_map] at hx
    obtain ⟨q, hq, rfl⟩ := Option.map_eq_some_iff.mp hx
    have hm := List.mem_of_getElem? hq
    obtain ⟨g1, g2, g3, g4, g5⟩ := kids_ok hm hg
    refine ⟨_, _, rfl, ?_⟩
    intro s1 H1 C' cl fp
    obtain ⟨j, rfl⟩ : ∃ j, h = j + 1 := ⟨h - 1, by omega⟩
    refine we_tup (wa_cons (we_var 3 rfl (wa_cons (we_plan (F4 j rfl) (hr.mono (by omega)) (we_var 4 rfl ⟨q.2, rfl, g1, kids_told hm htd, by omega, by omega, by omega, wa_nil ⟨sz2, rfl, ?_⟩⟩)))))
    rw [take_snoc hq, List.map_append]; rfl
  rintro acc M' ⟨rfl, rfl⟩
  refine we_var 0 rfl ⟨a, _, rfl, mset_same, X.cl, X.na _ (by decide +kernel), sl3, ?_⟩
  have el : (grpD t).length = (kids t).length := by rw [grpD, List.length_map]
  rw [mset_mset, put4, el, List.take_length]
  obtain ⟨c, r, ec, hcop⟩ := cop_in hg
  refine wss_cons (ws_fld (C := C) (we_inS (we_slice (we_var 1 rfl (we_int ⟨1, rfl, _, .inr (.inr ⟨_, rfl, by rw [S_len, sizeLine_eq]; omega, rfl⟩), we_txts ⟨_, _, rfl, .inl rfl, we_var 0 rfl ⟨a, _, rfl, mset_same, X.cl, X.na _ (by decide +kernel), sl4, ?_⟩⟩⟩)))))
  rw [mset_mset, put5, show cutS (S (txt t)) none (some 1) = S [c] by rw [ec, cut_1], hcop]
  -- people
  have fin : ∀ n : Int, n = (ppl t : Nat) → Φ .non (mset (mset M a (.ins C (f5 (tS (txt t)) (.tup []) (.str (wordT t)) (.lst (subsD C t)) (.bl (isCop t))))) a (.ins C (putD "own_people" (.int n) (f5 (tS (txt t)) (.tup []) (.str (wordT t)) (.lst (subsD C t)) (.bl (isCop t)))))) := fun n hn => by
    rw [mset_mset, put6, hn]
    exact hc
  refine wss_cons (ws_fld (C := C) (we_if (wt_neNil hr.units (we_var 2 rfl ⟨_, ps, 1, rfl, hcmp, by decide, ?_⟩))))
  by_cases hk0 : kids t = []
  · 
    have e1 : (grpD t).isEmpty = true := by unfold grpD; rw [hk0]; rfl
    rw [e1]
    refine we_int (we_var 0 rfl ⟨a, _, rfl, mset_same, X.cl, X.na _ (by decide +kernel), sl5, ?_⟩)
    exact wss_nil (fin 1 (by rw [ppl_none hk0 hg]; rfl))
  · have e1 : (grpD t).isEmpty = false := by
      unfold grpD
      cases hh2 : kids t with
      | nil => exact absurd hh2 hk0
      | cons q qs => rfl
    rw [e1]
    refine we_sum (F.bn _ (by decide +kernel)) (we_lc nd (blkOk_by (N := nInit) (sc := defScope s_Plan___init__) (own := [("many", 3), ("part", 4)]) (by decide +kernel)) (fun _ _ _ _ _ => pg_tup rfl (pgs_cons (pg_name (i := 3) nd rfl (Or.inl rfl)) (pgs_cons (pg_name (i := 4) nd rfl (Or.inl rfl)) pgs_nil)) rfl rfl) (gt_two (by decide) (by decide)) (fun _ _ _ _ _ => pts_nil) tk_nil
      (wi_list (we_fld (C := C) (we_var 0 rfl ⟨_, _, mset_same, X.cl, X.na _ (by decide +kernel), lk5_groups, _, .inl rfl, ?_⟩))))
    refine ⟨by rw [List.length_map, sizeLine_eq]; omega, fun i acc M' => M' = mset M a (.ins C (f5 (tS (txt t)) (.tup []) (.str (wordT t)) (.lst (subsD C t)) (.bl (isCop t)))) ∧ acc = (((kids t).take i).map fun q => ((q.1 * ppl q.2 : Nat) : Int)).map D.int, ⟨rfl, rfl⟩, ?_, ?_⟩
    · rintro i x acc M' hx ⟨rfl, rfl⟩
      rw [List.getElem?_map] at hx
      obtain ⟨q, hq, rfl⟩ := Option.map_eq_some_iff.mp hx
      have hm := List.mem_of_getElem? hq
      obtain ⟨g1, g2, g3, g4, g5⟩ := kids_ok hm hg
      refine ⟨_, _, rfl, ?_⟩
      intro s1 H1 C' cl fp
      refine we_mulI (we_var 3 rfl (we_fld (C := C) (we_var 4 rfl ⟨_, _, by rw [planD_told (kids_told hm htd)]; exact ⟨rfl, rfl⟩, X.cl, X.na _ (by decide +kernel), lk_people, _, _, rfl, rfl, mul_ok g5 (ppl_lt g1) (by omega), rfl, ?_⟩)))
      rw [take_snoc hq, List.map_append, List.map_append, ← Int.natCast_mul]; rfl
    · rintro acc M' ⟨rfl, rfl⟩
      refine ⟨_, rfl, we_var 0 rfl ⟨a, _, rfl, mset_same, X.cl, X.na _ (by decide +kernel), sl5, ?_⟩⟩
      rw [List.length_map, List.take_length]
      refine wss_nil (fin _ ?_)
      rw [ppl_kids hk0, sum_cast]
end
end W
/-! CN1: names_in of any plan; plans with names as data. -/
namespace W
open PySem PySem.Spec PyProof.Rows L2 DL SX PL
section
variable {P : Program} {w : World} {K : PySem.W.Frag} {mg : Str → Option Value} {base : Heap}
def cNamesN (h : Nat) : Con := fun ds M Φ => ∃ t, ds = [tS (txt t)] ∧ Good t ∧ (lv t).length < 1000 ∧ (txt t).length ≤ 1000000 ∧ ht t ≤ h ∧ Φ (.lst ((nmT t).map D.str)) M
theorem wordT_nn {t : T} (h : ∀ x, t ≠ .name x) : decide (wordT t = ("name" : Str)) = false := by
  cases t with
  | one => decide +kernel
  | name x => exact absurd rfl (h x)
  | cop s n u =>
    show decide (wrd s = ("name" : Str)) = false
    cases s <;> decide +kernel
  | row s ts =>
    show decide (wrd s = ("name" : Str)) = false
    cases s <;> decide +kernel
theorem nmT_name (x : List Nat) : nmT (.name x) = [S x] := by
  unfold nmT
  rw [lv]; rfl
abbrev nNin : List Str := ["text", "word", "groups", "found", "many", "part", "name"]
theorem ok_names_n (h : Nat) (F : Fx w K mg) (F1 : Fc P w K mg base "groups_in" [] 3 1 cGroupsIn) (F2 : ∀ j, h = j + 1 → Fc P w K mg base "names_in" [] (j + 4) 1 (cNamesN j)) :
    BodyOk P w K mg base "names_in" s_names_in nNin 1 (h + 3) (cNamesN h) := by
  intro f cdv A outer s H E hr ds M Φ hl hc
  obtain ⟨t, rfl, hg, hlv, hl, hh, hc⟩ := hc
  have nd : nNin.Nodup := by decide +kernel
  refine wss_cons (ws_asg (we_call F1 (hr.mono (by omega)) (wa_cons (we_var 0 rfl (wa_nil ⟨rfl, _, rfl, hg, hl, ?_⟩)))))
  refine wg_tup ⟨rfl, rfl, wgs_cons (wg_name 1 (wgs_cons (wg_name 2 (wgs_nil ⟨rfl, ?_⟩) nd)) nd)⟩
  refine wss_cons (ws_if (wt_eqS (we_var 1 rfl (we_gstr F.gNAME ⟨_, rfl, ?_⟩))))
  by_cases hn : ∃ x, t = .name x
  · obtain ⟨x, rfl⟩ := hn
    rw [show decide (wordT (.name x) = ("name" : Str)) = true from rfl]
    rw [nmT_name] at hc
    exact wss_cons (ws_ret (we_lst (wa_cons (we_var 0 rfl (wa_nil ⟨sz1, Lets.of (by rw [txt] at *; exact hc)⟩)))))
  have hn : ∀ x, t ≠ .name x := fun x e => hn ⟨x, e⟩
  rw [wordT_nn hn]
  have hk := kids_len hg
  have tot : ∀ i, (((kids t).take i).flatMap fun q => nmT q.2).length < 1000 := fun i => by
    have h1 := flat_len (fun q : Nat × T => nmT q.2) (fun q => lv q.2) (fun q => nmT_len q.2) (kids t)
    rw [← lv_kids hn] at h1
    have h2 : (((kids t).take i).flatMap fun q => nmT q.2).length ≤ ((kids t).flatMap fun q => nmT q.2).length := by
      conv => rhs; rw [← List.take_append_drop i (kids t)]
      rw [List.flatMap_append, List.length_append]
      omega
    omega
  refine wss_nil (wss_cons (ws_set 3 nd (we_lstM (wa_nil ⟨Nat.zero_le _, fun p hp => ?_⟩))))
  refine wss_cons (ws_for PassesOwn.never (wi_list (we_var 2 rfl ⟨_, .inl rfl, ?_⟩)))
  refine ⟨fun i ρ' M' => ∃ o1 o2, ρ' = [some (tS (txt t)), some (.str (wordT t)), some (.lst (grpD t)), some (.ob p), o1, o2, none] ∧ M' = mset M p (.lst ((((kids t).take i).flatMap fun q => nmT q.2).map D.str)), ⟨_, _, rfl, rfl⟩, ?_, ?_⟩
  · rintro i x ρ' M' hx ⟨o1, o2, rfl, rfl⟩
    rw [grpD, List.getElem?_map] at hx
    obtain ⟨q, hq, rfl⟩ := Option.map_eq_some_iff.mp hx
    have hm := List.mem_of_getElem? hq
    obtain ⟨g1, g2, g3, g4, g5⟩ := kids_ok hm hg
    obtain ⟨n1, n2⟩ := kid_names hm
    refine wg_tup ⟨rfl, rfl, wgs_cons (wg_name 4 (wgs_cons (wg_name 5 (wgs_nil ⟨rfl, ?_⟩) nd)) nd)⟩
    obtain ⟨j, rfl⟩ : ∃ j, h = j + 1 := ⟨h - 1, by omega⟩
    have e : ((kids t).take (i + 1)).flatMap (fun q => nmT q.2) = ((kids t).take i).flatMap (fun q => nmT q.2) ++ nmT q.2 := by
      rw [take_snoc hq, List.flatMap_append]; simp
    have h1000 := tot (i + 1)
    rw [e, List.length_append] at h1000
    refine wss_cons (ws_expr (we_extend (we_var 3 rfl ⟨p, _, rfl, mset_same, we_call (F2 j rfl) (hr.mono (by omega)) (wa_cons (we_var 5 rfl (wa_nil ⟨rfl, q.2, rfl, g1, by omega, by omega, by omega, _, _, mset_same, rfl, ?_, ?_⟩)))⟩)))
    · rw [List.length_map, List.length_map, sizeLine_eq]; omega
    rw [mset_mset, ← List.map_append, ← e]
    exact wss_nil ⟨_, _, rfl, rfl⟩
  · rintro ρ' M' ⟨o1, o2, rfl, rfl⟩
    have el : (grpD t).length = (kids t).length := by rw [grpD, List.length_map]
    rw [el, List.take_length]
    have h1000 := tot (kids t).length
    rw [List.take_length] at h1000
    refine wss_let (M' := M) (ρ' := [some (tS (txt t)), some (.str (wordT t)), some (.lst (grpD t)), some (.lst (((kids t).flatMap fun q => nmT q.2).map D.str)), none, none, none]) (les_new hp) ?_ ?_
    · exact .val (.same _) (.val (.same _) (.val (.same _) (.val (.lst mset_same hp) (.drop (.drop (.drop .nil))))))
    refine wss_cons (ws_ret (we_sortedSetS (F.bn _ (by decide +kernel)) (F.bn _ (by decide +kernel)) (we_lc nd (blkOk_by (N := nNin) (sc := defScope s_names_in) (own := [("name", 6)]) (by decide +kernel)) (fun _ _ _ _ _ => pg_name (i := 6) nd rfl (Or.inl rfl)) (gt_name (by decide)) (fun _ _ _ _ _ => pts_nil) tk_nil
      (wi_list (we_var 3 rfl ⟨_, .inl rfl, ?_⟩)))))
    refine ⟨by rw [List.length_map, sizeLine_eq]; omega, fun i acc M' => M' = M ∧ acc = (((kids t).flatMap fun q => nmT q.2).take i).map D.str, ⟨rfl, rfl⟩, ?_, ?_⟩
    · rintro i x acc M' hx ⟨rfl, rfl⟩
      rw [List.getElem?_map] at hx
      obtain ⟨z, hz, rfl⟩ := Option.map_eq_some_iff.mp hx
      intro s1 H1 C' cl fp
      refine we_strS (F.bn _ (by decide +kernel)) (we_var 6 rfl ⟨z, rfl, rfl, ?_⟩)
      rw [take_snoc hz, List.map_append]; rfl
    · rintro acc M' ⟨rfl, rfl⟩
      refine ⟨(kids t).flatMap fun q => nmT q.2, by rw [List.length_map, List.take_length]; rfl, by omega, fun ys hy hs => Lets.of ?_⟩
      rw [nmsOf_uniq hy hs, nmT_kids hn]
      exact hc
end
mutual
/-- the plan as an instance of the class at C, with its names -/
def planN (C : Addr) : T → D
  | .one => .ins C (six (tS (txt .one)) (.tup []) (.str (wordT .one)) (.lst []) (.bl false) (.int (ppl .one : Nat)))
  | .name x => .ins C (six (tS (txt (.name x))) (.tup ((nmT (.name x)).map D.str)) (.str (wordT (.name x))) (.lst []) (.bl false) (.int (ppl (.name x) : Nat)))
  | .cop s n t => .ins C (six (tS (txt (.cop s n t))) (.tup ((nmT (.cop s n t)).map D.str)) (.str (wordT (.cop s n t))) (.lst [.tup [.int (n : Nat), planN C t]]) (.bl true) (.int (ppl (.cop s n t) : Nat)))
  | .row s ts => .ins C (six (tS (txt (.row s ts))) (.tup ((nmT (.row s ts)).map D.str)) (.str (wordT (.row s ts))) (.lst (plansN C ts)) (.bl false) (.int (ppl (.row s ts) : Nat)))
def plansN (C : Addr) : List T → List D
  | [] => []
  | t :: ts => .tup [.int ((1 : Nat) : Int), planN C t] :: plansN C ts
end
theorem plansN_map (C : Addr) : ∀ ts : List T, plansN C ts = ts.map fun t => .tup [.int ((1 : Nat) : Int), planN C t]
  | [] => by rw [plansN]; rfl
  | t :: ts => by rw [plansN, plansN_map C ts, List.map_cons]
def subsN (C : Addr) (t : T) : List D := (kids t).map fun q => .tup [.int (q.1 : Nat), planN C q.2]
def fldsN (C : Addr) (t : T) : List (Str × D) := six (tS (txt t)) (.tup ((nmT t).map D.str)) (.str (wordT t)) (.lst (subsN C t)) (.bl (isCop t)) (.int (ppl t : Nat))
theorem planN_ins (C : Addr) (t : T) : planN C t = .ins C (fldsN C t) := by
  cases t with
  | one =>
    rw [planN]; unfold fldsN
    rw [nmT_told (t := .one) trivial]; rfl
  | name x => rw [planN]; rfl
  | cop s n t => rw [planN]; rfl
  | row s ts =>
    rw [planN, plansN_map]
    unfold fldsN subsN kids
    rw [List.map_map]; rfl
mutual
theorem planN_told (C : Addr) : ∀ {t : T}, Told t → planN C t = planD C t
  | .one, _ => by rw [planN, planD]
  | .name x, h => h.elim
  | .cop s n t, h => by
    have h' : Told t := h
    rw [planN, planD, planN_told C h', nmT_told (t := .cop s n t) h]; rfl
  | .row s ts, h => by
    have h' : Tolds ts := h
    rw [planN, planD, plansN_told C h', nmT_told (t := .row s ts) h]; rfl
theorem plansN_told (C : Addr) : ∀ {ts : List T}, Tolds ts → plansN C ts = plansD C ts
  | [], _ => by rw [plansN, plansD]
  | t :: ts, h => by rw [plansN, plansD, planN_told C h.1, plansN_told C h.2]
end
end W
/-! DL33: an instance made without arguments. -/
namespace DL
open PySem PySem.Spec PyProof.Rows L2
section
variable {X : Cx} {ρ : Rho} {M : Mp} {Φ : D → Mp → Prop} {pos p : Pos} {x : Str} {k n : Nat} {c : Con} {dd : List D}
theorem we_make0 {C : Addr} (F : Kc X.prog X.w X.K X.mg X.base x C dd k n c) (hr : Room (k + 1) X.A)
    (h : ∀ a, M a = none → (D.ob a :: dd).length = n ∧ c (.ob a :: dd) (mset M a (.ins C [])) fun d M2 => d = .non ∧ Lets Φ (.ob a) M2) (hg : Gl X x := by rfl)
    (hdb : (x == ("__debug__" : Str)) = false := by decide) : WE X ρ M (.Call (.Name x p) [] [] pos) Φ := .mk fun σ H Q en w k => by
  obtain ⟨f, fd, ps, dvs, ds, F', hm, hbd, hd, hdd⟩ := F.ex
  refine eOf (pe_make0 (E := E0) hm F' hr hg F.at_ hbd hd pass0 hdb) ?_
  intro a dx ha hdx ne
  obtain ⟨hl, hz⟩ := h a (w.fresh ha).1
  have ha1 : (upd H dx (.own a)) a = none := by rw [upd_ne (Ne.symm ne)]; exact ha
  have x1 : Ext M _ H M (upd H dx (.own a)) := Ext.new w hdx
  have wa := w.new (o := .own a) hdx
  have x2 : Ext M _ (upd H dx (.own a)) (mset M a (.ins C [])) (upd (upd H dx (.own a)) a (.ins C dx [])) := Ext.newM wa ha1
  have x12 := x1.trans x2
  refine ⟨.ob a :: dd, mset M a (.ins C []), _, _, hl, .cons (.ob a) (hdd _ _ _), wa.newM ha1 ⟨dx, [], upd_same, .nil⟩, hz, fun v d H2 M2 x3 w2 r2 hy => ?_⟩
  obtain ⟨rfl, hy⟩ := hy
  cases r2
  exact ⟨rfl, lets_k (k.step x12) _ _ H2 M2 x3 w2 (.ob a) hy⟩
end
end DL
/-! DL45: a dict display with one key, a tuple of texts. -/
namespace DL
open PySem PySem.Spec PyProof.Rows L2
section
variable {X : Cx} {pos : Pos} {k v : Expr} {tk tv : TE}
def tDispT (tk tv : TE) : TE := fun σ H Q => ∀ p, H p = none → tk σ (upd H p (.dT [])) fun x H1 => tv σ H1 fun y H2 => H2 p = some (.dT []) ∧ ∃ b ks, x = .ref b ∧ H2 b = some (.tup (List.map kV ks)) ∧ Q (.ref p) (upd H2 p (.dT [(ks, y)]))
theorem pe_dispT (hu : X.A.units < cLine) (hk : PE X k tk) (hv : PE X v tv) : PE X (.Dict [some k] [v] pos) (tDispT tk tv) := by
  refine ⟨fun pins s σ H Q I q => ?_⟩
  have hn := I.hok.fresh (Nat.le_refl s.heap.objs.size)
  have I1 := I.laid (a := s.heap.objs.size) (o := .dT []) (h' := s.heap.push { cls := .type "dict", data := .dict #[] }) (t' := s.toks) (fun _ _ q => Heap.get?_push_of_some _ q) (Nat.le_refl _) (dt_empty s.heap I.big)
  rw [arm_eval_Dict, zip_pairTrees [some k] [v] X.env pos rfl rfl, dictDisplay_pairs _ (by simp [pairTrees]) (by simp [pairTrees])]
  refine wpAny_bind (wpAny_standAt (wpAny_bind ?_))
  unfold subDict
  refine wpAny_bind (wpAny_alloc ?_)
  refine wpAny_bind (wpAny_holding ?_)
  rw [if_pos (by simp [pairTrees])]
  refine wpAny_bind (wpAny_mono (Q := fun vs s' => ∃ u w2 x y H2, vs = [(u, w2)] ∧ L2.Inv X pins σ H2 s' ∧ RelV x u ∧ RelV y w2 ∧ H2 s.heap.objs.size = some (.dT []) ∧ ∃ b ks, x = .ref b ∧ H2 b = some (.tup (List.map kV ks)) ∧ Q (.ref s.heap.objs.size) (upd H2 s.heap.objs.size (.dT [(ks, y)])))
    (pairTrees_cons_walk (thn (hk.run pins _ σ _ _ I1 (q _ hn)) fun u s1 ⟨x, H1, I2, rx, q1⟩ => thn (hv.run pins s1 σ H1 _ I2 q1) fun w2 s2 ⟨y, H2, I3, ry, q2⟩ => pairTrees_nil_walk ⟨u, w2, x, y, H2, rfl, I3, rx, ry, q2⟩)) (fun vs s1 h1 => ?_) fun _ _ e => e)
  obtain ⟨u, w2, x, y, H2, rfl, I3, rx, ry, e, b, ks, rfl, eb, q2⟩ := h1
  cases (show u = Value.ref b from rx)
  obtain ⟨z, hd, xs, rel, dd⟩ := dt_of I3.hok e
  refine wpAny_holding ?_
  refine wpAny_bind ?_
  rw [List.forIn_cons]
  refine wpAny_bind (wpAny_bind (wpAny_dictSet_heap (hsz := by rw [← Paired.length rel]; exact z) hu (key_of I3.hok eb) dd fun h' dd' hs => wpAny_pure ?_))
  show wpAny _ _ (forIn [] PUnit.unit _) _ _ _
  rw [List.forIn_nil]
  refine wpAny_pure (wpAny_pure (wpAny_pure (wpAny_pure ?_)))
  obtain ⟨o, es, ep, hq, h2, h3, h4, _, h5⟩ := dd'
  refine ⟨.ref s.heap.objs.size, _, ?_, rfl, q2⟩
  refine d_write I3 (by rw [e]; exact True.intro) hs ⟨o, hq⟩ ⟨by show 1 ≤ sizeLine; rw [sizeLine_eq]; decide, hd, _, (rel.put ks eb ry).keeps fun c ys ec => ?_, o, es, ep, hq, h2, h3, h4, h5⟩
  rw [upd_ne (ne_of ec e (fun z => nomatch z))]
  exact ec
end
section
variable {X : Cx} {ρ : Rho} {M : Mp} {Φ : D → Mp → Prop}
/-- {k: e}, k a tuple of texts and ints -/
theorem we_dispT {a1 b1 : Expr} {dp : Pos} (hu : X.A.units < cLine) (h : WE X ρ M a1 fun x1 M1 => WE X ρ M1 b1 fun y1 M2 => ∃ ks, x1 = .key ks ∧ Φ (.dT [(ks, y1)]) M2) : WE X ρ M (.Dict [some a1] [b1] dp) Φ := .mk fun {Z} σ H Q en w k => by
  refine eOf (pe_dispT hu pe_sem pe_sem) ?_
  intro t ht
  have zne := w.zne ht
  have xh : ExI M Z H M (hid Z t) (upd H t (.dT [])) := hide_x ht
  have wh : Wd X.K M (hid Z t) (upd H t (.dT [])) := hide_w w ht
  have en0 := en.monoI xh
  refine h.run σ _ _ en0 wh fun v1 x1 H1 M1 e1 w1 r1 hz => ?_
  refine hz.run σ H1 _ (en0.mono e1) w1 fun u1 y1 H2 M2 e2 w2 s1 hz2 => ?_
  have e12 := e1.trans e2
  obtain ⟨ks, rfl, hz2⟩ := hz2
  cases r1 with
  | key hb mb =>
    have hT : H2 t = some (.dT []) := (e12.2 t (.inr rfl)).1.trans upd_same
    have mT : M2 t = none := (w2.2 t (.inr rfl)).1
    have x0 : ExI M Z H M2 (hid Z t) H2 := xh.trans e12.i
    refine ⟨hT, _, ks, rfl, (e2.i _ _ hb mb).1, ?_⟩
    refine k _ (.dT [(ks, y1)]) _ M2 ⟨(x0.trans hidput_x).trans show_x, fun b z => ?_⟩ (show_w (hidput_w w2)) (.dT upd_same ⟨mT, fun z => zne t z rfl⟩ (.cons ((s1.monoI hidput_x).monoI show_x) .nil)) hz2
    have n := zne b z
    have := e12.2 b (.inl z)
    exact ⟨by rw [upd_ne n, this.1, upd_ne n], this.2⟩
end
end DL
/-! XL7: a lambda is called in the def that got it. -/
namespace XL
open PySem PySem.W PySem.Calls PyProof.Rows PySem.HandSPX L2 LamX
theorem pe_actV {X : Cx} {pins : List (Addr × Obj)} {σ : L2.St} {H : Hp} {s : Shared} {CXg : CXT} {Eg : XK} {Ng : List Str} {qg : Str} {sg : Scope} {g : Addr} {cdg : Value} {k i : Nat} {a : Str} {pn : List (Addr × Obj)} {xe : Value → Shared → Prop} {W : WX} {E : L2.St → XK} {p1 p2 : Pos} {tb : XK → Arguments → Expr → Scope → TE}
    (I : L2.Inv X pins σ H s) (tk : Takes ((cxOf CXg X.prog X.w X.K X.mg X.base Ng qg sg g cdg X.A X.stack s H Eg).tr pn xe) W) (hW : ∀ σZ cls d H', E σZ cls d H' → W cls d σZ H')
    (hr : Room (k + 1) (X.A.deeper (envOfC qg sg s.heap.objs.size g cdg)))
    (hbody : ∀ (E : XK) (params : Arguments) (body : Expr) (scope : Scope) (f c' : Addr) (A : Around) (outer : List Env) (s : Shared) (H : Hp), Room k (A.deeper (lamEnv X scope s.heap.objs.size f c')) → PE (lamCx X A outer s H E scope f c') body (tb E params body scope))
    (hN : Ng[i]? = some a) (hv : Vis sg a) (hd : (a == ("__debug__" : Str)) = false) (hcd : (a == ("__classdict__" : Str)) = false) :
    PE ((cxOf CXg X.prog X.w X.K X.mg X.base Ng qg sg g cdg X.A X.stack s H Eg).tr pn xe) (.Call (.Name a p1) [] [] p2)
      (fun σZ HZ Q => ∃ (f c' : Addr) (params : Arguments) (body : Expr) (scope : Scope), σZ[i]? = some (some (.ref f)) ∧ HZ f = some (LamO f (X.env.qual ++ "<lambda>") params body scope (cloFrom X.env.cells scope.names []) c') ∧ HZ c' = some (CodeO c' (X.env.qual ++ "<lambda>")) ∧
        LamS X.env.scope scope ∧ (∀ (pm cv ctv : Value), bindArgs (PySem.W.kla_fn "<lambda>" (X.env.qual ++ "<lambda>") params body scope (cloFrom X.env.cells scope.names []) pm cv ctv) ⟨[], []⟩ = pure []) ∧ tb (E σZ) params body scope σ HZ Q) := by
  refine ⟨fun pinsZ sZ σZ HZ Q IZ h => ?_⟩
  obtain ⟨f, c', params, body, scope, hs, hfo, hc, L, hbind, ht⟩ := h
  refine wpAny_Call_Name_kw (thn ((pe_var hN hv hd hcd).run pinsZ sZ σZ HZ (fun v H1 => v = V.ref f ∧ H1 = HZ) IZ ⟨.ref f, hs, rfl, rfl⟩) fun u s1 hh => ?_)
  obtain ⟨v, H1, I1, r1, rfl, rfl⟩ := hh
  obtain rfl : u = Value.ref f := r1
  obtain ⟨pm, ctv, of1⟩ := lamO_get I1.hok hfo
  refine PySem.W.callWith_F0 ⟨_, _, _, _, of1⟩ ?_
  have un := I1.base
  have hco := I1.hok c' _ hc
  unfold CodeO ObjOk at hco
  obtain ⟨⟨oc, vs, t, hoc, hdc, hvc⟩, _, _⟩ := hco
  have rc : codeAny (model X.prog X.w) (X.A.deeper (envOfC qg sg s.heap.objs.size g cdg)) (.call (.ref f) ⟨[], []⟩) (CR (CX X.prog X.w) (envOfC qg sg s.heap.objs.size g cdg :: X.stack) X.prog X.w H1 s1 Q (E σZ)) s1 := by
    refine PySem.W.kla_callFunE hr.depth of1 rfl L.co L.gen rfl ⟨c', oc, vs, t, rfl, hoc, hdc, hvc⟩ ?_
    rw [hbind]
    refine wpAny_pure (wpAny_newFunctionEnv (fun y hy => (L.own y hy).2) (fun y hy => absurd hy List.not_mem_nil) (fun h₁ hns hsb => ⟨I1.nolimit.fresh _ hsb, ?_⟩) L.kind)
    have kp : ∀ b o, s1.heap.get? b = some o → h₁.get? b = some o := fun b o e => hsb.extBut b o (Nat.ne_of_lt (Heap.lt_size e)) (Heap.get?_push_of_some _ e)
    have J := lam_start2 (tk := s1.toks + ([] : List (Str × Value)).length) (E := E σZ) (f := f) (c' := c') I L I1.env0 hr.hd un hns kp
    exact PySem.W.kla_codeExpr (wpAny_mono ((hbody (E σZ) params body scope f c' _ _ s1 H1 (hr.deeper _)).run [] _ σ H1 Q J ht) (fun v s' hq => by
      obtain ⟨w', H', J', rv, q⟩ := hq
      exact ⟨w', H', J'.os, J'.bare, J'.base, J'.hok, rv, q⟩) fun e s' hq => hq)
  refine wpAny_call (codeAny_mono rc fun r s' hq => ?_)
  cases r with
  | error e =>
    obtain ⟨a, B, H', cls, d, y1, y2, y3, y4, y5, y6, y7, y8⟩ := hq
    exact passAt tk σZ pinsZ H1 s1 e s' I1 ⟨a, B, H', cls, d, y1, y2, y3, y4, y5, y6, y7, hW _ _ _ _ y8⟩
  | ok fl =>
    cases fl with
    | ret u => exact I1.after hq
    | next => exact hq.elim
    | brk => exact hq.elim
    | cont => exact hq.elim
end XL
/-! DX1: judgements for what may raise; contracts of defs that raise. -/
namespace DL
open PySem PySem.Spec PyProof.Rows L2
/-- what is wanted where an error is raised: its class, its fields -/
abbrev Xi := Addr → List (Str × D) → Mp → Prop
def KX (K : PySem.W.Frag) (M : Mp) (Z : Zn) (H : Hp) (Ξ : Xi) (E : XK) : Prop := ∀ C fs vs d H' M', Ext M Z H M' H' → Wd K M' Z H' → H' d = some (.xd vs) → Im M' Z d → RepF K M' Z H' vs fs → Ξ C fs M' → E (.ref C) (some d) H'
theorem KX.step {K : PySem.W.Frag} {M M1 : Mp} {Z : Zn} {H H1 : Hp} {Ξ : Xi} {E : XK} (k : KX K M Z H Ξ E) (e : Ext M Z H M1 H1) : KX K M1 Z H1 Ξ E := fun C fs vs d H' M' x w h m r z => k C fs vs d H' M' (e.trans x) w h m r z
/-- X takes what is raised as E, whatever stands in the slots -/
def TakesE (X : Cx) (E : XK) : Prop := Takes X fun cls d _ H => E cls d H
theorem TakesE.pass {X : Cx} {E : XK} (t : TakesE X E) : Passes (CX X.prog X.w) X E := fun pins σ H s e s' I q => passes_call (E := E) t (fun _ _ _ _ z => z) pins σ H s e s' I q
theorem pass_no {X : Cx} : Passes (CX X.prog X.w) X (fun _ _ _ => False) := fun pins σ H s e s' I q => by
  obtain ⟨a, B, H', cls, d, _, _, _, _, _, _, _, z⟩ := q
  exact z.elim
structure WEx (X : Cx) (ρ : Rho) (M : Mp) (e : Expr) (Φ : D → Mp → Prop) (Ξ : Xi) : Prop where
  run : ∀ {Z : Zn} σ H (Q : VK) (E : XK), EnvR X.K M Z H σ ρ → Wd X.K M Z H → KE X.K M Z H Φ Q → TakesE X E → KX X.K M Z H Ξ E → eSem X e σ H Q
structure WTx (X : Cx) (ρ : Rho) (M : Mp) (e : Expr) (Φ : Bool → Mp → Prop) (Ξ : Xi) : Prop where
  run : ∀ {Z : Zn} σ H (Q : Bool → Hp → Prop) (E : XK), EnvR X.K M Z H σ ρ → Wd X.K M Z H → KT X.K M Z H Φ Q → TakesE X E → KX X.K M Z H Ξ E → tSem X e σ H Q
structure WAx (X : Cx) (ρ : Rho) (M : Mp) (es : List Expr) (Φ : List D → Mp → Prop) (Ξ : Xi) : Prop where
  run : ∀ {Z : Zn} σ H (Q : List V → Hp → Prop) (E : XK), EnvR X.K M Z H σ ρ → Wd X.K M Z H → KA X.K M Z H Φ Q → TakesE X E → KX X.K M Z H Ξ E → aSem X es σ H Q
structure WSx (X : Cx) (ρ : Rho) (M : Mp) (st : Stmt) (Ψ : DE) (Ξ : Xi) : Prop where
  run : ∀ {Z : Zn} σ H (D : Ends) (E : XK), EnvR X.K M Z H σ ρ → Wd X.K M Z H → KS X.K M Z H Ψ D → TakesE X E → KX X.K M Z H Ξ E → sSem X st D σ H
structure WSsx (X : Cx) (ρ : Rho) (M : Mp) (st : List Stmt) (Ψ : DE) (Ξ : Xi) : Prop where
  run : ∀ {Z : Zn} σ H (D : Ends) (E : XK), EnvR X.K M Z H σ ρ → Wd X.K M Z H → KS X.K M Z H Ψ D → TakesE X E → KX X.K M Z H Ξ E → ssSem X st D σ H
section
variable {X : Cx} {ρ : Rho} {M : Mp} {Φ : D → Mp → Prop} {Ξ : Xi} {Ψ : DE} {e a b : Expr} {es : List Expr} {st : Stmt} {sts rest : List Stmt} {pos p : Pos} {x : Str}
theorem WE.up (h : WE X ρ M e Φ) : WEx X ρ M e Φ Ξ := .mk fun σ H Q E en w k _ _ => h.run σ H Q en w k
theorem WT.up {Φ : Bool → Mp → Prop} (h : WT X ρ M e Φ) : WTx X ρ M e Φ Ξ := .mk fun σ H Q E en w k _ _ => h.run σ H Q en w k
theorem WA.up {Φ : List D → Mp → Prop} (h : WA X ρ M es Φ) : WAx X ρ M es Φ Ξ := .mk fun σ H Q E en w k _ _ => h.run σ H Q en w k
theorem WS.up (h : WS X ρ M st Ψ) : WSx X ρ M st Ψ Ξ := .mk fun σ H Q E en w k _ _ => h.run σ H Q en w k
theorem WSs.up (h : WSs X ρ M sts Ψ) : WSsx X ρ M sts Ψ Ξ := .mk fun σ H Q E en w k _ _ => h.run σ H Q en w k
theorem wssx_nil (h : Ψ.nx ρ M) : WSsx X ρ M [] Ψ Ξ := (wss_nil h).up
theorem wssx_cons (h : WSx X ρ M st { Ψ with nx := fun ρ' M' => WSsx X ρ' M' rest Ψ Ξ } Ξ) : WSsx X ρ M (st :: rest) Ψ Ξ := .mk fun σ H D E en w k t kx =>
  ssOf (pss_cons ps_sem pss_sem) (h.run σ H _ E en w ⟨fun σ' ρ' H' M' x w' en' z => z.run σ' H' D E en' w' (k.step x) t (kx.step x), k.rt, k.bk, k.ct⟩ t kx)
theorem wsx_expr (h : WEx X ρ M e (fun _ M1 => Ψ.nx ρ M1) Ξ) (hs : swapsWith e none pos.line X.env = pure false := by rfl) : WSx X ρ M (.Expr e pos) Ψ Ξ := .mk fun σ H D E en w k t kx =>
  sOf (ps_expr pe_sem hs) (h.run σ H _ E en w (fun v d H1 M1 e1 w1 r1 hz => k.nx σ ρ H1 M1 e1 w1 (en.mono e1) hz) t kx)
theorem wsx_ret (h : WEx X ρ M e Ψ.rt Ξ) : WSx X ρ M (.Return (some e) pos) Ψ Ξ := .mk fun σ H D E en w k t kx => sOf (ps_ret pe_sem) (h.run σ H _ E en w k.rt t kx)
theorem wsx_if {c : Expr} {sa sb : List Stmt} (h : WTx X ρ M c (fun b' M1 => if b' = true then WSsx X ρ M1 sa Ψ Ξ else WSsx X ρ M1 sb Ψ Ξ) Ξ) : WSx X ρ M (.If c sa sb pos) Ψ Ξ := .mk fun σ H D E en w k t kx =>
  sOf (ps_if pt_sem pss_sem pss_sem) (h.run σ H _ E en w (fun c H1 M1 e1 w1 hz => by
    cases c with
    | true => exact WSsx.run hz σ H1 D E (en.mono e1) w1 (k.step e1) t (kx.step e1)
    | false => exact WSsx.run hz σ H1 D E (en.mono e1) w1 (k.step e1) t (kx.step e1)) t kx)
/-- raise C(e) -/
theorem wsx_raise {C : Addr} {k : Nat} {pos2 : Pos} (hc : X.calm = true) (T : XL.Er X.prog X.K X.mg x C) (hr : Room k X.A) (h : WE X ρ M e fun d M1 => ∃ d' M2, Les M2 M1 ∧ Fz M1 M2 d d' ∧ Ξ C [("value", d')] M2) (hg : Gl X x := by rfl) (hdb : (x == ("__debug__" : Str)) = false := by decide)
    (he : starEach (e :: []) X.env = (false, eval e X.env) :: starEach [] X.env := by rfl) (hpl : (backTo pos (starEach [] X.env)).any (·.1) = false := by rfl) : WSx X ρ M (.Raise (some (.Call (.Name x p) [e] [] pos)) none pos2) Ψ Ξ := .mk fun σ H D E en w k t kx =>
  sOf (XL.ps_raiseE hc T hr t (pa_sem (es := [e])) hg hdb he hpl) ((wa_cons (es := []) (ΦA := fun ds M1 => ∃ d, ds = [d] ∧ ∃ d' M2, Les M2 M1 ∧ Fz M1 M2 d d' ∧ Ξ C [("value", d')] M2) (h.imp fun d M1 z => wa_nil ⟨d, rfl, z⟩) he).run σ H _ en w fun vs ds H1 M1 e1 w1 r1 hz => by
    obtain ⟨d, rfl, d', M2, l, f, hz⟩ := hz
    cases r1 with
    | cons r1 r2 =>
      cases r2
      rename_i v
      refine ⟨v, rfl, fun q hq => ?_⟩
      have x2 : Ext M1 _ H1 M1 (upd H1 q (.xd [("value", v)])) := Ext.new w1 hq
      have w2 := w1.new (o := .xd [("value", v)]) hq
      have r3 := f.rep l w2 (r1.mono x2)
      exact kx C _ _ q _ M2 ((e1.trans x2).trans (l.ext w2)) (l.w w2) upd_same (l.x (H := upd H1 q (.xd [("value", v)])) q _ upd_same (w1.fresh hq)).2 (.cons r3 .nil) hz)
end
end DL
/-! DX2: contracts of defs and methods that may raise. -/
namespace DL
open PySem PySem.Spec PyProof.Rows L2
/-- a contract with what is wanted where an error is raised -/
abbrev ConX := List D → Mp → (D → Mp → Prop) → Xi → Prop
def spX (K : PySem.W.Frag) (n : Nat) (c : ConX) : Sp := fun vs H Q E => ∃ ds M Z Φ Ξ, ds.length = n ∧ Reps K M Z H vs ds ∧ Wd K M Z H ∧ c ds M Φ Ξ ∧ KE K M Z H Φ Q ∧ KX K M Z H Ξ E
/-- the context of a body that may raise -/
abbrev bxX (P : Program) (w : World) (K : PySem.W.Frag) (mg : Str → Option Value) (base : Heap) (N : List Str) (qual : Str) (scope : Scope) (f : Addr) (cdv : Value) (A : Around) (outer : List Env) (s : Shared) (H : Hp) (E : XK) : Cx :=
  cxOf (CX P w) P w K mg base N qual scope f cdv A outer s H E
/-- a body keeps a contract -/
def BodyX (P : Program) (w : World) (K : PySem.W.Frag) (mg : Str → Option Value) (base : Heap) (qual : Str) (st : Stmt) (N : List Str) (n k : Nat) (c : ConX) : Prop :=
  ∀ (f : Addr) (cdv : Value) (A : Around) (outer : List Env) (s : Shared) (H : Hp) (E : XK), Room k (A.deeper (envOfC qual (defScope st) s.heap.objs.size f cdv)) → ∀ ds M Φ Ξ, ds.length = n → c ds M Φ Ξ →
      WSsx (bxX P w K mg base N qual (defScope st) f cdv A outer s H E) (start N ds) M (defBody st) { nx := fun _ M' => Φ .non M', rt := Lets Φ } Ξ
section
variable {P : Program} {w : World} {K : PySem.W.Frag} {mg : Str → Option Value} {base : Heap} {x qual : Str} {st : Stmt} {dvs : List V} {kws : List (Str × V)} {f : Addr} {fd : FuncData} {N ps : List Str} {k n : Nat} {c : ConX}
theorem fnX_ok (F : FunD K x qual (defArgs st) (defBody st) (defScope st) dvs kws f fd) (S : FnScope N ps (defScope st)) (h : BodyX P w K mg base qual st N ps.length k c) : FnOk P w K mg base (CX P w) (k + 1) f fd ps (spX K ps.length c) := by
  obtain ⟨oc, od, dV, kV, doc, pm, an, cdv, ct, osl, rfl, lk, hcd, _, _⟩ := F.ex
  have ln : ∀ vs H Q E, spX K ps.length c vs H Q E → vs.length = ps.length := fun vs H Q E q => by
    obtain ⟨ds, M, Z, Φ, Ξ, hl, r, _⟩ := q
    rw [r.length, hl]
  refine ⟨ln, fun A outer s H args us vs Q E hr e0 hb rv hsp => ?_⟩
  have hlen := ln _ _ _ _ hsp
  have hK : K.In s.heap := e0.mod.kin.keeps fun b o z => (e0.bs b o z).1
  have hlim : s.heap.NoLimit := e0.mod.nolimit.keeps fun b o z => (e0.bs b o z).1
  have kinds : ∀ y ∈ ps.zip us, (defScope st).names.lookup y.1 = some .local ∨ ((defScope st).names.lookup y.1 = some .cell ∧ ((cellsFrom (s.heap.objs.size + 1) (defScope st).names []).lookup y.1).isSome = true) := fun y hy => by
    rcases S.par y.1 (List.of_mem_zip hy).1 with z | z
    · exact .inl z
    · exact .inr ⟨z, PySem.W.cellsFrom_some _ _ _ (.inl z)⟩
  refine codeAny_call_function hr.depth (hK _ _ lk) rfl S.co S.gen rfl (PySem.W.codeRec_of hK hcd) (hb _ _ _ _ (wpAny_newFunctionEnv_cells S.kind kinds fun env he s1 xx => ?_))
  subst he
  refine ⟨hlim.keeps xx.toInCall.keep, codeAny_func ?_⟩
  obtain ⟨ds, M, Z, Φ, Ξ, hl, r, wd, hc, kk, kx⟩ := hsp
  have I : Inv (cxOf (CX P w) P w K mg base N qual (defScope st) f cdv A outer s H E) [] (L2.start N vs) H s1 := inv_start S hr.hd e0 hlen rv xx
  have tk : TakesE (cxOf (CX P w) P w K mg base N qual (defScope st) f cdv A outer s H E) E := takes_of rfl rfl rfl rfl
  have body := (h f cdv A outer s H E (hr.deeper _) ds M Φ Ξ hl hc).run (L2.start N vs) H { nx := fun _ H' => Q .non H', rt := Q } E (env_start r) wd ⟨fun σ' ρ' H' M' x w' en z => kk _ .non H' M' x w' .non z, lets_k kk, fun _ _ _ _ _ _ _ z => z.elim, fun _ _ _ _ _ _ _ z => z.elim⟩ tk kx
  have done : ∀ {σ' : L2.St} {H' : Hp} {v : V} {u : Value} {s' : Shared}, Inv (cxOf (CX P w) P w K mg base N qual (defScope st) f cdv A outer s H E) [] σ' H' s' → RelV v u → Q v H' → CE outer P w H s Q u s' := fun {σ' H' v u s'} J ru q => ⟨v, H', J.os, J.bare, J.base, J.hok, ru, q⟩
  refine wpAny_mono ((pss_sem (X := cxOf (CX P w) P w K mg base N qual (defScope st) f cdv A outer s H E)).run [] s1 (L2.start N vs) H _ I body) (fun fl s' hs => ?_) fun e s' hs => hs
  cases fl with
  | ret u => obtain ⟨v, σ', H', J, ru, q⟩ := hs; exact done J ru q
  | next => obtain ⟨σ', H', J, q⟩ := hs; exact done (v := V.non) (u := Value.none) J rfl q
  | brk => obtain ⟨_, _, _, q⟩ := hs; exact q.elim
  | cont => obtain ⟨_, _, _, q⟩ := hs; exact q.elim
end
/-- the global x is a def with this contract -/
structure Fcx (P : Program) (w : World) (K : PySem.W.Frag) (mg : Str → Option Value) (base : Heap) (x : Str) (dd : List D) (k n : Nat) (c : ConX) : Prop where
  ex : ∃ (f : Addr) (fd : FuncData) (ps : List Str) (dvs : List V) (ds : List Value), FnOk P w K mg base (CX P w) k f fd ps (spX K n c) ∧ mg x = some (.ref f) ∧ PySem.W.keepIn K (.ref f) = true ∧ Binds K fd ps ds ∧ Vals dvs ds ∧ ∀ M Z H, Reps K M Z H dvs dd
/-- the method m of the class at C has this contract -/
structure Mcx (P : Program) (w : World) (K : PySem.W.Frag) (mg : Str → Option Value) (base : Heap) (C : Addr) (m : Str) (dd : List D) (k n : Nat) (c : ConX) : Prop where
  cl : Cls K C
  ex : ∃ (f : Addr) (fd : FuncData) (ps : List Str) (dvs : List V) (ds : List Value), FnOk P w K mg base (CX P w) k f fd ps (spX K n c) ∧ Meth K C m f ∧ Binds K fd ps ds ∧ Vals dvs ds ∧ ∀ M Z H, Reps K M Z H dvs dd
section
variable {X : Cx} {ρ : Rho} {M : Mp} {Φ : D → Mp → Prop} {Ξ : Xi} {e o : Expr} {es : List Expr} {pos p apos : Pos} {x m : Str} {dd : List D} {k n : Nat} {c : ConX}
theorem spX_run {vs dvs : List V} {ds : List D} {M1 : Mp} {Z : Zn} {H1 : Hp} {Q : VK} {E : XK} (r : Reps X.K M1 Z H1 vs ds) (rd : Reps X.K M1 Z H1 dvs dd) (w1 : Wd X.K M1 Z H1) (hz : (ds ++ dd).length = n ∧ c (ds ++ dd) M1 Φ Ξ) (k : KE X.K M1 Z H1 Φ Q) (kx : KX X.K M1 Z H1 Ξ E) : spX X.K n c (vs ++ dvs) H1 Q E :=
  ⟨ds ++ dd, M1, Z, Φ, Ξ, hz.1, r.append rd, w1, hz.2, k, kx⟩
/-- x(e, ..), which may raise -/
theorem wex_call (F : Fcx X.prog X.w X.K X.mg X.base x dd k n c) (hr : Room k X.A) (h : WA X ρ M (e :: es) fun ds M1 => (ds ++ dd).length = n ∧ c (ds ++ dd) M1 Φ Ξ) (hg : Gl X x := by rfl)
    (hdb : (x == ("__debug__" : Str)) = false := by decide) (he : starEach (e :: es) X.env = (false, eval e X.env) :: starEach es X.env := by rfl) (hpl : (backTo pos (starEach es X.env)).any (·.1) = false := by rfl) : WEx X ρ M (.Call (.Name x p) (e :: es) [] pos) Φ Ξ := .mk fun σ H Q E en w k t kx => by
  obtain ⟨f, fd, ps, dvs, ds, F, hm, hk, hb, hd, hdd⟩ := F.ex
  exact eOf (pe_call (E := E) F hr hg hm hk hb hd t.pass pa_sem hdb he hpl) (h.run σ H _ en w fun vs as H1 M1 e1 w1 r1 hz => spX_run r1 (hdd _ _ _) w1 hz (k.step e1) (kx.step e1))
/-- x(e, ..), which does not raise here -/
theorem we_callN (F : Fcx X.prog X.w X.K X.mg X.base x dd k n c) (hr : Room k X.A) (h : WA X ρ M (e :: es) fun ds M1 => (ds ++ dd).length = n ∧ c (ds ++ dd) M1 Φ fun _ _ _ => False) (hg : Gl X x := by rfl)
    (hdb : (x == ("__debug__" : Str)) = false := by decide) (he : starEach (e :: es) X.env = (false, eval e X.env) :: starEach es X.env := by rfl) (hpl : (backTo pos (starEach es X.env)).any (·.1) = false := by rfl) : WE X ρ M (.Call (.Name x p) (e :: es) [] pos) Φ := .mk fun σ H Q en w k => by
  obtain ⟨f, fd, ps, dvs, ds, F, hm, hk, hb, hd, hdd⟩ := F.ex
  exact eOf (pe_call (E := fun _ _ _ => False) F hr hg hm hk hb hd pass_no pa_sem hdb he hpl) (h.run σ H _ en w fun vs as H1 M1 e1 w1 r1 hz => spX_run r1 (hdd _ _ _) w1 hz (k.step e1) fun _ _ _ _ _ _ _ _ _ _ _ z => z)
/-- o.m(e, ..), which may raise -/
theorem wex_meth {C : Addr} {pl : Sem Bool} (F : Mcx X.prog X.w X.K X.mg X.base C m dd k n c) (hr : Room k X.A)
    (h : WE X ρ M o fun d M1 => ∃ fs, InsOf M1 C d fs ∧ fs.lookup m = none ∧ WA X ρ M1 (e :: es) fun as M2 => (d :: (as ++ dd)).length = n ∧ c (d :: (as ++ dd)) M2 Φ Ξ)
    (hst : starEach (e :: es) X.env = (false, eval e X.env) :: starEach es X.env := by rfl) (hpl : (backTo pos (starEach es X.env)).any (·.1) = false := by rfl)
    (ht : eval (.Call (.Attribute o m apos) (e :: es) [] pos) X.env = (do
      let ov ← eval o X.env
      standAt apos.atName
      let (f, first) ← holding [ov] (getMethod ov m pl)
      callWith pos f first (backTo pos (starEach (e :: es) X.env)) (backToKw pos (keywordEach [] X.env))) := by rfl) : WEx X ρ M (.Call (.Attribute o m apos) (e :: es) [] pos) Φ Ξ := .mk fun σ H Q E en w k t kx => by
  obtain ⟨f, fd, ps, dvs, ds, F', hm, hbd, hd, hdd⟩ := F.ex
  refine eOf (pe_meth (pl := pl) (E := E) pe_sem F.cl hm F' hr hbd hd t.pass pa_sem hst hpl ht) (h.run σ H _ en w fun v d H1 M1 e1 w1 r1 hz => ?_)
  obtain ⟨fs, hi, hl, hz⟩ := hz
  obtain ⟨a, dx, vs, rfl, ha, rf⟩ := r1.asIns w1 hi
  refine ⟨a, dx, vs, rfl, ha, (rf.lookup m).1 hl, hz.run σ H1 _ (en.mono e1) w1 fun us as H2 M2 e2 w2 r2 hy => ?_⟩
  exact ⟨d :: (as ++ dd), M2, _, Φ, Ξ, hy.1, .cons (r1.mono e2) (r2.append (hdd _ _ _)), w2, hy.2, k.step (e1.trans e2), kx.step (e1.trans e2)⟩
theorem we_methN {C : Addr} {pl : Sem Bool} (F : Mcx X.prog X.w X.K X.mg X.base C m dd k n c) (hr : Room k X.A)
    (h : WE X ρ M o fun d M1 => ∃ fs, InsOf M1 C d fs ∧ fs.lookup m = none ∧ WA X ρ M1 (e :: es) fun as M2 => (d :: (as ++ dd)).length = n ∧ c (d :: (as ++ dd)) M2 Φ fun _ _ _ => False)
    (hst : starEach (e :: es) X.env = (false, eval e X.env) :: starEach es X.env := by rfl) (hpl : (backTo pos (starEach es X.env)).any (·.1) = false := by rfl)
    (ht : eval (.Call (.Attribute o m apos) (e :: es) [] pos) X.env = (do
      let ov ← eval o X.env
      standAt apos.atName
      let (f, first) ← holding [ov] (getMethod ov m pl)
      callWith pos f first (backTo pos (starEach (e :: es) X.env)) (backToKw pos (keywordEach [] X.env))) := by rfl) : WE X ρ M (.Call (.Attribute o m apos) (e :: es) [] pos) Φ := .mk fun σ H Q en w k => by
  obtain ⟨f, fd, ps, dvs, ds, F', hm, hbd, hd, hdd⟩ := F.ex
  refine eOf (pe_meth (pl := pl) (E := fun _ _ _ => False) pe_sem F.cl hm F' hr hbd hd pass_no pa_sem hst hpl ht) (h.run σ H _ en w fun v d H1 M1 e1 w1 r1 hz => ?_)
  obtain ⟨fs, hi, hl, hz⟩ := hz
  obtain ⟨a, dx, vs, rfl, ha, rf⟩ := r1.asIns w1 hi
  refine ⟨a, dx, vs, rfl, ha, (rf.lookup m).1 hl, hz.run σ H1 _ (en.mono e1) w1 fun us as H2 M2 e2 w2 r2 hy => ?_⟩
  exact ⟨d :: (as ++ dd), M2, _, Φ, _, hy.1, .cons (r1.mono e2) (r2.append (hdd _ _ _)), w2, hy.2, k.step (e1.trans e2), fun _ _ _ _ _ _ _ _ _ _ _ z => z⟩
end
end DL
/-! DX3: defs of the text that may raise; errors as data. -/
namespace DL
open PySem PySem.Spec PyProof.Rows L2
section
variable {P : Program} {w : World} {K : PySem.W.Frag} {mg : Str → Option Value} {base : Heap} {x qual : Str} {st : Stmt} {N ps : List Str} {j k n : Nat} {c : ConX} {dd : List D} {C : Addr} {m : Str} {f : Addr}
theorem Df.fx (D : Df K mg x st []) (S : FnScope N ps (defScope st))
    (hb : ∀ (kV doc pm : Value) (an : Option Addr) (cdv ct : Value) (us : List Value), us.length = ps.length → bindArgs (PySem.W.fnOf x x (defArgs st) (defBody st) (defScope st) .none kV doc pm an cdv ct) ⟨us, []⟩ = pure (ps.zip us))
    (h : BodyX P w K mg base x st N ps.length k c) : Fcx P w K mg base x [] (k + 1) ps.length c := by
  obtain ⟨f, fd, F, hm⟩ := D.ex
  exact ⟨f, fd, ps, [], [], fnX_ok F S h, hm, F.kp, F.bindsN hb, .nil, fun _ _ _ => .nil⟩
theorem Df.fxD {dvs : List V} (D : Df K mg x st dvs) (S : FnScope N ps (defScope st)) (nn jj : Nat) (hd : dvs ≠ []) (hn : nn + (dvs.length - jj) = ps.length) (hr : ∀ M Z H, Reps K M Z H (dvs.drop jj) dd)
    (hb : ∀ (T : Addr) (kV doc pm : Value) (an : Option Addr) (cdv ct : Value) (us its : List Value), us.length = nn → its.length = dvs.length →
      ∃ k, bindArgs (PySem.W.fnOf x x (defArgs st) (defBody st) (defScope st) (.ref T) kV doc pm an cdv ct) ⟨us, []⟩ = seqItems? (.ref T) >>= k ∧ k (some its.toArray) = pure (ps.zip (us ++ its.drop jj)))
    (h : BodyX P w K mg base x st N ps.length k c) : Fcx P w K mg base x dd (k + 1) ps.length c := by
  obtain ⟨f, fd, F, hm⟩ := D.ex
  obtain ⟨ds, hv, hB⟩ := F.binds1 (ps := ps) nn jj hd hn hb
  exact ⟨f, fd, ps, dvs.drop jj, ds, fnX_ok F S h, hm, F.kp, hB, hv, hr⟩
theorem Md.mx (D : Md K C m qual st f) (cl : Cls K C) (me : Meth K C m f) (S : FnScope N ps (defScope st))
    (hb : ∀ (kV doc pm : Value) (an : Option Addr) (cdv ct : Value) (us : List Value), us.length = ps.length → bindArgs (PySem.W.fnOf m qual (defArgs st) (defBody st) (defScope st) .none kV doc pm an cdv ct) ⟨us, []⟩ = pure (ps.zip us))
    (h : BodyX P w K mg base qual st N ps.length k c) : Mcx P w K mg base C m [] (k + 1) ps.length c := by
  obtain ⟨fd, F⟩ := D.ex
  exact ⟨cl, f, fd, ps, [], [], fnX_ok F S h, me, F.bindsN hb, .nil, fun _ _ _ => .nil⟩
theorem Fcx.up (F : Fcx P w K mg base x dd j n c) (h : j ≤ k) : Fcx P w K mg base x dd k n c := by
  obtain ⟨f, fd, ps, dvs, ds, F, r⟩ := F.ex
  exact ⟨f, fd, ps, dvs, ds, F.mono h, r⟩
theorem Mcx.up (F : Mcx P w K mg base C m dd j n c) (h : j ≤ k) : Mcx P w K mg base C m dd k n c := by
  obtain ⟨f, fd, ps, dvs, ds, G, r⟩ := F.ex
  exact ⟨F.cl, f, fd, ps, dvs, ds, G.mono h, r⟩
/-- the class of the name x, the contract of its __init__, which may raise -/
structure Kcx (P : Program) (w : World) (K : PySem.W.Frag) (mg : Str → Option Value) (base : Heap) (x : Str) (C : Addr) (dd : List D) (k n : Nat) (c : ConX) : Prop where
  at_ : mg x = some (.ref C)
  ex : ∃ (f : Addr) (fd : FuncData) (ps : List Str) (dvs : List V) (ds : List Value), FnOk P w K mg base (CX P w) k f fd ps (spX K n c) ∧ Mk K C f ∧ Binds K fd ps ds ∧ Vals dvs ds ∧ ∀ M Z H, Reps K M Z H dvs dd
theorem Md.kx (D : Md K C "__init__" qual st f) (hm : mg x = some (.ref C)) (me : Mk K C f) (S : FnScope N ps (defScope st))
    (hb : ∀ (kV doc pm : Value) (an : Option Addr) (cdv ct : Value) (us : List Value), us.length = ps.length → bindArgs (PySem.W.fnOf "__init__" qual (defArgs st) (defBody st) (defScope st) .none kV doc pm an cdv ct) ⟨us, []⟩ = pure (ps.zip us))
    (h : BodyX P w K mg base qual st N ps.length k c) : Kcx P w K mg base x C [] (k + 1) ps.length c := by
  obtain ⟨fd, F⟩ := D.ex
  exact ⟨hm, f, fd, ps, [], [], fnX_ok F S h, me, F.bindsN hb, .nil, fun _ _ _ => .nil⟩
theorem Kcx.up (F : Kcx P w K mg base x C dd j n c) (h : j ≤ k) : Kcx P w K mg base x C dd k n c := by
  obtain ⟨f, fd, ps, dvs, ds, G, r⟩ := F.ex
  exact ⟨F.at_, f, fd, ps, dvs, ds, G.mono h, r⟩
end
/-- an error behind which some objects are let go -/
def LetX (Ξ : Xi) : Xi := fun C fs M => ∃ M', Les M' M ∧ Ξ C fs M'
theorem letX_k {K : PySem.W.Frag} {M : Mp} {Z : Zn} {H : Hp} {Ξ : Xi} {E : XK} (k : KX K M Z H Ξ E) : KX K M Z H (LetX Ξ) E := fun C fs vs d H' M' x w h m r z => by
  obtain ⟨M2, l, z⟩ := z
  exact k C fs vs d H' M2 (x.trans (l.ext w)) (l.w w) h (l.x d _ h m).2 (r.monoI l.x) z
section
variable {X : Cx} {ρ : Rho} {M : Mp} {Φ : D → Mp → Prop} {Ξ : Xi} {Ψ : DE} {e a b o : Expr} {es : List Expr} {sts : List Stmt} {st : Stmt} {pos p apos : Pos} {x m : Str} {dd : List D} {k n : Nat} {c : ConX}
theorem WSsx.letX (h : WSsx X ρ M sts Ψ (LetX Ξ)) : WSsx X ρ M sts Ψ Ξ := .mk fun σ H D E en w k t kx => h.run σ H D E en w k t (letX_k kx)
theorem WSx.letX (h : WSx X ρ M st Ψ (LetX Ξ)) : WSx X ρ M st Ψ Ξ := .mk fun σ H D E en w k t kx => h.run σ H D E en w k t (letX_k kx)
/-- C(e, ..), whose __init__ may raise -/
theorem wex_make {C : Addr} (F : Kcx X.prog X.w X.K X.mg X.base x C dd k n c) (hr : Room (k + 1) X.A)
    (h : WA X ρ M (e :: es) fun as M1 => ∀ a, M1 a = none → (.ob a :: (as ++ dd)).length = n ∧ c (.ob a :: (as ++ dd)) (mset M1 a (.ins C [])) (fun d M2 => d = .non ∧ Lets Φ (.ob a) M2) (LetX Ξ)) (hg : Gl X x := by rfl)
    (hdb : (x == ("__debug__" : Str)) = false := by decide) (he : starEach (e :: es) X.env = (false, eval e X.env) :: starEach es X.env := by rfl) (hpl : (backTo pos (starEach es X.env)).any (·.1) = false := by rfl) : WEx X ρ M (.Call (.Name x p) (e :: es) [] pos) Φ Ξ := .mk fun σ H Q E en w k t kx => by
  obtain ⟨f, fd, ps, dvs, ds, F', hm, hbd, hd, hdd⟩ := F.ex
  refine eOf (pe_make (E := E) hm F' hr hg F.at_ hbd hd t.pass pa_sem hdb he hpl) (h.run σ H _ en w fun vs as H1 M1 e1 w1 r1 hz => ?_)
  intro a dx ha hdx ne
  obtain ⟨hl, hz⟩ := hz a (w1.fresh ha).1
  have ha1 : (upd H1 dx (.own a)) a = none := by rw [upd_ne (Ne.symm ne)]; exact ha
  have x1 : Ext M1 _ H1 M1 (upd H1 dx (.own a)) := Ext.new w1 hdx
  have wa := w1.new (o := .own a) hdx
  have x2 : Ext M1 _ (upd H1 dx (.own a)) (mset M1 a (.ins C [])) (upd (upd H1 dx (.own a)) a (.ins C dx [])) := Ext.newM wa ha1
  have x12 := x1.trans x2
  refine ⟨.ob a :: (as ++ dd), mset M1 a (.ins C []), _, _, _, hl, .cons (.ob a) ((r1.mono x12).append (hdd _ _ _)), wa.newM ha1 ⟨dx, [], upd_same, .nil⟩, hz, fun v d H2 M2 x3 w2 r2 hy => ?_, letX_k (kx.step (e1.trans x12))⟩
  obtain ⟨rfl, hy⟩ := hy
  cases r2
  exact ⟨rfl, lets_k (k.step (e1.trans x12)) _ _ H2 M2 x3 w2 (.ob a) hy⟩
/-- isinstance(v, C), v an error -/
theorem call_isX : CallR X (.builtin "isinstance") (fun xs H Q => ∃ a C dx fs b c cv, xs = [.ref a, c] ∧ ClsV c cv ∧ XL.ErV X.K C ∧ H a = some (XL.XV a (.ref C) (some dx)) ∧ H dx = some (.xd fs) ∧ PySem.W.kitOne X.K (.ref C) cv = some b ∧ Q (.bl b) H) := by
  intro pins s σ H xs us Q I r h
  obtain ⟨a, C, dd, fs, b, c, cv, rfl, hc, E, ea, ed, hk, q⟩ := h
  refine XL.call_isV c cv (fun u hu => ?_) pins s σ H _ us Q I r ⟨a, C, dd, fs, b, rfl, E, ea, ed, hk, q⟩
  cases hc with
  | ty n => exact hu
  | own C => exact hu
theorem we_isX (hm : X.mg "isinstance" = none) (h : WE X ρ M a fun x M1 => WE X ρ M1 b fun y M2 => ∃ C fs u c, x = .exc C fs ∧ ClsD y u ∧ XL.ErV X.K C ∧ PySem.W.kitOne X.K (.ref C) u = some c ∧ Φ (.bl c) M2) (hg : Gl X "isinstance" := by rfl)
    (ha : starEach [a, b] X.env = (false, eval a X.env) :: starEach [b] X.env := by rfl) (hb : starEach [b] X.env = (false, eval b X.env) :: starEach [] X.env := by rfl) (hpl : (backTo pos (starEach [b] X.env)).any (·.1) = false := by rfl) : WE X ρ M (.Call (.Name "isinstance" p) [a, b] [] pos) Φ :=
  we_callB call_isX hm (by decide +kernel) (wa_cons (h.imp fun x M1 h => wa_cons (h.imp fun y M2 h => wa_nil fun Z vs H Q w rr k => by
    obtain ⟨v, u, rfl, r1, r2⟩ := rr.two
    obtain ⟨C, fs, cu, c, rfl, h2, E, h3, h⟩ := h
    cases r1 with
    | exc e1 e2 m1 m2 rf =>
      refine ⟨_, C, _, _, c, u, cu, rfl, ?_, E, e1, e2, h3, k.now w (.bl _) h⟩
      cases r2 with
      | ty n => cases h2; exact .ty n
      | fn C => cases h2; exact .own C
      | _ => cases h2) hb) ha) hg (he := ha) (hpl := hpl)
/-- v.value, v an error -/
theorem we_valX {f : Str} (h : WE X ρ M o fun d M1 => ∃ C fs v, d = .exc C fs ∧ XL.ErV X.K C ∧ PySem.W.findIn X.K (.ref C) f = some none ∧ fs.lookup f = some v ∧ Φ v M1) (hb : attributeBase o f X.env (eval o X.env) = eval o X.env := by rfl) : WE X ρ M (.Attribute o f pos) Φ := .mk fun σ H Q en w k =>
  eOf (XL.pe_valV pe_sem hb) (h.run σ H _ en w fun v d H1 M1 e1 w1 r1 hz => by
    obtain ⟨C, fs, y, rfl, E, hno, hl, hz⟩ := hz
    cases r1 with
    | exc q1 q2 m1 m2 rf =>
      obtain ⟨u, hu, ru⟩ := (rf.lookup f).2 y hl
      exact ⟨_, C, _, _, u, rfl, E, hno, q1, q2, hu, (k.step e1).now w1 ru hz⟩)
end
end DL
/-! XL8: a lambda is made, with what the table of code objects holds then. -/
namespace XL
open PySem PySem.W PySem.Calls PyProof.Rows PySem.HandSPX L2 LamX
/-- a lambda is made -/
theorem lam_make4 {X : Cx} {pins : List (Addr × Obj)} {σ : L2.St} {H : Hp} {s : Shared} {c P : Addr} {params : Arguments} {body : Expr} {scope : Scope} {pos : Pos} {E Q : Value → Shared → Prop} (I : L2.Inv X pins σ H s) (TB : TabB X.base X.mg c P) (hcode : X.env.code = .ref c) (hex : X.ex = []) (hT : TabS H P (X.env.qual ++ "<lambda>"))
    (hdef : defaultsOf params X.env = ([], [])) (hfree : ∀ y ∈ scope.names, y.2 = NameKind.free → ∃ c, X.env.cells.lookup y.1 = some c)
    (h : ∀ (f c' : Addr) (H1 : Hp) (s' : Shared), L2.Inv X pins σ H1 s' → (∀ b o, H b = some o → b ≠ P → H1 b = some o) → TabS H1 P (X.env.qual ++ "<lambda>") → H f = none →
      H1 f = some (LamO f (X.env.qual ++ "<lambda>") params body scope (cloFrom X.env.cells scope.names []) c') → H1 c' = some (CodeO c' (X.env.qual ++ "<lambda>")) → f ≠ c' → c' ≠ P → (H c' = none ∨ ∃ ps pos, H P = some (.tbl ps) ∧ codeAmong pos ps.toList = some (.ref c')) →
      (∀ ps1 pos' cv, H1 P = some (.tbl ps1) → codeAmong pos' ps1.toList = some cv → cv = .ref c' ∨ ∃ ps, H P = some (.tbl ps) ∧ codeAmong pos' ps.toList = some cv) → Q (.ref f) s') :
    wpAny (model X.prog X.w) X.A (eval (.Lambda params body scope pos) X.env) Q E s := by
  obtain ⟨ps, hP, ht, ha⟩ := hT
  refine W.kla_eval hdef ?_
  have bP := TB.bm.keeps I.bk
  have hP' := I.hok P (.tbl ps) hP
  cases hc : codeAmong pos ps.toList with
  | none =>
    refine W.kla_makeFunction (closure_ok hfree) I.ok.glob (I.mod.glob.keeps I.bk) hcode (TB.code.keeps I.bk) hP' ht hc TB.gP bP fun c' ctv h' tk hx hge hlt hrec htb => ?_
    obtain ⟨c2, oc, vs, t, e2, hoc, hd, hv⟩ := hrec
    cases e2
    have hsz : s.heap.objs.size ≤ h'.objs.size := Nat.le_trans hge (Nat.le_of_lt hlt)
    have nC : H c' = none := I.hok.fresh hge
    have I1 := inv_table (t' := tk) I hP (fun b o hb e => Heap.get?_push_of_some (W.kla_obj "<lambda>" (X.env.qual ++ "<lambda>") params body scope (cloFrom X.env.cells scope.names []) ((X.mg "__name__").getD .none) c' ctv) (hx b o hb e)) (Heap.get?_push_of_some _ htb) hge ⟨oc, vs, t, Heap.get?_push_of_some _ hoc, hd, hv⟩
    have n1 : h'.objs.size ≠ c' := Nat.ne_of_gt hlt
    have n2 : h'.objs.size ≠ P := Nat.ne_of_gt (Nat.lt_of_lt_of_le (Heap.lt_size hP') hsz)
    have n3 : c' ≠ P := fun z => by rw [z, hP] at nC; cases nC
    have fN0 : H h'.objs.size = none := I.hok.fresh hsz
    have fN : (upd (upd H P (.tbl (ps ++ #[rawInt pos.line, rawInt pos.col, .ref c']))) c' (CodeO c' (X.env.qual ++ "<lambda>"))) h'.objs.size = none := by rw [upd_ne n1, upd_ne n2]; exact fN0
    have I2 := give_lam I I1 hex hsz fN (Heap.get?_push_size h' rfl)
    have kk : ∀ b o, H b = some o → b ≠ P → (upd (upd (upd H P (.tbl (ps ++ #[rawInt pos.line, rawInt pos.col, .ref c']))) c' (CodeO c' (X.env.qual ++ "<lambda>"))) h'.objs.size (LamO h'.objs.size (X.env.qual ++ "<lambda>") params body scope (cloFrom X.env.cells scope.names []) c')) b = some o := fun b o e n => by
      rw [upd_ne (ne_of_none e fN0), upd_ne (ne_of_none e nC), upd_ne n]; exact e
    have hc1 : (upd (upd (upd H P (.tbl (ps ++ #[rawInt pos.line, rawInt pos.col, .ref c']))) c' (CodeO c' (X.env.qual ++ "<lambda>"))) h'.objs.size (LamO h'.objs.size (X.env.qual ++ "<lambda>") params body scope (cloFrom X.env.cells scope.names []) c')) c' = some (CodeO c' (X.env.qual ++ "<lambda>")) := by rw [upd_ne (Ne.symm n1), upd_same]
    have eL : (ps ++ #[rawInt pos.line, rawInt pos.col, .ref c']).toList = ps.toList ++ [rawInt pos.line, rawInt pos.col, .ref c'] := by simp
    have hP1 : (upd (upd (upd H P (.tbl (ps ++ #[rawInt pos.line, rawInt pos.col, .ref c']))) c' (CodeO c' (X.env.qual ++ "<lambda>"))) h'.objs.size (LamO h'.objs.size (X.env.qual ++ "<lambda>") params body scope (cloFrom X.env.cells scope.names []) c')) P = some (.tbl (ps ++ #[rawInt pos.line, rawInt pos.col, .ref c'])) := by rw [upd_ne (Ne.symm n2), upd_ne (Ne.symm n3), upd_same]
    refine h _ c' _ _ I2 kk ⟨_, by rw [upd_ne (Ne.symm n2), upd_ne (Ne.symm n3), upd_same], by rw [eL]; exact TriplesOk_snoc _ _ _ _ ht, fun p' cv hcv => ?_⟩ fN0 upd_same hc1 n1 n3 (.inl nC) (fun ps1 pos' cv e1 hcv => ?_)
    rotate_left
    · rw [hP1] at e1; cases e1
      rw [eL] at hcv
      rcases among_app ps.toList ht hcv with z | z
      · exact .inr ⟨ps, hP, z⟩
      · exact .inl z
    rw [eL] at hcv
    rcases among_app ps.toList ht hcv with z | z
    · obtain ⟨c0, e1, e2⟩ := ha p' cv z
      exact ⟨c0, e1, kk c0 _ e2 (fun q => by rw [q, hP] at e2; cases e2)⟩
    · exact ⟨c', z, hc1⟩
  | some cv =>
    obtain ⟨c', rfl, hco⟩ := ha pos cv hc
    refine W.kla_makeFunctionHit (closure_ok hfree) I.ok.glob (I.mod.glob.keeps I.bk) hcode (TB.code.keeps I.bk) hP' ht hc bP fun ctv h' tk hx hsz => ?_
    have I1 := I.kept (t' := tk) fun b o e => Heap.get?_push_of_some (W.kla_obj "<lambda>" (X.env.qual ++ "<lambda>") params body scope (cloFrom X.env.cells scope.names []) ((X.mg "__name__").getD .none) c' ctv) (hx b o e)
    have fN0 : H h'.objs.size = none := I.hok.fresh hsz
    have I2 := give_lam I I1 hex hsz fN0 (Heap.get?_push_size h' rfl)
    have kk : ∀ b o, H b = some o → (upd H h'.objs.size (LamO h'.objs.size (X.env.qual ++ "<lambda>") params body scope (cloFrom X.env.cells scope.names []) c')) b = some o := fun b o e => by
      rw [upd_ne (ne_of_none e fN0)]; exact e
    refine h _ c' _ _ I2 (fun b o e _ => kk b o e) ⟨ps, kk _ _ hP, ht, fun p' cv hcv => ?_⟩ fN0 upd_same (kk _ _ hco) (fun z => by rw [z, hco] at fN0; cases fN0) (fun z => by rw [z, hP] at hco; cases hco) (.inr ⟨ps, pos, hP, hc⟩) (fun ps1 pos' cv e1 hcv => ?_)
    rotate_left
    · rw [kk _ _ hP] at e1; cases e1
      exact .inr ⟨ps, hP, hcv⟩
    obtain ⟨c0, e1, e2⟩ := ha p' cv hcv
    exact ⟨c0, e1, kk c0 _ e2⟩
end XL
/-! DX4: lambdas as data. -/
namespace DL
open PySem PySem.Spec PyProof.Rows L2
section
variable {X : Cx} {ρ : Rho} {M : Mp} {Φ : D → Mp → Prop} {pos : Pos}
/-- a lambda -/
theorem we_lam {P c : Addr} {params : Arguments} {body : Expr} {scope : Scope} (TB : LamX.TabB X.base X.mg c P) (hcode : X.env.code = .ref c) (hex : X.ex = []) (hM : M P = some (.tbl (X.env.qual ++ "<lambda>"))) (hdef : defaultsOf params X.env = ([], []))
    (hfree : ∀ y ∈ scope.names, y.2 = NameKind.free → ∃ c, X.env.cells.lookup y.1 = some c) (h : Φ (.lam (X.env.qual ++ "<lambda>") params body scope (cloFrom X.env.cells scope.names [])) M) : WE X ρ M (.Lambda params body scope pos) Φ := .mk fun {Z} σ H Q en w k => by
  intro pins s I
  obtain ⟨ps, hP, ht, ha⟩ := w.1 P _ hM
  refine XL.lam_make4 I TB hcode hex ⟨ps, hP, ht, fun p cv z => let ⟨c, e1, e2, _⟩ := ha p cv z; ⟨c, e1, e2⟩⟩ hdef hfree fun f c' H1 s' I1 kk T1 hf hf1 hc1 nfc ncP hor htab => ?_
  have mc : Im M Z c' := by
    rcases hor with e | ⟨ps2, pos2, e1, e2⟩
    · exact w.fresh e
    · rw [hP] at e1; cases e1
      obtain ⟨c, e3, _, m⟩ := ha _ _ e2
      cases e3
      exact m
  have mf : Im M Z f := w.fresh hf
  have x1 : Ext M Z H M H1 := ⟨fun b o e m => ⟨kk b o e (fun z => by rw [z] at m; rw [m.1] at hM; cases hM), m⟩, fun b z => by
    obtain ⟨m, u, e⟩ := w.2 b z
    refine ⟨?_, rfl⟩
    rw [e]
    exact kk b u e fun z => by rw [z, hM] at m; cases m⟩
  have w1 : Wd X.K M Z H1 := by
    refine ⟨fun a o e => ?_, fun a z => ?_⟩
    · by_cases q : a = P
      · rw [q, hM] at e; cases e
        rw [q]
        obtain ⟨ps1, y1, y2, y3⟩ := T1
        refine ⟨ps1, y1, y2, fun p cv z => ?_⟩
        obtain ⟨c2, e1, e2⟩ := y3 p cv z
        subst e1
        refine ⟨c2, rfl, e2, ?_⟩
        rcases htab ps1 p _ y1 z with e3 | ⟨ps2, e3, e4⟩
        · cases e3; exact mc
        · rw [hP] at e3; cases e3
          obtain ⟨c3, e5, _, m⟩ := ha _ _ e4
          cases e5
          exact m
      · have r := w.1 a o e
        obtain ⟨u, hu⟩ := r.there
        exact r.step x1 ((kk a u hu q).trans hu.symm)
    · obtain ⟨m, u, e⟩ := w.2 a z
      exact ⟨m, u, by rw [(x1.2 a z).1]; exact e⟩
  exact ⟨.ref f, H1, I1, rfl, k _ _ H1 M x1 w1 (.lam hf1 hc1 mf mc) h⟩
end
end DL
/-! XL9: a def that calls the lambda it got, and returns the error that it raises, None without one. -/
namespace XL
open PySem PySem.W PySem.Calls PyProof.Rows PySem.HandSPX L2 LamX
/-- look(), E what is wanted where it raises -/
def tAct (X : Cx) (σ : L2.St) (i : Nat) (tb : XK → Arguments → Expr → Scope → TE) (E : L2.St → XK) : TE := fun σZ HZ Q => ∃ (f c' : Addr) (params : Arguments) (body : Expr) (scope : Scope), σZ[i]? = some (some (.ref f)) ∧ HZ f = some (LamO f (X.env.qual ++ "<lambda>") params body scope (cloFrom X.env.cells scope.names []) c') ∧ HZ c' = some (CodeO c' (X.env.qual ++ "<lambda>")) ∧
  LamS X.env.scope scope ∧ (∀ (pm cv ctv : Value), bindArgs (PySem.W.kla_fn "<lambda>" (X.env.qual ++ "<lambda>") params body scope (cloFrom X.env.cells scope.names []) pm cv ctv) ⟨[], []⟩ = pure []) ∧ tb (E σZ) params body scope σ HZ Q
section
variable {X : Cx} {pins : List (Addr × Obj)} {σ : L2.St} {H : Hp} {s : Shared} {Ng : List Str} {qg : Str} {sg : Scope} {g B : Addr} {cdg : Value} {k i j : Nat} {a n x : Str} {p1 p2 p3 np pos pos' : Pos} {tb : XK → Arguments → Expr → Scope → TE} {b₀ : Stmt} {suite : List Stmt} {ts : Addr → Value → Option Addr → TS}
/-- try: look() except X as n: suite -/
theorem try_look (I : L2.Inv X pins σ H s) (hr : Room (k + 1) (X.A.deeper (envOfC qg sg s.heap.objs.size g cdg)))
    (hbody : ∀ (E : XK) (params : Arguments) (body : Expr) (scope : Scope) (f c' : Addr) (A : Around) (outer : List Env) (s : Shared) (H : Hp), Room k (A.deeper (lamEnv X scope s.heap.objs.size f c')) → PE (lamCx X A outer s H E scope f c') body (tb E params body scope))
    (hN : Ng[i]? = some a) (hv : Vis sg a) (hd : (a == ("__debug__" : Str)) = false) (hcd : (a == ("__classdict__" : Str)) = false)
    (nd : Ng.Nodup) (hj : Ng[j]? = some n) (hln : (envOfC qg sg s.heap.objs.size g cdg).kindOf n = some .local) (hc : Names (cxOf CX0 X.prog X.w X.K X.mg X.base Ng qg sg g cdg X.A X.stack s H E0).nox x (.ref B))
    (hsw : swapsWith (.Call (.Name a p1) [] [] p2) none p3.line (envOfC qg sg s.heap.objs.size g cdg) = pure false)
    (hsu : ∀ (a : Addr) (oe : Obj) (cls : Value) (d : Option Addr) (pn : List (Addr × Obj)), Zc cls d oe → (∃ vs, oe.data = .fields vs) → PSs ((cxOf CX0 X.prog X.w X.K X.mg X.base Ng qg sg g cdg X.A X.stack s H E0).nox.suite a ((a, oe) :: pn)) (b₀ :: suite) (ts a cls d)) :
    PS (cxOf CX0 X.prog X.w X.K X.mg X.base Ng qg sg g cdg X.A X.stack s H E0).nox (.Try [.Expr (.Call (.Name a p1) [] [] p2) p3] [.ExceptHandler (some (.Name x np)) (some n) (b₀ :: suite) pos'] [] [] pos)
      (fun D σZ HZ => tSeq (tDrop (tAct X σ i tb (fun σZ cls d H' => wAsV X.K (.ref B) j ts (fun _ _ _ _ => False) D cls d σZ H'))) tNext D σZ HZ) :=
  ps_try_asV (X := (cxOf CX0 X.prog X.w X.K X.mg X.base Ng qg sg g cdg X.A X.stack s H E0).nox) (tb := fun W => tSeq (tDrop (tAct X σ i tb (fun σZ cls d H' => W cls d σZ H'))) tNext) rfl rfl rfl nd hj hln hc L2.takes0
    (fun W pn xe tk _ => pss_cons (ps_expr (pe_actV (CXg := CX0) (Eg := E0) (E := fun σZ cls d H' => W cls d σZ H') I tk (fun _ _ _ _ z => z) hr hbody hN hv hd hcd) hsw) pss_nil) hsu
/-- what the def makes of the lambda at f: None, or the error that it raises -/
def GiveC (X : Cx) (σ : L2.St) (K : Frag) (B : Addr) (tb : XK → Arguments → Expr → Scope → TE) (f : Addr) (H : Hp) (Q : VK) : Prop := ∃ (c' : Addr) (params : Arguments) (body : Expr) (scope : Scope), H f = some (LamO f (X.env.qual ++ "<lambda>") params body scope (cloFrom X.env.cells scope.names []) c') ∧ H c' = some (CodeO c' (X.env.qual ++ "<lambda>")) ∧
  LamS X.env.scope scope ∧ (∀ (pm cv ctv : Value), bindArgs (PySem.W.kla_fn "<lambda>" (X.env.qual ++ "<lambda>") params body scope (cloFrom X.env.cells scope.names []) pm cv ctv) ⟨[], []⟩ = pure []) ∧
  ∀ (E : XK) (R : VK), (∀ v H', Q .non H' → R v H') → (∀ cls d H', exmOne K cls (.ref B) = some true → (∀ a, H' a = none → Q (.ref a) (upd H' a (XV a cls d))) → E cls d H') → tb E params body scope σ H R
/-- try: look() except X as n: return n; return None -/
theorem caughtA {q1 q2 q3 q4 : Pos} {jn : Nat} (I : L2.Inv X pins σ H s) (hr : Room (k + 1) (X.A.deeper (envOfC qg sg s.heap.objs.size g cdg)))
    (hbody : ∀ (E : XK) (params : Arguments) (body : Expr) (scope : Scope) (f c' : Addr) (A : Around) (outer : List Env) (s : Shared) (H : Hp), Room k (A.deeper (lamEnv X scope s.heap.objs.size f c')) → PE (lamCx X A outer s H E scope f c') body (tb E params body scope))
    (hv : Vis sg a) (hvn : Vis sg n) (hd : (a == ("__debug__" : Str)) = false) (hcd : (a == ("__classdict__" : Str)) = false) (hd2 : (n == ("__debug__" : Str)) = false) (hcd2 : (n == ("__classdict__" : Str)) = false)
    (nd : Ng.Nodup) (hNg : Ng = [a, n]) (hln : (envOfC qg sg s.heap.objs.size g cdg).kindOf n = some .local) (hc : Names (cxOf CX0 X.prog X.w X.K X.mg X.base Ng qg sg g cdg X.A X.stack s H E0).nox x (.ref B))
    (hsw : swapsWith (.Call (.Name a p1) [] [] p2) none p3.line (envOfC qg sg s.heap.objs.size g cdg) = pure false)
    {f : Addr} {Q : VK} (h : GiveC X σ X.K B tb f H Q) :
    ∃ t, PSs (cxOf CX0 X.prog X.w X.K X.mg X.base Ng qg sg g cdg X.A X.stack s H E0).nox [.Try [.Expr (.Call (.Name a p1) [] [] p2) p3] [.ExceptHandler (some (.Name x np)) (some n) [.Return (some (.Name n q1)) q2] pos'] [] [] pos, .Return (some (.Constant .none jn q3)) q4] t ∧
      t { nx := fun _ H' => Q .non H', rt := Q } (L2.start Ng [.ref f]) H := by
  subst hNg
  refine ⟨_, pss_cons (try_look (i := 0) (j := 1) I hr hbody rfl hv hd hcd nd rfl hln hc hsw (fun a oe cls d pn hz hf => pss_cons (ps_ret (pe_var (i := 1) rfl hvn hd2 hcd2)) pss_nil)) (pss_cons (ps_ret pe_non) pss_nil), ?_⟩
  obtain ⟨c', params, body, scope, h1, h2, h3, h4, h5⟩ := h
  refine ⟨f, c', params, body, scope, rfl, h1, h2, h3, h4, ?_⟩
  exact h5 _ _ (fun v H' z => z) fun cls d H' he hq => ⟨true, he, fun _ a ha => ⟨_, rfl, hq a ha⟩, fun z => by cases z⟩
/-- here = None; try: look() except X as n: here = n; return here -/
theorem caughtB {here : Str} {q1 q2 q3 q4 q5 q6 q7 q8 : Pos} {jn : Nat} (I : L2.Inv X pins σ H s) (hr : Room (k + 1) (X.A.deeper (envOfC qg sg s.heap.objs.size g cdg)))
    (hbody : ∀ (E : XK) (params : Arguments) (body : Expr) (scope : Scope) (f c' : Addr) (A : Around) (outer : List Env) (s : Shared) (H : Hp), Room k (A.deeper (lamEnv X scope s.heap.objs.size f c')) → PE (lamCx X A outer s H E scope f c') body (tb E params body scope))
    (hv : Vis sg a) (hvn : Vis sg n) (hvh : Vis sg here) (hlh : L2.Loc sg here) (hd : (a == ("__debug__" : Str)) = false) (hcd : (a == ("__classdict__" : Str)) = false) (hd2 : (n == ("__debug__" : Str)) = false) (hcd2 : (n == ("__classdict__" : Str)) = false) (hd3 : (here == ("__debug__" : Str)) = false) (hcd3 : (here == ("__classdict__" : Str)) = false)
    (nd : Ng.Nodup) (hNg : Ng = [a, here, n]) (hln : (envOfC qg sg s.heap.objs.size g cdg).kindOf n = some .local) (hc : Names (cxOf CX0 X.prog X.w X.K X.mg X.base Ng qg sg g cdg X.A X.stack s H E0).nox x (.ref B))
    (hsw : swapsWith (.Call (.Name a p1) [] [] p2) none p3.line (envOfC qg sg s.heap.objs.size g cdg) = pure false)
    {f : Addr} {Q : VK} (h : GiveC X σ X.K B tb f H Q) :
    ∃ t, PSs (cxOf CX0 X.prog X.w X.K X.mg X.base Ng qg sg g cdg X.A X.stack s H E0).nox [.Assign [.Name here q1] (.Constant .none jn q2) q3, .Try [.Expr (.Call (.Name a p1) [] [] p2) p3] [.ExceptHandler (some (.Name x np)) (some n) [.Assign [.Name here q4] (.Name n q5) q6] pos'] [] [] pos, .Return (some (.Name here q7)) q8] t ∧
      t { nx := fun _ H' => Q .non H', rt := Q } (L2.start Ng [.ref f]) H := by
  subst hNg
  refine ⟨_, pss_cons (ps_asg pe_non (pg_name (i := 1) nd rfl hlh (Or.inl rfl)) rfl rfl rfl) (pss_cons (try_look (i := 0) (j := 2) I hr hbody rfl hv hd hcd nd rfl hln hc hsw (fun a oe cls d pn hz hf => pss_cons (ps_asg (pe_var (i := 2) rfl hvn hd2 hcd2) (pg_name (i := 1) nd rfl hlh (Or.inl rfl)) rfl rfl rfl) pss_nil)) (pss_cons (ps_ret (pe_var (i := 1) rfl hvh hd3 hcd3)) pss_nil)), ?_⟩
  obtain ⟨c', params, body, scope, h1, h2, h3, h4, h5⟩ := h
  refine ⟨f, c', params, body, scope, rfl, h1, h2, h3, h4, ?_⟩
  exact h5 _ _ (fun v H' z => ⟨_, rfl, z⟩) fun cls d H' he hq => ⟨true, he, fun _ a ha => ⟨_, rfl, _, rfl, hq a ha⟩, fun z => by cases z⟩
end
end XL
/-! DX5: the error of the package that a lambda raises, None without one. -/
namespace DL
open PySem PySem.Spec PyProof.Rows L2
/-- the lambda's reading, whatever stands around it -/
def tbL (X : Cx) (k : Nat) : XK → Arguments → Expr → Scope → TE := fun E _ body scope σ H Q => ∀ (f c' : Addr) (A : Around) (outer : List Env) (s : Shared) (H0 : Hp), Room k (A.deeper (LamX.lamEnv X scope s.heap.objs.size f c')) → eSem (LamX.lamCx X A outer s H0 E scope f c') body σ H Q
theorem tbL_pe {X : Cx} {k : Nat} (E : XK) (params : Arguments) (body : Expr) (scope : Scope) (f c' : Addr) (A : Around) (outer : List Env) (s : Shared) (H : Hp) (hr : Room k (A.deeper (LamX.lamEnv X scope s.heap.objs.size f c'))) : PE (LamX.lamCx X A outer s H E scope f c') body (tbL X k E params body scope) :=
  ⟨fun pins s1 σ H1 Q I h => h f c' A outer s H hr pins s1 I⟩
/-- the def at g (slots Ng, scope sg, body bg) gives what the lambda raises, of the class at B -/
def Gives (X : Cx) (k : Nat) (B g : Addr) (x : Str) (Ng : List Str) (sg : Scope) (cdg : Value) (bg : List Stmt) : Prop := ∀ (pins : List (Addr × Obj)) (σ : L2.St) (H : Hp) (s : Shared) (f : Addr) (Q : VK), L2.Inv X pins σ H s → Room (k + 1) (X.A.deeper (envOfC x sg s.heap.objs.size g cdg)) → XL.GiveC X σ X.K B (tbL X k) f H Q →
  ∃ t, PSs (cxOf CX0 X.prog X.w X.K X.mg X.base Ng x sg g cdg X.A X.stack s H E0).nox bg t ∧ t { nx := fun _ H' => Q .non H', rt := Q } (L2.start Ng [.ref f]) H
section
variable {X : Cx} {ρ : Rho} {M : Mp} {Φ : D → Mp → Prop} {e : Expr} {pos p : Pos} {x a : Str} {k : Nat} {B g : Addr} {Ng : List Str} {sg : Scope} {cdg : Value} {bg : List Stmt} {pg : Arguments} {dV kV doc pm ct oc : Value} {an od : Option Addr} {osl : Array (Option Value)}
theorem we_caught (hm : X.mg x = some (.ref g)) (hk : PySem.W.keepIn X.K (.ref g) = true) (lk : X.K.lookup g = some ⟨oc, od, .func (PySem.W.fnOf x x pg bg sg dV kV doc pm an cdg ct), osl⟩) (hcg : PySem.W.codeIn X.K cdg x = true) (hb : Binds X.K (PySem.W.fnOf x x pg bg sg dV kV doc pm an cdg ct) [a] []) (Sg : FnScope Ng [a] sg)
    (hG : Gives X k B g x Ng sg cdg bg) (hr : Room (k + 2) X.A)
    (h : WE X ρ M e fun d M1 => ∃ params body scope, d = .lam (X.env.qual ++ "<lambda>") params body scope (cloFrom X.env.cells scope.names []) ∧ LamX.LamS X.env.scope scope ∧
      (∀ (q : Str) (cl : List (Str × Addr)) (pm cv ctv : Value), bindArgs (PySem.W.kla_fn "<lambda>" q params body scope cl pm cv ctv) ⟨[], []⟩ = pure []) ∧
      ∀ (f c' : Addr) (A : Around) (outer : List Env) (s : Shared) (H0 : Hp) (E : XK), Room k (A.deeper (LamX.lamEnv X scope s.heap.objs.size f c')) → WEx (LamX.lamCx X A outer s H0 E scope f c') ρ M1 body (fun _ M2 => Φ .non M2) (fun C fs M2 => PySem.W.exmOne X.K (.ref C) (.ref B) = some true ∧ Φ (.exc C fs) M2))
    (hg : Gl X x := by rfl) (hdb : (x == ("__debug__" : Str)) = false := by decide) (he : starEach [e] X.env = (false, eval e X.env) :: starEach [] X.env := by rfl) (hpl : (backTo pos (starEach [] X.env)).any (·.1) = false := by rfl) : WE X ρ M (.Call (.Name x p) [e] [] pos) Φ := .mk fun {Z} σ H Q en w kk => by
  intro pins s I
  refine wpAny_Call_Name_kw (ld_glob I hg hm ?_ hdb)
  refine PySem.W.callWith_K (h₀ := X.base) I.ok.mod.kin hk (thn ((pa_sem (es := [e])).run pos pins s σ H (fun vs H1 => ∃ f, vs = [.ref f] ∧ XL.GiveC X σ X.K B (tbL X k) f H1 Q) I ?_) fun us s1 z => ?_) he hpl
  · refine (wa_cons (es := []) (ΦA := fun ds M1 => ∃ d, ds = [d] ∧ ∃ params body scope, d = .lam (X.env.qual ++ "<lambda>") params body scope (cloFrom X.env.cells scope.names []) ∧ LamX.LamS X.env.scope scope ∧ (∀ (q : Str) (cl : List (Str × Addr)) (pm cv ctv : Value), bindArgs (PySem.W.kla_fn "<lambda>" q params body scope cl pm cv ctv) ⟨[], []⟩ = pure []) ∧
      ∀ (f c' : Addr) (A : Around) (outer : List Env) (s : Shared) (H0 : Hp) (E : XK), Room k (A.deeper (LamX.lamEnv X scope s.heap.objs.size f c')) → WEx (LamX.lamCx X A outer s H0 E scope f c') ρ M1 body (fun _ M2 => Φ .non M2) (fun C fs M2 => PySem.W.exmOne X.K (.ref C) (.ref B) = some true ∧ Φ (.exc C fs) M2)) (h.imp fun d M1 z => wa_nil ⟨d, rfl, z⟩) he).run σ H _ en w fun vs ds H1 M1 e1 w1 r1 hz => ?_
    obtain ⟨d, rfl, params, body, scope, rfl, L, hbind, hbd⟩ := hz
    cases r1 with
    | cons r1 r2 =>
      cases r2
      cases r1 with
      | lam q1 q2 m1 m2 =>
        refine ⟨_, rfl, _, params, body, scope, q1, q2, L, fun pm cv ctv => hbind _ _ pm cv ctv, fun E R hR hE f c' A outer s0 H0 hr' => ?_⟩
        refine (hbd f c' A outer s0 H0 E hr').run σ H1 R E (en.mono e1) w1 (fun v d H2 M2 e2 w2 r2 hz => hR v H2 ((kk.step (e1.trans e2)).now w2 .non hz)) (takes_of rfl rfl rfl rfl) fun C fs vs d H2 M2 e2 w2 hd md rf hz => ?_
        refine hE _ _ _ hz.1 fun q hq => ?_
        have nq : d ≠ q := fun z => by rw [z, hq] at hd; cases hd
        have x3 : Ext M2 Z H2 M2 (upd H2 q (XL.XV q (.ref C) (some d))) := Ext.new w2 hq
        exact (kk.step ((e1.trans e2).trans x3)).now (w2.new hq) (.exc upd_same (by rw [upd_ne nq]; exact hd) (w2.fresh hq) md (rf.mono x3)) hz.2
  · obtain ⟨vs, H1, I1, r, f, rfl, hgv⟩ := z
    refine ⟨I1.kIn, ?_⟩
    cases r with
    | cons r1 r2 =>
      cases r2
      rename_i u
      obtain rfl : u = Value.ref f := r1
      have rc := LamX.run_ofS (CX := CX0) (P := X.prog) (w := X.w) (mg := X.mg) (base := X.base) (Q := Q) (E := E0) lk hcg Sg hr I1.env0 (hb s1 [Value.ref f] I1.kIn rfl) (Paired.cons (a := V.ref f) rfl Paired.nil) rfl fun hr' => by
        obtain ⟨t', ht, hq⟩ := hG pins σ H1 s1 f Q I1 hr' hgv
        exact ⟨t', PSs.nox ht, hq⟩
      refine wpAny_call (codeAny_mono rc fun r s' hq => ?_)
      cases r with
      | error er => exact hq.elim
      | ok fl =>
        cases fl with
        | ret u => exact I1.after hq
        | next => exact hq.elim
        | brk => exact hq.elim
        | cont => exact hq.elim
end
end DL
/-! DX6: x = e, e may raise; tests and arguments that may raise. -/
namespace DL
open PySem PySem.Spec PyProof.Rows L2
section
variable {X : Cx} {ρ : Rho} {M : Mp} {Φ : D → Mp → Prop} {Ξ : Xi} {Ψ : DE} {e a b o : Expr} {es : List Expr} {pos : Pos}
theorem wsx_set (i : Nat) {x : Str} {pos' : Pos} (hN : X.N.Nodup) (h : WEx X ρ M e (fun d M1 => Ψ.nx (ρ.set i (some d)) M1) Ξ) (hi : X.N[i]? = some x := by rfl) (hx : Loc X.env.scope x := by first | exact Or.inl rfl | exact Or.inr rfl) (hf : X.fn x = true ∨ X.env.scope.names.lookup x = some .local := by first | exact Or.inl rfl | exact Or.inr rfl)
    (hs : swapsWithSole [.Name x pos'] e pos.line X.env = pure false := by rfl) (hw : swappedStores [.Name x pos'] e X.env = pure none := by rfl) (h3 : (assignEach [.Name x pos'] X.env).map (·.2) = [assign (.Name x pos') X.env] := by rfl) : WSx X ρ M (.Assign [.Name x pos'] e pos) Ψ Ξ := .mk fun σ H D E en w k t kx =>
  sOf (ps_asg pe_sem (pg_name hN hi hx hf) hs hw h3) (h.run σ H _ E en w (fun v d H1 M1 e1 w1 r1 hz => k.nx (σ.set i (some v)) (ρ.set i (some d)) H1 M1 e1 w1 ((en.mono e1).set r1 i) hz) t kx)
/-- the first argument may raise, or a later one -/
theorem wax_cons {ΦA : List D → Mp → Prop} (h : WEx X ρ M e (fun d M1 => WAx X ρ M1 es (fun ds M2 => ΦA (d :: ds) M2) Ξ) Ξ) (hs : starEach (e :: es) X.env = (false, eval e X.env) :: starEach es X.env := by rfl) : WAx X ρ M (e :: es) ΦA Ξ := .mk fun σ H Q E en w k t kx =>
  aOf (pa_cons pe_sem pa_sem hs) (h.run σ H _ E en w (fun v d H1 M1 e1 w1 r1 hz => hz.run σ H1 _ E (en.mono e1) w1 (fun vs ds H2 M2 e2 w2 r2 hy => k (v :: vs) (d :: ds) H2 M2 (e1.trans e2) w2 (.cons (r1.mono e2) r2) hy) t (kx.step e1)) t kx)
theorem wtx_not {Φ : Bool → Mp → Prop} (h : WTx X ρ M a (fun c M1 => Φ (!c) M1) Ξ) : WTx X ρ M (.UnaryOp .Not a pos) Φ Ξ := .mk fun σ H Q E en w k t kx =>
  tOf (pt_not pt_sem) (h.run σ H _ E en w (fun c H1 M1 e1 w1 hz => k _ H1 M1 e1 w1 hz) t kx)
/-- e.f of what may raise -/
theorem wex_fld {f : Str} {C : Addr} (h : WEx X ρ M o (fun d M1 => ∃ fs v, InsOf M1 C d fs ∧ Cls X.K C ∧ NoAttr X.K C f ∧ fs.lookup f = some v ∧ Φ v M1) Ξ) (hb : attributeBase o f X.env (eval o X.env) = eval o X.env := by rfl) : WEx X ρ M (.Attribute o f pos) Φ Ξ := .mk fun σ H Q E en w k t kx =>
  eOf (pe_fld pe_sem hb) (h.run σ H _ E en w (fun v d H1 M1 e1 w1 r1 hz => by
    obtain ⟨fs, y, hi, cl, na, hl, hz⟩ := hz
    obtain ⟨a, dx, vs, rfl, ha, rf⟩ := r1.asIns w1 hi
    obtain ⟨u, hu, ru⟩ := (rf.lookup f).2 y hl
    exact ⟨a, C, dx, vs, u, rfl, ha, cl, na, hu, (k.step e1).now w1 ru hz⟩) t kx)
end
end DL
/-! DX7: a for loop whose turns may raise. -/
namespace DL
open PySem PySem.Spec PyProof.Rows L2
section
variable {X : Cx} {ρ : Rho} {M : Mp} {Ξ : Xi} {Ψ : DE} {tg : Expr} {pos : Pos}
theorem wsx_for {body : List Stmt} {iter : Expr} (hp : PassesOwn (model X.prog X.w) X.A X.env X.xe)
    (h : WI X ρ M tg iter fun ds M1 => ∃ I : Nat → Rho → Mp → Prop, I 0 ρ M1 ∧
      (∀ i x ρ' M', ds[i]? = some x → I i ρ' M' → WG X tg x ρ' M' fun ρ2 M2 => WSsx X ρ2 M2 body { nx := I (i + 1), ct := I (i + 1), bk := Ψ.nx, rt := Ψ.rt } Ξ) ∧ ∀ ρ' M', I ds.length ρ' M' → Ψ.nx ρ' M')
    (hc : X.calm = true := by rfl) (hs : ∀ x, foldedSetIterable iter X.env x = pure x := by intro _; rfl) : WSx X ρ M (.For tg iter body [] pos) Ψ Ξ := .mk fun {Z} σ H E EX en w k t kx =>
  sOf (ps_for hp hc pi_sem pg_sem pss_sem hs) (h.run σ H _ en w fun J ds H1 M1 e1 w1 sq hz => by
    obtain ⟨I, h0, turn, done⟩ := hz
    refine ⟨fun i m σ' H' => m = ds.length - i ∧ i ≤ ds.length ∧ ∃ ρ' M', Ext M1 Z H1 M' H' ∧ Wd X.K M' Z H' ∧ EnvR X.K M' Z H' σ' ρ' ∧ I i ρ' M', ⟨ds.length, by simp, Nat.zero_le _, ρ, M1, Ext.refl, w1, en.mono e1, h0⟩, ?_⟩
    rintro i m σ' H' ⟨rfl, hi, ρ', M', x', w', en', inv⟩
    obtain ⟨s1, s2⟩ := sq i M' Z H' x'.i w'
    by_cases hlt : i < ds.length
    · have hd : ds[i]? = some ds[i] := List.getElem?_eq_getElem hlt
      obtain ⟨go, yl⟩ := s2 _ hd
      refine .inr ⟨go, fun σ2 H2 => ∃ ρ2 M2, Ext M1 Z H1 M2 H2 ∧ Wd X.K M2 Z H2 ∧ EnvR X.K M2 Z H2 σ2 ρ2 ∧ I (i + 1) ρ2 M2, fun σ2 H2 ⟨ρ2, M2, x2, w2, en2, i2⟩ => ⟨ds.length - (i + 1), by omega, rfl, hlt, ρ2, M2, x2, w2, en2, i2⟩, fun v H2 y => ?_⟩
      obtain ⟨x2, w2, r2⟩ := yl v H2 y
      have x12 := x'.trans x2
      refine (turn i _ ρ' M' hd inv).run σ' H2 v _ (en'.mono x2) w2 r2 fun σ3 ρ3 H3 M3 x3 w3 en3 hb => ?_
      have x13 := x12.trans x3
      have ks := (k.step e1).step x13
      exact hb.run σ3 H3 _ EX en3 w3 ⟨fun σ4 ρ4 H4 M4 x4 w4 en4 z => ⟨ρ4, M4, x13.trans x4, w4, en4, z⟩, ks.rt, ks.nx, fun σ4 ρ4 H4 M4 x4 w4 en4 z => ⟨ρ4, M4, x13.trans x4, w4, en4, z⟩⟩ t ((kx.step e1).step x13)
    · have e : i = ds.length := by omega
      exact .inl ⟨s1 e, (k.step e1).nx σ' ρ' H' M' x' w' en' (done _ _ (e ▸ inv))⟩)
end
end DL
/-! DX8: the end of a law whose defs make lambdas, and show data. -/
namespace DL
open PySem PySem.Spec PyProof.Rows L2
/-- nothing but the script and some empty tables is known -/
def OnlyT (cs : List (Addr × Addr)) (H : Hp) : Prop := (∀ p ∈ cs, H p.2 = some (.tbl #[])) ∧ ∀ b, H b = none ∨ b ∈ cs.map (·.2) ∨ ∃ o xs, H b = some (.frz o (.lst xs))
theorem lawGT {P : Program} {w : World} {K : PySem.W.Frag} {mg mb : Str → Option Value} {k : Nat} {fa a : Addr} {cs : List (Addr × Addr)} {fd : FuncData} {x : Str} {sp : Sp} {s : Shared} {vs : List Value} {ns : List Int}
    (KX : K.In s.heap) (gn : s.heap.Ns mainGlobals mg) (bn : s.heap.Ns builtinsNs mb) (bb : ∀ x : Str, x ≠ "__name__" → mb x = bootBuiltins x) (lim : s.heap.NoLimit) (hg : s.gens = #[])
    (tc : ∀ p ∈ cs, PySem.W.CodeHd s.heap p.1 p.2 ∧ s.heap.get? p.2 = some { cls := .none, data := .fields #[] }) (tn : ∀ p ∈ cs, K.lookup p.2 = none)
    (bm : ∃ (m : Addr) (ob : Obj), mg "__builtins__" = some (.ref m) ∧ m ≠ builtinsNs ∧ s.heap.get? m = some ob ∧ ob.cls = .type "module" ∧ ob.dict = some builtinsNs ∧ ob.data = .plain)
    (ha : s.heap.get? a = some { cls := .type "list", data := .seq vs.toArray }) (hi : IntsAre vs ns) (hl : ns.length ≤ sizeLine) (hr : Room k callerA)
    (F : ∀ base : Heap, K.In base → base.Ns mainGlobals mg → (∀ p ∈ cs, LamX.TabB base mg p.1 p.2) → FnG P w K mg base k fa fd [x] sp) (bind_ : ∀ (s : Shared) (u : Value), BindsTo s fd ⟨[u], []⟩ [(x, u)])
    (hsp : ∀ H : Hp, OnlyT cs H → SqL K H a (ns.map V.int) → sp [.ref a] H (fun v _ => v = .bl true) fun _ _ _ => False) :
    codeAny (model P w) callerA (.call (.ref fa) ⟨[.ref a], []⟩) (fun r s' => r = .ok (.ret (.bool true)) ∧ OldK s.heap s'.heap ∧ s'.os = s.os ∧ AllBare s'.gens) s := by
  have rv := vals_ints hi
  have lenV := hi.length
  have tob : ∀ b : Addr, b ∈ cs.map (·.2) → s.heap.get? b = some { cls := .none, data := .fields #[] } := fun b h => by
    obtain ⟨p, h1, rfl⟩ := List.mem_map.mp h
    exact (tc p h1).2
  have tin : ∀ p ∈ cs, p.2 ∈ cs.map (·.2) := fun p h => List.mem_map.mpr ⟨p, h, rfl⟩
  have at_a : a ∉ cs.map (·.2) := fun z => by
    have q := tob a z
    rw [ha] at q
    cases congrArg Obj.data (Option.some.inj q)
  have main : ∀ H : Hp, OnlyT cs H → SqL K H a (ns.map V.int) → HOk P w H s.heap → (∀ b, H b ≠ none → b = a ∨ b ∈ cs.map (·.2)) → (H a ≠ none → K.lookup a = none) →
      codeAny (model P w) callerA (.call (.ref fa) ⟨[.ref a], []⟩) (fun r s' => r = .ok (.ret (.bool true)) ∧ OldK s.heap s'.heap ∧ s'.os = s.os ∧ AllBare s'.gens) s := fun H o1 o2 hok at_ hK => by
    have keep0 : ∀ {b : Addr} {o : Obj}, s.heap.get? b = some o → H b = none → (hidT s.heap H).get? b = some o := fun z y => hidT_get z y
    -- what is neither the script nor a table is hidden
    have free : ∀ {b : Addr} {o : Obj}, s.heap.get? b = some o → o.data ≠ .fields #[] → (∀ n, o.data ≠ .seq vs.toArray n) → H b = none := fun {b o} z d1 d2 => by
      cases q : H b with
      | none => rfl
      | some u =>
        exfalso
        rcases at_ b (by rw [q]; simp) with e | e
        · rw [e, ha] at z
          cases z
          exact d2 _ rfl
        · rw [tob b e] at z
          cases z
          exact d1 rfl
    have noD : ∀ {b : Addr} {o : Obj} {es : Array DictEntry} {ep : Nat}, s.heap.get? b = some o → o.data = .dict es ep → H b = none := fun z d => free z (by rw [d]; simp) (by rw [d]; simp)
    have nsK : ∀ {b : Addr} {m : Str → Option Value}, s.heap.Ns b m → (hidT s.heap H).Ns b m := fun {b m} z => by
      obtain ⟨o, es, ep, y, d, r⟩ := z
      exact ⟨o, es, ep, keep0 y (noD y d), d, r⟩
    have inB : K.In (hidT s.heap H) := fun b o z => keep0 (KX b o z) (by
      cases q : H b with
      | none => rfl
      | some u =>
        rcases at_ b (by rw [q]; simp) with e | e
        · rw [e] at z q
          rw [hK (by rw [q]; simp)] at z
          cases z
        · obtain ⟨p, h1, rfl⟩ := List.mem_map.mp e
          rw [tn p h1] at z
          cases z)
    have hM : Mod K mg (hidT s.heap H) := ⟨inB, nsK gn, ⟨mb, nsK bn, bb⟩, by obtain ⟨mc, h1, h2⟩ := lim; exact ⟨mc, nsK h1, h2⟩⟩
    have TB : ∀ p ∈ cs, LamX.TabB (hidT s.heap H) mg p.1 p.2 := fun p h => by
      obtain ⟨hc, hP⟩ := tc p h
      have gP : mainGlobals ≠ p.2 := fun z => by
        obtain ⟨o, es, ep, e, hd, _⟩ := gn
        rw [z, hP] at e
        cases e
        cases hd
      refine ⟨?_, ?_, gP⟩
      · obtain ⟨o, us, file, tf, flags, tg, inF, text, tt, e1, r1, r2, r3, r⟩ := hc
        refine ⟨o, us, file, tf, flags, tg, inF, text, tt, keep0 e1 (free e1 (fun z => ?_) fun n z => ?_), r1, r2, r3, r⟩
        · rw [r2] at z
          cases z
          simp at r3
        · rw [r2] at z
          cases z
      · obtain ⟨m, ob, b1, b2, b3, b4, b5, b6⟩ := bm
        have n1 : m ≠ mainGlobals := fun q => by
          obtain ⟨o, es, ep, e, hd, _⟩ := gn
          rw [q, e] at b3
          cases b3
          rw [hd] at b6
          cases b6
        have n2 : m ≠ p.2 := fun q => by
          rw [q, hP] at b3
          cases b3
          cases b6
        exact ⟨m, ob, b1, b2, n1, n2, keep0 b3 (free b3 (by rw [b6]; simp) (by rw [b6]; simp)), b4, b5, b6⟩
    have e0 : Env0 P w K mg (hidT s.heap H) callerA [] s H := ⟨rfl, hM, fun b o z => of_hidT z, Nat.le_of_eq (hidT_size _ _), trivial, fun b hb => absurd (show b ∈ ([] : List Addr) from hb) (by simp), hok, .of_eq hg⟩
    refine codeAny_mono ((F _ inB (nsK gn) TB).run callerA [] s H ⟨[.ref a], []⟩ [.ref a] [.ref a] _ _ rfl hr e0 (bind_ s (.ref a)) (.cons rfl .nil) (hsp H o1 o2)) fun r s' h => ?_
    cases r with
    | error e => exact False.elim h
    | ok fl =>
      cases fl with
      | ret u =>
        obtain ⟨v, H', os, bare, un, hok', r', q⟩ := h
        obtain rfl : v = .bl true := q
        obtain rfl : u = Value.bool true := r'
        have old : ∀ b o, b ∉ cs.map (·.2) → s.heap.get? b = some o → s'.heap.get? b = some o := fun b o nb z => by
          cases q : H b with
          | none => exact un.keep b o z q (fun y => absurd (show b ∈ ([] : List Addr) from y) (by simp)) (by simp)
          | some u =>
            rcases o1.2 b with y | y | ⟨ob, xs, y⟩
            · rw [q] at y; cases y
            · exact absurd y nb
            · have y3 := (hok b _ y).1
              have y4 := (hok' b _ (un.frzs b ob _ y)).1
              rw [z] at y3; cases y3
              exact y4
        have grew : ∀ p ∈ cs, ∃ more : Array Value, s'.heap.get? p.2 = some { cls := .none, data := .fields more } := fun p h => by
          obtain ⟨more, z⟩ := un.tbls p.2 #[] (o1.1 p h)
          exact ⟨_, hok' p.2 _ z⟩
        refine ⟨rfl, ⟨fun b o z => ?_, fun b o z => ?_⟩, os, bare⟩
        · by_cases hb : b ∈ cs.map (·.2)
          · obtain ⟨p, h1, rfl⟩ := List.mem_map.mp hb
            obtain ⟨more, hm⟩ := grew p h1
            rw [(tc p h1).2] at z
            cases z
            exact .inr (.inl ⟨((tc p h1).1.tab (tc p h1).2).isCodeTable, rfl, #[], more, rfl, by rw [Array.empty_append]; exact hm⟩)
          · exact .inl (old b o hb z)
        · by_cases hb : b ∈ cs.map (·.2)
          · obtain ⟨p, h1, rfl⟩ := List.mem_map.mp hb
            obtain ⟨more, hm⟩ := grew p h1
            exact ⟨_, hm⟩
          · exact ⟨o, old b o hb z⟩
      | _ => exact False.elim h
  cases hk : K.lookup a with
  | some o =>
    have z := KX a o hk
    rw [ha] at z
    cases z
    refine main (fun b => if b ∈ cs.map (·.2) then some (.tbl #[]) else none) ⟨fun p h => if_pos (tin p h), fun b => ?_⟩ (.inr ⟨_, vs.toArray, _, hk, rfl, rfl, rfl, by rw [List.size_toArray, lenV]; exact hl, by simpa using rv⟩) (fun b u z => ?_) (fun b z => ?_) fun z => absurd (show (if a ∈ cs.map (·.2) then some (HO.tbl #[]) else none) = none from if_neg at_a) z
    · by_cases hb : b ∈ cs.map (·.2)
      · exact .inr (.inl hb)
      · exact .inl (if_neg hb)
    · by_cases hb : b ∈ cs.map (·.2)
      · cases (if_pos hb).symm.trans z
        exact tob b hb
      · cases (if_neg hb).symm.trans z
    · by_cases hb : b ∈ cs.map (·.2)
      · exact .inr hb
      · exact absurd (if_neg hb) z
  | none =>
    have ne : ∀ p ∈ cs, ¬ p.2 = a := fun p h z => at_a (z ▸ tin p h)
    refine main (fun b => if b = a then some (.frz { cls := .type "list", data := .seq vs.toArray } (.lst (ns.map V.int))) else if b ∈ cs.map (·.2) then some (.tbl #[]) else none) ⟨fun p h => (if_neg (ne p h)).trans (if_pos (tin p h)), fun b => ?_⟩ (.inl (.inr ⟨_, if_pos rfl⟩)) (fun b u z => ?_) (fun b z => ?_) fun _ => hk
    · by_cases hb : b = a
      · exact .inr (.inr ⟨_, _, if_pos hb⟩)
      · by_cases hb2 : b ∈ cs.map (·.2)
        · exact .inr (.inl hb2)
        · exact .inl ((if_neg hb).trans (if_neg hb2))
    · by_cases hb : b = a
      · cases (if_pos hb).symm.trans z
        subst hb
        exact ⟨ha, by rw [List.length_map]; exact hl, vs, _, rv, ha⟩
      · have z1 := (if_neg hb).symm.trans z
        by_cases hb2 : b ∈ cs.map (·.2)
        · cases (if_pos hb2).symm.trans z1
          exact tob b hb2
        · cases (if_neg hb2).symm.trans z1
    · by_cases hb : b = a
      · exact .inl hb
      · by_cases hb2 : b ∈ cs.map (·.2)
        · exact .inr hb2
        · exact absurd ((if_neg hb).trans (if_neg hb2)) z
theorem walk_ofGT {l : PySem.W.OpenLaw} {n k : Nat} {q : Program} {loose names : List Str} {XP : (Str → Option Value) → Heap → Prop} {YP : World → Heap → Prop} {d : DefRec} {x : Str}
    (hn : l.most = some n) (hn2 : n ≤ sizeLine) (hdf : d.params.defaults = []) (hr : Room k callerA) (hrec : ∀ y ∈ names, ((recsOf q).find? fun e => e.name == y).isSome = true)
    (F : ∀ (w : World) (mg : Str → Option Value) (fa : Addr) (h : Heap), YP w h → h.Ns mainGlobals mg → mg d.name = some (.ref fa) →
      ∃ (K : PySem.W.Frag) (fd : FuncData) (sp : Sp) (cs : List (Addr × Addr)), K.In h ∧ (∀ (s : Shared) (u : Value), BindsTo s fd ⟨[u], []⟩ [(x, u)]) ∧ (∀ p ∈ cs, K.lookup p.2 = none ∧ ∃ y ∈ names, PySem.W.tabIn K y = some p) ∧
        (∀ (H : Hp) (a : Addr) (ns : List Int), ns.length ≤ n → OnlyT cs H → SqL K H a (ns.map V.int) → sp [.ref a] H (fun v _ => v = .bl true) fun _ _ _ => False) ∧
        ∀ base : Heap, K.In base → base.Ns mainGlobals mg → (∀ p ∈ cs, LamX.TabB base mg p.1 p.2) → FnG l.prog w K mg base k fa fd [x] sp) :
    PySem.W.WalkO q loose XP YP l.row.toRowW d [] (fun f vs => PySem.call f vs) := by
  refine Att.attach_call hn hdf fun w s0 s1 mg mb fa o pm cd doc a vs ns G Y ho hd hcd hmg hobj hints hlen hg => ?_
  obtain ⟨K, fd, sp, cs, KX, hb, ht, hsp, hF⟩ := F w mg fa _ Y G.T.g hmg
  refine lawGT KX G.T.g G.T.b G.T.builtins G.T.nolimit hg (fun p hp => ?_) (fun p hp => (ht p hp).1) G.T.bmain hobj hints (Nat.le_trans hlen hn2) hr hF hb fun H hO hS => hsp H a ns hlen hO hS
  obtain ⟨y, hy, e⟩ := (ht p hp).2
  obtain ⟨r, hr'⟩ := Option.isSome_iff_exists.mp (hrec y hy)
  exact PySem.W.tab_of G.T KX hr' e
end DL
/-! DL21: two comparisons in a row; `is not True`; a list that is changed no more. -/
namespace DL
open PySem PySem.Spec PyProof.Rows L2
section
variable {X : Cx} {ρ : Rho} {M : Mp} {Φ : D → Mp → Prop} {Θ : Bool → Mp → Prop} {Ψ : DE} {a b c e : Expr} {es : List Expr} {ss : List Stmt} {pos p p2 pos2 : Pos}
theorem we_leLe (h : WE X ρ M a fun x M1 => WE X ρ M1 b fun y M2 => ∃ i j, x = .int i ∧ y = .int j ∧ if i ≤ j then WE X ρ M2 c (fun z M3 => ∃ l, z = .int l ∧ Φ (.bl (decide (j ≤ l))) M3) else Φ (.bl false) M2) (hm : lastMarks [CmpOp.LtE, .LtE] [b, c] = false := by with_unfolding_all rfl) : WE X ρ M (.Compare a [.LtE, .LtE] [b, c] pos) Φ := .mk fun {Z} σ H Q en w k =>
  eOf (pe_chain op_le op_le pe_sem pe_sem pe_sem hm) (bind2 h en w fun v u x y H2 M2 e2 w2 r1 r2 hz => by
    obtain ⟨i, j, rfl, rfl, hz⟩ := hz
    cases r1; cases r2
    refine ⟨i, j, rfl, rfl, _, rfl, ?_⟩
    by_cases hij : i ≤ j
    · rw [decide_eq_true hij, if_pos rfl]
      rw [if_pos hij] at hz
      exact hz.run σ H2 _ (en.mono e2) w2 fun v3 d3 H3 M3 e3 w3 r3 hy => by
        obtain ⟨l, rfl, hy⟩ := hy
        cases r3
        exact ⟨j, l, rfl, rfl, (k.step (e2.trans e3)).now w3 (.bl _) hy⟩
    · rw [decide_eq_false hij, if_neg (by simp)]
      rw [if_neg hij] at hz
      exact (k.step e2).now w2 (.bl _) hz)
theorem op_notB : OpR X (compareOp .IsNot) (fun x y H Q => ∃ b c, x = .bl b ∧ y = .bl c ∧ Q (.bl (!(b == c))) H) := by
  intro pins s σ H x y v u Q I rx ry h
  obtain ⟨b, c, rfl, rfl, q⟩ := h
  cases (show v = Value.bool b from rx)
  cases (show u = Value.bool c from ry)
  refine wpAny_isNot_plain (by cases b <;> cases c <;> rfl) (fin_bl I q ?_)
  cases b <;> cases c <;> rfl
theorem wt_isNotT (h : WE X ρ M a fun x M1 => WE X ρ M1 b fun y M2 => ∃ b c, x = .bl b ∧ y = .bl c ∧ Θ (!(b == c)) M2) (hm : behindInMarks .IsNot b = false := by rfl) : WT X ρ M (.Compare a [.IsNot] [b] pos) Θ :=
  wt_cmp op_notB hm (h.imp fun _ _ h => h.imp fun _ _ hz Z v u H Q w r1 r2 k => by
    obtain ⟨x, y, rfl, rfl, hz⟩ := hz
    cases r1; cases r2
    exact ⟨x, y, rfl, rfl, k.now w (.bl _) ⟨_, rfl, hz⟩⟩)
/-- a list that is changed no more -/
theorem wss_fz {i : Nat} {q : Addr} {ds : List D} (hi : ρ[i]? = some (some (.ob q))) (hq : M q = some (.lst ds)) (h : WSs X (ρ.set i (some (.lst ds))) (mdel M q) ss Ψ) : WSs X ρ M ss Ψ := .mk fun {Z} σ H E en w k => by
  have l : Les (mdel M q) M := les_del
  obtain ⟨v, hv, r⟩ := en.get hi
  have r2 := Fz.rep (.lst hq mdel_same) l w r
  have en2 := (en.mono (l.ext w)).set r2 i
  have e : σ.set i (some v) = σ := by
    apply List.ext_getElem?
    intro j
    by_cases hj : i = j
    · subst hj
      rw [List.getElem?_set_self (List.getElem?_eq_some_iff.mp hv).1, hv]
    · rw [List.getElem?_set_ne hj]
  rw [e] at en2
  exact h.run σ H E en2 (l.w w) (k.step (l.ext w))
end
end DL
/-! DL46: how a dict with a tuple key is shown. -/
namespace DL
open PySem PySem.Spec PyProof.Rows L2 SX
abbrev dctP (x y : Str) (n : Int) : PyData := .dict [(.tuple [.str x, .str y], .int n)]
abbrev dctD (x y : Str) (n : Int) : D := .dT [([.inr x, .inr y], .int n)]
section
variable {X : Cx} {ρ : Rho} {M : Mp} {Φ : D → Mp → Prop} {e : Expr} {pos p : Pos}
theorem cr_reprT (hg : X.A.guards = some []) (hu : X.A.units + 64 < cLine) {x y : Str} {n : Int} (hs : (dctP x y n).showable = true) (hz : (dctP x y n).shown.length ≤ sizeLine) (hdp : (dctP x y n).depth ≤ 8) : CallR X (.builtin "repr") (fun xs H Q => ∃ a, xs = [.ref a] ∧ H a = some (.dT [([.inr x, .inr y], .int n)]) ∧ Q (.str (dctP x y n).shown) H) := by
  intro pins s σ H xs us Q I r h
  obtain ⟨a, rfl, ha, h⟩ := h
  obtain ⟨u, rfl, ru⟩ := vals1 r
  obtain rfl : u = Value.ref a := ru
  obtain ⟨_, hs0, ys, kv, o, es, ep, ho, hx, hd, hk, _⟩ := I.hok a _ ha
  cases kv with
  | @cons _ q _ qs pr t =>
    cases t
    obtain ⟨e1, e2, e3⟩ := pr
    obtain ⟨_, its, ri, o2, h1, h2, n2, h3⟩ := (show ObjOk X.prog X.w H s.heap q.2.1 (.tup [V.str x, V.str y]) from I.hok q.2.1 _ e2)
    cases ri with
    | @cons _ w1 _ _ p1 r2 =>
      cases r2 with
      | @cons _ w2 _ _ p2 r3 =>
        cases r3
        obtain ⟨t1, rfl⟩ := p1
        obtain ⟨t2, rfl⟩ := p2
        obtain ⟨t3, e3⟩ := e3
        have rk : Reads s.heap (.ref q.2.1) (.tuple [.str x, .str y]) ([] ++ ([] ++ [])) := Reads.tuple h1 h2 h3 (.cons (.str x t1) (.cons (.str y t2) .nil))
        have rd : Reads s.heap (.ref a) (dctP x y n) (a :: (([] ++ ([] ++ [])) ++ []) ++ ([] ++ [])) := Reads.dict ho hx.1 hd (by rw [hk]; exact .cons rk .nil) (by rw [hk]; show ReadsAll s.heap [q.2.2] [.int n] ([] ++ []); rw [e3]; exact .cons (.int n t3) .nil)
        refine repr_of_reads' rd hs (fun _ => ?_) hg (by omega) (fun _ _ z => z) (fun h' t tk kp => ⟨.str _, H, I.kept kp, ⟨t, rfl⟩, h⟩) hz
        intro z
        rcases List.mem_cons.mp z with z | z
        · rw [← z] at hs0; simp at hs0
        · cases z
/-- repr(e), e a dict with a tuple key -/
theorem we_reprT {x y : Str} {n : Int} (hm : X.mg "repr" = none) (hg0 : X.A.guards = some []) (hu : X.A.units + 64 < cLine) (hs : (dctP x y n).showable = true) (hz : (dctP x y n).shown.length ≤ sizeLine) (hdp : (dctP x y n).depth ≤ 8) (h : WE X ρ M e fun d M1 => d = dctD x y n ∧ Φ (.str (dctP x y n).shown) M1) (hg : Gl X "repr" := by rfl)
    (he : starEach [e] X.env = (false, eval e X.env) :: starEach [] X.env := by rfl) (hpl : (backTo pos (starEach [] X.env)).any (·.1) = false := by rfl) : WE X ρ M (.Call (.Name "repr" p) [e] [] pos) Φ :=
  we_callB (cr_reprT hg0 hu hs hz hdp) hm (by decide +kernel) (wa_cons (h.imp fun d M1 h => wa_nil fun Z vs H Q w rr k => by
    obtain ⟨v, rfl, r⟩ := rr.one
    obtain ⟨rfl, h⟩ := h
    cases r with
    | dT h1 m r =>
      cases r with
      | cons r1 t =>
        cases t
        cases r1
        exact ⟨_, rfl, h1, k.now w (.str _) h⟩) he) hg (he := he) (hpl := hpl)
end
end DL
/-! DQ1: values of any kind: their class, how they are shown. -/
namespace DL
open PySem PySem.Spec PyProof.Rows L2 SX
/-- a value of any kind -/
inductive AV where
  | non | bl (b : Bool) | int (i : Int) | str (x : Str) | tup (l : List AV) | lst (l : List AV) | dic | dct (x y : Str) (n : Int)
mutual
def avD : AV → D
  | .non => .non
  | .bl b => .bl b
  | .int i => .int i
  | .str x => .str x
  | .tup l => .tup (avsD l)
  | .lst l => .lst (avsD l)
  | .dic => .dK []
  | .dct x y n => dctD x y n
def avsD : List AV → List D
  | [] => []
  | v :: l => avD v :: avsD l
end
theorem avsD_map : ∀ l : List AV, avsD l = l.map avD
  | [] => by rw [avsD]; rfl
  | v :: l => by rw [avsD, avsD_map l, List.map_cons]
theorem avsD_get {l : List AV} {i : Nat} {x : D} (h : (avsD l)[i]? = some x) : ∃ v, l[i]? = some v ∧ x = avD v := by
  rw [avsD_map, List.getElem?_map] at h
  obtain ⟨v, h1, rfl⟩ := Option.map_eq_some_iff.mp h
  exact ⟨v, h1, rfl⟩
theorem avsD_len (l : List AV) : (avsD l).length = l.length := by rw [avsD_map, List.length_map]
def avT : AV → String
  | .non => "NoneType"
  | .bl _ => "bool"
  | .int _ => "int"
  | .str _ => "str"
  | .tup _ => "tuple"
  | .lst _ => "list"
  | .dic => "dict"
  | .dct _ _ _ => "dict"
theorem avTy (M : Mp) (v : AV) : TyD M (avD v) (.type (avT v)) := by
  cases v <;> (rw [avD]; rfl)
mutual
def avP : AV → PyData
  | .non => .none
  | .bl b => .bool b
  | .int i => .int i
  | .str x => .str x
  | .tup l => .tuple (avsP l)
  | .lst l => .list (avsP l)
  | .dic => .dict []
  | .dct x y n => dctP x y n
def avsP : List AV → List PyData
  | [] => []
  | v :: l => avP v :: avsP l
end
section
variable {X : Cx} {ρ : Rho} {M : Mp} {Φ : D → Mp → Prop} {e : Expr} {pos p : Pos}
theorem cr_reprA (hg : X.A.guards = some []) (hu : X.A.units + 64 < cLine) : CallR X (.builtin "repr") (fun xs H Q => (∃ v q, xs = [v] ∧ Dp X.K H v q ∧ q.showable = true ∧ q.canLay0 = true ∧ q.depth ≤ 60 ∧ q.shown.length ≤ sizeLine ∧ Q (.str q.shown) H) ∨ (∃ a, xs = [.ref a] ∧ H a = some (.dK []) ∧ Q (.str (PyData.dict []).shown) H) ∨ ∃ x y n, (dctP x y n).showable = true ∧ (dctP x y n).shown.length ≤ sizeLine ∧ (dctP x y n).depth ≤ 8 ∧ ∃ a, xs = [.ref a] ∧ H a = some (.dT [([.inr x, .inr y], .int n)]) ∧ Q (.str (dctP x y n).shown) H) := by
  intro pins s σ H xs us Q I r h
  rcases h with h | ⟨a, rfl, ha, h⟩ | ⟨x, y, n, g1, g2, g3, h⟩
  · exact cr_reprD hg hu pins s σ H xs us Q I r h
  rotate_left
  · exact cr_reprT hg hu g1 g2 g3 pins s σ H xs us Q I r h
  · obtain ⟨u, rfl, ru⟩ := vals1 r
    obtain rfl : u = Value.ref a := ru
    obtain ⟨_, hs, vs, kv, o, es, ep, ho, hx, hd, hk, hp, _⟩ := I.hok a _ ha
    cases kv
    have e0 : es.toList = [] := by
      cases hp' : es.toList with
      | nil => rfl
      | cons q r => rw [hp'] at hp; cases hp
    have rd : Reads s.heap (.ref a) (PyData.dict []) (a :: [] ++ []) := Reads.dict ho hx.1 hd (by rw [e0]; exact .nil) (by rw [e0]; exact .nil)
    refine repr_of_reads' rd (by decide) (fun _ => ?_) hg (by show X.A.units + (1 + 1) < cLine; omega) (fun _ _ z => z) (fun h' t tk kp => ⟨.str _, H, I.kept kp, ⟨t, rfl⟩, h⟩) (by decide +kernel)
    intro z
    rcases List.mem_cons.mp z with z | z
    · rw [← z] at hs; simp at hs
    · cases z
/-- repr(e), e any value -/
theorem we_reprA (hm : X.mg "repr" = none) (hg0 : X.A.guards = some []) (hu : X.A.units + 64 < cLine) (h : WE X ρ M e fun d M1 => ((∃ q k, CmpD d q k ∧ k ≤ 60 ∧ q.showable = true ∧ q.shown.length ≤ sizeLine ∧ Φ (.str q.shown) M1) ∨ (d = .dK [] ∧ Φ (.str (PyData.dict []).shown) M1) ∨ ∃ x y n, d = dctD x y n ∧ (dctP x y n).showable = true ∧ (dctP x y n).shown.length ≤ sizeLine ∧ (dctP x y n).depth ≤ 8 ∧ Φ (.str (dctP x y n).shown) M1)) (hg : Gl X "repr" := by rfl)
    (he : starEach [e] X.env = (false, eval e X.env) :: starEach [] X.env := by rfl) (hpl : (backTo pos (starEach [] X.env)).any (·.1) = false := by rfl) : WE X ρ M (.Call (.Name "repr" p) [e] [] pos) Φ :=
  we_callB (cr_reprA hg0 hu) hm (by decide +kernel) (wa_cons (h.imp fun d M1 h => wa_nil fun Z vs H Q w rr k => by
    obtain ⟨v, rfl, r⟩ := rr.one
    rcases h with ⟨q, j, c, hj, h1, h2, h⟩ | ⟨rfl, h⟩ | ⟨x, y, n, rfl, g1, g2, g3, h⟩
    · exact .inl ⟨v, q, rfl, r.dp c.eq, h1, c.lay, Nat.le_trans c.dep hj, h2, k.now w (.str _) h⟩
    · cases r with
      | dK h1 m r =>
        cases r
        exact .inr (.inl ⟨_, rfl, h1, k.now w (.str _) h⟩)
    · cases r with
      | dT h1 m r =>
        cases r with
        | cons r1 t =>
          cases t
          cases r1
          exact .inr (.inr ⟨x, y, n, g1, g2, g3, _, rfl, h1, k.now w (.str _) h⟩)) he) hg (he := he) (hpl := hpl)
end
/-- how a value is shown, where it can be -/
def RpD (v : AV) : Prop := (∃ k, CmpD (avD v) (avP v) k ∧ k ≤ 60 ∧ (avP v).showable = true ∧ (avP v).shown.length ≤ sizeLine) ∨ v = .dic ∨ ∃ x y n, v = .dct x y n ∧ (dctP x y n).showable = true ∧ (dctP x y n).shown.length ≤ sizeLine ∧ (dctP x y n).depth ≤ 8
theorem we_reprV {X : Cx} {ρ : Rho} {M : Mp} {Φ : D → Mp → Prop} {e : Expr} {pos p : Pos} (hm : X.mg "repr" = none) (hg0 : X.A.guards = some []) (hu : X.A.units + 64 < cLine) (h : WE X ρ M e fun d M1 => ∃ v, d = avD v ∧ RpD v ∧ Φ (.str (avP v).shown) M1) (hg : Gl X "repr" := by rfl)
    (he : starEach [e] X.env = (false, eval e X.env) :: starEach [] X.env := by rfl) (hpl : (backTo pos (starEach [] X.env)).any (·.1) = false := by rfl) : WE X ρ M (.Call (.Name "repr" p) [e] [] pos) Φ :=
  we_reprA hm hg0 hu (h.imp fun d M1 ⟨v, e1, hv, hz⟩ => by
    subst e1
    rcases hv with ⟨k, c, h1, h2, h3⟩ | rfl | ⟨x, y, n, rfl, g1, g2, g3⟩
    · exact .inl ⟨_, k, c, h1, h2, h3, hz⟩
    · exact .inr (.inl ⟨by rw [avD], by rw [avP] at hz; exact hz⟩)
    · exact .inr (.inr ⟨x, y, n, by rw [avD], g1, g2, g3, by rw [avP] at hz; exact hz⟩)) hg he hpl
/-! ### bounds -/
theorem sh_natW {n : Nat} (h : n < 10 ^ 40) : ShD (.int (n : Nat)) 41 := by
  refine ⟨?_, ?_⟩
  · simp only [PyData.showable, decide_eq_true_eq, Int.natAbs_natCast]
    by_cases h0 : n = 0
    · rw [h0]; decide
    · have : n < 2 ^ 140 := Nat.lt_trans h (by decide)
      have := (Nat.log2_lt h0).mpr this; omega
  · simp only [PyData.shown]
    rw [num_S, S_len]
    exact Nat.le_succ_of_le (TL.numL_len (k := 40) (by decide) h)
mutual
def avDp : AV → Nat
  | .tup l => avsDp l + 1
  | .lst l => avsDp l + 1
  | .non => 0
  | .bl _ => 0
  | .int _ => 0
  | .str _ => 0
  | .dic => 0
  | .dct _ _ _ => 0
def avsDp : List AV → Nat
  | [] => 0
  | v :: l => max (avDp v) (avsDp l)
end
mutual
def avLn : AV → Nat
  | .tup l => avsLn l + 3
  | .lst l => avsLn l + 3
  | .non => 41
  | .bl _ => 41
  | .int _ => 41
  | .str _ => 41
  | .dic => 41
  | .dct _ _ _ => 41
def avsLn : List AV → Nat
  | [] => 0
  | v :: l => avLn v + 2 + avsLn l
end
def StG (x : Str) : Prop := (∀ c ∈ x.cps.toList, c < 0x110000) ∧ ShD (.str x) 41
mutual
/-- its parts can be shown, and are short; a dict is nowhere within -/
def AvG : AV → Prop
  | .int i => (∃ n : Nat, i = n ∧ n < 10 ^ 40) ∨ i = -1
  | .str x => StG x
  | .tup l => AvsG l
  | .lst l => AvsG l
  | .dic => False
  | .dct _ _ _ => False
  | _ => True
def AvsG : List AV → Prop
  | [] => True
  | v :: l => AvG v ∧ AvsG l
end
theorem avsG_all : ∀ {l : List AV}, AvsG l ↔ ∀ v ∈ l, AvG v
  | [] => by simp [AvsG]
  | v :: l => by simp [AvsG, avsG_all (l := l)]
theorem avsLn_sum : ∀ l : List AV, avsLn l = (l.map fun v => avLn v + 2).sum
  | [] => by rw [avsLn]; rfl
  | v :: l => by rw [avsLn, avsLn_sum l, List.map_cons, List.sum_cons]
theorem sh_non : ShD .none 41 := ⟨by decide +kernel, by decide +kernel⟩
theorem sh_bl (b : Bool) : ShD (.bool b) 41 := ⟨by cases b <;> decide +kernel, by cases b <;> decide +kernel⟩
theorem sh_m1 : ShD (.int (-1)) 41 := ⟨by decide +kernel, by decide +kernel⟩
mutual
theorem avG_ok : ∀ {v : AV}, AvG v → CmpD (avD v) (avP v) (avDp v) ∧ ShD (avP v) (avLn v)
  | .non, _ => by rw [avD, avP, avDp, avLn]; exact ⟨cmp_non, sh_non⟩
  | .bl b, _ => by rw [avD, avP, avDp, avLn]; exact ⟨cmp_bl b, sh_bl b⟩
  | .int i, h => by
    rw [avD, avP, avDp, avLn]
    refine ⟨cmp_int i, ?_⟩
    rcases h with ⟨n, rfl, hn⟩ | rfl
    · exact sh_natW hn
    · exact sh_m1
  | .str x, h => by rw [avD, avP, avDp, avLn]; exact ⟨cmp_str h.1, h.2⟩
  | .tup l, h => by
    obtain ⟨h1, h2, h3⟩ := avsG_ok (l := l) h
    rw [avD, avP, avDp, avLn]
    exact ⟨cmp_tup h1, ⟨by simp only [PyData.showable]; exact h2, by
      simp only [PyData.shown]
      have q := tupleText_len_le (PyData.shownAll (avsP l))
      omega⟩⟩
  | .lst l, h => by
    obtain ⟨h1, h2, h3⟩ := avsG_ok (l := l) h
    rw [avD, avP, avDp, avLn]
    exact ⟨cmp_lst h1, ⟨by simp only [PyData.showable]; exact h2, by
      simp only [PyData.shown]
      have q := listText_len_le (PyData.shownAll (avsP l))
      omega⟩⟩
  | .dic, h => h.elim
  | .dct _ _ _, h => h.elim
theorem avsG_ok : ∀ {l : List AV}, AvsG l → CmpDs (avsD l) (avsP l) (avsDp l) ∧ PyData.showableAll (avsP l) = true ∧ ((PyData.shownAll (avsP l)).map (·.length)).sum + 2 * (PyData.shownAll (avsP l)).length ≤ avsLn l
  | [], _ => by rw [avsD, avsP, avsDp, avsLn]; exact ⟨cmps_nil, by simp [PyData.showableAll], by simp [PyData.shownAll]⟩
  | v :: l, h => by
    obtain ⟨a1, a2⟩ := avG_ok (v := v) h.1
    obtain ⟨b1, b2, b3⟩ := avsG_ok (l := l) h.2
    rw [avsD, avsP, avsDp, avsLn]
    refine ⟨cmps_cons ⟨a1.eq, a1.lay, Nat.le_refl _⟩ (Nat.le_trans a1.dep (Nat.le_max_left _ _)) ⟨b1.eq, b1.lay, Nat.le_trans b1.dep (Nat.le_max_right _ _)⟩, ?_, ?_⟩
    · simp only [PyData.showableAll, a2.ok, b2, Bool.and_self]
    · simp only [PyData.shownAll, List.map_cons, List.sum_cons, List.length_cons]
      have := a2.le
      omega
end
theorem rp_of {v : AV} (h : AvG v) (hd : avDp v ≤ 60) (hl : avLn v ≤ sizeLine) : RpD v := by
  obtain ⟨a, b⟩ := avG_ok h
  exact .inl ⟨_, a, hd, b.ok, Nat.le_trans b.le hl⟩
end DL
/-! GT8: words; _law_is_plan_text walked. -/
namespace W
open PySem PySem.Spec PyProof.Rows L2 DL SX PL
/-- a sign as the law keeps it: a letter, else a blank -/
def lt32 (c : Nat) : Nat := if letter c = true then c else 32
/-- the pieces between what is no letter -/
def sp : List Nat → List Nat → List (List Nat)
  | acc, [] => [acc]
  | acc, c :: r => if letter c = true then sp (acc ++ [c]) r else acc :: sp [] r
theorem sp_ne : ∀ (acc l : List Nat), sp acc l ≠ []
  | acc, [] => by rw [sp]; simp
  | acc, c :: r => by
    rw [sp]
    split
    · exact sp_ne _ r
    · simp
theorem sp_free : ∀ (acc l : List Nat), (∀ c ∈ acc, letter c = true) → ∀ p ∈ sp acc l, ∀ c ∈ p, letter c = true
  | acc, [], h, p, hp => by
    rw [sp, List.mem_singleton] at hp
    subst hp; exact h
  | acc, c :: r, h, p, hp => by
    rw [sp] at hp
    split at hp
    · rename_i hc
      refine sp_free _ r (fun x hx => ?_) p hp
      rcases List.mem_append.mp hx with hx | hx
      · exact h x hx
      · rw [List.mem_singleton] at hx; subst hx; exact hc
    · rcases List.mem_cons.mp hp with rfl | hp
      · exact h
      · exact sp_free [] r (fun x hx => by cases hx) p hp
theorem joinL_cons (S p : List Nat) {ps : List (List Nat)} (h : ps ≠ []) : TL.joinL S (p :: ps) = p ++ (S ++ TL.joinL S ps) := by
  cases ps with
  | nil => exact absurd rfl h
  | cons q r => rw [TL.joinL]
theorem sp_join : ∀ (acc l : List Nat), TL.joinL [32] (sp acc l) = acc ++ l.map lt32
  | acc, [] => by rw [sp, TL.joinL]; simp
  | acc, c :: r => by
    rw [sp]
    by_cases hc : letter c = true
    · rw [if_pos hc, sp_join _ r, List.map_cons, lt32, if_pos hc]; simp
    · rw [if_neg hc, joinL_cons _ _ (sp_ne [] r), sp_join [] r, List.map_cons, lt32, if_neg hc]; simp
theorem sp_split (l : List Nat) : Txt.split (S (l.map lt32)) (" " : Str) = (sp [] l).map S := by
  have e : S (l.map lt32) = Txt.join (S [32]) ((sp [] l).map S) := by rw [join_S, sp_join]; rfl
  rw [e, show (" " : Str) = S [32] by decide +kernel]
  refine TL.split_join (s := 32) (S := []) rfl (by decide +kernel) (fun h => sp_ne [] l (List.map_eq_nil_iff.mp h)) fun p hp => ?_
  obtain ⟨q, hq, rfl⟩ := List.mem_map.mp hp
  intro h
  have := sp_free [] l (fun x hx => by cases hx) q hq 32 h
  cases this
theorem sp_len : ∀ acc l : List Nat, (sp acc l).length ≤ l.length + 1
  | acc, [] => by rw [sp]; simp
  | acc, c :: r => by
    rw [sp]
    split
    · have := sp_len (acc ++ [c]) r; simp; omega
    · have := sp_len [] r; simp; omega
theorem sp_mid : ∀ (a : List Nat) (acc : List Nat) {c : Nat} (b : List Nat), letter c = false → sp acc (a ++ c :: b) = sp acc a ++ sp [] b
  | [], acc, c, b, h => by
    have e : sp acc (c :: b) = acc :: sp [] b := by
      rw [sp.eq_2]; exact if_neg (by rw [h]; simp)
    rw [List.nil_append, e, sp]; rfl
  | x :: a, acc, c, b, h => by
    rw [List.cons_append, sp, sp]
    split
    · exact sp_mid a _ b h
    · rw [sp_mid a [] b h]; rfl
/-- the words -/
def fw (l : List Nat) : List (List Nat) := (sp [] l).filter fun p => decide (p ≠ [])
theorem fw_mid (a : List Nat) {c : Nat} (b : List Nat) (h : letter c = false) : fw (a ++ c :: b) = fw a ++ fw b := by unfold fw; rw [sp_mid a [] b h, List.filter_append]
theorem fw_nil : fw [] = [] := rfl
theorem fw_hd {c : Nat} (b : List Nat) (h : letter c = false) : fw (c :: b) = fw b := by
  have := fw_mid [] b h
  rwa [List.nil_append, fw_nil, List.nil_append] at this
theorem fw_end (a : List Nat) {c : Nat} (h : letter c = false) : fw (a ++ [c]) = fw a := by rw [fw_mid a [] h, fw_nil, List.append_nil]
theorem sp_word : ∀ (x acc : List Nat), (∀ c ∈ x, letter c = true) → sp acc x = [acc ++ x]
  | [], acc, _ => by rw [sp, List.append_nil]
  | c :: x, acc, h => by rw [sp, if_pos (h c List.mem_cons_self), sp_word x _ fun d hd => h d (List.mem_cons_of_mem _ hd)]; simp
theorem fw_word {x : List Nat} (h : ∀ c ∈ x, letter c = true) (h0 : x ≠ []) : fw x = [x] := by
  unfold fw
  rw [sp_word x [] h, List.nil_append, List.filter_cons, if_pos (by simpa using h0), List.filter_nil]
theorem fw_num : ∀ (x : List Nat), (∀ c ∈ x, letter c = false) → fw x = []
  | [], _ => rfl
  | c :: x, h => by rw [fw_hd x (h c List.mem_cons_self), fw_num x fun d hd => h d (List.mem_cons_of_mem _ hd)]
theorem num_noletter (n : Nat) : ∀ c ∈ TL.numL n, letter c = false := fun c hc => by
  have := TL.numL_digits n c hc
  exact letter_no (by omega)
theorem lvL_map : ∀ ts : List T, lvL ts = ts.flatMap lv
  | [] => by rw [lvL]; rfl
  | t :: ts => by rw [lvL, lvL_map ts, List.flatMap_cons]
mutual
theorem fw_txt : ∀ t, Good t → (fw (txt t)).map S = lv t
  | .one, _ => by rw [txt, lv]; rfl
  | .name x, g => by rw [txt, lv, fw_word g.2.2 g.1]; rfl
  | .cop b n t, g => by
    rw [txt, lv, fw_hd _ (by cases b <;> rfl), fw_mid _ _ (by rfl), fw_num _ (num_noletter n), List.nil_append, fw_end _ (by cases b <;> rfl)]
    exact fw_txt t g.2.2
  | .row s ts, g => by
    rw [txt, lv, fw_hd _ (by rfl), fw_end _ (by rfl)]
    exact fw_txts s ts g.2
theorem fw_txts (s : Bool) : ∀ ts, Goods ts → (fw (TL.joinL (sep s) (txts ts))).map S = lvL ts
  | [], _ => by rw [txts, lvL]; rfl
  | [t], g => by rw [txts, txts, lvL, lvL, TL.joinL, List.append_nil]; exact fw_txt t g.1
  | t :: u :: ts, g => by
    have e : TL.joinL (sep s) (txts (t :: u :: ts)) = txt t ++ (32 :: (sgn s :: (32 :: TL.joinL (sep s) (txts (u :: ts))))) := by rw [txts, txts, TL.joinL]; rfl
    rw [e, fw_mid _ _ (by rfl), fw_hd _ (by cases s <;> rfl), fw_hd _ (by rfl), List.map_append, lvL, fw_txt t g.1, fw_txts s (u :: ts) g.2]
end
/-- a plan's text of three names at most -/
def Rt (l : List Nat) : Prop := ∃ t, Good t ∧ txt t = l ∧ (nmT t).length ≤ 3
theorem nmT_fw {t : T} (g : Good t) : (dedZ [] ((fw (txt t)).map S)).length = (nmT t).length := by
  rw [fw_txt t g]
  exact (srtZ_perm _).length_eq.symm
theorem rt_iff {l : List Nat} (h : Tx l) : Rt l ↔ (dedZ [] ((fw l).map S)).length ≤ 3 := by
  constructor
  · rintro ⟨t, g, rfl, h3⟩; rw [nmT_fw g]; exact h3
  · obtain ⟨t, g, rfl⟩ := h
    intro h3; exact ⟨t, g, rfl, by rw [← nmT_fw g]; exact h3⟩
theorem join_sg : ∀ l : List Nat, TL.joinL [] (l.map fun c => [c]) = l
  | [] => rfl
  | [c] => rfl
  | c :: d :: l => by
    have ih := join_sg (d :: l)
    rw [List.map_cons, List.map_cons, TL.joinL]
    rw [List.map_cons] at ih
    rw [ih]; rfl
end W
/-! GT3: row_in, groups_in, is_plan_text of any text. -/
namespace W
open PySem PySem.Spec PyProof.Rows L2 DL SX PL
theorem G_small {L S : List Nat} : ∀ (R : List Nat) (i : Nat) (d : Int) (b : Nat) (f : List (List Nat)), (∀ p ∈ f, p.length ≤ L.length) → (∀ p ∈ G L S R i d b f, p.length ≤ L.length) ∧ (G L S R i d b f).length ≤ f.length + R.length + 1
  | [], i, d, b, f, h => by
    rw [G]
    refine ⟨fun p hp => ?_, by rw [List.length_append]; simp⟩
    rcases List.mem_append.mp hp with hp | hp
    · exact h p hp
    · rw [List.mem_singleton.mp hp, List.length_drop]; omega
  | c :: R, i, d, b, f, h => by
    rw [G]
    split
    · obtain ⟨h1, h2⟩ := G_small (L := L) (S := S) R (i + 1) (d + wgt c) (i + S.length) (f ++ [(L.take i).drop b]) fun p hp => by
        rcases List.mem_append.mp hp with hp | hp
        · exact h p hp
        · rw [List.mem_singleton.mp hp, List.length_drop, List.length_take]; omega
      refine ⟨h1, ?_⟩
      rw [List.length_append, List.length_singleton] at h2
      rw [List.length_cons]; omega
    · obtain ⟨h1, h2⟩ := G_small (L := L) (S := S) R (i + 1) (d + wgt c) b f h
      exact ⟨h1, by rw [List.length_cons]; omega⟩
theorem parts_small (m S : List Nat) : (∀ p ∈ parts m S, p.length ≤ m.length) ∧ (parts m S).length ≤ m.length + 1 := by
  have := G_small (L := m) (S := S) m 0 0 0 [] fun p h => by cases h
  simpa [parts] using this
section
variable {P : Program} {w : World} {K : PySem.W.Frag} {mg : Str → Option Value} {base : Heap}
def cRowG : Con := fun ds M Φ => ∃ l, ds = [tS l] ∧ l.length ≤ 600 ∧ Φ .non M ∧ ∀ (b : Bool) (m : List Nat), l = 40 :: (m ++ [41]) → 2 ≤ (parts m (sep b)).length → Φ (.tup [.str (wrd b), .lst ((parts m (sep b)).map fun p => .tup [.int 1, tS p])]) M
abbrev nRowG : List Str := ["text", "word", "sign", "parts", "part"]
theorem ok_row_in_g (F : Fx w K mg) (Fp : Fc P w K mg base "parted" [] 1 2 cParted) : BodyOk P w K mg base "row_in" s_row_in nRowG 1 1 cRowG := by
  intro f cdv A outer s H E hr ds M Φ hl hc
  obtain ⟨l, rfl, hlen, hc1, hc2⟩ := hc
  have nd : nRowG.Nodup := by decide +kernel
  obtain ⟨a, kvs, h1, h2, h3⟩ := F.gSIGNS
  refine wss_cons (ws_if (wt_ww (ww_or (wt_not (wt_val (we_startswith (we_var 0 rfl ⟨_, rfl, we_str ⟨_, rfl, _, rfl, ?_⟩⟩)))))))
  rw [show ("(" : Str) = S [40] by decide +kernel, starts_g]
  by_cases hh : l.head? = some 40
  case neg =>
    rw [decide_eq_false hh]
    exact wss_cons (ws_ret (we_non (Lets.of hc1)))
  rw [decide_eq_true hh]
  have hne : l ≠ [] := fun e => by rw [e] at hh; cases hh
  refine ww_or1 (wt_not (wt_val (we_endswith (we_var 0 rfl ⟨_, rfl, we_str ⟨_, rfl, _, rfl, ?_⟩⟩))))
  rw [show (")" : Str) = S [41] by decide +kernel, ends_g hne]
  by_cases he : l.getLast? = some 41
  case neg =>
    rw [decide_eq_false he]
    exact wss_cons (ws_ret (we_non (Lets.of hc1)))
  rw [decide_eq_true he]
  obtain ⟨m, rfl⟩ := around_shape (by decide) hh he
  have hml : m.length + 2 ≤ 600 := by simpa using hlen
  refine wss_nil (wss_cons (ws_for PassesOwn.never (wi_gitems h1 h2 h3 ?_)))
  refine ⟨fun i ρ' M' => ∃ o1 o2 o3 o4, ρ' = [some (tS (40 :: (m ++ [41]))), o1, o2, o3, o4] ∧ M' = M, ⟨none, none, none, none, rfl, rfl⟩, ?_, ?_⟩
  · rintro i x ρ' M' hx ⟨o1, o2, o3, o4, rfl, rfl⟩
    obtain ⟨c, rfl, rfl⟩ := signs_of hx
    refine wg_tup ⟨rfl, rfl, wgs_cons (wg_name 1 (wgs_cons (wg_name 2 (wgs_nil ⟨rfl, ?_⟩) nd)) nd)⟩
    refine wss_cons (ws_set 3 nd (we_call Fp (hr.mono (by decide)) (wa_cons (we_slice (we_var 0 rfl (we_int ⟨1, rfl, we_negI (we_int ⟨1, rfl, _, rfl, _, .inr (.inr ⟨_, rfl, ?_, rfl⟩), wa_cons (we_var 2 rfl (wa_nil ⟨rfl, m, c, ?_, ?_, ?_⟩))⟩)⟩))))))
    · rw [S_len, sizeLine_eq]; omega
    · rw [cut_mid]; rfl
    · omega
    obtain ⟨q1, q2⟩ := parts_small m (sep c)
    refine wss_cons (ws_if (wt_gtI (we_len (F.bn _ (by decide +kernel)) (we_var 3 rfl ⟨_, lenL, we_int ⟨_, _, rfl, rfl, ?_⟩⟩))))
    rw [List.length_map]
    by_cases h2p : 2 ≤ (parts m (sep c)).length
    · rw [decide_eq_true (show (1 : Int) < ((parts m (sep c)).length : Int) by omega)]
      have hres := hc2 c m rfl h2p
      generalize parts m (sep c) = ps at q1 q2 hres
      refine wss_cons (ws_ret (we_tup (wa_cons (we_var 1 rfl (wa_cons (we_lc nd (blkOk_by (N := nRowG) (sc := defScope s_row_in) (own := [("part", 4)]) (by decide +kernel)) (fun _ _ _ _ _ => pg_name (i := 4) nd rfl (Or.inl rfl)) (gt_name (by decide)) (fun _ _ _ _ _ => pts_nil) tk_nil
        (wi_list (we_var 3 rfl ⟨_, .inl rfl, ?_⟩))))))))
      refine ⟨by rw [List.length_map, sizeLine_eq]; omega, fun i acc M'' => M'' = M' ∧ acc = (ps.take i).map fun p => .tup [.int 1, tS p], ⟨rfl, rfl⟩, ?_, ?_⟩
      · rintro i x acc M'' hx ⟨rfl, rfl⟩
        rw [List.getElem?_map] at hx
        obtain ⟨p, hp, rfl⟩ := Option.map_eq_some_iff.mp hx
        intro s1 H1 C cl fp
        refine we_tup (wa_cons (we_int (wa_cons (we_var 4 rfl (wa_nil ⟨sz2, rfl, ?_⟩)))))
        rw [take_snoc hp, List.map_append]; rfl
      · rintro acc M'' ⟨rfl, rfl⟩
        rw [List.length_map, List.take_length]
        exact wa_nil ⟨sz2, Lets.of hres⟩
    · rw [decide_eq_false (show ¬ (1 : Int) < ((parts m (sep c)).length : Int) by omega)]
      refine wss_nil (wss_nil ?_)
      exact ⟨_, _, _, _, rfl, rfl⟩
  · rintro ρ' M' ⟨o1, o2, o3, o4, rfl, rfl⟩
    exact wss_cons (ws_ret (we_non (Lets.of hc1)))
/-! ### groups_in -/
def grpG (gs : List (Nat × List Nat)) : D := .lst (gs.map fun g => .tup [.int (g.1 : Nat), tS g.2])
def cGrpG : Con := fun ds M Φ => ∃ l, ds = [tS l] ∧ l.length ≤ 600 ∧ Φ .non M ∧ ∀ (z : Str) (gs : List (Nat × List Nat)), ((∀ g ∈ gs, Tx g.2) → Tx l) → (∀ g ∈ gs, g.2.length ≤ l.length) → gs.length ≤ 600 → Φ (.tup [.str z, grpG gs]) M
theorem ok_groups_in_g (F : Fx w K mg) (F1 : Fc P w K mg base "is_name" [] 1 1 cIsName) (F2 : Fc P w K mg base "copies_in" [] 2 1 cCopG) (F3 : Fc P w K mg base "row_in" [] 2 1 cRowG) :
    BodyOk P w K mg base "groups_in" s_groups_in ["text", "found"] 1 2 cGrpG := by
  intro f cdv A outer s H E hr ds M Φ hl hc
  obtain ⟨l, rfl, hlen, hc1, hc2⟩ := hc
  have nd : (["text", "found"] : List Str).Nodup := by decide +kernel
  refine wss_cons (ws_if (wt_eqS (we_var 0 rfl (we_gstr F.gPERSON ⟨_, rfl, ?_⟩))))
  rw [show decide (S l = ("1" : Str)) = decide (l = [49]) by rw [show ("1" : Str) = S [49] by decide +kernel]; exact decide_eq_decide.mpr S_eqi]
  by_cases h1 : l = [49]
  · rw [decide_eq_true h1]
    have := hc2 "one" [] (fun _ => ⟨.one, trivial, by rw [txt, h1]⟩) (fun g hg => by cases hg) (Nat.zero_le _)
    exact wss_cons (ws_ret (we_tup (wa_cons (we_gstr F.gONE (wa_cons (we_lst (wa_nil ⟨Nat.zero_le _, wa_nil ⟨sz2, Lets.of this⟩⟩)))))))
  rw [decide_eq_false h1]
  refine wss_nil (wss_cons (ws_if (wt_val (we_call F1 (hr.mono (by decide)) (wa_cons (we_var 0 rfl (wa_nil ⟨rfl, l, rfl, by omega, _, rfl, ?_⟩)))))))
  cases hN : isNameL l with
  | true =>
    have hN2 : 1 ≤ l.length ∧ l.length ≤ 8 ∧ ∀ c ∈ l, letter c = true := by
      unfold isNameL at hN
      rw [Bool.and_eq_true, Bool.and_eq_true, decide_eq_true_iff, decide_eq_true_iff, List.all_eq_true] at hN
      exact hN
    have := hc2 "name" [] (fun _ => ⟨.name l, ⟨fun e => by rw [e] at hN2; simp at hN2, hN2.2.1, hN2.2.2⟩, by rw [txt]⟩) (fun g hg => by cases hg) (Nat.zero_le _)
    exact wss_cons (ws_ret (we_tup (wa_cons (we_gstr F.gNAME (wa_cons (we_lst (wa_nil ⟨Nat.zero_le _, wa_nil ⟨sz2, Lets.of this⟩⟩)))))))
  | false =>
  refine wss_nil (wss_cons (ws_set 1 nd (we_call F2 (hr.mono (by decide)) (wa_cons (we_var 0 rfl (wa_nil ⟨rfl, l, rfl, hlen, ?_, fun b n r n2 n30 hr2 hor => ?_⟩))))))
  · refine wss_cons (ws_ret (we_if (wt_isN (we_var 1 rfl ?_))))
    refine we_call F3 (hr.mono (by decide)) (wa_cons (we_var 0 rfl (wa_nil ⟨rfl, l, rfl, hlen, Lets.of hc1, fun b m em h2p => Lets.of ?_⟩)))
    obtain ⟨q1, q2⟩ := parts_small m (sep b)
    have hml : m.length + 2 = l.length := by rw [em]; simp
    have := hc2 (wrd b) ((parts m (sep b)).map fun p => (1, p)) (fun h => by
      rw [em]
      exact tx_row h2p fun p hp => h (1, p) (List.mem_map_of_mem (f := fun p => (1, p)) hp)) (fun g hg => by
      obtain ⟨p, hp, rfl⟩ := List.mem_map.mp hg
      have := q1 p hp
      show p.length ≤ _
      omega) (by rw [List.length_map]; omega)
    unfold grpG at this
    rw [List.map_map] at this
    exact this
  · refine wss_cons (ws_ret (we_if (wt_isN (we_var 1 rfl ?_))))
    have := hc2 (wrd b) [(n, r)] (fun h => by
      have hr := h (n, r) List.mem_cons_self
      rcases hor with e | e
      · exact absurd e (tx_ne hr)
      · rw [e]; exact tx_cop n2 n30 hr) (fun g hg => by rw [List.mem_singleton.mp hg]; exact hr2) (show 1 ≤ 600 by decide)
    exact we_var 1 rfl (Lets.of this)
/-! ### is_plan_text -/
def cIptG (h : Nat) : Con := fun ds M Φ => ∃ l d, ds = [tS l, .int (d : Nat)] ∧ l.length ≤ 600 ∧ d + h = 61 ∧ ∀ b : Bool, (b = true → Tx l) → Φ (.bl b) M
abbrev nIptG : List Str := ["text", "depth", "found", "many", "part"]
theorem ok_is_plan_text_g (h : Nat) (F : Fx w K mg) (F1 : Fc P w K mg base "groups_in" [] 3 1 cGrpG) (F2 : ∀ j, h = j + 1 → Fc P w K mg base "is_plan_text" [] (j + 4) 2 (cIptG j)) :
    BodyOk P w K mg base "is_plan_text" s_is_plan_text nIptG 2 (h + 3) (cIptG h) := by
  intro f cdv A outer s H E hr ds M Φ hl hc
  obtain ⟨l, d, rfl, hlen, hd, hc⟩ := hc
  have nd : nIptG.Nodup := by decide +kernel
  have none_ : WSs (bx P w K mg base nIptG "is_plan_text" (defScope s_is_plan_text) f cdv A outer s H E) [some (tS l), some (.int (d : Nat)), some .non, none, none] M ((defBody s_is_plan_text).drop 1) { nx := fun _ M' => Φ .non M', rt := Lets Φ } := by
    refine wss_cons (ws_ret (we_and (we_notN (we_var 2 rfl ⟨_, rfl, ?_⟩))))
    exact Lets.of (hc false fun h => by cases h)
  refine wss_cons (ws_set 2 nd (we_if (wt_leI (we_var 1 rfl (we_gint F.gMOST_DEPTH ⟨_, _, rfl, rfl, ?_⟩)))))
  by_cases h0 : h = 0
  · rw [decide_eq_false (show ¬ (d : Int) ≤ 60 by omega)]
    exact we_non none_
  obtain ⟨j, rfl⟩ : ∃ j, h = j + 1 := ⟨h - 1, by omega⟩
  rw [decide_eq_true (show (d : Int) ≤ 60 by omega)]
  refine we_call F1 (hr.mono (by omega)) (wa_cons (we_var 0 rfl (wa_nil ⟨rfl, l, rfl, hlen, none_, fun z gs hb hsm hgl => ?_⟩)))
  refine wss_cons (ws_ret (we_and (we_notN (we_var 2 rfl ⟨_, rfl, ?_⟩))))
  refine we_one (we_all (F.bn _ (by decide +kernel)) (we_lc nd (blkOk_by (N := nIptG) (sc := defScope s_is_plan_text) (own := [("many", 3), ("part", 4)]) (by decide +kernel)) (fun _ _ _ _ _ => pg_tup rfl (pgs_cons (pg_name (i := 3) nd rfl (Or.inl rfl)) (pgs_cons (pg_name (i := 4) nd rfl (Or.inl rfl)) pgs_nil)) rfl rfl) (gt_two (by decide) (by decide)) (fun _ _ _ _ _ => pts_nil) tk_nil
    (wi_list (we_ix (we_var 2 rfl (we_int ⟨1, _, rfl, ixT (atI_nat (j := 1) rfl), _, .inl rfl, ?_⟩))))))
  refine ⟨by rw [List.length_map, sizeLine_eq]; omega, fun i acc M' => M' = M ∧ ∃ bs : List Bool, acc = bs.map D.bl ∧ bs.length = i ∧ ∀ k b, bs[k]? = some b → b = true → ∀ g : Nat × List Nat, gs[k]? = some g → Tx g.2, ⟨rfl, [], rfl, rfl, fun k b (e : ([] : List Bool)[k]? = some b) => absurd (List.mem_of_getElem? e) List.not_mem_nil⟩, ?_, ?_⟩
  · rintro i x acc M' hx ⟨rfl, bs, rfl, hbl, hbs⟩
    rw [List.getElem?_map] at hx
    obtain ⟨g, hg, rfl⟩ := Option.map_eq_some_iff.mp hx
    have hgs := hsm g (List.mem_of_getElem? hg)
    refine ⟨_, _, rfl, ?_⟩
    intro s1 H1 C cl fp
    refine we_call (F2 j rfl) (hr.mono (by omega)) (wa_cons (we_var 4 rfl (wa_cons (we_addI (we_var 1 rfl (we_int ⟨_, _, rfl, rfl, wa_nil ⟨rfl, g.2, d + 1, rfl, by omega, by omega, fun b hb2 => ⟨rfl, bs ++ [b], by rw [List.map_append]; rfl, by rw [List.length_append, hbl]; rfl, fun k b' e ht g' hg' => ?_⟩⟩⟩))))))
    by_cases hk : k < bs.length
    · rw [List.getElem?_append_left hk] at e
      exact hbs k b' e ht g' hg'
    · rw [List.getElem?_append_right (by omega)] at e
      have hk0 : k - bs.length = 0 := by
        have := (List.getElem?_eq_some_iff.mp e).1
        simpa using this
      rw [hk0] at e
      have e2 : k = i := by omega
      subst e2
      rw [hg] at hg'
      obtain rfl := Option.some.inj hg'
      obtain rfl : b = b' := by simpa using e
      exact hb2 ht
  · rintro acc M' ⟨rfl, bs, rfl, hbl, hbs⟩
    rw [List.length_map] at hbl
    refine ⟨bs, rfl, Lets.of (hc _ fun hall => hb fun g hg => ?_)⟩
    obtain ⟨k, hk⟩ := List.getElem?_of_mem hg
    have hkl : k < bs.length := by have := (List.getElem?_eq_some_iff.mp hk).1; omega
    have hbk := List.getElem?_eq_getElem hkl
    refine hbs k _ hbk ?_ g hk
    exact List.all_eq_true.mp hall _ (List.getElem_mem hkl)
end
end W
/-! CN2: a plan is made of a text with names; its names; check_told raises. -/
namespace W
open PySem PySem.Spec PyProof.Rows L2 DL SX PL
section
variable {P : Program} {w : World} {K : PySem.W.Frag} {mg : Str → Option Value} {base : Heap} {C : Addr}
def cInitN (C : Addr) (h : Nat) : Con := fun ds M Φ => ∃ a t, ds = [.ob a, tS (txt t)] ∧ Good t ∧ (lv t).length < 1000 ∧ (nmT t).length ≤ 3 ∧ (txt t).length ≤ 100000 ∧ ht t ≤ h ∧ ht t ≤ 60 ∧ M a = some (.ins C []) ∧ Φ .non (mset M a (.ins C (fldsN C t)))
/-- Plan(e) -/
theorem we_plan_n {X : Cx} {ρ : Rho} {M : Mp} {Φ : D → Mp → Prop} {e : Expr} {p pos : Pos} {h k : Nat} (F : Kc X.prog X.w X.K X.mg X.base "Plan" C [] k 2 (cInitN C h)) (hr : Room (k + 1) X.A)
    (q : WE X ρ M e fun d M1 => ∃ t, d = tS (txt t) ∧ Good t ∧ (lv t).length < 1000 ∧ (nmT t).length ≤ 3 ∧ (txt t).length ≤ 100000 ∧ ht t ≤ h ∧ ht t ≤ 60 ∧ Φ (planN C t) M1) (hg : Gl X "Plan" := by rfl)
    (he : starEach [e] X.env = (false, eval e X.env) :: starEach [] X.env := by rfl) (hpl : (backTo pos (starEach [] X.env)).any (·.1) = false := by rfl) : WE X ρ M (.Call (.Name "Plan" p) [e] [] pos) Φ :=
  we_make F hr (wa_cons (q.imp fun d M1 ⟨t, e1, h1, h2, h3, h4, h5, h6, h7⟩ => wa_nil fun a ha => ⟨rfl, a, t, by rw [e1]; rfl, h1, h2, h3, h4, h5, h6, mset_same, rfl, by
    rw [mset_mset]
    exact ⟨_, M1, les_new ha, .ins mset_same ha, by rw [← planN_ins]; exact h7⟩⟩) he) hg (he := he) (hpl := hpl)
theorem ok_init_n (h : Nat) (F : Fx w K mg) (X : Px K mg C) (F1 : Fc P w K mg base "is_plan_text" [] (h + 4) 2 (cPlanText h)) (F2 : Fc P w K mg base "names_in" [] (h + 4) 1 (cNamesN h)) (F3 : Fc P w K mg base "groups_in" [] 3 1 cGroupsIn)
    (F4 : ∀ j, h = j + 1 → Kc P w K mg base "Plan" C [] (2 * j + 6) 2 (cInitN C j)) : BodyOk P w K mg base "Plan.__init__" s_Plan___init__ nInit 2 (2 * h + 5) (cInitN C h) := by
  intro f cdv A outer s H E hr ds M Φ hl hc
  obtain ⟨a, t, rfl, hg, hlv, hn3, hl, hh, h60, hM, hc⟩ := hc
  have nd : nInit.Nodup := by decide +kernel
  have hk := kids_len hg
  obtain ⟨ps, hcmp⟩ := grp_cmp hg
  -- nothing is wrong
  refine wss_cons (ws_if (wt_ww (ww_or (wt_not (wt_val (we_isi (F.bn _ (by decide +kernel)) (we_var 1 rfl (we_bty (F.bn _ (by decide +kernel)) rfl ⟨_, _, true, rfl, rfl, (by intro C h; cases h), rfl, _, rfl, ?_⟩))))))))
  refine ww_or (wt_not (wt_val (we_call F1 (hr.mono (by omega)) (wa_cons (we_var 1 rfl (wa_cons (we_int (wa_nil ⟨rfl, t, 0, rfl, hg, by omega, hh, by omega, _, rfl, ?_⟩))))))))
  refine ww_or1 (wt_gtI (we_len (F.bn _ (by decide +kernel)) (we_call F2 (hr.mono (by omega)) (wa_cons (we_var 1 rfl (wa_nil ⟨rfl, t, rfl, hg, hlv, by omega, hh, _, lenL, we_gint F.gMOST_NAMES ⟨_, _, rfl, rfl, ?_⟩⟩))))))
  rw [decide_eq_false (show ¬ (3 : Int) < ((((nmT t).map D.str).length : Nat) : Int) by rw [List.length_map]; omega)]
  refine wss_nil ?_
  -- the fields
  refine wss_cons (ws_fld (C := C) (we_var 1 rfl (we_var 0 rfl ⟨a, _, rfl, hM, X.cl, X.na _ (by decide +kernel), by decide, ?_⟩)))
  rw [put1]
  refine wss_cons (ws_fld (C := C) (we_tupleOf (F.bn _ (by decide +kernel)) (we_call F2 (hr.mono (by omega)) (wa_cons (we_var 1 rfl (wa_nil ⟨rfl, t, rfl, hg, hlv, by omega, hh, _, .inl rfl, we_var 0 rfl ⟨a, _, rfl, mset_same, X.cl, X.na _ (by decide +kernel), sl1, ?_⟩⟩))))))
  rw [mset_mset, put2]
  refine wss_cons (ws_asg (we_call F3 (hr.mono (by omega)) (wa_cons (we_var 1 rfl (wa_nil ⟨rfl, t, rfl, hg, by omega, ?_⟩)))))
  refine wg_tup ⟨rfl, rfl, wgs_cons (wg_fld (C := C) (we_var 0 rfl ⟨a, _, rfl, mset_same, X.cl, X.na _ (by decide +kernel), sl2, wgs_cons (wg_name 2 (wgs_nil ⟨rfl, ?_⟩) nd)⟩))⟩
  rw [mset_mset, put3]
  refine wss_cons (ws_fld (C := C) (we_lc nd (blkOk_by (N := nInit) (sc := defScope s_Plan___init__) (own := [("many", 3), ("part", 4)]) (by decide +kernel)) (fun _ _ _ _ _ => pg_tup rfl (pgs_cons (pg_name (i := 3) nd rfl (Or.inl rfl)) (pgs_cons (pg_name (i := 4) nd rfl (Or.inl rfl)) pgs_nil)) rfl rfl) (gt_two (by decide) (by decide)) (fun _ _ _ _ _ => pts_nil) tk_nil
    (wi_list (we_var 2 rfl ⟨_, .inl rfl, ?_⟩))))
  refine ⟨by rw [grpD, List.length_map, sizeLine_eq]; omega, fun i acc M' => M' = mset M a (.ins C (f3 (tS (txt t)) (.tup ((nmT t).map D.str)) (.str (wordT t)))) ∧ acc = ((kids t).take i).map fun q => .tup [.int (q.1 : Nat), planN C q.2], ⟨rfl, rfl⟩, ?_, ?_⟩
  · rintro i x acc M' hx ⟨rfl, rfl⟩
    rw [grpD, List.getElem?_map] at hx
    obtain ⟨q, hq, rfl⟩ := Option.map_eq_some_iff.mp hx
    have hm := List.mem_of_getElem? hq
    obtain ⟨g1, g2, g3, g4, g5⟩ := kids_ok hm hg
    obtain ⟨n1, n2⟩ := kid_names hm
    refine ⟨_, _, rfl, ?_⟩
    intro s1 H1 C' cl fp
    obtain ⟨j, rfl⟩ : ∃ j, h = j + 1 := ⟨h - 1, by omega⟩
    refine we_tup (wa_cons (we_var 3 rfl (wa_cons (we_plan_n (F4 j rfl) (hr.mono (by omega)) (we_var 4 rfl ⟨q.2, rfl, g1, by omega, by omega, by omega, by omega, by omega, wa_nil ⟨sz2, rfl, ?_⟩⟩)))))
    rw [take_snoc hq, List.map_append]; rfl
  rintro acc M' ⟨rfl, rfl⟩
  refine we_var 0 rfl ⟨a, _, rfl, mset_same, X.cl, X.na _ (by decide +kernel), sl3, ?_⟩
  have el : (grpD t).length = (kids t).length := by rw [grpD, List.length_map]
  rw [mset_mset, put4, el, List.take_length]
  obtain ⟨c, r, ec, hcop⟩ := cop_in hg
  refine wss_cons (ws_fld (C := C) (we_inS (we_slice (we_var 1 rfl (we_int ⟨1, rfl, _, .inr (.inr ⟨_, rfl, by rw [S_len, sizeLine_eq]; omega, rfl⟩), we_txts ⟨_, _, rfl, .inl rfl, we_var 0 rfl ⟨a, _, rfl, mset_same, X.cl, X.na _ (by decide +kernel), sl4, ?_⟩⟩⟩)))))
  rw [mset_mset, put5, show cutS (S (txt t)) none (some 1) = S [c] by rw [ec, cut_1], hcop]
  -- people
  have fin : ∀ n : Int, n = (ppl t : Nat) → Φ .non (mset (mset M a (.ins C (f5 (tS (txt t)) (.tup ((nmT t).map D.str)) (.str (wordT t)) (.lst (subsN C t)) (.bl (isCop t))))) a (.ins C (putD "own_people" (.int n) (f5 (tS (txt t)) (.tup ((nmT t).map D.str)) (.str (wordT t)) (.lst (subsN C t)) (.bl (isCop t)))))) := fun n hn => by
    rw [mset_mset, put6, hn]
    exact hc
  refine wss_cons (ws_fld (C := C) (we_if (wt_neNil hr.units (we_var 2 rfl ⟨_, ps, 1, rfl, hcmp, by decide, ?_⟩))))
  by_cases hk0 : kids t = []
  · 
    have e1 : (grpD t).isEmpty = true := by unfold grpD; rw [hk0]; rfl
    rw [e1]
    refine we_int (we_var 0 rfl ⟨a, _, rfl, mset_same, X.cl, X.na _ (by decide +kernel), sl5, ?_⟩)
    exact wss_nil (fin 1 (by rw [ppl_none hk0 hg]; rfl))
  · have e1 : (grpD t).isEmpty = false := by
      unfold grpD
      cases hh2 : kids t with
      | nil => exact absurd hh2 hk0
      | cons q qs => rfl
    rw [e1]
    refine we_sum (F.bn _ (by decide +kernel)) (we_lc nd (blkOk_by (N := nInit) (sc := defScope s_Plan___init__) (own := [("many", 3), ("part", 4)]) (by decide +kernel)) (fun _ _ _ _ _ => pg_tup rfl (pgs_cons (pg_name (i := 3) nd rfl (Or.inl rfl)) (pgs_cons (pg_name (i := 4) nd rfl (Or.inl rfl)) pgs_nil)) rfl rfl) (gt_two (by decide) (by decide)) (fun _ _ _ _ _ => pts_nil) tk_nil
      (wi_list (we_fld (C := C) (we_var 0 rfl ⟨_, _, mset_same, X.cl, X.na _ (by decide +kernel), lk5_groups, _, .inl rfl, ?_⟩))))
    refine ⟨by rw [List.length_map, sizeLine_eq]; omega, fun i acc M' => M' = mset M a (.ins C (f5 (tS (txt t)) (.tup ((nmT t).map D.str)) (.str (wordT t)) (.lst (subsN C t)) (.bl (isCop t)))) ∧ acc = (((kids t).take i).map fun q => ((q.1 * ppl q.2 : Nat) : Int)).map D.int, ⟨rfl, rfl⟩, ?_, ?_⟩
    · rintro i x acc M' hx ⟨rfl, rfl⟩
      rw [List.getElem?_map] at hx
      obtain ⟨q, hq, rfl⟩ := Option.map_eq_some_iff.mp hx
      have hm := List.mem_of_getElem? hq
      obtain ⟨g1, g2, g3, g4, g5⟩ := kids_ok hm hg
      refine ⟨_, _, rfl, ?_⟩
      intro s1 H1 C' cl fp
      refine we_mulI (we_var 3 rfl (we_fld (C := C) (we_var 4 rfl ⟨_, _, by rw [planN_ins]; exact ⟨rfl, rfl⟩, X.cl, X.na _ (by decide +kernel), lk_people, _, _, rfl, rfl, mul_ok g5 (ppl_lt g1) (by omega), rfl, ?_⟩)))
      rw [take_snoc hq, List.map_append, List.map_append, ← Int.natCast_mul]; rfl
    · rintro acc M' ⟨rfl, rfl⟩
      refine ⟨_, rfl, we_var 0 rfl ⟨a, _, rfl, mset_same, X.cl, X.na _ (by decide +kernel), sl5, ?_⟩⟩
      rw [List.length_map, List.take_length]
      refine wss_nil (fin _ ?_)
      rw [ppl_kids hk0, sum_cast]
/-- told plans are among them -/
theorem init_told {h : Nat} {ds : List D} {M : Mp} {Φ : D → Mp → Prop} (c : cInit C h ds M Φ) : cInitN C h ds M Φ := by
  obtain ⟨a, t, e, hg, htd, hl, hh, h60, hM, hc⟩ := c
  have e0 := lv_told htd
  have e1 := nmT_told htd
  refine ⟨a, t, e, hg, by rw [e0]; decide, by rw [e1]; decide, hl, hh, h60, hM, ?_⟩
  have : fldsN C t = fldsD C t := by
    have q := planN_told C htd
    rw [planN_ins, planD_told htd] at q
    injection q
  rw [this]; exact hc
theorem names_told {h : Nat} {ds : List D} {M : Mp} {Φ : D → Mp → Prop} (c : cNamesIn h ds M Φ) : cNamesN h ds M Φ := by
  obtain ⟨t, e, hg, htd, hl, hh, hc⟩ := c
  exact ⟨t, e, hg, by rw [lv_told htd]; decide, hl, hh, by rw [nmT_told htd]; exact hc⟩
end
end W
/-! DX9: defs that make lambdas and show data: their code object is known. -/
namespace DL
open PySem PySem.Spec PyProof.Rows L2
section
variable {P : Program} {w : World} {K : PySem.W.Frag} {mg : Str → Option Value} {base : Heap} {x qual : Str} {st : Stmt} {kws : List (Str × V)} {f : Addr} {fd : FuncData} {N ps : List Str} {k n : Nat} {c : Con} {cd : Addr}
/-- a body keeps a contract where nothing is being shown; its code object stands at cd -/
def BodyC (P : Program) (w : World) (K : PySem.W.Frag) (mg : Str → Option Value) (base : Heap) (qual : Str) (st : Stmt) (N : List Str) (n k : Nat) (cd : Addr) (c : Con) : Prop :=
  ∀ (f : Addr) (A : Around) (outer : List Env) (s : Shared) (H : Hp) (E : XK), (A.deeper (envOfC qual (defScope st) s.heap.objs.size f (.ref cd))).guards = some [] → Room k (A.deeper (envOfC qual (defScope st) s.heap.objs.size f (.ref cd))) → ∀ ds M Φ, ds.length = n → c ds M Φ →
      WSs (bx P w K mg base N qual (defScope st) f (.ref cd) A outer s H E) (start N ds) M (defBody st) { nx := fun _ M' => Φ .non M', rt := Lets Φ }
theorem fnC_ok {dvs : List V} (F : FunD K x qual (defArgs st) (defBody st) (defScope st) dvs kws f fd) (hcd : fd.code = .ref cd) (S : FnScope N ps (defScope st)) (h : BodyC P w K mg base qual st N ps.length k cd c) : FnG P w K mg base (k + 1) f fd ps (spD K ps.length c) := by
  obtain ⟨oc, od, dV, kV, doc, pm, an, cdv, ct, osl, rfl, lk, hq, _, _⟩ := F.ex
  obtain rfl : cdv = .ref cd := hcd
  have ln : ∀ vs H Q E, spD K ps.length c vs H Q E → vs.length = ps.length := fun vs H Q E q => by
    obtain ⟨ds, M, Z, Φ, hl, r, _⟩ := q
    rw [r.length, hl]
  refine ⟨ln, fun A outer s H args us vs Q E hg hr e0 hb rv hsp => ?_⟩
  have hlen := ln _ _ _ _ hsp
  have hK : K.In s.heap := e0.mod.kin.keeps fun b o z => (e0.bs b o z).1
  have hlim : s.heap.NoLimit := e0.mod.nolimit.keeps fun b o z => (e0.bs b o z).1
  have kinds : ∀ y ∈ ps.zip us, (defScope st).names.lookup y.1 = some .local ∨ ((defScope st).names.lookup y.1 = some .cell ∧ ((cellsFrom (s.heap.objs.size + 1) (defScope st).names []).lookup y.1).isSome = true) := fun y hy => by
    rcases S.par y.1 (List.of_mem_zip hy).1 with z | z
    · exact .inl z
    · exact .inr ⟨z, PySem.W.cellsFrom_some _ _ _ (.inl z)⟩
  refine codeAny_call_function hr.depth (hK _ _ lk) rfl S.co S.gen rfl (PySem.W.codeRec_of hK hq) (hb _ _ _ _ (wpAny_newFunctionEnv_cells S.kind kinds fun env he s1 xx => ?_))
  subst he
  refine ⟨hlim.keeps xx.toInCall.keep, codeAny_func ?_⟩
  obtain ⟨ds, M, Z, Φ, hl, r, wd, hc, kk⟩ := hsp
  have I : Inv (cxOf CX0 P w K mg base N qual (defScope st) f (.ref cd) A outer s H E) [] (L2.start N vs) H s1 := inv_start S hr.hd e0 hlen rv xx
  have body := (h f A outer s H E hg (hr.deeper _) ds M Φ hl hc).run (L2.start N vs) H { nx := fun _ H' => Q .non H', rt := Q } (env_start r) wd ⟨fun σ' ρ' H' M' x w' en z => kk _ .non H' M' x w' .non z, lets_k kk, fun _ _ _ _ _ _ _ z => z.elim, fun _ _ _ _ _ _ _ z => z.elim⟩
  have done : ∀ {σ' : L2.St} {H' : Hp} {v : V} {u : Value} {s' : Shared}, Inv (cxOf CX0 P w K mg base N qual (defScope st) f (.ref cd) A outer s H E) [] σ' H' s' → RelV v u → Q v H' → CE outer P w H s Q u s' := fun {σ' H' v u s'} J ru q => ⟨v, H', J.os, J.bare, J.base, J.hok, ru, q⟩
  refine wpAny_mono ((PSs.nox (pss_sem (X := bx P w K mg base N qual (defScope st) f (.ref cd) A outer s H E))).run [] s1 (L2.start N vs) H _ I body) (fun fl s' hs => ?_) fun e s' hs => hs
  cases fl with
  | ret u => obtain ⟨v, σ', H', J, ru, q⟩ := hs; exact done J ru q
  | next => obtain ⟨σ', H', J, q⟩ := hs; exact done (v := V.non) (u := Value.none) J rfl q
  | brk => obtain ⟨_, _, _, q⟩ := hs; exact q.elim
  | cont => obtain ⟨_, _, _, q⟩ := hs; exact q.elim
/-- the module's def x is the statement st, its code object stands at cd -/
structure Dc (K : PySem.W.Frag) (mg : Str → Option Value) (x : Str) (st : Stmt) (cd : Addr) : Prop where
  ex : ∃ (f : Addr) (fd : FuncData), FunD K x x (defArgs st) (defBody st) (defScope st) [] [] f fd ∧ mg x = some (.ref f) ∧ fd.code = .ref cd
theorem Dc.gc (D : Dc K mg x st cd) (S : FnScope N ps (defScope st))
    (hb : ∀ (kV doc pm : Value) (an : Option Addr) (cdv ct : Value) (us : List Value), us.length = ps.length → bindArgs (PySem.W.fnOf x x (defArgs st) (defBody st) (defScope st) .none kV doc pm an cdv ct) ⟨us, []⟩ = pure (ps.zip us))
    (h : BodyC P w K mg base x st N ps.length k cd c) : Gc P w K mg base x (k + 1) ps.length c := by
  obtain ⟨f, fd, F, hm, hcd⟩ := D.ex
  exact ⟨f, fd, ps, fnC_ok F hcd S h, hm, F.kp, F.bindsN hb⟩
end
/-- the def _law_caught -/
structure Ct (K : PySem.W.Frag) (mg : Str → Option Value) (x : Str) (st : Stmt) (a : Str) : Prop where
  df : Df K mg x st []
  bind : ∀ (kV doc pm : Value) (an : Option Addr) (cdv ct : Value) (us : List Value), us.length = 1 → bindArgs (PySem.W.fnOf x x (defArgs st) (defBody st) (defScope st) .none kV doc pm an cdv ct) ⟨us, []⟩ = pure ([a].zip us)
section
variable {X : Cx} {ρ : Rho} {M : Mp} {Φ : D → Mp → Prop} {e : Expr} {pos p : Pos} {x a : Str} {k : Nat} {B : Addr} {Ng : List Str} {st : Stmt}
/-- `_law_caught(e)`, e a lambda -/
theorem we_ct (T : Ct X.K X.mg x st a) (Sg : FnScope Ng [a] (defScope st)) (hG : ∀ (g : Addr) (cdg : Value), Gives X k B g x Ng (defScope st) cdg (defBody st)) (hr : Room (k + 2) X.A)
    (h : WE X ρ M e fun d M1 => ∃ params body scope, d = .lam (X.env.qual ++ "<lambda>") params body scope (cloFrom X.env.cells scope.names []) ∧ LamX.LamS X.env.scope scope ∧
      (∀ (q : Str) (cl : List (Str × Addr)) (pm cv ctv : Value), bindArgs (PySem.W.kla_fn "<lambda>" q params body scope cl pm cv ctv) ⟨[], []⟩ = pure []) ∧
      ∀ (f c' : Addr) (A : Around) (outer : List Env) (s : Shared) (H0 : Hp) (E : XK), Room k (A.deeper (LamX.lamEnv X scope s.heap.objs.size f c')) → WEx (LamX.lamCx X A outer s H0 E scope f c') ρ M1 body (fun _ M2 => Φ .non M2) (fun C fs M2 => PySem.W.exmOne X.K (.ref C) (.ref B) = some true ∧ Φ (.exc C fs) M2))
    (hg : Gl X x := by rfl) (hdb : (x == ("__debug__" : Str)) = false := by decide) (he : starEach [e] X.env = (false, eval e X.env) :: starEach [] X.env := by rfl) (hpl : (backTo pos (starEach [] X.env)).any (·.1) = false := by rfl) : WE X ρ M (.Call (.Name x p) [e] [] pos) Φ := by
  obtain ⟨g, fd, F, hm⟩ := T.df.ex
  obtain ⟨oc, od, dV, kV, doc, pm, an, cdg, ct, osl, rfl, lk, hcg, hdv, _⟩ := F.ex
  have hb := F.bindsN (ps := [a]) T.bind
  exact we_caught hm F.kp lk hcg hb Sg (hG g cdg) hr h hg hdb he hpl
end
end DL
/-! DX10: calls whose arguments may raise; differences, tests of what may raise; more ends of what may raise. -/
namespace DL
open PySem PySem.Spec PyProof.Rows L2
section
variable {X : Cx} {ρ : Rho} {M : Mp} {Φ : D → Mp → Prop} {Ξ : Xi} {e a b : Expr} {es : List Expr} {pos p : Pos} {x : Str} {dd : List D} {k n : Nat} {c : Con}
theorem wex_callA (F : Fc X.prog X.w X.K X.mg X.base x dd k n c) (hr : Room k X.A) (h : WAx X ρ M (e :: es) (fun ds M1 => (ds ++ dd).length = n ∧ c (ds ++ dd) M1 Φ) Ξ) (hg : Gl X x := by rfl)
    (hdb : (x == ("__debug__" : Str)) = false := by decide) (he : starEach (e :: es) X.env = (false, eval e X.env) :: starEach es X.env := by rfl) (hpl : (backTo pos (starEach es X.env)).any (·.1) = false := by rfl) : WEx X ρ M (.Call (.Name x p) (e :: es) [] pos) Φ Ξ := .mk fun σ H Q E en w kk t kx => by
  obtain ⟨f, fd, ps, dvs, ds, F, hm, hk, hb, hd, hdd⟩ := F.ex
  exact eOf (pe_call (E := E0) F hr hg hm hk hb hd pass0 pa_sem hdb he hpl) (h.run σ H _ E en w (fun vs as H1 M1 e1 w1 r1 hz => sp_run r1 (hdd _ _ _) w1 hz (kk.step e1)) t kx)
theorem wex_op {op : Operator} {r : R2} (ho : OpR X (binaryOp op) r) (h : WEx X ρ M a (fun x M1 => WE X ρ M1 b fun y M2 => RD X.K r x y M2 Φ) Ξ) : WEx X ρ M (.BinOp a op b pos) Φ Ξ := .mk fun σ H Q E en w kk t kx =>
  eOf (pe_op ho pe_sem pe_sem) (h.run σ H _ E en w (fun v x H1 M1 e1 w1 r1 hz => hz.run σ H1 _ (en.mono e1) w1 fun u y H2 M2 e2 w2 r2 hr => hr _ v u H2 Q w2 (r1.mono e2) r2 (kk.step (e1.trans e2))) t kx)
theorem WEx.impv {Φ' : D → Mp → Prop} (h : WEx X ρ M e Φ Ξ) (f : ∀ d M1, Φ d M1 → Φ' d M1) : WEx X ρ M e Φ' Ξ := .mk fun σ H Q E en w kk t kx => h.run σ H Q E en w (fun v d H1 M1 e1 w1 r1 z => kk v d H1 M1 e1 w1 r1 (f d M1 z)) t kx
theorem wex_subI (h : WEx X ρ M a (fun x M1 => WE X ρ M1 b fun y M2 => ∃ i j, x = .int i ∧ y = .int j ∧ Φ (.int (i - j)) M2) Ξ) : WEx X ρ M (.BinOp a .Sub b pos) Φ Ξ := wex_op op_sub (h.impv fun _ _ h => h.imp fun _ _ h => rd_I0 h)
theorem wtx_val {Φ : Bool → Mp → Prop} (h : WEx X ρ M e (fun d M1 => ∃ c, d = .bl c ∧ Φ c M1) Ξ) (he : ∀ whole, isTrue e X.env whole = (do let v ← whole; standAt e.pos; holding [v] (truthy v)) := by intro _; rfl) : WTx X ρ M e Φ Ξ := .mk fun σ H Q E en w kk t kx =>
  tOf (pt_val pe_sem he) (h.run σ H _ E en w (fun v x H1 M1 e1 w1 r1 hz => by
    obtain ⟨c, rfl, hz⟩ := hz
    cases r1
    exact ⟨c, rfl, kk c H1 M1 e1 w1 hz⟩) t kx)
end
end DL
/-! GT4: Plan raises BadPlan. -/
namespace W
open PySem PySem.Spec PyProof.Rows L2 DL SX PL SlX
/-- what is no plan's text -/
inductive Bad (h : Nat) : D → Prop where
  | any (v : AV) (hv : ∀ z, v ≠ .str z) : Bad h (avD v)
  | text (l : List Nat) (hl : l.length ≤ 600) (hn : ¬ Tx l) : Bad h (tS l)
  | names (t : T) (g : Good t) (hl : (txt t).length ≤ 600) (hh : ht t ≤ h) (h60 : ht t ≤ 60) (hlv : (lv t).length < 1000) (h3 : 3 < (nmT t).length) : Bad h (tS (txt t))
theorem kit_str (K : PySem.W.Frag) {v : AV} (hv : ∀ z, v ≠ .str z) : PySem.W.kitOne K (.type (avT v)) (.type "str") = some false := by
  cases v with
  | str z => exact absurd rfl (hv z)
  | _ => rfl
section
variable {P : Program} {w : World} {K : PySem.W.Frag} {mg : Str → Option Value} {base : Heap} {C U : Addr}
def cInitB (C U : Addr) (h : Nat) : ConX := fun ds M Φ Ξ => ∃ a d, ds = [.ob a, d] ∧ Bad h d ∧ Ξ U [("value", d)] M
theorem ok_init_b (h : Nat) (F : Fx w K mg) (T : XL.Er P K mg "BadPlan" U) (F1 : Fc P w K mg base "is_plan_text" [] 65 2 (cIptG 61)) (F2 : Fc P w K mg base "is_plan_text" [] (h + 4) 2 (cPlanText h)) (F3 : Fc P w K mg base "names_in" [] (h + 4) 1 (cNamesN h)) : BodyX P w K mg base "Plan.__init__" s_Plan___init__ nInit 2 (h + 65) (cInitB C U h) := by
  intro f cdv A outer s H E hr ds M Φ Ξ hl hc
  obtain ⟨a, d, rfl, hb, hc⟩ := hc
  have nd : nInit.Nodup := by decide +kernel
  cases hb with
  | any v hv =>
    refine wssx_cons (wsx_if (wt_ww (ww_or (wt_not (wt_val (we_isi (F.bn _ (by decide +kernel)) (we_var 1 rfl (we_bty (F.bn _ (by decide +kernel)) rfl ⟨_, _, false, avTy M v, rfl, (by intro C h; cases h), kit_str K hv, _, rfl, ?_⟩))))))).up)
    exact wssx_cons (wsx_raise rfl T hr (we_var 1 rfl ⟨_, _, Les.refl, .same _, hc⟩))
  | text l hl2 hn =>
    refine wssx_cons (wsx_if (wt_ww (ww_or (wt_not (wt_val (we_isi (F.bn _ (by decide +kernel)) (we_var 1 rfl (we_bty (F.bn _ (by decide +kernel)) rfl ⟨_, _, true, avTy M (.str (S l)), rfl, (by intro C h; cases h), rfl, _, rfl, ?_⟩))))))).up)
    refine ww_or (wt_not (wt_val (we_call F1 (hr.mono (by omega)) (wa_cons (we_var 1 rfl (wa_cons (we_int (wa_nil ⟨rfl, l, 0, rfl, hl2, rfl, fun b hb => ⟨_, rfl, ?_⟩⟩))))))))
    cases b with
    | true => exact absurd (hb rfl) hn
    | false => exact wssx_cons (wsx_raise rfl T hr (we_var 1 rfl ⟨_, _, Les.refl, .same _, hc⟩))
  | names t g hl2 hh h60 hlv h3 =>
    refine wssx_cons (wsx_if (wt_ww (ww_or (wt_not (wt_val (we_isi (F.bn _ (by decide +kernel)) (we_var 1 rfl (we_bty (F.bn _ (by decide +kernel)) rfl ⟨_, _, true, avTy M (.str (S (txt t))), rfl, (by intro C h; cases h), rfl, _, rfl, ?_⟩))))))).up)
    refine ww_or (wt_not (wt_val (we_call F2 (hr.mono (by omega)) (wa_cons (we_var 1 rfl (wa_cons (we_int (wa_nil ⟨rfl, t, 0, rfl, g, by omega, hh, by omega, _, rfl, ?_⟩))))))))
    refine ww_or1 (wt_gtI (we_len (F.bn _ (by decide +kernel)) (we_call F3 (hr.mono (by omega)) (wa_cons (we_var 1 rfl (wa_nil ⟨rfl, t, rfl, g, hlv, by omega, hh, _, lenL, we_gint F.gMOST_NAMES ⟨_, _, rfl, rfl, ?_⟩⟩))))))
    rw [decide_eq_true (show (3 : Int) < ((((nmT t).map D.str).length : Nat) : Int) by rw [List.length_map]; omega)]
    exact wssx_cons (wsx_raise rfl T hr (we_var 1 rfl ⟨_, _, Les.refl, .same _, hc⟩))
end
end W
/-! GT9: _law_is_plan_text walked. -/
namespace W
open PySem PySem.Spec PyProof.Rows L2 DL SX PL
section
variable {P : Program} {w : World} {K : PySem.W.Frag} {mg : Str → Option Value} {base : Heap}
def cIsP : Con := fun ds M Φ => ∃ d, ds = [d] ∧ ((∃ v, (∀ z, v ≠ .str z) ∧ d = avD v ∧ Φ (.bl false) M) ∨ ∃ l, d = tS l ∧ l.length ≤ 600 ∧ opns l < 60 ∧ ∀ b : Bool, (b = true ↔ Rt l) → Φ (.bl b) M)
abbrev nIsP : List Str := ["_law_value", "_law_words", "_law_sign", "_law_word"]
theorem resD_ne {l : List Nat} {f : Nat} : EqS (resD l (LE f l)) (.int ((S l).length : Nat)) (decide (LE f l = some [])) := by
  rw [S_len]
  cases h : LE f l with
  | none => rfl
  | some r =>
    show decide (some r = some []) = decide (((l.length - r.length : Nat) : Int) = ((l.length : Nat) : Int))
    have : r.length ≤ l.length := by
      obtain ⟨t, _, e⟩ := LE_sound f l r h
      have := congrArg List.length e
      rw [List.length_append] at this; omega
    refine decide_eq_decide.mpr ⟨fun h => by cases h; simp, fun h2 => ?_⟩
    obtain ⟨t, g, e⟩ := LE_sound f l r h
    have h3 := List.length_pos_iff.mpr (tx_ne ⟨t, g, rfl⟩)
    have h4 := congrArg List.length e
    rw [List.length_append] at h4
    have : r.length = 0 := by omega
    rw [List.length_eq_zero_iff.mp this]
theorem le_rt {l : List Nat} (ho : opns l < 60) (h : LE 60 l ≠ some []) : ¬ Rt l := by
  rintro ⟨t, g, rfl, _⟩
  exact h (all_LE g (Nat.lt_of_le_of_lt (ht_opns t) ho))
theorem ok_is_plan_text_l (F : Fx w K mg) (F1 : Fc P w K mg base "_law_end" [] 63 2 (cEnd 60)) : BodyOk P w K mg base "_law_is_plan_text" s__law_is_plan_text nIsP 1 63 cIsP := by
  intro f cdv A outer s H E hr ds M Φ hl hc
  obtain ⟨d, rfl, hc⟩ := hc
  have nd : nIsP.Nodup := by decide +kernel
  rcases hc with ⟨v, hv, rfl, hc⟩ | ⟨l, rfl, hlen, hop, hc⟩
  · refine wss_cons (ws_if (wt_ww (ww_or (wt_not (wt_val (we_isi (F.bn _ (by decide +kernel)) (we_var 0 rfl (we_bty (F.bn _ (by decide +kernel)) rfl ⟨_, _, false, avTy M v, rfl, (by intro C h; cases h), kit_str K hv, _, rfl, ?_⟩))))))))
    exact wss_cons (ws_ret (we_bl (Lets.of hc)))
  have zl : (S l).length ≤ sizeLine := by rw [S_len, sizeLine_eq]; omega
  refine wss_cons (ws_if (wt_ww (ww_or (wt_not (wt_val (we_isi (F.bn _ (by decide +kernel)) (we_var 0 rfl (we_bty (F.bn _ (by decide +kernel)) rfl ⟨_, _, true, avTy M (.str (S l)), rfl, (by intro C h; cases h), rfl, _, rfl, ?_⟩))))))))
  refine ww_or (wt_neS (we_call F1 (hr.mono (by omega)) (wa_cons (we_var 0 rfl (wa_cons (we_int (wa_nil ⟨rfl, l, 0, rfl, Nat.zero_le _, hlen, by rw [List.drop_zero]; exact hop, ?_⟩)))))))
  rw [List.drop_zero]
  refine we_len (F.bn _ (by decide +kernel)) (we_var 0 rfl ⟨_, lenS zl, _, resD_ne, ?_⟩)
  by_cases hL : LE 60 l = some []
  case neg =>
    rw [decide_eq_false hL]
    exact wss_cons (ws_ret (we_bl (Lets.of (hc false (Iff.intro (fun z => Bool.noConfusion z) fun z => absurd z (le_rt hop hL))))))
  rw [decide_eq_true hL]
  have tx := LE_all hL
  refine ww_or1 (wt_eqS (we_var 0 rfl (we_str ⟨_, rfl, ?_⟩)))
  rw [dec_S S_nil, decide_eq_false (tx_ne tx)]
  refine wss_nil (wss_cons (ws_set 1 nd (we_join (we_str ⟨_, rfl, we_lc nd (blkOk_by (N := nIsP) (sc := defScope s__law_is_plan_text) (own := [("_law_sign", 2)]) (by decide +kernel)) (fun _ _ _ _ _ => pg_name (i := 2) nd rfl (Or.inl rfl)) (gt_name (by decide)) (fun _ _ _ _ _ => pts_nil) tk_nil
    (wi_str (we_var 0 rfl ⟨_, rfl, ?_⟩))⟩))))
  refine ⟨by rw [signs_S, List.length_map, sizeLine_eq]; omega, fun i acc M' => M' = M ∧ acc = (l.take i).map fun c => .str (S [lt32 c]), ⟨rfl, rfl⟩, ?_, ?_⟩
  · rintro i x acc M' hx ⟨rfl, rfl⟩
    obtain ⟨c, hc1, rfl⟩ := signs_get hx
    intro s1 H1 C cl fp
    refine we_if (wt_inC (we_var 2 rfl (we_str ⟨c, _, rfl, rfl, ?_⟩)))
    rw [mem_letters]
    have fin : ∀ z, z = S [lt32 c] → M' = M' ∧ (l.take i).map (fun c => D.str (S [lt32 c])) ++ [D.str z] = (l.take (i + 1)).map fun c => D.str (S [lt32 c]) := by
      rintro z rfl
      rw [take_snoc hc1, List.map_append]
      exact ⟨rfl, rfl⟩
    cases hlc : letter c with
    | true => exact we_var 2 rfl (fin _ (by rw [lt32, hlc]; rfl))
    | false => exact we_str (fin _ (by rw [lt32, hlc, if_neg (by decide)]; decide +kernel))
  rintro acc M' ⟨rfl, rfl⟩
  rw [signs_S, List.length_map, List.take_length]
  have ez : (l.map fun c => S [lt32 c]) = ((l.map lt32).map fun c => [c]).map S := by rw [List.map_map, List.map_map]; rfl
  refine ⟨l.map fun c => S [lt32 c], .inl (by rw [List.map_map]; rfl), ?_, ?_⟩
  · have : ∀ q : List Nat, ((q.map fun c => S [lt32 c]).map (·.length)).sum = q.length := fun q => by
      induction q with
      | nil => rfl
      | cons x q ih => rw [List.map_cons, List.map_cons, List.sum_cons, ih, S_len, List.length_cons]; simp; omega
    rw [this, List.length_map, show ("" : Str).length = 0 by decide +kernel]
    omega
  rw [ez, S_nil, join_S, join_sg]
  refine wss_cons (ws_ret (we_leI (we_lenSetS (F.bn _ (by decide +kernel)) (F.bn _ (by decide +kernel)) (we_lc nd (blkOk_by (N := nIsP) (sc := defScope s__law_is_plan_text) (own := [("_law_word", 3)]) (by decide +kernel)) (fun _ _ _ _ _ => pg_name (i := 3) nd rfl (Or.inl rfl)) (gt_name (by decide)) (fun s' H' C' cl' fp' => pts_one ⟨fun pins s3 σ' H3 Q' I q => q s' H' C' cl' fp' pins s3 I⟩) tk_one
    (wi_list (we_split (we_var 1 rfl ⟨_, rfl, we_str ⟨_, rfl, by decide +kernel, by rw [S_len, List.length_map, sizeLine_eq]; omega, ?_⟩⟩)))))))
  rw [sp_split]
  have sl := sp_len [] l
  refine ⟨_, .inl rfl, by rw [List.length_map, List.length_map, sizeLine_eq]; omega, fun i acc M2 => M2 = M' ∧ acc = ((((sp [] l).take i).filter fun p => decide (p ≠ [])).map S).map D.str, ⟨rfl, rfl⟩, ?_, ?_⟩
  · rintro i x acc M2 hx ⟨rfl, rfl⟩
    rw [List.getElem?_map, List.getElem?_map, Option.map_map] at hx
    obtain ⟨q, hq, rfl⟩ := Option.map_eq_some_iff.mp hx
    intro s1 H1 C cl fp
    refine wt_neS (we_var 3 rfl (we_str ⟨_, rfl, ?_⟩))
    rw [show decide (S q = S []) = decide (q = []) from decide_eq_decide.mpr S_eqi]
    by_cases h0 : q = []
    · rw [decide_eq_true h0]
      refine ⟨rfl, ?_⟩
      rw [take_snoc hq, List.filter_append, h0]; simp
    · rw [decide_eq_false h0]
      intro s' H' C' cl' fp'
      refine we_var 3 rfl ⟨rfl, ?_⟩
      rw [take_snoc hq, List.filter_append, List.map_append, List.map_append, List.filter_cons, if_pos (by simpa using h0)]; rfl
  rintro acc M2 ⟨rfl, rfl⟩
  rw [List.length_map, List.length_map, List.take_length]
  have fl : (fw l).length ≤ l.length + 1 := Nat.le_trans (List.length_filter_le _ _) sl
  refine ⟨_, rfl, by rw [List.length_map]; show (fw l).length < 1000; omega, we_int ⟨_, _, rfl, rfl, Lets.of (hc _ ?_)⟩⟩
  rw [rt_iff tx, decide_eq_true_iff]
  show ((dedZ [] ((fw l).map S)).length : Int) ≤ 3 ↔ _
  omega
end
end W
/-! DL62: t[::-1] of a tuple, xs[::-1] of a list. -/
namespace HT
open PySem PySem.Spec PyProof PyProof.Rows
section
variable {prog : Program} {w : World} {A : Around} {E : Value → Shared → Prop} {s : Shared}
theorem sliceApplied_rev {sl : Addr} {vs : Value} {n : Nat} {Q : Int × Int × Nat → Shared → Prop} (hs : s.heap.IsSliceOf sl .none .none vs) (ps : IsPart vs (some (-1)))
    (h : Q ((n : Int) - 1, -1, n) s) : wpAny (model prog w) A (Builtin.Slice.sliceApplied (.ref sl) (pure (n : Int))) Q E s := by
  obtain ⟨os, hos, hcs, hds⟩ := id hs
  unfold Builtin.Slice.sliceApplied Builtin.Slice.sliceFields
  refine wpAny_bind (wpAny_bind (wpAny_field hos hds (x := .none) rfl (wpAny_bind (wpAny_field hos hds (x := .none) rfl (wpAny_bind (wpAny_field hos hds (x := vs) rfl (wpAny_pure ?_)))))))
  refine wpAny_bind (slicePart_ ps ?_)
  show wpAny _ _ (if ((-1 : Int) == 0) = true then _ else _) _ _ s
  rw [if_neg (by decide)]
  refine wpAny_bind (slicePart_none (wpAny_bind (slicePart_none (wpAny_bind (wpAny_pure ?_)))))
  show wpAny _ _ (match Builtin.Slice.sliceAdjust none none (-1) (n : Int) with | (lo, hi) => pure (lo, (-1 : Int), Builtin.Slice.slicePlaces lo hi (-1))) _ _ s
  show wpAny _ _ (pure ((n : Int) - 1, (-1 : Int), Builtin.Slice.slicePlaces ((n : Int) - 1) (-1) (-1))) _ _ s
  have e : Builtin.Slice.slicePlaces ((n : Int) - 1) (-1) (-1) = n := by
    unfold Builtin.Slice.slicePlaces
    have h1 : ¬ ((-1 : Int) > 0) := by omega
    have h2 : (- -1 : Int) = 1 := by decide
    simp only [h1, if_false, h2, Int.ediv_one]
    split <;> omega
  rw [e]
  exact wpAny_pure h
theorem fm_congr {α β : Type} {f g : α → Option β} : ∀ {l : List α}, (∀ x ∈ l, f x = g x) → l.filterMap f = l.filterMap g
  | [], _ => rfl
  | x :: l, h => by rw [List.filterMap_cons, List.filterMap_cons, h x (.head _), fm_congr fun y hy => h y (.tail _ hy)]
theorem pick_rev (xs : Array Value) : ((List.range xs.size).filterMap fun (m : Nat) => xs[((xs.size : Int) - 1 + (m : Int) * (-1)).toNat]?).toArray = xs.toList.reverse.toArray := by
  have e : (List.range xs.size).filterMap (fun (m : Nat) => xs[((xs.size : Int) - 1 + (m : Int) * (-1)).toNat]?) = ((List.range xs.size).map fun k => xs.size - 1 - k).filterMap (xs[·]?) := by
    rw [List.filterMap_map]
    apply fm_congr
    intro m hm
    have := List.mem_range.mp hm
    have e2 : ((xs.size : Int) - 1 + (m : Int) * (-1)).toNat = xs.size - 1 - m := by omega
    simp only [Function.comp, e2]
  rw [e, PySem.W.krv_range, List.filterMap_reverse, PySem.W.krv_all]
theorem getItem_tuple_rev {t sl : Addr} {items : Array Value} {vs : Value} {Q : Value → Shared → Prop} (ht : IsTup s.heap t items) (hs : s.heap.IsSliceOf sl .none .none vs) (ps : IsPart vs (some (-1)))
    (h : Q (.ref s.heap.objs.size) { s with heap := s.heap.push { cls := .type "tuple", data := .seq items.toList.reverse.toArray } })
    (hsz : items.size ≤ sizeLine) : wpAny (model prog w) A (getItem (.ref t) (.ref sl)) Q E s := by
  have htake : sizeOk (.seq items.toList.reverse.toArray) := by
    show items.toList.reverse.toArray.size ≤ sizeLine
    rw [List.size_toArray, List.length_reverse, Array.length_toList]
    exact hsz
  obtain ⟨os, hos, hcs, hds⟩ := id hs
  have hTs : s.TypeIs (.ref sl) "slice" := ⟨os, hos, hcs⟩
  unfold getItem
  try with_reducible refine wpAny_holding ?_
  first | refine wpAny_bind (wpAny_pure ?_) | skip
  refine wpAny_bind (wpAny_sequenceKey ht.typeIs (by decide) ?_)
  refine wpAny_bind (wpAny_callSpecial?_slot (name := Str.ofString "__getitem__") ht.typeIs PyProof.Rows.slot_tuple_getitem
    (wpAny_call_entry PyProof.Rows.slot_tuple_getitem ht.typeIs entry_tuple_getitem ?_ (args_tuple_getitem _ _)))
  show wpAny _ _ (Builtin.Tuple.tupleItemsOf (.ref t) >>= _) _ _ s
  refine wpAny_bind (tupleItemsOf_ ht ?_)
  refine wpAny_bind (wpAny_typeOf hTs ?_)
  rw [if_pos (by decide)]
  refine wpAny_bind (sliceApplied_rev hs ps ?_)
  have hno : ¬ ((((items.size : Int) - 1) == 0 && (-1 : Int) == 1 && items.size == items.size) = true) := by
    intro q
    rw [Bool.and_eq_true, Bool.and_eq_true] at q
    exact absurd q.1.2 (by decide)
  show wpAny _ _ (if (((items.size : Int) - 1) == 0 && (-1 : Int) == 1 && items.size == items.size) = true then _ else _) _ _ s
  rw [if_neg hno, pick_rev]
  first
    | exact wpAny_bind (m := Builtin.Tuple.tupleExact _) (wpAny_newObj_type (wpAny_pure ⟨_, rfl, wpAny_pure h⟩) htake)
    | exact wpAny_bind (m := Builtin.Tuple.tupleExact _) (wpAny_newObj_type (wpAny_bind (wpAny_pure (wpAny_pure ⟨_, rfl, wpAny_pure h⟩))) htake)
    | exact wpAny_bind (wpAny_bind (m := Builtin.Tuple.tupleExact _) (wpAny_newObj_type (wpAny_pure (wpAny_pure ⟨_, rfl, wpAny_pure h⟩)) htake))
    | exact wpAny_bind (wpAny_bind (m := Builtin.Tuple.tupleExact _) (wpAny_newObj_type (wpAny_pure ⟨_, rfl, wpAny_pure h⟩) htake))
end
end HT
namespace DL
open PySem PySem.Spec PyProof.Rows L2
section
variable {X : Cx} {ρ : Rho} {M : Mp} {Φ : D → Mp → Prop}
def tRevT (K : PySem.W.Frag) (te : TE) : TE := fun σ H Q => te σ H fun x H1 => ∃ a xs, x = .ref a ∧ SqT K H1 a xs ∧ ∀ p, H1 p = none → Q (.ref p) (upd H1 p (.tup xs.reverse))
theorem pe_revT {e : Expr} {te : TE} {k : Nat} {p1 p2 p3 pos : Pos} (he : PE X e te) : PE X (.Subscript e (.Slice none none (some (.UnaryOp .USub (.Constant (.int 1) k p1) p2)) p3) pos) (tRevT X.K te) := by
  refine ⟨fun pins s σ H Q I h => ?_⟩
  refine Subscript_ (thn (he.run pins s σ H _ I h) fun v s1 ⟨x, H1, I1, r1, q1⟩ => ?_)
  obtain ⟨a, xs, ex, hx, q⟩ := q1
  subst ex
  cases r1
  have hst : PO X (some (.UnaryOp .USub (.Constant (.int 1) k p1) p2)) (tPart (tUn (rU fun i => .int (-i)) (tC (.int 1)))) := po_some (pe_un un_neg pe_int)
  refine wpAny_Slice (thn (po_none.run pins s1 σ H1 (fun o H2 => o = none ∧ H2 = H1) I1 ⟨rfl, rfl⟩) fun vl s2 ⟨l, H2, I2, pl, el, e2⟩ => ?_)
  subst el e2
  refine thn (po_none.run pins s2 σ H2 (fun o H3 => o = none ∧ H3 = H2) I2 ⟨rfl, rfl⟩) fun vu s3 ⟨u, H3, I3, pu, eu, e3⟩ => ?_
  subst eu e3
  refine thn (hst.run pins s3 σ H3 (fun o H4 => o = some (-1) ∧ H4 = H3) I3 ⟨1, rfl, -1, rfl, rfl, rfl⟩) fun vs s4 ⟨o, H4, I4, ps, eo, e4⟩ => ?_
  subst eo e4
  cases pl
  cases pu
  have I5 : Inv X pins σ H4 { s4 with heap := s4.heap.push { cls := .type "slice", data := .fields #[.none, .none, vs] } } := I4.kept (t' := s4.toks) fun b ob q => Heap.get?_push_of_some _ q
  obtain ⟨its, r, ht, hz⟩ := I5.tuple hx
  have hlen := r.length
  show wpAny (model X.prog X.w) X.A (subscriptTail e (.Slice none none (some (.UnaryOp .USub (.Constant (.int 1) k p1) p2)) p3) (.ref a) (.ref s4.heap.objs.size)) (EP X pins σ Q) X.xe { s4 with heap := s4.heap.push { cls := .type "slice", data := .fields #[.none, .none, vs] } }
  refine tail_any (ops := [.ref a, .ref s4.heap.objs.size]) ht.typeIs (PyProof.Rows.slot_tuple_getitem.lookup) ?_ (by with_unfolding_all rfl)
  refine HT.getItem_tuple_rev ht (Heap.IsSliceOf.new _ .none .none vs) ps ?_ (by rw [List.size_toArray]; omega)
  refine ⟨.ref _, _, I5.laid (t' := s4.toks) (o := .tup xs.reverse) (fun b ob q => Heap.get?_push_of_some _ q) (Nat.le_refl _) ?_, rfl, q _ (I5.hok.fresh (Nat.le_refl _))⟩
  exact ⟨by rw [List.length_reverse]; exact hz, _, r.reverse, IsTup.new _ _⟩
theorem Reps.rev {K : PySem.W.Frag} {M : Mp} {Z : Zn} {H : Hp} : ∀ {vs : List V} {ds : List D}, Reps K M Z H vs ds → Reps K M Z H vs.reverse ds.reverse
  | _, _, .nil => .nil
  | _, _, .cons r rs => by rw [List.reverse_cons, List.reverse_cons]; exact (rs.rev).append (.cons r .nil)
theorem we_revT {a : Expr} {k : Nat} {p1 p2 p3 pos : Pos} (h : WE X ρ M a fun x M1 => ∃ ds, x = .tup ds ∧ Φ (.tup ds.reverse) M1) : WE X ρ M (.Subscript a (.Slice none none (some (.UnaryOp .USub (.Constant (.int 1) k p1) p2)) p3) pos) Φ := .mk fun σ H Q en w k =>
  eOf (pe_revT pe_sem) (h.run σ H _ en w fun v x H1 M1 e1 w1 r1 hz => by
    obtain ⟨ds, rfl, hz⟩ := hz
    obtain ⟨p, vs, rfl, hq, rs⟩ := r1.asTup
    exact ⟨p, vs, rfl, hq, fun q hp => (k.step e1).new w1 hp (.tup (.inl upd_same) (w1.fresh hp) ((rs.rev).mono (Ext.new w1 hp))) hz⟩)
end
end DL
/-! DL75: z[::-1] of a text. -/
namespace DL
open PySem PySem.Spec PyProof.Rows L2
def revS (z : Str) : Str := ⟨z.cps.toList.reverse.toArray⟩
section
variable {X : Cx} {ρ : Rho} {M : Mp} {Φ : D → Mp → Prop}
def tRevS (te : TE) : TE := fun σ H Q => te σ H fun x H1 => ∃ z : Str, x = .str z ∧ z.length ≤ sizeLine ∧ Q (.str (revS z)) H1
theorem picked_rev (z : Str) (t : Tok) : (slicePicked z none none (some (-1, t))).filterMap (z.cps[·]?) = z.cps.toList.reverse := by
  have e : slicePicked z none none (some (-1, t)) = sliceRange ((z.cps.size : Int) - 1) (-1) (-1) := rfl
  rw [e, PySem.W.krv_sliceRange, PySem.W.krv_range, List.filterMap_reverse, PySem.W.krv_all]
theorem pe_revS {e : Expr} {te : TE} {k : Nat} {p1 p2 p3 pos : Pos} (he : PE X e te) : PE X (.Subscript e (.Slice none none (some (.UnaryOp .USub (.Constant (.int 1) k p1) p2)) p3) pos) (tRevS te) := by
  refine ⟨fun pins s σ H Q I h => ?_⟩
  refine Subscript_ (thn (he.run pins s σ H _ I h) fun v s1 ⟨x, H1, I1, r1, q1⟩ => ?_)
  obtain ⟨z, ex, hz, q⟩ := q1
  subst ex
  obtain ⟨tz, rfl⟩ := r1
  have hst : PO X (some (.UnaryOp .USub (.Constant (.int 1) k p1) p2)) (tPart (tUn (rU fun i => .int (-i)) (tC (.int 1)))) := po_some (pe_un un_neg pe_int)
  refine wpAny_Slice (thn (po_none.run pins s1 σ H1 (fun o H2 => o = none ∧ H2 = H1) I1 ⟨rfl, rfl⟩) fun vl s2 ⟨l, H2, I2, pl, el, e2⟩ => ?_)
  subst el e2
  refine thn (po_none.run pins s2 σ H2 (fun o H3 => o = none ∧ H3 = H2) I2 ⟨rfl, rfl⟩) fun vu s3 ⟨u, H3, I3, pu, eu, e3⟩ => ?_
  subst eu e3
  refine thn (hst.run pins s3 σ H3 (fun o H4 => o = some (-1) ∧ H4 = H3) I3 ⟨1, rfl, -1, rfl, rfl, rfl⟩) fun vs s4 ⟨o, H4, I4, ps, eo, e4⟩ => ?_
  subst eo e4
  cases pl
  cases pu
  obtain ⟨st, rfl, est⟩ := IsPart.raw ps
  obtain ⟨⟨i, ti⟩, rfl, ei⟩ := Option.map_eq_some_iff.mp est
  have ei : i = -1 := ei
  subst ei
  have I5 : Inv X pins σ H4 { s4 with heap := s4.heap.push { cls := .type "slice", data := .fields #[.none, .none, partValue (some (-1, ti))] } } := I4.kept (t' := s4.toks) fun b ob q => Heap.get?_push_of_some _ q
  show wpAny (model X.prog X.w) X.A (subscriptTail e (.Slice none none (some (.UnaryOp .USub (.Constant (.int 1) k p1) p2)) p3) (.str z tz) (.ref s4.heap.objs.size)) (EP X pins σ Q) X.xe { s4 with heap := s4.heap.push { cls := .type "slice", data := .fields #[.none, .none, partValue (some (-1, ti))] } }
  refine tail_any (ops := [.str z tz, .ref s4.heap.objs.size]) (typeIs_str _ _ _) F.slot_str_getitem.lookup ?_ (by with_unfolding_all rfl)
  refine wpAny_getItem_str_slice (l := none) (u := none) (st := some (-1, ti)) ⟨_, Heap.get?_push_size _ rfl, rfl, rfl⟩ rfl ?_
  show Made.post (Made.str ⟨((slicePicked z none none (some (-1, ti))).filterMap (z.cps[·]?)).toArray⟩) (EP X pins σ Q) _
  rw [picked_rev]
  have hz2 : z.cps.size ≤ sizeLine := hz
  refine ⟨?_, .str (revS z), H4, I5.tok _, ⟨_, rfl⟩, q⟩
  show (z.cps.toList.reverse.toArray).size ≤ sizeLine
  rw [List.size_toArray, List.length_reverse, Array.length_toList]
  exact hz2
theorem we_revS {a : Expr} {k : Nat} {p1 p2 p3 pos : Pos} (h : WE X ρ M a fun x M1 => ∃ z, x = .str z ∧ z.length ≤ sizeLine ∧ Φ (.str (revS z)) M1) : WE X ρ M (.Subscript a (.Slice none none (some (.UnaryOp .USub (.Constant (.int 1) k p1) p2)) p3) pos) Φ := .mk fun σ H Q en w k =>
  eOf (pe_revS pe_sem) (h.run σ H _ en w fun v x H1 M1 e1 w1 r1 hz => by
    obtain ⟨z, rfl, hl, hz⟩ := hz
    cases r1
    exact ⟨z, rfl, hl, (k.step e1).now w1 (.str _) hz⟩)
end
end DL
/-! DL76: if v == c: x, y = f(p, [pairs of written texts]); return text.replace(x, y). -/
namespace DL
open PySem PySem.Spec PyProof PyProof.Rows L2
/-! ### a name is stored, and the raw value known -/
section
variable {M0 : Model} {A : Around} {E : Value → Shared → Prop} {s : Shared}
theorem nsSet_two {a : Addr} {m} {name : Str} {v : Value} {Q1 Q2 : Unit → Shared → Prop} (hn : s.heap.Ns a m) (h1 : wpAny M0 A (nsSet a name v) Q1 E s) (h2 : wpAny M0 A (nsSet a name v) Q2 E s) : wpAny M0 A (nsSet a name v) (fun u s' => Q1 u s' ∧ Q2 u s') E s := fun Γ p hΓ => by
  have q1 := h1 Γ p hΓ
  have q2 := h2 Γ p hΓ
  obtain ⟨o, es, ep, ho, hd, hk, hm⟩ := hn
  have hany : es.any (·.refKey) = false := by
    rw [Array.any_eq_false']; intro e he; obtain ⟨n, t, h⟩ := hk e he; simp [DictEntry.refKey, h]
  simp only [nsSet, strHash, Sem.wp_bind', Sem.wp_cmd_ask, Sem.wp_pure', Sem.wp_cmd_mkText] at q1 q2 ⊢
  rw [Sem.wp_loadPart_of _ Γ _ p { s with toks := s.toks + 1 } (o := o) _ ho] at q1 q2 ⊢
  simp only [hd, aRefKeyMayBeTheName_eq, aRefKeyMayBeTheNameByArray, hany, Bool.and_false, Bool.false_eq_true, if_false, Sem.wp_cmd_updatePart] at q1 q2 ⊢
  exact ⟨q1.1, q1.2, q2.2⟩
end
section
variable {X : Cx} {pins : List (Addr × Obj)} {σ : L2.St} {H : Hp} {s : Shared}
theorem store_raw {Mo : Model} {A : Around} {E : Value → Shared → Prop} {i : Nat} {x : Str} {v : V} {u : Value} {m} {Q : Unit → Shared → Prop} (I : Inv X pins σ H s) (hN : X.N.Nodup) (hi : X.N[i]? = some x) (hx : X.env.scope.names.lookup x = some .local) (r : RelV v u) (hm : s.heap.Ns X.env.locals m)
    (h : ∀ s', Inv X pins (σ.set i (some v)) H s' → s'.heap.Ns X.env.locals (fun y => if y = x then some u else m y) → Q () s') : wpAny Mo A (storeName X.env x u) Q E s := by
  have hcls : (X.env.scope.kind == .class || (X.env.scope.kind == .module && X.env.locals != X.env.globals)) = false := by rw [I.ok.kind]; rfl
  have h1 : wpAny Mo A (storeName X.env x u) (fun _ s' => Inv X pins (σ.set i (some v)) H s') E s := store_ok I hN hi (.inl hx) r (fun _ I' => I') (.inr hx)
  have h2 : wpAny Mo A (storeName X.env x u) (fun _ s' => s'.heap.Ns X.env.locals (fun y => if y = x then some u else m y)) E s := wpAny_storeName_local hx hm (fun h' hn' _ => hn') hcls
  rw [storeName_local hx hcls] at h1 h2 ⊢
  exact wpAny_mono (nsSet_two hm h1 h2) (fun _ s' q => h s' q.1 q.2) fun _ _ z => z
/-! ### pairs of written texts -/
def PairAt (H : Hp) (a : Addr) (y z : Str) : Prop := ∃ (o : Obj) (t u : Tok) (n : Nat), H a = some (.frz o (.tup [.str y, .str z])) ∧ o.cls = .type "tuple" ∧ o.data = .seq #[.str y t, .str z u] n ∧ t ≠ 0 ∧ u ≠ 0 ∧ t ≠ u
def tPairT (y z : Str) : TE := fun _ H Q => ∀ (a : Addr) (H' : Hp), H a = none → (∃ o, H' = upd H a o) → PairAt H' a y z → Q (.ref a) H'
theorem pet_tpair {y z : Str} {j0 j1 k : Nat} {c0 c1 pos : Pos} : PET X (.Tuple [.Constant (.str y) j0 c0, .Constant (.str z) j1 c1] k pos) (tPairT y z) := by
  intro pins s σ H Q h0 I h
  refine wpAny_Tuple_spliced ?_
  show wpAny _ _ (spliced ((false, eval (.Constant (.str y) j0 c0) X.env) :: backTo pos (starEach [.Constant (.str z) j1 c1] X.env))) _ _ s
  refine Calls.spliced_cons (Calls.Constant_str ?_)
  show wpAny _ _ (spliced ((false, eval (.Constant (.str z) j1 c1) X.env) :: backTo pos (starEach [] X.env))) _ _ _
  refine Calls.spliced_cons (Calls.Constant_str (Calls.spliced_nil ?_))
  have h2 : (2 : Nat) ≤ sizeLine := by decide
  refine ⟨h2, .ref s.heap.objs.size, upd H s.heap.objs.size (.frz { cls := .type "tuple", data := .seq #[.str y s.toks, .str z (s.toks + 1)] } (.tup [.str y, .str z])), ?_, rfl, ?_⟩
  · exact I.laid (t' := s.toks + 1 + 1) (fun b u e => Heap.get?_push_of_some _ e) (Nat.le_refl _) ⟨Heap.get?_push_size _ rfl, h2, [.str y s.toks, .str z (s.toks + 1)], .cons ⟨_, rfl⟩ (.cons ⟨_, rfl⟩ .nil), ⟨_, Heap.get?_push_size _ rfl, rfl, _, rfl⟩⟩
  · exact h _ _ (I.hok.fresh (Nat.le_refl _)) ⟨_, rfl⟩ ⟨_, s.toks, s.toks + 1, _, upd_same, rfl, rfl, show s.toks ≠ 0 by omega, show s.toks + 1 ≠ 0 by omega, show s.toks ≠ s.toks + 1 by omega⟩
/-- e is the written pair (y, z) -/
def PairE (e : Expr) (q : Str × Str) : Prop := ∃ j0 c0 j1 c1 k pos, e = .Tuple [.Constant (.str q.1) j0 c0, .Constant (.str q.2) j1 c1] k pos
inductive PairsE : List Expr → List (Str × Str) → Prop
  | nil : PairsE [] []
  | cons {e : Expr} {q : Str × Str} {es : List Expr} {qs : List (Str × Str)} (h : PairE e q) (t : PairsE es qs) : PairsE (e :: es) (q :: qs)
def tPairs : List (Str × Str) → TA
  | [] => tNil
  | q :: qs => tCons (tPairT q.1 q.2) (tPairs qs)
theorem pat_pairs : ∀ {es : List Expr} {qs : List (Str × Str)}, PairsE es qs → PAT X es (tPairs qs)
  | _, _, .nil => pat_nil
  | _, _, .cons ⟨j0, c0, j1, c1, k, pos, e⟩ t => by
    subst e
    exact pat_cons pet_tpair (pat_pairs t)
end
section
variable {K : PySem.W.Frag} {M : Mp} {Z : Zn}
theorem PairAt.ext {H H' : Hp} {M' : Mp} {a : Addr} {y z : Str} (p : PairAt H a y z) (e : Ext M Z H M' H') (m : Im M Z a) : PairAt H' a y z := by
  obtain ⟨o, t, u, n, h, r⟩ := p
  exact ⟨o, t, u, n, (e.1 _ _ h m).1, r⟩
theorem tPairs_run {σ : L2.St} : ∀ {qs : List (Str × Str)} {H : Hp} {Q : List V → Hp → Prop}, Wd K M Z H →
    (∀ (ps : List (Addr × Str × Str)) (H' : Hp), ps.map (·.2) = qs → Ext M Z H M H' → Wd K M Z H' → (∀ q ∈ ps, PairAt H' q.1 q.2.1 q.2.2 ∧ Im M Z q.1) → Q (ps.map fun q => V.ref q.1) H') → tPairs qs σ H Q
  | [], H, Q, w, h => h [] H rfl Ext.refl w (fun _ z => by cases z)
  | q :: qs, H, Q, w, h => by
    rintro a H1 ha ⟨o, rfl⟩ hp
    have x1 := Ext.new (o := o) w ha
    have w1 := w.new (o := o) ha
    refine tPairs_run w1 fun ps H' e x2 w2 hps => ?_
    refine h ((a, q) :: ps) H' (by rw [List.map_cons, e]) (x1.trans x2) w2 fun r hr => ?_
    rcases List.mem_cons.mp hr with rfl | hr
    · exact ⟨hp.ext x2 (w.fresh ha), w.fresh ha⟩
    · exact hps r hr
end
section
variable {X : Cx} {σ : L2.St} {H : Hp}
theorem PET.of {e : Expr} {t : TE} (h : PE X e t) : PET X e t := fun pins s σ H Q _ I q => h.run pins s σ H Q I q
theorem pet_call {k : Nat} {f : Addr} {fd : FuncData} {ps : List Str} {sp : Sp} {dvs : List V} {ds : List Value} {x : Str} {e : Expr} {es : List Expr} {t : TA} {p pos : Pos} (F : FnOk X.prog X.w X.K X.mg X.base CX0 k f fd ps sp) (hr : Room k X.A) (hg : Gl X x) (hm : X.mg x = some (.ref f)) (hk : PySem.W.keepIn X.K (.ref f) = true) (hb : Binds X.K fd ps ds) (hd : Vals dvs ds)
    (ha : PAT X (e :: es) t) (hdb : (x == ("__debug__" : Str)) = false := by decide) (he : starEach (e :: es) X.env = (false, eval e X.env) :: starEach es X.env := by rfl) (hpl : (backTo pos (starEach es X.env)).any (·.1) = false := by rfl) :
    PET X (.Call (.Name x p) (e :: es) [] pos) (tCall sp dvs E0 t) := by
  intro pins s σ H Q h0 I h
  refine wpAny_Call_Name_kw (ld_glob I hg hm ?_ hdb)
  refine PySem.W.callWith_K (h₀ := X.base) I.ok.mod.kin hk (thn (ha pos pins s σ H _ h0 I h) fun us s1 ⟨vs, H1, I1, r, q⟩ => ⟨I1.kIn, ?_⟩) he hpl
  exact run_fn F hr hb hd pass0 I1 r q
end
end DL
/-! DL77: the statement itself. -/
namespace DL
open PySem PySem.Spec PyProof PyProof.Rows L2
section
variable {X : Cx} {σ : L2.St} {H : Hp} {pins : List (Addr × Obj)} {s : Shared}
/-- x, y = the pair at a; return text.replace(x, y) -/
theorem run_repl {D : Ends} {a : Addr} {y z z0 : Str} {i j it : Nat} {nx ny nt : Str} {px py pt p1 p2 p3 apos cpos rpos : Pos} {kt : Nat} (hc : X.calm = true) (hN : X.N.Nodup) (I : Inv X pins σ H s) (hp : PairAt H a y z) (hyz : (y == z) = false)
    (hi : X.N[i]? = some nx) (hj : X.N[j]? = some ny) (ht : X.N[it]? = some nt) (hij : i ≠ j) (hti : it ≠ i) (htj : it ≠ j) (hxy : ny ≠ nx) (hx : X.env.scope.names.lookup nx = some .local) (hy : X.env.scope.names.lookup ny = some .local) (hv : Vis X.env.scope nt)
    (hσ : σ[it]? = some (some (.str z0))) (hb : z0.length + (z0.length + 1) * z.length ≤ 16777216) (q : D.rt (.str (Txt.replace z0 y z)) H)
    (ha : (assignEach [.Name nx px, .Name ny py] X.env).map (·.2) = [assign (.Name nx px) X.env, assign (.Name ny py) X.env] := by rfl) (hl2 : (assignEach [.Name nx px, .Name ny py] X.env).length = 2 := by rfl) (hst2 : (assignEach [.Name nx px, .Name ny py] X.env).findIdx? (·.1) = none := by rfl)
    (hst : starEach [.Name nx p2, .Name ny p3] X.env = [(false, eval (.Name nx p2) X.env), (false, eval (.Name ny p3) X.env)] := by rfl) (hbase : attributeBase (.Name nt p1) "replace" X.env (eval (.Name nt p1) X.env) = eval (.Name nt p1) X.env := by rfl) (hline : (apos.endLine == cpos.line) = true := by rfl)
    (d1 : (nt == ("__debug__" : Str)) = false := by decide) (d2 : (nt == ("__classdict__" : Str)) = false := by decide) (d3 : (nx == ("__debug__" : Str)) = false := by decide) (d4 : (ny == ("__debug__" : Str)) = false := by decide) :
    wpAny (model X.prog X.w) X.A (assign (.Tuple [.Name nx px, .Name ny py] kt pt) X.env (.ref a)) (fun _ s2 => wpAny (model X.prog X.w) X.A (execs [.Return (some (.Call (.Attribute (.Name nt p1) "replace" apos) [.Name nx p2, .Name ny p3] [] cpos)) rpos] X.env) (SP X pins D) X.xe s2) X.xe s := by
  obtain ⟨o, t, u, n, hH, ho1, ho2, ht0, hu0, htu⟩ := hp
  obtain ⟨hget, _⟩ := I.hok a _ hH
  refine assign_Tuple_tuple (items := #[.str y t, .str z u]) (I.ok.hd hc) ⟨o, hget, ho1, n, ho2⟩ hl2 hst2 fun h' hx' => ?_
  have I1 : Inv X pins σ H { s with heap := h' } := I.kept (t' := s.toks) fun b o e => hx' b o (Nat.ne_of_lt (Heap.lt_size e)) e
  rw [ha]
  obtain ⟨m, hm, _⟩ := id I1.loc
  refine assignInOrder_cons (wpAny_assign_Name (store_raw I1 hN hi hx (v := .str y) ⟨t, rfl⟩ hm fun s2 I2 hm2 => ?_))
  refine assignInOrder_cons (wpAny_assign_Name (store_raw I2 hN hj hy (v := .str z) ⟨u, rfl⟩ hm2 fun s3 I3 hm3 => ?_))
  refine assignInOrder_nil ?_
  refine wpAny_execs_cons (wpAny_Return_some (PySem.Call_method2 hbase hst hline (raw_name ht hv I3 (v := .str z0) (by rw [List.getElem?_set_ne (Ne.symm htj), List.getElem?_set_ne (Ne.symm hti)]; exact hσ) (fun v r => ?_) d1 d2)))
  obtain ⟨tx, e⟩ := r
  subst e
  refine ⟨"str", _, F.plainAttrs_str, F.slot_str_replace, F.type_str_replace, typeIs_str _ _ _, (fun _ e => nomatch e), Calls.callWith_builtin rfl (Calls.evalArgs_plain (Calls.spliced_cons ?_))⟩
  refine wpAny_Name (wpAny_loadName_local I3.ok.kind hx hm3 (by rw [if_neg (Ne.symm hxy), if_pos rfl]) ?_) d3
  refine Calls.spliced_cons (wpAny_Name (wpAny_loadName_local I3.ok.kind hy hm3 (by rw [if_pos rfl]) ?_) d4)
  refine Calls.spliced_nil ?_
  exact PySem.SC.replace ht0 hu0 htu hyz hb fun t' k => ⟨.str (Txt.replace z0 y z), _, H, I3.tok k, ⟨t', rfl⟩, q⟩
end
section
variable {X : Cx} {ρ : Rho} {M : Mp} {Ψ : DE}
theorem ws_ifRepl {dd : List D} {kf nf : Nat} {cf : Con} (iv ip it i j : Nat) {nv npt nt nx ny g : Str} {n c : Int} {dp : D} {z0 : Str} {es : List Expr} {qs : List (Str × Str)} {jc kt : Nat} {pv pc pcmp pg ppt lp cp px py pt ap p1 p2 p3 apos cpos rpos pos : Pos}
    (F : Fc X.prog X.w X.K X.mg X.base g dd kf nf cf) (hr : Room kf X.A) (hN : X.N.Nodup) (hv : ρ[iv]? = some (some (.int n))) (hp : ρ[ip]? = some (some dp)) (ht : ρ[it]? = some (some (.str z0)))
    (hne : n ≠ c → Ψ.nx ρ M) (hq : PairsE es qs) (hqs : ∀ q ∈ qs, (q.1 == q.2) = false ∧ z0.length + (z0.length + 1) * q.2.length ≤ 16777216) (hlen : qs.length ≤ sizeLine)
    (h : n = c → ∀ as : List Addr, as.length = qs.length → ([dp, .lst (as.map D.ob)] ++ dd).length = nf ∧ cf ([dp, .lst (as.map D.ob)] ++ dd) M fun d M' => ∃ a ∈ as, d = .ob a ∧ ∀ q ∈ qs, Ψ.rt (.str (Txt.replace z0 q.1 q.2)) M')
    (hij : i ≠ j := by decide) (hti : it ≠ i := by decide) (htj : it ≠ j := by decide) (hxy : ny ≠ nx := by decide) (hiN : X.N[i]? = some nx := by rfl) (hjN : X.N[j]? = some ny := by rfl) (htN : X.N[it]? = some nt := by rfl) (hvN : X.N[iv]? = some nv := by rfl) (hpN : X.N[ip]? = some npt := by rfl)
    (hx : X.env.scope.names.lookup nx = some .local := by rfl) (hy : X.env.scope.names.lookup ny = some .local := by rfl) (hvt : Vis X.env.scope nt := by exact Or.inl rfl) (hvv : Vis X.env.scope nv := by exact Or.inl rfl) (hvp : Vis X.env.scope npt := by exact Or.inl rfl) (hc : X.calm = true := by rfl) (hg : Gl X g := by rfl)
    (hs : swapsWithSole [.Tuple [.Name nx px, .Name ny py] kt pt] (.Call (.Name g pg) [.Name npt ppt, .List es lp] [] cp) ap.line X.env = pure false := by rfl) (hw : swappedStores [.Tuple [.Name nx px, .Name ny py] kt pt] (.Call (.Name g pg) [.Name npt ppt, .List es lp] [] cp) X.env = pure none := by rfl)
    (h1 : (assignEach [.Tuple [.Name nx px, .Name ny py] kt pt] X.env).map (·.2) = [assign (.Tuple [.Name nx px, .Name ny py] kt pt) X.env] := by rfl)
    (he : starEach [.Name npt ppt, .List es lp] X.env = (false, eval (.Name npt ppt) X.env) :: starEach [.List es lp] X.env := by rfl) (he2 : starEach [.List es lp] X.env = (false, eval (.List es lp) X.env) :: starEach [] X.env := by rfl) (hpl : (backTo cp (starEach [.List es lp] X.env)).any (·.1) = false := by rfl)
    (ha : (assignEach [.Name nx px, .Name ny py] X.env).map (·.2) = [assign (.Name nx px) X.env, assign (.Name ny py) X.env] := by rfl) (hl2 : (assignEach [.Name nx px, .Name ny py] X.env).length = 2 := by rfl) (hst2 : (assignEach [.Name nx px, .Name ny py] X.env).findIdx? (·.1) = none := by rfl)
    (hst : starEach [.Name nx p2, .Name ny p3] X.env = [(false, eval (.Name nx p2) X.env), (false, eval (.Name ny p3) X.env)] := by rfl) (hbase : attributeBase (.Name nt p1) "replace" X.env (eval (.Name nt p1) X.env) = eval (.Name nt p1) X.env := by rfl) (hline : (apos.endLine == cpos.line) = true := by rfl)
    (g0 : (g == ("__debug__" : Str)) = false := by decide) (v1 : (nv == ("__debug__" : Str)) = false := by decide) (v2 : (nv == ("__classdict__" : Str)) = false := by decide) (v3 : (npt == ("__debug__" : Str)) = false := by decide) (v4 : (npt == ("__classdict__" : Str)) = false := by decide)
    (d1 : (nt == ("__debug__" : Str)) = false := by decide) (d2 : (nt == ("__classdict__" : Str)) = false := by decide) (d3 : (nx == ("__debug__" : Str)) = false := by decide) (d4 : (ny == ("__debug__" : Str)) = false := by decide) :
    WS X ρ M (.If (.Compare (.Name nv pv) [.Eq] [.Constant (.int c) jc pc] pcmp) [.Assign [.Tuple [.Name nx px, .Name ny py] kt pt] (.Call (.Name g pg) [.Name npt ppt, .List es lp] [] cp) ap, .Return (some (.Call (.Attribute (.Name nt p1) "replace" apos) [.Name nx p2, .Name ny p3] [] cpos)) rpos] [] pos) Ψ := .mk fun {Z} σ H E en w k pins s I => by
  obtain ⟨vn, ev, rv⟩ := en.get hv
  obtain ⟨vp, ep, rp⟩ := en.get hp
  obtain ⟨vt, et, rt⟩ := en.get ht
  cases rv
  cases rt
  refine wpAny_If (wpAny_isTrue_Compare1 (raw_name hvN hvv I ev (fun u r => wpAny_Constant_int ?_) v1 v2) (by rfl))
  obtain ⟨tn, e⟩ := r
  subst e
  have I1 : Inv X pins σ H { s with toks := s.toks + 1 } := I.tok _
  have eqR : rEq (.int n) (.int c) H fun v H3 => v = .bl (decide (n = c)) ∧ ∃ M3, Ext M Z H M3 H3 ∧ Wd X.K M3 Z H3 ∧ M3 = M :=
    rd_eq (K := X.K) (x := .int n) (y := .int c) (M := M) (Φ := fun d M3 => d = .bl (decide (n = c)) ∧ M3 = M) ⟨decide (n = c), rfl, rfl, rfl⟩ Z _ _ H _ w (.int n) (.int c) fun v d H' M' x w' r hz => by
      obtain ⟨rfl, rfl⟩ := hz
      cases r
      exact ⟨rfl, _, x, w', rfl⟩
  refine wpAny_mono (PySem.wpAny_toks (op_eq pins { s with toks := s.toks + 1 } σ H (.int n) (.int c) (.int n tn) (.int c s.toks) _ I1 ⟨tn, rfl⟩ ⟨_, rfl⟩ eqR)) (fun v3 s3 q => ?_) fun _ _ z => z.2
  obtain ⟨hk, z3, H3, I3, r3, rfl, M3, x3, w3, rfl⟩ := q
  have hk : 1 ≤ s3.toks := by
    have : s.toks + 1 ≤ s3.toks := hk
    omega
  cases r3
  refine wpAny_truthy_bool ?_
  have en3 := en.mono x3
  have k3 := k.step x3
  by_cases hnc : n = c
  case neg =>
    rw [decide_eq_false hnc]
    exact wpAny_execs_nil ⟨σ, H3, I3, k3.nx σ ρ H3 _ Ext.refl w3 en3 (hne hnc)⟩
  rw [decide_eq_true hnc]
  obtain ⟨f, fd, ps, dvs, ds, F, hm, hkk, hb, hd, hdd⟩ := F.ex
  have args : PAT X [.Name npt ppt, .List es lp] (tCons (eSem X (.Name npt ppt)) (tCons (tLst (tPairs qs)) tNil)) := pat_cons (PET.of pe_sem) (pat_cons (pet_lst (pat_pairs hq)) pat_nil he2) he
  have call := pet_call (X := X) (p := pg) (pos := cp) F hr hg hm hkk hb hd args g0 he hpl pins s3 σ H3 (fun v H' => ∃ a q, v = .ref a ∧ q ∈ qs ∧ PairAt H' a q.1 q.2 ∧ E.rt (.str (Txt.replace z0 q.1 q.2)) H') hk I3 (by
    refine (we_var (Φ := fun d M4 => d = dp ∧ M4 = M3) ip hp ⟨rfl, rfl⟩ hpN hvp v3 v4).run σ H3 _ en3 w3 fun v d H4 M4 x4 w4 r4 hz => ?_
    obtain ⟨rfl, rfl⟩ := hz
    refine tPairs_run w4 fun prs H5 e5 x5 w5 hps => ?_
    refine ⟨by rw [List.length_map]; have := congrArg List.length e5; rw [List.length_map] at this; omega, fun p hp0 => ?_⟩
    have x6 := Ext.new (o := HO.lst (prs.map fun q => V.ref q.1)) w5 hp0
    have w6 := w5.new (o := HO.lst (prs.map fun q => V.ref q.1)) hp0
    obtain ⟨h2, h3⟩ := h hnc (prs.map (·.1)) (by have := congrArg List.length e5; rw [List.length_map] at this ⊢; exact this)
    have reps : ∀ l : List (Addr × Str × Str), Reps X.K M4 Z (upd H5 p (.lst (prs.map fun q => V.ref q.1))) (l.map fun q => V.ref q.1) ((l.map (·.1)).map D.ob) := fun l => by
      induction l with
      | nil => exact .nil
      | cons a l ih => exact .cons (.ob _) ih
    show spD X.K nf cf ([v, .ref p] ++ dvs) _ _ E0
    refine sp_run (E := E0) (ds := [d, .lst ((prs.map (·.1)).map D.ob)]) (vs := [v, .ref p]) (.cons ((r4.mono x5).mono x6) (.cons (.lst upd_same (w5.fresh hp0) (reps prs)) .nil)) (hdd _ _ _) w6 ⟨h2, h3⟩ fun v7 d7 H7 M7 x7 w7 r7 hz => ?_
    obtain ⟨a, ham, rfl, hall⟩ := hz
    cases r7
    obtain ⟨q, hqm, rfl⟩ := List.mem_map.mp ham
    have hqq : q.2 ∈ qs := by rw [← e5]; exact List.mem_map_of_mem hqm
    obtain ⟨pa, im⟩ := hps q hqm
    have pa6 := pa.ext x6 im
    refine ⟨q.1, q.2, rfl, hqq, pa6.ext x7 im, ?_⟩
    exact k3.rt _ _ H7 M7 (((x4.trans x5).trans x6).trans x7) w7 (.str _) (hall q.2 hqq))
  refine wpAny_execs_cons (wpAny_Assign_stores (thn call fun v s4 hz => ?_) hs hw)
  obtain ⟨v4', H4, I4, r4, a, q, rfl, hqm, pa, hrt⟩ := hz
  cases r4
  rw [h1]
  obtain ⟨q1, q2⟩ := hqs q hqm
  exact run_repl hc hN I4 pa q1 hiN hjN htN hij hti htj hxy hx hy hvt et q2 hrt ha hl2 hst2 hst hbase hline d1 d2 d3 d4
end
end DL
/-! GT10: _law_bent_text walked. -/
namespace W
open PySem PySem.Spec PyProof.Rows L2 DL SX PL
open PySem.StrLaws (replL replL_nil replL_hit replL_miss)
/-! ### what a bent text keeps -/
/-- no longer, no more openings than so -/
structure Ben (l l' : List Nat) : Prop where
  len : l'.length ≤ 2 * l.length + 5
  ops : opns l' ≤ 2 * opns l + 1
  asc : ∀ c ∈ l', c < 128
theorem opns_le {a b : List Nat} (h : List.Sublist a b) : opns a ≤ opns b := h.countP_le
theorem ben_put {l x : List Nat} (i j : Nat) (hij : i ≤ j) (ha : ∀ c ∈ l, c < 128) (hx : ∀ c ∈ x, c < 128) (h5 : x.length ≤ 5) (ho : opns x ≤ opns l + 1) : Ben l (l.take i ++ x ++ l.drop j) := by
  have e : l.take i ++ l.drop i = l := List.take_append_drop i l
  have hd : l.drop j = (l.drop i).drop (j - i) := by rw [List.drop_drop, show i + (j - i) = j by omega]
  have h1 := congrArg List.length e
  have h2 := congrArg opns e
  rw [List.length_append] at h1
  rw [opns_app] at h2
  have h3 : (l.drop j).length ≤ (l.drop i).length := by rw [hd, List.length_drop]; exact Nat.sub_le _ _
  have h4 : opns (l.drop j) ≤ opns (l.drop i) := by rw [hd]; exact opns_le (List.drop_sublist _ _)
  refine ⟨by rw [List.length_append, List.length_append]; omega, by rw [opns_app, opns_app]; omega, fun c hc => ?_⟩
  rcases List.mem_append.mp hc with hc | hc
  · rcases List.mem_append.mp hc with hc | hc
    · exact ha c (List.mem_of_mem_take hc)
    · exact hx c hc
  · exact ha c (List.mem_of_mem_drop hc)
theorem ben_self {l : List Nat} (ha : ∀ c ∈ l, c < 128) : Ben l l := ⟨by omega, by omega, ha⟩
theorem repl_ben {y z : List Nat} (hy : y ≠ []) (hl : z.length ≤ 2 * y.length) (ho : opns z ≤ 2 * opns y) (hz : ∀ c ∈ z, c < 128) : ∀ (n : Nat) (l : List Nat), l.length ≤ n → (∀ c ∈ l, c < 128) → (replL y z l).length ≤ 2 * l.length ∧ opns (replL y z l) ≤ 2 * opns l ∧ ∀ c ∈ replL y z l, c < 128
  | _, [], _, _ => by rw [replL_nil]; exact ⟨by simp, by simp [opns], fun c hc => by cases hc⟩
  | 0, c :: r, h, _ => absurd h (by simp)
  | n + 1, c :: r, h, ha => by
    rw [List.length_cons] at h
    have y1 := List.length_pos_iff.mpr hy
    by_cases hh : (c :: r).take y.length = y
    · rw [replL_hit hy hh]
      have e : y ++ (c :: r).drop y.length = c :: r := by conv => rhs; rw [← List.take_append_drop y.length (c :: r), hh]
      have h1 := congrArg List.length e
      have h2 := congrArg opns e
      rw [List.length_append, List.length_cons] at h1
      rw [opns_app] at h2
      obtain ⟨i1, i2, i3⟩ := repl_ben hy hl ho hz n ((c :: r).drop y.length) (by omega) fun x hx => ha x (List.mem_of_mem_drop hx)
      refine ⟨by rw [List.length_append, List.length_cons]; omega, by rw [opns_app]; omega, fun x hx => ?_⟩
      rcases List.mem_append.mp hx with hx | hx
      · exact hz x hx
      · exact i3 x hx
    · rw [replL_miss hh]
      obtain ⟨i1, i2, i3⟩ := repl_ben hy hl ho hz n r (by omega) fun x hx => ha x (List.mem_cons_of_mem _ hx)
      refine ⟨by rw [List.length_cons, List.length_cons]; omega, by rw [opns_cons, opns_cons]; split <;> omega, fun x hx => ?_⟩
      rcases List.mem_cons.mp hx with rfl | hx
      · exact ha x List.mem_cons_self
      · exact i3 x hx
theorem repl_S {y z l : List Nat} (hy : y ≠ []) : Txt.replace (S l) (S y) (S z) = S (replL y z l) := by
  have h := PySem.StrLaws.replace_list (x := S l) (y := S y) (z := S z) (by rw [S_len]; exact List.length_pos_iff.mpr hy)
  exact TL.ext_tl h
theorem cut_to (l : List Nat) (i : Nat) : cutS (S l) none (some (i : Int)) = S (l.take i) := by
  unfold cutS
  rw [S_len, HT.sIx_nat, HT.sIx_none]
  show S ((l.drop 0).take (min i l.length - 0)) = _
  congr 1
  rw [List.drop_zero, Nat.sub_zero]
  by_cases h : i ≤ l.length
  · rw [Nat.min_eq_left h]
  · rw [Nat.min_eq_right (by omega), List.take_of_length_le (Nat.le_refl _), List.take_of_length_le (by omega)]
theorem revS_S (l : List Nat) : revS (S l) = S l.reverse := rfl
/-- the pieces that are put in -/
def pcs : List (List Nat) := [[49], [32], [120], [40], [41], [91], [93], [123], [125], [32, 43, 32], [32, 42, 32], [43], [48], [50, 32], [91, 50, 32, 49, 93], [121, 121], [65]]
theorem pcs_S : (["1", " ", "x", "(", ")", "[", "]", "{", "}", " + ", " * ", "+", "0", "2 ", "[2 1]", "yy", "A"] : List Str) = pcs.map S := by decide +kernel
theorem pcs_ok : ∀ x ∈ pcs, x.length ≤ 5 ∧ opns x ≤ 1 ∧ ∀ c ∈ x, c < 128 := by decide +kernel
/-- what is exchanged for what -/
def exs : List (List Nat × List Nat) := [([43], [42]), ([32, 43, 32], [43]), ([49], [50]), ([93], [125]), ([40], [40, 40])]
theorem exs_S : ([("+", "*"), (" + ", "+"), ("1", "2"), ("]", "}"), ("(", "((")] : List (Str × Str)) = exs.map fun q => (S q.1, S q.2) := by decide +kernel
theorem exs_ok : ∀ q ∈ exs, q.1 ≠ [] ∧ q.2.length ≤ 2 * q.1.length ∧ opns q.2 ≤ 2 * opns q.1 ∧ (∀ c ∈ q.2, c < 128) ∧ q.2.length ≤ 2 ∧ (S q.1 == S q.2) = false := by decide +kernel
section
variable {P : Program} {w : World} {K : PySem.W.Frag} {mg : Str → Option Value} {base : Heap}
def cBent : Con := fun ds M Φ => ∃ p l a c d, ds = [.ob p, tS l] ∧ l.length ≤ 300 ∧ (∀ c ∈ l, c < 128) ∧ M p = some (potL a c d) ∧ cOk c ∧ 0 ≤ d ∧ d < 90000 ∧ ∀ l' a' d', Ben l l' → d ≤ d' → d' ≤ d + 4 → Φ (tS l') (mset M p (potL a' c d'))
abbrev nBent : List Str := ["_law_pot_here", "_law_text_here", "_law_way", "_law_spot", "_law_some", "_law_piece", "_law_two", "_law_old", "_law_fresh"]
theorem ok_bent (F : Fx w K mg) (F1 : Fc P w K mg base "_law_take" [] 1 2 cTake) (F2 : Fc P w K mg base "_law_of" [] 2 2 cOf) : BodyOk P w K mg base "_law_bent_text" s__law_bent_text nBent 2 2 cBent := by
  intro f cdv A outer s H E hr ds M Φ hl hc
  obtain ⟨p, l, a, c, d, rfl, hlen, hasc, hM, co, d0, d1, hc⟩ := hc
  have nd : nBent.Nodup := by decide +kernel
  have zl : (S l).length ≤ sizeLine := by rw [S_len, sizeLine_eq]; omega
  refine wss_cons (ws_par 2 3 nd (wa_cons (we_call F1 (hr.mono (by decide)) (wa_cons (we_var 0 rfl (wa_cons (we_int (wa_nil ⟨rfl, p, 7, a, c, d, rfl, by decide, by decide +kernel, hM, co, d0, by omega, ?_⟩))))))))
  intro way a1 e1 w0 w7 k1 k2
  refine wa_cons (we_call F1 (hr.mono (by decide)) (wa_cons (we_var 0 rfl (wa_cons (we_addI (we_len (F.bn _ (by decide +kernel)) (we_var 1 rfl ⟨_, lenS zl, we_int ⟨_, _, rfl, rfl, wa_nil ⟨rfl, p, _, a1, c, e1, rfl, by rw [S_len]; omega, ?_, mset_same, co, by omega, by omega, ?_⟩⟩⟩)))))))
  · have : (1000 : Int) ≤ 10 ^ 40 := by decide +kernel
    rw [S_len]; omega
  intro spot a2 e2 s0 s1 k3 k4
  rw [mset_mset]
  obtain ⟨i, rfl⟩ := Int.eq_ofNat_of_zero_le s0
  rw [S_len] at s1
  have hi : i ≤ l.length := by omega
  refine wa_nil ⟨_, _, rfl, ?_⟩
  refine wss_cons (ws_set 4 nd (we_lst (wa_cons (we_str (wa_cons (we_str (wa_cons (we_str (wa_cons (we_str (wa_cons (we_str (wa_cons (we_str (wa_cons (we_str (wa_cons (we_str (wa_cons (we_str (wa_cons (we_str (wa_cons (we_str (wa_cons (we_str (wa_cons (we_str (wa_cons (we_str (wa_cons (we_str (wa_cons (we_str (wa_cons (we_str (wa_nil ⟨by decide, ?_⟩)))))))))))))))))))))))))))))))))))))
  refine wss_cons (ws_set 5 nd (we_call F2 (hr.mono (by decide)) (wa_cons (we_var 0 rfl (wa_cons (we_var 4 rfl (wa_nil ⟨rfl, p, _, a2, c, e2, rfl, by simp, by simp, mset_same, co, by omega, by omega, ?_⟩)))))))
  intro x a3 e3 hx k5 k6
  rw [mset_mset]
  have hx : x ∈ (pcs.map S).map D.str := by rw [← pcs_S]; exact hx
  obtain ⟨xz, hxz, rfl⟩ := List.mem_map.mp hx
  obtain ⟨pc, hpc, rfl⟩ := List.mem_map.mp hxz
  obtain ⟨pc5, pco, pca⟩ := pcs_ok pc hpc
  have fin : ∀ l', Ben l l' → Lets Φ (tS l') (mset M p (potL a3 c e3)) := fun l' hb => Lets.of (hc l' a3 e3 hb (by omega) (by omega))
  have zs : ∀ k : Nat, k ≤ 400 → k ≤ sizeLine := fun k hk => by rw [sizeLine_eq]; omega
  have i1 : ((i : Int) + 1) = ((i + 1 : Nat) : Int) := rfl
  have i2 : ((i : Int) + 2) = ((i + 2 : Nat) : Int) := rfl
  have t1 : (l.take i).length ≤ 300 := by rw [List.length_take]; omega
  have t2 : ∀ j, (l.drop j).length ≤ 300 := fun j => by rw [List.length_drop]; omega
  -- out
  refine wss_cons (ws_if (wt_eqS (we_var 2 rfl (we_int ⟨_, rfl, ?_⟩))))
  by_cases h0 : way = 0
  · rw [decide_eq_true h0]
    refine wss_cons (ws_ret (we_addS (we_slice (we_var 1 rfl (we_var 3 rfl ⟨_, rfl, _, .inr (.inr ⟨_, rfl, zl, rfl⟩), we_slice (we_var 1 rfl (we_addI (we_var 3 rfl (we_int ⟨_, _, rfl, rfl, _, rfl, _, .inr (.inr ⟨_, rfl, zl, rfl⟩), _, _, rfl, rfl, ?_, ?_⟩))))⟩)))))
    · rw [cut_to, i1, cut_b, S_len, S_len, sizeLine_eq]; have := t2 (i + 1); omega
    · rw [cut_to, i1, cut_b, S_cat]
      refine fin _ ?_
      have := ben_put (l := l) (x := []) i (i + 1) (by omega) hasc (fun c hc => by cases hc) (by simp) (by simp [opns])
      simpa using this
  rw [decide_eq_false h0]
  -- twice
  refine wss_nil (wss_cons (ws_if (wt_eqS (we_var 2 rfl (we_int ⟨_, rfl, ?_⟩)))))
  by_cases h1 : way = 1
  · rw [decide_eq_true h1]
    refine wss_cons (ws_ret (we_addS (we_addS (we_slice (we_var 1 rfl (we_var 3 rfl ⟨_, rfl, _, .inr (.inr ⟨_, rfl, zl, rfl⟩), we_slice (we_var 1 rfl (we_var 3 rfl ⟨_, rfl, we_addI (we_var 3 rfl (we_int ⟨_, _, rfl, rfl, _, rfl, _, .inr (.inr ⟨_, rfl, zl, rfl⟩), _, _, rfl, rfl, ?_, we_slice (we_var 1 rfl (we_var 3 rfl ⟨_, rfl, _, .inr (.inr ⟨_, rfl, zl, rfl⟩), _, _, rfl, rfl, ?_, ?_⟩))⟩))⟩))⟩))))))
    · rw [cut_to, show ((i : Int) + 1) = (i : Int) + ((1 : Nat) : Int) from rfl, cut_ik l i 1 hi, S_len, S_len, sizeLine_eq, List.length_take (i := 1)]; omega
    · rw [cut_to, show ((i : Int) + 1) = (i : Int) + ((1 : Nat) : Int) from rfl, cut_ik l i 1 hi, cut_b, S_cat, S_len, S_len, sizeLine_eq, List.length_append, List.length_take (i := 1)]; have := t2 i; omega
    · rw [cut_to, show ((i : Int) + 1) = (i : Int) + ((1 : Nat) : Int) from rfl, cut_ik l i 1 hi, cut_b, S_cat, S_cat]
      refine fin _ (ben_put i i (Nat.le_refl _) hasc (fun c hc => hasc c (List.mem_of_mem_drop (List.mem_of_mem_take hc))) (by rw [List.length_take]; omega) ?_)
      exact Nat.le_trans (opns_le ((List.take_sublist _ _).trans (List.drop_sublist _ _))) (Nat.le_succ _)
  rw [decide_eq_false h1]
  -- exchanged
  refine wss_nil (wss_cons (ws_if (wt_eqS (we_var 2 rfl (we_int ⟨_, rfl, ?_⟩)))))
  by_cases h2 : way = 2
  · rw [decide_eq_true h2]
    refine wss_cons (ws_set 6 nd (we_slice (we_var 1 rfl (we_var 3 rfl ⟨_, rfl, we_addI (we_var 3 rfl (we_int ⟨_, _, rfl, rfl, _, rfl, _, .inr (.inr ⟨_, rfl, zl, rfl⟩), ?_⟩))⟩))))
    rw [show ((i : Int) + 2) = (i : Int) + ((2 : Nat) : Int) from rfl, cut_ik l i 2 hi]
    refine wss_cons (ws_ret (we_addS (we_addS (we_slice (we_var 1 rfl (we_var 3 rfl ⟨_, rfl, _, .inr (.inr ⟨_, rfl, zl, rfl⟩), we_revS (we_var 6 rfl ⟨_, rfl, ?_, _, _, rfl, rfl, ?_, we_slice (we_var 1 rfl (we_addI (we_var 3 rfl (we_int ⟨_, _, rfl, rfl, _, rfl, _, .inr (.inr ⟨_, rfl, zl, rfl⟩), _, _, rfl, rfl, ?_, ?_⟩))))⟩)⟩))))))
    · rw [S_len, sizeLine_eq, List.length_take]; omega
    · rw [cut_to, revS_S, S_len, S_len, sizeLine_eq, List.length_reverse, List.length_take (i := 2)]; omega
    · rw [cut_to, revS_S, i2, cut_b, S_cat, S_len, S_len, sizeLine_eq, List.length_append, List.length_reverse, List.length_take (i := 2)]; have := t2 (i + 2); omega
    · rw [cut_to, revS_S, i2, cut_b, S_cat, S_cat]
      refine fin _ (ben_put i (i + 2) (by omega) hasc (fun c hc => hasc c (List.mem_of_mem_drop (List.mem_of_mem_take (List.mem_reverse.mp hc)))) (by rw [List.length_reverse, List.length_take]; omega) ?_)
      have e : opns ((l.drop i).take 2).reverse = opns ((l.drop i).take 2) := List.countP_reverse
      rw [e]
      exact Nat.le_trans (opns_le ((List.take_sublist _ _).trans (List.drop_sublist _ _))) (Nat.le_succ _)
  rw [decide_eq_false h2]
  -- in its stead
  refine wss_nil (wss_cons (ws_if (wt_eqS (we_var 2 rfl (we_int ⟨_, rfl, ?_⟩)))))
  by_cases h3 : way = 3
  · rw [decide_eq_true h3]
    refine wss_cons (ws_ret (we_addS (we_addS (we_slice (we_var 1 rfl (we_var 3 rfl ⟨_, rfl, _, .inr (.inr ⟨_, rfl, zl, rfl⟩), we_var 5 rfl ⟨_, _, rfl, rfl, ?_, we_slice (we_var 1 rfl (we_addI (we_var 3 rfl (we_int ⟨_, _, rfl, rfl, _, rfl, _, .inr (.inr ⟨_, rfl, zl, rfl⟩), _, _, rfl, rfl, ?_, ?_⟩))))⟩⟩))))))
    · rw [cut_to, S_len, S_len, sizeLine_eq]; omega
    · rw [cut_to, i1, cut_b, S_cat, S_len, S_len, sizeLine_eq, List.length_append]; have := t2 (i + 1); omega
    · rw [cut_to, i1, cut_b, S_cat, S_cat]
      exact fin _ (ben_put i (i + 1) (by omega) hasc pca pc5 (by omega))
  rw [decide_eq_false h3]
  -- replaced
  refine wss_nil (wss_cons (ws_ifRepl (qs := exs.map fun q => (S q.1, S q.2)) 2 0 1 7 8 F2 (hr.mono (by decide)) nd rfl rfl rfl (fun h4 => ?_) (by rw [← exs_S]; repeat (first | exact .nil | refine .cons ⟨_, _, _, _, _, _, rfl⟩ ?_)) (fun q hq => ?_) (by decide) fun h4 as has => ⟨rfl, p, as.map D.ob, a3, c, e3, rfl, ?_, ?_, mset_same, co, by omega, by omega, fun x a' d' hx k7 k8 => ?_⟩))
  · refine wss_cons (ws_ret (we_if (wt_eqS (we_var 2 rfl (we_int ⟨_, rfl, ?_⟩)))))
    by_cases h5 : way = 5
    · rw [decide_eq_true h5]
      refine we_addS (we_addS (we_slice (we_var 1 rfl (we_var 3 rfl ⟨_, rfl, _, .inr (.inr ⟨_, rfl, zl, rfl⟩), we_var 5 rfl ⟨_, _, rfl, rfl, ?_, we_slice (we_var 1 rfl (we_var 3 rfl ⟨_, rfl, _, .inr (.inr ⟨_, rfl, zl, rfl⟩), _, _, rfl, rfl, ?_, ?_⟩))⟩⟩))))
      · rw [cut_to, S_len, S_len, sizeLine_eq]; omega
      · rw [cut_to, cut_b, S_cat, S_len, S_len, sizeLine_eq, List.length_append]; have := t2 i; omega
      · rw [cut_to, cut_b, S_cat, S_cat]
        exact fin _ (ben_put i i (Nat.le_refl _) hasc pca pc5 (by omega))
    · rw [decide_eq_false h5]
      exact we_var 1 rfl (fin _ (ben_self hasc))
  · obtain ⟨r, hr0, rfl⟩ := List.mem_map.mp hq
    obtain ⟨q1, q2, q3, q4, q5, q6⟩ := exs_ok r hr0
    refine ⟨q6, ?_⟩
    show (S l).length + ((S l).length + 1) * (S r.2).length ≤ 16777216
    rw [S_len, S_len]
    have : (l.length + 1) * r.2.length ≤ 301 * 2 := Nat.mul_le_mul (by omega) q5
    omega
  · intro z
    have := congrArg List.length z
    rw [List.length_map, has] at this
    cases this
  · rw [List.length_map, has]; decide
  · obtain ⟨y, hy, rfl⟩ := List.mem_map.mp hx
    refine ⟨y, hy, rfl, fun q hq => ?_⟩
    obtain ⟨r, hr0, rfl⟩ := List.mem_map.mp hq
    obtain ⟨q1, q2, q3, q4, q5, q6⟩ := exs_ok r hr0
    show Lets Φ (.str (Txt.replace (S l) (S r.1) (S r.2))) _
    rw [repl_S q1, mset_mset]
    obtain ⟨b1, b2, b3⟩ := repl_ben q1 q2 q3 q4 l.length l (Nat.le_refl _) hasc
    exact Lets.of (hc _ a' d' ⟨by omega, by omega, b3⟩ (by omega) (by omega))
end
end W
/-! GX2: the text of a plan with names; what is known of an error. -/
namespace W
open PySem PySem.Spec PyProof.Rows L2 DL SX PL SlX
section
variable {P : Program} {w : World} {K : PySem.W.Frag} {mg : Str → Option Value} {base : Heap} {C U : Addr}
theorem insM {M : Mp} {t : T} : InsOf M C (planN C t) (fldsN C t) := by rw [planN_ins]; exact ⟨rfl, rfl⟩
/-- a question of a plan with names -/
def cGetN (C : Addr) (g : T → D) : Con := fun ds M Φ => ∃ t, ds = [planN C t] ∧ Φ (g t) M
theorem ok_text_n (X : Px K mg C) : BodyOk P w K mg base "Plan.text" s_Plan_text ["self"] 1 0 (cGetN C fun t => tS (txt t)) := by
  intro f cdv A outer s H E hr ds M Φ hl hc
  obtain ⟨t, rfl, hc⟩ := hc
  exact wss_cons (ws_ret (we_fld (C := C) (we_var 0 rfl ⟨_, _, insM, X.cl, X.na _ (by decide +kernel), lk_text, Lets.of hc⟩)))
/-- what is known of an error -/
structure Ek (P : Program) (K : PySem.W.Frag) (mg : Str → Option Value) (B : Addr) (x : Str) (U : Addr) : Prop where
  er : XL.Er P K mg x U
  ev : XL.ErV K U
  at_ : mg x = some (.ref U)
  ex : PySem.W.exmOne K (.ref U) (.ref B) = some true
  no : PySem.W.kitOne K (.type "NoneType") (.ref U) = some false
theorem kit_self {U : Addr} : PySem.W.kitOne K (.ref U) (.ref U) = some true := by
  unfold PySem.W.kitOne
  simp
theorem hfree_of {qual : Str} {sc lsc : Scope} {L f : Addr} {cd : Value} (h : (lsc.names.all fun y => !decide (y.2 = NameKind.free) || decide (sc.names.lookup y.1 = some .cell)) = true) : ∀ y ∈ lsc.names, y.2 = NameKind.free → ∃ c, (envOfC qual sc L f cd).cells.lookup y.1 = some c := fun y hy e => by
  have q := List.all_eq_true.mp h y hy
  rw [e] at q
  simp only [decide_true, Bool.not_true, Bool.false_or, decide_eq_true_eq] at q
  exact cell_has q
end
end W
/-! XL11: a def that calls the lambda it got, and returns the pair of the error that it raises (None without one) and of what it gives (None where it raises). -/
namespace XL
open PySem PySem.W PySem.Calls PyProof.Rows PySem.HandSPX L2 LamX
section
variable {X : Cx} {pins : List (Addr × Obj)} {σ : L2.St} {H : Hp} {s : Shared} {Ng : List Str} {qg : Str} {sg : Scope} {g B : Addr} {cdg : Value} {k i j jr : Nat} {a n x rp : Str} {p1 p2 p3 pr np pos pos' : Pos} {tb : XK → Arguments → Expr → Scope → TE} {b₀ : Stmt} {suite : List Stmt} {ts : Addr → Value → Option Addr → TS}
/-- try: r = look() except X as n: suite -/
theorem try_ans (I : L2.Inv X pins σ H s) (hr : Room (k + 1) (X.A.deeper (envOfC qg sg s.heap.objs.size g cdg)))
    (hbody : ∀ (E : XK) (params : Arguments) (body : Expr) (scope : Scope) (f c' : Addr) (A : Around) (outer : List Env) (s : Shared) (H : Hp), Room k (A.deeper (lamEnv X scope s.heap.objs.size f c')) → PE (lamCx X A outer s H E scope f c') body (tb E params body scope))
    (hN : Ng[i]? = some a) (hv : Vis sg a) (hd : (a == ("__debug__" : Str)) = false) (hcd : (a == ("__classdict__" : Str)) = false) (hjr : Ng[jr]? = some rp) (hlr : L2.Loc sg rp) (hfr : sg.names.lookup rp = some .local)
    (nd : Ng.Nodup) (hj : Ng[j]? = some n) (hln : (envOfC qg sg s.heap.objs.size g cdg).kindOf n = some .local) (hc : Names (cxOf CX0 X.prog X.w X.K X.mg X.base Ng qg sg g cdg X.A X.stack s H E0).nox x (.ref B))
    (hsw : swapsWith (.Call (.Name a p1) [] [] p2) (some (.Name rp pr)) p3.line (envOfC qg sg s.heap.objs.size g cdg) = pure false)
    (hsu : ∀ (a : Addr) (oe : Obj) (cls : Value) (d : Option Addr) (pn : List (Addr × Obj)), Zc cls d oe → (∃ vs, oe.data = .fields vs) → PSs ((cxOf CX0 X.prog X.w X.K X.mg X.base Ng qg sg g cdg X.A X.stack s H E0).nox.suite a ((a, oe) :: pn)) (b₀ :: suite) (ts a cls d)) :
    PS (cxOf CX0 X.prog X.w X.K X.mg X.base Ng qg sg g cdg X.A X.stack s H E0).nox (.Try [.Assign [.Name rp pr] (.Call (.Name a p1) [] [] p2) p3] [.ExceptHandler (some (.Name x np)) (some n) (b₀ :: suite) pos'] [] [] pos)
      (fun D σZ HZ => tSeq (tAsg (tAct X σ i tb (fun σZ cls d H' => wAsV X.K (.ref B) j ts (fun _ _ _ _ => False) D cls d σZ H')) (gName jr)) tNext D σZ HZ) :=
  ps_try_asV (X := (cxOf CX0 X.prog X.w X.K X.mg X.base Ng qg sg g cdg X.A X.stack s H E0).nox) (tb := fun W => tSeq (tAsg (tAct X σ i tb (fun σZ cls d H' => W cls d σZ H')) (gName jr)) tNext) rfl rfl rfl nd hj hln hc L2.takes0
    (fun W pn xe tk _ => pss_cons (ps_set nd hjr hlr (pe_actV (CXg := CX0) (Eg := E0) (E := fun σZ cls d H' => W cls d σZ H') I tk (fun _ _ _ _ z => z) hr hbody hN hv hd hcd) hsw (.inr hfr)) pss_nil) hsu
/-- what the def makes of the lambda at f: (None, what it gives), or (the error that it raises, None) -/
def GiveR (X : Cx) (σ : L2.St) (K : Frag) (B : Addr) (tb : XK → Arguments → Expr → Scope → TE) (f : Addr) (H : Hp) (Q : VK) : Prop := ∃ (c' : Addr) (params : Arguments) (body : Expr) (scope : Scope), H f = some (LamO f (X.env.qual ++ "<lambda>") params body scope (cloFrom X.env.cells scope.names []) c') ∧ H c' = some (CodeO c' (X.env.qual ++ "<lambda>")) ∧
  LamS X.env.scope scope ∧ (∀ (pm cv ctv : Value), bindArgs (PySem.W.kla_fn "<lambda>" (X.env.qual ++ "<lambda>") params body scope (cloFrom X.env.cells scope.names []) pm cv ctv) ⟨[], []⟩ = pure []) ∧
  ∀ p0, H p0 = none → ∀ (E : XK) (R : VK), (∀ v H', (∀ p, H' p = none → Q (.ref p) (upd H' p (.tup [.non, v]))) → R v H') → (∀ cls d H', exmOne K cls (.ref B) = some true → (∀ a p, H' a = none → upd H' a (XV a cls d) p = none → Q (.ref p) (upd (upd H' a (XV a cls d)) p (.tup [.ref a, .non]))) → E cls d H') → tb E params body scope σ (upd H p0 (.tup [.non, .non])) R
/-- here, r = (None, None); try: r = look() except X as n: here = n; return (here, r) -/
theorem answered {here : Str} {q1 q2 q3 q4 q5 q6 q7 q8 q9 q10 q11 q12 q13 q14 : Pos} {k1 k2 k3 j1 j2 : Nat} (I : L2.Inv X pins σ H s) (hr : Room (k + 1) (X.A.deeper (envOfC qg sg s.heap.objs.size g cdg)))
    (hbody : ∀ (E : XK) (params : Arguments) (body : Expr) (scope : Scope) (f c' : Addr) (A : Around) (outer : List Env) (s : Shared) (H : Hp), Room k (A.deeper (lamEnv X scope s.heap.objs.size f c')) → PE (lamCx X A outer s H E scope f c') body (tb E params body scope))
    (hv : Vis sg a) (hvn : Vis sg n) (hvh : Vis sg here) (hlh : L2.Loc sg here) (hfh : sg.names.lookup here = some .local) (hvr : Vis sg rp) (hlr : L2.Loc sg rp) (hfr : sg.names.lookup rp = some .local) (hd : (a == ("__debug__" : Str)) = false) (hcd : (a == ("__classdict__" : Str)) = false) (hd2 : (n == ("__debug__" : Str)) = false) (hcd2 : (n == ("__classdict__" : Str)) = false) (hd3 : (here == ("__debug__" : Str)) = false) (hcd3 : (here == ("__classdict__" : Str)) = false) (hd4 : (rp == ("__debug__" : Str)) = false) (hcd4 : (rp == ("__classdict__" : Str)) = false)
    (nd : Ng.Nodup) (hNg : Ng = [a, here, rp, n]) (hln : (envOfC qg sg s.heap.objs.size g cdg).kindOf n = some .local) (hc : Names (cxOf CX0 X.prog X.w X.K X.mg X.base Ng qg sg g cdg X.A X.stack s H E0).nox x (.ref B))
    (hsw : swapsWith (.Call (.Name a p1) [] [] p2) (some (.Name rp pr)) p3.line (envOfC qg sg s.heap.objs.size g cdg) = pure false)
    (hst : PS (cxOf CX0 X.prog X.w X.K X.mg X.base Ng qg sg g cdg X.A X.stack s H E0).nox (.Assign [.Tuple [.Name here q1, .Name rp q2] k1 q3] (.Tuple [.Constant .none j1 q4, .Constant .none j2 q5] k2 q6) q7) (fun D σ H => ∀ p0, H p0 = none → D.nx ((σ.set 1 (some .non)).set 2 (some .non)) (upd H p0 (.tup [.non, .non]))))
    {f : Addr} {Q : VK} (h : GiveR X σ X.K B tb f H Q) :
    ∃ t, PSs (cxOf CX0 X.prog X.w X.K X.mg X.base Ng qg sg g cdg X.A X.stack s H E0).nox [.Assign [.Tuple [.Name here q1, .Name rp q2] k1 q3] (.Tuple [.Constant .none j1 q4, .Constant .none j2 q5] k2 q6) q7, .Try [.Assign [.Name rp pr] (.Call (.Name a p1) [] [] p2) p3] [.ExceptHandler (some (.Name x np)) (some n) [.Assign [.Name here q8] (.Name n q9) q10] pos'] [] [] pos, .Return (some (.Tuple [.Name here q11, .Name rp q12] k3 q13)) q14] t ∧
      t { nx := fun _ H' => Q .non H', rt := Q } (L2.start Ng [.ref f]) H := by
  subst hNg
  refine ⟨_, pss_cons hst (pss_cons (try_ans (i := 0) (j := 3) (jr := 2) I hr hbody rfl hv hd hcd rfl hlr hfr nd rfl hln hc hsw (fun a oe cls d pn hz hf => pss_cons (ps_asg (pe_var (i := 3) rfl hvn hd2 hcd2) (pg_name (i := 1) nd rfl hlh (Or.inl rfl)) rfl rfl rfl) pss_nil)) (pss_cons (ps_ret (pe_tup (pa_cons (pe_var (i := 1) rfl hvh hd3 hcd3) (pa_cons (pe_var (i := 2) rfl hvr hd4 hcd4) pa_nil)))) pss_nil)), ?_⟩
  obtain ⟨c', params, body, scope, h1, h2, h3, h4, h5⟩ := h
  intro p0 hp0
  have n1 : f ≠ p0 := fun z => by rw [z, hp0] at h1; cases h1
  have n2 : c' ≠ p0 := fun z => by rw [z, hp0] at h2; cases h2
  refine ⟨f, c', params, body, scope, rfl, by rw [upd_ne n1]; exact h1, by rw [upd_ne n2]; exact h2, h3, h4, ?_⟩
  exact h5 p0 hp0 _ _ (fun v H' z => ⟨_, rfl, _, rfl, (show 2 ≤ sizeLine by decide), z⟩) fun cls d H' he hq => ⟨true, he, fun _ a ha => ⟨_, rfl, _, rfl, _, rfl, (show 2 ≤ sizeLine by decide), fun p hp => hq a p ha hp⟩, fun z => by cases z⟩
end
end XL
/-! DX14: `_law_answer(e)`, e a lambda: (None, what it gives), or (the error of the package that it raises, None). -/
namespace DL
open PySem PySem.Spec PyProof.Rows L2
/-- the def at g gives the pair of the two -/
def GivesR (X : Cx) (k : Nat) (B g : Addr) (x : Str) (Ng : List Str) (sg : Scope) (cdg : Value) (bg : List Stmt) : Prop := ∀ (pins : List (Addr × Obj)) (σ : L2.St) (H : Hp) (s : Shared) (f : Addr) (Q : VK), L2.Inv X pins σ H s → Room (k + 1) (X.A.deeper (envOfC x sg s.heap.objs.size g cdg)) → XL.GiveR X σ X.K B (tbL X k) f H Q →
  ∃ t, PSs (cxOf CX0 X.prog X.w X.K X.mg X.base Ng x sg g cdg X.A X.stack s H E0).nox bg t ∧ t { nx := fun _ H' => Q .non H', rt := Q } (L2.start Ng [.ref f]) H
section
variable {X : Cx} {ρ : Rho} {M : Mp} {Φ : D → Mp → Prop} {e : Expr} {pos p : Pos} {x a : Str} {k : Nat} {B g : Addr} {Ng : List Str} {sg : Scope} {cdg : Value} {bg : List Stmt} {pg : Arguments} {dV kV doc pm ct oc : Value} {an od : Option Addr} {osl : Array (Option Value)}
/-- what is asked of the lambda -/
def LamAns (X : Cx) (ρ : Rho) (k : Nat) (B : Addr) (Φ : D → Mp → Prop) (d : D) (M1 : Mp) : Prop := ∃ params body scope, d = .lam (X.env.qual ++ "<lambda>") params body scope (cloFrom X.env.cells scope.names []) ∧ LamX.LamS X.env.scope scope ∧
      (∀ (q : Str) (cl : List (Str × Addr)) (pm cv ctv : Value), bindArgs (PySem.W.kla_fn "<lambda>" q params body scope cl pm cv ctv) ⟨[], []⟩ = pure []) ∧
      ∀ (f c' : Addr) (A : Around) (outer : List Env) (s : Shared) (H0 : Hp) (E : XK), Room k (A.deeper (LamX.lamEnv X scope s.heap.objs.size f c')) → WEx (LamX.lamCx X A outer s H0 E scope f c') ρ M1 body (fun v M2 => Φ (.tup [.non, v]) M2) (fun C fs M2 => PySem.W.exmOne X.K (.ref C) (.ref B) = some true ∧ Φ (.tup [.exc C fs, .non]) M2)
theorem we_answer (hm : X.mg x = some (.ref g)) (hk : PySem.W.keepIn X.K (.ref g) = true) (lk : X.K.lookup g = some ⟨oc, od, .func (PySem.W.fnOf x x pg bg sg dV kV doc pm an cdg ct), osl⟩) (hcg : PySem.W.codeIn X.K cdg x = true) (hb : Binds X.K (PySem.W.fnOf x x pg bg sg dV kV doc pm an cdg ct) [a] []) (Sg : FnScope Ng [a] sg)
    (hG : GivesR X k B g x Ng sg cdg bg) (hr : Room (k + 2) X.A) (h : WE X ρ M e (LamAns X ρ k B Φ))
    (hg : Gl X x := by rfl) (hdb : (x == ("__debug__" : Str)) = false := by decide) (he : starEach [e] X.env = (false, eval e X.env) :: starEach [] X.env := by rfl) (hpl : (backTo pos (starEach [] X.env)).any (·.1) = false := by rfl) : WE X ρ M (.Call (.Name x p) [e] [] pos) Φ := .mk fun {Z} σ H Q en w kk => by
  intro pins s I
  refine wpAny_Call_Name_kw (ld_glob I hg hm ?_ hdb)
  refine PySem.W.callWith_K (h₀ := X.base) I.ok.mod.kin hk (thn ((pa_sem (es := [e])).run pos pins s σ H (fun vs H1 => ∃ f, vs = [.ref f] ∧ XL.GiveR X σ X.K B (tbL X k) f H1 Q) I ?_) fun us s1 z => ?_) he hpl
  · refine (wa_cons (es := []) (ΦA := fun ds M1 => ∃ d, ds = [d] ∧ LamAns X ρ k B Φ d M1) (h.imp fun d M1 z => wa_nil ⟨d, rfl, z⟩) he).run σ H _ en w fun vs ds H1 M1 e1 w1 r1 hz => ?_
    obtain ⟨d, rfl, params, body, scope, rfl, L, hbind, hbd⟩ := hz
    cases r1 with
    | cons r1 r2 =>
      cases r2
      cases r1 with
      | lam q1 q2 m1 m2 =>
        refine ⟨_, rfl, _, params, body, scope, q1, q2, L, fun pm cv ctv => hbind _ _ pm cv ctv, fun p0 hp0 E R hR hE f c' A outer s0 H0 hr' => ?_⟩
        have x0 : Ext M1 Z H1 M1 (upd H1 p0 (.tup [.non, .non])) := Ext.new w1 hp0
        refine (hbd f c' A outer s0 H0 E hr').run σ _ R E ((en.mono e1).mono x0) (w1.new hp0) (fun v d H2 M2 e2 w2 r2 hz => hR v H2 fun q hq => ?_) (takes_of rfl rfl rfl rfl) fun C fs vs d H2 M2 e2 w2 hd md rf hz => ?_
        · have x3 : Ext M2 Z H2 M2 (upd H2 q (.tup [.non, v])) := Ext.new w2 hq
          exact (kk.step (((e1.trans x0).trans e2).trans x3)).now (w2.new hq) (.tup (.inl upd_same) (w2.fresh hq) (.cons .non (.cons (r2.mono x3) .nil))) hz
        · refine hE _ _ _ hz.1 fun q t hq ht => ?_
          have nq : d ≠ q := fun z => by rw [z, hq] at hd; cases hd
          have x3 : Ext M2 Z H2 M2 (upd H2 q (XL.XV q (.ref C) (some d))) := Ext.new w2 hq
          have w3 := w2.new (o := XL.XV q (.ref C) (some d)) hq
          have r3 : Rep X.K M2 Z (upd H2 q (XL.XV q (.ref C) (some d))) (.ref q) (.exc C fs) := .exc upd_same (by rw [upd_ne nq]; exact hd) (w2.fresh hq) md (rf.mono x3)
          have x4 : Ext M2 Z (upd H2 q (XL.XV q (.ref C) (some d))) M2 (upd (upd H2 q (XL.XV q (.ref C) (some d))) t (.tup [.ref q, .non])) := Ext.new w3 ht
          exact (kk.step ((((e1.trans x0).trans e2).trans x3).trans x4)).now (w3.new ht) (.tup (.inl upd_same) (w3.fresh ht) (.cons (r3.mono x4) (.cons .non .nil))) hz.2
  · obtain ⟨vs, H1, I1, r, f, rfl, hgv⟩ := z
    refine ⟨I1.kIn, ?_⟩
    cases r with
    | cons r1 r2 =>
      cases r2
      rename_i u
      obtain rfl : u = Value.ref f := r1
      have rc := LamX.run_ofS (CX := CX0) (P := X.prog) (w := X.w) (mg := X.mg) (base := X.base) (Q := Q) (E := E0) lk hcg Sg hr I1.env0 (hb s1 [Value.ref f] I1.kIn rfl) (Paired.cons (a := V.ref f) rfl Paired.nil) rfl fun hr' => by
        obtain ⟨t', ht, hq⟩ := hG pins σ H1 s1 f Q I1 hr' hgv
        exact ⟨t', PSs.nox ht, hq⟩
      refine wpAny_call (codeAny_mono rc fun r s' hq => ?_)
      cases r with
      | error er => exact hq.elim
      | ok fl =>
        cases fl with
        | ret u => exact I1.after hq
        | next => exact hq.elim
        | brk => exact hq.elim
        | cont => exact hq.elim
end
section
variable {X : Cx} {ρ : Rho} {M : Mp} {Φ : D → Mp → Prop} {e : Expr} {pos p : Pos} {x a : Str} {k : Nat} {B : Addr} {Ng : List Str} {st : Stmt}
/-- `_law_answer(e)`, e a lambda -/
theorem we_ans (T : Ct X.K X.mg x st a) (Sg : FnScope Ng [a] (defScope st)) (hG : ∀ (g : Addr) (cdg : Value), GivesR X k B g x Ng (defScope st) cdg (defBody st)) (hr : Room (k + 2) X.A) (h : WE X ρ M e (LamAns X ρ k B Φ))
    (hg : Gl X x := by rfl) (hdb : (x == ("__debug__" : Str)) = false := by decide) (he : starEach [e] X.env = (false, eval e X.env) :: starEach [] X.env := by rfl) (hpl : (backTo pos (starEach [] X.env)).any (·.1) = false := by rfl) : WE X ρ M (.Call (.Name x p) [e] [] pos) Φ := by
  obtain ⟨g, fd, F, hm⟩ := T.df.ex
  obtain ⟨oc, od, dV, kV, doc, pm, an, cdg, ct, osl, rfl, lk, hcg, hdv, _⟩ := F.ex
  have hb := F.bindsN (ps := [a]) T.bind
  exact we_answer hm F.kp lk hcg hb Sg (hG g cdg) hr h hg hdb he hpl
end
end DL
/-! GR: _law_answer. -/
namespace W
open PySem PySem.Spec PyProof.Rows L2 DL SX
theorem gives_R {X : Cx} {k : Nat} {B g : Addr} {cdg : Value} (hm : X.mg "CrowdError" = some (.ref B)) : GivesR X k B g "_law_answer" ["_law_look", "_law_caught", "_law_reply", "error"] (defScope s__law_answer) cdg (defBody s__law_answer) := by
  intro pins σ H s f Q I hr h
  refine XL.answered (X := X) (Ng := ["_law_look", "_law_caught", "_law_reply", "error"]) (a := "_law_look") (here := "_law_caught") (rp := "_law_reply") (n := "error") (x := "CrowdError") I hr (fun E ps b sc f c' A outer s H hr => tbL_pe E ps b sc f c' A outer s H hr) (Or.inl rfl) (Or.inl rfl) (Or.inl rfl) (Or.inl rfl) rfl (Or.inl rfl) (Or.inl rfl) rfl (by decide) (by decide) (by decide) (by decide) (by decide) (by decide) (by decide) (by decide) (by decide +kernel) rfl rfl ⟨rfl, by decide, .inl hm⟩ rfl ?_ h
  refine ⟨fun pins s σ H D I h => ?_⟩
  have nd : (["_law_look", "_law_caught", "_law_reply", "error"] : List Str).Nodup := by decide +kernel
  exact (ps_asg (pe_tup (pa_cons pe_non (pa_cons pe_non pa_nil))) (pg_tup rfl (pgs_cons (pg_name (i := 1) nd rfl (Or.inl rfl) (Or.inl rfl)) (pgs_cons (pg_name (i := 2) nd rfl (Or.inl rfl) (Or.inl rfl)) pgs_nil)) rfl rfl) rfl rfl rfl).run pins s σ H D I ⟨show 2 ≤ sizeLine by decide, fun p hp => ⟨p, _, rfl, .inl (.inl upd_same), rfl, _, _, rfl, _, _, rfl, rfl, h p hp⟩⟩
end W
/-! DL28: a shown dict of three texts, what it has; a <= b < c. -/
namespace DL
open PySem PySem.Spec PyProof.Rows L2
section
variable {X : Cx} {ρ : Rho} {M : Mp} {Φ : D → Mp → Prop} {Θ : Bool → Mp → Prop} {a b c e : Expr} {pos : Pos}
theorem we_disp3 {k1 k2 k3 v1 v2 v3 : Str} {j1 j2 j3 j4 j5 j6 : Nat} {q1 q2 q3 q4 q5 q6 dp : Pos} (h12 : k1 ≠ k2) (h13 : k1 ≠ k3) (h23 : k2 ≠ k3) (h : Φ (.dK [(.inr k1, .str v1), (.inr k2, .str v2), (.inr k3, .str v3)]) M) :
    WE X ρ M (.Dict [some (.Constant (.str k1) j1 q1), some (.Constant (.str k2) j2 q2), some (.Constant (.str k3) j3 q3)] [.Constant (.str v1) j4 q4, .Constant (.str v2) j5 q5, .Constant (.str v3) j6 q6] dp) Φ := .mk fun {Z} σ H Q en w k => by
  refine eOf (pe_disp (pps_cons pe_str pe_str (pps_cons pe_str pe_str (pps_cons pe_str pe_str pps_nil))) rfl rfl (by simp) (by simp)) ?_
  intro t ht
  refine ⟨upd_same, [(.inr k1, .str v1), (.inr k2, .str v2), (.inr k3, .str v3)], rfl, by simp, ?_⟩
  have e2 : upd (upd H t (.dK [])) t (.dK (mergeK [] [(.inr k1, .str v1), (.inr k2, .str v2), (.inr k3, .str v3)])) = upd H t (.dK [(.inr k1, .str v1), (.inr k2, .str v2), (.inr k3, .str v3)]) := by
    have : mergeK [] [((.inr k1 : Key), V.str v1), (.inr k2, .str v2), (.inr k3, .str v3)] = [(.inr k1, .str v1), (.inr k2, .str v2), (.inr k3, .str v3)] := by
      simp [mergeK, putK, h12, h13, h23]
    rw [this]
    funext b; unfold upd; split <;> rfl
  rw [e2]
  exact k.new w ht (.dK upd_same (w.fresh ht) (.cons (.str _) (.cons (.str _) (.cons (.str _) .nil)))) h
def valK (kvs : List (Key × D)) (k : Key) : Option D := (kvs.find? fun kv => decide (kv.1 = k)).map (·.2)
theorem RepK.val {K : PySem.W.Frag} {Z : Zn} {H : Hp} {k : Key} {d : D} : ∀ {vs : List (Key × V)} {ds : List (Key × D)}, RepK K M Z H vs ds → valK ds k = some d → ∃ v, valV vs k = some v ∧ Rep K M Z H v d
  | _, _, .nil, h => by simp [valK] at h
  | _, _, .cons (k := k') (v := v) (d := d') r t, h => by
    unfold valK at h
    unfold valV
    rw [List.find?_cons] at h ⊢
    by_cases hk : k' = k
    · rw [decide_eq_true hk] at h ⊢
      obtain rfl := Option.some.inj h
      exact ⟨v, rfl, r⟩
    · rw [decide_eq_false hk] at h ⊢
      exact RepK.val t h
theorem we_dKget (hu : X.A.units + 1 < cLine) (h : WE X ρ M a fun x M1 => WE X ρ M1 b fun y M2 => ∃ kvs k d, x = .dK kvs ∧ y = .str k ∧ valK kvs (.inr k) = some d ∧ Φ d M2) (hs : NoSl b := by exact fun _ _ => rfl) : WE X ρ M (.Subscript a b pos) Φ := .mk fun {Z} σ H Q en w k =>
  eOf (pe_dget hu pe_sem pe_sem hs) (bind2 h en w fun v u x y H2 M2 e2 w2 r1 r2 hz => by
    obtain ⟨kvs, z, d, rfl, rfl, hv, hz⟩ := hz
    cases r2
    cases r1 with
    | dK hq m rs =>
      obtain ⟨v, h1, rv⟩ := rs.val hv
      exact ⟨_, v, rfl, by rw [← h1]; exact DGet.k (k := .inr z) hq, (k.step e2).now w2 rv hz⟩)
theorem wt_leLt (h : WE X ρ M a fun x M1 => WE X ρ M1 b fun y M2 => ∃ i j, x = .int i ∧ y = .int j ∧ if i ≤ j then WE X ρ M2 c (fun z M3 => ∃ l, z = .int l ∧ Θ (decide (j < l)) M3) else Θ false M2) (hm : lastMarks [CmpOp.LtE, .Lt] [b, c] = false := by with_unfolding_all rfl) : WT X ρ M (.Compare a [.LtE, .Lt] [b, c] pos) Θ := .mk fun {Z} σ H Q en w k =>
  tOf (pt_chain op_le op_lt pe_sem pe_sem pe_sem (hm := hm)) (bind2 h en w fun v u x y H2 M2 e2 w2 r1 r2 hz => by
    obtain ⟨i, j, rfl, rfl, hz⟩ := hz
    cases r1; cases r2
    refine ⟨i, j, rfl, rfl, _, rfl, ?_⟩
    by_cases hij : i ≤ j
    · rw [decide_eq_true hij, if_pos rfl]
      rw [if_pos hij] at hz
      exact hz.run σ H2 _ (en.mono e2) w2 fun v3 d3 H3 M3 e3 w3 r3 hy => by
        obtain ⟨l, rfl, hy⟩ := hy
        cases r3
        exact ⟨j, l, rfl, rfl, _, rfl, (k.step (e2.trans e3)).now w3 hy⟩
    · rw [decide_eq_false hij, if_neg (by simp)]
      rw [if_neg hij] at hz
      exact ⟨_, rfl, (k.step e2).now w2 hz⟩)
end
end DL
/-! DL36: a dict with texts as keys that is made and changed. -/
namespace DL
open PySem PySem.Spec PyProof.Rows L2
def putKD (kvs : List (Key × D)) (k : Key) (d : D) : List (Key × D) := if (kvs.any fun kv => decide (kv.1 = k)) = true then kvs.map (fun kv => if kv.1 = k then (kv.1, d) else kv) else kvs ++ [(k, d)]
section
variable {K : PySem.W.Frag} {M : Mp} {Z : Zn} {H : Hp} {k : Key} {v : V} {d : D}
theorem RepK.length : ∀ {vs : List (Key × V)} {ds : List (Key × D)}, RepK K M Z H vs ds → vs.length = ds.length
  | _, _, .nil => rfl
  | _, _, .cons r t => by rw [List.length_cons, List.length_cons, RepK.length t]
theorem RepK.any : ∀ {vs : List (Key × V)} {ds : List (Key × D)}, RepK K M Z H vs ds → (vs.any fun kv => decide (kv.1 = k)) = ds.any fun kv => decide (kv.1 = k)
  | _, _, .nil => rfl
  | _, _, .cons r t => by rw [List.any_cons, List.any_cons, RepK.any t]
theorem RepK.snoc (r : Rep K M Z H v d) : ∀ {vs : List (Key × V)} {ds : List (Key × D)}, RepK K M Z H vs ds → RepK K M Z H (vs ++ [(k, v)]) (ds ++ [(k, d)])
  | _, _, .nil => .cons r .nil
  | _, _, .cons r1 t => .cons r1 (RepK.snoc r t)
theorem RepK.repl (r : Rep K M Z H v d) : ∀ {vs : List (Key × V)} {ds : List (Key × D)}, RepK K M Z H vs ds → RepK K M Z H (vs.map fun kv => if kv.1 = k then (kv.1, v) else kv) (ds.map fun kv => if kv.1 = k then (kv.1, d) else kv)
  | _, _, .nil => .nil
  | _, _, .cons (k := j) r1 t => by
    rw [List.map_cons, List.map_cons]
    by_cases e : j = k
    · simp only [if_pos e]; exact .cons r (RepK.repl r t)
    · simp only [if_neg e]; exact .cons r1 (RepK.repl r t)
theorem RepK.put {vs : List (Key × V)} {ds : List (Key × D)} (r : Rep K M Z H v d) (t : RepK K M Z H vs ds) : RepK K M Z H (putK vs k v) (putKD ds k d) := by
  unfold putK putKD
  rw [t.any]
  split
  · exact t.repl r
  · exact t.snoc r
end
section
variable {X : Cx} {ρ : Rho} {M : Mp} {Φ : D → Mp → Prop} {a b o i : Expr} {pos : Pos}
theorem we_disp3I {a1 b1 a2 b2 a3 b3 : Expr} {dp : Pos} (h : WE X ρ M a1 fun x1 M1 => WE X ρ M1 b1 fun y1 M2 => WE X ρ M2 a2 fun x2 M3 => WE X ρ M3 b2 fun y2 M4 => WE X ρ M4 a3 fun x3 M5 => WE X ρ M5 b3 fun y3 M6 => ∃ (k1 k2 k3 : Str) (n1 n2 n3 : Int), x1 = .str k1 ∧ y1 = .int n1 ∧ x2 = .str k2 ∧ y2 = .int n2 ∧ x3 = .str k3 ∧ y3 = .int n3 ∧ k1 ≠ k2 ∧ k1 ≠ k3 ∧ k2 ≠ k3 ∧ ∀ p, M6 p = none → Φ (.ob p) (mset M6 p (.dK [(.inr k1, .int n1), (.inr k2, .int n2), (.inr k3, .int n3)]))) :
    WE X ρ M (.Dict [some a1, some a2, some a3] [b1, b2, b3] dp) Φ := .mk fun {Z} σ H Q en w k => by
  refine eOf (pe_disp (pps_cons pe_sem pe_sem (pps_cons pe_sem pe_sem (pps_cons pe_sem pe_sem pps_nil))) rfl rfl (by simp) (by simp)) ?_
  intro t ht
  have zne := w.zne ht
  have xh : ExI M Z H M (hid Z t) (upd H t (.dK [])) := hide_x ht
  have wh : Wd X.K M (hid Z t) (upd H t (.dK [])) := hide_w w ht
  have en0 := en.monoI xh
  refine h.run σ _ _ en0 wh fun v1 x1 H1 M1 e1 w1 r1 hz => ?_
  refine hz.run σ H1 _ (en0.mono e1) w1 fun u1 y1 H2 M2 e2 w2 s1 hz => ?_
  have e12 := e1.trans e2
  refine hz.run σ H2 _ (en0.mono e12) w2 fun v2 x2 H3 M3 e3 w3 r2 hz => ?_
  have e13 := e12.trans e3
  refine hz.run σ H3 _ (en0.mono e13) w3 fun u2 y2 H4 M4 e4 w4 s2 hz => ?_
  have e14 := e13.trans e4
  refine hz.run σ H4 _ (en0.mono e14) w4 fun v3 x3 H5 M5 e5 w5 r3 hz => ?_
  have e15 := e14.trans e5
  refine hz.run σ H5 _ (en0.mono e15) w5 fun u3 y3 H6 M6 e6 w6 s3 hz => ?_
  have e16 := e15.trans e6
  obtain ⟨k1, k2, k3, n1, n2, n3, rfl, rfl, rfl, rfl, rfl, rfl, h12, h13, h23, hz⟩ := hz
  cases r1
  cases s1
  cases r2
  cases s2
  cases r3
  cases s3
  have hT : H6 t = some (.dK []) := (e16.2 t (.inr rfl)).1.trans upd_same
  refine ⟨hT, [(.inr k1, .int n1), (.inr k2, .int n2), (.inr k3, .int n3)], rfl, by simp, ?_⟩
  have em : mergeK [] [((.inr k1 : Key), V.int n1), (.inr k2, .int n2), (.inr k3, .int n3)] = [(.inr k1, .int n1), (.inr k2, .int n2), (.inr k3, .int n3)] := by
    simp [mergeK, putK, h12, h13, h23]
  rw [em]
  have mT : M6 t = none := (w6.2 t (.inr rfl)).1
  have xi : ExI M6 (hid Z t) H6 (mset M6 t (.dK [(.inr k1, .int n1), (.inr k2, .int n2), (.inr k3, .int n3)])) Z (upd H6 t (.dK [(.inr k1, .int n1), (.inr k2, .int n2), (.inr k3, .int n3)])) := fun b u q m => by
    have n : b ≠ t := fun e => m.2 (.inr e)
    exact ⟨by rw [upd_ne n]; exact q, by rw [mset_ne n]; exact m.1, fun z => m.2 (.inl z)⟩
  have x0 : ExI M Z H M6 (hid Z t) H6 := xh.trans e16.i
  refine k _ (.ob t) _ _ ⟨fun b u q m => ?_, fun b z => ?_⟩ ⟨fun c u e => ?_, fun b z => ?_⟩ (.ob t) (hz t mT)
  · obtain ⟨q1, m1⟩ := x0 b u q m
    exact xi b u q1 m1
  · have n := zne b z
    have := e16.2 b (.inl z)
    exact ⟨by rw [upd_ne n, this.1, upd_ne n], by rw [mset_ne n]; exact this.2⟩
  · by_cases hc : c = t
    · subst hc
      rw [mset_same] at e
      cases e
      exact ⟨_, upd_same, .cons (.int _) (.cons (.int _) (.cons (.int _) .nil))⟩
    · rw [mset_ne hc] at e
      exact (w6.1 c u e).stepI xi (upd_ne hc)
  · have n := zne b z
    obtain ⟨m, u, q⟩ := w6.2 b (.inl z)
    exact ⟨by rw [mset_ne n]; exact m, u, by rw [upd_ne n]; exact q⟩
/-- d[k] of a dict that changes -/
theorem we_dKgetO (hu : X.A.units + 1 < cLine) (h : WE X ρ M a fun x M1 => WE X ρ M1 b fun y M2 => ∃ q kvs k d, x = .ob q ∧ M2 q = some (.dK kvs) ∧ y = .str k ∧ valK kvs (.inr k) = some d ∧ Φ d M2) (hs : NoSl b := by exact fun _ _ => rfl) : WE X ρ M (.Subscript a b pos) Φ := .mk fun {Z} σ H Q en w k =>
  eOf (pe_dget hu pe_sem pe_sem hs) (bind2 h en w fun v u x y H2 M2 e2 w2 r1 r2 hz => by
    obtain ⟨q, kvs, z, d, rfl, hM, rfl, hv, hz⟩ := hz
    cases r1
    cases r2
    obtain ⟨vs, hq, rs⟩ := w2.1 q _ hM
    obtain ⟨v, h1, rv⟩ := rs.val hv
    exact ⟨_, v, rfl, by rw [← h1]; exact DGet.k (k := .inr z) hq, (k.step e2).now w2 rv hz⟩)
/-- d[k] = v -/
theorem wg_dputK {d : D} {Ω : Rho → Mp → Prop} (hu : X.A.units + 1 < cLine) (h : WE X ρ M o fun x M1 => WE X ρ M1 i fun y M2 => ∃ q kvs z, x = .ob q ∧ y = .str z ∧ M2 q = some (.dK kvs) ∧ kvs.length < sizeLine ∧ Ω ρ (mset M2 q (.dK (putKD kvs (.inr z) d))))
    (ha : ∀ v, assign (.Subscript o i pos) X.env v = (do
      let ov ← holding [v] (eval o X.env)
      let iv ← holding [v, ov] (eval i X.env)
      standAt pos
      holding [v, ov, iv] (setItem ov iv v)
      release [v, ov, iv] []) := by intro _; rfl) : WG X (.Subscript o i pos) d ρ M Ω := .mk fun {Z} σ H v Q en w r k =>
  gOf (pg_sub pe_sem pe_sem (set_dict hu) ha) (bind2 h en w fun v1 v2 x y H2 M2 e2 w2 r1 r2 hz => by
    obtain ⟨q, kvs, z, rfl, rfl, hM, hl, hz⟩ := hz
    cases r1
    cases r2
    obtain ⟨vs, hv, rs⟩ := w2.1 q _ hM
    refine ⟨q, _, rfl, DPut.k (k := .inr z) hv (by rw [rs.length]; exact hl), ?_⟩
    have x3 : Ext M2 _ H2 (mset M2 q (.dK (putKD kvs (.inr z) d))) (upd H2 q (.dK (putK vs (.inr z) v))) := Ext.put w2 hM
    exact k σ ρ _ _ (e2.trans x3) (w2.put hM ⟨_, upd_same, (rs.mono x3).put ((r.mono e2).mono x3)⟩) (en.mono (e2.trans x3)) hz)
end
end DL
/-! DL38: dicts with ints as keys that are made and changed. -/
namespace DL
open PySem PySem.Spec PyProof.Rows L2
section
variable {X : Cx} {ρ : Rho} {M : Mp} {Φ : D → Mp → Prop} {a b o i : Expr} {pos : Pos}
/-- {}, which will be changed -/
theorem we_dnewK (h : ∀ p, M p = none → Φ (.ob p) (mset M p (.dK []))) : WE X ρ M (.Dict [] [] pos) Φ := .mk fun σ H Q en w k =>
  eOf pe_dnewK fun p hp => k _ (.ob p) _ (mset M p (.dK [])) (Ext.newM w hp) (w.newM hp ⟨[], upd_same, .nil⟩) (.ob p) (h p (w.fresh hp).1)
theorem we_dKgetI (hu : X.A.units + 1 < cLine) (h : WE X ρ M a fun x M1 => WE X ρ M1 b fun y M2 => ∃ q kvs k d, x = .ob q ∧ M2 q = some (.dK kvs) ∧ y = .int k ∧ valK kvs (.inl k) = some d ∧ Φ d M2) (hs : NoSl b := by exact fun _ _ => rfl) : WE X ρ M (.Subscript a b pos) Φ := .mk fun {Z} σ H Q en w k =>
  eOf (pe_dget hu pe_sem pe_sem hs) (bind2 h en w fun v u x y H2 M2 e2 w2 r1 r2 hz => by
    obtain ⟨q, kvs, z, d, rfl, hM, rfl, hv, hz⟩ := hz
    cases r1
    cases r2
    obtain ⟨vs, hq, rs⟩ := w2.1 q _ hM
    obtain ⟨v, h1, rv⟩ := rs.val hv
    exact ⟨_, v, rfl, by rw [← h1]; exact DGet.k (k := .inl z) hq, (k.step e2).now w2 rv hz⟩)
/-- d[k] = v, k an int -/
theorem wg_dputI {d : D} {Ω : Rho → Mp → Prop} (hu : X.A.units + 1 < cLine) (h : WE X ρ M o fun x M1 => WE X ρ M1 i fun y M2 => ∃ q kvs z, x = .ob q ∧ y = .int z ∧ M2 q = some (.dK kvs) ∧ kvs.length < sizeLine ∧ Ω ρ (mset M2 q (.dK (putKD kvs (.inl z) d))))
    (ha : ∀ v, assign (.Subscript o i pos) X.env v = (do
      let ov ← holding [v] (eval o X.env)
      let iv ← holding [v, ov] (eval i X.env)
      standAt pos
      holding [v, ov, iv] (setItem ov iv v)
      release [v, ov, iv] []) := by intro _; rfl) : WG X (.Subscript o i pos) d ρ M Ω := .mk fun {Z} σ H v Q en w r k =>
  gOf (pg_sub pe_sem pe_sem (set_dict hu) ha) (bind2 h en w fun v1 v2 x y H2 M2 e2 w2 r1 r2 hz => by
    obtain ⟨q, kvs, z, rfl, rfl, hM, hl, hz⟩ := hz
    cases r1
    cases r2
    obtain ⟨vs, hv, rs⟩ := w2.1 q _ hM
    refine ⟨q, _, rfl, DPut.k (k := .inl z) hv (by rw [rs.length]; exact hl), ?_⟩
    have x3 : Ext M2 _ H2 (mset M2 q (.dK (putKD kvs (.inl z) d))) (upd H2 q (.dK (putK vs (.inl z) v))) := Ext.put w2 hM
    exact k σ ρ _ _ (e2.trans x3) (w2.put hM ⟨_, upd_same, (rs.mono x3).put ((r.mono e2).mono x3)⟩) (en.mono (e2.trans x3)) hz)
end
end DL
/-! DL41: dicts that are changed no more: walked, read; get, sorted, pop. -/
namespace DL
open PySem PySem.Spec PyProof.Rows L2
theorem keyD_rep {K : PySem.W.Frag} {M : Mp} {Z : Zn} {H : Hp} (k : Key) : Rep K M Z H (kV k) (keyD k) := by
  cases k with
  | inl i => exact .int i
  | inr x => exact .str x
theorem RepK.get {K : PySem.W.Frag} {M : Mp} {Z : Zn} {H : Hp} : ∀ {vs : List (Key × V)} {ds : List (Key × D)} {i : Nat} {k : Key} {d : D}, RepK K M Z H vs ds → ds[i]? = some (k, d) → ∃ v, vs[i]? = some (k, v) ∧ Rep K M Z H v d
  | _, _, _, _, _, .nil, e => by simp at e
  | _, _, 0, _, _, .cons r _, e => by simp at e; obtain ⟨rfl, rfl⟩ := e; exact ⟨_, rfl, r⟩
  | _, _, i + 1, k, d, .cons _ t, e => by
    obtain ⟨u, h1, h2⟩ := RepK.get (i := i) (d := d) t (by simpa using e)
    exact ⟨u, by simpa using h1, h2⟩
theorem RepK.keys {K : PySem.W.Frag} {M : Mp} {Z : Zn} {H : Hp} : ∀ {vs : List (Key × V)} {ds : List (Key × D)}, RepK K M Z H vs ds → vs.map (·.1) = ds.map (·.1)
  | _, _, .nil => rfl
  | _, _, .cons _ t => by rw [List.map_cons, List.map_cons, t.keys]
theorem RepK.valN {K : PySem.W.Frag} {M : Mp} {Z : Zn} {H : Hp} {k : Key} : ∀ {vs : List (Key × V)} {ds : List (Key × D)}, RepK K M Z H vs ds → valK ds k = none → valV vs k = none
  | _, _, .nil, _ => rfl
  | _, _, .cons (k := j) r t, e => by
    unfold valK at e
    rw [List.find?_cons] at e
    by_cases h : j = k
    · simp [h] at e
    · rw [valV_neg h]
      refine RepK.valN t ?_
      unfold valK
      simpa [h] using e
section
variable {X : Cx} {ρ : Rho} {M : Mp} {Φ : D → Mp → Prop} {Θ : Bool → Mp → Prop} {Ψ : DE} {a b o e f i tg : Expr} {ss : List Stmt} {pos apos p : Pos}
/-! ### frozen for good -/
theorem frz_x {Z : Zn} {H : Hp} {q : Addr} {u : MO} {x : HO} (w : Wd X.K M Z H) (hq : M q = some u) : Ext M Z H (mdel M q) (upd H q x) := ⟨fun b o h m => by
    have n : b ≠ q := fun e => by have m := m.1; rw [e, hq] at m; cases m
    exact ⟨by rw [upd_ne n]; exact h, by rw [mdel_ne n]; exact m.1, m.2⟩, fun b z => ⟨upd_ne (w.zneM hq b z), mdel_ne (w.zneM hq b z)⟩⟩
theorem frz_w {Z : Zn} {H : Hp} {q : Addr} {u : MO} {x : HO} (w : Wd X.K M Z H) (hq : M q = some u) : Wd X.K (mdel M q) Z (upd H q x) := ⟨fun c v e => by
    by_cases hc : c = q
    · subst hc; rw [mdel_same] at e; cases e
    · rw [mdel_ne hc] at e
      exact (w.1 c v e).step (frz_x w hq) (upd_ne hc), fun b z => by
    obtain ⟨m, v, h⟩ := w.2 b z
    exact ⟨by rw [mdel_ne (w.zneM hq b z)]; exact m, v, by rw [upd_ne (w.zneM hq b z)]; exact h⟩⟩
theorem frz_r {Z : Zn} {H : Hp} {q : Addr} {kvs : List (Key × D)} {od : Obj} {vs : List (Key × V)} (w : Wd X.K M Z H) (hq : M q = some (.dK kvs)) (r : RepK X.K M Z H vs kvs) : Rep X.K (mdel M q) Z (upd H q (.frz od (.dK vs))) (.ref q) (.fdK kvs) :=
  .fdK (o := od) (vs := vs) upd_same ⟨mdel_same, fun z => by have := (w.2 q z).1; rw [hq] at this; cases this⟩ (r.mono (frz_x w hq))
theorem set_self {α : Type} {l : List α} {i : Nat} {v : α} (hv : l[i]? = some v) : l.set i v = l := by
  apply List.ext_getElem?
  intro j
  by_cases hj : i = j
  · subst hj
    rw [List.getElem?_set_self (List.getElem?_eq_some_iff.mp hv).1, hv]
  · rw [List.getElem?_set_ne hj]
/-- a dict in a slot -/
theorem wss_frz {i : Nat} {q : Addr} {kvs : List (Key × D)} (hi : ρ[i]? = some (some (.ob q))) (hq : M q = some (.dK kvs)) (h : WSs X (ρ.set i (some (.fdK kvs))) (mdel M q) ss Ψ) : WSs X ρ M ss Ψ := .mk fun {Z} σ H E en w k => by
  intro pins s I
  obtain ⟨v, hv, r⟩ := en.get hi
  cases r
  obtain ⟨vs, hH, rs⟩ := w.1 q _ hq
  obtain ⟨od, I2⟩ := I.lock hH trivial
  have en2 := (en.mono (frz_x (x := .frz od (.dK vs)) w hq)).set (frz_r (od := od) w hq rs) i
  rw [set_self hv] at en2
  exact h.run σ _ E en2 (frz_w w hq) (k.step (frz_x w hq)) pins s I2
def tFrz (t : TE) : TE := fun σ H Q => t σ H fun v H1 => ∃ d u, v = .ref d ∧ H1 d = some u ∧ Mut (some u) ∧ ∀ od, Q v (upd H1 d (.frz od u))
theorem pe_frz {t : TE} (h : PE X e t) : PE X e (tFrz t) := ⟨fun pins s σ H Q I hw => thn (h.run pins s σ H _ I hw) fun v s1 ⟨v', H1, I2, r, d, u, e1, hd, mu, q⟩ => by
  obtain ⟨od, I3⟩ := I2.lock hd mu
  exact ⟨v', _, I3, r, q od⟩⟩
/-! ### walks -/
def itemsD (kvs : List (Key × D)) : List D := kvs.map fun kv => .tup [keyD kv.1, kv.2]
def keysD (kvs : List (Key × D)) : List D := kvs.map fun kv => keyD kv.1
theorem sq_items {K : PySem.W.Frag} {M1 : Mp} {Z1 : Zn} {H1 : Hp} {q : Addr} {od : Obj} {vs : List (Key × V)} {kvs : List (Key × D)} (hq : H1 q = some (.frz od (.dK vs))) (m : Im M1 Z1 q) (rs : RepK K M1 Z1 H1 vs kvs) : Sq K M1 Z1 H1 (Iti q od vs) (itemsD kvs) := fun i M Z H x w => by
  have h1 := (x _ _ hq m).1
  have r2 := rs.monoI x
  refine ⟨fun hi => ⟨h1, ?_⟩, fun d hd => ?_⟩
  · rw [hi, r2.length]; unfold itemsD; rw [List.length_map]; exact Nat.le_refl _
  · unfold itemsD at hd
    rw [List.getElem?_map] at hd
    obtain ⟨⟨k, y⟩, hk, rfl⟩ := Option.map_eq_some_iff.mp hd
    obtain ⟨v, hv, rv⟩ := r2.get hk
    refine ⟨⟨h1, (List.getElem?_eq_some_iff.mp hv).1⟩, fun z H2 yl => ?_⟩
    obtain ⟨T, k', v', hkv, rfl, hT, rfl⟩ := yl
    rw [hv] at hkv; cases hkv
    have x3 : Ext M Z H M (upd H T (.tup [kV k, v])) := Ext.new w hT
    exact ⟨x3, w.new hT, .tup (.inl upd_same) (w.fresh hT) (.cons (keyD_rep k) (.cons (rv.mono x3) .nil))⟩
theorem sq_keys {K : PySem.W.Frag} {M1 : Mp} {Z1 : Zn} {H1 : Hp} {q : Addr} {od : Obj} {vs : List (Key × V)} {kvs : List (Key × D)} (hq : H1 q = some (.frz od (.dK vs))) (m : Im M1 Z1 q) (rs : RepK K M1 Z1 H1 vs kvs) : Sq K M1 Z1 H1 (Itk q od vs) (keysD kvs) := fun i M Z H x w => by
  have h1 := (x _ _ hq m).1
  have r2 := rs.monoI x
  refine ⟨fun hi => ⟨h1, ?_⟩, fun d hd => ?_⟩
  · rw [hi, r2.length]; unfold keysD; rw [List.length_map]; exact Nat.le_refl _
  · unfold keysD at hd
    rw [List.getElem?_map] at hd
    obtain ⟨⟨k, y⟩, hk, rfl⟩ := Option.map_eq_some_iff.mp hd
    obtain ⟨v, hv, rv⟩ := r2.get hk
    refine ⟨⟨h1, (List.getElem?_eq_some_iff.mp hv).1⟩, fun z H2 yl => ?_⟩
    obtain ⟨rfl, k', v', hkv, rfl⟩ := yl
    rw [hv] at hkv; cases hkv
    exact ⟨Ext.refl, w, keyD_rep k⟩
/-- for .. in e.items(), the dict is e's own and falls -/
theorem wi_itemsO {elts : List Expr} {kk : Nat} {tpos : Pos} {Φ : List D → Mp → Prop} (h : WE X ρ M e fun d M1 => ∃ q kvs, d = .ob q ∧ M1 q = some (.dK kvs) ∧ Φ (itemsD kvs) (mdel M1 q))
    (hbase : attributeBase e "items" X.env (eval e X.env) = eval e X.env := by rfl) (hline : (apos.endLine == pos.line) = true := by rfl) : WI X ρ M (.Tuple elts kk tpos) (.Call (.Attribute e "items" apos) [] [] pos) Φ := .mk fun {Z} σ H R en w k =>
  iOf (pi_items (pe_frz pe_sem) hbase hline) (h.run σ H _ en w fun v d H1 M1 e1 w1 r1 hz => by
    obtain ⟨q, kvs, rfl, hq, hz⟩ := hz
    cases r1
    obtain ⟨vs, hH, rs⟩ := w1.1 q _ hq
    refine ⟨q, .dK vs, rfl, hH, trivial, fun od => ⟨q, od, vs, rfl, upd_same, ?_⟩⟩
    have x2 := frz_x (x := .frz od (.dK vs)) w1 hq
    exact k _ _ _ (mdel M1 q) (e1.trans x2) (frz_w w1 hq) (sq_items upd_same ⟨mdel_same, fun z => by have := (w1.2 q z).1; rw [hq] at this; cases this⟩ (rs.mono x2)) hz)
theorem wi_fitems {elts : List Expr} {kk : Nat} {tpos : Pos} {Φ : List D → Mp → Prop} (h : WE X ρ M e fun d M1 => ∃ kvs, d = .fdK kvs ∧ Φ (itemsD kvs) M1)
    (hbase : attributeBase e "items" X.env (eval e X.env) = eval e X.env := by rfl) (hline : (apos.endLine == pos.line) = true := by rfl) : WI X ρ M (.Tuple elts kk tpos) (.Call (.Attribute e "items" apos) [] [] pos) Φ := .mk fun {Z} σ H R en w k =>
  iOf (pi_items pe_sem hbase hline) (h.run σ H _ en w fun v d H1 M1 e1 w1 r1 hz => by
    obtain ⟨kvs, rfl, hz⟩ := hz
    cases r1 with
    | fdK hH m rs => exact ⟨_, _, _, rfl, hH, k _ _ _ M1 e1 w1 (sq_items hH m rs) hz⟩)
theorem wi_fkeys {Φ : List D → Mp → Prop} (h : WE X ρ M e fun d M1 => ∃ kvs, d = .fdK kvs ∧ Φ (keysD kvs) M1) : WI X ρ M tg e Φ := .mk fun {Z} σ H R en w k =>
  iOf (pi_keys pe_sem) (h.run σ H _ en w fun v d H1 M1 e1 w1 r1 hz => by
    obtain ⟨kvs, rfl, hz⟩ := hz
    cases r1 with
    | fdK hH m rs => exact ⟨_, _, rfl, .inl ⟨_, hH, k _ _ _ M1 e1 w1 (sq_keys hH m rs) hz⟩⟩)
/-! ### reads -/
theorem we_fget (hu : X.A.units + 1 < cLine) (h : WE X ρ M a fun x M1 => WE X ρ M1 b fun y M2 => ∃ kvs k d, x = .fdK kvs ∧ y = keyD k ∧ valK kvs k = some d ∧ Φ d M2) (hs : NoSl b := by exact fun _ _ => rfl) : WE X ρ M (.Subscript a b pos) Φ := .mk fun {Z} σ H Q en w k =>
  eOf (pe_dget hu pe_sem pe_sem hs) (bind2 h en w fun v u x y H2 M2 e2 w2 r1 r2 hz => by
    obtain ⟨kvs, z, d, rfl, rfl, hv, hz⟩ := hz
    cases r1 with
    | fdK hH m rs =>
      obtain ⟨v, h1, rv⟩ := rs.val hv
      have e : u = kV z := by cases z <;> (cases r2; rfl)
      subst e
      exact ⟨_, v, rfl, .inl ⟨_, z, .inr ⟨_, hH⟩, rfl, h1.symm⟩, (k.step e2).now w2 rv hz⟩)
theorem we_dget (hu : X.A.units + 1 < cLine) (h : WE X ρ M a fun x M1 => WE X ρ M1 b fun y M2 => ∃ q kvs k d, x = .ob q ∧ M2 q = some (.dK kvs) ∧ y = keyD k ∧ valK kvs k = some d ∧ Φ d M2) (hs : NoSl b := by exact fun _ _ => rfl) : WE X ρ M (.Subscript a b pos) Φ := .mk fun {Z} σ H Q en w k =>
  eOf (pe_dget hu pe_sem pe_sem hs) (bind2 h en w fun v u x y H2 M2 e2 w2 r1 r2 hz => by
    obtain ⟨q, kvs, z, d, rfl, hq, rfl, hv, hz⟩ := hz
    cases r1
    obtain ⟨vs, hH, rs⟩ := w2.1 q _ hq
    obtain ⟨v, h1, rv⟩ := rs.val hv
    have e : u = kV z := by cases z <;> (cases r2; rfl)
    subst e
    exact ⟨_, v, rfl, .inl ⟨_, z, .inl hH, rfl, h1.symm⟩, (k.step e2).now w2 rv hz⟩)
/-- d.get(k, x) -/
theorem we_dgetX (hu : X.A.units + 1 < cLine) (h : WE X ρ M o fun x M1 => ∃ q kvs0, x = .ob q ∧ M1 q = some (.dK kvs0) ∧ WE X ρ M1 e fun y M2 => WE X ρ M2 f fun z M3 => ∃ kvs k, M3 q = some (.dK kvs) ∧ y = keyD k ∧ Φ ((valK kvs k).getD z) M3)
    (m : M2 X o "get" apos e f pos := by exact ⟨rfl, rfl, rfl, rfl⟩) : WE X ρ M (.Call (.Attribute o "get" apos) [e, f] [] pos) Φ := .mk fun {Z} σ H Q en w k =>
  eOf (pe_dget2 hu pe_sem pe_sem pe_sem m) (h.run σ H _ en w fun v x H1 M1 e1 w1 r1 hz => by
    obtain ⟨q, kvs0, rfl, hq0, hz⟩ := hz
    cases r1
    obtain ⟨vs0, hH0, _⟩ := w1.1 q _ hq0
    refine ⟨q, rfl, .inl ⟨_, .inl hH0⟩, hz.run σ H1 _ (en.mono e1) w1 fun u y H2 M2 e2 w2 r2 hz => hz.run σ H2 _ (en.mono (e1.trans e2)) w2 fun t z H3 M3 e3 w3 r3 hz3 => ?_⟩
    obtain ⟨kvs, kk, hq, rfl, hz3⟩ := hz3
    obtain ⟨vs, hH, rs⟩ := w3.1 q _ hq
    have e : u = kV kk := by cases kk <;> (cases r2; rfl)
    subst e
    refine ⟨_, .inl ⟨_, kk, .inl hH, rfl, rfl⟩, ?_⟩
    have ks := k.step ((e1.trans e2).trans e3)
    cases hv : valK kvs kk with
    | some d =>
      obtain ⟨v, h1, rv⟩ := rs.val hv
      rw [hv] at hz3
      rw [h1]
      exact ks.now w3 rv hz3
    | none =>
      rw [hv] at hz3
      have : valV vs kk = none := rs.valN hv
      rw [this]
      exact ks.now w3 r3 hz3)
/-- d[k] = v -/
theorem wg_dputA {d : D} {Ω : Rho → Mp → Prop} (hu : X.A.units + 1 < cLine) (h : WE X ρ M o fun x M1 => WE X ρ M1 i fun y M2 => ∃ q kvs z, x = .ob q ∧ y = keyD z ∧ M2 q = some (.dK kvs) ∧ kvs.length < sizeLine ∧ Ω ρ (mset M2 q (.dK (putKD kvs z d))))
    (ha : ∀ v, assign (.Subscript o i pos) X.env v = (do
      let ov ← holding [v] (eval o X.env)
      let iv ← holding [v, ov] (eval i X.env)
      standAt pos
      holding [v, ov, iv] (setItem ov iv v)
      release [v, ov, iv] []) := by intro _; rfl) : WG X (.Subscript o i pos) d ρ M Ω := .mk fun {Z} σ H v Q en w r k =>
  gOf (pg_sub pe_sem pe_sem (set_dict hu) ha) (bind2 h en w fun v1 v2 x y H2 M2 e2 w2 r1 r2 hz => by
    obtain ⟨q, kvs, z, rfl, rfl, hM, hl, hz⟩ := hz
    cases r1
    have e : v2 = kV z := by cases z <;> (cases r2; rfl)
    subst e
    obtain ⟨vs, hv, rs⟩ := w2.1 q _ hM
    refine ⟨q, _, rfl, DPut.k (k := z) hv (by rw [rs.length]; exact hl), ?_⟩
    have x3 : Ext M2 _ H2 (mset M2 q (.dK (putKD kvs z d))) (upd H2 q (.dK (putK vs z v))) := Ext.put w2 hM
    exact k σ ρ _ _ (e2.trans x3) (w2.put hM ⟨_, upd_same, (rs.mono x3).put ((r.mono e2).mono x3)⟩) (en.mono (e2.trans x3)) hz)
/-- sorted(d), d's keys texts -/
theorem we_sortedD (hm : X.mg "sorted" = none) (h : WE X ρ M e fun d M1 => ∃ q kvs, d = .ob q ∧ M1 q = some (.dK kvs) ∧ ∃ ks : List Str, kvs.map (·.1) = ks.map Sum.inr ∧ ks.length < 64 ∧ ∀ ys : List Str, ys.Perm ks → sortedS ys = true → Φ (.lst (ys.map D.str)) M1) (hc : X.calm = true := by rfl) (hg : Gl X "sorted" := by rfl)
    (he : starEach [e] X.env = (false, eval e X.env) :: starEach [] X.env := by rfl) (hpl : (backTo pos (starEach [] X.env)).any (·.1) = false := by rfl) : WE X ρ M (.Call (.Name "sorted" p) [e] [] pos) Φ :=
  we_callB (call_sortedD hc) hm (by decide +kernel) (wa_cons (h.imp fun d M1 hz => wa_nil fun Z vs H Q w rr k => by
    obtain ⟨q, kvs, rfl, hq, ks, hk, hl, hz⟩ := hz
    obtain ⟨v, rfl, r⟩ := rr.one
    cases r
    obtain ⟨vs, hH, rs⟩ := w.1 q _ hq
    refine ⟨q, vs, ks, rfl, .inl hH, by rw [rs.keys]; exact hk, hl, fun ys b pm so hb => ?_⟩
    exact k.new w hb (.lst upd_same (w.fresh hb) (Reps.ofStrs ys)) (hz ys pm so)) he) hg (he := he) (hpl := hpl)
end
end DL
/-! DL50: a shown dict of four texts, .get on it; how long shown texts are. -/
namespace DL
open PySem PySem.Spec PyProof.Rows L2
section
variable {X : Cx} {ρ : Rho} {M : Mp} {Φ : D → Mp → Prop} {Θ : Bool → Mp → Prop} {a b c e f o : Expr} {pos apos : Pos}
theorem we_disp4 {k1 k2 k3 k4 v1 v2 v3 v4 : Str} {j1 j2 j3 j4 j5 j6 j7 j8 : Nat} {q1 q2 q3 q4 q5 q6 q7 q8 dp : Pos} (h12 : k1 ≠ k2) (h13 : k1 ≠ k3) (h14 : k1 ≠ k4) (h23 : k2 ≠ k3) (h24 : k2 ≠ k4) (h34 : k3 ≠ k4) (h : Φ (.dK [(.inr k1, .str v1), (.inr k2, .str v2), (.inr k3, .str v3), (.inr k4, .str v4)]) M) :
    WE X ρ M (.Dict [some (.Constant (.str k1) j1 q1), some (.Constant (.str k2) j2 q2), some (.Constant (.str k3) j3 q3), some (.Constant (.str k4) j4 q4)] [.Constant (.str v1) j5 q5, .Constant (.str v2) j6 q6, .Constant (.str v3) j7 q7, .Constant (.str v4) j8 q8] dp) Φ := .mk fun {Z} σ H Q en w k => by
  refine eOf (pe_disp (pps_cons pe_str pe_str (pps_cons pe_str pe_str (pps_cons pe_str pe_str (pps_cons pe_str pe_str pps_nil)))) rfl rfl (by simp) (by simp)) ?_
  intro t ht
  refine ⟨upd_same, [(.inr k1, .str v1), (.inr k2, .str v2), (.inr k3, .str v3), (.inr k4, .str v4)], rfl, by simp, ?_⟩
  have e2 : upd (upd H t (.dK [])) t (.dK (mergeK [] [(.inr k1, .str v1), (.inr k2, .str v2), (.inr k3, .str v3), (.inr k4, .str v4)])) = upd H t (.dK [(.inr k1, .str v1), (.inr k2, .str v2), (.inr k3, .str v3), (.inr k4, .str v4)]) := by
    have : mergeK [] [((.inr k1 : Key), V.str v1), (.inr k2, .str v2), (.inr k3, .str v3), (.inr k4, .str v4)] = [(.inr k1, .str v1), (.inr k2, .str v2), (.inr k3, .str v3), (.inr k4, .str v4)] := by
      simp [mergeK, putK, h12, h13, h14, h23, h24, h34]
    rw [this]
    funext b; unfold upd; split <;> rfl
  rw [e2]
  exact k.new w ht (.dK upd_same (w.fresh ht) (.cons (.str _) (.cons (.str _) (.cons (.str _) (.cons (.str _) .nil))))) h
/-- d.get(k, x), d a dict that is changed no more -/
theorem we_dKgetX (hu : X.A.units + 1 < cLine) (h : WE X ρ M o fun x M1 => ∃ kvs, x = .dK kvs ∧ WE X ρ M1 e fun y M2 => WE X ρ M2 f fun z M3 => ∃ k, y = .str k ∧ Φ ((valK kvs (.inr k)).getD z) M3)
    (m : M2 X o "get" apos e f pos := by exact ⟨rfl, rfl, rfl, rfl⟩) : WE X ρ M (.Call (.Attribute o "get" apos) [e, f] [] pos) Φ := .mk fun {Z} σ H Q en w k =>
  eOf (pe_dget2 hu pe_sem pe_sem pe_sem m) (h.run σ H _ en w fun v x H1 M1 e1 w1 r1 hz => by
    obtain ⟨kvs, rfl, hz⟩ := hz
    cases r1 with
    | dK hH0 m0 rs0 =>
      refine ⟨_, rfl, .inl ⟨_, .inl hH0⟩, hz.run σ H1 _ (en.mono e1) w1 fun u y H2 M2 e2 w2 r2 hz => hz.run σ H2 _ (en.mono (e1.trans e2)) w2 fun t z H3 M3 e3 w3 r3 hz3 => ?_⟩
      obtain ⟨kk, rfl, hz3⟩ := hz3
      have x13 := e2.trans e3
      have hH := (x13.1 _ _ hH0 m0).1
      have rs := rs0.mono x13
      cases r2
      refine ⟨_, .inl ⟨_, .inr kk, .inl hH, rfl, rfl⟩, ?_⟩
      have ks := k.step ((e1.trans e2).trans e3)
      cases hv : valK kvs (.inr kk) with
      | some d =>
        obtain ⟨v, h1, rv⟩ := rs.val hv
        rw [hv] at hz3
        rw [h1]
        exact ks.now w3 rv hz3
      | none =>
        rw [hv] at hz3
        have e0 : valV _ (Sum.inr kk) = none := rs.valN hv
        rw [e0]
        exact ks.now w3 r3 hz3)
/-- how long a shown text is -/
theorem sh_str {x : Str} {n : Nat} (h : ∀ c ∈ x.cps.toList, c < 0x110000) (hl : x.length ≤ n) : ShD (.str x) (10 * n + 2) := by
  refine ⟨by simp only [PyData.showable], ?_⟩
  simp only [PyData.shown]
  have := StrLaws.reprText_len x fun c hc => Nat.lt_trans (h c hc) (by decide)
  omega
end
end DL
/-! DL23: max of a list of pairs of ints; zip of a list and a tuple; a list taken apart; `{}` that nobody fills; shown ints. -/
namespace DL
open PySem PySem.Spec PyProof.Rows L2
abbrev prP (q : Int × Int) : PyData := .tuple [.int q.1, .int q.2]
abbrev prD (q : Int × Int) : D := .tup [.int q.1, .int q.2]
theorem lt_pair (p q : Int × Int) : (PySem.W.dataLt (prP p) (prP q) = true → p.1 ≤ q.1) ∧ (PySem.W.dataLt (prP p) (prP q) = false → q.1 ≤ p.1) := by
  by_cases e : p.1 = q.1
  · exact ⟨fun _ => by omega, fun _ => by omega⟩
  · rw [PySem.W.dataLt_tuple, PySem.W.dataLt_all_no (by simp [PySem.W.alike]) (by simp [PyData.eqv, e]), PySem.W.dataLt_int]
    exact ⟨fun h => by have := of_decide_eq_true h; omega, fun h => by have := of_decide_eq_false h; omega⟩
theorem best_top (qs : List (Int × Int)) : ∀ k, k < qs.length → ∃ q, qs[argBest (fun i j => PySem.W.dataLt ((qs.map prP).getD j .none) ((qs.map prP).getD i .none)) k]? = some q ∧ ∀ j r, j ≤ k → qs[j]? = some r → r.1 ≤ q.1
  | 0, h => ⟨qs[0], List.getElem?_eq_getElem h, fun j r hj hr => by
      rw [show j = 0 by omega, List.getElem?_eq_getElem h] at hr
      cases hr; exact Int.le_refl _⟩
  | k + 1, h => by
    obtain ⟨q, hq, hm⟩ := best_top qs k (by omega)
    have hk : qs[k + 1]? = some qs[k + 1] := List.getElem?_eq_getElem h
    have g1 : (qs.map prP).getD (k + 1) .none = prP qs[k + 1] := by rw [List.getD_eq_getElem?_getD, List.getElem?_map, hk]; rfl
    have g2 : (qs.map prP).getD (argBest (fun i j => PySem.W.dataLt ((qs.map prP).getD j .none) ((qs.map prP).getD i .none)) k) .none = prP q := by rw [List.getD_eq_getElem?_getD, List.getElem?_map, hq]; rfl
    rw [argBest]
    show ∃ q', qs[if PySem.W.dataLt ((qs.map prP).getD _ .none) ((qs.map prP).getD (k + 1) .none) = true then _ else _]? = _ ∧ _
    rw [g1, g2]
    obtain ⟨l1, l2⟩ := lt_pair q qs[k + 1]
    cases hb : PySem.W.dataLt (prP q) (prP qs[k + 1]) with
    | true =>
      rw [if_pos rfl]
      refine ⟨qs[k + 1], hk, fun j r hj hr => ?_⟩
      rcases Nat.lt_or_ge j (k + 1) with z | z
      · exact Int.le_trans (hm j r (by omega) hr) (l1 hb)
      · rw [show j = k + 1 by omega, hk] at hr
        cases hr; exact Int.le_refl _
    | false =>
      rw [if_neg (by simp)]
      refine ⟨q, hq, fun j r hj hr => ?_⟩
      rcases Nat.lt_or_ge j (k + 1) with z | z
      · exact hm j r (by omega) hr
      · rw [show j = k + 1 by omega, hk] at hr
        cases hr; exact l2 hb
def rMaxP (K : PySem.W.Frag) : List V → Hp → VK → Prop := fun vs H Q => ∃ (a : Addr) (us : List V) (qs : List (Int × Int)), vs = [V.ref a] ∧ SqL K H a us ∧ DpAll K H us (qs.map prP) ∧ qs ≠ [] ∧ ∀ (i : Nat) (u : V) (q : Int × Int), us[i]? = some u → qs[i]? = some q → (∀ r ∈ qs, r.1 ≤ q.1) → Q u H
theorem depth_pairs : ∀ qs : List (Int × Int), PyData.depthAll (qs.map prP) ≤ 1
  | [] => by simp [PyData.depthAll]
  | q :: qs => by
    have := depth_pairs qs
    simp only [List.map_cons, PyData.depthAll, PyData.depth]
    omega
section
variable {X : Cx} {ρ : Rho} {M : Mp} {Φ : D → Mp → Prop} {Θ : Bool → Mp → Prop} {a b e o : Expr} {es : List Expr} {pos p apos : Pos}
theorem cr_maxP (hc : X.calm = true) (hu : X.A.units + 64 < cLine) : CallR X (.builtin "max") (rMaxP X.K) := by
  intro pins s σ H vs us Q I r h
  obtain ⟨l, ws, qs, rfl, hq, hd, hne, q⟩ := h
  rw [Vals.ref1 r]
  obtain ⟨its, rv, pl, hz⟩ := I.list hq
  obtain ⟨as, hr⟩ := Dp.readsAll I (qs.map prP) ws its hd rv
  have hlen : its.toArray.size = qs.length := by
    have e := PySem.W.readsAll_len (vs := its.toArray) (by simpa using hr)
    rw [List.length_map] at e; exact e
  have h0 : 0 < qs.length := List.length_pos_iff.mpr hne
  have hh := I.ok.hd hc
  refine PySem.call_max_walkH (PySem.W.iter_listW (A := X.A.in1) hh pl.isList fun s2 e W st hfp hw hk => ?_)
  refine ⟨_, _, _, _, _, _, _, s.heap, _, rfl, W, st, hfp, by omega, hw, hk, PySem.W.cmpIn_gt (A := X.A.in1) (vs := its.toArray) (xs := qs.map prP) (as := as) (by simpa using hr) ⟨fun x hx y hy => ?_, fun x hx => ?_⟩ ?_, fun v s' hP m => ?_⟩
  · obtain ⟨x', _, rfl⟩ := List.mem_map.mp hx
    obtain ⟨y', _, rfl⟩ := List.mem_map.mp hy
    simp [PySem.W.alike, PySem.W.alikeAll]
  · obtain ⟨x', _, rfl⟩ := List.mem_map.mp hx
    simp
  · have := depth_pairs qs
    show X.A.units + 1 + _ < _
    omega
  · obtain ⟨h', tk, rfl, hk'⟩ := PySem.W.moved_old e rfl m
    obtain ⟨qq, hqq, htop⟩ := best_top qs (its.toArray.size - 1) (by omega)
    have hv : its[argBest (fun i j => PySem.W.dataLt ((qs.map prP).getD j .none) ((qs.map prP).getD i .none)) (its.toArray.size - 1)]? = some v := by simpa using hP
    have hi := (List.getElem?_eq_some_iff.mp hv).1
    rw [← rv.length] at hi
    have hu1 := List.getElem?_eq_getElem hi
    obtain ⟨v', hv', hu2⟩ := rv.get hu1
    rw [hv] at hv'
    cases hv'
    exact ⟨_, H, I.kept hk', hu2, q _ _ qq hu1 hqq fun r hr => by
      obtain ⟨j, hj, rfl⟩ := List.getElem_of_mem hr
      exact htop j _ (by omega) (List.getElem?_eq_getElem hj)⟩
theorem we_maxP (hm : X.mg "max" = none) (hu : X.A.units + 64 < cLine) (h : WE X ρ M e fun d M1 => ∃ qs : List (Int × Int), LstOf M1 d (qs.map prD) ∧ qs ≠ [] ∧ ∀ q ∈ qs, (∀ r ∈ qs, r.1 ≤ q.1) → Φ (prD q) M1) (hc : X.calm = true := by rfl) (hg : Gl X "max" := by rfl)
    (he : starEach [e] X.env = (false, eval e X.env) :: starEach [] X.env := by rfl) (hpl : (backTo pos (starEach [] X.env)).any (·.1) = false := by rfl) : WE X ρ M (.Call (.Name "max" p) [e] [] pos) Φ :=
  we_callB (cr_maxP hc hu) hm (by decide +kernel) (wa_cons (h.imp fun d M1 hz => wa_nil fun Z vs H Q w rr k => by
    obtain ⟨qs, hl, h0, hz⟩ := hz
    cases rr with
    | cons r1 r2 =>
      cases r2
      obtain ⟨q, us, rfl, hq, rs⟩ := r1.asLst w hl
      have hp : toPys (qs.map prD) = some (qs.map prP) := (cmps_map (f := prD) (g := prP) (k := 1) (Nat.le_refl _) fun x _ => cmp_tup (cmps_cons (cmp_int _) (Nat.le_refl _) (cmps_cons (cmp_int _) (Nat.le_refl _) cmps_nil))).eq
      refine ⟨q, us, qs, rfl, hq, rs.dp hp, h0, fun i u x hu hx ht => ?_⟩
      obtain ⟨u', e1, ru⟩ := rs.get (show (qs.map prD)[i]? = some (prD x) by rw [List.getElem?_map, hx]; rfl)
      rw [hu] at e1; cases e1
      exact k.now w ru (hz x (List.mem_of_getElem? hx) ht)) he) hg (he := he) (hpl := hpl)
/-! ### a list taken apart, `{}` -/
theorem wg_unl {d : D} {ds : List D} {k1 n : Nat} {Ω : Rho → Mp → Prop} (h : d = .lst ds ∧ ds.length = n ∧ WGs X es ds ρ M Ω) (hc : X.calm = true := by rfl) (hn : (assignEach es X.env).length = n := by rfl) (hst : (assignEach es X.env).findIdx? (·.1) = none := by rfl) : WG X (.Tuple es k1 pos) d ρ M Ω := .mk fun {Z} σ H v Q en w r k => by
  obtain ⟨rfl, hl, h⟩ := h
  obtain ⟨a, vs, rfl, hq, rs⟩ := r.asLst (ds := ds) w rfl
  exact gOf (L2.pg_unl hc pgs_sem hn hst) ⟨a, vs, rfl, hq, by rw [rs.length]; exact hl, h.run σ H vs Q en w rs k⟩
theorem we_dict0 (h : Φ (.dK []) M) : WE X ρ M (.Dict [] [] pos) Φ := .mk fun σ H Q en w k => eOf pe_dnewK fun p hp => k.new w hp (.dK upd_same (w.fresh hp) .nil) h
end
theorem sh_int {i : Int} (h : i.natAbs < 10 ^ 40) : (PyData.int i).showable = true ∧ (PyData.int i).shown.length ≤ sizeLine := by
  refine ⟨?_, ?_⟩
  · simp only [PyData.showable, decide_eq_true_eq]
    have : i.natAbs < 2 ^ 140 := Nat.lt_trans h (by decide)
    by_cases h0 : i.natAbs = 0
    · rw [h0]; decide
    · have := (Nat.log2_lt h0).mpr this; omega
  · have e := int_text_length_le10 (k := 40) (by decide) h
    show (Str.ofString (toString i)).length ≤ sizeLine
    rw [PySem.ofString_length, sizeLine_eq]; omega
end DL
/-! OA1: values of any kind. -/
namespace W
open PySem PySem.Spec PyProof.Rows L2 DL SX PL SlX
theorem stG_of {x : Str} (h1 : x.cps.toList.all (fun c => decide (c < 0x110000)) = true) (h2 : (PyData.str x).showable = true) (h3 : (PyData.str x).shown.length ≤ 41) : StG x := ⟨fun c hc => of_decide_eq_true (List.all_eq_true.mp h1 c hc), h2, h3⟩
theorem int_G (n : Nat) (h : n < 10 ^ 40) : AvG (.int (n : Int)) := .inl ⟨n, rfl, h⟩
theorem avD_tup (l : List AV) : avD (.tup l) = .tup (l.map avD) := by rw [avD, avsD_map]
theorem avD_lst (l : List AV) : avD (.lst l) = .lst (l.map avD) := by rw [avD, avsD_map]
section
variable {P : Program} {w : World} {K : PySem.W.Frag} {mg : Str → Option Value} {base : Heap} {C U : Addr}
def odds1 : List AV := [.non, .bl true, .bl false, .int 0, .int 1, .int (-1), .int (10 ^ 8), .str "", .str "a", .str "0", .tup [], .lst [], .dic, .tup [.int 0], .tup [.tup []], .lst [.int 0], .tup [.int 1, .int 2], .str "1", .str "(1 + 1)"]
def odds2 : List AV := [.tup [.str "x", .str "rows"], .str "circle", .str "one", .dct "x" "people" 1, .str "[2 1]"]
def odds : List AV := odds1 ++ odds2
theorem odds_rp : ∀ v ∈ odds, RpD v := by
  have s0 : StG "" := stG_of (by decide +kernel) (by decide +kernel) (by decide +kernel)
  have s1 : StG "a" := stG_of (by decide +kernel) (by decide +kernel) (by decide +kernel)
  have s2 : StG "0" := stG_of (by decide +kernel) (by decide +kernel) (by decide +kernel)
  have s3 : StG "1" := stG_of (by decide +kernel) (by decide +kernel) (by decide +kernel)
  have s4 : StG "(1 + 1)" := stG_of (by decide +kernel) (by decide +kernel) (by decide +kernel)
  have s5 : StG "x" := stG_of (by decide +kernel) (by decide +kernel) (by decide +kernel)
  have s6 : StG "rows" := stG_of (by decide +kernel) (by decide +kernel) (by decide +kernel)
  have s7 : StG "circle" := stG_of (by decide +kernel) (by decide +kernel) (by decide +kernel)
  have s8 : StG "one" := stG_of (by decide +kernel) (by decide +kernel) (by decide +kernel)
  have s9 : StG "[2 1]" := stG_of (by decide +kernel) (by decide +kernel) (by decide +kernel)
  have i0 : AvG (.int 0) := int_G 0 (by decide)
  have i1 : AvG (.int 1) := int_G 1 (by decide)
  have i2 : AvG (.int (-1)) := .inr rfl
  have i3 : AvG (.int (10 ^ 8)) := int_G (10 ^ 8) (by decide)
  have i4 : AvG (.int 2) := int_G 2 (by decide)
  have q : ∀ v, AvG v → avDp v ≤ 60 → avLn v ≤ 1000 → RpD v := fun v h1 h2 h3 => rp_of h1 h2 (by rw [sizeLine_eq]; omega)
  intro v hv
  simp only [odds, odds1, odds2, List.mem_append, List.mem_cons, List.not_mem_nil, or_false] at hv
  rcases hv with (rfl | rfl | rfl | rfl | rfl | rfl | rfl | rfl | rfl | rfl | rfl | rfl | rfl | rfl | rfl | rfl | rfl | rfl | rfl) | (rfl | rfl | rfl | rfl | rfl)
  · refine q _ ?_ (by decide) (by decide)
    simp only [AvG, AvsG, and_true]
    all_goals first | exact trivial | assumption | exact .inr trivial | exact ⟨by assumption, by assumption⟩ | exact .inr rfl
  · refine q _ ?_ (by decide) (by decide)
    simp only [AvG, AvsG, and_true]
    all_goals first | exact trivial | assumption | exact .inr trivial | exact ⟨by assumption, by assumption⟩ | exact .inr rfl
  · refine q _ ?_ (by decide) (by decide)
    simp only [AvG, AvsG, and_true]
    all_goals first | exact trivial | assumption | exact .inr trivial | exact ⟨by assumption, by assumption⟩ | exact .inr rfl
  · refine q _ ?_ (by decide) (by decide)
    simp only [AvG, AvsG, and_true]
    all_goals first | exact trivial | assumption | exact .inr trivial | exact ⟨by assumption, by assumption⟩ | exact .inr rfl
  · refine q _ ?_ (by decide) (by decide)
    simp only [AvG, AvsG, and_true]
    all_goals first | exact trivial | assumption | exact .inr trivial | exact ⟨by assumption, by assumption⟩ | exact .inr rfl
  · refine q _ ?_ (by decide) (by decide)
    simp only [AvG, AvsG, and_true]
    all_goals first | exact trivial | assumption | exact .inr trivial | exact ⟨by assumption, by assumption⟩ | exact .inr rfl
  · refine q _ ?_ (by decide) (by decide)
    simp only [AvG, AvsG, and_true]
    all_goals first | exact trivial | assumption | exact .inr trivial | exact ⟨by assumption, by assumption⟩ | exact .inr rfl
  · refine q _ ?_ (by decide) (by decide)
    simp only [AvG, AvsG, and_true]
    all_goals first | exact trivial | assumption | exact .inr trivial | exact ⟨by assumption, by assumption⟩ | exact .inr rfl
  · refine q _ ?_ (by decide) (by decide)
    simp only [AvG, AvsG, and_true]
    all_goals first | exact trivial | assumption | exact .inr trivial | exact ⟨by assumption, by assumption⟩ | exact .inr rfl
  · refine q _ ?_ (by decide) (by decide)
    simp only [AvG, AvsG, and_true]
    all_goals first | exact trivial | assumption | exact .inr trivial | exact ⟨by assumption, by assumption⟩ | exact .inr rfl
  · refine q _ ?_ (by decide) (by decide)
    simp only [AvG, AvsG, and_true]
    all_goals first | exact trivial | assumption | exact .inr trivial | exact ⟨by assumption, by assumption⟩ | exact .inr rfl
  · refine q _ ?_ (by decide) (by decide)
    simp only [AvG, AvsG, and_true]
    all_goals first | exact trivial | assumption | exact .inr trivial | exact ⟨by assumption, by assumption⟩ | exact .inr rfl
  · exact .inr (.inl rfl)
  · refine q _ ?_ (by decide) (by decide)
    simp only [AvG, AvsG, and_true]
    all_goals first | exact trivial | assumption | exact .inr trivial | exact ⟨by assumption, by assumption⟩ | exact .inr rfl
  · refine q _ ?_ (by decide) (by decide)
    simp only [AvG, AvsG, and_true]
    all_goals first | exact trivial | assumption | exact .inr trivial | exact ⟨by assumption, by assumption⟩ | exact .inr rfl
  · refine q _ ?_ (by decide) (by decide)
    simp only [AvG, AvsG, and_true]
    all_goals first | exact trivial | assumption | exact .inr trivial | exact ⟨by assumption, by assumption⟩ | exact .inr rfl
  · refine q _ ?_ (by decide) (by decide)
    simp only [AvG, AvsG, and_true]
    all_goals first | exact trivial | assumption | exact .inr trivial | exact ⟨by assumption, by assumption⟩ | exact .inr rfl
  · refine q _ ?_ (by decide) (by decide)
    simp only [AvG, AvsG, and_true]
    all_goals first | exact trivial | assumption | exact .inr trivial | exact ⟨by assumption, by assumption⟩ | exact .inr rfl
  · refine q _ ?_ (by decide) (by decide)
    simp only [AvG, AvsG, and_true]
    all_goals first | exact trivial | assumption | exact .inr trivial | exact ⟨by assumption, by assumption⟩ | exact .inr rfl
  · refine q _ ?_ (by decide) (by decide)
    simp only [AvG, AvsG, and_true]
    all_goals first | exact trivial | assumption | exact .inr trivial | exact ⟨by assumption, by assumption⟩ | exact .inr rfl
  · refine q _ ?_ (by decide) (by decide)
    simp only [AvG, AvsG, and_true]
    all_goals first | exact trivial | assumption | exact .inr trivial | exact ⟨by assumption, by assumption⟩ | exact .inr rfl
  · refine q _ ?_ (by decide) (by decide)
    simp only [AvG, AvsG, and_true]
    all_goals first | exact trivial | assumption | exact .inr trivial | exact ⟨by assumption, by assumption⟩ | exact .inr rfl
  · exact .inr (.inr ⟨_, _, _, rfl, by decide +kernel, by decide +kernel, by decide +kernel⟩)
  · refine q _ ?_ (by decide) (by decide)
    simp only [AvG, AvsG, and_true]
    all_goals first | exact trivial | assumption | exact .inr trivial | exact ⟨by assumption, by assumption⟩ | exact .inr rfl
theorem odds_D : odds.map avD = [.non, .bl true, .bl false, .int 0, .int 1, .int (-1), .int (10 ^ 8), .str "", .str "a", .str "0", .tup [], .lst [], .dK [], .tup [.int 0], .tup [.tup []], .lst [.int 0], .tup [.int 1, .int 2], .str "1", .str "(1 + 1)"] ++ [.tup [.str "x", .str "rows"], .str "circle", .str "one", .dT [([.inr "x", .inr "people"], .int 1)], .str "[2 1]"] := by
  simp only [odds, odds1, odds2, List.map_append, List.map_cons, List.map_nil, avD, avsD]
def cOdd : Con := fun ds M Φ => ∃ p a c d, ds = [.ob p] ∧ M p = some (potL a c d) ∧ cOk c ∧ 0 ≤ d ∧ d < 100000 ∧ ∀ v a' d', v ∈ odds → d ≤ d' → d' ≤ d + 1 → Φ (avD v) (mset M p (potL a' c d'))
theorem ok_odd (F : Fx w K mg) (F1 : Fc P w K mg base "_law_of" [] 2 2 cOf) : BodyOk P w K mg base "_law_odd" s__law_odd ["_law_pot_here", "_law_some"] 1 2 cOdd := by
  intro f cdv A outer s H E hr ds M Φ hl hc
  obtain ⟨p, a, c, d, rfl, hM, co, d0, d1, hc⟩ := hc
  have nd : (["_law_pot_here", "_law_some"] : List Str).Nodup := by decide +kernel
  refine wss_cons (ws_set 1 nd (we_lst (wa_cons (we_non (wa_cons (we_bl (wa_cons (we_bl (wa_cons (we_int (wa_cons (we_int (wa_cons (we_negI (we_int ⟨1, rfl, wa_cons (we_powI (we_int (we_int ⟨_, _, rfl, rfl, ⟨by decide, by decide, by decide⟩, wa_cons (we_str (wa_cons (we_str (wa_cons (we_str (wa_cons (we_tup (wa_nil ⟨by decide, wa_cons (we_lst (wa_nil ⟨by decide, wa_cons (we_dict0 (wa_cons (we_tup (wa_cons (we_int (wa_nil ⟨by decide, wa_cons (we_tup (wa_cons (we_tup (wa_nil ⟨by decide, wa_nil ⟨by decide, wa_cons (we_lst (wa_cons (we_int (wa_nil ⟨by decide, wa_cons (we_tup (wa_cons (we_int (wa_cons (we_int (wa_nil ⟨by decide, wa_cons (we_str (wa_cons (we_str (wa_nil ⟨by decide, wss_cons (ws_ret (we_call F1 (hr.mono (by decide)) (wa_cons (we_var 0 rfl (wa_cons (we_addL (we_var 1 rfl (we_lst (wa_cons (we_tup (wa_cons (we_str (wa_cons (we_str (wa_nil ⟨by decide, wa_cons (we_str (wa_cons (we_str (wa_cons (we_dispT hr.units0 (we_tupK (wa_cons (we_str (wa_cons (we_str (wa_nil ⟨[.inr "x", .inr "people"], rfl, by decide, we_int ⟨_, rfl, wa_cons (we_str (wa_nil ⟨by decide, ⟨_, _, rfl, rfl, by decide, wa_nil ⟨rfl, p, _, a, c, d, rfl, by simp, by decide, hM, co, d0, d1, fun x a' d' hx k1 k2 => Lets.of ?_⟩⟩⟩))⟩⟩)))))))))))⟩)))))))))))))))⟩))))⟩))))))⟩))))⟩⟩))))⟩))))))⟩))⟩))))))))⟩)))⟩)))))))))))))))
  have hx : x ∈ odds.map avD := by rw [odds_D]; exact hx
  obtain ⟨v, hv, rfl⟩ := List.mem_map.mp hx
  exact hc v a' d' hv k1 k2
end
end W
/-! DL34: != of instances with an own ==. -/
namespace DL
open PySem PySem.Spec PyProof.Rows L2
section
variable {M : Model} {prog : Program} {w : World} {A : Around} {E : Value → Shared → Prop} {s : Shared} {K : PySem.W.Frag} {x y f C : Addr} {ox : Obj} {od : Option Obj}
theorem ifBound_objNe {args : List Value} {Q : Option Value → Shared → Prop} (X : K.In s.heap) (I : PySem.W.InstAt s.heap x ox C od) (hs : PySem.W.findIn K (.ref C) "__ne__" = some (some (.builtin "object.__ne__")))
    (h : wpAny M A (call (.builtin "object.__ne__") (.ref x :: args)) (fun v => Q (some v)) E s) : wpAny M A (callSpecialIfBound? (.ref x) "__ne__" args) Q E s := by
  simp only [callSpecialIfBound?, bindSpecialIfBound?]
  refine wpAny_holding (wpAny_bind (wpAny_bind (wpAny_bind (I.type.here ((PySem.W.looks_findIn X hs).here ?_)))))
  refine wpAny_bind (wpAny_askSetting (wpAny_ite ?_))
  have fin : wpAny M A (call (.builtin "object.__ne__") ([.ref x] ++ args) >>= fun v => pure (some v)) Q E s := wpAny_bind (wpAny_mono h (fun v s' h' => wpAny_pure h') fun _ _ h' => h')
  split
  · exact wpAny_bind (wpAny_of_eq (F.cmp_object.ne.bind _) (wpAny_pure (by exact fin)))
  · exact wpAny_tryCatch (wpAny_bind (wpAny_of_eq (F.cmp_object.ne.bind _) (wpAny_pure (by exact fin))))
theorem entry_ownNe (X : K.In s.heap) (I : PySem.W.InstAt s.heap x ox C od) (hs : PySem.W.findIn K (.ref C) "__eq__" = some (some (.ref f))) (hf : PySem.W.isFn K (.ref f) = true) (hu : A.units < cLine) {Q : Fin → Shared → Prop}
    (hcall : wpAny (model prog w) A (call (.ref f) [.ref x, .ref y]) (fun v s' => ∃ b, v = .bool b ∧ Q (.done (.ret (.bool (!b)))) s') E s) :
    wpAny (model prog w) A (Builtin.«object.__ne__» ⟨[.ref x, .ref y], []⟩) Q E s := by
  unfold Builtin.«object.__ne__»
  repeat (first
    | with_reducible refine wpAny_cRoomFor hu ?_
    | (refine wpAny_bind (m := callSpecialIfBound? (.ref x) (Str.ofString "__eq__") [.ref y])
        (PySem.W.ifBound_K X I hs hf (wpAny_mono hcall (fun r s' hr => by
          obtain ⟨b, rfl, hq⟩ := hr
          repeat (first | exact hq | exact wpAny_pure hq | exact wpAny_truthy_bool hq | (refine wpAny_bind (m := truthy (.bool _)) (wpAny_truthy_bool ?_)) | wp_step)) fun _ _ e => e)))
    | wp_step)
theorem rc_ownNe {oy : Obj} {od2 : Option Obj} (X : K.In s.heap) (I : PySem.W.InstAt s.heap x ox C od) (J : PySem.W.InstAt s.heap y oy C od2) (hm : PySem.W.mroIn K C (.type "object") = some true) (hne : PySem.W.findIn K (.ref C) "__ne__" = some (some (.builtin "object.__ne__")))
    (hs : PySem.W.findIn K (.ref C) "__eq__" = some (some (.ref f))) (hf : PySem.W.isFn K (.ref f) = true) (hu : A.units < cLine) (hu1 : A.in1.units < cLine) {Q : Value → Shared → Prop}
    (hcall : wpAny (model prog w) A.in1 (call (.ref f) [.ref x, .ref y]) (fun v s' => ∃ b, v = .bool b ∧ Q (.bool (!b)) s') E s) :
    wpAny (model prog w) A (richCompare .NotEq (.ref x) (.ref y)) Q E s := by
  have one : wpAny (model prog w) A (tryCompare (.ref x) "__ne__" (.ref y)) (fun r s' => ∃ b, r = some (.bool b) ∧ Q (.bool b) s') E s := by
    unfold tryCompare
    refine wpAny_bind (ifBound_objNe X I hne (wpAny_call (codeAny_call_builtin F.cmp_object.ne.plain F.cmpEntry_ne (PySem.W.check_slot F.cmpKind_ne F.cmpSplit_ne (I.type.andThen (PySem.W.looks_mroIn X hm)) (F.cmpArgs_ne _ _)
      (entry_ownNe X I hs hf hu1 (wpAny_mono hcall (fun v s' hv => ?_) fun _ _ e => e))))))
    obtain ⟨b, rfl, hq⟩ := hv
    exact ⟨b, rfl, wpAny_pure ⟨_, rfl, hq⟩⟩
  unfold richCompare
  simp only [oneThing_ref]
  refine wpAny_holding (wpAny_bind (wpAny_cRoomFor hu ?_))
  refine wpAny_bind (I.type.here (wpAny_bind (J.type.here ?_)))
  split
  · rename_i q
    simp at q
  · refine wpAny_bind (wpAny_pure ?_)
    simp only [Bool.false_eq_true, if_false]
    refine wpAny_bind (wpAny_mono one (fun r s' z => ?_) fun _ _ e => e)
    obtain ⟨b, rfl, hq⟩ := z
    exact wpAny_pure hq
end
section
variable {X : Cx} {ρ : Rho} {M : Mp} {Φ : D → Mp → Prop} {Θ : Bool → Mp → Prop} {a b : Expr} {pos : Pos} {C : Addr} {k : Nat} {c : Con}
def rNeO (X : Cx) (C : Addr) (c : Con) : R2 := fun v u H Q => ∃ p q dx dy fs gs, v = V.ref p ∧ u = V.ref q ∧ H p = some (.ins C dx fs) ∧ H q = some (.ins C dy gs) ∧ spD X.K 2 c [v, u] H (fun z H' => ∃ b, z = .bl b ∧ Q (.bl (!b)) H') E0
theorem op_neO (F : Mc X.prog X.w X.K X.mg X.base C "__eq__" [] k 2 c) (hr : Room (k + 1) X.A) (hm : PySem.W.mroIn X.K C (.type "object") = some true) (hne : PySem.W.findIn X.K (.ref C) "__ne__" = some (some (.builtin "object.__ne__"))) : OpR X (compareOp .NotEq) (rNeO X C c) := by
  intro pins s σ H v u v' u' Q I rv ru hq
  obtain ⟨p, q, dx, dy, fs, gs, rfl, rfl, ha, hb, hq⟩ := hq
  cases rv
  cases ru
  obtain ⟨f, fd, ps, dvs, ds, F', hme, hbd, hd, hdd⟩ := F.ex
  obtain ⟨mA, J, _⟩ := ins_get I.hok ha
  obtain ⟨mB, J', _⟩ := ins_get I.hok hb
  obtain ⟨od, J, _⟩ := J.look
  obtain ⟨od', J', _⟩ := J'.look
  have sb : Sub X k X.A.in1 := (⟨hr, rfl⟩ : Sub X (k + 1) X.A).in1
  show wpAny _ _ (richCompare .NotEq (.ref p) (.ref q)) _ _ _
  refine rc_ownNe I.kIn J J' hm hne hme.at_ hme.fn hr.units0 sb.room.units0 ?_
  have e0 : Env0 X.prog X.w X.K X.mg X.base X.A.in1 X.stack s H := by
    have e := I.env0
    exact ⟨by rw [sb.fr]; exact e.frames, e.mod, e.bs, e.bsz, e.funs, e.frf, e.hok, e.bare⟩
  have hl := F'.len _ _ _ _ hq
  have r2 : Vals [V.ref p, V.ref q] [Value.ref p, Value.ref q] := .cons rfl (.cons rfl .nil)
  have d0 : ds = [] := by
    have r0 : Reps X.K (fun _ => none) (fun _ => False) (fun _ => none) dvs [] := hdd _ _ _
    cases r0
    cases hd
    rfl
  subst d0
  refine wpAny_call (codeAny_mono (F'.run X.A.in1 X.stack s H ⟨[.ref p, .ref q], []⟩ [.ref p, .ref q] [.ref p, .ref q] _ E0 sb.room e0 (by
    have := hbd s [.ref p, .ref q] I.kIn (by simpa using hl)
    simpa using this) r2 hq) fun r s' hq => ?_)
  cases r with
  | error e => exact (pass0 pins σ H s e s' I hq)
  | ok fl =>
    cases fl with
    | ret w =>
      obtain ⟨z, H', I', rz, bb, ez, qz⟩ := I.after hq
      subst ez
      cases rz
      exact ⟨bb, rfl, .bl (!bb), H', I', rfl, qz⟩
    | next => exact False.elim hq
    | brk => exact False.elim hq
    | cont => exact False.elim hq
theorem rd_neO {x y : D} (h : ∃ fs gs, InsOf M C x fs ∧ InsOf M C y gs ∧ c [x, y] M fun d M3 => ∃ b, d = .bl b ∧ Φ (.bl (!b)) M3) : RD X.K (rNeO X C c) x y M Φ := fun Z v u H Q w r1 r2 k => by
  obtain ⟨fs, gs, h1, h2, h⟩ := h
  obtain ⟨p, dx, vs, rfl, hp, _⟩ := r1.asIns w h1
  obtain ⟨q, dy, us, rfl, hq, _⟩ := r2.asIns w h2
  refine ⟨p, q, dx, dy, vs, us, rfl, rfl, hp, hq, [x, y], M, Z, _, rfl, .cons r1 (.cons r2 .nil), w, h, fun z d H' M' e w' r' hz => ?_⟩
  obtain ⟨b, rfl, hz⟩ := hz
  cases r'
  exact ⟨b, rfl, k _ _ H' M' e w' (.bl _) hz⟩
theorem wt_neO (F : Mc X.prog X.w X.K X.mg X.base C "__eq__" [] k 2 c) (hr : Room (k + 1) X.A) (hm : PySem.W.mroIn X.K C (.type "object") = some true) (hne : PySem.W.findIn X.K (.ref C) "__ne__" = some (some (.builtin "object.__ne__")))
    (h : WE X ρ M a fun x M1 => WE X ρ M1 b fun y M2 => ∃ fs gs, InsOf M2 C x fs ∧ InsOf M2 C y gs ∧ c [x, y] M2 fun d M3 => ∃ b, d = .bl b ∧ Θ (!b) M3) : WT X ρ M (.Compare a [.NotEq] [b] pos) Θ :=
  wt_cmp (op_neO F hr hm hne) (nomark _) (h.imp fun _ _ h => h.imp fun _ _ ⟨fs, gs, h1, h2, h⟩ => rd_neO ⟨fs, gs, h1, h2, by simpa using h⟩)
theorem we_neO (F : Mc X.prog X.w X.K X.mg X.base C "__eq__" [] k 2 c) (hr : Room (k + 1) X.A) (hm : PySem.W.mroIn X.K C (.type "object") = some true) (hne : PySem.W.findIn X.K (.ref C) "__ne__" = some (some (.builtin "object.__ne__")))
    (h : WE X ρ M a fun x M1 => WE X ρ M1 b fun y M2 => ∃ fs gs, InsOf M2 C x fs ∧ InsOf M2 C y gs ∧ c [x, y] M2 fun d M3 => ∃ b, d = .bl b ∧ Φ (.bl (!b)) M3) : WE X ρ M (.Compare a [.NotEq] [b] pos) Φ :=
  we_cmp (op_neO F hr hm hne) (nomark _) (h.imp fun _ _ h => h.imp fun _ _ h => rd_neO h)
end
end DL
/-! DL43: == of instances with an own ==; a text not in a tuple of texts. -/
namespace DL
open PySem PySem.Spec PyProof.Rows L2
section
variable {X : Cx} {ρ : Rho} {M : Mp} {Φ : D → Mp → Prop} {Θ : Bool → Mp → Prop} {a b : Expr} {pos : Pos} {C : Addr} {k : Nat} {c : Con}
def rEqO (X : Cx) (C : Addr) (c : Con) : R2 := fun v u H Q => ∃ p q dx dy fs gs, v = V.ref p ∧ u = V.ref q ∧ H p = some (.ins C dx fs) ∧ H q = some (.ins C dy gs) ∧ spD X.K 2 c [v, u] H (fun z H' => ∃ b, z = .bl b ∧ Q (.bl b) H') E0
theorem op_eqO (F : Mc X.prog X.w X.K X.mg X.base C "__eq__" [] k 2 c) (hr : Room k X.A) : OpR X (compareOp .Eq) (rEqO X C c) := by
  intro pins s σ H v u v' u' Q I rv ru hq
  obtain ⟨p, q, dx, dy, fs, gs, rfl, rfl, ha, hb, hq⟩ := hq
  cases rv
  cases ru
  obtain ⟨f, fd, ps, dvs, ds, F', hme, hbd, hd, hdd⟩ := F.ex
  obtain ⟨mA, J, _⟩ := ins_get I.hok ha
  obtain ⟨mB, J', _⟩ := ins_get I.hok hb
  obtain ⟨od, J, _⟩ := J.look
  obtain ⟨od', J', _⟩ := J'.look
  have sb : Sub X k X.A := ⟨hr, rfl⟩
  obtain ⟨m, hF⟩ := I.fr
  show wpAny _ _ (richCompare .Eq (.ref p) (.ref q)) _ _ _
  refine PySem.W.cmp_K (op := .Eq) (tb := .ref C) sb.room.units0 hF I.ok.mod.kin J J'.type (by simp [PySem.W.notFirst]) hme.at_ hme.fn ?_
  have e0 : Env0 X.prog X.w X.K X.mg X.base X.A X.stack s H := by
    have e := I.env0
    exact ⟨by rw [sb.fr]; exact e.frames, e.mod, e.bs, e.bsz, e.funs, e.frf, e.hok, e.bare⟩
  have hl := F'.len _ _ _ _ hq
  have r2 : Vals [V.ref p, V.ref q] [Value.ref p, Value.ref q] := .cons rfl (.cons rfl .nil)
  have d0 : ds = [] := by
    have r0 : Reps X.K (fun _ => none) (fun _ => False) (fun _ => none) dvs [] := hdd _ _ _
    cases r0
    cases hd
    rfl
  subst d0
  refine wpAny_call (codeAny_mono (F'.run X.A X.stack s H ⟨[.ref p, .ref q], []⟩ [.ref p, .ref q] [.ref p, .ref q] _ E0 sb.room e0 (by
    have := hbd s [.ref p, .ref q] I.kIn (by simpa using hl)
    simpa using this) r2 hq) fun r s' hq => ?_)
  cases r with
  | error e => exact (pass0 pins σ H s e s' I hq)
  | ok fl =>
    cases fl with
    | ret w =>
      obtain ⟨z, H', I', rz, bb, ez, qz⟩ := I.after hq
      subst ez
      cases rz
      exact ⟨.bl bb, H', I', rfl, qz⟩
    | next => exact False.elim hq
    | brk => exact False.elim hq
    | cont => exact False.elim hq
theorem rd_eqO {x y : D} (h : ∃ fs gs, InsOf M C x fs ∧ InsOf M C y gs ∧ c [x, y] M fun d M3 => ∃ b, d = .bl b ∧ Φ (.bl b) M3) : RD X.K (rEqO X C c) x y M Φ := fun Z v u H Q w r1 r2 k => by
  obtain ⟨fs, gs, h1, h2, h⟩ := h
  obtain ⟨p, dx, vs, rfl, hp, _⟩ := r1.asIns w h1
  obtain ⟨q, dy, us, rfl, hq, _⟩ := r2.asIns w h2
  refine ⟨p, q, dx, dy, vs, us, rfl, rfl, hp, hq, [x, y], M, Z, _, rfl, .cons r1 (.cons r2 .nil), w, h, fun z d H' M' e w' r' hz => ?_⟩
  obtain ⟨b, rfl, hz⟩ := hz
  cases r'
  exact ⟨b, rfl, k _ _ H' M' e w' (.bl _) hz⟩
theorem wt_eqO (F : Mc X.prog X.w X.K X.mg X.base C "__eq__" [] k 2 c) (hr : Room k X.A)
    (h : WE X ρ M a fun x M1 => WE X ρ M1 b fun y M2 => ∃ fs gs, InsOf M2 C x fs ∧ InsOf M2 C y gs ∧ c [x, y] M2 fun d M3 => ∃ b, d = .bl b ∧ Θ b M3) : WT X ρ M (.Compare a [.Eq] [b] pos) Θ :=
  wt_cmp (op_eqO F hr) (nomark _) (h.imp fun _ _ h => h.imp fun _ _ ⟨fs, gs, h1, h2, h⟩ => rd_eqO ⟨fs, gs, h1, h2, by simpa using h⟩)
theorem we_eqO (F : Mc X.prog X.w X.K X.mg X.base C "__eq__" [] k 2 c) (hr : Room k X.A)
    (h : WE X ρ M a fun x M1 => WE X ρ M1 b fun y M2 => ∃ fs gs, InsOf M2 C x fs ∧ InsOf M2 C y gs ∧ c [x, y] M2 fun d M3 => ∃ b, d = .bl b ∧ Φ (.bl b) M3) : WE X ρ M (.Compare a [.Eq] [b] pos) Φ :=
  we_cmp (op_eqO F hr) (nomark _) (h.imp fun _ _ h => h.imp fun _ _ h => rd_eqO h)
end
end DL
/-! DL47: == of an instance with an own ==, against a value of any kind. -/
namespace DL
open PySem PySem.Spec PyProof.Rows L2
section
variable {X : Cx} {ρ : Rho} {M : Mp} {Φ : D → Mp → Prop} {Θ : Bool → Mp → Prop} {a b : Expr} {pos : Pos} {C : Addr} {k : Nat} {c : Con}
def rEqV (X : Cx) (C : Addr) (c : Con) : R2 := fun v u H Q => ∃ p dx fs T, v = V.ref p ∧ H p = some (.ins C dx fs) ∧ TyX X.K H u (.type T) ∧ PySem.W.subIn X.K (.type T) (.ref C) = some false ∧ spD X.K 2 c [v, u] H (fun z H' => ∃ b, z = .bl b ∧ Q (.bl b) H') E0
theorem op_eqV (F : Mc X.prog X.w X.K X.mg X.base C "__eq__" [] k 2 c) (hr : Room k X.A) : OpR X (compareOp .Eq) (rEqV X C c) := by
  intro pins s σ H v u v' u' Q I rv ru hq
  obtain ⟨p, dx, fs, T, rfl, ha, hty, hsb, hq⟩ := hq
  cases rv
  obtain ⟨f, fd, ps, dvs, ds, F', hme, hbd, hd, hdd⟩ := F.ex
  obtain ⟨mA, J, _⟩ := ins_get I.hok ha
  obtain ⟨od, J, _⟩ := J.look
  obtain ⟨PH, kx, hph, _⟩ := kit_of I ru hty
  have sb : Sub X k X.A := ⟨hr, rfl⟩
  obtain ⟨m, hF⟩ := I.fr
  show wpAny _ _ (richCompare .Eq (.ref p) u') _ _ _
  refine PySem.W.cmp_K (op := .Eq) (tb := .type T) sb.room.units0 hF I.ok.mod.kin J (kx.ty _ _ I.kIn hph) (by unfold PySem.W.notFirst; rw [hsb]; simp) hme.at_ hme.fn ?_
  have e0 : Env0 X.prog X.w X.K X.mg X.base X.A X.stack s H := by
    have e := I.env0
    exact ⟨by rw [sb.fr]; exact e.frames, e.mod, e.bs, e.bsz, e.funs, e.frf, e.hok, e.bare⟩
  have hl := F'.len _ _ _ _ hq
  have r2 : Vals [V.ref p, u] [Value.ref p, u'] := .cons rfl (.cons ru .nil)
  have d0 : ds = [] := by
    have r0 : Reps X.K (fun _ => none) (fun _ => False) (fun _ => none) dvs [] := hdd _ _ _
    cases r0
    cases hd
    rfl
  subst d0
  refine wpAny_call (codeAny_mono (F'.run X.A X.stack s H ⟨[.ref p, u'], []⟩ [.ref p, u'] [.ref p, u] _ E0 sb.room e0 (by
    have := hbd s [.ref p, u'] I.kIn (by simpa using hl)
    simpa using this) r2 hq) fun r s' hq => ?_)
  cases r with
  | error e => exact (pass0 pins σ H s e s' I hq)
  | ok fl =>
    cases fl with
    | ret w =>
      obtain ⟨z, H', I', rz, bb, ez, qz⟩ := I.after hq
      subst ez
      cases rz
      exact ⟨.bl bb, H', I', rfl, qz⟩
    | next => exact False.elim hq
    | brk => exact False.elim hq
    | cont => exact False.elim hq
theorem rd_eqV {x y : D} (h : ∃ fs T, InsOf M C x fs ∧ TyD M y (.type T) ∧ PySem.W.subIn X.K (.type T) (.ref C) = some false ∧ c [x, y] M fun d M3 => ∃ b, d = .bl b ∧ Φ (.bl b) M3) : RD X.K (rEqV X C c) x y M Φ := fun Z v u H Q w r1 r2 k => by
  obtain ⟨fs, T, h1, h2, h3, h⟩ := h
  obtain ⟨p, dx, vs, rfl, hp, _⟩ := r1.asIns w h1
  refine ⟨p, dx, vs, T, rfl, hp, h2.rep r2 (by intro C h; cases h), h3, [x, y], M, Z, _, rfl, .cons r1 (.cons r2 .nil), w, h, fun z d H' M' e w' r' hz => ?_⟩
  obtain ⟨b, rfl, hz⟩ := hz
  cases r'
  exact ⟨b, rfl, k _ _ H' M' e w' (.bl _) hz⟩
theorem wt_eqV (F : Mc X.prog X.w X.K X.mg X.base C "__eq__" [] k 2 c) (hr : Room k X.A)
    (h : WE X ρ M a fun x M1 => WE X ρ M1 b fun y M2 => ∃ fs T, InsOf M2 C x fs ∧ TyD M2 y (.type T) ∧ PySem.W.subIn X.K (.type T) (.ref C) = some false ∧ c [x, y] M2 fun d M3 => ∃ b, d = .bl b ∧ Θ b M3) : WT X ρ M (.Compare a [.Eq] [b] pos) Θ :=
  wt_cmp (op_eqV F hr) (nomark _) (h.imp fun _ _ h => h.imp fun _ _ ⟨fs, T, h1, h2, h3, h⟩ => rd_eqV ⟨fs, T, h1, h2, h3, by simpa using h⟩)
theorem we_eqV (F : Mc X.prog X.w X.K X.mg X.base C "__eq__" [] k 2 c) (hr : Room k X.A)
    (h : WE X ρ M a fun x M1 => WE X ρ M1 b fun y M2 => ∃ fs T, InsOf M2 C x fs ∧ TyD M2 y (.type T) ∧ PySem.W.subIn X.K (.type T) (.ref C) = some false ∧ c [x, y] M2 fun d M3 => ∃ b, d = .bl b ∧ Φ (.bl b) M3) : WE X ρ M (.Compare a [.Eq] [b] pos) Φ :=
  we_cmp (op_eqV F hr) (nomark _) (h.imp fun _ _ h => h.imp fun _ _ h => rd_eqV h)
end
/-- a built-in kind is no own class -/
theorem sub_av {K : PySem.W.Frag} {C : Addr} (v : AV) : PySem.W.subIn K (.type (avT v)) (.ref C) = some false := by cases v <;> rfl
end DL
/-! GT11: _law_is_judged walked. -/
namespace W
open PySem PySem.Spec PyProof.Rows L2 DL SX PL SlX
/-- a value as the law judges it: no text, or a text of bounded length and depth -/
def Jd (v : AV) : Prop := RpD v ∧ ((∀ z, v ≠ .str z) ∨ ∃ l, v = .str (S l) ∧ l.length ≤ 600 ∧ opns l ≤ 36)
theorem jd_text {l : List Nat} (hl : l.length ≤ 600) (ha : ∀ c ∈ l, c < 128) (ho : opns l ≤ 36) : Jd (.str (S l)) := by
  refine ⟨.inl ⟨0, ?_, by decide, ?_, ?_⟩, .inr ⟨l, rfl, hl, ho⟩⟩
  · rw [avD, avP]
    exact cmp_str fun c hc => Nat.lt_trans (ha c hc) (by decide)
  · rw [avP]; simp only [PyData.showable]
  · rw [avP]
    have q := (sh_str (x := S l) (n := 600) (fun c hc => Nat.lt_trans (ha c hc) (by decide)) (by rw [S_len]; exact hl)).2
    rw [sizeLine_eq]; omega
theorem lv_short {t : T} (g : Good t) : (lv t).length ≤ (txt t).length + 1 := by
  rw [← fw_txt t g, List.length_map]
  exact Nat.le_trans (List.length_filter_le _ _) (sp_len [] _)
section
variable {P : Program} {w : World} {K : PySem.W.Frag} {mg : Str → Option Value} {base : Heap} {C U B : Addr}
def qJud : Str := "_law_is_judged.<locals>.<lambda>"
def cJud (T1 : Addr) : Con := fun ds M Φ => ∃ v, ds = [avD v] ∧ Jd v ∧ M T1 = some (.tbl qJud) ∧ Φ (.bl true) M
abbrev nJud : List Str := ["_law_value", "_law_caught", "_law_plan"]
theorem ans_sg : FnScope ["_law_look", "_law_caught", "_law_reply", "error"] ["_law_look"] (defScope s__law_answer) := ⟨rfl, rfl, rfl, by decide +kernel, rfl, by decide +kernel, by decide +kernel⟩
theorem ok_judged {T1 cd : Addr} (F : Fx w K mg) (gR : mg "repr" = none) (TB : LamX.TabB base mg cd T1) (gB : mg "CrowdError" = some (.ref B)) (E : Ek P K mg B "BadPlan" U) (Tc : Ct K mg "_law_answer" s__law_answer "_law_look")
    (F1 : Fc P w K mg base "_law_is_plan_text" [] 64 1 cIsP) (K1 : Kc P w K mg base "Plan" C [] 78 2 (cInitN C 36)) (KX : Kcx P w K mg base "Plan" C [] 102 2 (cInitB C U 36)) (F2 : Pc P w K mg base C "text" 1 (cGetN C fun t => tS (txt t))) :
    BodyC P w K mg base "_law_is_judged" s__law_is_judged nJud 1 110 cd (cJud T1) := by
  intro f A outer s H EX hgd hr ds M Φ hl hc
  obtain ⟨v, rfl, ⟨hrp, hk⟩, hT1, hc⟩ := hc
  have nd : nJud.Nodup := by decide +kernel
  have bad : Bad 36 (avD v) → (∀ Ψ : D → Mp → Prop, Ψ (.bl false) M → cIsP [avD v] M Ψ) → WSs (bx P w K mg base nJud "_law_is_judged" (defScope s__law_is_judged) f (.ref cd) A outer s H EX) (start nJud [avD v]) M (defBody s__law_is_judged) { nx := fun _ M' => Φ .non M', rt := Lets Φ } := fun hb hp => by
    refine wss_cons (ws_asg (we_ans (k := 104) Tc ans_sg (fun g cdg => gives_R gB) (hr.mono (by decide)) (we_lam TB rfl rfl hT1 rfl (hfree_of (by rfl)) ⟨_, _, _, rfl, LamX.lamS_by (by rfl), (by intros; rfl), fun f' c' A' outer' s' H0 E' hr2 => ?_⟩)))
    refine wex_make KX (hr2.mono (by decide)) (wa_cons (we_var 0 rfl (wa_nil fun b hb0 => ⟨rfl, b, avD v, rfl, hb, M, les_new hb0, E.ex, ?_⟩)))
    refine wg_tup ⟨rfl, rfl, wgs_cons (wg_name 1 (wgs_cons (wg_name 2 (wgs_nil ⟨rfl, ?_⟩) nd)) nd)⟩
    refine wss_cons (ws_if (wt_val (we_call F1 (hr.mono (by decide)) (wa_cons (we_var 0 rfl (wa_nil ⟨rfl, hp _ ⟨false, rfl, ?_⟩⟩))))))
    refine wss_nil (wss_cons (ws_ret (we_and (we_isX (F.bn _ (by decide +kernel)) (we_var 1 rfl (we_gref E.at_ (fun _ _ _ => .fn _) ⟨U, _, .ref U, true, rfl, rfl, E.ev, kit_self, true, rfl, ?_⟩))))))
    refine we_one (we_eqS (we_reprV gR hgd hr.units (we_valX (we_var 1 rfl ⟨U, _, avD v, rfl, E.ev, E.ev.noV, by simp [List.lookup], v, rfl, hrp, we_reprV gR hgd hr.units (we_var 0 rfl ⟨v, rfl, hrp, true, ?_, Lets.of hc⟩)⟩))))
    exact (decide_eq_true rfl).symm
  rcases hk with hv | ⟨l, rfl, hlen, hop⟩
  · exact bad (.any v hv) fun Ψ h => ⟨_, rfl, .inl ⟨v, hv, rfl, h⟩⟩
  have ed : avD (.str (S l)) = tS l := by rw [avD]
  by_cases hR : Rt l
  case neg =>
    have isp : ∀ Ψ : D → Mp → Prop, Ψ (.bl false) M → cIsP [avD (.str (S l))] M Ψ := fun Ψ h => ⟨_, rfl, .inr ⟨l, ed, hlen, by omega, fun b hb => by
      cases b with
      | true => exact absurd (hb.mp rfl) hR
      | false => exact h⟩⟩
    by_cases hT : Tx l
    · obtain ⟨t, g, rfl⟩ := hT
      have ho := ht_opns t
      have lv1 := lv_short g
      exact bad (ed ▸ Bad.names t g hlen (by omega) (by omega) (by omega) (Nat.lt_of_not_le fun h3 => hR ⟨t, g, rfl, h3⟩)) isp
    · exact bad (ed ▸ Bad.text l hlen hT) isp
  obtain ⟨t, g, rfl, h3⟩ := id hR
  have ho := ht_opns t
  have lv1 := lv_short g
  refine wss_cons (ws_asg (we_ans (k := 104) Tc ans_sg (fun g cdg => gives_R gB) (hr.mono (by decide)) (we_lam TB rfl rfl hT1 rfl (hfree_of (by rfl)) ⟨_, _, _, rfl, LamX.lamS_by (by rfl), (by intros; rfl), fun f' c' A' outer' s' H0 E' hr2 => ?_⟩)))
  refine (we_plan_n K1 (hr2.mono (by decide)) (we_var 0 rfl ⟨t, ed, g, by omega, h3, by omega, by omega, by omega, ?_⟩)).up
  refine wg_tup ⟨rfl, rfl, wgs_cons (wg_name 1 (wgs_cons (wg_name 2 (wgs_nil ⟨rfl, ?_⟩) nd)) nd)⟩
  refine wss_cons (ws_if (wt_val (we_call F1 (hr.mono (by decide)) (wa_cons (we_var 0 rfl (wa_nil ⟨rfl, _, rfl, .inr ⟨txt t, ed, hlen, by omega, fun b hb => ⟨b, rfl, ?_⟩⟩⟩))))))
  rw [hb.mpr hR]
  refine wss_cons (ws_ret (we_and (we_isN (we_var 1 rfl ⟨true, rfl, ?_⟩))))
  refine we_one (we_eqS (we_prop F2 (hr.mono (by decide)) (we_var 2 rfl ⟨_, insM, t, rfl, we_var 0 rfl ⟨true, ?_, Lets.of hc⟩⟩)))
  rw [ed]
  exact (decide_eq_true rfl).symm
end
end W
/-! PM3: mirrors, people, who knows whom. -/
namespace PL
open PySem SX TL
def Ok (t : T) : Prop := Good t ∧ Told t ∧ (txt t).length ≤ 100000
theorem kids_Ok {t : T} {q : Nat × T} (hq : q ∈ kids t) (h : Ok t) : Ok q.2 := by
  obtain ⟨h1, h2, h3⟩ := h
  obtain ⟨g1, g2, g3, g4, g5⟩ := kids_ok hq h1
  exact ⟨g1, kids_told hq h2, by omega⟩
def cnt (t : T) : Nat := ((kids t).map (·.1)).sum
/-- the part with the number i (of copies: any) -/
def piece : T → Nat → Option T
  | .cop _ _ t, _ => some t
  | .row _ ts, i => ts[i]?
  | _, _ => none
theorem cnt_cop (s : Bool) (n : Nat) (t : T) : cnt (.cop s n t) = n := by simp [cnt, kids]
theorem ones_sum : ∀ ts : List T, ((ts.map fun t => (1, t)).map (fun q : Nat × T => q.1)).sum = ts.length
  | [] => rfl
  | t :: ts => by rw [List.map_cons, List.map_cons, List.sum_cons, ones_sum ts, List.length_cons]; show 1 + _ = _; omega
theorem cnt_row (s : Bool) (ts : List T) : cnt (.row s ts) = ts.length := by
  unfold cnt kids; exact ones_sum ts
theorem piece_some {t : T} {i : Nat} (h : i < cnt t) : ∃ u, piece t i = some u := by
  cases t with
  | one => simp [cnt, kids] at h
  | name x => simp [cnt, kids] at h
  | cop s n t => exact ⟨t, rfl⟩
  | row s ts => rw [cnt_row] at h; exact ⟨ts[i], List.getElem?_eq_getElem h⟩
theorem piece_mem {t u : T} {i : Nat} (h : piece t i = some u) : ∃ q ∈ kids t, q.2 = u := by
  cases t with
  | one => cases h
  | name x => cases h
  | cop s n v => exact ⟨(n, v), by simp [kids], Option.some.inj h⟩
  | row s ts => exact ⟨(1, u), by unfold kids; exact List.mem_map.mpr ⟨u, List.mem_of_getElem? h, rfl⟩, rfl⟩
theorem piece_Ok {t u : T} {i : Nat} (h : piece t i = some u) (ok : Ok t) : Ok u := by
  obtain ⟨q, hq, rfl⟩ := piece_mem h
  exact kids_Ok hq ok
/-- going down -/
def desc : T → List Nat → Option T
  | t, [] => some t
  | t, i :: p => if i < cnt t then (piece t i).bind fun u => desc u p else none
theorem desc_snoc : ∀ {t : T} {p : List Nat} {i : Nat}, desc t (p ++ [i]) = (desc t p).bind fun u => if i < cnt u then piece u i else none
  | t, [], i => by
    simp only [List.nil_append, desc, Option.bind_some]
    split
    · cases piece t i <;> rfl
    · rfl
  | t, j :: p, i => by
    simp only [List.cons_append, desc]
    split
    · cases h : piece t j with
      | none => rfl
      | some u => simp only [Option.bind_some]; exact desc_snoc
    · rfl
theorem desc_Ok : ∀ {t u : T} {p : List Nat}, desc t p = some u → Ok t → Ok u
  | t, u, [], h, ok => by cases h; exact ok
  | t, u, i :: p, h, ok => by
    simp only [desc] at h
    split at h
    · obtain ⟨v, h1, h2⟩ := Option.bind_eq_some_iff.mp h
      exact desc_Ok h2 (piece_Ok h1 ok)
    · cases h
theorem desc_none {t : T} {p q : List Nat} (h : desc t p = none) : desc t (p ++ q) = none := by
  induction p generalizing t with
  | nil => cases h
  | cons i p ih =>
    simp only [List.cons_append, desc] at h ⊢
    split
    · rename_i hc
      rw [if_pos hc] at h
      cases e : piece t i with
      | none => rfl
      | some u => rw [e] at h; simp only [Option.bind_some] at h ⊢; exact ih h
    · rfl
def isOneT : T → Bool
  | .one => true
  | _ => false
/-- is it a person of the plan -/
def isPers (t : T) (p : List Nat) : Bool := match desc t p with
  | some u => isOneT u
  | none => false
/-- whether the parts know one another -/
def intr : T → Bool
  | .cop s _ _ => s
  | .row s _ => s
  | _ => false
/-- whom do_know tells -/
def knowsB : T → List Nat → List Nat → Bool
  | t, i :: p, j :: q => if i = j then (match piece t i with | some u => knowsB u p q | none => false) else intr t
  | _, _, _ => false

/-! ### the mirror -/
def flip (c : Nat) : Nat := if c = 43 then 42 else if c = 42 then 43 else if c = 91 then 123 else if c = 123 then 91 else if c = 93 then 125 else if c = 125 then 93 else c
mutual
def mir : T → T
  | .one => .one
  | .name x => .name x
  | .cop s n t => .cop (!s) n (mir t)
  | .row s ts => .row (!s) (mirs ts)
def mirs : List T → List T
  | [] => []
  | t :: ts => mir t :: mirs ts
end
theorem mirs_map : ∀ ts : List T, mirs ts = ts.map mir
  | [] => rfl
  | t :: ts => by rw [mirs, mirs_map ts, List.map_cons]
theorem flip_id {c : Nat} (h : c ≠ 43 ∧ c ≠ 42 ∧ c ≠ 91 ∧ c ≠ 123 ∧ c ≠ 93 ∧ c ≠ 125) : flip c = c := by
  unfold flip
  obtain ⟨h1, h2, h3, h4, h5, h6⟩ := h
  rw [if_neg h1, if_neg h2, if_neg h3, if_neg h4, if_neg h5, if_neg h6]
theorem map_flip_id : ∀ {l : List Nat}, (∀ c ∈ l, c ≠ 43 ∧ c ≠ 42 ∧ c ≠ 91 ∧ c ≠ 123 ∧ c ≠ 93 ∧ c ≠ 125) → l.map flip = l
  | [], _ => rfl
  | c :: l, h => by rw [List.map_cons, flip_id (h c List.mem_cons_self), map_flip_id fun x hx => h x (List.mem_cons_of_mem _ hx)]
theorem flip_sep (s : Bool) : (sep s).map flip = sep (!s) := by cases s <;> rfl
theorem map_join (f : Nat → Nat) {S S' : List Nat} (hs : S.map f = S') : ∀ ps : List (List Nat), (joinL S ps).map f = joinL S' (ps.map (·.map f))
  | [] => rfl
  | [p] => by rw [joinL]; rfl
  | p :: q :: r => by
    rw [joinL, List.map_append, List.map_append, hs, map_join f hs (q :: r)]; rfl
mutual
theorem txt_mir : ∀ {t : T}, Good t → txt (mir t) = (txt t).map flip
  | .one, _ => by rw [mir, txt]; rfl
  | .name x, h => by
    rw [mir, txt]
    refine (map_flip_id fun c hc => ?_).symm
    have q := h.2.2 c hc
    simp [letter] at q
    omega
  | .cop s n t, h => by
    rw [mir, txt, txt, txt_mir h.2.2]
    have e : (numL n).map flip = numL n := map_flip_id fun c hc => by have := numL_digits n c hc; omega
    simp only [List.map_cons, List.map_append, e]
    cases s <;> rfl
  | .row s ts, h => by
    rw [mir, txt, txt, txts_mir h.2]
    simp only [List.map_cons, List.map_append, map_join flip (flip_sep s)]
    rfl
theorem txts_mir : ∀ {ts : List T}, Goods ts → txts (mirs ts) = (txts ts).map (·.map flip)
  | [], _ => by rw [mirs, txts]; rfl
  | t :: ts, h => by rw [mirs, txts, txts, txt_mir h.1, txts_mir h.2, List.map_cons]
end
mutual
theorem mir_good : ∀ {t : T}, Good t → Good (mir t)
  | .one, _ => by rw [mir]; trivial
  | .name x, h => by rw [mir]; exact h
  | .cop s n t, h => by rw [mir]; exact ⟨h.1, h.2.1, mir_good h.2.2⟩
  | .row s ts, h => by
    rw [mir]
    refine ⟨by rw [mirs_map, List.length_map]; exact h.1, mirs_good h.2⟩
theorem mirs_good : ∀ {ts : List T}, Goods ts → Goods (mirs ts)
  | [], _ => by rw [mirs]; trivial
  | t :: ts, h => by rw [mirs]; exact ⟨mir_good h.1, mirs_good h.2⟩
end
mutual
theorem mir_told : ∀ {t : T}, Told t → Told (mir t)
  | .one, _ => by rw [mir]; trivial
  | .name x, h => h.elim
  | .cop s n t, h => by rw [mir]; exact mir_told (t := t) h
  | .row s ts, h => by rw [mir]; exact mirs_told (ts := ts) h
theorem mirs_told : ∀ {ts : List T}, Tolds ts → Tolds (mirs ts)
  | [], _ => by rw [mirs]; trivial
  | t :: ts, h => by rw [mirs]; exact ⟨mir_told h.1, mirs_told h.2⟩
end
mutual
theorem mir_ht : ∀ t : T, ht (mir t) = ht t
  | .one => by rw [mir]
  | .name x => by rw [mir]
  | .cop s n t => by rw [mir, ht, ht, mir_ht t]
  | .row s ts => by rw [mir, ht, ht, mirs_ht ts]
theorem mirs_ht : ∀ ts : List T, hts (mirs ts) = hts ts
  | [] => by rw [mirs]
  | t :: ts => by rw [mirs, hts, hts, mir_ht t, mirs_ht ts]
end
theorem mir_Ok {t : T} (h : Ok t) : Ok (mir t) := ⟨mir_good h.1, mir_told h.2.1, by rw [txt_mir h.1, List.length_map]; exact h.2.2⟩
theorem mir_cnt (t : T) : cnt (mir t) = cnt t := by
  cases t with
  | one => rw [mir]
  | name x => rw [mir]
  | cop s n t => rw [mir, cnt_cop, cnt_cop]
  | row s ts => rw [mir, cnt_row, cnt_row, mirs_map, List.length_map]
theorem mir_piece (t : T) (i : Nat) : piece (mir t) i = (piece t i).map mir := by
  cases t with
  | one => rw [mir]; rfl
  | name x => rw [mir]; rfl
  | cop s n t => rw [mir]; rfl
  | row s ts => rw [mir]; show (mirs ts)[i]? = _; rw [mirs_map, List.getElem?_map]; rfl
theorem mir_desc : ∀ (t : T) (p : List Nat), desc (mir t) p = (desc t p).map mir
  | t, [] => rfl
  | t, i :: p => by
    simp only [desc]
    rw [mir_cnt, mir_piece]
    split
    · cases piece t i with
      | none => rfl
      | some u => simp only [Option.map_some, Option.bind_some]; exact mir_desc u p
    · rfl
theorem mir_isOne (t : T) : isOneT (mir t) = isOneT t := by cases t <;> rw [mir] <;> rfl
theorem mir_isPers (t : T) (p : List Nat) : isPers (mir t) p = isPers t p := by
  unfold isPers
  rw [mir_desc]
  cases desc t p with
  | none => rfl
  | some u => exact mir_isOne u
end PL
/-! PM4: all people; who knows whom by going down; drawn plans. -/
namespace PL
open PySem SX TL
theorem fm_congr {α β : Type} {f g : α → List β} : ∀ {l : List α}, (∀ x ∈ l, f x = g x) → l.flatMap f = l.flatMap g
  | [], _ => rfl
  | x :: l, h => by rw [List.flatMap_cons, List.flatMap_cons, h x List.mem_cons_self, fm_congr fun y hy => h y (List.mem_cons_of_mem _ hy)]
mutual
def persL : T → List (List Nat)
  | .one => [[]]
  | .name _ => []
  | .cop _ n t => (List.range n).flatMap fun i => (persL t).map (i :: ·)
  | .row _ ts => persR 0 ts
def persR : Nat → List T → List (List Nat)
  | _, [] => []
  | k, t :: ts => (persL t).map (k :: ·) ++ persR (k + 1) ts
end
def pieceP (t : T) (j : Nat) : List (List Nat) := match piece t j with
  | some u => (persL u).map (j :: ·)
  | none => []
def upTo (t : T) (i : Nat) : List (List Nat) := (List.range i).flatMap (pieceP t)
theorem upTo_succ {t u : T} {i : Nat} (h : piece t i = some u) : upTo t (i + 1) = upTo t i ++ (persL u).map (i :: ·) := by
  unfold upTo
  rw [List.range_succ, List.flatMap_append]
  simp [pieceP, h]
theorem persR_eq : ∀ (ts : List T) (k : Nat), persR k ts = (List.range ts.length).flatMap fun j => match ts[j]? with
    | some u => (persL u).map ((k + j) :: ·)
    | none => []
  | [], k => by rw [persR]; rfl
  | t :: ts, k => by
    rw [persR, persR_eq ts (k + 1), List.length_cons, List.range_succ_eq_map, List.flatMap_cons, List.flatMap_map]
    congr 1
    refine fm_congr ?_
    intro j _
    simp only [Function.comp, Nat.succ_eq_add_one, List.getElem?_cons_succ]
    rw [show k + 1 + j = k + (j + 1) by omega]
theorem persL_upTo {t : T} (h : isOneT t = false) : persL t = upTo t (cnt t) := by
  cases t with
  | one => cases h
  | name x => rw [persL]; rfl
  | cop s n t => rw [persL, cnt_cop]; rfl
  | row s ts =>
    rw [persL, cnt_row, persR_eq]
    unfold upTo
    refine fm_congr ?_
    intro j _
    simp only [pieceP, piece, Nat.zero_add]
theorem mem_upTo {t : T} {i : Nat} {p : List Nat} (h : p ∈ upTo t i) : ∃ j u q, j < i ∧ piece t j = some u ∧ q ∈ persL u ∧ p = j :: q := by
  unfold upTo at h
  obtain ⟨j, hj, hp⟩ := List.mem_flatMap.mp h
  unfold pieceP at hp
  cases e : piece t j with
  | none => rw [e] at hp; simp at hp
  | some u =>
    rw [e] at hp
    obtain ⟨q, hq, rfl⟩ := List.mem_map.mp hp
    exact ⟨j, u, q, List.mem_range.mp hj, e, hq, rfl⟩
theorem piece_ht {t u : T} {i : Nat} (h : piece t i = some u) : ht u < ht t := by
  cases t with
  | one => cases h
  | name x => cases h
  | cop s n v => obtain rfl := Option.some.inj h; rw [ht]; omega
  | row s ts => have := hts_le (List.mem_of_getElem? (show ts[i]? = some u from h)); rw [ht]; omega
theorem pers_is : ∀ (n : Nat) {t : T} {p : List Nat}, ht t ≤ n → p ∈ persL t → isPers t p = true := by
  intro n
  induction n with
  | zero =>
    intro t p hn hp
    cases h : isOneT t with
    | true =>
      cases t with
      | one =>
        rw [persL] at hp
        have : p = [] := by simpa using hp
        subst this; rfl
      | _ => cases h
    | false =>
      rw [persL_upTo h] at hp
      obtain ⟨j, u, q, h1, h2, h3, rfl⟩ := mem_upTo hp
      have := piece_ht h2
      omega
  | succ n ih =>
    intro t p hn hp
    cases h : isOneT t with
    | true =>
      cases t with
      | one =>
        rw [persL] at hp
        have : p = [] := by simpa using hp
        subst this; rfl
      | _ => cases h
    | false =>
      rw [persL_upTo h] at hp
      obtain ⟨j, u, q, h1, h2, h3, rfl⟩ := mem_upTo hp
      have h4 := piece_ht h2
      have h5 := ih (by omega) h3
      unfold isPers at h5 ⊢
      simp only [desc]
      rw [if_pos h1, h2]
      exact h5
theorem pers_len {t : T} {i j : Nat} (h : i ≤ j) : (upTo t i).length ≤ (upTo t j).length := by
  obtain ⟨k, rfl⟩ := Nat.exists_eq_add_of_le h
  unfold upTo
  rw [List.range_add, List.flatMap_append, List.length_append]
  omega
mutual
theorem persL_le : ∀ t : T, (persL t).length ≤ ppl t
  | .one => by rw [persL, ppl]; simp
  | .name x => by rw [persL, ppl]; simp
  | .cop s n t => by
    rw [persL, ppl]
    have ih := persL_le t
    have : ∀ m : Nat, ((List.range m).flatMap fun i => (persL t).map (i :: ·)).length = m * (persL t).length := by
      intro m
      induction m with
      | zero => simp
      | succ m ih => rw [List.range_succ, List.flatMap_append, List.length_append, ih]; simp [Nat.succ_mul]
    rw [this]
    exact Nat.mul_le_mul_left _ ih
  | .row s ts => by rw [persL, ppl]; exact persR_le 0 ts
theorem persR_le : ∀ (k : Nat) (ts : List T), (persR k ts).length ≤ ppls ts
  | k, [] => by rw [persR, ppls]; simp
  | k, t :: ts => by
    rw [persR, ppls, List.length_append, List.length_map]
    have h1 := persL_le t
    have h2 := persR_le (k + 1) ts
    omega
end
/-- a person that is nothing further down -/
theorem pers_nil {t : T} (h : isPers t [] = true) : t = .one := by
  unfold isPers at h
  simp only [desc] at h
  cases t with
  | one => rfl
  | _ => cases h
theorem pers_cons {t : T} {i : Nat} {p : List Nat} (h : isPers t (i :: p) = true) : ∃ u, i < cnt t ∧ piece t i = some u ∧ isPers u p = true := by
  unfold isPers at h
  simp only [desc] at h
  split at h
  · rename_i u hu
    split at hu
    · rename_i hlt
      obtain ⟨v, h1, h2⟩ := Option.bind_eq_some_iff.mp hu
      exact ⟨v, hlt, h1, by unfold isPers; rw [h2]; exact h⟩
    · cases hu
  · cases h
theorem pers_ht : ∀ {p : List Nat} {t : T}, isPers t p = true → p.length ≤ ht t
  | [], _, _ => Nat.zero_le _
  | i :: p, t, h => by
    obtain ⟨u, h1, h2, h3⟩ := pers_cons h
    have a := pers_ht h3
    have b := piece_ht h2
    rw [List.length_cons]; omega
theorem mem_le_sum : ∀ {l : List Nat} {n : Nat}, n ∈ l → n ≤ l.sum
  | x :: l, n, h => by
    rw [List.sum_cons]
    rcases List.mem_cons.mp h with rfl | h
    · omega
    · have := mem_le_sum h; omega
theorem pers_one {p : List Nat} (h : isPers .one p = true) : p = [] := by
  cases p with
  | nil => rfl
  | cons i p =>
    obtain ⟨u, h1, _⟩ := pers_cons h
    simp [cnt, kids] at h1
theorem two_pers {t : T} {p q : List Nat} (hp : isPers t p = true) (hq : isPers t q = true) (hn : p ≠ q) : ∃ i p' j q' u v, p = i :: p' ∧ q = j :: q' ∧ i < cnt t ∧ j < cnt t ∧ piece t i = some u ∧ piece t j = some v ∧ isPers u p' = true ∧ isPers v q' = true := by
  cases p with
  | nil =>
    have := pers_nil hp
    subst this
    exact absurd (pers_one hq).symm hn
  | cons i p' =>
    cases q with
    | nil =>
      have := pers_nil hq
      subst this
      exact absurd (pers_one hp) hn
    | cons j q' =>
      obtain ⟨u, h1, h2, h3⟩ := pers_cons hp
      obtain ⟨v, g1, g2, g3⟩ := pers_cons hq
      exact ⟨i, p', j, q', u, v, rfl, rfl, h1, g1, h2, g2, h3, g3⟩
theorem knows_self : ∀ (p : List Nat) (t : T), knowsB t p p = false
  | [], t => by simp [knowsB]
  | i :: p, t => by
    rw [knowsB, if_pos rfl]
    cases piece t i with
    | none => rfl
    | some u => exact knows_self p u
theorem mir_intr {t : T} (h : 0 < cnt t) : intr (mir t) = !intr t := by
  cases t with
  | one => simp [cnt, kids] at h
  | name x => simp [cnt, kids] at h
  | cop s n t => rw [mir]; rfl
  | row s ts => rw [mir]; rfl
/-- the other way round in the mirror -/
theorem mir_knows : ∀ (p : List Nat) {q : List Nat} {t : T}, isPers t p = true → isPers t q = true → knowsB (mir t) p q = (decide (p ≠ q) && !knowsB t p q)
  | [], q, t, hp, hq => by
    have e := pers_nil hp
    subst e
    have := pers_one hq
    subst this
    simp [knowsB]
  | i :: p, [], t, hp, hq => by
    have e := pers_nil hq
    subst e
    have := pers_one hp
    cases this
  | i :: p, j :: q, t, hp, hq => by
    obtain ⟨u, h1, h2, h3⟩ := pers_cons hp
    obtain ⟨v, g1, g2, g3⟩ := pers_cons hq
    rw [knowsB, knowsB]
    by_cases hij : i = j
    · subst hij
      rw [if_pos rfl, if_pos rfl, mir_piece, h2]
      rw [h2] at g2
      obtain rfl := Option.some.inj g2
      show knowsB (mir u) p q = _
      rw [mir_knows p h3 g3]
      congr 1
      exact decide_eq_decide.mpr ⟨fun h e => h (by injection e), fun h e => h (by rw [e])⟩
    · rw [if_neg hij, if_neg hij, mir_intr (by omega)]
      rw [decide_eq_true (show i :: p ≠ j :: q from fun e => hij (by injection e))]; rfl

/-! ### drawn plans -/
/-- a drawn plan of s people, dp deep -/
def Bt (t : T) (s dp : Nat) : Prop := Good t ∧ Told t ∧ ppl t = s ∧ ht t ≤ dp + 1 ∧ (txt t).length ≤ 40 * (s * (dp + 2))
def Bts : List T → List Nat → Nat → Prop
  | [], [], _ => True
  | t :: ts, z :: zs, dp => Bt t z dp ∧ Bts ts zs dp
  | _, _, _ => False
theorem bts_snoc {t : T} {z dp : Nat} (h : Bt t z dp) : ∀ {ts : List T} {zs : List Nat}, Bts ts zs dp → Bts (ts ++ [t]) (zs ++ [z]) dp
  | [], [], _ => ⟨h, trivial⟩
  | _ :: _, _ :: _, g => ⟨g.1, bts_snoc h g.2⟩
  | [], _ :: _, g => g.elim
  | _ :: _, [], g => g.elim
theorem bts_len {dp : Nat} : ∀ {ts : List T} {zs : List Nat}, Bts ts zs dp → ts.length = zs.length
  | [], [], _ => rfl
  | _ :: _, _ :: _, g => by rw [List.length_cons, List.length_cons, bts_len g.2]
  | [], _ :: _, g => g.elim
  | _ :: _, [], g => g.elim
theorem bts_all {dp : Nat} (b : Bool) : ∀ {ts : List T} {zs : List Nat}, Bts ts zs dp → Goods ts ∧ Tolds ts ∧ ppls ts = zs.sum ∧ hts ts ≤ dp + 1 ∧ (joinL (sep b) (txts ts)).length ≤ 40 * (zs.sum * (dp + 2)) + 3 * ts.length
  | [], [], _ => ⟨trivial, trivial, rfl, Nat.zero_le _, by rw [txts, joinL]; simp⟩
  | [t], [z], g => by
    obtain ⟨⟨g1, g2, g3, g4, g5⟩, _⟩ := g
    refine ⟨⟨g1, trivial⟩, ⟨g2, trivial⟩, by rw [ppls, ppls, g3]; simp, by rw [hts, hts]; simp; exact g4, ?_⟩
    rw [txts, txts, joinL]
    simp; omega
  | t :: u :: ts, z :: y :: zs, g => by
    obtain ⟨⟨g1, g2, g3, g4, g5⟩, r⟩ := g
    obtain ⟨h1, h2, h3, h4, h5⟩ := bts_all b r
    refine ⟨⟨g1, h1⟩, ⟨g2, h2⟩, by rw [ppls, g3, h3]; simp, by rw [hts]; omega, ?_⟩
    have e1 : joinL (sep b) (txts (t :: u :: ts)) = txt t ++ (sep b ++ joinL (sep b) (txts (u :: ts))) := by rw [txts, txts, joinL]
    rw [e1, List.length_append, List.length_append, sep_len, List.length_cons]
    have e2 : (z :: y :: zs).sum * (dp + 2) = z * (dp + 2) + (y :: zs).sum * (dp + 2) := by rw [List.sum_cons, Nat.add_mul]
    rw [e2]
    omega
  | [], _ :: _, g => g.elim
  | _ :: _, [], g => g.elim
  | [_], _ :: _ :: _, g => g.2.elim
  | _ :: _ :: _, [_], g => g.2.elim
mutual
theorem ppl_pos : ∀ {t : T}, Good t → 1 ≤ ppl t
  | .one, _ => by rw [ppl]; omega
  | .name x, _ => by rw [ppl]; omega
  | .cop s n t, h => by
    rw [ppl]
    have h1 := ppl_pos h.2.2
    have h2 := h.1
    exact Nat.mul_pos (by omega) h1
  | .row s ts, h => by
    rw [ppl]
    have := ppls_pos h.2
    have := h.1
    omega
theorem ppls_pos : ∀ {ts : List T}, Goods ts → ts.length ≤ ppls ts
  | [], _ => Nat.zero_le _
  | t :: ts, h => by
    rw [ppls, List.length_cons]
    have h1 := ppl_pos h.1
    have h2 := ppls_pos h.2
    omega
end
theorem ht_one {t : T} (h : Good t) (h1 : ppl t = 1) : ht t = 0 := by
  cases t with
  | one => rw [ht]
  | name x => rw [ht]
  | cop s n t =>
    rw [ppl] at h1
    have h2 := ppl_pos h.2.2
    have h3 := Nat.mul_le_mul h.1 h2
    omega
  | row s ts =>
    rw [ppl] at h1
    have h2 := ppls_pos h.2
    have h3 := h.1
    omega
theorem bt_one (dp : Nat) : Bt .one 1 dp := ⟨trivial, trivial, by rw [ppl], by rw [ht]; omega, by rw [txt]; simp; omega⟩
theorem bt_row {ts : List T} {zs : List Nat} {dp s : Nat} (b : Bool) (h : Bts ts zs dp) (h2 : 2 ≤ zs.length) (h3 : zs.length ≤ 3) (hs : zs.sum = s) (h1 : 2 ≤ s) : Bt (.row b ts) s (dp + 1) := by
  obtain ⟨g1, g2, g3, g4, g5⟩ := bts_all b h
  have hl := bts_len h
  refine ⟨⟨by omega, g1⟩, g2, by rw [ppl, g3, hs], by rw [ht]; omega, ?_⟩
  rw [txt]
  simp only [List.length_cons, List.length_append, List.length_nil]
  rw [hs] at g5
  have e : s * (dp + 1 + 2) = s * (dp + 2) + s := by rw [show dp + 1 + 2 = (dp + 2) + 1 by omega, Nat.mul_succ]
  rw [e]
  omega
theorem bt_cop {t : T} {n s' s dp dp' : Nat} (b : Bool) (h : Bt t s' dp') (hn : 2 ≤ n) (hn2 : n ≤ 10 ^ 30) (hs : n * s' = s) (h1 : 1 ≤ s') (hd : dp' + 1 ≤ dp ∨ (s' = 1 ∧ dp = 0 ∧ dp' = 0 ∧ ht t = 0)) : Bt (.cop b n t) s dp := by
  obtain ⟨g1, g2, g3, g4, g5⟩ := h
  have hlen : (numL n).length ≤ 31 := numL_len (by decide) (Nat.lt_of_le_of_lt hn2 (by decide))
  have hss : 2 * s' ≤ s := by rw [← hs]; exact Nat.mul_le_mul_right _ hn
  refine ⟨⟨hn, hn2, g1⟩, g2, by rw [ppl, g3, hs], by rw [ht]; omega, ?_⟩
  rw [txt]
  simp only [List.length_cons, List.length_append, List.length_nil]
  have key : s' * (dp' + 2) + 1 ≤ s * (dp + 2) := by
    rcases hd with hd | ⟨rfl, rfl, rfl, _⟩
    · have e1 : s' * (dp' + 2) ≤ s' * (dp + 2) := Nat.mul_le_mul_left _ (by omega)
      have e2 : 2 * s' * (dp + 2) ≤ s * (dp + 2) := Nat.mul_le_mul_right _ hss
      have e3 : 2 * s' * (dp + 2) = s' * (dp + 2) + s' * (dp + 2) := by rw [Nat.mul_assoc]; omega
      have e4 : 1 ≤ s' * (dp + 2) := Nat.mul_pos h1 (by omega)
      omega
    · omega
  omega
end PL
/-! PMF: normal forms. -/
namespace PL
open PySem SX TL
/-! ### texts tell their plans -/
theorem split_at {x : Nat} : ∀ {p p' r r' : List Nat}, (∀ c ∈ p, c ≠ x) → (∀ c ∈ p', c ≠ x) → p ++ x :: r = p' ++ x :: r' → p = p' ∧ r = r'
  | [], [], _, _, _, _, e => by injection e with _ e; exact ⟨rfl, e⟩
  | [], c :: p', _, _, _, h', e => by
    injection e with e1 e2
    exact absurd e1.symm (h' c List.mem_cons_self)
  | c :: p, [], _, _, h, _, e => by
    injection e with e1 e2
    exact absurd e1 (h c List.mem_cons_self)
  | c :: p, d :: p', r, r', h, h', e => by
    injection e with e1 e2
    obtain ⟨a, b⟩ := split_at (fun c hc => h c (List.mem_cons_of_mem _ hc)) (fun c hc => h' c (List.mem_cons_of_mem _ hc)) e2
    exact ⟨by rw [e1, a], b⟩
theorem snoc_inj {α : Type} {p q : List α} {a b : α} (h : p ++ [a] = q ++ [b]) : p = q ∧ a = b := by
  have := List.append_inj' h rfl
  exact ⟨this.1, by simpa using this.2⟩
theorem opn_inj {s s' : Bool} (h : opn s = opn s') : s = s' := by cases s <;> cases s' <;> first | rfl | cases h
theorem numL_inj {n m : Nat} (hn : n ≤ 10 ^ 30) (hm : m ≤ 10 ^ 30) (h : numL n = numL m) : n = m := by
  have l : ∀ {n : Nat}, n ≤ 10 ^ 30 → (numL n).length ≤ 31 := fun {n} h => numL_len (by decide) (Nat.lt_of_le_of_lt h (by decide))
  have a := int_num (n := n) (by have := l hn; omega)
  have b := int_num (n := m) (by have := l hm; omega)
  rw [num_S] at a b
  rw [h, b] at a
  have := Option.some.inj a
  omega
theorem letter_ne {c : Nat} (h : letter c = true) : c ≠ 49 ∧ c ≠ 40 ∧ c ≠ 91 ∧ c ≠ 123 := by
  simp only [letter, Bool.and_eq_true, decide_eq_true_eq] at h
  omega
theorem name_head {x : List Nat} (h : Good (.name x)) : ∃ c r, x = c :: r ∧ letter c = true := by
  obtain ⟨h0, _, h2⟩ := h
  cases x with
  | nil => exact absurd rfl h0
  | cons c r => exact ⟨c, r, rfl, h2 c List.mem_cons_self⟩
theorem txt_inj : ∀ (n : Nat) {t u : T}, (txt t).length ≤ n → Good t → Good u → txt t = txt u → t = u
  | 0, t, u, hn, ht, _, _ => by
    obtain ⟨c, r, e, _⟩ := txt_head ht
    rw [e] at hn; simp at hn
  | n + 1, t, u, hn, hg, hu, e => by
    have lists : ∀ {ts us : List T}, ts.map txt = us.map txt → (∀ a ∈ ts, (txt a).length ≤ n ∧ Good a) → (∀ b ∈ us, Good b) → ts = us := by
      intro ts
      induction ts with
      | nil => intro us h _ _; cases us with
        | nil => rfl
        | cons b us => cases h
      | cons a ts ih => intro us h h1 h2; cases us with
        | nil => cases h
        | cons b us =>
          injection h with e1 e2
          obtain ⟨l1, g1⟩ := h1 a List.mem_cons_self
          rw [txt_inj n l1 g1 (h2 b List.mem_cons_self) e1, ih e2 (fun x hx => h1 x (List.mem_cons_of_mem _ hx)) fun x hx => h2 x (List.mem_cons_of_mem _ hx)]
    cases t with
    | one =>
      cases u with
      | one => rfl
      | name x =>
        obtain ⟨c, r, rfl, hc⟩ := name_head hu
        rw [txt, txt] at e; injection e with e1 _
        exact absurd e1.symm (letter_ne hc).1
      | cop s m v => rw [txt, txt] at e; injection e with e1 _; cases s <;> cases e1
      | row s ts => rw [txt, txt] at e; injection e with e1 _; cases e1
    | name x =>
      obtain ⟨c, r, rfl, hc⟩ := name_head hg
      cases u with
      | one => rw [txt, txt] at e; injection e with e1 _; exact absurd e1 (letter_ne hc).1
      | name y => rw [txt, txt] at e; rw [e]
      | cop s m v => rw [txt, txt] at e; injection e with e1 _; cases s <;> first | exact absurd e1 (letter_ne hc).2.2.1 | exact absurd e1 (letter_ne hc).2.2.2
      | row s ts => rw [txt, txt] at e; injection e with e1 _; exact absurd e1 (letter_ne hc).2.1
    | cop s m v =>
      cases u with
      | one => rw [txt, txt] at e; injection e with e1 _; cases s <;> cases e1
      | name x =>
        obtain ⟨c, r, rfl, hc⟩ := name_head hu
        rw [txt, txt] at e; injection e with e1 _; cases s <;> first | exact absurd e1.symm (letter_ne hc).2.2.1 | exact absurd e1.symm (letter_ne hc).2.2.2
      | cop s' m' v' =>
        rw [txt] at hn
        rw [txt, txt] at e
        injection e with e1 e2
        obtain rfl := opn_inj e1
        obtain ⟨e3, e4⟩ := split_at (fun c hc => (wgt_num hc).2) (fun c hc => (wgt_num hc).2) e2
        obtain rfl := numL_inj hg.2.1 hu.2.1 e3
        obtain ⟨e5, _⟩ := snoc_inj e4
        rw [txt_inj n (by simp at hn; omega) hg.2.2 hu.2.2 e5]
      | row s' ts => rw [txt, txt] at e; injection e with e1 _; cases s <;> cases e1
    | row s ts =>
      cases u with
      | one => rw [txt, txt] at e; injection e with e1 _; cases e1
      | name x =>
        obtain ⟨c, r, rfl, hc⟩ := name_head hu
        rw [txt, txt] at e; injection e with e1 _; exact absurd e1.symm (letter_ne hc).2.1
      | cop s' m v => rw [txt, txt] at e; injection e with e1 _; cases s' <;> cases e1
      | row s' us =>
        have hn' := hn
        rw [txt] at hn'
        rw [txt, txt] at e
        injection e with _ e2
        obtain ⟨e3, _⟩ := snoc_inj e2
        have h0 : ts ≠ [] := fun h => by have := hg.1; rw [h] at this; simp at this
        have h0' : us ≠ [] := fun h => by have := hu.1; rw [h] at this; simp at this
        have p1 := parts_join (s := s) h0 hg.2
        have hlen : ∀ a ∈ ts, (txt a).length ≤ n ∧ Good a := fun a ha => by
          have := join_len_mem (S := sep s) (p := txt a) (ps := txts ts) (by rw [txts_map]; exact List.mem_map_of_mem ha)
          simp at hn'
          exact ⟨by omega, goods_all.mp hg.2 a ha⟩
        by_cases hs : s = s'
        · subst hs
          have p2 := parts_join (s := s) h0' hu.2
          rw [← e3, p1] at p2
          rw [txts_map, txts_map] at p2
          rw [lists p2 hlen (goods_all.mp hu.2)]
        · have : s' = !s := by cases s <;> cases s' <;> first | rfl | exact absurd rfl hs
          subst this
          have p2 := parts_none (s := s) h0' hu.2
          rw [← e3, p1] at p2
          have l2 := congrArg List.length p2
          rw [txts_map, List.length_map] at l2
          have := hg.1
          simp at l2; omega
theorem txt_eq {t u : T} (h1 : Good t) (h2 : Good u) (e : txt t = txt u) : t = u := txt_inj _ (Nat.le_refl _) h1 h2 e
/-! ### counted texts -/
abbrev CL := List (Nat × List Nat)
def tot (L : CL) (k : List Nat) : Nat := ((L.filter fun q => decide (q.2 = k)).map (·.1)).sum
def ky (L : CL) : List (List Nat) := (nmsOf (L.map fun q => S q.2)).map fun z => z.cps.toList
def pt (s : Bool) (n : Nat) (k : List Nat) : List Nat := if n = 1 then k else opn s :: (numL n ++ 32 :: (k ++ [cls s]))
def jn (s : Bool) (L : CL) : List Nat := match (ky L).map fun k => pt s (tot L k) k with
  | [x] => x
  | xs => 40 :: (joinL (sep s) xs ++ [41])
def scl (n : Nat) (L : CL) : CL := L.map fun q => (n * q.1, q.2)
mutual
def nf : T → List Nat × (Bool → CL)
  | .one => ([49], fun _ => [(1, [49])])
  | .name x => (x, fun _ => [(1, x)])
  | .cop s n u => (jn s (scl n ((nf u).2 s)), fun b => if b = s then scl n ((nf u).2 s) else [(1, jn s (scl n ((nf u).2 s)))])
  | .row s ts => (jn s (nfs s ts), fun b => if b = s then nfs s ts else [(1, jn s (nfs s ts))])
def nfs (s : Bool) : List T → CL
  | [] => []
  | t :: ts => (nf t).2 s ++ nfs s ts
end
/-- the text of the normal form; the pieces for a word, with the texts of their normal forms -/
def nrm (t : T) : List Nat := (nf t).1
def cn (b : Bool) (t : T) : CL := (nf t).2 b
def wd : T → Option Bool
  | .cop s _ _ => some s
  | .row s _ => some s
  | _ => none
theorem nfs_flat (s : Bool) : ∀ ts : List T, nfs s ts = ts.flatMap (cn s)
  | [] => by rw [nfs]; rfl
  | t :: ts => by rw [nfs, nfs_flat s ts, List.flatMap_cons]; rfl
theorem scl_one (L : CL) : scl 1 L = L := by
  unfold scl
  conv => rhs; rw [← List.map_id L]
  exact List.map_congr_left fun q _ => by simp
theorem cn_in {t : T} {s : Bool} (h : wd t = some s) : cn s t = (kids t).flatMap fun q => scl q.1 (cn s q.2) := by
  cases t with
  | one => cases h
  | name x => cases h
  | cop s' n u => cases h; unfold cn; rw [nf]; simp [kids]
  | row s' ts =>
    cases h
    unfold cn
    rw [nf]
    simp only [if_pos]
    rw [nfs_flat, kids, List.flatMap_map]
    refine fm_congr fun t _ => ?_
    exact (scl_one _).symm
theorem cn_out {t : T} {b : Bool} (h : wd t ≠ some b) : cn b t = [(1, nrm t)] := by
  cases t with
  | one => unfold cn nrm; rw [nf]
  | name x => unfold cn nrm; rw [nf]
  | cop s' n u => unfold cn nrm; rw [nf]; simp only; rw [if_neg (fun e => h (by rw [e]; rfl))]
  | row s' ts => unfold cn nrm; rw [nf]; simp only; rw [if_neg (fun e => h (by rw [e]; rfl))]
theorem nrm_in {t : T} {s : Bool} (h : wd t = some s) : nrm t = jn s (cn s t) := by
  cases t with
  | one => cases h
  | name x => cases h
  | cop s' n u => cases h; unfold nrm cn; rw [nf]; simp
  | row s' ts => cases h; unfold nrm cn; rw [nf]; simp
theorem nrm_leaf {t : T} (h : wd t = none) : nrm t = txt t := by
  cases t with
  | one => unfold nrm; rw [nf, txt]
  | name x => unfold nrm; rw [nf, txt]
  | cop s n u => cases h
  | row s ts => cases h
theorem S_un (k : List Nat) : (S k).cps.toList = k := rfl
theorem un_S (z : Str) : S z.cps.toList = z := by cases z; rfl
theorem ky_mem {L : CL} {k : List Nat} : k ∈ ky L ↔ ∃ q ∈ L, q.2 = k := by
  unfold ky
  rw [List.mem_map]
  constructor
  · rintro ⟨z, hz, rfl⟩
    obtain ⟨q, hq, rfl⟩ := List.mem_map.mp ((nmsOf_mem _ _).mp hz)
    exact ⟨q, hq, rfl⟩
  · rintro ⟨q, hq, rfl⟩
    exact ⟨S q.2, (nmsOf_mem _ _).mpr (List.mem_map.mpr ⟨q, hq, rfl⟩), rfl⟩
theorem ky_nd (L : CL) : (ky L).Nodup := by
  unfold ky
  refine List.Pairwise.map _ (fun a b h e => h ?_) (nmsOf_nd _)
  rw [← un_S a, ← un_S b, e]
theorem ky_congr {L L' : CL} (h : ∀ k, (∃ q ∈ L, q.2 = k) ↔ ∃ q ∈ L', q.2 = k) : ky L = ky L' := by
  unfold ky
  rw [nmsOf_congr fun z => ?_]
  rw [List.mem_map, List.mem_map]
  constructor
  · rintro ⟨q, hq, rfl⟩
    obtain ⟨q', h1, h2⟩ := (h q.2).mp ⟨q, hq, rfl⟩
    exact ⟨q', h1, by rw [h2]⟩
  · rintro ⟨q, hq, rfl⟩
    obtain ⟨q', h1, h2⟩ := (h q.2).mpr ⟨q, hq, rfl⟩
    exact ⟨q', h1, by rw [h2]⟩
theorem tot_ge {L : CL} {q : Nat × List Nat} (h : q ∈ L) : q.1 ≤ tot L q.2 := by
  unfold tot
  exact mem_le_sum (List.mem_map_of_mem (List.mem_filter.mpr ⟨h, decide_eq_true rfl⟩))
theorem tot_le (L : CL) (k : List Nat) : tot L k ≤ (L.map (·.1)).sum := by
  unfold tot
  induction L with
  | nil => simp
  | cons q r ih =>
    rw [List.filter_cons]
    split
    · simp only [List.map_cons, List.sum_cons]; omega
    · simp only [List.map_cons, List.sum_cons]; omega
end PL
/-! PM5: people by their numbers. -/
namespace PL
open PySem SX TL
theorem flat_const {β : Type} {m : Nat} (f : Nat → List β) (hf : ∀ i, (f i).length = m) : ∀ (n : Nat) {l : Nat}, l < n * m → ((List.range n).flatMap f)[l]? = (f (l / m))[l % m]?
  | 0, l, h => by simp at h
  | n + 1, l, h => by
    rw [List.range_succ, List.flatMap_append]
    have hlen : ((List.range n).flatMap f).length = n * m := by
      clear h
      induction n with
      | zero => simp
      | succ n ih => rw [List.range_succ, List.flatMap_append, List.length_append, ih]; simp [hf, Nat.succ_mul]
    by_cases hl : l < n * m
    · rw [List.getElem?_append_left (by rw [hlen]; exact hl)]
      exact flat_const f hf n hl
    · have hm : 0 < m := by
        rcases Nat.eq_zero_or_pos m with h0 | h0
        · subst h0; simp at h
        · exact h0
      rw [List.getElem?_append_right (by rw [hlen]; omega), hlen]
      have e1 : l = n * m + (l - n * m) := by omega
      have e2 : l - n * m < m := by rw [Nat.succ_mul] at h; omega
      have e3 : l / m = n := by rw [e1, Nat.add_comm, Nat.add_mul_div_right _ _ hm, Nat.div_eq_of_lt e2]; omega
      have e4 : l % m = l - n * m := by rw [e1, Nat.add_comm, Nat.add_mul_mod_self_right]; simp; exact Nat.mod_eq_of_lt e2
      rw [e3, e4]; simp
mutual
theorem persL_len : ∀ {t : T}, Told t → (persL t).length = ppl t
  | .one, _ => by rw [persL, ppl]; rfl
  | .name x, h => h.elim
  | .cop s n t, h => by
    rw [persL, ppl]
    have ih := persL_len (t := t) h
    have : ∀ m : Nat, ((List.range m).flatMap fun i => (persL t).map (i :: ·)).length = m * (persL t).length := by
      intro m
      induction m with
      | zero => simp
      | succ m ih => rw [List.range_succ, List.flatMap_append, List.length_append, ih]; simp [Nat.succ_mul]
    rw [this, ih]
  | .row s ts, h => by rw [persL, ppl]; exact persR_len 0 h
theorem persR_len : ∀ (k : Nat) {ts : List T}, Tolds ts → (persR k ts).length = ppls ts
  | k, [], _ => by rw [persR, ppls]; rfl
  | k, t :: ts, h => by rw [persR, ppls, List.length_append, List.length_map, persL_len h.1, persR_len (k + 1) h.2]
end
/-- how many people stand ahead of the part j -/
def ahead (t : T) (j : Nat) : Nat := match t with
  | .cop _ _ u => j * ppl u
  | .row _ ts => ((ts.take j).map ppl).sum
  | _ => 0
/-- the part in which the l-th of a row stands, and its number there -/
def spotR : List T → Nat → Nat × Nat
  | [], l => (0, l)
  | t :: ts, l => if l < ppl t then (0, l) else ((spotR ts (l - ppl t)).1 + 1, (spotR ts (l - ppl t)).2)
def spotT : T → Nat → Nat × Nat
  | .cop _ _ u, l => (l / ppl u, l % ppl u)
  | .row _ ts, l => spotR ts l
  | _, l => (0, l)
theorem spotR_ok : ∀ {ts : List T} {l k : Nat}, Tolds ts → l < ppls ts → ∃ v q, ts[(spotR ts l).1]? = some v ∧ (persL v)[(spotR ts l).2]? = some q ∧ (persR k ts)[l]? = some ((k + (spotR ts l).1) :: q) ∧ l = ((ts.take (spotR ts l).1).map ppl).sum + (spotR ts l).2 ∧ (spotR ts l).2 < ppl v
  | [], l, k, _, h => by rw [ppls] at h; omega
  | t :: ts, l, k, hT, h => by
    have hl := persL_len hT.1
    rw [spotR]
    by_cases hc : l < ppl t
    · rw [if_pos hc]
      have hq : (persL t)[l]? = some (persL t)[l] := List.getElem?_eq_getElem (by omega)
      refine ⟨t, _, rfl, hq, ?_, by simp, hc⟩
      rw [persR, List.getElem?_append_left (by rw [List.length_map]; omega), List.getElem?_map, hq]; rfl
    · rw [if_neg hc]
      rw [ppls] at h
      obtain ⟨v, q, h1, h2, h3, h4, h5⟩ := spotR_ok (ts := ts) (l := l - ppl t) (k := k + 1) hT.2 (by omega)
      refine ⟨v, q, by simpa using h1, h2, ?_, ?_, h5⟩
      · rw [persR, List.getElem?_append_right (by rw [List.length_map]; omega), List.length_map, hl, h3]
        congr 2; omega
      · show l = ((List.take ((spotR ts (l - ppl t)).1 + 1) (t :: ts)).map ppl).sum + _
        rw [List.take_succ_cons, List.map_cons, List.sum_cons]
        show l = ppl t + _ + (spotR ts (l - ppl t)).2
        omega
theorem spotT_ok {t : T} {l : Nat} (hT : Told t) (h1 : isOneT t = false) (h : l < ppl t) : ∃ v q, (spotT t l).1 < cnt t ∧ piece t (spotT t l).1 = some v ∧ (persL v)[(spotT t l).2]? = some q ∧ (persL t)[l]? = some ((spotT t l).1 :: q) ∧ l = ahead t (spotT t l).1 + (spotT t l).2 ∧ (spotT t l).2 < ppl v := by
  cases t with
  | one => cases h1
  | name x => exact hT.elim
  | cop s n u =>
    rw [ppl] at h
    have hu := persL_len (t := u) hT
    have hm : 0 < ppl u := by
      rcases Nat.eq_zero_or_pos (ppl u) with h0 | h0
      · rw [h0] at h; omega
      · exact h0
    have h2 : l % ppl u < ppl u := Nat.mod_lt _ hm
    have h3 : l / ppl u < n := (Nat.div_lt_iff_lt_mul hm).mpr h
    have hq : (persL u)[l % ppl u]? = some (persL u)[l % ppl u] := List.getElem?_eq_getElem (by omega)
    refine ⟨u, _, by rw [cnt_cop]; exact h3, rfl, hq, ?_, ?_, h2⟩
    · rw [persL, flat_const (m := ppl u) _ (fun i => by rw [List.length_map, hu]) n h]
      show (List.map (l / ppl u :: ·) (persL u))[l % ppl u]? = _
      rw [List.getElem?_map, hq]; rfl
    · show l = l / ppl u * ppl u + l % ppl u
      rw [Nat.mul_comm]; exact (Nat.div_add_mod l (ppl u)).symm
  | row s ts =>
    rw [ppl] at h
    obtain ⟨v, q, h1, h2, h3, h4, h5⟩ := spotR_ok (k := 0) (ts := ts) hT h
    refine ⟨v, q, ?_, h1, h2, ?_, h4, h5⟩
    · rw [cnt_row]; exact (List.getElem?_eq_some_iff.mp h1).1
    · rw [persL, h3, Nat.zero_add]; rfl
end PL
/-! PM7: friends and common friends. -/
namespace PL
open PySem SX TL
theorem not_one {t : T} {i : Nat} (hi : i < cnt t) : isOneT t = false := by
  cases t with
  | one => simp [cnt, kids] at hi
  | _ => rfl
theorem ahead_succ {t u : T} {i : Nat} (hp : piece t i = some u) : ahead t (i + 1) = ahead t i + ppl u := by
  cases t with
  | one => cases hp
  | name x => cases hp
  | cop s n v =>
    obtain rfl : v = u := Option.some.inj hp
    show (i + 1) * ppl v = i * ppl v + ppl v
    rw [Nat.succ_mul]
  | row s ts =>
    have h : ts[i]? = some u := hp
    show ((ts.take (i + 1)).map ppl).sum = ((ts.take i).map ppl).sum + ppl u
    rw [List.take_add_one, h]
    simp
theorem piece_upto {t u : T} {i : Nat} (hp : piece t i = some u) {j : Nat} (h : j ≤ i) : ∃ v, piece t j = some v := by
  cases t with
  | one => cases hp
  | name x => cases hp
  | cop s n v => exact ⟨v, rfl⟩
  | row s ts =>
    have h1 : ts[i]? = some u := hp
    have := (List.getElem?_eq_some_iff.mp h1).1
    exact ⟨ts[j], List.getElem?_eq_getElem (by omega)⟩
theorem piece_told {t u : T} {i : Nat} (h : piece t i = some u) (ok : Ok t) : Told u := (piece_Ok h ok).2.1
theorem upTo_len {t v : T} {i : Nat} (ok : Ok t) (hv : piece t i = some v) : (upTo t i).length = ahead t i := by
  induction i generalizing v with
  | zero =>
    cases t with
    | cop s n v => show 0 = 0 * ppl v; simp
    | _ => rfl
  | succ i ih =>
    obtain ⟨x, hx⟩ := piece_upto hv (Nat.le_succ i)
    rw [upTo_succ hx, List.length_append, List.length_map, ahead_succ hx, persL_len (piece_told hx ok), ih hx]
theorem upTo_rest {t : T} {i : Nat} : ∀ {n : Nat}, i + 1 ≤ n → ∃ B, upTo t n = upTo t (i + 1) ++ B ∧ ∀ x ∈ B, ∃ j q, x = j :: q ∧ j ≠ i
  | 0, h => by omega
  | n + 1, h => by
    rcases Nat.eq_or_lt_of_le h with e | e
    · exact ⟨[], by rw [← e]; simp, fun x hx => nomatch hx⟩
    · obtain ⟨B, h1, h2⟩ := upTo_rest (t := t) (n := n) (i := i) (by omega)
      refine ⟨B ++ pieceP t n, ?_, fun x hx => ?_⟩
      · have : upTo t (n + 1) = upTo t n ++ pieceP t n := by
          unfold upTo
          rw [List.range_succ, List.flatMap_append]
          simp
        rw [this, h1, List.append_assoc]
      · rcases List.mem_append.mp hx with y | y
        · exact h2 x y
        · unfold pieceP at y
          cases e2 : piece t n with
          | none => rw [e2] at y; simp at y
          | some u =>
            rw [e2] at y
            obtain ⟨q, _, rfl⟩ := List.mem_map.mp y
            exact ⟨n, q, rfl, by omega⟩
/-- the people of a part stand together -/
theorem pers_split {t u : T} {i : Nat} (ok : Ok t) (hi : i < cnt t) (hp : piece t i = some u) : ∃ A B, persL t = A ++ ((persL u).map (i :: ·) ++ B) ∧ A.length = ahead t i ∧ (∀ x ∈ A, ∃ j q, x = j :: q ∧ j ≠ i) ∧ ∀ x ∈ B, ∃ j q, x = j :: q ∧ j ≠ i := by
  obtain ⟨B, h1, h2⟩ := upTo_rest (t := t) (i := i) (n := cnt t) hi
  refine ⟨upTo t i, B, ?_, upTo_len ok hp, fun x hx => ?_, h2⟩
  · rw [persL_upTo (not_one hi), h1, upTo_succ hp, List.append_assoc]
  · obtain ⟨j, _, q, h3, _, _, rfl⟩ := mem_upTo hx
    exact ⟨j, q, rfl, by omega⟩
/-- the people whom p knows -/
def frL (t : T) (p : List Nat) : List (List Nat) := (persL t).filter (knowsB t p)
theorem knows_in {t u : T} {i : Nat} {p q : List Nat} (hp : piece t i = some u) : knowsB t (i :: p) (i :: q) = knowsB u p q := by rw [knowsB, if_pos rfl, hp]
theorem knows_out {t : T} {i j : Nat} {p q : List Nat} (h : j ≠ i) : knowsB t (i :: p) (j :: q) = intr t := by rw [knowsB, if_neg (fun e => h e.symm)]
theorem filt_map {i : Nat} {f g : List Nat → Bool} (h : ∀ q, f (i :: q) = g q) : ∀ l : List (List Nat), (l.map (i :: ·)).filter f = (l.filter g).map (i :: ·)
  | [] => rfl
  | q :: l => by
    rw [List.map_cons, List.filter_cons, List.filter_cons, h q, filt_map h l]
    split <;> rfl
theorem fr_split {t u : T} {i : Nat} (ok : Ok t) (hi : i < cnt t) (hp : piece t i = some u) (p : List Nat) : ∃ A B, persL t = A ++ ((persL u).map (i :: ·) ++ B) ∧ A.length = ahead t i ∧ frL t (i :: p) = (if intr t = true then A ++ ((frL u p).map (i :: ·) ++ B) else (frL u p).map (i :: ·)) := by
  obtain ⟨A, B, h1, h2, h3, h4⟩ := pers_split ok hi hp
  refine ⟨A, B, h1, h2, ?_⟩
  unfold frL
  rw [h1, List.filter_append, List.filter_append, filt_map (g := knowsB u p) (fun q => knows_in hp)]
  by_cases hI : intr t = true
  · rw [if_pos hI]
    have e : ∀ L : List (List Nat), (∀ x ∈ L, ∃ j q, x = j :: q ∧ j ≠ i) → L.filter (knowsB t (i :: p)) = L := fun L hL => List.filter_eq_self.mpr fun x hx => by
      obtain ⟨j, q, rfl, hj⟩ := hL x hx
      rw [knows_out hj]; exact hI
    rw [e A h3, e B h4]
  · rw [if_neg hI]
    have e : ∀ L : List (List Nat), (∀ x ∈ L, ∃ j q, x = j :: q ∧ j ≠ i) → L.filter (knowsB t (i :: p)) = [] := fun L hL => List.filter_eq_nil_iff.mpr fun x hx => by
      obtain ⟨j, q, rfl, hj⟩ := hL x hx
      rw [knows_out hj]; exact hI
    rw [e A h3, e B h4, List.nil_append, List.append_nil]
/-- how many p knows -/
def mf : T → List Nat → Nat
  | t, i :: p => match piece t i with
    | some u => (if intr t = true then ppl t - ppl u else 0) + mf u p
    | none => 0
  | _, [] => 0
theorem mf_cons {t u : T} {i : Nat} (hp : piece t i = some u) (p : List Nat) : mf t (i :: p) = (if intr t = true then ppl t - ppl u else 0) + mf u p := by rw [mf, hp]
theorem mf_len : ∀ {p : List Nat} {t : T}, Ok t → isPers t p = true → (frL t p).length = mf t p
  | [], t, ok, h => by
    obtain rfl := pers_nil h
    rw [mf]; unfold frL
    rw [persL]; rfl
  | i :: p, t, ok, h => by
    obtain ⟨u, hi, hp, hu⟩ := pers_cons h
    obtain ⟨A, B, h1, h2, h3⟩ := fr_split ok hi hp p
    have ih := mf_len (piece_Ok hp ok) hu
    have l1 := persL_len ok.2.1
    have l2 := persL_len (piece_Ok hp ok).2.1
    rw [h1, List.length_append, List.length_append, List.length_map, l2] at l1
    rw [h3, mf_cons hp]
    by_cases hI : intr t = true
    · rw [if_pos hI, if_pos hI, List.length_append, List.length_append, List.length_map, ih]; omega
    · rw [if_neg hI, if_neg hI, List.length_map, ih]; omega
theorem nth_fr {t u : T} {i n : Nat} {p q : List Nat} (ok : Ok t) (hi : i < cnt t) (hp : piece t i = some u) (hu : isPers u p = true) (h : (frL t (i :: p))[n]? = some q) :
    (intr t = false → ∃ q', q = i :: q' ∧ (frL u p)[n]? = some q') ∧ (intr t = true → n < ahead t i → (persL t)[n]? = some q) ∧ (intr t = true → ahead t i ≤ n → n < ahead t i + mf u p → ∃ q', q = i :: q' ∧ (frL u p)[n - ahead t i]? = some q') ∧
    (intr t = true → ahead t i + mf u p ≤ n → (persL t)[n - mf u p + ppl u]? = some q) := by
  obtain ⟨A, B, h1, h2, h3⟩ := fr_split ok hi hp p
  have l2 := persL_len (piece_Ok hp ok).2.1
  have ih := mf_len (piece_Ok hp ok) hu
  rw [h3] at h
  refine ⟨fun hI => ?_, fun hI => ?_, fun hI h4 h5 => ?_, fun hI h4 => ?_⟩
  · rw [if_neg (by rw [hI]; simp), List.getElem?_map] at h
    obtain ⟨q', a, b⟩ := Option.map_eq_some_iff.mp h
    exact ⟨q', b.symm, a⟩
  · intro h4
    rw [if_pos hI, List.getElem?_append_left (by omega)] at h
    rw [h1, List.getElem?_append_left (by omega)]; exact h
  · rw [if_pos hI, List.getElem?_append_right (by omega), List.getElem?_append_left (by rw [List.length_map]; omega), List.getElem?_map, h2] at h
    obtain ⟨q', a, b⟩ := Option.map_eq_some_iff.mp h
    exact ⟨q', b.symm, a⟩
  · rw [if_pos hI, List.getElem?_append_right (by omega), List.getElem?_append_right (by rw [List.length_map]; omega), List.length_map] at h
    rw [h1, List.getElem?_append_right (by omega), List.getElem?_append_right (by rw [List.length_map]; omega), List.length_map]
    rw [← h]; congr 1; omega
/-- how many know both -/
def cm (t : T) (p q : List Nat) : Nat := (persL t).countP fun x => knowsB t p x && knowsB t q x
theorem cm_self {t : T} {p : List Nat} (ok : Ok t) (h : isPers t p = true) : cm t p p = mf t p := by
  rw [← mf_len ok h]
  unfold cm frL
  rw [List.countP_eq_length_filter]
  congr 2; funext x; simp
theorem cnt_map {i : Nat} {f g : List Nat → Bool} (h : ∀ q, f (i :: q) = g q) (l : List (List Nat)) : (l.map (i :: ·)).countP f = l.countP g := by
  rw [List.countP_eq_length_filter, filt_map h, List.length_map, List.countP_eq_length_filter]
theorem cm_in {t u : T} {i : Nat} {p q : List Nat} (ok : Ok t) (hi : i < cnt t) (hp : piece t i = some u) : cm t (i :: p) (i :: q) = (if intr t = true then ppl t - ppl u else 0) + cm u p q := by
  obtain ⟨A, B, h1, h2, h3, h4⟩ := pers_split ok hi hp
  have l1 := persL_len ok.2.1
  have l2 := persL_len (piece_Ok hp ok).2.1
  unfold cm
  rw [h1, List.length_append, List.length_append, List.length_map, l2] at l1
  rw [h1, List.countP_append, List.countP_append, cnt_map (g := fun x => knowsB u p x && knowsB u q x) (fun x => by rw [knows_in hp, knows_in hp])]
  by_cases hI : intr t = true
  · rw [if_pos hI]
    have e : ∀ L : List (List Nat), (∀ x ∈ L, ∃ j q, x = j :: q ∧ j ≠ i) → L.countP (fun x => knowsB t (i :: p) x && knowsB t (i :: q) x) = L.length := fun L hL => List.countP_eq_length.mpr fun x hx => by
      obtain ⟨j, y, rfl, hj⟩ := hL x hx
      rw [knows_out hj, knows_out hj, hI]; rfl
    rw [e A h3, e B h4]; omega
  · rw [if_neg hI]
    have e : ∀ L : List (List Nat), (∀ x ∈ L, ∃ j q, x = j :: q ∧ j ≠ i) → L.countP (fun x => knowsB t (i :: p) x && knowsB t (i :: q) x) = 0 := fun L hL => List.countP_eq_zero.mpr fun x hx => by
      obtain ⟨j, y, rfl, hj⟩ := hL x hx
      rw [knows_out hj, knows_out hj]; simp [hI]
    rw [e A h3, e B h4]; omega
theorem pers_heads {t : T} (h : isOneT t = false) {x : List Nat} (hx : x ∈ persL t) : ∃ k y, x = k :: y := by
  rw [persL_upTo h] at hx
  obtain ⟨j, _, q, _, _, _, rfl⟩ := mem_upTo hx
  exact ⟨j, q, rfl⟩
theorem cm_out0 {t : T} {i j : Nat} {p q : List Nat} (hi : i < cnt t) (hn : i ≠ j) (hI : intr t = false) : cm t (i :: p) (j :: q) = 0 := by
  unfold cm
  refine List.countP_eq_zero.mpr fun x hx => ?_
  obtain ⟨k, y, rfl⟩ := pers_heads (not_one hi) hx
  by_cases e : k = i
  · subst e
    rw [knows_out (p := q) hn, hI]; simp
  · rw [knows_out (p := p) e, hI]; simp
theorem cnt_two (f g : List Nat → Bool) : ∀ l : List (List Nat), l.countP (fun x => f x && g x) + l.countP (fun x => f x || g x) = l.countP f + l.countP g
  | [] => rfl
  | x :: l => by
    have ih := cnt_two f g l
    rw [List.countP_cons, List.countP_cons, List.countP_cons, List.countP_cons]
    cases f x <;> cases g x <;> simp <;> omega
theorem cm_out {t u v : T} {i j : Nat} {p q : List Nat} (ok : Ok t) (hi : i < cnt t) (hj : j < cnt t) (hn : i ≠ j) (hp : piece t i = some u) (hq : piece t j = some v) (pu : isPers u p = true) (pv : isPers v q = true) (hI : intr t = true) :
    cm t (i :: p) (j :: q) + ppl u + ppl v = ppl t + mf u p + mf v q := by
  have l1 := persL_len ok.2.1
  have a1 : (persL t).countP (knowsB t (i :: p)) = ppl t - ppl u + mf u p ∧ ppl u ≤ ppl t := by
    obtain ⟨A, B, h1, h2, h3⟩ := fr_split ok hi hp p
    have l2 := persL_len (piece_Ok hp ok).2.1
    have ih := mf_len (piece_Ok hp ok) pu
    have l3 := l1
    rw [h1, List.length_append, List.length_append, List.length_map, l2] at l3
    refine ⟨?_, by omega⟩
    rw [List.countP_eq_length_filter]
    show (frL t (i :: p)).length = _
    rw [h3, if_pos hI, List.length_append, List.length_append, List.length_map, ih]; omega
  have a2 : (persL t).countP (knowsB t (j :: q)) = ppl t - ppl v + mf v q ∧ ppl v ≤ ppl t := by
    obtain ⟨A, B, h1, h2, h3⟩ := fr_split ok hj hq q
    have l2 := persL_len (piece_Ok hq ok).2.1
    have ih := mf_len (piece_Ok hq ok) pv
    have l3 := l1
    rw [h1, List.length_append, List.length_append, List.length_map, l2] at l3
    refine ⟨?_, by omega⟩
    rw [List.countP_eq_length_filter]
    show (frL t (j :: q)).length = _
    rw [h3, if_pos hI, List.length_append, List.length_append, List.length_map, ih]; omega
  have a3 : (persL t).countP (fun x => knowsB t (i :: p) x || knowsB t (j :: q) x) = ppl t := by
    rw [← l1]
    refine List.countP_eq_length.mpr fun x hx => ?_
    obtain ⟨k, y, rfl⟩ := pers_heads (not_one hi) hx
    by_cases e : k = i
    · subst e
      rw [knows_out (p := q) hn, hI]; simp
    · rw [knows_out (p := p) e, hI]; simp
  have a4 := cnt_two (knowsB t (i :: p)) (knowsB t (j :: q)) (persL t)
  unfold cm
  omega
/-- what the law counts -/
theorem cm_law (t : T) (p q : List Nat) : ((frL t p).filter fun x => decide (x ∈ frL t q)).length = cm t p q := by
  unfold cm
  rw [List.countP_eq_length_filter]
  unfold frL
  rw [List.filter_filter]
  congr 1
  refine List.filter_congr fun x hx => ?_
  rw [Bool.and_comm]
  congr 1
  by_cases h : knowsB t q x = true
  · rw [h]; exact decide_eq_true (List.mem_filter.mpr ⟨hx, h⟩)
  · rw [decide_eq_false (fun z => h (List.mem_filter.mp z).2)]
    cases e : knowsB t q x with
    | true => exact absurd e h
    | false => rfl
end PL
/-! PM9: rows and bars. -/
namespace PL
open PySem SX TL
mutual
/-- the fewest rows -/
def rws : T → Nat
  | .one => 1
  | .name _ => 1
  | .cop s n t => if s = true then max 1 (rws t + ppl t - n * ppl t) else n * rws t
  | .row s ts => if s = true then max 1 (exs ts - ppls ts) else rwss ts
def rwss : List T → Nat
  | [] => 0
  | t :: ts => rws t + rwss ts
def exs : List T → Nat
  | [] => 0
  | t :: ts => max (rws t + ppl t) (exs ts)
end
theorem piece_le' {t u : T} {i : Nat} (h : piece t i = some u) (hg : Good t) : ppl u ≤ ppl t ∧ Good u := by
  cases t with
  | one => cases h
  | name x => cases h
  | cop s n v =>
    obtain rfl : v = u := Option.some.inj h
    rw [show ppl (.cop s n v) = n * ppl v by rw [ppl]]
    exact ⟨Nat.le_mul_of_pos_left _ (by have := hg.1; omega), hg.2.2⟩
  | row s ts =>
    have hm := List.mem_of_getElem? (show ts[i]? = some u from h)
    refine ⟨?_, goods_all.mp hg.2 u hm⟩
    rw [ppl, ppls_sum]
    exact mem_le_sum (List.mem_map_of_mem hm)
theorem exs_mem : ∀ {ts : List T} {u : T}, u ∈ ts → rws u + ppl u ≤ exs ts
  | t :: ts, u, h => by
    rw [exs]
    rcases List.mem_cons.mp h with rfl | h
    · exact Nat.le_max_left _ _
    · exact Nat.le_trans (exs_mem h) (Nat.le_max_right _ _)
mutual
theorem rws_pos : ∀ {t : T}, Good t → 1 ≤ rws t
  | .one, _ => by rw [rws]; exact Nat.le_refl _
  | .name x, _ => by rw [rws]; exact Nat.le_refl _
  | .cop s n t, h => by
    rw [rws]
    have := rws_pos h.2.2
    split
    · exact Nat.le_max_left _ _
    · exact Nat.mul_pos (by have := h.1; omega) this
  | .row s ts, h => by
    rw [rws]
    split
    · exact Nat.le_max_left _ _
    · have := rwss_pos h.2
      have := h.1
      omega
theorem rwss_pos : ∀ {ts : List T}, Goods ts → ts.length ≤ rwss ts
  | [], _ => Nat.zero_le _
  | t :: ts, h => by
    have h1 := rws_pos h.1
    have h2 := rwss_pos h.2
    rw [rwss, List.length_cons]; omega
end
mutual
theorem rws_le : ∀ {t : T}, Good t → rws t ≤ ppl t
  | .one, _ => by rw [rws, ppl]; exact Nat.le_refl _
  | .name x, _ => by rw [rws, ppl]; exact Nat.le_refl _
  | .cop s n t, h => by
    have h1 := rws_le h.2.2
    have h2 := ppl_pos h.2.2
    have h3 : 1 * ppl t ≤ n * ppl t := Nat.mul_le_mul_right _ (by have := h.1; omega)
    rw [rws, ppl]
    split
    · refine Nat.max_le.mpr ⟨by omega, by omega⟩
    · exact Nat.mul_le_mul_left _ h1
  | .row s ts, h => by
    have h1 := rwss_le h.2
    have h2 := exs_le h.2
    have h3 := ppls_pos h.2
    have h4 := h.1
    rw [rws, ppl]
    split
    · refine Nat.max_le.mpr ⟨by omega, by omega⟩
    · exact h1
theorem rwss_le : ∀ {ts : List T}, Goods ts → rwss ts ≤ ppls ts
  | [], _ => by rw [rwss]; exact Nat.zero_le _
  | t :: ts, h => by
    have h1 := rws_le h.1
    have h2 := rwss_le h.2
    rw [rwss, ppls]; omega
theorem exs_le : ∀ {ts : List T}, Goods ts → exs ts ≤ 2 * ppls ts
  | [], _ => by rw [exs]; exact Nat.zero_le _
  | t :: ts, h => by
    have h1 := rws_le h.1
    have h2 := exs_le h.2
    rw [exs, ppls]
    refine Nat.max_le.mpr ⟨by omega, by omega⟩
end
theorem rws_piece {t u : T} {i : Nat} (h : piece t i = some u) (hI : intr t = true) : rws u + ppl u ≤ ppl t + rws t := by
  cases t with
  | one => cases h
  | name x => cases h
  | cop s n v =>
    obtain rfl : v = u := Option.some.inj h
    have hs : s = true := hI
    rw [show rws (.cop s n v) = max 1 (rws v + ppl v - n * ppl v) by rw [rws, if_pos hs], show ppl (.cop s n v) = n * ppl v by rw [ppl]]
    have := Nat.le_max_right 1 (rws v + ppl v - n * ppl v)
    omega
  | row s ts =>
    have hs : s = true := hI
    have hm := exs_mem (List.mem_of_getElem? (show ts[i]? = some u from h))
    rw [show rws (.row s ts) = max 1 (exs ts - ppls ts) by rw [rws, if_pos hs], show ppl (.row s ts) = ppls ts by rw [ppl]]
    have := Nat.le_max_right 1 (exs ts - ppls ts)
    omega
/-! ### pieces -/
mutual
def pcs : T → Nat
  | .one => 1
  | .name _ => 1
  | .cop s n t => if s = true then 1 else n * pcs t
  | .row s ts => if s = true then 1 else pcss ts
def pcss : List T → Nat
  | [] => 0
  | t :: ts => pcs t + pcss ts
end
mutual
theorem pcs_le : ∀ {t : T}, Good t → pcs t ≤ rws t
  | .one, _ => by rw [rws, pcs]; exact Nat.le_refl _
  | .name x, _ => by rw [rws, pcs]; exact Nat.le_refl _
  | .cop s n t, h => by
    rw [rws, pcs]
    by_cases hs : s = true
    · rw [if_pos hs, if_pos hs]; exact Nat.le_max_left _ _
    · rw [if_neg hs, if_neg hs]; exact Nat.mul_le_mul_left _ (pcs_le h.2.2)
  | .row s ts, h => by
    rw [rws, pcs]
    by_cases hs : s = true
    · rw [if_pos hs, if_pos hs]; exact Nat.le_max_left _ _
    · rw [if_neg hs, if_neg hs]; exact pcss_le h.2
theorem pcss_le : ∀ {ts : List T}, Goods ts → pcss ts ≤ rwss ts
  | [], _ => by rw [rwss, pcss]; exact Nat.le_refl _
  | t :: ts, h => by
    have h1 := pcs_le h.1
    have h2 := pcss_le h.2
    rw [rwss, pcss]; omega
end
/-! ### bars -/
inductive Bar where
  | nil | at_ (i : Nat) (b : Bar) | bes (bs : List Bar)
mutual
/-- b is a bar of t: f pieces stay, l people leave -/
inductive Lb : T → Bar → Nat → Nat → Prop where
  | nil (t : T) : Lb t .nil (pcs t) 0
  | at_ {t u : T} {i f l : Nat} {b : Bar} (hI : intr t = true) (hi : i < cnt t) (hp : piece t i = some u) (h : Lb u b f l) : Lb t (.at_ i b) f (l + (ppl t - ppl u))
  | cop {t : T} {n f l : Nat} {b : Bar} (h : Lb t b f l) : Lb (.cop false n t) (.bes [b]) (n * f) (n * l)
  | row {ts : List T} {bs : List Bar} {f l : Nat} (h : Lbs ts bs f l) : Lb (.row false ts) (.bes bs) f l
inductive Lbs : List T → List Bar → Nat → Nat → Prop where
  | nil : Lbs [] [] 0 0
  | cons {t : T} {ts : List T} {b : Bar} {bs : List Bar} {f l f' l' : Nat} (h : Lb t b f l) (r : Lbs ts bs f' l') : Lbs (t :: ts) (b :: bs) (f + f') (l + l')
end
mutual
theorem Lb.sum : ∀ {t : T} {b : Bar} {f l : Nat}, Lb t b f l → Good t → f + l ≤ ppl t
  | _, _, _, _, .nil t, g => by
    have h1 := pcs_le g
    have h2 := rws_le g
    omega
  | _, _, _, _, .at_ hI hi hp h, g => by
    obtain ⟨h1, h2⟩ := piece_le' hp g
    have := Lb.sum h h2
    omega
  | _, _, _, _, .cop (n := n) h, g => by
    have := Lb.sum h g.2.2
    rw [ppl, ← Nat.mul_add]
    exact Nat.mul_le_mul_left _ this
  | _, _, _, _, .row h, g => by rw [ppl]; exact Lbs.sum h g.2
theorem Lbs.sum : ∀ {ts : List T} {bs : List Bar} {f l : Nat}, Lbs ts bs f l → Goods ts → f + l ≤ ppls ts
  | _, _, _, _, .nil, _ => Nat.zero_le _
  | _, _, _, _, .cons h r, g => by
    have h1 := Lb.sum h g.1
    have h2 := Lbs.sum r g.2
    rw [ppls]; omega
end
mutual
theorem Lb.worth : ∀ {t : T} {b : Bar} {f l : Nat}, Lb t b f l → Good t → f ≤ l + rws t
  | _, _, _, _, .nil t, g => by have := pcs_le g; omega
  | _, _, _, _, .at_ hI hi hp h, g => by
    obtain ⟨h1, h2⟩ := piece_le' hp g
    have h3 := Lb.worth h h2
    have h4 := rws_piece hp hI
    omega
  | _, _, _, _, .cop (n := n) (f := f) (l := l) (t := t) h, g => by
    have := Lb.worth h g.2.2
    rw [rws, if_neg (by simp), ← Nat.mul_add]
    exact Nat.mul_le_mul_left _ this
  | _, _, _, _, .row h, g => by
    rw [rws, if_neg (by simp)]; exact Lbs.worth h g.2
theorem Lbs.worth : ∀ {ts : List T} {bs : List Bar} {f l : Nat}, Lbs ts bs f l → Goods ts → f ≤ l + rwss ts
  | _, _, _, _, .nil, _ => Nat.zero_le _
  | _, _, _, _, .cons h r, g => by
    have h1 := Lb.worth h g.1
    have h2 := Lbs.worth r g.2
    rw [rwss]; omega
end
/-- a bar that tells the rows -/
def Best (t : T) (b : Bar) : Prop := ∃ f l, Lb t b f l ∧ f = l + rws t
theorem Lbs.len : ∀ {ts : List T} {bs : List Bar} {f l : Nat}, Lbs ts bs f l → bs.length = ts.length
  | _, _, _, _, .nil => rfl
  | _, _, _, _, .cons h r => by rw [List.length_cons, List.length_cons, Lbs.len r]
theorem best_cop {t : T} {n : Nat} {b : Bar} (h : Best t b) : Best (.cop false n t) (.bes [b]) := by
  obtain ⟨f, l, h1, h2⟩ := h
  exact ⟨n * f, n * l, .cop h1, by rw [rws, if_neg (by simp), ← Nat.mul_add, h2]⟩
inductive Bests : List T → List Bar → Prop where
  | nil : Bests [] []
  | cons {t : T} {b : Bar} {ts : List T} {bs : List Bar} (h : Best t b) (r : Bests ts bs) : Bests (t :: ts) (b :: bs)
theorem bests_sum : ∀ {ts : List T} {bs : List Bar}, Bests ts bs → ∃ f l, Lbs ts bs f l ∧ f = l + rwss ts
  | _, _, .nil => ⟨0, 0, .nil, rfl⟩
  | _, _, .cons h r => by
    obtain ⟨f, l, h1, h2⟩ := h
    obtain ⟨f', l', h3, h4⟩ := bests_sum r
    exact ⟨f + f', l + l', .cons h1 h3, by rw [rwss]; omega⟩
theorem best_row {ts : List T} {bs : List Bar} (h : Bests ts bs) : Best (.row false ts) (.bes bs) := by
  obtain ⟨f, l, h1, h2⟩ := bests_sum h
  exact ⟨f, l, .row h1, by rw [rws, if_neg (by simp)]; exact h2⟩
theorem best_at {t u : T} {i : Nat} {b : Bar} (hI : intr t = true) (hi : i < cnt t) (hp : piece t i = some u) (g : Good t) (h : Best u b) (hm : rws t + ppl t = rws u + ppl u) : Best t (.at_ i b) := by
  obtain ⟨f, l, h1, h2⟩ := h
  obtain ⟨h3, _⟩ := piece_le' hp g
  exact ⟨f, _, .at_ hI hi hp h1, by omega⟩
theorem best_nil {t : T} (h : pcs t = rws t) : Best t .nil := ⟨pcs t, 0, .nil t, by omega⟩
/-- joining the figures of one more part -/
theorem join_intr {p e p2 r2 : Nat} {m : Int} (h : 1 ≤ r2) (hm : m = 1 ∨ m = ((max 1 (e - p) : Nat) : Int) - (p2 : Nat) ∨ m = ((r2 : Nat) : Int) - (p : Nat)) (h1 : 1 ≤ m) (h2 : ((max 1 (e - p) : Nat) : Int) - (p2 : Nat) ≤ m) (h3 : ((r2 : Nat) : Int) - (p : Nat) ≤ m) (hp2 : 1 ≤ p2) : m = ((max 1 (max e (r2 + p2) - (p + p2)) : Nat) : Int) := by
  omega
end PL
/-! PM10: trees of drawn plans. -/
namespace PL
open PySem SX TL
mutual
def nds : T → Nat
  | .one => 1
  | .name _ => 1
  | .cop _ _ t => nds t + 1
  | .row _ ts => ndss ts + 1
def ndss : List T → Nat
  | [] => 0
  | t :: ts => nds t + ndss ts
end
def lmG : Nat → Nat
  | 0 => 1
  | d + 1 => 3 * lmG d + 60
def ndG : Nat → Nat
  | 0 => 1
  | d + 1 => 3 * ndG d + 1
/-- told plans of at most m people, d deep -/
def Gt (t : T) (m d : Nat) : Prop := Good t ∧ Told t ∧ ppl t ≤ m ∧ ht t ≤ d ∧ (txt t).length ≤ lmG d ∧ nds t ≤ ndG d
theorem gt_one {m : Nat} (d : Nat) (h : 1 ≤ m) : Gt .one m d := by
  refine ⟨trivial, trivial, by rw [ppl]; exact h, by rw [ht]; exact Nat.zero_le _, ?_, ?_⟩
  · rw [txt]
    cases d with
    | zero => exact Nat.le_refl _
    | succ d => show 1 ≤ 3 * lmG d + 60; omega
  · rw [nds]
    cases d with
    | zero => exact Nat.le_refl _
    | succ d => show 1 ≤ 3 * ndG d + 1; omega
theorem gt_cop {t : T} {n m d : Nat} (b : Bool) (h : Gt t (m / n) d) (h1 : 2 ≤ n) (h2 : n ≤ 10 ^ 30) : Gt (.cop b n t) m (d + 1) := by
  obtain ⟨g1, g2, g3, g4, g5, g6⟩ := h
  have hlen : (numL n).length ≤ 31 := numL_len (by decide) (Nat.lt_of_le_of_lt h2 (by decide))
  refine ⟨⟨h1, h2, g1⟩, g2, ?_, by rw [ht]; omega, ?_, ?_⟩
  · rw [ppl]
    exact Nat.le_trans (Nat.mul_le_mul_left _ g3) (Nat.mul_div_le m n)
  · rw [txt]
    simp only [List.length_cons, List.length_append, List.length_nil]
    show _ ≤ 3 * lmG d + 60
    omega
  · rw [nds]
    show _ ≤ 3 * ndG d + 1
    omega
theorem gts_all {m d : Nat} (b : Bool) : ∀ {ts : List T}, (∀ t ∈ ts, Gt t m d) → Goods ts ∧ Tolds ts ∧ ppls ts ≤ ts.length * m ∧ hts ts ≤ d ∧ (joinL (sep b) (txts ts)).length ≤ ts.length * (lmG d + 3) ∧ ndss ts ≤ ts.length * ndG d
  | [], _ => ⟨trivial, trivial, by rw [ppls]; exact Nat.zero_le _, by rw [hts]; exact Nat.zero_le _, by rw [txts, joinL]; exact Nat.zero_le _, by rw [ndss]; exact Nat.zero_le _⟩
  | [t], h => by
    obtain ⟨g1, g2, g3, g4, g5, g6⟩ := h t List.mem_cons_self
    refine ⟨⟨g1, trivial⟩, ⟨g2, trivial⟩, by rw [ppls, ppls]; simp; exact g3, by rw [hts, hts]; simp; exact g4, ?_, by rw [ndss, ndss]; simp; exact g6⟩
    rw [txts, txts, joinL]
    simp; omega
  | t :: u :: ts, h => by
    obtain ⟨g1, g2, g3, g4, g5, g6⟩ := h t List.mem_cons_self
    obtain ⟨h1, h2, h3, h4, h5, h6⟩ := gts_all b (ts := u :: ts) fun x hx => h x (List.mem_cons_of_mem _ hx)
    refine ⟨⟨g1, h1⟩, ⟨g2, h2⟩, ?_, by rw [hts]; omega, ?_, ?_⟩
    · rw [ppls, List.length_cons, Nat.succ_mul]; omega
    · have e1 : joinL (sep b) (txts (t :: u :: ts)) = txt t ++ (sep b ++ joinL (sep b) (txts (u :: ts))) := by rw [txts, txts, joinL]
      rw [e1, List.length_append, List.length_append, sep_len, List.length_cons, Nat.succ_mul]
      omega
    · rw [ndss, List.length_cons, Nat.succ_mul]; omega
theorem gt_row {ts : List T} {m d : Nat} (b : Bool) (h : ∀ t ∈ ts, Gt t (m / 4) d) (h1 : 2 ≤ ts.length) (h2 : ts.length ≤ 3) : Gt (.row b ts) m (d + 1) := by
  obtain ⟨g1, g2, g3, g4, g5, g6⟩ := gts_all b h
  refine ⟨⟨h1, g1⟩, g2, ?_, by rw [ht]; omega, ?_, ?_⟩
  · rw [ppl]
    have : ts.length * (m / 4) ≤ 3 * (m / 4) := Nat.mul_le_mul_right _ h2
    omega
  · rw [txt]
    simp only [List.length_cons, List.length_append, List.length_nil]
    have : ts.length * (lmG d + 3) ≤ 3 * (lmG d + 3) := Nat.mul_le_mul_right _ h2
    show _ ≤ 3 * lmG d + 60
    omega
  · rw [nds]
    have : ts.length * ndG d ≤ 3 * ndG d := Nat.mul_le_mul_right _ h2
    show _ ≤ 3 * ndG d + 1
    omega
/-- told plans that go deep -/
def Dp (t : T) (k : Nat) : Prop := Good t ∧ Told t ∧ ppl t ≤ 4 ^ k ∧ ht t ≤ k ∧ (txt t).length ≤ 1 + 10 * k ∧ nds t ≤ 1 + 3 * k
theorem dp_one : Dp .one 0 := ⟨trivial, trivial, by rw [ppl]; decide, by rw [ht]; exact Nat.le_refl _, by rw [txt]; exact Nat.le_refl _, by rw [nds]; exact Nat.le_refl _⟩
theorem dp_cop {t : T} {n k : Nat} (b : Bool) (h : Dp t k) (h1 : 2 ≤ n) (h2 : n ≤ 4) : Dp (.cop b n t) (k + 1) := by
  obtain ⟨g1, g2, g3, g4, g5, g6⟩ := h
  have hlen : (numL n).length ≤ 1 := numL_len (by decide) (Nat.lt_of_le_of_lt h2 (by decide))
  refine ⟨⟨h1, Nat.le_trans h2 (by decide), g1⟩, g2, ?_, by rw [ht]; omega, ?_, by rw [nds]; omega⟩
  · rw [ppl, Nat.pow_succ, Nat.mul_comm (4 ^ k)]; exact Nat.mul_le_mul h2 g3
  · rw [txt]
    simp only [List.length_cons, List.length_append, List.length_nil]
    omega
theorem dp_row2 {t : T} {k : Nat} (b : Bool) (h : Dp t k) : Dp (.row b [t, .one]) (k + 1) := by
  obtain ⟨g1, g2, g3, g4, g5, g6⟩ := h
  have := ppl_pos g1
  refine ⟨⟨Nat.le_refl _, g1, trivial, trivial⟩, ⟨g2, trivial, trivial⟩, ?_, ?_, ?_, ?_⟩
  · rw [ppl, ppls, ppls, ppls, ppl, Nat.pow_succ]; omega
  · rw [ht, hts, hts, hts, ht]; omega
  · rw [txt, txts, txts, txts, joinL, joinL, txt]
    simp only [List.length_cons, List.length_append, List.length_nil, sep_len]
    omega
  · rw [nds, ndss, ndss, ndss, nds]; omega
theorem dp_row3 {t : T} {k : Nat} (b : Bool) (h : Dp t k) : Dp (.row b [.one, t, .one]) (k + 1) := by
  obtain ⟨g1, g2, g3, g4, g5, g6⟩ := h
  have := ppl_pos g1
  refine ⟨⟨by simp, trivial, g1, trivial, trivial⟩, ⟨trivial, g2, trivial, trivial⟩, ?_, ?_, ?_, ?_⟩
  · rw [ppl, ppls, ppls, ppls, ppls, ppl, Nat.pow_succ]; omega
  · rw [ht, hts, hts, hts, hts, ht]; omega
  · rw [txt, txts, txts, txts, txts, joinL, joinL, joinL, txt]
    simp only [List.length_cons, List.length_append, List.length_nil, sep_len]
    omega
  · rw [nds, ndss, ndss, ndss, ndss, nds]; omega
/-- what is drawn -/
structure Wi (t : T) : Prop where
  ok : Ok t
  many : ppl t ≤ 10 ^ 30
  deep : ht t ≤ 10
  nodes : nds t ≤ 121
theorem wi_gt {t : T} (h : Gt t (10 ^ 30) 4) : Wi t := by
  obtain ⟨g1, g2, g3, g4, g5, g6⟩ := h
  have e1 : lmG 4 = 2481 := by decide
  have e2 : ndG 4 = 121 := by decide
  exact ⟨⟨g1, g2, by omega⟩, g3, by omega, by omega⟩
theorem wi_dp {t : T} (h : Dp t 10) : Wi t := by
  obtain ⟨g1, g2, g3, g4, g5, g6⟩ := h
  exact ⟨⟨g1, g2, by omega⟩, Nat.le_trans g3 (by decide), by omega, by omega⟩
end PL
/-! PMF2: every plan has a normal form. -/
namespace PL
open PySem SX TL
/-- by the parts -/
theorem kids_rec {P : T → Prop} (h : ∀ t, (∀ q ∈ kids t, P q.2) → P t) : ∀ t, P t := fun t => by
  refine T.rec (motive_1 := P) (motive_2 := fun ts => ∀ u ∈ ts, P u) ?_ ?_ ?_ ?_ ?_ ?_ t
  · exact h _ fun q hq => by simp [kids] at hq
  · exact fun x => h _ fun q hq => by simp [kids] at hq
  · exact fun s n u ih => h _ fun q hq => by
      simp [kids] at hq
      rw [hq]; exact ih
  · exact fun s ts ih => h _ fun q hq => by
      obtain ⟨u, hu, rfl⟩ := List.mem_map.mp (show q ∈ ts.map fun t => (1, t) from hq)
      exact ih u hu
  · exact fun u hu => by cases hu
  · exact fun t ts h1 h2 u hu => (List.mem_cons.mp hu).elim (fun e => e ▸ h1) (h2 u)
theorem sum_sub {α : Type} [DecidableEq α] (g : α → Nat) : ∀ {ks ls : List α}, ks.Nodup → (∀ k ∈ ks, k ∈ ls) → (ks.map g).sum ≤ (ls.map g).sum
  | [], _, _, _ => by simp
  | k :: ks, ls, hn, hs => by
    obtain ⟨h1, h2⟩ := List.nodup_cons.mp hn
    have p := List.perm_cons_erase (hs k List.mem_cons_self)
    have e := (p.map g).sum_nat
    rw [List.map_cons, List.sum_cons] at e
    have := sum_sub g h2 (ls := ls.erase k) fun x hx => (List.mem_erase_of_ne (by intro e; subst e; exact h1 hx)).mpr (hs x (List.mem_cons_of_mem _ hx))
    rw [List.map_cons, List.sum_cons]
    omega
theorem kids_nds {t : T} (h : kids t ≠ []) : ((kids t).map fun q => nds q.2).sum + 1 = nds t := by
  cases t with
  | one => exact absurd rfl h
  | name x => exact absurd rfl h
  | cop s n u => rw [nds]; simp [kids]
  | row s ts =>
    rw [nds, kids, List.map_map]
    have : ∀ ts : List T, (ts.map ((fun q : Nat × T => nds q.2) ∘ fun t => (1, t))).sum = ndss ts := by
      intro ts
      induction ts with
      | nil => rw [ndss]; rfl
      | cons t r ih => rw [ndss, List.map_cons, List.sum_cons, ih]; rfl
    rw [this]
/-- u is the normal form of t -/
structure Nz (t u : T) : Prop where
  g : Good u
  tx : txt u = nrm t
  wd : wd u = wd t
  nf : nrm u = txt u
  ht : ht u ≤ 2 * ht t
  nd : nds u + 1 ≤ 2 * nds t
  pp : ppl u = ppl t
  lv : ∀ k, k ∈ lv u ↔ k ∈ lv t
/-- a piece: how often, its normal form, how many people it has -/
abbrev Pc3 := Nat × T × Nat
structure Cz (b : Bool) (L : CL) (m h z : Nat) (N : Str → Prop) (us : List Pc3) : Prop where
  eq : L = us.map fun q => (q.1, txt q.2.1)
  ok : ∀ q ∈ us, 1 ≤ q.1 ∧ 1 ≤ q.2.2 ∧ Good q.2.1 ∧ wd q.2.1 ≠ some b ∧ nrm q.2.1 = txt q.2.1 ∧ ht q.2.1 ≤ h ∧ q.2.2 = ppl q.2.1
  sum : (us.map fun q => q.1 * q.2.2).sum = m
  nd : (us.map fun q => nds q.2.1 + 1).sum ≤ z
  lv : ∀ k, (∃ q ∈ us, k ∈ lv q.2.1) ↔ N k
theorem mul_sum (n : Nat) {α : Type} (f : α → Nat) : ∀ l : List α, (l.map fun x => n * f x).sum = n * (l.map f).sum
  | [] => by simp
  | x :: l => by rw [List.map_cons, List.sum_cons, mul_sum n f l, List.map_cons, List.sum_cons, Nat.mul_add]
theorem Cz.scl {b : Bool} {L : CL} {m h z n : Nat} {N : Str → Prop} {us : List Pc3} (c : Cz b L m h z N us) (hn : 1 ≤ n) : Cz b (PL.scl n L) (n * m) h z N (us.map fun q => (n * q.1, q.2)) where
  eq := by rw [c.eq]; unfold PL.scl; rw [List.map_map, List.map_map]; rfl
  ok := fun q hq => by
    obtain ⟨q0, h0, rfl⟩ := List.mem_map.mp hq
    obtain ⟨a1, a2⟩ := c.ok q0 h0
    exact ⟨Nat.mul_pos hn a1, a2⟩
  sum := by
    rw [List.map_map, ← c.sum, ← mul_sum]
    refine congrArg List.sum (List.map_congr_left fun q _ => ?_)
    exact Nat.mul_assoc _ _ _
  nd := by rw [List.map_map]; exact c.nd
  lv := fun k => by
    rw [← c.lv k]
    constructor
    · rintro ⟨q, hq, hk⟩
      obtain ⟨q0, h0, rfl⟩ := List.mem_map.mp hq
      exact ⟨q0, h0, hk⟩
    · rintro ⟨q, hq, hk⟩
      exact ⟨_, List.mem_map_of_mem hq, hk⟩
theorem Cz.append {b : Bool} {L L' : CL} {m m' h z z' : Nat} {N N' : Str → Prop} {us us' : List Pc3} (c : Cz b L m h z N us) (c' : Cz b L' m' h z' N' us') : Cz b (L ++ L') (m + m') h (z + z') (fun k => N k ∨ N' k) (us ++ us') where
  eq := by rw [c.eq, c'.eq, List.map_append]
  ok := fun q hq => (List.mem_append.mp hq).elim (c.ok q) (c'.ok q)
  sum := by rw [List.map_append, List.sum_append, c.sum, c'.sum]
  nd := by rw [List.map_append, List.sum_append]; exact Nat.add_le_add c.nd c'.nd
  lv := fun k => by
    rw [← c.lv k, ← c'.lv k]
    constructor
    · rintro ⟨q, hq, hk⟩
      exact (List.mem_append.mp hq).imp (fun h => ⟨q, h, hk⟩) fun h => ⟨q, h, hk⟩
    · rintro (⟨q, hq, hk⟩ | ⟨q, hq, hk⟩)
      · exact ⟨q, List.mem_append_left _ hq, hk⟩
      · exact ⟨q, List.mem_append_right _ hq, hk⟩
theorem Cz.nil {b : Bool} {h : Nat} : Cz b [] 0 h 0 (fun _ => False) [] := ⟨rfl, fun q hq => (by cases hq), rfl, Nat.le_refl _, fun k => ⟨fun ⟨q, hq, _⟩ => (by cases hq), fun h => h.elim⟩⟩
theorem Cz.up {b : Bool} {L : CL} {m h h' z z' : Nat} {N N' : Str → Prop} {us : List Pc3} (c : Cz b L m h z N us) (hh : h ≤ h') (hz : z ≤ z') (hN : ∀ k, N k ↔ N' k) : Cz b L m h' z' N' us := ⟨c.eq, fun q hq => by
  obtain ⟨a1, a2, a3, a4, a5, a6, a7⟩ := c.ok q hq
  exact ⟨a1, a2, a3, a4, a5, by omega, a7⟩, c.sum, Nat.le_trans c.nd hz, fun k => (c.lv k).trans (hN k)⟩
/-- the pieces of some parts -/
theorem Cz.kids {b : Bool} {h : Nat} : ∀ {l : List (Nat × T)}, (∀ q ∈ l, 1 ≤ q.1 ∧ 1 ≤ ppl q.2 ∧ ∃ us, Cz b (cn b q.2) (ppl q.2) h (2 * nds q.2) (fun k => k ∈ PL.lv q.2) us) →
    ∃ us, Cz b (l.flatMap fun q => PL.scl q.1 (cn b q.2)) ((l.map fun q => q.1 * ppl q.2).sum) h (2 * (l.map fun q => nds q.2).sum) (fun k => ∃ q ∈ l, k ∈ PL.lv q.2) us ∧ (l.map (·.1)).sum ≤ (us.map (·.1)).sum
  | [], _ => ⟨[], Cz.nil.up (Nat.le_refl _) (Nat.zero_le _) fun k => ⟨fun h => h.elim, fun ⟨q, hq, _⟩ => (by cases hq)⟩, by simp⟩
  | q :: l, H => by
    obtain ⟨hq, hpos, us, c⟩ := H q List.mem_cons_self
    obtain ⟨vs, d, hd⟩ := Cz.kids (b := b) (h := h) (l := l) fun x hx => H x (List.mem_cons_of_mem _ hx)
    have c2 := c.scl hq
    refine ⟨_, by
      rw [List.flatMap_cons, List.map_cons, List.sum_cons]
      exact (c2.append d).up (Nat.le_refl _) (by rw [List.map_cons, List.sum_cons]; omega) fun k => ⟨fun h => h.elim (fun h => ⟨q, List.mem_cons_self, h⟩) fun ⟨x, hx, hk⟩ => ⟨x, List.mem_cons_of_mem _ hx, hk⟩, fun ⟨x, hx, hk⟩ => (List.mem_cons.mp hx).elim (fun e => .inl (e ▸ hk)) fun hx => .inr ⟨x, hx, hk⟩⟩, ?_⟩
    rw [List.map_append, List.sum_append, List.map_cons, List.sum_cons]
    have hne : us ≠ [] := fun e => by
      have h1 := c.sum
      rw [e] at h1
      simp at h1; omega
    obtain ⟨x, r, e⟩ : ∃ x r, us = x :: r := by
      cases us with
      | nil => exact absurd rfl hne
      | cons x r => exact ⟨x, r, rfl⟩
    have h1 := (c.ok x (by rw [e]; exact List.mem_cons_self)).1
    have : q.1 ≤ ((us.map fun z => (q.1 * z.1, z.2)).map (·.1)).sum := by
      rw [e, List.map_cons, List.map_cons, List.sum_cons]
      have := Nat.mul_le_mul_left q.1 h1
      simp only; omega
    exact Nat.add_le_add this hd
theorem choose_list {R : List Nat → T → Prop} : ∀ {ks : List (List Nat)}, (∀ k ∈ ks, ∃ v, R k v ∧ txt v = k) → ∃ vs : List T, vs.map txt = ks ∧ ∀ v ∈ vs, R (txt v) v
  | [], _ => ⟨[], rfl, fun v hv => (by cases hv)⟩
  | k :: ks, h => by
    obtain ⟨v, hv, rfl⟩ := h k List.mem_cons_self
    obtain ⟨vs, h1, h2⟩ := choose_list fun x hx => h x (List.mem_cons_of_mem _ hx)
    exact ⟨v :: vs, by rw [List.map_cons, h1], fun x hx => (List.mem_cons.mp hx).elim (fun e => e ▸ hv) (h2 x)⟩
theorem tot_one {f : T → Nat} : ∀ {vs : List T} {v : T}, (vs.map txt).Nodup → v ∈ vs → tot (vs.map fun v => (f v, txt v)) (txt v) = f v
  | x :: vs, v, hn, hv => by
    rw [List.map_cons] at hn
    obtain ⟨h1, h2⟩ := List.nodup_cons.mp hn
    have no : ∀ {vs : List T} {k : List Nat}, k ∉ vs.map txt → tot (vs.map fun v => (f v, txt v)) k = 0 := by
      intro vs k hk
      unfold tot
      rw [List.filter_eq_nil_iff.mpr]
      · rfl
      · intro q hq
        obtain ⟨y, hy, rfl⟩ := List.mem_map.mp hq
        simp only [decide_eq_true_eq]
        exact fun e => hk (e ▸ List.mem_map_of_mem hy)
    have cons : ∀ k, tot ((x :: vs).map fun v => (f v, txt v)) k = (if txt x = k then f x else 0) + tot (vs.map fun v => (f v, txt v)) k := fun k => by
      unfold tot
      rw [List.map_cons, List.filter_cons]
      by_cases e : txt x = k
      · simp [e]
      · simp [e]
    rw [cons]
    rcases List.mem_cons.mp hv with rfl | hv
    · rw [if_pos rfl, no h1, Nat.add_zero]
    · have : txt x ≠ txt v := fun e => h1 (e ▸ List.mem_map_of_mem hv)
      rw [if_neg this, Nat.zero_add]
      exact tot_one h2 hv
def prt (s : Bool) (L : CL) (v : T) : T := if tot L (txt v) = 1 then v else .cop s (tot L (txt v)) v
theorem prt_txt (s : Bool) (L : CL) (v : T) : txt (prt s L v) = pt s (tot L (txt v)) (txt v) := by
  unfold prt pt
  split
  · rfl
  · rw [txt]
theorem prt_lv (s : Bool) (L : CL) (v : T) : lv (prt s L v) = lv v := by
  unfold prt
  split
  · rfl
  · rw [lv]
theorem pick_sum {f : T → Nat} {n : Nat} : ∀ {vs : List T} {x : T}, (vs.map txt).Nodup → x ∈ vs → (vs.map fun v => (if txt x = txt v then n else 0) * f v).sum = n * f x
  | y :: vs, x, hn, hx => by
    rw [List.map_cons] at hn
    obtain ⟨h1, h2⟩ := List.nodup_cons.mp hn
    rw [List.map_cons, List.sum_cons]
    have zero : ∀ l : List T, txt x ∉ l.map txt → (l.map fun v => (if txt x = txt v then n else 0) * f v).sum = 0 := by
      intro l
      induction l with
      | nil => intro _; rfl
      | cons z r ih =>
        intro hz
        rw [List.map_cons, List.sum_cons, if_neg (fun e => hz (by rw [List.map_cons, e]; exact List.mem_cons_self)), ih fun h => hz (List.mem_cons_of_mem _ h)]
        simp
    rcases List.mem_cons.mp hx with rfl | hx
    · rw [if_pos rfl, zero vs h1, Nat.add_zero]
    · rw [if_neg (fun e => h1 (by rw [← e]; exact List.mem_map_of_mem hx)), pick_sum h2 hx]; simp
theorem group_sum {f : T → Nat} {vs : List T} (hn : (vs.map txt).Nodup) : ∀ {us : List Pc3}, (∀ q ∈ us, q.2.1 ∈ vs) → (vs.map fun v => tot (us.map fun q => (q.1, txt q.2.1)) (txt v) * f v).sum = (us.map fun q => q.1 * f q.2.1).sum
  | [], _ => by
    have : ∀ l : List T, (l.map fun v => tot (([] : List Pc3).map fun q => (q.1, txt q.2.1)) (txt v) * f v).sum = 0 := by
      intro l
      induction l with
      | nil => rfl
      | cons x r ih => rw [List.map_cons, List.sum_cons, ih]; simp [tot]
    exact this vs
  | q :: us, h => by
    have ih := group_sum (f := f) hn (us := us) fun x hx => h x (List.mem_cons_of_mem _ hx)
    have e1 : ∀ k, tot ((q :: us).map fun q => (q.1, txt q.2.1)) k = (if txt q.2.1 = k then q.1 else 0) + tot (us.map fun q => (q.1, txt q.2.1)) k := fun k => by
      unfold tot
      rw [List.map_cons, List.filter_cons]
      by_cases e : txt q.2.1 = k
      · simp [e]
      · simp [e]
    have e2 : ∀ l : List T, (l.map fun v => tot ((q :: us).map fun q => (q.1, txt q.2.1)) (txt v) * f v).sum = (l.map fun v => (if txt q.2.1 = txt v then q.1 else 0) * f v).sum + (l.map fun v => tot (us.map fun q => (q.1, txt q.2.1)) (txt v) * f v).sum := by
      intro l
      induction l with
      | nil => rfl
      | cons x r ih2 =>
        have a1 := e1 (txt x)
        generalize (q :: us).map (fun q => (q.1, txt q.2.1)) = B at ih2 a1
        simp only [List.map_cons, List.sum_cons]
        rw [ih2, a1, Nat.add_mul]
        omega
    rw [e2, ih, pick_sum hn (h q List.mem_cons_self), List.map_cons, List.sum_cons]
theorem nz_join {t : T} {s : Bool} {us : List Pc3} {h z : Nat} (hw : wd t = some s) (c : Cz s (cn s t) (ppl t) h z (fun k => k ∈ lv t) us) (h2 : 2 ≤ (us.map (·.1)).sum) (hh : h + 2 ≤ 2 * ht t) (hz : z + 2 ≤ 2 * nds t) (h30 : ppl t ≤ 10 ^ 30) : ∃ u, Nz t u := by
  have ht' := nrm_in hw
  generalize hL : cn s t = L at c ht'
  have hus : ∀ q ∈ us, (q.1, txt q.2.1) ∈ L := fun q hq => by rw [c.eq]; exact List.mem_map_of_mem (f := fun q : Pc3 => (q.1, txt q.2.1)) hq
  have hsumL : (L.map (·.1)).sum = (us.map (·.1)).sum := by rw [c.eq, List.map_map]; rfl
  have hsum : (us.map (·.1)).sum ≤ ppl t := by
    rw [← c.sum]
    have : ∀ l : List Pc3, (∀ q ∈ l, 1 ≤ q.2.2) → (l.map (·.1)).sum ≤ (l.map fun q => q.1 * q.2.2).sum := by
      intro l
      induction l with
      | nil => intro _; exact Nat.le_refl _
      | cons q r ih =>
        intro hl
        have h1 := ih fun x hx => hl x (List.mem_cons_of_mem _ hx)
        have h2 := Nat.mul_le_mul_left q.1 (hl q List.mem_cons_self)
        simp only [List.map_cons, List.sum_cons]; omega
    exact this us fun q hq => (c.ok q hq).2.1
  obtain ⟨vs, hv1, hv2⟩ := choose_list (R := fun _ v => ∃ n m, ((n, v, m) : Pc3) ∈ us) (ks := ky L) fun k hk => by
    obtain ⟨q, hq, rfl⟩ := ky_mem.mp hk
    rw [c.eq] at hq
    obtain ⟨⟨n, v, m⟩, hq0, rfl⟩ := List.mem_map.mp hq
    exact ⟨v, ⟨n, m, hq0⟩, rfl⟩
  have hnd : (vs.map txt).Nodup := by rw [hv1]; exact ky_nd L
  have hok : ∀ v ∈ vs, 1 ≤ tot L (txt v) ∧ tot L (txt v) ≤ 10 ^ 30 ∧ Good v ∧ wd v ≠ some s ∧ nrm v = txt v ∧ ht v ≤ h := fun v hv => by
    obtain ⟨n, m, hq⟩ := hv2 v hv
    obtain ⟨a1, a2, a3, a4, a5, a6, a7⟩ := c.ok _ hq
    have b1 := tot_ge (hus _ hq)
    have b2 := tot_le L (txt v)
    simp only at a1 a2 a3 a4 a5 a6 b1
    exact ⟨by omega, by omega, a3, a4, a5, a6⟩
  have hall : ∀ q ∈ us, q.2.1 ∈ vs := fun q hq => by
    have : txt q.2.1 ∈ vs.map txt := by rw [hv1]; exact ky_mem.mpr ⟨_, hus q hq, rfl⟩
    obtain ⟨v, hv, e⟩ := List.mem_map.mp this
    rw [← txt_eq (hok v hv).2.2.1 (c.ok q hq).2.2.1 e]
    exact hv
  have hpg : ∀ v ∈ vs, Good (prt s L v) ∧ ht (prt s L v) ≤ h + 1 ∧ cn s (prt s L v) = [(tot L (txt v), txt v)] := fun v hv => by
    obtain ⟨a1, a2, a3, a4, a5, a6⟩ := hok v hv
    have e1 : cn s v = [(1, txt v)] := by rw [cn_out a4, a5]
    unfold prt
    split
    · rename_i e
      exact ⟨a3, by omega, by rw [e1, e]⟩
    · rename_i e
      refine ⟨⟨by omega, a2, a3⟩, by rw [PL.ht]; omega, ?_⟩
      rw [cn_in (s := s) rfl]
      simp [kids, e1, PL.scl]
  have hjn : ∀ L', ky L' = ky L → (∀ v ∈ vs, tot L' (txt v) = tot L (txt v)) → jn s L' = jn s L := fun L' e1 e2 => by
    unfold jn
    rw [e1, ← hv1]
    have : (vs.map txt).map (fun k => pt s (tot L' k) k) = (vs.map txt).map fun k => pt s (tot L k) k := by
      rw [List.map_map, List.map_map]
      exact List.map_congr_left fun v hv => by simp only [Function.comp]; rw [e2 v hv]
    rw [this]
  have hjv : (ky L).map (fun k => pt s (tot L k) k) = (vs.map (prt s L)).map txt := by
    rw [← hv1, List.map_map, List.map_map]
    exact List.map_congr_left fun v hv => by simp only [Function.comp]; rw [prt_txt]
  have hlv : ∀ k, (∃ v ∈ vs, k ∈ lv v) ↔ k ∈ lv t := fun k => by
    rw [← c.lv k]
    constructor
    · rintro ⟨v, hv, hk⟩
      obtain ⟨n, m, hq⟩ := hv2 v hv
      exact ⟨_, hq, hk⟩
    · rintro ⟨q, hq, hk⟩
      exact ⟨_, hall q hq, hk⟩
  have hnz : (vs.map fun v => nds v + 1).sum ≤ z := by
    have : DecidableEq T := fun a b => Classical.propDecidable (a = b)
    refine Nat.le_trans (sum_sub (fun v : T => nds v + 1) ((List.pairwise_map.mp hnd).imp fun h e => h (by rw [e])) (ls := us.map (·.2.1)) fun v hv => ?_) (by rw [List.map_map]; exact c.nd)
    obtain ⟨n, m, hq⟩ := hv2 v hv
    exact List.mem_map.mpr ⟨_, hq, rfl⟩
  have hpn : ∀ v, nds (prt s L v) ≤ nds v + 1 := fun v => by
    unfold prt
    split
    · omega
    · rw [nds]; exact Nat.le_refl _
  have hpp : (vs.map fun v => tot L (txt v) * ppl v).sum = ppl t := by
    rw [← c.sum, c.eq, group_sum hnd hall]
    exact congrArg List.sum (List.map_congr_left fun q hq => by rw [(c.ok q hq).2.2.2.2.2.2])
  have hpv : ∀ v, ppl (prt s L v) = tot L (txt v) * ppl v := fun v => by
    unfold prt
    split
    · rename_i e; rw [e]; simp
    · rw [ppl]
  have hL' : ky (vs.map fun v => (tot L (txt v), txt v)) = ky L := by
    refine ky_congr fun k => ?_
    have : k ∈ ky L ↔ ∃ q ∈ L, q.2 = k := ky_mem
    rw [← this, ← hv1]
    constructor
    · rintro ⟨q, hq, rfl⟩
      obtain ⟨v, hv, rfl⟩ := List.mem_map.mp hq
      exact List.mem_map_of_mem hv
    · intro hk
      obtain ⟨v, hv, rfl⟩ := List.mem_map.mp hk
      exact ⟨_, List.mem_map_of_mem (f := fun v => (tot L (txt v), txt v)) hv, rfl⟩
  have hfin := hjn _ hL' fun v hv => tot_one (f := fun v => tot L (txt v)) hnd hv
  match vs, hjv, hnd, hok, hall, hpg, hlv, hfin, hnz, hpp with
  | [], _, _, _, hall, _, _, _, _, _ =>
    cases us with
    | nil => simp at h2
    | cons q r => exact absurd (hall q List.mem_cons_self) (by simp)
  | [v], hjv, _, hok, hall, hpg, hlv, hfin, hnz, hpp =>
    obtain ⟨a1, a2, a3, a4, a5, a6⟩ := hok v List.mem_cons_self
    have ec : tot L (txt v) = (L.map (·.1)).sum := by
      unfold tot
      rw [List.filter_eq_self.mpr]
      intro q hq
      rw [c.eq] at hq
      obtain ⟨q0, h0, rfl⟩ := List.mem_map.mp hq
      rw [List.mem_singleton.mp (hall q0 h0)]
      exact decide_eq_true rfl
    have e2 : prt s L v = .cop s (tot L (txt v)) v := by unfold prt; rw [if_neg (by omega)]
    obtain ⟨b1, b2, b3⟩ := hpg v List.mem_cons_self
    have tx : txt (prt s L v) = jn s L := by unfold jn; rw [hjv]; rfl
    refine ⟨prt s L v, b1, by rw [tx, ht'], by rw [e2, hw]; rfl, ?_, by omega, by have := hpn v; simp at hnz; omega, by rw [hpv]; simpa using hpp, fun k => ?_⟩
    · rw [nrm_in (s := s) (by rw [e2]; rfl), b3, tx]; exact hfin
    · rw [prt_lv, ← hlv k]; simp
  | v :: v' :: r, hjv, _, hok, hall, hpg, hlv, hfin, hnz, hpp =>
    have tx : txt (.row s ((v :: v' :: r).map (prt s L))) = jn s L := by unfold jn; rw [hjv, txt, txts_map]; rfl
    refine ⟨.row s ((v :: v' :: r).map (prt s L)), ⟨by simp, goods_all.mpr fun x hx => ?_⟩, by rw [tx, ht'], by rw [hw]; rfl, ?_, ?_, ?_, ?_, fun k => ?_⟩
    · obtain ⟨y, hy, rfl⟩ := List.mem_map.mp hx
      exact (hpg y hy).1
    · rw [nrm_in (s := s) rfl, cn_in (s := s) rfl, tx, ← hfin]
      congr 1
      rw [kids, List.flatMap_map, List.flatMap_map]
      rw [← List.flatMap_singleton' (List.map (fun v => (tot L (txt v), txt v)) (v :: v' :: r)), List.flatMap_map]
      refine fm_congr fun y hy => ?_
      rw [scl_one, (hpg y hy).2.2]
    · rw [PL.ht]
      have : hts ((v :: v' :: r).map (prt s L)) ≤ h + 1 := by
        have : ∀ l : List T, (∀ x ∈ l, PL.ht x ≤ h + 1) → hts l ≤ h + 1 := by
          intro l
          induction l with
          | nil => intro _; rw [hts]; omega
          | cons x r ih => intro hl; rw [hts]; have a := hl x List.mem_cons_self; have b := ih fun y hy => hl y (List.mem_cons_of_mem _ hy); omega
        refine this _ fun x hx => ?_
        obtain ⟨y, hy, rfl⟩ := List.mem_map.mp hx
        exact (hpg y hy).2.1
      omega
    · have : ∀ l : List T, ndss (l.map (prt s L)) ≤ (l.map fun v => nds v + 1).sum := by
        intro l
        induction l with
        | nil => rw [List.map_nil, ndss]; exact Nat.zero_le _
        | cons x r ih => rw [List.map_cons, ndss, List.map_cons, List.sum_cons]; exact Nat.add_le_add (hpn x) ih
      have := this (v :: v' :: r)
      rw [nds]; omega
    · rw [ppl, ppls_sum, List.map_map, ← hpp]
      exact congrArg List.sum (List.map_congr_left fun v _ => hpv v)
    · rw [lv, lvL_flat, List.mem_flatMap, ← hlv k]
      constructor
      · rintro ⟨x, hx, hk⟩
        obtain ⟨y, hy, rfl⟩ := List.mem_map.mp hx
        rw [prt_lv] at hk
        exact ⟨y, hy, hk⟩
      · rintro ⟨y, hy, hk⟩
        exact ⟨_, List.mem_map_of_mem hy, by rw [prt_lv]; exact hk⟩
theorem nz_all : ∀ t, Good t → ppl t ≤ 10 ^ 30 → (∃ u, Nz t u) ∧ ∀ b, ∃ us, Cz b (cn b t) (ppl t) (if wd t = some b then 2 * ht t - 2 else 2 * ht t) (if wd t = some b then 2 * nds t - 2 else 2 * nds t) (fun k => k ∈ lv t) us := by
  refine kids_rec fun t ih hg h30 => ?_
  cases hw : wd t with
  | none =>
    have e1 := nrm_leaf hw
    have e2 : ppl t = 1 := by
      cases t with
      | one => rw [ppl]
      | name x => rw [ppl]
      | cop s n u => cases hw
      | row s ts => cases hw
    have e3 : nds t = 1 := by
      cases t with
      | one => rw [nds]
      | name x => rw [nds]
      | cop s n u => cases hw
      | row s ts => cases hw
    refine ⟨⟨t, hg, e1.symm, rfl, e1, by omega, by omega, rfl, fun k => Iff.rfl⟩, fun b => ⟨[(1, t, 1)], ?_⟩⟩
    rw [cn_out (by rw [hw]; simp), if_neg (by simp), if_neg (by simp)]
    exact ⟨by rw [e1]; rfl, fun q hq => by rw [List.mem_singleton.mp hq]; exact ⟨Nat.le_refl _, Nat.le_refl _, hg, by rw [hw]; simp, e1, by simp; omega, e2.symm⟩, by simp [e2], by simp [e3], fun k => by simp⟩
  | some s =>
    have hn : ∀ x, t ≠ .name x := fun x e => by rw [e] at hw; cases hw
    have hk0 : kids t ≠ [] := by
      cases t with
      | one => cases hw
      | name x => cases hw
      | cop s n u => simp [kids]
      | row s ts =>
        have := hg.1
        intro e
        have h0 : ts.map (fun t => (1, t)) = [] := e
        rw [List.map_eq_nil_iff] at h0
        rw [h0] at this; simp at this
    have epp := ppl_kids hk0
    have h2 : 2 ≤ ((kids t).map (·.1)).sum := by
      cases t with
      | one => cases hw
      | name x => cases hw
      | cop s n u => simp [kids]; exact hg.1
      | row s ts => rw [show ((kids (.row s ts)).map (·.1)).sum = cnt (.row s ts) from rfl, cnt_row]; exact hg.1
    obtain ⟨us, c, hc⟩ := Cz.kids (b := s) (h := 2 * ht t - 2) (l := kids t) fun q hq => by
      obtain ⟨g1, g2, g3, g4, g5⟩ := kids_ok hq hg
      have hp := ppl_pos g1
      have hle : q.1 * ppl q.2 ≤ ppl t := by rw [epp]; exact mem_le_sum (List.mem_map_of_mem (f := fun q : Nat × T => q.1 * ppl q.2) hq)
      have hle2 : ppl q.2 ≤ q.1 * ppl q.2 := Nat.le_mul_of_pos_left _ (by omega)
      obtain ⟨us, c⟩ := (ih q hq g1 (by omega)).2 s
      refine ⟨g4, hp, us, c.up ?_ ?_ fun k => Iff.rfl⟩
      · split <;> omega
      · split <;> omega
    rw [← cn_in hw, ← epp] at c
    have hkn := kids_nds hk0
    have c := c.up (N' := fun k => k ∈ lv t) (Nat.le_refl _) (show 2 * ((kids t).map fun q => nds q.2).sum ≤ 2 * nds t - 2 by omega) fun k => by rw [lv_kids hn, List.mem_flatMap]
    have hpos : 1 ≤ ht t := by
      cases t with
      | one => cases hw
      | name x => cases hw
      | cop s n u => rw [ht]; omega
      | row s ts => rw [ht]; omega
    have hnp : 1 ≤ nds t := by omega
    have J := nz_join hw c (by omega) (by omega) (by omega) h30
    refine ⟨J, fun b => ?_⟩
    by_cases hb : s = b
    · subst hb
      rw [if_pos rfl, if_pos rfl]
      exact ⟨us, c⟩
    · have hb' : wd t ≠ some b := by rw [hw]; exact fun e => hb (Option.some.inj e)
      have hb2 : ¬ some s = some b := fun e => hb (Option.some.inj e)
      obtain ⟨u, z⟩ := J
      rw [cn_out hb', if_neg hb2, if_neg hb2]
      have hp := ppl_pos hg
      refine ⟨[(1, u, ppl t)], by rw [← z.tx]; rfl, fun q hq => ?_, by simp, ?_, fun k => ?_⟩
      · rw [List.mem_singleton.mp hq]
        exact ⟨Nat.le_refl _, hp, z.g, by rw [z.wd]; exact hb', z.nf, z.ht, z.pp.symm⟩
      · simp; exact z.nd
      · rw [← z.lv k]; simp
end PL
/-! PMF3: how long normal forms are. -/
namespace PL
open PySem SX TL
def wl (L : CL) : Nat := (L.map fun q => q.2.length + 45).sum
theorem join_len2 (S : List Nat) (hS : S.length = 3) : ∀ ps : List (List Nat), (joinL S ps).length ≤ (ps.map fun p => p.length + 3).sum
  | [] => by rw [joinL]; simp
  | [p] => by rw [joinL]; simp
  | p :: q :: r => by
    have ih := join_len2 S hS (q :: r)
    have e : joinL S (p :: q :: r) = p ++ (S ++ joinL S (q :: r)) := by rw [joinL]
    rw [e, List.length_append, List.length_append, hS, List.map_cons, List.sum_cons]
    omega
theorem pt_len {s : Bool} {n : Nat} {k : List Nat} (h : n ≤ 10 ^ 30) : (pt s n k).length ≤ k.length + 34 := by
  have : (numL n).length ≤ 31 := numL_len (by decide) (Nat.lt_of_le_of_lt h (by decide))
  unfold pt
  split
  · omega
  · simp; omega
theorem jn_len {s : Bool} {L : CL} (h : ∀ k ∈ ky L, tot L k ≤ 10 ^ 30) : (jn s L).length ≤ wl L + 2 := by
  have h1 : (((ky L).map fun k => pt s (tot L k) k).map fun p => p.length + 3).sum ≤ ((ky L).map fun k => k.length + 45).sum := by
    rw [List.map_map]
    generalize ky L = ks at h
    induction ks with
    | nil => simp
    | cons k r ih =>
      have := ih fun x hx => h x (List.mem_cons_of_mem _ hx)
      have := pt_len (s := s) (k := k) (h k List.mem_cons_self)
      simp only [List.map_cons, List.sum_cons, Function.comp] at *
      omega
  have h2 : ((ky L).map fun k => k.length + 45).sum ≤ wl L := by
    unfold wl
    have := sum_sub (fun k : List Nat => k.length + 45) (ky_nd L) (ls := L.map (·.2)) fun k hk => by
      obtain ⟨q, hq, rfl⟩ := ky_mem.mp hk
      exact List.mem_map_of_mem hq
    rw [List.map_map] at this
    exact this
  have h3 := join_len2 (sep s) rfl ((ky L).map fun k => pt s (tot L k) k)
  unfold jn
  split
  · rename_i x e
    rw [e] at h1
    simp at h1; omega
  · simp; omega
theorem wl_app (L L' : CL) : wl (L ++ L') = wl L + wl L' := by unfold wl; rw [List.map_append, List.sum_append]
theorem wl_scl (n : Nat) (L : CL) : wl (scl n L) = wl L := by unfold wl scl; rw [List.map_map]; rfl
theorem cn_sum {t : T} (b : Bool) (hg : Good t) (h30 : ppl t ≤ 10 ^ 30) : ((cn b t).map (·.1)).sum ≤ ppl t := by
  obtain ⟨us, c⟩ := (nz_all t hg h30).2 b
  rw [c.eq, ← c.sum, List.map_map]
  have : ∀ l : List Pc3, (∀ q ∈ l, 1 ≤ q.2.2) → (l.map ((·.1) ∘ fun q : Pc3 => (q.1, txt q.2.1))).sum ≤ (l.map fun q => q.1 * q.2.2).sum := by
    intro l
    induction l with
    | nil => intro _; exact Nat.le_refl _
    | cons q r ih =>
      intro hl
      have h1 := ih fun x hx => hl x (List.mem_cons_of_mem _ hx)
      have h2 := Nat.mul_le_mul_left q.1 (hl q List.mem_cons_self)
      simp only [List.map_cons, List.sum_cons, Function.comp] at *; omega
  exact this us fun q hq => (c.ok q hq).2.1
theorem wd_kids {t : T} {s : Bool} (h : wd t = some s) (hg : Good t) : kids t ≠ [] := by
  cases t with
  | one => cases h
  | name x => cases h
  | cop s n u => simp [kids]
  | row s ts =>
    have := hg.1
    intro e
    have h0 : ts.map (fun t => (1, t)) = [] := e
    rw [List.map_eq_nil_iff] at h0
    rw [h0] at this; simp at this
theorem kid_ppl {t : T} {q : Nat × T} (hq : q ∈ kids t) (hg : Good t) : ppl q.2 ≤ ppl t := by
  obtain ⟨g1, g2, g3, g4, g5⟩ := kids_ok hq hg
  have hle : q.1 * ppl q.2 ≤ ppl t := by rw [ppl_kids (t := t) (fun e => by rw [e] at hq; cases hq)]; exact mem_le_sum (List.mem_map_of_mem (f := fun q : Nat × T => q.1 * ppl q.2) hq)
  exact Nat.le_trans (Nat.le_mul_of_pos_left _ (by omega)) hle
theorem wl_all : ∀ t, Good t → ppl t ≤ 10 ^ 30 → (nrm t).length + 45 ≤ 90 * nds t ∧ ∀ b, wl (cn b t) ≤ 90 * nds t := by
  refine kids_rec fun t ih hg h30 => ?_
  cases hw : wd t with
  | none =>
    have e1 := nrm_leaf hw
    have h1 : (txt t).length ≤ 8 ∧ nds t = 1 := by
      cases t with
      | one => rw [txt, nds]; decide
      | name x => rw [txt, nds]; exact ⟨hg.2.1, rfl⟩
      | cop s n u => cases hw
      | row s ts => cases hw
    refine ⟨by rw [e1]; omega, fun b => ?_⟩
    rw [cn_out (by rw [hw]; simp), e1]
    unfold wl
    simp; omega
  | some s =>
    have hk0 := wd_kids hw hg
    have hn := kids_nds hk0
    have hs : wl (cn s t) + 90 ≤ 90 * nds t := by
      rw [cn_in hw]
      have : ∀ l : List (Nat × T), (∀ q ∈ l, wl (cn s q.2) ≤ 90 * nds q.2) → wl (l.flatMap fun q => scl q.1 (cn s q.2)) ≤ 90 * (l.map fun q => nds q.2).sum := by
        intro l
        induction l with
        | nil => intro _; simp [wl]
        | cons q r ih =>
          intro hl
          have h1 := ih fun x hx => hl x (List.mem_cons_of_mem _ hx)
          have h2 := hl q List.mem_cons_self
          rw [List.flatMap_cons, wl_app, wl_scl, List.map_cons, List.sum_cons, Nat.mul_add]
          omega
      have := this (kids t) fun q hq => (ih q hq (kids_ok hq hg).1 (Nat.le_trans (kid_ppl hq hg) h30)).2 s
      omega
    have hj := jn_len (s := s) (L := cn s t) fun k hk => by
      have a := tot_le (cn s t) k
      have b := cn_sum s hg h30
      omega
    have h45 : (nrm t).length + 45 ≤ 90 * nds t := by rw [nrm_in hw]; omega
    refine ⟨h45, fun b => ?_⟩
    by_cases hb : s = b
    · subst hb; omega
    · rw [cn_out (by rw [hw]; exact fun e => hb (Option.some.inj e))]
      unfold wl
      simp; omega
/-! ### how many pieces unlike -/
mutual
def ic : T → Nat
  | .one => 0
  | .name _ => 0
  | .cop _ _ u => ic u + 1
  | .row _ ts => ics ts + 1
def ics : List T → Nat
  | [] => 0
  | t :: ts => ic t + ics ts
end
theorem kids_ic {t : T} (h : kids t ≠ []) : ((kids t).map fun q => ic q.2).sum + 1 = ic t := by
  cases t with
  | one => exact absurd rfl h
  | name x => exact absurd rfl h
  | cop s n u => rw [ic]; simp [kids]
  | row s ts =>
    rw [ic, kids, List.map_map]
    have : ∀ ts : List T, (ts.map ((fun q : Nat × T => ic q.2) ∘ fun t => (1, t))).sum = ics ts := by
      intro ts
      induction ts with
      | nil => rw [ics]; rfl
      | cons t r ih => rw [ics, List.map_cons, List.sum_cons, ih]; rfl
    rw [this]
theorem cand (b : Bool) : ∀ t, Good t → ∃ E : List (List Nat), E.length ≤ ic t ∧ ∀ q ∈ cn b t, q.2 = [49] ∨ S q.2 ∈ lv t ∨ q.2 ∈ E := by
  refine kids_rec fun t ih hg => ?_
  cases hw : wd t with
  | none =>
    have e1 := nrm_leaf hw
    refine ⟨[], Nat.zero_le _, fun q hq => ?_⟩
    rw [cn_out (by rw [hw]; simp), e1] at hq
    rw [List.mem_singleton.mp hq]
    cases t with
    | one => exact .inl (by rw [txt])
    | name x => exact .inr (.inl (by rw [txt, lv]; simp))
    | cop s n u => cases hw
    | row s ts => cases hw
  | some s =>
    have hk0 := wd_kids hw hg
    have hn := kids_ic hk0
    by_cases hb : s = b
    · subst hb
      have hnn : ∀ x, t ≠ .name x := fun x e => by rw [e] at hw; cases hw
      have : ∀ l : List (Nat × T), (∀ q ∈ l, ∃ E : List (List Nat), E.length ≤ ic q.2 ∧ ∀ x ∈ cn s q.2, x.2 = [49] ∨ S x.2 ∈ lv q.2 ∨ x.2 ∈ E) →
          ∃ E : List (List Nat), E.length ≤ (l.map fun q => ic q.2).sum ∧ ∀ x ∈ l.flatMap fun q => scl q.1 (cn s q.2), x.2 = [49] ∨ S x.2 ∈ l.flatMap (fun q => lv q.2) ∨ x.2 ∈ E := by
        intro l
        induction l with
        | nil => intro _; exact ⟨[], by simp, fun x hx => by simp at hx⟩
        | cons q r ih =>
          intro hl
          obtain ⟨E, h1, h2⟩ := ih fun x hx => hl x (List.mem_cons_of_mem _ hx)
          obtain ⟨E', h3, h4⟩ := hl q List.mem_cons_self
          refine ⟨E' ++ E, by rw [List.length_append, List.map_cons, List.sum_cons]; omega, fun x hx => ?_⟩
          rw [List.flatMap_cons] at hx ⊢
          rcases List.mem_append.mp hx with hx | hx
          · unfold scl at hx
            obtain ⟨y, hy, rfl⟩ := List.mem_map.mp hx
            rcases h4 y hy with h | h | h
            · exact .inl h
            · exact .inr (.inl (List.mem_append_left _ h))
            · exact .inr (.inr (List.mem_append_left _ h))
          · rcases h2 x hx with h | h | h
            · exact .inl h
            · exact .inr (.inl (List.mem_append_right _ h))
            · exact .inr (.inr (List.mem_append_right _ h))
      obtain ⟨E, h1, h2⟩ := this (kids t) fun q hq => ih q hq (kids_ok hq hg).1
      refine ⟨E, by omega, fun q hq => ?_⟩
      rw [cn_in hw] at hq
      rw [lv_kids hnn]
      exact h2 q hq
    · refine ⟨[nrm t], by simp; omega, fun q hq => ?_⟩
      rw [cn_out (by rw [hw]; exact fun e => hb (Option.some.inj e))] at hq
      rw [List.mem_singleton.mp hq]
      exact .inr (.inr (by simp))
theorem ky_len {t : T} (b : Bool) (hg : Good t) : (ky (cn b t)).length ≤ ic t + (nmT t).length + 1 := by
  obtain ⟨E, h1, h2⟩ := cand b t hg
  have := List.Nodup.length_le_of_subset (ky_nd (cn b t)) (l₂ := [49] :: ((nmT t).map fun z => z.cps.toList) ++ E) fun k hk => by
    obtain ⟨q, hq, rfl⟩ := ky_mem.mp hk
    rcases h2 q hq with h | h | h
    · rw [h]; simp
    · exact List.mem_append_left _ (List.mem_cons_of_mem _ (List.mem_map.mpr ⟨S q.2, (nmT_mem _ _).mpr h, rfl⟩))
    · exact List.mem_append_right _ h
  simp at this
  omega
theorem ic_ppl : ∀ t, Good t → ic t + 1 ≤ ppl t := by
  refine kids_rec fun t ih hg => ?_
  by_cases hk : kids t = []
  · cases t with
    | one => rw [ic, ppl]; decide
    | name x => rw [ic, ppl]; decide
    | cop s n u => simp [kids] at hk
    | row s ts =>
      have := hg.1
      have h0 : ts.map (fun t => (1, t)) = [] := hk
      rw [List.map_eq_nil_iff] at h0
      rw [h0] at this; simp at this
  · have e1 := kids_ic hk
    have e2 := ppl_kids hk
    cases t with
    | one => exact absurd rfl hk
    | name x => exact absurd rfl hk
    | cop s n u =>
      have h1 := ih (n, u) (by simp [kids]) hg.2.2
      have h2 := hg.1
      simp only [kids, List.map_cons, List.map_nil, List.sum_cons, List.sum_nil] at e1 e2 h1
      have : 2 * ppl u ≤ n * ppl u := Nat.mul_le_mul_right _ h2
      omega
    | row s ts =>
      have h2 := hg.1
      have : ∀ l : List T, (∀ u ∈ l, ic u + 1 ≤ ppl u) → ((l.map fun t => (1, t)).map fun q : Nat × T => ic q.2).sum + l.length ≤ ((l.map fun t => (1, t)).map fun q : Nat × T => q.1 * ppl q.2).sum := by
        intro l
        induction l with
        | nil => intro _; simp
        | cons u r ih =>
          intro hl
          have h1 := ih fun x hx => hl x (List.mem_cons_of_mem _ hx)
          have h2 := hl u List.mem_cons_self
          simp only [List.map_cons, List.sum_cons, List.length_cons, Nat.one_mul] at *
          omega
      have := this ts fun u hu => ih (1, u) (List.mem_map.mpr ⟨u, hu, rfl⟩) (goods_all.mp hg.2 u hu)
      rw [show kids (.row s ts) = ts.map (fun t => (1, t)) from rfl] at e1 e2
      omega
end PL
/-! PMB: drawn plans with names. -/
namespace PL
open PySem SX TL
mutual
/-- its names are among these -/
def NI (ns : List (List Nat)) : T → Prop
  | .one => True
  | .name x => x ∈ ns
  | .cop _ _ t => NI ns t
  | .row _ ts => NIs ns ts
def NIs (ns : List (List Nat)) : List T → Prop
  | [] => True
  | t :: ts => NI ns t ∧ NIs ns ts
end
theorem nis_all {ns : List (List Nat)} : ∀ {ts : List T}, NIs ns ts ↔ ∀ t ∈ ts, NI ns t
  | [] => by simp [NIs]
  | t :: ts => by simp [NIs, nis_all (ts := ts)]
theorem ni_lv {ns : List (List Nat)} : ∀ t : T, NI ns t → ∀ k ∈ lv t, ∃ x ∈ ns, k = S x := by
  refine kids_rec fun t ih h k hk => ?_
  cases t with
  | one => rw [lv] at hk; cases hk
  | name x => rw [lv, List.mem_singleton] at hk; exact ⟨x, h, hk⟩
  | cop s n u => rw [lv] at hk; exact ih (n, u) (by simp [kids]) h k hk
  | row s ts =>
    rw [lv, lvL_flat, List.mem_flatMap] at hk
    obtain ⟨u, hu, hk⟩ := hk
    exact ih (1, u) (List.mem_map.mpr ⟨u, hu, rfl⟩) (nis_all.mp h u hu) k hk
theorem ni_nm {ns : List (List Nat)} {t : T} (h : NI ns t) : (nmT t).length ≤ ns.length := by
  have := List.Nodup.length_le_of_subset (nmsOf_nd (lv t)) (l₂ := ns.map S) fun k hk => by
    obtain ⟨x, hx, rfl⟩ := ni_lv t h k ((nmsOf_mem _ _).mp hk)
    exact List.mem_map_of_mem hx
  simpa [nmT] using this
/-- a drawn plan of s people, dp deep -/
def Btn (ns : List (List Nat)) (t : T) (s dp : Nat) : Prop := Good t ∧ NI ns t ∧ ppl t = s ∧ ht t ≤ dp + 1 ∧ (txt t).length ≤ 40 * (s * (dp + 2))
def Btns (ns : List (List Nat)) : List T → List Nat → Nat → Prop
  | [], [], _ => True
  | t :: ts, z :: zs, dp => Btn ns t z dp ∧ Btns ns ts zs dp
  | _, _, _ => False
theorem btns_snoc {ns : List (List Nat)} {t : T} {z dp : Nat} (h : Btn ns t z dp) : ∀ {ts : List T} {zs : List Nat}, Btns ns ts zs dp → Btns ns (ts ++ [t]) (zs ++ [z]) dp
  | [], [], _ => ⟨h, trivial⟩
  | _ :: _, _ :: _, g => ⟨g.1, btns_snoc h g.2⟩
  | [], _ :: _, g => g.elim
  | _ :: _, [], g => g.elim
theorem btns_len {ns : List (List Nat)} {dp : Nat} : ∀ {ts : List T} {zs : List Nat}, Btns ns ts zs dp → ts.length = zs.length
  | [], [], _ => rfl
  | _ :: _, _ :: _, g => by rw [List.length_cons, List.length_cons, btns_len g.2]
  | [], _ :: _, g => g.elim
  | _ :: _, [], g => g.elim
theorem btns_all {ns : List (List Nat)} {dp : Nat} (b : Bool) : ∀ {ts : List T} {zs : List Nat}, Btns ns ts zs dp → Goods ts ∧ NIs ns ts ∧ ppls ts = zs.sum ∧ hts ts ≤ dp + 1 ∧ (joinL (sep b) (txts ts)).length ≤ 40 * (zs.sum * (dp + 2)) + 3 * ts.length
  | [], [], _ => ⟨trivial, trivial, rfl, Nat.zero_le _, by rw [txts, joinL]; simp⟩
  | [t], [z], g => by
    obtain ⟨⟨g1, g2, g3, g4, g5⟩, _⟩ := g
    refine ⟨⟨g1, trivial⟩, ⟨g2, trivial⟩, by rw [ppls, ppls, g3]; simp, by rw [hts, hts]; simp; exact g4, ?_⟩
    rw [txts, txts, joinL]
    simp; omega
  | t :: u :: ts, z :: y :: zs, g => by
    obtain ⟨⟨g1, g2, g3, g4, g5⟩, r⟩ := g
    obtain ⟨h1, h2, h3, h4, h5⟩ := btns_all b r
    refine ⟨⟨g1, h1⟩, ⟨g2, h2⟩, by rw [ppls, g3, h3]; simp, by rw [hts]; omega, ?_⟩
    have e1 : joinL (sep b) (txts (t :: u :: ts)) = txt t ++ (sep b ++ joinL (sep b) (txts (u :: ts))) := by rw [txts, txts, joinL]
    rw [e1, List.length_append, List.length_append, sep_len, List.length_cons]
    have e2 : (z :: y :: zs).sum * (dp + 2) = z * (dp + 2) + (y :: zs).sum * (dp + 2) := by rw [List.sum_cons, Nat.add_mul]
    rw [e2]
    omega
  | [], _ :: _, g => g.elim
  | _ :: _, [], g => g.elim
  | [_], _ :: _ :: _, g => g.2.elim
  | _ :: _ :: _, [_], g => g.2.elim
theorem btn_one {ns : List (List Nat)} (dp : Nat) : Btn ns .one 1 dp := ⟨trivial, trivial, by rw [ppl], by rw [ht]; omega, by rw [txt]; simp; omega⟩
theorem btn_row {ns : List (List Nat)} {ts : List T} {zs : List Nat} {dp s : Nat} (b : Bool) (h : Btns ns ts zs dp) (h2 : 2 ≤ zs.length) (h3 : zs.length ≤ 3) (hs : zs.sum = s) (h1 : 2 ≤ s) : Btn ns (.row b ts) s (dp + 1) := by
  obtain ⟨g1, g2, g3, g4, g5⟩ := btns_all b h
  have hl := btns_len h
  refine ⟨⟨by omega, g1⟩, g2, by rw [ppl, g3, hs], by rw [ht]; omega, ?_⟩
  rw [txt]
  simp only [List.length_cons, List.length_append, List.length_nil]
  rw [hs] at g5
  have e : s * (dp + 1 + 2) = s * (dp + 2) + s := by rw [show dp + 1 + 2 = (dp + 2) + 1 by omega, Nat.mul_succ]
  rw [e]
  omega
theorem btn_cop {ns : List (List Nat)} {t : T} {n s' s dp dp' : Nat} (b : Bool) (h : Btn ns t s' dp') (hn : 2 ≤ n) (hn2 : n ≤ 10 ^ 30) (hs : n * s' = s) (h1 : 1 ≤ s') (hd : dp' + 1 ≤ dp ∨ (s' = 1 ∧ dp = 0 ∧ dp' = 0 ∧ ht t = 0)) : Btn ns (.cop b n t) s dp := by
  obtain ⟨g1, g2, g3, g4, g5⟩ := h
  have hlen : (numL n).length ≤ 31 := numL_len (by decide) (Nat.lt_of_le_of_lt hn2 (by decide))
  have hss : 2 * s' ≤ s := by rw [← hs]; exact Nat.mul_le_mul_right _ hn
  refine ⟨⟨hn, hn2, g1⟩, g2, by rw [ppl, g3, hs], by rw [ht]; omega, ?_⟩
  rw [txt]
  simp only [List.length_cons, List.length_append, List.length_nil]
  have key : s' * (dp' + 2) + 1 ≤ s * (dp + 2) := by
    rcases hd with hd | ⟨rfl, rfl, rfl, _⟩
    · have e1 : s' * (dp' + 2) ≤ s' * (dp + 2) := Nat.mul_le_mul_left _ (by omega)
      have e2 : 2 * s' * (dp + 2) ≤ s * (dp + 2) := Nat.mul_le_mul_right _ hss
      have e3 : 2 * s' * (dp + 2) = s' * (dp + 2) + s' * (dp + 2) := by rw [Nat.mul_assoc]; omega
      have e4 : 1 ≤ s' * (dp + 2) := Nat.mul_pos h1 (by omega)
      omega
    · omega
  omega
theorem btn_name {ns : List (List Nat)} {x : List Nat} (dp : Nat) (h : x ∈ ns) (g : Good (.name x)) : Btn ns (.name x) 1 dp := ⟨g, h, by rw [ppl], by rw [ht]; omega, by rw [txt]; have := g.2.1; omega⟩
theorem lv_nds : ∀ t : T, (lv t).length ≤ nds t := by
  refine kids_rec fun t ih => ?_
  by_cases hk : kids t = []
  · cases t with
    | one => rw [lv]; simp
    | name x => rw [lv, nds]; simp
    | cop s n u => simp [kids] at hk
    | row s ts =>
      have h0 : ts.map (fun t => (1, t)) = [] := hk
      rw [List.map_eq_nil_iff] at h0
      subst h0
      rw [lv, lvL]; simp
  · have hn := kids_nds hk
    have hnn : ∀ x, t ≠ .name x := fun x e => hk (by rw [e]; rfl)
    rw [lv_kids hnn]
    have : ∀ l : List (Nat × T), (∀ q ∈ l, (lv q.2).length ≤ nds q.2) → (l.flatMap fun q => lv q.2).length ≤ (l.map fun q => nds q.2).sum := by
      intro l
      induction l with
      | nil => intro _; simp
      | cons q r ih =>
        intro hl
        rw [List.flatMap_cons, List.length_append, List.map_cons, List.sum_cons]
        have := ih fun x hx => hl x (List.mem_cons_of_mem _ hx)
        have := hl q List.mem_cons_self
        omega
    have := this (kids t) ih
    omega
theorem nds_ppl : ∀ t : T, Good t → nds t + 1 ≤ 2 * ppl t := by
  refine kids_rec fun t ih hg => ?_
  cases t with
  | one => rw [nds, ppl]; decide
  | name x => rw [nds, ppl]; decide
  | cop s n u =>
    have h1 := ih (n, u) (by simp [kids]) hg.2.2
    have h2 := hg.1
    simp only at h1
    rw [nds, ppl]
    have : 2 * ppl u ≤ n * ppl u := Nat.mul_le_mul_right _ h2
    omega
  | row s ts =>
    have h2 := hg.1
    have : ∀ l : List T, (∀ u ∈ l, nds u + 1 ≤ 2 * ppl u) → ndss l + l.length ≤ 2 * ppls l := by
      intro l
      induction l with
      | nil => intro _; rw [ndss, ppls]; simp
      | cons u r ih =>
        intro hl
        have h1 := ih fun x hx => hl x (List.mem_cons_of_mem _ hx)
        have h2 := hl u List.mem_cons_self
        rw [ndss, ppls, List.length_cons]; omega
    have := this ts fun u hu => ih (1, u) (List.mem_map.mpr ⟨u, hu, rfl⟩) (goods_all.mp hg.2 u hu)
    rw [nds, ppl]; omega
end PL
/-! C11: drawn lores. -/
namespace W
open PySem PySem.Spec PyProof.Rows L2 DL SX PL
def ifThen : Stmt → List Stmt
  | .If _ a _ _ => a
  | _ => []
def nth (st : Stmt) (i : Nat) : Stmt := (defBody st).getD i (.Pass ⟨0, 0, 0, 0⟩)
section
variable {P : Program} {w : World} {K : PySem.W.Frag} {mg : Str → Option Value} {base : Heap} {C : Addr}
theorem mset_self {M : Mp} {p : Addr} {o : MO} (h : M p = some o) : mset M p o = M := by
  funext b
  unfold mset
  split
  · rename_i e; rw [e, h]
  · rfl
abbrev nBuilt : List Str := ["_law_pot_here", "_law_size", "_law_deep", "_law_names", "_law_sign", "_law_fits", "_law_copies", "_law_first", "_law_sizes", "_law_second", "_law_index", "_law_part"]
def cost (s dp : Nat) : Nat := 5 * (s * (dp + 2))
def cBuiltN (m : Nat) : Con := fun ds M Φ => ∃ ns p s dp a c d, ds = [.ob p, .int (s : Nat), .int (dp : Nat), .lst (ns.map tS)] ∧ 1 ≤ s ∧ s ≤ 1000 ∧ dp ≤ 20 ∧ (s = 1 ∨ dp + 1 ≤ m) ∧ ns.length ≤ 4 ∧ (∀ x ∈ ns, Good (.name x)) ∧ M p = some (potL a c d) ∧ cOk c ∧ 0 ≤ d ∧ d + (cost s dp : Nat) < 100000 ∧
  ∀ t a' d', Btn ns t s dp → d ≤ d' → d' ≤ d + (cost s dp : Nat) → Φ (loreD t) (mset M p (potL a' c d'))
theorem sign_at {r : Int} (h0 : 0 ≤ r) (h1 : r < 2) {x y : Str} (g : Bool → D) (hx : g false = .str x) (hy : g true = .str y) : atI [D.str x, D.str y] r = some (g (decide (r = 1))) := by
  obtain ⟨n, rfl⟩ := Int.eq_ofNat_of_zero_le h0
  have : n < 2 := by omega
  match n, this with
  | 0, _ => rw [show decide (((0 : Nat) : Int) = 1) = false from rfl, hx]; exact atI_nat (j := 0) rfl
  | 1, _ => rw [show decide (((1 : Nat) : Int) = 1) = true from rfl, hy]; exact atI_nat (j := 1) rfl
theorem open_eq : tS [opn false] = .str "[" ∧ tS [opn true] = .str "{" := by
  refine ⟨?_, ?_⟩ <;> (show D.str _ = D.str _; congr 1)
theorem sgn_eq : tS [sgn false] = .str "+" ∧ tS [sgn true] = .str "*" := by
  refine ⟨?_, ?_⟩ <;> (show D.str _ = D.str _; congr 1)
def retOf : List Stmt → Expr
  | .Return (some e) _ :: _ => e
  | _ => .Constant .none 0 ⟨0, 0, 0, 0⟩
def elseOf : Expr → Expr
  | .IfExp _ _ e _ => e
  | e => e
theorem names_lt {x : List Nat} (h : Good (.name x)) : ∀ c ∈ (S x).cps.toList, c < 0x110000 := fun c hc => by
  have := h.2.2 c hc
  simp [letter] at this
  omega
theorem ok_built_n (m : Nat) (F : Fx w K mg) (F1 : Fc P w K mg base "_law_take" [] 1 2 cTake) (F2 : Fc P w K mg base "_law_of" [] 2 2 cOf) (F3 : ∀ j, m = j + 1 → Fc P w K mg base "_law_built" [] (j + 3) 4 (cBuiltN j)) :
    BodyOk P w K mg base "_law_built" s__law_built nBuilt 4 (m + 2) (cBuiltN m) := by
  intro f cdv A outer st H E hr ds M Φ hl hc
  obtain ⟨ns, p, s, dp, a, c, d, rfl, s1, s2, dp2, hm, hns, hng, hM, co, d0, d1, hc⟩ := hc
  have nd : nBuilt.Nodup := by decide +kernel
  have big : ∀ n : Int, n ≤ 1000000 → n ≤ 10 ^ 40 := fun n h => by
    have : (1000000 : Int) ≤ 10 ^ 40 := by decide +kernel
    omega
  refine wss_cons (ws_if (wt_eqS (we_var 1 rfl (we_int ⟨_, rfl, ?_⟩))))
  by_cases hs1 : s = 1
  · subst hs1
    have hcost1 : cost 1 dp = 5 * (1 * (dp + 2)) := rfl
    refine wss_cons (ws_ret (we_if (wt_ww (ww_and (wt_neNil hr.units (we_var 3 rfl ⟨_, ns.map fun x => PyData.str (S x), 0, rfl, cmps_map (j := 0) (Nat.le_refl _) (fun x hx => cmp_str (names_lt (hng x hx))), by decide, ?_⟩))))))
    have one : ∀ a2 e2, d ≤ e2 → e2 ≤ d + 1 → DL.WE (bx P w K mg base nBuilt "_law_built" (defScope s__law_built) f cdv A outer st H E) [some (.ob p), some (.int ((1 : Nat) : Int)), some (.int (dp : Nat)), some (.lst (ns.map tS)), none, none, none, none, none, none, none, none] (mset M p (potL a2 c e2)) ((elseOf (retOf (ifThen (nth s__law_built 0)))) ) (Lets Φ) := fun a2 e2 j1 j2 => by
      refine we_tup (wa_cons (we_str (wa_nil ⟨sz1, Lets.of ?_⟩)))
      have := hc .one a2 e2 (btn_one dp) (by omega) (by omega)
      rw [loreD] at this
      exact this
    cases ns with
    | nil =>
      have := one a d (by omega) (by omega)
      rw [mset_self hM] at this
      exact this
    | cons y r =>
      refine ww_and1 (wt_eqS (we_call F1 (hr.mono (by omega)) (wa_cons (we_var 0 rfl (wa_cons (we_int (wa_nil ⟨rfl, p, 3, a, c, d, rfl, by decide, by decide +kernel, hM, co, d0, by omega, ?_⟩)))))))
      intro r1 a1 e1 _ _ k1 k2
      refine we_int ⟨_, rfl, ?_⟩
      by_cases hr1 : r1 = 0
      · rw [decide_eq_true hr1]
        refine we_tup (wa_cons (we_str (wa_cons (we_call F2 (hr.mono (by omega)) (wa_cons (we_var 0 rfl (wa_cons (we_var 3 rfl (wa_nil ⟨rfl, p, _, a1, c, e1, rfl, by simp, by rw [List.length_map]; omega, mset_same, co, by omega, by omega, ?_⟩)))))))))
        intro x a2 e2 hx k3 k4
        obtain ⟨z, hz, rfl⟩ := List.mem_map.mp hx
        rw [mset_mset]
        refine wa_nil ⟨sz2, Lets.of ?_⟩
        have := hc (.name z) a2 e2 (btn_name dp hz (hng z hz)) (by omega) (by omega)
        rw [loreD] at this
        exact this
      · rw [decide_eq_false hr1]
        exact one a1 e1 (by omega) (by omega)
  rw [decide_eq_false (show ¬ ((s : Nat) : Int) = 1 by omega)]
  have hm : dp + 1 ≤ m := hm.resolve_left hs1
  obtain ⟨j, rfl⟩ : ∃ j, m = j + 1 := ⟨m - 1, by omega⟩
  have B := F3 j rfl
  have hcost : cost s dp = 5 * (s * (dp + 2)) := rfl
  have hsd : 2 * (dp + 2) ≤ s * (dp + 2) := Nat.mul_le_mul_right _ (by omega)
  refine wss_nil ?_
  -- sign and fits
  refine wss_cons (ws_par 4 5 nd (wa_cons (we_call F1 (hr.mono (by omega)) (wa_cons (we_var 0 rfl (wa_cons (we_int (wa_nil ⟨rfl, p, 2, a, c, d, rfl, by decide, by decide +kernel, hM, co, d0, by omega, ?_⟩))))))))
  intro sg a1 e1 g0 g1 k1 k2
  refine wa_cons (we_lc nd (blkOk_by (N := nBuilt) (sc := defScope s__law_built) (own := [("_law_index", 10)]) (by decide +kernel)) (fun _ _ _ _ _ => pg_name (i := 10) nd rfl (Or.inl rfl)) (gt_name (by decide)) (fun s' H' C' cl' fp' => pts_one ⟨fun pins s3 σ' H3 Q' I q => q s' H' C' cl' fp' pins s3 I⟩) tk_one (wi_range2 (F.bn _ (by decide +kernel)) (wa_cons (we_int (wa_cons (we_addI (we_var 1 rfl (we_int ⟨_, _, rfl, rfl, wa_nil ⟨_, _, rfl, ⟨by decide, by decide, by omega, by omega⟩, ?_⟩⟩))))))))
  refine ⟨by rw [rngD_len, sizeLine_eq]; omega, fun i acc M' => M' = mset M p (potL a1 c e1) ∧ acc.length ≤ i ∧ (∀ x ∈ acc, ∃ n : Nat, x = .int (n : Nat) ∧ 2 ≤ n ∧ n ≤ s ∧ s % n = 0) ∧ (s < 2 + i → acc ≠ []), ⟨rfl, Nat.zero_le _, (by intro x hx; simp at hx), by omega⟩, ?_, ?_⟩
  · rintro i x acc M' hx ⟨rfl, h1, h2, h3⟩
    obtain ⟨hi, rfl⟩ := rngD_get hx
    intro s' H' C' cl' fp'
    refine wt_eqS (we_modI (we_intN (F.bn _ (by decide +kernel)) (we_var 1 rfl (.inl ⟨_, rfl, we_var 10 rfl ⟨_, _, rfl, rfl, by omega, we_int ⟨_, rfl, ?_⟩⟩⟩))))
    have hmod : ((s : Nat) : Int) % (2 + (i : Nat)) = ((s % (2 + i) : Nat) : Int) := by
      rw [show (2 : Int) + (i : Nat) = ((2 + i : Nat) : Int) by omega]; exact (Int.natCast_emod s (2 + i)).symm
    rw [hmod]
    by_cases hz : s % (2 + i) = 0
    · rw [decide_eq_true (show ((s % (2 + i) : Nat) : Int) = 0 by omega)]
      intro s' H' C' cl' fp'
      refine we_var 10 rfl ⟨rfl, by rw [List.length_append, List.length_singleton]; omega, fun y hy => ?_, fun _ => by simp⟩
      rcases List.mem_append.mp hy with hy | hy
      · exact h2 y hy
      · have : y = .int (2 + (i : Nat)) := by simpa using hy
        exact ⟨2 + i, by rw [this]; congr 1, by omega, by omega, hz⟩
    · rw [decide_eq_false (show ¬ ((s % (2 + i) : Nat) : Int) = 0 by omega)]
      refine ⟨rfl, by omega, h2, fun hlt => ?_⟩
      by_cases he : s = 2 + i
      · exact absurd (by rw [← he]; exact Nat.mod_self s) hz
      · exact h3 (by omega)
  rintro fits M' ⟨rfl, fl, fh, fne⟩
  rw [rngD_len] at fl fne
  have fne : fits ≠ [] := fne (by omega)
  refine wa_nil ⟨_, _, rfl, ?_⟩
  have hM1 : ∀ a2 e2, mset (mset M p (potL a1 c e1)) p (potL a2 c e2) = mset M p (potL a2 c e2) := fun _ _ => mset_mset
  -- copies
  have brC : ∀ (nx : Rho → Mp → Prop) a2 e2, d ≤ e2 → e2 ≤ d + 2 → WSs (bx P w K mg base nBuilt "_law_built" (defScope s__law_built) f cdv A outer st H E) [some (.ob p), some (.int (s : Nat)), some (.int (dp : Nat)), some (.lst (ns.map tS)), some (.int sg), some (.lst fits), none, none, none, none, none, none] (mset M p (potL a2 c e2))
      (ifThen (nth s__law_built 2)) { nx := nx, rt := Lets Φ } := fun nx a2 e2 j1 j2 => by
    have fin : ∀ (n : Nat) a3 e3, 2 ≤ n → n ≤ s → s % n = 0 → (dp = 0 → n = s) → d ≤ e3 → e3 ≤ d + 3 → WSs (bx P w K mg base nBuilt "_law_built" (defScope s__law_built) f cdv A outer st H E) [some (.ob p), some (.int (s : Nat)), some (.int (dp : Nat)), some (.lst (ns.map tS)), some (.int sg), some (.lst fits), some (.int (n : Nat)), none, none, none, none, none] (mset M p (potL a3 c e3))
        ((ifThen (nth s__law_built 2)).drop 1) { nx := nx, rt := Lets Φ } := fun n a3 e3 n1 n2 n3 n4 j1 j2 => by
      have hdiv : n * (s / n) = s := by have := Nat.div_add_mod s n; omega
      have hpos : 1 ≤ s / n := by
        rcases Nat.eq_zero_or_pos (s / n) with h | h
        · rw [h] at hdiv; omega
        · exact h
      have hle : 2 * (s / n) ≤ s := by
        have := Nat.mul_le_mul_right (s / n) n1
        omega
      have hone : dp = 0 → s / n = 1 := fun h => by rw [n4 h]; exact Nat.div_self (by omega)
      have hch : cost (s / n) (dp - 1) + 3 ≤ cost s dp := by
        unfold cost
        by_cases hd : dp = 0
        · rw [hone hd, hd]; rw [hd] at hsd; omega
        · have h1 : (s / n) * (dp - 1 + 2) ≤ (s / n) * (dp + 2) := Nat.mul_le_mul_left _ (by omega)
          have h2 : 2 * (s / n) * (dp + 2) ≤ s * (dp + 2) := Nat.mul_le_mul_right _ hle
          have h3 : 2 * (s / n) * (dp + 2) = (s / n) * (dp + 2) + (s / n) * (dp + 2) := by rw [Nat.mul_assoc]; omega
          have h4 : 1 ≤ (s / n) * (dp + 2) := Nat.mul_pos hpos (by omega)
          omega
      refine wss_cons (ws_ret (we_tup (wa_cons (we_ix (we_lst (wa_cons (we_str (wa_cons (we_str (wa_nil ⟨sz2, we_var 4 rfl ⟨sg, _, rfl, ixL (sign_at g0 g1 (fun b => tS [opn b]) open_eq.1 open_eq.2), wa_cons (we_var 6 rfl (wa_cons (we_call B (hr.mono (by omega)) (wa_cons (we_var 0 rfl (wa_cons (we_intN (F.bn _ (by decide +kernel)) (we_divI (we_var 1 rfl (we_var 6 rfl ⟨_, _, rfl, rfl, ⟨by omega, log40 (by omega) (big _ (by omega))⟩, .inl ⟨_, rfl, ?_⟩⟩))))))))))⟩⟩))))))))))
      refine wa_cons (we_max2 (F.bn _ (by decide +kernel)) (we_int (we_subI (we_var 2 rfl (we_int ⟨_, _, rfl, rfl, _, _, rfl, rfl, wa_cons (we_var 3 rfl (wa_nil ⟨rfl, ns, p, s / n, dp - 1, a3, c, e3, ?_, hpos, by omega, by omega, ?_, hns, hng, mset_same, co, by omega, by omega, ?_⟩))⟩)))))
      · have q1 : ((s : Nat) : Int) / (n : Nat) = ((s / n : Nat) : Int) := (Int.natCast_ediv s n).symm
        have q2 : (if ((dp : Nat) : Int) - 1 > 0 then ((dp : Nat) : Int) - 1 else 0) = ((dp - 1 : Nat) : Int) := by split <;> omega
        show [_, D.int _, D.int _, _] = _
        rw [q1, q2]
      · by_cases hd : dp = 0
        · exact .inl (hone hd)
        · exact .inr (by omega)
      intro u a' d' hb b1 b2
      rw [mset_mset]
      refine wa_nil ⟨sz3, Lets.of ?_⟩
      have hu : Btn ns (.cop (decide (sg = 1)) n u) s dp := by
        refine btn_cop _ hb n1 (Nat.le_trans n2 (Nat.le_trans s2 (by decide))) hdiv hpos ?_
        by_cases hd : dp = 0
        · refine .inr ⟨hone hd, hd, by omega, ?_⟩
          obtain ⟨u1, u2, u3, u4, u5⟩ := hb
          rw [hone hd] at u3
          exact ht_one u1 u3
        · exact .inl (by omega)
      have := hc _ a' d' hu (by omega) (by omega)
      rw [loreD] at this
      exact this
    refine wss_cons (ws_set 6 nd (we_if (wt_eqS (we_var 2 rfl (we_int ⟨_, rfl, ?_⟩)))))
    by_cases hd : dp = 0
    · rw [decide_eq_true (show ((dp : Nat) : Int) = 0 by omega)]
      exact we_var 1 rfl (fin s a2 e2 (by omega) (Nat.le_refl _) (Nat.mod_self s) (fun _ => rfl) (by omega) (by omega))
    · rw [decide_eq_false (show ¬ ((dp : Nat) : Int) = 0 by omega)]
      refine we_call F2 (hr.mono (by omega)) (wa_cons (we_var 0 rfl (wa_cons (we_var 5 rfl (wa_nil ⟨rfl, p, fits, a2, c, e2, rfl, fne, by omega, mset_same, co, by omega, by omega, ?_⟩)))))
      intro x a3 e3 hx k3 k4
      obtain ⟨n, rfl, n1, n2, n3⟩ := fh x hx
      rw [mset_mset]
      exact fin n a3 e3 n1 n2 n3 (fun h => absurd h hd) (by omega) (by omega)
  have ret : ∀ (zs : List Nat) o6 o7 o9 a2 e2, zs.sum = s → (∀ z ∈ zs, 1 ≤ z) → 2 ≤ zs.length → zs.length ≤ 3 → 1 ≤ dp → d ≤ e2 → e2 ≤ d + 5 →
      WSs (bx P w K mg base nBuilt "_law_built" (defScope s__law_built) f cdv A outer st H E) [some (.ob p), some (.int (s : Nat)), some (.int (dp : Nat)), some (.lst (ns.map tS)), some (.int sg), some (.lst fits), o6, o7, some (.lst (zs.map fun (z : Nat) => D.int (z : Nat))), o9, none, none] (mset M p (potL a2 c e2))
        ((defBody s__law_built).drop 6) { nx := fun _ M' => Φ .non M', rt := Lets Φ } := fun zs o6 o7 o9 a2 e2 hsum hz1 z2 z3 hdp j1 j2 => by
    refine wss_cons (ws_ret (we_tup (wa_cons (we_ix (we_lst (wa_cons (we_str (wa_cons (we_str (wa_nil ⟨sz2, we_var 4 rfl ⟨sg, _, rfl, ixL (sign_at g0 g1 (fun b => tS [sgn b]) sgn_eq.1 sgn_eq.2), wa_cons (we_tupleOf (F.bn _ (by decide +kernel)) ?_)⟩⟩))))))))))
    refine we_lc nd (blkOk_by (N := nBuilt) (sc := defScope s__law_built) (own := [("_law_part", 11)]) (by decide +kernel)) (fun _ _ _ _ _ => pg_name (i := 11) nd rfl (Or.inl rfl)) (gt_name (by decide)) (fun _ _ _ _ _ => pts_nil) tk_nil (wi_list (we_var 8 rfl ⟨_, .inl rfl, ?_⟩))
    refine ⟨by rw [List.length_map, sizeLine_eq]; omega, fun i acc M' => ∃ ts a' d', M' = mset M p (potL a' c d') ∧ acc = ts.map loreD ∧ Btns ns ts (zs.take i) (dp - 1) ∧ d ≤ d' ∧ d' ≤ d + 5 + (5 * ((zs.take i).sum * (dp + 1)) : Nat), ⟨[], a2, e2, rfl, rfl, trivial, j1, by simp; omega⟩, ?_, ?_⟩
    · rintro i x acc M' hx ⟨ts, a', d', rfl, rfl, hb, b1, b2⟩
      rw [List.getElem?_map] at hx
      obtain ⟨z, hz, rfl⟩ := Option.map_eq_some_iff.mp hx
      have hz0 := hz1 z (List.mem_of_getElem? hz)
      have htk : zs.take (i + 1) = zs.take i ++ [z] := take_snoc hz
      have hsm : (zs.take i).sum + z ≤ s := by
        rw [← hsum]
        have : zs.sum = (zs.take (i + 1)).sum + (zs.drop (i + 1)).sum := by rw [← List.sum_append, List.take_append_drop]
        rw [this, htk, List.sum_append]; simp
      have hmul : ((zs.take i).sum + z) * (dp + 1) ≤ s * (dp + 1) := Nat.mul_le_mul_right _ hsm
      have hmul2 : ((zs.take i).sum + z) * (dp + 1) = (zs.take i).sum * (dp + 1) + z * (dp + 1) := Nat.add_mul _ _ _
      have hsd1 : s * (dp + 2) = s * (dp + 1) + s := by rw [show dp + 2 = dp + 1 + 1 by omega, Nat.mul_succ]
      have hcz : cost z (dp - 1) = 5 * (z * (dp + 1)) := by unfold cost; rw [show dp - 1 + 2 = dp + 1 by omega]
      intro s' H' C' cl' fp'
      refine we_call B (hr.mono (by omega)) (wa_cons (we_var 0 rfl (wa_cons (we_var 11 rfl (wa_cons (we_subI (we_var 2 rfl (we_int ⟨_, _, rfl, rfl, wa_cons (we_var 3 rfl (wa_nil ⟨rfl, ns, p, z, dp - 1, a', c, d', ?_, hz0, by omega, by omega, .inr (by omega), hns, hng, mset_same, co, by omega, by omega, ?_⟩))⟩))))))))
      · show [_, _, D.int _, _] = _
        rw [show ((dp : Nat) : Int) - 1 = ((dp - 1 : Nat) : Int) by omega]
      intro t a3 d3 ht3 b3 b4
      rw [mset_mset]
      refine ⟨ts ++ [t], a3, d3, rfl, by rw [List.map_append]; rfl, by rw [htk]; exact btns_snoc ht3 hb, by omega, ?_⟩
      rw [htk, List.sum_append, show [z].sum = z by simp, hmul2]
      omega
    · rintro acc M' ⟨ts, a', d', rfl, rfl, hb, b1, b2⟩
      rw [List.length_map, List.take_length] at hb b2
      rw [hsum] at b2
      have hsd1 : s * (dp + 2) = s * (dp + 1) + s := by rw [show dp + 2 = dp + 1 + 1 by omega, Nat.mul_succ]
      refine ⟨_, .inl rfl, wa_nil ⟨sz2, Lets.of ?_⟩⟩
      have hu : Btn ns (.row (decide (sg = 1)) ts) s (dp - 1 + 1) := btn_row _ hb z2 z3 hsum (by omega)
      rw [show dp - 1 + 1 = dp by omega] at hu
      have := hc _ a' d' hu b1 (by omega)
      rw [loreD, loresD_map] at this
      exact this
  refine wss_cons (ws_if (wt_ww (ww_or (wt_eqS (we_var 2 rfl (we_int ⟨_, rfl, ?_⟩))))))
  by_cases hd : dp = 0
  · rw [decide_eq_true (show ((dp : Nat) : Int) = 0 by omega)]
    exact brC _ a1 e1 (by omega) (by omega)
  rw [decide_eq_false (show ¬ ((dp : Nat) : Int) = 0 by omega)]
  refine ww_or1 (wt_eqS (we_call F1 (hr.mono (by omega)) (wa_cons (we_var 0 rfl (wa_cons (we_int (wa_nil ⟨rfl, p, 3, a1, c, e1, rfl, by decide, by decide +kernel, mset_same, co, by omega, by omega, ?_⟩)))))))
  intro r2 a2 e2 _ _ k3 k4
  rw [mset_mset]
  refine we_int ⟨_, rfl, ?_⟩
  by_cases hr2 : r2 = 0
  · rw [decide_eq_true hr2]
    exact brC _ a2 e2 (by omega) (by omega)
  rw [decide_eq_false hr2]
  refine wss_nil ?_
  -- first
  refine wss_cons (ws_set 7 nd (we_addI (we_int (we_call F1 (hr.mono (by omega)) (wa_cons (we_var 0 rfl (wa_cons (we_subI (we_var 1 rfl (we_int ⟨_, _, rfl, rfl, wa_nil ⟨rfl, p, _, a2, c, e2, rfl, by omega, big _ (by omega), mset_same, co, by omega, by omega, ?_⟩⟩))))))))))
  intro r3 a3 e3 r30 r31 k5 k6
  rw [mset_mset]
  obtain ⟨n1, rfl⟩ := Int.eq_ofNat_of_zero_le r30
  refine ⟨_, _, rfl, rfl, ?_⟩
  rw [show (1 : Int) + ((n1 : Nat) : Int) = ((1 + n1 : Nat) : Int) by omega]
  refine wss_cons (ws_set 8 nd (we_lst (wa_cons (we_var 7 rfl (wa_cons (we_subI (we_var 1 rfl (we_var 7 rfl ⟨_, _, rfl, rfl, wa_nil ⟨sz2, ?_⟩⟩))))))))
  rw [show ((s : Nat) : Int) - ((1 + n1 : Nat) : Int) = ((s - (1 + n1) : Nat) : Int) by omega]
  refine wss_cons (ws_if (wt_ww (ww_and (wt_gtI (we_subI (we_var 1 rfl (we_var 7 rfl ⟨_, _, rfl, rfl, we_int ⟨_, _, rfl, rfl, ?_⟩⟩)))))))
  refine ite_dec (fun hgt => ?_) fun hgt => ?_
  · refine ww_and1 (wt_eqS (we_call F1 (hr.mono (by omega)) (wa_cons (we_var 0 rfl (wa_cons (we_int (wa_nil ⟨rfl, p, 2, a3, c, e3, rfl, by decide, by decide +kernel, mset_same, co, by omega, by omega, ?_⟩)))))))
    intro r4 a4 e4 _ _ k7 k8
    rw [mset_mset]
    refine we_int ⟨_, rfl, ?_⟩
    by_cases hr4 : r4 = 0
    · rw [decide_eq_true hr4]
      refine wss_cons (ws_set 9 nd (we_addI (we_int (we_call F1 (hr.mono (by omega)) (wa_cons (we_var 0 rfl (wa_cons (we_subI (we_subI (we_var 1 rfl (we_var 7 rfl ⟨_, _, rfl, rfl, we_int ⟨_, _, rfl, rfl, wa_nil ⟨rfl, p, _, a4, c, e4, rfl, by omega, big _ (by omega), mset_same, co, by omega, by omega, ?_⟩⟩⟩)))))))))))
      intro r5 a5 e5 r50 r51 k9 k10
      rw [mset_mset]
      obtain ⟨n2, rfl⟩ := Int.eq_ofNat_of_zero_le r50
      refine ⟨_, _, rfl, rfl, ?_⟩
      rw [show (1 : Int) + ((n2 : Nat) : Int) = ((1 + n2 : Nat) : Int) by omega]
      refine wss_cons (ws_set 8 nd (we_lst (wa_cons (we_var 7 rfl (wa_cons (we_var 9 rfl (wa_cons (we_subI (we_subI (we_var 1 rfl (we_var 7 rfl ⟨_, _, rfl, rfl, we_var 9 rfl ⟨_, _, rfl, rfl, wa_nil ⟨sz3, ?_⟩⟩⟩)))))))))))
      rw [show ((s : Nat) : Int) - ((1 + n1 : Nat) : Int) - ((1 + n2 : Nat) : Int) = ((s - (1 + n1) - (1 + n2) : Nat) : Int) by omega]
      refine wss_nil ?_
      exact ret [1 + n1, 1 + n2, s - (1 + n1) - (1 + n2)] _ _ _ a5 e5 (by simp; omega) (by intro z hz; simp at hz; omega) (by simp) (by simp) (by omega) (by omega) (by omega)
    · rw [decide_eq_false hr4]
      refine wss_nil ?_
      exact ret [1 + n1, s - (1 + n1)] _ _ _ a4 e4 (by simp; omega) (by intro z hz; simp at hz; omega) (by simp) (by simp) (by omega) (by omega) (by omega)
  · refine wss_nil ?_
    exact ret [1 + n1, s - (1 + n1)] _ _ _ a3 e3 (by simp; omega) (by intro z hz; simp at hz; omega) (by simp) (by simp) (by omega) (by omega) (by omega)
end
end W
/-! GT12: the texts that are drawn; values judged (plain). -/
namespace W
open PySem PySem.Spec PyProof.Rows L2 DL SX PL SlX
theorem ppl_pos : ∀ t, Good t → 1 ≤ ppl t
  | .one, _ => by rw [ppl]; exact Nat.le_refl _
  | .name x, _ => by rw [ppl]; exact Nat.le_refl _
  | .cop b n t, g => by
    have p1 := ppl_pos t g.2.2
    have := g.1
    rw [ppl]
    exact Nat.mul_pos (by omega) p1
  | .row s [], g => absurd g.1 (by simp)
  | .row s (t :: ts), g => by
    have := ppl_pos t g.2.1
    rw [ppl, ppls]
    omega
theorem num1 {n : Nat} (h : n < 10) : (TL.numL n).length = 1 := by rw [TL.numL_lt h]; rfl
mutual
theorem txt_short : ∀ t, Good t → ppl t ≤ 9 → (txt t).length + 7 ≤ 15 * ppl t ∧ opns (txt t) + 1 ≤ ppl t
  | .one, _, _ => by rw [txt, ppl]; exact ⟨by simp, by decide⟩
  | .name x, g, _ => by
    rw [txt, ppl]
    refine ⟨by have := g.2.1; omega, ?_⟩
    have : opns x = 0 := List.countP_eq_zero.mpr fun c hc => by
      have := g.2.2 c hc
      have c97 : 97 ≤ c ∧ c ≤ 122 := by simpa [letter] using this
      simp [opener]; omega
    omega
  | .cop b n t, g, h => by
    have p1 := ppl_pos t g.2.2
    rw [ppl] at h ⊢
    have hn : n < 10 := by
      have : n * 1 ≤ n * ppl t := Nat.mul_le_mul_left _ p1
      omega
    have h2 : 2 * ppl t ≤ n * ppl t := Nat.mul_le_mul_right _ g.1
    obtain ⟨i1, i2⟩ := txt_short t g.2.2 (by omega)
    rw [txt, List.length_cons, List.length_append, List.length_cons, List.length_append, num1 hn, opns_cons, opns_app, opns_cons, opns_app]
    have o1 : opns (TL.numL n) = 0 := List.countP_eq_zero.mpr fun c hc => by
      have := TL.numL_digits n c hc
      simp [opener]; omega
    have o2 : opns [cls b] = 0 := by cases b <;> rfl
    have o3 : opener (opn b) = true := by cases b <;> rfl
    rw [if_pos o3, if_neg (by decide), o1, o2]
    simp only [List.length_cons, List.length_nil]
    omega
  | .row s [], g, _ => absurd g.1 (by simp)
  | .row s [u], g, _ => absurd g.1 (by simp)
  | .row s (t :: u :: ts), g, h => by
    rw [ppl] at h ⊢
    obtain ⟨i1, i2⟩ := txts_short s (t :: u :: ts) g.2 h (by simp)
    rw [txt, List.length_cons, List.length_append, opns_cons, opns_app, if_pos (by decide)]
    have o2 : opns [41] = 0 := rfl
    rw [o2]
    simp only [List.length_cons, List.length_nil] at i1 i2 ⊢
    omega
theorem txts_short (s : Bool) : ∀ ts, Goods ts → ppls ts ≤ 9 → ts ≠ [] → (TL.joinL (sep s) (txts ts)).length + 4 * ts.length + 3 ≤ 15 * ppls ts ∧ opns (TL.joinL (sep s) (txts ts)) + ts.length ≤ ppls ts
  | [], _, _, h0 => absurd rfl h0
  | [t], g, h, _ => by
    rw [ppls, ppls] at h ⊢
    obtain ⟨i1, i2⟩ := txt_short t g.1 (by omega)
    rw [txts, txts, TL.joinL]
    simp only [List.length_cons, List.length_nil]
    omega
  | t :: u :: ts, g, h, _ => by
    have e : TL.joinL (sep s) (txts (t :: u :: ts)) = txt t ++ (sep s ++ TL.joinL (sep s) (txts (u :: ts))) := by rw [txts, txts, TL.joinL]
    rw [ppls] at h ⊢
    obtain ⟨i1, i2⟩ := txt_short t g.1 (by omega)
    obtain ⟨j1, j2⟩ := txts_short s (u :: ts) g.2 (by omega) (by simp)
    have s3 : (sep s).length = 3 := by cases s <;> rfl
    have s0 : opns (sep s) = 0 := by cases s <;> rfl
    rw [e, List.length_append, List.length_append, opns_app, opns_app, s3, s0]
    simp only [List.length_cons] at j1 j2 ⊢
    omega
end
/-- what is drawn is short -/
theorem short_of {t : T} {n : Nat} (g : Good t) (e : ppl t = n) (h : n ≤ 9) : (txt t).length ≤ 128 ∧ opns (txt t) ≤ 8 ∧ ∀ c ∈ txt t, c < 128 := by
  obtain ⟨h1, h2⟩ := txt_short t g (by omega)
  exact ⟨by omega, by omega, txt_lt g⟩
theorem S_of (x : Str) : S x.cps.toList = x := rfl
theorem jd_str {x : Str} (h1 : x.length ≤ 600) (h2 : ∀ c ∈ x.cps.toList, c < 128) (h3 : opns x.cps.toList ≤ 36) : Jd (.str x) := jd_text (l := x.cps.toList) h1 h2 h3
theorem odds_jd : ∀ v ∈ odds, Jd v := by
  intro v hv
  refine ⟨odds_rp v hv, ?_⟩
  simp only [odds, odds1, odds2, List.mem_append, List.mem_cons, List.not_mem_nil, or_false] at hv
  rcases hv with (rfl | rfl | rfl | rfl | rfl | rfl | rfl | rfl | rfl | rfl | rfl | rfl | rfl | rfl | rfl | rfl | rfl | rfl | rfl) | (rfl | rfl | rfl | rfl | rfl) <;>
    first
      | exact .inr ⟨_, (congrArg AV.str (S_of _)).symm, by decide +kernel, by decide +kernel⟩
      | exact .inl fun z h => nomatch h
theorem jd_none : Jd .non := ⟨odds_rp _ (by simp [odds, odds1]), .inl fun z h => by cases h⟩
theorem jd_one : Jd (.int 1) := ⟨odds_rp _ (by simp [odds, odds1]), .inl fun z h => by cases h⟩
theorem jd_box : Jd (.tup [.str "1"]) ∧ Jd (.lst [.str "1"]) := by
  have s3 : StG "1" := stG_of (by decide +kernel) (by decide +kernel) (by decide +kernel)
  have q : ∀ v, AvG v → avDp v ≤ 60 → avLn v ≤ 1000 → RpD v := fun v h1 h2 h3 => rp_of h1 h2 (by rw [sizeLine_eq]; omega)
  refine ⟨⟨q _ ?_ (by decide) (by decide), .inl fun z h => by cases h⟩, ⟨q _ ?_ (by decide) (by decide), .inl fun z h => by cases h⟩⟩
  · simp only [AvG, AvsG, and_true]; exact s3
  · simp only [AvG, AvsG, and_true]; exact s3
theorem cutD_to {α : Type} (xs : List α) (n : Nat) : DL.cutD xs none (some (n : Int)) = xs.take n := by
  unfold DL.cutD
  rw [HT.sIx_nat, HT.sIx_none]
  show (xs.drop 0).take (min n xs.length - 0) = _
  rw [List.drop_zero, Nat.sub_zero]
  by_cases h : n ≤ xs.length
  · rw [Nat.min_eq_left h]
  · rw [Nat.min_eq_right (by omega), List.take_of_length_le (Nat.le_refl _), List.take_of_length_le (by omega)]
def nam4 : List (List Nat) := [[120], [121], [97, 110, 110], [122, 122, 122, 122, 122, 122, 122, 122]]
theorem nam4_D : ([.str "x", .str "y", .str "ann", .str "zzzzzzzz"] : List D) = nam4.map tS := by
  rw [show ("x" : Str) = S [120] by decide +kernel, show ("y" : Str) = S [121] by decide +kernel, show ("ann" : Str) = S [97, 110, 110] by decide +kernel, show ("zzzzzzzz" : Str) = S [122, 122, 122, 122, 122, 122, 122, 122] by decide +kernel]
  rfl
theorem nam4_ok : ∀ x ∈ nam4, Good (.name x) := by
  intro x hx
  have lt : ∀ y : List Nat, (y.all fun c => letter c) = true → ∀ c ∈ y, letter c = true := fun y h c hc => List.all_eq_true.mp h c hc
  simp only [nam4, List.mem_cons, List.not_mem_nil, or_false] at hx
  rcases hx with rfl | rfl | rfl | rfl <;> exact ⟨by decide, by decide, lt _ (by decide)⟩
end W
/-! GT13: _law_right, law. -/
namespace W
open PySem PySem.Spec PyProof.Rows L2 DL SX PL SlX
section
variable {P : Program} {w : World} {K : PySem.W.Frag} {mg : Str → Option Value} {base : Heap} {C U B : Addr}
def cRgt (T1 : Addr) : Con := fun ds M Φ => ∃ p a c d, ds = [.ob p] ∧ M p = some (potL a c d) ∧ cOk c ∧ 0 ≤ d ∧ d < 50000 ∧ M T1 = some (.tbl qJud) ∧ ∀ a' d', d ≤ d' → d' ≤ d + 500 → Φ (.bl true) (mset M p (potL a' c d'))
abbrev nRgt : List Str := ["_law_pot_here", "_law_text_here", "_law_lap", "_law_value", "_law_some"]
theorem ok_right02 {T1 : Addr} (F : Fx w K mg) (F1 : Fc P w K mg base "_law_take" [] 1 2 cTake) (F2 : Fc P w K mg base "_law_built" [] 7 4 (cBuiltN 4)) (F3 : Fc P w K mg base "_law_text" [] 5 1 (cText 4)) (F4 : Fc P w K mg base "_law_bent_text" [] 3 2 cBent) (F5 : Fc P w K mg base "_law_odd" [] 3 1 cOdd) (G1 : Gc P w K mg base "_law_is_judged" 111 1 (cJud T1)) :
    BodyG P w K mg base "_law_right" s__law_right nRgt 1 111 (cRgt T1) := by
  intro f cdv A outer s H E hg hr ds M Φ hl hc
  obtain ⟨p, a, c, d, rfl, hM, co, d0, d1, hT, hc⟩ := hc
  have nd : nRgt.Nodup := by decide +kernel
  have n1 : T1 ≠ p := fun z => by rw [z, hM] at hT; cases hT
  have tb : ∀ o, mset M p o T1 = some (.tbl qJud) := fun o => by rw [mset_ne n1]; exact hT
  refine wss_cons (ws_set 1 nd (we_call F3 (hr.mono (by decide)) (wa_cons (we_call F2 (hr.mono (by decide)) (wa_cons (we_var 0 rfl (wa_cons (we_addI (we_int (we_call F1 (hr.mono (by decide)) (wa_cons (we_var 0 rfl (wa_cons (we_int (wa_nil ⟨rfl, p, 9, a, c, d, rfl, by decide, by decide +kernel, hM, co, d0, by omega, ?_⟩)))))))))))))))
  intro r a1 e1 r0 r9 k1 k2
  obtain ⟨n, rfl⟩ := Int.eq_ofNat_of_zero_le r0
  refine ⟨_, _, rfl, rfl, wa_cons (we_int (wa_cons (we_slice (we_lst (wa_cons (we_str (wa_cons (we_str (wa_cons (we_str (wa_cons (we_str (wa_nil ⟨by decide, we_call F1 (hr.mono (by decide)) (wa_cons (we_var 0 rfl (wa_cons (we_int (wa_nil ⟨rfl, p, 5, a1, c, e1, rfl, by decide, by decide +kernel, mset_same, co, by omega, by omega, ?_⟩)))))⟩)))))))))))))⟩
  intro r2 a2 e2 u0 u5 k3 k4
  rw [mset_mset]
  obtain ⟨j, rfl⟩ := Int.eq_ofNat_of_zero_le u0
  refine ⟨_, rfl, _, .inl ⟨_, rfl, rfl⟩, wa_nil ⟨rfl, nam4.take j, p, 1 + n, 3, a2, c, e2, ?_, by omega, by omega, by decide, by omega, ?_, ?_, mset_same, co, by omega, ?_, ?_⟩⟩
  · rw [cutD_to, nam4_D, ← List.map_take]
    rfl
  · exact Nat.le_trans (List.length_take_le' _ _) (by decide)
  · exact fun x hx => nam4_ok x (List.mem_of_mem_take hx)
  · have : cost (1 + n) 3 ≤ 5 * (9 * 5) := Nat.mul_le_mul_left _ (Nat.mul_le_mul_right _ (by omega))
    omega
  intro t a3 e3 hb k5 k6
  have hcost : cost (1 + n) 3 ≤ 5 * (9 * 5) := Nat.mul_le_mul_left _ (Nat.mul_le_mul_right _ (by omega))
  rw [mset_mset]
  obtain ⟨g, _, hp, hh, _⟩ := hb
  obtain ⟨l1, l2, l3⟩ := short_of g hp (by omega)
  refine wa_nil ⟨rfl, t, rfl, g, by omega, hh, ?_⟩
  generalize txt t = l at l1 l2 l3 ⊢
  have e0 : ∀ z : List Nat, avD (.str (S z)) = tS z := fun z => by rw [avD]
  refine wss_cons (ws_if (wt_not (wt_val (we_callG G1 hg (hr.mono (by decide)) (wa_cons (we_var 1 rfl (wa_nil ⟨rfl, .str (S l), by rw [e0], jd_text (by omega) l3 (by omega), tb _, true, rfl, ?_⟩)))))))
  refine wss_nil (wss_cons (ws_for PassesOwn.never (wi_range1 (F.bn _ (by decide +kernel)) (wa_cons (we_int (wa_nil ⟨_, rfl, by decide, by decide, ?_⟩))))))
  refine ⟨fun i ρ' M' => ∃ o2 o3 a' d', ρ' = [some (.ob p), some (tS l), o2, o3, none] ∧ M' = mset M p (potL a' c d') ∧ e3 ≤ d' ∧ d' ≤ e3 + 9 * (i : Nat), ⟨none, none, a3, e3, rfl, rfl, by omega, by omega⟩, ?_, ?_⟩
  · rintro i x ρ' M' hx ⟨o2, o3, a4, e4, rfl, rfl, k7, k8⟩
    obtain ⟨hi, rfl⟩ := rngD_get hx
    have hi : i < 12 := hi
    refine wg_name 2 ?_ nd
    refine wss_cons (ws_set 3 nd (we_call F4 (hr.mono (by decide)) (wa_cons (we_var 0 rfl (wa_cons (we_var 1 rfl (wa_nil ⟨rfl, p, l, a4, c, e4, rfl, by omega, l3, mset_same, co, by omega, by omega, fun m1 a5 e5 b1 k9 k10 => ?_⟩)))))))
    rw [mset_mset]
    have m1l := b1.len
    have m1o := b1.ops
    refine wss_cons (ws_if (wt_not (wt_val (we_callG G1 hg (hr.mono (by decide)) (wa_cons (we_if (wt_eqS (we_call F1 (hr.mono (by decide)) (wa_cons (we_var 0 rfl (wa_cons (we_int (wa_nil ⟨rfl, p, 3, a5, c, e5, rfl, by decide, by decide +kernel, mset_same, co, by omega, by omega, fun r a6 e6 z0 z3 k11 k12 => we_int ⟨_, rfl, ?_⟩⟩)))))))))))))
    rw [mset_mset]
    by_cases hz : r = 0
    · rw [decide_eq_true hz]
      refine we_call F4 (hr.mono (by decide)) (wa_cons (we_var 0 rfl (wa_cons (we_var 3 rfl (wa_nil ⟨rfl, p, m1, a6, c, e6, rfl, by omega, b1.asc, mset_same, co, by omega, by omega, fun m2 a7 e7 b2 k13 k14 => ?_⟩)))))
      rw [mset_mset]
      have m2l := b2.len
      have m2o := b2.ops
      refine wa_nil ⟨rfl, .str (S m2), by rw [e0], jd_text (by omega) b2.asc (by omega), tb _, true, rfl, ?_⟩
      exact wss_nil (wss_nil ⟨_, _, a7, e7, rfl, rfl, by omega, by omega⟩)
    · rw [decide_eq_false hz]
      refine we_var 3 rfl (wa_nil ⟨rfl, .str (S m1), by rw [e0], jd_text (by omega) b1.asc (by omega), tb _, true, rfl, ?_⟩)
      exact wss_nil (wss_nil ⟨_, _, a6, e6, rfl, rfl, by omega, by omega⟩)
  rintro ρ' M' ⟨o2, o3, a4, e4, rfl, rfl, k7, k8⟩
  rw [rngD_len] at k8
  have k8 : e4 ≤ e3 + 9 * ((12 : Nat) : Int) := k8
  refine wss_cons (ws_set 4 nd (we_lst (wa_cons (we_str (wa_cons (we_non (wa_cons (we_int (wa_cons (we_tup (wa_cons (we_str (wa_nil ⟨by decide, wa_cons (we_lst (wa_cons (we_str (wa_nil ⟨by decide, wa_cons (we_call F5 (hr.mono (by decide)) (wa_cons (we_var 0 rfl (wa_nil ⟨rfl, p, a4, c, e4, rfl, mset_same, co, by omega, by omega, fun v a5 e5 hv k9 k10 => ?_⟩))))⟩))))⟩)))))))))))))
  rw [mset_mset]
  refine wa_cons (we_addS (we_var 1 rfl (we_str ⟨_, _, rfl, rfl, ?_, wa_cons (we_addS (we_str (we_var 1 rfl ⟨_, _, rfl, rfl, ?_, wa_nil ⟨by show 8 ≤ sizeLine; decide, ?_⟩⟩)))⟩)))
  · rw [S_len, show (" " : Str).length = 1 by decide +kernel, sizeLine_eq]; omega
  · show (" " : Str).length + (S l).length ≤ sizeLine
    rw [show (" " : Str).length = 1 by decide +kernel, S_len, sizeLine_eq]; omega
  rw [show (" " : Str) = S [32] by decide +kernel, S_cat, S_cat]
  have all8 : ∀ x ∈ ([.str "", .non, .int 1, .tup [.str "1"], .lst [.str "1"], avD v, .str (S (l ++ [32])), .str (S ([32] ++ l))] : List D), ∃ y, x = avD y ∧ Jd y := by
    intro x hx
    have as1 : ∀ c ∈ l ++ [32], c < 128 := fun c hc => by
      rcases List.mem_append.mp hc with hc | hc
      · exact l3 c hc
      · rw [List.mem_singleton] at hc; omega
    have as2 : ∀ c ∈ [32] ++ l, c < 128 := fun c hc => by
      rcases List.mem_append.mp hc with hc | hc
      · rw [List.mem_singleton] at hc; omega
      · exact l3 c hc
    have o32 : opns [32] = 0 := rfl
    simp only [List.mem_cons, List.not_mem_nil, or_false] at hx
    rcases hx with rfl | rfl | rfl | rfl | rfl | rfl | rfl | rfl
    · exact ⟨.str "", by rw [avD], jd_str (by decide +kernel) (by decide +kernel) (by decide +kernel)⟩
    · exact ⟨.non, by rw [avD], jd_none⟩
    · exact ⟨.int 1, by rw [avD], jd_one⟩
    · exact ⟨.tup [.str "1"], by rw [avD_tup]; simp only [List.map_cons, List.map_nil]; rw [avD], jd_box.1⟩
    · exact ⟨.lst [.str "1"], by rw [avD_lst]; simp only [List.map_cons, List.map_nil]; rw [avD], jd_box.2⟩
    · exact ⟨v, rfl, odds_jd v hv⟩
    · exact ⟨.str (S (l ++ [32])), by rw [avD], jd_text (by rw [List.length_append, List.length_singleton]; omega) as1 (by rw [opns_app, o32]; omega)⟩
    · exact ⟨.str (S ([32] ++ l)), by rw [avD], jd_text (by rw [List.length_append, List.length_singleton]; omega) as2 (by rw [opns_app, o32]; omega)⟩
  generalize hds : ([.str "", .non, .int 1, .tup [.str "1"], .lst [.str "1"], avD v, .str (S (l ++ [32])), .str (S ([32] ++ l))] : List D) = ds at all8
  have d8 : ds.length = 8 := by rw [← hds]; rfl
  refine wss_cons (ws_ret (we_all (F.bn _ (by decide +kernel)) (we_lc nd (blkOk_by (N := nRgt) (sc := defScope s__law_right) (own := [("_law_value", 3)]) (by decide +kernel)) (fun _ _ _ _ _ => pg_name (i := 3) nd rfl (Or.inl rfl)) (gt_name (by decide)) (fun _ _ _ _ _ => pts_nil) tk_nil (wi_list (we_var 4 rfl ⟨ds, .inl (by rw [← hds]), ?_⟩)))))
  refine ⟨by rw [d8]; decide, fun i acc M' => M' = mset M p (potL a5 c e5) ∧ acc = (List.replicate i true).map D.bl, ⟨rfl, rfl⟩, ?_, ?_⟩
  · rintro i x acc M' hx ⟨rfl, rfl⟩
    obtain ⟨y, rfl, hy⟩ := all8 x (List.mem_of_getElem? hx)
    intro s1 H1 C' cl fp
    refine we_callG G1 hg (hr.mono (by decide)) (wa_cons (we_var 3 rfl (wa_nil ⟨rfl, y, rfl, hy, tb _, ?_⟩)))
    exact ⟨rfl, by rw [List.replicate_succ', List.map_append]; rfl⟩
  · rintro acc M' ⟨rfl, rfl⟩
    refine ⟨_, rfl, ?_⟩
    rw [List.all_eq_true.mpr fun b hb => by rw [List.eq_of_mem_replicate hb]; rfl]
    exact Lets.of (hc a5 e5 (by omega) (by omega))
/-! ### the law -/
def cLaw (T1 : Addr) : Con := fun ds M Φ => ∃ ns, ds = [scrD ns] ∧ M T1 = some (.tbl qJud) ∧ ∀ M', Φ (.bl true) M'
abbrev nLaw : List Str := ["_law_script", "_law_place", "_law_pot_here", "_law_lap"]
theorem ok_law02 {T1 : Addr} (F : Fx w K mg) (F1 : Fc P w K mg base "_law_cells" [] 1 2 cCells) (F2 : Fc P w K mg base "_law_pot" [] 1 2 cPot) (F3 : Gc P w K mg base "_law_right" 112 1 (cRgt T1)) : BodyG P w K mg base "law" s_law nLaw 1 112 (cLaw T1) := by
  intro f cdv A outer s H E hgd hr ds M Φ hl hc
  obtain ⟨ns, rfl, hT1, hc⟩ := hc
  have nd : nLaw.Nodup := by decide +kernel
  refine wss_cons (ws_for PassesOwn.never (wi_list (we_call F1 (hr.mono (by decide)) (wa_cons (we_var 0 rfl (wa_cons (we_int (wa_nil ⟨rfl, ns, 5, rfl, by decide, by decide, fun n hn => ⟨_, .inl rfl, ?_⟩⟩))))))))
  refine ⟨fun i ρ' M' => M' T1 = some (.tbl qJud) ∧ ∃ o1 o2 o3, ρ' = [some (scrD ns), o1, o2, o3], ⟨hT1, none, none, none, rfl⟩, ?_, ?_⟩
  · rintro i x ρ' M' hx ⟨h1, o1, o2, o3, rfl⟩
    obtain ⟨hi, rfl⟩ := rngD_get hx
    refine wg_name 1 ?_ nd
    refine wss_cons (ws_set 2 nd (we_call F2 (hr.mono (by decide)) (wa_cons (we_var 0 rfl (wa_cons (we_var 1 rfl (wa_nil ⟨rfl, ns, i, by rw [Int.zero_add]; rfl, by omega, ?_⟩)))))))
    intro p a c hp co
    have n1 : T1 ≠ p := fun z => by rw [← z, h1] at hp; cases hp
    refine wss_cons (ws_if (wt_not (wt_val (we_all (F.bn _ (by decide +kernel)) (we_lc nd (blkOk_by (N := nLaw) (sc := defScope s_law) (own := [("_law_lap", 3)]) (by decide +kernel)) (fun _ _ _ _ _ => pg_name (i := 3) nd rfl (Or.inl rfl)) (gt_name (by decide)) (fun _ _ _ _ _ => pts_nil) tk_nil (wi_range1 (F.bn _ (by decide +kernel)) (wa_cons (we_int (wa_nil ⟨_, rfl, by decide, by decide, ?_⟩)))))))))
    refine ⟨by rw [rngD_len]; decide, fun k acc M2 => k ≤ 2 ∧ acc = (List.replicate k true).map D.bl ∧ M2 T1 = some (.tbl qJud) ∧ ∃ a' d', M2 p = some (potL a' c d') ∧ 0 ≤ d' ∧ d' ≤ 500 * (k : Nat), ⟨by decide, rfl, by rw [mset_ne n1]; exact h1, a, 0, mset_same, by decide, by decide⟩, ?_, ?_⟩
    · rintro k x acc M2 hx ⟨k3, rfl, j1, a', d', hM2, q0, q1⟩
      obtain ⟨hk, rfl⟩ := rngD_get hx
      have hk : k < 2 := hk
      intro s' H' C' cl' fp'
      refine we_callG F3 hgd (hr.mono (by decide)) (wa_cons (we_var 2 rfl (wa_nil ⟨rfl, p, a', c, d', rfl, hM2, co, q0, by omega, j1, ?_⟩)))
      intro a2 d2 l1 l2
      exact ⟨hk, by rw [List.replicate_succ', List.map_append]; rfl, by rw [mset_ne n1]; exact j1, a2, d2, mset_same, by omega, by omega⟩
    · rintro acc M2 ⟨k3, rfl, j1, a', d', hM2, q0, q1⟩
      rw [rngD_len]
      exact ⟨_, rfl, _, rfl, wss_nil (wss_nil ⟨j1, _, _, _, rfl⟩)⟩
  · rintro ρ' M' ⟨_, o1, o2, o3, rfl⟩
    exact wss_cons (ws_ret (we_bl (Lets.of (hc _))))
end
end W
/-! DL26: methods of classes with slots, from the text. -/
namespace DL
open PySem PySem.Spec PyProof.Rows L2 SlX
section
variable {P : Program} {w : World} {K : PySem.W.Frag} {mg : Str → Option Value} {base : Heap} {x qual : Str} {st : Stmt} {N ps : List Str} {j k n : Nat} {c : Con} {dd : List D} {C : Addr} {m : Str} {f p : Addr}
theorem Md.sm (D : Md K C m qual st f) (cl : SCls K C) (me : Meth K C m f) (S : FnScope N ps (defScope st))
    (hb : ∀ (kV doc pm : Value) (an : Option Addr) (cdv ct : Value) (us : List Value), us.length = ps.length → bindArgs (PySem.W.fnOf m qual (defArgs st) (defBody st) (defScope st) .none kV doc pm an cdv ct) ⟨us, []⟩ = pure (ps.zip us))
    (h : BodyOk P w K mg base qual st N ps.length k c) : Mg P w K mg base C m (k + 1) ps.length c := by
  obtain ⟨fd, F⟩ := D.ex
  exact ⟨cl, f, fd, ps, fn_ok F S (h f), me, F.bindsN hb⟩
end
end DL
/-! the whole of law_k02_texts_of_no_plan. -/
namespace W
open PySem PySem.Spec PyProof.Rows L2 DL He HK
section
variable {P : Program} {w : World} {K : PySem.W.Frag} {mg : Str → Option Value} {base h : Heap}
theorem mkFx (X : K.In h) (G : h.Ns mainGlobals mg) (c : Says spec w K) : Fx w K mg where
  bn := fun x hx => free_ok X G (c.fa (mem_bn hx))
  gONE := str_ok X G (c.fa (f := .str "ONE" "one") (mem_co 0 rfl))
  gNAME := str_ok X G (c.fa (f := .str "NAME" "name") (mem_co 1 rfl))
  gBESIDE := str_ok X G (c.fa (f := .str "BESIDE" "beside") (mem_co 2 rfl))
  gINTRODUCED := str_ok X G (c.fa (f := .str "INTRODUCED" "introduced") (mem_co 3 rfl))
  gBLANK := str_ok X G (c.fa (f := .str "BLANK" " ") (mem_co 4 rfl))
  gLETTERS := str_ok X G (c.fa (f := .str "LETTERS" "abcdefghijklmnopqrstuvwxyz") (mem_co 5 rfl))
  gFIGURES := str_ok X G (c.fa (f := .str "FIGURES" "0123456789") (mem_co 6 rfl))
  gMOST_LETTERS := int_ok X G (c.fa (f := .int "MOST_LETTERS" 8) (mem_co 7 rfl))
  gPERSON := str_ok X G (c.fa (f := .str "PERSON" "1") (mem_co 8 rfl))
  gLEAST_MANY := int_ok X G (c.fa (f := .int "LEAST_MANY" 2) (mem_co 9 rfl))
  gMOST_MANY := int_ok X G (c.fa (f := .int "MOST_MANY" (10 ^ 30)) (mem_co 10 rfl))
  gMOST_NAMES := int_ok X G (c.fa (f := .int "MOST_NAMES" 3) (mem_co 11 rfl))
  gMOST_DEPTH := int_ok X G (c.fa (f := .int "MOST_DEPTH" 60) (mem_co 12 rfl))
  gSIGNS := let ⟨kvs, h1, h2⟩ := c.ta 0 (x := "SIGNS") (qs := tSigns) rfl (by decide +kernel); ⟨_, kvs, glo_ok X G (c.fa (f := .glo "SIGNS") (mem_glo (by decide +kernel))), h1, h2⟩
  gAROUND := let ⟨kvs, h1, h2⟩ := c.ta 1 (x := "AROUND") (qs := tAround) rfl (by decide +kernel); ⟨_, kvs, glo_ok X G (c.fa (f := .glo "AROUND") (mem_glo (by decide +kernel))), h1, h2⟩
  gTURNED := let ⟨kvs, h1, h2⟩ := c.ta 2 (x := "TURNED") (qs := tTurned) rfl (by decide +kernel); ⟨_, kvs, glo_ok X G (c.fa (f := .glo "TURNED") (mem_glo (by decide +kernel))), h1, h2⟩
theorem mkPx (X : K.In h) (G : h.Ns mainGlobals mg) (c : Says spec w K) : Px K mg (ga K "Plan") where
  at_ := glo_ok X G (c.fa (f := .glo "Plan") (mem_glo (by decide +kernel)))
  cl := cls_ok (c.fa (f := .cls "Plan") (mem_co 13 rfl))
  na := fun f hf => noat_ok (c.fa (mem_na hf))
  init := ⟨_, mkr_ok (c.fa (f := .mkr "Plan") (mem_co 15 rfl)), ⟨c.dd 1 rfl⟩⟩
  text := ⟨_, _, propB_ok (c.pr (q := ("Plan", "text")) (by decide +kernel)), ⟨c.dd 2 rfl⟩⟩
  names := ⟨_, _, propB_ok (c.pr (q := ("Plan", "names")) (by decide +kernel)), ⟨c.dd 3 rfl⟩⟩
  word := ⟨_, _, propB_ok (c.pr (q := ("Plan", "word")) (by decide +kernel)), ⟨c.dd 4 rfl⟩⟩
  many := ⟨_, _, propB_ok (c.pr (q := ("Plan", "many")) (by decide +kernel)), ⟨c.dd 5 rfl⟩⟩
  invert := ⟨_, meth_ok (c.fa (f := .meth "Plan" "__invert__") (mem_co 14 rfl)), ⟨c.dd 6 rfl⟩⟩
theorem mkDf (X : K.In h) (G : h.Ns mainGlobals mg) (c : Says spec w K) (i : Nat) {x : Str} {st : Stmt} (hd : dds[i]? = some (gl x st)) (hx : x ∈ globsA) : Df K mg x st [] :=
  let ⟨fd, F⟩ := c.dd i hd
  ⟨_, fd, F, glo_ok X G (c.fa (mem_glo hx))⟩
theorem shX : XL.Shape (defArgs s_CrowdError___init__) (defBody s_CrowdError___init__) (defScope s_CrowdError___init__) where
  args := ⟨_, _, rfl⟩
  body := ⟨_, _, _, _, _, _, _, _, _, _, rfl, fun _ _ _ _ _ => ⟨_, rfl⟩⟩
  kind := rfl
  co := rfl
  gen := rfl
  cellless := by decide +kernel
  self := by rfl
  value := by rfl
  cls := fun _ _ _ _ _ => rfl
  sup := fun _ _ _ _ _ => rfl
  inter := fun _ _ _ _ _ => rfl
  kself := fun _ _ _ _ _ => rfl
  kvalue := fun _ _ _ _ _ => rfl
theorem mkEk (X : K.In h) (G : h.Ns mainGlobals mg) (c : Says spec w K) (hf : (P.main.file == "/claim/cut.py") = true) (hs : (P.main.scope.names.lookup ("super" : Str)).isSome = false) {x : Str} (hx : x ∈ spec.er) (hg : x ∈ globsA) : Ek P K mg (ga K "CrowdError") x (ga K x) := by
  have hm := glo_ok X G (c.fa (f := .glo x) (mem_glo hg))
  obtain ⟨a, b, d, e⟩ := c.err (P := P) (mg := mg) (file := "/claim/cut.py") (st := s_CrowdError___init__) rfl shX hf hs (free_ok X G (c.fa (f := .free "super") (mem_co 16 rfl))) hx hm
  exact ⟨a, b, hm, e, d⟩
theorem mkDc (X : K.In h) (G : h.Ns mainGlobals mg) (c : Says spec w K) (i : Nat) {x : Str} {st : Stmt} {p : Addr × Addr} (hd : dds[i]? = some (gl x st)) (hg : mg x = some (.ref (ga K x))) (ht : PySem.W.tabIn K x = some p) : Dc K mg x st p.1 := by
  obtain ⟨fd, F⟩ := c.dd i hd
  obtain ⟨oc, od, dV, kV, doc, pm, an, cdv, ct, osl, e, lk, r⟩ := F.ex
  exact ⟨_, fd, F, hg, PySem.W.law_code X G ht hg (X _ _ lk) rfl⟩
theorem chain {C B U_BadPlan c1 T1 : Addr} {f : Addr} {fd : FuncData} (F : Fx w K mg) (X : Px K mg C) (gB : mg "CrowdError" = some (.ref B)) (E_BadPlan : Ek P K mg B "BadPlan" U_BadPlan) (D__law_is_judged : Dc K mg "_law_is_judged" s__law_is_judged c1) (TB__law_is_judged : LamX.TabB base mg c1 T1) (DI : Df K mg "is_integer" s_is_integer [.non, .non]) (D : ∀ (i : Nat) {x : Str} {st : Stmt}, dds[i]? = some (gl x st) → x ∈ globsA → Df K mg x st [])
    (L : FunD K "law" "law" (defArgs s_law) (defBody s_law) (defScope s_law) [] [] f fd) : FnG P w K mg base 113 f fd ["_law_script"] (spD K 1 (cLaw T1)) := by
  have FI : Fc P w K mg base "is_integer" [] 1 3 cIsInt := DI.fcD (N := ["value", "low", "high"]) (ps := ["value", "low", "high"]) ⟨rfl, rfl, rfl, by decide +kernel, rfl, by decide +kernel, by decide +kernel⟩ 3 2 (by simp) rfl (fun _ _ _ => .nil) (fun _ _ _ _ _ _ _ us its h1 h2 => match us, its, h1, h2 with | [_, _, _], [_, _], _, _ => ⟨_, rfl, rfl⟩) (ok_is_integer F)
  have fName : Fc P w K mg base "is_name" [] 1 1 cIsName := (D 7 rfl (by decide +kernel)).fc (N := ["value", "letter"]) (ps := ["value"]) ⟨rfl, rfl, rfl, by decide +kernel, rfl, by decide +kernel, by decide +kernel⟩ (fun _ _ _ _ _ _ us hl => match us, hl with | [_], _ => rfl) (ok_is_name F)
  have fNum : Fc P w K mg base "number_in" [] 1 1 cNumberIn := (D 8 rfl (by decide +kernel)).fc (N := ["text", "figure"]) (ps := ["text"]) ⟨rfl, rfl, rfl, by decide +kernel, rfl, by decide +kernel, by decide +kernel⟩ (fun _ _ _ _ _ _ us hl => match us, hl with | [_], _ => rfl) (ok_number_in F)
  have fPar : Fc P w K mg base "parted" [] 1 2 cParted := (D 9 rfl (by decide +kernel)).fc (N := ["text", "sign", "found", "depth", "begin", "at", "letter"]) (ps := ["text", "sign"]) ⟨rfl, rfl, rfl, by decide +kernel, rfl, by decide +kernel, by decide +kernel⟩ (fun _ _ _ _ _ _ us hl => match us, hl with | [_, _], _ => rfl) (ok_parted F)
  have fCop : Fc P w K mg base "copies_in" [] 2 1 cCopiesIn := (D 10 rfl (by decide +kernel)).fc (N := ["text", "word", "head", "end", "number", "blank", "rest", "many"]) (ps := ["text"]) ⟨rfl, rfl, rfl, by decide +kernel, rfl, by decide +kernel, by decide +kernel⟩ (fun _ _ _ _ _ _ us hl => match us, hl with | [_], _ => rfl) (ok_copies_in F fNum)
  have fRow : Fc P w K mg base "row_in" [] 2 1 cRowIn := (D 11 rfl (by decide +kernel)).fc (N := ["text", "word", "sign", "parts", "part"]) (ps := ["text"]) ⟨rfl, rfl, rfl, by decide +kernel, rfl, by decide +kernel, by decide +kernel⟩ (fun _ _ _ _ _ _ us hl => match us, hl with | [_], _ => rfl) (ok_row_in F fPar)
  have fGrp : Fc P w K mg base "groups_in" [] 3 1 cGroupsIn := (D 12 rfl (by decide +kernel)).fc (N := ["text", "found"]) (ps := ["text"]) ⟨rfl, rfl, rfl, by decide +kernel, rfl, by decide +kernel, by decide +kernel⟩ (fun _ _ _ _ _ _ us hl => match us, hl with | [_], _ => rfl) (ok_groups_in F fName fCop fRow)
  have fPt : ∀ h, Fc P w K mg base "is_plan_text" [] (h + 4) 2 (cPlanText h) := by
    intro h
    induction h with
    | zero => exact (D 13 rfl (by decide +kernel)).fc (N := ["text", "depth", "found", "many", "part"]) (ps := ["text", "depth"]) ⟨rfl, rfl, rfl, by decide +kernel, rfl, by decide +kernel, by decide +kernel⟩ (fun _ _ _ _ _ _ us hl => match us, hl with | [_, _], _ => rfl) (ok_is_plan_text 0 F fGrp (fun j hj => by omega))
    | succ h ih => exact (D 13 rfl (by decide +kernel)).fc (N := ["text", "depth", "found", "many", "part"]) (ps := ["text", "depth"]) ⟨rfl, rfl, rfl, by decide +kernel, rfl, by decide +kernel, by decide +kernel⟩ (fun _ _ _ _ _ _ us hl => match us, hl with | [_, _], _ => rfl) (ok_is_plan_text (h + 1) F fGrp (fun j hj => by cases hj; exact ih))
  have fNm : ∀ h, Fc P w K mg base "names_in" [] (h + 4) 1 (cNamesN h) := by
    intro h
    induction h with
    | zero => exact (D 14 rfl (by decide +kernel)).fc (N := nNin) (ps := ["text"]) ⟨rfl, rfl, rfl, by decide +kernel, rfl, by decide +kernel, by decide +kernel⟩ (fun _ _ _ _ _ _ us hl => match us, hl with | [_], _ => rfl) (ok_names_n 0 F fGrp (fun j hj => by omega))
    | succ h ih => exact (D 14 rfl (by decide +kernel)).fc (N := nNin) (ps := ["text"]) ⟨rfl, rfl, rfl, by decide +kernel, rfl, by decide +kernel, by decide +kernel⟩ (fun _ _ _ _ _ _ us hl => match us, hl with | [_], _ => rfl) (ok_names_n (h + 1) F fGrp (fun j hj => by cases hj; exact ih))
  obtain ⟨fi, mk, mi⟩ := X.init
  have kPlan : ∀ h, Kc P w K mg base "Plan" C [] (2 * h + 6) 2 (cInitN C h) := by
    intro h
    induction h with
    | zero => exact mi.kc X.at_ mk (N := nInit) (ps := ["self", "text"]) ⟨rfl, rfl, rfl, by decide +kernel, rfl, by decide +kernel, by decide +kernel⟩ (fun _ _ _ _ _ _ us hl => match us, hl with | [_, _], _ => rfl) (ok_init_n 0 F X (fPt 0) (fNm 0) fGrp (fun j hj => by omega))
    | succ h ih => exact mi.kc X.at_ mk (N := nInit) (ps := ["self", "text"]) ⟨rfl, rfl, rfl, by decide +kernel, rfl, by decide +kernel, by decide +kernel⟩ (fun _ _ _ _ _ _ us hl => match us, hl with | [_, _], _ => rfl) (ok_init_n (h + 1) F X (fPt (h + 1)) (fNm (h + 1)) fGrp (fun j hj => by cases hj; exact ih))
  obtain ⟨p1, g1, pr1, m1⟩ := X.text
  obtain ⟨p2, g2, pr2, m2⟩ := X.names
  obtain ⟨p3, g3, pr3, m3⟩ := X.word
  have pTxN : Pc P w K mg base C "text" 1 (cGetN C fun t => tS (PL.txt t)) := m1.pc X.cl pr1 (N := ["self"]) ⟨rfl, rfl, rfl, by decide +kernel, rfl, by decide +kernel, by decide +kernel⟩ (fun _ _ _ _ _ _ us hl => match us, hl with | [_], _ => rfl) (ok_text_n X)
  have gNum : Fc P w K mg base "number_in" [] 1 1 cNumG := (D 8 rfl (by decide +kernel)).fc (N := ["text", "figure"]) (ps := ["text"]) ⟨rfl, rfl, rfl, by decide +kernel, rfl, by decide +kernel, by decide +kernel⟩ (fun _ _ _ _ _ _ us hl => match us, hl with | [_], _ => rfl) (ok_number_in_g F)
  have gCop : Fc P w K mg base "copies_in" [] 2 1 cCopG := (D 10 rfl (by decide +kernel)).fc (N := nCopG) (ps := ["text"]) ⟨rfl, rfl, rfl, by decide +kernel, rfl, by decide +kernel, by decide +kernel⟩ (fun _ _ _ _ _ _ us hl => match us, hl with | [_], _ => rfl) (ok_copies_in_g F gNum)
  have gRow : Fc P w K mg base "row_in" [] 2 1 cRowG := (D 11 rfl (by decide +kernel)).fc (N := nRowG) (ps := ["text"]) ⟨rfl, rfl, rfl, by decide +kernel, rfl, by decide +kernel, by decide +kernel⟩ (fun _ _ _ _ _ _ us hl => match us, hl with | [_], _ => rfl) (ok_row_in_g F fPar)
  have gGrp : Fc P w K mg base "groups_in" [] 3 1 cGrpG := (D 12 rfl (by decide +kernel)).fc (N := ["text", "found"]) (ps := ["text"]) ⟨rfl, rfl, rfl, by decide +kernel, rfl, by decide +kernel, by decide +kernel⟩ (fun _ _ _ _ _ _ us hl => match us, hl with | [_], _ => rfl) (ok_groups_in_g F fName gCop gRow)
  have gIpt : ∀ h, Fc P w K mg base "is_plan_text" [] (h + 4) 2 (cIptG h) := by
    intro h
    induction h with
    | zero => exact (D 13 rfl (by decide +kernel)).fc (N := nIptG) (ps := ["text", "depth"]) ⟨rfl, rfl, rfl, by decide +kernel, rfl, by decide +kernel, by decide +kernel⟩ (fun _ _ _ _ _ _ us hl => match us, hl with | [_, _], _ => rfl) (ok_is_plan_text_g 0 F gGrp (fun j hj => by omega))
    | succ h ih => exact (D 13 rfl (by decide +kernel)).fc (N := nIptG) (ps := ["text", "depth"]) ⟨rfl, rfl, rfl, by decide +kernel, rfl, by decide +kernel, by decide +kernel⟩ (fun _ _ _ _ _ _ us hl => match us, hl with | [_, _], _ => rfl) (ok_is_plan_text_g (h + 1) F gGrp (fun j hj => by cases hj; exact ih))
  have xPlan : Kcx P w K mg base "Plan" C [] 102 2 (cInitB C U_BadPlan 36) := mi.kx X.at_ mk (N := nInit) (ps := ["self", "text"]) ⟨rfl, rfl, rfl, by decide +kernel, rfl, by decide +kernel, by decide +kernel⟩ (fun _ _ _ _ _ _ us hl => match us, hl with | [_, _], _ => rfl) (ok_init_b 36 F E_BadPlan.er (gIpt 61) (fPt 36) (fNm 36))
  have fTk : Fc P w K mg base "_law_take" [] 1 2 cTake := (D 15 rfl (by decide +kernel)).fc (N := nTake) (ps := ["_law_pot_here", "_law_upto"]) ⟨rfl, rfl, rfl, by decide +kernel, rfl, by decide +kernel, by decide +kernel⟩ (fun _ _ _ _ _ _ us hl => match us, hl with | [_, _], _ => rfl) (ok_take F)
  have fOf : Fc P w K mg base "_law_of" [] 2 2 cOf := (D 16 rfl (by decide +kernel)).fc (N := ["_law_pot_here", "_law_some"]) (ps := ["_law_pot_here", "_law_some"]) ⟨rfl, rfl, rfl, by decide +kernel, rfl, by decide +kernel, by decide +kernel⟩ (fun _ _ _ _ _ _ us hl => match us, hl with | [_, _], _ => rfl) (ok_of F fTk)
  have fPot : Fc P w K mg base "_law_pot" [] 1 2 cPot := (D 17 rfl (by decide +kernel)).fc (N := nPot) (ps := ["_law_script", "_law_place"]) ⟨rfl, rfl, rfl, by decide +kernel, rfl, by decide +kernel, by decide +kernel⟩ (fun _ _ _ _ _ _ us hl => match us, hl with | [_, _], _ => rfl) (ok_pot F)
  have fCe : Fc P w K mg base "_law_cells" [] 1 2 cCells := (D 18 rfl (by decide +kernel)).fc (N := ["_law_script", "_law_most"]) (ps := ["_law_script", "_law_most"]) ⟨rfl, rfl, rfl, by decide +kernel, rfl, by decide +kernel, by decide +kernel⟩ (fun _ _ _ _ _ _ us hl => match us, hl with | [_, _], _ => rfl) (ok_cells F)
  have fTx : ∀ h, Fc P w K mg base "_law_text" [] (h + 1) 1 (cText h) := by
    intro h
    induction h with
    | zero => exact (D 19 rfl (by decide +kernel)).fc (N := ["_law_lore", "_law_part"]) (ps := ["_law_lore"]) ⟨rfl, rfl, rfl, by decide +kernel, rfl, by decide +kernel, by decide +kernel⟩ (fun _ _ _ _ _ _ us hl => match us, hl with | [_], _ => rfl) (ok_lawtext 0 F (fun j hj => by omega))
    | succ h ih => exact (D 19 rfl (by decide +kernel)).fc (N := ["_law_lore", "_law_part"]) (ps := ["_law_lore"]) ⟨rfl, rfl, rfl, by decide +kernel, rfl, by decide +kernel, by decide +kernel⟩ (fun _ _ _ _ _ _ us hl => match us, hl with | [_], _ => rfl) (ok_lawtext (h + 1) F (fun j hj => by cases hj; exact ih))
  have fBu : ∀ h, Fc P w K mg base "_law_built" [] (h + 3) 4 (cBuiltN h) := by
    intro h
    induction h with
    | zero => exact (D 20 rfl (by decide +kernel)).fc (N := nBuilt) (ps := ["_law_pot_here", "_law_size", "_law_deep", "_law_names"]) ⟨rfl, rfl, rfl, by decide +kernel, rfl, by decide +kernel, by decide +kernel⟩ (fun _ _ _ _ _ _ us hl => match us, hl with | [_, _, _, _], _ => rfl) (ok_built_n 0 F fTk fOf (fun j hj => by omega))
    | succ h ih => exact (D 20 rfl (by decide +kernel)).fc (N := nBuilt) (ps := ["_law_pot_here", "_law_size", "_law_deep", "_law_names"]) ⟨rfl, rfl, rfl, by decide +kernel, rfl, by decide +kernel, by decide +kernel⟩ (fun _ _ _ _ _ _ us hl => match us, hl with | [_, _, _, _], _ => rfl) (ok_built_n (h + 1) F fTk fOf (fun j hj => by cases hj; exact ih))
  have fNe : Fc P w K mg base "_law_number_end" [] 1 2 cNE := (D 21 rfl (by decide +kernel)).fc (N := nNE) (ps := ["_law_text_here", "_law_spot"]) ⟨rfl, rfl, rfl, by decide +kernel, rfl, by decide +kernel, by decide +kernel⟩ (fun _ _ _ _ _ _ us hl => match us, hl with | [_, _], _ => rfl) (ok_nend)
  have fEn : ∀ h, Fc P w K mg base "_law_end" [] (h + 3) 2 (cEnd h) := by
    intro h
    induction h with
    | zero => exact (D 22 rfl (by decide +kernel)).fc (N := nEnd) (ps := ["_law_text_here", "_law_spot"]) ⟨rfl, rfl, rfl, by decide +kernel, rfl, by decide +kernel, by decide +kernel⟩ (fun _ _ _ _ _ _ us hl => match us, hl with | [_, _], _ => rfl) (ok_lend 0 F fNe (fun j hj => by omega))
    | succ h ih => exact (D 22 rfl (by decide +kernel)).fc (N := nEnd) (ps := ["_law_text_here", "_law_spot"]) ⟨rfl, rfl, rfl, by decide +kernel, rfl, by decide +kernel, by decide +kernel⟩ (fun _ _ _ _ _ _ us hl => match us, hl with | [_, _], _ => rfl) (ok_lend (h + 1) F fNe (fun j hj => by cases hj; exact ih))
  have fIp : Fc P w K mg base "_law_is_plan_text" [] 64 1 cIsP := (D 23 rfl (by decide +kernel)).fc (N := nIsP) (ps := ["_law_value"]) ⟨rfl, rfl, rfl, by decide +kernel, rfl, by decide +kernel, by decide +kernel⟩ (fun _ _ _ _ _ _ us hl => match us, hl with | [_], _ => rfl) (ok_is_plan_text_l F (fEn 60))
  have fBn : Fc P w K mg base "_law_bent_text" [] 3 2 cBent := (D 24 rfl (by decide +kernel)).fc (N := nBent) (ps := ["_law_pot_here", "_law_text_here"]) ⟨rfl, rfl, rfl, by decide +kernel, rfl, by decide +kernel, by decide +kernel⟩ (fun _ _ _ _ _ _ us hl => match us, hl with | [_, _], _ => rfl) (ok_bent F fTk fOf)
  have fOd : Fc P w K mg base "_law_odd" [] 3 1 cOdd := (D 25 rfl (by decide +kernel)).fc (N := ["_law_pot_here", "_law_some"]) (ps := ["_law_pot_here"]) ⟨rfl, rfl, rfl, by decide +kernel, rfl, by decide +kernel, by decide +kernel⟩ (fun _ _ _ _ _ _ us hl => match us, hl with | [_], _ => rfl) (ok_odd F fOf)
  have tCt : Ct K mg "_law_answer" s__law_answer "_law_look" := ⟨D 26 rfl (by decide +kernel), (fun _ _ _ _ _ _ us hl => match us, hl with | [_], _ => rfl)⟩
  have gJu : Gc P w K mg base "_law_is_judged" 111 1 (cJud T1) := D__law_is_judged.gc (N := nJud) (ps := ["_law_value"]) ⟨rfl, rfl, rfl, by decide +kernel, rfl, by decide +kernel, by decide +kernel⟩ (fun _ _ _ _ _ _ us hl => match us, hl with | [_], _ => rfl) (ok_judged F (F.bn _ (by decide +kernel)) TB__law_is_judged gB E_BadPlan tCt fIp (kPlan 36) xPlan pTxN)
  have gRi : Gc P w K mg base "_law_right" 112 1 (cRgt T1) := (D 27 rfl (by decide +kernel)).gc (N := nRgt) (ps := ["_law_pot_here"]) ⟨rfl, rfl, rfl, by decide +kernel, rfl, by decide +kernel, by decide +kernel⟩ (fun _ _ _ _ _ _ us hl => match us, hl with | [_], _ => rfl) (ok_right02 F fTk (fBu 4) (fTx 4) fBn fOd gJu)
  exact fnG_ok (N := nLaw) (ps := ["_law_script"]) L ⟨rfl, rfl, rfl, by decide +kernel, rfl, by decide +kernel, by decide +kernel⟩ (ok_law02 F fCe fPot gRi)
theorem spLaw_okT {H : Hp} {a : Addr} {ns : List Int} {E : XK} {cs : List (Addr × Addr)} {T1 : Addr} (hO : OnlyT cs H) (m0 : T1 ∈ cs.map (·.2)) (hS : SqL K H a (ns.map V.int)) : spD K 1 (cLaw T1) [.ref a] H (fun v _ => v = .bl true) E := by
  have at_ : ∀ {T : Addr}, T ∈ cs.map (·.2) → H T = some (.tbl #[]) := fun hT => by
    obtain ⟨p, hp, rfl⟩ := List.mem_map.mp hT
    exact hO.1 p hp
  have rm : ∀ {M : Mp} {Z : Zn} {T : Addr} (qn : Str), T ∈ cs.map (·.2) → RepM K M Z H T (.tbl qn) := fun qn hT => ⟨#[], at_ hT, True.intro, fun pos cv hc => by
    have z : codeAmong pos [] = some cv := hc
    simp [codeAmong] at z⟩
  have ne : ∀ {T : Addr}, T ∈ cs.map (·.2) → Rd H a (.lst (ns.map V.int)) → a ≠ T := fun hT hr z => by
    have q := at_ hT
    rw [← z] at q
    rcases hr with r | ⟨o, r⟩
    · rw [q] at r; cases r
    · rw [q] at r; cases r
  refine ⟨[scrD ns], fun b => if b = T1 then some (MO.tbl qJud) else none, fun _ => False, fun d _ => d = .bl true, rfl, .cons ?_ .nil, ⟨fun b o e => ?_, fun b z => z.elim⟩, ⟨ns, rfl, by show (if T1 = T1 then some (MO.tbl qJud) else none) = _; rw [if_pos rfl], fun _ => rfl⟩, fun v d H' M' x w' r e => ?_⟩
  · rcases hS with h1 | h1
    · refine .rol h1 ⟨?_, id⟩ (Reps.ofInts ns)
      show (if a = T1 then some (MO.tbl qJud) else none) = none
      rw [if_neg (ne m0 h1)]
    · exact .rolK h1 (Reps.ofInts ns)
  · have e : (if b = T1 then some (MO.tbl qJud) else none) = some o := e
    by_cases h0 : b = T1
    · rw [if_pos h0] at e
      cases e; rw [h0]; exact rm _ m0
    rw [if_neg h0] at e; cases e
  · subst e; cases r; rfl
theorem facts {f : Addr} (X : K.In h) (G : h.Ns mainGlobals mg) (hfa : mg ("law" : Str) = some (.ref f)) (c : Says spec w K) (hf : (P.main.file == "/claim/cut.py") = true) (hs : (P.main.scope.names.lookup ("super" : Str)).isSome = false) :
    ∃ (fd : FuncData) (T1 : Addr) (cs : List (Addr × Addr)), (∀ (s : Shared) (v : Value), BindsTo s fd ⟨[v], []⟩ [("_law_script", v)]) ∧ (∀ p ∈ cs, K.lookup p.2 = none ∧ ∃ y ∈ tbsA, PySem.W.tabIn K y = some p) ∧ (T1 ∈ cs.map (·.2)) ∧ ∀ base : Heap, K.In base → base.Ns mainGlobals mg → (∀ p ∈ cs, LamX.TabB base mg p.1 p.2) → FnG P w K mg base 113 f fd ["_law_script"] (spD K 1 (cLaw T1)) := by
  obtain ⟨fd, L⟩ := c.dd 29 (d := gl "law" s_law) rfl
  have e := hfa.symm.trans (glo_ok X G (c.fa (f := .glo "law") (mem_glo (by decide +kernel))))
  cases e
  have b := FunD.bindsA (ps := ["_law_script"]) L fun _ _ _ _ _ _ us hl => match us, hl with | [_], _ => rfl
  obtain ⟨fi, DI⟩ := c.dd 0 rfl
  obtain ⟨p0, t0, l0⟩ := c.tbs (x := "_law_is_judged") (by decide +kernel)
  have g0 := glo_ok X G (c.fa (f := .glo "_law_is_judged") (mem_co 17 rfl))
  have d0 := mkDc X G c 28 (x := "_law_is_judged") (st := s__law_is_judged) rfl g0 t0
  refine ⟨fd, p0.2, [p0], fun s v => b s [v] rfl, fun p hp => ?_, (by simp), fun base _ _ TB => ?_⟩
  · simp only [List.mem_cons, List.not_mem_nil, or_false] at hp
    rcases hp with rfl
    · exact ⟨l0, _, by decide +kernel, t0⟩
  · exact chain (mkFx X G c) (mkPx X G c) (glo_ok X G (c.fa (f := .glo "CrowdError") (mem_glo (by decide +kernel)))) (mkEk X G c hf hs (x := "BadPlan") (by decide +kernel) (by decide +kernel)) d0 (TB p0 (by simp)) ⟨_, fi, DI, glo_ok X G (c.fa (f := .glo "is_integer") (mem_glo (by decide +kernel)))⟩ (fun i {x st} hd hx => mkDf X G c i hd hx) L
end
end W

open PySem PySem.W PySem.Calls PyProof.Rows
theorem PySem.Challenge.cw_greetall_k02_texts_of_no_plan_holds : PySem.Challenge.rw_greetall_k02_texts_of_no_plan.Holds := by
  w_on; o_law
  refine HandSHeadRun.head_any (r := W.R) (q := view W.R.prog [53, 55]) (H := W.hk) (ob := W.ob) (M := 9000) (loose := W.names0 ++ W.names1) (d := HandSHeadRun.topDef W.R.prog 55) (kwd := []) W.ob_eq
    (by kernel_rfl) (fun s => by kernel_rfl) W.run (by kernel_rfl) (by kernel_rfl) (by kernel_rfl) (by rfl) (by first | assumption | decide +kernel) (by decide +kernel) ⟨rfl, rfl, rfl, rfl, rfl, by decide +kernel⟩ ?hw ?hc
  case hw => w_witness2
  case hc =>
    refine DL.walk_ofGT (l := PySem.Challenge.rw_greetall_k02_texts_of_no_plan) (n := 63) (k := 113) (x := "_law_script") (names := W.tbsA) rfl (by decide) (by kernel_rfl) ⟨rfl, by decide, by decide⟩ (by decide +kernel) ?F
    intro w mg fa h Y G hmg0
    obtain ⟨K, KX, c⟩ := Y
    have hmg : mg ("law" : PySem.Str) = some (.ref fa) := by
      have e : (HandSHeadRun.topDef W.R.prog 55).name = ("law" : PySem.Str) := by kernel_rfl
      rw [← e]
      exact hmg0
    obtain ⟨fd, T1, cs, hb, ht, m0, hF⟩ := W.facts (P := (PySem.Challenge.rw_greetall_k02_texts_of_no_plan).prog) (w := w) KX G hmg c (by rfl) (by decide +kernel)
    exact ⟨K, fd, DL.spD K 1 (W.cLaw T1), cs, KX, hb, ht, fun H a ns hl hO hS => W.spLaw_okT hO m0 hS, hF⟩
