import PyProof.Rows.All
import Wide.All
import OpenK.AllK
import Wide.FinOn
import PyProof.EqAt
import PyProof.EqKinds
import PyProof.TupleCall
import KE.KExcSuper
import HandS.ForMost
import HandS.ForExc
import HandS.ExcInit
import HandS.ExcField
import HandS.ExcIs
import HandS.IsInst
import KE.GoesEnum
import PyProof.Rows.ListStrD
import HandS.Walk
import HandS.Conv
import HandS.Flow
import HandS.RevRange
import HandS.Style
import HandS.Evl
import PySem.Challenge.RW_treesbeside_k93_forests_written_and_read
set_option Elab.async false
set_option linter.all false
set_option maxRecDepth 100000
set_option maxHeartbeats 4000000
/-! own errors whose __init__ says super().__init__(..) first, then stores its parameters -/
namespace PySem
namespace Bx
open PySem.W PySem.Calls PyProof.Rows PySem.HandSPX
/-! ### the text of such an __init__, by positions and names -/
abbrev sCall (q1 q2 q3 q5 q6 : Pos) (es : List Expr) : Stmt := .Expr (.Call (.Attribute (.Call (.Name "super" q1) [] [] q2) "__init__" q3) es [] q5) q6
abbrev asg (n : Str) (q1 q2 q3 q4 : Pos) : Stmt := .Assign [.Attribute (.Name "self" q1) n q2] (.Name n q3) q4
def body1 (n : Str) (q1 q2 q3 q4 q5 q6 p1 p2 p3 p4 : Pos) : List Stmt := [sCall q1 q2 q3 q5 q6 [.Name n q4], asg n p1 p2 p3 p4]
def body2 (n n2 : Str) (q1 q2 q3 q4 q42 q5 q6 p1 p2 p3 p4 r1 r2 r3 r4 : Pos) : List Stmt := [sCall q1 q2 q3 q5 q6 [.Name n q4, .Name n2 q42], asg n p1 p2 p3 p4, asg n2 r1 r2 r3 r4]
/-- how super().__init__(..) is read: by positions on one line -/
def Reads (q1 q2 q3 q5 : Pos) (es : List Expr) : Prop := ∀ env : Env, ∃ pl, eval (.Call (.Attribute (.Call (.Name "super" q1) [] [] q2) "__init__" q3) es [] q5) env = (do
      let ov ← attributeBase (.Call (.Name "super" q1) [] [] q2) "__init__" env (eval (.Call (.Name "super" q1) [] [] q2) env)
      standAt q3.atName
      let (f, first) ← holding [ov] (getMethod ov "__init__" pl)
      callWith q5 f first (backTo q5 (starEach es env)) [])
/-- what the written part says of such a class, at C, and of its __init__, at fI; ns: the fields, as the parameters behind self -/
structure Txt (K : Frag) (prog : Program) (mg : Str → Option Value) (x qual : Str) (ns : List Str) (bd : List Stmt) (C fI : Addr) (fd : FuncData) : Prop where
  gC : mg x = some (.ref C)
  cls : ∃ nm q N bs bm sn sub ab col dd k0 k1 k2 k3 k5, K.lookup C = some (excClassObj nm q C N bs bm true sn sub ab col dd k0 k1 k2 k3 k5 "ValueError.__new__") ∧ refsVE bm = true
  sa : findIn K (.ref C) "__setattr__" = some (some (.builtin "object.__setattr__"))
  noN : ∀ n ∈ ns, findIn K (.ref C) n = some none
  iC : findIn K (.ref C) "__init__" = some (some (.ref fI))
  tC : typeIn K (.ref fI) = some (.type "function")
  kC : keepIn K (.ref C) = true
  exC : subIn K (.ref C) (.type "BaseException") = some true
  exV : subIn K (.ref C) (.type "ValueError") = some true
  tyC : typeIn K (.ref C) = some (.type "type")
  hdC : hasDictIn K C = true
  mro : mroIn K C (.ref C) = some true
  up : ks_superIn K C C "__init__" = some (some (.builtin "ValueError.__init__"))
  opq : nsIn K cStatics "thirdparty.any" = some none
  sup : mg "super" = none
  tops : (prog.main.scope.names.lookup ("super" : Str)).isSome = false
  fn : ∃ (oc : Value) (od : Option Addr) (kV doc pm : Value) (an : Option Addr) (cda cc : Addr) (ct : Value) (osl : Array (Option Value)) (nm : Str) (params : Arguments) (scope : Scope),
    fd = ksFn nm qual params bd scope .none kV doc pm an (.ref cda) ct cc ∧ K.lookup fI = some ⟨oc, od, .func fd, osl⟩ ∧ codeIn K (.ref cda) qual = true ∧
    (∃ ccl cdd vs ccs file tf, K.lookup cda = some ⟨ccl, cdd, .fields vs, ccs⟩ ∧ vs[2]? = some (.str file tf) ∧ ((prog.main.file : Str) == file) = true) ∧
    (∃ cl cld csl, K.lookup cc = some ⟨cl, cld, .cell (some (.ref C)), csl⟩) ∧
    ((params.posonlyargs ++ params.args).head?).map (·.arg) = some "self" ∧
    scope.kind = .function ∧ scope.isCoroutine = false ∧ scope.isGenerator = false ∧ (∀ y ∈ scope.names, y.2 ≠ .cell) ∧
    scope.names.lookup ("super" : Str) = some .globalImplicit ∧ scope.names.lookup ("__class__" : Str) = some .free ∧ scope.names.lookup ("self" : Str) = some .local ∧ (∀ n ∈ ns, scope.names.lookup n = some .local) ∧
    (∀ us : List Value, us.length = ns.length + 1 → bindArgs fd ⟨us, []⟩ = pure ((("self" : Str) :: ns).zip us))
section
variable {prog : Program} {w : World} {A : Around} {E : Value → Shared → Prop} {s : Shared} {K : Frag} {C : Addr}
/-- the wrapper of ValueError.__init__, called: the args are laid anew -/
theorem call_mw {h : Heap} {g : Array GenState} {d : Drawn} {t : Nat} {os : OsState} {u e t0 : Addr} {nm q : Str} {N : Addr} {bs bm : List Value} {sn : List Str} {sub : List Value} {ab : Bool} {col : Option Bool} {dd : Option Addr} {k0 k1 k2 k3 k5 : Option Value} {rest : List Value} {Q : Value → Shared → Prop}
    (hC : h.get? C = some (excClassObj nm q C N bs bm true sn sub ab col dd k0 k1 k2 k3 k5 "ValueError.__new__")) (he : h.get? e = some (excO C t0)) (hu : h.get? u = some (kxs_mw "ValueError.__init__" e)) (hz : rest.length ≤ sizeLine)
    (hq : ∀ h' t1, (∀ b o, b ≠ e → h.get? b = some o → h'.get? b = some o) → h'.get? e = some (excO C t1) → Q .none ⟨h', g, d, t, os⟩) :
    wpAny (model prog w) A (call (.ref u) rest) Q E ⟨h, g, d, t, os⟩ := by
  refine wpAny_call (codeAny_of_tree ?_)
  show wpAny _ A.in1 (callAny (.ref u) ⟨rest, []⟩) _ _ _
  simp only [callAny]
  refine wpAny_bind (wpAny_load hu ?_)
  simp only [kxs_mw, show (Value.type "method-wrapper" == Value.type "method" || Value.type "method-wrapper" == Value.type "builtin_function_or_method" || Value.type "method-wrapper" == Value.type "method-wrapper") = true by decide, if_true]
  refine KFB.if_so (by decide) ?_
  refine wpAny_bind (check_bound_init F.excBase_ValueError.toExcCallFacts hC he rfl ?_)
  refine wpAny_bind (wpAny_pure (wpAny_pure ?_))
  refine ⟨plainId_quiet F.excBase_ValueError.init.plain _, codeAny_builtin F.excBase_ValueError.initEntry ?_⟩
  refine exc_init_tree (cls := .ref C) (t0 := t0) (dv := none) (c2 := .none) (c3 := .none) (b4 := .bool false) he hz fun h' k e' _ => ?_
  exact hq h' _ k e'
theorem super_stmt {h : Heap} {g : Array GenState} {d : Drawn} {t : Nat} {os : OsState} {mg mb : Str → Option Value} {x fI cda cc t0 L : Addr} {nm qual : Str} {params : Arguments} {body code : List Stmt} {scope : Scope} {kV doc pm ct oc : Value} {an od : Option Addr} {osl : Array (Option Value)}
    {m : Str → Option Value} {es rest : List Expr} {e : Expr} {vs : List Value} {q1 q2 q3 q5 q6 : Pos} {ccl : Value} {cdd : Option Addr} {cvs : Array Value} {ccs : Array (Option Value)} {file : Str} {tf : Tok} {cl : Value} {cld : Option Addr} {csl : Array (Option Value)} {ar : Arg}
    {nm2 q' : Str} {N : Addr} {bs bm : List Value} {sn : List Str} {sub : List Value} {ab : Bool} {col : Option Bool} {dd : Option Addr} {k0 k1 k2 k3 k5 : Option Value} {Q : Flow → Shared → Prop}
    (X : K.In h) (hg : h.Ns mainGlobals mg) (hb : h.Ns builtinsNs mb) (hbb : ∀ y : Str, y ≠ "__name__" → mb y = bootBuiltins y) (hn : h.Ns L m) (hself : m "self" = some (.ref x)) (hx : h.get? x = some (excO C t0))
    (hC : K.lookup C = some (excClassObj nm2 q' C N bs bm true sn sub ab col dd k0 k1 k2 k3 k5 "ValueError.__new__"))
    (exV : subIn K (.ref C) (.type "ValueError") = some true) (mro : mroIn K C (.ref C) = some true) (up : ks_superIn K C C "__init__" = some (some (.builtin "ValueError.__init__"))) (opq : nsIn K cStatics "thirdparty.any" = some none)
    (sup : mg "super" = none) (tops : (prog.main.scope.names.lookup ("super" : Str)).isSome = false)
    (hf : K.lookup fI = some ⟨oc, od, .func (ksFn nm qual params body scope .none kV doc pm an (.ref cda) ct cc), osl⟩) (hcode : K.lookup cda = some ⟨ccl, cdd, .fields cvs, ccs⟩) (hvs : cvs[2]? = some (.str file tf)) (hfile : ((prog.main.file : Str) == file) = true)
    (hcell : K.lookup cc = some ⟨cl, cld, .cell (some (.ref C)), csl⟩) (hp : (params.posonlyargs ++ params.args).head? = some ar) (har : ar.arg = "self")
    (hk : scope.kind = .function) (s1 : scope.names.lookup ("super" : Str) = some .globalImplicit) (s2 : scope.names.lookup ("__class__" : Str) = some .free) (s3 : scope.names.lookup ("self" : Str) = some .local)
    (hes : starEach es (ksEnv qual scope L fI (.ref cda) cc) = (false, eval e (ksEnv qual scope L fI (.ref cda) cc)) :: starEach rest (ksEnv qual scope L fI (.ref cda) cc)) (hz : vs.length ≤ sizeLine) (hpl : ((backTo q5 (starEach es (ksEnv qual scope L fI (.ref cda) cc))).any (·.1)) = false)
    (ha : ∀ (P : List Value → Shared → Prop) (h' : Heap) (t' : Nat), (∀ b o, h.get? b = some o → h'.get? b = some o) → P vs ⟨h', g, d, t', os⟩ → wpAny (model prog w) A (spliced (backTo q5 (starEach es (ksEnv qual scope L fI (.ref cda) cc)))) P E ⟨h', g, d, t', os⟩)
    (hev : Reads q1 q2 q3 q5 es)
    (hsw : swapsWith (.Call (.Attribute (.Call (.Name "super" q1) [] [] q2) "__init__" q3) es [] q5) none q6.line (ksEnv qual scope L fI (.ref cda) cc) = pure false)
    (hq : ∀ h' t' t1, (∀ b o, b ≠ x → h.get? b = some o → h'.get? b = some o) → h'.get? x = some (excO C t1) → Q .next ⟨h', g, d, t', os⟩) :
    wpAt (model prog w) A (.func code (ksEnv qual scope L fI (.ref cda) cc)) (exec (sCall q1 q2 q3 q5 q6 es) (ksEnv qual scope L fI (.ref cda) cc)) Q E ⟨h, g, d, t, os⟩ := by
  have hcl : clsIn K C = some { name := nm2, bases := bs, mro := .ref C :: bm, ns := N, qualname := q', hasDict := true, slotNames := sn, subclasses := sub, abstract := ab, collection := col, hasDel := false } := by unfold clsIn; rw [hC] <;> rfl
  have hD1 := X _ _ hC
  obtain ⟨pl, hev⟩ := hev (ksEnv qual scope L fI (.ref cda) cc)
  refine ks_wpAt_Expr_any (ks_wpAt_MethodCall (pl := pl) ?_ hev) (by simp [interactive, hk]) hsw
  refine ks_wpAt_super_base (env := ksEnv qual scope L fI (.ref cda) cc) s1 s2 (by decide) rfl (X _ _ hf) rfl hp rfl (X _ _ hcode) rfl hvs hfile tops ?_
  refine ks_loadName_global hk s1 (loadGlobal_builtin (env := ksEnv qual scope L fI (.ref cda) cc) hg sup hb (hbb _ (by decide +kernel)) ?_)
  refine ⟨rfl, ?_⟩
  refine wpAny_loadName_free hk s2 rfl ⟨_, X _ _ hcell, rfl⟩ ?_
  rw [har]
  refine wpAny_loadName_local hk s3 hn hself ?_
  refine ks_wpAny_isType_cls hD1 rfl ⟨rfl, ?_⟩
  refine ks_wpAny_call_super hD1 rfl hx rfl (fun c e => by cases e) (looks_mroIn X mro) fun h1 e1 k1 => ?_
  have X1 : K.In h1 := X.keeps k1
  have hx1 := k1 _ _ hx
  have hxC : x ≠ C := fun z => by
    rw [z, hD1] at hx
    have z2 := Option.some.inj hx
    cases z2
  have hup : alongIn K "__init__" (((Value.ref C :: bm).dropWhile (· != .ref C)).drop 1) = some (some (.builtin "ValueError.__init__")) := by
    have z := up
    unfold ks_superIn at z
    rw [hcl] at z
    exact z
  have hI : Looks (model prog w) h1 (isInstance (.ref x) (.type "ValueError")) true :=
    (InstAt.type (x := x) (C := C) (ox := excO C t0) (od := none) ⟨hx1, rfl, rfl, trivial⟩).andThen (looks_subIn X1 exV)
  refine kxs_getMethod kxs_ValueError e1 (looks_opaque X1 opq) (l₀ := .ref C :: bm) (fun A Q E s k q => wpAny_bind ((looks_clsIn X1 hcl) A _ E s k (wpAny_pure q))) rfl X1 hup hI hxC (by decide) ?_
  have k2 : ∀ b o, h1.get? b = some o → (h1.push (kxs_mw "ValueError.__init__" x)).get? b = some o := fun b o e => Heap.get?_push_of_some _ e
  refine kxs_callWith (i := "ValueError.__init__") (x := x) hpl ?_
  rw [hes] at ha ⊢
  refine evalArgs_plain (ha _ _ _ (fun b o e => k2 _ _ (k1 _ _ e)) ?_)
  have hu : (h1.push (kxs_mw "ValueError.__init__" x)).get? h1.objs.size = some (kxs_mw "ValueError.__init__" x) := Heap.get?_push_size _ rfl
  refine ⟨hu, ?_⟩
  refine call_mw (k2 _ _ (k1 _ _ hD1)) (k2 _ _ hx1) hu hz fun h' t1 k3 e3 => ?_
  exact hq h' _ t1 (fun b o hb e => k3 b o hb (k2 _ _ (k1 _ _ e))) e3
/-- what __init__ leaves of a fresh exception at x -/
structure InitEnd (h h' : Heap) (x C dx t1 : Addr) (mA : Str → Option Value) : Prop where
  keep : ∀ b o, b ≠ x → h.get? b = some o → h'.get? b = some o
  obj : h'.get? x = some { cls := .ref C, dict := some dx, data := .fields #[.ref t1, .none, .none, .none, .bool false, .none] }
  dbig : h.objs.size ≤ dx
  dne : dx ≠ x
  ns : h'.Ns1 dx mA
theorem ldX {M : Model} {s : Shared} {env : Env} {m : Str → Option Value} {x : Str} {pos : Pos} {v : Value} {Q : Value → Shared → Prop} {A : Around} {E : Value → Shared → Prop} (hn : s.heap.Ns env.locals m) (hv : m x = some v) (h : Q v s)
    (hk : env.scope.kind = .function) (hl : env.kindOf x = some .local) (hd : (x == ("__debug__" : Str)) = false) :
    wpAny M A (eval (.Name x pos) env) Q E s := wpAny_Name (wpAny_loadName_local hk hl hn hv h) hd
section
variable {mg mb : Str → Option Value} {xn qual n n2 : Str} {fI : Addr} {fd : FuncData} {R : Result → Shared → Prop} {x t0 : Addr} {v v2 : Value} {q1 q2 q3 q4 q42 q5 q6 p1 p2 p3 p4 r1 r2 r3 r4 : Pos}
theorem init1 (T : Txt K prog mg xn qual [n] (body1 n q1 q2 q3 q4 q5 q6 p1 p2 p3 p4) C fI fd) (X : K.In s.heap) (hlim : s.heap.NoLimit) (hg : s.heap.Ns mainGlobals mg) (hb : s.heap.Ns builtinsNs mb) (hbb : ∀ y : Str, y ≠ "__name__" → mb y = bootBuiltins y)
    (hx : s.heap.get? x = some (excO C t0)) (hnx : K.lookup x = none) (hroom : A.depth < recursionLimit) (hsn : (n == ("self" : Str)) = false) (hev : Reads q1 q2 q3 q5 [.Name n q4]) (hdb : (n == ("__debug__" : Str)) = false)
    (hq : ∀ h' tk dx t1, InitEnd s.heap h' x C dx t1 (fun y => if y = n then some v else none) → R (.ok (.ret .none)) { s with heap := h', toks := tk }) :
    codeAny (model prog w) A (.call (.ref fI) ⟨[.ref x, v], []⟩) R s := by
  obtain ⟨oc, od, kV, doc, pm, an, cda, cc, ct, osl, nm, params, scope, rfl, lk, hcd, ⟨ccl, cdd, vs, ccs, file, tf, hcode, hvs, hfile⟩, ⟨cl, cld, csl, hcell⟩, hp, hk, hco, hgen, hnc, s1, s2, s3, s4, bnd⟩ := T.fn
  obtain ⟨nm2, q', N, bs, bm, sn, sub, ab, col, dd, k0, k1, k2, k3, k5, hC, hbm⟩ := T.cls
  have hcl : clsIn K C = some { name := nm2, bases := bs, mro := .ref C :: bm, ns := N, qualname := q', hasDict := true, slotNames := sn, subclasses := sub, abstract := ab, collection := col, hasDel := false } := by unfold clsIn; rw [hC] <;> rfl
  have s4 := s4 n (by simp)
  have noN := T.noN n (by simp)
  have en : ∀ y : Str, List.lookup y ([(("self" : Str), Value.ref x), (n, v)] : List (Str × Value)).reverse = if y == n then some v else if y == ("self" : Str) then some (.ref x) else none := fun y => by
    show List.lookup y [(n, v), (("self" : Str), Value.ref x)] = _
    rw [List.lookup_cons, List.lookup_cons]
    cases y == n <;> cases y == ("self" : Str) <;> rfl
  have eself : (("self" : Str) == n) = false := by
    cases z : (("self" : Str) == n) with
    | false => rfl
    | true => rw [beq_iff_eq.mp z] at hsn; simp at hsn
  obtain ⟨ar, hp1, hp2⟩ : ∃ ar, (params.posonlyargs ++ params.args).head? = some ar ∧ ar.arg = "self" := by
    cases z : (params.posonlyargs ++ params.args).head? with
    | none => rw [z] at hp; cases hp
    | some ar => rw [z] at hp; exact ⟨ar, rfl, Option.some.inj hp⟩
  refine ks_codeAny_call_defAt (binds := [(("self" : Str), Value.ref x), (n, v)]) hroom (X _ _ lk) rfl hlim (codeRec_of X hcd) rfl (BindsTo.of_eq (bnd [.ref x, v] rfl)) hnc (fun y hy => ?_) (fun h1 hns hk1 => ?_) hco hgen hk
  · rcases List.mem_cons.mp hy with rfl | hy
    · exact s3
    · rcases List.mem_cons.mp hy with rfl | hy
      · exact s4
      · cases hy
  obtain ⟨hp0, g, dr, tk, os⟩ := s
  have X1 : K.In h1 := X.keeps hk1
  have hx1 := hk1 _ _ hx
  have hself : (fun y => List.lookup y ([(("self" : Str), Value.ref x), (n, v)] : List (Str × Value)).reverse) "self" = some (.ref x) := by
    show List.lookup ("self" : Str) _ = _
    rw [en, eself]; rfl
  have hval : (fun y => List.lookup y ([(("self" : Str), Value.ref x), (n, v)] : List (Str × Value)).reverse) n = some v := by
    show List.lookup n _ = _
    rw [en, beq_self_eq_true]; rfl
  have hxL : hp0.objs.size ≠ x := Nat.ne_of_gt (Heap.lt_size hx)
  refine ks_wpAt_execs_cons (super_stmt (rest := []) (e := .Name n q4) X1 (hg.keeps hk1) (hb.keeps hk1) hbb hns hself hx1 hC T.exV T.mro T.up T.opq T.sup T.tops lk hcode hvs hfile hcell hp1 hp2 hk s1 s2 s3 rfl (vs := [v]) (by show 1 ≤ sizeLine; decide) rfl (fun P h' t' k hP => ?_) hev rfl fun h2 t2 tt k2 hx2 => ?_)
  · exact Calls.spliced_cons (ldX (hns.keeps k) hval (Calls.spliced_nil hP) hk s4 hdb)
  have X2 : K.In h2 := fun a o e => k2 a o (fun z => by rw [z, hnx] at e; cases e) (X1 a o e)
  have hns2 : h2.Ns hp0.objs.size (fun y => List.lookup y ([(("self" : Str), Value.ref x), (n, v)] : List (Str × Value)).reverse) := by
    obtain ⟨o, es, ep, ho, r⟩ := hns
    exact ⟨o, es, ep, k2 _ _ hxL ho, r⟩
  refine wpAt_of_wpAny ?_
  show wpAny _ _ (execs _ _) _ _ _
  refine wpAny_execs_cons (plainObj_wpAny_Assign_Attribute ?_ (by first | rfl | with_unfolding_all rfl))
  refine ldX hns2 hval (ldX hns2 hself ?_ hk s3 (by decide)) hk s4 hdb
  refine set_plain X2 (ox := excO C tt) (od := none) ⟨hx2, rfl, rfl, trivial⟩ T.sa ?_
  refine exc_osa X2 hx2 hcl (show refsVE (.ref C :: bm) = true from hbm) rfl noN (fun h3 tk3 dx k3 dn dne hx3 hn3 => ?_)
  show wpAny _ _ (execs _ _) _ _ _
  have z : hp0.objs.size < h2.objs.size := hns2.lt
  refine wpAny_execs_nil (hq h3 tk3 dx tt ⟨fun b o hb e => k3 b o hb (k2 b o hb (hk1 b o e)), hx3, Nat.le_of_lt (Nat.lt_of_lt_of_le z dn), dne, hn3⟩)
theorem init2 (T : Txt K prog mg xn qual [n, n2] (body2 n n2 q1 q2 q3 q4 q42 q5 q6 p1 p2 p3 p4 r1 r2 r3 r4) C fI fd) (X : K.In s.heap) (hlim : s.heap.NoLimit) (hg : s.heap.Ns mainGlobals mg) (hb : s.heap.Ns builtinsNs mb) (hbb : ∀ y : Str, y ≠ "__name__" → mb y = bootBuiltins y)
    (hx : s.heap.get? x = some (excO C t0)) (hnx : K.lookup x = none) (hroom : A.depth < recursionLimit) (hsn : (n == ("self" : Str)) = false) (hsn2 : (n2 == ("self" : Str)) = false) (hnn : (n == n2) = false) (hev : Reads q1 q2 q3 q5 [.Name n q4, .Name n2 q42]) (hdb : (n == ("__debug__" : Str)) = false) (hdb2 : (n2 == ("__debug__" : Str)) = false)
    (hq : ∀ h' tk dx t1, InitEnd s.heap h' x C dx t1 (fun y => if y = n2 then some v2 else if y = n then some v else none) → R (.ok (.ret .none)) { s with heap := h', toks := tk }) :
    codeAny (model prog w) A (.call (.ref fI) ⟨[.ref x, v, v2], []⟩) R s := by
  obtain ⟨oc, od, kV, doc, pm, an, cda, cc, ct, osl, nm, params, scope, rfl, lk, hcd, ⟨ccl, cdd, vs, ccs, file, tf, hcode, hvs, hfile⟩, ⟨cl, cld, csl, hcell⟩, hp, hk, hco, hgen, hnc, s1, s2, s3, s4, bnd⟩ := T.fn
  obtain ⟨nm2, q', N, bs, bm, sn, sub, ab, col, dd, k0, k1, k2, k3, k5, hC, hbm⟩ := T.cls
  have hcl : clsIn K C = some { name := nm2, bases := bs, mro := .ref C :: bm, ns := N, qualname := q', hasDict := true, slotNames := sn, subclasses := sub, abstract := ab, collection := col, hasDel := false } := by unfold clsIn; rw [hC] <;> rfl
  have s5 := s4 n2 (by simp)
  have s4 := s4 n (by simp)
  have noN := T.noN n (by simp)
  have noN2 := T.noN n2 (by simp)
  have en : ∀ y : Str, List.lookup y ([(("self" : Str), Value.ref x), (n, v), (n2, v2)] : List (Str × Value)).reverse = if y == n2 then some v2 else if y == n then some v else if y == ("self" : Str) then some (.ref x) else none := fun y => by
    show List.lookup y [(n2, v2), (n, v), (("self" : Str), Value.ref x)] = _
    rw [List.lookup_cons, List.lookup_cons, List.lookup_cons]
    cases y == n2 <;> cases y == n <;> cases y == ("self" : Str) <;> rfl
  have eself : (("self" : Str) == n) = false := by
    cases z : (("self" : Str) == n) with
    | false => rfl
    | true => rw [beq_iff_eq.mp z] at hsn; simp at hsn
  have eself2 : (("self" : Str) == n2) = false := by
    cases z : (("self" : Str) == n2) with
    | false => rfl
    | true => rw [beq_iff_eq.mp z] at hsn2; simp at hsn2
  obtain ⟨ar, hp1, hp2⟩ : ∃ ar, (params.posonlyargs ++ params.args).head? = some ar ∧ ar.arg = "self" := by
    cases z : (params.posonlyargs ++ params.args).head? with
    | none => rw [z] at hp; cases hp
    | some ar => rw [z] at hp; exact ⟨ar, rfl, Option.some.inj hp⟩
  refine ks_codeAny_call_defAt (binds := [(("self" : Str), Value.ref x), (n, v), (n2, v2)]) hroom (X _ _ lk) rfl hlim (codeRec_of X hcd) rfl (BindsTo.of_eq (bnd [.ref x, v, v2] rfl)) hnc (fun y hy => ?_) (fun h1 hns hk1 => ?_) hco hgen hk
  · rcases List.mem_cons.mp hy with rfl | hy
    · exact s3
    · rcases List.mem_cons.mp hy with rfl | hy
      · exact s4
      · rcases List.mem_cons.mp hy with rfl | hy
        · exact s5
        · cases hy
  obtain ⟨hp0, g, dr, tk, os⟩ := s
  have X1 : K.In h1 := X.keeps hk1
  have hx1 := hk1 _ _ hx
  have hself : (fun y => List.lookup y ([(("self" : Str), Value.ref x), (n, v), (n2, v2)] : List (Str × Value)).reverse) "self" = some (.ref x) := by
    show List.lookup ("self" : Str) _ = _
    rw [en, eself2, eself]; rfl
  have hval : (fun y => List.lookup y ([(("self" : Str), Value.ref x), (n, v), (n2, v2)] : List (Str × Value)).reverse) n = some v := by
    show List.lookup n _ = _
    rw [en, hnn, beq_self_eq_true]; rfl
  have hval2 : (fun y => List.lookup y ([(("self" : Str), Value.ref x), (n, v), (n2, v2)] : List (Str × Value)).reverse) n2 = some v2 := by
    show List.lookup n2 _ = _
    rw [en, beq_self_eq_true]; rfl
  have hxL : hp0.objs.size ≠ x := Nat.ne_of_gt (Heap.lt_size hx)
  refine ks_wpAt_execs_cons (super_stmt (rest := [.Name n2 q42]) (e := .Name n q4) X1 (hg.keeps hk1) (hb.keeps hk1) hbb hns hself hx1 hC T.exV T.mro T.up T.opq T.sup T.tops lk hcode hvs hfile hcell hp1 hp2 hk s1 s2 s3 rfl (vs := [v, v2]) (by show 2 ≤ sizeLine; decide) rfl (fun P h' t' k hP => ?_) hev rfl fun h2 t2 tt k2 hx2 => ?_)
  · exact Calls.spliced_cons (ldX (hns.keeps k) hval (Calls.spliced_cons (ldX (hns.keeps k) hval2 (Calls.spliced_nil hP) hk s5 hdb2)) hk s4 hdb)
  have X2 : K.In h2 := fun a o e => k2 a o (fun z => by rw [z, hnx] at e; cases e) (X1 a o e)
  have hns2 : h2.Ns hp0.objs.size (fun y => List.lookup y ([(("self" : Str), Value.ref x), (n, v), (n2, v2)] : List (Str × Value)).reverse) := by
    obtain ⟨o, es, ep, ho, r⟩ := hns
    exact ⟨o, es, ep, k2 _ _ hxL ho, r⟩
  refine wpAt_of_wpAny ?_
  show wpAny _ _ (execs _ _) _ _ _
  refine wpAny_execs_cons (plainObj_wpAny_Assign_Attribute ?_ (by first | rfl | with_unfolding_all rfl))
  refine ldX hns2 hval (ldX hns2 hself ?_ hk s3 (by decide)) hk s4 hdb
  refine set_plain X2 (ox := excO C tt) (od := none) ⟨hx2, rfl, rfl, trivial⟩ T.sa ?_
  refine exc_osa X2 hx2 hcl (show refsVE (.ref C :: bm) = true from hbm) rfl noN (fun h3 tk3 dx k3 dn dne hx3 hn3 => ?_)
  show wpAny _ _ (execs _ _) _ _ _
  have z : hp0.objs.size < h2.objs.size := hns2.lt
  have X3 : K.In h3 := fun a o e => k3 a o (fun z => by rw [z, hnx] at e; cases e) (X2 a o e)
  have hns3 : h3.Ns hp0.objs.size (fun y => List.lookup y ([(("self" : Str), Value.ref x), (n, v), (n2, v2)] : List (Str × Value)).reverse) := by
    obtain ⟨o, es, ep, ho, r⟩ := hns2
    exact ⟨o, es, ep, k3 _ _ hxL ho, r⟩
  refine wpAny_execs_cons (plainObj_wpAny_Assign_Attribute ?_ (by first | rfl | with_unfolding_all rfl))
  refine ldX hns3 hval2 (ldX hns3 hself ?_ hk s3 (by decide)) hk s5 hdb2
  have hw3 : Within (fun y => if y = n then some v else none) [n] := fun y hy => by
    by_cases e : y = n
    · rw [e]; exact List.mem_cons_self ..
    · exact absurd (if_neg e) hy
  obtain ⟨oD, _, _, hoD, _, _⟩ := hn3.count hw3
  refine set_plain X3 (ox := { cls := .ref C, dict := some dx, data := .fields #[.ref tt, .none, .none, .none, .bool false, .none] }) (od := some oD) ⟨hx3, rfl, rfl, hoD⟩ T.sa ?_
  refine PySem.OEX.osa_old X3 hx3 hn3 hw3 (by show 1 ≤ 1000; decide) hcl (show refsVE (.ref C :: bm) = true from hbm) rfl noN2 (fun h4 tk4 k4 hn4 => ?_)
  show wpAny _ _ (execs _ _) _ _ _
  have hoo : ∀ b o, hp0.get? b = some o → b ≠ dx := fun b o e z => by
    subst z
    exact absurd (Nat.lt_of_lt_of_le (Heap.lt_size (k2 b o dne (hk1 b o e))) dn) (Nat.lt_irrefl _)
  refine wpAny_execs_nil (hq h4 tk4 dx tt ⟨fun b o hb e => k4 b o (hoo b o e) (k3 b o hb (k2 b o hb (hk1 b o e))), k4 x _ (Ne.symm dne) hx3, Nat.le_of_lt (Nat.lt_of_lt_of_le z dn), dne, hn4⟩)
end
end
/-- a made exception -/
structure Made (h h' : Heap) (e C d : Addr) (mA : Str → Option Value) : Prop where
  keep : ∀ b o, h.get? b = some o → h'.get? b = some o
  new : h.objs.size ≤ e
  obj : ∃ oe vs, h'.get? e = some oe ∧ oe.cls = .ref C ∧ oe.dict = some d ∧ oe.data = .fields vs ∧ vs[1]? = some .none
  dbig : h.objs.size ≤ d
  dne : d ≠ e
  ns : h'.Ns1 d mA
/-- its __init__ runs through with such arguments -/
def Inits (K : Frag) (prog : Program) (w : World) (mg : Str → Option Value) (C fI : Addr) (rest : List Value) (mA : Str → Option Value) : Prop :=
  ∀ (A : Around) (s : Shared) (mb : Str → Option Value) (x t0 : Addr) (R : Result → Shared → Prop), K.In s.heap → s.heap.NoLimit → s.heap.Ns mainGlobals mg → s.heap.Ns builtinsNs mb → (∀ y : Str, y ≠ "__name__" → mb y = bootBuiltins y) →
    s.heap.get? x = some (excO C t0) → K.lookup x = none → A.depth < recursionLimit → (∀ h' tk dx t1, InitEnd s.heap h' x C dx t1 mA → R (.ok (.ret .none)) { s with heap := h', toks := tk }) →
    codeAny (model prog w) A (.call (.ref fI) ⟨.ref x :: rest, []⟩) R s
section
variable {prog : Program} {w : World} {A : Around} {s : Shared} {K : Frag} {C fI : Addr} {mg mb : Str → Option Value} {xn qual : Str} {ns : List Str} {bd : List Stmt} {fd : FuncData} {R : Result → Shared → Prop} {rest : List Value} {mA : Str → Option Value}
theorem made (T : Txt K prog mg xn qual ns bd C fI fd) (hi : Inits K prog w mg C fI rest mA) (X : K.In s.heap) (hlim : s.heap.NoLimit) (hg : s.heap.Ns mainGlobals mg) (hb : s.heap.Ns builtinsNs mb) (hbb : ∀ y : Str, y ≠ "__name__" → mb y = bootBuiltins y)
    (hz : rest.length ≤ sizeLine) (hroom : A.depth + 1 < recursionLimit)
    (hq : ∀ h' tk e d, Made s.heap h' e C d mA → R (.ok (.ret (.ref e))) { s with heap := h', toks := tk }) : codeAny (model prog w) A (.call (.ref C) ⟨rest, []⟩) R s := by
  obtain ⟨nm2, q', N, bs, bm, sn, sub, ab, col, dd, k0, k1, k2, k3, k5, hC, hbm⟩ := T.cls
  obtain ⟨hp, g, dr, tk, os⟩ := s
  have k : ∀ b o, hp.get? b = some o → ((hp.push (kdv_tup rest)).push (excO C hp.objs.size)).get? b = some o := fun b o e => Heap.get?_push_of_some _ (Heap.get?_push_of_some _ e)
  have hget : ((hp.push (kdv_tup rest)).push (excO C hp.objs.size)).get? (hp.objs.size + 1) = some (excO C hp.objs.size) := by heap_get
  have hnx : K.lookup (hp.objs.size + 1) = none := by
    cases e : K.lookup (hp.objs.size + 1) with
    | none => rfl
    | some o =>
      have z : hp.get? (hp.objs.size + 1) = some o := X _ _ e
      exact absurd (Nat.lt_of_succ_lt (Heap.lt_size z)) (Nat.lt_irrefl _)
  refine call_own F.excBase_ValueError (fun Y => refsVE_contains Y bm hbm) (X _ _ hC) (looks_findIn X T.iC) (fun self => bind_fn X self T.tC) hz ?_
  refine hi _ ⟨(hp.push (kdv_tup rest)).push (excO C hp.objs.size), g, dr, tk, os⟩ mb _ _ _ (X.keeps k) (hlim.keeps k) (hg.keeps k) (hb.keeps k) hbb hget hnx ?_ fun h' tk' dx t1 ⟨k', hx, dn, dne, hns⟩ => ?_
  · show A.depth + 1 < recursionLimit
    exact hroom
  · have old : ∀ b o, hp.get? b = some o → h'.get? b = some o := fun b o e => k' b o (Nat.ne_of_lt (Nat.lt_succ_of_lt (Heap.lt_size e))) (k b o e)
    have z : hp.objs.size + 1 + 1 ≤ dx := by
      first
        | (simpa only [Heap.size_push] using dn)
        | exact dn
        | (have q := dn; rw [Heap.size_push, Heap.size_push] at q; exact q)
    exact ⟨rfl, hq h' tk' (hp.objs.size + 1) dx ⟨old, Nat.le_succ _, ⟨_, _, hx, rfl, rfl, rfl, rfl⟩, Nat.le_trans (Nat.le_trans (Nat.le_succ _) (Nat.le_succ _)) z, dne, hns⟩⟩
end
end Bx
end PySem
namespace L2
open PySem PySem.Spec PyProof.Rows
section
variable {X : Cx} {C fI : Addr} {xn qual : Str} {ns : List Str} {bd : List Stmt} {fd : FuncData}
/-- C(e, ..): the new exception's own dict holds the fields -/
def tMkB (C : Addr) (ns : List Str) (ta : TA) : St → Hp → XK → Prop := fun σ H Q => ta σ H fun vs H1 => vs.length = ns.length ∧ ∀ d, H1 d = none → Q (.ref C) (some d) (upd H1 d (.xd (ns.zip vs).reverse))
theorem pmk_b {a : Expr} {as : List Expr} {ta : TA} {p pos : Pos} {k : Nat} (T : PySem.Bx.Txt X.K X.prog X.mg xn qual ns bd C fI fd)
    (hi : ∀ vs us, vs.length = ns.length → Vals vs us → ∃ mA, PySem.Bx.Inits X.K X.prog X.w X.mg C fI us mA ∧ ∀ f, RelO (((ns.zip vs).reverse).lookup f) (mA f)) (hn : ns.length ≤ 1000)
    (hr : Room k X.A) (ha : PA X (a :: as) ta) (hg : Gl X xn) (hdb : (xn == ("__debug__" : Str)) = false)
    (he : starEach (a :: as) X.env = (false, eval a X.env) :: starEach as X.env := by rfl) (hpl : (backTo pos (starEach as X.env)).any (·.1) = false := by rfl) :
    PMk X (.Call (.Name xn p) (a :: as) [] pos) (tMkB C ns ta) := by
  intro pins s σ H Q I h
  refine wpAny_Call_Name_kw (ld_glob I hg T.gC ?_ hdb)
  refine PySem.W.callWith_K (h₀ := X.base) I.ok.mod.kin T.kC (thn (ha.run pos pins s σ H _ I h) fun us s1 hh => ?_) he hpl
  obtain ⟨vs, H1, I1, r1, hl, q1⟩ := hh
  refine ⟨I1.kIn, ?_⟩
  show wpAny _ _ (call (.ref C) us) _ _ _
  obtain ⟨mA, hin, hrel⟩ := hi vs us hl r1
  have hlim := I1.nolimit
  obtain ⟨mb, hb1, hb2⟩ := I1.mod.blt
  have hgl := I1.mod.glob.keeps I1.bk
  have hbl := hb1.keeps I1.bk
  obtain ⟨hp, g, dr, tk, os⟩ := s1
  have hus : us.length ≤ sizeLine := by
    rw [← Paired.length r1, sizeLine_eq]
    omega
  refine wpAny_call (PySem.Bx.made T hin I1.kIn hlim hgl hbl hb2 hus (by have := hr.dp; omega) fun h' tk' e d M => ?_)
  show MkP X pins σ Q (.ref e) ⟨h', g, dr, tk', os⟩
  obtain ⟨oe, fv, hoe, hc, hd, hdat, h1⟩ := M.obj
  have hns := M.ns
  obtain ⟨G', g1, g2⟩ := restrict h' fun b => decide (b ≠ e)
  have gk : ∀ b, b ≠ e → G'.get? b = h'.get? b := fun b hb => g1 b (decide_eq_true hb)
  have ge : G'.get? e = none := g2 e (by simp)
  have old : ∀ b o, hp.get? b = some o → G'.get? b = some o := fun b o q => (gk b (Nat.ne_of_lt (Nat.lt_of_lt_of_le (Heap.lt_size q) M.new))).trans (M.keep b o q)
  have ob : ObjOk X.prog X.w (upd H1 d (.xd (ns.zip vs).reverse)) G' d (.xd (ns.zip vs).reverse) := ⟨_, hns.at (fun o q => (gk d M.dne).trans q), hrel⟩
  have J : Inv X pins σ (upd H1 d (.xd (ns.zip vs).reverse)) ⟨G', g, dr, tk', os⟩ := I1.laid (t' := tk') old M.dbig ob
  refine ⟨e, oe, fv, ⟨G', g, dr, tk', os⟩, _, .ref C, some d, rfl, J, fun b o q => ?_, ge, hoe, ⟨hc, hd⟩, hdat, h1, ?_, rfl, I1.bare, raises_own T.exC T.tyC, q1 d (I1.hok.fresh M.dbig)⟩
  · by_cases hb : b = e
    · have q' : G'.get? b = some o := q
      rw [hb, ge] at q'; cases q'
    · exact (gk b hb).symm.trans q
  · rw [upd_ne (Ne.symm M.dne)]
    exact I1.hok.fresh M.new
/-- raise C(e, ..) -/
def tRaiseB (C : Addr) (ns : List Str) (W : WX) (ta : TA) : TS := fun _ σ H => tMkB C ns ta σ H fun cls d H' => W cls d σ H'
theorem ps_raiseB {a : Expr} {as : List Expr} {ta : TA} {W : WX} {p pos pos2 : Pos} {k : Nat} (hc : X.calm = true) (T : PySem.Bx.Txt X.K X.prog X.mg xn qual ns bd C fI fd)
    (hi : ∀ vs us, vs.length = ns.length → Vals vs us → ∃ mA, PySem.Bx.Inits X.K X.prog X.w X.mg C fI us mA ∧ ∀ f, RelO (((ns.zip vs).reverse).lookup f) (mA f)) (hn : ns.length ≤ 1000) (hdb : (xn == ("__debug__" : Str)) = false)
    (hr : Room k X.A) (tk : Takes X W) (ha : PA X (a :: as) ta) (hg : Gl X xn := by rfl)
    (he : starEach (a :: as) X.env = (false, eval a X.env) :: starEach as X.env := by rfl) (hpl : (backTo pos (starEach as X.env)).any (·.1) = false := by rfl) :
    PS X (.Raise (some (.Call (.Name xn p) (a :: as) [] pos)) none pos2) (tRaiseB C ns W ta) := ps_raise hc tk (pmk_b T hi hn hr ha hg hdb he hpl)
end
end L2
namespace PySem
namespace Bx
open PySem.W PySem.Spec PySem.Calls PyProof.Rows PySem.HandSPX
section
variable {prog : Program} {w : World} {K : Frag} {mg : Str → Option Value} {xn qual n n2 : Str} {C fI : Addr} {fd : FuncData} {q1 q2 q3 q4 q42 q5 q6 p1 p2 p3 p4 r1 r2 r3 r4 : Pos}
theorem inits1 (T : Txt K prog mg xn qual [n] (body1 n q1 q2 q3 q4 q5 q6 p1 p2 p3 p4) C fI fd) (hsn : (n == ("self" : Str)) = false) (hev : Reads q1 q2 q3 q5 [.Name n q4]) (hdb : (n == ("__debug__" : Str)) = false) :
    ∀ (vs : List L2.V) (us : List Value), vs.length = [n].length → L2.Vals vs us → ∃ mA, Inits K prog w mg C fI us mA ∧ ∀ f, L2.RelO ((([n].zip vs).reverse).lookup f) (mA f) := fun vs us hl r => by
  match vs, us, r with
  | [], _, _ => cases hl
  | _ :: _ :: _, _, _ => cases hl
  | [v], [u], .cons rv .nil =>
    exact ⟨fun y => if y = n then some u else none, fun A s mb x t0 R X hlim hg hb hbb hx hnx hroom hq => init1 T X hlim hg hb hbb hx hnx hroom hsn hev hdb hq, fun f => L2.relO_put (fs := []) (mA := fun _ => none) rv (fun _ => True.intro) f⟩
theorem inits2 (T : Txt K prog mg xn qual [n, n2] (body2 n n2 q1 q2 q3 q4 q42 q5 q6 p1 p2 p3 p4 r1 r2 r3 r4) C fI fd) (hsn : (n == ("self" : Str)) = false) (hsn2 : (n2 == ("self" : Str)) = false) (hnn : (n == n2) = false) (hev : Reads q1 q2 q3 q5 [.Name n q4, .Name n2 q42])
    (hdb : (n == ("__debug__" : Str)) = false) (hdb2 : (n2 == ("__debug__" : Str)) = false) :
    ∀ (vs : List L2.V) (us : List Value), vs.length = [n, n2].length → L2.Vals vs us → ∃ mA, Inits K prog w mg C fI us mA ∧ ∀ f, L2.RelO ((([n, n2].zip vs).reverse).lookup f) (mA f) := fun vs us hl r => by
  match vs, us, r with
  | [], _, _ => cases hl
  | [_], _, _ => cases hl
  | _ :: _ :: _ :: _, _, _ => cases hl
  | [v, v2], [u, u2], .cons rv (.cons rv2 .nil) =>
    exact ⟨fun y => if y = n2 then some u2 else if y = n then some u else none, fun A s mb x t0 R X hlim hg hb hbb hx hnx hroom hq => init2 T X hlim hg hb hbb hx hnx hroom hsn hsn2 hnn hev hdb hdb2 hq,
      fun f => L2.relO_put (fs := [(n, v)]) rv2 (fun f => L2.relO_put (fs := []) (mA := fun _ => none) rv (fun _ => True.intro) f) f⟩
end
/-! ### isinstance of such an exception, caught: its own dict stands -/
section
variable {prog : Program} {w : World} {A : Around} {E : Value → Shared → Prop} {s : Shared} {K : Frag} {x D : Addr} {ox : Obj} {od : Option Obj}
theorem find_data {C : Addr} {name : Str} {a g : Value} (hc : (clsIn K C).isSome = true) (ha : findIn K (.ref C) name = some (some a)) (hg : specialIn K a "__get__" = some (some g)) (ht : takesIn K a = some true) : findObj K C od name = some (.bind g a) := by
  obtain ⟨cd, hc⟩ := Option.isSome_iff_exists.mp hc
  unfold findObj
  rw [hc, Option.bind_some, ha, Option.bind_some]
  simp [hg, ht]
theorem class_of_exc {Q : Option Value → Shared → Prop} (T : L2.ExcC K D) (X : K.In s.heap) (I : InstAt s.heap x ox D od) (h : Q (some (.ref D)) { s with toks := s.toks + 1 }) : wpAny (model prog w) A (getAttr? (.ref x) "__class__") Q E s := by
  have hf : findObj K D od "__class__" = some (.bind (.builtin "getset_descriptor.__get__") (.builtin "object.__class__")) := find_data (by obtain ⟨cd, hc, _⟩ := any_some T.hd; rw [hc]; rfl) T.ha T.hn T.ht
  obtain ⟨hp, g, d, t, os⟩ := s
  have M0 := I.type (M := model prog w)
  have M1 := looks_findIn (M := model prog w) X T.hg
  have M2 := looks_findIn (M := model prog w) X T.hk
  have M3 := looks_find (M := model prog w) X I hf
  have below : Looks (model prog w) hp (isInstance (.ref x) (.type "BaseException")) true := M0.andThen (looks_subIn X T.hs)
  have y0 : (false && onTheHeap (Value.builtin "BaseException.__getattribute__")) = false := rfl
  have y1 : (onTheHeap (Value.ref D) && Value.builtin "BaseException.__getattribute__" == Value.builtin "object.__getattribute__") = false := by
    rw [show (Value.builtin "BaseException.__getattribute__" == Value.builtin "object.__getattribute__") = false by decide +kernel, Bool.and_false]
  unfold getAttr? getAttrBy? getAttrBy
  refine wpAny_bind (wpAny_mkText (wpAny_bind (wpAny_attempt (wpAny_holding (wpAny_bind (M0.at (wpAny_bind (M1.at ?_))))))))
  dsimp only
  rw [if_neg (by rw [y1]; exact Bool.false_ne_true)]
  unfold getAttrByItsOwn hookBefore
  refine wpAny_bind ?_
  rw [if_pos (show onTheHeap (Value.ref D) = true from rfl)]
  refine M2.at (wpAny_bind (wpAny_attempt (wpAny_holding ?_)))
  unfold callGetattribute
  rw [y0, if_neg Bool.false_ne_true]
  unfold boundAndCalled
  rw [PySem.F.excAttr_ValueError.ga.bind (.ref x)]
  refine wpAny_bind (wpAny_pure (wpAny_call (codeAny_call_builtin PySem.F.excAttr_ValueError.ga.plain PySem.F.entry_bexc_ga ?_)))
  refine @check_slot (model prog w) _ _ ⟨hp, g, d, t + 1, os⟩ "BaseException.__getattribute__" "BaseException" "__getattribute__" (.ref x) [.str "__class__" t] [] _ (by decide +kernel) (by decide +kernel) below (PySem.F.args_bexc_ga (.ref x) (.str "__class__" t)) ?_
  unfold Builtin.«object.__getattribute__»
  refine wpAny_bind (wpAny_of_eq (a := ((Value.ref x : Value), [Value.str "__class__" t])) (by first | rfl | (simp only [slotArgs]; rfl)) ?_)
  refine wpAny_bind (wpAny_pure (wpAny_bind (M0.at (wpAny_bind (M3.at ?_)))))
  refine wpAny_bind (wpAny_holding (wpAny_call (class_get (s := ⟨hp, g, d, t + 1, os⟩) (ox := ox) (od := od) X I T.hm ?_)))
  refine wpAny_pure ?_
  show wpAny _ _ (handedOut (.ref D)) _ _ _
  rw [handedOut_of (v := .ref D) rfl]
  first
    | exact wpAny_pure (wpAny_pure h)
    | exact wpAny_pure h
    | exact wpAny_pure (wpAny_bind (wpAny_pure (wpAny_pure h)))
theorem kitx_own_exc (T : L2.ExcC K D) : KitX K (.ref x) (.ref D) (fun h => ∃ ox od, InstAt h x ox D od) where
  ty := fun _ _ _ ⟨_, _, I⟩ => I.type
  it := fun _ _ X _ => by
    obtain ⟨cdD, hcD, _⟩ := any_some T.hd
    unfold clsIn at hcD
    split at hcD
    · rename_i c' d' cd' sl' ho
      intro A' Q' E' s' k q
      unfold isType loadHead
      exact wpAny_bind (wpAny_loadPart (k _ _ (X _ _ ho)) (wpAny_pure q))
    · cases hcD
  ne := fun h tp dd its n sl X htp => by
    obtain ⟨cdD, hcD, _⟩ := any_some T.hd
    refine Bool.eq_false_iff.mpr fun q => ?_
    have e : D = tp := Value.ref.inj (beq_iff_eq.mp q)
    subst e
    unfold clsIn at hcD
    split at hcD
    · rename_i c' d' cd' sl' ho
      have z := (X _ _ ho).symm.trans htp
      cases z
    · cases hcD
  ca := fun X ⟨_, _, I⟩ k => class_of_exc T X I k
end
end Bx
end PySem
namespace L2
open PySem PySem.Spec PyProof.Rows
/-- isinstance(e, c), e the caught exception, whose own dict is tracked -/
theorem call_isB {X : Cx} {a D d : Addr} {oe : Obj} {pn : List (Addr × Obj)} (C : ExcC X.K D) (hz : Zc (.ref D) (some d) oe) (hf : ∃ vs, oe.data = .fields vs) :
    CallR (X.suite a ((a, oe) :: pn)) (.builtin "isinstance") (fun xs H Q => (∃ fs, H d = some (.xd fs)) ∧ rIsE X.K D a xs H Q) := by
  intro pins s σ H xs us Q I r h
  obtain ⟨⟨fs, ho⟩, c, cv, b, rfl, hcv, e, q⟩ := h
  cases r with
  | cons rx rr =>
    cases rr with
    | cons rt rr =>
      cases rr
      cases rx
      have ec := hcv _ rt
      subst ec
      obtain ⟨hget, _⟩ := I.pin (a, oe) (List.mem_append.mpr (.inl List.mem_cons_self))
      obtain ⟨vs, hv⟩ := hf
      obtain ⟨od, hod⟩ : ∃ od, s.heap.get? d = some od := by
        obtain ⟨mA, ⟨o, es, ep, e1, _⟩, _⟩ : ObjOk X.prog X.w H s.heap d (.xd fs) := I.hok d _ ho
        exact ⟨o, e1⟩
      have J : PySem.W.InstAt s.heap a oe D (some od) := by
        obtain ⟨oc, odd, oda, osl⟩ := oe
        obtain ⟨h1, h2⟩ := hz
        dsimp only at h1 h2 hv
        subst h1 h2 hv
        exact ⟨hget, rfl, rfl, hod⟩
      exact PySem.W.kia_one (PySem.Bx.kitx_own_exc C) I.kIn ⟨oe, some od, J⟩ e (fun z => nomatch z) fun tk => ⟨.bl b, H, I.kept (t' := tk) fun _ _ z => z, rfl, q⟩
end L2

set_option Elab.async false
set_option linter.all false
set_option maxRecDepth 100000
set_option maxHeartbeats 4000000
/-! enumerate(text); list(text) -/
namespace L2
open PySem PySem.Spec PyProof.Rows
/-- the signs of a text, each in a new pair with its place -/
def ItS (x : Str) : It :=
  ⟨fun i _ => i < x.cps.size, fun i H v H' => ∃ T c, v = .ref T ∧ H T = none ∧ H' = upd H T (.tup [.int (i : Nat), .str ⟨#[c]⟩]) ∧ x.cps[i]? = some c, fun i _ => i = x.cps.size⟩
theorem turn_enumS {P : Program} {w : World} {K : PySem.W.Frag} {elts : List Expr} {kk : Nat} {tpos : Pos} (x : Str) (t : Tok) (e it : Addr) :
    Turn P w K (.Tuple elts kk tpos) (ItS x) [e, it] e (fun i h => (∃ old, IsEnum h e it ((i : Nat) : Int) old) ∧ h.IsStrIter it (strIterType x) x t i ∧ e ≠ it) where
  mem := by simp
  obj := fun i h st b hb => by
    obtain ⟨⟨old, he⟩, ⟨o, ho, hc, hd⟩, _⟩ := st
    have e' : b = e ∨ b = it := by simpa using hb
    rcases e' with z | z
    · rw [z]; exact ⟨_, he, fun v q => nomatch q⟩
    · rw [z]; exact ⟨o, ho, fun v q => by rw [hd] at q; cases q⟩
  keep := fun i h h' st k => by
    obtain ⟨⟨old, he⟩, ⟨o, ho, hr⟩, hne⟩ := st
    exact ⟨⟨old, k e (by simp) _ he⟩, ⟨o, k it (by simp) _ ho, hr⟩, hne⟩
  item := by
    intro X hP hw hK hc i pins s σ H E I hf st hg
    subst hP hw hK
    obtain ⟨⟨old, he⟩, hit, hne⟩ := st
    have D := Draws.text (prog := X.prog) (w := X.w) (A := X.A.in1) (I.ok.hd hc) it x t
    have hel : e < s.heap.objs.size := Heap.lt_size he
    have hil : it < s.heap.objs.size := by obtain ⟨_, q, _⟩ := hit; exact Heap.lt_size q
    refine wpAny_pyNext_enum_itemC (c := ((i : Nat) : Int)) D he hit hg hne (by simp [hne]) fun v h' tk hP ho hit' hT hsz hk => ?_
    obtain ⟨c, u, hcx, rfl⟩ := hP
    refine ⟨_, rfl, wpAny_letOwnedTupleGo_enum (s := { s with heap := h', toks := tk + 1 }) ho fun h'' he' sb => ?_⟩
    have hT2 : h''.get? s.heap.objs.size = some { cls := .type "tuple", data := .seq #[.int i tk, .str ⟨#[c]⟩ u] } := (sb.2 _ (Nat.ne_of_gt hel)).trans hT
    have new : ObjOk X.prog X.w (upd H s.heap.objs.size (.tup [.int (i : Nat), .str ⟨#[c]⟩])) h'' s.heap.objs.size (.tup [.int (i : Nat), .str ⟨#[c]⟩]) :=
      ⟨by show 2 ≤ sizeLine; decide, [.int i tk, .str ⟨#[c]⟩ u], .cons ⟨_, rfl⟩ (.cons ⟨_, rfl⟩ .nil), ⟨_, hT2, rfl, _, rfl⟩⟩
    have I1 : Inv X pins σ (upd H s.heap.objs.size (.tup [.int (i : Nat), .str ⟨#[c]⟩])) { s with heap := h'', toks := tk + 1 } :=
      I.turnedNew (ch := [e, it]) (fun b ob hb q => (sb.2 b (fun z => hb (by simp [z]))).trans (hk b ob (fun z => hb (by simp [z])) (fun z => hb (by simp [z])) q)) hf (Nat.le_refl _) new
    refine ⟨.ref s.heap.objs.size, _, I1, rfl, ⟨_, c, rfl, I.hok.fresh (Nat.le_refl _), rfl, hcx⟩, ⟨⟨.str ⟨#[c]⟩ u, ?_⟩, ?_, hne⟩, fun b hb => ?_⟩
    · have e1 : ((i + 1 : Nat) : Int) = (i : Int) + 1 := by omega
      rw [e1]; exact he'
    · obtain ⟨o, q, r⟩ := hit'
      exact ⟨o, (sb.2 it (Ne.symm hne)).trans q, r⟩
    · have hb' : b < s.heap.objs.size := by
        have e' : b = e ∨ b = it := by simpa using hb
        rcases e' with z | z
        · rw [z]; exact hel
        · rw [z]; exact hil
      rw [upd_ne (Nat.ne_of_lt hb')]
      exact (hf b hb).1
  done := by
    intro X hP hw hK hc i pins s σ H E I hf st hg
    subst hP hw hK
    obtain ⟨⟨old, he⟩, hit, hne⟩ := st
    obtain ⟨f0, f1, f2, f3, f4, f5⟩ := hf it (by simp)
    have hx : i = x.cps.size := hg
    subst hx
    have D := Draws.text (prog := X.prog) (w := X.w) (A := X.A.in1) (I.ok.hd hc) it x t
    exact wpAny_pyNext_enum_endD D he hit fun h' eb => ⟨rfl, I.turned (t' := s.toks) (fun b o hb q => eb b o hb q) f0 f1 f3 f4 f5⟩
  self := fun A i s Q E st h => let ⟨⟨_, he⟩, _⟩ := st; wpAny_pyIter_enum he h
def iEnumS (ta : TA) : TI := fun σ H R => ta σ H fun vs H1 => ∃ x, vs = [.str x] ∧ R (ItS x) H1
theorem pi_enumS {X : Cx} {e : Expr} {ta : TA} {p pos tpos : Pos} {elts : List Expr} {kk : Nat} (hg : Gl X "enumerate") (hm : X.mg "enumerate" = none) (ha : PA X [e] ta) (hs : starEach [e] X.env = [(false, eval e X.env)] := by rfl) :
    PI X (.Tuple elts kk tpos) (.Call (.Name "enumerate" p) [e] [] pos) (iEnumS ta) := by
  refine ⟨fun pins s σ H R I h => ?_⟩
  refine Call_ (ld_blt I hg hm boot_enumerate (PyProof.Rows.callWith_type1 (thn (ha.run pos pins s σ H _ I h) fun us s1 ⟨vs, H1, I1, r1, q1⟩ => ?_) hs rfl))
  obtain ⟨x, ex, q⟩ := q1
  subst ex
  cases r1 with
  | cons r rr =>
    cases rr
    obtain ⟨t, rfl⟩ := r
    refine call_enumerate_str fun h' he hit hsz hk => wpAny_pyIter_enum he ?_
    have I2 : Inv X pins σ H1 { s1 with heap := h' } := I1.kept (t' := s1.toks) hk
    refine ⟨s1.heap.objs.size + 1, [s1.heap.objs.size + 1, s1.heap.objs.size], _, _, H1, rfl, I2, turn_enumS x t (s1.heap.objs.size + 1) s1.heap.objs.size, ⟨⟨.none, he⟩, hit, Nat.succ_ne_self _⟩, fun b hb => ?_, q⟩
    have e' : b = s1.heap.objs.size + 1 ∨ b = s1.heap.objs.size := by simpa using hb
    have hle : s1.heap.objs.size ≤ b := by
      rcases e' with z | z
      · rw [z]; exact Nat.le_add_right _ _
      · rw [z]; exact Nat.le_refl _
    exact I1.fpOk hle (I1.hok.fresh hle)
theorem walk_enumS {z : Str} : Walk (ItS z) z.cps.size (fun _ => True) (fun i H v H' => ∃ T c, v = .ref T ∧ H T = none ∧ H' = upd H T (.tup [.int (i : Nat), .str ⟨#[c]⟩]) ∧ z.cps[i]? = some c) :=
  ⟨fun _ _ hi _ => hi, fun _ _ => rfl, fun _ _ _ _ _ _ y => y⟩
/-- list(text): its signs -/
theorem vals_signs {x : Str} {acc : Array Value} (h : ItemsOf (SignAt x) acc x.cps.size) : Vals (x.cps.toList.map fun c => V.str ⟨#[c]⟩) acc.toList := by
  obtain ⟨h1, h2⟩ := h
  have key : ∀ (n : Nat) (cs : List Nat) (us : List Value), cs.length = n → us.length = n → (∀ (j : Nat) (u : Value), us[j]? = some u → ∃ c t, cs[j]? = some c ∧ u = Value.str ⟨#[c]⟩ t) → Vals (cs.map fun c => V.str ⟨#[c]⟩) us := by
    intro n
    induction n with
    | zero =>
      intro cs us e1 e2 _
      rw [List.length_eq_zero_iff.mp e1, List.length_eq_zero_iff.mp e2]
      exact .nil
    | succ n ih =>
      intro cs us e1 e2 k
      match cs, us, e1, e2 with
      | c :: cs, u :: us, e1, e2 =>
        obtain ⟨c', t, z1, z2⟩ := k 0 u rfl
        have z1' : c = c' := Option.some.inj z1
        subst z1'
        refine .cons ⟨t, z2⟩ (ih cs us (by simpa using e1) (by simpa using e2) fun j u hj => k (j + 1) u (by simpa using hj))
  refine key x.cps.size x.cps.toList acc.toList (by simp) (by simpa using h1) fun j u hj => ?_
  obtain ⟨c, t, hc, e⟩ := h2 j u (by simpa using hj)
  exact ⟨c, t, by simpa using hc, e⟩
theorem call_listS {X : Cx} (hc : X.calm = true) : CallR X (.type "list") (fun xs H Q => ∃ x, xs = [.str x] ∧ x.length ≤ sizeLine ∧ ∀ l, H l = none → Q (.ref l) (upd H l (.lst (x.cps.toList.map fun c => V.str ⟨#[c]⟩)))) := by
  intro pins s σ H xs us Q I r h
  obtain ⟨x, rfl, hz, q⟩ := h
  obtain ⟨u, rfl, t, rfl⟩ := vals1 r
  have hn : H s.heap.objs.size = none := I.hok.fresh (Nat.le_refl _)
  refine PySem.call_list_str (hn := hz) (I.ok.hd hc) x t fun h' tk acc' c' hk hS' hacc => ?_
  have rv := vals_signs hacc
  have ob : ObjOk X.prog X.w (upd H s.heap.objs.size (.lst (x.cps.toList.map fun c => V.str ⟨#[c]⟩))) h' s.heap.objs.size (.lst (x.cps.toList.map fun c => V.str ⟨#[c]⟩)) := by
    refine ⟨?_, acc'.toList, c', rv, by simpa using hS'⟩
    rw [List.length_map, Array.length_toList]
    exact hz
  exact ⟨.ref s.heap.objs.size, _, I.laid (t' := tk) hk (Nat.le_refl _) ob, rfl, q _ hn⟩
end L2

set_option Elab.async false
set_option linter.all false
set_option maxRecDepth 100000
set_option maxHeartbeats 4000000
/-! rules with the written part K said outright, so that their readings hold nothing of the frame -/
namespace L2
open PySem PySem.Spec PyProof.Rows
section
variable {X : Cx} (K : PySem.W.Frag)
theorem kIxL (hK : X.K = K := by rfl) : IxR X (rIxL K) := by subst hK; exact ix_list
theorem kIxT (hK : X.K = K := by rfl) : IxR X (rIxT K) := by subst hK; exact ix_tup
theorem kSlL (hK : X.K = K := by rfl) : SlR X (rSlL K) := by subst hK; exact sl_list
theorem kSlT (hK : X.K = K := by rfl) : SlR X (rSlT K) := by subst hK; exact sl_tup
theorem kCatT (hK : X.K = K := by rfl) : OpR X (binaryOp .Add) (rCatT K) := by subst hK; exact op_catT
theorem kIn (hK : X.K = K := by rfl) : OpR X (compareOp .In) (rIn K false) := by subst hK; exact op_in_seq
theorem kNotIn (hK : X.K = K := by rfl) : OpR X (compareOp .NotIn) (rIn K true) := by subst hK; exact op_notIn_seq
theorem kEqD (hu : X.A.units + 64 < cLine) (hK : X.K = K := by rfl) : OpR X (compareOp .Eq) (rEqD K) := by subst hK; exact op_eqD hu
theorem kNeD (hu : X.A.units + 64 < cLine) (hK : X.K = K := by rfl) : OpR X (compareOp .NotEq) (rNeD K) := by subst hK; exact op_neD hu
/-- len of a list or a tuple -/
def rLenQ (K : PySem.W.Frag) : List V → Hp → VK → Prop := fun xs H Q => ∃ p ys, xs = [.ref p] ∧ (SqL K H p ys ∨ SqT K H p ys) ∧ Q (.int ys.length) H
theorem kLen (hK : X.K = K := by rfl) : CallR X (.builtin "len") (rLenQ K) := by subst hK; exact call_len_seq
def rListQ (K : PySem.W.Frag) : List V → Hp → VK → Prop := fun xs H Q => ∃ p ys, xs = [.ref p] ∧ (SqL K H p ys ∨ SqT K H p ys) ∧ ∀ l, H l = none → Q (.ref l) (upd H l (.lst ys))
theorem kListOf (hK : X.K = K := by rfl) : CallR X (.type "list") (rListQ K) := by subst hK; exact call_list_of
def rTupQ (K : PySem.W.Frag) : List V → Hp → VK → Prop := fun xs H Q => ∃ p ys, xs = [.ref p] ∧ ((SqL K H p ys ∧ ∀ l, H l = none → Q (.ref l) (upd H l (.tup ys))) ∨ (SqT K H p ys ∧ Q (.ref p) H))
theorem kTupOf (hK : X.K = K := by rfl) : CallR X (.type "tuple") (rTupQ K) := by subst hK; exact call_tuple_of
theorem kSum (hc : X.calm = true) (hK : X.K = K := by rfl) : CallR X (.builtin "sum") (rSum K) := by subst hK; exact cr_sum hc
theorem kMax (hc : X.calm = true) (hK : X.K = K := by rfl) : CallR X (.builtin "max") (rMax K) := by subst hK; exact cr_max hc
theorem kMin (hc : X.calm = true) (hK : X.K = K := by rfl) : CallR X (.builtin "min") (rMin K) := by subst hK; exact cr_min hc
theorem kAny (hc : X.calm = true) (hK : X.K = K := by rfl) : CallR X (.builtin "any") (rAny K) := by subst hK; exact cr_any hc
theorem kAll (hc : X.calm = true) (hK : X.K = K := by rfl) : CallR X (.builtin "all") (rAll K) := by subst hK; exact cr_all hc
theorem kIsi (hK : X.K = K := by rfl) : CallR X (.builtin "isinstance") (rIsi K) := by subst hK; exact call_isi
theorem kIxA (hK : X.K = K := by rfl) : IxR X (rIx K) := by subst hK; exact ix_seq
def rLenA (K : PySem.W.Frag) : List V → Hp → VK → Prop := fun xs H Q => ∃ x n, xs = [x] ∧ LenV K x H n ∧ Q (.int n) H
theorem kLenA (hK : X.K = K := by rfl) : CallR X (.builtin "len") (rLenA K) := by subst hK; exact call_len
def rJoin (K : PySem.W.Frag) : V → List V → Hp → VK → Prop := fun x xs H Q => ∃ a p, ∃ ys : List Str, x = .str a ∧ xs = [.ref p] ∧ (SqL K H p (ys.map V.str) ∨ SqT K H p (ys.map V.str)) ∧
      (ys.map (·.length)).sum + ys.length * a.length ≤ 16777216 ∧ Q (.str (Txt.join a ys)) H
theorem kJoin {o e : Expr} {to te : TE} {apos pos : Pos} (ho : PE X o to) (he : PE X e te) (hK : X.K = K := by rfl) (hs : starEach [e] X.env = [(false, eval e X.env)] := by rfl) (hbase : attributeBase o "join" X.env (eval o X.env) = eval o X.env := by rfl) (hline : (apos.endLine == pos.line) = true := by rfl) :
    PE X (.Call (.Attribute o "join" apos) [e] [] pos) (tM1 (rJoin K) to te) := by subst hK; exact pe_join ho he hs hbase hline
theorem kBM {T : String} {name : Str} {id : String} {r : V → List V → Hp → VK → Prop} {o e : Expr} {es : List Expr} {to : TE} {t : TA} {apos cpos : Pos} (pa : PlainAttrs T) (slot : Slot T name id) (hty : typeOf (.builtin id) = pure (.type "method_descriptor")) (hm : MtR X id r) (ho : PE X o to) (ha : PA X (e :: es) t) (hK : X.K = K := by rfl)
    (hbase : attributeBase o name X.env (eval o X.env) = eval o X.env := by rfl)
    (hfew : ((backTo cpos (starEach (e :: es) X.env)).all (fun x => !x.1) && (backToKw cpos (keywordEach [] X.env)).all (fun x => x.1.isSome)
      && decide ((e :: es).length + ([] : List Keyword).length + (if ([] : List Keyword).isEmpty then 0 else 1) < 30)) = true := by rfl)
    (hline : (apos.endLine == cpos.line) = true := by rfl) (hs : starEach (e :: es) X.env = (false, eval e X.env) :: starEach es X.env := by rfl) (hplain : (backTo cpos (starEach es X.env)).any (·.1) = false := by rfl) :
    PE X (.Call (.Attribute o name apos) (e :: es) [] cpos) (tBM K T r to t) := by subst hK; exact pe_bm pa slot hty hm ho ha hbase hfew hline hs hplain
theorem kBM0 {T : String} {name : Str} {id : String} {r : V → List V → Hp → VK → Prop} {o : Expr} {to : TE} {apos cpos : Pos} (pa : PlainAttrs T) (slot : Slot T name id) (hty : typeOf (.builtin id) = pure (.type "method_descriptor")) (hm : MtR X id r) (ho : PE X o to) (hK : X.K = K := by rfl)
    (hbase : attributeBase o name X.env (eval o X.env) = eval o X.env := by rfl) (hline : (apos.endLine == cpos.line) = true := by rfl) : PE X (.Call (.Attribute o name apos) [] [] cpos) (tBM0 K T r to) := by subst hK; exact pe_bm0 pa slot hty hm ho hbase hline
theorem kTruth {a : Expr} {ta : TE} (ha : PE X a ta) (hK : X.K = K := by rfl) (he : ∀ whole, isTrue a X.env whole = (do let v ← whole; standAt a.pos; holding [v] (truthy v)) := by intro _; rfl) : PT X a (fun σ H Q => ta σ H fun x H' => ∃ k, TruV K x H' k ∧ Q k H') := by subst hK; exact pt_truth ha he
theorem kPiL {tg l : Expr} {tl : TE} (hl : PE X l tl) (hK : X.K = K := by rfl) : PI X tg l (iList K tl) := by subst hK; exact pi_list hl
theorem kPiT {tg l : Expr} {tl : TE} (hl : PE X l tl) (hK : X.K = K := by rfl) : PI X tg l (iTup K tl) := by subst hK; exact pi_tup hl
theorem kPiRev {tg e : Expr} {ta : TA} {p pos : Pos} (hg : Gl X "reversed") (hm : X.mg "reversed" = none) (ha : PA X [e] ta) (hK : X.K = K := by rfl) (hs : starEach [e] X.env = [(false, eval e X.env)] := by rfl) : PI X tg (.Call (.Name "reversed" p) [e] [] pos) (iRev K ta) := by subst hK; exact pi_reversed hg hm ha hs
theorem kPiEnum {e : Expr} {ta : TA} {p pos tpos : Pos} {elts : List Expr} {kk : Nat} (hg : Gl X "enumerate") (hm : X.mg "enumerate" = none) (ha : PA X [e] ta) (hK : X.K = K := by rfl) (hs : starEach [e] X.env = [(false, eval e X.env)] := by rfl) :
    PI X (.Tuple elts kk tpos) (.Call (.Name "enumerate" p) [e] [] pos) (iEnum K ta) := by subst hK; exact pi_enum hg hm ha hs
theorem kPiZip {e e2 : Expr} {ta : TA} {p pos tpos : Pos} {elts : List Expr} {kk : Nat} (hg : Gl X "zip") (hm : X.mg "zip" = none) (ha : PA X [e, e2] ta) (hK : X.K = K := by rfl)
    (hs : starEach [e, e2] X.env = (false, eval e X.env) :: starEach [e2] X.env := by rfl) (hpl : (backTo pos (starEach [e2] X.env)).any (·.1) = false := by rfl) :
    PI X (.Tuple elts kk tpos) (.Call (.Name "zip" p) [e, e2] [] pos) (iZip K ta) := by subst hK; exact pi_zip hg hm ha hs hpl
theorem kGTup {es : List Expr} {k : Nat} {t : TGs} {n : Nat} {pos : Pos} (hc : X.calm = true) (h : PGs X es t) (hK : X.K = K := by rfl)
    (hn : (assignEach es X.env).length = n := by rfl) (hst : (assignEach es X.env).findIdx? (·.1) = none := by rfl) : PG X (.Tuple es k pos) (gTup K n t) := by subst hK; exact pg_tup hc h hn hst
theorem kFld {e : Expr} {ta : TE} {f : Str} {pos : Pos} (he : PE X e ta) (hK : X.K = K := by rfl) (hb : attributeBase e f X.env (eval e X.env) = eval e X.env := by rfl) : PE X (.Attribute e f pos) (tFld K ta f) := by subst hK; exact pe_fld he hb
theorem kPsFld {o value : Expr} {ta tv : TE} {f : Str} {pos pos' : Pos} (ha : PE X o ta) (hv : PE X value tv) (hK : X.K = K := by rfl) (hs : swapsWith value (some (.Attribute o f pos')) pos.line X.env = pure false := by rfl) : PS X (.Assign [.Attribute o f pos'] value pos) (sFld K ta tv f) := by subst hK; exact ps_fld ha hv hs
end
/-- a built-in class by its name, as a value -/
theorem kTy {X : Cx} (T : String) {x : Str} {pos : Pos} (hg : Gl X x) (hm : X.mg x = none) (hv : bootBuiltins x = some (.type T)) (hn : x ≠ "__name__" := by decide) (hd : (x == ("__debug__" : Str)) = false := by decide) : PE X (.Name x pos) (tC (.ty T)) :=
  pe_bltn hg hm hv rfl hn hd
end L2

set_option Elab.async false
set_option linter.all false
set_option maxRecDepth 100000
set_option maxHeartbeats 4000000
namespace Tb
open PySem PySem.Spec PyProof.Rows L2
def topS (i : Nat) : Stmt := PySem.Challenge.pw_treesbeside_k93_forests_written_and_read.main.body.getD i (.Pass ⟨0, 0, 0, 0⟩)
abbrev s_BadText___init__ : Stmt := inClass (topS 2) 0
abbrev s_right_starts : Stmt := topS 4
theorem sc_right_starts : FnScope ["text", "found", "begun", "at"] ["text"] (defScope s_right_starts) := ⟨rfl, rfl, rfl, by decide +kernel, rfl, by decide +kernel, by decide +kernel⟩
abbrev s_left_of : Stmt := topS 5
theorem sc_left_of : FnScope ["tree"] ["tree"] (defScope s_left_of) := ⟨rfl, rfl, rfl, by decide +kernel, rfl, by decide +kernel, by decide +kernel⟩
abbrev s_right_of : Stmt := topS 6
theorem sc_right_of : FnScope ["tree"] ["tree"] (defScope s_right_of) := ⟨rfl, rfl, rfl, by decide +kernel, rfl, by decide +kernel, by decide +kernel⟩
abbrev s_tree_of_forest : Stmt := topS 8
theorem sc_tree_of_forest : FnScope ["forest", "found", "letter", "inner"] ["forest"] (defScope s_tree_of_forest) := ⟨rfl, rfl, rfl, by decide +kernel, rfl, by decide +kernel, by decide +kernel⟩
abbrev s_forest_of_tree : Stmt := topS 9
theorem sc_forest_of_tree : FnScope ["tree", "found"] ["tree"] (defScope s_forest_of_tree) := ⟨rfl, rfl, rfl, by decide +kernel, rfl, by decide +kernel, by decide +kernel⟩
abbrev s_forest_text : Stmt := topS 10
theorem sc_forest_text : FnScope ["forest", "letter", "inner"] ["forest"] (defScope s_forest_text) := ⟨rfl, rfl, rfl, by decide +kernel, rfl, by decide +kernel, by decide +kernel⟩
abbrev s_read_forest : Stmt := topS 11
theorem sc_read_forest : FnScope ["letters", "text", "rows", "at", "sign", "inner", "letter", "empty"] ["letters", "text"] (defScope s_read_forest) := ⟨rfl, rfl, rfl, by decide +kernel, rfl, by decide +kernel, by decide +kernel⟩
abbrev s_law_same : Stmt := topS 13
theorem sc_law_same : FnScope ["told", "due", "k"] ["told", "due"] (defScope s_law_same) := ⟨rfl, rfl, rfl, by decide +kernel, rfl, by decide +kernel, by decide +kernel⟩
abbrev s_law_picks : Stmt := topS 14
theorem sc_law_picks : FnScope ["script", "k", "count", "cell", "found", "at", "state", "mixed"] ["script", "k", "count"] (defScope s_law_picks) := ⟨rfl, rfl, rfl, by decide +kernel, rfl, by decide +kernel, by decide +kernel⟩
abbrev s_law_pick : Stmt := topS 15
theorem sc_law_pick : FnScope ["picks", "many"] ["picks", "many"] (defScope s_law_pick) := ⟨rfl, rfl, rfl, by decide +kernel, rfl, by decide +kernel, by decide +kernel⟩
abbrev s_law_one : Stmt := topS 16
theorem sc_law_one : FnScope ["picks", "items"] ["picks", "items"] (defScope s_law_one) := ⟨rfl, rfl, rfl, by decide +kernel, rfl, by decide +kernel, by decide +kernel⟩
abbrev s_law_levels : Stmt := topS 17
theorem sc_law_levels : FnScope ["letters", "most", "found", "size", "row", "letter", "many", "left", "right"] ["letters", "most"] (defScope s_law_levels) := ⟨rfl, rfl, rfl, by decide +kernel, rfl, by decide +kernel, by decide +kernel⟩
abbrev s_law_trees : Stmt := topS 18
theorem sc_law_trees : FnScope ["letters", "most", "found", "row"] ["letters", "most"] (defScope s_law_trees) := ⟨rfl, rfl, rfl, by decide +kernel, rfl, by decide +kernel, by decide +kernel⟩
abbrev s_law_forest : Stmt := topS 19
theorem sc_law_forest : FnScope ["picks", "letters", "depth", "found", "turn"] ["picks", "letters", "depth"] (defScope s_law_forest) := ⟨rfl, rfl, rfl, by decide +kernel, rfl, by decide +kernel, by decide +kernel⟩
abbrev s_law_tree_of : Stmt := topS 20
theorem sc_law_tree_of : FnScope ["forest"] ["forest"] (defScope s_law_tree_of) := ⟨rfl, rfl, rfl, by decide +kernel, rfl, by decide +kernel, by decide +kernel⟩
abbrev s_law_text : Stmt := topS 21
theorem sc_law_text : FnScope ["forest", "found", "letter", "inner"] ["forest"] (defScope s_law_text) := ⟨rfl, rfl, rfl, by decide +kernel, rfl, by decide +kernel, by decide +kernel⟩
abbrev s_law_wrong : Stmt := topS 22
theorem sc_law_wrong : FnScope ["letters", "text", "deep", "at", "before"] ["letters", "text"] (defScope s_law_wrong) := ⟨rfl, rfl, rfl, by decide +kernel, rfl, by decide +kernel, by decide +kernel⟩
abbrev s_law_told : Stmt := topS 23
theorem sc_law_told : FnScope ["letters", "text", "error"] ["letters", "text"] (defScope s_law_told) := ⟨rfl, rfl, rfl, by decide +kernel, rfl, by decide +kernel, by decide +kernel⟩
abbrev s_law : Stmt := topS 24
theorem sc_law : FnScope ["script", "picks", "letters", "forests", "forest", "tree", "text", "turn", "at", "sign", "spoilt", "wrong", "told", "k"] ["script"] (defScope s_law) := ⟨rfl, rfl, rfl, by decide +kernel, rfl, by decide +kernel, by decide +kernel⟩
/-- the built-in names that the text leaves alone -/
structure Bi (mg : Str → Option Value) : Prop where
  len : mg "len" = none
  range : mg "range" = none
  reversed : mg "reversed" = none
  list : mg "list" = none
  tuple : mg "tuple" = none
  dict : mg "dict" = none
  set : mg "set" = none
  enumerate : mg "enumerate" = none
  isinstance : mg "isinstance" = none
  abs : mg "abs" = none
  sum : mg "sum" = none
  sorted : mg "sorted" = none
  zip : mg "zip" = none
  any : mg "any" = none
  all : mg "all" = none
  max : mg "max" = none
  min : mg "min" = none
  int : mg "int" = none
  str : mg "str" = none
  bool : mg "bool" = none
  super : mg "super" = none
  ValueError : mg "ValueError" = none
/-- a def of the text: where it stands, how it is called -/
structure FnH (K : PySem.W.Frag) (mg : Str → Option Value) (x : Str) (st : Stmt) (ps : List Str) (f : Addr) (fd : FuncData) : Prop where
  F : Fun K x x st f fd
  m : mg x = some (.ref f)
  b : Binds K fd ps []
theorem pe_fn {X : Cx} {x : Str} {st : Stmt} {ps : List Str} {f : Addr} {fd : FuncData} {k : Nat} {sp : Sp} {e : Expr} {es : List Expr} {p pos : Pos} {t : TA} (h : FnH X.K X.mg x st ps f fd) (G : FnOk X.prog X.w X.K X.mg X.base CX0 k f fd ps sp) (hr : Room k X.A) (ha : PA X (e :: es) t) (hg : Gl X x := by rfl)
    (hdb : (x == ("__debug__" : Str)) = false := by decide) (he : starEach (e :: es) X.env = (false, eval e X.env) :: starEach es X.env := by rfl) (hpl : (backTo pos (starEach es X.env)).any (·.1) = false := by rfl) :
    PE X (.Call (.Name x p) (e :: es) [] pos) (tCall sp [] E0 t) := pe_call G hr hg h.m h.F.kp h.b .nil pass0 ha hdb he hpl
/-- a text by its signs -/
abbrev S (l : List Nat) : Str := ⟨l.toArray⟩
theorem S_app (a b : List Nat) : S a ++ S b = S (a ++ b) := by
  show (⟨a.toArray ++ b.toArray⟩ : Str) = ⟨(a ++ b).toArray⟩
  simp
theorem S_len (a : List Nat) : (S a).length = a.length := by
  show a.toArray.size = a.length
  simp
theorem S_inj {a b : List Nat} (h : S a = S b) : a = b := by
  have h2 : a.toArray = b.toArray := congrArg Str.cps h
  simpa using h2
theorem S_of (x : Str) : x = S x.cps.toList := by
  cases x
  simp
theorem _root_.L2.Same.mut {H H' : Hp} {p : Addr} {o : HO} (e : Same H H') (h : H p = none) : Same H (upd H' p o) := fun a u ha => by
  rw [upd_ne (ne_of_none ha h)]
  exact e a u ha
theorem _root_.L2.Same.new {H : Hp} {p : Addr} (h : H p = none) (o : HO) : Same H (upd H p o) := L2.Same.mut (Same.refl H) h
theorem _root_.L2.Same.at {H H' : Hp} {p : Addr} {o : HO} (e : Same H H') (h : H p = some o) : H' p = some o := e p o h
end Tb

/-! trees and forests as plain data -/
namespace Tb
inductive Tr where
  | e
  | n (c : Nat) (l r : Tr)
  deriving DecidableEq, Repr
def Tr.code : Tr → List Nat
  | .e => [46]
  | .n c l r => c :: (l.code ++ r.code)
def Tr.size : Tr → Nat
  | .e => 0
  | .n _ l r => l.size + r.size + 1
def Tr.all (p : Nat → Prop) : Tr → Prop
  | .e => True
  | .n c l r => p c ∧ l.all p ∧ r.all p
theorem Tr.code_len : ∀ t : Tr, t.code.length = 2 * t.size + 1
  | .e => rfl
  | .n c l r => by
    have h1 := l.code_len
    have h2 := r.code_len
    simp only [Tr.code, Tr.size, List.length_cons, List.length_append]
    omega
theorem Tr.code_ne (t : Tr) : t.code ≠ [] := by
  cases t <;> simp [Tr.code]
/-! ### right_starts as plain data: the stack of begun parts, its top first -/
abbrev RS := List Int × List Int
def rsStep (c : Nat) (o : Nat) (st : RS) : Option RS :=
  if c = 46 then some (st.1, (o : Int) :: st.2) else match st.2 with
  | _ :: y :: b => some (st.1.set o y, (o : Int) :: b)
  | _ => none
def rsRun : List Nat → Nat → RS → Option RS
  | [], _, st => some st
  | c :: cs, o, st => (rsRun cs (o + 1) st).bind (rsStep c o)
theorem rsRun_app : ∀ (a b : List Nat) (o : Nat) (st : RS), rsRun (a ++ b) o st = (rsRun b (o + a.length) st).bind (rsRun a o)
  | [], b, o, st => by
    simp only [List.nil_append, List.length_nil, Nat.add_zero]
    cases rsRun b o st <;> rfl
  | c :: a, b, o, st => by
    have ih := rsRun_app a b (o + 1) st
    simp only [List.cons_append, rsRun, ih, List.length_cons]
    rw [show o + 1 + a.length = o + (a.length + 1) by omega]
    cases rsRun b (o + (a.length + 1)) st <;> rfl
theorem rsRun_code : ∀ (t : Tr) (o : Nat) (f b : List Int), t.all (· ≠ 46) → ∃ f', rsRun t.code o (f, b) = some (f', (o : Int) :: b) ∧ f'.length = f.length ∧ (∀ j, j < o → f'[j]? = f[j]?) ∧ (∀ c l r, t = .n c l r → o < f.length → f'[o]? = some ((o + 1 + l.code.length : Nat) : Int))
  | .e, o, f, b, _ => ⟨f, by simp [Tr.code, rsRun, rsStep], rfl, fun _ _ => rfl, fun c l r h => by cases h⟩
  | .n c l r, o, f, b, h => by
    obtain ⟨hc, hl, hr⟩ := h
    obtain ⟨f1, e1, n1, k1, _⟩ := rsRun_code r (o + 1 + l.code.length) f b hr
    obtain ⟨f2, e2, n2, k2, _⟩ := rsRun_code l (o + 1) f1 (((o + 1 + l.code.length : Nat) : Int) :: b) hl
    refine ⟨f2.set o ((o + 1 + l.code.length : Nat) : Int), ?_, by simp [n1, n2], fun j hj => ?_, fun c' l' r' h' ho => ?_⟩
    · show rsRun (c :: (l.code ++ r.code)) o (f, b) = _
      simp only [rsRun, rsRun_app, e1, Option.bind_some, e2]
      simp only [rsStep, if_neg hc]
    · rw [List.getElem?_set_ne (by omega), k2 j (by omega), k1 j (by omega)]
    · cases h'
      rw [List.getElem?_set_self (by omega)]
/-- the run over what is left, from a run over the whole -/
theorem rsRun_drop {text : List Nat} {st st' : RS} (h : rsRun text 0 st = some st') (k : Nat) (hk : k < text.length) : ∃ s1 s2, rsRun (text.drop (k + 1)) (k + 1) st = some s1 ∧ rsStep (text[k]) k s1 = some s2 ∧ rsRun (text.drop k) k st = some s2 := by
  have e : text = text.take k ++ text.drop k := (List.take_append_drop k text).symm
  rw [e, rsRun_app] at h
  have hl : (text.take k).length = k := by rw [List.length_take]; omega
  rw [hl, Nat.zero_add] at h
  have ed : text.drop k = text[k] :: text.drop (k + 1) := List.drop_eq_getElem_cons hk
  cases q : rsRun (text.drop k) k st with
  | none => rw [q] at h; cases h
  | some s2 =>
    rw [ed] at q
    simp only [rsRun] at q
    cases q1 : rsRun (text.drop (k + 1)) (k + 1) st with
    | none => rw [q1] at q; cases q
    | some s1 =>
      rw [q1] at q
      exact ⟨s1, s2, rfl, q, rfl⟩
end Tb

set_option Elab.async false
set_option linter.all false
set_option maxRecDepth 100000
set_option maxHeartbeats 4000000
namespace Tb
open PySem PySem.Spec PyProof.Rows L2
section
variable {P : Program} {w : World} {K : PySem.W.Frag} {mg : Str → Option Value} {base : Heap}
theorem dot : (PySem.Str.ofString "." : Str) = S [46] := by decide +kernel
theorem sz {n : Nat} (h : n ≤ 100000) : n ≤ sizeLine := Nat.le_trans h (by decide)
theorem sz' {n : Nat} (h : n ≤ 100000) : n < sizeLine := Nat.lt_of_le_of_lt h (by decide)
theorem iteNN {c A B : Prop} [Decidable c] (hc : ¬ c) (h : A) : if (!decide c) = true then A else B := by
  rw [decide_eq_false hc]
  exact h
theorem ne_of_none' {H : Hp} {a b : Addr} {o : HO} (h : H a = some o) (h' : H b = none) : b ≠ a := fun e => ne_of_none h h' e.symm
/-- right_starts of a tree's text -/
def spRS (K : PySem.W.Frag) : Sp := fun vs H Q _ => ∃ t : Tr, vs = [.str (S t.code)] ∧ t.all (· ≠ 46) ∧ t.size ≤ 1000 ∧
  ∀ p H' (f : List Int), Same H H' → H' p = some (.lst (f.map V.int)) → (∀ c l r, t = .n c l r → f[0]? = some ((1 + l.code.length : Nat) : Int)) → Q (.ref p) H'
theorem ok_right_starts {f : Addr} {fd : FuncData} (F : Fun K "right_starts" "right_starts" s_right_starts f fd) (M : Bi mg) : FnOk P w K mg base CX0 1 f fd ["text"] (spRS K) := by
  refine F.ok sc_right_starts (fun vs H Q E h => ?_) (fun cdv A outer s H vs Q E hr h => ?_)
  · obtain ⟨t, rfl, _⟩ := h
    rfl
  obtain ⟨t, rfl, hA, hz, k⟩ := h
  refine ⟨_, (pss_cons (ps_set (i := 1) sc_right_starts.nd rfl (Or.inl rfl) (pe_op op_rep (pe_lst (pa_cons pe_int pa_nil)) (pe_callB call_len_str rfl M.len PySem.boot_len (pa_cons (pv 0) pa_nil))))
  (pss_cons (ps_set (i := 2) sc_right_starts.nd rfl (Or.inl rfl) (pe_lst pa_nil))
  (pss_cons (ps_for PassesOwn.never rfl (pi_revR rfl M.reversed (prg_1 rfl M.range (pe_callB call_len_str rfl M.len PySem.boot_len (pa_cons (pv 0) pa_nil)))) (pg_name (i := 3) sc_right_starts.nd rfl (Or.inl rfl))
    ((pss_cons (ps_if (pt_cmpR op_ne (pe_ix ix_str (pv 0) (pv 3) (fun _ _ => rfl)) pe_str (nomark _))
       ((pss_cons (ps_if (pt_cmpR op_lt (pe_callB (kLen K) rfl M.len PySem.boot_len (pa_cons (pv 2) pa_nil)) pe_int (nomark _))
          ((pss_one (ps_ret pe_non)))
          pss_nil)
        (pss_cons (ps_expr (kBM0 K PySem.F.plainAttrs_list PySem.F.slot_list_pop PySem.F.type_list_pop mt_pop (pv 2)))
        (pss_one (ps_asg (kBM0 K PySem.F.plainAttrs_list PySem.F.slot_list_pop PySem.F.type_list_pop mt_pop (pv 2)) (pg_sub (pv 1) (pv 3) set_list))))))
       pss_nil)
     (pss_one (ps_expr (kBM K PySem.F.plainAttrs_list PySem.F.slot_list_append PySem.F.type_list_append mt_append (pv 2) (pa_cons (pv 3) pa_nil)))))))
  (pss_one (ps_ret (pe_ifExp (pt_cmpR op_eq (pe_callB (kLen K) rfl M.len PySem.boot_len (pa_cons (pv 2) pa_nil)) pe_int (nomark _)) (pv 1) pe_non)))))), ?_⟩
  have hlen := t.code_len
  have hL : (S t.code).length ≤ sizeLine := by rw [S_len]; exact sz (by omega)
  have hl2 : (S t.code).length = t.code.length := S_len _
  refine ⟨(by show 1 ≤ sizeLine; decide), fun p0 hp0 => ?_⟩
  refine ⟨_, rfl, _, rfl, hL, p0, _, _, rfl, rfl, upd_same, by omega, by rw [hl2]; omega, ?_, fun pf hpf => ?_⟩
  · rw [hl2, Int.toNat_natCast]
    exact sz (by simp; omega)
  have e0 : (List.replicate ((S t.code).length : Int).toNat [V.int 0]).flatten = (List.replicate t.code.length (0 : Int)).map V.int := by
    rw [hl2, Int.toNat_natCast]
    induction t.code.length with
    | zero => rfl
    | succ n ih => rw [List.replicate_succ, List.flatten_cons, ih, List.replicate_succ, List.map_cons]; rfl
  rw [e0]
  have hpf0 : H pf = none := (Same.new hp0 _).free hpf
  refine ⟨(by show 0 ≤ sizeLine; decide), fun pb hpb => ?_⟩
  have hpb1 : pb ≠ pf := ne_of_none' upd_same hpb
  have hpb0 : H pb = none := Same.free (Same.mut (Same.new hp0 _) hpf0) hpb
  obtain ⟨f', hrun, hfl, _, hf'⟩ := rsRun_code t 0 (List.replicate t.code.length (0 : Int)) [] hA
  have hN : (((S t.code).length : Int) - 0).toNat = t.code.length := by rw [hl2]; omega
  refine ⟨_, rfl, _, rfl, hL, _, rfl, by omega, by omega, by rw [hl2]; omega, by rw [hl2]; omega, for_rangeC (fun i σ H' => i ≤ t.code.length ∧ ∃ (st : RS) (v : Option V),
    rsRun (t.code.drop (t.code.length - i)) (t.code.length - i) (List.replicate t.code.length (0 : Int), []) = some st ∧ st.1.length = t.code.length ∧ st.2.length ≤ i ∧
    σ = [some (.str (S t.code)), some (.ref pf), some (.ref pb), v] ∧ Same H H' ∧ H' pf = some (.lst (st.1.map V.int)) ∧ H' pb = some (.lst (st.2.reverse.map V.int))) ?_ ?_ ?_⟩
  · refine ⟨Nat.zero_le _, (_, []), none, by rw [Nat.sub_zero, List.drop_length]; rfl, by simp, Nat.le_refl _, rfl, ?_, ?_, upd_same⟩
    · exact Same.mut (Same.mut (Same.new hp0 _) hpf0) hpb0
    · rw [upd_ne hpb1.symm, upd_same]
  · rintro i σ H' hi ⟨hi1, st, v, e1, hs1, hs2, rfl, hS, hf, hb⟩
    rw [hN] at hi
    have hk : t.code.length - (i + 1) < t.code.length := by omega
    obtain ⟨s1, s2, q1, q2, q3⟩ := rsRun_drop hrun (t.code.length - (i + 1)) hk
    have ek : t.code.length - (i + 1) + 1 = t.code.length - i := by omega
    rw [ek, e1] at q1
    cases q1
    have eo : (0 : Int) + (((((S t.code).length : Int) - 0).toNat : Nat) : Int) - 1 + ((i : Nat) : Int) * -1 = ((t.code.length - (i + 1) : Nat) : Int) := by rw [hN]; omega
    rw [eo]
    generalize ho : t.code.length - (i + 1) = o at *
    have hat : atI (S t.code).cps.toList ((o : Nat) : Int) = some t.code[o] := atI_nat (by simp [hk])
    refine ⟨_, rfl, _, rfl, S t.code, (o : Int), t.code[o], rfl, rfl, hL, hat, rfl, _, rfl, ?_⟩
    have hB : Same H (upd H' pb (.lst (s2.2.reverse.map V.int))) := Same.mut hS hpb0
    by_cases hc : t.code[o] = 46
    · have z : s2 = (st.1, (o : Int) :: st.2) := by
        unfold rsStep at q2
        rw [if_pos hc] at q2
        exact (Option.some.inj q2).symm
      refine iteNS (by rw [dot, hc]) ?_
      refine ⟨_, rfl, .inl ⟨rfl, _, SqL.of hb⟩, _, rfl, pb, _, _, rfl, rfl, hb, sz' (by simp; omega), ?_⟩
      subst z
      refine ⟨by omega, _, some (.int o), q3, hs1, by simp; omega, rfl, ?_, ?_, ?_⟩
      · simpa using hB
      · rw [upd_ne hpb1.symm]; exact hf
      · rw [upd_same]; simp
    · obtain ⟨x, y, b, e2, z⟩ : ∃ x y b, st.2 = x :: y :: b ∧ s2 = (st.1.set o y, (o : Int) :: b) := by
        unfold rsStep at q2
        rw [if_neg hc] at q2
        split at q2
        · rename_i x y b q
          exact ⟨x, y, b, q, (Option.some.inj q2).symm⟩
        · cases q2
      subst z
      rw [e2] at hb hs2
      have hb' : (List.map V.int (x :: y :: b).reverse).length = b.length + 2 := by simp
      refine iteNN (fun z => hc (by rw [dot] at z; injection z with z; have := S_inj z; simpa using this)) ?_
      refine ⟨_, rfl, _, _, rfl, .inl (SqL.of hb), _, _, rfl, rfl, _, rfl, ?_⟩
      rw [hb', decide_eq_false (by omega)]
      refine iteF ?_
      refine ⟨_, rfl, .inl ⟨rfl, _, SqL.of hb⟩, pb, _, V.int x, rfl, rfl, hb, by simp, ?_⟩
      refine ⟨_, rfl, .inl ⟨rfl, _, SqL.of upd_same⟩, pb, _, V.int y, rfl, rfl, upd_same, by simp, ?_⟩
      refine ⟨_, rfl, _, rfl, pf, st.1.map V.int, _, o, rfl, rfl, ?_, ?_, ?_⟩
      · rw [upd_ne hpb1.symm, upd_ne hpb1.symm]; exact hf
      · unfold ixN
        rw [if_pos (by omega), if_pos (by rw [List.length_map, hs1]; omega), Int.toNat_natCast]
      refine ⟨_, rfl, .inl ⟨rfl, _, SqL.of (xs := (List.map V.int (x :: y :: b).reverse).dropLast.dropLast) (by rw [upd_ne hpb1, upd_same])⟩, _, rfl, pb, _, _, rfl, rfl, (by rw [upd_ne hpb1, upd_same]), sz' (by simp at hs2 ⊢; omega), ?_⟩
      refine ⟨by omega, _, some (.int o), q3, by simpa using hs1, by simp at hs2 ⊢; omega, rfl, ?_, ?_, ?_⟩
      · exact Same.mut (Same.mut (Same.mut (Same.mut hS hpb0) hpb0) hpf0) hpb0
      · rw [upd_ne hpb1.symm, upd_same, List.map_set]
      · rw [upd_same]; simp
  · rintro σ H' ⟨_, st, v, e1, hs1, hs2, rfl, hS, hf, hb⟩
    rw [hN, Nat.sub_self, List.drop_zero, hrun] at e1
    cases e1
    refine ⟨_, rfl, _, _, rfl, .inl (SqL.of hb), rfl, _, rfl, ?_⟩
    refine iteT ⟨_, rfl, k pf H' f' hS hf fun c l r e => ?_⟩
    have := hf' c l r e (by rw [List.length_replicate]; omega)
    rw [this]
theorem cutS_mid (l : List Nat) (a b : Nat) (h1 : a ≤ b) (h2 : b ≤ l.length) : cutS (S l) (some (a : Int)) (some (b : Int)) = S ((l.drop a).take (b - a)) := by
  unfold cutS
  rw [HT.sIx_nat, HT.sIx_nat, S_len, Nat.min_eq_left (Nat.le_trans h1 h2), Nat.min_eq_left h2]
theorem cutS_from (l : List Nat) (a : Nat) (h : a ≤ l.length) : cutS (S l) (some (a : Int)) none = S (l.drop a) := by
  unfold cutS
  rw [HT.sIx_nat, HT.sIx_none, S_len, Nat.min_eq_left h]
  congr 2
  exact List.take_of_length_le (by rw [List.length_drop]; exact Nat.le_refl _)
theorem cutS_to (l : List Nat) (b : Nat) (h : b ≤ l.length) : cutS (S l) none (some (b : Int)) = S (l.take b) := by
  unfold cutS
  rw [HT.sIx_nat, HT.sIx_none, S_len, Nat.min_eq_left h, Nat.sub_zero, List.drop_zero]
/-- left_of, right_of of a tree that is not empty -/
def spLeft : Sp := fun vs H Q _ => ∃ c l r, vs = [.str (S (Tr.n c l r).code)] ∧ (Tr.n c l r).all (· ≠ 46) ∧ (Tr.n c l r).size ≤ 1000 ∧ ∀ H', Same H H' → Q (.str (S l.code)) H'
def spRight : Sp := fun vs H Q _ => ∃ c l r, vs = [.str (S (Tr.n c l r).code)] ∧ (Tr.n c l r).all (· ≠ 46) ∧ (Tr.n c l r).size ≤ 1000 ∧ ∀ H', Same H H' → Q (.str (S r.code)) H'
theorem code_not_dot {c : Nat} {l r : Tr} : ¬ V.str (S (Tr.n c l r).code) = V.str (PySem.Str.ofString ".") := fun z => by
  rw [dot] at z
  injection z with z
  have z := S_inj z
  have h := (Tr.n c l r).code_len
  have h2 : (Tr.n c l r).code.length = 1 := congrArg List.length z
  have h3 : (Tr.n c l r).size = l.size + r.size + 1 := rfl
  omega
theorem ok_left_of {f g : Addr} {fd gd : FuncData} (F : Fun K "left_of" "left_of" s_left_of f fd) (M : Bi mg) (H_right_starts : FnH K mg "right_starts" s_right_starts ["text"] g gd) (G_right_starts : FnOk P w K mg base CX0 1 g gd ["text"] (spRS K)) : FnOk P w K mg base CX0 2 f fd ["tree"] spLeft := by
  refine F.ok sc_left_of (fun vs H Q E h => ?_) (fun cdv A outer s H vs Q E hr h => ?_)
  · obtain ⟨c, l, r, rfl, _⟩ := h
    rfl
  obtain ⟨c, l, r, rfl, hA, hz, k⟩ := h
  refine ⟨_, (pss_cons (ps_if (pt_cmpR op_eq (pv 0) pe_str (nomark _))
    ((pss_one (ps_ret pe_str)))
    pss_nil)
  (pss_one (ps_ret (pe_slice sl_str (pv 0) (po_some pe_int) (po_some (pe_ix (kIxL K) (pe_fn H_right_starts G_right_starts hr (pa_cons (pv 0) pa_nil)) pe_int (fun _ _ => rfl))))))), ?_⟩
  have hcl := (Tr.n c l r).code_len
  have hl := l.code_len
  refine ⟨_, rfl, rfl, _, rfl, ?_⟩
  rw [decide_eq_false code_not_dot]
  refine iteF ?_
  refine ⟨_, rfl, 1, rfl, _, rfl, Tr.n c l r, rfl, hA, hz, fun p H' f' hS hp h0 => ?_⟩
  refine ⟨p, _, 0, _, rfl, rfl, SqL.of hp, atI_nat (j := 0) (by rw [List.getElem?_map, h0 c l r rfl]; rfl), _, rfl, _, rfl, by rw [S_len]; exact sz (by omega), ?_⟩
  have e : cutS (S (Tr.n c l r).code) (some 1) (some ((1 + l.code.length : Nat) : Int)) = S l.code := by
    have q := cutS_mid (Tr.n c l r).code 1 (1 + l.code.length) (by omega) (by simp [Tr.code]; omega)
    refine Eq.trans q ?_
    congr 1
    simp [Tr.code]
  rw [e]
  exact k H' hS
theorem ok_right_of {f g : Addr} {fd gd : FuncData} (F : Fun K "right_of" "right_of" s_right_of f fd) (M : Bi mg) (H_right_starts : FnH K mg "right_starts" s_right_starts ["text"] g gd) (G_right_starts : FnOk P w K mg base CX0 1 g gd ["text"] (spRS K)) : FnOk P w K mg base CX0 2 f fd ["tree"] spRight := by
  refine F.ok sc_right_of (fun vs H Q E h => ?_) (fun cdv A outer s H vs Q E hr h => ?_)
  · obtain ⟨c, l, r, rfl, _⟩ := h
    rfl
  obtain ⟨c, l, r, rfl, hA, hz, k⟩ := h
  refine ⟨_, (pss_cons (ps_if (pt_cmpR op_eq (pv 0) pe_str (nomark _))
    ((pss_one (ps_ret pe_str)))
    pss_nil)
  (pss_one (ps_ret (pe_slice sl_str (pv 0) (po_some (pe_ix (kIxL K) (pe_fn H_right_starts G_right_starts hr (pa_cons (pv 0) pa_nil)) pe_int (fun _ _ => rfl))) po_none)))), ?_⟩
  have hcl := (Tr.n c l r).code_len
  have hl := l.code_len
  refine ⟨_, rfl, rfl, _, rfl, ?_⟩
  rw [decide_eq_false code_not_dot]
  refine iteF ?_
  refine ⟨_, rfl, _, rfl, Tr.n c l r, rfl, hA, hz, fun p H' f' hS hp h0 => ?_⟩
  refine ⟨p, _, 0, _, rfl, rfl, SqL.of hp, atI_nat (j := 0) (by rw [List.getElem?_map, h0 c l r rfl]; rfl), _, rfl, _, rfl, by rw [S_len]; exact sz (by omega), ?_⟩
  have e : cutS (S (Tr.n c l r).code) (some ((1 + l.code.length : Nat) : Int)) none = S r.code := by
    rw [cutS_from _ _ (by simp [Tr.code]; omega)]
    congr 1
    simp [Tr.code]
    rw [show 1 + l.code.length = l.code.length + 1 by omega, List.drop_succ_cons, List.drop_left]
  rw [e]
  exact k H' hS
end
end Tb

set_option Elab.async false
set_option linter.all false
set_option maxRecDepth 100000
set_option maxHeartbeats 4000000
namespace Tb
open PySem PySem.Spec PyProof.Rows L2
/-! ### forests in the heap -/
def Its (H : Hp) : List V → Tr → Prop
  | vs, .e => vs = []
  | vs, .n c i r => ∃ (t l : Addr) (xs vs' : List V), vs = .ref t :: vs' ∧ H t = some (.tup [.str (S [c]), .ref l]) ∧ H l = some (.lst xs) ∧ Its H xs i ∧ Its H vs' r
def FoAt (H : Hp) (a : Addr) (f : Tr) : Prop := ∃ xs, H a = some (.lst xs) ∧ Its H xs f
theorem Its.mono {H H' : Hp} (e : Same H H') : ∀ {f : Tr} {vs : List V}, Its H vs f → Its H' vs f
  | .e, _, h => h
  | .n c i r, _, ⟨t, l, xs, vs', h1, h2, h3, h4, h5⟩ => ⟨t, l, xs, vs', h1, e _ _ h2, e _ _ h3, Its.mono e h4, Its.mono e h5⟩
theorem FoAt.mono {H H' : Hp} (e : Same H H') {a : Addr} {f : Tr} : FoAt H a f → FoAt H' a f := fun ⟨xs, h1, h2⟩ => ⟨xs, e _ _ h1, h2.mono e⟩
/-- the row of a forest -/
def Tr.row : Tr → List (Nat × Tr)
  | .e => []
  | .n c i r => (c, i) :: r.row
def rowCode : List (Nat × Tr) → List Nat
  | [] => [46]
  | (c, i) :: r => c :: (i.code ++ rowCode r)
theorem row_code : ∀ f : Tr, rowCode f.row = f.code
  | .e => rfl
  | .n c i r => by simp only [Tr.row, rowCode, Tr.code, row_code r]
theorem Its.len {H : Hp} : ∀ {f : Tr} {vs : List V}, Its H vs f → vs.length = f.row.length
  | .e, _, h => by rw [show _ = [] from h]; rfl
  | .n c i r, _, ⟨t, l, xs, vs', h1, h2, h3, h4, h5⟩ => by
    subst h1
    simp only [List.length_cons, Tr.row, h5.len]
theorem Its.get {H : Hp} : ∀ {f : Tr} {vs : List V} {j : Nat} {v : V}, Its H vs f → vs[j]? = some v → ∃ c i t l xs, f.row[j]? = some (c, i) ∧ v = .ref t ∧ H t = some (.tup [.str (S [c]), .ref l]) ∧ H l = some (.lst xs) ∧ Its H xs i
  | .e, _, j, v, h, hv => by rw [show _ = [] from h] at hv; simp at hv
  | .n c i r, _, j, v, ⟨t, l, xs, vs', h1, h2, h3, h4, h5⟩, hv => by
    subst h1
    cases j with
    | zero => exact ⟨c, i, t, l, xs, rfl, (Option.some.inj hv).symm, h2, h3, h4⟩
    | succ j => exact h5.get (j := j) hv
theorem row_size : ∀ {f : Tr} {j : Nat} {c : Nat} {i : Tr}, f.row[j]? = some (c, i) → i.size < f.size
  | .e, _, _, _, h => by simp [Tr.row] at h
  | .n c' i' r, 0, c, i, h => by
    simp [Tr.row] at h
    obtain ⟨rfl, rfl⟩ := h
    simp only [Tr.size]; omega
  | .n c' i' r, j + 1, c, i, h => by
    have := row_size (f := r) (j := j) (c := c) (i := i) (by simpa [Tr.row] using h)
    simp only [Tr.size]; omega
theorem row_len_le : ∀ f : Tr, f.row.length ≤ f.size
  | .e => Nat.le_refl _
  | .n c i r => by
    have := row_len_le r
    simp only [Tr.row, List.length_cons, Tr.size]; omega
theorem rowCode_len : ∀ l : List (Nat × Tr), (rowCode l).length = (l.map fun p => 1 + p.2.code.length).sum + 1
  | [] => rfl
  | (c, i) :: r => by
    simp only [rowCode, List.length_cons, List.length_append, List.map_cons, List.sum_cons, rowCode_len r]; omega
theorem rowCode_drop (f : Tr) (k : Nat) : (rowCode (f.row.drop k)).length ≤ f.code.length := by
  rw [← row_code f]
  generalize f.row = l
  induction l generalizing k with
  | nil => simp [rowCode]
  | cons p r ih =>
    obtain ⟨c, i⟩ := p
    cases k with
    | zero => exact Nat.le_refl _
    | succ k =>
      rw [List.drop_succ_cons]
      refine Nat.le_trans (ih k) ?_
      simp only [rowCode, List.length_cons, List.length_append]; omega
section
variable {P : Program} {w : World} {K : PySem.W.Frag} {mg : Str → Option Value} {base : Heap}
/-! ### tree_of_forest -/
def spTof (n : Nat) : Sp := fun vs H Q _ => ∃ (a : Addr) (f : Tr), vs = [.ref a] ∧ FoAt H a f ∧ f.size < n ∧ f.size ≤ 1000 ∧ ∀ H', Same H H' → Q (.str (S f.code)) H'
theorem none_of_sp {k : Nat} {f : Addr} {fd : FuncData} {ps : List Str} {sp : Sp} (no : ∀ vs H Q E, ¬ sp vs H Q E) : FnOk P w K mg base CX0 k f fd ps sp :=
  ⟨fun vs H Q E h => absurd h (no vs H Q E), fun A outer s H args us vs Q E _ _ _ _ h => absurd h (no vs H Q E)⟩
theorem ok_tree_of_forest {n : Nat} {f : Addr} {fd : FuncData} (F : Fun K "tree_of_forest" "tree_of_forest" s_tree_of_forest f fd) (M : Bi mg) (H_tree_of_forest : FnH K mg "tree_of_forest" s_tree_of_forest ["forest"] f fd) (G_tree_of_forest : FnOk P w K mg base CX0 n f fd ["forest"] (spTof n)) :
    FnOk P w K mg base CX0 (n + 1) f fd ["forest"] (spTof (n + 1)) := by
  refine F.ok sc_tree_of_forest (fun vs H Q E h => ?_) (fun cdv A outer s H vs Q E hr h => ?_)
  · obtain ⟨a, g, rfl, _⟩ := h
    rfl
  obtain ⟨a, g, rfl, ⟨xs, ha, hx⟩, hn, hz, k⟩ := h
  refine ⟨_, (pss_cons (ps_set (i := 1) sc_tree_of_forest.nd rfl (Or.inl rfl) pe_str)
  (pss_cons (ps_for PassesOwn.never rfl (kPiRev K rfl M.reversed (pa_cons (pe_callTy (kListOf K) rfl M.list (by decide +kernel) (pa_cons (pv 0) pa_nil)) pa_nil)) (kGTup K rfl (pgs_cons (pg_name (i := 2) sc_tree_of_forest.nd rfl (Or.inl rfl)) (pgs_cons (pg_name (i := 3) sc_tree_of_forest.nd rfl (Or.inl rfl)) pgs_nil)))
    ((pss_one (ps_set (i := 1) sc_tree_of_forest.nd rfl (Or.inl rfl) (pe_op op_add_str (pe_op op_add_str (pv 2) (pe_fn H_tree_of_forest G_tree_of_forest hr (pa_cons (pv 3) pa_nil))) (pv 1))))))
  (pss_one (ps_ret (pv 1))))), ?_⟩
  refine ⟨_, rfl, a, xs, rfl, .inl (SqL.of ha), fun l hl => ?_⟩
  refine ⟨l, xs, rfl, SqL.of upd_same, for_it walk_rev (fun i σ H' => i ≤ xs.length ∧ Same H H' ∧ H' l = some (.lst xs) ∧ ∃ v2 v3, σ = [some (.ref a), some (.str (S (rowCode (g.row.drop (xs.length - i))))), v2, v3]) ?_ (fun i σ H' _ h => SqL.of h.2.2.1) ?_ ?_⟩
  · refine ⟨Nat.zero_le _, Same.new hl _, upd_same, none, none, ?_⟩
    rw [Nat.sub_zero, hx.len, List.drop_length, dot]
    rfl
  · rintro i x σ H' H'' hi ⟨hi1, hS, hl', v2, v3, rfl⟩ ⟨rfl, hxi⟩
    obtain ⟨c, gi, t, li, ys, e1, rfl, ht, hli, hys⟩ := hx.get hxi
    have sz1 := row_size e1
    refine ⟨t, _, rfl, SqT.of (hS _ _ ht), rfl, _, _, rfl, _, _, rfl, rfl, ?_⟩
    have hcl := g.code_len
    have hil := gi.code_len
    have hd := rowCode_drop g (xs.length - i)
    have hd2 := rowCode_drop g (xs.length - (i + 1))
    have ed : g.row.drop (xs.length - (i + 1)) = (c, gi) :: g.row.drop (xs.length - i) := by
      have hj : xs.length - 1 - i < g.row.length := (List.getElem?_eq_some_iff.mp e1).1
      have := List.drop_eq_getElem_cons hj
      rw [show xs.length - (i + 1) = xs.length - 1 - i by omega, this, (List.getElem?_eq_some_iff.mp e1).2]
      congr 2
      omega
    rw [ed] at hd2
    simp only [rowCode, List.length_cons, List.length_append] at hd2
    refine ⟨_, rfl, _, rfl, li, gi, rfl, ⟨ys, hS _ _ hli, hys.mono hS⟩, by omega, by omega, fun H2 hS2 => ?_⟩
    refine ⟨_, _, rfl, rfl, by rw [S_len, S_len]; exact sz (by simp; omega), ?_⟩
    refine ⟨_, rfl, _, _, rfl, rfl, by rw [S_app, S_len, S_len]; exact sz (by simp; omega), ?_⟩
    refine ⟨by omega, hS.trans hS2, hS2 _ _ hl', some (.str (S [c])), some (.ref li), ?_⟩
    rw [S_app, S_app, ed]
    simp [rowCode]
  · rintro σ H' ⟨_, hS, hl', v2, v3, rfl⟩
    refine ⟨_, rfl, ?_⟩
    rw [Nat.sub_self, List.drop_zero, row_code]
    exact k H' hS
end
end Tb

set_option Elab.async false
set_option linter.all false
set_option maxRecDepth 100000
set_option maxHeartbeats 4000000
namespace Tb
open PySem PySem.Spec PyProof.Rows L2
/-- G: a part of H' that is all new over H -/
def Own (H G H' : Hp) : Prop := ∀ b o, G b = some o → H b = none ∧ H' b = some o
def none_hp : Hp := fun _ => none
theorem Own.non (H H' : Hp) : Own H none_hp H' := fun _ _ h => by cases h
theorem Own.same {H G H' : Hp} (o : Own H G H') : Same G H' := fun b u h => (o b u h).2
theorem Own.out {H G H' : Hp} (o : Own H G H') {b : Addr} {u : HO} (h : H b = some u) : G b = none := by
  cases z : G b with
  | none => rfl
  | some v => rw [(o b v z).1] at h; cases h
def Hp.or (G G' : Hp) : Hp := fun b => (G b).or (G' b)
theorem Hp.or_l (G G' : Hp) : Same G (Hp.or G G') := fun b o h => by unfold Hp.or; rw [h]; rfl
theorem Hp.or_r {G G' : Hp} (d : ∀ b o, G' b = some o → G b = none) : Same G' (Hp.or G G') := fun b o h => by unfold Hp.or; rw [d b o h, h]; rfl
theorem Hp.or_none {G G' : Hp} {b : Addr} (h : G b = none) (h' : G' b = none) : Hp.or G G' b = none := by unfold Hp.or; rw [h, h']; rfl
/-- what a call has made beside what stood -/
theorem Own.add {H G H1 G2 H2 : Hp} (o : Own H G H1) (hS : Same H H1) (o2 : Own H1 G2 H2) (hS2 : Same H1 H2) : Own H (Hp.or G G2) H2 := fun b u h => by
  unfold Hp.or at h
  cases z : G b with
  | some v =>
    rw [z] at h
    cases h
    exact ⟨(o b _ z).1, hS2 b _ (o b _ z).2⟩
  | none =>
    rw [z] at h
    exact ⟨hS.free (o2 b u h).1, (o2 b u h).2⟩
theorem Own.apart {H G H1 G2 H2 : Hp} (o : Own H G H1) (o2 : Own H1 G2 H2) : ∀ b u, G2 b = some u → G b = none := fun b u h => by
  cases z : G b with
  | none => rfl
  | some v =>
    have := (o2 b u h).1
    rw [(o b v z).2] at this
    cases this
/-- another object changes or comes -/
theorem Own.upd {H G H' : Hp} (o : Own H G H') {p : Addr} {u : HO} (hp : G p = none) : Own H G (upd H' p u) := fun b v h => by
  have hb : b ≠ p := ne_of_none h hp
  rw [upd_ne hb]
  exact o b v h
theorem Own.put {H G H' : Hp} (o : Own H G H') {p : Addr} {u : HO} (hp : H p = none) (hp' : H' p = some u) : Own H (L2.upd G p u) H' := fun b v h => by
  by_cases e : b = p
  · subst e
    rw [upd_same] at h
    cases h
    exact ⟨hp, hp'⟩
  · rw [upd_ne e] at h
    exact o b v h
/-- a forest that is all new -/
def FoNew (H : Hp) (H' : Hp) (a : Addr) (f : Tr) : Prop := ∃ G, Own H G H' ∧ FoAt G a f
theorem FoNew.at {H H' : Hp} {a : Addr} {f : Tr} (h : FoNew H H' a f) : FoAt H' a f := let ⟨_, o, h⟩ := h; h.mono o.same
/-- forests put one behind the other: what is begun, what is left, the whole -/
theorem Its.snoc {G : Hp} {c : Nat} {i : Tr} {t l : Addr} {xs : List V} (ht : G t = some (.tup [.str (S [c]), .ref l])) (hl : G l = some (.lst xs)) (hx : Its G xs i) : ∀ {f : Tr} {vs : List V} {r : Tr}, (∀ ws G', Same G G' → Its G' ws (.n c i r) → Its G' (vs ++ ws) f) →
    ∀ ws G', Same G G' → Its G' ws r → Its G' ((vs ++ [.ref t]) ++ ws) f := fun {f vs r} k ws G' hS h => by
  rw [List.append_assoc]
  exact k _ G' hS ⟨t, l, xs, ws, rfl, hS _ _ ht, hS _ _ hl, hx.mono hS, h⟩
section
variable {P : Program} {w : World} {K : PySem.W.Frag} {mg : Str → Option Value} {base : Heap}
/-! ### forest_of_tree -/
def spFot (n : Nat) : Sp := fun vs H Q _ => ∃ f : Tr, vs = [.str (S f.code)] ∧ f.all (· ≠ 46) ∧ f.size < n ∧ f.size ≤ 1000 ∧ ∀ a H', Same H H' → FoNew H H' a f → Q (.ref a) H'
theorem ok_forest_of_tree {n : Nat} (hn2 : 2 ≤ n) {f fl fr : Addr} {fd fld frd : FuncData} (F : Fun K "forest_of_tree" "forest_of_tree" s_forest_of_tree f fd) (M : Bi mg) (H_forest_of_tree : FnH K mg "forest_of_tree" s_forest_of_tree ["tree"] f fd) (G_forest_of_tree : FnOk P w K mg base CX0 n f fd ["tree"] (spFot (n - 2)))
    (H_left_of : FnH K mg "left_of" s_left_of ["tree"] fl fld) (G_left_of : FnOk P w K mg base CX0 2 fl fld ["tree"] spLeft) (H_right_of : FnH K mg "right_of" s_right_of ["tree"] fr frd) (G_right_of : FnOk P w K mg base CX0 2 fr frd ["tree"] spRight) :
    FnOk P w K mg base CX0 (n + 1) f fd ["tree"] (spFot (n - 1)) := by
  have G_left_of := G_left_of.mono hn2
  have G_right_of := G_right_of.mono hn2
  refine F.ok sc_forest_of_tree (fun vs H Q E h => ?_) (fun cdv A outer s H vs Q E hr h => ?_)
  · obtain ⟨g, rfl, _⟩ := h
    rfl
  obtain ⟨g, rfl, hA, hn, hz, k⟩ := h
  refine ⟨_, (pss_cons (ps_set (i := 1) sc_forest_of_tree.nd rfl (Or.inl rfl) (pe_lst pa_nil))
  (pss_cons (ps_while PassesOwn.never (pt_cmpR op_ne (pv 0) pe_str (nomark _))
    ((pss_cons (ps_expr (kBM K PySem.F.plainAttrs_list PySem.F.slot_list_append PySem.F.type_list_append mt_append (pv 1) (pa_cons (pe_tup (pa_cons (pe_ix ix_str (pv 0) pe_int (fun _ _ => rfl)) (pa_cons (pe_fn H_forest_of_tree G_forest_of_tree hr (pa_cons (pe_fn H_left_of G_left_of hr (pa_cons (pv 0) pa_nil)) pa_nil)) pa_nil))) pa_nil)))
     (pss_one (ps_set (i := 0) sc_forest_of_tree.nd rfl (Or.inl rfl) (pe_fn H_right_of G_right_of hr (pa_cons (pv 0) pa_nil)))))))
  (pss_one (ps_ret (pv 1))))), ?_⟩
  refine ⟨(by show 0 ≤ sizeLine; decide), fun pf hpf => ?_⟩
  refine while_by (fun σ H' => ∃ (r : Tr) (vs : List V) (G : Hp), σ = [some (.str (S r.code)), some (.ref pf)] ∧ r.all (· ≠ 46) ∧ r.size + vs.length ≤ g.size ∧ Same H H' ∧ H' pf = some (.lst vs) ∧ G pf = none ∧ Own H G H' ∧ (∀ ws G', Same G G' → Its G' ws r → Its G' (vs ++ ws) g))
    (fun σ _ => match σ with | some (.str x) :: _ => x.length | _ => 0) ?_ ?_ ?_
  · exact ⟨g, [], none_hp, rfl, hA, by simp, Same.new hpf _, upd_same, rfl, Own.non _ _, fun ws G' _ h => h⟩
  · rintro σ H' ⟨r, vs, G, rfl, hrA, hsz, hS, hf, hG, ho, hk⟩
    cases r with
    | e =>
      refine ⟨_, rfl, rfl, _, rfl, ?_⟩
      refine iteNS (by rw [dot]; rfl) ?_
      refine ⟨_, rfl, k pf H' hS ⟨L2.upd G pf (.lst vs), ho.put hpf hf, vs, upd_same, ?_⟩⟩
      have := hk [] (L2.upd G pf (.lst vs)) (Same.new hG _) rfl
      rwa [List.append_nil] at this
    | n c l r =>
      have hrs : (Tr.n c l r).size = l.size + r.size + 1 := rfl
      have hcl := (Tr.n c l r).code_len
      have hcr := r.code_len
      refine ⟨_, rfl, rfl, _, rfl, ?_⟩
      refine iteNN code_not_dot ?_
      refine ⟨_, rfl, .inl ⟨rfl, _, SqL.of hf⟩, _, rfl, S (Tr.n c l r).code, 0, c, rfl, rfl, by rw [S_len]; exact sz (by omega), ?_, ?_⟩
      · exact atI_nat (j := 0) (by simp [Tr.code])
      refine ⟨_, rfl, c, l, r, rfl, hrA, by omega, fun H1 hS1 => ?_⟩
      refine ⟨l, rfl, hrA.2.1, by omega, by omega, fun a H2 hS2 hnew => ?_⟩
      refine ⟨(by show 2 ≤ sizeLine; decide), fun p hp => ?_⟩
      obtain ⟨G2, ho2, xs, ha, hx⟩ := hnew
      have hS12 : Same H' H2 := hS1.trans hS2
      have ho2' : Own H' G2 H2 := fun b u h => ⟨hS1.free (ho2 b u h).1, (ho2 b u h).2⟩
      have ho3 := ho.add hS ho2' hS12
      have h0 : ∀ b u, G2 b = some u → G b = none := ho.apart ho2'
      have hG2p : G2 p = none := by
        cases z : G2 p with
        | none => rfl
        | some u => rw [(ho2 p u z).2] at hp; cases hp
      have hGp : G p = none := by
        cases z : G p with
        | none => rfl
        | some u => rw [hS12 p u (ho p u z).2] at hp; cases hp
      have hor : Hp.or G G2 p = none := Hp.or_none hGp hG2p
      have hfp : H2 pf = some (.lst vs) := hS12 _ _ hf
      have hpn : H p = none := (hS.trans hS12).free hp
      have npf : pf ≠ p := ne_of_none hfp hp
      have ho4 : Own H (L2.upd (Hp.or G G2) p (.tup [.str (S [c]), .ref a])) (L2.upd H2 p (.tup [.str (S [c]), .ref a])) := (ho3.upd hor).put hpn upd_same
      have hGf : (L2.upd (Hp.or G G2) p (.tup [.str (S [c]), .ref a])) pf = none := by
        rw [upd_ne npf]
        exact Hp.or_none hG (ho2'.out hf)
      refine ⟨pf, vs, _, rfl, rfl, by rw [upd_ne npf]; exact hfp, sz' (by omega), ?_⟩
      have hS3 : Same H (L2.upd H2 p (.tup [.str (S [c]), .ref a])) := (hS.trans hS12).mut hpn
      refine ⟨_, rfl, c, l, r, rfl, hrA, by omega, fun H3 hS3' => ?_⟩
      have hf3 : H3 pf = some (.lst (vs ++ [.ref p])) := hS3' _ _ upd_same
      refine ⟨⟨r, vs ++ [.ref p], _, rfl, hrA.2.2, by simp; omega, ?_, hf3, hGf, ?_, ?_⟩, ?_⟩
      · exact (hS3.mut hpf).trans hS3'
      · intro b u h
        have hb := ho4 b u h
        refine ⟨hb.1, hS3' b u ?_⟩
        rw [upd_ne (ne_of_none h hGf)]
        exact hb.2
      · have sG : Same G (L2.upd (Hp.or G G2) p (.tup [.str (S [c]), .ref a])) := (Hp.or_l G G2).mut hGp
        have sG2 : Same G2 (L2.upd (Hp.or G G2) p (.tup [.str (S [c]), .ref a])) := (Hp.or_r h0).mut hG2p
        exact Its.snoc upd_same (sG2 _ _ ha) (hx.mono sG2) fun ws G' s h => hk ws G' (sG.trans s) h
      · show (S r.code).length < (S (Tr.n c l r).code).length
        rw [S_len, S_len]
        omega
  · intro σ H Q Q' h q
    obtain ⟨v, h1, h2, kk, h3, h4⟩ := q
    exact ⟨v, h1, h2, kk, h3, h _ _ h4⟩
end
end Tb

set_option Elab.async false
set_option linter.all false
set_option maxRecDepth 100000
set_option maxHeartbeats 4000000
namespace Tb
open PySem PySem.Spec PyProof.Rows L2
/-! ### the text of a forest -/
def Tr.text : Tr → List Nat
  | .e => []
  | .n c i r => c :: ((if i = .e then [] else 40 :: (i.text ++ [41])) ++ r.text)
def itemText (c : Nat) (i : Tr) : List Nat := c :: (if i = .e then [] else 40 :: (i.text ++ [41]))
def rowText : List (Nat × Tr) → List Nat
  | [] => []
  | (c, i) :: r => itemText c i ++ rowText r
theorem row_text : ∀ f : Tr, rowText f.row = f.text
  | .e => rfl
  | .n c i r => by simp only [Tr.row, rowText, Tr.text, row_text r, itemText, List.cons_append]
theorem Tr.text_len : ∀ f : Tr, f.text.length ≤ 3 * f.size
  | .e => Nat.le_refl _
  | .n c i r => by
    have h1 := i.text_len
    have h2 := r.text_len
    simp only [Tr.text, Tr.size]
    cases i with
    | e => simp; omega
    | n c2 i2 r2 =>
      rw [if_neg (by intro q; cases q)]
      simp only [List.length_cons, List.length_append, List.length_nil]
      simp only [Tr.size] at h1 ⊢
      omega
theorem itemText_len (c : Nat) (i : Tr) : (itemText c i).length ≤ 3 * i.size + 3 := by
  have h1 := i.text_len
  unfold itemText
  by_cases h : i = .e
  · rw [if_pos h]; simp
  · rw [if_neg h]
    simp only [List.length_cons, List.length_append, List.length_nil]
    omega
theorem rowText_app (a b : List (Nat × Tr)) : rowText (a ++ b) = rowText a ++ rowText b := by
  induction a with
  | nil => rfl
  | cons p r ih => obtain ⟨c, i⟩ := p; simp only [List.cons_append, rowText, ih, List.append_assoc]
theorem rowText_take (f : Tr) (k : Nat) : (rowText (f.row.take k)).length ≤ 3 * f.size := by
  have h := f.text_len
  rw [← row_text f] at h
  have e : f.row = f.row.take k ++ f.row.drop k := (List.take_append_drop k f.row).symm
  rw [e, rowText_app, List.length_append] at h
  omega
theorem take_snoc {α : Type} {l : List α} {i : Nat} {x : α} (h : l[i]? = some x) : l.take (i + 1) = l.take i ++ [x] := by
  obtain ⟨hi, e⟩ := List.getElem?_eq_some_iff.mp h
  rw [List.take_succ, h]
  rfl
theorem yesTT {σ : L2.St} {H : Hp} {A B : Hp → Prop} (h : A H) : tYes σ H (fun b H3 => if b = true then A H3 else B H3) := by
  show (if true = true then A H else B H)
  exact iteT h
theorem lpar : (PySem.Str.ofString "(" : Str) = S [40] := by decide +kernel
theorem rpar : (PySem.Str.ofString ")" : Str) = S [41] := by decide +kernel
theorem nostr : (PySem.Str.ofString "" : Str) = S [] := by decide +kernel
theorem joinL_nil : ∀ ys : List (List Nat), TL.joinL [] ys = ys.flatten
  | [] => rfl
  | [p] => by simp [TL.joinL]
  | p :: q :: r => by
    have ih := joinL_nil (q :: r)
    simp only [TL.joinL, List.nil_append, ih, List.flatten_cons]
theorem join_nil (ys : List (List Nat)) : Txt.join (S []) (ys.map S) = S ys.flatten := by
  rw [← joinL_nil, TL.join_eq]
  have h := TL.tl_join (S []) (ys.map S)
  have e : (ys.map S).map TL.tl = ys := by
    rw [List.map_map]
    have : (TL.tl ∘ S) = id := by
      funext l
      show (S l).cps.toList = l
      simp
    rw [this, List.map_id]
  rw [e] at h
  have e0 : TL.tl (S []) = [] := rfl
  rw [e0] at h
  have h2 : (Str.join (S []) (ys.map S)).cps.toList = TL.joinL [] ys := h
  rw [← h2]
section
variable {P : Program} {w : World} {K : PySem.W.Frag} {mg : Str → Option Value} {base : Heap}
theorem Its.nil_iff {H : Hp} {f : Tr} {vs : List V} (h : Its H vs f) : vs.length = 0 ↔ f = .e := by
  cases f with
  | e => rw [show vs = [] from h]; simp
  | n c i r => obtain ⟨t, l, xs, vs', rfl, _⟩ := h; simp
def spFtx (n : Nat) : Sp := fun vs H Q _ => ∃ (a : Addr) (f : Tr), vs = [.ref a] ∧ FoAt H a f ∧ f.size < n ∧ f.size ≤ 1000 ∧ ∀ H', Same H H' → Q (.str (S f.text)) H'
theorem ok_forest_text {n : Nat} {f : Addr} {fd : FuncData} (F : Fun K "forest_text" "forest_text" s_forest_text f fd) (M : Bi mg) (H_forest_text : FnH K mg "forest_text" s_forest_text ["forest"] f fd) (G_forest_text : FnOk P w K mg base CX0 n f fd ["forest"] (spFtx n)) :
    FnOk P w K mg base CX0 (n + 1) f fd ["forest"] (spFtx (n + 1)) := by
  refine F.ok sc_forest_text (fun vs H Q E h => ?_) (fun cdv A outer s H vs Q E hr h => ?_)
  · obtain ⟨a, g, rfl, _⟩ := h
    rfl
  obtain ⟨a, g, rfl, ⟨xs, ha, hx⟩, hn, hz, k⟩ := h
  refine ⟨_, (pss_one (ps_ret (kJoin K pe_str (pe_lc (own := [("letter", 1), ("inner", 2)]) (g := gTup K 2 (gCons (gName 1) (gCons (gName 2) gNil))) (tt := tYes) rfl sc_forest_text.nd (kPiL K (pv 0)) (blkOk_by (own := [("letter", 1), ("inner", 2)]) (N := ["forest", "letter", "inner"]) (sc := defScope s_forest_text) (by decide +kernel)) (fun _ _ _ _ _ => kGTup K rfl (pgs_cons (pg_name (i := 1) sc_forest_text.nd rfl (Or.inl rfl)) (pgs_cons (pg_name (i := 2) sc_forest_text.nd rfl (Or.inl rfl)) pgs_nil))) (fun _ _ _ _ _ => pts_nil) (fun _ _ _ _ _ => pe_op op_add_str (pv 1) (pe_ifExp (pt_cmpR op_gt (pe_callB (kLen K) rfl M.len PySem.boot_len (pa_cons (pv 2) pa_nil)) pe_int (nomark _)) (pe_op op_add_str (pe_op op_add_str pe_str (pe_fn H_forest_text G_forest_text hr (pa_cons (pv 2) pa_nil))) pe_str) pe_str)))))), ?_⟩
  have hl := hx.len
  have hrl := row_len_le g
  refine ⟨⟨_, rfl⟩, _, rfl, a, rfl, ⟨_, SqL.of ha⟩, fun D hD => lc_it (walk_list (xs := xs)) (fun i H' => i ≤ xs.length ∧ Same H H' ∧ H' D = some (.lst (((g.row.take i).map fun p => S (itemText p.1 p.2)).map V.str))) ?_ (fun i H' _ h => SqL.of (h.2.1 _ _ ha)) ?_ ?_⟩
  · exact ⟨Nat.zero_le _, Same.new hD _, upd_same⟩
  · rintro i x H' H'' hi ⟨hi1, hS, hD'⟩ ⟨rfl, hxi⟩
    obtain ⟨c, gi, t, li, ys, e1, rfl, ht, hli, hys⟩ := hx.get hxi
    have sz1 := row_size e1
    have hil := itemText_len c gi
    have htl := gi.text_len
    refine ⟨t, _, rfl, SqT.of (hS _ _ ht), rfl, _, _, rfl, _, _, rfl, rfl, rfl, ?_⟩
    refine yesTT ?_
    have hlt : (g.row.take i).length ≤ 1000 := Nat.le_trans (by rw [List.length_take]; exact Nat.min_le_right _ _) (by omega)
    have fin : ∀ H2, Same H'' H2 → ∃ acc, H2 D = some (.lst acc) ∧ acc.length < sizeLine ∧ (i + 1 ≤ xs.length ∧ Same H (upd H2 D (.lst (acc ++ [V.str (S (itemText c gi))]))) ∧ upd H2 D (.lst (acc ++ [V.str (S (itemText c gi))])) D = some (.lst (((g.row.take (i + 1)).map fun p => S (itemText p.1 p.2)).map V.str))) := fun H2 hS2 => by
      refine ⟨_, hS2 _ _ hD', sz' (by rw [List.length_map, List.length_map]; omega), by omega, (hS.trans hS2).mut hD, ?_⟩
      rw [upd_same, take_snoc e1, List.map_append, List.map_append]
      rfl
    refine ⟨_, rfl, _, rfl, li, ys, rfl, .inl (SqL.of (hS _ _ hli)), _, _, rfl, rfl, _, rfl, ?_⟩
    by_cases hc : gi = .e
    · have h0 : ys.length = 0 := hys.nil_iff.mpr hc
      rw [h0, decide_eq_false (by decide)]
      refine iteF ⟨_, _, rfl, rfl, by rw [nostr, S_len, S_len]; exact sz (by simp), ?_⟩
      have e : S [c] ++ (PySem.Str.ofString "" : Str) = S (itemText c gi) := by
        rw [nostr, S_app]
        unfold itemText
        rw [if_pos hc]
        rfl
      rw [e]
      exact fin H'' (Same.refl _)
    · have h0 : ys.length ≠ 0 := fun z => hc (hys.nil_iff.mp z)
      rw [decide_eq_true (by omega)]
      refine iteT ?_
      refine ⟨_, rfl, li, gi, rfl, ⟨ys, hS _ _ hli, hys.mono hS⟩, by omega, by omega, fun H2 hS2 => ?_⟩
      refine ⟨_, _, rfl, rfl, by rw [lpar, S_len, S_len]; exact sz (by simp; omega), ?_⟩
      rw [lpar, S_app]
      refine ⟨_, _, rfl, rfl, by rw [rpar, S_len, S_len]; exact sz (by simp; omega), ?_⟩
      rw [rpar, S_app]
      refine ⟨_, _, rfl, rfl, by rw [S_len, S_len]; exact sz (by simp; omega), ?_⟩
      rw [S_app]
      have e : [c] ++ ([40] ++ gi.text ++ [41]) = itemText c gi := by
        unfold itemText
        rw [if_neg hc]
        rfl
      rw [e]
      exact fin H2 hS2
  · rintro H' ⟨_, hS, hD'⟩
    rw [hl, List.take_length] at hD'
    refine ⟨_, D, (g.row.map fun p => itemText p.1 p.2).map S, rfl, rfl, .inl (SqL.of (by rw [hD', List.map_map, List.map_map, List.map_map]; rfl)), ?_, ?_⟩
    · have e2 : (((g.row.map fun p => itemText p.1 p.2).map S).map (·.length)).sum = (rowText g.row).length := by
        generalize g.row = l
        induction l with
        | nil => rfl
        | cons p r ih =>
          obtain ⟨c, i⟩ := p
          simp only [List.map_cons, List.sum_cons, rowText, List.length_append]
          rw [ih, S_len]
      rw [e2, row_text, nostr, S_len]
      have := g.text_len
      simp
      omega
    rw [nostr, join_nil]
    have e : (g.row.map fun p => itemText p.1 p.2).flatten = g.text := by
      rw [← row_text g]
      generalize g.row = l
      induction l with
      | nil => rfl
      | cons p r ih => obtain ⟨c, i⟩ := p; rw [List.map_cons, List.flatten_cons, ih]; rfl
    rw [e]
    exact k H' hS
/-! ### the law's own tree_of and text -/
def spLto (n : Nat) : Sp := fun vs H Q _ => ∃ (a : Addr) (f : Tr), vs = [.ref a] ∧ FoAt H a f ∧ f.size < n ∧ f.size ≤ 1000 ∧ ∀ H', Same H H' → Q (.str (S f.code)) H'
theorem ok_law_tree_of {n : Nat} {f : Addr} {fd : FuncData} (F : Fun K "_law_tree_of" "_law_tree_of" s_law_tree_of f fd) (M : Bi mg) (H_law_tree_of : FnH K mg "_law_tree_of" s_law_tree_of ["forest"] f fd) (G_law_tree_of : FnOk P w K mg base CX0 n f fd ["forest"] (spLto n)) :
    FnOk P w K mg base CX0 (n + 1) f fd ["forest"] (spLto (n + 1)) := by
  refine F.ok sc_law_tree_of (fun vs H Q E h => ?_) (fun cdv A outer s H vs Q E hr h => ?_)
  · obtain ⟨a, g, rfl, _⟩ := h
    rfl
  obtain ⟨a, g, rfl, ⟨xs, ha, hx⟩, hn, hz, k⟩ := h
  refine ⟨_, (pss_cons (ps_if (pt_cmpR op_eq (pe_callB (kLen K) rfl M.len PySem.boot_len (pa_cons (pv 0) pa_nil)) pe_int (nomark _))
    ((pss_one (ps_ret pe_str)))
    pss_nil)
  (pss_one (ps_ret (pe_op op_add_str (pe_op op_add_str (pe_ix (kIxT K) (pe_ix (kIxL K) (pv 0) pe_int (fun _ _ => rfl)) pe_int (fun _ _ => rfl)) (pe_fn H_law_tree_of G_law_tree_of hr (pa_cons (pe_ix (kIxT K) (pe_ix (kIxL K) (pv 0) pe_int (fun _ _ => rfl)) pe_int (fun _ _ => rfl)) pa_nil))) (pe_fn H_law_tree_of G_law_tree_of hr (pa_cons (pe_slice (kSlL K) (pv 0) (po_some pe_int) po_none) pa_nil)))))), ?_⟩
  refine ⟨_, rfl, a, xs, rfl, .inl (SqL.of ha), rfl, _, rfl, ?_⟩
  cases g with
  | e =>
    rw [show xs = [] from hx, decide_eq_true (by rfl)]
    refine iteT ?_
    show Q (.str (PySem.Str.ofString ".")) H
    rw [dot]
    exact k H (Same.refl _)
  | n c i r =>
    obtain ⟨t, l, ys, xs', rfl, ht, hl, hi, hr'⟩ := hx
    have hsz : (Tr.n c i r).size = i.size + r.size + 1 := rfl
    have hci := i.code_len
    have hcr := r.code_len
    rw [decide_eq_false (by simp only [List.length_cons]; intro z; injection z with z; omega)]
    refine iteF ?_
    have h0 : atI (V.ref t :: xs') 0 = some (V.ref t) := atI_nat (j := 0) rfl
    refine ⟨_, rfl, a, _, 0, _, rfl, rfl, SqL.of ha, h0, t, _, 0, _, rfl, rfl, SqT.of ht, atI_nat (j := 0) rfl, ?_⟩
    refine ⟨_, rfl, a, _, 0, _, rfl, rfl, SqL.of ha, h0, t, _, 1, _, rfl, rfl, SqT.of ht, atI_nat (j := 1) rfl, ?_⟩
    refine ⟨l, i, rfl, ⟨ys, hl, hi⟩, by omega, by omega, fun H1 hS1 => ?_⟩
    refine ⟨_, _, rfl, rfl, by rw [S_len, S_len]; exact sz (by simp; omega), ?_⟩
    rw [S_app]
    refine ⟨_, rfl, 1, rfl, a, _, rfl, SqL.of (hS1 _ _ ha), fun p hp => ?_⟩
    have e : cutV (V.ref t :: xs') (some 1) none = xs' := by
      unfold cutV
      have q := HT.sIx_nat (V.ref t :: xs').length 0 1
      rw [show ((1 : Nat) : Int) = (1 : Int) from rfl] at q
      rw [q, HT.sIx_none]
      simp
    rw [e]
    have hSp : Same H1 (upd H1 p (.lst xs')) := Same.new hp _
    refine ⟨p, r, rfl, ⟨xs', upd_same, (hr'.mono hS1).mono hSp⟩, by omega, by omega, fun H2 hS2 => ?_⟩
    refine ⟨_, _, rfl, rfl, by rw [S_len, S_len]; exact sz (by simp; omega), ?_⟩
    rw [S_app]
    exact k H2 (hS1.trans (hSp.trans hS2))
def spLtx (n : Nat) : Sp := fun vs H Q _ => ∃ (a : Addr) (f : Tr), vs = [.ref a] ∧ FoAt H a f ∧ f.size < n ∧ f.size ≤ 1000 ∧ ∀ H', Same H H' → Q (.str (S f.text)) H'
theorem ok_law_text {n : Nat} {f : Addr} {fd : FuncData} (F : Fun K "_law_text" "_law_text" s_law_text f fd) (M : Bi mg) (H_law_text : FnH K mg "_law_text" s_law_text ["forest"] f fd) (G_law_text : FnOk P w K mg base CX0 n f fd ["forest"] (spLtx n)) :
    FnOk P w K mg base CX0 (n + 1) f fd ["forest"] (spLtx (n + 1)) := by
  refine F.ok sc_law_text (fun vs H Q E h => ?_) (fun cdv A outer s H vs Q E hr h => ?_)
  · obtain ⟨a, g, rfl, _⟩ := h
    rfl
  obtain ⟨a, g, rfl, ⟨xs, ha, hx⟩, hn, hz, k⟩ := h
  refine ⟨_, (pss_cons (ps_set (i := 1) sc_law_text.nd rfl (Or.inl rfl) pe_str)
  (pss_cons (ps_for PassesOwn.never rfl (kPiL K (pv 0)) (kGTup K rfl (pgs_cons (pg_name (i := 2) sc_law_text.nd rfl (Or.inl rfl)) (pgs_cons (pg_name (i := 3) sc_law_text.nd rfl (Or.inl rfl)) pgs_nil)))
    ((pss_one (ps_set (i := 1) sc_law_text.nd rfl (Or.inl rfl) (pe_op op_add_str (pe_op op_add_str (pv 1) (pv 2)) (pe_ifExp (pt_cmpR op_gt (pe_callB (kLen K) rfl M.len PySem.boot_len (pa_cons (pv 3) pa_nil)) pe_int (nomark _)) (pe_op op_add_str (pe_op op_add_str pe_str (pe_fn H_law_text G_law_text hr (pa_cons (pv 3) pa_nil))) pe_str) pe_str))))))
  (pss_one (ps_ret (pv 1))))), ?_⟩
  have hl := hx.len
  refine ⟨_, rfl, a, rfl, ⟨_, SqL.of ha⟩, for_it (walk_list (xs := xs)) (fun i σ H' => i ≤ xs.length ∧ Same H H' ∧ ∃ v2 v3, σ = [some (.ref a), some (.str (S (rowText (g.row.take i)))), v2, v3]) ?_ (fun i σ H' _ h => SqL.of (h.2.1 _ _ ha)) ?_ ?_⟩
  · refine ⟨Nat.zero_le _, Same.refl _, none, none, ?_⟩
    rw [nostr]
    rfl
  · rintro i x σ H' H'' hi ⟨hi1, hS, v2, v3, rfl⟩ ⟨rfl, hxi⟩
    obtain ⟨c, gi, t, li, ys, e1, rfl, ht, hli, hys⟩ := hx.get hxi
    have sz1 := row_size e1
    have hil := itemText_len c gi
    have htl := gi.text_len
    have htk := rowText_take g i
    have htk1 := rowText_take g (i + 1)
    have etk : rowText (g.row.take (i + 1)) = rowText (g.row.take i) ++ itemText c gi := by
      rw [take_snoc e1, rowText_app]
      simp [rowText]
    refine ⟨t, _, rfl, SqT.of (hS _ _ ht), rfl, _, _, rfl, _, _, rfl, rfl, ?_⟩
    refine ⟨_, rfl, _, rfl, _, _, rfl, rfl, by rw [S_len, S_len]; exact sz (by simp; omega), ?_⟩
    rw [S_app]
    refine ⟨_, rfl, li, ys, rfl, .inl (SqL.of (hS _ _ hli)), _, _, rfl, rfl, _, rfl, ?_⟩
    by_cases hc : gi = .e
    · have h0 : ys.length = 0 := hys.nil_iff.mpr hc
      rw [h0, decide_eq_false (by decide)]
      refine iteF ⟨_, _, rfl, rfl, by rw [nostr, S_len, S_len]; exact sz (by simp; omega), ?_⟩
      rw [nostr, S_app]
      refine ⟨by omega, hS, some (.str (S [c])), some (.ref li), ?_⟩
      rw [etk]
      unfold itemText
      rw [if_pos hc, List.append_nil]
      rfl
    · have h0 : ys.length ≠ 0 := fun z => hc (hys.nil_iff.mp z)
      rw [decide_eq_true (by omega)]
      refine iteT ?_
      refine ⟨_, rfl, li, gi, rfl, ⟨ys, hS _ _ hli, hys.mono hS⟩, by omega, by omega, fun H2 hS2 => ?_⟩
      refine ⟨_, _, rfl, rfl, by rw [lpar, S_len, S_len]; exact sz (by simp; omega), ?_⟩
      rw [lpar, S_app]
      refine ⟨_, _, rfl, rfl, by rw [rpar, S_len, S_len]; exact sz (by simp; omega), ?_⟩
      rw [rpar, S_app]
      refine ⟨_, _, rfl, rfl, by rw [S_len, S_len]; exact sz (by simp; omega), ?_⟩
      rw [S_app]
      refine ⟨by omega, hS.trans hS2, some (.str (S [c])), some (.ref li), ?_⟩
      rw [etk]
      unfold itemText
      rw [if_neg hc, List.append_assoc]
      rfl
  · rintro σ H' ⟨_, hS, v2, v3, rfl⟩
    refine ⟨_, rfl, ?_⟩
    rw [hl, List.take_length, row_text]
    exact k H' hS
end
end Tb

set_option Elab.async false
set_option linter.all false
set_option maxRecDepth 100000
set_option maxHeartbeats 4000000
namespace Tb
open PySem PySem.Spec PyProof.Rows L2
/-! ### what the law draws -/
theorem snoc_cases {α : Type} (l : List α) : l = [] ∨ ∃ r x, l = r ++ [x] := by
  cases h : l.reverse with
  | nil => exact .inl (by simpa using h)
  | cons x r =>
    refine .inr ⟨r.reverse, x, ?_⟩
    have := congrArg List.reverse h
    simpa using this
/-- all but p is as it was; at p a list of ints -/
def Pk (p : Addr) (H H' : Hp) : Prop := (∀ b, b ≠ p → H' b = H b) ∧ ∃ ns : List Int, H' p = some (.lst (ns.map V.int))
section
variable {P : Program} {w : World} {K : PySem.W.Frag} {mg : Str → Option Value} {base : Heap}
def spPick : Sp := fun vs H Q _ => ∃ (p : Addr) (m : Int) (ns : List Int), vs = [.ref p, .int m] ∧ H p = some (.lst (ns.map V.int)) ∧ 1 ≤ m ∧ ∀ v H', 0 ≤ v → v < m → Pk p H H' → Q (.int v) H'
theorem ok_law_pick {f : Addr} {fd : FuncData} (F : Fun K "_law_pick" "_law_pick" s_law_pick f fd) (M : Bi mg) : FnOk P w K mg base CX0 1 f fd ["picks", "many"] spPick := by
  refine F.ok sc_law_pick (fun vs H Q E h => ?_) (fun cdv A outer s H vs Q E hr h => ?_)
  · obtain ⟨p, m, ns, rfl, _⟩ := h
    rfl
  obtain ⟨p, m, ns, rfl, hp, hm, k⟩ := h
  refine ⟨_, (pss_cons (ps_if (pt_cmpR op_eq (pe_callB (kLen K) rfl M.len PySem.boot_len (pa_cons (pv 0) pa_nil)) pe_int (nomark _))
    ((pss_one (ps_ret pe_int)))
    pss_nil)
  (pss_one (ps_ret (pe_op op_mod (kBM0 K PySem.F.plainAttrs_list PySem.F.slot_list_pop PySem.F.type_list_pop mt_pop (pv 0)) (pv 1))))), ?_⟩
  refine ⟨_, rfl, p, _, rfl, .inl (SqL.of hp), rfl, _, rfl, ?_⟩
  rcases snoc_cases ns with rfl | ⟨ns, x, rfl⟩
  · rw [decide_eq_true (by rfl)]
    exact iteT (k 0 H (by decide) (by omega) ⟨fun _ _ => rfl, [], hp⟩)
  · rw [decide_eq_false (by simp only [List.length_map, List.length_append]; intro z; injection z with z; simp at z; omega)]
    refine iteF ?_
    refine ⟨_, rfl, .inl ⟨rfl, _, SqL.of hp⟩, p, _, V.int x, rfl, rfl, hp, by simp, ?_⟩
    refine ⟨_, rfl, x, m, rfl, rfl, (by show 0 < m; omega), ?_⟩
    exact k _ _ (Int.emod_nonneg _ (by omega)) (Int.emod_lt_of_pos _ (by omega)) ⟨fun b hb => upd_ne hb, ns, by rw [upd_same]; simp⟩
/-- the things that may be drawn from -/
def Has (K : PySem.W.Frag) (H : Hp) (it : V) (xs : List V) : Prop := (∃ a, it = .ref a ∧ (SqL K H a xs ∨ SqT K H a xs)) ∨ ∃ l : List Nat, it = .str (S l) ∧ l.length ≤ 1000 ∧ xs = l.map fun c => V.str (S [c])
def spOne (K : PySem.W.Frag) : Sp := fun vs H Q _ => ∃ (p : Addr) (ns : List Int) (it : V) (xs : List V), vs = [.ref p, it] ∧ H p = some (.lst (ns.map V.int)) ∧ it ≠ .ref p ∧ Has K H it xs ∧ xs ≠ [] ∧ ∀ v H', v ∈ xs → Pk p H H' → Q v H'
theorem ok_law_one {f g : Addr} {fd gd : FuncData} (F : Fun K "_law_one" "_law_one" s_law_one f fd) (M : Bi mg) (H_law_pick : FnH K mg "_law_pick" s_law_pick ["picks", "many"] g gd) (G_law_pick : FnOk P w K mg base CX0 1 g gd ["picks", "many"] spPick) : FnOk P w K mg base CX0 2 f fd ["picks", "items"] (spOne K) := by
  refine F.ok sc_law_one (fun vs H Q E h => ?_) (fun cdv A outer s H vs Q E hr h => ?_)
  · obtain ⟨p, ns, it, xs, rfl, _⟩ := h
    rfl
  obtain ⟨p, ns, it, xs, rfl, hp, hne, hit, hx, k⟩ := h
  refine ⟨_, (pss_one (ps_ret (pe_ix (kIxA K) (pv 1) (pe_fn H_law_pick G_law_pick hr (pa_cons (pv 0) (pa_cons (pe_callB (kLenA K) rfl M.len PySem.boot_len (pa_cons (pv 1) pa_nil)) pa_nil))) (fun _ _ => rfl)))), ?_⟩
  have hlen : 1 ≤ xs.length := by cases xs with | nil => exact absurd rfl hx | cons _ _ => simp
  have hL : LenV K it H xs.length := by
    rcases hit with ⟨a, rfl, h | h⟩ | ⟨l, rfl, hl, rfl⟩
    · exact .inl ⟨xs, h, rfl⟩
    · exact .inr ⟨xs, h, rfl⟩
    · exact ⟨by rw [S_len]; exact sz (by omega), by rw [S_len, List.length_map]⟩
  refine ⟨_, rfl, _, rfl, _, rfl, it, _, rfl, hL, ?_⟩
  refine ⟨p, _, ns, rfl, hp, by omega, fun v H' h0 h1 hP => ?_⟩
  obtain ⟨j, rfl⟩ : ∃ j : Nat, v = (j : Int) := ⟨v.toNat, by omega⟩
  have hj : j < xs.length := by omega
  have hS : ∀ a, a ≠ p → SqL K H a xs → SqL K H' a xs := fun a ha h => by
    rcases h with (h | ⟨o, h⟩) | h
    · exact .inl (.inl ((hP.1 a ha).trans h))
    · exact .inl (.inr ⟨o, (hP.1 a ha).trans h⟩)
    · exact .inr h
  have hT : ∀ a, a ≠ p → SqT K H a xs → SqT K H' a xs := fun a ha h => by
    rcases h with (h | ⟨o, h⟩) | h
    · exact .inl (.inl ((hP.1 a ha).trans h))
    · exact .inl (.inr ⟨o, (hP.1 a ha).trans h⟩)
    · exact .inr h
  have hm : xs[j] ∈ xs := List.getElem_mem hj
  rcases hit with ⟨a, rfl, h | h⟩ | ⟨l, rfl, hl, rfl⟩
  · exact .inl ⟨a, xs, _, _, rfl, rfl, hS a (fun e => hne (by rw [e])) h, atI_nat (List.getElem?_eq_getElem hj), k _ _ hm hP⟩
  · exact .inr (.inl ⟨a, xs, _, _, rfl, rfl, hT a (fun e => hne (by rw [e])) h, atI_nat (List.getElem?_eq_getElem hj), k _ _ hm hP⟩)
  · have hj' : j < l.length := by simpa using hj
    refine .inr (.inr ⟨S l, _, l[j], rfl, rfl, by rw [S_len]; exact sz (by omega), atI_nat (by simp [hj']), k _ _ ?_ hP⟩)
    simp only [List.mem_map]
    exact ⟨l[j], List.getElem_mem hj', rfl⟩
def spPicks (K : PySem.W.Frag) : Sp := fun vs H Q _ => ∃ (a : Addr) (ns : List Int) (k c : Nat), vs = [.ref a, .int k, .int c] ∧ SqL K H a (ns.map V.int) ∧ c ≤ 1000 ∧ k ≤ 1000 ∧ ∀ p H' (ms : List Int), Same H H' → H p = none → H' p = some (.lst (ms.map V.int)) → Q (.ref p) H'
theorem ok_law_picks {f : Addr} {fd : FuncData} (F : Fun K "_law_picks" "_law_picks" s_law_picks f fd) (M : Bi mg) : FnOk P w K mg base CX0 1 f fd ["script", "k", "count"] (spPicks K) := by
  refine F.ok sc_law_picks (fun vs H Q E h => ?_) (fun cdv A outer s H vs Q E hr h => ?_)
  · obtain ⟨a, ns, k, c, rfl, _⟩ := h
    rfl
  obtain ⟨a, ns, k, c, rfl, ha, hc, hk, q⟩ := h
  refine ⟨_, (Evl.pss_cut (ps_set (i := 3) sc_law_picks.nd rfl (Or.inl rfl) (pe_ifExp (pt_cmpR op_lt (pv 1) (pe_callB (kLen K) rfl M.len PySem.boot_len (pa_cons (pv 0) pa_nil)) (nomark _)) (pe_callB call_abs rfl M.abs (by decide +kernel) (pa_cons (pe_ix (kIxL K) (pv 0) (pv 1) (fun _ _ => rfl)) pa_nil)) (pe_op op_add (pe_op op_mul (pe_callB call_abs rfl M.abs (by decide +kernel) (pa_cons (pe_callB (kSum K rfl) rfl M.sum (by decide +kernel) (pa_cons (pv 0) pa_nil)) pa_nil)) pe_int) (pe_op op_mul pe_int (pe_op op_add (pv 1) pe_int)))))
  (pss_cons (ps_set (i := 4) sc_law_picks.nd rfl (Or.inl rfl) (pe_lst pa_nil))
  (Evl.pss_cut (ps_if (pt_cmpR op_ge (pv 3) (pe_op op_pow pe_int pe_int) (nomark _))
    ((pss_cons (ps_set (i := 3) sc_law_picks.nd rfl (Or.inl rfl) (pe_op op_sub (pv 3) (pe_op op_pow pe_int pe_int)))
     (pss_one (ps_for PassesOwn.never rfl (pi_range1 rfl M.range (pa_cons (pv 2) pa_nil)) (pg_name (i := 5) sc_law_picks.nd rfl (Or.inl rfl))
       ((pss_cons (ps_expr (kBM K PySem.F.plainAttrs_list PySem.F.slot_list_append PySem.F.type_list_append mt_append (pv 4) (pa_cons (pe_op op_mod (pv 3) pe_int) pa_nil)))
        (pss_one (ps_set (i := 3) sc_law_picks.nd rfl (Or.inl rfl) (pe_op op_fdiv (pv 3) pe_int)))))))))
    ((pss_cons (ps_set (i := 6) sc_law_picks.nd rfl (Or.inl rfl) (pe_op op_mod (pe_op op_add (pe_op op_add (pe_op op_mul (pv 3) pe_int) (pe_op op_mul pe_int (pv 1))) pe_int) pe_int))
     (pss_one (ps_for PassesOwn.never rfl (pi_range1 rfl M.range (pa_cons (pv 2) pa_nil)) (pg_name (i := 5) sc_law_picks.nd rfl (Or.inl rfl))
       ((pss_cons (ps_set (i := 6) sc_law_picks.nd rfl (Or.inl rfl) (pe_op op_mod (pe_op op_add (pe_op op_add (pe_op op_mul (pv 6) pe_int) (pe_op op_mul pe_int (pv 5))) pe_int) pe_int))
        (pss_cons (ps_set (i := 7) sc_law_picks.nd rfl (Or.inl rfl) (pe_op op_mod (pe_op op_add (pe_op op_add (pe_op op_fdiv (pv 6) pe_int) (pe_op op_mul (pv 6) pe_int)) (pv 5)) pe_int))
        (pss_one (ps_expr (kBM K PySem.F.plainAttrs_list PySem.F.slot_list_append PySem.F.type_list_append mt_append (pv 4) (pa_cons (pe_op op_mod (pe_op op_fdiv (pv 7) pe_int) pe_int) pa_nil))))))))))))
  (pss_cons (ps_expr (kBM0 K PySem.F.plainAttrs_list PySem.F.slot_list_reverse PySem.F.type_list_reverse mt_reverse (pv 4)))
  (pss_one (ps_ret (pv 4))))))), ?_⟩
  have p18 : ((10 : Int) ^ (18 : Int).toNat) = 1000000000000000000 := by decide
  refine ⟨fun σ H' => H' = H ∧ ∃ cell : Int, 0 ≤ cell ∧ σ = [some (.ref a), some (.int k), some (.int c), some (.int cell), none, none, none, none], ?_, ?_⟩
  · refine ⟨_, rfl, _, rfl, a, _, rfl, .inl ha, _, _, rfl, rfl, _, rfl, ?_⟩
    rw [List.length_map]
    refine ite2 (fun hlt => ?_) (fun hge => ?_)
    · have hlt := of_decide_eq_true hlt
      have hj : k < ns.length := by omega
      refine ⟨_, rfl, _, rfl, a, _, _, V.int ns[k], rfl, rfl, ha, atI_nat (by rw [List.getElem?_map, List.getElem?_eq_getElem hj]; rfl), _, rfl, rfl, _, ?_, rfl⟩
      split <;> omega
    · refine ⟨_, rfl, a, ns, rfl, ha, _, rfl, _, _, rfl, rfl, .inr ⟨by decide, by decide⟩, ?_⟩
      refine ⟨_, rfl, _, _, rfl, rfl, _, _, rfl, rfl, .inl ⟨by decide, by decide⟩, _, _, rfl, rfl, rfl, _, ?_, rfl⟩
      split <;> omega
  · rintro σ H' ⟨rfl, cell, hcell, rfl⟩
    refine ⟨(by show 0 ≤ sizeLine; decide), fun pf hpf => ?_⟩
    refine ⟨fun σ H1 => ∃ (v3 v5 v6 v7 : Option V) (ms : List Int), σ = [some (.ref a), some (.int k), some (.int c), v3, some (.ref pf), v5, v6, v7] ∧ Same H' H1 ∧ H1 pf = some (.lst (ms.map V.int)), ?_, ?_⟩
    · refine ⟨_, rfl, _, _, rfl, rfl, ⟨by decide, by decide, by decide⟩, _, _, rfl, rfl, _, rfl, ?_⟩
      refine ite2 (fun hlt => ?_) (fun hge => ?_)
      · refine ⟨_, rfl, _, _, rfl, rfl, ⟨by decide, by decide, by decide⟩, _, _, rfl, rfl, ?_⟩
        refine ⟨_, rfl, _, rfl, by omega, by omega, for_range (fun i σ H1 => ∃ (x : Int) (v5 : Option V) (ms : List Int), σ = [some (.ref a), some (.int k), some (.int c), some (.int x), some (.ref pf), v5, none, none] ∧ ms.length ≤ i ∧ Same H' H1 ∧ H1 pf = some (.lst (ms.map V.int))) ?_ ?_ ?_⟩
        · exact ⟨_, none, [], rfl, Nat.le_refl _, Same.new hpf _, upd_same⟩
        · rintro i σ H1 hi ⟨x, v5, ms, rfl, hl, hS, hf⟩
          refine ⟨_, rfl, .inl ⟨rfl, _, SqL.of hf⟩, _, rfl, _, _, rfl, rfl, (by show (0 : Int) < 9240; decide), pf, _, _, rfl, rfl, hf, sz' (by rw [List.length_map]; omega), ?_⟩
          refine ⟨_, rfl, _, _, rfl, rfl, ⟨by decide, by decide⟩, _, _, ms ++ [x % 9240], rfl, by simp; omega, hS.mut hpf, ?_⟩
          rw [upd_same, List.map_append]
          rfl
        · rintro σ H1 ⟨x, v5, ms, rfl, hl, hS, hf⟩
          exact ⟨_, _, _, _, ms, rfl, hS, hf⟩
      · refine ⟨_, rfl, _, _, rfl, rfl, .inr ⟨by decide, by decide⟩, _, rfl, _, _, rfl, rfl, .inl ⟨by decide, by decide⟩, _, _, rfl, rfl, _, _, rfl, rfl, _, _, rfl, rfl, (by show (0 : Int) < 4294967291; decide), ?_⟩
        refine ⟨_, rfl, _, rfl, by omega, by omega, for_range (fun i σ H1 => ∃ (x : Int) (v5 v7 : Option V) (ms : List Int), 0 ≤ x ∧ x < 4294967291 ∧ σ = [some (.ref a), some (.int k), some (.int c), some (.int cell), some (.ref pf), v5, some (.int x), v7] ∧ ms.length ≤ i ∧ Same H' H1 ∧ H1 pf = some (.lst (ms.map V.int))) ?_ ?_ ?_⟩
        · exact ⟨_, none, none, [], Int.emod_nonneg _ (by decide), Int.emod_lt_of_pos _ (by decide), rfl, Nat.le_refl _, Same.new hpf _, upd_same⟩
        · rintro i σ H1 hi ⟨x, v5, v7, ms, h0, h1, rfl, hl, hS, hf⟩
          refine ⟨_, rfl, _, _, rfl, rfl, .inr ⟨by decide, by decide⟩, _, rfl, _, _, rfl, rfl, .inl ⟨by decide, by decide⟩, _, _, rfl, rfl, _, _, rfl, rfl, _, _, rfl, rfl, (by show (0 : Int) < 4294967291; decide), ?_⟩
          have y0 : 0 ≤ (x * 1588635695 + 40503 * (0 + (i : Int)) + 11) % 4294967291 := Int.emod_nonneg _ (by decide)
          have y1 : (x * 1588635695 + 40503 * (0 + (i : Int)) + 11) % 4294967291 < 4294967291 := Int.emod_lt_of_pos _ (by decide)
          refine ⟨_, rfl, _, _, rfl, rfl, ⟨by decide, by decide⟩, _, rfl, _, _, rfl, rfl, .inr ⟨by decide, by decide⟩, _, _, rfl, rfl, _, rfl, _, _, rfl, rfl, _, _, rfl, rfl, (by show (0 : Int) < 4294967279; decide), ?_⟩
          refine ⟨_, rfl, .inl ⟨rfl, _, SqL.of hf⟩, _, rfl, _, _, rfl, rfl, ⟨by decide, by decide⟩, _, _, rfl, rfl, (by show (0 : Int) < 9240; decide), pf, _, _, rfl, rfl, hf, sz' (by rw [List.length_map]; omega), ?_⟩
          refine ⟨_, _, _, ms ++ [((((x * 1588635695 + 40503 * (0 + (i : Int)) + 11) % 4294967291) / 4096 + ((x * 1588635695 + 40503 * (0 + (i : Int)) + 11) % 4294967291) * 31 + (0 + (i : Int))) % 4294967279) / 16 % 9240], y0, y1, rfl, by simp; omega, hS.mut hpf, ?_⟩
          rw [upd_same, List.map_append]
          rfl
        · rintro σ H1 ⟨x, v5, v7, ms, h0, h1, rfl, hl, hS, hf⟩
          exact ⟨_, _, _, _, ms, rfl, hS, hf⟩
    · rintro σ H1 ⟨v3, v5, v6, v7, ms, rfl, hS, hf⟩
      refine ⟨_, rfl, .inl ⟨rfl, _, SqL.of hf⟩, pf, _, rfl, rfl, hf, ?_⟩
      refine ⟨_, rfl, q pf _ ms.reverse (hS.mut hpf) hpf ?_⟩
      rw [upd_same, List.map_reverse]
end
end Tb

set_option Elab.async false
set_option linter.all false
set_option maxRecDepth 100000
set_option maxHeartbeats 4000000
namespace Tb
open PySem PySem.Spec PyProof.Rows L2
/-! ### plain values that are alike, part by part -/
def EqD (H : Hp) : Nat → V → V → Prop
  | 0, _, _ => False
  | n + 1, v, w => (v = w ∧ flatV v = true) ∨ ∃ a b xs ys, v = .ref a ∧ w = .ref b ∧ ((H a = some (.lst xs) ∧ H b = some (.lst ys)) ∨ (H a = some (.tup xs) ∧ H b = some (.tup ys))) ∧ xs.length = ys.length ∧ xs.length ≤ 100000 ∧
    ∀ (i : Nat) x y, xs[i]? = some x → ys[i]? = some y → EqD H n x y
theorem EqD.up {H : Hp} : ∀ {n : Nat} {v w : V}, EqD H n v w → EqD H (n + 1) v w
  | 0, _, _, h => h.elim
  | n + 1, v, w, h => by
    rcases h with h | ⟨a, b, xs, ys, h1, h2, h3, h4, h5, h6⟩
    · exact .inl h
    · exact .inr ⟨a, b, xs, ys, h1, h2, h3, h4, h5, fun i x y e1 e2 => (h6 i x y e1 e2).up⟩
theorem EqD.mono {H : Hp} {n m : Nat} (hm : n ≤ m) {v w : V} (h : EqD H n v w) : EqD H m v w := by
  induction hm with
  | refl => exact h
  | step _ ih => exact ih.up
section
variable {P : Program} {w : World} {K : PySem.W.Frag} {mg : Str → Option Value} {base : Heap}
theorem isiA {σ : L2.St} {H : Hp} {Q : VK} {i : Nat} {v : V} {t T : String} {b : Bool} (hi : σ[i]? = some (some v)) (ty : TyX K H v (.type t)) (hk : kitB t T = some b) (q : Q (.bl b) H) : tCB (rIsi K) (tCons (tVar i) (tCons (tC (.ty T)) tNil)) σ H Q :=
  ⟨v, hi, v, .ty T, .type t, .type T, b, rfl, .ty T, ty, kit_ty hk, q⟩
theorem orF {t u : TT} {σ : L2.St} {H : Hp} {Q : Bool → Hp → Prop} (h : t σ H fun c H1 => c = false ∧ H1 = H) (h2 : u σ H Q) (mono : ∀ (R R' : Bool → Hp → Prop), (∀ c H1, R c H1 → R' c H1) → t σ H R → t σ H R') : tOr t u σ H Q :=
  mono _ _ (fun c H1 z => by obtain ⟨rfl, rfl⟩ := z; exact iteF h2) h
def spSame (n : Nat) : Sp := fun vs H Q _ => ∃ v u, vs = [v, u] ∧ EqD H n v u ∧ Q (.bl true) H
theorem ok_law_same {n : Nat} {f : Addr} {fd : FuncData} (F : Fun K "_law_same" "_law_same" s_law_same f fd) (M : Bi mg) (H_law_same : FnH K mg "_law_same" s_law_same ["told", "due"] f fd) (G_law_same : FnOk P w K mg base CX0 n f fd ["told", "due"] (spSame n)) :
    FnOk P w K mg base CX0 (n + 1) f fd ["told", "due"] (spSame (n + 1)) := by
  refine F.ok sc_law_same (fun vs H Q E h => ?_) (fun cdv A outer s H vs Q E hr h => ?_)
  · obtain ⟨v, u, rfl, _⟩ := h
    rfl
  obtain ⟨v, u, rfl, he, q⟩ := h
  refine ⟨_, (pss_cons (ps_if (PW.pt (pw_or (pt_val (pe_callB (kIsi K) rfl M.isinstance (by decide +kernel) (pa_cons (pv 1) (pa_cons (kTy "bool" rfl M.bool (by decide +kernel)) pa_nil)))) (pw_or1 (pt_val (pe_callB (kIsi K) rfl M.isinstance (by decide +kernel) (pa_cons (pv 0) (pa_cons (kTy "bool" rfl M.bool (by decide +kernel)) pa_nil)))))))
    ((pss_one (ps_ret (pe_and (pe_callB (kIsi K) rfl M.isinstance (by decide +kernel) (pa_cons (pv 1) (pa_cons (kTy "bool" rfl M.bool (by decide +kernel)) pa_nil))) (pe_and (pe_callB (kIsi K) rfl M.isinstance (by decide +kernel) (pa_cons (pv 0) (pa_cons (kTy "bool" rfl M.bool (by decide +kernel)) pa_nil))) (pe_one (pe_cmpR op_eq (pv 0) (pv 1) (nomark _))))))))
    pss_nil)
  (pss_cons (ps_if (PW.pt (pw_or (pt_cmpR op_isN (pv 1) pe_non (nomark _)) (pw_or1 (pt_val (pe_callB (kIsi K) rfl M.isinstance (by decide +kernel) (pa_cons (pv 1) (pa_cons (kTy "int" rfl M.int (by decide +kernel)) pa_nil)))))))
    ((pss_one (ps_ret (pe_and (pe_cmpR op_eq (pv 0) (pv 1) (nomark _)) (pe_one (pe_or (pe_cmpR op_isN (pv 1) pe_non (nomark _)) (pe_one (pe_callB (kIsi K) rfl M.isinstance (by decide +kernel) (pa_cons (pv 0) (pa_cons (kTy "int" rfl M.int (by decide +kernel)) pa_nil))))))))))
    pss_nil)
  (pss_cons (ps_if (pt_val (pe_callB (kIsi K) rfl M.isinstance (by decide +kernel) (pa_cons (pv 1) (pa_cons (kTy "str" rfl M.str (by decide +kernel)) pa_nil))))
    ((pss_one (ps_ret (pe_and (pe_callB (kIsi K) rfl M.isinstance (by decide +kernel) (pa_cons (pv 0) (pa_cons (kTy "str" rfl M.str (by decide +kernel)) pa_nil))) (pe_one (pe_cmpR op_eq (pv 0) (pv 1) (nomark _)))))))
    pss_nil)
  (pss_cons (ps_if (PW.pt (pw_or (pt_cmpR op_ne (pe_callB (kIsi K) rfl M.isinstance (by decide +kernel) (pa_cons (pv 1) (pa_cons (kTy "list" rfl M.list (by decide +kernel)) pa_nil))) (pe_callB (kIsi K) rfl M.isinstance (by decide +kernel) (pa_cons (pv 0) (pa_cons (kTy "list" rfl M.list (by decide +kernel)) pa_nil))) (nomark _)) (pw_or1 (pt_cmpR op_ne (pe_callB (kIsi K) rfl M.isinstance (by decide +kernel) (pa_cons (pv 1) (pa_cons (kTy "tuple" rfl M.tuple (by decide +kernel)) pa_nil))) (pe_callB (kIsi K) rfl M.isinstance (by decide +kernel) (pa_cons (pv 0) (pa_cons (kTy "tuple" rfl M.tuple (by decide +kernel)) pa_nil))) (nomark _)))))
    ((pss_one (ps_ret pe_bl)))
    pss_nil)
  (pss_cons (ps_if (pt_cmpR op_ne (pe_callB (kLen K) rfl M.len PySem.boot_len (pa_cons (pv 0) pa_nil)) (pe_callB (kLen K) rfl M.len PySem.boot_len (pa_cons (pv 1) pa_nil)) (nomark _))
    ((pss_one (ps_ret pe_bl)))
    pss_nil)
  (pss_cons (ps_for PassesOwn.never rfl (pi_range1 rfl M.range (pa_cons (pe_callB (kLen K) rfl M.len PySem.boot_len (pa_cons (pv 1) pa_nil)) pa_nil)) (pg_name (i := 2) sc_law_same.nd rfl (Or.inl rfl))
    ((pss_one (ps_if (pt_not (pt_val (pe_fn H_law_same G_law_same hr (pa_cons (pe_ix (kIxA K) (pv 0) (pv 2) (fun _ _ => rfl)) (pa_cons (pe_ix (kIxA K) (pv 1) (pv 2) (fun _ _ => rfl)) pa_nil)))))
       ((pss_one (ps_ret pe_bl)))
       pss_nil))))
  (pss_one (ps_ret pe_bl)))))))), ?_⟩
  rcases he with ⟨rfl, hf⟩ | ⟨a, b, xs, ys, rfl, rfl, hab, hl, hz, hi⟩
  · cases v with
    | bl k =>
      refine isiA (b := true) rfl (.base (.bl k)) (by decide +kernel) ⟨_, rfl, ?_⟩
      refine iteT ?_
      refine iteT ?_
      refine isiA (b := true) rfl (.base (.bl k)) (by decide +kernel) ⟨_, rfl, ?_⟩
      refine iteT ?_
      refine isiA (b := true) rfl (.base (.bl k)) (by decide +kernel) ⟨_, rfl, ?_⟩
      refine iteT ?_
      refine ⟨_, rfl, _, rfl, rfl, ?_⟩
      rw [decide_eq_true rfl]
      exact q
    | non =>
      refine isiA (b := false) rfl (.base .non) (by decide +kernel) ⟨_, rfl, ?_⟩
      refine iteF ?_
      refine isiA (b := false) rfl (.base .non) (by decide +kernel) ⟨_, rfl, ?_⟩
      refine iteF ?_
      refine ⟨_, rfl, rfl, _, rfl, ?_⟩
      refine iteT ?_
      refine iteT ?_
      refine ⟨_, rfl, _, rfl, rfl, _, rfl, ?_⟩
      refine iteT ?_
      refine ⟨_, rfl, rfl, _, rfl, ?_⟩
      refine iteT ?_
      exact q
    | int k =>
      refine isiA (b := false) rfl (.base (.int k)) (by decide +kernel) ⟨_, rfl, ?_⟩
      refine iteF ?_
      refine isiA (b := false) rfl (.base (.int k)) (by decide +kernel) ⟨_, rfl, ?_⟩
      refine iteF ?_
      refine ⟨_, rfl, rfl, _, rfl, ?_⟩
      refine iteF ?_
      refine isiA (b := true) rfl (.base (.int k)) (by decide +kernel) ⟨_, rfl, ?_⟩
      refine iteT ?_
      refine ⟨_, rfl, _, rfl, rfl, _, rfl, ?_⟩
      rw [decide_eq_true rfl]
      refine iteT ?_
      refine ⟨_, rfl, rfl, _, rfl, ?_⟩
      refine iteF ?_
      exact isiA (b := true) rfl (.base (.int k)) (by decide +kernel) q
    | str x =>
      refine isiA (b := false) rfl (.base (.str x)) (by decide +kernel) ⟨_, rfl, ?_⟩
      refine iteF ?_
      refine isiA (b := false) rfl (.base (.str x)) (by decide +kernel) ⟨_, rfl, ?_⟩
      refine iteF ?_
      refine ⟨_, rfl, rfl, _, rfl, ?_⟩
      refine iteF ?_
      refine isiA (b := false) rfl (.base (.str x)) (by decide +kernel) ⟨_, rfl, ?_⟩
      refine iteF ?_
      refine isiA (b := true) rfl (.base (.str x)) (by decide +kernel) ⟨_, rfl, ?_⟩
      refine iteT ?_
      refine isiA (b := true) rfl (.base (.str x)) (by decide +kernel) ⟨_, rfl, ?_⟩
      refine iteT ?_
      refine ⟨_, rfl, _, rfl, rfl, ?_⟩
      rw [decide_eq_true rfl]
      exact q
    | _ => cases hf
  · obtain ⟨t, tya, tyb, k1, k2, k3, k4, k5, hx, hy⟩ : ∃ t, TyX K H (.ref a) (.type t) ∧ TyX K H (.ref b) (.type t) ∧ kitB t "bool" = some false ∧ kitB t "int" = some false ∧ kitB t "str" = some false ∧ (∃ c, kitB t "list" = some c) ∧ (∃ c, kitB t "tuple" = some c) ∧
        (SqL K H a xs ∨ SqT K H a xs) ∧ (SqL K H b ys ∨ SqT K H b ys) := by
      rcases hab with ⟨h1, h2⟩ | ⟨h1, h2⟩
      · exact ⟨"list", .base (.lst h1), .base (.lst h2), by decide +kernel, by decide +kernel, by decide +kernel, ⟨true, by decide +kernel⟩, ⟨false, by decide +kernel⟩, .inl (SqL.of h1), .inl (SqL.of h2)⟩
      · exact ⟨"tuple", .base (.tup h1), .base (.tup h2), by decide +kernel, by decide +kernel, by decide +kernel, ⟨false, by decide +kernel⟩, ⟨true, by decide +kernel⟩, .inr (SqT.of h1), .inr (SqT.of h2)⟩
    obtain ⟨c4, k4⟩ := k4
    obtain ⟨c5, k5⟩ := k5
    refine isiA rfl tyb k1 ⟨_, rfl, ?_⟩
    refine iteF ?_
    refine isiA rfl tya k1 ⟨_, rfl, ?_⟩
    refine iteF ?_
    refine ⟨_, rfl, rfl, _, rfl, ?_⟩
    refine iteF ?_
    refine isiA rfl tyb k2 ⟨_, rfl, ?_⟩
    refine iteF ?_
    refine isiA rfl tyb k3 ⟨_, rfl, ?_⟩
    refine iteF ?_
    refine isiA rfl tyb k4 ?_
    refine isiA rfl tya k4 ⟨rfl, _, rfl, ?_⟩
    rw [decide_eq_true rfl]
    refine iteF ?_
    refine isiA rfl tyb k5 ?_
    refine isiA rfl tya k5 ⟨rfl, _, rfl, ?_⟩
    rw [decide_eq_true rfl]
    refine iteF ?_
    refine ⟨_, rfl, a, xs, rfl, hx, _, rfl, b, ys, rfl, hy, rfl, _, rfl, ?_⟩
    rw [hl, decide_eq_true rfl]
    refine iteF ?_
    refine ⟨_, rfl, b, ys, rfl, hy, _, rfl, by omega, by omega, for_range (fun i σ H' => H' = H ∧ ∃ v2, σ = [some (.ref a), some (.ref b), v2]) ⟨rfl, none, rfl⟩ ?_ ?_⟩
    · rintro i σ H' hi' ⟨rfl, v2, rfl⟩
      have hj : i < ys.length := by simpa using hi'
      have hjx : i < xs.length := by omega
      have ei : (0 : Int) + (i : Int) = (i : Int) := Int.zero_add _
      rw [ei]
      have dx : ∀ {Q' : VK}, Q' xs[i] H' → rIx K (.ref a) (.int (i : Int)) H' Q' := fun {Q'} z => by
        rcases hx with h | h
        · exact .inl ⟨a, xs, _, _, rfl, rfl, h, atI_nat (List.getElem?_eq_getElem hjx), z⟩
        · exact .inr (.inl ⟨a, xs, _, _, rfl, rfl, h, atI_nat (List.getElem?_eq_getElem hjx), z⟩)
      have dy : ∀ {Q' : VK}, Q' ys[i] H' → rIx K (.ref b) (.int (i : Int)) H' Q' := fun {Q'} z => by
        rcases hy with h | h
        · exact .inl ⟨b, ys, _, _, rfl, rfl, h, atI_nat (List.getElem?_eq_getElem hj), z⟩
        · exact .inr (.inl ⟨b, ys, _, _, rfl, rfl, h, atI_nat (List.getElem?_eq_getElem hj), z⟩)
      refine ⟨_, rfl, _, rfl, dx ?_⟩
      refine ⟨_, rfl, _, rfl, dy ?_⟩
      refine ⟨_, _, rfl, hi i _ _ (List.getElem?_eq_getElem hjx) (List.getElem?_eq_getElem hj), _, rfl, ?_⟩
      refine iteF ?_
      exact ⟨rfl, _, rfl⟩
    · rintro σ H' ⟨rfl, v2, rfl⟩
      exact q
theorem same_all {f : Addr} {fd : FuncData} (Hs : FnH K mg "_law_same" s_law_same ["told", "due"] f fd) (M : Bi mg) : ∀ n, FnOk P w K mg base CX0 n f fd ["told", "due"] (spSame n)
  | 0 => none_of_sp fun vs H Q E h => by
    obtain ⟨v, u, _, h, _⟩ := h
    exact h
  | n + 1 => ok_law_same Hs.F M Hs (same_all Hs M n)
end
end Tb

set_option Elab.async false
set_option linter.all false
set_option maxRecDepth 100000
set_option maxHeartbeats 4000000
namespace Tb
open PySem PySem.Spec PyProof.Rows L2
/-! ### all small trees -/
def bd : Nat → Nat
  | 0 => 1
  | 1 => 3
  | 2 => 54
  | _ => 26244
theorem bd_le : ∀ k, k ≤ 3 → ∀ j, j ≤ k → bd j ≤ bd k := by decide
theorem bd_up : ∀ i, i < 3 → 3 * ((i + 1) * (bd i * bd i)) ≤ bd (i + 1) := by decide
def LvG (m : Nat) (row : List Tr) : Prop := ∀ t ∈ row, t.all (· ≠ 46) ∧ t.size = m
def codes (row : List Tr) : List V := row.map fun t => V.str (S t.code)
theorem codes_len (row : List Tr) : (codes row).length = row.length := List.length_map _
theorem codes_app (a b : List Tr) : codes a ++ codes b = codes (a ++ b) := (List.map_append).symm
def LvAt (H : Hp) (p : Addr) (k : Nat) (refs : List V) : Prop := refs.length = k ∧ ∀ j, j < k → ∃ a row, refs[j]? = some (.ref a) ∧ a ≠ p ∧ H a = some (.lst (codes row)) ∧ LvG j row ∧ row.length ≤ bd j
theorem LvAt.mono {H H' : Hp} {p : Addr} {k : Nat} {refs : List V} (h : LvAt H p k refs) (e : Same H H') : LvAt H' p k refs :=
  ⟨h.1, fun j hj => let ⟨a, row, h1, h2, h3, h4⟩ := h.2 j hj; ⟨a, row, h1, h2, e _ _ h3, h4⟩⟩
section
variable {P : Program} {w : World} {K : PySem.W.Frag} {mg : Str → Option Value} {base : Heap}
def spLevels : Sp := fun vs H Q _ => ∃ (L : List Nat) (m : Nat), vs = [.str (S L), .int m] ∧ L.length ≤ 3 ∧ (∀ c ∈ L, c ≠ 46) ∧ m ≤ 3 ∧ ∀ p H' refs, Same H H' → H' p = some (.lst refs) → LvAt H' p (m + 1) refs → Q (.ref p) H'
theorem ok_law_levels {f : Addr} {fd : FuncData} (F : Fun K "_law_levels" "_law_levels" s_law_levels f fd) (M : Bi mg) : FnOk P w K mg base CX0 1 f fd ["letters", "most"] spLevels := by
  refine F.ok sc_law_levels (fun vs H Q E h => ?_) (fun cdv A outer s H vs Q E hr h => ?_)
  · obtain ⟨L, m, rfl, _⟩ := h
    rfl
  obtain ⟨L, m, rfl, hL3, hL, hm, k⟩ := h
  refine ⟨_, (pss_cons (ps_set (i := 2) sc_law_levels.nd rfl (Or.inl rfl) (pe_lst (pa_cons (pe_lst (pa_cons pe_str pa_nil)) pa_nil)))
  (pss_cons (ps_for PassesOwn.never rfl (pi_range2 rfl M.range (pa_cons pe_int (pa_cons (pe_op op_add (pv 1) pe_int) pa_nil))) (pg_name (i := 3) sc_law_levels.nd rfl (Or.inl rfl))
    ((pss_cons (ps_set (i := 4) sc_law_levels.nd rfl (Or.inl rfl) (pe_lst pa_nil))
     (pss_cons (ps_for PassesOwn.never rfl (pi_str (pv 0)) (pg_name (i := 5) sc_law_levels.nd rfl (Or.inr rfl))
       ((pss_one (ps_for PassesOwn.never rfl (pi_range1 rfl M.range (pa_cons (pv 3) pa_nil)) (pg_name (i := 6) sc_law_levels.nd rfl (Or.inl rfl))
          ((pss_one (ps_for PassesOwn.never rfl (kPiL K (pe_ix (kIxL K) (pv 2) (pv 6) (fun _ _ => rfl))) (pg_name (i := 7) sc_law_levels.nd rfl (Or.inr rfl))
             ((pss_one (ps_set (i := 4) sc_law_levels.nd rfl (Or.inl rfl) (pe_op op_cat (pv 4) (pe_lc (own := [("right", 8)]) (g := gName 8) (tt := tYes) rfl sc_law_levels.nd (kPiL K (pe_ix (kIxL K) (pv 2) (pe_op op_sub (pe_op op_sub (pv 3) pe_int) (pv 6)) (fun _ _ => rfl))) (blkOk_by (own := [("right", 8)]) (N := ["letters", "most", "found", "size", "row", "letter", "many", "left", "right"]) (sc := defScope s_law_levels) (by decide +kernel)) (fun _ _ _ _ _ => pg_name (i := 8) sc_law_levels.nd rfl (Or.inl rfl)) (fun _ _ _ _ _ => pts_nil) (fun _ _ _ _ _ => pe_op op_add_str (pe_op op_add_str (pv 5) (pv 7)) (pv 8))))))))))))))
     (pss_one (ps_expr (kBM K PySem.F.plainAttrs_list PySem.F.slot_list_append PySem.F.type_list_append mt_append (pv 2) (pa_cons (pv 4) pa_nil))))))))
  (pss_one (ps_ret (pv 2))))), ?_⟩
  refine ⟨(by show 1 ≤ sizeLine; decide), fun p0 hp0 => ⟨(by show 1 ≤ sizeLine; decide), fun pf hpf => ?_⟩⟩
  have n0 : p0 ≠ pf := ne_of_none upd_same hpf
  have hpf0 : H pf = none := (Same.new hp0 _).free hpf
  refine ⟨_, rfl, _, _, rfl, rfl, _, _, rfl, ⟨by omega, by omega, by omega, by omega⟩, for_range (fun i σ H' => i ≤ m ∧ ∃ refs v3 v4 v5 v6 v7, σ = [some (.str (S L)), some (.int m), some (.ref pf), v3, v4, v5, v6, v7, none] ∧ Same H H' ∧ H' pf = some (.lst refs) ∧ LvAt H' pf (i + 1) refs) ?_ ?_ ?_⟩
  · refine ⟨Nat.zero_le _, [.ref p0], none, none, none, none, none, rfl, (Same.new hp0 _).mut hpf0, upd_same, rfl, fun j hj => ?_⟩
    obtain rfl : j = 0 := by omega
    refine ⟨p0, [.e], rfl, n0, by rw [upd_ne n0, upd_same, dot]; rfl, ?_, Nat.le_refl _⟩
    intro t ht
    rw [List.mem_singleton.mp ht]
    exact ⟨trivial, rfl⟩
  · rintro i σ H1 hi ⟨hi1, refs, v3, v4, v5, v6, v7, rfl, hS, hpf1, hLv⟩
    have him : i < m := by omega
    have eo : (1 : Int) + (i : Int) = ((i + 1 : Nat) : Int) := by omega
    rw [eo]
    have hB := bd_le i (by omega)
    have hU := bd_up i (by omega)
    have hb4 : bd i ≤ 54 := Nat.le_trans (bd_le 2 (by omega) i (by omega)) (Nat.le_refl _)
    have hb5 : bd (i + 1) ≤ 26244 := Nat.le_trans (bd_le 3 (by omega) (i + 1) (by omega)) (Nat.le_refl _)
    generalize hb : bd i = b at *
    generalize hs : (i + 1) * (b * b) = s at *
    generalize hq : b * b = q at *
    refine ⟨(by show 0 ≤ sizeLine; decide), fun r0 hr0 => ?_⟩
    have nr0 : r0 ≠ pf := ne_of_none' hpf1 hr0
    have hSL : (S L).cps.size = L.length := by show L.toArray.size = _; simp
    refine ⟨_, rfl, _, rfl, for_it walk_str (fun i1 σ H' => i1 ≤ L.length ∧ ∃ (r : Addr) (row : List Tr) (v5 v6 v7 : Option V), σ = [some (.str (S L)), some (.int m), some (.ref pf), some (.int (i + 1 : Nat)), some (.ref r), v5, v6, v7, none] ∧ Same H1 H' ∧ H' r = some (.lst (codes row)) ∧ r ≠ pf ∧ LvG (i + 1) row ∧ row.length ≤ i1 * s) ?_ (fun _ _ _ _ _ => trivial) ?_ ?_⟩
    · exact ⟨Nat.zero_le _, r0, [], v5, v6, v7, rfl, Same.new hr0 _, upd_same, nr0, (fun t ht => nomatch ht), Nat.zero_le _⟩
    · rintro i1 x σ H2 H2' hi2 ⟨hi3, r, row, v5, v6, v7, rfl, hS2, hr, nr, hG, hrl⟩ ⟨rfl, c, hc, rfl⟩
      have hi1s : i1 * s ≤ 2 * s := Nat.mul_le_mul_right _ (by omega)
      have hc2 : S [c] = (⟨#[c]⟩ : Str) := rfl
      have hc46 : c ≠ 46 := by
        have e : (S L).cps[i1]? = L[i1]? := by show (L.toArray)[i1]? = _; simp
        rw [e] at hc
        exact hL c (List.mem_of_getElem? hc)
      refine ⟨_, rfl, _, rfl, by omega, by omega, for_range (fun i2 σ H' => i2 ≤ i + 1 ∧ ∃ (r : Addr) (row : List Tr) (v6 v7 : Option V), σ = [some (.str (S L)), some (.int m), some (.ref pf), some (.int (i + 1 : Nat)), some (.ref r), some (.str (S [c])), v6, v7, none] ∧ Same H1 H' ∧ H' r = some (.lst (codes row)) ∧ r ≠ pf ∧ LvG (i + 1) row ∧ row.length ≤ i1 * s + i2 * q) ?_ ?_ ?_⟩
      · exact ⟨Nat.zero_le _, r, row, v6, v7, rfl, hS2, hr, nr, hG, by omega⟩
      · rintro i2 σ H3 hi4 ⟨hi5, r, row, v6, v7, rfl, hS3, hr3, nr3, hG3, hrl3⟩
        have e2 : (0 : Int) + (i2 : Int) = (i2 : Int) := Int.zero_add _
        rw [e2]
        have hi6 : i2 < i + 1 := by omega
        obtain ⟨al, rowl, g1, g2, g3, g4, g5⟩ := hLv.2 i2 (by omega)
        obtain ⟨ar, rowr, d1, d2, d3, d4, d5⟩ := hLv.2 (i - i2) (by omega)
        have b1 := hB i2 (by omega)
        have b2 := hB (i - i2) (by omega)
        have hi2s : (i2 + 1) * q ≤ s := by rw [← hs]; exact Nat.mul_le_mul_right _ (by omega)
        rw [Nat.succ_mul] at hi2s
        refine ⟨_, rfl, _, rfl, pf, refs, _, _, rfl, rfl, SqL.of (hS3 _ _ hpf1), atI_nat g1, al, rfl, ⟨_, SqL.of (hS3 _ _ g3)⟩, for_it (walk_list (xs := codes rowl)) (fun i3 σ H' => i3 ≤ rowl.length ∧ ∃ (r : Addr) (row : List Tr) (v7 : Option V), σ = [some (.str (S L)), some (.int m), some (.ref pf), some (.int (i + 1 : Nat)), some (.ref r), some (.str (S [c])), some (.int i2), v7, none] ∧ Same H1 H' ∧ H' r = some (.lst (codes row)) ∧ r ≠ pf ∧ LvG (i + 1) row ∧ row.length ≤ i1 * s + i2 * q + i3 * b) ?_ (fun i3 σ H' _ h => ?_) ?_ ?_⟩
        · exact ⟨Nat.zero_le _, r, row, v7, rfl, hS3, hr3, nr3, hG3, by omega⟩
        · obtain ⟨_, _, _, _, _, hS', _⟩ := h
          exact SqL.of (hS' _ _ g3)
        · rintro i3 x σ H4 H4' hi7 ⟨hi8, r, row, v7, rfl, hS4, hr4, nr4, hG4, hrl4⟩ ⟨rfl, hx⟩
          have hi9 : i3 < rowl.length := by rw [codes_len] at hi7; exact hi7
          have hi3b : (i3 + 1) * b ≤ q := by rw [← hq]; exact Nat.mul_le_mul_right _ (by omega)
          rw [Nat.succ_mul] at hi3b
          have ex : x = .str (S rowl[i3].code) := by
            unfold codes at hx
            rw [List.getElem?_map, List.getElem?_eq_getElem hi9] at hx
            exact (Option.some.inj hx).symm
          subst ex
          obtain ⟨wl1, wl2⟩ := g4 _ (List.getElem_mem hi9)
          generalize rowl[i3] = tl at *
          have htl := tl.code_len
          have ed : ((i + 1 : Nat) : Int) - 1 - (i2 : Int) = ((i - i2 : Nat) : Int) := by omega
          refine ⟨_, rfl, ?_⟩
          refine ⟨_, rfl, _, rfl, _, _, rfl, rfl, _, rfl, _, _, rfl, rfl, pf, refs, _, _, rfl, rfl, SqL.of (hS4 _ _ hpf1), by rw [ed]; exact atI_nat d1, ar, rfl, ⟨_, SqL.of (hS4 _ _ d3)⟩, fun D hD => lc_it (walk_list (xs := codes rowr)) (fun i4 H' => i4 ≤ rowr.length ∧ Same H4' H' ∧ H' D = some (.lst (codes ((rowr.take i4).map fun tr => .n c tl tr)))) ?_ (fun i4 H' _ h => SqL.of (h.2.1 _ _ (hS4 _ _ d3))) ?_ ?_⟩
          · exact ⟨Nat.zero_le _, Same.new hD _, upd_same⟩
          · rintro i4 x H5 H5' hi10 ⟨hi11, hS5, hD5⟩ ⟨rfl, hx⟩
            have hi12 : i4 < rowr.length := by rw [codes_len] at hi10; exact hi10
            have ex : x = .str (S rowr[i4].code) := by
              unfold codes at hx
              rw [List.getElem?_map, List.getElem?_eq_getElem hi12] at hx
              exact (Option.some.inj hx).symm
            subst ex
            obtain ⟨wr1, wr2⟩ := d4 _ (List.getElem_mem hi12)
            have htk := take_snoc (List.getElem?_eq_getElem hi12)
            generalize rowr[i4] = tr at *
            have htr := tr.code_len
            refine ⟨rfl, yesTT ?_⟩
            refine ⟨_, rfl, _, rfl, _, _, rfl, rfl, by rw [S_len, S_len]; exact sz (by simp; omega), ?_⟩
            rw [S_app]
            refine ⟨_, rfl, _, _, rfl, rfl, by rw [S_len, S_len]; exact sz (by simp; omega), ?_⟩
            rw [S_app]
            refine ⟨_, hD5, sz' (by rw [codes_len, List.length_map, List.length_take]; omega), by omega, hS5.mut hD, ?_⟩
            rw [upd_same, htk, List.map_append, ← codes_app]
            simp [codes, Tr.code]
          · rintro H5 ⟨_, hS5, hD5⟩
            rw [codes_len, List.take_length] at hD5
            refine ⟨r, D, codes row, codes (rowr.map fun tr => .n c tl tr), rfl, rfl, hS5 _ _ hr4, hD5, by rw [codes_len, codes_len, List.length_map]; exact sz (by omega), fun p hp => ?_⟩
            refine ⟨by omega, p, row ++ rowr.map fun tr => .n c tl tr, _, rfl, ?_, ?_, ?_, ?_, ?_⟩
            · exact (hS4.trans hS5).trans (Same.new hp _)
            · rw [upd_same, codes_app]
            · exact ne_of_none' (hS5 _ _ (hS4 _ _ hpf1)) hp
            · intro t ht
              rcases List.mem_append.mp ht with ht | ht
              · exact hG4 t ht
              · obtain ⟨tr, htr, rfl⟩ := List.mem_map.mp ht
                obtain ⟨wr1, wr2⟩ := d4 _ htr
                exact ⟨⟨hc46, wl1, wr1⟩, by simp only [Tr.size]; omega⟩
            · rw [List.length_append, List.length_map, Nat.succ_mul]
              omega
        · rintro σ H4 ⟨_, r, row, v7, rfl, hS4, hr4, nr4, hG4, hrl4⟩
          rw [codes_len] at hrl4
          have : rowl.length * b ≤ q := by rw [← hq]; exact Nat.mul_le_mul_right _ (by omega)
          refine ⟨by omega, r, row, _, _, rfl, hS4, hr4, nr4, hG4, ?_⟩
          rw [Nat.succ_mul]
          omega
      · rintro σ H3 ⟨_, r, row, v6, v7, rfl, hS3, hr3, nr3, hG3, hrl3⟩
        have e : ((i + 1 : Nat) : Int).toNat = i + 1 := by omega
        rw [e] at hrl3
        refine ⟨by omega, r, row, _, _, _, rfl, hS3, hr3, nr3, hG3, ?_⟩
        rw [Nat.succ_mul]
        omega
    · rintro σ H2 ⟨hl2, r, row, v5, v6, v7, rfl, hS2, hr, nr, hG, hrl⟩
      have hz : (S L).cps.size * s ≤ 3 * s := Nat.mul_le_mul_right _ (by omega)
      have hn := hLv.1
      refine ⟨_, rfl, .inl ⟨rfl, _, SqL.of (hS2 _ _ hpf1)⟩, _, rfl, pf, refs, _, rfl, rfl, hS2 _ _ hpf1, sz' (by omega), ?_⟩
      refine ⟨by omega, refs ++ [.ref r], _, _, _, _, _, rfl, ?_, upd_same, ?_, ?_⟩
      · exact (hS.trans hS2).mut hpf0
      · rw [List.length_append, hn]; rfl
      · intro j hj
        by_cases hji : j < i + 1
        · obtain ⟨a, row', h1, h2, h3, h4, h5⟩ := hLv.2 j hji
          refine ⟨a, row', by rw [List.getElem?_append_left (by omega)]; exact h1, h2, by rw [upd_ne h2]; exact hS2 _ _ h3, h4, h5⟩
        · obtain rfl : j = i + 1 := by omega
          refine ⟨r, row, by rw [List.getElem?_append_right (by omega), hn, Nat.sub_self]; rfl, nr, by rw [upd_ne nr]; exact hr, hG, by omega⟩
  · rintro σ H1 ⟨him, refs, v3, v4, v5, v6, v7, rfl, hS, hpf1, hLv⟩
    have e : ((m : Int) + 1 - 1).toNat = m := by omega
    rw [e] at hLv
    exact ⟨_, rfl, k pf H1 refs hS hpf1 hLv⟩
def TrG (m : Nat) (row : List Tr) : Prop := ∀ t ∈ row, t.all (· ≠ 46) ∧ t.size < m
def spTrees : Sp := fun vs H Q _ => ∃ (L : List Nat) (m : Nat), vs = [.str (S L), .int m] ∧ L.length ≤ 3 ∧ (∀ c ∈ L, c ≠ 46) ∧ m ≤ 3 ∧ ∀ p H' row, Same H H' → H' p = some (.lst (codes row)) → TrG (m + 1) row → row.length ≤ 100000 → Q (.ref p) H'
theorem ok_law_trees {f g : Addr} {fd gd : FuncData} (F : Fun K "_law_trees" "_law_trees" s_law_trees f fd) (M : Bi mg) (H_law_levels : FnH K mg "_law_levels" s_law_levels ["letters", "most"] g gd) (G_law_levels : FnOk P w K mg base CX0 1 g gd ["letters", "most"] spLevels) : FnOk P w K mg base CX0 2 f fd ["letters", "most"] spTrees := by
  refine F.ok sc_law_trees (fun vs H Q E h => ?_) (fun cdv A outer s H vs Q E hr h => ?_)
  · obtain ⟨L, m, rfl, _⟩ := h
    rfl
  obtain ⟨L, m, rfl, hL3, hL, hm, k⟩ := h
  refine ⟨_, (pss_cons (ps_set (i := 2) sc_law_trees.nd rfl (Or.inl rfl) (pe_lst pa_nil))
  (pss_cons (ps_for PassesOwn.never rfl (kPiL K (pe_fn H_law_levels G_law_levels hr (pa_cons (pv 0) (pa_cons (pv 1) pa_nil)))) (pg_name (i := 3) sc_law_trees.nd rfl (Or.inl rfl))
    ((pss_one (ps_set (i := 2) sc_law_trees.nd rfl (Or.inl rfl) (pe_op op_cat (pv 2) (pv 3))))))
  (pss_one (ps_ret (pv 2))))), ?_⟩
  refine ⟨(by show 0 ≤ sizeLine; decide), fun pf hpf => ?_⟩
  refine ⟨_, rfl, _, rfl, L, m, rfl, hL3, hL, hm, fun p H1 refs hS hp hLv => ?_⟩
  have hn := hLv.1
  refine ⟨p, rfl, ⟨_, SqL.of hp⟩, for_it (walk_list (xs := refs)) (fun i σ H' => i ≤ m + 1 ∧ ∃ (r : Addr) (row : List Tr) (v3 : Option V), σ = [some (.str (S L)), some (.int m), some (.ref r), v3] ∧ (Same H1 H' ∧ H' r = some (.lst (codes row)) ∧ TrG (m + 1) row ∧ (i ≤ 3 → row.length ≤ i * 54) ∧ row.length ≤ 30000)) ?_ (fun i σ H' _ h => ?_) ?_ ?_⟩
  · exact ⟨Nat.zero_le _, pf, [], none, rfl, Same.refl _, hS _ _ upd_same, (fun t ht => nomatch ht), fun _ => Nat.zero_le _, Nat.zero_le _⟩
  · obtain ⟨_, _, _, _, _, hS', _⟩ := h
    exact SqL.of (hS' _ _ hp)
  · rintro i x σ H2 H2' hi ⟨hi1, r, row, v3, rfl, hS2, hr, hG, hl, hl2⟩ ⟨rfl, hx⟩
    obtain ⟨a, rw1, h1, h2, h3, h4, h5⟩ := hLv.2 i (by omega)
    rw [h1] at hx
    cases hx
    have h6 := bd_le 3 (by omega) i (by omega)
    have h7 : bd 3 = 26244 := rfl
    have h8 : i ≤ 2 → bd i ≤ 54 := bd_le 2 (by omega) i
    have hl3 := hl (by omega)
    refine ⟨_, rfl, _, rfl, r, a, codes row, codes rw1, rfl, rfl, hr, hS2 _ _ h3, by rw [codes_len, codes_len]; exact sz (by omega), fun p' hp' => ?_⟩
    refine ⟨by omega, p', row ++ rw1, _, rfl, hS2.trans (Same.new hp' _), by rw [upd_same, codes_app], ?_, fun _ => by (have := h8 (by omega)); rw [List.length_append]; omega, by rw [List.length_append]; omega⟩
    intro t ht
    rcases List.mem_append.mp ht with ht | ht
    · exact hG t ht
    · exact ⟨(h4 t ht).1, by have := (h4 t ht).2; omega⟩
  · rintro σ H2 ⟨_, r, row, v3, rfl, hS2, hr, hG, hl, hl2⟩
    exact ⟨_, rfl, k r H2 row (((Same.new hpf _).trans hS).trans hS2) hr hG (by omega)⟩
end
end Tb

set_option Elab.async false
set_option linter.all false
set_option maxRecDepth 100000
set_option maxHeartbeats 4000000
namespace Tb
open PySem PySem.Spec PyProof.Rows L2
/-! ### drawn forests -/
def Tr.snoc : Tr → Nat → Tr → Tr
  | .e, c, i => .n c i .e
  | .n c' l r, c, i => .n c' l (r.snoc c i)
theorem Tr.snoc_size : ∀ (f : Tr) (c : Nat) (i : Tr), (f.snoc c i).size = f.size + i.size + 1
  | .e, c, i => by simp only [Tr.snoc, Tr.size]; omega
  | .n c' l r, c, i => by simp only [Tr.snoc, Tr.size, r.snoc_size c i]; omega
theorem Tr.snoc_all {q : Nat → Prop} {c : Nat} {i : Tr} (hc : q c) (hi : i.all q) : ∀ {f : Tr}, f.all q → (f.snoc c i).all q
  | .e, _ => ⟨hc, hi, trivial⟩
  | .n c' l r, h => ⟨h.1, h.2.1, Tr.snoc_all hc hi h.2.2⟩
/-- how often a row is nested in a thing -/
def Tr.pc : Tr → Nat
  | .e => 0
  | .n c i r => (if i = .e then 0 else i.pc + 1) + r.pc
theorem Tr.snoc_pc : ∀ (f : Tr) (c : Nat) (i : Tr), (f.snoc c i).pc = f.pc + (if i = .e then 0 else i.pc + 1)
  | .e, c, i => by simp only [Tr.snoc, Tr.pc]; omega
  | .n c' l r, c, i => by simp only [Tr.snoc, Tr.pc, r.snoc_pc c i]; omega
def psz : Nat → Nat
  | 0 => 0
  | d + 1 => 3 * psz d + 3
theorem psz_le : ∀ d, d ≤ 3 → psz d ≤ 39 := by decide
theorem Its.end {G : Hp} {c : Nat} {i : Tr} {t l : Addr} {xs : List V} (ht : G t = some (.tup [.str (S [c]), .ref l])) (hl : G l = some (.lst xs)) (hx : Its G xs i) : ∀ {f : Tr} {vs : List V}, Its G vs f → Its G (vs ++ [.ref t]) (f.snoc c i)
  | .e, vs, h => by
    rw [show vs = [] from h]
    exact ⟨t, l, xs, [], rfl, ht, hl, hx, rfl⟩
  | .n c' l' r, vs, ⟨t1, l1, ys, vs', h1, h2, h3, h4, h5⟩ => by
    subst h1
    exact ⟨t1, l1, ys, vs' ++ [.ref t], rfl, h2, h3, h4, Its.end ht hl hx h5⟩
/-- only p's list of ints may change; new things may come -/
def Kp (p : Addr) (H H' : Hp) : Prop := (∃ o, H p = some o) ∧ (∃ ns : List Int, H' p = some (.lst (ns.map V.int))) ∧ ∀ b o, b ≠ p → H b = some o → H' b = some o
theorem Kp.of {p : Addr} {H H' : Hp} {ns : List Int} (h : H p = some (.lst (ns.map V.int))) (k : Pk p H H') : Kp p H H' := ⟨⟨_, h⟩, k.2, fun b o hb q => by rw [k.1 b hb]; exact q⟩
theorem Kp.refl {p : Addr} {H : Hp} {ns : List Int} (h : H p = some (.lst (ns.map V.int))) : Kp p H H := ⟨⟨_, h⟩, ⟨ns, h⟩, fun _ _ _ q => q⟩
theorem Kp.trans {p : Addr} {H H' H2 : Hp} (a : Kp p H H') (b : Kp p H' H2) : Kp p H H2 := ⟨a.1, b.2.1, fun x o hx q => b.2.2 x o hx (a.2.2 x o hx q)⟩
theorem Kp.then {p : Addr} {H H' H2 : Hp} (a : Kp p H H') (b : Same H' H2) : Kp p H H2 := by
  obtain ⟨x, ⟨ns, hn⟩, z⟩ := a
  exact ⟨x, ⟨ns, b _ _ hn⟩, fun y o hy q => b _ _ (z y o hy q)⟩
theorem Kp.free {p b : Addr} {H H' : Hp} (a : Kp p H H') (h : H' b = none) : H b = none := by
  cases z : H b with
  | none => rfl
  | some o =>
    obtain ⟨_, ⟨ns, hn⟩, y⟩ := a
    by_cases e : b = p
    · subst e; rw [hn] at h; cases h
    · rw [y b o e z] at h; cases h
theorem Kp.mut {p b : Addr} {H H' : Hp} {o : HO} (a : Kp p H H') (h : H b = none) : Kp p H (L2.upd H' b o) := by
  obtain ⟨⟨u, hu⟩, ⟨ns, hn⟩, y⟩ := a
  have e : p ≠ b := ne_of_none hu h
  refine ⟨⟨u, hu⟩, ⟨ns, by rw [upd_ne e]; exact hn⟩, fun x v hx q => ?_⟩
  rw [upd_ne (ne_of_none q h)]
  exact y x v hx q
theorem Own.keep {p : Addr} {H G H1 H2 : Hp} (o : Own H G H1) (k : Kp p H H1) (k2 : Kp p H1 H2) : Own H G H2 := fun b u h => by
  obtain ⟨z1, z2⟩ := o b u h
  refine ⟨z1, k2.2.2 b u (fun e => ?_) z2⟩
  obtain ⟨⟨u, hu⟩, _⟩ := k
  rw [e, hu] at z1
  cases z1
theorem Own.addK {p : Addr} {H G H1 G2 H2 : Hp} (o : Own H G H1) (k : Kp p H H1) (o2 : Own H1 G2 H2) (k2 : Kp p H1 H2) : Own H (Hp.or G G2) H2 := fun b u h => by
  unfold Hp.or at h
  cases z : G b with
  | some v =>
    rw [z] at h
    cases h
    exact o.keep k k2 b _ z
  | none =>
    rw [z] at h
    exact ⟨k.free (o2 b u h).1, (o2 b u h).2⟩
def fsz : Nat → Nat
  | 0 => 3
  | d + 1 => 3 * fsz d + 3
theorem fsz_le : ∀ d, d ≤ 3 → fsz d ≤ 120 := by decide
section
variable {P : Program} {w : World} {K : PySem.W.Frag} {mg : Str → Option Value} {base : Heap}
def spFo (D : Nat) : Sp := fun vs H Q _ => ∃ (p : Addr) (L : List Nat) (d : Nat) (ns : List Int), vs = [.ref p, .str (S L), .int d] ∧ H p = some (.lst (ns.map V.int)) ∧ L ≠ [] ∧ L.length ≤ 1000 ∧ d < D ∧ d ≤ 3 ∧
  ∀ a f H' G, Kp p H H' → Own H G H' → FoAt G a f → f.all (· ∈ L) → f.size ≤ fsz d → f.pc ≤ psz d → Q (.ref a) H'
theorem ok_law_forest {D : Nat} {f pl ol : Addr} {fd pld old : FuncData} (F : Fun K "_law_forest" "_law_forest" s_law_forest f fd) (M : Bi mg) (H_law_forest : FnH K mg "_law_forest" s_law_forest ["picks", "letters", "depth"] f fd) (G_law_forest : FnOk P w K mg base CX0 (D + 2) f fd ["picks", "letters", "depth"] (spFo D))
    (H_law_pick : FnH K mg "_law_pick" s_law_pick ["picks", "many"] pl pld) (G_law_pick : FnOk P w K mg base CX0 1 pl pld ["picks", "many"] spPick) (H_law_one : FnH K mg "_law_one" s_law_one ["picks", "items"] ol old) (G_law_one : FnOk P w K mg base CX0 2 ol old ["picks", "items"] (spOne K)) :
    FnOk P w K mg base CX0 (D + 3) f fd ["picks", "letters", "depth"] (spFo (D + 1)) := by
  have G_law_pick := G_law_pick.mono (show 1 ≤ D + 2 by omega)
  have G_law_one := G_law_one.mono (show 2 ≤ D + 2 by omega)
  refine F.ok sc_law_forest (fun vs H Q E h => ?_) (fun cdv A outer s H vs Q E hr h => ?_)
  · obtain ⟨p, L, d, ns, rfl, _⟩ := h
    rfl
  obtain ⟨p, L, d, ns, rfl, hp, hL0, hL1, hd, hd3, k⟩ := h
  refine ⟨_, (pss_cons (ps_set (i := 3) sc_law_forest.nd rfl (Or.inl rfl) (pe_lst pa_nil))
  (pss_cons (ps_for PassesOwn.never rfl (pi_range1 rfl M.range (pa_cons (pe_fn H_law_pick G_law_pick hr (pa_cons (pv 0) (pa_cons pe_int pa_nil))) pa_nil)) (pg_name (i := 4) sc_law_forest.nd rfl (Or.inl rfl))
    ((pss_one (ps_expr (kBM K PySem.F.plainAttrs_list PySem.F.slot_list_append PySem.F.type_list_append mt_append (pv 3) (pa_cons (pe_tup (pa_cons (pe_fn H_law_one G_law_one hr (pa_cons (pv 0) (pa_cons (pv 1) pa_nil))) (pa_cons (pe_ifExp (pt_cmpR op_gt (pv 2) pe_int (nomark _)) (pe_fn H_law_forest G_law_forest hr (pa_cons (pv 0) (pa_cons (pv 1) (pa_cons (pe_op op_sub (pv 2) pe_int) pa_nil)))) (pe_lst pa_nil)) pa_nil))) pa_nil))))))
  (pss_one (ps_ret (pv 3))))), ?_⟩
  refine ⟨(by show 0 ≤ sizeLine; decide), fun pf hpf => ?_⟩
  have npf : p ≠ pf := ne_of_none hp hpf
  refine ⟨_, rfl, p, 4, ns, rfl, by rw [upd_ne npf]; exact hp, by decide, fun v H1 hv0 hv1 hP => ?_⟩
  have k1 : Kp p H H1 := ((Kp.refl hp).mut hpf).trans (Kp.of (by rw [upd_ne npf]; exact hp) hP)
  have hf1 : H1 pf = some (.lst []) := by rw [hP.1 pf npf.symm, upd_same]
  obtain ⟨u, hu1, hu0, hu2⟩ : ∃ u, fsz d = 3 * u ∧ 1 ≤ u ∧ ∀ d', d = d' + 1 → fsz d' + 1 ≤ u := by
    cases d with
    | zero => exact ⟨1, rfl, Nat.le_refl _, fun d' h => by omega⟩
    | succ d => exact ⟨fsz d + 1, by simp only [fsz]; omega, by omega, fun d' h => by cases h; omega⟩
  obtain ⟨pu, hp1, hp2⟩ : ∃ pu, psz d = 3 * pu ∧ ∀ d', d = d' + 1 → psz d' + 1 ≤ pu := by
    cases d with
    | zero => exact ⟨0, rfl, fun d' h => by omega⟩
    | succ d => exact ⟨psz d + 1, by simp only [psz]; omega, fun d' h => by cases h; omega⟩
  have hfz := fsz_le d hd3
  refine ⟨v, rfl, by omega, by omega, for_range (fun i σ H' => i ≤ 3 ∧ ∃ (v4 : Option V) (vs : List V) (g : Tr) (G : Hp), σ = [some (.ref p), some (.str (S L)), some (.int d), some (.ref pf), v4] ∧ Kp p H H' ∧ H' pf = some (.lst vs) ∧ vs.length = i ∧ G pf = none ∧ Own H G H' ∧ Its G vs g ∧ g.all (· ∈ L) ∧ g.size ≤ i * u ∧ g.pc ≤ i * pu) ?_ ?_ ?_⟩
  · exact ⟨Nat.zero_le _, none, [], .e, none_hp, rfl, k1, hf1, rfl, rfl, Own.non _ _, rfl, trivial, Nat.zero_le _, Nat.zero_le _⟩
  · rintro i σ H2 hi ⟨hi1, v4, vs, g, G, rfl, k2, hf2, hvl, hGf, ho, hI, hA, hs, hps⟩
    obtain ⟨ns2, hp2⟩ := k2.2.1
    refine ⟨_, rfl, .inl ⟨rfl, _, SqL.of hf2⟩, ?_⟩
    refine ⟨_, rfl, _, rfl, p, ns2, .str (S L), _, rfl, hp2, (by intro z; cases z), .inr ⟨L, rfl, hL1, rfl⟩, ?_, fun u H3 hu hP3 => ?_⟩
    · intro z; exact hL0 (List.map_eq_nil_iff.mp z)
    obtain ⟨c, hcL, rfl⟩ := List.mem_map.mp hu
    have k23 : Kp p H2 H3 := Kp.of hp2 hP3
    have k3 := k2.trans k23
    obtain ⟨ns3, hp3⟩ := k3.2.1
    have hf3 : H3 pf = some (.lst vs) := k23.2.2 _ _ npf.symm hf2
    have ho3 : Own H G H3 := ho.keep k2 k23
    have hLc : 1 ≤ L.length := by cases L with | nil => exact absurd rfl hL0 | cons _ _ => simp
    have fin : ∀ (a : Addr) (fi : Tr) (H4 G4 : Hp) (t : Addr), Kp p H3 H4 → Own H3 G4 H4 → FoAt G4 a fi → fi.all (· ∈ L) → fi.size + 1 ≤ u → (if fi = .e then 0 else fi.pc + 1) ≤ pu → H4 t = none →
        i + 1 ≤ 3 ∧ ∃ (v4 : Option V) (vs' : List V) (g : Tr) (G : Hp), [some (.ref p), some (.str (S L)), some (.int d), some (.ref pf), some (V.int (0 + (i : Int)))] = [some (.ref p), some (.str (S L)), some (.int d), some (.ref pf), v4] ∧ Kp p H (upd (upd H4 t (.tup [.str (S [c]), .ref a])) pf (.lst (vs ++ [.ref t]))) ∧
          upd (upd H4 t (.tup [.str (S [c]), .ref a])) pf (.lst (vs ++ [.ref t])) pf = some (.lst vs') ∧ vs'.length = i + 1 ∧ G pf = none ∧ Own H G (upd (upd H4 t (.tup [.str (S [c]), .ref a])) pf (.lst (vs ++ [.ref t]))) ∧ Its G vs' g ∧ g.all (· ∈ L) ∧ g.size ≤ (i + 1) * u ∧ g.pc ≤ (i + 1) * pu := fun a fi H4 G4 t k4 o4 ⟨xs, ha, hx⟩ hfa hfs hfp ht => by
      have h0 : ∀ b w, G4 b = some w → G b = none := fun b w h => by
        cases z : G b with
        | none => rfl
        | some v =>
          have := (o4 b w h).1
          rw [(ho3 b v z).2] at this
          cases this
      have k34 := k3.trans k4
      have hf4 : H4 pf = some (.lst vs) := k4.2.2 _ _ npf.symm hf3
      have o5 := ho3.addK k3 o4 k4
      have hGt : Hp.or G G4 t = none := by
        cases z : Hp.or G G4 t with
        | none => rfl
        | some w => rw [(o5 t w z).2] at ht; cases ht
      have hpn : H t = none := k34.free ht
      have nft : pf ≠ t := ne_of_none hf4 ht
      have hG4f : G4 pf = none := o4.out hf3
      have o6 : Own H (L2.upd (Hp.or G G4) t (.tup [.str (S [c]), .ref a])) (L2.upd H4 t (.tup [.str (S [c]), .ref a])) := (o5.upd hGt).put hpn upd_same
      have hGf6 : (L2.upd (Hp.or G G4) t (.tup [.str (S [c]), .ref a])) pf = none := by
        rw [upd_ne nft]
        exact Hp.or_none hGf hG4f
      have sG : Same G (L2.upd (Hp.or G G4) t (.tup [.str (S [c]), .ref a])) := fun b w h => by
        have hb : b ≠ t := ne_of_none (Hp.or_l G G4 b w h) hGt
        rw [upd_ne hb]
        exact Hp.or_l G G4 b w h
      have sG4 : Same G4 (L2.upd (Hp.or G G4) t (.tup [.str (S [c]), .ref a])) := fun b w h => by
        have hb : b ≠ t := ne_of_none (Hp.or_r h0 b w h) hGt
        rw [upd_ne hb]
        exact Hp.or_r h0 b w h
      refine ⟨by omega, _, vs ++ [.ref t], g.snoc c fi, _, rfl, (k34.mut hpn).mut hpf, upd_same, by simp [hvl], hGf6, o6.upd hGf6, ?_, Tr.snoc_all hcL hfa hA, ?_, ?_⟩
      · exact Its.end upd_same (sG4 _ _ ha) (hx.mono sG4) (hI.mono sG)
      · rw [Tr.snoc_size, Nat.succ_mul]
        omega
      · rw [Tr.snoc_pc, Nat.succ_mul]
        omega
    refine ⟨_, rfl, _, _, rfl, rfl, _, rfl, ?_⟩
    by_cases hd0 : d = 0
    · subst hd0
      rw [decide_eq_false (by decide)]
      refine iteF ⟨(by show 0 ≤ sizeLine; decide), fun a ha => ?_⟩
      refine ⟨(by show 2 ≤ sizeLine; decide), fun t ht => ?_⟩
      have hk : Kp p H3 (upd H3 a (.lst [])) := (Kp.refl hp3).mut ha
      refine ⟨pf, vs, _, rfl, rfl, ?_, sz' (by omega), fin a .e _ (upd none_hp a (.lst [])) t hk ((Own.non _ _).put ha upd_same) ⟨[], upd_same, rfl⟩ trivial (by show 0 + 1 ≤ u; omega) (by rw [if_pos rfl]; omega) ht⟩
      rw [upd_ne (ne_of_none (hk.2.2 _ _ npf.symm hf3) ht), upd_ne (ne_of_none hf3 ha)]
      exact hf3
    · obtain ⟨d', rfl⟩ : ∃ d', d = d' + 1 := ⟨d - 1, by omega⟩
      rw [decide_eq_true (by omega)]
      refine iteT ?_
      have ed : ((d' + 1 : Nat) : Int) - 1 = (d' : Int) := by omega
      refine ⟨_, rfl, _, rfl, _, rfl, _, _, rfl, rfl, p, L, d', ns3, by show [V.ref p, V.str (S L), V.int (((d' + 1 : Nat) : Int) - 1)] = _; rw [ed], hp3, hL0, hL1, by omega, by omega, fun a fi H4 G4 k4 o4 h4 a4 s4 p4 => ?_⟩
      refine ⟨(by show 2 ≤ sizeLine; decide), fun t ht => ?_⟩
      refine ⟨pf, vs, _, rfl, rfl, ?_, sz' (by omega), fin a fi H4 G4 t k4 o4 h4 a4 (by have := hu2 d' rfl; omega) (by have := hp2 d' rfl; split <;> omega) ht⟩
      have := k4.2.2 _ _ npf.symm hf3
      rw [upd_ne (ne_of_none this ht)]
      exact this
  · rintro σ H2 ⟨hi1, v4, vs, g, G, rfl, k2, hf2, hvl, hGf, ho, hI, hA, hs, hps⟩
    refine ⟨_, rfl, k pf g H2 (upd G pf (.lst vs)) k2 (ho.put hpf hf2) ⟨vs, upd_same, hI.mono ((Same.refl _).mut hGf)⟩ hA ?_ ?_⟩
    · have : v.toNat * u ≤ 3 * u := Nat.mul_le_mul_right _ hi1
      omega
    · have : v.toNat * pu ≤ 3 * pu := Nat.mul_le_mul_right _ hi1
      omega
theorem forest_all {f pl ol : Addr} {fd pld old : FuncData} (M : Bi mg) (H_law_forest : FnH K mg "_law_forest" s_law_forest ["picks", "letters", "depth"] f fd)
    (H_law_pick : FnH K mg "_law_pick" s_law_pick ["picks", "many"] pl pld) (G_law_pick : FnOk P w K mg base CX0 1 pl pld ["picks", "many"] spPick) (H_law_one : FnH K mg "_law_one" s_law_one ["picks", "items"] ol old) (G_law_one : FnOk P w K mg base CX0 2 ol old ["picks", "items"] (spOne K)) :
    ∀ D, FnOk P w K mg base CX0 (D + 2) f fd ["picks", "letters", "depth"] (spFo D)
  | 0 => none_of_sp fun vs H Q E h => by
    obtain ⟨p, L, d, ns, _, _, _, _, h, _⟩ := h
    omega
  | D + 1 => ok_law_forest H_law_forest.F M H_law_forest (forest_all M H_law_forest H_law_pick G_law_pick H_law_one G_law_one D) H_law_pick G_law_pick H_law_one G_law_one
end
end Tb

set_option Elab.async false
set_option linter.all false
set_option maxRecDepth 100000
set_option maxHeartbeats 4000000
namespace Tb
/-! ### reading a text, as plain data -/
def Tr.last : Tr → Option (Tr × Nat × Tr)
  | .e => none
  | .n c i r => match r.last with
    | none => some (.e, c, i)
    | some (r', b, j) => some (.n c i r', b, j)
theorem Tr.last_snoc (c : Nat) (i : Tr) : ∀ f : Tr, (f.snoc c i).last = some (f, c, i)
  | .e => rfl
  | .n c' l r => by simp only [Tr.snoc, Tr.last, Tr.last_snoc c i r]
theorem Tr.snoc_or : ∀ f : Tr, f = .e ∨ ∃ r c i, f = Tr.snoc r c i
  | .e => .inl rfl
  | .n c i r => by
    rcases r.snoc_or with h | ⟨r', c', i', h⟩
    · exact .inr ⟨.e, c, i, by rw [h]; rfl⟩
    · exact .inr ⟨.n c i r', c', i', by rw [h]; rfl⟩
theorem Tr.snoc_ne (f : Tr) (c : Nat) (i : Tr) : Tr.snoc f c i ≠ .e := by cases f <;> simp [Tr.snoc]
theorem Tr.snoc_text : ∀ (f : Tr) (c : Nat) (i : Tr), (f.snoc c i).text = f.text ++ itemText c i
  | .e, c, i => by simp [Tr.snoc, Tr.text, itemText]
  | .n c' l r, c, i => by simp only [Tr.snoc, Tr.text, r.snoc_text c i, List.cons_append, List.append_assoc]
theorem Tr.all_snoc {q : Nat → Prop} {c : Nat} {i : Tr} : ∀ {f : Tr}, (f.snoc c i).all q → f.all q ∧ q c ∧ i.all q
  | .e, h => ⟨trivial, h.1, h.2.1⟩
  | .n c' l r, h => by
    have ih := Tr.all_snoc (f := r) h.2.2
    exact ⟨⟨h.1, h.2.1, ih.1⟩, ih.2⟩
def Tr.app : Tr → Tr → Tr
  | .e, g => g
  | .n c i r, g => .n c i (r.app g)
theorem Tr.app_e : ∀ f : Tr, f.app .e = f
  | .e => rfl
  | .n c i r => by simp only [Tr.app, Tr.app_e r]
theorem Tr.snoc_app (c : Nat) (i g : Tr) : ∀ f : Tr, (f.snoc c i).app g = f.app (.n c i g)
  | .e => rfl
  | .n c' l r => by simp only [Tr.snoc, Tr.app, Tr.snoc_app c i g r]
abbrev Stt := Tr × List (Tr × Nat)
def step (L : List Nat) (st : Stt) (c : Nat) : Option Stt :=
  if c ∈ L then some (st.1.snoc c .e, st.2)
  else if c = 40 then match st.1.last with
    | some (r, b, .e) => some (.e, (r, b) :: st.2)
    | _ => none
  else if c = 41 then (if st.1 = .e then none else match st.2 with
    | (r, b) :: rest => some (r.snoc b st.1, rest)
    | [] => none)
  else none
def run (L : List Nat) : List Nat → Stt → Option Stt
  | [], st => some st
  | c :: cs, st => match step L st c with
    | none => none
    | some st' => run L cs st'
def wr (L : List Nat) : List Nat → Nat → Stt → Option Nat
  | [], i, st => if st.2 = [] then none else some i
  | c :: cs, i, st => match step L st c with
    | none => some i
    | some st' => wr L cs (i + 1) st'
theorem run_cons {L : List Nat} {c : Nat} {cs : List Nat} {st st' : Stt} (h : step L st c = some st') : run L (c :: cs) st = run L cs st' := by simp only [run, h]
theorem wr_cons {L : List Nat} {c : Nat} {cs : List Nat} {i : Nat} {st st' : Stt} (h : step L st c = some st') : wr L (c :: cs) i st = wr L cs (i + 1) st' := by simp only [wr, h]
theorem wr_stop {L : List Nat} {c : Nat} {cs : List Nat} {i : Nat} {st : Stt} (h : step L st c = none) : wr L (c :: cs) i st = some i := by simp only [wr, h]
def stT : List (Tr × Nat) → List Nat
  | [] => []
  | (r, b) :: rest => stT rest ++ r.text ++ [b, 40]
def sText (st : Stt) : List Nat := stT st.2 ++ st.1.text
def SAll (L : List Nat) (st : Stt) : Prop := st.1.all (· ∈ L) ∧ ∀ p ∈ st.2, p.1.all (· ∈ L) ∧ p.2 ∈ L
theorem step_in {L : List Nat} {st : Stt} {c : Nat} (h : c ∈ L) : step L st c = some (st.1.snoc c .e, st.2) := by unfold step; rw [if_pos h]
theorem step_open {L : List Nat} {r : Tr} {b : Nat} {rest : List (Tr × Nat)} (h : 40 ∉ L) : step L (r.snoc b .e, rest) 40 = some (.e, (r, b) :: rest) := by
  unfold step
  rw [if_neg h, if_pos rfl]
  simp only [Tr.last_snoc]
theorem step_open_e {L : List Nat} {rest : List (Tr × Nat)} (h : 40 ∉ L) : step L (.e, rest) 40 = none := by
  unfold step
  rw [if_neg h, if_pos rfl]
  rfl
theorem step_open_i {L : List Nat} {r i : Tr} {b : Nat} {rest : List (Tr × Nat)} (h : 40 ∉ L) (hi : i ≠ .e) : step L (r.snoc b i, rest) 40 = none := by
  unfold step
  rw [if_neg h, if_pos rfl]
  cases i with
  | e => exact absurd rfl hi
  | n c l r2 => simp only [Tr.last_snoc]
theorem step_close {L : List Nat} {top r : Tr} {b : Nat} {rest : List (Tr × Nat)} (h : 41 ∉ L) (ht : top ≠ .e) : step L (top, (r, b) :: rest) 41 = some (r.snoc b top, rest) := by
  unfold step
  rw [if_neg h, if_neg (by decide), if_pos rfl, if_neg ht]
theorem step_close_e {L : List Nat} {rest : List (Tr × Nat)} (h : 41 ∉ L) : step L (.e, rest) 41 = none := by
  unfold step
  rw [if_neg h, if_neg (by decide), if_pos rfl, if_pos rfl]
theorem step_close_nil {L : List Nat} {top : Tr} (h : 41 ∉ L) : step L (top, []) 41 = none := by
  unfold step
  rw [if_neg h, if_neg (by decide), if_pos rfl]
  split <;> rfl
theorem step_other {L : List Nat} {st : Stt} {c : Nat} (h : c ∉ L) (h1 : c ≠ 40) (h2 : c ≠ 41) : step L st c = none := by
  unfold step
  rw [if_neg h, if_neg h1, if_neg h2]
/-- every step that can be made, by its manner -/
theorem step_some {L : List Nat} {st st' : Stt} {c : Nat} (h : step L st c = some st') :
    (c ∈ L ∧ st' = (st.1.snoc c .e, st.2)) ∨ (c ∉ L ∧ c = 40 ∧ ∃ r b, st.1 = r.snoc b .e ∧ st' = (.e, (r, b) :: st.2)) ∨ (c ∉ L ∧ c = 41 ∧ st.1 ≠ .e ∧ ∃ r b rest, st.2 = (r, b) :: rest ∧ st' = (r.snoc b st.1, rest)) := by
  obtain ⟨top, rest⟩ := st
  by_cases hc : c ∈ L
  · rw [step_in hc] at h
    exact .inl ⟨hc, (Option.some.inj h).symm⟩
  by_cases h1 : c = 40
  · subst h1
    rcases top.snoc_or with rfl | ⟨r, b, i, rfl⟩
    · rw [step_open_e hc] at h; cases h
    · by_cases hi : i = .e
      · subst hi
        rw [step_open hc] at h
        exact .inr (.inl ⟨hc, rfl, r, b, rfl, (Option.some.inj h).symm⟩)
      · rw [step_open_i hc hi] at h; cases h
  by_cases h2 : c = 41
  · subst h2
    by_cases ht : top = .e
    · subst ht; rw [step_close_e hc] at h; cases h
    · cases rest with
      | nil => rw [step_close_nil hc] at h; cases h
      | cons p rest =>
        obtain ⟨r, b⟩ := p
        rw [step_close hc ht] at h
        exact .inr (.inr ⟨hc, rfl, ht, r, b, rest, rfl, (Option.some.inj h).symm⟩)
  · rw [step_other hc h1 h2] at h; cases h
theorem step_text {L : List Nat} {st st' : Stt} {c : Nat} (h : step L st c = some st') : sText st' = sText st ++ [c] := by
  obtain ⟨top, rest⟩ := st
  rcases step_some h with ⟨_, rfl⟩ | ⟨_, rfl, r, b, h1, rfl⟩ | ⟨_, rfl, h0, r, b, rest', h1, rfl⟩
  · simp [sText, Tr.snoc_text, itemText]
  · have h1' : top = r.snoc b .e := h1
    subst h1'
    simp [sText, stT, Tr.snoc_text, itemText, Tr.text]
  · have h1' : rest = (r, b) :: rest' := h1
    subst h1'
    have h0' : top ≠ .e := h0
    simp [sText, stT, Tr.snoc_text, itemText, h0']
theorem step_all {L : List Nat} {st st' : Stt} {c : Nat} (a : SAll L st) (h : step L st c = some st') : SAll L st' := by
  obtain ⟨top, rest⟩ := st
  obtain ⟨a1, a2⟩ := a
  rcases step_some h with ⟨hc, rfl⟩ | ⟨_, rfl, r, b, h1, rfl⟩ | ⟨_, rfl, h0, r, b, rest', h1, rfl⟩
  · exact ⟨Tr.snoc_all (q := fun x => x ∈ L) (i := .e) hc trivial a1, a2⟩
  · have h1' : top = r.snoc b .e := h1
    subst h1'
    have z := Tr.all_snoc a1
    refine ⟨trivial, fun p hp => ?_⟩
    rcases List.mem_cons.mp hp with rfl | hp
    · exact ⟨z.1, z.2.1⟩
    · exact a2 p hp
  · have h1' : rest = (r, b) :: rest' := h1
    subst h1'
    have z := a2 _ List.mem_cons_self
    exact ⟨Tr.snoc_all z.2 a1 z.1, fun p hp => a2 p (List.mem_cons_of_mem _ hp)⟩
/-- what stands last -/
theorem cases_st (st : Stt) : (st.1 = .e ∧ st.2 = [] ∧ sText st = []) ∨ (st.1 = .e ∧ st.2 ≠ [] ∧ ∃ x, sText st = x ++ [40]) ∨ (∃ r b, st.1 = Tr.snoc r b .e ∧ ∃ x, sText st = x ++ [b]) ∨ (∃ r b i, i ≠ .e ∧ st.1 = Tr.snoc r b i ∧ ∃ x, sText st = x ++ [41]) := by
  obtain ⟨top, rest⟩ := st
  rcases top.snoc_or with rfl | ⟨r, b, i, rfl⟩
  · cases rest with
    | nil => exact .inl ⟨rfl, rfl, rfl⟩
    | cons p rest =>
      obtain ⟨r, b⟩ := p
      refine .inr (.inl ⟨rfl, by simp, stT rest ++ r.text ++ [b], by simp [sText, stT, Tr.text]⟩)
  · by_cases hi : i = .e
    · subst hi
      exact .inr (.inr (.inl ⟨r, b, rfl, stT rest ++ r.text, by simp [sText, Tr.snoc_text, itemText]⟩))
    · exact .inr (.inr (.inr ⟨r, b, i, hi, rfl, stT rest ++ r.text ++ b :: 40 :: i.text, by simp [sText, Tr.snoc_text, itemText, hi]⟩))
/-- a written forest is read back -/
theorem run_text {L : List Nat} (h40 : 40 ∉ L) (h41 : 41 ∉ L) : ∀ (f top : Tr) (rest : List (Tr × Nat)) (tl : List Nat), f.all (· ∈ L) → run L (f.text ++ tl) (top, rest) = run L tl (top.app f, rest)
  | .e, top, rest, tl, _ => by simp [Tr.text, Tr.app_e]
  | .n c i r, top, rest, tl, h => by
    have e1 : step L (top, rest) c = some (top.snoc c .e, rest) := step_in h.1
    have hr := fun t => run_text h40 h41 r t rest tl h.2.2
    by_cases hi : i = .e
    · subst hi
      have e : (Tr.n c .e r).text ++ tl = c :: (r.text ++ tl) := by simp [Tr.text]
      rw [e, run_cons e1, hr, Tr.snoc_app]
    · have e : (Tr.n c i r).text ++ tl = c :: 40 :: (i.text ++ (41 :: (r.text ++ tl))) := by simp [Tr.text, hi]
      rw [e, run_cons e1, run_cons (step_open h40), run_text h40 h41 i .e ((top, c) :: rest) _ h.2.1]
      have e2 : (Tr.e.app i) = i := rfl
      rw [e2, run_cons (step_close h41 hi), hr, Tr.snoc_app]
theorem wr_text {L : List Nat} (h40 : 40 ∉ L) (h41 : 41 ∉ L) : ∀ (f top : Tr) (rest : List (Tr × Nat)) (tl : List Nat) (j : Nat), f.all (· ∈ L) → wr L (f.text ++ tl) j (top, rest) = wr L tl (j + f.text.length) (top.app f, rest)
  | .e, top, rest, tl, j, _ => by simp [Tr.text, Tr.app_e]
  | .n c i r, top, rest, tl, j, h => by
    have e1 : step L (top, rest) c = some (top.snoc c .e, rest) := step_in h.1
    have hr := fun t j => wr_text h40 h41 r t rest tl j h.2.2
    by_cases hi : i = .e
    · subst hi
      have e : (Tr.n c .e r).text ++ tl = c :: (r.text ++ tl) := by simp [Tr.text]
      have e3 : (Tr.n c .e r).text.length = r.text.length + 1 := by simp [Tr.text]
      rw [e, wr_cons e1, hr, Tr.snoc_app, e3]
      congr 1
      omega
    · have e : (Tr.n c i r).text ++ tl = c :: 40 :: (i.text ++ (41 :: (r.text ++ tl))) := by simp [Tr.text, hi]
      have e3 : (Tr.n c i r).text.length = i.text.length + r.text.length + 3 := by simp [Tr.text, hi]; omega
      rw [e, wr_cons e1, wr_cons (step_open h40), wr_text h40 h41 i .e ((top, c) :: rest) _ _ h.2.1]
      have e2 : (Tr.e.app i) = i := rfl
      rw [e2, wr_cons (step_close h41 hi), hr, Tr.snoc_app, e3]
      congr 1
      omega
theorem wr_none {L : List Nat} : ∀ (s : List Nat) (i : Nat) (st : Stt), wr L s i st = none → ∃ top, run L s st = some (top, [])
  | [], i, st, h => by
    obtain ⟨top, rest⟩ := st
    unfold wr at h
    split at h
    · rename_i z
      exact ⟨top, by have z' : rest = [] := z; rw [z']; rfl⟩
    · cases h
  | c :: cs, i, st, h => by
    cases e : step L st c with
    | none => rw [wr_stop e] at h; cases h
    | some st' =>
      rw [wr_cons e] at h
      rw [run_cons e]
      exact wr_none cs (i + 1) st' h
theorem run_all {L : List Nat} : ∀ (s : List Nat) (st st' : Stt), SAll L st → run L s st = some st' → SAll L st' ∧ sText st' = sText st ++ s
  | [], st, st', a, h => by
    cases h
    exact ⟨a, by simp⟩
  | c :: cs, st, st', a, h => by
    cases e : step L st c with
    | none => simp only [run, e] at h; cases h
    | some st1 =>
      rw [run_cons e] at h
      obtain ⟨h1, h2⟩ := run_all cs st1 st' (step_all a e) h
      refine ⟨h1, ?_⟩
      rw [h2, step_text e]
      simp
/-- what is read has just the text's letters -/
theorem cnt_text {L : List Nat} (h40 : 40 ∉ L) (h41 : 41 ∉ L) : ∀ f : Tr, f.all (· ∈ L) → f.text.countP (· ∈ L) = f.size
  | .e, _ => rfl
  | .n c i r, h => by
    have h1 := cnt_text h40 h41 i h.2.1
    have h2 := cnt_text h40 h41 r h.2.2
    have hc : c ∈ L := h.1
    by_cases hi : i = .e
    · subst hi
      simp [Tr.text, Tr.size, hc, h2]
    · simp [Tr.text, Tr.size, hc, hi, h40, h41, h1, h2]
theorem wr_lt {L : List Nat} : ∀ (s : List Nat) (i k : Nat) (st : Stt), wr L s i st = some k → k ≤ i + s.length
  | [], i, k, st, h => by
    unfold wr at h
    split at h
    · cases h
    · cases h; simp
  | c :: cs, i, k, st, h => by
    cases e : step L st c with
    | none =>
      rw [wr_stop e] at h
      cases h
      simp
    | some st1 =>
      rw [wr_cons e] at h
      have := wr_lt cs (i + 1) k st1 h
      simp only [List.length_cons]
      omega
end Tb

set_option Elab.async false
set_option linter.all false
set_option maxRecDepth 100000
set_option maxHeartbeats 4000000
namespace Tb
open PySem PySem.Spec PyProof.Rows L2
/-! ### the law's own place of the wrong sign -/
theorem inS (c : Nat) (L : List Nat) : inV (.str ⟨#[c]⟩) ((S L).cps.toList.map fun c => V.str ⟨#[c]⟩) = decide (c ∈ L) := by
  have e : (S L).cps.toList = L := by simp
  rw [e]
  unfold inV
  induction L with
  | nil => rfl
  | cons a r ih =>
    rw [List.map_cons, List.any_cons, ih (by simp)]
    have z : eqV (V.str ⟨#[a]⟩) (V.str ⟨#[c]⟩) = decide (c = a) := by
      show ((⟨#[a]⟩ : Str) == ⟨#[c]⟩) = _
      by_cases h : c = a
      · subst h; simp
      · rw [decide_eq_false h]
        refine beq_eq_false_iff_ne.mpr fun q => h ?_
        have := S_inj (a := [a]) (b := [c]) q
        simpa using this.symm
    rw [z]
    by_cases h : c = a <;> simp [h]
theorem inS0 (L : List Nat) : inV (.str (S [])) ((S L).cps.toList.map fun c => V.str ⟨#[c]⟩) = false := by
  unfold inV
  rw [List.any_eq_false]
  intro v hv
  obtain ⟨a, _, rfl⟩ := List.mem_map.mp hv
  show ¬ (((⟨#[a]⟩ : Str) == S []) = true)
  intro q
  have := S_inj (a := [a]) (b := []) (by simpa using q)
  cases this
theorem flatS (L : List Nat) : (((S L).cps.toList.map fun c => V.str ⟨#[c]⟩).all flatV) = true := by
  rw [List.all_eq_true]
  intro v hv
  obtain ⟨a, _, rfl⟩ := List.mem_map.mp hv
  rfl
theorem sg40 (c : Nat) : (V.str ⟨#[c]⟩ = V.str (PySem.Str.ofString "(")) ↔ c = 40 := by
  rw [lpar]
  constructor
  · intro z
    injection z with z
    have := S_inj (a := [c]) z
    simpa using this
  · rintro rfl; rfl
theorem sg41 (c : Nat) : (V.str ⟨#[c]⟩ = V.str (PySem.Str.ofString ")")) ↔ c = 41 := by
  rw [rpar]
  constructor
  · intro z
    injection z with z
    have := S_inj (a := [c]) z
    simpa using this
  · rintro rfl; rfl
theorem last_is {s x : List Nat} {i d : Nat} (h : i ≤ s.length) (e : s.take i = x ++ [d]) : s[i - 1]? = some d ∧ 0 < i := by
  have hl := congrArg List.length e
  rw [List.length_take, Nat.min_eq_left h, List.length_append] at hl
  have hl' : i = x.length + 1 := hl
  refine ⟨?_, by omega⟩
  have q : (s.take i)[i - 1]? = (x ++ [d])[i - 1]? := by rw [e]
  rw [List.getElem?_take_of_lt (by omega)] at q
  rw [q, hl']
  simp
theorem prev_cases {L x : List Nat} {i : Nat} {st : Stt} {bv : Str} (hi : i ≤ x.length) (hb : (i = 0 ∧ bv = S []) ∨ ∃ b, x[i - 1]? = some b ∧ bv = S [b] ∧ 0 < i) (ht : sText st = x.take i) (hA : SAll L st) :
    (∃ r b, st.1 = Tr.snoc r b .e ∧ bv = S [b] ∧ b ∈ L) ∨ (st.1 = .e ∧ st.2 = [] ∧ bv = S []) ∨ (st.1 = .e ∧ st.2 ≠ [] ∧ bv = S [40]) ∨ (∃ r b i, i ≠ .e ∧ st.1 = Tr.snoc r b i ∧ bv = S [41]) := by
  have key : ∀ d y, sText st = y ++ [d] → bv = S [d] := fun d y e => by
    obtain ⟨z1, z2⟩ := last_is hi (ht.symm.trans e)
    rcases hb with ⟨h0, _⟩ | ⟨b, h1, h2, _⟩
    · omega
    · rw [z1] at h1
      cases h1
      exact h2
  rcases cases_st st with ⟨h1, h2, h3⟩ | ⟨h1, h2, y, h3⟩ | ⟨r, b, h1, y, h3⟩ | ⟨r, b, j, hj, h1, y, h3⟩
  · refine .inr (.inl ⟨h1, h2, ?_⟩)
    rw [h3] at ht
    have hl := congrArg List.length ht
    rw [List.length_take, Nat.min_eq_left hi] at hl
    have hl' : 0 = i := hl
    rcases hb with ⟨_, h⟩ | ⟨b, _, _, h⟩
    · exact h
    · omega
  · exact .inr (.inr (.inl ⟨h1, h2, key _ _ h3⟩))
  · have a := hA.1
    rw [h1] at a
    exact .inl ⟨r, b, h1, key _ _ h3, (Tr.all_snoc a).2.1⟩
  · exact .inr (.inr (.inr ⟨r, b, j, hj, h1, key _ _ h3⟩))
def wv : Option Nat → V
  | none => .non
  | some k => .int k
def ini : Stt := (.e, [])
theorem ini_all (L : List Nat) : SAll L ini := ⟨trivial, fun p hp => nomatch hp⟩
section
variable {P : Program} {w : World} {K : PySem.W.Frag} {mg : Str → Option Value} {base : Heap}
def spWrong : Sp := fun vs H Q _ => ∃ L s : List Nat, vs = [.str (S L), .str (S s)] ∧ L.length ≤ 1000 ∧ s.length ≤ 1000 ∧ 40 ∉ L ∧ 41 ∉ L ∧ ∀ H', Same H H' → Q (wv (wr L s 0 ini)) H'
theorem ok_law_wrong {f : Addr} {fd : FuncData} (F : Fun K "_law_wrong" "_law_wrong" s_law_wrong f fd) (M : Bi mg) : FnOk P w K mg base CX0 1 f fd ["letters", "text"] spWrong := by
  refine F.ok sc_law_wrong (fun vs H Q E h => ?_) (fun cdv A outer s H vs Q E hr h => ?_)
  · obtain ⟨L, x, rfl, _⟩ := h
    rfl
  obtain ⟨L, x, rfl, hL, hx, h40, h41, k⟩ := h
  refine ⟨_, (pss_cons (ps_set (i := 2) sc_law_wrong.nd rfl (Or.inl rfl) pe_int)
  (pss_cons (ps_for PassesOwn.never rfl (pi_range1 rfl M.range (pa_cons (pe_callB call_len_str rfl M.len PySem.boot_len (pa_cons (pv 1) pa_nil)) pa_nil)) (pg_name (i := 3) sc_law_wrong.nd rfl (Or.inl rfl))
    ((Evl.pss_cut (ps_set (i := 4) sc_law_wrong.nd rfl (Or.inl rfl) (pe_ifExp (pt_cmpR op_gt (pv 3) pe_int (nomark _)) (pe_ix ix_str (pv 1) (pe_op op_sub (pv 3) pe_int) (fun _ _ => rfl)) pe_str))
     (pss_cons (ps_if (pt_cmpR (kIn K) (pe_ix ix_str (pv 1) (pv 3) (fun _ _ => rfl)) (pe_callTy (call_listS rfl) rfl M.list (by decide +kernel) (pa_cons (pv 0) pa_nil)) rfl)
       ((pss_one (ps_continue)))
       pss_nil)
     (pss_one (ps_if (PW.pt (pw_and (pt_cmpR op_eq (pe_ix ix_str (pv 1) (pv 3) (fun _ _ => rfl)) pe_str (nomark _)) (pw_and1 (pt_cmpR (kIn K) (pv 4) (pe_callTy (call_listS rfl) rfl M.list (by decide +kernel) (pa_cons (pv 0) pa_nil)) rfl))))
       ((pss_one (ps_set (i := 2) sc_law_wrong.nd rfl (Or.inl rfl) (pe_op op_add (pv 2) pe_int))))
       ((pss_one (ps_if (PW.pt (pw_and (pt_cmpR op_eq (pe_ix ix_str (pv 1) (pv 3) (fun _ _ => rfl)) pe_str (nomark _)) (pw_and (pt_cmpR op_gt (pv 2) pe_int (nomark _)) (pw_and1 (pt_cmpR op_ne (pv 4) pe_str (nomark _))))))
          ((pss_one (ps_set (i := 2) sc_law_wrong.nd rfl (Or.inl rfl) (pe_op op_sub (pv 2) pe_int))))
          ((pss_one (ps_ret (pv 3)))))))))))))
  (pss_one (ps_ret (pe_ifExp (pt_cmpR op_gt (pv 2) pe_int (nomark _)) (pe_callB call_len_str rfl M.len PySem.boot_len (pa_cons (pv 1) pa_nil)) pe_non))))), ?_⟩
  have hxl : (S x).length = x.length := S_len _
  have hxz : (S x).length ≤ sizeLine := by rw [hxl]; exact sz (by omega)
  have hLz : (S L).length ≤ sizeLine := by rw [S_len]; exact sz (by omega)
  refine ⟨_, rfl, _, rfl, hxz, _, rfl, by omega, by omega, for_range (fun i σ H' => i ≤ x.length ∧ Same H H' ∧ ∃ (st : Stt) (v3 v4 : Option V), σ = [some (.str (S L)), some (.str (S x)), some (.int st.2.length), v3, v4] ∧ wr L x 0 ini = wr L (x.drop i) i st ∧ sText st = x.take i ∧ SAll L st) ?_ ?_ ?_⟩
  · exact ⟨Nat.zero_le _, Same.refl _, ini, none, none, rfl, rfl, rfl, ini_all L⟩
  · rintro i σ H1 hi ⟨hi1, hS, st, v3, v4, rfl, hw, ht, hA⟩
    have hi2 : i < x.length := by omega
    have eo : (0 : Int) + (i : Int) = (i : Int) := Int.zero_add _
    rw [eo]
    refine ⟨fun σ H' => H' = H1 ∧ ∃ bv, σ = [some (.str (S L)), some (.str (S x)), some (.int st.2.length), some (.int i), some (.str bv)] ∧ ((i = 0 ∧ bv = S []) ∨ ∃ b, x[i - 1]? = some b ∧ bv = S [b] ∧ 0 < i), ?_, ?_⟩
    · refine ⟨_, rfl, _, _, rfl, rfl, _, rfl, ?_⟩
      by_cases h0 : i = 0
      · subst h0
        rw [decide_eq_false (by decide)]
        exact iteF ⟨rfl, _, rfl, .inl ⟨rfl, nostr⟩⟩
      · rw [decide_eq_true (by omega)]
        have ed : (i : Int) - 1 = ((i - 1 : Nat) : Int) := by omega
        have hj : i - 1 < x.length := by omega
        refine iteT ⟨_, rfl, _, rfl, _, _, rfl, rfl, S x, (i : Int) - 1, x[i - 1], rfl, rfl, hxz, by rw [ed]; exact atI_nat (by simp [hj]), ?_⟩
        exact ⟨rfl, _, rfl, .inr ⟨x[i - 1], by simp [hj], rfl, by omega⟩⟩
    · rintro σ H2 ⟨rfl, bv, rfl, hb⟩
      have hat : atI (S x).cps.toList ((i : Nat) : Int) = some x[i] := atI_nat (by simp [hi2])
      have hdr : x.drop i = x[i] :: x.drop (i + 1) := List.drop_eq_getElem_cons hi2
      have htk : x.take (i + 1) = x.take i ++ [x[i]] := take_snoc (List.getElem?_eq_getElem hi2)
      have stop : ∀ H', Same H H' → step L st x[i] = none → Q (.int i) H' := fun H' s' e => by
        have := k H' s'
        rw [hw, hdr, wr_stop e] at this
        exact this
      have go : ∀ H' st' (v3 v4 : Option V), Same H H' → step L st x[i] = some st' → i + 1 ≤ x.length ∧ Same H H' ∧ ∃ (st : Stt) (v3' v4' : Option V), [some (.str (S L)), some (.str (S x)), some (V.int st'.2.length), v3, v4] = [some (.str (S L)), some (.str (S x)), some (.int st.2.length), v3', v4'] ∧ wr L x 0 ini = wr L (x.drop (i + 1)) (i + 1) st ∧ sText st = x.take (i + 1) ∧ SAll L st := fun H' st' v3 v4 s' e =>
        ⟨by omega, s', st', v3, v4, rfl, by rw [hw, hdr, wr_cons e], by rw [step_text e, ht, htk], step_all hA e⟩
      generalize x[i] = c at *
      refine ⟨_, rfl, _, rfl, S x, _, c, rfl, rfl, hxz, hat, _, rfl, S L, rfl, hLz, fun l hl => ⟨l, _, rfl, .inl (SqL.of upd_same), rfl, flatS L, _, rfl, ?_⟩⟩
      have hS1 : Same H (upd H2 l (.lst ((S L).cps.toList.map fun c => V.str ⟨#[c]⟩))) := hS.trans (Same.new hl _)
      by_cases hc : c ∈ L
      · refine ite2 (fun _ => ?_) (fun z => absurd ((inS c L).trans (decide_eq_true hc)) z)
        exact go _ (st.1.snoc c .e, st.2) _ _ hS1 (step_in hc)
      refine ite2 (fun z => absurd (z.symm.trans ((inS c L).trans (decide_eq_false hc))) (by decide)) (fun _ => ?_)
      refine ⟨_, rfl, _, rfl, S x, _, c, rfl, rfl, hxz, hat, rfl, _, rfl, ?_⟩
      have pc := prev_cases hi1 hb ht hA
      obtain ⟨top, rest⟩ := st
      have no : ∀ {A B : Prop} {bb : Bool}, bb = false → B → if bb = true then A else B := fun e z => by rw [e]; exact iteF z
      have yes : ∀ {A B : Prop} {bb : Bool}, bb = true → A → if bb = true then A else B := fun e z => by rw [e]; exact iteT z
      by_cases h4 : c = 40
      · subst h4
        rw [decide_eq_true ((sg40 40).mpr rfl)]
        refine iteT ?_
        refine ⟨_, rfl, _, rfl, S L, rfl, hLz, fun l2 hl2 => ⟨l2, _, rfl, .inl (SqL.of upd_same), rfl, flatS L, _, rfl, ?_⟩⟩
        have hS2 := hS1.trans (Same.new hl2 (.lst ((S L).cps.toList.map fun c => V.str ⟨#[c]⟩)))
        have els : ∀ {A B : Prop}, step L (top, rest) 40 = none → inV (.str bv) ((S L).cps.toList.map fun c => V.str ⟨#[c]⟩) = false → (step L (top, rest) 40 = none → B) → if inV (.str bv) ((S L).cps.toList.map fun c => V.str ⟨#[c]⟩) = true then A else B := fun e z f => no z (f e)
        have stopc : step L (top, rest) 40 = none → _ := fun e => stop _ hS2 e
        rcases pc with ⟨r, b, h1, rfl, hbL⟩ | pc
        · have h1' : top = r.snoc b .e := h1
          subst h1'
          refine yes ((inS b L).trans (decide_eq_true hbL)) ?_
          refine ⟨_, rfl, _, _, rfl, rfl, ?_⟩
          exact go _ (.e, (r, b) :: rest) _ _ hS2 (step_open h40)
        · have hh : step L (top, rest) 40 = none ∧ inV (.str bv) ((S L).cps.toList.map fun c => V.str ⟨#[c]⟩) = false := by
            rcases pc with ⟨h1, h2, rfl⟩ | ⟨h1, h2, rfl⟩ | ⟨r, b, j, hj, h1, rfl⟩
            · have h1' : top = .e := h1
              subst h1'
              exact ⟨step_open_e h40, inS0 L⟩
            · have h1' : top = .e := h1
              subst h1'
              exact ⟨step_open_e h40, (inS 40 L).trans (decide_eq_false h40)⟩
            · have h1' : top = r.snoc b j := h1
              subst h1'
              exact ⟨step_open_i h40 hj, (inS 41 L).trans (decide_eq_false h41)⟩
          refine no hh.2 ?_
          refine ⟨_, rfl, _, rfl, S x, _, 40, rfl, rfl, hxz, hat, rfl, _, rfl, ?_⟩
          rw [decide_eq_false (fun z => by have := (sg41 40).mp z; omega)]
          refine iteF ?_
          exact ⟨_, rfl, stop _ hS2 hh.1⟩
      · rw [decide_eq_false (fun z => h4 ((sg40 c).mp z))]
        refine iteF ?_
        refine ⟨_, rfl, _, rfl, S x, _, c, rfl, rfl, hxz, hat, rfl, _, rfl, ?_⟩
        by_cases h5 : c = 41
        · subst h5
          rw [decide_eq_true ((sg41 41).mpr rfl)]
          refine iteT ?_
          refine ⟨_, rfl, _, _, rfl, rfl, _, rfl, ?_⟩
          cases rest with
          | nil =>
            rw [decide_eq_false (by simp)]
            refine iteF ?_
            exact ⟨_, rfl, stop _ hS1 (step_close_nil h41)⟩
          | cons p rest =>
            obtain ⟨r0, b0⟩ := p
            rw [decide_eq_true (by simp only [List.length_cons]; omega)]
            refine iteT ?_
            refine ⟨_, rfl, rfl, _, rfl, ?_⟩
            have nt : top ≠ .e → bv ≠ S [40] := fun h => by
              rcases pc with ⟨r, b, h1, rfl, hbL⟩ | ⟨h1, h2, rfl⟩ | ⟨h1, h2, rfl⟩ | ⟨r, b, j, hj, h1, rfl⟩
              · intro z
                have := S_inj (a := [b]) (b := [40]) z
                have e : b = 40 := by simpa using this
                rw [e] at hbL
                exact h40 hbL
              · exact absurd h1 h
              · exact absurd h1 h
              · intro z
                have := S_inj (a := [41]) (b := [40]) z
                have e : (41 : Nat) = 40 := by simpa using this
                omega
            by_cases h6 : top = .e
            · have e : bv = S [40] := by
                rcases pc with ⟨r, b, h1, rfl, hbL⟩ | ⟨h1, h2, rfl⟩ | ⟨h1, h2, rfl⟩ | ⟨r, b, j, hj, h1, rfl⟩
                · exact absurd (h1.symm.trans h6) (Tr.snoc_ne _ _ _)
                · cases h2
                · rfl
                · exact absurd (h1.symm.trans h6) (Tr.snoc_ne _ _ _)
              subst h6 e
              refine no (by rw [lpar]; simp) ?_
              exact ⟨_, rfl, stop _ hS1 (step_close_e h41)⟩
            · refine yes (by rw [lpar]; simpa using nt h6) ?_
              refine ⟨_, rfl, _, _, rfl, rfl, ?_⟩
              have g := go _ (r0.snoc b0 top, rest) (some (.int i)) (some (.str bv)) hS1 (step_close h41 h6)
              have ed : (((((r0, b0) :: rest).length : Nat) : Int) - 1) = (rest.length : Int) := by simp only [List.length_cons]; omega
              rw [← ed] at g
              exact g
        · rw [decide_eq_false (fun z => h5 ((sg41 c).mp z))]
          refine iteF ?_
          exact ⟨_, rfl, stop _ hS1 (step_other hc h4 h5)⟩
  · rintro σ H1 ⟨hi1, hS, st, v3, v4, rfl, hw, ht, hA⟩
    have e : (((S x).length : Int)).toNat = x.length := by rw [hxl]; omega
    rw [e, List.drop_length] at hw
    have kk := k H1 hS
    rw [hw] at kk
    refine ⟨_, rfl, _, _, rfl, rfl, _, rfl, ?_⟩
    obtain ⟨top, rest⟩ := st
    cases rest with
    | nil =>
      rw [decide_eq_false (by simp)]
      exact iteF kk
    | cons p rest =>
      rw [decide_eq_true (by simp only [List.length_cons]; omega)]
      refine iteT ⟨_, rfl, _, rfl, hxz, ?_⟩
      rw [hxl]
      exact kk
end
end Tb

set_option Elab.async false
set_option linter.all false
set_option maxRecDepth 100000
set_option maxHeartbeats 4000000
namespace Tb
open PySem PySem.Spec PyProof.Rows L2
/-! ### the begun rows in the heap -/
theorem Tr.size_text : ∀ f : Tr, f.size ≤ f.text.length
  | .e => Nat.le_refl _
  | .n c i r => by
    have h1 := i.size_text
    have h2 := r.size_text
    simp only [Tr.text, Tr.size, List.length_cons, List.length_append]
    by_cases h : i = .e
    · subst h
      rw [if_pos rfl]
      simp only [Tr.size, List.length_nil]
      omega
    · rw [if_neg h]
      simp only [List.length_cons, List.length_append, List.length_nil]
      omega
theorem stT_len : ∀ l : List (Tr × Nat), l.length ≤ (stT l).length ∧ ∀ p ∈ l, p.1.size + 1 ≤ (stT l).length
  | [] => ⟨Nat.le_refl _, fun p h => nomatch h⟩
  | (r, b) :: l => by
    have ih := stT_len l
    have h := r.size_text
    simp only [stT, List.length_append, List.length_cons, List.length_nil]
    refine ⟨by omega, fun p hp => ?_⟩
    rcases List.mem_cons.mp hp with rfl | hp
    · simp only []; omega
    · have := ih.2 p hp
      omega
def Stk (H G H' : Hp) (pr : Addr) : List Tr → List Addr → Prop
  | [], [] => True
  | f :: fs, a :: as => (∃ vs, H' a = some (.lst vs) ∧ Its G vs f) ∧ G a = none ∧ H a = none ∧ a ≠ pr ∧ a ∉ as ∧ Stk H G H' pr fs as
  | _, _ => False
theorem Stk.has {H G H' : Hp} {pr : Addr} : ∀ {fs : List Tr} {as : List Addr}, Stk H G H' pr fs as → ∀ a ∈ as, (∃ vs, H' a = some (.lst vs)) ∧ G a = none ∧ H a = none ∧ a ≠ pr
  | [], [], _, a, h => nomatch h
  | f :: fs, b :: as, ⟨⟨vs, h1, _⟩, h2, h3, h4, h5, h6⟩, a, h => by
    rcases List.mem_cons.mp h with rfl | h
    · exact ⟨⟨vs, h1⟩, h2, h3, h4⟩
    · exact h6.has a h
theorem Stk.mono {H G H' G2 H2 : Hp} {pr : Addr} (hG : Same G G2) : ∀ {fs : List Tr} {as : List Addr}, Stk H G H' pr fs as → (∀ a ∈ as, G2 a = none) → (∀ a ∈ as, H2 a = H' a) → Stk H G2 H2 pr fs as
  | [], [], _, _, _ => trivial
  | f :: fs, b :: as, ⟨⟨vs, h1, h1'⟩, h2, h3, h4, h5, h6⟩, n, e =>
    ⟨⟨vs, (e b List.mem_cons_self).trans h1, h1'.mono hG⟩, n b List.mem_cons_self, h3, h4, h5, Stk.mono hG h6 (fun a h => n a (List.mem_cons_of_mem _ h)) (fun a h => e a (List.mem_cons_of_mem _ h))⟩
theorem Stk.len {H G H' : Hp} {pr : Addr} : ∀ {fs : List Tr} {as : List Addr}, Stk H G H' pr fs as → as.length = fs.length
  | [], [], _ => rfl
  | f :: fs, b :: as, ⟨_, _, _, _, _, h6⟩ => by rw [List.length_cons, List.length_cons, h6.len]
def trees (st : Stt) : List Tr := st.1 :: st.2.map fun p => p.1.snoc p.2 .e
theorem Own.no {H G H' : Hp} (o : Own H G H') {b : Addr} (h : H' b = none) : G b = none := by
  cases z : G b with
  | none => rfl
  | some u => rw [(o b u z).2] at h; cases h
theorem Own.fresh {H G H' : Hp} (o : Own H G H') (hS : Same H H') {l : Addr} (h : H' l = none) (u : HO) : Own H (L2.upd G l u) (L2.upd H' l u) := (o.upd (o.no h)).put (hS.free h) upd_same
theorem Stk.fresh {H G H' : Hp} {pr : Addr} {fs : List Tr} {as : List Addr} (k : Stk H G H' pr fs as) (o : Own H G H') {l : Addr} (h : H' l = none) (u : HO) : Stk H (L2.upd G l u) (L2.upd H' l u) pr fs as := by
  have ne : ∀ a ∈ as, a ≠ l := fun a ha => by
    obtain ⟨⟨vs, hv⟩, _⟩ := k.has a ha
    exact ne_of_none hv h
  refine k.mono (Same.mut (Same.refl G) (o.no h)) (fun a ha => ?_) (fun a ha => upd_ne (ne a ha))
  rw [upd_ne (ne a ha)]
  exact (k.has a ha).2.1
theorem Stk.push {H G H' : Hp} {pr a : Addr} {f i : Tr} {fs : List Tr} {as : List Addr} {vs xs : List V} {c : Nat} {t l : Addr} (k : Stk H G H' pr (f :: fs) (a :: as)) (ha : H' a = some (.lst vs)) (ht : G t = some (.tup [.str (S [c]), .ref l])) (hl : G l = some (.lst xs)) (hx : Its G xs i) :
    Stk H G (L2.upd H' a (.lst (vs ++ [.ref t]))) pr (f.snoc c i :: fs) (a :: as) := by
  obtain ⟨⟨vs2, h1, h1'⟩, h2, h3, h4, h5, h6⟩ := k
  rw [ha] at h1
  cases h1
  exact ⟨⟨_, upd_same, Its.end ht hl hx h1'⟩, h2, h3, h4, h5, h6.mono (Same.refl G) (fun b hb => (h6.has b hb).2.1) (fun b hb => upd_ne (fun e => h5 (e ▸ hb)))⟩
theorem Its.unend {G : Hp} {c : Nat} {i : Tr} : ∀ {f : Tr} {vs : List V}, Its G vs (f.snoc c i) → ∃ vs' t l xs, vs = vs' ++ [.ref t] ∧ Its G vs' f ∧ G t = some (.tup [.str (S [c]), .ref l]) ∧ G l = some (.lst xs) ∧ Its G xs i
  | .e, vs, ⟨t, l, xs, vs', h1, h2, h3, h4, h5⟩ => by
    rw [show vs' = [] from h5] at h1
    exact ⟨[], t, l, xs, h1, rfl, h2, h3, h4⟩
  | .n c' l' r, vs, ⟨t1, l1, ys, vs', h1, h2, h3, h4, h5⟩ => by
    obtain ⟨vs2, t, l, xs, e1, e2, e3⟩ := Its.unend (f := r) h5
    subst e1
    exact ⟨.ref t1 :: vs2, t, l, xs, h1, ⟨t1, l1, ys, vs2, rfl, h2, h3, h4, e2⟩, e3⟩
section
variable {P : Program} {w : World} {K : PySem.W.Frag} {mg : Str → Option Value} {base : Heap}
/-- read_forest: the forest, or the error BadText(0, k) -/
def spRead (C : Addr) : Sp := fun vs H Q E => ∃ L s : List Nat, vs = [.str (S L), .str (S s)] ∧ L.length ≤ 1000 ∧ s.length ≤ 1000 ∧ 40 ∉ L ∧ 41 ∉ L ∧
  (∀ a f H', wr L s 0 ini = none → run L s ini = some (f, []) → Same H H' → FoNew H H' a f → Q (.ref a) H') ∧
  (∀ k d H', wr L s 0 ini = some k → Same H H' → H' d = some (.xd [("word", .int k), ("line", .int 0)]) → E (.ref C) (some d) H')
theorem ok_read_forest {f C fI : Addr} {fd fdI : FuncData} {bd : List Stmt} (F : Fun K "read_forest" "read_forest" s_read_forest f fd) (M : Bi mg) (T : PySem.Bx.Txt K P mg "BadText" "BadText.__init__" ["line", "word"] bd C fI fdI)
    (hiT : ∀ vs us, vs.length = (["line", "word"] : List Str).length → Vals vs us → ∃ mA, PySem.Bx.Inits K P w mg C fI us mA ∧ ∀ f, RelO ((((["line", "word"] : List Str).zip vs).reverse).lookup f) (mA f)) : FnOk P w K mg base (L2.CX P w) 4 f fd ["letters", "text"] (spRead C) := by
  refine F.okX sc_read_forest (fun vs H Q E h => ?_) (fun cdv A outer s H vs Q E hr h => ?_)
  · obtain ⟨L, x, rfl, _⟩ := h
    rfl
  obtain ⟨L, x, rfl, hL, hx, h40, h41, kQ, kE⟩ := h
  refine ⟨_, (pss_cons (ps_set (i := 2) sc_read_forest.nd rfl (Or.inl rfl) (pe_lst (pa_cons (pe_lst pa_nil) pa_nil)))
  (pss_cons (ps_for (passes_of rfl) rfl (pi_enumS rfl M.enumerate (pa_cons (pv 1) pa_nil)) (kGTup K rfl (pgs_cons (pg_name (i := 3) sc_read_forest.nd rfl (Or.inl rfl)) (pgs_cons (pg_name (i := 4) sc_read_forest.nd rfl (Or.inl rfl)) pgs_nil)))
    ((pss_one (ps_if (pt_cmpR op_in_sign (pv 4) (pv 0) rfl)
       ((pss_one (ps_expr (kBM K PySem.F.plainAttrs_list PySem.F.slot_list_append PySem.F.type_list_append mt_append (pe_ix (kIxL K) (pv 2) (pe_un un_neg pe_int) (fun _ _ => rfl)) (pa_cons (pe_tup (pa_cons (pv 4) (pa_cons (pe_lst pa_nil) pa_nil))) pa_nil)))))
       ((pss_one (ps_if (PW.pt (pw_and (pt_cmpR op_eq (pv 4) pe_str (nomark _)) (pw_and (pt_cmpR op_gt (pv 3) pe_int (nomark _)) (pw_and1 (pt_cmpR op_in_sign (pe_ix ix_str (pv 1) (pe_op op_sub (pv 3) pe_int) (fun _ _ => rfl)) (pv 0) rfl)))))
          ((pss_one (ps_expr (kBM K PySem.F.plainAttrs_list PySem.F.slot_list_append PySem.F.type_list_append mt_append (pv 2) (pa_cons (pe_lst pa_nil) pa_nil)))))
          ((pss_one (ps_if (PW.pt (pw_and (pt_cmpR op_eq (pv 4) pe_str (nomark _)) (pw_and (pt_cmpR op_gt (pe_callB (kLen K) rfl M.len PySem.boot_len (pa_cons (pv 2) pa_nil)) pe_int (nomark _)) (pw_and1 (pt_cmpR op_gt (pe_callB (kLen K) rfl M.len PySem.boot_len (pa_cons (pe_ix (kIxL K) (pv 2) (pe_un un_neg pe_int) (fun _ _ => rfl)) pa_nil)) pe_int (nomark _))))))
             ((pss_cons (ps_set (i := 5) sc_read_forest.nd rfl (Or.inl rfl) (kBM0 K PySem.F.plainAttrs_list PySem.F.slot_list_pop PySem.F.type_list_pop mt_pop (pv 2)))
              (pss_cons (ps_asg (kBM0 K PySem.F.plainAttrs_list PySem.F.slot_list_pop PySem.F.type_list_pop mt_pop (pe_ix (kIxL K) (pv 2) (pe_un un_neg pe_int) (fun _ _ => rfl))) (kGTup K rfl (pgs_cons (pg_name (i := 6) sc_read_forest.nd rfl (Or.inl rfl)) (pgs_cons (pg_name (i := 7) sc_read_forest.nd rfl (Or.inl rfl)) pgs_nil))))
              (pss_one (ps_expr (kBM K PySem.F.plainAttrs_list PySem.F.slot_list_append PySem.F.type_list_append mt_append (pe_ix (kIxL K) (pv 2) (pe_un un_neg pe_int) (fun _ _ => rfl)) (pa_cons (pe_tup (pa_cons (pv 6) (pa_cons (pv 5) pa_nil))) pa_nil)))))))
             ((pss_one (ps_raiseB rfl T hiT (by decide) (by decide) hr (takes_of rfl rfl rfl rfl) (by exact (pa_cons pe_int (pa_cons (pv 3) pa_nil))))))))))))))))
  (pss_cons (ps_if (pt_cmpR op_gt (pe_callB (kLen K) rfl M.len PySem.boot_len (pa_cons (pv 2) pa_nil)) pe_int (nomark _))
    ((pss_one (ps_raiseB rfl T hiT (by decide) (by decide) hr (takes_of rfl rfl rfl rfl) (by exact (pa_cons pe_int (pa_cons (pe_callB call_len_str rfl M.len PySem.boot_len (pa_cons (pv 1) pa_nil)) pa_nil))))))
    pss_nil)
  (pss_one (ps_ret (pe_ix (kIxL K) (pv 2) pe_int (fun _ _ => rfl))))))), ?_⟩
  have hxl : (S x).length = x.length := S_len _
  have hxz : (S x).length ≤ sizeLine := by rw [hxl]; exact sz (by omega)
  have hxs : (S x).cps.size = x.length := by show x.toArray.size = _; simp
  have hLs : (S L).cps.toList = L := by simp
  refine ⟨(by show 0 ≤ sizeLine; decide), fun a0 ha0 => ⟨(by show 1 ≤ sizeLine; decide), fun pr hpr => ?_⟩⟩
  have n0 : a0 ≠ pr := ne_of_none upd_same hpr
  have hpr0 : H pr = none := (Same.new ha0 _).free hpr
  refine ⟨_, rfl, _, rfl, for_it walk_enumS (fun i σ H' => i ≤ x.length ∧ Same H H' ∧ ∃ (st : Stt) (G : Hp) (as : List Addr) (v3 v4 v5 v6 v7 : Option V), σ = [some (.str (S L)), some (.str (S x)), some (.ref pr), v3, v4, v5, v6, v7] ∧ wr L x 0 ini = wr L (x.drop i) i st ∧ run L x ini = run L (x.drop i) st ∧ sText st = x.take i ∧ SAll L st ∧
    Own H G H' ∧ G pr = none ∧ H' pr = some (.lst (as.reverse.map V.ref)) ∧ Stk H G H' pr (trees st) as) ?_ (fun _ _ _ _ _ => trivial) ?_ ?_⟩
  · refine ⟨Nat.zero_le _, (Same.new ha0 _).mut hpr0, ini, none_hp, [a0], none, none, none, none, none, rfl, rfl, rfl, rfl, ini_all L, Own.non _ _, rfl, upd_same, ?_⟩
    exact ⟨⟨[], by rw [upd_ne n0, upd_same], rfl⟩, rfl, ha0, n0, by simp, trivial⟩
  · rintro i v σ H1 H2 hi ⟨hi1, hS, st, G, as, v3, v4, v5, v6, v7, rfl, hw, hrn, ht, hA, ho, hGp, hp, hK⟩ ⟨T0, c, rfl, hT0, rfl, hc⟩
    have hi2 : i < x.length := by omega
    refine ⟨T0, _, rfl, SqT.of upd_same, rfl, _, _, rfl, _, _, rfl, rfl, ?_⟩
    have hc' : c = x[i] := by
      have e : (S x).cps[i]? = x[i]? := by show (x.toArray)[i]? = _; simp
      rw [e, List.getElem?_eq_getElem hi2] at hc
      exact (Option.some.inj hc).symm
    have hdr : x.drop i = c :: x.drop (i + 1) := by rw [hc']; exact List.drop_eq_getElem_cons hi2
    have htk : x.take (i + 1) = x.take i ++ [c] := by rw [hc']; exact take_snoc (List.getElem?_eq_getElem hi2)
    clear hc hc'
    have hS12 : Same H1 (upd H1 T0 (.tup [.int (i : Nat), .str ⟨#[c]⟩])) := Same.new hT0 _
    generalize upd H1 T0 (.tup [.int (i : Nat), .str ⟨#[c]⟩]) = H2 at *
    have hS2 := hS.trans hS12
    have hp2 := hS12 _ _ hp
    have ho2 : Own H G H2 := fun b u h => ⟨(ho b u h).1, hS12 b u (ho b u h).2⟩
    have hK2 : Stk H G H2 pr (trees st) as := hK.mono (Same.refl G) (fun a ha => (hK.has a ha).2.1) (fun a ha => by
      obtain ⟨⟨vs, hv⟩, _⟩ := hK.has a ha
      rw [hv, hS12 _ _ hv])
    clear hp ho hK hS hS12 hT0
    obtain ⟨top, rest⟩ := st
    have htl := congrArg List.length ht
    rw [List.length_take, Nat.min_eq_left hi1] at htl
    simp only [sText, List.length_append] at htl
    have hsz := top.size_text
    have hst := stT_len rest
    cases as with
    | nil => exact hK2.elim
    | cons a0 as =>
    have hasl := hK2.len
    simp only [trees, List.length_cons, List.length_map] at hasl
    obtain ⟨⟨vs0, hv0, hI0⟩, hG0, hH0, hn0, hm0, hKr⟩ := hK2
    have hK2 : Stk H G H2 pr (trees (top, rest)) (a0 :: as) := ⟨⟨vs0, hv0, hI0⟩, hG0, hH0, hn0, hm0, hKr⟩
    have hvl : vs0.length ≤ top.size := by rw [hI0.len]; exact row_len_le top
    have hrev : ((a0 :: as).reverse.map V.ref) = as.reverse.map V.ref ++ [.ref a0] := by simp
    rw [hrev] at hp2
    have stop : ∀ d H', Same H H' → step L (top, rest) c = none → H' d = some (.xd [("word", .int i), ("line", .int 0)]) → E (.ref C) (some d) H' := fun d H' s' e hd => by
      refine kE i d H' ?_ s' hd
      rw [hw, hdr, wr_stop e]
    have go : ∀ st' H' G' as' (v3 v4 v5 v6 v7 : Option V), step L (top, rest) c = some st' → Same H H' → Own H G' H' → G' pr = none → H' pr = some (.lst (as'.reverse.map V.ref)) → Stk H G' H' pr (trees st') as' →
        i + 1 ≤ x.length ∧ Same H H' ∧ ∃ (st : Stt) (G : Hp) (as : List Addr) (v3' v4' v5' v6' v7' : Option V), [some (.str (S L)), some (.str (S x)), some (.ref pr), v3, v4, v5, v6, v7] = [some (.str (S L)), some (.str (S x)), some (.ref pr), v3', v4', v5', v6', v7'] ∧ wr L x 0 ini = wr L (x.drop (i + 1)) (i + 1) st ∧ run L x ini = run L (x.drop (i + 1)) st ∧ sText st = x.take (i + 1) ∧ SAll L st ∧
          Own H G H' ∧ G pr = none ∧ H' pr = some (.lst (as.reverse.map V.ref)) ∧ Stk H G H' pr (trees st) as := fun st' H' G' as' v3 v4 v5 v6 v7 e s' o' g' p' k' =>
      ⟨by omega, s', st', G', as', v3, v4, v5, v6, v7, rfl, by rw [hw, hdr, wr_cons e], by rw [hrn, hdr, run_cons e], by rw [step_text e, ht, htk], step_all hA e, o', g', p', k'⟩
    have no : ∀ {A B : Prop} {bb : Bool}, bb = false → B → if bb = true then A else B := fun e z => by rw [e]; exact iteF z
    have yes : ∀ {A B : Prop} {bb : Bool}, bb = true → A → if bb = true then A else B := fun e z => by rw [e]; exact iteT z
    refine ⟨_, rfl, _, rfl, c, S L, rfl, rfl, _, rfl, ?_⟩
    by_cases hcL : c ∈ L
    · refine yes (by rw [hLs]; exact decide_eq_true hcL) ?_
      refine ⟨_, rfl, _, rfl, pr, _, -1, V.ref a0, rfl, rfl, SqL.of hp2, atI_last _ _, .inl ⟨rfl, _, SqL.of hv0⟩, _, rfl, (by show 0 ≤ sizeLine; decide), fun l hl => ⟨(by show 2 ≤ sizeLine; decide), fun t ht => ?_⟩⟩
      have o1 := ho2.fresh hS2 hl (.lst [])
      have k1 := hK2.fresh ho2 hl (.lst [])
      have s1 : Same H (upd H2 l (.lst [])) := hS2.mut (hS2.free hl)
      have o2 := o1.fresh s1 ht (.tup [.str (S [c]), .ref l])
      have k2 := k1.fresh o1 ht (.tup [.str (S [c]), .ref l])
      have s2 := s1.mut (o := .tup [.str (S [c]), .ref l]) (s1.free ht)
      have nl : ∀ {b : Addr} {u : HO}, H2 b = some u → b ≠ l := fun h => ne_of_none h hl
      have nt : ∀ {b : Addr} {u : HO}, H2 b = some u → b ≠ t := fun h => ne_of_none (by rw [upd_ne (nl h)]; exact h) ht
      have hlt : l ≠ t := ne_of_none upd_same ht
      have hv2 : (upd (upd H2 l (.lst [])) t (.tup [.str (S [c]), .ref l])) a0 = some (.lst vs0) := by rw [upd_ne (nt hv0), upd_ne (nl hv0)]; exact hv0
      have hg2 : (upd (upd G l (.lst [])) t (.tup [.str (S [c]), .ref l])) a0 = none := by rw [upd_ne (nt hv0), upd_ne (nl hv0)]; exact hG0
      refine ⟨a0, vs0, _, rfl, rfl, hv2, sz' (by omega), ?_⟩
      refine go (top.snoc c .e, rest) _ (upd (upd G l (.lst [])) t (.tup [.str (S [c]), .ref l])) (a0 :: as) _ _ _ _ _ (step_in hcL) (s2.mut hH0) (o2.upd hg2) (by rw [upd_ne (nt hp2), upd_ne (nl hp2)]; exact hGp) ?_ ?_
      · rw [upd_ne hn0.symm, upd_ne (nt hp2), upd_ne (nl hp2), hrev]
        exact hp2
      · exact k2.push (xs := []) (i := .e) hv2 upd_same (by rw [upd_ne hlt, upd_same]) rfl
    refine no (by rw [hLs]; exact decide_eq_false hcL) ?_
    refine ⟨_, rfl, rfl, _, rfl, ?_⟩
    -- the way out: the error at this place
    have err : step L (top, rest) c = none → ∀ d, H2 d = none → E (.ref C) (some d) (upd H2 d (.xd [("word", .int i), ("line", .int 0)])) := fun e d hd => stop d _ (hS2.mut (hS2.free hd)) e upd_same
    by_cases h4 : c = 40
    · subst h4
      rw [decide_eq_true ((sg40 40).mpr rfl)]
      refine iteT ?_
      refine ⟨_, rfl, _, _, rfl, rfl, _, rfl, ?_⟩
      have other : step L (top, rest) 40 = none → ∀ {A : Prop}, (∀ d, H2 d = none → E (.ref C) (some d) (upd H2 d (.xd [("word", .int i), ("line", .int 0)]))) := fun e _ => err e
      by_cases h0 : i = 0
      · have e : step L (top, rest) 40 = none := by
          rcases cases_st (top, rest) with ⟨h1, h2, h3⟩ | ⟨h1, h2, y, h3⟩ | ⟨r, b, h1, y, h3⟩ | ⟨r, b, j, hj, h1, y, h3⟩
          · have h1' : top = .e := h1
            subst h1'
            exact step_open_e h40
          all_goals
            rw [h3] at ht
            have := (last_is hi1 ht.symm).2
            omega
        rw [decide_eq_false (by omega)]
        refine iteF ?_
        refine ⟨_, rfl, rfl, _, rfl, ?_⟩
        rw [decide_eq_false (fun z => by have := (sg41 40).mp z; omega)]
        refine iteF ?_
        exact ⟨_, rfl, rfl, err e⟩
      · have hj : i - 1 < x.length := by omega
        have ed : (i : Int) - 1 = ((i - 1 : Nat) : Int) := by omega
        rw [decide_eq_true (by omega)]
        refine iteT ?_
        refine ⟨_, rfl, _, rfl, _, _, rfl, rfl, S x, (i : Int) - 1, x[i - 1], rfl, rfl, hxz, by rw [ed]; exact atI_nat (by simp [hj]), _, rfl, x[i - 1], S L, rfl, rfl, _, rfl, ?_⟩
        have pc := prev_cases (bv := S [x[i - 1]]) hi1 (.inr ⟨x[i - 1], List.getElem?_eq_getElem hj, rfl, by omega⟩) ht hA
        generalize x[i - 1] = pb at *
        by_cases hpb : pb ∈ L
        · refine yes (by rw [hLs]; exact decide_eq_true hpb) ?_
          obtain ⟨r, b, h1, hb⟩ : ∃ (r : Tr) (b : Nat), top = r.snoc b .e ∧ b ∈ L := by
            rcases pc with ⟨r, b, h1, hb, hbL⟩ | ⟨h1, h2, hb⟩ | ⟨h1, h2, hb⟩ | ⟨r, b, j, hj, h1, hb⟩
            · exact ⟨r, b, h1, hbL⟩
            · have := S_inj hb; cases this
            · have := S_inj hb
              have e : pb = 40 := by simpa using this
              rw [e] at hpb
              exact absurd hpb h40
            · have := S_inj hb
              have e : pb = 41 := by simpa using this
              rw [e] at hpb
              exact absurd hpb h41
          subst h1
          refine ⟨_, rfl, .inl ⟨rfl, _, SqL.of hp2⟩, (by show 0 ≤ sizeLine; decide), fun l hl => ?_⟩
          have hlp : pr ≠ l := ne_of_none hp2 hl
          have hp3 : (upd H2 l (.lst [])) pr = some (.lst (as.reverse.map V.ref ++ [.ref a0])) := by rw [upd_ne hlp]; exact hp2
          refine ⟨pr, _, _, rfl, rfl, hp3, sz' (by simp; omega), ?_⟩
          have na : ∀ a ∈ a0 :: as, a ≠ l ∧ a ≠ pr := fun a ha => by
            obtain ⟨⟨vs, hv⟩, _, _, h⟩ := hK2.has a ha
            exact ⟨ne_of_none hv hl, h⟩
          refine go (.e, (r, b) :: rest) _ G (l :: a0 :: as) _ _ _ _ _ (step_open h40) ((hS2.mut (hS2.free hl)).mut hpr0) ((ho2.upd (ho2.no hl)).upd hGp) hGp ?_ ?_
          · rw [upd_same, List.reverse_cons, List.map_append, hrev]
            rfl
          · refine ⟨⟨[], by rw [upd_ne hlp.symm, upd_same], rfl⟩, ho2.no hl, hS2.free hl, hlp.symm, fun h => (na l h).1 rfl, ?_⟩
            have q : Stk H G (upd (upd H2 l (.lst [])) pr (.lst (as.reverse.map V.ref ++ [.ref a0] ++ [.ref l]))) pr (trees (r.snoc b .e, rest)) (a0 :: as) := hK2.mono (Same.refl G) (fun a ha => (hK2.has a ha).2.1) (fun a ha => by rw [upd_ne (na a ha).2, upd_ne (na a ha).1])
            exact q
        · refine no (by rw [hLs]; exact decide_eq_false hpb) ?_
          have e : step L (top, rest) 40 = none := by
            rcases pc with ⟨r, b, h1, hb, hbL⟩ | ⟨h1, h2, hb⟩ | ⟨h1, h2, hb⟩ | ⟨r, b, j, hj, h1, hb⟩
            · have := S_inj hb
              have e : pb = b := by simpa using this
              rw [e] at hpb
              exact absurd hbL hpb
            · have h1' : top = .e := h1
              subst h1'
              exact step_open_e h40
            · have h1' : top = .e := h1
              subst h1'
              exact step_open_e h40
            · have h1' : top = r.snoc b j := h1
              subst h1'
              exact step_open_i h40 hj
          refine ⟨_, rfl, rfl, _, rfl, ?_⟩
          rw [decide_eq_false (fun z => by have := (sg41 40).mp z; omega)]
          refine iteF ?_
          exact ⟨_, rfl, rfl, err e⟩
    rw [decide_eq_false (fun z => h4 ((sg40 c).mp z))]
    refine iteF ?_
    refine ⟨_, rfl, rfl, _, rfl, ?_⟩
    by_cases h5 : c = 41
    · subst h5
      rw [decide_eq_true ((sg41 41).mpr rfl)]
      refine iteT ?_
      refine ⟨_, rfl, pr, _, rfl, .inl (SqL.of hp2), _, _, rfl, rfl, _, rfl, ?_⟩
      have hln : (as.reverse.map V.ref ++ [V.ref a0]).length = rest.length + 1 := by simp; omega
      rw [hln]
      cases rest with
      | nil =>
        rw [decide_eq_false (by simp)]
        refine iteF ?_
        exact ⟨_, rfl, rfl, err (step_close_nil h41)⟩
      | cons p rest =>
        obtain ⟨r0, b0⟩ := p
        rw [decide_eq_true (by simp only [List.length_cons]; omega)]
        refine iteT ?_
        refine ⟨_, rfl, _, rfl, pr, _, -1, V.ref a0, rfl, rfl, SqL.of hp2, atI_last _ _, a0, vs0, rfl, .inl (SqL.of hv0), _, _, rfl, rfl, _, rfl, ?_⟩
        by_cases h6 : top = .e
        · have e0 : vs0.length = 0 := hI0.nil_iff.mpr h6
          subst h6
          rw [e0, decide_eq_false (by decide)]
          refine iteF ?_
          exact ⟨_, rfl, rfl, err (step_close_e h41)⟩
        · have e0 : vs0.length ≠ 0 := fun z => h6 (hI0.nil_iff.mp z)
          rw [decide_eq_true (by omega)]
          refine iteT ?_
          cases as with
          | nil => exact hKr.elim
          | cons a1 as =>
          obtain ⟨⟨vs1, hv1, hI1⟩, hG1, hH1, hn1, hm1, hKr2⟩ := hKr
          obtain ⟨vs2, t1, l1, xs1, rfl, hI2, ht1, hl1, hx1⟩ := Its.unend hI1
          have h01 : a0 ≠ a1 := fun e => hm0 (e ▸ List.mem_cons_self)
          have hrev1 : ((a1 :: as).reverse.map V.ref) = as.reverse.map V.ref ++ [V.ref a1] := by simp
          rw [hrev1] at hp2
          refine ⟨_, rfl, .inl ⟨rfl, _, SqL.of hp2⟩, pr, _, V.ref a0, rfl, rfl, hp2, by simp, ?_⟩
          rw [List.dropLast_concat]
          generalize hH3 : upd H2 pr (HO.lst (as.reverse.map V.ref ++ [V.ref a1])) = H3
          have hp3 : H3 pr = some (.lst (as.reverse.map V.ref ++ [.ref a1])) := by rw [← hH3, upd_same]
          have hv13 : H3 a1 = some (.lst (vs2 ++ [.ref t1])) := by rw [← hH3, upd_ne hn1]; exact hv1
          refine ⟨_, rfl, _, rfl, pr, _, -1, V.ref a1, rfl, rfl, SqL.of hp3, atI_last _ _, .inl ⟨rfl, _, SqL.of hv13⟩, a1, _, V.ref t1, rfl, rfl, hv13, by simp, ?_⟩
          rw [List.dropLast_concat]
          have o3 : Own H G H3 := by rw [← hH3]; exact ho2.upd hGp
          have ht13 : (upd H3 a1 (.lst vs2)) t1 = some (.tup [.str (S [b0]), .ref l1]) := by
            rw [upd_ne (ne_of_none ht1 hG1)]
            exact (o3 _ _ ht1).2
          refine ⟨t1, _, rfl, SqT.of ht13, rfl, _, _, rfl, _, _, rfl, rfl, ?_⟩
          have s3 : Same H H3 := by rw [← hH3]; exact hS2.mut hpr0
          have h03 : H3 a0 = some (.lst vs0) := by rw [← hH3, upd_ne hn0]; exact hv0
          have h23 : ∀ b, b ≠ pr → H3 b = H2 b := fun b hb => by rw [← hH3, upd_ne hb]
          generalize hH4 : upd H3 a1 (HO.lst vs2) = H4
          have hp4 : H4 pr = some (.lst (as.reverse.map V.ref ++ [.ref a1])) := by rw [← hH4, upd_ne hn1.symm]; exact hp3
          have hv14 : H4 a1 = some (.lst vs2) := by rw [← hH4, upd_same]
          have h04 : H4 a0 = some (.lst vs0) := by rw [← hH4, upd_ne h01]; exact h03
          have h34 : ∀ b, b ≠ a1 → H4 b = H3 b := fun b hb => by rw [← hH4, upd_ne hb]
          have o4 : Own H G H4 := by rw [← hH4]; exact o3.upd hG1
          have s4 : Same H H4 := by rw [← hH4]; exact s3.mut hH1
          refine ⟨_, rfl, _, rfl, pr, _, -1, V.ref a1, rfl, rfl, SqL.of hp4, atI_last _ _, .inl ⟨rfl, _, SqL.of hv14⟩, _, rfl, _, rfl, (by show 2 ≤ sizeLine; decide), fun t ht => ?_⟩
          have nt : ∀ {b : Addr} {u : HO}, H4 b = some u → b ≠ t := fun h => ne_of_none h ht
          have hvl1 := hI1.len
          have hs1 := hst.2 (r0, b0) List.mem_cons_self
          have hvl2 : vs2.length = r0.row.length := hI2.len
          have hs2 := row_len_le r0
          have hs3 : r0.size + 1 ≤ (stT ((r0, b0) :: rest)).length := hs1
          refine ⟨a1, vs2, _, rfl, rfl, by rw [upd_ne (nt hv14)]; exact hv14, sz' (by omega), ?_⟩
          have o5 : Own H (upd G a0 (.lst vs0)) H4 := o4.put hH0 h04
          have o6 := o5.fresh s4 ht (.tup [.str (S [b0]), .ref a0])
          have hG1' : (upd (upd G a0 (.lst vs0)) t (.tup [.str (S [b0]), .ref a0])) a1 = none := by rw [upd_ne (nt hv14), upd_ne h01.symm]; exact hG1
          have sG1 : Same G (upd G a0 (.lst vs0)) := Same.mut (Same.refl G) hG0
          have sG : Same G (upd (upd G a0 (.lst vs0)) t (.tup [.str (S [b0]), .ref a0])) := sG1.trans (Same.new (o5.no ht) _)
          refine go (r0.snoc b0 top, rest) _ _ (a1 :: as) _ _ _ _ _ (step_close h41 h6) ((s4.mut (s4.free ht)).mut hH1) (o6.upd hG1') ?_ ?_ ?_
          · rw [upd_ne (nt hp4), upd_ne hn0.symm]
            exact hGp
          · rw [upd_ne hn1.symm, upd_ne (nt hp4), hrev1]
            exact hp4
          · have q : Stk H (upd (upd G a0 (.lst vs0)) t (.tup [.str (S [b0]), .ref a0])) (upd (upd H4 t (.tup [.str (S [b0]), .ref a0])) a1 (.lst (vs2 ++ [.ref t]))) pr (r0.snoc b0 top :: rest.map fun p => p.1.snoc p.2 .e) (a1 :: as) := by
              refine ⟨⟨_, upd_same, Its.end upd_same ?_ (hI0.mono sG) (hI2.mono sG)⟩, hG1', hH1, hn1, hm1, hKr2.mono sG (fun a ha => ?_) (fun a ha => ?_)⟩
              · rw [upd_ne (nt h04), upd_same]
              · obtain ⟨⟨vs, hv⟩, g1, g2, g3⟩ := hKr2.has a ha
                have e1 : a ≠ a1 := fun e => hm1 (e ▸ ha)
                have e0 : a ≠ a0 := fun e => hm0 (e ▸ List.mem_cons_of_mem _ ha)
                have hv4 : H4 a = some (.lst vs) := by rw [h34 a e1, h23 a g3]; exact hv
                rw [upd_ne (nt hv4), upd_ne e0]
                exact g1
              · obtain ⟨⟨vs, hv⟩, g1, g2, g3⟩ := hKr2.has a ha
                have e1 : a ≠ a1 := fun e => hm1 (e ▸ ha)
                have hv4 : H4 a = some (.lst vs) := by rw [h34 a e1, h23 a g3]; exact hv
                rw [upd_ne e1, upd_ne (nt hv4), h34 a e1, h23 a g3]
            exact q
    · rw [decide_eq_false (fun z => h5 ((sg41 c).mp z))]
      refine iteF ?_
      exact ⟨_, rfl, rfl, err (step_other hcL h4 h5)⟩
  · rintro σ H1 ⟨hi1, hS, st, G, as, v3, v4, v5, v6, v7, rfl, hw, hrn, ht, hA, ho, hGp, hp, hK⟩
    rw [hxs, List.drop_length] at hw hrn
    obtain ⟨top, rest⟩ := st
    have hasl := hK.len
    simp only [trees, List.length_cons, List.length_map] at hasl
    have htl := congrArg List.length ht
    rw [List.length_take, Nat.min_eq_left (by omega)] at htl
    simp only [sText, List.length_append] at htl
    refine ⟨_, rfl, pr, _, rfl, .inl (SqL.of hp), _, _, rfl, rfl, _, rfl, ?_⟩
    have hln : (as.reverse.map V.ref).length = rest.length + 1 := by simp; omega
    rw [hln]
    cases rest with
    | nil =>
      rw [decide_eq_false (by simp)]
      refine iteF ?_
      cases as with
      | nil => exact hK.elim
      | cons a0 as =>
      have e : as = [] := by cases as with | nil => rfl | cons _ _ => simp at hasl
      subst e
      obtain ⟨⟨vs0, hv0, hI0⟩, hG0, hH0, hn0, hm0, hKr⟩ := hK
      refine ⟨_, rfl, pr, _, 0, .ref a0, rfl, rfl, SqL.of hp, atI_nat (j := 0) rfl, ?_⟩
      refine kQ a0 top H1 hw hrn hS ⟨upd G a0 (.lst vs0), ho.put hH0 hv0, vs0, upd_same, hI0.mono (Same.mut (Same.refl G) hG0)⟩
    | cons p rest =>
      rw [decide_eq_true (by simp only [List.length_cons]; omega)]
      refine iteT ?_
      have hw' : wr L x 0 ini = some x.length := by rw [hw]; rfl
      refine ⟨_, rfl, _, rfl, hxz, rfl, fun d hd => ?_⟩
      rw [hxl]
      exact kE _ d _ hw' (hS.mut (hS.free hd)) upd_same
end
end Tb

set_option Elab.async false
set_option linter.all false
set_option maxRecDepth 100000
set_option maxHeartbeats 4000000
namespace Tb
open PySem PySem.Spec PyProof.Rows L2
/-! ### what the law is told -/
/-- isinstance(error, ..), error the own exception that the suite holds -/
def tIsB (K : PySem.W.Frag) (C a : Addr) (cls : Value) (d : Option Addr) (ta : TA) : TE := fun σ H Q => cls = .ref C ∧ ∃ dd, d = some dd ∧ ta σ H fun xs H1 => (∃ fs, H1 dd = some (.xd fs)) ∧ rIsE K C a xs H1 Q
theorem pe_isB {X : Cx} {a C : Addr} {oe : Obj} {cls : Value} {d : Option Addr} {pn : List (Addr × Obj)} {e : Expr} {es : List Expr} {p pos : Pos} {ta : TA} (T : ExcC X.K C) (hz : Zc cls d oe) (hf : ∃ vs, oe.data = .fields vs) (hg : Gl (X.suite a ((a, oe) :: pn)) "isinstance") (hm : X.mg "isinstance" = none)
    (ha : PA (X.suite a ((a, oe) :: pn)) (e :: es) ta) (he : starEach (e :: es) (X.suite a ((a, oe) :: pn)).env = (false, eval e (X.suite a ((a, oe) :: pn)).env) :: starEach es (X.suite a ((a, oe) :: pn)).env := by rfl) (hpl : (backTo pos (starEach es (X.suite a ((a, oe) :: pn)).env)).any (·.1) = false := by rfl) :
    PE (X.suite a ((a, oe) :: pn)) (.Call (.Name "isinstance" p) (e :: es) [] pos) (tIsB X.K C a cls d ta) := by
  refine ⟨fun pins s σ H Q I h => ?_⟩
  obtain ⟨rfl, dd, rfl, h⟩ := h
  exact (pe_callB (call_isB T hz hf) hg hm PyProof.Rows.boot_isinstance ha (he := he) (hpl := hpl)).run pins s σ H Q I h
section
variable {P : Program} {w : World} {K : PySem.W.Frag} {mg : Str → Option Value} {base : Heap}
def tSuite (K : PySem.W.Frag) (C D : Addr) : Addr → Value → Option Addr → TS := fun a cls d => tRet (tLst (tCons (tC (.str "text")) (tCons (tXf a cls d C "line" (tVar 2)) (tCons (tXf a cls d C "word" (tVar 2)) (tCons (tIsB K C a cls d (tCons (tVar 2) (tCons (tC (.ref D)) tNil))) tNil)))))
def spTold : Sp := fun vs H Q _ => ∃ L s : List Nat, vs = [.str (S L), .str (S s)] ∧ L.length ≤ 1000 ∧ s.length ≤ 1000 ∧ 40 ∉ L ∧ 41 ∉ L ∧
  (∀ a f H', wr L s 0 ini = none → run L s ini = some (f, []) → Same H H' → FoNew H H' a f → Q (.ref a) H') ∧
  (∀ k p H', wr L s 0 ini = some k → Same H H' → H' p = some (.lst [.str "text", .int 0, .int k, .bl true]) → Q (.ref p) H')
theorem ok_law_told {f g C fI D : Addr} {fd gd fdI : FuncData} {bd : List Stmt} (F : Fun K "_law_told" "_law_told" s_law_told f fd) (M : Bi mg) (T : PySem.Bx.Txt K P mg "BadText" "BadText.__init__" ["line", "word"] bd C fI fdI)
    (xc : ExcC K C) (xf : XfC K C) (em : PySem.W.exmOne K (.ref C) (.ref C) = some true) (hD : mg "TreesError" = some (.ref D)) (ki : PySem.W.kitOne K (.ref C) (.ref D) = some true)
    (H_read_forest : FnH K mg "read_forest" s_read_forest ["letters", "text"] g gd) (G_read_forest : FnOk P w K mg base (L2.CX P w) 4 g gd ["letters", "text"] (spRead C)) : FnOk P w K mg base CX0 5 f fd ["letters", "text"] spTold := by
  refine F.ok sc_law_told (fun vs H Q E h => ?_) (fun cdv A outer s H vs Q E hr h => ?_)
  · obtain ⟨L, x, rfl, _⟩ := h
    rfl
  obtain ⟨L, x, rfl, hL, hx, h40, h41, kQ, kE⟩ := h
  refine ⟨_, pss_one (ps_try_as (i := 2) (tb := fun W => tRet (tCallS (spRead C) (WE W) (tCons (tVar 0) (tCons (tVar 1) tNil)))) (ts := tSuite K C D) (Wout := fun _ _ _ _ => False) rfl rfl sc_law_told.nd rfl rfl ⟨rfl, by decide, Or.inl T.gC⟩ takes0
    (fun W pn xe tk _ => pss_one (ps_ret (by exact (pe_callS G_read_forest hr rfl H_read_forest.m H_read_forest.F.kp H_read_forest.b (fun σ => passAt tk σ) (by exact (pa_cons (pv 0) (pa_cons (pv 1) pa_nil)))))))
    (fun a oe cls d pn hz hf => pss_one (ps_ret (pe_lst (pa_cons pe_str (pa_cons (by exact (pe_xf xf (T.noN "line" (by decide)) hz hf (pv 2))) (pa_cons (by exact (pe_xf xf (T.noN "word" (by decide)) hz hf (pv 2))) (pa_cons (by exact (pe_isB xc hz hf rfl M.isinstance (pa_cons (pv 2) (pa_cons (pe_glob rfl hD rfl) pa_nil)))) pa_nil)))))))), ?_⟩
  refine ⟨_, rfl, _, rfl, L, x, rfl, hL, hx, h40, h41, kQ, fun k d H' hw hS hd => ?_⟩
  refine ⟨true, em, fun _ a0 _ => ?_, fun q => Bool.noConfusion q⟩
  refine ⟨_, rfl, rfl, rfl, d, _, _, rfl, hd, rfl, ?_⟩
  refine ⟨_, rfl, rfl, rfl, d, _, _, rfl, hd, rfl, ?_⟩
  refine ⟨rfl, d, rfl, _, rfl, ⟨_, hd⟩, _, .ref D, true, rfl, (fun u r => r), ki, ?_⟩
  exact ⟨(by show 4 ≤ sizeLine; decide), fun p hp => kE k p _ hw (hS.mut (hS.free hp)) upd_same⟩
end
end Tb

set_option Elab.async false
set_option linter.all false
set_option maxRecDepth 100000
set_option maxHeartbeats 8000000
namespace Tb
open PySem PySem.Spec PyProof.Rows L2
/-! ### plain facts -/
theorem cnt40 {L : List Nat} (h40 : 40 ∉ L) : ∀ f : Tr, f.all (· ∈ L) → f.text.countP (· = 40) = f.pc
  | .e, _ => rfl
  | .n c i r, h => by
    have h1 := cnt40 h40 i h.2.1
    have h2 := cnt40 h40 r h.2.2
    have hc : ¬ c = 40 := fun e => h40 (e ▸ h.1)
    by_cases hi : i = .e
    · subst hi
      simp [Tr.text, Tr.pc, hc, h2]
    · simp [Tr.text, Tr.pc, hc, hi, h1, h2]
      omega
theorem row_pc : ∀ {f : Tr} {j : Nat} {c : Nat} {i : Tr}, f.row[j]? = some (c, i) → i ≠ .e → i.pc + 1 ≤ f.pc
  | .e, _, _, _, h, _ => by simp [Tr.row] at h
  | .n c' i' r, 0, c, i, h, hi => by
    simp [Tr.row] at h
    obtain ⟨rfl, rfl⟩ := h
    simp only [Tr.pc, if_neg hi]; omega
  | .n c' i' r, j + 1, c, i, h, hi => by
    have := row_pc (f := r) (j := j) (c := c) (i := i) (by simpa [Tr.row] using h) hi
    simp only [Tr.pc]; omega
theorem eq_forest {H : Hp} : ∀ (m : Nat) {f : Tr} {a b : Addr} {xs ys : List V} {n : Nat}, f.size < m → H a = some (.lst xs) → Its H xs f → H b = some (.lst ys) → Its H ys f → f.size ≤ 1000 → 2 * f.pc + 3 ≤ n → EqD H n (.ref a) (.ref b)
  | 0, f, _, _, _, _, _, h, _, _, _, _, _, _ => by omega
  | m + 1, f, a, b, xs, ys, n, h, ha, hx, hb, hy, hz, hn => by
    obtain ⟨n, rfl⟩ : ∃ k, n = k + 3 := ⟨n - 3, by omega⟩
    have hr := row_len_le f
    refine .inr ⟨a, b, xs, ys, rfl, rfl, .inl ⟨ha, hb⟩, by rw [hx.len, hy.len], by rw [hx.len]; omega, fun i x y e1 e2 => ?_⟩
    obtain ⟨c, gi, t, l, zs, r1, rfl, ht, hl, hzs⟩ := hx.get e1
    obtain ⟨c', gi', t', l', zs', r1', rfl, ht', hl', hzs'⟩ := hy.get e2
    rw [r1] at r1'
    cases r1'
    refine .inr ⟨t, t', _, _, rfl, rfl, .inr ⟨ht, ht'⟩, rfl, by simp, fun j u v e3 e4 => ?_⟩
    match j, e3, e4 with
    | 0, e3, e4 =>
      cases e3
      cases e4
      exact .inl ⟨rfl, rfl⟩
    | 1, e3, e4 =>
      cases e3
      cases e4
      by_cases hi : gi = .e
      · subst hi
        rw [show zs = [] from hzs] at hl
        rw [show zs' = [] from hzs'] at hl'
        exact .inr ⟨l, l', [], [], rfl, rfl, .inl ⟨hl, hl'⟩, rfl, Nat.zero_le _, fun i x y e _ => by cases e⟩
      · have h1 := row_pc r1 hi
        have h2 := row_size r1
        exact eq_forest m (by omega) hl hzs hl' hzs' (by omega) (by omega)
    | j + 2, e3, e4 => cases e3
theorem FoAt.eq {H : Hp} {a b : Addr} {f : Tr} {n : Nat} (h : FoAt H a f) (h' : FoAt H b f) (hz : f.size ≤ 1000) (hn : 2 * f.pc + 3 ≤ n) : EqD H n (.ref a) (.ref b) :=
  let ⟨_, h1, h2⟩ := h
  let ⟨_, h3, h4⟩ := h'
  eq_forest (f.size + 1) (by omega) h1 h2 h3 h4 hz hn
theorem all_ne {L : List Nat} (h : 46 ∉ L) : ∀ {f : Tr}, f.all (· ∈ L) → f.all (· ≠ 46)
  | .e, _ => trivial
  | .n c l r, a => ⟨fun e => h (e ▸ a.1), all_ne h a.2.1, all_ne h a.2.2⟩
/-- what a spoilt text holds at the most -/
theorem cnt_spoilt (q : Nat → Bool) (x y : List Nat) (i j : Nat) (hij : i ≤ j) : (x.take i ++ y ++ x.drop j).countP q ≤ x.countP q + y.length := by
  have h1 : (x.take i).countP q + (x.drop i).countP q = x.countP q := by rw [← List.countP_append, List.take_append_drop]
  have h2 : (x.drop j).countP q ≤ (x.drop i).countP q := by
    have e : x.drop j = (x.drop i).drop (j - i) := by rw [List.drop_drop]; congr 1; omega
    rw [e]
    exact (List.drop_sublist _ _).countP_le
  have h3 : y.countP q ≤ y.length := List.countP_le_length
  rw [List.countP_append, List.countP_append]
  omega
/-- the forests stand, the picks may change -/
def Gd (L : List Nat) (HB : Hp) (pk D : Addr) (xs : List V) (H' : Hp) : Prop := Kp pk HB H' ∧ D ≠ pk ∧ HB D = none ∧ H' D = some (.lst xs) ∧ ∀ v ∈ xs, ∃ a f G, v = .ref a ∧ Own HB G H' ∧ G D = none ∧ FoAt G a f ∧ f.all (· ∈ L) ∧ f.size ≤ 120 ∧ f.pc ≤ 39
theorem Gd.kp {L : List Nat} {HB H' H2 : Hp} {pk D : Addr} {xs : List V} (g : Gd L HB pk D xs H') (k : Kp pk H' H2) : Gd L HB pk D xs H2 := by
  obtain ⟨g1, g2, g3, g4, g5⟩ := g
  refine ⟨g1.trans k, g2, g3, k.2.2 _ _ g2 g4, fun v hv => ?_⟩
  obtain ⟨a, f, G, h1, h2, h3⟩ := g5 v hv
  exact ⟨a, f, G, h1, h2.keep g1 k, h3⟩
theorem Kp.self {p : Addr} {H H' : Hp} (k : Kp p H H') : Kp p H' H' := let ⟨_, h⟩ := k.2.1; Kp.refl h
theorem Gd.same {L : List Nat} {HB H' H2 : Hp} {pk D : Addr} {xs : List V} (g : Gd L HB pk D xs H') (k : Same H' H2) : Gd L HB pk D xs H2 := g.kp (g.1.self.then k)
theorem sa : (PySem.Str.ofString "a" : Str) = S [97] := by decide +kernel
theorem sab : (PySem.Str.ofString "ab" : Str) = S [97, 98] := by decide +kernel
theorem scab : (PySem.Str.ofString "cab" : Str) = S [99, 97, 98] := by decide +kernel
theorem short2 {z : Str} (h : z.length ≤ 2) : ∃ y, z = S y ∧ y.length ≤ 2 := ⟨z.cps.toList, S_of z, by rw [← S_len, ← S_of]; exact h⟩
theorem two_lists {H : Hp} {p l : Addr} {xs : List V} (h1 : H p = some (.lst xs)) (h2 : H l = some (.lst xs)) (hz : xs.length ≤ 100000) (hf : ∀ v ∈ xs, flatV v = true) (n : Nat) : EqD H (n + 2) (.ref p) (.ref l) :=
  .inr ⟨p, l, xs, xs, rfl, rfl, .inl ⟨h1, h2⟩, rfl, hz, fun i x y e1 e2 => by
    rw [e1] at e2
    cases e2
    exact .inl ⟨rfl, hf x (List.mem_of_getElem? e1)⟩⟩
def LOk (L : List Nat) : Prop := L = [97] ∨ L = [97, 98] ∨ L = [99, 97, 98]
theorem LOk.facts {L : List Nat} (h : LOk L) : L ≠ [] ∧ L.length ≤ 3 ∧ 40 ∉ L ∧ 41 ∉ L ∧ 46 ∉ L := by
  rcases h with rfl | rfl | rfl <;> decide
section
variable {P : Program} {w : World} {K : PySem.W.Frag} {mg : Str → Option Value} {base : Heap}
def spLaw (K : PySem.W.Frag) : Sp := fun vs H Q _ => ∃ (a : Addr) (ns : List Int), vs = [.ref a] ∧ SqL K H a (ns.map V.int) ∧ ∀ H', Q (.bl true) H'
theorem ok_law {f f1 f2 f3 f4 f5 f6 f7 f8 f9 fa fb fc fe : Addr} {fd d1 d2 d3 d4 d5 d6 d7 d8 d9 da db dc de : FuncData} (F : Fun K "law" "law" s_law f fd) (M : Bi mg)
    (H_law_picks : FnH K mg "_law_picks" s_law_picks ["script", "k", "count"] f1 d1) (G_law_picks : FnOk P w K mg base CX0 1 f1 d1 ["script", "k", "count"] (spPicks K))
    (H_law_one : FnH K mg "_law_one" s_law_one ["picks", "items"] f2 d2) (G_law_one : FnOk P w K mg base CX0 2 f2 d2 ["picks", "items"] (spOne K))
    (H_law_pick : FnH K mg "_law_pick" s_law_pick ["picks", "many"] f3 d3) (G_law_pick : FnOk P w K mg base CX0 1 f3 d3 ["picks", "many"] spPick)
    (H_law_forest : FnH K mg "_law_forest" s_law_forest ["picks", "letters", "depth"] f4 d4) (G_law_forest : FnOk P w K mg base CX0 6 f4 d4 ["picks", "letters", "depth"] (spFo 4))
    (H_law_tree_of : FnH K mg "_law_tree_of" s_law_tree_of ["forest"] f5 d5) (G_law_tree_of : FnOk P w K mg base CX0 130 f5 d5 ["forest"] (spLto 130))
    (H_law_same : FnH K mg "_law_same" s_law_same ["told", "due"] f6 d6) (G_law_same : FnOk P w K mg base CX0 130 f6 d6 ["told", "due"] (spSame 130))
    (H_tree_of_forest : FnH K mg "tree_of_forest" s_tree_of_forest ["forest"] f7 d7) (G_tree_of_forest : FnOk P w K mg base CX0 130 f7 d7 ["forest"] (spTof 130))
    (H_forest_of_tree : FnH K mg "forest_of_tree" s_forest_of_tree ["tree"] f8 d8) (G_forest_of_tree : FnOk P w K mg base CX0 130 f8 d8 ["tree"] (spFot 128))
    (H_law_text : FnH K mg "_law_text" s_law_text ["forest"] f9 d9) (G_law_text : FnOk P w K mg base CX0 130 f9 d9 ["forest"] (spLtx 130))
    (H_forest_text : FnH K mg "forest_text" s_forest_text ["forest"] fa da) (G_forest_text : FnOk P w K mg base CX0 130 fa da ["forest"] (spFtx 130))
    (H_law_told : FnH K mg "_law_told" s_law_told ["letters", "text"] fb db) (G_law_told : FnOk P w K mg base CX0 5 fb db ["letters", "text"] spTold)
    (H_law_wrong : FnH K mg "_law_wrong" s_law_wrong ["letters", "text"] fc dc) (G_law_wrong : FnOk P w K mg base CX0 1 fc dc ["letters", "text"] spWrong)
    (H_law_trees : FnH K mg "_law_trees" s_law_trees ["letters", "most"] fe de) (G_law_trees : FnOk P w K mg base CX0 2 fe de ["letters", "most"] spTrees) :
    FnOk P w K mg base CX0 131 f fd ["script"] (spLaw K) := by
  have G_law_picks := G_law_picks.mono (show 1 ≤ 130 by decide)
  have G_law_one := G_law_one.mono (show 2 ≤ 130 by decide)
  have G_law_pick := G_law_pick.mono (show 1 ≤ 130 by decide)
  have G_law_forest := G_law_forest.mono (show 6 ≤ 130 by decide)
  have G_law_told := G_law_told.mono (show 5 ≤ 130 by decide)
  have G_law_wrong := G_law_wrong.mono (show 1 ≤ 130 by decide)
  have G_law_trees := G_law_trees.mono (show 2 ≤ 130 by decide)
  refine F.ok sc_law (fun vs H Q E h => ?_) (fun cdv A outer s H vs Q E hr h => ?_)
  · obtain ⟨a, ns, rfl, _⟩ := h
    rfl
  obtain ⟨a, ns, rfl, ha, kQ⟩ := h
  refine ⟨_, (pss_cons (ps_set (i := 1) sc_law.nd rfl (Or.inr rfl) (pe_fn H_law_picks G_law_picks hr (pa_cons (pv 0) (pa_cons pe_int (pa_cons pe_int pa_nil)))))
  (pss_cons (ps_set (i := 2) sc_law.nd rfl (Or.inr rfl) (pe_fn H_law_one G_law_one hr (pa_cons (pv 1) (pa_cons (pe_lst (pa_cons pe_str (pa_cons pe_str (pa_cons pe_str pa_nil)))) pa_nil))))
  (pss_cons (ps_setLc (i := 3) rfl sc_law.nd rfl rfl (sw_true rfl rfl rfl (by decide +kernel)) (own := [("k", 13)]) (g := gName 13) (tt := tYes) (pi_range1 rfl M.range (pa_cons pe_int pa_nil)) (blkOk_by (own := [("k", 13)]) (N := ["script", "picks", "letters", "forests", "forest", "tree", "text", "turn", "at", "sign", "spoilt", "wrong", "told", "k"]) (sc := defScope s_law) (by decide +kernel)) (fun _ _ _ _ _ => pg_name (i := 13) sc_law.nd rfl (Or.inl rfl)) (fun _ _ _ _ _ => pts_nil) (fun _ _ _ _ _ => pe_fn H_law_forest G_law_forest hr (pa_cons (pv 1) (pa_cons (pv 2) (pa_cons (pe_fn H_law_pick G_law_pick hr (pa_cons (pv 1) (pa_cons pe_int pa_nil))) pa_nil)))))
  (pss_cons (ps_for PassesOwn.never rfl (kPiL K (pv 3)) (pg_name (i := 4) sc_law.nd rfl (Or.inl rfl))
    ((pss_cons (ps_set (i := 5) sc_law.nd rfl (Or.inl rfl) (pe_fn H_law_tree_of G_law_tree_of hr (pa_cons (pv 4) pa_nil)))
     (pss_cons (ps_if (PW.pt (pw_or (pt_not (pt_val (pe_fn H_law_same G_law_same hr (pa_cons (pe_fn H_tree_of_forest G_tree_of_forest hr (pa_cons (pv 4) pa_nil)) (pa_cons (pv 5) pa_nil))))) (pw_or1 (pt_not (pt_val (pe_fn H_law_same G_law_same hr (pa_cons (pe_fn H_forest_of_tree G_forest_of_tree hr (pa_cons (pv 5) pa_nil)) (pa_cons (pv 4) pa_nil))))))))
       ((pss_one (ps_ret pe_bl)))
       pss_nil)
     (pss_cons (ps_set (i := 6) sc_law.nd rfl (Or.inl rfl) (pe_fn H_law_text G_law_text hr (pa_cons (pv 4) pa_nil)))
     (pss_cons (ps_if (PW.pt (pw_or (pt_not (pt_val (pe_fn H_law_same G_law_same hr (pa_cons (pe_fn H_forest_text G_forest_text hr (pa_cons (pv 4) pa_nil)) (pa_cons (pv 6) pa_nil))))) (pw_or1 (pt_not (pt_val (pe_fn H_law_same G_law_same hr (pa_cons (pe_fn H_law_told G_law_told hr (pa_cons (pv 2) (pa_cons (pv 6) pa_nil))) (pa_cons (pv 4) pa_nil))))))))
       ((pss_one (ps_ret pe_bl)))
       pss_nil)
     (pss_one (ps_for PassesOwn.never rfl (pi_range1 rfl M.range (pa_cons pe_int pa_nil)) (pg_name (i := 7) sc_law.nd rfl (Or.inl rfl))
       ((pss_cons (ps_set (i := 8) sc_law.nd rfl (Or.inl rfl) (pe_fn H_law_pick G_law_pick hr (pa_cons (pv 1) (pa_cons (pe_op op_add (pe_callB call_len_str rfl M.len PySem.boot_len (pa_cons (pv 6) pa_nil)) pe_int) pa_nil))))
        (pss_cons (ps_set (i := 9) sc_law.nd rfl (Or.inl rfl) (pe_fn H_law_one G_law_one hr (pa_cons (pv 1) (pa_cons (pe_lst (pa_cons pe_str (pa_cons pe_str (pa_cons pe_str (pa_cons pe_str (pa_cons (pe_ix ix_str (pv 2) pe_int (fun _ _ => rfl)) (pa_cons pe_str (pa_cons pe_str (pa_cons pe_str (pa_cons pe_str pa_nil)))))))))) pa_nil))))
        (pss_cons (ps_set (i := 10) sc_law.nd rfl (Or.inl rfl) (pe_fn H_law_one G_law_one hr (pa_cons (pv 1) (pa_cons (pe_lst (pa_cons (pe_op op_add_str (pe_op op_add_str (pe_slice sl_str (pv 6) po_none (po_some (pv 8))) (pv 9)) (pe_slice sl_str (pv 6) (po_some (pv 8)) po_none)) (pa_cons (pe_op op_add_str (pe_op op_add_str (pe_slice sl_str (pv 6) po_none (po_some (pv 8))) (pv 9)) (pe_slice sl_str (pv 6) (po_some (pe_op op_add (pv 8) pe_int)) po_none)) pa_nil))) pa_nil))))
        (pss_cons (ps_set (i := 11) sc_law.nd rfl (Or.inl rfl) (pe_fn H_law_wrong G_law_wrong hr (pa_cons (pv 2) (pa_cons (pv 10) pa_nil))))
        (pss_cons (ps_set (i := 12) sc_law.nd rfl (Or.inl rfl) (pe_fn H_law_told G_law_told hr (pa_cons (pv 2) (pa_cons (pv 10) pa_nil))))
        (pss_cons (ps_if (PW.pt (pw_and (pt_cmpR op_notN (pv 11) pe_non (nomark _)) (pw_and1 (pt_not (pt_val (pe_fn H_law_same G_law_same hr (pa_cons (pv 12) (pa_cons (pe_lst (pa_cons pe_str (pa_cons pe_int (pa_cons (pv 11) (pa_cons pe_bl pa_nil))))) pa_nil))))))))
          ((pss_one (ps_ret pe_bl)))
          pss_nil)
        (pss_one (ps_if (PW.pt (pw_and (pt_cmpR op_isN (pv 11) pe_non (nomark _)) (pw_and1 (PW.pt (pw_or (pt_not (pt_val (pe_callB (kIsi K) rfl M.isinstance (by decide +kernel) (pa_cons (pv 12) (pa_cons (kTy "list" rfl M.list (by decide +kernel)) pa_nil))))) (pw_or (pt_cmpR op_ne (pe_fn H_law_text G_law_text hr (pa_cons (pv 12) pa_nil)) (pv 10) (nomark _)) (pw_or1 (pt_not (pt_val (pe_fn H_law_same G_law_same hr (pa_cons (pe_fn H_forest_of_tree G_forest_of_tree hr (pa_cons (pe_fn H_law_tree_of G_law_tree_of hr (pa_cons (pv 12) pa_nil)) pa_nil)) (pa_cons (pv 12) pa_nil))))))))))))
          ((pss_one (ps_ret pe_bl)))
          pss_nil)))))))))))))))))
  (pss_cons (ps_for PassesOwn.never rfl (kPiL K (pe_fn H_law_trees G_law_trees hr (pa_cons (pv 2) (pa_cons (pe_ifExp (pt_cmpR op_lt (pe_callB call_len_str rfl M.len PySem.boot_len (pa_cons (pv 2) pa_nil)) pe_int (nomark _)) pe_int pe_int) pa_nil)))) (pg_name (i := 5) sc_law.nd rfl (Or.inl rfl))
    ((pss_one (ps_if (pt_cmpR op_ne (pe_fn H_law_tree_of G_law_tree_of hr (pa_cons (pe_fn H_forest_of_tree G_forest_of_tree hr (pa_cons (pv 5) pa_nil)) pa_nil)) (pv 5) (nomark _))
       ((pss_one (ps_ret pe_bl)))
       pss_nil))))
  (pss_one (ps_ret pe_bl))))))), ?_⟩
  refine ⟨_, rfl, a, ns, 0, 300, rfl, ha, by decide, by decide, fun pk H1 ms hS1 hpk0 hpk => ?_⟩
  refine ⟨_, rfl, (by show 3 ≤ sizeLine; decide), fun li hli => ?_⟩
  have hlp : pk ≠ li := ne_of_none hpk hli
  refine ⟨pk, ms, .ref li, _, rfl, by rw [upd_ne hlp]; exact hpk, (by intro z; injection z with z; exact hlp z.symm), .inl ⟨li, rfl, .inl (SqL.of upd_same)⟩, (by intro z; cases z), fun lv HB hlv hPB => ?_⟩
  obtain ⟨L, rfl, hLO⟩ : ∃ L, lv = .str (S L) ∧ LOk L := by
    rcases List.mem_cons.mp hlv with rfl | hlv
    · exact ⟨[97], by rw [← sa], .inl rfl⟩
    rcases List.mem_cons.mp hlv with rfl | hlv
    · exact ⟨[97, 98], by rw [← sab], .inr (.inl rfl)⟩
    rcases List.mem_cons.mp hlv with rfl | hlv
    · exact ⟨[99, 97, 98], by rw [← scab], .inr (.inr rfl)⟩
    cases hlv
  obtain ⟨hL0, hL3, h40, h41, h46⟩ := hLO.facts
  obtain ⟨nsB, hpB⟩ := hPB.2
  refine ⟨3, rfl, by decide, by decide, fun D hD => lc_it walk_range (fun i H' => i ≤ 3 ∧ ∃ xs, xs.length = i ∧ Gd L HB pk D xs H') ?_ (fun _ _ _ _ => trivial) ?_ ?_⟩
  · exact ⟨by decide, [], rfl, (Kp.refl hpB).mut hD, ne_of_none' hpB hD, hD, upd_same, fun v hv => nomatch hv⟩
  · rintro i x H2 H2' hi ⟨hi1, xs, hxl, hg⟩ ⟨rfl, rfl⟩
    refine ⟨rfl, yesTT ?_⟩
    obtain ⟨ns2, hp2⟩ := hg.1.2.1
    refine ⟨_, rfl, _, rfl, _, rfl, pk, 4, ns2, rfl, hp2, by decide, fun v H3 v0 v1 hP => ?_⟩
    have hg3 := hg.kp (Kp.of hp2 hP)
    obtain ⟨ns3, hp3⟩ := hP.2
    have ev : v = ((v.toNat : Nat) : Int) := by omega
    refine ⟨pk, L, v.toNat, ns3, by rw [← ev]; rfl, hp3, hL0, by omega, by omega, by omega, fun a' g H4 G k4 o4 h4 a4 s4 p4 => ?_⟩
    have hg4 := hg3.kp k4
    have z1 := fsz_le v.toNat (by omega)
    have z2 := psz_le v.toNat (by omega)
    have hGD : G D = none := o4.out hg3.2.2.2.1
    obtain ⟨g1, g2, g3, g4, g5⟩ := hg4
    refine ⟨xs, g4, sz' (by omega), by omega, xs ++ [.ref a'], by simp [hxl], g1.mut hD, g2, g3, upd_same, fun u hu => ?_⟩
    rcases List.mem_append.mp hu with hu | hu
    · obtain ⟨b, f', G', q1, q2, q3, q4⟩ := g5 u hu
      exact ⟨b, f', G', q1, q2.upd q3, q3, q4⟩
    · rw [List.mem_singleton.mp hu]
      exact ⟨a', g, G, rfl, Own.upd (fun b w h => ⟨hg3.1.free (o4 b w h).1, (o4 b w h).2⟩) hGD, hGD, h4, a4, by omega, by omega⟩
  · rintro H2 ⟨_, xs, hxl, hg⟩
    clear hpk hli hPB hpB hpk0 hS1
    refine ⟨_, rfl, D, rfl, ⟨_, SqL.of hg.2.2.2.1⟩, for_it (walk_list (xs := xs)) (fun i σ H' => Gd L HB pk D xs H' ∧ ∃ v4 v5 v6 v7 v8 v9 v10 v11 v12, σ = [some (.ref a), some (.ref pk), some (.str (S L)), some (.ref D), v4, v5, v6, v7, v8, v9, v10, v11, v12, none]) ?_ (fun i σ H' _ h => SqL.of h.1.2.2.2.1) ?_ ?_⟩
    · exact ⟨hg, _, _, _, _, _, _, _, _, _, rfl⟩
    · rintro i x σ H3 H3' hi ⟨hg, v4, v5, v6, v7, v8, v9, v10, v11, v12, rfl⟩ ⟨rfl, hx⟩
      obtain ⟨fo, f0, G, rfl, ho, hGD, hfo, hfA, hfz, hfp⟩ := hg.2.2.2.2 x (List.mem_of_getElem? hx)
      have hA46 := all_ne h46 hfA
      have Ho : FoAt H3' fo f0 := hfo.mono ho.same
      clear hfo ho hGD hx
      refine ⟨_, rfl, fo, f0, rfl, Ho, by omega, by omega, fun H4 hS4 => ?_⟩
      have hg4 := hg.same hS4
      have Ho4 := Ho.mono hS4
      refine ⟨_, rfl, fo, f0, rfl, Ho4, by omega, by omega, fun H5 hS5 => ?_⟩
      have hg5 := hg4.same hS5
      have Ho5 := Ho4.mono hS5
      refine ⟨_, rfl, _, _, rfl, .inl ⟨rfl, rfl⟩, true, rfl, ?_⟩
      refine iteF ?_
      refine ⟨_, rfl, f0, rfl, hA46, by omega, by omega, fun a6 H6 hS6 hn6 => ?_⟩
      have hg6 := hg5.same hS6
      have Ho6 := Ho5.mono hS6
      refine ⟨_, rfl, _, _, rfl, (hn6.at).eq Ho6 (by omega) (by omega), true, rfl, ?_⟩
      refine iteF ?_
      refine ⟨_, rfl, fo, f0, rfl, Ho6, by omega, by omega, fun H7 hS7 => ?_⟩
      have hg7 := hg6.same hS7
      have Ho7 := Ho6.mono hS7
      refine ⟨_, rfl, fo, f0, rfl, Ho7, by omega, by omega, fun H8 hS8 => ?_⟩
      have hg8 := hg7.same hS8
      have Ho8 := Ho7.mono hS8
      refine ⟨_, rfl, _, _, rfl, .inl ⟨rfl, rfl⟩, true, rfl, ?_⟩
      refine iteF ?_
      have htl := f0.text_len
      have hwt : wr L f0.text 0 ini = none := by
        have := wr_text h40 h41 f0 .e [] [] 0 hfA
        rw [List.append_nil] at this
        rw [show ini = (.e, []) from rfl, this]
        rfl
      have hrt : run L f0.text ini = some (f0, []) := by
        have := run_text h40 h41 f0 .e [] [] hfA
        rw [List.append_nil] at this
        rw [show ini = (.e, []) from rfl, this]
        rfl
      refine ⟨_, rfl, _, rfl, L, f0.text, rfl, by omega, by omega, h40, h41, ?_, fun k p H' z => by rw [hwt] at z; cases z⟩
      intro a9 f9 H9 _ hr9 hS9 hn9
      rw [hrt] at hr9
      cases hr9
      have hg9 := hg8.same hS9
      have Ho9 := Ho8.mono hS9
      refine ⟨_, rfl, _, _, rfl, (hn9.at).eq Ho9 (by omega) (by omega), true, rfl, ?_⟩
      refine iteF ?_
      have hc1 := cnt_text h40 h41 f0 hfA
      have hc2 := cnt40 h40 f0 hfA
      have htz : (S f0.text).length ≤ sizeLine := by rw [S_len]; exact sz (by omega)
      clear hwt hrt Ho Ho4 Ho5 Ho6 Ho7 Ho8 Ho9 hn6 hn9 hg hg4 hg5 hg6 hg7 hg8 hS4 hS5 hS6 hS7 hS8 hS9
      refine ⟨4, rfl, by decide, by decide, for_range (fun i σ H' => Gd L HB pk D xs H' ∧ ∃ v7 v8 v9 v10 v11 v12, σ = [some (.ref a), some (.ref pk), some (.str (S L)), some (.ref D), some (.ref fo), some (.str (S f0.code)), some (.str (S f0.text)), v7, v8, v9, v10, v11, v12, none]) ?_ ?_ ?_⟩
      · exact ⟨hg9, _, _, _, _, _, _, rfl⟩
      · rintro j σ H10 hj ⟨hg, v7, v8, v9, v10, v11, v12, rfl⟩
        obtain ⟨ns, hp⟩ := hg.1.2.1
        refine ⟨_, rfl, _, rfl, _, rfl, htz, _, _, rfl, rfl, pk, _, ns, rfl, hp, by omega, fun v H11 w0 w1 hP => ?_⟩
        have hg := hg.kp (Kp.of hp hP)
        obtain ⟨n, rfl⟩ : ∃ n : Nat, v = n := ⟨v.toNat, by omega⟩
        have hn : n ≤ f0.text.length := by
          have : (S f0.text).length = f0.text.length := S_len _
          omega
        clear hp hP w0 w1 ns
        -- sign
        obtain ⟨c0, hc0⟩ : ∃ c0, L[0]? = some c0 := by
          cases L with
          | nil => exact absurd rfl hL0
          | cons c0 r => exact ⟨c0, rfl⟩
        refine ⟨_, rfl, _, rfl, S L, 0, c0, rfl, rfl, by rw [S_len]; exact sz (by omega), atI_nat (j := 0) (by simpa using hc0), (by show 9 ≤ sizeLine; decide), fun l hl => ?_⟩
        obtain ⟨ns, hp⟩ := hg.1.2.1
        have hnl : V.ref l ≠ .ref pk := fun z => by
          injection z with z
          exact ne_of_none hp hl z.symm
        have hp' : ∀ o, (upd H11 l o) pk = some (.lst (ns.map V.int)) := fun o => Same.new hl o _ _ hp
        have hg' : ∀ o, Gd L HB pk D xs (upd H11 l o) := fun o => hg.same (Same.new hl o)
        refine ⟨pk, ns, .ref l, _, rfl, hp' _, hnl, .inl ⟨l, rfl, .inl (SqL.of upd_same)⟩, (by intro z; cases z), fun sv H12 hsv hP => ?_⟩
        obtain ⟨y, rfl, hy⟩ : ∃ y, sv = .str (S y) ∧ y.length ≤ 2 := by
          have key : ∀ z : Str, z.length ≤ 2 → ∃ y, V.str z = .str (S y) ∧ y.length ≤ 2 := fun z h => by
            obtain ⟨y, h1, h2⟩ := short2 h
            exact ⟨y, by rw [← h1], h2⟩
          repeat (rcases List.mem_cons.mp hsv with rfl | hsv; · exact key _ (by first | decide +kernel | (show 1 ≤ 2; decide)))
          cases hsv
        have hg := (hg' _).kp (Kp.of (hp' _) hP)
        clear hp hP hsv hnl hl hp' hg' ns
        -- spoilt
        refine ⟨_, rfl, _, rfl, _, rfl, _, rfl, _, rfl, htz, ?_⟩
        rw [cutS_to _ _ hn]
        have hyl : (S y).length ≤ 2 := by rw [S_len]; exact hy
        refine ⟨_, rfl, _, _, rfl, rfl, by rw [S_len, S_len]; exact sz (by simp; omega), ?_⟩
        rw [S_app]
        refine ⟨_, rfl, _, rfl, _, rfl, _, rfl, htz, ?_⟩
        rw [cutS_from _ _ hn]
        refine ⟨_, _, rfl, rfl, by rw [S_len, S_len]; exact sz (by simp; omega), ?_⟩
        rw [S_app]
        refine ⟨_, rfl, _, rfl, _, rfl, _, rfl, htz, ?_⟩
        rw [cutS_to _ _ hn]
        refine ⟨_, rfl, _, _, rfl, rfl, by rw [S_len, S_len]; exact sz (by simp; omega), ?_⟩
        rw [S_app]
        refine ⟨_, rfl, _, rfl, _, _, rfl, rfl, _, rfl, _, rfl, htz, ?_⟩
        have hcut : ∃ m, n ≤ m ∧ cutS (S f0.text) (some ((n : Int) + 1)) none = S (f0.text.drop m) := by
          by_cases hn2 : n + 1 ≤ f0.text.length
          · exact ⟨n + 1, by omega, cutS_from _ (n + 1) hn2⟩
          · have e : n = f0.text.length := by omega
            refine ⟨f0.text.length, by omega, ?_⟩
            rw [e]
            have q := HT.sIx_nat f0.text.length 0 (f0.text.length + 1)
            have e2 : (((f0.text.length + 1 : Nat) : Int)) = (f0.text.length : Int) + 1 := by omega
            rw [e2] at q
            unfold cutS
            rw [S_len, q, HT.sIx_none, Nat.min_eq_right (by omega), Nat.sub_self, List.drop_length]
            rfl
        obtain ⟨m, hnm, ecut⟩ := hcut
        rw [ecut]
        refine ⟨_, _, rfl, rfl, by rw [S_len, S_len]; exact sz (by simp; omega), ?_⟩
        rw [S_app]
        refine ⟨(by show 2 ≤ sizeLine; decide), fun l hl => ?_⟩
        obtain ⟨ns, hp⟩ := hg.1.2.1
        have hnl : V.ref l ≠ .ref pk := fun z => by
          injection z with z
          exact ne_of_none hp hl z.symm
        have hp' : ∀ o, (upd H12 l o) pk = some (.lst (ns.map V.int)) := fun o => Same.new hl o _ _ hp
        have hg' : ∀ o, Gd L HB pk D xs (upd H12 l o) := fun o => hg.same (Same.new hl o)
        refine ⟨pk, ns, .ref l, _, rfl, hp' _, hnl, .inl ⟨l, rfl, .inl (SqL.of upd_same)⟩, (by intro z; cases z), fun sv H13 hsv hP => ?_⟩
        have hg := (hg' _).kp (Kp.of (hp' _) hP)
        obtain ⟨x, rfl, hxl, hx1, hx2⟩ : ∃ x, sv = .str (S x) ∧ x.length ≤ 1000 ∧ x.countP (· ∈ L) ≤ 122 ∧ x.countP (· = 40) ≤ 41 := by
          have key : ∀ m, n ≤ m → (f0.text.take n ++ y ++ f0.text.drop m).length ≤ 1000 ∧ (f0.text.take n ++ y ++ f0.text.drop m).countP (· ∈ L) ≤ 122 ∧ (f0.text.take n ++ y ++ f0.text.drop m).countP (· = 40) ≤ 41 := fun m hm => by
            have z1 := cnt_spoilt (fun c => decide (c ∈ L)) f0.text y n m hm
            have z2 := cnt_spoilt (fun c => decide (c = 40)) f0.text y n m hm
            exact ⟨by simp; omega, by omega, by omega⟩
          rcases List.mem_cons.mp hsv with rfl | hsv
          · exact ⟨_, rfl, key n (Nat.le_refl _)⟩
          rcases List.mem_cons.mp hsv with rfl | hsv
          · exact ⟨_, rfl, key m hnm⟩
          cases hsv
        clear hp hP hsv hnl hl hp' hg' ns ecut
        -- the law's own place; what is told
        refine ⟨_, rfl, _, rfl, L, x, rfl, by omega, hxl, h40, h41, fun H14 hS14 => ?_⟩
        have hg := hg.same hS14
        refine ⟨_, rfl, _, rfl, L, x, rfl, by omega, hxl, h40, h41, fun a15 f15 H15 hw hrn hS15 hn15 => ?_, fun kk p15 H15 hw hS15 hp15 => ?_⟩
        · have hg := hg.same hS15
          obtain ⟨hA15, ht15⟩ := run_all x ini (f15, []) (ini_all L) hrn
          have ht15 : f15.text = x := by
            have : sText (f15, []) = f15.text := by simp [sText, stT]
            rw [this] at ht15
            rw [ht15]
            rfl
          have hA15 : f15.all (· ∈ L) := hA15.1
          have c1 := cnt_text h40 h41 f15 hA15
          have c2 := cnt40 h40 f15 hA15
          rw [ht15] at c1 c2
          have Ho15 := hn15.at
          rw [hw]
          refine ⟨_, rfl, rfl, _, rfl, ?_⟩
          refine iteF ?_
          refine ⟨_, rfl, rfl, _, rfl, ?_⟩
          refine iteT ?_
          obtain ⟨ys, hys, hIs⟩ := Ho15
          have Ho15 : FoAt H15 a15 f15 := ⟨ys, hys, hIs⟩
          refine isiA (b := true) rfl (.base (.lst hys)) (by decide +kernel) ⟨true, rfl, ?_⟩
          refine iteF ?_
          refine ⟨_, rfl, a15, f15, rfl, Ho15, by omega, by omega, fun H16 hS16 => ?_⟩
          have hg := hg.same hS16
          have Ho16 := Ho15.mono hS16
          refine ⟨_, rfl, rfl, _, rfl, ?_⟩
          rw [ht15]
          refine iteNS rfl ?_
          refine ⟨_, rfl, a15, f15, rfl, Ho16, by omega, by omega, fun H17 hS17 => ?_⟩
          have hg := hg.same hS17
          refine ⟨f15, rfl, all_ne h46 hA15, by omega, by omega, fun a18 H18 hS18 hn18 => ?_⟩
          have hg := hg.same hS18
          refine ⟨_, rfl, _, _, rfl, (hn18.at).eq ((Ho16.mono hS17).mono hS18) (by omega) (by omega), true, rfl, ?_⟩
          refine iteF ?_
          exact ⟨hg, _, _, _, _, _, _, rfl⟩
        · have hg := hg.same hS15
          rw [hw]
          refine ⟨_, rfl, rfl, _, rfl, ?_⟩
          refine iteT ?_
          refine ⟨_, rfl, _, rfl, (by show 4 ≤ sizeLine; decide), fun l hl => ?_⟩
          have hg := hg.same (Same.new hl (.lst [.str (PySem.Str.ofString "text"), .int 0, .int kk, .bl true]))
          refine ⟨_, _, rfl, two_lists (n := 128) (Same.new hl _ _ _ hp15) upd_same (by show 4 ≤ 100000; decide) (by simp [flatV]) , true, rfl, ?_⟩
          refine iteF ?_
          refine ⟨_, rfl, rfl, _, rfl, ?_⟩
          refine iteF ?_
          exact ⟨hg, _, _, _, _, _, _, rfl⟩
      · rintro σ H10 ⟨hg, v7, v8, v9, v10, v11, v12, rfl⟩
        exact ⟨hg, _, _, _, _, _, _, _, _, _, rfl⟩
    · rintro σ H3 ⟨hg, v4, v5, v6, v7, v8, v9, v10, v11, v12, rfl⟩
      clear hg
      have hLz : (S L).length ≤ sizeLine := by rw [S_len]; exact sz (by omega)
      have hLd : ∀ c ∈ L, c ≠ 46 := fun c hc e => h46 (e ▸ hc)
      refine ⟨_, rfl, _, rfl, _, rfl, hLz, _, _, rfl, rfl, _, rfl, ?_⟩
      refine ite2 (fun _ => ?_) (fun _ => ?_)
      · refine ⟨L, 3, rfl, hL3, hLd, by decide, fun p H4 row hS4 hp4 hT4 _ => ?_⟩
        refine ⟨p, rfl, ⟨_, SqL.of hp4⟩, for_it (walk_list (xs := codes row)) (fun i σ H' => Same H4 H' ∧ ∃ v5, σ = [some (.ref a), some (.ref pk), some (.str (S L)), some (.ref D), v4, v5, v6, v7, v8, v9, v10, v11, v12, none]) ?_ (fun i σ H' _ h => SqL.of (h.1 _ _ hp4)) ?_ ?_⟩
        · exact ⟨Same.refl _, _, rfl⟩
        · rintro i x σ H5 H5' hi ⟨hS5, v5, rfl⟩ ⟨rfl, hx⟩
          have hi2 : i < row.length := by rw [codes_len] at hi; exact hi
          have ex : x = .str (S row[i].code) := by
            unfold codes at hx
            rw [List.getElem?_map, List.getElem?_eq_getElem hi2] at hx
            exact (Option.some.inj hx).symm
          subst ex
          obtain ⟨wl1, wl2⟩ := hT4 _ (List.getElem_mem hi2)
          generalize row[i] = tl at *
          refine ⟨_, rfl, tl, rfl, wl1, by omega, by omega, fun a6 H6 hS6 hn6 => ?_⟩
          refine ⟨a6, tl, rfl, hn6.at, by omega, by omega, fun H7 hS7 => ?_⟩
          refine ⟨_, rfl, rfl, _, rfl, ?_⟩
          refine iteNS rfl ?_
          exact ⟨(hS5.trans hS6).trans hS7, _, rfl⟩
        · rintro σ H5 ⟨hS5, v5, rfl⟩
          exact kQ H5
      · refine ⟨L, 2, rfl, hL3, hLd, by decide, fun p H4 row hS4 hp4 hT4 _ => ?_⟩
        refine ⟨p, rfl, ⟨_, SqL.of hp4⟩, for_it (walk_list (xs := codes row)) (fun i σ H' => Same H4 H' ∧ ∃ v5, σ = [some (.ref a), some (.ref pk), some (.str (S L)), some (.ref D), v4, v5, v6, v7, v8, v9, v10, v11, v12, none]) ?_ (fun i σ H' _ h => SqL.of (h.1 _ _ hp4)) ?_ ?_⟩
        · exact ⟨Same.refl _, _, rfl⟩
        · rintro i x σ H5 H5' hi ⟨hS5, v5, rfl⟩ ⟨rfl, hx⟩
          have hi2 : i < row.length := by rw [codes_len] at hi; exact hi
          have ex : x = .str (S row[i].code) := by
            unfold codes at hx
            rw [List.getElem?_map, List.getElem?_eq_getElem hi2] at hx
            exact (Option.some.inj hx).symm
          subst ex
          obtain ⟨wl1, wl2⟩ := hT4 _ (List.getElem_mem hi2)
          generalize row[i] = tl at *
          refine ⟨_, rfl, tl, rfl, wl1, by omega, by omega, fun a6 H6 hS6 hn6 => ?_⟩
          refine ⟨a6, tl, rfl, hn6.at, by omega, by omega, fun H7 hS7 => ?_⟩
          refine ⟨_, rfl, rfl, _, rfl, ?_⟩
          refine iteNS rfl ?_
          exact ⟨(hS5.trans hS6).trans hS7, _, rfl⟩
        · rintro σ H5 ⟨hS5, v5, rfl⟩
          exact kQ H5
end
end Tb

set_option Elab.async false
set_option linter.all false
set_option maxRecDepth 100000
set_option maxHeartbeats 4000000
namespace Tb
open PySem PySem.Spec PyProof.Rows L2
section
variable {P : Program} {w : World} {K : PySem.W.Frag} {mg : Str → Option Value} {base : Heap}
theorem all_tof {f : Addr} {fd : FuncData} (M : Bi mg) (H : FnH K mg "tree_of_forest" s_tree_of_forest ["forest"] f fd) : ∀ n, FnOk P w K mg base CX0 n f fd ["forest"] (spTof n)
  | 0 => none_of_sp fun vs H Q E h => by
    obtain ⟨a, g, _, _, h, _⟩ := h
    omega
  | n + 1 => ok_tree_of_forest H.F M H (all_tof M H n)
theorem all_ftx {f : Addr} {fd : FuncData} (M : Bi mg) (H : FnH K mg "forest_text" s_forest_text ["forest"] f fd) : ∀ n, FnOk P w K mg base CX0 n f fd ["forest"] (spFtx n)
  | 0 => none_of_sp fun vs H Q E h => by
    obtain ⟨a, g, _, _, h, _⟩ := h
    omega
  | n + 1 => ok_forest_text H.F M H (all_ftx M H n)
theorem all_lto {f : Addr} {fd : FuncData} (M : Bi mg) (H : FnH K mg "_law_tree_of" s_law_tree_of ["forest"] f fd) : ∀ n, FnOk P w K mg base CX0 n f fd ["forest"] (spLto n)
  | 0 => none_of_sp fun vs H Q E h => by
    obtain ⟨a, g, _, _, h, _⟩ := h
    omega
  | n + 1 => ok_law_tree_of H.F M H (all_lto M H n)
theorem all_ltx {f : Addr} {fd : FuncData} (M : Bi mg) (H : FnH K mg "_law_text" s_law_text ["forest"] f fd) : ∀ n, FnOk P w K mg base CX0 n f fd ["forest"] (spLtx n)
  | 0 => none_of_sp fun vs H Q E h => by
    obtain ⟨a, g, _, _, h, _⟩ := h
    omega
  | n + 1 => ok_law_text H.F M H (all_ltx M H n)
theorem all_fot {f fl fr : Addr} {fd fld frd : FuncData} (M : Bi mg) (H : FnH K mg "forest_of_tree" s_forest_of_tree ["tree"] f fd) (H_left_of : FnH K mg "left_of" s_left_of ["tree"] fl fld) (G_left_of : FnOk P w K mg base CX0 2 fl fld ["tree"] spLeft) (H_right_of : FnH K mg "right_of" s_right_of ["tree"] fr frd) (G_right_of : FnOk P w K mg base CX0 2 fr frd ["tree"] spRight) :
    ∀ n, FnOk P w K mg base CX0 (n + 2) f fd ["tree"] (spFot n)
  | 0 => none_of_sp fun vs H Q E h => by
    obtain ⟨g, _, _, h, _⟩ := h
    omega
  | n + 1 => ok_forest_of_tree (n := n + 2) (by omega) H.F M H (all_fot M H H_left_of G_left_of H_right_of G_right_of n) H_left_of G_left_of H_right_of G_right_of
end
theorem all_mk {P : Program} {w : World} {K : PySem.W.Frag} {h : Heap} {mg : Str → Option Value} {fa : Addr} (X : K.In h) (G : h.Ns mainGlobals mg) (hfa : mg "law" = some (.ref fa))
    {f1 : Addr} {oc1 kV1 dc1 pm1 cd1 ct1 : Value} {od1 an1 : Option Addr} {sl1 : Array (Option Value)}
    (a1 : PySem.W.nsIn K mainGlobals "right_starts" = some (some (.ref f1))) (l1 : K.lookup f1 = some ⟨oc1, od1, .func (PySem.W.fnOf "right_starts" "right_starts" (defArgs s_right_starts) (defBody s_right_starts) (defScope s_right_starts) .none kV1 dc1 pm1 an1 cd1 ct1), sl1⟩) (c1 : PySem.W.codeIn K cd1 "right_starts" = true) (k1 : PySem.W.keepIn K (.ref f1) = true)
    {f2 : Addr} {oc2 kV2 dc2 pm2 cd2 ct2 : Value} {od2 an2 : Option Addr} {sl2 : Array (Option Value)}
    (a2 : PySem.W.nsIn K mainGlobals "left_of" = some (some (.ref f2))) (l2 : K.lookup f2 = some ⟨oc2, od2, .func (PySem.W.fnOf "left_of" "left_of" (defArgs s_left_of) (defBody s_left_of) (defScope s_left_of) .none kV2 dc2 pm2 an2 cd2 ct2), sl2⟩) (c2 : PySem.W.codeIn K cd2 "left_of" = true) (k2 : PySem.W.keepIn K (.ref f2) = true)
    {f3 : Addr} {oc3 kV3 dc3 pm3 cd3 ct3 : Value} {od3 an3 : Option Addr} {sl3 : Array (Option Value)}
    (a3 : PySem.W.nsIn K mainGlobals "right_of" = some (some (.ref f3))) (l3 : K.lookup f3 = some ⟨oc3, od3, .func (PySem.W.fnOf "right_of" "right_of" (defArgs s_right_of) (defBody s_right_of) (defScope s_right_of) .none kV3 dc3 pm3 an3 cd3 ct3), sl3⟩) (c3 : PySem.W.codeIn K cd3 "right_of" = true) (k3 : PySem.W.keepIn K (.ref f3) = true)
    {f4 : Addr} {oc4 kV4 dc4 pm4 cd4 ct4 : Value} {od4 an4 : Option Addr} {sl4 : Array (Option Value)}
    (a4 : PySem.W.nsIn K mainGlobals "tree_of_forest" = some (some (.ref f4))) (l4 : K.lookup f4 = some ⟨oc4, od4, .func (PySem.W.fnOf "tree_of_forest" "tree_of_forest" (defArgs s_tree_of_forest) (defBody s_tree_of_forest) (defScope s_tree_of_forest) .none kV4 dc4 pm4 an4 cd4 ct4), sl4⟩) (c4 : PySem.W.codeIn K cd4 "tree_of_forest" = true) (k4 : PySem.W.keepIn K (.ref f4) = true)
    {f5 : Addr} {oc5 kV5 dc5 pm5 cd5 ct5 : Value} {od5 an5 : Option Addr} {sl5 : Array (Option Value)}
    (a5 : PySem.W.nsIn K mainGlobals "forest_of_tree" = some (some (.ref f5))) (l5 : K.lookup f5 = some ⟨oc5, od5, .func (PySem.W.fnOf "forest_of_tree" "forest_of_tree" (defArgs s_forest_of_tree) (defBody s_forest_of_tree) (defScope s_forest_of_tree) .none kV5 dc5 pm5 an5 cd5 ct5), sl5⟩) (c5 : PySem.W.codeIn K cd5 "forest_of_tree" = true) (k5 : PySem.W.keepIn K (.ref f5) = true)
    {f6 : Addr} {oc6 kV6 dc6 pm6 cd6 ct6 : Value} {od6 an6 : Option Addr} {sl6 : Array (Option Value)}
    (a6 : PySem.W.nsIn K mainGlobals "forest_text" = some (some (.ref f6))) (l6 : K.lookup f6 = some ⟨oc6, od6, .func (PySem.W.fnOf "forest_text" "forest_text" (defArgs s_forest_text) (defBody s_forest_text) (defScope s_forest_text) .none kV6 dc6 pm6 an6 cd6 ct6), sl6⟩) (c6 : PySem.W.codeIn K cd6 "forest_text" = true) (k6 : PySem.W.keepIn K (.ref f6) = true)
    {f7 : Addr} {oc7 kV7 dc7 pm7 cd7 ct7 : Value} {od7 an7 : Option Addr} {sl7 : Array (Option Value)}
    (a7 : PySem.W.nsIn K mainGlobals "read_forest" = some (some (.ref f7))) (l7 : K.lookup f7 = some ⟨oc7, od7, .func (PySem.W.fnOf "read_forest" "read_forest" (defArgs s_read_forest) (defBody s_read_forest) (defScope s_read_forest) .none kV7 dc7 pm7 an7 cd7 ct7), sl7⟩) (c7 : PySem.W.codeIn K cd7 "read_forest" = true) (k7 : PySem.W.keepIn K (.ref f7) = true)
    {f8 : Addr} {oc8 kV8 dc8 pm8 cd8 ct8 : Value} {od8 an8 : Option Addr} {sl8 : Array (Option Value)}
    (a8 : PySem.W.nsIn K mainGlobals "_law_same" = some (some (.ref f8))) (l8 : K.lookup f8 = some ⟨oc8, od8, .func (PySem.W.fnOf "_law_same" "_law_same" (defArgs s_law_same) (defBody s_law_same) (defScope s_law_same) .none kV8 dc8 pm8 an8 cd8 ct8), sl8⟩) (c8 : PySem.W.codeIn K cd8 "_law_same" = true) (k8 : PySem.W.keepIn K (.ref f8) = true)
    {f9 : Addr} {oc9 kV9 dc9 pm9 cd9 ct9 : Value} {od9 an9 : Option Addr} {sl9 : Array (Option Value)}
    (a9 : PySem.W.nsIn K mainGlobals "_law_picks" = some (some (.ref f9))) (l9 : K.lookup f9 = some ⟨oc9, od9, .func (PySem.W.fnOf "_law_picks" "_law_picks" (defArgs s_law_picks) (defBody s_law_picks) (defScope s_law_picks) .none kV9 dc9 pm9 an9 cd9 ct9), sl9⟩) (c9 : PySem.W.codeIn K cd9 "_law_picks" = true) (k9 : PySem.W.keepIn K (.ref f9) = true)
    {f10 : Addr} {oc10 kV10 dc10 pm10 cd10 ct10 : Value} {od10 an10 : Option Addr} {sl10 : Array (Option Value)}
    (a10 : PySem.W.nsIn K mainGlobals "_law_pick" = some (some (.ref f10))) (l10 : K.lookup f10 = some ⟨oc10, od10, .func (PySem.W.fnOf "_law_pick" "_law_pick" (defArgs s_law_pick) (defBody s_law_pick) (defScope s_law_pick) .none kV10 dc10 pm10 an10 cd10 ct10), sl10⟩) (c10 : PySem.W.codeIn K cd10 "_law_pick" = true) (k10 : PySem.W.keepIn K (.ref f10) = true)
    {f11 : Addr} {oc11 kV11 dc11 pm11 cd11 ct11 : Value} {od11 an11 : Option Addr} {sl11 : Array (Option Value)}
    (a11 : PySem.W.nsIn K mainGlobals "_law_one" = some (some (.ref f11))) (l11 : K.lookup f11 = some ⟨oc11, od11, .func (PySem.W.fnOf "_law_one" "_law_one" (defArgs s_law_one) (defBody s_law_one) (defScope s_law_one) .none kV11 dc11 pm11 an11 cd11 ct11), sl11⟩) (c11 : PySem.W.codeIn K cd11 "_law_one" = true) (k11 : PySem.W.keepIn K (.ref f11) = true)
    {f12 : Addr} {oc12 kV12 dc12 pm12 cd12 ct12 : Value} {od12 an12 : Option Addr} {sl12 : Array (Option Value)}
    (a12 : PySem.W.nsIn K mainGlobals "_law_levels" = some (some (.ref f12))) (l12 : K.lookup f12 = some ⟨oc12, od12, .func (PySem.W.fnOf "_law_levels" "_law_levels" (defArgs s_law_levels) (defBody s_law_levels) (defScope s_law_levels) .none kV12 dc12 pm12 an12 cd12 ct12), sl12⟩) (c12 : PySem.W.codeIn K cd12 "_law_levels" = true) (k12 : PySem.W.keepIn K (.ref f12) = true)
    {f13 : Addr} {oc13 kV13 dc13 pm13 cd13 ct13 : Value} {od13 an13 : Option Addr} {sl13 : Array (Option Value)}
    (a13 : PySem.W.nsIn K mainGlobals "_law_trees" = some (some (.ref f13))) (l13 : K.lookup f13 = some ⟨oc13, od13, .func (PySem.W.fnOf "_law_trees" "_law_trees" (defArgs s_law_trees) (defBody s_law_trees) (defScope s_law_trees) .none kV13 dc13 pm13 an13 cd13 ct13), sl13⟩) (c13 : PySem.W.codeIn K cd13 "_law_trees" = true) (k13 : PySem.W.keepIn K (.ref f13) = true)
    {f14 : Addr} {oc14 kV14 dc14 pm14 cd14 ct14 : Value} {od14 an14 : Option Addr} {sl14 : Array (Option Value)}
    (a14 : PySem.W.nsIn K mainGlobals "_law_forest" = some (some (.ref f14))) (l14 : K.lookup f14 = some ⟨oc14, od14, .func (PySem.W.fnOf "_law_forest" "_law_forest" (defArgs s_law_forest) (defBody s_law_forest) (defScope s_law_forest) .none kV14 dc14 pm14 an14 cd14 ct14), sl14⟩) (c14 : PySem.W.codeIn K cd14 "_law_forest" = true) (k14 : PySem.W.keepIn K (.ref f14) = true)
    {f15 : Addr} {oc15 kV15 dc15 pm15 cd15 ct15 : Value} {od15 an15 : Option Addr} {sl15 : Array (Option Value)}
    (a15 : PySem.W.nsIn K mainGlobals "_law_tree_of" = some (some (.ref f15))) (l15 : K.lookup f15 = some ⟨oc15, od15, .func (PySem.W.fnOf "_law_tree_of" "_law_tree_of" (defArgs s_law_tree_of) (defBody s_law_tree_of) (defScope s_law_tree_of) .none kV15 dc15 pm15 an15 cd15 ct15), sl15⟩) (c15 : PySem.W.codeIn K cd15 "_law_tree_of" = true) (k15 : PySem.W.keepIn K (.ref f15) = true)
    {f16 : Addr} {oc16 kV16 dc16 pm16 cd16 ct16 : Value} {od16 an16 : Option Addr} {sl16 : Array (Option Value)}
    (a16 : PySem.W.nsIn K mainGlobals "_law_text" = some (some (.ref f16))) (l16 : K.lookup f16 = some ⟨oc16, od16, .func (PySem.W.fnOf "_law_text" "_law_text" (defArgs s_law_text) (defBody s_law_text) (defScope s_law_text) .none kV16 dc16 pm16 an16 cd16 ct16), sl16⟩) (c16 : PySem.W.codeIn K cd16 "_law_text" = true) (k16 : PySem.W.keepIn K (.ref f16) = true)
    {f17 : Addr} {oc17 kV17 dc17 pm17 cd17 ct17 : Value} {od17 an17 : Option Addr} {sl17 : Array (Option Value)}
    (a17 : PySem.W.nsIn K mainGlobals "_law_wrong" = some (some (.ref f17))) (l17 : K.lookup f17 = some ⟨oc17, od17, .func (PySem.W.fnOf "_law_wrong" "_law_wrong" (defArgs s_law_wrong) (defBody s_law_wrong) (defScope s_law_wrong) .none kV17 dc17 pm17 an17 cd17 ct17), sl17⟩) (c17 : PySem.W.codeIn K cd17 "_law_wrong" = true) (k17 : PySem.W.keepIn K (.ref f17) = true)
    {f18 : Addr} {oc18 kV18 dc18 pm18 cd18 ct18 : Value} {od18 an18 : Option Addr} {sl18 : Array (Option Value)}
    (a18 : PySem.W.nsIn K mainGlobals "_law_told" = some (some (.ref f18))) (l18 : K.lookup f18 = some ⟨oc18, od18, .func (PySem.W.fnOf "_law_told" "_law_told" (defArgs s_law_told) (defBody s_law_told) (defScope s_law_told) .none kV18 dc18 pm18 an18 cd18 ct18), sl18⟩) (c18 : PySem.W.codeIn K cd18 "_law_told" = true) (k18 : PySem.W.keepIn K (.ref f18) = true)
    {f19 : Addr} {oc19 kV19 dc19 pm19 cd19 ct19 : Value} {od19 an19 : Option Addr} {sl19 : Array (Option Value)}
    (a19 : PySem.W.nsIn K mainGlobals "law" = some (some (.ref f19))) (l19 : K.lookup f19 = some ⟨oc19, od19, .func (PySem.W.fnOf "law" "law" (defArgs s_law) (defBody s_law) (defScope s_law) .none kV19 dc19 pm19 an19 cd19 ct19), sl19⟩) (c19 : PySem.W.codeIn K cd19 "law" = true) (k19 : PySem.W.keepIn K (.ref f19) = true)
    (z_len : PySem.W.nsIn K mainGlobals "len" = some none)
    (z_range : PySem.W.nsIn K mainGlobals "range" = some none)
    (z_reversed : PySem.W.nsIn K mainGlobals "reversed" = some none)
    (z_list : PySem.W.nsIn K mainGlobals "list" = some none)
    (z_tuple : PySem.W.nsIn K mainGlobals "tuple" = some none)
    (z_dict : PySem.W.nsIn K mainGlobals "dict" = some none)
    (z_set : PySem.W.nsIn K mainGlobals "set" = some none)
    (z_enumerate : PySem.W.nsIn K mainGlobals "enumerate" = some none)
    (z_isinstance : PySem.W.nsIn K mainGlobals "isinstance" = some none)
    (z_abs : PySem.W.nsIn K mainGlobals "abs" = some none)
    (z_sum : PySem.W.nsIn K mainGlobals "sum" = some none)
    (z_sorted : PySem.W.nsIn K mainGlobals "sorted" = some none)
    (z_zip : PySem.W.nsIn K mainGlobals "zip" = some none)
    (z_any : PySem.W.nsIn K mainGlobals "any" = some none)
    (z_all : PySem.W.nsIn K mainGlobals "all" = some none)
    (z_max : PySem.W.nsIn K mainGlobals "max" = some none)
    (z_min : PySem.W.nsIn K mainGlobals "min" = some none)
    (z_int : PySem.W.nsIn K mainGlobals "int" = some none)
    (z_str : PySem.W.nsIn K mainGlobals "str" = some none)
    (z_bool : PySem.W.nsIn K mainGlobals "bool" = some none)
    (z_super : PySem.W.nsIn K mainGlobals "super" = some none)
    (z_ValueError : PySem.W.nsIn K mainGlobals "ValueError" = some none)
    {C D fI cda cc : Addr} {nm q : Str} {N : Addr} {bs : List Value} {sn : List Str} {sub : List Value} {ab : Bool} {col : Option Bool} {dd : Option Addr} {m0 m1 m2 m3 m5 : Option Value} {oc0 kV0 dc0 pm0 ct0 : Value} {od0 an0 : Option Addr} {sl0 : Array (Option Value)}
    {ccl : Value} {cdd : Option Addr} {vs : Array Value} {ccs : Array (Option Value)} {file : Str} {tf : Tok} {cl : Value} {cld : Option Addr} {csl : Array (Option Value)}
    (aC : PySem.W.nsIn K mainGlobals "BadText" = some (some (.ref C))) (aD : PySem.W.nsIn K mainGlobals "TreesError" = some (some (.ref D)))
    (xL : K.lookup C = some (excClassObj nm q C N bs [.ref D, .type "ValueError", .type "Exception", .type "BaseException", .type "object"] true sn sub ab col dd m0 m1 m2 m3 m5 "ValueError.__new__"))
    (sa : PySem.W.findIn K (.ref C) "__setattr__" = some (some (.builtin "object.__setattr__"))) (ga : PySem.W.findIn K (.ref C) "__getattribute__" = some (some (.builtin "BaseException.__getattribute__"))) (gg : PySem.W.findIn K (.ref C) "__getattr__" = some none)
    (nl : PySem.W.findIn K (.ref C) "line" = some none) (nw : PySem.W.findIn K (.ref C) "word" = some none)
    (iC : PySem.W.findIn K (.ref C) "__init__" = some (some (.ref fI))) (tC : PySem.W.typeIn K (.ref fI) = some (.type "function"))
    (l0 : K.lookup fI = some ⟨oc0, od0, .func (PySem.W.ksFn "__init__" "BadText.__init__" (defArgs s_BadText___init__) (defBody s_BadText___init__) (defScope s_BadText___init__) .none kV0 dc0 pm0 an0 (.ref cda) ct0 cc), sl0⟩) (c0 : PySem.W.codeIn K (.ref cda) "BadText.__init__" = true)
    (lc : K.lookup cda = some ⟨ccl, cdd, .fields vs, ccs⟩) (lv : vs[2]? = some (.str file tf)) (lf : ((P.main.file : Str) == file) = true) (lx : K.lookup cc = some ⟨cl, cld, .cell (some (.ref C)), csl⟩)
    (kC : PySem.W.keepIn K (.ref C) = true) (eC : PySem.W.subIn K (.ref C) (.type "BaseException") = some true) (eV : PySem.W.subIn K (.ref C) (.type "ValueError") = some true) (tyC : PySem.W.typeIn K (.ref C) = some (.type "type")) (hC : PySem.W.hasDictIn K C = true) (mr : PySem.W.mroIn K C (.ref C) = some true)
    (up : PySem.W.ks_superIn K C C "__init__" = some (some (.builtin "ValueError.__init__"))) (opq : PySem.W.nsIn K cStatics "thirdparty.any" = some none) (tp : (P.main.scope.names.lookup ("super" : Str)).isSome = false)
    (sC : PySem.W.subIn K (.ref C) (.ref C) = some true) (ha : PySem.W.findIn K (.ref C) "__class__" = some (some (.builtin "object.__class__"))) (hn : PySem.W.specialIn K (.builtin "object.__class__") "__get__" = some (some (.builtin "getset_descriptor.__get__")))
    (ht : PySem.W.takesIn K (.builtin "object.__class__") = some true) (hm : PySem.W.mroIn K C (.type "object") = some true) (ki : PySem.W.kitOne K (.ref C) (.ref D) = some true) :
    ∃ fd : FuncData, (∀ (s : Shared) (v : Value), BindsTo s fd ⟨[v], []⟩ [("script", v)]) ∧ ∀ base : Heap, K.In base → base.Ns mainGlobals mg → FnOk P w K mg base CX0 131 fa fd ["script"] (spLaw K) := by
  have e := hfa.symm.trans (PySem.W.mg_of X G a19)
  cases e
  have H1 : FnH K mg "right_starts" s_right_starts ["text"] f1 _ := ⟨fun_mk (st := s_right_starts) l1 c1 k1, PySem.W.mg_of X G a1, (fun_mk (st := s_right_starts) l1 c1 k1).binds (ps := ["text"]) fun _ _ _ _ _ _ us hl => match us, hl with | [_], _ => rfl⟩
  have H2 : FnH K mg "left_of" s_left_of ["tree"] f2 _ := ⟨fun_mk (st := s_left_of) l2 c2 k2, PySem.W.mg_of X G a2, (fun_mk (st := s_left_of) l2 c2 k2).binds (ps := ["tree"]) fun _ _ _ _ _ _ us hl => match us, hl with | [_], _ => rfl⟩
  have H3 : FnH K mg "right_of" s_right_of ["tree"] f3 _ := ⟨fun_mk (st := s_right_of) l3 c3 k3, PySem.W.mg_of X G a3, (fun_mk (st := s_right_of) l3 c3 k3).binds (ps := ["tree"]) fun _ _ _ _ _ _ us hl => match us, hl with | [_], _ => rfl⟩
  have H4 : FnH K mg "tree_of_forest" s_tree_of_forest ["forest"] f4 _ := ⟨fun_mk (st := s_tree_of_forest) l4 c4 k4, PySem.W.mg_of X G a4, (fun_mk (st := s_tree_of_forest) l4 c4 k4).binds (ps := ["forest"]) fun _ _ _ _ _ _ us hl => match us, hl with | [_], _ => rfl⟩
  have H5 : FnH K mg "forest_of_tree" s_forest_of_tree ["tree"] f5 _ := ⟨fun_mk (st := s_forest_of_tree) l5 c5 k5, PySem.W.mg_of X G a5, (fun_mk (st := s_forest_of_tree) l5 c5 k5).binds (ps := ["tree"]) fun _ _ _ _ _ _ us hl => match us, hl with | [_], _ => rfl⟩
  have H6 : FnH K mg "forest_text" s_forest_text ["forest"] f6 _ := ⟨fun_mk (st := s_forest_text) l6 c6 k6, PySem.W.mg_of X G a6, (fun_mk (st := s_forest_text) l6 c6 k6).binds (ps := ["forest"]) fun _ _ _ _ _ _ us hl => match us, hl with | [_], _ => rfl⟩
  have H7 : FnH K mg "read_forest" s_read_forest ["letters", "text"] f7 _ := ⟨fun_mk (st := s_read_forest) l7 c7 k7, PySem.W.mg_of X G a7, (fun_mk (st := s_read_forest) l7 c7 k7).binds (ps := ["letters", "text"]) fun _ _ _ _ _ _ us hl => match us, hl with | [_, _], _ => rfl⟩
  have H8 : FnH K mg "_law_same" s_law_same ["told", "due"] f8 _ := ⟨fun_mk (st := s_law_same) l8 c8 k8, PySem.W.mg_of X G a8, (fun_mk (st := s_law_same) l8 c8 k8).binds (ps := ["told", "due"]) fun _ _ _ _ _ _ us hl => match us, hl with | [_, _], _ => rfl⟩
  have H9 : FnH K mg "_law_picks" s_law_picks ["script", "k", "count"] f9 _ := ⟨fun_mk (st := s_law_picks) l9 c9 k9, PySem.W.mg_of X G a9, (fun_mk (st := s_law_picks) l9 c9 k9).binds (ps := ["script", "k", "count"]) fun _ _ _ _ _ _ us hl => match us, hl with | [_, _, _], _ => rfl⟩
  have H10 : FnH K mg "_law_pick" s_law_pick ["picks", "many"] f10 _ := ⟨fun_mk (st := s_law_pick) l10 c10 k10, PySem.W.mg_of X G a10, (fun_mk (st := s_law_pick) l10 c10 k10).binds (ps := ["picks", "many"]) fun _ _ _ _ _ _ us hl => match us, hl with | [_, _], _ => rfl⟩
  have H11 : FnH K mg "_law_one" s_law_one ["picks", "items"] f11 _ := ⟨fun_mk (st := s_law_one) l11 c11 k11, PySem.W.mg_of X G a11, (fun_mk (st := s_law_one) l11 c11 k11).binds (ps := ["picks", "items"]) fun _ _ _ _ _ _ us hl => match us, hl with | [_, _], _ => rfl⟩
  have H12 : FnH K mg "_law_levels" s_law_levels ["letters", "most"] f12 _ := ⟨fun_mk (st := s_law_levels) l12 c12 k12, PySem.W.mg_of X G a12, (fun_mk (st := s_law_levels) l12 c12 k12).binds (ps := ["letters", "most"]) fun _ _ _ _ _ _ us hl => match us, hl with | [_, _], _ => rfl⟩
  have H13 : FnH K mg "_law_trees" s_law_trees ["letters", "most"] f13 _ := ⟨fun_mk (st := s_law_trees) l13 c13 k13, PySem.W.mg_of X G a13, (fun_mk (st := s_law_trees) l13 c13 k13).binds (ps := ["letters", "most"]) fun _ _ _ _ _ _ us hl => match us, hl with | [_, _], _ => rfl⟩
  have H14 : FnH K mg "_law_forest" s_law_forest ["picks", "letters", "depth"] f14 _ := ⟨fun_mk (st := s_law_forest) l14 c14 k14, PySem.W.mg_of X G a14, (fun_mk (st := s_law_forest) l14 c14 k14).binds (ps := ["picks", "letters", "depth"]) fun _ _ _ _ _ _ us hl => match us, hl with | [_, _, _], _ => rfl⟩
  have H15 : FnH K mg "_law_tree_of" s_law_tree_of ["forest"] f15 _ := ⟨fun_mk (st := s_law_tree_of) l15 c15 k15, PySem.W.mg_of X G a15, (fun_mk (st := s_law_tree_of) l15 c15 k15).binds (ps := ["forest"]) fun _ _ _ _ _ _ us hl => match us, hl with | [_], _ => rfl⟩
  have H16 : FnH K mg "_law_text" s_law_text ["forest"] f16 _ := ⟨fun_mk (st := s_law_text) l16 c16 k16, PySem.W.mg_of X G a16, (fun_mk (st := s_law_text) l16 c16 k16).binds (ps := ["forest"]) fun _ _ _ _ _ _ us hl => match us, hl with | [_], _ => rfl⟩
  have H17 : FnH K mg "_law_wrong" s_law_wrong ["letters", "text"] f17 _ := ⟨fun_mk (st := s_law_wrong) l17 c17 k17, PySem.W.mg_of X G a17, (fun_mk (st := s_law_wrong) l17 c17 k17).binds (ps := ["letters", "text"]) fun _ _ _ _ _ _ us hl => match us, hl with | [_, _], _ => rfl⟩
  have H18 : FnH K mg "_law_told" s_law_told ["letters", "text"] f18 _ := ⟨fun_mk (st := s_law_told) l18 c18 k18, PySem.W.mg_of X G a18, (fun_mk (st := s_law_told) l18 c18 k18).binds (ps := ["letters", "text"]) fun _ _ _ _ _ _ us hl => match us, hl with | [_, _], _ => rfl⟩
  have H19 : FnH K mg "law" s_law ["script"] fa _ := ⟨fun_mk (st := s_law) l19 c19 k19, PySem.W.mg_of X G a19, (fun_mk (st := s_law) l19 c19 k19).binds (ps := ["script"]) fun _ _ _ _ _ _ us hl => match us, hl with | [_], _ => rfl⟩
  have M : Bi mg := ⟨PySem.W.mg_none_of X G z_len, PySem.W.mg_none_of X G z_range, PySem.W.mg_none_of X G z_reversed, PySem.W.mg_none_of X G z_list, PySem.W.mg_none_of X G z_tuple, PySem.W.mg_none_of X G z_dict, PySem.W.mg_none_of X G z_set, PySem.W.mg_none_of X G z_enumerate, PySem.W.mg_none_of X G z_isinstance, PySem.W.mg_none_of X G z_abs, PySem.W.mg_none_of X G z_sum, PySem.W.mg_none_of X G z_sorted, PySem.W.mg_none_of X G z_zip, PySem.W.mg_none_of X G z_any, PySem.W.mg_none_of X G z_all, PySem.W.mg_none_of X G z_max, PySem.W.mg_none_of X G z_min, PySem.W.mg_none_of X G z_int, PySem.W.mg_none_of X G z_str, PySem.W.mg_none_of X G z_bool, PySem.W.mg_none_of X G z_super, PySem.W.mg_none_of X G z_ValueError⟩
  obtain ⟨q1, q2, q3, q4, q42, q5, q6, p1, p2, p3, p4, r1, r2, r3, r4, eb⟩ : ∃ q1 q2 q3 q4 q42 q5 q6 p1 p2 p3 p4 r1 r2 r3 r4 : Pos, defBody s_BadText___init__ = PySem.Bx.body2 "line" "word" q1 q2 q3 q4 q42 q5 q6 p1 p2 p3 p4 r1 r2 r3 r4 ∧ PySem.Bx.Reads q1 q2 q3 q5 [.Name "line" q4, .Name "word" q42] :=
    ⟨_, _, _, _, _, _, _, _, _, _, _, _, _, _, _, rfl, fun _ => ⟨_, rfl⟩⟩
  obtain ⟨eb, hrd⟩ := eb
  rw [eb] at l0
  have T : PySem.Bx.Txt K P mg "BadText" "BadText.__init__" ["line", "word"] (PySem.Bx.body2 "line" "word" q1 q2 q3 q4 q42 q5 q6 p1 p2 p3 p4 r1 r2 r3 r4) C fI _ :=
    { gC := PySem.W.mg_of X G aC, cls := ⟨nm, q, N, bs, _, sn, sub, ab, col, dd, m0, m1, m2, m3, m5, xL, by show PySem.HandSPX.refsVE [.type "ValueError", .type "Exception", .type "BaseException", .type "object"] = true; decide +kernel⟩, sa := sa,
      noN := fun n hn => by
        rcases List.mem_cons.mp hn with rfl | hn
        · exact nl
        rw [List.mem_singleton.mp hn]
        exact nw
      iC := iC, tC := tC, kC := kC, exC := eC, exV := eV, tyC := tyC, hdC := hC, mro := mr, up := up, opq := opq, sup := M.super, tops := tp,
      fn := ⟨oc0, od0, kV0, dc0, pm0, an0, cda, cc, ct0, sl0, "__init__", defArgs s_BadText___init__, defScope s_BadText___init__, rfl, l0, c0, ⟨ccl, cdd, vs, ccs, file, tf, lc, lv, lf⟩, ⟨cl, cld, csl, lx⟩, rfl, rfl, rfl, rfl, by decide +kernel, by decide +kernel, by decide +kernel, by decide +kernel, by decide +kernel, fun us hu => match us, hu with | [_, _, _], _ => rfl⟩ }
  have hi := PySem.Bx.inits2 (w := w) T (by decide) (by decide) (by decide) hrd (by decide) (by decide)
  have xf : XfC K C := ⟨ga, gg, eC, hC⟩
  have xc : ExcC K C := ⟨ga, gg, eC, hC, ha, hn, ht, hm⟩
  have em : PySem.W.exmOne K (.ref C) (.ref C) = some true := PySem.W.exm_ref eC hC tyC sC
  refine ⟨PySem.W.fnOf "law" "law" (defArgs s_law) (defBody s_law) (defScope s_law) .none kV19 dc19 pm19 an19 cd19 ct19, fun s v => .of_eq rfl, fun base _ _ => ?_⟩
  case _ =>
    have g1 := ok_right_starts (P := P) (w := w) (base := base) H1.F M
    have g2 := ok_left_of H2.F M H1 g1
    have g3 := ok_right_of H3.F M H1 g1
    have g9 := ok_law_picks (P := P) (w := w) (base := base) H9.F M
    have g10 := ok_law_pick (P := P) (w := w) (base := base) H10.F M
    have g11 := ok_law_one H11.F M H10 g10
    have g12 := ok_law_levels (P := P) (w := w) (base := base) H12.F M
    have g13 := ok_law_trees H13.F M H12 g12
    have g14 := forest_all M H14 H10 g10 H11 g11 4
    have g7 := ok_read_forest (w := w) (base := base) H7.F M T hi
    have g18 := ok_law_told H18.F M T xc xf em (PySem.W.mg_of X G aD) ki H7 g7
    have g17 := ok_law_wrong (P := P) (w := w) (base := base) H17.F M
    exact ok_law H19.F M H9 g9 H11 g11 H10 g10 H14 g14 H15 (all_lto M H15 130) H8 (same_all H8 M 130) H4 (all_tof M H4 130)
      H5 (all_fot M H5 H2 g2 H3 g3 128) H16 (all_ltx M H16 130) H6 (all_ftx M H6 130) H18 g18 H17 g17 H13 g13
end Tb
open PySem PySem.W PyProof.Rows
set_option maxRecDepth 100000 in
set_option maxHeartbeats 0 in
theorem PySem.Challenge.cw_treesbeside_k93_forests_written_and_read_holds : PySem.Challenge.rw_treesbeside_k93_forests_written_and_read.Holds := by
  w_on; o_law; k_head; (case hw => w_witness2)
  k_fill
  refine L2.walk_of (l := PySem.Challenge.rw_treesbeside_k93_forests_written_and_read) (n := 63) (k := 131) (x := "script") (CX := fun _ => L2.CX0) (sp := fun w => Tb.spLaw _) rfl (by decide) rfl ⟨rfl, by decide, by decide⟩ (fun w h Y => PySem.W.kIn_of Y) ?F (fun _ _ a ns hl _ hS => ⟨a, ns, rfl, hS, fun _ => rfl⟩) (fun _ _ _ _ _ z => z)
  case F =>
    intro w mg fa h KX G hmg
    refine' Tb.all_mk KX G hmg ?a1 ?l1 ?c1 ?k1 ?a2 ?l2 ?c2 ?k2 ?a3 ?l3 ?c3 ?k3 ?a4 ?l4 ?c4 ?k4 ?a5 ?l5 ?c5 ?k5 ?a6 ?l6 ?c6 ?k6 ?a7 ?l7 ?c7 ?k7 ?a8 ?l8 ?c8 ?k8 ?a9 ?l9 ?c9 ?k9 ?a10 ?l10 ?c10 ?k10 ?a11 ?l11 ?c11 ?k11 ?a12 ?l12 ?c12 ?k12 ?a13 ?l13 ?c13 ?k13 ?a14 ?l14 ?c14 ?k14 ?a15 ?l15 ?c15 ?k15 ?a16 ?l16 ?c16 ?k16 ?a17 ?l17 ?c17 ?k17 ?a18 ?l18 ?c18 ?k18 ?a19 ?l19 ?c19 ?k19 ?z_len ?z_range ?z_reversed ?z_list ?z_tuple ?z_dict ?z_set ?z_enumerate ?z_isinstance ?z_abs ?z_sum ?z_sorted ?z_zip ?z_any ?z_all ?z_max ?z_min ?z_int ?z_str ?z_bool ?z_super ?z_ValueError ?aC ?aD ?xL ?sa ?ga ?gg ?nl ?nw ?iC ?tC ?l0 ?c0 ?lc ?lv ?lf ?lx ?kC ?eC ?eV ?tyC ?hC ?mr ?up ?opq ?tp ?sC ?ha ?hn ?ht ?hm ?ki
    (case a1 => k_is)
    (case l1 => k_is)
    (case c1 => k_is)
    (case k1 => k_is)
    (case a2 => k_is)
    (case l2 => k_is)
    (case c2 => k_is)
    (case k2 => k_is)
    (case a3 => k_is)
    (case l3 => k_is)
    (case c3 => k_is)
    (case k3 => k_is)
    (case a4 => k_is)
    (case l4 => k_is)
    (case c4 => k_is)
    (case k4 => k_is)
    (case a5 => k_is)
    (case l5 => k_is)
    (case c5 => k_is)
    (case k5 => k_is)
    (case a6 => k_is)
    (case l6 => k_is)
    (case c6 => k_is)
    (case k6 => k_is)
    (case a7 => k_is)
    (case l7 => k_is)
    (case c7 => k_is)
    (case k7 => k_is)
    (case a8 => k_is)
    (case l8 => k_is)
    (case c8 => k_is)
    (case k8 => k_is)
    (case a9 => k_is)
    (case l9 => k_is)
    (case c9 => k_is)
    (case k9 => k_is)
    (case a10 => k_is)
    (case l10 => k_is)
    (case c10 => k_is)
    (case k10 => k_is)
    (case a11 => k_is)
    (case l11 => k_is)
    (case c11 => k_is)
    (case k11 => k_is)
    (case a12 => k_is)
    (case l12 => k_is)
    (case c12 => k_is)
    (case k12 => k_is)
    (case a13 => k_is)
    (case l13 => k_is)
    (case c13 => k_is)
    (case k13 => k_is)
    (case a14 => k_is)
    (case l14 => k_is)
    (case c14 => k_is)
    (case k14 => k_is)
    (case a15 => k_is)
    (case l15 => k_is)
    (case c15 => k_is)
    (case k15 => k_is)
    (case a16 => k_is)
    (case l16 => k_is)
    (case c16 => k_is)
    (case k16 => k_is)
    (case a17 => k_is)
    (case l17 => k_is)
    (case c17 => k_is)
    (case k17 => k_is)
    (case a18 => k_is)
    (case l18 => k_is)
    (case c18 => k_is)
    (case k18 => k_is)
    (case a19 => k_is)
    (case l19 => k_is)
    (case c19 => k_is)
    (case k19 => k_is)
    (case z_len => k_is)
    (case z_range => k_is)
    (case z_reversed => k_is)
    (case z_list => k_is)
    (case z_tuple => k_is)
    (case z_dict => k_is)
    (case z_set => k_is)
    (case z_enumerate => k_is)
    (case z_isinstance => k_is)
    (case z_abs => k_is)
    (case z_sum => k_is)
    (case z_sorted => k_is)
    (case z_zip => k_is)
    (case z_any => k_is)
    (case z_all => k_is)
    (case z_max => k_is)
    (case z_min => k_is)
    (case z_int => k_is)
    (case z_str => k_is)
    (case z_bool => k_is)
    (case z_super => k_is)
    (case z_ValueError => k_is)
    (case aC => k_is)
    (case aD => k_is)
    (case xL => k_is)
    (case sa => k_is)
    (case ga => k_is)
    (case gg => k_is)
    (case nl => k_is)
    (case nw => k_is)
    (case iC => k_is)
    (case tC => k_is)
    (case l0 => k_is)
    (case c0 => k_is)
    (case lc => k_is)
    (case lv => first | rfl | k_is)
    (case lf => first | rfl | decide +kernel | k_is)
    (case lx => k_is)
    (case kC => k_is)
    (case eC => k_is)
    (case eV => k_is)
    (case tyC => k_is)
    (case hC => k_is)
    (case mr => first | k_is | rfl)
    (case up => first | k_is | rfl | decide +kernel)
    (case opq => first | k_is | rfl)
    (case tp => first | rfl | decide +kernel | k_is)
    (case sC => first | rfl | k_is)
    (case ha => k_is)
    (case hn => k_is)
    (case ht => k_is)
    (case hm => k_is)
    (case ki => first | k_is | rfl | decide +kernel)
