import PyProof.Rows.All
import Wide.All
import OpenK.AllK
import Wide.FinOn
import PyProof.EqAt
import PyProof.EqKinds
import PyProof.TupleCall
import HandS.ExcCtx
import KE.KExcSuper
import KE.KExcIs
import HandS.IsInst
import HandS.ForMost
import HandS.ForExc
import HandS.Evl
import HandS.Wide
import HandS.WideBits
import HandS.Property
import HandS.Walk
import KE.GoesEnum
import KE.GoesMore
import HandS.SetFor
import HandS.HotCalls
import HandS.ExcInitHot
import KE.KEqDict
import HandS.Gcd
import HandS.Defaults
import HandS.SortInts
import HandS.Head0
import HandS.Head1
import HandS.Head2
import HandS.Head3
import HandS.HeadEnd
import HandS.HeadHook1
import HandS.HeadHook2
import PySem.Challenge.RW_primedeep_k89_two_term_everywhere
set_option Elab.async false
set_option linter.all false
set_option maxRecDepth 100000
set_option maxHeartbeats 0
set_option exponentiation.threshold 256
namespace PySem
namespace KX
open PySem.W PySem.Calls PyProof.Rows PySem.HandSPX
def supE (msg : Str) (k : Nat) (p0 p1 p2 p3 p4 : Pos) : Expr := .Call (.Attribute (.Call (.Name "super" p0) [] [] p1) "__init__" p2) [.Constant (.str msg) k p3] [] p4
def SupEv (env : Env) (msg : Str) (k : Nat) (p0 p1 p2 p3 p4 : Pos) : Prop := ∃ pl : Sem Bool, eval (supE msg k p0 p1 p2 p3 p4) env = (do
      let ov ← attributeBase (.Call (.Name "super" p0) [] [] p1) "__init__" env (eval (.Call (.Name "super" p0) [] [] p1) env)
      standAt p2.atName
      let (f, first) ← holding [ov] (getMethod ov "__init__" pl)
      callWith p4 f first (backTo p4 (starEach [.Constant (.str msg) k p3] env)) [])
def supS (msg : Str) (k : Nat) (p0 p1 p2 p3 p4 p5 : Pos) : Stmt :=
  .Expr (.Call (.Attribute (.Call (.Name "super" p0) [] [] p1) "__init__" p2) [.Constant (.str msg) k p3] [] p4) p5
def fldS (f : Str) (p0 p1 p2 p3 : Pos) : Stmt := .Assign [.Attribute (.Name "self" p0) f p1] (.Name f p2) p3
def args0 (p1 : Pos) : Arguments := { posonlyargs := [], args := [{ arg := "self", annotation := none, pos := p1 }], vararg := none, kwonlyargs := [], kw_defaults := [], kwarg := none, defaults := [] }
def args1 (f : Str) (p1 p2 : Pos) : Arguments := { posonlyargs := [], args := [{ arg := "self", annotation := none, pos := p1 }, { arg := f, annotation := none, pos := p2 }], vararg := none, kwonlyargs := [], kw_defaults := [], kwarg := none, defaults := [] }
def scope0 : Scope := { kind := .function, names := [(PySem.Str.ofString "self", .local), (PySem.Str.ofString "__class__", .free), (PySem.Str.ofString "super", .globalImplicit)], isGenerator := false, isCoroutine := false, more := [] }
def scope1 (f : Str) : Scope := { kind := .function, names := [(PySem.Str.ofString "self", .local), (f, .local), (PySem.Str.ofString "__class__", .free), (PySem.Str.ofString "super", .globalImplicit)], isGenerator := false, isCoroutine := false, more := [] }
structure ErrC (prog : Program) (K : Frag) (mg : Str → Option Value) (nm : Str) (C fI cc cda : Addr) : Prop where
  gC : mg nm = some (.ref C)
  cls : ∃ nm q N bs bm sn sub ab col dd k0 k1 k2 k3 k5, K.lookup C = some (excClassObj nm q C N bs bm true sn sub ab col dd k0 k1 k2 k3 k5 "ValueError.__new__") ∧ refsVE bm = true
  sa : findIn K (.ref C) "__setattr__" = some (some (.builtin "object.__setattr__"))
  ga : findIn K (.ref C) "__getattribute__" = some (some (.builtin "BaseException.__getattribute__"))
  gg : findIn K (.ref C) "__getattr__" = some none
  iC : findIn K (.ref C) "__init__" = some (some (.ref fI))
  tC : typeIn K (.ref fI) = some (.type "function")
  kC : keepIn K (.ref C) = true
  exC : subIn K (.ref C) (.type "BaseException") = some true
  exV : subIn K (.ref C) (.type "ValueError") = some true
  tyC : typeIn K (.ref C) = some (.type "type")
  hdC : hasDictIn K C = true
  mC : mroIn K C (.ref C) = some true
  sup : ks_superIn K C C "__init__" = some (some (.builtin "ValueError.__init__"))
  tp : nsIn K cStatics "thirdparty.any" = some none
  sg : mg "super" = none
  cell : ∃ cl cld csl, K.lookup cc = some ⟨cl, cld, .cell (some (.ref C)), csl⟩
  code : ∃ ccl cdd vs ccs file tf, K.lookup cda = some ⟨ccl, cdd, .fields vs, ccs⟩ ∧ vs[2]? = some (.str file tf) ∧ ((prog.main.file : Str) == file) = true
  top : (prog.main.scope.names.lookup ("super" : Str)).isSome = false
structure Err1 (prog : Program) (K : Frag) (mg : Str → Option Value) (nm f : Str) (C fI cc cda : Addr) : Prop extends ErrC prog K mg nm C fI cc cda where
  noN : findIn K (.ref C) f = some none
  nf : f ≠ "self" ∧ f ≠ "__debug__" ∧ f ≠ "__classdict__" ∧ f ≠ "super" ∧ f ≠ "__class__"
  fn : ∃ (oc : Value) (od : Option Addr) (doc pm : Value) (an : Option Addr) (ct : Value) (osl : Array (Option Value)) (qual msg : Str) (k : Nat) (p1 p2 q0 q1 q2 q3 q4 q5 r0 r1 r2 r3 : Pos),
    K.lookup fI = some ⟨oc, od, .func (ksFn "__init__" qual (args1 f p1 p2) [supS msg k q0 q1 q2 q3 q4 q5, fldS f r0 r1 r2 r3] (scope1 f) .none .none doc pm an (.ref cda) ct cc), osl⟩ ∧ codeIn K (.ref cda) qual = true ∧ ∀ (q : Str) (L : Addr), SupEv (ksEnv q (scope1 f) L fI (.ref cda) cc) msg k q0 q1 q2 q3 q4
structure Err0 (prog : Program) (K : Frag) (mg : Str → Option Value) (nm : Str) (C fI cc cda : Addr) : Prop extends ErrC prog K mg nm C fI cc cda where
  fn : ∃ (oc : Value) (od : Option Addr) (doc pm : Value) (an : Option Addr) (ct : Value) (osl : Array (Option Value)) (qual msg : Str) (k : Nat) (p1 q0 q1 q2 q3 q4 q5 : Pos),
    K.lookup fI = some ⟨oc, od, .func (ksFn "__init__" qual (args0 p1) [supS msg k q0 q1 q2 q3 q4 q5] scope0 .none .none doc pm an (.ref cda) ct cc), osl⟩ ∧ codeIn K (.ref cda) qual = true ∧ ∀ (q : Str) (L : Addr), SupEv (ksEnv q scope0 L fI (.ref cda) cc) msg k q0 q1 q2 q3 q4
theorem mod_keeps {K : Frag} {mg : Str → Option Value} {h h' : Heap} (M : L2.Mod K mg h) (k : ∀ b o, h.get? b = some o → h'.get? b = some o) : L2.Mod K mg h' :=
  ⟨M.kin.keeps k, M.glob.keeps k, by
    obtain ⟨mb, h1, h2⟩ := M.blt
    exact ⟨mb, h1.keeps k, h2⟩, M.nolimit.keeps k⟩
theorem one_size (v : Value) : [v].length ≤ sizeLine := by
  rw [sizeLine_eq]
  exact (by decide : 1 ≤ 16777216)
theorem nil_size : ([] : List Value).length ≤ sizeLine := Nat.zero_le _
section
variable {prog : Program} {w : World} {A : Around} {E : Value → Shared → Prop} {R : Result → Shared → Prop} {s : Shared} {K : Frag} {mg : Str → Option Value} {nm f : Str} {C fI cc cda : Addr}
theorem call_mw (T : ErrC prog K mg nm C fI cc cda) {u e t0 : Addr} {rest : List Value} {Q : Value → Shared → Prop} (X : K.In s.heap) (he : s.heap.get? e = some (excO C t0)) (hu : s.heap.get? u = some (kxs_mw "ValueError.__init__" e)) (hrest : rest.length ≤ sizeLine)
    (hq : ∀ h' t1, (∀ b o, b ≠ e → s.heap.get? b = some o → h'.get? b = some o) → h'.get? e = some (excO C t1) → Q .none { s with heap := h' }) : wpAny (model prog w) A (call (.ref u) rest) Q E s := by
  obtain ⟨nm, q, N, bs, bm, sn, sub, ab, col, dd, k0, k1, k2, k3, k5, hC, hbm⟩ := T.cls
  have hC' := X _ _ hC
  obtain ⟨hp, g, d, t, os⟩ := s
  refine wpAny_call (codeAny_of_tree ?_)
  show wpAny _ A.in1 (callAny (.ref u) ⟨rest, []⟩) _ _ _
  simp only [callAny]
  refine wpAny_bind (wpAny_load hu ?_)
  simp only [kxs_mw, show (Value.type "method-wrapper" == Value.type "method" || Value.type "method-wrapper" == Value.type "builtin_function_or_method" || Value.type "method-wrapper" == Value.type "method-wrapper") = true by decide, if_true]
  refine KFB.if_so (by decide) ?_
  refine wpAny_bind (check_bound_init F.excBase_ValueError.toExcCallFacts hC' he rfl ?_)
  refine wpAny_bind (wpAny_pure (wpAny_pure ?_))
  refine ⟨plainId_quiet F.excBase_ValueError.init.plain _, codeAny_builtin F.excBase_ValueError.initEntry ?_⟩
  exact exc_init_tree (cls := .ref C) (t0 := t0) (dv := none) (c2 := .none) (c3 := .none) (b4 := .bool false) he hrest fun h' k e' _ => hq h' _ k e'
theorem sup_step (T : ErrC prog K mg nm C fI cc cda) {body : List Stmt} {q : Str} {scope : Scope} {L x t0 : Addr} {m : Str → Option Value} {of : Obj} {fd : FuncData} {msg : Str} {k : Nat} {p0 p1 p2 p3 p4 p5 : Pos} {Q : Flow → Shared → Prop}
    (M : L2.Mod K mg s.heap) (hm : s.heap.Ns L m) (hself : m "self" = some (.ref x)) (hx : s.heap.get? x = some (excO C t0)) (hlx : K.lookup x = none)
    (hf : s.heap.get? fI = some of) (hfd : of.data = .func fd) (hp : ∃ a, (fd.params.posonlyargs ++ fd.params.args).head? = some a ∧ a.arg = "self")
    (hks : scope.names.lookup ("super" : Str) = some .globalImplicit) (hkc : scope.names.lookup ("__class__" : Str) = some .free) (hka : scope.names.lookup ("self" : Str) = some .local) (hk : scope.kind = .function)
    (hi : interactive (ksEnv q scope L fI (.ref cda) cc) = false) (hs : swapsWith (supE msg k p0 p1 p2 p3 p4) none p5.line (ksEnv q scope L fI (.ref cda) cc) = pure false) (hev : SupEv (ksEnv q scope L fI (.ref cda) cc) msg k p0 p1 p2 p3 p4)
    (hq : ∀ h' tk t1, (∀ b o, b ≠ x → s.heap.get? b = some o → h'.get? b = some o) → h'.get? x = some (excO C t1) → Q .next { s with heap := h', toks := tk }) :
    _root_.PySem.wpAt (model prog w) A (.func body (ksEnv q scope L fI (.ref cda) cc)) (exec (supS msg k p0 p1 p2 p3 p4 p5) (ksEnv q scope L fI (.ref cda) cc)) Q E s := by
  obtain ⟨nm', q', N, bs, bm, sn, sub, ab, col, dd, k0, k1, k2, k3, k5, hC, hbm⟩ := T.cls
  have hcl : clsIn K C = some { name := nm', bases := bs, mro := .ref C :: bm, ns := N, qualname := q', hasDict := true, slotNames := sn, subclasses := sub, abstract := ab, collection := col, hasDel := false } := by unfold clsIn; rw [hC] <;> rfl
  obtain ⟨cl, cld, csl, hcell⟩ := T.cell
  obtain ⟨ccl, cdd, vs, ccs, file, tf, hcode, hvs, hfile⟩ := T.code
  obtain ⟨ar, hp1, hp2⟩ := hp
  have X := M.kin
  have hxC : x ≠ C := fun z => by rw [z, hC] at hlx; cases hlx
  have hsup := T.sup
  unfold ks_superIn at hsup
  rw [hcl] at hsup
  obtain ⟨hh, g, d, t, os⟩ := s
  obtain ⟨pl, hev⟩ := hev
  refine ks_wpAt_Expr_any ?_ hi hs
  refine ks_wpAt_MethodCall ?_ hev
  refine ks_wpAt_super_base (env := ksEnv q scope L fI (.ref cda) cc) hks hkc (by decide) rfl hf hfd hp1 rfl (X _ _ hcode) rfl hvs hfile T.top ?_
  obtain ⟨mb, hb1, hb2⟩ := M.blt
  refine ks_loadName_global hk hks (loadGlobal_builtin (env := ksEnv q scope L fI (.ref cda) cc) M.glob T.sg hb1 ((hb2 _ (by decide +kernel)).trans (show bootBuiltins "super" = some (.type "super") by first | boot_by_name | rfl | kernel_rfl)) ⟨rfl, ?_⟩)
  refine wpAny_loadName_free hk hkc rfl ⟨_, X _ _ hcell, rfl⟩ ?_
  rw [hp2]
  refine wpAny_loadName_local hk hka hm hself ?_
  refine ks_wpAny_isType_cls (X _ _ hC) rfl ⟨rfl, ?_⟩
  refine ks_wpAny_call_super (X _ _ hC) rfl hx rfl (fun c e => by cases e) (looks_mroIn X T.mC) (fun h1 e1 k1' => ?_)
  have X1 : K.In h1 := X.keeps k1'
  have hx1 := k1' _ _ hx
  have I1 : InstAt h1 x (excO C t0) C none := ⟨hx1, rfl, rfl, trivial⟩
  have hI : Looks (model prog w) h1 (isInstance (.ref x) (.type "ValueError")) true := I1.type.andThen (looks_subIn X1 T.exV)
  refine kxs_getMethod kxs_ValueError e1 (looks_opaque X1 T.tp) (l₀ := .ref C :: bm) ?_ rfl X1 hsup hI hxC (by decide) ?_
  · exact fun A Q E s k q => wpAny_bind ((looks_clsIn X1 hcl) A _ E s k (wpAny_pure q))
  have hx2 : (h1.push (kxs_mw "ValueError.__init__" x)).get? x = some (excO C t0) := Heap.get?_push_of_some _ hx1
  have hu2 : (h1.push (kxs_mw "ValueError.__init__" x)).get? h1.objs.size = some (kxs_mw "ValueError.__init__" x) := Heap.get?_push_at rfl rfl
  have k2' : ∀ b o, hh.get? b = some o → (h1.push (kxs_mw "ValueError.__init__" x)).get? b = some o := fun b o e => Heap.get?_push_of_some _ (k1' b o e)
  refine kxs_callWith (i := "ValueError.__init__") (x := x) rfl ?_
  show wpAny _ _ (evalArgs _ true (backTo p4 (starEach [.Constant (.str msg) k p3] (ksEnv q scope L fI (.ref cda) cc))) []) _ _ _
  refine evalArgs_plain ?_
  show wpAny _ _ (spliced ((false, eval (.Constant (.str msg) k p3) (ksEnv q scope L fI (.ref cda) cc)) :: [])) _ _ _
  refine spliced_cons (Constant_str (spliced_nil ⟨hu2, ?_⟩))
  refine call_mw (s := ⟨h1.push (kxs_mw "ValueError.__init__" x), g, d, _, os⟩) T (X.keeps k2') hx2 hu2 (one_size _) fun h3 t1 k3' e3 => ?_
  exact hq h3 _ t1 (fun b o hb e => k3' b o hb (k2' b o e)) e3
structure Done1 (h h' : Heap) (x C dx : Addr) (f : Str) (v : Value) : Prop where
  keep : ∀ b o, b ≠ x → h.get? b = some o → h'.get? b = some o
  obj : ∃ t1 : Addr, h'.get? x = some { cls := .ref C, dict := some dx, data := .fields #[.ref t1, .none, .none, .none, .bool false, .none] }
  dbig : h.objs.size ≤ dx
  dne : dx ≠ x
  ns : h'.Ns1 dx (fun y => if y = f then some v else none)
structure FldOk (f : Str) : Prop where
  hsup : (scope1 f).names.lookup ("super" : Str) = some .globalImplicit
  hcls : (scope1 f).names.lookup ("__class__" : Str) = some .free
  hself : (scope1 f).names.lookup ("self" : Str) = some .local
  hf : (scope1 f).names.lookup f = some .local
  ne : f ≠ "self"
  hd : (f == ("__debug__" : Str)) = false
  inter : ∀ (q : Str) (L fI cda cc : Addr), interactive (ksEnv q (scope1 f) L fI (.ref cda) cc) = false
  sw : ∀ (q : Str) (L fI cda cc : Addr) msg k p0 p1 p2 p3 p4 n, swapsWith (supE msg k p0 p1 p2 p3 p4) none n (ksEnv q (scope1 f) L fI (.ref cda) cc) = pure false
  sw2 : ∀ (q : Str) (L fI cda cc : Addr) (r0 r1 r2 : Pos) n, swapsWith (.Name f r2) (some (.Attribute (.Name "self" r0) f r1)) n (ksEnv q (scope1 f) L fI (.ref cda) cc) = pure false
  bind : ∀ (s : Shared) qual body p1 p2 doc pm an cd ct cc (a b : Value), BindsTo s (ksFn "__init__" qual (args1 f p1 p2) body (scope1 f) .none .none doc pm an cd ct cc) ⟨[a, b], []⟩ [(PySem.Str.ofString "self", a), (f, b)]
  nc : ∀ x ∈ (scope1 f).names, x.2 ≠ .cell
  loc : ∀ (a b : Value), ∀ y ∈ [(PySem.Str.ofString "self", a), (f, b)], (scope1 f).names.lookup y.1 = some .local
theorem fld_number : FldOk "number" where
  hsup := by rfl
  hcls := by rfl
  hself := by rfl
  hf := by rfl
  ne := by decide
  hd := by decide
  inter := fun _ _ _ _ _ => rfl
  sw := fun _ _ _ _ _ _ _ _ _ _ _ _ _ => rfl
  sw2 := fun _ _ _ _ _ _ _ _ _ => rfl
  bind := fun _ _ _ _ _ _ _ _ _ _ _ _ _ => .of_eq (by first | rfl | with_unfolding_all rfl)
  nc := by decide
  loc := fun a b y hy => by
    rcases List.mem_cons.mp hy with rfl | hy
    · rfl
    · rcases List.mem_cons.mp hy with rfl | hy
      · rfl
      · cases hy
theorem own_init (T : Err1 prog K mg nm f C fI cc cda) (Fo : FldOk f) {x t0 : Addr} {v : Value} (M : L2.Mod K mg s.heap) (hx : s.heap.get? x = some (excO C t0)) (hnx : K.lookup x = none) (hroom : A.depth < recursionLimit)
    (hq : ∀ h' tk dx, Done1 s.heap h' x C dx f v → R (.ok (.ret .none)) { s with heap := h', toks := tk }) :
    codeAny (model prog w) A (.call (.ref fI) ⟨[.ref x, v], []⟩) R s := by
  obtain ⟨oc, od, doc, pm, an, ct, osl, qual, msg, k, p1, p2, q0, q1, q2, q3, q4, q5, r0, r1, r2, r3, ho, hcd, hev⟩ := T.fn
  obtain ⟨nm', q, N, bs, bm, sn, sub, ab, col, dd, k0, k1, k2, k3, k5, hC, hbm⟩ := T.cls
  have hcl : clsIn K C = some { name := nm', bases := bs, mro := .ref C :: bm, ns := N, qualname := q, hasDict := true, slotNames := sn, subclasses := sub, abstract := ab, collection := col, hasDel := false } := by unfold clsIn; rw [hC] <;> rfl
  have X := M.kin
  refine ks_codeAny_call_defAt (fd := ksFn "__init__" qual (args1 f p1 p2) [supS msg k q0 q1 q2 q3 q4 q5, fldS f r0 r1 r2 r3] (scope1 f) .none .none doc pm an (.ref cda) ct cc) (body := [supS msg k q0 q1 q2 q3 q4 q5, fldS f r0 r1 r2 r3])
    (binds := [(PySem.Str.ofString "self", .ref x), (f, v)]) hroom (X _ _ ho) rfl M.nolimit (codeRec_of X hcd) rfl (Fo.bind _ _ _ _ _ _ _ _ _ _ _ _ _) Fo.nc (Fo.loc _ _) (fun h₁ hn k₁ => ?_)
  show wpAt (model prog w) (A.deeper (ksEnv qual (scope1 f) s.heap.objs.size fI (.ref cda) cc)) (.func _ (ksEnv qual (scope1 f) s.heap.objs.size fI (.ref cda) cc)) (execs _ (ksEnv qual (scope1 f) s.heap.objs.size fI (.ref cda) cc)) _ _ _
  have M₁ := mod_keeps M k₁
  have hx₁ := k₁ _ _ hx
  have hL : s.heap.objs.size ≠ x := Nat.ne_of_gt (Heap.lt_size hx)
  have ms : (([(PySem.Str.ofString "self", Value.ref x), (f, v)] : List (Str × Value)).reverse.lookup ("self" : Str)) = some (.ref x) := by
    have e : (("self" : Str) == f) = false := by
      rw [beq_eq_false_iff_ne]
      exact fun z => Fo.ne z.symm
    show ([(f, v), (PySem.Str.ofString "self", Value.ref x)] : List (Str × Value)).lookup ("self" : Str) = _
    simp [List.lookup, e]
  have mf : (([(PySem.Str.ofString "self", Value.ref x), (f, v)] : List (Str × Value)).reverse.lookup f) = some v := by
    show ([(f, v), (PySem.Str.ofString "self", Value.ref x)] : List (Str × Value)).lookup f = _
    simp [List.lookup]
  refine ks_wpAt_execs_cons ?_
  refine sup_step (s := { s with heap := h₁, toks := s.toks + 2 }) T.toErrC M₁ hn ms hx₁ hnx (M₁.kin _ _ ho) rfl ⟨_, rfl, rfl⟩ Fo.hsup Fo.hcls Fo.hself rfl (Fo.inter _ _ _ _ _) (Fo.sw _ _ _ _ _ _ _ _ _ _ _ _ _) (hev _ _) fun h₂ tk₂ t2 kk hx₂ => ?_
  have hn₂ : h₂.Ns s.heap.objs.size (fun y => ([(PySem.Str.ofString "self", Value.ref x), (f, v)] : List (Str × Value)).reverse.lookup y) := hn.at fun o e => kk _ o hL e
  have X₂ : K.In h₂ := fun a o e => kk a o (fun z => by rw [z, hnx] at e; cases e) (M₁.kin a o e)
  refine wpAt_of_wpAny ?_
  show wpAny _ _ (execs [fldS f r0 r1 r2 r3] _) _ _ _
  refine wpAny_execs_cons (plainObj_wpAny_Assign_Attribute ?_ (Fo.sw2 _ _ _ _ _ _ _ _ _))
  refine wpAny_Name (wpAny_loadName_local (env := ksEnv qual (scope1 f) s.heap.objs.size fI (.ref cda) cc) rfl Fo.hf hn₂ mf ?_) Fo.hd
  refine wpAny_Name (wpAny_loadName_local (env := ksEnv qual (scope1 f) s.heap.objs.size fI (.ref cda) cc) rfl Fo.hself hn₂ ms ?_) (by decide)
  refine set_plain X₂ (ox := excO C t2) (od := none) ⟨hx₂, rfl, rfl, trivial⟩ T.sa ?_
  refine exc_osa X₂ hx₂ hcl (show refsVE (.ref C :: bm) = true from hbm) rfl T.noN (fun h₃ tk₃ dx k₃ dn dne hx₃ hn₃ => ?_)
  show wpAny _ _ (execs _ _) _ _ _
  have z : s.heap.objs.size < h₂.objs.size := hn₂.lt
  exact wpAny_execs_nil (hq h₃ tk₃ dx ⟨fun b o hb e => k₃ b o hb (kk b o hb (k₁ b o e)), ⟨t2, hx₃⟩, Nat.le_of_lt (Nat.lt_of_lt_of_le z dn), dne, hn₃⟩)
structure Done0 (h h' : Heap) (x C : Addr) : Prop where
  keep : ∀ b o, b ≠ x → h.get? b = some o → h'.get? b = some o
  obj : ∃ t1 : Addr, h'.get? x = some { cls := .ref C, dict := none, data := .fields #[.ref t1, .none, .none, .none, .bool false, .none] }
theorem own_init0 (T : Err0 prog K mg nm C fI cc cda) {x t0 : Addr} (M : L2.Mod K mg s.heap) (hx : s.heap.get? x = some (excO C t0)) (hnx : K.lookup x = none) (hroom : A.depth < recursionLimit)
    (hq : ∀ h' tk, Done0 s.heap h' x C → R (.ok (.ret .none)) { s with heap := h', toks := tk }) :
    codeAny (model prog w) A (.call (.ref fI) ⟨[.ref x], []⟩) R s := by
  obtain ⟨oc, od, doc, pm, an, ct, osl, qual, msg, k, p1, q0, q1, q2, q3, q4, q5, ho, hcd, hev⟩ := T.fn
  have X := M.kin
  refine ks_codeAny_call_defAt (fd := ksFn "__init__" qual (args0 p1) [supS msg k q0 q1 q2 q3 q4 q5] scope0 .none .none doc pm an (.ref cda) ct cc) (body := [supS msg k q0 q1 q2 q3 q4 q5])
    (binds := [(PySem.Str.ofString "self", .ref x)]) hroom (X _ _ ho) rfl M.nolimit (codeRec_of X hcd) rfl (.of_eq (by first | rfl | with_unfolding_all rfl)) (show ∀ x ∈ scope0.names, x.2 ≠ .cell by decide) (fun y hy => by
      rcases List.mem_cons.mp hy with rfl | hy
      · rfl
      · cases hy) (fun h₁ hn k₁ => ?_)
  show _root_.PySem.wpAt (model prog w) (A.deeper (ksEnv qual scope0 s.heap.objs.size fI (.ref cda) cc)) (.func _ (ksEnv qual scope0 s.heap.objs.size fI (.ref cda) cc)) (execs _ (ksEnv qual scope0 s.heap.objs.size fI (.ref cda) cc)) _ _ _
  have M₁ := mod_keeps M k₁
  have hx₁ := k₁ _ _ hx
  have ms : (([(PySem.Str.ofString "self", Value.ref x)] : List (Str × Value)).reverse.lookup ("self" : Str)) = some (.ref x) := by
    show ([(PySem.Str.ofString "self", Value.ref x)] : List (Str × Value)).lookup ("self" : Str) = _
    simp [List.lookup]
  refine ks_wpAt_execs_cons ?_
  refine sup_step (s := { s with heap := h₁, toks := s.toks + 1 }) T.toErrC M₁ hn ms hx₁ hnx (M₁.kin _ _ ho) rfl ⟨_, rfl, rfl⟩ rfl rfl rfl rfl rfl rfl (hev _ _) fun h₂ tk₂ t2 kk hx₂ => ?_
  refine wpAt_of_wpAny ?_
  show wpAny _ _ (execs [] _) _ _ _
  exact wpAny_execs_nil (hq h₂ tk₂ ⟨fun b o hb e => kk b o hb (k₁ b o e), t2, hx₂⟩)
structure Made1 (h h' : Heap) (e C d : Addr) (f : Str) (v : Value) : Prop where
  keep : ∀ b o, h.get? b = some o → h'.get? b = some o
  new : h.objs.size ≤ e
  obj : ∃ oe vs, h'.get? e = some oe ∧ oe.cls = .ref C ∧ oe.dict = some d ∧ oe.data = .fields vs ∧ vs[1]? = some .none ∧ vs[2]? = some .none
  dbig : h.objs.size ≤ d
  dne : d ≠ e
  ns : h'.Ns1 d (fun y => if y = f then some v else none)
structure Made0 (h h' : Heap) (e C : Addr) : Prop where
  keep : ∀ b o, h.get? b = some o → h'.get? b = some o
  new : h.objs.size ≤ e
  obj : ∃ oe vs, h'.get? e = some oe ∧ oe.cls = .ref C ∧ oe.dict = none ∧ oe.data = .fields vs ∧ vs[1]? = some .none ∧ vs[2]? = some .none
theorem own_made (T : Err1 prog K mg nm f C fI cc cda) (Fo : FldOk f) {v : Value} (M : L2.Mod K mg s.heap) (hroom : A.depth + 1 < recursionLimit)
    (hq : ∀ h' tk e d, Made1 s.heap h' e C d f v → R (.ok (.ret (.ref e))) { s with heap := h', toks := tk }) :
    codeAny (model prog w) A (.call (.ref C) ⟨[v], []⟩) R s := by
  obtain ⟨nm', q, N, bs, bm, sn, sub, ab, col, dd, k0, k1, k2, k3, k5, hC, hbm⟩ := T.cls
  obtain ⟨hp, g, dr, tk, os⟩ := s
  have X := M.kin
  have k : ∀ b o, hp.get? b = some o → ((hp.push (kdv_tup [v])).push (excO C hp.objs.size)).get? b = some o := fun b o e => Heap.get?_push_of_some _ (Heap.get?_push_of_some _ e)
  have hget : ((hp.push (kdv_tup [v])).push (excO C hp.objs.size)).get? (hp.objs.size + 1) = some (excO C hp.objs.size) := by heap_get
  have hnx : K.lookup (hp.objs.size + 1) = none := by
    cases e : K.lookup (hp.objs.size + 1) with
    | none => rfl
    | some o =>
      have z : hp.get? (hp.objs.size + 1) = some o := X _ _ e
      exact absurd (Nat.lt_of_succ_lt (Heap.lt_size z)) (Nat.lt_irrefl _)
  refine call_own F.excBase_ValueError (fun X => refsVE_contains X bm hbm) (X _ _ hC) (looks_findIn X T.iC) (fun self => bind_fn X self T.tC) (one_size v) ?_
  refine own_init (s := ⟨(hp.push (kdv_tup [v])).push (excO C hp.objs.size), g, dr, tk, os⟩) T Fo (mod_keeps M k) hget hnx ?_ fun h' tk' dx ⟨k', hx, dn, dne, hns⟩ => ?_
  · show A.depth + 1 < recursionLimit
    exact hroom
  · have old : ∀ b o, hp.get? b = some o → h'.get? b = some o := fun b o e => k' b o (Nat.ne_of_lt (Nat.lt_succ_of_lt (Heap.lt_size e))) (k b o e)
    have z : hp.objs.size + 1 + 1 ≤ dx := by
      first
        | (simpa only [Heap.size_push] using dn)
        | exact dn
        | (have q := dn; rw [Heap.size_push, Heap.size_push] at q; exact q)
    obtain ⟨t1, hx⟩ := hx
    exact ⟨rfl, hq h' tk' (hp.objs.size + 1) dx ⟨old, Nat.le_succ _, ⟨_, _, hx, rfl, rfl, rfl, rfl, rfl⟩, Nat.le_trans (Nat.le_trans (Nat.le_succ _) (Nat.le_succ _)) z, dne, hns⟩⟩
theorem own_made0 (T : Err0 prog K mg nm C fI cc cda) (M : L2.Mod K mg s.heap) (hroom : A.depth + 1 < recursionLimit)
    (hq : ∀ h' tk e, Made0 s.heap h' e C → R (.ok (.ret (.ref e))) { s with heap := h', toks := tk }) :
    codeAny (model prog w) A (.call (.ref C) ⟨[], []⟩) R s := by
  obtain ⟨nm', q, N, bs, bm, sn, sub, ab, col, dd, k0, k1, k2, k3, k5, hC, hbm⟩ := T.cls
  obtain ⟨hp, g, dr, tk, os⟩ := s
  have X := M.kin
  have k : ∀ b o, hp.get? b = some o → ((hp.push (kdv_tup [])).push (excO C hp.objs.size)).get? b = some o := fun b o e => Heap.get?_push_of_some _ (Heap.get?_push_of_some _ e)
  have hget : ((hp.push (kdv_tup [])).push (excO C hp.objs.size)).get? (hp.objs.size + 1) = some (excO C hp.objs.size) := by heap_get
  have hnx : K.lookup (hp.objs.size + 1) = none := by
    cases e : K.lookup (hp.objs.size + 1) with
    | none => rfl
    | some o =>
      have z : hp.get? (hp.objs.size + 1) = some o := X _ _ e
      exact absurd (Nat.lt_of_succ_lt (Heap.lt_size z)) (Nat.lt_irrefl _)
  refine call_own F.excBase_ValueError (fun X => refsVE_contains X bm hbm) (X _ _ hC) (looks_findIn X T.iC) (fun self => bind_fn X self T.tC) nil_size ?_
  refine own_init0 (s := ⟨(hp.push (kdv_tup [])).push (excO C hp.objs.size), g, dr, tk, os⟩) T (mod_keeps M k) hget hnx ?_ fun h' tk' ⟨k', hx⟩ => ?_
  · show A.depth + 1 < recursionLimit
    exact hroom
  · have old : ∀ b o, hp.get? b = some o → h'.get? b = some o := fun b o e => k' b o (Nat.ne_of_lt (Nat.lt_succ_of_lt (Heap.lt_size e))) (k b o e)
    obtain ⟨t1, hx⟩ := hx
    exact ⟨rfl, hq h' tk' (hp.objs.size + 1) ⟨old, Nat.le_succ _, ⟨_, _, hx, rfl, rfl, rfl, rfl, rfl⟩⟩⟩
end
end KX
end PySem
namespace L2
open PySem PySem.Spec PyProof.Rows
theorem relO_one {f : Str} {v : V} {v' : Value} (r : RelV v v') (y : Str) : RelO (List.lookup y [(f, v)]) (if y = f then some v' else none) := by
  by_cases hw : y = f
  · subst hw
    rw [if_pos rfl]
    have q : List.lookup y [(y, v)] = some v := by simp [List.lookup]
    rw [q]
    exact r
  · rw [if_neg hw]
    have qw : (y == f) = false := by simpa using hw
    have q2 : List.lookup y [(f, v)] = none := by simp [List.lookup, qw]
    rw [q2]
    trivial
section
variable {X : Cx} {nm f : Str} {C fI cc cda : Addr}
def tMk1 (C : Addr) (f : Str) (ta : TA) : St → Hp → XK → Prop := fun σ H Q => ta σ H fun vs H1 => ∃ v, vs = [v] ∧ ∀ d, H1 d = none → Q (.ref C) (some d) (upd H1 d (.xd [(f, v)]))
def tMk0 (C : Addr) : St → Hp → XK → Prop := fun _ H Q => Q (.ref C) none H
theorem base_mod {pins : List (Addr × Obj)} {σ : St} {H : Hp} {s : Shared} (I : Inv X pins σ H s) : Mod X.K X.mg s.heap := PySem.KX.mod_keeps I.mod I.bk
theorem pmk_err1 {a : Expr} {ta : TA} {p pos : Pos} {k : Nat} (T : PySem.KX.Err1 X.prog X.K X.mg nm f C fI cc cda) (Fo : PySem.KX.FldOk f) (hr : Room k X.A) (ha : PA X [a] ta) (hg : Gl X nm) (hdb : (nm == ("__debug__" : Str)) = false := by decide)
    (he : starEach (a :: []) X.env = (false, eval a X.env) :: starEach [] X.env := by rfl) (hpl : (backTo pos (starEach [] X.env)).any (·.1) = false := by rfl) :
    L2N.PMk X (.Call (.Name nm p) [a] [] pos) (tMk1 C f ta) := by
  intro pins s σ H Q I h
  refine wpAny_Call_Name_kw (ld_glob I hg T.gC ?_ hdb)
  refine PySem.W.callWith_K (h₀ := X.base) I.ok.mod.kin T.kC (thn (ha.run pos pins s σ H _ I h) fun us s1 hh => ?_) he hpl
  obtain ⟨vs, H1, I1, r1, v, ev, q1⟩ := hh
  subst ev
  refine ⟨I1.kIn, ?_⟩
  cases r1 with
  | cons rv rn =>
    rename_i v' us'
    cases rn
    show wpAny _ _ (call (.ref C) [v']) _ _ _
    have hM := base_mod I1
    obtain ⟨hp, g, dr, tk, os⟩ := s1
    refine wpAny_call (PySem.KX.own_made T Fo hM (by have := hr.dp; omega) fun h' tk' e d M => ?_)
    show L2N.MkP X pins σ Q (.ref e) ⟨h', g, dr, tk', os⟩
    obtain ⟨oe, fv, hoe, hc, hd, hdat, h1, h2⟩ := M.obj
    have hns := M.ns
    obtain ⟨G', g1, g2⟩ := restrict h' fun b => decide (b ≠ e)
    have gk : ∀ b, b ≠ e → G'.get? b = h'.get? b := fun b hb => g1 b (decide_eq_true hb)
    have ge : G'.get? e = none := g2 e (by simp)
    have old : ∀ b o, hp.get? b = some o → G'.get? b = some o := fun b o q => (gk b (Nat.ne_of_lt (Nat.lt_of_lt_of_le (Heap.lt_size q) M.new))).trans (M.keep b o q)
    have ob : ObjOk X.prog X.w (upd H1 d (.xd [(f, v)])) G' d (.xd [(f, v)]) := ⟨_, hns.at (fun o q => (gk d M.dne).trans q), fun y => relO_one rv y⟩
    have J : Inv X pins σ (upd H1 d (.xd [(f, v)])) ⟨G', g, dr, tk', os⟩ := I1.laid (t' := tk') old M.dbig ob
    refine ⟨e, oe, fv, ⟨G', g, dr, tk', os⟩, _, .ref C, some d, rfl, J, fun b o q => ?_, ge, hoe, ⟨hc, hd, fun q e => by rw [hdat] at e; cases e; exact h2⟩, hdat, h1, ?_, rfl, I1.bare, raises_own T.exC T.tyC, q1 d (I1.hok.fresh M.dbig)⟩
    · by_cases hb : b = e
      · have q' : G'.get? b = some o := q
        rw [hb, ge] at q'; cases q'
      · exact (gk b hb).symm.trans q
    · rw [upd_ne (Ne.symm M.dne)]
      exact I1.hok.fresh M.new
theorem pmk_err0 {p pos : Pos} {k : Nat} (T : PySem.KX.Err0 X.prog X.K X.mg nm C fI cc cda) (hr : Room k X.A) (hg : Gl X nm) (hdb : (nm == ("__debug__" : Str)) = false := by decide) :
    L2N.PMk X (.Call (.Name nm p) [] [] pos) (tMk0 C) := by
  intro pins s σ H Q I h
  refine wpAny_Call_Name_kw (ld_glob I hg T.gC ?_ hdb)
  refine PySem.W.callWith_K0 I.kIn T.kC ?_
  have hM := base_mod I
  obtain ⟨hp, g, dr, tk, os⟩ := s
  refine wpAny_call (PySem.KX.own_made0 T hM (by have := hr.dp; omega) fun h' tk' e M => ?_)
  show L2N.MkP X pins σ Q (.ref e) ⟨h', g, dr, tk', os⟩
  obtain ⟨oe, fv, hoe, hc, hd, hdat, h1, h2⟩ := M.obj
  obtain ⟨G', g1, g2⟩ := restrict h' fun b => decide (b ≠ e)
  have gk : ∀ b, b ≠ e → G'.get? b = h'.get? b := fun b hb => g1 b (decide_eq_true hb)
  have ge : G'.get? e = none := g2 e (by simp)
  have old : ∀ b o, hp.get? b = some o → G'.get? b = some o := fun b o q => (gk b (Nat.ne_of_lt (Nat.lt_of_lt_of_le (Heap.lt_size q) M.new))).trans (M.keep b o q)
  have J : Inv X pins σ H ⟨G', g, dr, tk', os⟩ := I.kept (t' := tk') old
  refine ⟨e, oe, fv, ⟨G', g, dr, tk', os⟩, _, .ref C, none, rfl, J, fun b o q => ?_, ge, hoe, ⟨hc, hd, fun q e => by rw [hdat] at e; cases e; exact h2⟩, hdat, h1, ?_, rfl, I.bare, raises_own T.exC T.tyC, h⟩
  · by_cases hb : b = e
    · have q' : G'.get? b = some o := q
      rw [hb, ge] at q'; cases q'
    · exact (gk b hb).symm.trans q
  · exact I.hok.fresh M.new
def tRaise1 (C : Addr) (f : Str) (W : WX) (ta : TA) : TS := fun _ σ H => tMk1 C f ta σ H fun cls d H' => W cls d σ H'
def tRaise0 (C : Addr) (W : WX) : TS := fun _ σ H => tMk0 C σ H fun cls d H' => W cls d σ H'
theorem ps_raise1 {a : Expr} {ta : TA} {W : WX} {p pos pos2 : Pos} {k : Nat} (hc : X.calm = true) (T : PySem.KX.Err1 X.prog X.K X.mg nm f C fI cc cda) (Fo : PySem.KX.FldOk f) (hr : Room k X.A) (tk : L2N.Takes X W) (ha : PA X [a] ta) (hg : Gl X nm) (hdb : (nm == ("__debug__" : Str)) = false := by decide)
    (he : starEach (a :: []) X.env = (false, eval a X.env) :: starEach [] X.env := by rfl) (hpl : (backTo pos (starEach [] X.env)).any (·.1) = false := by rfl) :
    PS X (.Raise (some (.Call (.Name nm p) [a] [] pos)) none pos2) (tRaise1 C f W ta) := L2N.ps_raise hc tk (pmk_err1 T Fo hr ha hg hdb he hpl)
theorem ps_raise0 {W : WX} {p pos pos2 : Pos} {k : Nat} (hc : X.calm = true) (T : PySem.KX.Err0 X.prog X.K X.mg nm C fI cc cda) (hr : Room k X.A) (tk : L2N.Takes X W) (hg : Gl X nm) (hdb : (nm == ("__debug__" : Str)) = false := by decide) :
    PS X (.Raise (some (.Call (.Name nm p) [] [] pos)) none pos2) (tRaise0 C W) := L2N.ps_raise hc tk (pmk_err0 T hr hg hdb)
def tErrF (a C : Addr) (cls : Value) (d : Option Addr) (f : Str) (te : TE) : TE := fun σ H Q => te σ H fun x H1 => x = .ref a ∧ cls = .ref C ∧ ∃ (dd : Addr) (fs : List (Str × V)) (v : V), d = some dd ∧ H1 dd = some (.xd fs) ∧ fs.lookup f = some v ∧ Q v H1
theorem pe_errF {a : Addr} {oe : Obj} {cls : Value} {d : Option Addr} {pn : List (Addr × Obj)} {e : Expr} {te : TE} {pos : Pos} (T : PySem.KX.ErrC X.prog X.K X.mg nm C fI cc cda) (hno : PySem.W.findIn X.K (.ref C) f = some none) (hz : Zc cls d oe) (hf : ∃ vs, oe.data = .fields vs) (he : PE (X.suite a ((a, oe) :: pn)) e te)
    (hb : attributeBase e f X.env (eval e X.env) = eval e X.env := by rfl) :
    PE (X.suite a ((a, oe) :: pn)) (.Attribute e f pos) (tErrF a C cls d f te) := by
  refine ⟨fun pins s σ H Q I h => ?_⟩
  refine attr_of hb (thn (he.run pins s σ H _ I h) fun u s1 hh => ?_)
  obtain ⟨x, H1, I1, rx, ex, ec, dd, fs, v, ed, ea, l, q⟩ := hh
  subst ex
  obtain rfl : u = Value.ref a := rx
  subst ec
  subst ed
  obtain ⟨ha, _⟩ := I1.pin (a, oe) (List.mem_append_left _ List.mem_cons_self)
  obtain ⟨vs, hd⟩ := hf
  have hx : ObjOk X.prog X.w H1 s1.heap dd (.xd fs) := I1.hok dd _ ea
  obtain ⟨mA, hns, hr⟩ := hx
  obtain ⟨od, ho, hl⟩ := lookIn_ns hns
  obtain ⟨u, hu, ru⟩ := RelO.some_of (v := v) (o := mA f) (by rw [← l]; exact hr f)
  have J : PySem.W.InstAt s1.heap a oe C (some od) := ⟨ha, hz.1, by unfold PySem.W.notCls; rw [hd] <;> rfl, by rw [hz.2]; exact ho⟩
  exact HandSPX.exc_get I1.kIn J T.ga T.gg T.exC (PySem.W.findObj_own T.hdC hno rfl (by rw [hl, hu])) (handed_of ru) ⟨v, H1, I1.tok _, ru, q⟩
structure ErrI (K : PySem.W.Frag) (C : Addr) : Prop where
  cl : (PySem.W.clsIn K C).isSome = true
  ga : PySem.W.findIn K (.ref C) "__getattribute__" = some (some (.builtin "BaseException.__getattribute__"))
  gg : PySem.W.findIn K (.ref C) "__getattr__" = some none
  ex : PySem.W.subIn K (.ref C) (.type "BaseException") = some true
  ha : PySem.W.findIn K (.ref C) "__class__" = some (some (.builtin "object.__class__"))
  hn : PySem.W.specialIn K (.builtin "object.__class__") "__get__" = some (some (.builtin "getset_descriptor.__get__"))
  ht : PySem.W.takesIn K (.builtin "object.__class__") = some true
  hm : PySem.W.mroIn K C (.type "object") = some true
def rIsErr (K : PySem.W.Frag) (C a : Addr) (cls : Value) (d : Option Addr) : List V → Hp → VK → Prop := fun xs H Q => ∃ (c : V) (u : Value) (b : Bool), xs = [.ref a, c] ∧ cls = .ref C ∧ ErrI K C ∧ ClsV c u ∧ PySem.W.kitOne K (.ref C) u = some b ∧ (∀ dd, d = some dd → ∃ fs, H dd = some (.xd fs)) ∧ Q (.bl b) H
theorem call_isErr {a C : Addr} {oe : Obj} {cls : Value} {d : Option Addr} {pn : List (Addr × Obj)} (hz : Zc cls d oe) (hf : ∃ vs, oe.data = .fields vs) : CallR (X.suite a ((a, oe) :: pn)) (.builtin "isinstance") (rIsErr X.K C a cls d) := by
  intro pins s σ H xs us Q I r h
  obtain ⟨c, cv, b, rfl, ec, T, hcv, e, hdd, q⟩ := h
  subst ec
  obtain ⟨u1, u2, rfl, rx, rt⟩ := vals2 r
  cases (show u1 = Value.ref a from rx)
  have ec := hcv.eq rt
  subst ec
  obtain ⟨hget, _⟩ := I.pin (a, oe) (List.mem_append.mpr (.inl List.mem_cons_self))
  obtain ⟨vs, hv⟩ := hf
  have J : ∃ od, PySem.W.InstAt s.heap a oe C od := by
    have nc : PySem.W.notCls oe = true := by unfold PySem.W.notCls; rw [hv] <;> rfl
    cases d with
    | none => exact ⟨none, hget, hz.1, nc, by rw [hz.2]; exact True.intro⟩
    | some dd =>
      obtain ⟨fs, hfs⟩ := hdd dd rfl
      have hx : ObjOk X.prog X.w H s.heap dd (.xd fs) := I.hok dd _ hfs
      obtain ⟨mA, hns, hr⟩ := hx
      obtain ⟨od, ho, hl⟩ := lookIn_ns hns
      exact ⟨some od, hget, hz.1, nc, by rw [hz.2]; exact ho⟩
  obtain ⟨od, J⟩ := J
  exact PySem.W.kia_one (PySem.W.kitx_exc T.cl T.ga T.gg T.ex T.ha T.hn T.ht T.hm) I.kIn J e (fun z => nomatch z) fun tk => ⟨.bl b, H, I.tok tk, rfl, q⟩
theorem pe_errFX {a : Addr} {oe : Obj} {cls : Value} {d : Option Addr} {e : Expr} {te : TE} {pos : Pos} (hpn : (a, oe) ∈ X.pn) (T : PySem.KX.ErrC X.prog X.K X.mg nm C fI cc cda) (hno : PySem.W.findIn X.K (.ref C) f = some none) (hz : Zc cls d oe) (hf : ∃ vs, oe.data = .fields vs) (he : PE X e te)
    (hb : attributeBase e f X.env (eval e X.env) = eval e X.env := by rfl) :
    PE X (.Attribute e f pos) (tErrF a C cls d f te) := by
  refine ⟨fun pins s σ H Q I h => ?_⟩
  refine attr_of hb (thn (he.run pins s σ H _ I h) fun u s1 hh => ?_)
  obtain ⟨x, H1, I1, rx, ex, ec, dd, fs, v, ed, ea, l, q⟩ := hh
  subst ex
  obtain rfl : u = Value.ref a := rx
  subst ec
  subst ed
  obtain ⟨ha, _⟩ := I1.pin (a, oe) (List.mem_append_left _ hpn)
  obtain ⟨vs, hd⟩ := hf
  have hx : ObjOk X.prog X.w H1 s1.heap dd (.xd fs) := I1.hok dd _ ea
  obtain ⟨mA, hns, hr⟩ := hx
  obtain ⟨od, ho, hl⟩ := lookIn_ns hns
  obtain ⟨u, hu, ru⟩ := RelO.some_of (v := v) (o := mA f) (by rw [← l]; exact hr f)
  have J : PySem.W.InstAt s1.heap a oe C (some od) := ⟨ha, hz.1, by unfold PySem.W.notCls; rw [hd] <;> rfl, by rw [hz.2]; exact ho⟩
  exact HandSPX.exc_get I1.kIn J T.ga T.gg T.exC (PySem.W.findObj_own T.hdC hno rfl (by rw [hl, hu])) (handed_of ru) ⟨v, H1, I1.tok _, ru, q⟩
theorem call_isErrX {a C : Addr} {oe : Obj} {cls : Value} {d : Option Addr} (hpn : (a, oe) ∈ X.pn) (hz : Zc cls d oe) (hf : ∃ vs, oe.data = .fields vs) : CallR X (.builtin "isinstance") (rIsErr X.K C a cls d) := by
  intro pins s σ H xs us Q I r h
  obtain ⟨c, cv, b, rfl, ec, T, hcv, e, hdd, q⟩ := h
  subst ec
  obtain ⟨u1, u2, rfl, rx, rt⟩ := vals2 r
  cases (show u1 = Value.ref a from rx)
  have ec := hcv.eq rt
  subst ec
  obtain ⟨hget, _⟩ := I.pin (a, oe) (List.mem_append.mpr (.inl hpn))
  obtain ⟨vs, hv⟩ := hf
  have J : ∃ od, PySem.W.InstAt s.heap a oe C od := by
    have nc : PySem.W.notCls oe = true := by unfold PySem.W.notCls; rw [hv] <;> rfl
    cases d with
    | none => exact ⟨none, hget, hz.1, nc, by rw [hz.2]; exact True.intro⟩
    | some dd =>
      obtain ⟨fs, hfs⟩ := hdd dd rfl
      have hx : ObjOk X.prog X.w H s.heap dd (.xd fs) := I.hok dd _ hfs
      obtain ⟨mA, hns, hr⟩ := hx
      obtain ⟨od, ho, hl⟩ := lookIn_ns hns
      exact ⟨some od, hget, hz.1, nc, by rw [hz.2]; exact ho⟩
  obtain ⟨od, J⟩ := J
  exact PySem.W.kia_one (PySem.W.kitx_exc T.cl T.ga T.gg T.ex T.ha T.hn T.ht T.hm) I.kIn J e (fun z => nomatch z) fun tk => ⟨.bl b, H, I.tok tk, rfl, q⟩
end
end L2
namespace PySem
namespace KX
open PySem.W PySem.Calls PyProof.Rows PySem.HandSPX
theorem err1_mk {prog : Program} {K : Frag} {mg : Str → Option Value} {h : Heap} {nm f : Str} {C fI cc cda : Addr} (X : K.In h) (G : h.Ns mainGlobals mg)
    {nm' q qual msg cf : Str} {N : Addr} {bs bm sub : List Value} {sn : List Str} {ab : Bool} {col : Option Bool} {dd : Option Addr} {k0 k1 k2 k3 k5 : Option Value}
    {oc doc pm ct cl ccl : Value} {od an cld cdd : Option Addr} {osl csl ccs : Array (Option Value)} {vs : Array Value} {tf : Tok} {k : Nat} {p1 p2 q0 q1 q2 q3 q4 q5 r0 r1 r2 r3 : Pos}
    (gC : nsIn K mainGlobals nm = some (some (.ref C))) (xc : K.lookup C = some (excClassObj nm' q C N bs bm true sn sub ab col dd k0 k1 k2 k3 k5 "ValueError.__new__")) (xr : refsVE bm = true)
    (xs : findIn K (.ref C) "__setattr__" = some (some (.builtin "object.__setattr__"))) (xg : findIn K (.ref C) "__getattribute__" = some (some (.builtin "BaseException.__getattribute__"))) (xgg : findIn K (.ref C) "__getattr__" = some none)
    (xi : findIn K (.ref C) "__init__" = some (some (.ref fI))) (xt : typeIn K (.ref fI) = some (.type "function")) (xk : keepIn K (.ref C) = true)
    (xe : subIn K (.ref C) (.type "BaseException") = some true) (xv : subIn K (.ref C) (.type "ValueError") = some true) (xy : typeIn K (.ref C) = some (.type "type")) (xh : hasDictIn K C = true)
    (xm : mroIn K C (.ref C) = some true) (xu : ks_superIn K C C "__init__" = some (some (.builtin "ValueError.__init__"))) (tp : nsIn K cStatics "thirdparty.any" = some none) (sg : nsIn K mainGlobals "super" = some none)
    (xl : K.lookup cc = some ⟨cl, cld, .cell (some (.ref C)), csl⟩) (xw : K.lookup cda = some ⟨ccl, cdd, .fields vs, ccs⟩) (xw2 : vs[2]? = some (.str cf tf)) (xw3 : ((prog.main.file : Str) == cf) = true)
    (top : (prog.main.scope.names.lookup ("super" : Str)).isSome = false) (xn : findIn K (.ref C) f = some none) (nf : f ≠ "self" ∧ f ≠ "__debug__" ∧ f ≠ "__classdict__" ∧ f ≠ "super" ∧ f ≠ "__class__")
    (xf : K.lookup fI = some ⟨oc, od, .func (ksFn "__init__" qual (args1 f p1 p2) [supS msg k q0 q1 q2 q3 q4 q5, fldS f r0 r1 r2 r3] (scope1 f) .none .none doc pm an (.ref cda) ct cc), osl⟩) (xd : codeIn K (.ref cda) qual = true)
    (hev : ∀ (q : Str) (L : Addr), SupEv (ksEnv q (scope1 f) L fI (.ref cda) cc) msg k q0 q1 q2 q3 q4) : Err1 prog K mg nm f C fI cc cda :=
  { gC := mg_of X G gC, cls := ⟨_, _, _, _, _, _, _, _, _, _, _, _, _, _, _, xc, xr⟩, sa := xs, ga := xg, gg := xgg, iC := xi, tC := xt, kC := xk, exC := xe, exV := xv, tyC := xy, hdC := xh, mC := xm, sup := xu, tp := tp, sg := mg_none_of X G sg,
    cell := ⟨_, _, _, xl⟩, code := ⟨_, _, _, _, _, _, xw, xw2, xw3⟩, top := top, noN := xn, nf := nf, fn := ⟨_, _, _, _, _, _, _, _, _, _, _, _, _, _, _, _, _, _, _, _, _, _, xf, xd, hev⟩ }
def intsOf : List Value → List (Option Int)
  | [] => []
  | .int i _ :: r => some i :: intsOf r
  | _ :: r => none :: intsOf r
theorem vals_of_ints : ∀ {us : List Value} {ns : List Int}, intsOf us = ns.map some → L2.Vals (ns.map L2.V.int) us
  | [], [], _ => .nil
  | [], _ :: _, e => by cases e
  | u :: us, ns, e => by
    cases u with
    | int i t =>
      cases ns with
      | nil => cases e
      | cons n ns =>
        have e1 : some i :: intsOf us = some n :: ns.map some := e
        have h1 : i = n := by injection e1 with a b; injection a
        have h2 : intsOf us = ns.map some := by injection e1
        rw [h1]
        exact .cons ⟨t, rfl⟩ (vals_of_ints h2)
    | _ =>
      cases ns with
      | nil => cases e
      | cons n ns =>
        have e1 : (none : Option Int) :: intsOf us = some n :: ns.map some := e
        injection e1 with a b
        cases a
end KX
end PySem
namespace KR
open PySem PySem.Spec L2 Evl
section
variable {X : Cx} {K : PySem.W.Frag} {σ : L2.St} {H : Hp} {D : Ends} {t u : TT} {ts us tw : TS} {te ta tb tc : TE} {r r' : R2} {Q : VK} {QB : Bool → Hp → Prop} {i : Nat} {v x y : V} {A B : Prop}
theorem seq (h : ts { D with nx := us D } σ H) : tSeq ts us D σ H := h
theorem asg (h : te σ H fun v H1 => D.nx (σ.set i (some v)) H1) : tAsg te (gName i) D σ H := h
theorem asgG {g : TG} (h : te σ H fun v H1 => g v σ H1 D.nx) : tAsg te g D σ H := h
theorem drop (h : te σ H fun _ H1 => D.nx σ H1) : tDrop te D σ H := h
theorem ret (h : te σ H D.rt) : tRet te D σ H := h
theorem retN (h : D.rt .non H) : tRetN D σ H := h
theorem next (h : D.nx σ H) : tNext D σ H := h
theorem brk (h : D.bk σ H) : tBreak D σ H := h
theorem cont (h : D.ct σ H) : tCont D σ H := h
theorem ifs (h : t σ H fun b H1 => if b = true then ts D σ H1 else us D σ H1) : tIfS t ts us D σ H := h
theorem aug {ti : TIp} (hx : σ[i]? = some (some x)) (h : te σ H fun y H1 => ti x y H1 fun z H2 => D.nx (σ.set i (some z)) H2) : tAug i te ti D σ H := ⟨x, hx, h⟩
theorem ipI {f : Int → Int → Int} {a b : Int} {Q : VK} (h : Q (.int (f a b)) H) : L2.ipI f (.int a) (.int b) H Q := ⟨a, b, rfl, rfl, h⟩
theorem var (hx : σ[i]? = some (some v)) (h : Q v H) : tVar i σ H Q := ⟨v, hx, h⟩
theorem con (h : Q v H) : tC v σ H Q := h
theorem op (h : ta σ H fun x H1 => tb σ H1 fun y H2 => r x y H2 Q) : tOp r ta tb σ H Q := h
theorem un {ru : V → Hp → VK → Prop} (h : ta σ H fun x H1 => ru x H1 Q) : tUn ru ta σ H Q := h
theorem opI0 {g : Int → Int → V} {a b : Int} (h : Q (g a b) H) : rI0 g (.int a) (.int b) H Q := ⟨a, b, rfl, rfl, h⟩
theorem opI {C : Int → Int → Prop} {g : Int → Int → V} {a b : Int} (hc : C a b) (h : Q (g a b) H) : rI C g (.int a) (.int b) H Q := ⟨a, b, rfl, rfl, hc, h⟩
theorem unI {g : Int → V} {a : Int} (h : Q (g a) H) : rU g (.int a) H Q := ⟨a, rfl, h⟩
theorem eqS (hs : scal x y = true) (h : Q (.bl (decide (x = y))) H) : rEq x y H Q := ⟨hs, h⟩
theorem neS (hs : scal x y = true) (h : Q (.bl (!decide (x = y))) H) : rNe x y H Q := ⟨hs, h⟩
theorem eqI {a b : Int} (h : Q (.bl (decide (a = b))) H) : rEq (.int a) (.int b) H Q := ⟨rfl, by
  have e : decide (V.int a = V.int b) = decide (a = b) := by
    by_cases z : a = b
    · rw [decide_eq_true z, z, decide_eq_true rfl]
    · rw [decide_eq_false z, decide_eq_false (fun q => z (V.int.inj q))]
  rw [e]; exact h⟩
theorem neI {a b : Int} (h : Q (.bl (!decide (a = b))) H) : rNe (.int a) (.int b) H Q := ⟨rfl, by
  have e : decide (V.int a = V.int b) = decide (a = b) := by
    by_cases z : a = b
    · rw [decide_eq_true z, z, decide_eq_true rfl]
    · rw [decide_eq_false z, decide_eq_false (fun q => z (V.int.inj q))]
  rw [e]; exact h⟩
theorem test (h : te σ H fun x H' => ∃ k, x = .bl k ∧ QB k H') : tTest te σ H QB := h
theorem tb' (h : te σ H fun x H' => ∃ k, x = .bl k ∧ QB k H') : tB te σ H QB := h
theorem exbl {b : Bool} {QP : Bool → Prop} (h : QP b) : ∃ k, V.bl b = .bl k ∧ QP k := ⟨b, rfl, h⟩
theorem and' (h : t σ H fun c H1 => if c = true then u σ H1 QB else QB false H1) : tAnd t u σ H QB := h
theorem or' (h : t σ H fun c H1 => if c = true then QB true H1 else u σ H1 QB) : tOr t u σ H QB := h
theorem not' (h : t σ H fun c H1 => QB (!c) H1) : tNot t σ H QB := h
theorem chain (h : ta σ H fun x H1 => tb σ H1 fun y H2 => r x y H2 fun z H3 => ∃ k, z = .bl k ∧ (if k = true then tc σ H3 fun w' H4 => r' y w' H4 Q else Q (.bl false) H3)) : tChain r r' ta tb tc σ H Q := h
theorem iteD {p : Prop} [Decidable p] (h1 : p → A) (h2 : ¬ p → B) : if decide p = true then A else B := by
  by_cases h : p
  · rw [if_pos (decide_eq_true h)]; exact h1 h
  · rw [if_neg (by rw [decide_eq_false h]; decide)]; exact h2 h
theorem iteND {p : Prop} [Decidable p] (h1 : ¬ p → A) (h2 : p → B) : if (!decide p) = true then A else B := by
  by_cases h : p
  · rw [decide_eq_true h, if_neg (by decide)]; exact h2 h
  · rw [decide_eq_false h, if_pos (by decide)]; exact h1 h
theorem iteDT {p : Prop} [Decidable p] (hp : p) (h1 : A) : if decide p = true then A else B := by rw [if_pos (decide_eq_true hp)]; exact h1
theorem iteDF {p : Prop} [Decidable p] (hp : ¬ p) (h1 : B) : if decide p = true then A else B := by rw [if_neg (by rw [decide_eq_false hp]; decide)]; exact h1
theorem iteNF (h1 : A) : if (!false) = true then A else B := by rw [if_pos (by decide)]; exact h1
theorem iteNT (h1 : B) : if (!true) = true then A else B := by rw [if_neg (by decide)]; exact h1
theorem iteB {b : Bool} (h1 : b = true → A) (h2 : b = false → B) : if b = true then A else B := by
  cases b with
  | true => exact h1 rfl
  | false => exact h2 rfl
theorem nil {Q : List V → Hp → Prop} (h : Q [] H) : tNil σ H Q := h
theorem cons {tr : TA} {Q : List V → Hp → Prop} (h : te σ H fun x H1 => tr σ H1 fun xs H2 => Q (x :: xs) H2) : tCons te tr σ H Q := h
theorem call {sp : Sp} {dvs : List V} {E : XK} {tg : TA} (h : tg σ H fun vs H1 => sp (vs ++ dvs) H1 Q E) : tCall sp dvs E tg σ H Q := h
theorem cb {rc : List V → Hp → VK → Prop} {tg : TA} (h : tg σ H fun vs H1 => rc vs H1 Q) : tCB rc tg σ H Q := h
theorem tup {tg : TA} (h : tg σ H fun xs H1 => xs.length ≤ sizeLine ∧ ∀ p, H1 p = none → Q (.ref p) (upd H1 p (.tup xs))) : tTup tg σ H Q := h
theorem lst {tg : TA} (h : tg σ H fun xs H1 => xs.length ≤ sizeLine ∧ ∀ p, H1 p = none → Q (.ref p) (upd H1 p (.lst xs))) : tLst tg σ H Q := h
theorem ifx (h : t σ H fun c H1 => if c = true then ta σ H1 Q else tb σ H1 Q) : tIf t ta tb σ H Q := h
theorem andV (h : ta σ H fun x H1 => ∃ c, x = .bl c ∧ if c = true then tb σ H1 Q else Q (.bl false) H1) : tAndV ta tb σ H Q := h
theorem orV (h : ta σ H fun x H1 => ∃ c, x = .bl c ∧ if c = true then Q (.bl true) H1 else tb σ H1 Q) : tOrV ta tb σ H Q := h
theorem notV (h : ta σ H fun x H1 => ∃ c, x = .bl c ∧ Q (.bl (!c)) H1) : tNotV ta σ H Q := h
theorem ixL {a : Addr} {xs : List V} {k : Int} (hs : SqL K H a xs) (ha : atI xs k = some v) (h : Q v H) : rIxL K (.ref a) (.int k) H Q := ⟨a, xs, k, v, rfl, rfl, hs, ha, h⟩
theorem ixT {a : Addr} {xs : List V} {k : Int} (hs : SqT K H a xs) (ha : atI xs k = some v) (h : Q v H) : rIxT K (.ref a) (.int k) H Q := ⟨a, xs, k, v, rfl, rfl, hs, ha, h⟩
theorem sub {to ti : TE} {tst : TSet} {Qs : L2.St → Hp → Prop} (h : to σ H fun o H1 => ti σ H1 fun i H2 => tst o i v H2 fun H3 => Qs σ H3) : gSub to ti tst v σ H Qs := h
theorem setL {a : Addr} {xs : List V} {j : Nat} {QH : Hp → Prop} (hl : H a = some (.lst xs)) (hj : j < xs.length) (h : QH (upd H a (.lst (xs.set j v)))) : rSetL (.ref a) (.int (j : Int)) v H QH := ⟨a, xs, (j : Int), j, rfl, rfl, hl, ixN_nat hj, h⟩
theorem bits (h : ta σ H fun x H1 => ∃ i, x = .int i ∧ Q (.int (Builtin.Int.intBits i : Nat)) H1) : tBits ta σ H Q := h
theorem exint {a : Int} {QI : Int → Prop} (h : QI a) : ∃ i, V.int a = .int i ∧ QI i := ⟨a, rfl, h⟩
theorem prop {C : Addr} {sp : Sp} {dvs : List V} {E : XK} (h : ta σ H fun x H1 => ∃ a dx fs, x = .ref a ∧ H1 a = some (.ins C dx fs) ∧ sp (.ref a :: dvs) H1 Q E) : tProp C sp dvs E ta σ H Q := h
theorem fld {f : Str} (h : ta σ H fun x H1 => ∃ a C dx fs v, x = .ref a ∧ H1 a = some (.ins C dx fs) ∧ Cls K C ∧ NoAttr K C f ∧ fs.lookup f = some v ∧ Q v H1) : tFld K ta f σ H Q := h
theorem meth {C : Addr} {m : Str} {sp : Sp} {dvs : List V} {E : XK} {tg : TA} (h : ta σ H fun x H1 => ∃ a dx fs, x = .ref a ∧ H1 a = some (.ins C dx fs) ∧ fs.lookup m = none ∧ tg σ H1 fun vs H2 => sp (x :: (vs ++ dvs)) H2 Q E) : tMeth C m sp dvs E ta tg σ H Q := h
theorem cInt1 {a : Int} {P1 : Int → Prop} {P2 : Bool → Prop} (h : P1 a) : (∃ i, [V.int a] = [V.int i] ∧ P1 i) ∨ (∃ k, [V.int a] = [V.bl k] ∧ P2 k) := .inl ⟨a, rfl, h⟩
theorem cI1 {a : Int} {P1 : Int → Prop} (h : P1 a) : ∃ i, [V.int a] = [V.int i] ∧ P1 i := ⟨a, rfl, h⟩
theorem cI2 {a b : Int} {P1 : Int → Int → Prop} (h : P1 a b) : ∃ i j, [V.int a, V.int b] = [V.int i, V.int j] ∧ P1 i j := ⟨a, b, rfl, h⟩
theorem isN {x : V} {P1 : V → Prop} (h : P1 (.bl (decide (x = .non)))) : (V.non = .non ∧ P1 (.bl (decide (x = .non)))) := ⟨rfl, h⟩
theorem isi_ii {a : Int} (h : Q (.bl true) H) : rIsi K [V.int a, V.ty "int"] H Q := ⟨_, _, _, _, true, rfl, .ty _, .base (.int a), kit_ty (by decide +kernel), h⟩
theorem isi_ib {a : Int} (h : Q (.bl false) H) : rIsi K [V.int a, V.ty "bool"] H Q := ⟨_, _, _, _, false, rfl, .ty _, .base (.int a), kit_ty (by decide +kernel), h⟩
theorem isi_tt {a : Addr} {xs : List V} (hx : H a = some (.tup xs)) (h : Q (.bl true) H) : rIsi K [V.ref a, V.ty "tuple"] H Q := ⟨_, _, _, _, true, rfl, .ty _, .base (.tup hx), kit_ty (by decide +kernel), h⟩
theorem isi_nt (h : Q (.bl false) H) : rIsi K [V.non, V.ty "tuple"] H Q := ⟨_, _, _, _, false, rfl, .ty _, .base .non, kit_ty (by decide +kernel), h⟩
theorem isi_ni (h : Q (.bl false) H) : rIsi K [V.non, V.ty "int"] H Q := ⟨_, _, _, _, false, rfl, .ty _, .base .non, kit_ty (by decide +kernel), h⟩
theorem isi_ll {a : Addr} {xs : List V} (hx : H a = some (.lst xs)) (h : Q (.bl true) H) : rIsi K [V.ref a, V.ty "list"] H Q := ⟨_, _, _, _, true, rfl, .ty _, .base (.lst hx), kit_ty (by decide +kernel), h⟩
theorem isi_lt {a : Addr} {xs : List V} (hx : H a = some (.lst xs)) (h : Q (.bl false) H) : rIsi K [V.ref a, V.ty "tuple"] H Q := ⟨_, _, _, _, false, rfl, .ty _, .base (.lst hx), kit_ty (by decide +kernel), h⟩
theorem isi_tl {a : Addr} {xs : List V} (hx : H a = some (.tup xs)) (h : Q (.bl false) H) : rIsi K [V.ref a, V.ty "list"] H Q := ⟨_, _, _, _, false, rfl, .ty _, .base (.tup hx), kit_ty (by decide +kernel), h⟩
theorem raise1 {C : Addr} {f : Str} {W : WX} {tg : TA} (h : tg σ H fun vs H1 => ∃ v, vs = [v] ∧ ∀ d, H1 d = none → W (.ref C) (some d) σ (upd H1 d (.xd [(f, v)]))) : tRaise1 C f W tg D σ H := h
theorem raise0 {C : Addr} {W : WX} (h : W (.ref C) none σ H) : tRaise0 C W D σ H := h
theorem exv {v : V} {P1 : V → Prop} (h : P1 v) : ∃ y, [v] = [y] ∧ P1 y := ⟨v, rfl, h⟩
def Turn (W : Nat → L2.St → Hp → Prop) (m : Nat) (tb : TS) (D : Ends) (σ : L2.St) (H : Hp) : Prop := ∃ N : L2.St → Hp → Prop, (∀ σ' H', N σ' H' → ∃ m', m' < m ∧ W m' σ' H') ∧ tb { D with nx := N, ct := N, bk := D.nx } σ H
theorem whl {tt : TT} {tb : TS} (W : Nat → L2.St → Hp → Prop) (m0 : Nat) (h0 : W m0 σ H)
    (hs : ∀ m σ H, W m σ H → tt σ H fun b H1 => if b = true then Turn W m tb D σ H1 else D.nx σ H1) : tWhile tt tb D σ H := ⟨W, ⟨m0, h0⟩, hs⟩
theorem turn {tb : TS} {W : Nat → L2.St → Hp → Prop} {m : Nat} (h : tb { D with nx := fun σ' H' => ∃ m', m' < m ∧ W m' σ' H', ct := fun σ' H' => ∃ m', m' < m ∧ W m' σ' H', bk := D.nx } σ H) : Turn W m tb D σ H := ⟨_, fun _ _ z => z, h⟩
def FW (J : It) (g : TG) (tb : TS) (D : Ends) (σ : L2.St) (H1 : Hp) : Prop := ∃ W : Nat → Nat → L2.St → Hp → Prop, (∃ m, W 0 m σ H1) ∧ ∀ i m σ H, W i m σ H →
  (J.stop i H ∧ D.nx σ H) ∨ (J.go i H ∧ ∃ N : L2.St → Hp → Prop, (∀ σ' H', N σ' H' → ∃ m', m' < m ∧ W (i + 1) m' σ' H') ∧ ∀ x H', J.yld i H x H' → g x σ H' fun σ2 H2 => tb { D with nx := N, ct := N, bk := D.nx } σ2 H2)
theorem for' {wi : TI} {g : TG} {tb : TS} (h : wi σ H fun J H1 => FW J g tb D σ H1) : tFor wi g tb D σ H := h
theorem rng1 {tg : TA} {R : It → Hp → Prop} (h : tg σ H fun vs H1 => ∃ j : Int, vs = [.int j] ∧ -(2 ^ 62) ≤ j ∧ j < 2 ^ 62 ∧ R (Itr 0 j.toNat) H1) : iRng1 tg σ H R := h
theorem rng2 {tg : TA} {R : It → Hp → Prop} (h : tg σ H fun vs H1 => ∃ i j : Int, vs = [.int i, .int j] ∧ (-(2 ^ 62) ≤ i ∧ i < 2 ^ 62 ∧ -(2 ^ 62) ≤ j ∧ j < 2 ^ 62) ∧ R (Itr i (j - i).toNat) H1) : iRng2 tg σ H R := h
theorem rngI {z : Int} {g : TG} {tb : TS} (n : Nat) (e : z = (n : Int)) (hn : n < 2 ^ 62) (h : FW (Itr 0 n) g tb D σ H) : -(2 ^ 62) ≤ z ∧ z < 2 ^ 62 ∧ FW (Itr 0 z.toNat) g tb D σ H := by
  subst e
  exact ⟨by omega, by omega, h⟩
theorem rngNN {x y : Int} (a n : Nat) {g : TG} {tb : TS} (ex : x = (a : Int)) (ey : y = (n : Int)) (ha : a < 2 ^ 62) (hn : n < 2 ^ 62) (h : FW (Itr a (n - a)) g tb D σ H) :
    (-(2 ^ 62) ≤ x ∧ x < 2 ^ 62 ∧ -(2 ^ 62) ≤ y ∧ y < 2 ^ 62) ∧ FW (Itr x (y - x).toNat) g tb D σ H := by
  subst ex ey
  exact ⟨by omega, by
    have e : ((n : Int) - (a : Int)).toNat = n - a := by omega
    rw [e]; exact h⟩
theorem fwR {tb : TS} {n : Nat} (Pv : Nat → L2.St → Hp → Prop) (h0 : Pv 0 σ H)
    (hs : ∀ k σ H, k < n → Pv k σ H → tb { D with nx := Pv (k + 1), ct := Pv (k + 1), bk := D.nx } (σ.set i (some (.int (k : Int)))) H) (hd : ∀ σ H, Pv n σ H → D.nx σ H) : FW (Itr 0 n) (gName i) tb D σ H :=
  for_range (lo := 0) (n := n) Pv h0 (fun k σ' H' hk pk => by
    have e0 : (0 : Int) + (k : Int) = (k : Int) := Int.zero_add _
    show tb { D with nx := Pv (k + 1), ct := Pv (k + 1), bk := D.nx } (σ'.set i (some (.int ((0 : Int) + (k : Int))))) H'
    rw [e0]
    exact hs k σ' H' hk pk) hd
theorem fwRa {tb : TS} {a n : Nat} (Pv : Nat → L2.St → Hp → Prop) (h0 : Pv a σ H) (hn : a ≤ n)
    (hs : ∀ k σ H, a ≤ k → k < n → Pv k σ H → tb { D with nx := Pv (k + 1), ct := Pv (k + 1), bk := D.nx } (σ.set i (some (.int (k : Int)))) H) (hd : ∀ σ H, Pv n σ H → D.nx σ H) : FW (Itr a (n - a)) (gName i) tb D σ H :=
  for_range (lo := a) (n := n - a) (fun k => Pv (a + k)) h0 (fun k σ' H' hk pk => by
    have e0 : ((a : Nat) : Int) + (k : Int) = ((a + k : Nat) : Int) := rfl
    show tb { D with nx := Pv (a + (k + 1)), ct := Pv (a + (k + 1)), bk := D.nx } (σ'.set i (some (.int (((a : Nat) : Int) + (k : Int))))) H'
    rw [e0]
    exact hs (a + k) σ' H' (by omega) (by omega) pk) (fun σ' H' p => hd σ' H' (by
      have e : a + (n - a) = n := by omega
      rw [e] at p; exact p))
theorem ilist {tl : TE} {R : It → Hp → Prop} (h : tl σ H fun x H1 => ∃ a, x = .ref a ∧ (∃ xs, SqL K H1 a xs) ∧ R (Itl K a) H1) : iList K tl σ H R := h
theorem itup {tl : TE} {R : It → Hp → Prop} (h : tl σ H fun x H1 => ∃ a, x = .ref a ∧ (∃ xs, SqT K H1 a xs) ∧ R (Itt K a) H1) : iTup K tl σ H R := h
theorem ilistN {a : Addr} {xs : List V} {g : TG} {tb : TS} (hs : SqL K H a xs) (h : FW (Itl K a) g tb D σ H) : ∃ b, V.ref a = .ref b ∧ (∃ xs, SqL K H b xs) ∧ FW (Itl K b) g tb D σ H := ⟨a, rfl, ⟨xs, hs⟩, h⟩
theorem itupN {a : Addr} {xs : List V} {g : TG} {tb : TS} (hs : SqT K H a xs) (h : FW (Itt K a) g tb D σ H) : ∃ b, V.ref a = .ref b ∧ (∃ xs, SqT K H b xs) ∧ FW (Itt K b) g tb D σ H := ⟨a, rfl, ⟨xs, hs⟩, h⟩
theorem fwL {a : Addr} {xs : List V} {tb : TS} (Pv : Nat → L2.St → Hp → Prop) (h0 : Pv 0 σ H) (hl : ∀ k σ H, k ≤ xs.length → Pv k σ H → SqL K H a xs)
    (hs : ∀ k x σ H, xs[k]? = some x → Pv k σ H → tb { D with nx := Pv (k + 1), ct := Pv (k + 1), bk := D.nx } (σ.set i (some x)) H) (hd : ∀ σ H, Pv xs.length σ H → D.nx σ H) : FW (Itl K a) (gName i) tb D σ H :=
  for_list Pv h0 hl hs hd
theorem fwT {a : Addr} {xs : List V} {tb : TS} (Pv : Nat → L2.St → Hp → Prop) (h0 : Pv 0 σ H) (hl : ∀ k σ H, k ≤ xs.length → Pv k σ H → SqT K H a xs)
    (hs : ∀ k x σ H, xs[k]? = some x → Pv k σ H → tb { D with nx := Pv (k + 1), ct := Pv (k + 1), bk := D.nx } (σ.set i (some x)) H) (hd : ∀ σ H, Pv xs.length σ H → D.nx σ H) : FW (Itt K a) (gName i) tb D σ H :=
  for_tup Pv h0 hl hs hd
theorem par {j : Nat} {tg : TA} (h : tg σ H fun vs H1 => ∃ v w, vs = [v, w] ∧ D.nx ((σ.set i (some v)).set j (some w)) H1) : tPar i j tg D σ H := h
theorem parN {w : V} {Qn : V → V → Prop} (h : Qn v w) : ∃ a b, [v, w] = [a, b] ∧ Qn a b := ⟨v, w, rfl, h⟩
theorem pe_gI {z : Int} {s : Str} {pos : Pos} (hg : Gl X s) (hm : ∃ tk, X.mg s = some (.int z tk)) (hd : (s == ("__debug__" : Str)) = false := by decide) : PE X (.Name s pos) (tC (.int z)) := by
  obtain ⟨tk, hm⟩ := hm
  exact pe_glob hg hm ⟨tk, rfl⟩ hd
theorem cut {Mid : L2.St → Hp → Prop} (h : ts { D with nx := Mid } σ H) (k : ∀ σ' H', Mid σ' H' → us D σ' H') : tCut ts us D σ H := ⟨Mid, h, k⟩
end
end KR
namespace PySem
namespace KX
open Builtin
theorem meets_enum1 {v : Value} {o : Obj} {H : Heap → Prop} (B : Begins v o H) :
    Meets (Builtin.«enumerate.__new__» ⟨[.type "enumerate", v], []⟩) (fun _ R s => H s.heap ∧
      R (.ok (.ret (.ref (s.heap.push o).objs.size))) { s with heap := (s.heap.push o).push { cls := .type "enumerate", data := .fields #[.none, .bool false, .ref s.heap.objs.size, rawInt 0, .none, .none] } }) :=
  .of_wp fun prog w A R s h => by
    obtain ⟨hp, g, d, tk, os⟩ := s
    obtain ⟨h1, h⟩ := h
    have hsub := sub_enumerate
    have q1 : ∀ {A' : Around} {E : Value → Shared → Prop} {Q : Value → Shared → Prop}, Q (.ref hp.objs.size) ⟨hp.push o, g, d, tk, os⟩ → wpAny (model prog w) A' (pyIter v) Q E ⟨hp, g, d, tk, os⟩ := fun q => B.iter prog w _ _ ⟨hp, g, d, tk, os⟩ _ h1 q
    wp_walk using q1
    refine wpAny_stack_any fun st => wpAny_pure ?_
    split
    · rename_i c _ _ _ _ _
      cases (c == Value.type "enumerate")
      · wp_walk using q1
        exact ⟨_, rfl, h⟩
      · wp_walk using q1
        exact ⟨_, rfl, h⟩
    · wp_walk using q1
      exact ⟨_, rfl, h⟩
section
variable {prog : Program} {w : World} {A : Around} {E : Value → Shared → Prop} {s : Shared}
theorem call_enum1 {v : Value} {o : Obj} {H : Heap → Prop} {Q : Value → Shared → Prop} (B : Begins v o H) (h1 : H s.heap)
    (h : ∀ h', IsEnum h' (s.heap.objs.size + 1) s.heap.objs.size 0 .none → h'.get? s.heap.objs.size = some o → (∀ b o, s.heap.get? b = some o → h'.get? b = some o) → Q (.ref (s.heap.objs.size + 1)) { s with heap := h' }) :
    wpAny (model prog w) A (call (.type "enumerate") [v]) Q E s := by
  refine callType_new F.called_enumerate (by decide) (F.typeCall_enumerate_1 _) (F.newCall_enumerate_1 _) (fun obj => F.args_object_init_2 obj _) F.entry_enumerate_new (meets_enum1 B) ⟨h1, ?_⟩
  have hz : (s.heap.push o).objs.size = s.heap.objs.size + 1 := Heap.size_push ..
  show _ ∧ _
  rw [hz]
  have he : IsEnum ((s.heap.push o).push { cls := .type "enumerate", data := .fields #[.none, .bool false, .ref s.heap.objs.size, rawInt 0, .none, .none] }) (s.heap.objs.size + 1) s.heap.objs.size 0 .none := by
    have := Heap.get?_push_size (s.heap.push o) (o := { cls := .type "enumerate", data := .fields #[.none, .bool false, .ref s.heap.objs.size, rawInt 0, .none, .none] }) rfl
    rw [hz] at this
    exact this
  exact ⟨⟨_, he, rfl⟩, h _ he (Heap.get?_push_of_some _ (Heap.get?_push_size _ B.free)) fun b o x => Heap.get?_push_of_some _ (Heap.get?_push_of_some _ x)⟩
end
end KX
end PySem
namespace L2
open PySem PySem.Spec PyProof.Rows
def IteT (K : PySem.W.Frag) (a : Addr) : It :=
  ⟨fun i H => ∃ (xs : List V) (x : V), SqT K H a xs ∧ xs[i]? = some x, fun i H v H' => ∃ T x, v = .ref T ∧ H T = none ∧ H' = upd H T (.tup [.int (i : Nat), x]) ∧ ∀ xs, SqT K H a xs → xs[i]? = some x, fun i H => ∃ xs : List V, SqT K H a xs ∧ xs.length ≤ i⟩
theorem turn_enumT {P : Program} {w : World} {K : PySem.W.Frag} {elts : List Expr} {kk : Nat} {tpos : Pos} (a e it : Addr) :
    Turn P w K (.Tuple elts kk tpos) (IteT K a) [e, it] e (fun i h => (∃ old, IsEnum h e it ((i : Nat) : Int) old) ∧ h.IsTupleIter it a i ∧ e ≠ it) where
  mem := by simp
  obj := fun i h st b hb => by
    obtain ⟨⟨old, he⟩, ⟨o, ho, hc, hd⟩, _⟩ := st
    have e' : b = e ∨ b = it := by simpa using hb
    rcases e' with z | z
    · rw [z]; exact ⟨_, he, fun v q => nomatch q⟩
    · rw [z]; exact ⟨o, ho, fun v q => by rw [hd] at q; cases q⟩
  keep := fun i h h' st k => by
    obtain ⟨⟨old, he⟩, hi, hne⟩ := st
    exact ⟨⟨old, k e (by simp) _ he⟩, hi.at fun o q => k it (by simp) o q, hne⟩
  item := by
    intro X hP hw hK hc i pins s σ H E I hf st hg
    subst hP hw hK
    obtain ⟨⟨old, he⟩, hit, hne⟩ := st
    obtain ⟨xs, x, hq, hx⟩ := hg
    obtain ⟨its, rv, p, hz⟩ := I.tuple hq
    have pT : s.heap.IsTuple a its.toArray := p
    obtain ⟨u, hu, ru⟩ := rv.get hx
    have hel : e < s.heap.objs.size := Heap.lt_size he
    have hil : it < s.heap.objs.size := by
      obtain ⟨_, q, _⟩ := hit
      exact Heap.lt_size q
    have hia : a ≠ it := fun z => by
      obtain ⟨o, ho, hoc, _⟩ := hit
      obtain ⟨o2, ho2, hc2, _⟩ := pT
      rw [z, ho] at ho2
      cases ho2
      rw [hoc] at hc2
      injection hc2 with z2
      exact absurd z2 (by decide)
    have hea : e ≠ a := fun z => by
      obtain ⟨o2, ho2, hc2, _⟩ := pT
      rw [← z, he] at ho2
      cases ho2
      injection hc2 with z2
      exact absurd z2 (by decide)
    have hh : X.A.in1.handled = none := I.ok.hd hc
    have hlt : i < its.toArray.size := by
      have h1 := (List.getElem?_eq_some_iff.mp hu).1
      simpa using h1
    refine wpAny_pyNext_enum_itemD (Draws.tuple hh it a hia its.toArray) he ⟨hit, pT⟩ hlt hne (by simp [hne, hea]) fun y h' tk hy ho hit' hT hsz hk => ?_
    have ey : y = u := by
      have hy' : its.toArray[i]? = some y := hy
      have hy2 : its[i]? = some y := by simpa using hy'
      rw [hu] at hy2
      exact (Option.some.inj hy2).symm
    subst ey
    refine ⟨_, rfl, wpAny_letOwnedTupleGo_enum (s := { s with heap := h', toks := tk + 1 }) ho fun h'' he' sb => ?_⟩
    have hT2 : h''.get? s.heap.objs.size = some { cls := .type "tuple", data := .seq #[.int i tk, y] } := (sb.2 _ (Nat.ne_of_gt hel)).trans hT
    have new : ObjOk X.prog X.w (upd H s.heap.objs.size (.tup [.int (i : Nat), x])) h'' s.heap.objs.size (.tup [.int (i : Nat), x]) :=
      ⟨by show 2 ≤ sizeLine; decide, [.int i tk, y], .cons ⟨_, rfl⟩ (.cons ru .nil), ⟨_, hT2, rfl, _, rfl⟩⟩
    have I1 : Inv X pins σ (upd H s.heap.objs.size (.tup [.int (i : Nat), x])) { s with heap := h'', toks := tk + 1 } :=
      I.turnedNew (ch := [e, it]) (fun b ob hb q => (sb.2 b (fun z => hb (by simp [z]))).trans (hk b ob (fun z => hb (by simp [z])) (fun z => hb (by simp [z])) q)) hf (Nat.le_refl _) new
    refine ⟨.ref s.heap.objs.size, _, I1, rfl, ⟨_, x, rfl, I.hok.fresh (Nat.le_refl _), rfl, fun ys hy => by rw [I.tuple_inj hy hq]; exact hx⟩, ⟨⟨y, ?_⟩, hit'.1.at fun o q => (sb.2 it (Ne.symm hne)).trans q, hne⟩, fun b hb => ?_⟩
    · have e1 : ((i + 1 : Nat) : Int) = (i : Int) + 1 := by omega
      rw [e1]; exact he'
    · have hb' : b < s.heap.objs.size := by
        have e' : b = e ∨ b = it := by simpa using hb
        rcases e' with z | z
        · rw [z]; exact hel
        · rw [z]; exact hil
      rw [upd_ne (Nat.ne_of_lt hb')]
      exact (hf b hb).1
  done := by
    intro X hP hw hK hc i pins s σ H E I hf st hg
    subst hP hw hK
    obtain ⟨⟨old, he⟩, hit, hne⟩ := st
    obtain ⟨xs, hq, hx⟩ := hg
    obtain ⟨its, rv, p, hz⟩ := I.tuple hq
    have pT : s.heap.IsTuple a its.toArray := p
    obtain ⟨f0, f1, f2, f3, f4, f5⟩ := hf it (by simp)
    have hl := rv.length
    have hT : s.TypeIs (.ref e) "enumerate" := ⟨_, he, rfl⟩
    have hh : X.A.in1.handled = none := I.ok.hd hc
    unfold pyNext
    refine wpAny_bind (wpAny_attempt (wpAny_callSpecial?_slot (name := Str.ofString "__next__") hT F.slot_enumerate_next (wpAny_call_entry F.slot_enumerate_next hT F.entry_enumerate_next ?_ (F.args_enumerate_next_1 _))))
    show wpAny _ _ (field (.ref e) 2 >>= _) _ _ _
    refine wpAny_bind (wpAny_field he rfl (x := .ref it) rfl ?_)
    refine wpAny_bind (wpAny_nextOf_tuple_end hh hit pT (by simp; omega) fun h' x he' hx' => ?_)
    obtain ⟨o, ho, hc'⟩ := hx'
    refine wpAny_bind (wpAny_isInstance (T := "StopIteration") (b := true) ⟨o, ho, hc'⟩ isSubtype_stop ?_)
    exact wpAny_pure ⟨rfl, I.turned (t' := s.toks) (fun b o hb q => he' b o hb q) f0 f1 f3 f4 f5⟩
  self := fun A i s Q E st h => by
    obtain ⟨⟨_, he⟩, _⟩ := st
    exact wpAny_pyIter_enum he h
def iEnumT (K : PySem.W.Frag) (ta : TA) : TI := fun σ H R => ta σ H fun vs H1 => ∃ a xs, vs = [.ref a] ∧ SqT K H1 a xs ∧ R (IteT K a) H1
theorem pi_enumT {X : Cx} {e : Expr} {ta : TA} {p pos tpos : Pos} {elts : List Expr} {kk : Nat} (hg : Gl X "enumerate") (hm : X.mg "enumerate" = none) (ha : PA X [e] ta) (hs : starEach [e] X.env = [(false, eval e X.env)] := by rfl) :
    PI X (.Tuple elts kk tpos) (.Call (.Name "enumerate" p) [e] [] pos) (iEnumT X.K ta) := by
  refine ⟨fun pins s σ H R I h => ?_⟩
  refine Call_ (ld_blt I hg hm boot_enumerate (PyProof.Rows.callWith_type1 (thn (ha.run pos pins s σ H _ I h) fun us s1 ⟨vs, H1, I1, r1, q1⟩ => ?_) hs rfl))
  obtain ⟨a, xs, ex, hq, q⟩ := q1
  subst ex
  cases r1 with
  | cons r rr =>
    cases rr
    cases r
    obtain ⟨its, rv, p', hz⟩ := I1.tuple hq
    refine PySem.KX.call_enum1 (begins_tuple a its.toArray) (show s1.heap.IsTuple a its.toArray from p') fun h' he hit hk => wpAny_pyIter_enum he ?_
    have I2 : Inv X pins σ H1 { s1 with heap := h' } := I1.kept (t' := s1.toks) hk
    refine ⟨s1.heap.objs.size + 1, [s1.heap.objs.size + 1, s1.heap.objs.size], _, _, H1, rfl, I2, turn_enumT a (s1.heap.objs.size + 1) s1.heap.objs.size, ⟨⟨.none, he⟩, ⟨_, hit, rfl, rfl⟩, Nat.succ_ne_self _⟩, fun b hb => ?_, q⟩
    have e' : b = s1.heap.objs.size + 1 ∨ b = s1.heap.objs.size := by simpa using hb
    have hle : s1.heap.objs.size ≤ b := by
      rcases e' with z | z
      · rw [z]; exact Nat.le_add_right _ _
      · rw [z]; exact Nat.le_refl _
    exact I1.fpOk hle (I1.hok.fresh hle)
end L2
namespace KR
open PySem PySem.Spec L2
theorem ienT {K : PySem.W.Frag} {tg : TA} {σ : L2.St} {H : Hp} {R : It → Hp → Prop} (h : tg σ H fun vs H1 => ∃ a xs, vs = [.ref a] ∧ SqT K H1 a xs ∧ R (IteT K a) H1) : iEnumT K tg σ H R := h
theorem fwET {K : PySem.W.Frag} {D : Ends} {σ : L2.St} {H : Hp} {i j : Nat} {a : Addr} {xs : List V} {tb : TS} (Pv : Nat → L2.St → Hp → Prop) (h0 : Pv 0 σ H) (hl : ∀ k σ H, k ≤ xs.length → Pv k σ H → SqT K H a xs)
    (hs : ∀ k x σ H T, xs[k]? = some x → Pv k σ H → H T = none → tb { D with nx := Pv (k + 1), ct := Pv (k + 1), bk := D.nx } ((σ.set i (some (.int (k : Int)))).set j (some x)) (upd H T (.tup [.int (k : Int), x]))) (hd : ∀ σ H, Pv xs.length σ H → D.nx σ H) :
    FW (IteT K a) (gTup K 2 (gCons (gName i) (gCons (gName j) gNil))) tb D σ H := by
  refine ⟨fun k m σ H => m = xs.length - k ∧ k ≤ xs.length ∧ Pv k σ H, ⟨_, rfl, Nat.zero_le _, h0⟩, ?_⟩
  rintro k m σ H ⟨rfl, hk, p⟩
  have q := hl k σ H hk p
  by_cases hlt : k < xs.length
  · refine .inr ⟨⟨xs, xs[k], q, by simp [hlt]⟩, Pv (k + 1), fun σ' H' p' => ⟨xs.length - (k + 1), by omega, rfl, hlt, p'⟩, fun x H' hy => ?_⟩
    obtain ⟨T, y, rfl, nT, rfl, hy⟩ := hy
    exact ⟨T, _, rfl, .inl (.inl upd_same), rfl, _, _, rfl, _, _, rfl, rfl, hs k y σ H T (hy xs q) p nT⟩
  · exact .inl ⟨⟨xs, q, by omega⟩, hd σ H (by
      have e : k = xs.length := by omega
      rw [e] at p; exact p)⟩
end KR
namespace KR
open PySem PySem.Spec L2
section
variable {X : Cx} {K : PySem.W.Frag} {σ : L2.St} {H : Hp} {D : Ends} {tt : TT} {te : TE} {Q : VK} {i j : Nat} {v x y : V} {vs : List Nat}
def LW (J : It) (g : TG) (tt : TT) (te : TE) (vs : List Nat) (σ : L2.St) (Q : VK) (H1 : Hp) : Prop := ∀ D, H1 D = none → ∃ W : Nat → Nat → Hp → Prop, (∃ m, W 0 m (upd H1 D (.lst []))) ∧ ∀ i m H, W i m H →
  (J.stop i H ∧ Q (.ref D) H) ∨ (J.go i H ∧ ∃ Nx : Hp → Prop, (∀ H', Nx H' → ∃ m', m' < m ∧ W (i + 1) m' H') ∧ ∀ x H', J.yld i H x H' → g x (wipe σ vs) H' fun σ2 H2 => wipe σ2 vs = wipe σ vs ∧ tt σ2 H2 fun b H3 =>
    if b = true then te σ2 H3 fun y H4 => ∃ acc, H4 D = some (.lst acc) ∧ acc.length < sizeLine ∧ Nx (upd H4 D (.lst (acc ++ [y]))) else Nx H3)
theorem lc {wi : TI} {g : TG} (h : wi σ H fun J H1 => LW J g tt te vs σ Q H1) : tLc wi g tt te vs σ H Q := h
theorem lrngI {z : Int} {g : TG} (n : Nat) (e : z = (n : Int)) (hn : n < 2 ^ 62) (h : LW (Itr 0 n) g tt te vs σ Q H) : -(2 ^ 62) ≤ z ∧ z < 2 ^ 62 ∧ LW (Itr 0 z.toNat) g tt te vs σ Q H := by
  subst e
  exact ⟨by omega, by omega, h⟩
theorem lrngNN {x y : Int} (a n : Nat) {g : TG} (ex : x = (a : Int)) (ey : y = (n : Int)) (ha : a < 2 ^ 62) (hn : n < 2 ^ 62) (h : LW (Itr a (n - a)) g tt te vs σ Q H) :
    (-(2 ^ 62) ≤ x ∧ x < 2 ^ 62 ∧ -(2 ^ 62) ≤ y ∧ y < 2 ^ 62) ∧ LW (Itr x (y - x).toNat) g tt te vs σ Q H := by
  subst ex ey
  exact ⟨by omega, by
    have e : ((n : Int) - (a : Int)).toNat = n - a := by omega
    rw [e]; exact h⟩
theorem llistN {a : Addr} {xs : List V} {g : TG} (hs : SqL K H a xs) (h : LW (Itl K a) g tt te vs σ Q H) : ∃ b, V.ref a = .ref b ∧ (∃ xs, SqL K H b xs) ∧ LW (Itl K b) g tt te vs σ Q H := ⟨a, rfl, ⟨xs, hs⟩, h⟩
theorem ltupN {a : Addr} {xs : List V} {g : TG} (hs : SqT K H a xs) (h : LW (Itt K a) g tt te vs σ Q H) : ∃ b, V.ref a = .ref b ∧ (∃ xs, SqT K H b xs) ∧ LW (Itt K b) g tt te vs σ Q H := ⟨a, rfl, ⟨xs, hs⟩, h⟩
def giv (f : Nat → Bool) (v : Nat → V) (a : Nat) : Nat → List V
  | 0 => []
  | k + 1 => giv f v a k ++ (if f (a + k) = true then [v (a + k)] else [])
theorem giv_len (f : Nat → Bool) (v : Nat → V) (a : Nat) : ∀ k, (giv f v a k).length ≤ k
  | 0 => Nat.le_refl _
  | k + 1 => by
    have ih := giv_len f v a k
    unfold giv
    rw [List.length_append]
    split
    · show _ + 1 ≤ _
      omega
    · show _ + 0 ≤ _
      omega
theorem giv_all {f : Nat → Bool} (v : Nat → V) (h : ∀ k, f k = true) : ∀ n, giv f v 0 n = (List.range n).map v
  | 0 => rfl
  | n + 1 => by
    unfold giv
    rw [Nat.zero_add, if_pos (h n), giv_all v h n, List.range_succ, List.map_append]
    rfl
theorem lturn {f : Bool} {z : V} {D0 : Addr} {acc : List V} {Hk : Hp} {σ2 : L2.St} {Nx : Hp → Prop} (hD : H D0 = none) (e : Evl.Ex H Hk) (hk : Hk D0 = some (.lst acc)) (hl : acc.length < 100000) (ht : Evl.EvT tt σ2 H f) (he : f = true → Evl.Ev te σ2 H z)
    (q1 : ∀ H4, f = true → Evl.Ex H H4 → H4 D0 = some (.lst acc) → Nx (upd H4 D0 (.lst (acc ++ [z])))) (q2 : ∀ H4, f = false → Evl.Ex H H4 → H4 D0 = some (.lst acc) → Nx H4) :
    tt σ2 Hk fun b H3 => if b = true then te σ2 H3 fun y H4 => ∃ acc, H4 D0 = some (.lst acc) ∧ acc.length < sizeLine ∧ Nx (upd H4 D0 (.lst (acc ++ [y]))) else Nx H3 := by
  refine ht Hk e _ fun H3 e3 => ?_
  cases f with
  | true =>
    rw [if_pos rfl]
    exact he rfl H3 (e.trans e3) _ fun H4 e4 => ⟨acc, e4 D0 _ (e3 D0 _ hk), Evl.sz_lt hl, q1 H4 rfl ((e.trans e3).trans e4) (e4 D0 _ (e3 D0 _ hk))⟩
  | false =>
    rw [if_neg Bool.false_ne_true]
    exact q2 H3 rfl (e.trans e3) (e3 D0 _ hk)
theorem lwR {a n : Nat} (f : Nat → Bool) (v : Nat → V) (hn : n < 50000) (hw : ∀ x, wipe ((wipe σ vs).set j (some x)) vs = wipe σ vs)
    (ht : ∀ k H1, Evl.Ex H H1 → a ≤ k → k < n → Evl.EvT tt ((wipe σ vs).set j (some (.int (k : Int)))) H1 (f k)) (he : ∀ k H1, Evl.Ex H H1 → a ≤ k → k < n → f k = true → Evl.Ev te ((wipe σ vs).set j (some (.int (k : Int)))) H1 (v k))
    (hd : ∀ p H2, H p = none → Evl.Ex H H2 → H2 p = some (.lst (giv f v a (n - a))) → Q (.ref p) H2) : LW (Itr a (n - a)) (gName j) tt te vs σ Q H := fun D0 hD => by
  refine lc_range (lo := a) (n := n - a) (fun k H' => Evl.Ex H H' ∧ H' D0 = some (.lst (giv f v a k))) ⟨Evl.Ex.new hD, upd_same⟩ (fun k H' hk ⟨e, h'⟩ => ?_) (fun H' ⟨e, h'⟩ => hd D0 H' hD e h')
  have e0 : ((a : Nat) : Int) + (k : Int) = ((a + k : Nat) : Int) := rfl
  show wipe ((wipe σ vs).set j (some (.int (((a : Nat) : Int) + (k : Int))))) vs = wipe σ vs ∧ _
  refine ⟨hw _, ?_⟩
  show tt ((wipe σ vs).set j (some (.int (((a : Nat) : Int) + (k : Int))))) H' _
  rw [e0]
  have hle := giv_len f v a k
  refine lturn hD e h' (by omega) (ht (a + k) H (Evl.Ex.refl H) (by omega) (by omega)) (fun hf => he (a + k) H (Evl.Ex.refl H) (by omega) (by omega) hf) (fun H4 hf e4 h4 => ?_) (fun H4 hf e4 h4 => ?_)
  · refine ⟨Evl.Ex.mut e4 hD, ?_⟩
    rw [upd_same]
    show _ = some (HO.lst (giv f v a k ++ (if f (a + k) = true then [v (a + k)] else [])))
    rw [if_pos hf]
  · refine ⟨e4, ?_⟩
    show _ = some (HO.lst (giv f v a k ++ (if f (a + k) = true then [v (a + k)] else [])))
    rw [if_neg (by rw [hf]; decide), List.append_nil]
    exact h4
theorem lwL {a : Addr} {xs : List V} (f : Nat → Bool) (v : Nat → V) (hx : SqL K H a xs) (hn : xs.length < 50000) (hw : ∀ x, wipe ((wipe σ vs).set j (some x)) vs = wipe σ vs)
    (ht : ∀ k x H1, Evl.Ex H H1 → xs[k]? = some x → Evl.EvT tt ((wipe σ vs).set j (some x)) H1 (f k)) (he : ∀ k x H1, Evl.Ex H H1 → xs[k]? = some x → f k = true → Evl.Ev te ((wipe σ vs).set j (some x)) H1 (v k))
    (hd : ∀ p H2, H p = none → Evl.Ex H H2 → H2 p = some (.lst (giv f v 0 xs.length)) → Q (.ref p) H2) : LW (Itl K a) (gName j) tt te vs σ Q H := fun D0 hD => by
  refine lc_list (xs := xs) (fun k H' => Evl.Ex H H' ∧ H' D0 = some (.lst (giv f v 0 k))) ⟨Evl.Ex.new hD, upd_same⟩ (fun k H' _ ⟨e, _⟩ => Evl.ex_l e hx) (fun k x H' hk ⟨e, h'⟩ => ?_) (fun H' ⟨e, h'⟩ => hd D0 H' hD e h')
  refine ⟨hw _, ?_⟩
  show tt ((wipe σ vs).set j (some x)) H' _
  have hle := giv_len f v 0 k
  have hlt := (List.getElem?_eq_some_iff.mp hk).1
  refine lturn hD e h' (by omega) (ht k x H (Evl.Ex.refl H) hk) (fun hf => he k x H (Evl.Ex.refl H) hk hf) (fun H4 hf e4 h4 => ?_) (fun H4 hf e4 h4 => ?_)
  · refine ⟨Evl.Ex.mut e4 hD, ?_⟩
    rw [upd_same]
    show _ = some (HO.lst (giv f v 0 k ++ (if f (0 + k) = true then [v (0 + k)] else [])))
    rw [Nat.zero_add, if_pos hf]
  · refine ⟨e4, ?_⟩
    show _ = some (HO.lst (giv f v 0 k ++ (if f (0 + k) = true then [v (0 + k)] else [])))
    rw [Nat.zero_add, if_neg (by rw [hf]; decide), List.append_nil]
    exact h4
theorem etYes : Evl.EvT tYes σ H true := fun H1 _ Q q => q H1 (Evl.Ex.refl H1)
theorem ev_of (h : ∀ H1, Evl.Ex H H1 → ∀ Q : VK, (∀ H2, Evl.Ex H1 H2 → Q v H2) → te σ H1 Q) : Evl.Ev te σ H v := h
theorem et_of {b : Bool} (h : ∀ H1, Evl.Ex H H1 → ∀ Q : Bool → Hp → Prop, (∀ H2, Evl.Ex H1 H2 → Q b H2) → tt σ H1 Q) : Evl.EvT tt σ H b := h
theorem truL {K : PySem.W.Frag} {a : Addr} {xs : List V} {P1 : Bool → Prop} (hs : SqL K H a xs) (h : P1 (!xs.isEmpty)) : ∃ k, TruV K (.ref a) H k ∧ P1 k := ⟨_, .inl ⟨xs, hs, rfl⟩, h⟩
theorem truLb {K : PySem.W.Frag} {a : Addr} {xs : List V} {P1 : Bool → Prop} (b : Bool) (hs : SqL K H a xs) (hb : b = !xs.isEmpty) (h : P1 b) : ∃ k, TruV K (.ref a) H k ∧ P1 k := ⟨_, .inl ⟨xs, hs, hb⟩, h⟩
theorem truI {K : PySem.W.Frag} {z : Int} {P1 : Bool → Prop} (h : P1 (z != 0)) : ∃ k, TruV K (.int z) H k ∧ P1 k := ⟨_, rfl, h⟩
theorem isNo {P1 : Prop} (h : P1) : V.non = V.non ∧ P1 := ⟨rfl, h⟩
section
variable {A B : Prop}
theorem nnT (h : A) : if decide (V.non = V.non) = true then A else B := by rw [if_pos (by decide)]; exact h
theorem niF {z : Int} (h : B) : if decide (V.int z = V.non) = true then A else B := by rw [if_neg (by rw [decide_eq_false (by intro q; cases q)]; decide)]; exact h
theorem nrF {a : Addr} (h : B) : if decide (V.ref a = V.non) = true then A else B := by rw [if_neg (by rw [decide_eq_false (by intro q; cases q)]; decide)]; exact h
theorem mnT (h : B) : if (!decide (V.non = V.non)) = true then A else B := by rw [if_neg (by decide)]; exact h
theorem miF {z : Int} (h : A) : if (!decide (V.int z = V.non)) = true then A else B := by rw [if_pos (by rw [decide_eq_false (by intro q; cases q)]; rfl)]; exact h
theorem mrF {a : Addr} (h : A) : if (!decide (V.ref a = V.non)) = true then A else B := by rw [if_pos (by rw [decide_eq_false (by intro q; cases q)]; rfl)]; exact h
end
theorem whlF {ts : TS} (ht : ∀ QB : Bool → Hp → Prop, QB false H → tt σ H QB) (h : D.nx σ H) : tWhile tt ts D σ H :=
  ⟨fun m σ' H' => σ' = σ ∧ H' = H, ⟨0, rfl, rfl⟩, fun m σ' H' ⟨e1, e2⟩ => by
    subst e1 e2
    exact ht _ (by rw [if_neg Bool.false_ne_true]; exact h)⟩
theorem ifF {ts us : TS} (ht : ∀ QB : Bool → Hp → Prop, QB false H → tt σ H QB) (h : us D σ H) : tIfS tt ts us D σ H := ht _ (by rw [if_neg Bool.false_ne_true]; exact h)
theorem ifT {ts us : TS} (ht : ∀ QB : Bool → Hp → Prop, QB true H → tt σ H QB) (h : ts D σ H) : tIfS tt ts us D σ H := ht _ (by rw [if_pos rfl]; exact h)
theorem ifFx {ts us : TS} (ht : ∀ QB : Bool → Hp → Prop, (∀ H2, Evl.Ex H H2 → QB false H2) → tt σ H QB) (h : ∀ H2, Evl.Ex H H2 → us D σ H2) : tIfS tt ts us D σ H := ht _ (fun H2 e => by rw [if_neg Bool.false_ne_true]; exact h H2 e)
theorem ifTx {ts us : TS} (ht : ∀ QB : Bool → Hp → Prop, (∀ H2, Evl.Ex H H2 → QB true H2) → tt σ H QB) (h : ∀ H2, Evl.Ex H H2 → ts D σ H2) : tIfS tt ts us D σ H := ht _ (fun H2 e => by rw [if_pos rfl]; exact h H2 e)
theorem sfld {K : PySem.W.Frag} {ta tv : TE} {f : Str} (h : tv σ H fun y H1 => ta σ H1 fun x H2 => ∃ a C dx fs, x = .ref a ∧ H2 a = some (.ins C dx fs) ∧ Cls K C ∧ NoAttr K C f ∧ fs.length < 1000 ∧ D.nx σ (upd H2 a (.ins C dx (putF f y fs)))) : sFld K ta tv f D σ H := h
theorem sl {r : V → Option Int → Option Int → Hp → VK → Prop} {tl th : TO} (h : te σ H fun x H1 => tl σ H1 fun l H2 => th σ H2 fun u H3 => r x l u H3 Q) : tSl r te tl th σ H Q := h
theorem part {QO : Option Int → Hp → Prop} (h : te σ H fun x H1 => ∃ i, x = .int i ∧ QO (some i) H1) : tPart te σ H QO := h
theorem nopart {QO : Option Int → Hp → Prop} (h : QO none H) : tNoPart σ H QO := h
theorem slL {K : PySem.W.Frag} {a : Addr} {xs : List V} {lo hi : Option Int} (hs : SqL K H a xs) (h : ∀ p, H p = none → Q (.ref p) (upd H p (.lst (cutV xs lo hi)))) : rSlL K (.ref a) lo hi H Q := ⟨a, xs, rfl, hs, h⟩
theorem ix_tupK {K : PySem.W.Frag} (h : X.K = K) : IxR X (rIxT K) := by
  subst h
  exact ix_tup
theorem ix_listK {K : PySem.W.Frag} (h : X.K = K) : IxR X (rIxL K) := by
  subst h
  exact ix_list
theorem len_seqK {K : PySem.W.Frag} (h : X.K = K) : CallR X (.builtin "len") (fun xs H Q => ∃ p ys, xs = [.ref p] ∧ (SqL K H p ys ∨ SqT K H p ys) ∧ Q (.int ys.length) H) := by
  subst h
  exact call_len_seq
theorem pe_fldK {K : PySem.W.Frag} {e : Expr} {f : Str} {pos : Pos} {ta : TE} (h : X.K = K) (he : PE X e ta) (hb : attributeBase e f X.env (eval e X.env) = eval e X.env) : PE X (.Attribute e f pos) (tFld K ta f) := by
  subst h
  exact pe_fld he hb
end
end KR
namespace L2
open PySem PySem.Spec PyProof.Rows
def eqkb (k : Bool) (v : Value) : Bool := match v with
  | .bool b => b == k
  | _ => false
variable {X : Cx}
def rCntB (K : PySem.W.Frag) : V → List V → Hp → VK → Prop := fun x xs H Q => ∃ (p : Addr) (bs : List Bool) (k : Bool), x = .ref p ∧ xs = [.bl k] ∧ SqL K H p (bs.map V.bl) ∧ Q (.int (bs.count k : Nat)) H
theorem vals_bls : ∀ {bs : List Bool} {us : List Value}, Vals (bs.map V.bl) us → us = bs.map Value.bool
  | [], _, .nil => rfl
  | b :: bs, _, .cons r rs => by
    have e := vals_bls rs
    have e1 : _ = Value.bool b := r
    rw [e, e1]
    rfl
theorem eqkb_count (k : Bool) : ∀ bs : List Bool, (bs.map Value.bool).countP (eqkb k) = bs.count k
  | [] => rfl
  | b :: bs => by
    have ih := eqkb_count k bs
    rw [List.map_cons, List.countP_cons, List.count_cons, ih] <;> rfl
theorem mt_bcount : MtR X "list.count" (rCntB X.K) := by
  intro pins s σ H x xs v us Q I rx rxs h
  obtain ⟨p, bs, k, rfl, rfl, hs, q⟩ := h
  cases rx
  obtain ⟨u, rfl, ru⟩ := rxs.one
  obtain rfl : u = Value.bool k := ru
  obtain ⟨its, rv, ⟨⟨cls, dd, data, sl⟩, n, ho, hc, hdn, hd⟩, hlen⟩ := I.list hs
  simp only at hc hd
  subst hc hd
  have hi := vals_bls rv
  refine call_meets PySem.F.slot_list_count ⟨_, ho, rfl⟩ PySem.F.entry_list_count (PySem.F.args_list_count_2 _ _)
    (SeqAt.list_countAt p its.toArray n dd sl (.bool k) (eqkb k)) ⟨ho, fun y hy => ?_, ?_⟩
  · have hy' : y ∈ its := by simpa using hy
    rw [hi] at hy'
    obtain ⟨b, _, rfl⟩ := List.mem_map.mp hy'
    exact SeqAt.EqAt.bool_bool b k
  have ec : its.toArray.toList.countP (eqkb k) = bs.count k := by
    show its.countP (eqkb k) = _
    rw [hi]
    exact eqkb_count k bs
  refine ⟨.int (bs.count k : Nat), H, I.tok _, ⟨s.toks, ?_⟩, q⟩
  show Value.int ((its.toArray.toList.countP (eqkb k) : Nat) : Int) s.toks = Value.int ((bs.count k : Nat) : Int) s.toks
  rw [ec]
end L2
namespace L2
open PySem PySem.Spec PyProof.Rows
def rIsErrE (K : PySem.W.Frag) (a : Addr) (cls : Value) (d : Option Addr) : List V → Hp → VK → Prop := fun xs H Q => ∃ C, rIsErr K C a cls d xs H Q
theorem call_isErrE {X : Cx} {a : Addr} {oe : Obj} {cls : Value} {d : Option Addr} {pn : List (Addr × Obj)} (hz : L2N.Zn cls d oe) (hf : ∃ vs, oe.data = .fields vs) : CallR (X.suite a ((a, oe) :: pn)) (.builtin "isinstance") (rIsErrE X.K a cls d) := by
  intro pins s σ H xs us Q I r h
  obtain ⟨C, h⟩ := h
  exact call_isErr hz.zc hf pins s σ H xs us Q I r h
end L2
namespace KR
open PySem PySem.Spec PyProof.Rows L2
theorem mt_bcountK {X : Cx} {K : PySem.W.Frag} (h : X.K = K) : MtR X "list.count" (rCntB K) := by
  subst h
  exact mt_bcount
end KR
namespace KR
open PySem PySem.Spec PyProof.Rows L2
theorem pe_bmK {X : Cx} {K : PySem.W.Frag} {T : String} {id : String} {name : Str} {o e : Expr} {es : List Expr} {apos cpos : Pos} {r : V → List V → Hp → VK → Prop} {to : TE} {t : TA} (h : X.K = K) (pa : PlainAttrs T) (slot : Slot T name id) (hty : typeOf (.builtin id) = pure (.type "method_descriptor")) (hm : MtR X id r) (ho : PE X o to) (ha : PA X (e :: es) t)
    (hbase : attributeBase o name X.env (eval o X.env) = eval o X.env := by rfl)
    (hfew : ((backTo cpos (starEach (e :: es) X.env)).all (fun x => !x.1) && (backToKw cpos (keywordEach [] X.env)).all (fun x => x.1.isSome)
      && decide ((e :: es).length + ([] : List Keyword).length + (if ([] : List Keyword).isEmpty then 0 else 1) < 30)) = true := by rfl)
    (hline : (apos.endLine == cpos.line) = true := by rfl) (hs : starEach (e :: es) X.env = (false, eval e X.env) :: starEach es X.env := by rfl) (hplain : (backTo cpos (starEach es X.env)).any (·.1) = false := by rfl) :
    PE X (.Call (.Attribute o name apos) (e :: es) [] cpos) (tBM K T r to t) := by
  subst h
  exact pe_bm pa slot hty hm ho ha hbase hfew hline hs hplain
end KR
namespace L2
open PySem PySem.Spec PyProof.Rows
theorem passN {X : Cx} : Passes (L2N.CX X.prog X.w) X E0 := fun _ _ _ _ _ _ _ h => by
  obtain ⟨_, _, _, _, _, _, _, _, _, _, _, _, z⟩ := h
  exact z.elim
theorem takesN0 {X : Cx} : L2N.Takes X (fun _ _ _ _ => False) := fun _ _ x => by
  obtain ⟨_, _, _, _, _, _, _, _, _, _, _, _, _, _, _, _, z⟩ := x
  exact z.elim
theorem Fun.okN {P : Program} {w : World} {K : PySem.W.Frag} {mg : Str → Option Value} {base : Heap} {x qual : Str} {st : Stmt} {f : Addr} {fd : FuncData} {N ps : List Str} {k : Nat} {sp : Sp} (F : Fun K x qual st f fd) (S : FnScope N ps (defScope st)) (len : ∀ vs H Q E, sp vs H Q E → vs.length = ps.length)
    (hbody : ∀ (cdv : Value) (Ar : Around) (outer : List Env) (s : Shared) (H : Hp) (vs : List V) (Q : VK) (E : XK), Room k (Ar.deeper (envOfC qual (defScope st) s.heap.objs.size f cdv)) → sp vs H Q E →
      ∃ t, PSs (cxOf (L2N.CX P w) P w K mg base N qual (defScope st) f cdv Ar outer s H E) (defBody st) t ∧ t { nx := fun _ H' => Q .non H', rt := Q } (start N vs) H) : FnOk P w K mg base (L2N.CX P w) (k + 1) f fd ps sp := by
  obtain ⟨oc, od, kV, doc, pm, an, cdv, ct, osl, rfl, lk, hcd⟩ := F.ex
  exact fn_of lk hcd S len fun Ar outer s H vs Q E hr hsp => hbody cdv Ar outer s H vs Q E hr hsp
theorem Fun.okH {P : Program} {w : World} {K : PySem.W.Frag} {mg : Str → Option Value} {base : Heap} {x qual : Str} {st : Stmt} {f : Addr} {fd : FuncData} {N ps : List Str} {k : Nat} {sp : Sp} (F : Fun K x qual st f fd) (S : FnScope N ps (defScope st)) (len : ∀ vs H Q E, sp vs H Q E → vs.length = ps.length)
    (hbody : ∀ (cdv : Value) (Ar : Around) (outer : List Env) (s : Shared) (H : Hp) (vs : List V) (Q : VK) (E : XK) (p : Addr × Obj), L2H.Hot1 Ar p → L2H.RoomH k (Ar.deeper (envOfC qual (defScope st) s.heap.objs.size f cdv)) → sp vs H Q E →
      ∃ t, PSs (L2H.cxH CX0 P w K mg base N qual (defScope st) f cdv Ar outer s H E p) (defBody st) t ∧ t { nx := fun _ H' => Q .non H', rt := Q } (start N vs) H) : L2H.FnH P w K mg base CX0 (k + 1) f fd ps sp := by
  obtain ⟨oc, od, kV, doc, pm, an, cdv, ct, osl, rfl, lk, hcd⟩ := F.ex
  exact L2H.fn_ofH lk hcd S len fun Ar outer s H vs Q E p hot hr hsp => hbody cdv Ar outer s H vs Q E p hot hr hsp
theorem hot_suite {X : Cx} {a : Addr} {oe : Obj} {cls : Value} {d : Option Addr} {pn : List (Addr × Obj)} (hz : L2N.Zn cls d oe) (hf : ∃ vs, oe.data = .fields vs) : L2H.HotC (X.suite a ((a, oe) :: pn)) := by
  obtain ⟨vs, e⟩ := hf
  exact ⟨(a, oe), ⟨rfl, vs, e, hz.2.2 vs e⟩, List.mem_cons_self⟩
theorem pass0At {X : Cx} {σ : St} : PassesAt CX0 X σ (fun _ _ _ => False) := fun _ _ _ _ _ _ h => h.elim
end L2
namespace KR
open PySem PySem.Spec PyProof.Rows L2
variable {σ : L2.St} {H : Hp} {Q : VK}
theorem callS {sp : Sp} {E : L2.St → XK} {tg : TA} (h : tg σ H fun vs H1 => sp vs H1 Q (E σ)) : tCallS sp E tg σ H Q := h
theorem errF {a C d0 : Addr} {f : Str} {te : TE} (h : te σ H fun x H1 => x = .ref a ∧ ∃ (fs : List (Str × V)) (v : V), H1 d0 = some (.xd fs) ∧ fs.lookup f = some v ∧ Q v H1) : tErrF a C (.ref C) (some d0) f te σ H Q := by
  have hm : ∀ (x : V) (H1 : Hp), (x = .ref a ∧ ∃ (fs : List (Str × V)) (v : V), H1 d0 = some (.xd fs) ∧ fs.lookup f = some v ∧ Q v H1) → (x = .ref a ∧ Value.ref C = .ref C ∧ ∃ (dd : Addr) (fs : List (Str × V)) (v : V), some d0 = some dd ∧ H1 dd = some (.xd fs) ∧ fs.lookup f = some v ∧ Q v H1) :=
    fun x H1 ⟨e, fs, v, h1, h2, q⟩ => ⟨e, rfl, d0, fs, v, rfl, h1, h2, q⟩
  have e : (fun x H1 => x = V.ref a ∧ ∃ (fs : List (Str × V)) (v : V), H1 d0 = some (.xd fs) ∧ fs.lookup f = some v ∧ Q v H1) = (fun x H1 => x = V.ref a ∧ Value.ref C = .ref C ∧ ∃ (dd : Addr) (fs : List (Str × V)) (v : V), some d0 = some dd ∧ H1 dd = some (.xd fs) ∧ fs.lookup f = some v ∧ Q v H1) :=
    funext fun x => funext fun H1 => propext ⟨hm x H1, fun ⟨e, _, dd, fs, v, ed, h1, h2, q⟩ => by cases ed; exact ⟨e, fs, v, h1, h2, q⟩⟩
  show te σ H _
  rw [← e]
  exact h
theorem bcount {K : PySem.W.Frag} {a : Addr} {bs : List Bool} {k : Bool} (hs : SqL K H a (bs.map V.bl)) (h : Q (.int (bs.count k : Nat)) H) : rCntB K (.ref a) [.bl k] H Q := ⟨a, bs, k, rfl, rfl, hs, h⟩
end KR
namespace KR
open PySem PySem.Spec PyProof.Rows L2
variable {σ : L2.St} {H : Hp} {Q : VK}
theorem bm {K : PySem.W.Frag} {T : String} {r : V → List V → Hp → VK → Prop} {to : TE} {t : TA} (h : to σ H fun x H1 => tyV K T x H1 ∧ t σ H1 fun xs H2 => r x xs H2 Q) : tBM K T r to t σ H Q := h
end KR
namespace KR
open PySem PySem.Spec PyProof.Rows L2
variable {σ : L2.St} {H : Hp} {Q : VK}
theorem make {C : Addr} {sp : Sp} {dvs : List V} {E : XK} {tg : TA} (h : tg σ H fun vs H1 => ∀ x dx, H1 x = none → H1 dx = none → dx ≠ x → sp (.ref x :: (vs ++ dvs)) (upd (upd H1 dx (.own x)) x (.ins C dx [])) (fun v H2 => v = .non ∧ Q (.ref x) H2) E) : tMake C sp dvs E tg σ H Q := h
end KR
namespace L2
open PySem PySem.Spec PyProof.Rows
structure FnHp (P : Program) (w : World) (K : PySem.W.Frag) (mg : Str → Option Value) (base : Heap) (CX : CXT) (k : Nat) (f : Addr) (fd : FuncData) (ps : List Str) (sp : Sp) (p : Addr × Obj) : Prop where
  len : ∀ vs H Q E, sp vs H Q E → vs.length = ps.length
  run : ∀ (Ar : Around) (outer : List Env) (s : Shared) (H : Hp) (args : Args) (us : List Value) (vs : List V) (Q : VK) (E : XK), L2H.RoomH k Ar → L2H.Hot1 Ar p → L2H.PinOk outer H s p → Env0 P w K mg base Ar outer s H →
    BindsTo s fd args (ps.zip us) → Vals vs us → sp vs H Q E → codeAny (model P w) Ar (.call (.ref f) args) (CR CX outer P w H s Q E) s
theorem fn_ofHp {CX : CXT} {P : Program} {w : World} {K : PySem.W.Frag} {mg : Str → Option Value} {base : Heap} {k : Nat} {f : Addr} {name qual : Str} {params : Arguments} {body : List Stmt} {scope : Scope} {dV kV doc pm cdv ct oc : Value} {an od : Option Addr}
    {osl : Array (Option Value)} {N ps : List Str} {sp : Sp} {p : Addr × Obj} (lk : K.lookup f = some ⟨oc, od, .func (PySem.W.fnOf name qual params body scope dV kV doc pm an cdv ct), osl⟩) (hcd : PySem.W.codeIn K cdv qual = true) (S : FnScope N ps scope)
    (len : ∀ vs H Q E, sp vs H Q E → vs.length = ps.length)
    (hbody : ∀ (Ar : Around) (outer : List Env) (s : Shared) (H : Hp) (vs : List V) (Q : VK) (E : XK), L2H.Hot1 Ar p → L2H.RoomH k (Ar.deeper (envOfC qual scope s.heap.objs.size f cdv)) → sp vs H Q E →
      ∃ t, PSs (L2H.cxH CX P w K mg base N qual scope f cdv Ar outer s H E p) body t ∧ t { nx := fun _ H' => Q .non H', rt := Q } (L2.start N vs) H) :
    FnHp P w K mg base CX (k + 1) f (PySem.W.fnOf name qual params body scope dV kV doc pm an cdv ct) ps sp p := by
  constructor
  · exact len
  intro Ar outer s H args us vs Q E hr hot hpin e0 hb r hsp
  have keeps := fun b o e => (e0.bs b o e).1
  have inK := e0.mod.kin.keeps keeps
  have noL := e0.mod.nolimit.keeps keeps
  refine codeAny_call_function hr.depth (inK _ _ lk) rfl S.co S.gen rfl (PySem.W.codeRec_of inK hcd) ?_
  refine hb _ _ _ _ (wpAny_newFunctionEnv_cells S.kind ?_ ?_)
  · intro ⟨n, v⟩ hy
    rcases S.par n (List.of_mem_zip hy).1 with q | q
    · left; exact q
    · right; exact ⟨q, PySem.W.cellsFrom_some _ _ _ (.inl q)⟩
  intro env he s1 x
  subst he
  refine ⟨noL.keeps x.toInCall.keep, codeAny_func ?_⟩
  obtain ⟨t, ht, hq⟩ := hbody Ar outer s H vs Q E hot (hr.deeper _) hsp
  have I := L2H.inv_startH (CX := CX) (E := E) S hpin e0 (len _ _ _ _ hsp) r x
  refine wpAny_mono (ht.run [] s1 (L2.start N vs) H _ I hq) ?_ (fun e s' hs => hs)
  intro fl s' hs
  have fin : ∀ {σ' : St} {H' : Hp} {v : V} {u : Value}, Inv (L2H.cxH CX P w K mg base N qual scope f cdv Ar outer s H E p) [] σ' H' s' → RelV v u → Q v H' → CE outer P w H s Q u s' := by
    intro σ' H' v u J rv q
    exact ⟨v, H', J.os, J.bare, J.base, J.hok, rv, q⟩
  cases fl
  case ret u => obtain ⟨v, σ', H', J, rv, q⟩ := hs; exact fin J rv q
  case next => obtain ⟨σ', H', J, q⟩ := hs; exact fin (v := V.non) (u := Value.none) J rfl q
  case brk => obtain ⟨_, _, _, q⟩ := hs; exact q.elim
  case cont => obtain ⟨_, _, _, q⟩ := hs; exact q.elim
theorem Fun.okP {P : Program} {w : World} {K : PySem.W.Frag} {mg : Str → Option Value} {base : Heap} {x qual : Str} {st : Stmt} {f : Addr} {fd : FuncData} {N ps : List Str} {k : Nat} {sp : Sp} {p : Addr × Obj} (F : Fun K x qual st f fd) (S : FnScope N ps (defScope st)) (len : ∀ vs H Q E, sp vs H Q E → vs.length = ps.length)
    (hbody : ∀ (cdv : Value) (Ar : Around) (outer : List Env) (s : Shared) (H : Hp) (vs : List V) (Q : VK) (E : XK), L2H.Hot1 Ar p → L2H.RoomH k (Ar.deeper (envOfC qual (defScope st) s.heap.objs.size f cdv)) → sp vs H Q E →
      ∃ t, PSs (L2H.cxH CX0 P w K mg base N qual (defScope st) f cdv Ar outer s H E p) (defBody st) t ∧ t { nx := fun _ H' => Q .non H', rt := Q } (start N vs) H) : FnHp P w K mg base CX0 (k + 1) f fd ps sp p := by
  obtain ⟨oc, od, kV, doc, pm, an, cdv, ct, osl, rfl, lk, hcd⟩ := F.ex
  exact fn_ofHp lk hcd S len fun Ar outer s H vs Q E hot hr hsp => hbody cdv Ar outer s H vs Q E hot hr hsp
section
variable {X : Cx} {k : Nat} {f : Addr} {fd : FuncData} {ps : List Str} {sp : Sp} {x : Str} {q pos : Pos} {e : Expr} {es : List Expr} {t : TA}
theorem pe_callP {a : Addr} {oe : Obj} {cls : Value} {d : Option Addr} {pn : List (Addr × Obj)} (F : FnHp X.prog X.w X.K X.mg X.base CX0 k f fd ps sp (a, oe)) (hr : Room k X.A) (hz : L2N.Zn cls d oe) (hf : ∃ vs, oe.data = .fields vs) (hg : Gl X x) (hm : X.mg x = some (.ref f)) (hk : PySem.W.keepIn X.K (.ref f) = true) (hb : Binds X.K fd ps [])
    (ha : PA (X.suite a ((a, oe) :: pn)) (e :: es) t) (hdb : (x == ("__debug__" : Str)) = false := by decide) (he : starEach (e :: es) X.env = (false, eval e X.env) :: starEach es X.env := by rfl) (hpl : (backTo pos (starEach es X.env)).any (·.1) = false := by rfl) :
    PE (X.suite a ((a, oe) :: pn)) (.Call (.Name x q) (e :: es) [] pos) (tCallS sp (fun _ _ _ _ => False) t) := by
  obtain ⟨dvs, hdv⟩ := hf
  constructor
  intro pins s σ H Q I h
  refine wpAny_Call_Name_kw (ld_glob (X := X.suite a ((a, oe) :: pn)) I hg hm ?_ hdb)
  refine PySem.W.callWith_K (h₀ := X.base) I.ok.mod.kin hk (thn (ha.run pos pins s σ H _ I h) ?_) he hpl
  rintro us s1 ⟨vs, H1, I1, r, qq⟩
  refine ⟨I1.kIn, ?_⟩
  have l1 : us.length = ps.length := r.length.symm.trans (F.len _ _ _ _ qq)
  have b := hb s1 us I1.kIn (by rw [List.append_nil]; exact l1)
  rw [List.append_nil] at b
  obtain ⟨g1, g2, g3, g4, g5⟩ := I1.pin (a, oe) (List.mem_append_left _ List.mem_cons_self)
  have hpin : L2H.PinOk X.stack H1 s1 (a, oe) := ⟨g1, g2, fun hm => (List.mem_cons.mp (I1.stkSub a hm)).elim g3 g4, g5⟩
  have hr2 : L2H.RoomH k (X.A.mark (some (.ref a))) := L2H.roomH_mark hr _
  refine wpAny_call (codeAny_mono (F.run (X.A.mark (some (.ref a))) X.stack s1 H1 ⟨us, []⟩ us vs Q (fun _ _ _ => False) hr2 ⟨rfl, dvs, hdv, hz.2.2 dvs hdv⟩ hpin I1.env0 b r qq) ?_)
  intro r' s' hq
  cases r' with
  | error ee => exact (show False from hq).elim
  | ok fl =>
    cases fl
    case ret u => exact I1.after hq
    case next => exact False.elim hq
    case brk => exact False.elim hq
    case cont => exact False.elim hq
end
end L2
namespace L2
open PySem PySem.Spec PyProof.Rows
theorem call_isErrP {X : Cx} {K : PySem.W.Frag} {a : Addr} {oe : Obj} {cls : Value} {d : Option Addr} (h : X.K = K) (hpn : (a, oe) ∈ X.pn) (hz : L2N.Zn cls d oe) (hf : ∃ vs, oe.data = .fields vs) : CallR X (.builtin "isinstance") (rIsErrE K a cls d) := by
  subst h
  intro pins s σ H xs us Q I r h
  obtain ⟨C, h⟩ := h
  exact call_isErrX hpn hz.zc hf pins s σ H xs us Q I r h
end L2
namespace KR
open PySem PySem.Spec PyProof.Rows L2
variable {σ : L2.St} {H : Hp} {K : PySem.W.Frag}
theorem gtup2 {a : Addr} {x y : V} {i j n : Nat} {Q : L2.St → Hp → Prop} (hs : SqT K H a [x, y]) (hn : 2 = n) (h : Q ((σ.set i (some x)).set j (some y)) H) : gTup K n (gCons (gName i) (gCons (gName j) gNil)) (.ref a) σ H Q := ⟨a, _, rfl, hs, hn, _, _, rfl, _, _, rfl, rfl, h⟩
theorem gtup3 {a : Addr} {x y z : V} {i j k n : Nat} {Q : L2.St → Hp → Prop} (hs : SqT K H a [x, y, z]) (hn : 3 = n) (h : Q (((σ.set i (some x)).set j (some y)).set k (some z)) H) : gTup K n (gCons (gName i) (gCons (gName j) (gCons (gName k) gNil))) (.ref a) σ H Q := ⟨a, _, rfl, hs, hn, _, _, rfl, _, _, rfl, _, _, rfl, rfl, h⟩
theorem gtup4 {a : Addr} {x y z w : V} {i j k l n : Nat} {Q : L2.St → Hp → Prop} (hs : SqT K H a [x, y, z, w]) (hn : 4 = n) (h : Q ((((σ.set i (some x)).set j (some y)).set k (some z)).set l (some w)) H) : gTup K n (gCons (gName i) (gCons (gName j) (gCons (gName k) (gCons (gName l) gNil)))) (.ref a) σ H Q := ⟨a, _, rfl, hs, hn, _, _, rfl, _, _, rfl, _, _, rfl, _, _, rfl, rfl, h⟩
end KR
namespace KR
open PySem PySem.Spec L2
section
variable {σ : L2.St} {H : Hp} {te : TE} {Q : VK} {j : Nat} {vs : List Nat}
theorem lwRt {a n : Nat} (g : Nat → List V) (hn : n < 50000) (hw : ∀ x, wipe ((wipe σ vs).set j (some x)) vs = wipe σ vs)
    (he : ∀ k H1, Evl.Ex H H1 → a ≤ k → k < n → ∀ Q' : VK, (∀ r H4, Evl.Ex H1 H4 → H4 r = some (.tup (g k)) → Q' (.ref r) H4) → te ((wipe σ vs).set j (some (.int (k : Int)))) H1 Q')
    (hd : ∀ p (xs : List V) H2, H p = none → Evl.Ex H H2 → H2 p = some (.lst xs) → xs.length = n - a → (∀ k x, xs[k]? = some x → ∃ r, x = .ref r ∧ H2 r = some (.tup (g (a + k)))) → Q (.ref p) H2) :
    LW (Itr a (n - a)) (gName j) tYes te vs σ Q H := fun D0 hD => by
  refine lc_range (lo := a) (n := n - a) (fun k H' => Evl.Ex H H' ∧ ∃ xs : List V, H' D0 = some (.lst xs) ∧ xs.length = k ∧ ∀ i x, xs[i]? = some x → ∃ r, x = .ref r ∧ H' r = some (.tup (g (a + i)))) ⟨Evl.Ex.new hD, [], upd_same, rfl, fun i x h => by simp at h⟩ (fun k H' hk ⟨e, xs, h', hl, hx⟩ => ?_) (fun H' ⟨e, xs, h', hl, hx⟩ => hd D0 xs H' hD e h' hl hx)
  have e0 : ((a : Nat) : Int) + (k : Int) = ((a + k : Nat) : Int) := rfl
  show wipe ((wipe σ vs).set j (some (.int (((a : Nat) : Int) + (k : Int))))) vs = wipe σ vs ∧ _
  refine ⟨hw _, ?_⟩
  show te ((wipe σ vs).set j (some (.int (((a : Nat) : Int) + (k : Int))))) H' _
  rw [e0]
  refine he (a + k) H' e (by omega) (by omega) _ fun r H4 e4 hr => ?_
  have hnr : r ≠ D0 := fun z => by
    have := e4 _ _ h'
    rw [← z, hr] at this
    cases this
  refine ⟨xs, e4 _ _ h', by rw [sizeLine_eq]; omega, Evl.Ex.mut (e.trans e4) hD, xs ++ [.ref r], upd_same, by rw [List.length_append]; show xs.length + 1 = k + 1; omega, fun i x hi => ?_⟩
  rcases Nat.lt_or_ge i xs.length with c | c
  · rw [List.getElem?_append_left c] at hi
    obtain ⟨r', e1, e2⟩ := hx i x hi
    refine ⟨r', e1, ?_⟩
    have hne : r' ≠ D0 := fun z => by
      rw [z, h'] at e2
      cases e2
    rw [upd_ne hne]
    exact e4 _ _ e2
  · rw [List.getElem?_append_right c] at hi
    have hi0 : i - xs.length = 0 := by
      have := (List.getElem?_eq_some_iff.mp hi).1
      simp at this
      omega
    rw [hi0] at hi
    have ex : V.ref r = x := Option.some.inj hi
    refine ⟨r, ex.symm, ?_⟩
    rw [upd_ne hnr, show a + i = a + k by omega]
    exact hr
end
end KR
namespace KR
open PySem PySem.Spec L2
theorem fwLg {K : PySem.W.Frag} {D : Ends} {σ : L2.St} {H : Hp} {a : Addr} {xs : List V} {tb : TS} {g : TG} (Pv : Nat → L2.St → Hp → Prop) (h0 : Pv 0 σ H) (hl : ∀ k σ H, k ≤ xs.length → Pv k σ H → SqL K H a xs)
    (hs : ∀ k x σ H, xs[k]? = some x → Pv k σ H → g x σ H fun σ2 H2 => tb { D with nx := Pv (k + 1), ct := Pv (k + 1), bk := D.nx } σ2 H2) (hd : ∀ σ H, Pv xs.length σ H → D.nx σ H) :
    FW (Itl K a) g tb D σ H := by
  refine ⟨fun k m σ H => m = xs.length - k ∧ k ≤ xs.length ∧ Pv k σ H, ⟨_, rfl, Nat.zero_le _, h0⟩, ?_⟩
  rintro k m σ H ⟨rfl, hk, p⟩
  have q := hl k σ H hk p
  by_cases hlt : k < xs.length
  · refine .inr ⟨⟨xs, xs[k], q, by simp [hlt]⟩, Pv (k + 1), fun σ' H' p' => ⟨xs.length - (k + 1), by omega, rfl, hlt, p'⟩, fun x H' hy => ?_⟩
    obtain ⟨e, hy⟩ := hy
    subst e
    exact hs k x σ H' (hy xs q) p
  · exact .inl ⟨⟨xs, q, by omega⟩, hd σ H (by
      have e : k = xs.length := by omega
      rw [e] at p; exact p)⟩
theorem giv_allA {f : Nat → Bool} (v : Nat → V) (a : Nat) (h : ∀ k, f k = true) : ∀ n, giv f v a n = (List.range n).map fun k => v (a + k)
  | 0 => rfl
  | n + 1 => by
    unfold giv
    rw [if_pos (h _), giv_allA v a h n, List.range_succ, List.map_append]
    rfl
end KR
namespace KR
open PySem PySem.Spec L2
section
variable {K : PySem.W.Frag} {σ : L2.St} {H : Hp} {tt : TT} {te : TE} {Q : VK} {j : Nat} {vs : List Nat}
theorem lwT {a : Addr} {xs : List V} (f : Nat → Bool) (v : Nat → V) (hx : SqT K H a xs) (hn : xs.length < 50000) (hw : ∀ x, wipe ((wipe σ vs).set j (some x)) vs = wipe σ vs)
    (ht : ∀ k x H1, Evl.Ex H H1 → xs[k]? = some x → Evl.EvT tt ((wipe σ vs).set j (some x)) H1 (f k)) (he : ∀ k x H1, Evl.Ex H H1 → xs[k]? = some x → f k = true → Evl.Ev te ((wipe σ vs).set j (some x)) H1 (v k))
    (hd : ∀ p H2, H p = none → Evl.Ex H H2 → H2 p = some (.lst (giv f v 0 xs.length)) → Q (.ref p) H2) : LW (Itt K a) (gName j) tt te vs σ Q H := fun D0 hD => by
  refine lc_tup (xs := xs) (fun k H' => Evl.Ex H H' ∧ H' D0 = some (.lst (giv f v 0 k))) ⟨Evl.Ex.new hD, upd_same⟩ (fun k H' _ ⟨e, _⟩ => Evl.ex_t e hx) (fun k x H' hk ⟨e, h'⟩ => ?_) (fun H' ⟨e, h'⟩ => hd D0 H' hD e h')
  refine ⟨hw _, ?_⟩
  show tt ((wipe σ vs).set j (some x)) H' _
  have hle := giv_len f v 0 k
  have hlt := (List.getElem?_eq_some_iff.mp hk).1
  refine lturn hD e h' (by omega) (ht k x H (Evl.Ex.refl H) hk) (fun hf => he k x H (Evl.Ex.refl H) hk hf) (fun H4 hf e4 h4 => ?_) (fun H4 hf e4 h4 => ?_)
  · refine ⟨Evl.Ex.mut e4 hD, ?_⟩
    rw [upd_same]
    show _ = some (HO.lst (giv f v 0 k ++ (if f (0 + k) = true then [v (0 + k)] else [])))
    rw [Nat.zero_add, if_pos hf]
  · refine ⟨e4, ?_⟩
    show _ = some (HO.lst (giv f v 0 k ++ (if f (0 + k) = true then [v (0 + k)] else [])))
    rw [Nat.zero_add, if_neg (by rw [hf]; decide), List.append_nil]
    exact h4
end
end KR
namespace PySem
namespace KX
open PySem.W PySem.Calls PyProof.Rows PySem.HandSPX
theorem err0_mk {prog : Program} {K : Frag} {mg : Str → Option Value} {h : Heap} {nm : Str} {C fI cc cda : Addr} (X : K.In h) (G : h.Ns mainGlobals mg)
    {nm' q qual msg cf : Str} {N : Addr} {bs bm sub : List Value} {sn : List Str} {ab : Bool} {col : Option Bool} {dd : Option Addr} {k0 k1 k2 k3 k5 : Option Value}
    {oc doc pm ct cl ccl : Value} {od an cld cdd : Option Addr} {osl csl ccs : Array (Option Value)} {vs : Array Value} {tf : Tok} {k : Nat} {p1 q0 q1 q2 q3 q4 q5 : Pos}
    (gC : nsIn K mainGlobals nm = some (some (.ref C))) (xc : K.lookup C = some (excClassObj nm' q C N bs bm true sn sub ab col dd k0 k1 k2 k3 k5 "ValueError.__new__")) (xr : refsVE bm = true)
    (xs : findIn K (.ref C) "__setattr__" = some (some (.builtin "object.__setattr__"))) (xg : findIn K (.ref C) "__getattribute__" = some (some (.builtin "BaseException.__getattribute__"))) (xgg : findIn K (.ref C) "__getattr__" = some none)
    (xi : findIn K (.ref C) "__init__" = some (some (.ref fI))) (xt : typeIn K (.ref fI) = some (.type "function")) (xk : keepIn K (.ref C) = true)
    (xe : subIn K (.ref C) (.type "BaseException") = some true) (xv : subIn K (.ref C) (.type "ValueError") = some true) (xy : typeIn K (.ref C) = some (.type "type")) (xh : hasDictIn K C = true)
    (xm : mroIn K C (.ref C) = some true) (xu : ks_superIn K C C "__init__" = some (some (.builtin "ValueError.__init__"))) (tp : nsIn K cStatics "thirdparty.any" = some none) (sg : nsIn K mainGlobals "super" = some none)
    (xl : K.lookup cc = some ⟨cl, cld, .cell (some (.ref C)), csl⟩) (xw : K.lookup cda = some ⟨ccl, cdd, .fields vs, ccs⟩) (xw2 : vs[2]? = some (.str cf tf)) (xw3 : ((prog.main.file : Str) == cf) = true)
    (top : (prog.main.scope.names.lookup ("super" : Str)).isSome = false)
    (xf : K.lookup fI = some ⟨oc, od, .func (ksFn "__init__" qual (args0 p1) [supS msg k q0 q1 q2 q3 q4 q5] scope0 .none .none doc pm an (.ref cda) ct cc), osl⟩) (xd : codeIn K (.ref cda) qual = true)
    (hev : ∀ (q : Str) (L : Addr), SupEv (ksEnv q scope0 L fI (.ref cda) cc) msg k q0 q1 q2 q3 q4) : Err0 prog K mg nm C fI cc cda :=
  { gC := mg_of X G gC, cls := ⟨_, _, _, _, _, _, _, _, _, _, _, _, _, _, _, xc, xr⟩, sa := xs, ga := xg, gg := xgg, iC := xi, tC := xt, kC := xk, exC := xe, exV := xv, tyC := xy, hdC := xh, mC := xm, sup := xu, tp := tp, sg := mg_none_of X G sg,
    cell := ⟨_, _, _, xl⟩, code := ⟨_, _, _, _, _, _, xw, xw2, xw3⟩, top := top, fn := ⟨_, _, _, _, _, _, _, _, _, _, _, _, _, _, _, _, _, xf, xd, hev⟩ }
end KX
end PySem
namespace PySem
namespace KX
open PySem.W PySem.Calls PyProof.Rows PySem.HandSPX
theorem fld_count : FldOk "count" where
  hsup := by rfl
  hcls := by rfl
  hself := by rfl
  hf := by rfl
  ne := by decide
  hd := by decide
  inter := fun _ _ _ _ _ => rfl
  sw := fun _ _ _ _ _ _ _ _ _ _ _ _ _ => rfl
  sw2 := fun _ _ _ _ _ _ _ _ _ => rfl
  bind := fun _ _ _ _ _ _ _ _ _ _ _ _ _ => .of_eq (by first | rfl | with_unfolding_all rfl)
  nc := by decide
  loc := fun a b y hy => by
    rcases List.mem_cons.mp hy with rfl | hy
    · rfl
    · rcases List.mem_cons.mp hy with rfl | hy
      · rfl
      · cases hy
end KX
end PySem
namespace KR
open PySem PySem.Spec PyProof.Rows L2
variable {σ : L2.St} {H : Hp} {Q : VK} {K : PySem.W.Frag}
structure TyR (K : PySem.W.Frag) (C : Addr) : Prop where
  cl : Cls K C
  ha : PySem.W.findIn K (.ref C) "__class__" = some (some (.builtin "object.__class__"))
  hn : PySem.W.specialIn K (.builtin "object.__class__") "__get__" = some (some (.builtin "getset_descriptor.__get__"))
  ht : PySem.W.takesIn K (.builtin "object.__class__") = some true
  hm : PySem.W.mroIn K C (.type "object") = some true
  own : PySem.W.kitOne K (.ref C) (.ref C) = some true
  int : PySem.W.kitOne K (.type "int") (.ref C) = some false
theorem isi_own {C a dx : Addr} {fs : List (Str × V)} (T : TyR K C) (h : H a = some (.ins C dx fs)) (q : Q (.bl true) H) : rIsi K [V.ref a, V.ref C] H Q := ⟨_, _, _, _, true, rfl, .own C, .base (.ins h T.cl T.ha T.hn T.ht T.hm), T.own, q⟩
theorem isi_io {C : Addr} {z : Int} (T : TyR K C) (q : Q (.bl false) H) : rIsi K [V.int z, V.ref C] H Q := ⟨_, _, _, _, false, rfl, .own C, .base (.int z), T.int, q⟩
theorem gcd {a b : Int} (q : Q (.int ((Nat.gcd a.natAbs b.natAbs : Nat) : Int)) H) : rGcd [.int a, .int b] H Q := ⟨a, b, rfl, q⟩
theorem fwRz {D : Ends} {i : Nat} {tb : TS} {a : Int} {n : Nat} (Pv : Nat → L2.St → Hp → Prop) (h0 : Pv 0 σ H)
    (hs : ∀ k σ H, k < n → Pv k σ H → tb { D with nx := Pv (k + 1), ct := Pv (k + 1), bk := D.nx } (σ.set i (some (.int (a + (k : Int))))) H) (hd : ∀ σ H, Pv n σ H → D.nx σ H) : FW (Itr a n) (gName i) tb D σ H :=
  for_range (lo := a) (n := n) Pv h0 (fun k σ' H' hk pk => hs k σ' H' hk pk) hd
end KR
namespace L2
open PySem PySem.Spec PyProof.Rows
variable {X : Cx} {tg : Expr}
def iSeq (K : PySem.W.Frag) (tl : TE) : TI := fun σ H R => tl σ H fun x H1 => ∃ a, x = .ref a ∧ (((∃ xs, SqL K H1 a xs) ∧ R (Itl K a) H1) ∨ ((∃ xs, SqT K H1 a xs) ∧ R (Itt K a) H1))
theorem pi_seq {l : Expr} {tl : TE} (hl : PE X l tl) : PI X tg l (iSeq X.K tl) := by
  refine ⟨fun pins s σ H R I h => ?_⟩
  refine thn (hl.run pins s σ H _ I h) fun v s1 ⟨x, H1, I1, r1, q1⟩ => ?_
  obtain ⟨a, e, ⟨⟨xs, hq⟩, q⟩ | ⟨⟨xs, hq⟩, q⟩⟩ := q1
  · subst e
    cases r1
    obtain ⟨its, rv, p, hz⟩ := I1.list hq
    refine wpAny_pyIter_list p.isList ?_
    refine ⟨s1.heap.objs.size, [s1.heap.objs.size], _, _, H1, rfl, I1.kept (t' := s1.toks) fun b o e => Heap.get?_push_of_some _ e, turn_list a _, ⟨_, Heap.get?_push_size _ rfl, rfl, rfl⟩, fun b hb => ?_, q⟩
    have e : b = s1.heap.objs.size := by simpa using hb
    subst e
    exact I1.fpOk (Nat.le_refl _) (I1.hok.fresh (Nat.le_refl _))
  · subst e
    cases r1
    obtain ⟨its, rv, p, hz⟩ := I1.tuple hq
    refine wpAny_pyIter_tuple (show s1.heap.IsTuple a its.toArray from p) ?_
    refine ⟨s1.heap.objs.size, [s1.heap.objs.size], _, _, H1, rfl, I1.kept (t' := s1.toks) fun b o e => Heap.get?_push_of_some _ e, turn_tuple a _, ⟨_, Heap.get?_push_size _ rfl, rfl, rfl⟩, fun b hb => ?_, q⟩
    have e : b = s1.heap.objs.size := by simpa using hb
    subst e
    exact I1.fpOk (Nat.le_refl _) (I1.hok.fresh (Nat.le_refl _))
def SqA (b : Bool) (K : PySem.W.Frag) (H : Hp) (a : Addr) (xs : List V) : Prop := if b = true then SqL K H a xs else SqT K H a xs
theorem SqA.ex {b : Bool} {K : PySem.W.Frag} {H H2 : Hp} {a : Addr} {xs : List V} (h : SqA b K H a xs) (e : Evl.Ex H H2) : SqA b K H2 a xs := by
  cases b with
  | true => exact Evl.ex_l e h
  | false => exact Evl.ex_t e h
theorem SqA.or {b : Bool} {K : PySem.W.Frag} {H : Hp} {a : Addr} {xs : List V} (h : SqA b K H a xs) : SqL K H a xs ∨ SqT K H a xs := by
  cases b with
  | true => exact .inl h
  | false => exact .inr h
theorem SqA.l {K : PySem.W.Frag} {H : Hp} {a : Addr} {xs : List V} (h : H a = some (.lst xs)) : SqA true K H a xs := .inl (.inl h)
theorem SqA.t {K : PySem.W.Frag} {H : Hp} {a : Addr} {xs : List V} (h : H a = some (.tup xs)) : SqA false K H a xs := .inl (.inl h)
end L2
namespace KR
open PySem PySem.Spec L2
variable {σ : L2.St} {H : Hp} {K : PySem.W.Frag} {D : Ends} {i : Nat}
theorem iseq {tl : TE} {R : It → Hp → Prop} (h : tl σ H fun x H1 => ∃ a, x = .ref a ∧ (((∃ xs, SqL K H1 a xs) ∧ R (Itl K a) H1) ∨ ((∃ xs, SqT K H1 a xs) ∧ R (Itt K a) H1))) : iSeq K tl σ H R := h
theorem fwA {b : Bool} {a : Addr} {xs : List V} {tb : TS} (Pv : Nat → L2.St → Hp → Prop) (h0 : Pv 0 σ H) (hl : ∀ k σ H, k ≤ xs.length → Pv k σ H → SqA b K H a xs)
    (hs : ∀ k x σ H, xs[k]? = some x → Pv k σ H → tb { D with nx := Pv (k + 1), ct := Pv (k + 1), bk := D.nx } (σ.set i (some x)) H) (hd : ∀ σ H, Pv xs.length σ H → D.nx σ H) :
    ∃ c, V.ref a = .ref c ∧ (((∃ xs, SqL K H c xs) ∧ FW (Itl K c) (gName i) tb D σ H) ∨ ((∃ xs, SqT K H c xs) ∧ FW (Itt K c) (gName i) tb D σ H)) := by
  cases b with
  | true => exact ⟨a, rfl, .inl ⟨⟨xs, hl 0 σ H (Nat.zero_le _) h0⟩, fwL Pv h0 hl hs hd⟩⟩
  | false => exact ⟨a, rfl, .inr ⟨⟨xs, hl 0 σ H (Nat.zero_le _) h0⟩, fwT Pv h0 hl hs hd⟩⟩
end KR
namespace K9
open PySem PySem.Spec PyProof.Rows L2
def topS (i : Nat) : Stmt := PySem.Challenge.pw_primedeep_k89_two_term_everywhere.main.body.getD i (.Pass ⟨0, 0, 0, 0⟩)
abbrev s_prime_parts : Stmt := topS 20
theorem sc_prime_parts : FnScope ["number", "parts", "rest", "divisor", "exponent"] ["number"] (defScope s_prime_parts) := ⟨rfl, rfl, rfl, by decide +kernel, rfl, by decide +kernel, by decide +kernel⟩
abbrev s_to_ratio : Stmt := topS 25
theorem sc_to_ratio : FnScope ["x"] ["x"] (defScope s_to_ratio) := ⟨rfl, rfl, rfl, by decide +kernel, rfl, by decide +kernel, by decide +kernel⟩
abbrev s_made_ratio : Stmt := topS 26
theorem sc_made_ratio : FnScope ["num", "den", "divisor", "top", "bottom"] ["num", "den"] (defScope s_made_ratio) := ⟨rfl, rfl, rfl, by decide +kernel, rfl, by decide +kernel, by decide +kernel⟩
abbrev s_Ratio_init : Stmt := inClass (topS 28) 0
theorem sc_Ratio_init : FnScope ["self", "num", "den", "divisor"] ["self", "num", "den"] (defScope s_Ratio_init) := ⟨rfl, rfl, rfl, by decide +kernel, rfl, by decide +kernel, by decide +kernel⟩
abbrev s_Ratio_over : Stmt := inClass (topS 28) 12
theorem sc_Ratio_over : FnScope ["self", "other", "second"] ["self", "other"] (defScope s_Ratio_over) := ⟨rfl, rfl, rfl, by decide +kernel, rfl, by decide +kernel, by decide +kernel⟩
abbrev s_look_prime : Stmt := topS 30
theorem sc_look_prime : FnScope ["p"] ["p"] (defScope s_look_prime) := ⟨rfl, rfl, rfl, by decide +kernel, rfl, by decide +kernel, by decide +kernel⟩
abbrev s_look_range : Stmt := topS 31
theorem sc_look_range : FnScope ["number", "low", "high"] ["number", "low", "high"] (defScope s_look_range) := ⟨rfl, rfl, rfl, by decide +kernel, rfl, by decide +kernel, by decide +kernel⟩
abbrev s_look_size : Stmt := topS 32
theorem sc_look_size : FnScope ["count", "low", "high"] ["count", "low", "high"] (defScope s_look_size) := ⟨rfl, rfl, rfl, by decide +kernel, rfl, by decide +kernel, by decide +kernel⟩
abbrev s_look_list : Stmt := topS 33
theorem sc_look_list : FnScope ["entries", "low", "high"] ["entries", "low", "high"] (defScope s_look_list) := ⟨rfl, rfl, rfl, by decide +kernel, rfl, by decide +kernel, by decide +kernel⟩
abbrev s_look_each : Stmt := topS 34
theorem sc_look_each : FnScope ["entries", "low", "high", "entry"] ["entries", "low", "high"] (defScope s_look_each) := ⟨rfl, rfl, rfl, by decide +kernel, rfl, by decide +kernel, by decide +kernel⟩
abbrev s_as_ratio : Stmt := topS 35
theorem sc_as_ratio : FnScope ["x"] ["x"] (defScope s_as_ratio) := ⟨rfl, rfl, rfl, by decide +kernel, rfl, by decide +kernel, by decide +kernel⟩
abbrev s_power : Stmt := topS 36
theorem sc_power : FnScope ["base", "exponent", "result", "square", "rest"] ["base", "exponent"] (defScope s_power) := ⟨rfl, rfl, rfl, by decide +kernel, rfl, by decide +kernel, by decide +kernel⟩
abbrev s_power_mod : Stmt := topS 37
theorem sc_power_mod : FnScope ["base", "exponent", "modulus", "result", "square", "rest"] ["base", "exponent", "modulus"] (defScope s_power_mod) := ⟨rfl, rfl, rfl, by decide +kernel, rfl, by decide +kernel, by decide +kernel⟩
abbrev s_inverse_mod : Stmt := topS 38
theorem sc_inverse_mod : FnScope ["a", "modulus", "old", "new", "before", "factor", "quotient"] ["a", "modulus"] (defScope s_inverse_mod) := ⟨rfl, rfl, rfl, by decide +kernel, rfl, by decide +kernel, by decide +kernel⟩
abbrev s_parted : Stmt := topS 39
theorem sc_parted : FnScope ["p", "n", "found", "rest"] ["p", "n"] (defScope s_parted) := ⟨rfl, rfl, rfl, by decide +kernel, rfl, by decide +kernel, by decide +kernel⟩
abbrev s_int_depth : Stmt := topS 40
theorem sc_int_depth : FnScope ["p", "n"] ["p", "n"] (defScope s_int_depth) := ⟨rfl, rfl, rfl, by decide +kernel, rfl, by decide +kernel, by decide +kernel⟩
abbrev s_depth_of : Stmt := topS 41
theorem sc_depth_of : FnScope ["p", "num", "den"] ["p", "num", "den"] (defScope s_depth_of) := ⟨rfl, rfl, rfl, by decide +kernel, rfl, by decide +kernel, by decide +kernel⟩
abbrev s_root_count : Stmt := topS 44
theorem sc_root_count : FnScope ["p", "n"] ["p", "n"] (defScope s_root_count) := ⟨rfl, rfl, rfl, by decide +kernel, rfl, by decide +kernel, by decide +kernel⟩
abbrev s_sure_depth : Stmt := topS 45
theorem sc_sure_depth : FnScope ["p", "n"] ["p", "n"] (defScope s_sure_depth) := ⟨rfl, rfl, rfl, by decide +kernel, rfl, by decide +kernel, by decide +kernel⟩
abbrev s_unit_residue : Stmt := topS 46
theorem sc_unit_residue : FnScope ["p", "ratio", "m", "modulus"] ["p", "ratio", "m"] (defScope s_unit_residue) := ⟨rfl, rfl, rfl, by decide +kernel, rfl, by decide +kernel, by decide +kernel⟩
abbrev s_unit_agreement : Stmt := topS 47
theorem sc_unit_agreement : FnScope ["p", "n", "ratio", "sure", "tested"] ["p", "n", "ratio"] (defScope s_unit_agreement) := ⟨rfl, rfl, rfl, by decide +kernel, rfl, by decide +kernel, by decide +kernel⟩
abbrev s_is_power : Stmt := topS 48
theorem sc_is_power : FnScope ["p", "n", "a", "ratio"] ["p", "n", "a"] (defScope s_is_power) := ⟨rfl, rfl, rfl, by decide +kernel, rfl, by decide +kernel, by decide +kernel⟩
abbrev s_primes_of : Stmt := topS 53
theorem sc_primes_of : FnScope ["numbers", "most", "found", "number", "part", "prime"] ["numbers", "most"] (defScope s_primes_of) := ⟨rfl, rfl, rfl, by decide +kernel, rfl, by decide +kernel, by decide +kernel⟩
abbrev s_with_two : Stmt := topS 54
theorem sc_with_two : FnScope ["primes", "prime"] ["primes"] (defScope s_with_two) := ⟨rfl, rfl, rfl, by decide +kernel, rfl, by decide +kernel, by decide +kernel⟩
abbrev s_told_primes : Stmt := topS 55
theorem sc_told_primes : FnScope ["numbers"] ["numbers"] (defScope s_told_primes) := ⟨rfl, rfl, rfl, by decide +kernel, rfl, by decide +kernel, by decide +kernel⟩
abbrev s_two_term_bars : Stmt := topS 56
theorem sc_two_term_bars : FnScope ["a", "m", "b", "n", "told", "shared", "goal", "p"] ["a", "m", "b", "n"] (defScope s_two_term_bars) := ⟨rfl, rfl, rfl, by decide +kernel, rfl, by decide +kernel, by decide +kernel⟩
abbrev s_root : Stmt := topS 57
theorem sc_root : FnScope ["a", "b", "n", "num", "den", "p", "step"] ["a", "b", "n"] (defScope s_root) := ⟨rfl, rfl, rfl, by decide +kernel, rfl, by decide +kernel, by decide +kernel⟩
abbrev s_raised : Stmt := topS 58
theorem sc_raised : FnScope ["base", "exponent", "size", "raised"] ["base", "exponent"] (defScope s_raised) := ⟨rfl, rfl, rfl, by decide +kernel, rfl, by decide +kernel, by decide +kernel⟩
abbrev s_two_term : Stmt := topS 59
theorem sc_two_term : FnScope ["a", "m", "b", "n", "shared", "base", "first"] ["a", "m", "b", "n"] (defScope s_two_term) := ⟨rfl, rfl, rfl, by decide +kernel, rfl, by decide +kernel, by decide +kernel⟩
abbrev s_law_begin : Stmt := topS 61
theorem sc_law_begin : FnScope ["script", "number"] ["script"] (defScope s_law_begin) := ⟨rfl, rfl, rfl, by decide +kernel, rfl, by decide +kernel, by decide +kernel⟩
abbrev s_law_draw : Stmt := topS 62
theorem sc_law_draw : FnScope ["pool", "bound", "plus", "at", "cell"] ["pool", "bound", "plus"] (defScope s_law_draw) := ⟨rfl, rfl, rfl, by decide +kernel, rfl, by decide +kernel, by decide +kernel⟩
abbrev s_law_power : Stmt := topS 63
theorem sc_law_power : FnScope ["base", "exponent", "result", "k"] ["base", "exponent"] (defScope s_law_power) := ⟨rfl, rfl, rfl, by decide +kernel, rfl, by decide +kernel, by decide +kernel⟩
abbrev s_law_depth : Stmt := topS 64
theorem sc_law_depth : FnScope ["p", "n", "k"] ["p", "n"] (defScope s_law_depth) := ⟨rfl, rfl, rfl, by decide +kernel, rfl, by decide +kernel, by decide +kernel⟩
abbrev s_law_is : Stmt := topS 65
theorem sc_law_is : FnScope ["told", "due"] ["told", "due"] (defScope s_law_is) := ⟨rfl, rfl, rfl, by decide +kernel, rfl, by decide +kernel, by decide +kernel⟩
abbrev s_law_alike : Stmt := topS 66
theorem sc_law_alike : FnScope ["told", "due", "k"] ["told", "due"] (defScope s_law_alike) := ⟨rfl, rfl, rfl, by decide +kernel, rfl, by decide +kernel, by decide +kernel⟩
abbrev s_law_number : Stmt := topS 67
theorem sc_law_number : FnScope ["told"] ["told"] (defScope s_law_number) := ⟨rfl, rfl, rfl, by decide +kernel, rfl, by decide +kernel, by decide +kernel⟩
abbrev s_law_inverse : Stmt := topS 68
theorem sc_law_inverse : FnScope ["a", "modulus", "old", "new", "before", "factor", "k", "times", "rest"] ["a", "modulus"] (defScope s_law_inverse) := ⟨rfl, rfl, rfl, by decide +kernel, rfl, by decide +kernel, by decide +kernel⟩
abbrev s_law_call : Stmt := topS 69
theorem sc_law_call : FnScope ["word", "numbers", "a", "b", "e", "flags"] ["word", "numbers"] (defScope s_law_call) := ⟨rfl, rfl, rfl, by decide +kernel, rfl, by decide +kernel, by decide +kernel⟩
abbrev s_law_common : Stmt := topS 70
theorem sc_law_common : FnScope ["a", "b", "k", "rest"] ["a", "b"] (defScope s_law_common) := ⟨rfl, rfl, rfl, by decide +kernel, rfl, by decide +kernel, by decide +kernel⟩
abbrev s_law_parts : Stmt := topS 71
theorem sc_law_parts : FnScope ["n", "rest", "found", "k", "j"] ["n"] (defScope s_law_parts) := ⟨rfl, rfl, rfl, by decide +kernel, rfl, by decide +kernel, by decide +kernel⟩
abbrev s_law_primes : Stmt := topS 72
theorem sc_law_primes : FnScope ["numbers", "found", "n", "prime"] ["numbers"] (defScope s_law_primes) := ⟨rfl, rfl, rfl, by decide +kernel, rfl, by decide +kernel, by decide +kernel⟩
abbrev s_law_solved : Stmt := topS 73
theorem sc_law_solved : FnScope ["p", "g", "a", "b", "low", "high", "modulus", "unit", "x"] ["p", "g", "a", "b"] (defScope s_law_solved) := ⟨rfl, rfl, rfl, by decide +kernel, rfl, by decide +kernel, by decide +kernel⟩
abbrev s_law_solves : Stmt := topS 74
theorem sc_law_solves : FnScope ["told", "a", "m", "b", "n", "x", "left", "right"] ["told", "a", "m", "b", "n"] (defScope s_law_solves) := ⟨rfl, rfl, rfl, by decide +kernel, rfl, by decide +kernel, by decide +kernel⟩
abbrev s_law_asked : Stmt := topS 75
theorem sc_law_asked : FnScope ["a", "m", "b", "n", "g", "primes", "wide", "bars", "told", "solution", "prime", "p"] ["a", "m", "b", "n"] (defScope s_law_asked) := ⟨rfl, rfl, rfl, by decide +kernel, rfl, by decide +kernel, by decide +kernel⟩
abbrev s_law_drawn : Stmt := topS 76
theorem sc_law_drawn : FnScope ["pool", "m", "n", "great", "kind", "g", "limit", "k", "top", "low", "shared", "a", "b", "most"] ["pool", "m", "n", "great", "kind"] (defScope s_law_drawn) := ⟨rfl, rfl, rfl, by decide +kernel, rfl, by decide +kernel, by decide +kernel⟩
abbrev s_law_same_primes : Stmt := topS 77
theorem sc_law_same_primes : FnScope ["numbers", "primes", "wide", "given", "told", "prime"] ["numbers"] (defScope s_law_same_primes) := ⟨rfl, rfl, rfl, by decide +kernel, rfl, by decide +kernel, by decide +kernel⟩
abbrev s_law_refused : Stmt := topS 78
theorem sc_law_refused : FnScope ["pool", "more", "sign", "far", "many", "place", "bent", "zero", "large", "asked", "word", "k"] ["pool"] (defScope s_law_refused) := ⟨rfl, rfl, rfl, by decide +kernel, rfl, by decide +kernel, by decide +kernel⟩
abbrev s_law : Stmt := topS 79
theorem sc_law : FnScope ["script", "pool", "great", "k", "most", "m", "n", "drawn", "numbers", "g"] ["script"] (defScope s_law) := ⟨rfl, rfl, rfl, by decide +kernel, rfl, by decide +kernel, by decide +kernel⟩
def primesL : List Int := [2, 3, 5, 7, 11, 13, 17, 19, 23, 29, 31, 37, 41, 43, 47, 53, 59, 61, 67, 71, 73, 79, 83, 89, 97]
structure Ad where
  a_prime_parts : Addr
  d_prime_parts : FuncData
  a_to_ratio : Addr
  d_to_ratio : FuncData
  a_made_ratio : Addr
  d_made_ratio : FuncData
  a_Ratio_init : Addr
  d_Ratio_init : FuncData
  a_Ratio_over : Addr
  d_Ratio_over : FuncData
  a_look_prime : Addr
  d_look_prime : FuncData
  a_look_range : Addr
  d_look_range : FuncData
  a_look_size : Addr
  d_look_size : FuncData
  a_look_list : Addr
  d_look_list : FuncData
  a_look_each : Addr
  d_look_each : FuncData
  a_as_ratio : Addr
  d_as_ratio : FuncData
  a_power : Addr
  d_power : FuncData
  a_power_mod : Addr
  d_power_mod : FuncData
  a_inverse_mod : Addr
  d_inverse_mod : FuncData
  a_parted : Addr
  d_parted : FuncData
  a_int_depth : Addr
  d_int_depth : FuncData
  a_depth_of : Addr
  d_depth_of : FuncData
  a_root_count : Addr
  d_root_count : FuncData
  a_sure_depth : Addr
  d_sure_depth : FuncData
  a_unit_residue : Addr
  d_unit_residue : FuncData
  a_unit_agreement : Addr
  d_unit_agreement : FuncData
  a_is_power : Addr
  d_is_power : FuncData
  a_primes_of : Addr
  d_primes_of : FuncData
  a_with_two : Addr
  d_with_two : FuncData
  a_told_primes : Addr
  d_told_primes : FuncData
  a_two_term_bars : Addr
  d_two_term_bars : FuncData
  a_root : Addr
  d_root : FuncData
  a_raised : Addr
  d_raised : FuncData
  a_two_term : Addr
  d_two_term : FuncData
  a_law_begin : Addr
  d_law_begin : FuncData
  a_law_draw : Addr
  d_law_draw : FuncData
  a_law_power : Addr
  d_law_power : FuncData
  a_law_depth : Addr
  d_law_depth : FuncData
  a_law_is : Addr
  d_law_is : FuncData
  a_law_alike : Addr
  d_law_alike : FuncData
  a_law_number : Addr
  d_law_number : FuncData
  a_law_inverse : Addr
  d_law_inverse : FuncData
  a_law_call : Addr
  d_law_call : FuncData
  a_law_common : Addr
  d_law_common : FuncData
  a_law_parts : Addr
  d_law_parts : FuncData
  a_law_primes : Addr
  d_law_primes : FuncData
  a_law_solved : Addr
  d_law_solved : FuncData
  a_law_solves : Addr
  d_law_solves : FuncData
  a_law_asked : Addr
  d_law_asked : FuncData
  a_law_drawn : Addr
  d_law_drawn : FuncData
  a_law_same_primes : Addr
  d_law_same_primes : FuncData
  a_law_refused : Addr
  d_law_refused : FuncData
  a_law : Addr
  d_law : FuncData
  aSP : Addr
  a_Ratio : Addr
  zMOST : Int
  a_PrimedeepError : Addr
  i_PrimedeepError : Addr
  v_PrimedeepError : Addr
  w_PrimedeepError : Addr
  a_SizeError : Addr
  i_SizeError : Addr
  v_SizeError : Addr
  w_SizeError : Addr
  a_RangeError : Addr
  i_RangeError : Addr
  v_RangeError : Addr
  w_RangeError : Addr
  a_PrimeError : Addr
  i_PrimeError : Addr
  v_PrimeError : Addr
  w_PrimeError : Addr
  a_DepthError : Addr
  i_DepthError : Addr
  v_DepthError : Addr
  w_DepthError : Addr
  a_ZeroError : Addr
  i_ZeroError : Addr
  v_ZeroError : Addr
  w_ZeroError : Addr
  a_MixError : Addr
  i_MixError : Addr
  v_MixError : Addr
  w_MixError : Addr
  a_BarError : Addr
  i_BarError : Addr
  v_BarError : Addr
  w_BarError : Addr
  a_MonicError : Addr
  i_MonicError : Addr
  v_MonicError : Addr
  w_MonicError : Addr
  a_RepeatError : Addr
  i_RepeatError : Addr
  v_RepeatError : Addr
  w_RepeatError : Addr
  a_FieldError : Addr
  i_FieldError : Addr
  v_FieldError : Addr
  w_FieldError : Addr
  a_EditError : Addr
  i_EditError : Addr
  v_EditError : Addr
  w_EditError : Addr
  a_TextError : Addr
  i_TextError : Addr
  v_TextError : Addr
  w_TextError : Addr
  a_HistoryError : Addr
  i_HistoryError : Addr
  v_HistoryError : Addr
  w_HistoryError : Addr
structure Txt (prog : Program) (K : PySem.W.Frag) (mg : Str → Option Value) (A : Ad) : Prop where
  F_prime_parts : Fun K "prime_parts" "prime_parts" s_prime_parts A.a_prime_parts A.d_prime_parts
  g_prime_parts : mg "prime_parts" = some (.ref A.a_prime_parts)
  F_to_ratio : Fun K "to_ratio" "to_ratio" s_to_ratio A.a_to_ratio A.d_to_ratio
  g_to_ratio : mg "to_ratio" = some (.ref A.a_to_ratio)
  F_made_ratio : Fun K "made_ratio" "made_ratio" s_made_ratio A.a_made_ratio A.d_made_ratio
  g_made_ratio : mg "made_ratio" = some (.ref A.a_made_ratio)
  F_Ratio_init : FunD K "__init__" "Ratio.__init__" (defArgs s_Ratio_init) (defBody s_Ratio_init) (defScope s_Ratio_init) [.int 1] [] A.a_Ratio_init A.d_Ratio_init
  F_Ratio_over : Fun K "over" "Ratio.over" s_Ratio_over A.a_Ratio_over A.d_Ratio_over
  F_look_prime : Fun K "look_prime" "look_prime" s_look_prime A.a_look_prime A.d_look_prime
  g_look_prime : mg "look_prime" = some (.ref A.a_look_prime)
  F_look_range : Fun K "look_range" "look_range" s_look_range A.a_look_range A.d_look_range
  g_look_range : mg "look_range" = some (.ref A.a_look_range)
  F_look_size : Fun K "look_size" "look_size" s_look_size A.a_look_size A.d_look_size
  g_look_size : mg "look_size" = some (.ref A.a_look_size)
  F_look_list : Fun K "look_list" "look_list" s_look_list A.a_look_list A.d_look_list
  g_look_list : mg "look_list" = some (.ref A.a_look_list)
  F_look_each : Fun K "look_each" "look_each" s_look_each A.a_look_each A.d_look_each
  g_look_each : mg "look_each" = some (.ref A.a_look_each)
  F_as_ratio : Fun K "as_ratio" "as_ratio" s_as_ratio A.a_as_ratio A.d_as_ratio
  g_as_ratio : mg "as_ratio" = some (.ref A.a_as_ratio)
  F_power : Fun K "power" "power" s_power A.a_power A.d_power
  g_power : mg "power" = some (.ref A.a_power)
  F_power_mod : Fun K "power_mod" "power_mod" s_power_mod A.a_power_mod A.d_power_mod
  g_power_mod : mg "power_mod" = some (.ref A.a_power_mod)
  F_inverse_mod : Fun K "inverse_mod" "inverse_mod" s_inverse_mod A.a_inverse_mod A.d_inverse_mod
  g_inverse_mod : mg "inverse_mod" = some (.ref A.a_inverse_mod)
  F_parted : Fun K "parted" "parted" s_parted A.a_parted A.d_parted
  g_parted : mg "parted" = some (.ref A.a_parted)
  F_int_depth : Fun K "int_depth" "int_depth" s_int_depth A.a_int_depth A.d_int_depth
  g_int_depth : mg "int_depth" = some (.ref A.a_int_depth)
  F_depth_of : Fun K "depth_of" "depth_of" s_depth_of A.a_depth_of A.d_depth_of
  g_depth_of : mg "depth_of" = some (.ref A.a_depth_of)
  F_root_count : Fun K "root_count" "root_count" s_root_count A.a_root_count A.d_root_count
  g_root_count : mg "root_count" = some (.ref A.a_root_count)
  F_sure_depth : Fun K "sure_depth" "sure_depth" s_sure_depth A.a_sure_depth A.d_sure_depth
  g_sure_depth : mg "sure_depth" = some (.ref A.a_sure_depth)
  F_unit_residue : Fun K "unit_residue" "unit_residue" s_unit_residue A.a_unit_residue A.d_unit_residue
  g_unit_residue : mg "unit_residue" = some (.ref A.a_unit_residue)
  F_unit_agreement : Fun K "unit_agreement" "unit_agreement" s_unit_agreement A.a_unit_agreement A.d_unit_agreement
  g_unit_agreement : mg "unit_agreement" = some (.ref A.a_unit_agreement)
  F_is_power : Fun K "is_power" "is_power" s_is_power A.a_is_power A.d_is_power
  g_is_power : mg "is_power" = some (.ref A.a_is_power)
  F_primes_of : Fun K "primes_of" "primes_of" s_primes_of A.a_primes_of A.d_primes_of
  g_primes_of : mg "primes_of" = some (.ref A.a_primes_of)
  F_with_two : Fun K "with_two" "with_two" s_with_two A.a_with_two A.d_with_two
  g_with_two : mg "with_two" = some (.ref A.a_with_two)
  F_told_primes : Fun K "told_primes" "told_primes" s_told_primes A.a_told_primes A.d_told_primes
  g_told_primes : mg "told_primes" = some (.ref A.a_told_primes)
  F_two_term_bars : Fun K "two_term_bars" "two_term_bars" s_two_term_bars A.a_two_term_bars A.d_two_term_bars
  g_two_term_bars : mg "two_term_bars" = some (.ref A.a_two_term_bars)
  F_root : Fun K "_root" "_root" s_root A.a_root A.d_root
  g_root : mg "_root" = some (.ref A.a_root)
  F_raised : Fun K "_raised" "_raised" s_raised A.a_raised A.d_raised
  g_raised : mg "_raised" = some (.ref A.a_raised)
  F_two_term : Fun K "two_term" "two_term" s_two_term A.a_two_term A.d_two_term
  g_two_term : mg "two_term" = some (.ref A.a_two_term)
  F_law_begin : Fun K "_law_begin" "_law_begin" s_law_begin A.a_law_begin A.d_law_begin
  g_law_begin : mg "_law_begin" = some (.ref A.a_law_begin)
  F_law_draw : Fun K "_law_draw" "_law_draw" s_law_draw A.a_law_draw A.d_law_draw
  g_law_draw : mg "_law_draw" = some (.ref A.a_law_draw)
  F_law_power : Fun K "_law_power" "_law_power" s_law_power A.a_law_power A.d_law_power
  g_law_power : mg "_law_power" = some (.ref A.a_law_power)
  F_law_depth : Fun K "_law_depth" "_law_depth" s_law_depth A.a_law_depth A.d_law_depth
  g_law_depth : mg "_law_depth" = some (.ref A.a_law_depth)
  F_law_is : Fun K "_law_is" "_law_is" s_law_is A.a_law_is A.d_law_is
  g_law_is : mg "_law_is" = some (.ref A.a_law_is)
  F_law_alike : Fun K "_law_alike" "_law_alike" s_law_alike A.a_law_alike A.d_law_alike
  g_law_alike : mg "_law_alike" = some (.ref A.a_law_alike)
  F_law_number : Fun K "_law_number" "_law_number" s_law_number A.a_law_number A.d_law_number
  g_law_number : mg "_law_number" = some (.ref A.a_law_number)
  F_law_inverse : Fun K "_law_inverse" "_law_inverse" s_law_inverse A.a_law_inverse A.d_law_inverse
  g_law_inverse : mg "_law_inverse" = some (.ref A.a_law_inverse)
  F_law_call : Fun K "_law_call" "_law_call" s_law_call A.a_law_call A.d_law_call
  g_law_call : mg "_law_call" = some (.ref A.a_law_call)
  F_law_common : Fun K "_law_common" "_law_common" s_law_common A.a_law_common A.d_law_common
  g_law_common : mg "_law_common" = some (.ref A.a_law_common)
  F_law_parts : Fun K "_law_parts" "_law_parts" s_law_parts A.a_law_parts A.d_law_parts
  g_law_parts : mg "_law_parts" = some (.ref A.a_law_parts)
  F_law_primes : Fun K "_law_primes" "_law_primes" s_law_primes A.a_law_primes A.d_law_primes
  g_law_primes : mg "_law_primes" = some (.ref A.a_law_primes)
  F_law_solved : Fun K "_law_solved" "_law_solved" s_law_solved A.a_law_solved A.d_law_solved
  g_law_solved : mg "_law_solved" = some (.ref A.a_law_solved)
  F_law_solves : Fun K "_law_solves" "_law_solves" s_law_solves A.a_law_solves A.d_law_solves
  g_law_solves : mg "_law_solves" = some (.ref A.a_law_solves)
  F_law_asked : Fun K "_law_asked" "_law_asked" s_law_asked A.a_law_asked A.d_law_asked
  g_law_asked : mg "_law_asked" = some (.ref A.a_law_asked)
  F_law_drawn : Fun K "_law_drawn" "_law_drawn" s_law_drawn A.a_law_drawn A.d_law_drawn
  g_law_drawn : mg "_law_drawn" = some (.ref A.a_law_drawn)
  F_law_same_primes : Fun K "_law_same_primes" "_law_same_primes" s_law_same_primes A.a_law_same_primes A.d_law_same_primes
  g_law_same_primes : mg "_law_same_primes" = some (.ref A.a_law_same_primes)
  F_law_refused : Fun K "_law_refused" "_law_refused" s_law_refused A.a_law_refused A.d_law_refused
  g_law_refused : mg "_law_refused" = some (.ref A.a_law_refused)
  F_law : Fun K "law" "law" s_law A.a_law A.d_law
  g_law : mg "law" = some (.ref A.a_law)
  n_len : mg "len" = none
  n_int : mg "int" = none
  n_bool : mg "bool" = none
  n_tuple : mg "tuple" = none
  n_list : mg "list" = none
  n_abs : mg "abs" = none
  n_isinstance : mg "isinstance" = none
  n_all : mg "all" = none
  n_range : mg "range" = none
  n_sorted : mg "sorted" = none
  n_min : mg "min" = none
  n_ValueError : mg "ValueError" = none
  n_gcd : mg "gcd" = some (.builtin "math.gcd")
  c_MOST_PARTED : ∃ t, mg "MOST_PARTED" = some (.int 1000000000 t)
  c_LARGEST : ∃ t, mg "LARGEST" = some (.int 1000000000 t)
  c_MOST_PRIME : ∃ t, mg "MOST_PRIME" = some (.int 97 t)
  c_MOST_EXPONENT_nth : ∃ t, mg "MOST_EXPONENT_nth" = some (.int 60 t)
  c_MOST_EXPONENT_equations : ∃ t, mg "MOST_EXPONENT_equations" = some (.int 12 t)
  c_MOST : ∃ t, mg "MOST" = some (.int A.zMOST t)
  h_MOST : (2 : Int) ^ 2000 ≤ A.zMOST
  c_SMALL_PRIMES : mg "SMALL_PRIMES" = some (.ref A.aSP)
  tSP : ∃ dd its n sl, K.lookup A.aSP = some ⟨.type "tuple", dd, .seq its n, sl⟩ ∧ its.size ≤ sizeLine ∧ Vals (primesL.map V.int) its.toList
  g_PrimedeepError : mg "PrimedeepError" = some (.ref A.a_PrimedeepError)
  g_SizeError : mg "SizeError" = some (.ref A.a_SizeError)
  g_RangeError : mg "RangeError" = some (.ref A.a_RangeError)
  g_PrimeError : mg "PrimeError" = some (.ref A.a_PrimeError)
  g_DepthError : mg "DepthError" = some (.ref A.a_DepthError)
  g_ZeroError : mg "ZeroError" = some (.ref A.a_ZeroError)
  g_MixError : mg "MixError" = some (.ref A.a_MixError)
  g_BarError : mg "BarError" = some (.ref A.a_BarError)
  g_MonicError : mg "MonicError" = some (.ref A.a_MonicError)
  g_RepeatError : mg "RepeatError" = some (.ref A.a_RepeatError)
  g_FieldError : mg "FieldError" = some (.ref A.a_FieldError)
  g_EditError : mg "EditError" = some (.ref A.a_EditError)
  g_TextError : mg "TextError" = some (.ref A.a_TextError)
  g_HistoryError : mg "HistoryError" = some (.ref A.a_HistoryError)
  e_SizeError : PySem.KX.Err1 prog K mg "SizeError" "count" A.a_SizeError A.i_SizeError A.v_SizeError A.w_SizeError
  ei_SizeError : L2.ErrI K A.a_SizeError
  ex_SizeError : PySem.W.exmOne K (.ref A.a_SizeError) (.ref A.a_PrimedeepError) = some true
  kv_SizeError : PySem.W.kitOne K (.ref A.a_SizeError) (.type "ValueError") = some true
  kt_SizeError_SizeError : PySem.W.kitOne K (.ref A.a_SizeError) (.ref A.a_SizeError) = some true
  kt_SizeError_RangeError : PySem.W.kitOne K (.ref A.a_SizeError) (.ref A.a_RangeError) = some false
  kt_SizeError_PrimeError : PySem.W.kitOne K (.ref A.a_SizeError) (.ref A.a_PrimeError) = some false
  kt_SizeError_DepthError : PySem.W.kitOne K (.ref A.a_SizeError) (.ref A.a_DepthError) = some false
  kt_SizeError_ZeroError : PySem.W.kitOne K (.ref A.a_SizeError) (.ref A.a_ZeroError) = some false
  kt_SizeError_MixError : PySem.W.kitOne K (.ref A.a_SizeError) (.ref A.a_MixError) = some false
  kt_SizeError_BarError : PySem.W.kitOne K (.ref A.a_SizeError) (.ref A.a_BarError) = some false
  kt_SizeError_MonicError : PySem.W.kitOne K (.ref A.a_SizeError) (.ref A.a_MonicError) = some false
  kt_SizeError_RepeatError : PySem.W.kitOne K (.ref A.a_SizeError) (.ref A.a_RepeatError) = some false
  kt_SizeError_FieldError : PySem.W.kitOne K (.ref A.a_SizeError) (.ref A.a_FieldError) = some false
  kt_SizeError_EditError : PySem.W.kitOne K (.ref A.a_SizeError) (.ref A.a_EditError) = some false
  kt_SizeError_TextError : PySem.W.kitOne K (.ref A.a_SizeError) (.ref A.a_TextError) = some false
  kt_SizeError_HistoryError : PySem.W.kitOne K (.ref A.a_SizeError) (.ref A.a_HistoryError) = some false
  e_RangeError : PySem.KX.Err1 prog K mg "RangeError" "number" A.a_RangeError A.i_RangeError A.v_RangeError A.w_RangeError
  ei_RangeError : L2.ErrI K A.a_RangeError
  ex_RangeError : PySem.W.exmOne K (.ref A.a_RangeError) (.ref A.a_PrimedeepError) = some true
  kv_RangeError : PySem.W.kitOne K (.ref A.a_RangeError) (.type "ValueError") = some true
  kt_RangeError_SizeError : PySem.W.kitOne K (.ref A.a_RangeError) (.ref A.a_SizeError) = some false
  kt_RangeError_RangeError : PySem.W.kitOne K (.ref A.a_RangeError) (.ref A.a_RangeError) = some true
  kt_RangeError_PrimeError : PySem.W.kitOne K (.ref A.a_RangeError) (.ref A.a_PrimeError) = some false
  kt_RangeError_DepthError : PySem.W.kitOne K (.ref A.a_RangeError) (.ref A.a_DepthError) = some false
  kt_RangeError_ZeroError : PySem.W.kitOne K (.ref A.a_RangeError) (.ref A.a_ZeroError) = some false
  kt_RangeError_MixError : PySem.W.kitOne K (.ref A.a_RangeError) (.ref A.a_MixError) = some false
  kt_RangeError_BarError : PySem.W.kitOne K (.ref A.a_RangeError) (.ref A.a_BarError) = some false
  kt_RangeError_MonicError : PySem.W.kitOne K (.ref A.a_RangeError) (.ref A.a_MonicError) = some false
  kt_RangeError_RepeatError : PySem.W.kitOne K (.ref A.a_RangeError) (.ref A.a_RepeatError) = some false
  kt_RangeError_FieldError : PySem.W.kitOne K (.ref A.a_RangeError) (.ref A.a_FieldError) = some false
  kt_RangeError_EditError : PySem.W.kitOne K (.ref A.a_RangeError) (.ref A.a_EditError) = some false
  kt_RangeError_TextError : PySem.W.kitOne K (.ref A.a_RangeError) (.ref A.a_TextError) = some false
  kt_RangeError_HistoryError : PySem.W.kitOne K (.ref A.a_RangeError) (.ref A.a_HistoryError) = some false
  e_PrimeError : PySem.KX.Err1 prog K mg "PrimeError" "number" A.a_PrimeError A.i_PrimeError A.v_PrimeError A.w_PrimeError
  ei_PrimeError : L2.ErrI K A.a_PrimeError
  ex_PrimeError : PySem.W.exmOne K (.ref A.a_PrimeError) (.ref A.a_PrimedeepError) = some true
  kv_PrimeError : PySem.W.kitOne K (.ref A.a_PrimeError) (.type "ValueError") = some true
  kt_PrimeError_SizeError : PySem.W.kitOne K (.ref A.a_PrimeError) (.ref A.a_SizeError) = some false
  kt_PrimeError_RangeError : PySem.W.kitOne K (.ref A.a_PrimeError) (.ref A.a_RangeError) = some false
  kt_PrimeError_PrimeError : PySem.W.kitOne K (.ref A.a_PrimeError) (.ref A.a_PrimeError) = some true
  kt_PrimeError_DepthError : PySem.W.kitOne K (.ref A.a_PrimeError) (.ref A.a_DepthError) = some false
  kt_PrimeError_ZeroError : PySem.W.kitOne K (.ref A.a_PrimeError) (.ref A.a_ZeroError) = some false
  kt_PrimeError_MixError : PySem.W.kitOne K (.ref A.a_PrimeError) (.ref A.a_MixError) = some false
  kt_PrimeError_BarError : PySem.W.kitOne K (.ref A.a_PrimeError) (.ref A.a_BarError) = some false
  kt_PrimeError_MonicError : PySem.W.kitOne K (.ref A.a_PrimeError) (.ref A.a_MonicError) = some false
  kt_PrimeError_RepeatError : PySem.W.kitOne K (.ref A.a_PrimeError) (.ref A.a_RepeatError) = some false
  kt_PrimeError_FieldError : PySem.W.kitOne K (.ref A.a_PrimeError) (.ref A.a_FieldError) = some false
  kt_PrimeError_EditError : PySem.W.kitOne K (.ref A.a_PrimeError) (.ref A.a_EditError) = some false
  kt_PrimeError_TextError : PySem.W.kitOne K (.ref A.a_PrimeError) (.ref A.a_TextError) = some false
  kt_PrimeError_HistoryError : PySem.W.kitOne K (.ref A.a_PrimeError) (.ref A.a_HistoryError) = some false
  e_ZeroError : PySem.KX.Err0 prog K mg "ZeroError" A.a_ZeroError A.i_ZeroError A.v_ZeroError A.w_ZeroError
  ei_ZeroError : L2.ErrI K A.a_ZeroError
  ex_ZeroError : PySem.W.exmOne K (.ref A.a_ZeroError) (.ref A.a_PrimedeepError) = some true
  kv_ZeroError : PySem.W.kitOne K (.ref A.a_ZeroError) (.type "ValueError") = some true
  kt_ZeroError_SizeError : PySem.W.kitOne K (.ref A.a_ZeroError) (.ref A.a_SizeError) = some false
  kt_ZeroError_RangeError : PySem.W.kitOne K (.ref A.a_ZeroError) (.ref A.a_RangeError) = some false
  kt_ZeroError_PrimeError : PySem.W.kitOne K (.ref A.a_ZeroError) (.ref A.a_PrimeError) = some false
  kt_ZeroError_DepthError : PySem.W.kitOne K (.ref A.a_ZeroError) (.ref A.a_DepthError) = some false
  kt_ZeroError_ZeroError : PySem.W.kitOne K (.ref A.a_ZeroError) (.ref A.a_ZeroError) = some true
  kt_ZeroError_MixError : PySem.W.kitOne K (.ref A.a_ZeroError) (.ref A.a_MixError) = some false
  kt_ZeroError_BarError : PySem.W.kitOne K (.ref A.a_ZeroError) (.ref A.a_BarError) = some false
  kt_ZeroError_MonicError : PySem.W.kitOne K (.ref A.a_ZeroError) (.ref A.a_MonicError) = some false
  kt_ZeroError_RepeatError : PySem.W.kitOne K (.ref A.a_ZeroError) (.ref A.a_RepeatError) = some false
  kt_ZeroError_FieldError : PySem.W.kitOne K (.ref A.a_ZeroError) (.ref A.a_FieldError) = some false
  kt_ZeroError_EditError : PySem.W.kitOne K (.ref A.a_ZeroError) (.ref A.a_EditError) = some false
  kt_ZeroError_TextError : PySem.W.kitOne K (.ref A.a_ZeroError) (.ref A.a_TextError) = some false
  kt_ZeroError_HistoryError : PySem.W.kitOne K (.ref A.a_ZeroError) (.ref A.a_HistoryError) = some false
  cl_Ratio : Cls K A.a_Ratio
  ty_Ratio : KR.TyR K A.a_Ratio
  mk_Ratio : Mk K A.a_Ratio A.a_Ratio_init
  g_Ratio : mg "Ratio" = some (.ref A.a_Ratio)
  m_Ratio_over : Meth K A.a_Ratio "over" A.a_Ratio_over
  na_Ratio_num : NoAttr K A.a_Ratio "num"
  na_Ratio_den : NoAttr K A.a_Ratio "den"
section
variable {prog : Program} {K : PySem.W.Frag} {mg : Str → Option Value} {A : Ad}
theorem Txt.b_prime_parts (T : Txt prog K mg A) : Binds K A.d_prime_parts ["number"] [] := T.F_prime_parts.binds fun _ _ _ _ _ _ us hl => match us, hl with | [_], _ => rfl
theorem Txt.k_prime_parts (T : Txt prog K mg A) : PySem.W.keepIn K (.ref A.a_prime_parts) = true := T.F_prime_parts.kp
theorem Txt.b_to_ratio (T : Txt prog K mg A) : Binds K A.d_to_ratio ["x"] [] := T.F_to_ratio.binds fun _ _ _ _ _ _ us hl => match us, hl with | [_], _ => rfl
theorem Txt.k_to_ratio (T : Txt prog K mg A) : PySem.W.keepIn K (.ref A.a_to_ratio) = true := T.F_to_ratio.kp
theorem Txt.b_made_ratio (T : Txt prog K mg A) : Binds K A.d_made_ratio ["num", "den"] [] := T.F_made_ratio.binds fun _ _ _ _ _ _ us hl => match us, hl with | [_, _], _ => rfl
theorem Txt.k_made_ratio (T : Txt prog K mg A) : PySem.W.keepIn K (.ref A.a_made_ratio) = true := T.F_made_ratio.kp
theorem Txt.b2_Ratio_init (T : Txt prog K mg A) : ∃ ds, Vals ([] : List V) ds ∧ Binds K A.d_Ratio_init ["self", "num", "den"] ds := T.F_Ratio_init.binds1 3 1 (by decide) rfl fun _ _ _ _ _ _ _ us its h1 h2 => match us, its, h1, h2 with | [_, _, _], [_], _, _ => ⟨_, rfl, rfl⟩
theorem Txt.b1_Ratio_init (T : Txt prog K mg A) : ∃ ds, Vals ([.int 1] : List V) ds ∧ Binds K A.d_Ratio_init ["self", "num", "den"] ds := T.F_Ratio_init.binds1 2 0 (by decide) rfl fun _ _ _ _ _ _ _ us its h1 h2 => match us, its, h1, h2 with | [_, _], [_], _, _ => ⟨_, rfl, rfl⟩
theorem Txt.b_Ratio_over (T : Txt prog K mg A) : Binds K A.d_Ratio_over ["self", "other"] [] := T.F_Ratio_over.binds fun _ _ _ _ _ _ us hl => match us, hl with | [_, _], _ => rfl
theorem Txt.k_Ratio_over (T : Txt prog K mg A) : PySem.W.keepIn K (.ref A.a_Ratio_over) = true := T.F_Ratio_over.kp
theorem Txt.b_look_prime (T : Txt prog K mg A) : Binds K A.d_look_prime ["p"] [] := T.F_look_prime.binds fun _ _ _ _ _ _ us hl => match us, hl with | [_], _ => rfl
theorem Txt.k_look_prime (T : Txt prog K mg A) : PySem.W.keepIn K (.ref A.a_look_prime) = true := T.F_look_prime.kp
theorem Txt.b_look_range (T : Txt prog K mg A) : Binds K A.d_look_range ["number", "low", "high"] [] := T.F_look_range.binds fun _ _ _ _ _ _ us hl => match us, hl with | [_, _, _], _ => rfl
theorem Txt.k_look_range (T : Txt prog K mg A) : PySem.W.keepIn K (.ref A.a_look_range) = true := T.F_look_range.kp
theorem Txt.b_look_size (T : Txt prog K mg A) : Binds K A.d_look_size ["count", "low", "high"] [] := T.F_look_size.binds fun _ _ _ _ _ _ us hl => match us, hl with | [_, _, _], _ => rfl
theorem Txt.k_look_size (T : Txt prog K mg A) : PySem.W.keepIn K (.ref A.a_look_size) = true := T.F_look_size.kp
theorem Txt.b_look_list (T : Txt prog K mg A) : Binds K A.d_look_list ["entries", "low", "high"] [] := T.F_look_list.binds fun _ _ _ _ _ _ us hl => match us, hl with | [_, _, _], _ => rfl
theorem Txt.k_look_list (T : Txt prog K mg A) : PySem.W.keepIn K (.ref A.a_look_list) = true := T.F_look_list.kp
theorem Txt.b_look_each (T : Txt prog K mg A) : Binds K A.d_look_each ["entries", "low", "high"] [] := T.F_look_each.binds fun _ _ _ _ _ _ us hl => match us, hl with | [_, _, _], _ => rfl
theorem Txt.k_look_each (T : Txt prog K mg A) : PySem.W.keepIn K (.ref A.a_look_each) = true := T.F_look_each.kp
theorem Txt.b_as_ratio (T : Txt prog K mg A) : Binds K A.d_as_ratio ["x"] [] := T.F_as_ratio.binds fun _ _ _ _ _ _ us hl => match us, hl with | [_], _ => rfl
theorem Txt.k_as_ratio (T : Txt prog K mg A) : PySem.W.keepIn K (.ref A.a_as_ratio) = true := T.F_as_ratio.kp
theorem Txt.b_power (T : Txt prog K mg A) : Binds K A.d_power ["base", "exponent"] [] := T.F_power.binds fun _ _ _ _ _ _ us hl => match us, hl with | [_, _], _ => rfl
theorem Txt.k_power (T : Txt prog K mg A) : PySem.W.keepIn K (.ref A.a_power) = true := T.F_power.kp
theorem Txt.b_power_mod (T : Txt prog K mg A) : Binds K A.d_power_mod ["base", "exponent", "modulus"] [] := T.F_power_mod.binds fun _ _ _ _ _ _ us hl => match us, hl with | [_, _, _], _ => rfl
theorem Txt.k_power_mod (T : Txt prog K mg A) : PySem.W.keepIn K (.ref A.a_power_mod) = true := T.F_power_mod.kp
theorem Txt.b_inverse_mod (T : Txt prog K mg A) : Binds K A.d_inverse_mod ["a", "modulus"] [] := T.F_inverse_mod.binds fun _ _ _ _ _ _ us hl => match us, hl with | [_, _], _ => rfl
theorem Txt.k_inverse_mod (T : Txt prog K mg A) : PySem.W.keepIn K (.ref A.a_inverse_mod) = true := T.F_inverse_mod.kp
theorem Txt.b_parted (T : Txt prog K mg A) : Binds K A.d_parted ["p", "n"] [] := T.F_parted.binds fun _ _ _ _ _ _ us hl => match us, hl with | [_, _], _ => rfl
theorem Txt.k_parted (T : Txt prog K mg A) : PySem.W.keepIn K (.ref A.a_parted) = true := T.F_parted.kp
theorem Txt.b_int_depth (T : Txt prog K mg A) : Binds K A.d_int_depth ["p", "n"] [] := T.F_int_depth.binds fun _ _ _ _ _ _ us hl => match us, hl with | [_, _], _ => rfl
theorem Txt.k_int_depth (T : Txt prog K mg A) : PySem.W.keepIn K (.ref A.a_int_depth) = true := T.F_int_depth.kp
theorem Txt.b_depth_of (T : Txt prog K mg A) : Binds K A.d_depth_of ["p", "num", "den"] [] := T.F_depth_of.binds fun _ _ _ _ _ _ us hl => match us, hl with | [_, _, _], _ => rfl
theorem Txt.k_depth_of (T : Txt prog K mg A) : PySem.W.keepIn K (.ref A.a_depth_of) = true := T.F_depth_of.kp
theorem Txt.b_root_count (T : Txt prog K mg A) : Binds K A.d_root_count ["p", "n"] [] := T.F_root_count.binds fun _ _ _ _ _ _ us hl => match us, hl with | [_, _], _ => rfl
theorem Txt.k_root_count (T : Txt prog K mg A) : PySem.W.keepIn K (.ref A.a_root_count) = true := T.F_root_count.kp
theorem Txt.b_sure_depth (T : Txt prog K mg A) : Binds K A.d_sure_depth ["p", "n"] [] := T.F_sure_depth.binds fun _ _ _ _ _ _ us hl => match us, hl with | [_, _], _ => rfl
theorem Txt.k_sure_depth (T : Txt prog K mg A) : PySem.W.keepIn K (.ref A.a_sure_depth) = true := T.F_sure_depth.kp
theorem Txt.b_unit_residue (T : Txt prog K mg A) : Binds K A.d_unit_residue ["p", "ratio", "m"] [] := T.F_unit_residue.binds fun _ _ _ _ _ _ us hl => match us, hl with | [_, _, _], _ => rfl
theorem Txt.k_unit_residue (T : Txt prog K mg A) : PySem.W.keepIn K (.ref A.a_unit_residue) = true := T.F_unit_residue.kp
theorem Txt.b_unit_agreement (T : Txt prog K mg A) : Binds K A.d_unit_agreement ["p", "n", "ratio"] [] := T.F_unit_agreement.binds fun _ _ _ _ _ _ us hl => match us, hl with | [_, _, _], _ => rfl
theorem Txt.k_unit_agreement (T : Txt prog K mg A) : PySem.W.keepIn K (.ref A.a_unit_agreement) = true := T.F_unit_agreement.kp
theorem Txt.b_is_power (T : Txt prog K mg A) : Binds K A.d_is_power ["p", "n", "a"] [] := T.F_is_power.binds fun _ _ _ _ _ _ us hl => match us, hl with | [_, _, _], _ => rfl
theorem Txt.k_is_power (T : Txt prog K mg A) : PySem.W.keepIn K (.ref A.a_is_power) = true := T.F_is_power.kp
theorem Txt.b_primes_of (T : Txt prog K mg A) : Binds K A.d_primes_of ["numbers", "most"] [] := T.F_primes_of.binds fun _ _ _ _ _ _ us hl => match us, hl with | [_, _], _ => rfl
theorem Txt.k_primes_of (T : Txt prog K mg A) : PySem.W.keepIn K (.ref A.a_primes_of) = true := T.F_primes_of.kp
theorem Txt.b_with_two (T : Txt prog K mg A) : Binds K A.d_with_two ["primes"] [] := T.F_with_two.binds fun _ _ _ _ _ _ us hl => match us, hl with | [_], _ => rfl
theorem Txt.k_with_two (T : Txt prog K mg A) : PySem.W.keepIn K (.ref A.a_with_two) = true := T.F_with_two.kp
theorem Txt.b_told_primes (T : Txt prog K mg A) : Binds K A.d_told_primes ["numbers"] [] := T.F_told_primes.binds fun _ _ _ _ _ _ us hl => match us, hl with | [_], _ => rfl
theorem Txt.k_told_primes (T : Txt prog K mg A) : PySem.W.keepIn K (.ref A.a_told_primes) = true := T.F_told_primes.kp
theorem Txt.b_two_term_bars (T : Txt prog K mg A) : Binds K A.d_two_term_bars ["a", "m", "b", "n"] [] := T.F_two_term_bars.binds fun _ _ _ _ _ _ us hl => match us, hl with | [_, _, _, _], _ => rfl
theorem Txt.k_two_term_bars (T : Txt prog K mg A) : PySem.W.keepIn K (.ref A.a_two_term_bars) = true := T.F_two_term_bars.kp
theorem Txt.b_root (T : Txt prog K mg A) : Binds K A.d_root ["a", "b", "n"] [] := T.F_root.binds fun _ _ _ _ _ _ us hl => match us, hl with | [_, _, _], _ => rfl
theorem Txt.k_root (T : Txt prog K mg A) : PySem.W.keepIn K (.ref A.a_root) = true := T.F_root.kp
theorem Txt.b_raised (T : Txt prog K mg A) : Binds K A.d_raised ["base", "exponent"] [] := T.F_raised.binds fun _ _ _ _ _ _ us hl => match us, hl with | [_, _], _ => rfl
theorem Txt.k_raised (T : Txt prog K mg A) : PySem.W.keepIn K (.ref A.a_raised) = true := T.F_raised.kp
theorem Txt.b_two_term (T : Txt prog K mg A) : Binds K A.d_two_term ["a", "m", "b", "n"] [] := T.F_two_term.binds fun _ _ _ _ _ _ us hl => match us, hl with | [_, _, _, _], _ => rfl
theorem Txt.k_two_term (T : Txt prog K mg A) : PySem.W.keepIn K (.ref A.a_two_term) = true := T.F_two_term.kp
theorem Txt.b_law_begin (T : Txt prog K mg A) : Binds K A.d_law_begin ["script"] [] := T.F_law_begin.binds fun _ _ _ _ _ _ us hl => match us, hl with | [_], _ => rfl
theorem Txt.k_law_begin (T : Txt prog K mg A) : PySem.W.keepIn K (.ref A.a_law_begin) = true := T.F_law_begin.kp
theorem Txt.b_law_draw (T : Txt prog K mg A) : Binds K A.d_law_draw ["pool", "bound", "plus"] [] := T.F_law_draw.binds fun _ _ _ _ _ _ us hl => match us, hl with | [_, _, _], _ => rfl
theorem Txt.k_law_draw (T : Txt prog K mg A) : PySem.W.keepIn K (.ref A.a_law_draw) = true := T.F_law_draw.kp
theorem Txt.b_law_power (T : Txt prog K mg A) : Binds K A.d_law_power ["base", "exponent"] [] := T.F_law_power.binds fun _ _ _ _ _ _ us hl => match us, hl with | [_, _], _ => rfl
theorem Txt.k_law_power (T : Txt prog K mg A) : PySem.W.keepIn K (.ref A.a_law_power) = true := T.F_law_power.kp
theorem Txt.b_law_depth (T : Txt prog K mg A) : Binds K A.d_law_depth ["p", "n"] [] := T.F_law_depth.binds fun _ _ _ _ _ _ us hl => match us, hl with | [_, _], _ => rfl
theorem Txt.k_law_depth (T : Txt prog K mg A) : PySem.W.keepIn K (.ref A.a_law_depth) = true := T.F_law_depth.kp
theorem Txt.b_law_is (T : Txt prog K mg A) : Binds K A.d_law_is ["told", "due"] [] := T.F_law_is.binds fun _ _ _ _ _ _ us hl => match us, hl with | [_, _], _ => rfl
theorem Txt.k_law_is (T : Txt prog K mg A) : PySem.W.keepIn K (.ref A.a_law_is) = true := T.F_law_is.kp
theorem Txt.b_law_alike (T : Txt prog K mg A) : Binds K A.d_law_alike ["told", "due"] [] := T.F_law_alike.binds fun _ _ _ _ _ _ us hl => match us, hl with | [_, _], _ => rfl
theorem Txt.k_law_alike (T : Txt prog K mg A) : PySem.W.keepIn K (.ref A.a_law_alike) = true := T.F_law_alike.kp
theorem Txt.b_law_number (T : Txt prog K mg A) : Binds K A.d_law_number ["told"] [] := T.F_law_number.binds fun _ _ _ _ _ _ us hl => match us, hl with | [_], _ => rfl
theorem Txt.k_law_number (T : Txt prog K mg A) : PySem.W.keepIn K (.ref A.a_law_number) = true := T.F_law_number.kp
theorem Txt.b_law_inverse (T : Txt prog K mg A) : Binds K A.d_law_inverse ["a", "modulus"] [] := T.F_law_inverse.binds fun _ _ _ _ _ _ us hl => match us, hl with | [_, _], _ => rfl
theorem Txt.k_law_inverse (T : Txt prog K mg A) : PySem.W.keepIn K (.ref A.a_law_inverse) = true := T.F_law_inverse.kp
theorem Txt.b_law_call (T : Txt prog K mg A) : Binds K A.d_law_call ["word", "numbers"] [] := T.F_law_call.binds fun _ _ _ _ _ _ us hl => match us, hl with | [_, _], _ => rfl
theorem Txt.k_law_call (T : Txt prog K mg A) : PySem.W.keepIn K (.ref A.a_law_call) = true := T.F_law_call.kp
theorem Txt.b_law_common (T : Txt prog K mg A) : Binds K A.d_law_common ["a", "b"] [] := T.F_law_common.binds fun _ _ _ _ _ _ us hl => match us, hl with | [_, _], _ => rfl
theorem Txt.k_law_common (T : Txt prog K mg A) : PySem.W.keepIn K (.ref A.a_law_common) = true := T.F_law_common.kp
theorem Txt.b_law_parts (T : Txt prog K mg A) : Binds K A.d_law_parts ["n"] [] := T.F_law_parts.binds fun _ _ _ _ _ _ us hl => match us, hl with | [_], _ => rfl
theorem Txt.k_law_parts (T : Txt prog K mg A) : PySem.W.keepIn K (.ref A.a_law_parts) = true := T.F_law_parts.kp
theorem Txt.b_law_primes (T : Txt prog K mg A) : Binds K A.d_law_primes ["numbers"] [] := T.F_law_primes.binds fun _ _ _ _ _ _ us hl => match us, hl with | [_], _ => rfl
theorem Txt.k_law_primes (T : Txt prog K mg A) : PySem.W.keepIn K (.ref A.a_law_primes) = true := T.F_law_primes.kp
theorem Txt.b_law_solved (T : Txt prog K mg A) : Binds K A.d_law_solved ["p", "g", "a", "b"] [] := T.F_law_solved.binds fun _ _ _ _ _ _ us hl => match us, hl with | [_, _, _, _], _ => rfl
theorem Txt.k_law_solved (T : Txt prog K mg A) : PySem.W.keepIn K (.ref A.a_law_solved) = true := T.F_law_solved.kp
theorem Txt.b_law_solves (T : Txt prog K mg A) : Binds K A.d_law_solves ["told", "a", "m", "b", "n"] [] := T.F_law_solves.binds fun _ _ _ _ _ _ us hl => match us, hl with | [_, _, _, _, _], _ => rfl
theorem Txt.k_law_solves (T : Txt prog K mg A) : PySem.W.keepIn K (.ref A.a_law_solves) = true := T.F_law_solves.kp
theorem Txt.b_law_asked (T : Txt prog K mg A) : Binds K A.d_law_asked ["a", "m", "b", "n"] [] := T.F_law_asked.binds fun _ _ _ _ _ _ us hl => match us, hl with | [_, _, _, _], _ => rfl
theorem Txt.k_law_asked (T : Txt prog K mg A) : PySem.W.keepIn K (.ref A.a_law_asked) = true := T.F_law_asked.kp
theorem Txt.b_law_drawn (T : Txt prog K mg A) : Binds K A.d_law_drawn ["pool", "m", "n", "great", "kind"] [] := T.F_law_drawn.binds fun _ _ _ _ _ _ us hl => match us, hl with | [_, _, _, _, _], _ => rfl
theorem Txt.k_law_drawn (T : Txt prog K mg A) : PySem.W.keepIn K (.ref A.a_law_drawn) = true := T.F_law_drawn.kp
theorem Txt.b_law_same_primes (T : Txt prog K mg A) : Binds K A.d_law_same_primes ["numbers"] [] := T.F_law_same_primes.binds fun _ _ _ _ _ _ us hl => match us, hl with | [_], _ => rfl
theorem Txt.k_law_same_primes (T : Txt prog K mg A) : PySem.W.keepIn K (.ref A.a_law_same_primes) = true := T.F_law_same_primes.kp
theorem Txt.b_law_refused (T : Txt prog K mg A) : Binds K A.d_law_refused ["pool"] [] := T.F_law_refused.binds fun _ _ _ _ _ _ us hl => match us, hl with | [_], _ => rfl
theorem Txt.k_law_refused (T : Txt prog K mg A) : PySem.W.keepIn K (.ref A.a_law_refused) = true := T.F_law_refused.kp
theorem Txt.b_law (T : Txt prog K mg A) : Binds K A.d_law ["script"] [] := T.F_law.binds fun _ _ _ _ _ _ us hl => match us, hl with | [_], _ => rfl
theorem Txt.k_law (T : Txt prog K mg A) : PySem.W.keepIn K (.ref A.a_law) = true := T.F_law.kp
end
end K9
namespace KH
open PySem PySem.Spec PyProof.Rows L2 He
abbrev Fr : Type := PySem.W.Frag
structure XD where
  cls : Str
  qual : Str
  params : Arguments
  body : List Stmt
  scope : Scope
abbrev XV : Type := Option (Str × Str × Arguments × FuncBody × Scope × Addr × List Str × Addr)
def xI (K : Fr) (x : Str) : Addr := ma K (ga K x) "__init__"
def xW (K : Fr) (x : Str) : XV := match K.lookup (xI K x) with
  | some ⟨_, _, .func fd, _⟩ => some (fd.name, fd.qualname, fd.params, fd.body, fd.scope, fd.globals, fd.closure.map (·.1), fd.builtins)
  | _ => none
def XD.val (d : XD) : XV := some ("__init__", d.qual, d.params, .stmts d.body, d.scope, mainGlobals, ["__class__"], builtinsNs)
def cellOf : List (Str × Addr) → Addr
  | [(_, c)] => c
  | _ => 0
def refOf : Value → Addr
  | .ref c => c
  | _ => 0
def isNon : Value → Bool
  | .none => true
  | _ => false
theorem isNon_eq {v : Value} (h : isNon v = true) : v = .none := by
  cases v with
  | none => rfl
  | _ => cases h
def xC (K : Fr) (x : Str) : Addr := match K.lookup (xI K x) with
  | some ⟨_, _, .func fd, _⟩ => cellOf fd.closure
  | _ => 0
def xK (K : Fr) (x : Str) : Addr := match K.lookup (xI K x) with
  | some ⟨_, _, .func fd, _⟩ => refOf fd.code
  | _ => 0
def XD.ok (K : Fr) (d : XD) : Bool := match K.lookup (xI K d.cls) with
  | some ⟨_, _, .func fd, _⟩ => PySem.W.codeIn K fd.code d.qual && (isNon fd.defaults && isNon fd.kwdefaults)
  | _ => false
theorem XD.fn {K : Fr} {d : XD} (e : xW K d.cls = d.val) (c : d.ok K = true) : ∃ (oc : Value) (od : Option Addr) (doc pm : Value) (an : Option Addr) (ct : Value) (osl : Array (Option Value)),
    K.lookup (xI K d.cls) = some ⟨oc, od, .func (PySem.W.ksFn "__init__" d.qual d.params d.body d.scope .none .none doc pm an (.ref (xK K d.cls)) ct (xC K d.cls)), osl⟩ ∧ PySem.W.codeIn K (.ref (xK K d.cls)) d.qual = true := by
  unfold XD.ok at c
  unfold xW at e
  unfold xK xC
  cases q : K.lookup (xI K d.cls) with
  | none =>
    rw [q] at c
    cases c
  | some o =>
    obtain ⟨oc, od, dt, osl⟩ := o
    rw [q] at c e
    cases dt with
    | func fd =>
      obtain ⟨n1, n2, n3, n4, n5, n6, n7, n8, n9, n10, n11, n12, n13, n14, n15⟩ := fd
      have e2 : (some (n1, n2, n3, n4, n5, n6, n7.map (·.1), n15) : XV) = (some (("__init__" : Str), d.qual, d.params, FuncBody.stmts d.body, d.scope, mainGlobals, [("__class__" : Str)], builtinsNs) : XV) := e
      simp only [Option.some.injEq, Prod.mk.injEq] at e2
      obtain ⟨h1, h2, h3, h4, h5, h6, h7, h8⟩ := e2
      have c3 : (PySem.W.codeIn K n13 d.qual && (isNon n8 && isNon n9)) = true := c
      obtain ⟨k1, k2⟩ := ba c3
      obtain ⟨k3, k4⟩ := ba k2
      have e8 := isNon_eq k3
      have e9 := isNon_eq k4
      subst h1 h2 h3 h4 h5 h6 h8 e8 e9
      obtain ⟨cc, e7⟩ : ∃ cc, n7 = [(("__class__" : Str), cc)] := by
        match n7, h7 with
        | [], h => cases h
        | [(z, cc)], h =>
          have hz : z = ("__class__" : Str) := (List.cons.inj h).1
          exact ⟨cc, by rw [hz]⟩
        | _ :: _ :: _, h => exact absurd (congrArg List.length h) (by simp)
      subst e7
      obtain ⟨cd, e13⟩ : ∃ cd, n13 = .ref cd := by
        cases n13 with
        | ref c9 => exact ⟨c9, rfl⟩
        | _ => cases k1
      subst e13
      exact ⟨oc, od, n10, n11, n12, n14, osl, rfl, k1⟩
    | _ => cases c
def clsB (K : Fr) (C : Addr) : Bool := match K.lookup C with
  | some ⟨.type "type", _, .cls cd, sl⟩ => (match cd.mro, sl.toList with
    | .ref C' :: bm, [_, _, _, _, some (.builtin n), _] => C' == C && n == "ValueError.__new__" && !cd.hasDel && cd.hasDict && PySem.HandSPX.refsVE bm
    | _, _ => false)
  | _ => false
theorem clsB_ok {K : Fr} {C : Addr} (q : clsB K C = true) : ∃ nm q N bs bm sn sub ab col dd k0 k1 k2 k3 k5, K.lookup C = some (excClassObj nm q C N bs bm true sn sub ab col dd k0 k1 k2 k3 k5 "ValueError.__new__") ∧ PySem.HandSPX.refsVE bm = true := by
  unfold clsB at q
  split at q
  · rename_i dd cd sl ho
    split at q
    · rename_i C' bm k0 k1 k2 k3 n k5 hm hs
      simp only [Bool.and_eq_true, beq_iff_eq, Bool.not_eq_true'] at q
      obtain ⟨⟨⟨⟨rfl, rfl⟩, hdel⟩, hdct⟩, ht⟩ := q
      obtain ⟨nm, bs, mro, ns, qn, hd, sn, sub, ab, col, del⟩ := cd
      dsimp only at hm hdel hdct
      subst hm hdel hdct
      have hsl : sl = #[k0, k1, k2, k3, some (.builtin "ValueError.__new__"), k5] := by
        obtain ⟨l⟩ := sl
        simp only at hs
        rw [hs]
      subst hsl
      exact ⟨nm, qn, ns, bs, bm, sn, sub, ab, col, dd, k0, k1, k2, k3, k5, ho, ht⟩
    · cases q
  · cases q
def cellB (K : Fr) (c C : Addr) : Bool := match K.lookup c with
  | some ⟨_, _, .cell (some (.ref D)), _⟩ => D == C
  | _ => false
theorem cellB_ok {K : Fr} {c C : Addr} (h : cellB K c C = true) : ∃ cl cld csl, K.lookup c = some ⟨cl, cld, .cell (some (.ref C)), csl⟩ := by
  unfold cellB at h
  split at h
  · rename_i D sl q
    rw [beq_iff_eq] at h
    subst h
    exact ⟨_, _, _, q⟩
  · cases h
def fileB (K : Fr) (c : Addr) (file : Str) : Bool := match K.lookup c with
  | some ⟨_, _, .fields vs, _⟩ => (match (vs[2]? : Option Value) with
    | some (.str f _) => file == f
    | _ => false)
  | _ => false
theorem fileB_ok {K : Fr} {c : Addr} {file : Str} (h : fileB K c file = true) : ∃ ccl cdd vs ccs f tf, K.lookup c = some ⟨ccl, cdd, .fields vs, ccs⟩ ∧ vs[2]? = some (.str f tf) ∧ (file == f) = true := by
  unfold fileB at h
  split at h
  · rename_i vs sl q
    split at h
    · rename_i f t q2
      exact ⟨_, _, _, _, _, _, q, q2, h⟩
    · cases h
  · cases h
def fiB (K : Fr) (C : Addr) (x : Str) (r : Option Value) : Bool := eqO (PySem.W.findIn K (.ref C) x) (some r)
def errB (file x : Str) (K : Fr) : Bool :=
  eqO (PySem.W.nsIn K mainGlobals x) (some (some (.ref (ga K x)))) && (clsB K (ga K x) && (fiB K (ga K x) "__setattr__" (some (.builtin "object.__setattr__")) && (fiB K (ga K x) "__getattribute__" (some (.builtin "BaseException.__getattribute__")) &&
  (fiB K (ga K x) "__getattr__" none && (fiB K (ga K x) "__init__" (some (.ref (xI K x))) && (decide (PySem.W.typeIn K (.ref (xI K x)) = some (.type "function")) && (PySem.W.keepIn K (.ref (ga K x)) &&
  (decide (PySem.W.subIn K (.ref (ga K x)) (.type "BaseException") = some true) && (decide (PySem.W.subIn K (.ref (ga K x)) (.type "ValueError") = some true) && (decide (PySem.W.typeIn K (.ref (ga K x)) = some (.type "type")) &&
  (PySem.W.hasDictIn K (ga K x) && (decide (PySem.W.mroIn K (ga K x) (.ref (ga K x)) = some true) && (eqO (PySem.W.ks_superIn K (ga K x) (ga K x) "__init__") (some (some (.builtin "ValueError.__init__"))) &&
  (cellB K (xC K x) (ga K x) && fileB K (xK K x) file))))))))))))))
structure ErrF (K : Fr) (file x : Str) : Prop where
  gC : PySem.W.nsIn K mainGlobals x = some (some (.ref (ga K x)))
  cls : ∃ nm q N bs bm sn sub ab col dd k0 k1 k2 k3 k5, K.lookup (ga K x) = some (excClassObj nm q (ga K x) N bs bm true sn sub ab col dd k0 k1 k2 k3 k5 "ValueError.__new__") ∧ PySem.HandSPX.refsVE bm = true
  sa : PySem.W.findIn K (.ref (ga K x)) "__setattr__" = some (some (.builtin "object.__setattr__"))
  ga_ : PySem.W.findIn K (.ref (ga K x)) "__getattribute__" = some (some (.builtin "BaseException.__getattribute__"))
  gg : PySem.W.findIn K (.ref (ga K x)) "__getattr__" = some none
  iC : PySem.W.findIn K (.ref (ga K x)) "__init__" = some (some (.ref (xI K x)))
  tC : PySem.W.typeIn K (.ref (xI K x)) = some (.type "function")
  kC : PySem.W.keepIn K (.ref (ga K x)) = true
  exC : PySem.W.subIn K (.ref (ga K x)) (.type "BaseException") = some true
  exV : PySem.W.subIn K (.ref (ga K x)) (.type "ValueError") = some true
  tyC : PySem.W.typeIn K (.ref (ga K x)) = some (.type "type")
  hdC : PySem.W.hasDictIn K (ga K x) = true
  mC : PySem.W.mroIn K (ga K x) (.ref (ga K x)) = some true
  sup : PySem.W.ks_superIn K (ga K x) (ga K x) "__init__" = some (some (.builtin "ValueError.__init__"))
  cell : ∃ cl cld csl, K.lookup (xC K x) = some ⟨cl, cld, .cell (some (.ref (ga K x))), csl⟩
  code : ∃ ccl cdd vs ccs f tf, K.lookup (xK K x) = some ⟨ccl, cdd, .fields vs, ccs⟩ ∧ vs[2]? = some (.str f tf) ∧ (file == f) = true
theorem errB_ok {K : Fr} {file x : Str} (c : errB file x K = true) : ErrF K file x := by
  obtain ⟨c1, c⟩ := ba c
  obtain ⟨c2, c⟩ := ba c
  obtain ⟨c3, c⟩ := ba c
  obtain ⟨c4, c⟩ := ba c
  obtain ⟨c5, c⟩ := ba c
  obtain ⟨c6, c⟩ := ba c
  obtain ⟨c7, c⟩ := ba c
  obtain ⟨c8, c⟩ := ba c
  obtain ⟨c9, c⟩ := ba c
  obtain ⟨c10, c⟩ := ba c
  obtain ⟨c11, c⟩ := ba c
  obtain ⟨c12, c⟩ := ba c
  obtain ⟨c13, c⟩ := ba c
  obtain ⟨c14, c⟩ := ba c
  obtain ⟨c15, c16⟩ := ba c
  exact ⟨eqO_ok c1, clsB_ok c2, eqO_ok c3, eqO_ok c4, eqO_ok c5, eqO_ok c6, of_decide_eq_true c7, c8, of_decide_eq_true c9, of_decide_eq_true c10, of_decide_eq_true c11, c12, of_decide_eq_true c13, eqO_ok c14, cellB_ok c15, fileB_ok c16⟩
section
variable {prog : Program} {K : Fr} {mg : Str → Option Value} {h : Heap} {x f : Str} {d : XD}
theorem ErrF.errC (F : ErrF K prog.main.file x) (X : K.In h) (G : h.Ns mainGlobals mg) (tp : PySem.W.nsIn K cStatics "thirdparty.any" = some none) (sg : mg "super" = none) (top : (prog.main.scope.names.lookup ("super" : Str)).isSome = false) :
    PySem.KX.ErrC prog K mg x (ga K x) (xI K x) (xC K x) (xK K x) :=
  { gC := PySem.W.mg_of X G F.gC, cls := F.cls, sa := F.sa, ga := F.ga_, gg := F.gg, iC := F.iC, tC := F.tC, kC := F.kC, exC := F.exC, exV := F.exV, tyC := F.tyC, hdC := F.hdC, mC := F.mC, sup := F.sup, tp := tp, sg := sg, cell := F.cell, code := F.code, top := top }
theorem ErrF.err1 (F : ErrF K prog.main.file d.cls) (X : K.In h) (G : h.Ns mainGlobals mg) (tp : PySem.W.nsIn K cStatics "thirdparty.any" = some none) (sg : mg "super" = none) (top : (prog.main.scope.names.lookup ("super" : Str)).isSome = false)
    (e : xW K d.cls = d.val) (c : d.ok K = true) (no : eqO (PySem.W.findIn K (.ref (ga K d.cls)) f) (some none) = true) (nf : f ≠ "self" ∧ f ≠ "__debug__" ∧ f ≠ "__classdict__" ∧ f ≠ "super" ∧ f ≠ "__class__")
    {msg : Str} {k : Nat} {p1 p2 q0 q1 q2 q3 q4 q5 r0 r1 r2 r3 : Pos} (ha : d.params = PySem.KX.args1 f p1 p2) (hb : d.body = [PySem.KX.supS msg k q0 q1 q2 q3 q4 q5, PySem.KX.fldS f r0 r1 r2 r3]) (hs : d.scope = PySem.KX.scope1 f)
    (hev : ∀ (cda cc : Addr) (q : Str) (L : Addr), PySem.KX.SupEv (PySem.W.ksEnv q (PySem.KX.scope1 f) L (xI K d.cls) (.ref cda) cc) msg k q0 q1 q2 q3 q4) : PySem.KX.Err1 prog K mg d.cls f (ga K d.cls) (xI K d.cls) (xC K d.cls) (xK K d.cls) := by
  obtain ⟨oc, od, doc, pm, an, ct, osl, h1, h2⟩ := XD.fn e c
  rw [ha, hb, hs] at h1
  exact { F.errC X G tp sg top with noN := eqO_ok no, nf := nf, fn := ⟨_, _, _, _, _, _, _, _, _, _, _, _, _, _, _, _, _, _, _, _, _, _, h1, h2, hev _ _⟩ }
theorem ErrF.err0 (F : ErrF K prog.main.file d.cls) (X : K.In h) (G : h.Ns mainGlobals mg) (tp : PySem.W.nsIn K cStatics "thirdparty.any" = some none) (sg : mg "super" = none) (top : (prog.main.scope.names.lookup ("super" : Str)).isSome = false)
    (e : xW K d.cls = d.val) (c : d.ok K = true)
    {msg : Str} {k : Nat} {p1 q0 q1 q2 q3 q4 q5 : Pos} (ha : d.params = PySem.KX.args0 p1) (hb : d.body = [PySem.KX.supS msg k q0 q1 q2 q3 q4 q5]) (hs : d.scope = PySem.KX.scope0)
    (hev : ∀ (cda cc : Addr) (q : Str) (L : Addr), PySem.KX.SupEv (PySem.W.ksEnv q PySem.KX.scope0 L (xI K d.cls) (.ref cda) cc) msg k q0 q1 q2 q3 q4) : PySem.KX.Err0 prog K mg d.cls (ga K d.cls) (xI K d.cls) (xC K d.cls) (xK K d.cls) := by
  obtain ⟨oc, od, doc, pm, an, ct, osl, h1, h2⟩ := XD.fn e c
  rw [ha, hb, hs] at h1
  exact { F.errC X G tp sg top with fn := ⟨_, _, _, _, _, _, _, _, _, _, _, _, _, _, _, _, _, h1, h2, hev _ _⟩ }
def iclB : Bool := eqO (PySem.W.specialIn [] (.builtin "object.__class__") "__get__") (some (some (.builtin "getset_descriptor.__get__"))) && decide (PySem.W.takesIn [] (.builtin "object.__class__") = some true)
def icB (K : Fr) : Bool := eqO (PySem.W.specialIn K (.builtin "object.__class__") "__get__") (some (some (.builtin "getset_descriptor.__get__"))) && decide (PySem.W.takesIn K (.builtin "object.__class__") = some true)
def isB (x : Str) (K : Fr) : Bool := (PySem.W.clsIn K (ga K x)).isSome && (fiB K (ga K x) "__class__" (some (.builtin "object.__class__")) && decide (PySem.W.mroIn K (ga K x) (.type "object") = some true))
theorem ErrF.errI {file : Str} (F : ErrF K file x) (c : isB x K = true) (ic : icB K = true) : L2.ErrI K (ga K x) := by
  obtain ⟨c1, c⟩ := ba c
  obtain ⟨c2, c3⟩ := ba c
  obtain ⟨d1, d2⟩ := ba ic
  exact ⟨c1, F.ga_, F.gg, F.exC, eqO_ok c2, eqO_ok d1, of_decide_eq_true d2, of_decide_eq_true c3⟩
theorem tyR_of (cl : Cls K (ga K x)) (c : isB x K = true) (ic : icB K = true) (o : decide (PySem.W.kitOne K (.ref (ga K x)) (.ref (ga K x)) = some true) = true) (i : decide (PySem.W.kitOne K (.type "int") (.ref (ga K x)) = some false) = true) : KR.TyR K (ga K x) := by
  obtain ⟨c1, c⟩ := ba c
  obtain ⟨c2, c3⟩ := ba c
  obtain ⟨d1, d2⟩ := ba ic
  exact ⟨cl, eqO_ok c2, eqO_ok d1, of_decide_eq_true d2, of_decide_eq_true c3, of_decide_eq_true o, of_decide_eq_true i⟩
theorem fun_of {y qual : Str} {st : Stmt} {a : Addr} {fd : FuncData} (F : FunD K y qual (defArgs st) (defBody st) (defScope st) [] [] a fd) : Fun K y qual st a fd := by
  obtain ⟨⟨oc, od, dV, kV, doc, pm, an, cdv, ct, osl, e, lk, hc, hd, _⟩, kp⟩ := F
  rcases hd with ⟨_, rfl⟩ | ⟨n, _⟩
  · exact ⟨⟨oc, od, kV, doc, pm, an, cdv, ct, osl, e, lk, hc⟩, kp⟩
  · exact absurd rfl n
def biB (y : Str) (id : String) (K : Fr) : Bool := eqO (PySem.W.nsIn K mainGlobals y) (some (some (.builtin id)))
theorem bi_ok {y : Str} {id : String} (X : K.In h) (G : h.Ns mainGlobals mg) (c : biB y id K = true) : mg y = some (.builtin id) := PySem.W.mg_of X G (eqO_ok c)
def intAt (K : Fr) (y : Str) : Int := match PySem.W.nsIn K mainGlobals y with
  | some (some (.int j _)) => j
  | _ => 0
def bigB (y : Str) (m : Nat) (K : Fr) : Bool := match PySem.W.nsIn K mainGlobals y with
  | some (some (.int j _)) => decide ((2 : Int) ^ m ≤ j)
  | _ => false
theorem big_ok {y : Str} {m : Nat} (X : K.In h) (G : h.Ns mainGlobals mg) (c : bigB y m K = true) : (∃ t, mg y = some (.int (intAt K y) t)) ∧ (2 : Int) ^ m ≤ intAt K y := by
  unfold bigB at c
  unfold intAt
  split at c
  · rename_i j t q
    exact ⟨⟨t, PySem.W.mg_of X G q⟩, of_decide_eq_true c⟩
  · cases c
theorem relAll_ints : ∀ {ns : List Int}, (ns.map Dv.int).map (Dv.v K) = ns.map V.int
  | [] => rfl
  | n :: ns => congrArg (V.int n :: ·) (relAll_ints (ns := ns))
theorem tup_ok {y : Str} {ns : List Int} (c : tupB K y (ns.map Dv.int) = true) : ∃ dd its n sl, K.lookup (ga K y) = some ⟨.type "tuple", dd, .seq its n, sl⟩ ∧ its.size ≤ sizeLine ∧ Vals (ns.map V.int) its.toList := by
  unfold tupB at c
  split at c
  · rename_i cl dd its n sl q
    obtain ⟨h1, h2⟩ := ba c
    obtain ⟨h3, h4⟩ := ba h2
    have e : cl = "tuple" := of_decide_eq_true h1
    subst e
    exact ⟨_, _, _, _, q, of_decide_eq_true h3, by rw [← relAll_ints (K := K)]; exact relAll_ok h4⟩
  · cases c
end
def refs1 (o : Obj) : List Addr := match o.data with
  | .func fd => refV fd.code ++ (refV fd.defaults ++ fd.closure.map (·.2))
  | .cls cd => [cd.ns]
  | _ => []
def vals1 (o : Obj) : List Addr := match o.data with
  | .dict es _ => es.toList.flatMap fun e => refV e.val
  | _ => []
def at1 (f : Obj → List Addr) (g : Addr → Option Obj) (as : List Addr) : List Addr := as.flatMap fun a => match g a with
  | some o => f o
  | none => []
def asH (g : Addr → Option Obj) : List Addr := [mainGlobals, cStatics] ++ (at1 vals1 g [mainGlobals] ++ (at1 refs1 g (at1 vals1 g [mainGlobals]) ++ (at1 vals1 g (at1 refs1 g (at1 vals1 g [mainGlobals])) ++ at1 refs1 g (at1 vals1 g (at1 refs1 g (at1 vals1 g [mainGlobals]))))))
def frH (g : Addr → Option Obj) : Fr := frG g (asH g)
abbrev Ex : Type := List (Fr → Bool)
abbrev AlH : Type := Bool × List FnW × List XV
def obsH (ex : Ex) (fn : List DefD) (xs : List XD) (K : Fr) : AlH := ((ex.all fun f => f K) && ((fn.all fun d => d.ok K) && xs.all fun d => d.ok K), fn.map fun d => fnW K d.at_, xs.map fun d => xW K d.cls)
def valH (fn : List DefD) (xs : List XD) : AlH := (true, fn.map DefD.val, xs.map XD.val)
def SaysH (ex : Ex) (fn : List DefD) (xs : List XD) (K : Fr) : Prop := obsH ex fn xs K = valH fn xs
def obsHG (ex : Ex) (fn : List DefD) (xs : List XD) (g : Addr → Option Obj) : AlH := obsH ex fn xs (frH g)
def hookH (ex : Ex) (fn : List DefD) (xs : List XD) : PySem.W.Hook where
  α := AlH
  obs := fun s => obsHG ex fn xs s.heap.get?
  val := fun _ => valH fn xs
  says := fun _ h => ∃ K : PySem.W.Frag, K.In h ∧ SaysH ex fn xs K
  of := fun _ _ e => ⟨_, frG_in, e⟩
  keeps := fun _ _ _ ⟨K, hK, c⟩ k => ⟨K, PySem.W.Frag.In.keeps hK k, c⟩
theorem obsHG_eq {ex : Ex} {fn : List DefD} {xs : List XD} {g : Addr → Option Obj} {s : Shared} (h : ∀ a, g a = s.heap.get? a) : obsHG ex fn xs g = (hookH ex fn xs).obs s := by
  have e : g = s.heap.get? := funext h
  rw [e] <;> rfl
theorem run_parts {α A B : Type} {o : Option α} {f : α → A} {g : α → B} {ob : α → AlH} {a : A} {b : B} {ex : Ex} {fn : List DefD} {xs : List XD} {k : α → Fr} (h1 : o.map (fun x => (f x, g x)) = some (a, b)) (h2 : o.map (fun x => ((fn.all fun d => d.ok (k x)), fn.map fun d => fnW (k x) d.at_)) = some (true, fn.map DefD.val))
    (h3 : o.map (fun x => ((ex.all fun f => f (k x)), (xs.all fun d => d.ok (k x)), xs.map fun d => xW (k x) d.cls)) = some (true, true, xs.map XD.val)) (he : ∀ x, ob x = obsH ex fn xs (k x)) : o.map (fun x => (f x, g x, ob x)) = some (a, b, valH fn xs) := by
  cases o with
  | none => cases h1
  | some x =>
    have e1 : (f x, g x) = (a, b) := Option.some.inj h1
    have e2 : ((fn.all fun d => d.ok (k x)), fn.map fun d => fnW (k x) d.at_) = (true, fn.map DefD.val) := Option.some.inj h2
    have e3 : ((ex.all fun f => f (k x)), (xs.all fun d => d.ok (k x)), xs.map fun d => xW (k x) d.cls) = (true, true, xs.map XD.val) := Option.some.inj h3
    obtain ⟨e11, e12⟩ := Prod.mk.inj e1
    obtain ⟨e21, e22⟩ := Prod.mk.inj e2
    obtain ⟨e31, e3⟩ := Prod.mk.inj e3
    obtain ⟨e32, e33⟩ := Prod.mk.inj e3
    show some (f x, g x, ob x) = _
    rw [e11, e12, he x]
    unfold obsH
    rw [e21, e22, e31, e32, e33]
    rfl
section
variable {ex : Ex} {fn : List DefD} {xs : List XD} {K : Fr}
theorem SaysH.b (c : SaysH ex fn xs K) : (ex.all fun f => f K) = true ∧ (fn.all fun d => d.ok K) = true ∧ (xs.all fun d => d.ok K) = true := by
  obtain ⟨h1, h2⟩ := ba (show ((ex.all fun f => f K) && ((fn.all fun d => d.ok K) && xs.all fun d => d.ok K)) = true from congrArg (fun z : AlH => z.1) c)
  exact ⟨h1, ba h2⟩
theorem SaysH.fact (c : SaysH ex fn xs K) (i : Nat) {f : Fr → Bool} (h : ex[i]? = some f := by rfl) : f K = true := List.all_eq_true.mp c.b.1 f (List.mem_of_getElem? h)
theorem SaysH.def_ (c : SaysH ex fn xs K) (i : Nat) {d : DefD} (h : fn[i]? = some d := by rfl) : ∃ fd, FunD K d.name d.qual d.params d.body d.scope (d.dvs K) (d.kws K) (fAd K d.at_) fd := by
  have e : fn.map (fun d => fnW K d.at_) = fn.map DefD.val := congrArg (fun z : AlH => z.2.1) c
  have e2 : (fn.map fun d => fnW K d.at_)[i]? = (fn.map DefD.val)[i]? := by rw [e]
  rw [List.getElem?_map, List.getElem?_map, h] at e2
  exact DefD.funD (Option.some.inj e2) (List.all_eq_true.mp c.b.2.1 d (List.mem_of_getElem? h))
theorem SaysH.xd (c : SaysH ex fn xs K) (i : Nat) {d : XD} (h : xs[i]? = some d := by rfl) : xW K d.cls = d.val ∧ d.ok K = true := by
  have e : xs.map (fun d => xW K d.cls) = xs.map XD.val := congrArg (fun z : AlH => z.2.2) c
  have e2 : (xs.map fun d => xW K d.cls)[i]? = (xs.map XD.val)[i]? := by rw [e]
  rw [List.getElem?_map, List.getElem?_map, h] at e2
  exact ⟨Option.some.inj e2, List.all_eq_true.mp c.b.2.2 d (List.mem_of_getElem? h)⟩
end
end KH
namespace K9
open PySem PySem.Spec PyProof.Rows L2
def dd_prime_parts : He.DefD := ⟨("prime_parts", none), "prime_parts", "prime_parts", defArgs s_prime_parts, defBody s_prime_parts, defScope s_prime_parts, [], []⟩
def dd_to_ratio : He.DefD := ⟨("to_ratio", none), "to_ratio", "to_ratio", defArgs s_to_ratio, defBody s_to_ratio, defScope s_to_ratio, [], []⟩
def dd_made_ratio : He.DefD := ⟨("made_ratio", none), "made_ratio", "made_ratio", defArgs s_made_ratio, defBody s_made_ratio, defScope s_made_ratio, [], []⟩
def dd_Ratio_init : He.DefD := ⟨("Ratio", some "__init__"), "__init__", "Ratio.__init__", defArgs s_Ratio_init, defBody s_Ratio_init, defScope s_Ratio_init, [.int 1], []⟩
def dd_Ratio_over : He.DefD := ⟨("Ratio", some "over"), "over", "Ratio.over", defArgs s_Ratio_over, defBody s_Ratio_over, defScope s_Ratio_over, [], []⟩
def dd_look_prime : He.DefD := ⟨("look_prime", none), "look_prime", "look_prime", defArgs s_look_prime, defBody s_look_prime, defScope s_look_prime, [], []⟩
def dd_look_range : He.DefD := ⟨("look_range", none), "look_range", "look_range", defArgs s_look_range, defBody s_look_range, defScope s_look_range, [], []⟩
def dd_look_size : He.DefD := ⟨("look_size", none), "look_size", "look_size", defArgs s_look_size, defBody s_look_size, defScope s_look_size, [], []⟩
def dd_look_list : He.DefD := ⟨("look_list", none), "look_list", "look_list", defArgs s_look_list, defBody s_look_list, defScope s_look_list, [], []⟩
def dd_look_each : He.DefD := ⟨("look_each", none), "look_each", "look_each", defArgs s_look_each, defBody s_look_each, defScope s_look_each, [], []⟩
def dd_as_ratio : He.DefD := ⟨("as_ratio", none), "as_ratio", "as_ratio", defArgs s_as_ratio, defBody s_as_ratio, defScope s_as_ratio, [], []⟩
def dd_power : He.DefD := ⟨("power", none), "power", "power", defArgs s_power, defBody s_power, defScope s_power, [], []⟩
def dd_power_mod : He.DefD := ⟨("power_mod", none), "power_mod", "power_mod", defArgs s_power_mod, defBody s_power_mod, defScope s_power_mod, [], []⟩
def dd_inverse_mod : He.DefD := ⟨("inverse_mod", none), "inverse_mod", "inverse_mod", defArgs s_inverse_mod, defBody s_inverse_mod, defScope s_inverse_mod, [], []⟩
def dd_parted : He.DefD := ⟨("parted", none), "parted", "parted", defArgs s_parted, defBody s_parted, defScope s_parted, [], []⟩
def dd_int_depth : He.DefD := ⟨("int_depth", none), "int_depth", "int_depth", defArgs s_int_depth, defBody s_int_depth, defScope s_int_depth, [], []⟩
def dd_depth_of : He.DefD := ⟨("depth_of", none), "depth_of", "depth_of", defArgs s_depth_of, defBody s_depth_of, defScope s_depth_of, [], []⟩
def dd_root_count : He.DefD := ⟨("root_count", none), "root_count", "root_count", defArgs s_root_count, defBody s_root_count, defScope s_root_count, [], []⟩
def dd_sure_depth : He.DefD := ⟨("sure_depth", none), "sure_depth", "sure_depth", defArgs s_sure_depth, defBody s_sure_depth, defScope s_sure_depth, [], []⟩
def dd_unit_residue : He.DefD := ⟨("unit_residue", none), "unit_residue", "unit_residue", defArgs s_unit_residue, defBody s_unit_residue, defScope s_unit_residue, [], []⟩
def dd_unit_agreement : He.DefD := ⟨("unit_agreement", none), "unit_agreement", "unit_agreement", defArgs s_unit_agreement, defBody s_unit_agreement, defScope s_unit_agreement, [], []⟩
def dd_is_power : He.DefD := ⟨("is_power", none), "is_power", "is_power", defArgs s_is_power, defBody s_is_power, defScope s_is_power, [], []⟩
def dd_primes_of : He.DefD := ⟨("primes_of", none), "primes_of", "primes_of", defArgs s_primes_of, defBody s_primes_of, defScope s_primes_of, [], []⟩
def dd_with_two : He.DefD := ⟨("with_two", none), "with_two", "with_two", defArgs s_with_two, defBody s_with_two, defScope s_with_two, [], []⟩
def dd_told_primes : He.DefD := ⟨("told_primes", none), "told_primes", "told_primes", defArgs s_told_primes, defBody s_told_primes, defScope s_told_primes, [], []⟩
def dd_two_term_bars : He.DefD := ⟨("two_term_bars", none), "two_term_bars", "two_term_bars", defArgs s_two_term_bars, defBody s_two_term_bars, defScope s_two_term_bars, [], []⟩
def dd_root : He.DefD := ⟨("_root", none), "_root", "_root", defArgs s_root, defBody s_root, defScope s_root, [], []⟩
def dd_raised : He.DefD := ⟨("_raised", none), "_raised", "_raised", defArgs s_raised, defBody s_raised, defScope s_raised, [], []⟩
def dd_two_term : He.DefD := ⟨("two_term", none), "two_term", "two_term", defArgs s_two_term, defBody s_two_term, defScope s_two_term, [], []⟩
def dd_law_begin : He.DefD := ⟨("_law_begin", none), "_law_begin", "_law_begin", defArgs s_law_begin, defBody s_law_begin, defScope s_law_begin, [], []⟩
def dd_law_draw : He.DefD := ⟨("_law_draw", none), "_law_draw", "_law_draw", defArgs s_law_draw, defBody s_law_draw, defScope s_law_draw, [], []⟩
def dd_law_power : He.DefD := ⟨("_law_power", none), "_law_power", "_law_power", defArgs s_law_power, defBody s_law_power, defScope s_law_power, [], []⟩
def dd_law_depth : He.DefD := ⟨("_law_depth", none), "_law_depth", "_law_depth", defArgs s_law_depth, defBody s_law_depth, defScope s_law_depth, [], []⟩
def dd_law_is : He.DefD := ⟨("_law_is", none), "_law_is", "_law_is", defArgs s_law_is, defBody s_law_is, defScope s_law_is, [], []⟩
def dd_law_alike : He.DefD := ⟨("_law_alike", none), "_law_alike", "_law_alike", defArgs s_law_alike, defBody s_law_alike, defScope s_law_alike, [], []⟩
def dd_law_number : He.DefD := ⟨("_law_number", none), "_law_number", "_law_number", defArgs s_law_number, defBody s_law_number, defScope s_law_number, [], []⟩
def dd_law_inverse : He.DefD := ⟨("_law_inverse", none), "_law_inverse", "_law_inverse", defArgs s_law_inverse, defBody s_law_inverse, defScope s_law_inverse, [], []⟩
def dd_law_call : He.DefD := ⟨("_law_call", none), "_law_call", "_law_call", defArgs s_law_call, defBody s_law_call, defScope s_law_call, [], []⟩
def dd_law_common : He.DefD := ⟨("_law_common", none), "_law_common", "_law_common", defArgs s_law_common, defBody s_law_common, defScope s_law_common, [], []⟩
def dd_law_parts : He.DefD := ⟨("_law_parts", none), "_law_parts", "_law_parts", defArgs s_law_parts, defBody s_law_parts, defScope s_law_parts, [], []⟩
def dd_law_primes : He.DefD := ⟨("_law_primes", none), "_law_primes", "_law_primes", defArgs s_law_primes, defBody s_law_primes, defScope s_law_primes, [], []⟩
def dd_law_solved : He.DefD := ⟨("_law_solved", none), "_law_solved", "_law_solved", defArgs s_law_solved, defBody s_law_solved, defScope s_law_solved, [], []⟩
def dd_law_solves : He.DefD := ⟨("_law_solves", none), "_law_solves", "_law_solves", defArgs s_law_solves, defBody s_law_solves, defScope s_law_solves, [], []⟩
def dd_law_asked : He.DefD := ⟨("_law_asked", none), "_law_asked", "_law_asked", defArgs s_law_asked, defBody s_law_asked, defScope s_law_asked, [], []⟩
def dd_law_drawn : He.DefD := ⟨("_law_drawn", none), "_law_drawn", "_law_drawn", defArgs s_law_drawn, defBody s_law_drawn, defScope s_law_drawn, [], []⟩
def dd_law_same_primes : He.DefD := ⟨("_law_same_primes", none), "_law_same_primes", "_law_same_primes", defArgs s_law_same_primes, defBody s_law_same_primes, defScope s_law_same_primes, [], []⟩
def dd_law_refused : He.DefD := ⟨("_law_refused", none), "_law_refused", "_law_refused", defArgs s_law_refused, defBody s_law_refused, defScope s_law_refused, [], []⟩
def dd_law : He.DefD := ⟨("law", none), "law", "law", defArgs s_law, defBody s_law, defScope s_law, [], []⟩
def fnH : List He.DefD := [dd_prime_parts, dd_to_ratio, dd_made_ratio, dd_Ratio_init, dd_Ratio_over, dd_look_prime, dd_look_range, dd_look_size, dd_look_list, dd_look_each, dd_as_ratio, dd_power, dd_power_mod, dd_inverse_mod, dd_parted, dd_int_depth, dd_depth_of, dd_root_count, dd_sure_depth, dd_unit_residue, dd_unit_agreement, dd_is_power, dd_primes_of, dd_with_two, dd_told_primes, dd_two_term_bars, dd_root, dd_raised, dd_two_term, dd_law_begin, dd_law_draw, dd_law_power, dd_law_depth, dd_law_is, dd_law_alike, dd_law_number, dd_law_inverse, dd_law_call, dd_law_common, dd_law_parts, dd_law_primes, dd_law_solved, dd_law_solves, dd_law_asked, dd_law_drawn, dd_law_same_primes, dd_law_refused, dd_law]
def xd_SizeError : KH.XD := ⟨"SizeError", "SizeError.__init__", defArgs (inClass (topS 4) 0), defBody (inClass (topS 4) 0), defScope (inClass (topS 4) 0)⟩
def xd_RangeError : KH.XD := ⟨"RangeError", "RangeError.__init__", defArgs (inClass (topS 5) 0), defBody (inClass (topS 5) 0), defScope (inClass (topS 5) 0)⟩
def xd_PrimeError : KH.XD := ⟨"PrimeError", "PrimeError.__init__", defArgs (inClass (topS 6) 0), defBody (inClass (topS 6) 0), defScope (inClass (topS 6) 0)⟩
def xd_ZeroError : KH.XD := ⟨"ZeroError", "ZeroError.__init__", defArgs (inClass (topS 7) 0), defBody (inClass (topS 7) 0), defScope (inClass (topS 7) 0)⟩
def xsH : List KH.XD := [xd_SizeError, xd_RangeError, xd_PrimeError, xd_ZeroError]
def exH : KH.Ex := [
  fun K => (He.Fa.glo "prime_parts").ok K,
  fun K => (He.Fa.glo "to_ratio").ok K,
  fun K => (He.Fa.glo "made_ratio").ok K,
  fun K => (He.Fa.glo "look_prime").ok K,
  fun K => (He.Fa.glo "look_range").ok K,
  fun K => (He.Fa.glo "look_size").ok K,
  fun K => (He.Fa.glo "look_list").ok K,
  fun K => (He.Fa.glo "look_each").ok K,
  fun K => (He.Fa.glo "as_ratio").ok K,
  fun K => (He.Fa.glo "power").ok K,
  fun K => (He.Fa.glo "power_mod").ok K,
  fun K => (He.Fa.glo "inverse_mod").ok K,
  fun K => (He.Fa.glo "parted").ok K,
  fun K => (He.Fa.glo "int_depth").ok K,
  fun K => (He.Fa.glo "depth_of").ok K,
  fun K => (He.Fa.glo "root_count").ok K,
  fun K => (He.Fa.glo "sure_depth").ok K,
  fun K => (He.Fa.glo "unit_residue").ok K,
  fun K => (He.Fa.glo "unit_agreement").ok K,
  fun K => (He.Fa.glo "is_power").ok K,
  fun K => (He.Fa.glo "primes_of").ok K,
  fun K => (He.Fa.glo "with_two").ok K,
  fun K => (He.Fa.glo "told_primes").ok K,
  fun K => (He.Fa.glo "two_term_bars").ok K,
  fun K => (He.Fa.glo "_root").ok K,
  fun K => (He.Fa.glo "_raised").ok K,
  fun K => (He.Fa.glo "two_term").ok K,
  fun K => (He.Fa.glo "_law_begin").ok K,
  fun K => (He.Fa.glo "_law_draw").ok K,
  fun K => (He.Fa.glo "_law_power").ok K,
  fun K => (He.Fa.glo "_law_depth").ok K,
  fun K => (He.Fa.glo "_law_is").ok K,
  fun K => (He.Fa.glo "_law_alike").ok K,
  fun K => (He.Fa.glo "_law_number").ok K,
  fun K => (He.Fa.glo "_law_inverse").ok K,
  fun K => (He.Fa.glo "_law_call").ok K,
  fun K => (He.Fa.glo "_law_common").ok K,
  fun K => (He.Fa.glo "_law_parts").ok K,
  fun K => (He.Fa.glo "_law_primes").ok K,
  fun K => (He.Fa.glo "_law_solved").ok K,
  fun K => (He.Fa.glo "_law_solves").ok K,
  fun K => (He.Fa.glo "_law_asked").ok K,
  fun K => (He.Fa.glo "_law_drawn").ok K,
  fun K => (He.Fa.glo "_law_same_primes").ok K,
  fun K => (He.Fa.glo "_law_refused").ok K,
  fun K => (He.Fa.glo "law").ok K,
  fun K => (He.Fa.glo "Ratio").ok K,
  fun K => (He.Fa.cls "Ratio").ok K,
  KH.icB,
  fun K => (He.Fa.mkr "Ratio").ok K,
  fun K => (He.Fa.meth "Ratio" "over").ok K,
  fun K => (He.Fa.noat "Ratio" "num").ok K,
  fun K => (He.Fa.noat "Ratio" "den").ok K,
  KH.isB "Ratio",
  fun K => decide (PySem.W.kitOne K (.ref (He.ga K "Ratio")) (.ref (He.ga K "Ratio")) = some true),
  fun K => decide (PySem.W.kitOne K (.type "int") (.ref (He.ga K "Ratio")) = some false),
  KH.biB "gcd" "math.gcd",
  KH.bigB "MOST" 2000,
  fun K => (He.Fa.free "len").ok K,
  fun K => (He.Fa.free "int").ok K,
  fun K => (He.Fa.free "bool").ok K,
  fun K => (He.Fa.free "tuple").ok K,
  fun K => (He.Fa.free "list").ok K,
  fun K => (He.Fa.free "abs").ok K,
  fun K => (He.Fa.free "isinstance").ok K,
  fun K => (He.Fa.free "all").ok K,
  fun K => (He.Fa.free "range").ok K,
  fun K => (He.Fa.free "sorted").ok K,
  fun K => (He.Fa.free "min").ok K,
  fun K => (He.Fa.free "ValueError").ok K,
  fun K => (He.Fa.int "MOST_PARTED" 1000000000).ok K,
  fun K => (He.Fa.int "LARGEST" 1000000000).ok K,
  fun K => (He.Fa.int "MOST_PRIME" 97).ok K,
  fun K => (He.Fa.int "MOST_EXPONENT_nth" 60).ok K,
  fun K => (He.Fa.int "MOST_EXPONENT_equations" 12).ok K,
  fun K => (He.Fa.glo "SMALL_PRIMES").ok K,
  fun K => He.tupB K "SMALL_PRIMES" (primesL.map He.Dv.int),
  fun K => (He.Fa.glo "PrimedeepError").ok K,
  fun K => (He.Fa.glo "SizeError").ok K,
  fun K => (He.Fa.glo "RangeError").ok K,
  fun K => (He.Fa.glo "PrimeError").ok K,
  fun K => (He.Fa.glo "DepthError").ok K,
  fun K => (He.Fa.glo "ZeroError").ok K,
  fun K => (He.Fa.glo "MixError").ok K,
  fun K => (He.Fa.glo "BarError").ok K,
  fun K => (He.Fa.glo "MonicError").ok K,
  fun K => (He.Fa.glo "RepeatError").ok K,
  fun K => (He.Fa.glo "FieldError").ok K,
  fun K => (He.Fa.glo "EditError").ok K,
  fun K => (He.Fa.glo "TextError").ok K,
  fun K => (He.Fa.glo "HistoryError").ok K,
  fun K => He.eqO (PySem.W.nsIn K cStatics "thirdparty.any") (some none),
  fun K => (He.Fa.free "super").ok K,
  KH.errB PySem.Challenge.pw_primedeep_k89_two_term_everywhere.main.file "SizeError",
  fun K => He.eqO (PySem.W.findIn K (.ref (He.ga K "SizeError")) "count") (some none),
  KH.isB "SizeError",
  fun K => decide (PySem.W.exmOne K (.ref (He.ga K "SizeError")) (.ref (He.ga K "PrimedeepError")) = some true),
  fun K => decide (PySem.W.kitOne K (.ref (He.ga K "SizeError")) (.type "ValueError") = some true),
  fun K => decide (PySem.W.kitOne K (.ref (He.ga K "SizeError")) (.ref (He.ga K "SizeError")) = some true),
  fun K => decide (PySem.W.kitOne K (.ref (He.ga K "SizeError")) (.ref (He.ga K "RangeError")) = some false),
  fun K => decide (PySem.W.kitOne K (.ref (He.ga K "SizeError")) (.ref (He.ga K "PrimeError")) = some false),
  fun K => decide (PySem.W.kitOne K (.ref (He.ga K "SizeError")) (.ref (He.ga K "DepthError")) = some false),
  fun K => decide (PySem.W.kitOne K (.ref (He.ga K "SizeError")) (.ref (He.ga K "ZeroError")) = some false),
  fun K => decide (PySem.W.kitOne K (.ref (He.ga K "SizeError")) (.ref (He.ga K "MixError")) = some false),
  fun K => decide (PySem.W.kitOne K (.ref (He.ga K "SizeError")) (.ref (He.ga K "BarError")) = some false),
  fun K => decide (PySem.W.kitOne K (.ref (He.ga K "SizeError")) (.ref (He.ga K "MonicError")) = some false),
  fun K => decide (PySem.W.kitOne K (.ref (He.ga K "SizeError")) (.ref (He.ga K "RepeatError")) = some false),
  fun K => decide (PySem.W.kitOne K (.ref (He.ga K "SizeError")) (.ref (He.ga K "FieldError")) = some false),
  fun K => decide (PySem.W.kitOne K (.ref (He.ga K "SizeError")) (.ref (He.ga K "EditError")) = some false),
  fun K => decide (PySem.W.kitOne K (.ref (He.ga K "SizeError")) (.ref (He.ga K "TextError")) = some false),
  fun K => decide (PySem.W.kitOne K (.ref (He.ga K "SizeError")) (.ref (He.ga K "HistoryError")) = some false),
  KH.errB PySem.Challenge.pw_primedeep_k89_two_term_everywhere.main.file "RangeError",
  fun K => He.eqO (PySem.W.findIn K (.ref (He.ga K "RangeError")) "number") (some none),
  KH.isB "RangeError",
  fun K => decide (PySem.W.exmOne K (.ref (He.ga K "RangeError")) (.ref (He.ga K "PrimedeepError")) = some true),
  fun K => decide (PySem.W.kitOne K (.ref (He.ga K "RangeError")) (.type "ValueError") = some true),
  fun K => decide (PySem.W.kitOne K (.ref (He.ga K "RangeError")) (.ref (He.ga K "SizeError")) = some false),
  fun K => decide (PySem.W.kitOne K (.ref (He.ga K "RangeError")) (.ref (He.ga K "RangeError")) = some true),
  fun K => decide (PySem.W.kitOne K (.ref (He.ga K "RangeError")) (.ref (He.ga K "PrimeError")) = some false),
  fun K => decide (PySem.W.kitOne K (.ref (He.ga K "RangeError")) (.ref (He.ga K "DepthError")) = some false),
  fun K => decide (PySem.W.kitOne K (.ref (He.ga K "RangeError")) (.ref (He.ga K "ZeroError")) = some false),
  fun K => decide (PySem.W.kitOne K (.ref (He.ga K "RangeError")) (.ref (He.ga K "MixError")) = some false),
  fun K => decide (PySem.W.kitOne K (.ref (He.ga K "RangeError")) (.ref (He.ga K "BarError")) = some false),
  fun K => decide (PySem.W.kitOne K (.ref (He.ga K "RangeError")) (.ref (He.ga K "MonicError")) = some false),
  fun K => decide (PySem.W.kitOne K (.ref (He.ga K "RangeError")) (.ref (He.ga K "RepeatError")) = some false),
  fun K => decide (PySem.W.kitOne K (.ref (He.ga K "RangeError")) (.ref (He.ga K "FieldError")) = some false),
  fun K => decide (PySem.W.kitOne K (.ref (He.ga K "RangeError")) (.ref (He.ga K "EditError")) = some false),
  fun K => decide (PySem.W.kitOne K (.ref (He.ga K "RangeError")) (.ref (He.ga K "TextError")) = some false),
  fun K => decide (PySem.W.kitOne K (.ref (He.ga K "RangeError")) (.ref (He.ga K "HistoryError")) = some false),
  KH.errB PySem.Challenge.pw_primedeep_k89_two_term_everywhere.main.file "PrimeError",
  fun K => He.eqO (PySem.W.findIn K (.ref (He.ga K "PrimeError")) "number") (some none),
  KH.isB "PrimeError",
  fun K => decide (PySem.W.exmOne K (.ref (He.ga K "PrimeError")) (.ref (He.ga K "PrimedeepError")) = some true),
  fun K => decide (PySem.W.kitOne K (.ref (He.ga K "PrimeError")) (.type "ValueError") = some true),
  fun K => decide (PySem.W.kitOne K (.ref (He.ga K "PrimeError")) (.ref (He.ga K "SizeError")) = some false),
  fun K => decide (PySem.W.kitOne K (.ref (He.ga K "PrimeError")) (.ref (He.ga K "RangeError")) = some false),
  fun K => decide (PySem.W.kitOne K (.ref (He.ga K "PrimeError")) (.ref (He.ga K "PrimeError")) = some true),
  fun K => decide (PySem.W.kitOne K (.ref (He.ga K "PrimeError")) (.ref (He.ga K "DepthError")) = some false),
  fun K => decide (PySem.W.kitOne K (.ref (He.ga K "PrimeError")) (.ref (He.ga K "ZeroError")) = some false),
  fun K => decide (PySem.W.kitOne K (.ref (He.ga K "PrimeError")) (.ref (He.ga K "MixError")) = some false),
  fun K => decide (PySem.W.kitOne K (.ref (He.ga K "PrimeError")) (.ref (He.ga K "BarError")) = some false),
  fun K => decide (PySem.W.kitOne K (.ref (He.ga K "PrimeError")) (.ref (He.ga K "MonicError")) = some false),
  fun K => decide (PySem.W.kitOne K (.ref (He.ga K "PrimeError")) (.ref (He.ga K "RepeatError")) = some false),
  fun K => decide (PySem.W.kitOne K (.ref (He.ga K "PrimeError")) (.ref (He.ga K "FieldError")) = some false),
  fun K => decide (PySem.W.kitOne K (.ref (He.ga K "PrimeError")) (.ref (He.ga K "EditError")) = some false),
  fun K => decide (PySem.W.kitOne K (.ref (He.ga K "PrimeError")) (.ref (He.ga K "TextError")) = some false),
  fun K => decide (PySem.W.kitOne K (.ref (He.ga K "PrimeError")) (.ref (He.ga K "HistoryError")) = some false),
  KH.errB PySem.Challenge.pw_primedeep_k89_two_term_everywhere.main.file "ZeroError",
  KH.isB "ZeroError",
  fun K => decide (PySem.W.exmOne K (.ref (He.ga K "ZeroError")) (.ref (He.ga K "PrimedeepError")) = some true),
  fun K => decide (PySem.W.kitOne K (.ref (He.ga K "ZeroError")) (.type "ValueError") = some true),
  fun K => decide (PySem.W.kitOne K (.ref (He.ga K "ZeroError")) (.ref (He.ga K "SizeError")) = some false),
  fun K => decide (PySem.W.kitOne K (.ref (He.ga K "ZeroError")) (.ref (He.ga K "RangeError")) = some false),
  fun K => decide (PySem.W.kitOne K (.ref (He.ga K "ZeroError")) (.ref (He.ga K "PrimeError")) = some false),
  fun K => decide (PySem.W.kitOne K (.ref (He.ga K "ZeroError")) (.ref (He.ga K "DepthError")) = some false),
  fun K => decide (PySem.W.kitOne K (.ref (He.ga K "ZeroError")) (.ref (He.ga K "ZeroError")) = some true),
  fun K => decide (PySem.W.kitOne K (.ref (He.ga K "ZeroError")) (.ref (He.ga K "MixError")) = some false),
  fun K => decide (PySem.W.kitOne K (.ref (He.ga K "ZeroError")) (.ref (He.ga K "BarError")) = some false),
  fun K => decide (PySem.W.kitOne K (.ref (He.ga K "ZeroError")) (.ref (He.ga K "MonicError")) = some false),
  fun K => decide (PySem.W.kitOne K (.ref (He.ga K "ZeroError")) (.ref (He.ga K "RepeatError")) = some false),
  fun K => decide (PySem.W.kitOne K (.ref (He.ga K "ZeroError")) (.ref (He.ga K "FieldError")) = some false),
  fun K => decide (PySem.W.kitOne K (.ref (He.ga K "ZeroError")) (.ref (He.ga K "EditError")) = some false),
  fun K => decide (PySem.W.kitOne K (.ref (He.ga K "ZeroError")) (.ref (He.ga K "TextError")) = some false),
  fun K => decide (PySem.W.kitOne K (.ref (He.ga K "ZeroError")) (.ref (He.ga K "HistoryError")) = some false)]
abbrev RH : PySem.W.OpenRow := PySem.W.OpenLaw.row PySem.Challenge.rw_primedeep_k89_two_term_everywhere
abbrev hkH : PySem.W.Hook := KH.hookH exH fnH xsH
def obH (s : PySem.W.SharedT) : KH.AlH := KH.obsHG exH fnH xsH (HandSHeadRun.getT s)
theorem obH_eq (s : PySem.W.SharedT) : obH s = hkH.obs s.abs := KH.obsHG_eq (HandSHeadRun.getT_eq s)
def nmH0 : List PySem.Str := (["_wall", "__name__", "PrimedeepError", "SizeError", "RangeError", "PrimeError", "ZeroError", "DepthError", "MixError", "FieldError", "RepeatError", "MonicError", "BarError", "HistoryError", "EditError", "TextError", "SMALL_PRIMES", "MOST_PARTED", "prime_parts", "MOST", "MOST_DIGITS", "MOST_CHARACTERS", "to_ratio", "made_ratio", "numeral_end", "Ratio", "look_prime", "look_range", "look_size", "look_list", "look_each", "as_ratio", "power", "power_mod", "inverse_mod", "parted", "int_depth", "depth_of", "MOST_EXPONENT_nth", "root_count"] : List String).map PySem.Str.ofString
def nmH1 : List PySem.Str := (["sure_depth", "unit_residue", "unit_agreement", "is_power", "LARGEST", "MOST_EXPONENT_equations", "MOST_PRIME", "primes_of", "with_two", "told_primes", "two_term_bars", "_root", "_raised", "two_term", "_law_begin", "_law_draw", "_law_power", "_law_depth", "_law_is", "_law_alike", "_law_number", "_law_inverse", "_law_call", "_law_common", "_law_parts", "_law_primes", "_law_solved", "_law_solves", "_law_asked", "_law_drawn", "_law_same_primes", "_law_refused"] : List String).map PySem.Str.ofString
def nmH : List PySem.Str := nmH0 ++ nmH1
abbrev qH : Program := PySem.W.view RH.prog [0, 79]
theorem run1 (w : World) : (HandSHeadRun.wholeF (fun p => HandSHeadRun.stepQ (HandSHeadRun.denQ HandSHeadRun.tabQ) p w) HandSHeadRun.fenceQ 40000 RH.prog).map (fun x => (HandSHeadRun.looksF RH.prog x.1.heap x.2.abs, HandSHeadRun.seenQ qH nmH (importedModules RH.prog.main.body) (fun s => PySem.W.xlAt qH [] s && PySem.W.recOk RH.toRowW.records s) x.2.abs)) = some (true, PySem.W.openGood qH nmH) := by
  kernel_rfl
theorem run2 (w : World) : (HandSHeadRun.wholeF (fun p => HandSHeadRun.stepQ (HandSHeadRun.denQ HandSHeadRun.tabQ) p w) HandSHeadRun.fenceQ 40000 RH.prog).map (fun x => ((fnH.all fun d => d.ok (KH.frH (HandSHeadRun.getT x.2))), fnH.map fun d => He.fnW (KH.frH (HandSHeadRun.getT x.2)) d.at_)) = some (true, fnH.map He.DefD.val) := by
  kernel_rfl
theorem run3 (w : World) : (HandSHeadRun.wholeF (fun p => HandSHeadRun.stepQ (HandSHeadRun.denQ HandSHeadRun.tabQ) p w) HandSHeadRun.fenceQ 40000 RH.prog).map (fun x => ((exH.all fun f => f (KH.frH (HandSHeadRun.getT x.2))), (xsH.all fun d => d.ok (KH.frH (HandSHeadRun.getT x.2))), xsH.map fun d => KH.xW (KH.frH (HandSHeadRun.getT x.2)) d.cls)) = some (true, true, xsH.map KH.XD.val) := by
  kernel_rfl
theorem runH (w : World) : HandSHeadRun.RunEqI RH qH hkH obH 40000 nmH w := by
  unfold HandSHeadRun.RunEqI
  exact KH.run_parts (run1 w) (run2 w) (run3 w) fun x => rfl
end K9
namespace K7
structure Pr (p : Nat) : Prop where
  two : 2 ≤ p
  irr : ∀ d, d ∣ p → d = 1 ∨ d = p
theorem Pr.cop {p a : Nat} (h : Pr p) (ha : ¬ p ∣ a) : Nat.Coprime p a := by
  rcases h.irr (Nat.gcd p a) (Nat.gcd_dvd_left p a) with e | e
  · exact e
  · exact absurd (e ▸ Nat.gcd_dvd_right p a) ha
theorem Pr.mul {p a b : Nat} (h : Pr p) (hd : p ∣ a * b) : p ∣ a ∨ p ∣ b := by
  by_cases ha : p ∣ a
  · exact .inl ha
  · exact .inr (Nat.Coprime.dvd_of_dvd_mul_left (h.cop ha) hd)
theorem Pr.copPow {p a : Nat} (h : Pr p) (ha : ¬ p ∣ a) (k : Nat) : Nat.Coprime (p ^ k) a := Nat.Coprime.pow_left k (h.cop ha)
def vN (p : Nat) (n : Nat) : Nat := if h : 2 ≤ p ∧ 0 < n ∧ n % p = 0 then vN p (n / p) + 1 else 0
termination_by n
decreasing_by exact Nat.div_lt_self h.2.1 h.1
theorem vN_step {p n : Nat} (hp : 2 ≤ p) (hn : 0 < n) (h : n % p = 0) : vN p n = vN p (n / p) + 1 := by
  rw [vN, dif_pos ⟨hp, hn, h⟩]
theorem vN_zero {p n : Nat} (h : n % p ≠ 0) : vN p n = 0 := by
  rw [vN, dif_neg (fun z => h z.2.2)]
theorem vN_mulp {p n : Nat} (hp : 2 ≤ p) (hn : 0 < n) : vN p (p * n) = vN p n + 1 := by
  rw [vN_step hp (Nat.mul_pos (by omega) hn) (Nat.mul_mod_right p n), Nat.mul_div_cancel_left n (by omega)]
theorem vN_pow {p r : Nat} (hp : 2 ≤ p) (hr : 0 < r) : ∀ v, vN p (p ^ v * r) = v + vN p r
  | 0 => by rw [Nat.pow_zero, Nat.one_mul, Nat.zero_add]
  | v + 1 => by
    rw [Nat.pow_succ, Nat.mul_assoc, Nat.mul_comm p r, ← Nat.mul_assoc, Nat.mul_comm _ p, vN_mulp hp (Nat.mul_pos (Nat.pow_pos (by omega)) hr), vN_pow hp hr v]
    omega
theorem vN_form {p : Nat} (hp : 2 ≤ p) : ∀ n, 0 < n → ∃ r, n = p ^ vN p n * r ∧ 0 < r ∧ r % p ≠ 0 := fun n => by
  induction n using Nat.strongRecOn with
  | ind n ih =>
    intro hn
    by_cases h : n % p = 0
    · have hd : n / p < n := Nat.div_lt_self hn hp
      have hpos : 0 < n / p := Nat.div_pos (Nat.le_of_dvd hn (Nat.dvd_of_mod_eq_zero h)) (by omega)
      obtain ⟨r, e, hr, hr2⟩ := ih (n / p) hd hpos
      refine ⟨r, ?_, hr, hr2⟩
      rw [vN_step hp hn h, Nat.pow_succ, Nat.mul_assoc, Nat.mul_comm p r, ← Nat.mul_assoc, ← e]
      exact (Nat.div_mul_cancel (Nat.dvd_of_mod_eq_zero h)).symm
    · exact ⟨n, by rw [vN_zero h, Nat.pow_zero, Nat.one_mul], hn, h⟩
theorem vN_unique {p v r n : Nat} (hp : 2 ≤ p) (e : n = p ^ v * r) (hr : r % p ≠ 0) : vN p n = v := by
  have hr0 : 0 < r := by
    rcases Nat.eq_zero_or_pos r with z | z
    · rw [z, Nat.zero_mod] at hr; exact absurd rfl hr
    · exact z
  rw [e, vN_pow hp hr0, vN_zero hr, Nat.add_zero]
theorem vN_mul {p a b : Nat} (h : Pr p) (ha : 0 < a) (hb : 0 < b) : vN p (a * b) = vN p a + vN p b := by
  obtain ⟨r, e1, r0, r1⟩ := vN_form h.two a ha
  obtain ⟨s, e2, s0, s1⟩ := vN_form h.two b hb
  refine vN_unique h.two (r := r * s) ?_ fun z => ?_
  · rw [Nat.pow_add]
    calc a * b = (p ^ vN p a * r) * (p ^ vN p b * s) := by rw [← e1, ← e2]
      _ = p ^ vN p a * p ^ vN p b * (r * s) := by
        rw [Nat.mul_assoc, Nat.mul_left_comm r, Nat.mul_assoc]
  · rcases h.mul (Nat.dvd_of_mod_eq_zero z) with q | q
    · exact r1 (Nat.mod_eq_zero_of_dvd q)
    · exact s1 (Nat.mod_eq_zero_of_dvd q)
theorem pow_le_vN {p n k : Nat} (hp : 2 ≤ p) (hn : 0 < n) (h : p ^ k ∣ n) : k ≤ vN p n := by
  obtain ⟨c, e⟩ := h
  have hc : 0 < c := by
    rcases Nat.eq_zero_or_pos c with z | z
    · rw [z, Nat.mul_zero] at e; omega
    · exact z
  rw [e, vN_pow hp hc]
  omega
theorem vN_dvd {p n : Nat} (hp : 2 ≤ p) (hn : 0 < n) : p ^ vN p n ∣ n := by
  obtain ⟨r, e, _⟩ := vN_form hp n hn
  exact ⟨r, e⟩
theorem vN_lt_pow {p n : Nat} (hp : 2 ≤ p) (hn : 0 < n) : p ^ vN p n ≤ n := Nat.le_of_dvd hn (vN_dvd hp hn)
def S (p : Nat) : Nat → Nat → Nat
  | 0, _ => 0
  | J + 1, n => n % p + S p J (n / p)
def L (p : Nat) : Nat → Nat → Nat
  | 0, _ => 0
  | J + 1, n => n / p + L p J (n / p)
def C (p : Nat) : Nat → Nat → Nat → Nat → Nat
  | 0, _, _, _ => 0
  | J + 1, a, b, c => (a % p + b % p + c) / p + C p J (a / p) (b / p) ((a % p + b % p + c) / p)
theorem S_zero (p : Nat) : ∀ J, S p J 0 = 0
  | 0 => rfl
  | J + 1 => by rw [S, Nat.zero_mod, Nat.zero_div, S_zero p J]
theorem L_zero (p : Nat) : ∀ J, L p J 0 = 0
  | 0 => rfl
  | J + 1 => by rw [L, Nat.zero_div, L_zero p J]
theorem C_zero {p : Nat} (hp : 2 ≤ p) : ∀ J c, c ≤ 1 → C p J 0 0 c = 0
  | 0, _, _ => rfl
  | J + 1, c, h => by
    have e : (0 % p + 0 % p + c) / p = 0 := by
      rw [Nat.zero_mod, Nat.zero_add]
      exact Nat.div_eq_of_lt (by omega)
    rw [C, e, Nat.zero_div, C_zero hp J 0 (by omega)]
theorem div_lt_pow {p n J : Nat} (hp : 2 ≤ p) (h : n < p ^ (J + 1)) : n / p < p ^ J := by
  rw [Nat.pow_succ] at h
  exact Nat.div_lt_of_lt_mul (by rw [Nat.mul_comm]; exact h)
theorem S_fuel {p : Nat} (hp : 2 ≤ p) : ∀ J n, n < p ^ J → ∀ J', n < p ^ J' → S p J n = S p J' n
  | 0, n, h, J', _ => by
    have e : n = 0 := by rw [Nat.pow_zero] at h; omega
    rw [e, S_zero, S_zero]
  | J + 1, n, h, 0, h' => by
    have e : n = 0 := by rw [Nat.pow_zero] at h'; omega
    rw [e, S_zero, S_zero]
  | J + 1, n, h, J' + 1, h' => by rw [S, S, S_fuel hp J (n / p) (div_lt_pow hp h) J' (div_lt_pow hp h')]
theorem L_fuel {p : Nat} (hp : 2 ≤ p) : ∀ J n, n < p ^ J → ∀ J', n < p ^ J' → L p J n = L p J' n
  | 0, n, h, J', _ => by
    have e : n = 0 := by rw [Nat.pow_zero] at h; omega
    rw [e, L_zero, L_zero]
  | J + 1, n, h, 0, h' => by
    have e : n = 0 := by rw [Nat.pow_zero] at h'; omega
    rw [e, L_zero, L_zero]
  | J + 1, n, h, J' + 1, h' => by rw [L, L, L_fuel hp J (n / p) (div_lt_pow hp h) J' (div_lt_pow hp h')]
theorem carry_le {p a b c : Nat} (hp : 2 ≤ p) (hc : c ≤ 1) : (a % p + b % p + c) / p ≤ 1 := by
  have h1 := Nat.mod_lt a (show p > 0 by omega)
  have h2 := Nat.mod_lt b (show p > 0 by omega)
  have : (a % p + b % p + c) / p < 2 := Nat.div_lt_of_lt_mul (by omega)
  omega
theorem C_fuel {p : Nat} (hp : 2 ≤ p) : ∀ J a b c, c ≤ 1 → a < p ^ J → b < p ^ J → ∀ J', a < p ^ J' → b < p ^ J' → C p J a b c = C p J' a b c
  | 0, a, b, c, hc, ha, hb, J', _, _ => by
    rw [Nat.pow_zero] at ha hb
    have e : a = 0 := by omega
    have e2 : b = 0 := by omega
    rw [e, e2, C_zero hp _ _ hc, C_zero hp _ _ hc]
  | J + 1, a, b, c, hc, ha, hb, 0, h1, h2 => by
    rw [Nat.pow_zero] at h1 h2
    have e : a = 0 := by omega
    have e2 : b = 0 := by omega
    rw [e, e2, C_zero hp _ _ hc, C_zero hp _ _ hc]
  | J + 1, a, b, c, hc, ha, hb, J' + 1, h1, h2 => by
    rw [C, C, C_fuel hp J (a / p) (b / p) _ (carry_le hp hc) (div_lt_pow hp ha) (div_lt_pow hp hb) J' (div_lt_pow hp h1) (div_lt_pow hp h2)]
theorem S_L {p : Nat} (hp : 2 ≤ p) : ∀ J n, n < p ^ J → n = S p J n + (p - 1) * L p J n
  | 0, n, h => by
    rw [Nat.pow_zero] at h
    have e : n = 0 := by omega
    rw [e]; rfl
  | J + 1, n, h => by
    have ih := S_L hp J (n / p) (div_lt_pow hp h)
    have e := Nat.div_add_mod n p
    rw [S, L, Nat.mul_add]
    have e2 : p * (n / p) = (p - 1) * (n / p) + n / p := by
      rw [← Nat.succ_mul]
      congr 1
      omega
    omega
theorem step_sum {p a b c : Nat} (hp : 2 ≤ p) : (a + b + c) % p = (a % p + b % p + c) % p ∧ (a + b + c) / p = a / p + b / p + (a % p + b % p + c) / p := by
  have e1 := Nat.div_add_mod a p
  have e2 := Nat.div_add_mod b p
  have e : a + b + c = (a % p + b % p + c) + p * (a / p + b / p) := by
    rw [Nat.mul_add]
    omega
  constructor
  · rw [e, Nat.add_mul_mod_self_left]
  · rw [e, Nat.add_mul_div_left _ _ (show 0 < p by omega)]
    omega
theorem S_C {p : Nat} (hp : 2 ≤ p) : ∀ J a b c, a + b + c < p ^ J → S p J a + S p J b + c = S p J (a + b + c) + (p - 1) * C p J a b c
  | 0, a, b, c, h => by
    rw [Nat.pow_zero] at h
    have e1 : a = 0 := by omega
    have e2 : b = 0 := by omega
    have e3 : c = 0 := by omega
    rw [e1, e2, e3]; rfl
  | J + 1, a, b, c, h => by
    obtain ⟨m1, m2⟩ := step_sum (a := a) (b := b) (c := c) hp
    have ih := S_C hp J (a / p) (b / p) ((a % p + b % p + c) / p) (by rw [← m2]; exact div_lt_pow hp h)
    rw [← m2] at ih
    rw [S, S, S, C, m1, Nat.mul_add]
    have e := Nat.div_add_mod (a % p + b % p + c) p
    have e2 : p * ((a % p + b % p + c) / p) = (p - 1) * ((a % p + b % p + c) / p) + (a % p + b % p + c) / p := by
      rw [← Nat.succ_mul]
      congr 1
      omega
    omega
theorem L_C {p : Nat} (hp : 2 ≤ p) (J a b : Nat) (h : a + b < p ^ J) : L p J (a + b) = L p J a + L p J b + C p J a b 0 := by
  have h1 := S_L hp J (a + b) h
  have h2 := S_L hp J a (by omega)
  have h3 := S_L hp J b (by omega)
  have h4 := S_C hp J a b 0 h
  rw [Nat.add_zero, Nat.add_zero] at h4
  have e : (p - 1) * L p J (a + b) = (p - 1) * (L p J a + L p J b + C p J a b 0) := by
    rw [Nat.mul_add, Nat.mul_add]
    omega
  exact Nat.eq_of_mul_eq_mul_left (by omega) e
def Cl (p a b : Nat) : Nat → Nat → Nat
  | 0, _ => 0
  | J + 1, s => (if s ≤ a % s + b % s then 1 else 0) + Cl p a b J (s * p)
def cin (p a b k : Nat) : Nat := if p ^ k ≤ a % p ^ k + b % p ^ k then 1 else 0
theorem cin_le (p a b k : Nat) : cin p a b k ≤ 1 := by unfold cin; split <;> omega
theorem cin_next {p a b k : Nat} (hp : 2 ≤ p) : ((a / p ^ k) % p + (b / p ^ k) % p + cin p a b k) / p = cin p a b (k + 1) := by
  have hq : 0 < p ^ k := Nat.pow_pos (by omega)
  have e1 : a % p ^ (k + 1) = a % p ^ k + p ^ k * (a / p ^ k % p) := by rw [Nat.pow_succ, Nat.mod_mul]
  have e2 : b % p ^ (k + 1) = b % p ^ k + p ^ k * (b / p ^ k % p) := by rw [Nat.pow_succ, Nat.mod_mul]
  unfold cin
  rw [e1, e2]
  have l1 := Nat.mod_lt a hq
  have l2 := Nat.mod_lt b hq
  have d1 := Nat.mod_lt (a / p ^ k) (show p > 0 by omega)
  have d2 := Nat.mod_lt (b / p ^ k) (show p > 0 by omega)
  generalize a % p ^ k = x at *
  generalize b % p ^ k = y at *
  generalize a / p ^ k % p = u at *
  generalize b / p ^ k % p = v at *
  have ep : p ^ (k + 1) = p ^ k * p := Nat.pow_succ p k
  rw [ep]
  generalize p ^ k = q at *
  by_cases c : q ≤ x + y
  · rw [if_pos c]
    by_cases d : p ≤ u + v + 1
    · have : q * p ≤ x + q * u + (y + q * v) := by
        have := Nat.mul_le_mul_left q d
        rw [Nat.mul_add, Nat.mul_add, Nat.mul_one] at this
        omega
      rw [if_pos this]
      have e3 : (u + v + 1) / p = 1 := by
        rw [Nat.div_eq_iff (by omega)]; omega
      exact e3
    · have : ¬ q * p ≤ x + q * u + (y + q * v) := by
        have := Nat.mul_le_mul_left q (show u + v + 2 ≤ p by omega)
        rw [Nat.mul_add, Nat.mul_add] at this
        omega
      rw [if_neg this]
      exact Nat.div_eq_of_lt (by omega)
  · rw [if_neg c, Nat.add_zero]
    by_cases d : p ≤ u + v
    · have : q * p ≤ x + q * u + (y + q * v) := by
        have := Nat.mul_le_mul_left q d
        rw [Nat.mul_add] at this
        omega
      rw [if_pos this, Nat.div_eq_iff (by omega)]; omega
    · have : ¬ q * p ≤ x + q * u + (y + q * v) := by
        have := Nat.mul_le_mul_left q (show u + v + 1 ≤ p by omega)
        rw [Nat.mul_add, Nat.mul_add, Nat.mul_one] at this
        omega
      rw [if_neg this]
      exact Nat.div_eq_of_lt (by omega)
theorem C_Cl {p a b : Nat} (hp : 2 ≤ p) : ∀ J k, C p J (a / p ^ k) (b / p ^ k) (cin p a b k) = Cl p a b J (p ^ (k + 1))
  | 0, _ => rfl
  | J + 1, k => by
    rw [C, Cl, cin_next hp]
    have e1 : a / p ^ k / p = a / p ^ (k + 1) := by rw [Nat.div_div_eq_div_mul, Nat.pow_succ]
    have e2 : b / p ^ k / p = b / p ^ (k + 1) := by rw [Nat.div_div_eq_div_mul, Nat.pow_succ]
    rw [e1, e2, C_Cl hp J (k + 1), ← Nat.pow_succ]
    rfl
theorem Cl_C {p a b : Nat} (hp : 2 ≤ p) (J : Nat) : Cl p a b J p = C p J a b 0 := by
  have h := C_Cl (a := a) (b := b) hp J 0
  have e : cin p a b 0 = 0 := by
    unfold cin
    rw [Nat.pow_zero, Nat.mod_one, Nat.mod_one]
    rfl
  rw [e, Nat.pow_zero, Nat.div_one, Nat.div_one, Nat.zero_add, Nat.pow_one] at h
  exact h.symm
def fac : Nat → Nat
  | 0 => 1
  | n + 1 => (n + 1) * fac n
theorem fac_pos : ∀ n, 0 < fac n
  | 0 => Nat.one_pos
  | n + 1 => Nat.mul_pos (Nat.succ_pos n) (fac_pos n)
theorem L_succ {p : Nat} (hp : 2 ≤ p) : ∀ J n, n + 1 < p ^ J → L p J (n + 1) = L p J n + vN p (n + 1)
  | 0, n, h => by rw [Nat.pow_zero] at h; omega
  | J + 1, n, h => by
    rw [L, L]
    by_cases hd : (n + 1) % p = 0
    · have e : (n + 1) / p = n / p + 1 := by
        rw [Nat.succ_div, if_pos (Nat.dvd_of_mod_eq_zero hd)]
      have ih := L_succ hp J (n / p) (by rw [← e]; exact div_lt_pow hp h)
      rw [vN_step hp (Nat.succ_pos n) hd, e, ih]
      omega
    · have e : (n + 1) / p = n / p := by
        rw [Nat.succ_div, if_neg (fun z => hd (Nat.mod_eq_zero_of_dvd z)), Nat.add_zero]
      rw [vN_zero hd, e, Nat.add_zero]
theorem vN_fac {p : Nat} (h : Pr p) (J : Nat) : ∀ n, n < p ^ J → vN p (fac n) = L p J n
  | 0, _ => by
    rw [L_zero]
    exact vN_zero (by
      show 1 % p ≠ 0
      rw [Nat.mod_eq_of_lt h.two]
      exact Nat.one_ne_zero)
  | n + 1, hn => by
    rw [fac, vN_mul h (Nat.succ_pos n) (fac_pos n), vN_fac h J n (by omega), L_succ h.two J n hn]
    exact Nat.add_comm _ _
end K7
namespace K9
open K7
def primesN : List Nat := [2, 3, 5, 7, 11, 13, 17, 19, 23, 29, 31, 37, 41, 43, 47, 53, 59, 61, 67, 71, 73, 79, 83, 89, 97]
def oddP : List Nat := [3, 5, 7, 11, 13, 17, 19, 23, 29, 31, 37, 41, 43, 47, 53, 59, 61, 67, 71, 73, 79, 83, 89, 97]
theorem mem_cases {p : Nat} (h : p ∈ primesN) : p = 2 ∨ p ∈ oddP := by
  have : ∀ q ∈ primesN, q = 2 ∨ q ∈ oddP := by decide
  exact this p h
theorem odd_mem {p : Nat} (h : p ∈ oddP) : p ∈ primesN ∧ p ≠ 2 ∧ 3 ≤ p ∧ p < 98 ∧ p % 2 = 1 := by
  have : ∀ q ∈ oddP, q ∈ primesN ∧ q ≠ 2 ∧ 3 ≤ q ∧ q < 98 ∧ q % 2 = 1 := by decide
  exact this p h
theorem pr_mem {p : Nat} (hp : p ∈ primesN) : Pr p := by
  have h : ∀ p ∈ primesN, 2 ≤ p ∧ p < 98 ∧ ∀ d, d < 98 → p % d = 0 → d = 1 ∨ d = p := by decide +kernel
  obtain ⟨h1, h2, h3⟩ := h p hp
  refine ⟨h1, fun d hd => h3 d ?_ (Nat.mod_eq_zero_of_dvd hd)⟩
  have := Nat.le_of_dvd (by omega) hd
  omega
def pm (p r : Nat) : Nat := r ^ ((p - 1) / 2) % p
def rs (p : Nat) (u : Int) : Nat := (u % (p : Int)).toNat
def nr (p : Nat) (u : Int) : Bool := !(pm p (rs p u) == 1)
theorem pm_tab : ∀ p ∈ oddP, ∀ r, r < p → r ≠ 0 → (pm p r = 1 ∨ pm p r = p - 1) := by decide +kernel
theorem pm_mul (p r s : Nat) : pm p (r * s % p) = pm p r * pm p s % p := by
  unfold pm
  rw [← Nat.pow_mod, Nat.mul_pow, Nat.mul_mod]
theorem rs_lt {p : Nat} (hp : 0 < p) (u : Int) : rs p u < p := by
  unfold rs
  have h1 := Int.emod_nonneg u (show (p : Int) ≠ 0 by omega)
  have h2 := Int.emod_lt_of_pos u (show (0 : Int) < p by omega)
  omega
theorem rs_cast {p : Nat} (hp : 0 < p) (u : Int) : ((rs p u : Nat) : Int) = u % p := by
  unfold rs
  exact Int.toNat_of_nonneg (Int.emod_nonneg u (by omega))
theorem rs_mul {p : Nat} (hp : 0 < p) (u v : Int) : rs p (u * v) = rs p u * rs p v % p := by
  have h : ((rs p (u * v) : Nat) : Int) = ((rs p u * rs p v % p : Nat) : Int) := by
    rw [rs_cast hp, Int.natCast_emod, Int.natCast_mul, rs_cast hp, rs_cast hp, ← Int.mul_emod]
  omega
theorem rs_zero {p : Nat} (hp : 0 < p) {u : Int} (h : ¬ (p : Int) ∣ u) : rs p u ≠ 0 := by
  intro z
  have := rs_cast hp u
  rw [z] at this
  exact h (Int.dvd_of_emod_eq_zero this.symm)
theorem nr_mul {p : Nat} (hp : p ∈ oddP) {u v : Int} (hu : ¬ (p : Int) ∣ u) (hv : ¬ (p : Int) ∣ v) : nr p (u * v) = xor (nr p u) (nr p v) := by
  obtain ⟨_, _, h3, _, _⟩ := odd_mem hp
  have h0 : 0 < p := by omega
  unfold nr
  rw [rs_mul h0, pm_mul]
  have e1 : p % p = 0 := Nat.mod_self p
  have a1 : 1 * 1 % p = 1 := Nat.mod_eq_of_lt (by omega)
  have a2 : 1 * (p - 1) % p = p - 1 := by rw [Nat.one_mul]; exact Nat.mod_eq_of_lt (by omega)
  have a3 : (p - 1) * 1 % p = p - 1 := by rw [Nat.mul_one]; exact Nat.mod_eq_of_lt (by omega)
  have a4 : (p - 1) * (p - 1) % p = 1 := by
    obtain ⟨q, rfl⟩ : ∃ q, p = q + 3 := ⟨p - 3, by omega⟩
    have : (q + 3 - 1) * (q + 3 - 1) = 1 + (q + 3) * (q + 1) := by
      show (q + 2) * (q + 2) = _
      simp only [Nat.mul_add, Nat.add_mul]
      omega
    rw [this, Nat.add_mul_mod_self_left]
    exact Nat.mod_eq_of_lt (by omega)
  have n1 : ((p - 1) == 1) = false := by simp; omega
  rcases pm_tab p hp _ (rs_lt h0 u) (rs_zero h0 hu) with x | x <;> rcases pm_tab p hp _ (rs_lt h0 v) (rs_zero h0 hv) with y | y <;> rw [x, y]
  · rw [a1]; rfl
  · rw [a2, n1]; rfl
  · rw [a3, n1]; rfl
  · rw [a4, n1]; rfl
def e4 (u : Int) : Bool := decide (u % 4 = 3)
def e8 (u : Int) : Bool := decide (u % 8 = 3) || decide (u % 8 = 5)
theorem odd8 {u : Int} (h : ¬ (2 : Int) ∣ u) : u % 8 = 1 ∨ u % 8 = 3 ∨ u % 8 = 5 ∨ u % 8 = 7 := by omega
theorem e4_8 (u : Int) : e4 u = decide (u % 8 = 3 ∨ u % 8 = 7) := by
  unfold e4
  congr 1
  apply propext
  omega
theorem e_mul {u v : Int} (hu : ¬ (2 : Int) ∣ u) (hv : ¬ (2 : Int) ∣ v) : e4 (u * v) = xor (e4 u) (e4 v) ∧ e8 (u * v) = xor (e8 u) (e8 v) := by
  have h := Int.mul_emod u v 8
  rw [e4_8, e4_8, e4_8]
  unfold e8
  rcases odd8 hu with a | a | a | a <;> rcases odd8 hv with b | b | b | b <;> rw [a, b] at h <;> rw [h, a, b] <;> decide
def od (i : Nat) : Bool := i % 2 == 1
theorem od_add (i j : Nat) : od (i + j) = xor (od i) (od j) := by
  unfold od
  rcases Nat.mod_two_eq_zero_or_one i with a | a <;> rcases Nat.mod_two_eq_zero_or_one j with b | b <;> rw [Nat.add_mod, a, b] <;> rfl
def sgB (p i : Nat) (u : Int) (j : Nat) (w : Int) : Bool :=
  if p = 2 then xor (xor (e4 u && e4 w) (od i && e8 w)) (od j && e8 u) else xor (xor (od i && od j && od ((p - 1) / 2)) (nr p u && od j)) (nr p w && od i)
theorem sgB_symm (p i : Nat) (u : Int) (j : Nat) (w : Int) : sgB p i u j w = sgB p j w i u := by
  unfold sgB
  split
  · cases e4 u <;> cases e4 w <;> cases od i <;> cases od j <;> cases e8 u <;> cases e8 w <;> rfl
  · cases od i <;> cases od j <;> cases od ((p - 1) / 2) <;> cases nr p u <;> cases nr p w <;> rfl
theorem sgB_mul {p : Nat} (hp : p ∈ primesN) {i i' j : Nat} {u u' w : Int} (hu : ¬ (p : Int) ∣ u) (hu' : ¬ (p : Int) ∣ u') : sgB p (i + i') (u * u') j w = xor (sgB p i u j w) (sgB p i' u' j w) := by
  unfold sgB
  rcases mem_cases hp with rfl | ho
  · rw [if_pos rfl, if_pos rfl, if_pos rfl, (e_mul hu hu').1, (e_mul hu hu').2, od_add]
    cases e4 u <;> cases e4 u' <;> cases e4 w <;> cases od i <;> cases od i' <;> cases od j <;> cases e8 u <;> cases e8 u' <;> cases e8 w <;> rfl
  · rw [if_neg (odd_mem ho).2.1, if_neg (odd_mem ho).2.1, if_neg (odd_mem ho).2.1, nr_mul ho hu hu', od_add]
    cases od i <;> cases od i' <;> cases od j <;> cases od ((p - 1) / 2) <;> cases nr p u <;> cases nr p u' <;> cases nr p w <;> rfl
def vI (p : Nat) (a : Int) : Nat := vN p a.natAbs
def un (p : Nat) (a : Int) : Int := a / (p : Int) ^ vI p a
theorem form {p : Nat} (hp : 2 ≤ p) {a : Int} (ha : a ≠ 0) : a = (p : Int) ^ vI p a * un p a ∧ ¬ (p : Int) ∣ un p a := by
  have h0 : 0 < a.natAbs := by omega
  have hd : (p : Int) ^ vI p a ∣ a := by
    have := vN_dvd hp h0
    have h2 : ((p ^ vN p a.natAbs : Nat) : Int) ∣ (a.natAbs : Int) := Int.natCast_dvd_natCast.mpr this
    rw [Int.natCast_pow] at h2
    exact Int.dvd_natAbs.mp h2
  have e : a = (p : Int) ^ vI p a * un p a := (Int.mul_ediv_cancel' hd).symm
  refine ⟨e, fun ⟨c, hc⟩ => ?_⟩
  have h3 : p ^ (vI p a + 1) ∣ a.natAbs := by
    have h4 : (p : Int) ^ (vI p a + 1) ∣ a := by
      rw [Int.pow_succ]
      exact ⟨c, by rw [Int.mul_assoc, ← hc]; exact e⟩
    have h5 : ((p ^ (vI p a + 1) : Nat) : Int) ∣ (a.natAbs : Int) := by
      rw [Int.natCast_pow]
      exact Int.dvd_natAbs.mpr h4
    exact Int.natCast_dvd_natCast.mp h5
  have := pow_le_vN hp h0 h3
  unfold vI at this
  omega
theorem form_uniq {p : Nat} (hp : 2 ≤ p) {a u : Int} {i : Nat} (e : a = (p : Int) ^ i * u) (hu : ¬ (p : Int) ∣ u) : vI p a = i ∧ un p a = u := by
  have hv : vI p a = i := by
    refine vN_unique hp (r := u.natAbs) ?_ fun z => hu ?_
    · rw [e, Int.natAbs_mul, Int.natAbs_pow, Int.natAbs_natCast]
    · exact Int.dvd_natAbs.mp (Int.natCast_dvd_natCast.mpr (Nat.dvd_of_mod_eq_zero z))
  refine ⟨hv, ?_⟩
  unfold un
  rw [hv, e]
  exact Int.mul_ediv_cancel_left _ (Int.pow_ne_zero (by omega))
def sg (p : Nat) (a b : Int) : Bool := sgB p (vI p a) (un p a) (vI p b) (un p b)
theorem sg_symm (p : Nat) (a b : Int) : sg p a b = sg p b a := sgB_symm _ _ _ _ _
theorem int_pr {p : Nat} (h : Pr p) {u v : Int} (hu : ¬ (p : Int) ∣ u) (hv : ¬ (p : Int) ∣ v) : ¬ (p : Int) ∣ u * v := by
  intro z
  have h1 : p ∣ u.natAbs * v.natAbs := by
    rw [← Int.natAbs_mul]
    exact Int.natCast_dvd_natCast.mp (Int.dvd_natAbs.mpr z)
  rcases h.mul h1 with q | q
  · exact hu (Int.dvd_natAbs.mp (Int.natCast_dvd_natCast.mpr q))
  · exact hv (Int.dvd_natAbs.mp (Int.natCast_dvd_natCast.mpr q))
theorem form_mul {p : Nat} (hp : p ∈ primesN) {a b : Int} (ha : a ≠ 0) (hb : b ≠ 0) : vI p (a * b) = vI p a + vI p b ∧ un p (a * b) = un p a * un p b := by
  have h := pr_mem hp
  obtain ⟨e1, n1⟩ := form h.two ha
  obtain ⟨e2, n2⟩ := form h.two hb
  refine form_uniq h.two ?_ (int_pr h n1 n2)
  rw [Int.pow_add]
  calc a * b = ((p : Int) ^ vI p a * un p a) * ((p : Int) ^ vI p b * un p b) := by rw [← e1, ← e2]
    _ = _ := by rw [Int.mul_assoc, Int.mul_left_comm (un p a), Int.mul_assoc]
theorem sg_mul {p : Nat} (hp : p ∈ primesN) {a a' b : Int} (ha : a ≠ 0) (ha' : a' ≠ 0) : sg p (a * a') b = xor (sg p a b) (sg p a' b) := by
  have h := pr_mem hp
  unfold sg
  obtain ⟨e1, e2⟩ := form_mul hp ha ha'
  rw [e1, e2]
  exact sgB_mul hp (form h.two ha).2 (form h.two ha').2
theorem sg_units {p : Nat} (hp : p ∈ oddP) {a b : Int} (ha : ¬ (p : Int) ∣ a) (hb : ¬ (p : Int) ∣ b) : sg p a b = false := by
  obtain ⟨h1, h2, h3, _, _⟩ := odd_mem hp
  have f1 := form_uniq (p := p) (i := 0) (by omega) (show a = (p : Int) ^ 0 * a by rw [Int.pow_zero, Int.one_mul]) ha
  have f2 := form_uniq (p := p) (i := 0) (by omega) (show b = (p : Int) ^ 0 * b by rw [Int.pow_zero, Int.one_mul]) hb
  unfold sg sgB
  rw [if_neg h2, f1.1, f2.1]
  cases nr p (un p a) <;> cases nr p (un p b) <;> rfl
def xo : List Bool → Bool
  | [] => false
  | b :: r => xor b (xo r)
theorem xo_xor (f g : Nat → Bool) : ∀ l : List Nat, xo (l.map fun p => xor (f p) (g p)) = xor (xo (l.map f)) (xo (l.map g))
  | [] => rfl
  | a :: l => by
    show xor (xor (f a) (g a)) (xo (l.map fun p => xor (f p) (g p))) = xor (xor (f a) (xo (l.map f))) (xor (g a) (xo (l.map g)))
    rw [xo_xor f g l]
    cases f a <;> cases g a <;> cases xo (l.map f) <;> cases xo (l.map g) <;> rfl
theorem map_eq {f g : Nat → Bool} : ∀ {l : List Nat}, (∀ p ∈ l, f p = g p) → l.map f = l.map g
  | [], _ => rfl
  | a :: l, h => by
    rw [List.map_cons, List.map_cons, h a List.mem_cons_self, map_eq fun p hp => h p (List.mem_cons_of_mem _ hp)]
def ng (a : Int) : Bool := decide (a < 0)
def T (a b : Int) : Bool := xor (ng a && ng b) (xo (primesN.map fun p => sg p a b))
theorem ng_mul {a b : Int} (ha : a ≠ 0) (hb : b ≠ 0) : ng (a * b) = xor (ng a) (ng b) := by
  unfold ng
  rcases Int.lt_or_lt_of_ne ha with x | x <;> rcases Int.lt_or_lt_of_ne hb with y | y
  · have := Int.mul_pos_of_neg_of_neg x y
    rw [decide_eq_false (by omega), decide_eq_true x, decide_eq_true y]; rfl
  · have := Int.mul_neg_of_neg_of_pos x y
    rw [decide_eq_true this, decide_eq_true x, decide_eq_false (by omega)]; rfl
  · have := Int.mul_neg_of_pos_of_neg x y
    rw [decide_eq_true this, decide_eq_false (by omega), decide_eq_true y]; rfl
  · have := Int.mul_pos x y
    rw [decide_eq_false (by omega), decide_eq_false (by omega), decide_eq_false (by omega)]; rfl
theorem T_symm (a b : Int) : T a b = T b a := by
  unfold T
  rw [Bool.and_comm, map_eq (f := fun p => sg p a b) (g := fun p => sg p b a) fun p _ => sg_symm p a b]
theorem T_mul {a a' b : Int} (ha : a ≠ 0) (ha' : a' ≠ 0) : T (a * a') b = xor (T a b) (T a' b) := by
  unfold T
  rw [ng_mul ha ha', map_eq (f := fun p => sg p (a * a') b) (g := fun p => xor (sg p a b) (sg p a' b)) fun p hp => sg_mul hp ha ha', xo_xor]
  cases ng a <;> cases ng a' <;> cases ng b <;> cases xo (primesN.map fun p => sg p a b) <;> cases xo (primesN.map fun p => sg p a' b) <;> rfl
def gens : List Int := [-1, 2, 3, 5, 7, 11, 13, 17, 19, 23, 29, 31, 37, 41, 43, 47, 53, 59, 61, 67, 71, 73, 79, 83, 89, 97]
def gi (p : Nat) (g : Int) : Nat := if g = p then 1 else 0
def gu (p : Nat) (g : Int) : Int := if g = p then 1 else g
theorem g_form {p : Nat} (hp : p ∈ primesN) {g : Int} (hg : g ∈ gens) : vI p g = gi p g ∧ un p g = gu p g := by
  have tab : ∀ p ∈ primesN, ∀ g ∈ gens, g = (p : Int) ^ gi p g * gu p g ∧ gu p g % (p : Int) ≠ 0 := by decide +kernel
  obtain ⟨h1, h2⟩ := tab p hp g hg
  exact form_uniq (pr_mem hp).two h1 fun z => h2 (Int.emod_eq_zero_of_dvd z)
theorem T_tab : ∀ g ∈ gens, ∀ h ∈ gens, xor (ng g && ng h) (xo (primesN.map fun p => sgB p (gi p g) (gu p g) (gi p h) (gu p h))) = false := by decide +kernel
theorem T_gens {g h : Int} (hg : g ∈ gens) (hh : h ∈ gens) : T g h = false := by
  rw [← T_tab g hg h hh]
  unfold T
  rw [map_eq fun p hp => ?_]
  unfold sg
  rw [(g_form hp hg).1, (g_form hp hg).2, (g_form hp hh).1, (g_form hp hh).2]
inductive Sm : Int → Prop
  | one : Sm 1
  | mul {g a : Int} (hg : g ∈ gens) (h : Sm a) : Sm (g * a)
theorem gens_ne {g : Int} (hg : g ∈ gens) : g ≠ 0 := by
  have : ∀ g ∈ gens, g ≠ 0 := by decide
  exact this g hg
theorem Sm.ne {a : Int} (h : Sm a) : a ≠ 0 := by
  induction h with
  | one => decide
  | mul hg _ ih => exact Int.mul_ne_zero (gens_ne hg) ih
theorem T_one (b : Int) : T 1 b = false := by
  have := T_mul (a := 1) (a' := 1) (b := b) (by decide) (by decide)
  rw [Int.one_mul] at this
  cases h : T 1 b with
  | false => rfl
  | true => rw [h] at this; exact this
theorem T_zero {a b : Int} (ha : Sm a) (hb : Sm b) : T a b = false := by
  induction ha with
  | one => exact T_one b
  | mul hg h ih =>
    rename_i g a
    rw [T_mul (gens_ne hg) h.ne, ih]
    have hgb : T g b = false := by
      clear ih h
      induction hb with
      | one => rw [T_symm]; exact T_one g
      | mul hh h2 ih2 =>
        rw [T_symm, T_mul (gens_ne hh) h2.ne, T_symm _ g, T_gens hg hh, T_symm _ g, ih2]
        rfl
    rw [hgb]
    rfl
end K9
namespace K9
open K7
def sqU (p : Nat) (n : Int) : Bool := if p = 2 then decide (n % 8 = 1) else !nr p n
theorem odd_exp (p i j : Nat) (u w : Int) (hp : p ≠ 2) : (((i * j * ((p - 1) / 2) + (if nr p u = true then j else 0)) + (if nr p w = true then i else 0)) % 2 : Nat) = if sgB p i u j w = true then 1 else 0 := by
  unfold sgB od
  rw [if_neg hp]
  generalize (p - 1) / 2 = h
  have e1 : (i * j * h) % 2 = ((i % 2) * (j % 2) % 2) * (h % 2) % 2 := by rw [Nat.mul_mod, Nat.mul_mod i j]
  cases nr p u <;> cases nr p w <;> rcases Nat.mod_two_eq_zero_or_one i with a | a <;> rcases Nat.mod_two_eq_zero_or_one j with b | b <;> rcases Nat.mod_two_eq_zero_or_one h with c | c <;>
    rw [a, b, c] at e1 <;> rw [a, b, c] <;> simp <;> omega
theorem half_par {u : Int} (hu : ¬ (2 : Int) ∣ u) : ((u - 1) / 2) % 2 = if e4 u = true then 1 else 0 := by
  unfold e4
  split
  · rename_i h
    have := of_decide_eq_true h
    omega
  · rename_i h
    have : ¬ u % 4 = 3 := fun z => h (decide_eq_true z)
    omega
theorem sq_par {u : Int} (hu : ¬ (2 : Int) ∣ u) : ((u * u - 1) / 8) % 2 = if e8 u = true then 1 else 0 := by
  obtain ⟨k, r, e, hr⟩ : ∃ k r : Int, u = 8 * k + r ∧ (r = 1 ∨ r = 3 ∨ r = 5 ∨ r = 7) := ⟨u / 8, u % 8, by omega, odd8 hu⟩
  have h8 : u % 8 = r := by omega
  have e2 : u * u - 1 = 8 * (2 * (4 * (k * k) + k * r)) + (r * r - 1) := by
    rw [e]
    have : (8 * k + r) * (8 * k + r) = 64 * (k * k) + 16 * (k * r) + r * r := by
      rw [Int.add_mul, Int.mul_add, Int.mul_add]
      have a1 : 8 * k * (8 * k) = 64 * (k * k) := by rw [Int.mul_assoc, Int.mul_left_comm k, ← Int.mul_assoc]; omega
      have a2 : 8 * k * r = 8 * (k * r) := Int.mul_assoc _ _ _
      have a3 : r * (8 * k) = 8 * (k * r) := by rw [Int.mul_left_comm, Int.mul_comm r k]
      omega
    omega
  generalize 4 * (k * k) + k * r = t at e2
  unfold e8
  rw [e2, h8]
  rcases hr with rfl | rfl | rfl | rfl
  · show (8 * (2 * t) + 0) / 8 % 2 = 0; omega
  · show (8 * (2 * t) + 8) / 8 % 2 = 1; omega
  · show (8 * (2 * t) + 24) / 8 % 2 = 1; omega
  · show (8 * (2 * t) + 48) / 8 % 2 = 0; omega
theorem mul_par (a b : Int) : (a * b) % 2 = (a % 2) * (b % 2) := by
  rw [Int.mul_emod]
  have hh : ∀ z : Int, z % 2 = 0 ∨ z % 2 = 1 := fun z => by omega
  rcases hh a with x | x <;> rcases hh b with y | y <;> rw [x, y] <;> decide
theorem even_exp (i j : Nat) {u w : Int} (hu : ¬ (2 : Int) ∣ u) (hw : ¬ (2 : Int) ∣ w) :
    ((u - 1) / 2 * ((w - 1) / 2) + (i : Int) * ((w * w - 1) / 8) + (j : Int) * ((u * u - 1) / 8)) % 2 = if sgB 2 i u j w = true then 1 else 0 := by
  have h1 := mul_par ((u - 1) / 2) ((w - 1) / 2)
  have h2 := mul_par i ((w * w - 1) / 8)
  have h3 := mul_par j ((u * u - 1) / 8)
  rw [half_par hu, half_par hw] at h1
  rw [sq_par hw] at h2
  rw [sq_par hu] at h3
  have ei : (i : Int) % 2 = if od i = true then 1 else 0 := by
    unfold od
    rcases Nat.mod_two_eq_zero_or_one i with a | a <;> rw [a] <;> simp <;> omega
  have ej : (j : Int) % 2 = if od j = true then 1 else 0 := by
    unfold od
    rcases Nat.mod_two_eq_zero_or_one j with a | a <;> rw [a] <;> simp <;> omega
  rw [ei] at h2
  rw [ej] at h3
  generalize (u - 1) / 2 * ((w - 1) / 2) = A at *
  generalize (i : Int) * ((w * w - 1) / 8) = B at *
  generalize (j : Int) * ((u * u - 1) / 8) = C at *
  unfold sgB
  rw [if_pos rfl]
  clear ei ej
  generalize e4 u = x1 at *
  generalize e4 w = x2 at *
  generalize od i = x3 at *
  generalize od j = x4 at *
  generalize e8 u = x5 at *
  generalize e8 w = x6 at *
  cases x1 <;> cases x2 <;> cases x3 <;> cases x4 <;> cases x5 <;> cases x6 <;> simp at h1 h2 h3 ⊢ <;> omega
def sqs : List (Nat × Nat) := [(0, 0), (4, 0), (1, 1), (9, 1)]
def wlk (a b : Int) : Bool := sqs.any fun x => sqs.any fun y => sqs.any fun z => decide (x.2 + y.2 + z.2 > 0) && decide ((a * x.1 + b * y.1 - z.1) % 16 = 0)
theorem wlk_mod (a b : Int) : wlk a b = wlk (a % 16) (b % 16) := by
  unfold wlk
  congr 1
  funext x
  congr 1
  funext y
  congr 1
  funext z
  congr 2
  apply propext
  have h1 : (a * (x.1 : Int) + b * y.1 - z.1) % 16 = ((a % 16) * (x.1 : Int) + (b % 16) * y.1 - z.1) % 16 := by
    have a1 := Int.mul_emod a x.1 16
    have a2 := Int.mul_emod (a % 16) x.1 16
    rw [Int.emod_emod_of_dvd _ (Int.dvd_refl _)] at a2
    have b1 := Int.mul_emod b y.1 16
    have b2 := Int.mul_emod (b % 16) y.1 16
    rw [Int.emod_emod_of_dvd _ (Int.dvd_refl _)] at b2
    generalize a * (x.1 : Int) = A at *
    generalize b * (y.1 : Int) = B at *
    generalize (a % 16) * (x.1 : Int) = A' at *
    generalize (b % 16) * (y.1 : Int) = B' at *
    omega
  rw [h1]
def r2i (r : Int) : Nat := if r % 2 = 0 then 1 else 0
def r2u (r : Int) : Int := if r % 2 = 0 then r / 2 else r
theorem wlk_tab : ∀ r : Fin 16, r.val % 4 ≠ 0 → ∀ s : Fin 16, s.val % 4 ≠ 0 → wlk (r.val : Int) (s.val : Int) = !sgB 2 (r2i r.val) (r2u r.val) (r2i s.val) (r2u s.val) := by decide +kernel
theorem e_mod8 {u v : Int} (h : u % 8 = v % 8) : e4 u = e4 v ∧ e8 u = e8 v := by
  rw [e4_8, e4_8]
  unfold e8
  rw [h]
  exact ⟨rfl, rfl⟩
theorem sgB_mod8 {i j i' j' : Nat} {u w u' w' : Int} (hi : od i = od i') (hj : od j = od j') (hu : u % 8 = u' % 8) (hw : w % 8 = w' % 8) : sgB 2 i u j w = sgB 2 i' u' j' w' := by
  unfold sgB
  rw [if_pos rfl, if_pos rfl, (e_mod8 hu).1, (e_mod8 hu).2, (e_mod8 hw).1, (e_mod8 hw).2, hi, hj]
theorem two_low {i : Nat} {u : Int} (hi : i < 2) (hu : ¬ (2 : Int) ∣ u) : ((2 : Int) ^ i * u) % 4 ≠ 0 ∧ od (r2i (((2 : Int) ^ i * u) % 16)) = od i ∧ r2u (((2 : Int) ^ i * u) % 16) % 8 = u % 8 := by
  have h : i = 0 ∨ i = 1 := by omega
  rcases h with rfl | rfl
  · rw [Int.pow_zero, Int.one_mul]
    unfold r2i r2u
    rw [if_neg (by omega), if_neg (by omega)]
    exact ⟨by omega, rfl, by omega⟩
  · rw [show (2 : Int) ^ 1 = 2 from rfl]
    unfold r2i r2u
    rw [if_pos (by omega), if_pos (by omega)]
    exact ⟨by omega, rfl, by omega⟩
theorem wlk_sg {i j : Nat} {u w : Int} (hi : i < 2) (hj : j < 2) (hu : ¬ (2 : Int) ∣ u) (hw : ¬ (2 : Int) ∣ w) : wlk ((2 : Int) ^ i * u) ((2 : Int) ^ j * w) = !sgB 2 i u j w := by
  obtain ⟨a1, a2, a3⟩ := two_low hi hu
  obtain ⟨b1, b2, b3⟩ := two_low hj hw
  rw [wlk_mod]
  generalize (2 : Int) ^ i * u = A at *
  generalize (2 : Int) ^ j * w = B at *
  obtain ⟨r, er⟩ : ∃ r : Fin 16, A % 16 = (r.val : Int) := ⟨⟨(A % 16).toNat, by omega⟩, by show A % 16 = ((A % 16).toNat : Int); omega⟩
  obtain ⟨s, es⟩ : ∃ s : Fin 16, B % 16 = (s.val : Int) := ⟨⟨(B % 16).toNat, by omega⟩, by show B % 16 = ((B % 16).toNat : Int); omega⟩
  rw [er] at a2 a3 ⊢
  rw [es] at b2 b3 ⊢
  rw [wlk_tab r (by omega) s (by omega), sgB_mod8 a2 b2 a3 b3]
def tst (p : Nat) (i j : Nat) (u w : Int) : Int := if i = 1 ∧ j = 1 then -u * w else if i = 1 then w else if j = 1 then u else 1
theorem nr_one {p : Nat} (hp : p ∈ oddP) : nr p 1 = false := by
  have : ∀ p ∈ oddP, nr p 1 = false := by decide +kernel
  exact this p hp
theorem nr_neg {p : Nat} (hp : p ∈ oddP) : nr p (-1) = od ((p - 1) / 2) := by
  have : ∀ p ∈ oddP, nr p (-1) = od ((p - 1) / 2) := by decide +kernel
  exact this p hp
theorem one_nd {p : Nat} (hp : 2 ≤ p) : ¬ (p : Int) ∣ 1 := fun z => by
  have := Int.le_of_dvd (by decide) z
  omega
theorem tst_sg {p i j : Nat} {u w : Int} (hp : p ∈ oddP) (hi : i < 2) (hj : j < 2) (hu : ¬ (p : Int) ∣ u) (hw : ¬ (p : Int) ∣ w) : nr p (tst p i j u w) = sgB p i u j w := by
  obtain ⟨_, h2, h3, _, _⟩ := odd_mem hp
  unfold sgB tst
  rw [if_neg h2]
  have h : (i = 0 ∨ i = 1) ∧ (j = 0 ∨ j = 1) := ⟨by omega, by omega⟩
  rcases h with ⟨rfl | rfl, rfl | rfl⟩
  · show nr p 1 = _
    rw [nr_one hp]
    cases nr p u <;> cases nr p w <;> rfl
  · show nr p u = _
    cases nr p u <;> cases nr p w <;> rfl
  · show nr p w = _
    cases nr p u <;> cases nr p w <;> rfl
  · show nr p (-u * w) = _
    have hn : ¬ (p : Int) ∣ -u := fun z => hu (Int.dvd_neg.mp z)
    have e : -u = -1 * u := by omega
    rw [nr_mul hp hn hw, e, nr_mul hp (fun z => one_nd (by omega) (Int.dvd_neg.mp z)) hu, nr_neg hp]
    cases nr p u <;> cases nr p w <;> cases od ((p - 1) / 2) <;> rfl
theorem sq_list {p : Nat} (hp : p ∈ oddP) {u : Int} (hu : ¬ (p : Int) ∣ u) : (u % p) ∈ (List.range (p - 1)).map (fun k : Nat => (((k : Int) + 1) * ((k : Int) + 1)) % p) ↔ nr p u = false := by
  have tab : ∀ p ∈ oddP, ∀ r, r < p → r ≠ 0 → ((List.range (p - 1)).any (fun k => (k + 1) * (k + 1) % p == r)) = (pm p r == 1) := by decide +kernel
  obtain ⟨_, _, h3, _, _⟩ := odd_mem hp
  have h0 : 0 < p := by omega
  have t := tab p hp _ (rs_lt h0 u) (rs_zero h0 hu)
  have hc := rs_cast h0 u
  rw [List.mem_map]
  unfold nr
  constructor
  · rintro ⟨k, hk, e⟩
    have : ((List.range (p - 1)).any (fun k => (k + 1) * (k + 1) % p == rs p u)) = true := by
      rw [List.any_eq_true]
      refine ⟨k, hk, ?_⟩
      rw [beq_iff_eq]
      have e2 : (((k + 1) * (k + 1) % p : Nat) : Int) = (rs p u : Int) := by
        rw [Int.natCast_emod, Int.natCast_mul, hc, ← e]
        rfl
      exact Int.ofNat.inj e2
    rw [t] at this
    rw [this]
    rfl
  · intro h
    have h1 : (pm p (rs p u) == 1) = true := by
      cases z : (pm p (rs p u) == 1) with
      | true => rfl
      | false => rw [z] at h; cases h
    rw [← t, List.any_eq_true] at h1
    obtain ⟨k, hk, e⟩ := h1
    refine ⟨k, hk, ?_⟩
    rw [beq_iff_eq] at e
    rw [← hc, ← e, Int.natCast_emod, Int.natCast_mul]
    rfl
theorem sg_neg {p : Nat} (hp : p ∈ primesN) {a : Int} (ha : a ≠ 0) : sg p a (-a) = false := by
  have h := pr_mem hp
  obtain ⟨e, n⟩ := form h.two ha
  have n2 : ¬ (p : Int) ∣ -un p a := fun z => n (Int.dvd_neg.mp z)
  have f := form_uniq h.two (a := -a) (u := -un p a) (i := vI p a) (by rw [Int.mul_neg, ← e]) n2
  unfold sg
  rw [f.1, f.2]
  unfold sgB
  rcases mem_cases hp with rfl | ho
  · rw [if_pos rfl]
    have n' : ¬ (2 : Int) ∣ un 2 a := n
    have h1 : (e4 (un 2 a) && e4 (-un 2 a)) = false := by
      unfold e4
      rcases odd8 n' with x | x | x | x <;> simp <;> omega
    have h2 : e8 (-un 2 a) = e8 (un 2 a) := by
      unfold e8
      rcases odd8 n' with x | x | x | x
      all_goals
        have y : (-un 2 a) % 8 = 8 - un 2 a % 8 := by omega
        rw [y, x]
        decide
    rw [h1, h2]
    cases od (vI 2 a) <;> cases e8 (un 2 a) <;> rfl
  · have e1 : -un p a = -1 * un p a := by omega
    rw [if_neg (odd_mem ho).2.1, e1, nr_mul ho (fun z => one_nd h.two (Int.dvd_neg.mp z)) n, nr_neg ho]
    cases od (vI p a) <;> cases od ((p - 1) / 2) <;> cases nr p (un p a) <;> rfl
theorem sg_square {p : Nat} (hp : p ∈ primesN) {a b q : Int} (ha : a ≠ 0) (hq : q ≠ 0) : sg p (a * (q * q)) b = sg p a b := by
  rw [sg_mul hp ha (Int.mul_ne_zero hq hq), sg_mul hp hq hq]
  cases sg p a b <;> cases sg p q b <;> rfl
theorem sg_off {p : Nat} (hp : p ∈ primesN) (h2 : p ≠ 2) {a b : Int} (h : ¬ (p : Int) ∣ a * b) : sg p a b = false := by
  have ho := (mem_cases hp).resolve_left h2
  exact sg_units ho (fun z => h (Int.dvd_mul_of_dvd_left z)) (fun z => h (Int.dvd_mul_of_dvd_right z))
end K9
namespace K9
open K7
theorem p_pos {p : Nat} (hp : p ∈ primesN) : (0 : Int) < p := by
  have := (pr_mem hp).two
  omega
theorem pw_pos {p : Nat} (hp : p ∈ primesN) (k : Nat) : (0 : Int) < (p : Int) ^ k := Int.pow_pos (p_pos hp)
theorem pw_dvd {p : Nat} {i k : Nat} (h : i ≤ k) : (p : Int) ^ i ∣ (p : Int) ^ k := ⟨(p : Int) ^ (k - i), by rw [← Int.pow_add]; congr 1; omega⟩
theorem le_vI {p : Nat} (hp : 2 ≤ p) {a : Int} (ha : a ≠ 0) {k : Nat} (h : (p : Int) ^ k ∣ a) : k ≤ vI p a := by
  refine pow_le_vN hp (by omega) ?_
  have h5 : ((p ^ k : Nat) : Int) ∣ (a.natAbs : Int) := by
    rw [Int.natCast_pow]
    exact Int.dvd_natAbs.mpr h
  exact Int.natCast_dvd_natCast.mp h5
theorem vI_dvd {p : Nat} (hp : 2 ≤ p) {a : Int} (ha : a ≠ 0) {k : Nat} (h : k ≤ vI p a) : (p : Int) ^ k ∣ a := by
  have e := (form hp ha).1
  rw [e]
  exact Int.dvd_mul_of_dvd_left (pw_dvd h)
theorem sqU_nd {p : Nat} (hp : p ∈ primesN) {n : Int} (h : sqU p n = true) : ¬ (p : Int) ∣ n := by
  intro z
  unfold sqU at h
  rcases mem_cases hp with rfl | ho
  · rw [if_pos rfl] at h
    have h1 := of_decide_eq_true h
    have z' : (2 : Int) ∣ n := z
    omega
  · rw [if_neg (odd_mem ho).2.1] at h
    have e : rs p n = 0 := by
      unfold rs
      rw [Int.emod_eq_zero_of_dvd z]
      rfl
    have t : ∀ p ∈ oddP, (pm p 0 == 1) = false := by decide
    unfold nr at h
    rw [e, t p ho] at h
    cases h
def s2 (n : Int) : Nat → Int
  | 0 => 1
  | k + 1 => if (s2 n k * s2 n k - n) % 2 ^ (k + 4) ≠ 0 then s2 n k + 2 ^ (k + 2) else s2 n k
theorem s2_root {n : Int} (h : n % 8 = 1) : ∀ k, (2 : Int) ^ (k + 3) ∣ s2 n k * s2 n k - n ∧ s2 n k % 2 = 1
  | 0 => ⟨by show (8 : Int) ∣ 1 * 1 - n; omega, rfl⟩
  | k + 1 => by
    obtain ⟨⟨c, hc⟩, ho⟩ := s2_root h k
    unfold s2
    split
    · rename_i hn
      generalize hr : s2 n k = r at *
      have e4 : (2 : Int) ^ (k + 4) = 2 ^ (k + 2) * 4 := by rw [Int.pow_succ, Int.pow_succ]; omega
      have e3 : (2 : Int) ^ (k + 3) = 2 ^ (k + 2) * 2 := by rw [Int.pow_succ]
      have hodd : c % 2 = 1 := by
        rcases (show c % 2 = 0 ∨ c % 2 = 1 by omega) with z | z
        · exfalso
          apply hn
          have : r * r - n = 2 ^ (k + 4) * (c / 2) := by
            rw [hc, e3, e4]
            have : c = 2 * (c / 2) := by omega
            generalize c / 2 = d at *
            subst this
            rw [Int.mul_assoc, Int.mul_assoc, ← Int.mul_assoc 2 2 d, show (2 * 2 : Int) = 4 from rfl]
          rw [this]
          exact Int.mul_emod_right _ _
        · exact z
      have hk : (2 : Int) ^ (k + 2) = 2 ^ k * 4 := by rw [Int.pow_succ, Int.pow_succ]; omega
      refine ⟨?_, by rw [hk]; omega⟩
      have e : (r + 2 ^ (k + 2)) * (r + 2 ^ (k + 2)) - n = 2 ^ (k + 2) * (2 * c + 2 * r + 2 ^ (k + 2)) := by
        rw [Int.mul_add, Int.add_mul, Int.add_mul, Int.mul_add, Int.mul_add]
        rw [e3] at hc
        have a1 : r * 2 ^ (k + 2) = 2 ^ (k + 2) * r := Int.mul_comm _ _
        have a2 : (2 : Int) ^ (k + 2) * (2 * r) = 2 * (2 ^ (k + 2) * r) := Int.mul_left_comm _ _ _
        have a3 : (2 : Int) ^ (k + 2) * (2 * c) = 2 ^ (k + 2) * 2 * c := (Int.mul_assoc _ _ _).symm
        omega
      have e5 : (2 : Int) ^ (k + 1 + 3) = 2 ^ (k + 2) * 4 := e4
      rw [e, e5]
      obtain ⟨d, hd⟩ : ∃ d, 2 * c + 2 * r + 2 ^ (k + 2) = 4 * d := by
        rw [hk]
        exact ⟨(c + r) / 2 + 2 ^ k, by omega⟩
      rw [hd, ← Int.mul_assoc]
      exact Int.dvd_mul_right _ _
    · rename_i hn
      exact ⟨Int.dvd_of_emod_eq_zero (Decidable.of_not_not hn), ho⟩
theorem s2_more (n : Int) (k : Nat) : ∀ d, (2 : Int) ^ (k + 2) ∣ s2 n (k + d) - s2 n k
  | 0 => by
    show (2 : Int) ^ (k + 2) ∣ s2 n k - s2 n k
    rw [Int.sub_self]
    exact Int.dvd_zero _
  | d + 1 => by
    have ih := s2_more n k d
    have h2 : (2 : Int) ^ (k + 2) ∣ 2 ^ (k + d + 2) := ⟨2 ^ d, by rw [← Int.pow_add]; congr 1; omega⟩
    rw [← Nat.add_assoc]
    show (2 : Int) ^ (k + 2) ∣ (if (s2 n (k + d) * s2 n (k + d) - n) % 2 ^ (k + d + 4) ≠ 0 then s2 n (k + d) + 2 ^ (k + d + 2) else s2 n (k + d)) - s2 n k
    split
    · have e : s2 n (k + d) + 2 ^ (k + d + 2) - s2 n k = (s2 n (k + d) - s2 n k) + 2 ^ (k + d + 2) := by omega
      rw [e]
      exact Int.dvd_add ih h2
    · exact ih
def Tie (p : Nat) (n : Int) (M : Nat) (R : Int) : Prop :=
  if p = 2 then R = s2 n (M - 2) % 2 ^ M else ∃ r0 : Nat, 1 ≤ r0 ∧ (p : Int) ∣ (r0 : Int) * r0 - n ∧ (∀ t : Nat, 1 ≤ t → t < r0 → ¬ (p : Int) ∣ (t : Int) * t - n) ∧ (p : Int) ∣ R - r0
structure IsRoot (p : Nat) (n : Int) (M : Nat) (R : Int) : Prop where
  lo : 0 ≤ R
  hi : R < (p : Int) ^ M
  sq : (p : Int) ^ M ∣ R * R - n
  tie : Tie p n M R
theorem pow_cop {p : Nat} (h : Pr p) {s : Int} (hs : ¬ (p : Int) ∣ s) : ∀ {M : Nat} {t : Int}, (p : Int) ^ M ∣ t * s → (p : Int) ^ M ∣ t := by
  intro M t hd
  have h1 : p ^ M ∣ t.natAbs * s.natAbs := by
    rw [← Int.natAbs_mul]
    have h5 : ((p ^ M : Nat) : Int) ∣ ((t * s).natAbs : Int) := by
      rw [Int.natCast_pow]
      exact Int.dvd_natAbs.mpr hd
    exact Int.natCast_dvd_natCast.mp h5
  have h2 : ¬ p ∣ s.natAbs := fun z => hs (Int.dvd_natAbs.mp (Int.natCast_dvd_natCast.mpr z))
  have h3 := Nat.Coprime.dvd_of_dvd_mul_right (h.copPow h2 M) h1
  have h6 : ((p ^ M : Nat) : Int) ∣ (t.natAbs : Int) := Int.natCast_dvd_natCast.mpr h3
  rw [Int.natCast_pow] at h6
  exact Int.dvd_natAbs.mp h6
theorem root_cut {p : Nat} (hp : p ∈ primesN) {n : Int} (hn : sqU p n = true) {M M' : Nat} {R R' : Int} (hM : 1 ≤ M) (hMM : M ≤ M') (h : IsRoot p n M R) (h' : IsRoot p n M' R') : R' % (p : Int) ^ M = R := by
  have key : (p : Int) ^ M ∣ R' - R := by
    rcases mem_cases hp with rfl | ho
    · have t1 : R = s2 n (M - 2) % 2 ^ M := h.tie
      have t2 : R' = s2 n (M' - 2) % 2 ^ M' := h'.tie
      have d1 : (2 : Int) ^ M ∣ s2 n (M' - 2) - s2 n (M - 2) := by
        rcases Nat.lt_or_ge M 2 with c | c
        · have eM : M = 1 := by omega
          rw [eM]
          have h8 : n % 8 = 1 := by
            unfold sqU at hn
            rw [if_pos rfl] at hn
            exact of_decide_eq_true hn
          have a1 := (s2_root h8 (M' - 2)).2
          have a2 := (s2_root h8 (1 - 2)).2
          show (2 : Int) ∣ _
          omega
        · have := s2_more n (M - 2) (M' - M)
          rw [show M - 2 + (M' - M) = M' - 2 by omega, show M - 2 + 2 = M by omega] at this
          exact this
      have d2 : (2 : Int) ^ M ∣ s2 n (M - 2) - R := by
        rw [t1]
        exact Int.dvd_self_sub_emod
      have d3 : (2 : Int) ^ M ∣ s2 n (M' - 2) - R' := by
        refine Int.dvd_trans (pw_dvd (p := 2) hMM) ?_
        rw [t2]
        exact Int.dvd_self_sub_emod
      have e : R' - R = (s2 n (M' - 2) - s2 n (M - 2)) + (s2 n (M - 2) - R) - (s2 n (M' - 2) - R') := by omega
      show (2 : Int) ^ M ∣ R' - R
      rw [e]
      exact Int.dvd_sub (Int.dvd_add d1 d2) d3
    · obtain ⟨_, h2, h3, _, _⟩ := odd_mem ho
      have t1 := h.tie
      have t2 := h'.tie
      unfold Tie at t1 t2
      rw [if_neg h2] at t1 t2
      obtain ⟨r, r1, r2, r3, r4⟩ := t1
      obtain ⟨q, q1, q2, q3, q4⟩ := t2
      have erq : r = q := by
        rcases Nat.lt_trichotomy r q with c | c | c
        · exact absurd r2 (q3 r r1 c)
        · exact c
        · exact absurd q2 (r3 q q1 c)
      subst erq
      have hnd := sqU_nd hp hn
      have hs : ¬ (p : Int) ∣ R' + R := by
        intro z
        have z1 : (p : Int) ∣ 2 * r := by
          have e : (2 * r : Int) = (R' + R) - (R' - r) - (R - r) := by omega
          rw [e]
          exact Int.dvd_sub (Int.dvd_sub z q4) r4
        have z2 : (p : Int) ∣ r := by
          refine Decidable.by_contra fun hr => ?_
          have h2' : ¬ (p : Int) ∣ 2 := fun z => by
            have := Int.le_of_dvd (by decide) z
            omega
          exact int_pr (pr_mem hp) h2' hr z1
        have z3 : (p : Int) ∣ n := by
          have e : n = (r : Int) * r - ((r : Int) * r - n) := by omega
          rw [e]
          exact Int.dvd_sub (Int.dvd_mul_of_dvd_left z2) r2
        exact hnd z3
      refine pow_cop (pr_mem hp) hs ?_
      have e : (R' - R) * (R' + R) = (R' * R' - n) - (R * R - n) := by
        rw [Int.sub_mul, Int.mul_add, Int.mul_add, Int.mul_comm R R']
        omega
      rw [e]
      exact Int.dvd_sub (Int.dvd_trans (pw_dvd hMM) h'.sq) h.sq
  have e := Int.emod_emod_of_dvd R' (Int.dvd_refl ((p : Int) ^ M))
  obtain ⟨c, hc⟩ := key
  have e2 : R' = R + (p : Int) ^ M * c := by omega
  rw [e2, Int.add_mul_emod_self_left]
  exact Int.emod_eq_of_lt h.lo h.hi
end K9
namespace K9
open K7
def prs (p : Nat) : List (Int × Int) := [(1, 0), (1, 2)] ++ (List.range (p + 1)).map fun k : Nat => ((k : Int), (1 : Int))
def qf (A B : Int) (xy : Int × Int) : Int := A * (xy.1 * xy.1) + B * (xy.2 * xy.2)
structure FirstP (p : Nat) (A B : Int) (xy : Int × Int) : Prop where
  ex : ∃ t : Nat, (prs p)[t]? = some xy ∧ ∀ s, s < t → ∀ z, (prs p)[s]? = some z → sqU p (qf A B z) = false
  sq : sqU p (qf A B xy) = true
theorem FirstP.uniq {p : Nat} {A B : Int} {x y : Int × Int} (h : FirstP p A B x) (k : FirstP p A B y) : x = y := by
  obtain ⟨t, t1, t2⟩ := h.ex
  obtain ⟨s, s1, s2⟩ := k.ex
  rcases Nat.lt_trichotomy t s with c | c | c
  · have := s2 t c x t1
    rw [h.sq] at this
    cases this
  · rw [c, s1] at t1
    exact (Option.some.inj t1).symm
  · have := t2 s c y s1
    rw [k.sq] at this
    cases this
theorem nr_res {p : Nat} {u v : Int} (h : rs p u = rs p v) : nr p u = nr p v := by
  unfold nr
  rw [h]
theorem rs_eq {p : Nat} {u v : Int} (h : u % (p : Int) = v % p) : rs p u = rs p v := by
  unfold rs
  rw [h]
theorem pair_tab : ∀ p ∈ oddP, ∀ r, r < p → pm p r = p - 1 → ∀ s, s < p → pm p s = p - 1 → ((List.range p).any fun k => pm p ((r * (k * k) + s) % p) == 1) = true := by decide +kernel
theorem two_tab : ∀ r : Fin 16, r.val % 4 ≠ 0 → ∀ s : Fin 16, s.val % 4 ≠ 0 → (r.val % 2 = 1 ∨ s.val % 2 = 1) → sgB 2 (r2i r.val) (r2u r.val) (r2i s.val) (r2u s.val) = false →
    ((prs 2).any fun xy => decide (((r.val : Int) * (xy.1 * xy.1) + (s.val : Int) * (xy.2 * xy.2)) % 8 = 1)) = true := by decide +kernel
theorem two_tab2 : ∀ u : Fin 8, u.val % 2 = 1 → ∀ w : Fin 8, w.val % 2 = 1 → sgB 2 1 u.val 1 w.val = false →
    ((prs 2).any fun xy => decide ((2 * (u.val : Int) * (xy.1 * xy.1) - ((u.val : Int) * w.val) * (xy.2 * xy.2)) % 8 = 1)) = true := by decide +kernel
theorem sqU_two {n : Int} (h : n % 8 = 1) : sqU 2 n = true := by
  unfold sqU
  rw [if_pos rfl]
  exact decide_eq_true h
theorem sqU_odd {p : Nat} (hp : p ∈ oddP) {n : Int} (h : nr p n = false) : sqU p n = true := by
  unfold sqU
  rw [if_neg (odd_mem hp).2.1, h]
  rfl
theorem pair_exA {p : Nat} (hp : p ∈ primesN) {i j : Nat} {u w : Int} (hi : i < 2) (hj : j < 2) (hu : ¬ (p : Int) ∣ u) (hw : ¬ (p : Int) ∣ w) (hij : i = 0 ∨ j = 0) (hs : sgB p i u j w = false) :
    ∃ xy ∈ prs p, sqU p (qf ((p : Int) ^ i * u) ((p : Int) ^ j * w) xy) = true := by
  rcases mem_cases hp with rfl | ho
  · obtain ⟨a1, a2, a3⟩ := two_low hi hu
    obtain ⟨b1, b2, b3⟩ := two_low hj hw
    have hodd : ((2 : Int) ^ i * u) % 2 = 1 ∨ ((2 : Int) ^ j * w) % 2 = 1 := by
      have hu' : ¬ (2 : Int) ∣ u := hu
      have hw' : ¬ (2 : Int) ∣ w := hw
      rcases hij with rfl | rfl
      · left; rw [Int.pow_zero]; omega
      · right; rw [Int.pow_zero]; omega
    show ∃ xy ∈ prs 2, sqU 2 (qf ((2 : Int) ^ i * u) ((2 : Int) ^ j * w) xy) = true
    generalize (2 : Int) ^ i * u = A at *
    generalize (2 : Int) ^ j * w = B at *
    obtain ⟨r, er⟩ : ∃ r : Fin 16, A % 16 = (r.val : Int) := ⟨⟨(A % 16).toNat, by omega⟩, by show A % 16 = ((A % 16).toNat : Int); omega⟩
    obtain ⟨s, es⟩ : ∃ s : Fin 16, B % 16 = (s.val : Int) := ⟨⟨(B % 16).toNat, by omega⟩, by show B % 16 = ((B % 16).toNat : Int); omega⟩
    rw [er] at a2 a3
    rw [es] at b2 b3
    have := two_tab r (by omega) s (by omega) (by omega) (by rw [← hs]; exact sgB_mod8 a2 b2 a3 b3)
    rw [List.any_eq_true] at this
    obtain ⟨xy, h1, h2⟩ := this
    have h3 := of_decide_eq_true h2
    refine ⟨xy, h1, sqU_two ?_⟩
    unfold qf
    generalize xy.1 * xy.1 = X at *
    generalize xy.2 * xy.2 = Y at *
    have c1 := Int.mul_emod A X 8
    have c2 := Int.mul_emod (r.val : Int) X 8
    have c3 := Int.mul_emod B Y 8
    have c4 := Int.mul_emod (s.val : Int) Y 8
    rw [show A % 8 = (r.val : Int) % 8 by omega, ← c2] at c1
    rw [show B % 8 = (s.val : Int) % 8 by omega, ← c4] at c3
    rw [Int.add_emod, c1, c3, ← Int.add_emod]
    exact h3
  · obtain ⟨_, h2, h3, _, _⟩ := odd_mem ho
    have m10 : ((1, 0) : Int × Int) ∈ prs p := List.mem_cons_self
    have m01 : ((0, 1) : Int × Int) ∈ prs p := List.mem_append_right _ (List.mem_map.mpr ⟨0, List.mem_range.mpr (by omega), rfl⟩)
    have q10 : qf ((p : Int) ^ i * u) ((p : Int) ^ j * w) (1, 0) = (p : Int) ^ i * u := by
      show (p : Int) ^ i * u * (1 * 1) + (p : Int) ^ j * w * (0 * 0) = _
      rw [Int.mul_one, Int.mul_one, Int.mul_zero, Int.mul_zero, Int.add_zero]
    have q01 : qf ((p : Int) ^ i * u) ((p : Int) ^ j * w) (0, 1) = (p : Int) ^ j * w := by
      show (p : Int) ^ i * u * (0 * 0) + (p : Int) ^ j * w * (1 * 1) = _
      rw [Int.mul_one, Int.mul_one, Int.mul_zero, Int.mul_zero, Int.zero_add]
    unfold sgB at hs
    rw [if_neg h2] at hs
    have hcase : (i = 0 ∨ i = 1) ∧ (j = 0 ∨ j = 1) := ⟨by omega, by omega⟩
    rcases hcase with ⟨rfl | rfl, rfl | rfl⟩
    · cases hu0 : nr p u with
      | false => exact ⟨_, m10, sqU_odd ho (by rw [q10, Int.pow_zero, Int.one_mul]; exact hu0)⟩
      | true =>
        cases hw0 : nr p w with
        | false => exact ⟨_, m01, sqU_odd ho (by rw [q01, Int.pow_zero, Int.one_mul]; exact hw0)⟩
        | true =>
          have h0 : 0 < p := by omega
          have notone : ∀ v : Int, ¬ (p : Int) ∣ v → nr p v = true → pm p (rs p v) = p - 1 := fun v hv h => by
            rcases pm_tab p ho _ (rs_lt h0 v) (rs_zero h0 hv) with z | z
            · unfold nr at h
              rw [z] at h
              cases h
            · exact z
          have := pair_tab p ho _ (rs_lt h0 u) (notone u hu hu0) _ (rs_lt h0 w) (notone w hw hw0)
          rw [List.any_eq_true] at this
          obtain ⟨k, hk, e⟩ := this
          rw [beq_iff_eq] at e
          refine ⟨((k : Int), 1), List.mem_append_right _ (List.mem_map.mpr ⟨k, List.mem_range.mpr (by have := List.mem_range.mp hk; omega), rfl⟩), sqU_odd ho ?_⟩
          have hr : rs p (qf ((p : Int) ^ 0 * u) ((p : Int) ^ 0 * w) ((k : Int), 1)) = (rs p u * (k * k) + rs p w) % p := by
            unfold qf
            show rs p ((p : Int) ^ 0 * u * ((k : Int) * k) + (p : Int) ^ 0 * w * (1 * 1)) = _
            rw [Int.pow_zero, Int.one_mul, Int.one_mul, Int.mul_one, Int.mul_one]
            have h : ((rs p (u * ((k : Int) * k) + w) : Nat) : Int) = (((rs p u * (k * k) + rs p w) % p : Nat) : Int) := by
              rw [rs_cast h0, Int.natCast_emod, Int.natCast_add, Int.natCast_mul, rs_cast h0, rs_cast h0, Int.natCast_mul]
              have h1 : u = u % p + p * (u / p) := by rw [Int.emod_def]; omega
              have h2 : w = w % p + p * (w / p) := by rw [Int.emod_def]; omega
              have h3 : u * ((k : Int) * k) + w = (u % p * ((k : Int) * k) + w % p) + p * (u / p * ((k : Int) * k) + w / p) := by
                rw [Int.mul_add, ← Int.mul_assoc (p : Int)]
                have h4 : u * ((k : Int) * k) = u % p * ((k : Int) * k) + p * (u / p) * ((k : Int) * k) := by rw [← Int.add_mul, ← h1]
                omega
              rw [h3, Int.add_mul_emod_self_left]
            omega
          unfold nr
          rw [hr, e]
          rfl
    · refine ⟨_, m10, sqU_odd ho ?_⟩
      rw [q10, Int.pow_zero, Int.one_mul]
      generalize nr p u = x at *
      generalize nr p w = y at *
      cases x
      · rfl
      · cases y <;> cases hs
    · refine ⟨_, m01, sqU_odd ho ?_⟩
      rw [q01, Int.pow_zero, Int.one_mul]
      generalize nr p u = x at *
      generalize nr p w = y at *
      cases y
      · rfl
      · cases x <;> cases hs
    · omega
theorem pair_exB {p : Nat} (hp : p ∈ primesN) {u w : Int} (hu : ¬ (p : Int) ∣ u) (hw : ¬ (p : Int) ∣ w) (hs : sgB p 1 u 1 w = false) :
    ∃ xy ∈ prs p, sqU p (qf ((p : Int) * u) (-(u * w)) xy) = true := by
  rcases mem_cases hp with rfl | ho
  · have hu' : ¬ (2 : Int) ∣ u := hu
    have hw' : ¬ (2 : Int) ∣ w := hw
    obtain ⟨r, er⟩ : ∃ r : Fin 8, u % 8 = (r.val : Int) := ⟨⟨(u % 8).toNat, by omega⟩, by show u % 8 = ((u % 8).toNat : Int); omega⟩
    obtain ⟨s, es⟩ : ∃ s : Fin 8, w % 8 = (s.val : Int) := ⟨⟨(w % 8).toNat, by omega⟩, by show w % 8 = ((w % 8).toNat : Int); omega⟩
    have := two_tab2 r (by omega) s (by omega) (by rw [← hs]; exact sgB_mod8 rfl rfl (by omega) (by omega))
    rw [List.any_eq_true] at this
    obtain ⟨xy, h1, h2⟩ := this
    have h3 := of_decide_eq_true h2
    refine ⟨xy, h1, sqU_two ?_⟩
    unfold qf
    show ((2 : Int) * u * _ + -(u * w) * _) % 8 = 1
    generalize xy.1 * xy.1 = X at *
    generalize xy.2 * xy.2 = Y at *
    have d1 : (8 : Int) ∣ u - r.val := ⟨u / 8, by omega⟩
    have d2 : (8 : Int) ∣ w - s.val := ⟨w / 8, by omega⟩
    obtain ⟨c1, e1⟩ := d1
    obtain ⟨c2, e2⟩ := d2
    have e3 : u = r.val + 8 * c1 := by omega
    have e4 : w = s.val + 8 * c2 := by omega
    have e5 : (2 : Int) * u * X + -(u * w) * Y = (2 * (r.val : Int) * X - ((r.val : Int) * s.val) * Y) + 8 * (2 * c1 * X - (c1 * s.val + r.val * c2 + 8 * (c1 * c2)) * Y) := by
      rw [e3, e4]
      simp only [Int.add_mul, Int.mul_add, Int.sub_mul, Int.mul_sub, Int.neg_mul, Int.mul_assoc, Int.mul_left_comm _ (8 : Int)]
      omega
    rw [e5, Int.add_mul_emod_self_left]
    exact h3
  · obtain ⟨_, h2, h3, _, _⟩ := odd_mem ho
    refine ⟨(0, 1), List.mem_append_right _ (List.mem_map.mpr ⟨0, List.mem_range.mpr (by omega), rfl⟩), sqU_odd ho ?_⟩
    have e : qf ((p : Int) * u) (-(u * w)) (0, 1) = tst p 1 1 u w := by
      show (p : Int) * u * (0 * 0) + -(u * w) * (1 * 1) = -u * w
      rw [Int.mul_zero, Int.mul_zero, Int.zero_add, Int.mul_one, Int.mul_one, Int.neg_mul]
    rw [e, tst_sg ho (by decide) (by decide) hu hw]
    exact hs
theorem first_ex {p : Nat} {A B : Int} (h : ∃ xy ∈ prs p, sqU p (qf A B xy) = true) : ∃ xy, FirstP p A B xy := by
  have gen : ∀ (l : List (Int × Int)), (∃ xy ∈ l, sqU p (qf A B xy) = true) → ∃ (t : Nat) (xy : Int × Int), l[t]? = some xy ∧ sqU p (qf A B xy) = true ∧ ∀ s, s < t → ∀ z, l[s]? = some z → sqU p (qf A B z) = false := by
    intro l
    induction l with
    | nil => rintro ⟨_, h, _⟩; cases h
    | cons a l ih =>
      rintro ⟨xy, hm, hq⟩
      cases ha : sqU p (qf A B a) with
      | true => exact ⟨0, a, rfl, ha, fun s hs => by omega⟩
      | false =>
        obtain ⟨t, z, h1, h2, h3⟩ := ih ⟨xy, by
          rcases List.mem_cons.mp hm with rfl | hm
          · rw [hq] at ha; cases ha
          · exact hm, hq⟩
        refine ⟨t + 1, z, h1, h2, fun s hs y hy => ?_⟩
        cases s with
        | zero =>
          have : a = y := Option.some.inj hy
          rw [← this]
          exact ha
        | succ s => exact h3 s (by omega) y hy
  obtain ⟨t, xy, h1, h2, h3⟩ := gen _ h
  exact ⟨xy, ⟨t, h1, h3⟩, h2⟩
end K9
namespace K9
open K7
inductive FP (p : Nat) (a b : Int) (M : Nat) : Int → Int → Int → Prop
  | A {x y z : Int} (h : ¬ (p : Int) ∣ a ∨ ¬ (p : Int) ∣ b) (f : FirstP p a b (x, y)) (r : IsRoot p (qf a b (x, y)) M z) : FP p a b M x y z
  | B {x x0 y0 : Int} (ha : (p : Int) ∣ a) (hb : (p : Int) ∣ b) (f : FirstP p a (-(a / p * (b / p))) (x0, y0)) (r : IsRoot p (qf a (-(a / p * (b / p))) (x0, y0)) M x) : FP p a b M x (a / p * y0) (a * x0)
theorem root_unit {p : Nat} (hp : p ∈ primesN) {n : Int} (hn : sqU p n = true) {M : Nat} (hM : 1 ≤ M) {R : Int} (h : IsRoot p n M R) : ¬ (p : Int) ∣ R := by
  intro z
  have h1 : (p : Int) ∣ R * R - n := Int.dvd_trans ⟨(p : Int) ^ (M - 1), by rw [Int.mul_comm, ← Int.pow_succ]; congr 1; omega⟩ h.sq
  have e : n = R * R - (R * R - n) := by omega
  exact sqU_nd hp hn (by rw [e]; exact Int.dvd_sub (Int.dvd_mul_of_dvd_left z) h1)
theorem FP.eq {p : Nat} (hp : p ∈ primesN) {a b : Int} {M : Nat} {x y z : Int} (h : FP p a b M x y z) : (p : Int) ^ M ∣ a * (x * x) + b * (y * y) - z * z := by
  cases h with
  | A _ f r =>
    have := r.sq
    unfold qf at this
    have e : a * (x * x) + b * (y * y) - z * z = -(z * z - (a * (x * x) + b * (y * y))) := by omega
    rw [e]
    exact Int.dvd_neg.mpr this
  | B ha hb f r =>
    rename_i x0 y0
    have hs := r.sq
    unfold qf at hs
    have hp0 := p_pos hp
    obtain ⟨u, rfl⟩ := ha
    obtain ⟨w, rfl⟩ := hb
    rw [Int.mul_ediv_cancel_left _ (by omega), Int.mul_ediv_cancel_left _ (by omega)] at *
    have e : (p : Int) * u * (x * x) + p * w * (u * y0 * (u * y0)) - p * u * x0 * (p * u * x0) = p * u * (x * x - (p * u * ((x0, y0).1 * (x0, y0).1) + -(u * w) * ((x0, y0).2 * (x0, y0).2))) := by
      show _ = p * u * (x * x - (p * u * (x0 * x0) + -(u * w) * (y0 * y0)))
      have e1 : (p : Int) * w * (u * y0 * (u * y0)) = p * u * (u * w * (y0 * y0)) := by
        simp only [Int.mul_assoc, Int.mul_left_comm, Int.mul_comm]
      have e2 : (p : Int) * u * x0 * (p * u * x0) = p * u * (p * u * (x0 * x0)) := by
        simp only [Int.mul_assoc, Int.mul_left_comm, Int.mul_comm]
      rw [e1, e2, Int.neg_mul, Int.mul_sub, Int.mul_add, Int.mul_neg]
      omega
    rw [e]
    exact Int.dvd_mul_of_dvd_right hs
theorem FP.unit {p : Nat} (hp : p ∈ primesN) {a b : Int} {M : Nat} (hM : 1 ≤ M) {x y z : Int} (h : FP p a b M x y z) : ¬ (p : Int) ∣ x ∨ ¬ (p : Int) ∣ z := by
  cases h with
  | A _ f r => exact .inr (root_unit hp f.sq hM r)
  | B _ _ f r => exact .inl (root_unit hp f.sq hM r)
theorem cut_dvd {p : Nat} {M : Nat} {R R' : Int} (h : R' % (p : Int) ^ M = R) : (p : Int) ^ M ∣ R' - R := by
  rw [← h]
  exact Int.dvd_self_sub_emod
theorem FP.cut {p : Nat} (hp : p ∈ primesN) {a b : Int} {M M' : Nat} (hM : 1 ≤ M) (hMM : M ≤ M') {x y z x' y' z' : Int} (h : FP p a b M x y z) (h' : FP p a b M' x' y' z') :
    (p : Int) ^ M ∣ x' - x ∧ (p : Int) ^ M ∣ y' - y ∧ (p : Int) ^ M ∣ z' - z := by
  cases h with
  | A n f r =>
    cases h' with
    | A n' f' r' =>
      have e := f.uniq f'
      have e1 : x = x' := congrArg Prod.fst e
      have e2 : y = y' := congrArg Prod.snd e
      subst e1 e2
      rw [Int.sub_self, Int.sub_self]
      exact ⟨Int.dvd_zero _, Int.dvd_zero _, cut_dvd (root_cut hp f.sq hM hMM r r')⟩
    | B ha hb f' r' => exact absurd ha (n.resolve_right fun q => q hb)
  | B ha hb f r =>
    rename_i x0 y0
    generalize hy : a / p * y0 = yy at *
    generalize hz : a * x0 = zz at *
    cases h' with
    | A n' f' r' => exact absurd ha (n'.resolve_right fun q => q hb)
    | B ha' hb' f' r' =>
      rename_i x1 y1
      have e := f.uniq f'
      have e1 : x0 = x1 := congrArg Prod.fst e
      have e2 : y0 = y1 := congrArg Prod.snd e
      subst e1 e2
      rw [← hy, ← hz, Int.sub_self, Int.sub_self]
      exact ⟨cut_dvd (root_cut hp f.sq hM hMM r r'), Int.dvd_zero _, Int.dvd_zero _⟩
structure Out (p : Nat) (a b : Int) (i j s m : Nat) (o1 o2 o3 : Int) : Prop where
  ex : ∃ (x y z N1 N2 N3 : Int) (D : Nat), FP p (a / (p : Int) ^ (2 * i)) (b / (p : Int) ^ (2 * j)) (m + s) x y z ∧
    N1 = x * (p : Int) ^ (s - i) % (p : Int) ^ (m + s) ∧ N2 = y * (p : Int) ^ (s - j) % (p : Int) ^ (m + s) ∧ N3 = z * (p : Int) ^ s % (p : Int) ^ (m + s) ∧
    (∃ N, (N = N1 ∨ N = N2 ∨ N = N3) ∧ N ≠ 0 ∧ vI p N = D) ∧ (∀ N, (N = N1 ∨ N = N2 ∨ N = N3) → N ≠ 0 → D ≤ vI p N) ∧
    o1 = N1 / (p : Int) ^ D % (p : Int) ^ m ∧ o2 = N2 / (p : Int) ^ D % (p : Int) ^ m ∧ o3 = N3 / (p : Int) ^ D % (p : Int) ^ m
theorem unit_low {p : Nat} (hp : p ∈ primesN) {x : Int} {e W : Nat} (hx : ¬ (p : Int) ∣ x) (he : e < W) : x * (p : Int) ^ e % (p : Int) ^ W ≠ 0 ∧ vI p (x * (p : Int) ^ e % (p : Int) ^ W) = e := by
  have h2 := (pr_mem hp).two
  have e1 : x * (p : Int) ^ e % (p : Int) ^ W = (p : Int) ^ e * (x % (p : Int) ^ (W - e)) := by
    rw [show (p : Int) ^ W = (p : Int) ^ e * (p : Int) ^ (W - e) by rw [← Int.pow_add]; congr 1; omega, Int.mul_comm x, Int.mul_emod_mul_of_pos _ _ (pw_pos hp e)]
  have hn : ¬ (p : Int) ∣ x % (p : Int) ^ (W - e) := by
    intro z
    apply hx
    have e2 : x = x % (p : Int) ^ (W - e) + (p : Int) ^ (W - e) * (x / (p : Int) ^ (W - e)) := by rw [Int.emod_def]; omega
    rw [e2]
    refine Int.dvd_add z (Int.dvd_mul_of_dvd_left ?_)
    exact ⟨(p : Int) ^ (W - e - 1), by rw [Int.mul_comm, ← Int.pow_succ]; congr 1; omega⟩
  refine ⟨?_, ?_⟩
  · rw [e1]
    intro z
    rcases Int.mul_eq_zero.mp z with q | q
    · have := pw_pos hp e; omega
    · rw [q] at hn; exact hn (Int.dvd_zero _)
  · exact (form_uniq h2 e1 hn).1
theorem sq_shift {p : Nat} {A x k : Int} {i e s m : Nat} (hi : i + e = s) : ∃ t, (p : Int) ^ (2 * i) * A * ((x * (p : Int) ^ e + k * (p : Int) ^ (m + s)) * (x * (p : Int) ^ e + k * (p : Int) ^ (m + s))) = A * (x * x) * (p : Int) ^ (2 * s) + (p : Int) ^ (m + 2 * s) * t := by
  refine ⟨A * (x * k * (p : Int) ^ i + x * k * (p : Int) ^ i + k * k * (p : Int) ^ (m + 2 * i)), ?_⟩
  subst hi
  have q1 : (p : Int) ^ (2 * i) = (p : Int) ^ i * (p : Int) ^ i := by rw [← Int.pow_add]; congr 1; omega
  have q2 : (p : Int) ^ (2 * (i + e)) = (p : Int) ^ i * (p : Int) ^ i * ((p : Int) ^ e * (p : Int) ^ e) := by rw [← Int.pow_add, ← Int.pow_add, ← Int.pow_add]; congr 1; omega
  have q3 : (p : Int) ^ (m + (i + e)) = (p : Int) ^ m * ((p : Int) ^ i * (p : Int) ^ e) := by rw [← Int.pow_add, ← Int.pow_add]
  have q4 : (p : Int) ^ (m + 2 * (i + e)) = (p : Int) ^ m * ((p : Int) ^ i * (p : Int) ^ i * ((p : Int) ^ e * (p : Int) ^ e)) := by rw [← Int.pow_add, ← Int.pow_add, ← Int.pow_add, ← Int.pow_add]; congr 1; omega
  have q5 : (p : Int) ^ (m + 2 * i) = (p : Int) ^ m * ((p : Int) ^ i * (p : Int) ^ i) := by rw [← Int.pow_add, ← Int.pow_add]; congr 1; omega
  rw [q1, q2, q3, q4, q5]
  generalize (p : Int) ^ i = I
  generalize (p : Int) ^ e = E
  generalize (p : Int) ^ m = Z
  simp only [Int.mul_add, Int.add_mul, Int.two_mul, Int.mul_assoc, Int.mul_left_comm, Int.mul_comm]
  simp only [Int.add_assoc, Int.add_comm, Int.add_left_comm]
theorem Out.low {p : Nat} (hp : p ∈ primesN) {x z N1 N3 : Int} {i s m D : Nat} (hi : i ≤ s) (hm : 1 ≤ m) (hu : ¬ (p : Int) ∣ x ∨ ¬ (p : Int) ∣ z) (h1 : N1 = x * (p : Int) ^ (s - i) % (p : Int) ^ (m + s)) (h3 : N3 = z * (p : Int) ^ s % (p : Int) ^ (m + s)) (hD1 : N1 ≠ 0 → D ≤ vI p N1) (hD3 : N3 ≠ 0 → D ≤ vI p N3) : D ≤ s := by
  rcases hu with hu | hu
  · have := unit_low hp (e := s - i) (W := m + s) hu (by omega)
    rw [← h1] at this
    have := hD1 this.1
    omega
  · have := unit_low hp (e := s) (W := m + s) hu (by omega)
    rw [← h3] at this
    have := hD3 this.1
    omega
theorem div_of {p : Nat} (hp : p ∈ primesN) {N : Int} {D : Nat} (h : N ≠ 0 → D ≤ vI p N) : N = (p : Int) ^ D * (N / (p : Int) ^ D) := by
  by_cases z : N = 0
  · rw [z, Int.zero_ediv, Int.mul_zero]
  · exact (Int.mul_ediv_cancel' (vI_dvd (pr_mem hp).two z (h z))).symm
theorem Out.right {p : Nat} (hp : p ∈ primesN) {a b : Int} {i j s m : Nat} {o1 o2 o3 : Int} (hi : i ≤ s) (hj : j ≤ s) (hm : 1 ≤ m) (ha : (p : Int) ^ (2 * i) ∣ a) (hb : (p : Int) ^ (2 * j) ∣ b) (h : Out p a b i j s m o1 o2 o3) :
    (0 ≤ o1 ∧ o1 < (p : Int) ^ m) ∧ (0 ≤ o2 ∧ o2 < (p : Int) ^ m) ∧ (0 ≤ o3 ∧ o3 < (p : Int) ^ m) ∧ (p : Int) ^ m ∣ a * (o1 * o1) + b * (o2 * o2) - o3 * o3 ∧ (o1 % p ≠ 0 ∨ o2 % p ≠ 0 ∨ o3 % p ≠ 0) := by
  obtain ⟨x, y, z, N1, N2, N3, D, fp, n1, n2, n3, ⟨N, hN, hN0, hND⟩, hD, e1, e2, e3⟩ := h.ex
  have hpm := pw_pos hp m
  have bd : ∀ o q : Int, o = q % (p : Int) ^ m → 0 ≤ o ∧ o < (p : Int) ^ m := fun o q e => by
    rw [e]
    exact ⟨Int.emod_nonneg _ (by omega), Int.emod_lt_of_pos _ hpm⟩
  refine ⟨bd _ _ e1, bd _ _ e2, bd _ _ e3, ?_, ?_⟩
  · have hDs := Out.low hp hi hm (fp.unit hp (by omega)) n1 n3 (hD N1 (.inl rfl)) (hD N3 (.inr (.inr rfl)))
    have d1 := div_of hp (hD N1 (.inl rfl))
    have d2 := div_of hp (hD N2 (.inr (.inl rfl)))
    have d3 := div_of hp (hD N3 (.inr (.inr rfl)))
    generalize N1 / (p : Int) ^ D = q1 at *
    generalize N2 / (p : Int) ^ D = q2 at *
    generalize N3 / (p : Int) ^ D = q3 at *
    have feq := fp.eq hp
    obtain ⟨A, rfl⟩ := ha
    obtain ⟨B, rfl⟩ := hb
    rw [Int.mul_ediv_cancel_left _ (by have := pw_pos hp (2 * i); omega), Int.mul_ediv_cancel_left _ (by have := pw_pos hp (2 * j); omega)] at feq
    obtain ⟨k1, f1⟩ : ∃ k, N1 = x * (p : Int) ^ (s - i) + k * (p : Int) ^ (m + s) := ⟨-(x * (p : Int) ^ (s - i) / (p : Int) ^ (m + s)), by rw [n1, Int.emod_def, Int.neg_mul, Int.mul_comm ((p : Int) ^ (m + s))]; omega⟩
    obtain ⟨k2, f2⟩ : ∃ k, N2 = y * (p : Int) ^ (s - j) + k * (p : Int) ^ (m + s) := ⟨-(y * (p : Int) ^ (s - j) / (p : Int) ^ (m + s)), by rw [n2, Int.emod_def, Int.neg_mul, Int.mul_comm ((p : Int) ^ (m + s))]; omega⟩
    obtain ⟨k3, f3⟩ : ∃ k, N3 = z * (p : Int) ^ s + k * (p : Int) ^ (m + s) := ⟨-(z * (p : Int) ^ s / (p : Int) ^ (m + s)), by rw [n3, Int.emod_def, Int.neg_mul, Int.mul_comm ((p : Int) ^ (m + s))]; omega⟩
    obtain ⟨t1, g1⟩ := sq_shift (p := p) (A := A) (x := x) (k := k1) (i := i) (e := s - i) (s := s) (m := m) (by omega)
    obtain ⟨t2, g2⟩ := sq_shift (p := p) (A := B) (x := y) (k := k2) (i := j) (e := s - j) (s := s) (m := m) (by omega)
    obtain ⟨t3, g3⟩ := sq_shift (p := p) (A := 1) (x := z) (k := k3) (i := 0) (e := s) (s := s) (m := m) (by omega)
    rw [← f1] at g1
    rw [← f2] at g2
    rw [← f3] at g3
    rw [Nat.mul_zero, Int.pow_zero, Int.one_mul, Int.one_mul, Int.one_mul] at g3
    obtain ⟨c, hc⟩ := feq
    have tot : (p : Int) ^ (2 * i) * A * (N1 * N1) + (p : Int) ^ (2 * j) * B * (N2 * N2) - N3 * N3 = (p : Int) ^ (m + 2 * s) * ((p : Int) ^ s * c + t1 + t2 - t3) := by
      rw [g1, g2, g3]
      have h1 : A * (x * x) * (p : Int) ^ (2 * s) + B * (y * y) * (p : Int) ^ (2 * s) - z * z * (p : Int) ^ (2 * s) = (p : Int) ^ (m + 2 * s) * ((p : Int) ^ s * c) := by
        rw [← Int.add_mul, ← Int.sub_mul, hc, Int.mul_right_comm, ← Int.mul_assoc, ← Int.pow_add, ← Int.pow_add]
        congr 2
        omega
      rw [Int.mul_sub, Int.mul_add, Int.mul_add]
      omega
    have tot2 : (p : Int) ^ (2 * D) * ((p : Int) ^ (2 * i) * A * (q1 * q1) + (p : Int) ^ (2 * j) * B * (q2 * q2) - q3 * q3) = (p : Int) ^ (2 * D) * ((p : Int) ^ m * ((p : Int) ^ (2 * s - 2 * D) * ((p : Int) ^ s * c + t1 + t2 - t3))) := by
      have h2 : (p : Int) ^ (m + 2 * s) = (p : Int) ^ (2 * D) * ((p : Int) ^ m * (p : Int) ^ (2 * s - 2 * D)) := by
        rw [← Int.pow_add, ← Int.pow_add]
        congr 1
        omega
      rw [← Int.mul_assoc ((p : Int) ^ m), ← Int.mul_assoc ((p : Int) ^ (2 * D)), ← h2, ← tot, d1, d2, d3]
      have h3 : (p : Int) ^ (2 * D) = (p : Int) ^ D * (p : Int) ^ D := by rw [← Int.pow_add]; congr 1; omega
      rw [h3]
      generalize (p : Int) ^ D = P
      rw [Int.mul_sub, Int.mul_add]
      have m1 : ∀ K q : Int, P * P * (K * (q * q)) = K * (P * q * (P * q)) := fun K q => by simp only [Int.mul_assoc, Int.mul_left_comm, Int.mul_comm]
      rw [m1, m1]
      have m2 : P * P * (q3 * q3) = P * q3 * (P * q3) := by simp only [Int.mul_assoc, Int.mul_left_comm, Int.mul_comm]
      rw [m2]
    have tot3 := Int.eq_of_mul_eq_mul_left (by have := pw_pos hp (2 * D); omega) tot2
    have dv : (p : Int) ^ m ∣ (p : Int) ^ (2 * i) * A * (q1 * q1) + (p : Int) ^ (2 * j) * B * (q2 * q2) - q3 * q3 := ⟨_, tot3⟩
    have cg : ∀ K q o : Int, o = q % (p : Int) ^ m → (p : Int) ^ m ∣ K * (o * o) - K * (q * q) := fun K q o e => by
      have e4 : q = o + (p : Int) ^ m * (q / (p : Int) ^ m) := by rw [e, Int.emod_def]; omega
      rw [← Int.mul_sub]
      refine Int.dvd_mul_of_dvd_right ?_
      generalize q / (p : Int) ^ m = r at e4
      rw [e4]
      exact ⟨-(2 * o * r + (p : Int) ^ m * (r * r)), by
        rw [Int.mul_neg, Int.mul_add, Int.mul_add, Int.add_mul, Int.add_mul]
        have y1 : (p : Int) ^ m * r * o = o * ((p : Int) ^ m * r) := Int.mul_comm _ _
        have y2 : (p : Int) ^ m * (2 * o * r) = 2 * (o * ((p : Int) ^ m * r)) := by simp only [Int.mul_assoc, Int.mul_left_comm]
        have y3 : (p : Int) ^ m * r * ((p : Int) ^ m * r) = (p : Int) ^ m * ((p : Int) ^ m * (r * r)) := by simp only [Int.mul_assoc, Int.mul_left_comm]
        omega⟩
    have z1 := cg ((p : Int) ^ (2 * i) * A) q1 o1 e1
    have z2 := cg ((p : Int) ^ (2 * j) * B) q2 o2 e2
    have z3 := cg 1 q3 o3 e3
    rw [Int.one_mul, Int.one_mul] at z3
    have fin : (p : Int) ^ (2 * i) * A * (o1 * o1) + (p : Int) ^ (2 * j) * B * (o2 * o2) - o3 * o3 = ((p : Int) ^ (2 * i) * A * (q1 * q1) + (p : Int) ^ (2 * j) * B * (q2 * q2) - q3 * q3) +
        ((p : Int) ^ (2 * i) * A * (o1 * o1) - (p : Int) ^ (2 * i) * A * (q1 * q1)) + ((p : Int) ^ (2 * j) * B * (o2 * o2) - (p : Int) ^ (2 * j) * B * (q2 * q2)) - (o3 * o3 - q3 * q3) := by omega
    rw [fin]
    exact Int.dvd_sub (Int.dvd_add (Int.dvd_add dv z1) z2) z3
  · have hf := form (pr_mem hp).two hN0
    have hq : ¬ (p : Int) ∣ N / (p : Int) ^ D := by
      have : un p N = N / (p : Int) ^ D := by unfold un; rw [hND]
      rw [← this]
      exact hf.2
    have ho : ∀ o : Int, o = N / (p : Int) ^ D % (p : Int) ^ m → o % p ≠ 0 := fun o e z => by
      apply hq
      rw [e, Int.emod_emod_of_dvd _ (⟨(p : Int) ^ (m - 1), by rw [Int.mul_comm, ← Int.pow_succ]; congr 1; omega⟩ : (p : Int) ∣ (p : Int) ^ m)] at z
      exact Int.dvd_of_emod_eq_zero z
    rcases hN with rfl | rfl | rfl
    · exact .inl (ho _ e1)
    · exact .inr (.inl (ho _ e2))
    · exact .inr (.inr (ho _ e3))
theorem Out.far {p : Nat} (hp : p ∈ primesN) {a b : Int} {i j s m m' : Nat} {o1 o2 o3 q1 q2 q3 : Int} (hi : i ≤ s) (hm : 1 ≤ m) (hmm : m ≤ m') (h : Out p a b i j s m o1 o2 o3) (h' : Out p a b i j s m' q1 q2 q3) :
    q1 % (p : Int) ^ m = o1 ∧ q2 % (p : Int) ^ m = o2 ∧ q3 % (p : Int) ^ m = o3 := by
  obtain ⟨x, y, z, N1, N2, N3, D, fp, n1, n2, n3, ⟨N, hN, hN0, hND⟩, hD, e1, e2, e3⟩ := h.ex
  obtain ⟨x', y', z', N1', N2', N3', D', fp', n1', n2', n3', ⟨N', hN', hN0', hND'⟩, hD', e1', e2', e3'⟩ := h'.ex
  have h2 := (pr_mem hp).two
  have hDs := Out.low hp hi hm (fp.unit hp (by omega)) n1 n3 (hD N1 (.inl rfl)) (hD N3 (.inr (.inr rfl)))
  have hDs' := Out.low hp hi (by omega) (fp'.unit hp (by omega)) n1' n3' (hD' N1' (.inl rfl)) (hD' N3' (.inr (.inr rfl)))
  obtain ⟨c1, c2, c3⟩ := fp.cut hp (by omega) (by omega : m + s ≤ m' + s) fp'
  have near : ∀ (x x' : Int) (e : Nat) (n n' : Int), (p : Int) ^ (m + s) ∣ x' - x → n = x * (p : Int) ^ e % (p : Int) ^ (m + s) → n' = x' * (p : Int) ^ e % (p : Int) ^ (m' + s) → n' % (p : Int) ^ (m + s) = n := by
    intro x x' e n n' hd hn hn'
    rw [hn', Int.emod_emod_of_dvd _ (pw_dvd (by omega)), hn]
    obtain ⟨c, hc⟩ := hd
    have : x' = x + (p : Int) ^ (m + s) * c := by omega
    rw [this, Int.add_mul, Int.mul_assoc, Int.add_mul_emod_self_left]
  have r1 := near x x' (s - i) N1 N1' c1 n1 n1'
  have r2 := near y y' (s - j) N2 N2' c2 n2 n2'
  have r3 := near z z' s N3 N3' c3 n3 n3'
  have same : ∀ n n' : Int, n' % (p : Int) ^ (m + s) = n → n ≠ 0 → n' ≠ 0 ∧ vI p n' = vI p n := by
    intro n n' e hn
    have hlt : vI p n < m + s := by
      refine Decidable.by_contra fun c => ?_
      have hd := vI_dvd h2 hn (k := m + s) (by omega)
      have hb := Int.emod_lt_of_pos n' (pw_pos hp (m + s))
      have hb0 := Int.emod_nonneg n' (show (p : Int) ^ (m + s) ≠ 0 by have := pw_pos hp (m + s); omega)
      rw [e] at hb hb0
      have := Int.le_of_dvd (by omega) hd
      omega
    obtain ⟨f1, f2⟩ := form h2 hn
    have e4 : n' = (p : Int) ^ vI p n * (un p n + (p : Int) ^ (m + s - vI p n) * (n' / (p : Int) ^ (m + s))) := by
      rw [Int.mul_add, ← f1, ← Int.mul_assoc, ← Int.pow_add, show vI p n + (m + s - vI p n) = m + s by omega]
      rw [Int.emod_def] at e
      omega
    have hnd : ¬ (p : Int) ∣ un p n + (p : Int) ^ (m + s - vI p n) * (n' / (p : Int) ^ (m + s)) := by
      intro z
      apply f2
      have h6 : (p : Int) ∣ (p : Int) ^ (m + s - vI p n) * (n' / (p : Int) ^ (m + s)) := Int.dvd_mul_of_dvd_left ⟨(p : Int) ^ (m + s - vI p n - 1), by rw [Int.mul_comm, ← Int.pow_succ]; congr 1; omega⟩
      have h7 := Int.dvd_sub z h6
      rw [Int.add_sub_cancel] at h7
      exact h7
    refine ⟨fun z => ?_, (form_uniq h2 e4 hnd).1⟩
    rw [z, Int.zero_emod] at e
    exact hn e.symm
  have zero : ∀ n n' : Int, n' % (p : Int) ^ (m + s) = n → n = 0 → n' ≠ 0 → m + s ≤ vI p n' := fun n n' e hn hn' => le_vI h2 hn' (Int.dvd_of_emod_eq_zero (e.trans hn))
  have hDD : D = D' := by
    have l1 : D' ≤ D := by
      rcases hN with rfl | rfl | rfl
      · obtain ⟨u, v⟩ := same _ _ r1 hN0
        have := hD' N1' (.inl rfl) u
        omega
      · obtain ⟨u, v⟩ := same _ _ r2 hN0
        have := hD' N2' (.inr (.inl rfl)) u
        omega
      · obtain ⟨u, v⟩ := same _ _ r3 hN0
        have := hD' N3' (.inr (.inr rfl)) u
        omega
    have l2 : D ≤ D' := by
      have go : ∀ n n' : Int, n' % (p : Int) ^ (m + s) = n → n' ≠ 0 → vI p n' = D' → (n ≠ 0 → D ≤ vI p n) → D ≤ D' := fun n n' e hn' hv hd => by
        by_cases c : n = 0
        · have := zero n n' e c hn'
          omega
        · have := hd c
          have := (same n n' e c).2
          omega
      rcases hN' with rfl | rfl | rfl
      · exact go _ _ r1 hN0' hND' (hD N1 (.inl rfl))
      · exact go _ _ r2 hN0' hND' (hD N2 (.inr (.inl rfl)))
      · exact go _ _ r3 hN0' hND' (hD N3 (.inr (.inr rfl)))
    omega
  subst hDD
  have fin : ∀ n n' q o : Int, n' % (p : Int) ^ (m + s) = n → (n ≠ 0 → D ≤ vI p n) → q = n' / (p : Int) ^ D % (p : Int) ^ m' → o = n / (p : Int) ^ D % (p : Int) ^ m → q % (p : Int) ^ m = o := by
    intro n n' q o e hd eq eo
    rw [eq, Int.emod_emod_of_dvd _ (pw_dvd hmm), eo]
    have d1 := div_of hp hd
    have e4 : n' = (p : Int) ^ D * (n / (p : Int) ^ D + (p : Int) ^ m * ((p : Int) ^ (s - D) * (n' / (p : Int) ^ (m + s)))) := by
      rw [Int.mul_add, ← d1, ← Int.mul_assoc ((p : Int) ^ m), ← Int.pow_add, ← Int.mul_assoc, ← Int.pow_add, show D + (m + (s - D)) = m + s by omega]
      rw [Int.emod_def] at e
      omega
    have e5 : n' / (p : Int) ^ D = n / (p : Int) ^ D + (p : Int) ^ m * ((p : Int) ^ (s - D) * (n' / (p : Int) ^ (m + s))) := by
      rw [congrArg (· / (p : Int) ^ D) e4]
      exact Int.mul_ediv_cancel_left _ (by have := pw_pos hp D; omega)
    rw [e5, Int.add_mul_emod_self_left]
  exact ⟨fin _ _ _ _ r1 (hD N1 (.inl rfl)) e1' e1, fin _ _ _ _ r2 (hD N2 (.inr (.inl rfl))) e2' e2, fin _ _ _ _ r3 (hD N3 (.inr (.inr rfl))) e3' e3⟩
end K9
namespace K9
open K7
theorem exists_pr : ∀ n, 2 ≤ n → ∃ q, Pr q ∧ q ∣ n := fun n => by
  induction n using Nat.strongRecOn with
  | _ n ih =>
    intro h
    by_cases hp : ∀ d, d ∣ n → d = 1 ∨ d = n
    · exact ⟨n, ⟨h, hp⟩, Nat.dvd_refl n⟩
    · obtain ⟨d, hd⟩ := Classical.not_forall.mp hp
      obtain ⟨hd1, hd2⟩ := Classical.not_imp.mp hd
      have h1 : d ≠ 1 := fun z => hd2 (.inl z)
      have h2 : d ≠ n := fun z => hd2 (.inr z)
      have h3 := Nat.le_of_dvd (by omega) hd1
      have h4 : d ≠ 0 := fun z => by
        rw [z] at hd1
        have := Nat.eq_zero_of_zero_dvd hd1
        omega
      obtain ⟨q, hq, hqd⟩ := ih d (by omega) (by omega)
      exact ⟨q, hq, Nat.dvd_trans hqd hd1⟩
theorem Pr.eq {p q : Nat} (hp : Pr p) (hq : Pr q) (h : p ∣ q) : p = q := by
  rcases hq.irr p h with e | e
  · have := hp.two; omega
  · exact e
theorem Pr.dvd_pow {p q : Nat} (hp : Pr p) : ∀ {k : Nat}, p ∣ q ^ k → p ∣ q
  | 0, h => by
    rw [Nat.pow_zero] at h
    have := Nat.le_of_dvd (by decide) h
    have := hp.two
    omega
  | k + 1, h => by
    rw [Nat.pow_succ] at h
    rcases hp.mul h with x | x
    · exact Pr.dvd_pow hp x
    · exact x
def Low (d r : Nat) : Prop := ∀ q, Pr q → q ∣ r → d ≤ q
theorem low_pr {d r : Nat} (hd : 2 ≤ d) (h : Low d r) (hr : d ∣ r) : Pr d := by
  obtain ⟨q, hq, hqd⟩ := exists_pr d hd
  have h1 := h q hq (Nat.dvd_trans hqd hr)
  have h2 := Nat.le_of_dvd (by omega) hqd
  have : q = d := by omega
  exact this ▸ hq
theorem low_next {d r : Nat} (hd : 2 ≤ d) (hodd : d = 2 ∨ d % 2 = 1) (h : Low d r) (hr : ¬ d ∣ r) : Low (if d = 2 then d + 1 else d + 2) r := by
  intro q hq hqr
  have h1 := h q hq hqr
  have h2 : q ≠ d := fun z => hr (z ▸ hqr)
  split
  · omega
  · rcases Nat.lt_or_ge q (d + 2) with c | c
    · exfalso
      have he : q = d + 1 := by omega
      have h3 : 2 ∣ q := by omega
      rcases hq.irr 2 h3 with z | z <;> omega
    · exact c
theorem low_end {d r : Nat} (hr : 1 < r) (h : Low d r) (hd : r < d * d) : Pr r := by
  obtain ⟨q, hq, hqr⟩ := exists_pr r hr
  obtain ⟨s, rfl⟩ := hqr
  have hq2 := hq.two
  by_cases hs : s = 1
  · rw [hs, Nat.mul_one]; exact hq
  · have hs2 : 2 ≤ s := by
      rcases Nat.eq_zero_or_pos s with z | z
      · rw [z, Nat.mul_zero] at hr; omega
      · omega
    obtain ⟨t, ht, hts⟩ := exists_pr s hs2
    have h1 := h q hq (Nat.dvd_mul_right _ _)
    have h2 := h t ht (Nat.dvd_trans hts (Nat.dvd_mul_left _ _))
    have h3 := Nat.le_of_dvd (by omega) hts
    have : d * d ≤ q * s := Nat.mul_le_mul h1 (by omega)
    omega
theorem asc_eq : ∀ {l k : List Int}, l.Pairwise (· < ·) → k.Pairwise (· < ·) → (∀ x, x ∈ l ↔ x ∈ k) → l = k
  | [], [], _, _, _ => rfl
  | [], b :: k, _, _, h => by
    have := (h b).mpr List.mem_cons_self
    cases this
  | a :: l, [], _, _, h => by
    have := (h a).mp List.mem_cons_self
    cases this
  | a :: l, b :: k, hl, hk, h => by
    obtain ⟨ha, hl'⟩ := List.pairwise_cons.mp hl
    obtain ⟨hb, hk'⟩ := List.pairwise_cons.mp hk
    have hab : a = b := by
      have h1 := (h a).mp List.mem_cons_self
      have h2 := (h b).mpr List.mem_cons_self
      rcases List.mem_cons.mp h1 with e | e
      · exact e
      · rcases List.mem_cons.mp h2 with e' | e'
        · exact e'.symm
        · have := hb a e
          have := ha b e'
          omega
    subst hab
    rw [asc_eq hl' hk' fun x => ⟨fun hx => by
      rcases List.mem_cons.mp ((h x).mp (List.mem_cons_of_mem _ hx)) with e | e
      · have := ha x hx
        omega
      · exact e, fun hx => by
      rcases List.mem_cons.mp ((h x).mpr (List.mem_cons_of_mem _ hx)) with e | e
      · have := hb x hx
        omega
      · exact e⟩]
theorem asc_of : ∀ {l : List Int}, l.Pairwise (· ≤ ·) → l.Nodup → l.Pairwise (· < ·)
  | [], _, _ => .nil
  | a :: l, h, n => by
    obtain ⟨h1, h2⟩ := List.pairwise_cons.mp h
    obtain ⟨n1, n2⟩ := List.nodup_cons.mp n
    refine List.pairwise_cons.mpr ⟨fun x hx => ?_, asc_of h2 n2⟩
    have := h1 x hx
    rcases Int.lt_or_eq_of_le this with c | c
    · exact c
    · rw [c] at n1
      exact absurd hx n1
def Small (a b : Int) : Prop := ∀ q : Nat, Pr q → (q ∣ a.natAbs ∨ q ∣ b.natAbs) → q ∈ primesN
def primesI : List Int := primesN.map fun p : Nat => (p : Int)
def bad (a b p : Int) : Bool := (decide (p = 2) || decide (a * b % p = 0)) && sg p.toNat a b
def barsL (a b : Int) : List Int := (if a < 0 ∧ b < 0 then [0] else []) ++ primesI.filter (bad a b)
theorem primesI_asc : primesI.Pairwise (· < ·) := by decide
theorem mem_primesI {p : Int} : p ∈ primesI ↔ ∃ q ∈ primesN, p = (q : Int) := by
  unfold primesI
  rw [List.mem_map]
  exact ⟨fun ⟨q, h, e⟩ => ⟨q, h, e.symm⟩, fun ⟨q, h, e⟩ => ⟨q, h, e.symm⟩⟩
theorem dvd_ab {q : Nat} {a b : Int} (hq : Pr q) : (a * b) % (q : Int) = 0 ↔ (q ∣ a.natAbs ∨ q ∣ b.natAbs) := by
  constructor
  · intro h
    have h1 : q ∣ a.natAbs * b.natAbs := by
      rw [← Int.natAbs_mul]
      exact Int.natCast_dvd_natCast.mp (Int.dvd_natAbs.mpr (Int.dvd_of_emod_eq_zero h))
    exact hq.mul h1
  · rintro (h | h)
    · exact Int.emod_eq_zero_of_dvd (Int.dvd_mul_of_dvd_left (Int.dvd_natAbs.mp (Int.natCast_dvd_natCast.mpr h)))
    · exact Int.emod_eq_zero_of_dvd (Int.dvd_mul_of_dvd_right (Int.dvd_natAbs.mp (Int.natCast_dvd_natCast.mpr h)))
theorem bars_told {a b : Int} (hs : Small a b) {fs : List Int} (hf : fs.Pairwise (· < ·)) (hm : ∀ x, x ∈ fs ↔ ∃ q : Nat, x = q ∧ Pr q ∧ (q ∣ a.natAbs ∨ q ∣ b.natAbs)) :
    (((2 : Int) :: fs.filter fun x => !decide (x = 2)).filter fun p => sg p.toNat a b) = primesI.filter (bad a b) := by
  have h2 : ∀ x ∈ fs, (2 : Int) ≤ x := fun x hx => by
    obtain ⟨q, rfl, hq, _⟩ := (hm x).mp hx
    have := hq.two
    omega
  have a1 : ((2 : Int) :: fs.filter fun x => !decide (x = 2)).Pairwise (· < ·) := by
    refine List.pairwise_cons.mpr ⟨fun x hx => ?_, hf.filter _⟩
    obtain ⟨hx1, hx2⟩ := List.mem_filter.mp hx
    have := h2 x hx1
    have : x ≠ 2 := fun z => by rw [decide_eq_true z] at hx2; cases hx2
    omega
  refine asc_eq (a1.filter _) (primesI_asc.filter _) fun x => ?_
  rw [List.mem_filter, List.mem_filter, List.mem_cons, List.mem_filter]
  unfold bad
  constructor
  · rintro ⟨hx, hg⟩
    rcases hx with rfl | ⟨hx, _⟩
    · exact ⟨by decide, by rw [hg]; rfl⟩
    · obtain ⟨q, rfl, hq, hd⟩ := (hm x).mp hx
      refine ⟨mem_primesI.mpr ⟨q, hs q hq hd, rfl⟩, ?_⟩
      rw [hg, decide_eq_true ((dvd_ab hq).mpr hd), Bool.or_true]
      rfl
  · rintro ⟨hx, hg⟩
    obtain ⟨hg1, hg2⟩ := Bool.and_eq_true_iff.mp hg
    refine ⟨?_, hg2⟩
    by_cases c : x = 2
    · exact .inl c
    · right
      rw [decide_eq_false c, Bool.false_or] at hg1
      obtain ⟨q, hq, rfl⟩ := mem_primesI.mp hx
      have hd := (dvd_ab (pr_mem hq)).mp (of_decide_eq_true hg1)
      exact ⟨(hm _).mpr ⟨q, rfl, pr_mem hq, hd⟩, by rw [decide_eq_false c]; rfl⟩
end K9
namespace K9
open K7
def vs (p g : Nat) : Nat := if g % p = 0 then (if g / p % p = 0 then (if g / p / p % p = 0 then 3 else 2) else 1) else 0
def sr (p g : Nat) : Nat := if p = 2 ∧ g % 2 = 0 then vs p g + 2 else vs p g + 1
def Mo (p g : Nat) : Nat := p ^ (2 * vs p g + 1)
def kk (p g : Nat) : Nat := (p - 1) / Nat.gcd g (p - 1)
def crN (p g t : Nat) : Bool := if p = 2 then t % 2 ^ sr p g == 1 else t ^ kk p g % p ^ sr p g == 1
theorem vs_tab : ∀ p ∈ primesN, ∀ g, g < 13 → 0 < g → g = p ^ vs p g * (g / p ^ vs p g) ∧ (g / p ^ vs p g) % p ≠ 0 := by decide +kernel
theorem tab1 : (primesN.all fun p => (List.range 13).all fun g => g == 0 || (List.range (Mo p g)).all fun x => x % p == 0 || crN p g (x ^ g % Mo p g)) = true := by decide +kernel
theorem tab2 : (primesN.all fun p => (List.range 13).all fun g => g == 0 || (List.range (Mo p g)).all fun u => u % p == 0 || !crN p g u || (List.range (Mo p g)).any fun x => x ^ g % Mo p g == u) = true := by decide +kernel
end K9
namespace K9
open K7
theorem vs_eq {p g : Nat} (hp : p ∈ primesN) (hg : 0 < g) (hg2 : g < 13) : vN p g = vs p g := by
  obtain ⟨h1, h2⟩ := vs_tab p hp g hg2 hg
  exact vN_unique (pr_mem hp).two h1 h2
def kx (p g : Nat) : Nat := if p = 2 then 1 else kk p g
theorem crN_eq (p g t : Nat) : crN p g t = (t ^ kx p g % p ^ sr p g == 1) := by
  unfold crN kx
  by_cases h : p = 2
  · subst h
    rw [if_pos rfl, if_pos rfl, Nat.pow_one]
  · rw [if_neg h, if_neg h]
def cr2 (p g : Nat) (a b : Int) : Bool := decide ((un p b ^ kx p g - un p a ^ kx p g) % (p : Int) ^ sr p g = 0)
def isPow (p g : Nat) (a b : Int) : Bool := decide (((vI p b : Int) - vI p a) % (g : Int) = 0) && cr2 p g a b
theorem pow_cong {m a b : Int} (h : m ∣ a - b) : ∀ k : Nat, m ∣ a ^ k - b ^ k
  | 0 => by rw [Int.pow_zero, Int.pow_zero, Int.sub_self]; exact Int.dvd_zero m
  | k + 1 => by
    have ih := pow_cong h k
    have e : a ^ (k + 1) - b ^ (k + 1) = a ^ k * (a - b) + b * (a ^ k - b ^ k) := by
      rw [Int.pow_succ, Int.pow_succ, Int.mul_sub, Int.mul_sub, Int.mul_comm b (a ^ k), Int.mul_comm b (b ^ k)]
      omega
    rw [e]
    exact Int.dvd_add (Int.dvd_mul_of_dvd_right h) (Int.dvd_mul_of_dvd_right ih)
theorem sr_le {p g : Nat} (hp : p ∈ primesN) (hg : 0 < g) (hg2 : g < 13) : 1 ≤ sr p g ∧ sr p g ≤ 2 * vs p g + 1 := by
  have tab : ∀ p ∈ primesN, ∀ g, g < 13 → 0 < g → 1 ≤ sr p g ∧ sr p g ≤ 2 * vs p g + 1 := by decide +kernel
  exact tab p hp g hg2 hg
theorem two_le_pow {p k : Nat} (hp : 2 ≤ p) (hk : 1 ≤ k) : 2 ≤ p ^ k := by
  have h1 : p ^ 1 ≤ p ^ k := Nat.pow_le_pow_right (by omega) hk
  rw [Nat.pow_one] at h1
  omega
theorem nd_pow {p : Nat} (h : Pr p) {u : Int} (hu : ¬ (p : Int) ∣ u) : ∀ k : Nat, ¬ (p : Int) ∣ u ^ k
  | 0 => by
    rw [Int.pow_zero]
    intro z
    have := Int.le_of_dvd (by decide) z
    have := h.two
    omega
  | k + 1 => by
    rw [Int.pow_succ]
    exact int_pr h (nd_pow h hu k) hu
theorem crN_cr2 {p g t : Nat} {a b : Int} (hp : p ∈ primesN) (hg : 0 < g) (hg2 : g < 13) (ha : a ≠ 0) (h : (p : Int) ^ sr p g ∣ (t : Int) * un p a - un p b) : crN p g t = cr2 p g a b := by
  have hpr := pr_mem hp
  obtain ⟨s1, _⟩ := sr_le hp hg hg2
  have hm := two_le_pow hpr.two s1
  have hu := (form hpr.two ha).2
  rw [crN_eq]
  unfold cr2
  generalize kx p g = k
  have h1 := pow_cong h k
  rw [Int.mul_pow] at h1
  have e1 : (t ^ k % p ^ sr p g == 1) = decide ((p : Int) ^ sr p g ∣ (t : Int) ^ k - 1) := by
    have key : t ^ k % p ^ sr p g = 1 ↔ (p : Int) ^ sr p g ∣ (t : Int) ^ k - 1 := by
      have e2 : ((t ^ k % p ^ sr p g : Nat) : Int) = (t : Int) ^ k % (p : Int) ^ sr p g := by rw [Int.natCast_emod, Int.natCast_pow, Int.natCast_pow]
      have e3 : ((p ^ sr p g : Nat) : Int) = (p : Int) ^ sr p g := Int.natCast_pow ..
      have e4 : (1 : Int) % (p : Int) ^ sr p g = 1 := Int.emod_eq_of_lt (by decide) (by omega)
      constructor
      · intro z
        rw [z] at e2
        refine Int.dvd_of_emod_eq_zero ?_
        rw [Int.sub_emod, ← e2, e4]
        show (1 - 1 : Int) % _ = 0
        rw [Int.sub_self, Int.zero_emod]
      · intro z
        have z2 : (t : Int) ^ k % (p : Int) ^ sr p g = 1 % (p : Int) ^ sr p g := Int.emod_eq_emod_iff_emod_sub_eq_zero.mpr (Int.emod_eq_zero_of_dvd z)
        rw [e4] at z2
        rw [z2] at e2
        omega
    by_cases c : t ^ k % p ^ sr p g = 1
    · rw [c, decide_eq_true (key.mp c)]
      rfl
    · rw [decide_eq_false fun z => c (key.mpr z)]
      exact beq_eq_false_iff_ne.mpr c
  rw [e1]
  refine decide_eq_decide.mpr ⟨fun z => ?_, fun z => ?_⟩
  · refine Int.emod_eq_zero_of_dvd ?_
    have h2 := Int.dvd_mul_of_dvd_left (c := un p a ^ k) z
    rw [Int.sub_mul, Int.one_mul] at h2
    have h3 := Int.dvd_sub h2 h1
    have e : (t : Int) ^ k * un p a ^ k - un p a ^ k - ((t : Int) ^ k * un p a ^ k - un p b ^ k) = un p b ^ k - un p a ^ k := by omega
    rw [e] at h3
    exact h3
  · have h2 := Int.dvd_of_emod_eq_zero z
    refine pow_cop hpr (nd_pow hpr hu k) ?_
    have h3 := Int.dvd_add h1 h2
    have e : (t : Int) ^ k * un p a ^ k - un p b ^ k + (un p b ^ k - un p a ^ k) = ((t : Int) ^ k - 1) * un p a ^ k := by
      rw [Int.sub_mul, Int.one_mul]
      omega
    rw [e] at h3
    exact h3
theorem walk_cr2 {p g u : Nat} {a b : Int} (hp : p ∈ primesN) (hg : 0 < g) (hg2 : g < 13) (ha : a ≠ 0) (hb : b ≠ 0) (hu : u < Mo p g) (h : (p : Int) ^ (2 * vs p g + 1) ∣ (u : Int) * un p a - un p b) :
    (∃ x, 1 ≤ x ∧ x < Mo p g ∧ x ^ g % Mo p g = u) ↔ cr2 p g a b = true := by
  have hpr := pr_mem hp
  have h2 := hpr.two
  obtain ⟨s1, s2⟩ := sr_le hp hg hg2
  have hub := (form h2 hb).2
  have hs : (p : Int) ^ sr p g ∣ (u : Int) * un p a - un p b := Int.dvd_trans (pw_dvd s2) h
  have hp1 : (p : Int) ∣ (p : Int) ^ (2 * vs p g + 1) := ⟨(p : Int) ^ (2 * vs p g), by rw [Int.pow_succ, Int.mul_comm]⟩
  have hup : ¬ (p : Int) ∣ (u : Int) := fun z => by
    have h3 := Int.dvd_sub (Int.dvd_mul_of_dvd_left (c := un p a) z) (Int.dvd_trans hp1 h)
    have e : (u : Int) * un p a - ((u : Int) * un p a - un p b) = un p b := by omega
    rw [e] at h3
    exact hub h3
  have hup' : u % p ≠ 0 := fun z => hup (Int.natCast_dvd_natCast.mpr (Nat.dvd_of_mod_eq_zero z))
  rw [← crN_cr2 hp hg hg2 ha hs]
  have t1 := List.all_eq_true.mp (List.all_eq_true.mp tab1 p hp) g (List.mem_range.mpr hg2)
  have t2 := List.all_eq_true.mp (List.all_eq_true.mp tab2 p hp) g (List.mem_range.mpr hg2)
  have g0 : (g == 0) = false := beq_eq_false_iff_ne.mpr (by omega)
  rw [g0, Bool.false_or] at t1 t2
  constructor
  · rintro ⟨x, hx1, hx2, hx⟩
    have t3 := List.all_eq_true.mp t1 x (List.mem_range.mpr hx2)
    rw [hx] at t3
    have hxp : (x % p == 0) = false := beq_eq_false_iff_ne.mpr fun z => hup' (by
      have h4 : p ∣ x := Nat.dvd_of_mod_eq_zero z
      have h5 : p ∣ x ^ g := Nat.dvd_trans h4 ⟨x ^ (g - 1), by rw [← Nat.pow_succ']; congr 1; omega⟩
      have h6 : p ∣ Mo p g := ⟨p ^ (2 * vs p g), by unfold Mo; rw [Nat.pow_succ, Nat.mul_comm]⟩
      rw [← hx]
      exact Nat.mod_eq_zero_of_dvd ((Nat.dvd_mod_iff h6).mpr h5))
    rw [hxp, Bool.false_or] at t3
    exact t3
  · intro hc
    have t3 := List.all_eq_true.mp t2 u (List.mem_range.mpr hu)
    rw [beq_eq_false_iff_ne.mpr hup', hc, Bool.false_or, Bool.not_true, Bool.false_or, List.any_eq_true] at t3
    obtain ⟨x, hx, hx2⟩ := t3
    have hx3 := List.mem_range.mp hx
    have hx4 : x ^ g % Mo p g = u := beq_iff_eq.mp hx2
    refine ⟨x, ?_, hx3, hx4⟩
    rcases Nat.eq_zero_or_pos x with z | z
    · rw [z, Nat.zero_pow hg, Nat.zero_mod] at hx4
      rw [← hx4, Nat.zero_mod] at hup'
      exact absurd rfl hup'
    · exact z
end K9
namespace K9
open K7
def PI (f : Int → Nat) : List Int → Int
  | [] => 1
  | x :: r => x ^ f x * PI f r
theorem PI_mul (f h : Int → Nat) : ∀ l, PI f l * PI h l = PI (fun x => f x + h x) l
  | [] => rfl
  | x :: r => by
    show x ^ f x * PI f r * (x ^ h x * PI h r) = x ^ (f x + h x) * PI (fun x => f x + h x) r
    rw [← PI_mul f h r, Int.pow_add, Int.mul_assoc, Int.mul_left_comm (PI f r), ← Int.mul_assoc, ← Int.mul_assoc]
theorem PI_pow (f : Int → Nat) (g : Nat) : ∀ l, PI f l ^ g = PI (fun x => f x * g) l
  | [] => by show (1 : Int) ^ g = 1; exact Int.one_pow
  | x :: r => by
    show (x ^ f x * PI f r) ^ g = x ^ (f x * g) * PI (fun x => f x * g) r
    rw [Int.mul_pow, PI_pow f g r, Int.pow_mul]
theorem PI_app (f : Int → Nat) (m : List Int) : ∀ l, PI f (l ++ m) = PI f l * PI f m
  | [] => by show PI f m = 1 * PI f m; rw [Int.one_mul]
  | x :: r => by
    show x ^ f x * PI f (r ++ m) = x ^ f x * PI f r * PI f m
    rw [PI_app f m r, Int.mul_assoc]
theorem PI_pos (f : Int → Nat) : ∀ l : List Int, (∀ x ∈ l, 2 ≤ x) → 0 < PI f l
  | [], _ => by show (0 : Int) < 1; decide
  | x :: r, h => Int.mul_pos (Int.pow_pos (by have := h x List.mem_cons_self; omega)) (PI_pos f r fun y hy => h y (List.mem_cons_of_mem _ hy))
theorem PI_congr {f h : Int → Nat} : ∀ l : List Int, (∀ x ∈ l, f x = h x) → PI f l = PI h l
  | [], _ => rfl
  | x :: r, e => by
    show x ^ f x * PI f r = x ^ h x * PI h r
    rw [e x List.mem_cons_self, PI_congr r fun y hy => e y (List.mem_cons_of_mem _ hy)]
theorem PI_le {f h : Int → Nat} : ∀ l : List Int, (∀ x ∈ l, 2 ≤ x) → (∀ x ∈ l, f x ≤ h x) → PI f l ≤ PI h l
  | [], _, _ => Int.le_refl _
  | x :: r, h2, e => by
    have hx := h2 x List.mem_cons_self
    have ih := PI_le r (fun y hy => h2 y (List.mem_cons_of_mem _ hy)) (fun y hy => e y (List.mem_cons_of_mem _ hy))
    have hp := PI_pos f r (fun y hy => h2 y (List.mem_cons_of_mem _ hy))
    have h1 : x ^ f x ≤ x ^ h x := by
      obtain ⟨c, hc⟩ := Nat.exists_eq_add_of_le (e x List.mem_cons_self)
      rw [hc, Int.pow_add]
      have h3 : (0 : Int) < x ^ f x := Int.pow_pos (by omega)
      have h4 : (0 : Int) < x ^ c := Int.pow_pos (by omega)
      have h5 := Int.mul_le_mul_of_nonneg_left (show (1 : Int) ≤ x ^ c by omega) (Int.le_of_lt h3)
      rw [Int.mul_one] at h5
      exact h5
    have h3 : (0 : Int) < x ^ h x := Int.pow_pos (by omega)
    exact Int.le_trans (Int.mul_le_mul_of_nonneg_right h1 (Int.le_of_lt hp)) (Int.mul_le_mul_of_nonneg_left ih (Int.le_of_lt h3))
theorem PI_take {f : Int → Nat} {l : List Int} (h2 : ∀ x ∈ l, 2 ≤ x) (k : Nat) : PI f (l.take k) ≤ PI f l := by
  have e : PI f l = PI f (l.take k) * PI f (l.drop k) := by rw [← PI_app, List.take_append_drop]
  have h1 := PI_pos f (l.take k) fun x hx => h2 x (List.mem_of_mem_take hx)
  have h3 := PI_pos f (l.drop k) fun x hx => h2 x (List.mem_of_mem_drop hx)
  have h5 := Int.mul_le_mul_of_nonneg_left (show (1 : Int) ≤ PI f (l.drop k) by omega) (Int.le_of_lt h1)
  rw [Int.mul_one] at h5
  rw [e]
  exact h5
theorem PI_step {f : Int → Nat} {l : List Int} {k : Nat} {x : Int} (h : l[k]? = some x) : PI f (l.take (k + 1)) = PI f (l.take k) * x ^ f x := by
  obtain ⟨hk, hx⟩ := List.getElem?_eq_some_iff.mp h
  rw [List.take_succ_eq_append_getElem hk, PI_app, hx]
  show _ * (x ^ f x * 1) = _
  rw [Int.mul_one]
theorem vN_off {q t : Nat} (hq : Pr q) (ht : Pr t) (h : t ≠ q) (v : Nat) : vN t (q ^ v) = 0 :=
  vN_zero fun z => h (Pr.eq ht hq (Pr.dvd_pow ht (Nat.dvd_of_mod_eq_zero z)))
theorem by_primes : ∀ (l : List Int) (n : Nat), 0 < n → l.Nodup → (∀ x ∈ l, ∃ q : Nat, x = q ∧ Pr q) → (∀ q : Nat, Pr q → q ∣ n → (q : Int) ∈ l) → (n : Int) = PI (fun x => vN x.toNat n) l
  | [], n, hn, _, _, h => by
    show (n : Int) = 1
    rcases Nat.lt_or_ge n 2 with c | c
    · omega
    · obtain ⟨q, hq, hd⟩ := exists_pr n c
      exact absurd (h q hq hd) List.not_mem_nil
  | x :: r, n, hn, hnd, hpr, h => by
    obtain ⟨q, rfl, hq⟩ := hpr x List.mem_cons_self
    obtain ⟨hxr, hnd2⟩ := List.nodup_cons.mp hnd
    obtain ⟨m, e, hm, hm2⟩ := vN_form hq.two n hn
    have ih := by_primes r m hm hnd2 (fun y hy => hpr y (List.mem_cons_of_mem _ hy)) fun t ht hd => by
      have h1 := h t ht (e ▸ Nat.dvd_trans hd (Nat.dvd_mul_left _ _))
      rcases List.mem_cons.mp h1 with z | z
      · have : t = q := by omega
        rw [this] at hd
        exact absurd (Nat.mod_eq_zero_of_dvd hd) hm2
      · exact z
    show (n : Int) = (q : Int) ^ vN (q : Int).toNat n * PI (fun x => vN x.toNat n) r
    rw [Int.toNat_natCast]
    have e2 : PI (fun x => vN x.toNat n) r = PI (fun x => vN x.toNat m) r := PI_congr r fun y hy => by
      obtain ⟨t, rfl, ht⟩ := hpr y (List.mem_cons_of_mem _ hy)
      have htq : t ≠ q := fun z => hxr (z ▸ hy)
      rw [Int.toNat_natCast]
      have e3 : vN t n = vN t (q ^ vN q n * m) := by rw [← e]
      rw [e3, vN_mul ht (Nat.pow_pos (by have := hq.two; omega)) hm, vN_off hq ht htq, Nat.zero_add]
    rw [e2, ← ih]
    have e4 : (n : Int) = ((q ^ vN q n * m : Nat) : Int) := by rw [← e]
    rw [Int.natCast_mul, Int.natCast_pow] at e4
    exact e4
def stp (g : Nat) (a b x : Int) : Int := ((vI x.toNat b : Int) - vI x.toNat a) / g
def pos (g : Nat) (a b x : Int) : Nat := (stp g a b x).toNat
def neg (g : Nat) (a b x : Int) : Nat := (-(stp g a b x)).toNat
theorem stp_eq {g : Nat} {a b x : Int} (h : ((vI x.toNat b : Int) - vI x.toNat a) % (g : Int) = 0) : (vI x.toNat b : Int) - vI x.toNat a = stp g a b x * g := by
  unfold stp
  rw [Int.mul_comm]
  exact (Int.mul_ediv_cancel' (Int.dvd_of_emod_eq_zero h)).symm
theorem pos_neg {g : Nat} (hg : 0 < g) {a b x : Int} (h : ((vI x.toNat b : Int) - vI x.toNat a) % (g : Int) = 0) :
    vI x.toNat b + neg g a b x * g = vI x.toNat a + pos g a b x * g ∧ pos g a b x ≤ vI x.toNat b ∧ neg g a b x ≤ vI x.toNat a := by
  have e := stp_eq h
  unfold pos neg
  generalize stp g a b x = s at e
  have hgI : (0 : Int) < g := by omega
  rcases Int.le_total 0 s with c | c
  · obtain ⟨k, rfl⟩ := Int.eq_ofNat_of_zero_le c
    have e1 : (-(k : Int)).toNat = 0 := by omega
    rw [e1, Int.toNat_natCast, Nat.zero_mul]
    rw [← Int.natCast_mul] at e
    have : k ≤ k * g := Nat.le_mul_of_pos_right k hg
    omega
  · obtain ⟨k, hk⟩ := Int.eq_ofNat_of_zero_le (show 0 ≤ -s by omega)
    have hs : s = -(k : Int) := by omega
    subst hs
    have e1 : (-(k : Int)).toNat = 0 := by omega
    have e2 : (-(-(k : Int))).toNat = k := by omega
    rw [e1, e2, Nat.zero_mul]
    rw [Int.neg_mul, ← Int.natCast_mul] at e
    have : k ≤ k * g := Nat.le_mul_of_pos_right k hg
    omega
theorem root_rel {l : List Int} {g : Nat} {a b : Int} (hg : 0 < g) (ha : a ≠ 0) (hb : b ≠ 0) (hnd : l.Nodup) (hpr : ∀ x ∈ l, ∃ q : Nat, x = q ∧ Pr q) (hall : ∀ q : Nat, Pr q → (q ∣ a.natAbs ∨ q ∣ b.natAbs) → (q : Int) ∈ l)
    (hd : ∀ x ∈ l, ((vI x.toNat b : Int) - vI x.toNat a) % (g : Int) = 0) :
    (b.natAbs : Int) * PI (neg g a b) l ^ g = (a.natAbs : Int) * PI (pos g a b) l ^ g ∧ PI (pos g a b) l ≤ b.natAbs ∧ PI (neg g a b) l ≤ a.natAbs ∧ 0 < PI (pos g a b) l ∧ 0 < PI (neg g a b) l := by
  have h2 : ∀ x ∈ l, 2 ≤ x := fun x hx => by
    obtain ⟨q, rfl, hq⟩ := hpr x hx
    have := hq.two
    omega
  have eb := by_primes l b.natAbs (by omega) hnd hpr fun q hq hd => hall q hq (.inr hd)
  have ea := by_primes l a.natAbs (by omega) hnd hpr fun q hq hd => hall q hq (.inl hd)
  refine ⟨?_, ?_, ?_, PI_pos _ l h2, PI_pos _ l h2⟩
  · rw [PI_pow, PI_pow]
    have e1 : (b.natAbs : Int) * PI (fun x => neg g a b x * g) l = PI (fun x => vN x.toNat b.natAbs) l * PI (fun x => neg g a b x * g) l := by rw [← eb]
    have e2 : (a.natAbs : Int) * PI (fun x => pos g a b x * g) l = PI (fun x => vN x.toNat a.natAbs) l * PI (fun x => pos g a b x * g) l := by rw [← ea]
    rw [e1, e2, PI_mul, PI_mul]
    exact PI_congr l fun x hx => (pos_neg hg (hd x hx)).1
  · have e1 : (b.natAbs : Int) = PI (fun x => vI x.toNat b) l := eb
    rw [e1]
    exact PI_le l h2 fun x hx => (pos_neg hg (hd x hx)).2.1
  · have e1 : (a.natAbs : Int) = PI (fun x => vI x.toNat a) l := ea
    rw [e1]
    exact PI_le l h2 fun x hx => (pos_neg hg (hd x hx)).2.2
theorem odd_pow4 {u : Int} (hu : ¬ (2 : Int) ∣ u) : ∀ {g : Nat}, g % 2 = 0 → u ^ g % 4 = 1 := by
  have key : ∀ k : Nat, u ^ (2 * k) % 4 = 1 := fun k => by
    rw [Int.pow_mul]
    have h1 : u ^ 2 % 4 = 1 := by
      have h3 : u % 4 = 1 ∨ u % 4 = 3 := by omega
      rw [Int.pow_succ, Int.pow_succ, Int.pow_zero, Int.one_mul, Int.mul_emod]
      rcases h3 with e | e <;> rw [e] <;> decide
    induction k with
    | zero => rw [Int.pow_zero]; decide
    | succ k ih => rw [Int.pow_succ, Int.mul_emod, ih, h1]; decide
  intro g hg
  have e : g = 2 * (g / 2) := by omega
  rw [e]
  exact key _
theorem cr2_two {g : Nat} {a b : Int} (hg : 0 < g) (hg2 : g < 13) (he : g % 2 = 0) (h : cr2 2 g a b = true) : (un 2 b - un 2 a) % 4 = 0 := by
  unfold cr2 at h
  have h1 := of_decide_eq_true h
  have hk : kx 2 g = 1 := by unfold kx; rw [if_pos rfl]
  rw [hk, Int.pow_succ, Int.pow_succ, Int.pow_zero, Int.pow_zero, Int.one_mul, Int.one_mul] at h1
  have hs : 2 ≤ sr 2 g := by
    unfold sr
    rw [if_pos ⟨rfl, he⟩]
    omega
  have h2 := Int.dvd_of_emod_eq_zero h1
  have h3 : ((2 : Nat) : Int) ^ 2 ∣ ((2 : Nat) : Int) ^ sr 2 g := pw_dvd hs
  have h4 : (4 : Int) ∣ un 2 b - un 2 a := Int.dvd_trans h3 h2
  exact Int.emod_eq_zero_of_dvd h4
theorem unN_neg {p : Nat} (hp : 2 ≤ p) {a : Int} (ha : a ≠ 0) : un p (-a) = -un p a ∧ vI p (-a) = vI p a := by
  obtain ⟨e, n⟩ := form hp ha
  have := form_uniq (p := p) (a := -a) (u := -un p a) (i := vI p a) hp (by rw [Int.mul_neg, ← e]) (fun z => n (Int.dvd_neg.mp z))
  exact ⟨this.2, this.1⟩
theorem un_pow {a : Int} (ha : a ≠ 0) : ∀ g : Nat, un 2 (a ^ g) = un 2 a ^ g := by
  intro g
  obtain ⟨e, n⟩ := form (p := 2) (by decide) ha
  have := form_uniq (p := 2) (a := a ^ g) (u := un 2 a ^ g) (i := vI 2 a * g) (by decide) (by
    conv => lhs; rw [e]
    rw [Int.mul_pow, ← Int.pow_mul]) (nd_pow (pr_mem (by decide)) n g)
  exact this.2
theorem sign_two {g : Nat} {a b N D : Int} (hg : 0 < g) (hg2 : g < 13) (ha : a ≠ 0) (hb : b ≠ 0) (hN : N ≠ 0) (hD : D ≠ 0) (hr : (b.natAbs : Int) * D ^ g = (a.natAbs : Int) * N ^ g) (h : cr2 2 g a b = true) (hs : (a < 0) ≠ (b < 0)) : g % 2 = 1 := by
  rcases Nat.mod_two_eq_zero_or_one g with he | ho
  · exfalso
    have h4 := cr2_two hg hg2 he h
    have p2 : 2 ∈ primesN := by decide
    have uD := odd_pow4 (form (p := 2) (by decide) hD).2 he
    have uN := odd_pow4 (form (p := 2) (by decide) hN).2 he
    have na : (a.natAbs : Int) ≠ 0 := by omega
    have nb : (b.natAbs : Int) ≠ 0 := by omega
    have e := congrArg (un 2) hr
    rw [(form_mul p2 nb (Int.pow_ne_zero hD)).2, (form_mul p2 na (Int.pow_ne_zero hN)).2, un_pow hD, un_pow hN] at e
    have e4 : (un 2 (b.natAbs : Int) * un 2 D ^ g) % 4 = (un 2 (a.natAbs : Int) * un 2 N ^ g) % 4 := by rw [e]
    rw [Int.mul_emod, uD, Int.mul_emod (un 2 (a.natAbs : Int)), uN] at e4
    have ob := (form (p := 2) (by decide) hb).2
    have oa := (form (p := 2) (by decide) ha).2
    have ua : un 2 (a.natAbs : Int) = un 2 a ∨ un 2 (a.natAbs : Int) = -un 2 a := by
      rcases Int.natAbs_eq a with z | z
      · left; rw [← z]
      · right
        have e1 : ((a.natAbs : Nat) : Int) = -a := by omega
        rw [e1]
        exact (unN_neg (by decide) ha).1
    have ua' : (0 < a → un 2 (a.natAbs : Int) = un 2 a) ∧ (a < 0 → un 2 (a.natAbs : Int) = -un 2 a) := ⟨fun z => by
      have e1 : ((a.natAbs : Nat) : Int) = a := by omega
      rw [e1], fun z => by
      have e1 : ((a.natAbs : Nat) : Int) = -a := by omega
      rw [e1]
      exact (unN_neg (by decide) ha).1⟩
    have ub' : (0 < b → un 2 (b.natAbs : Int) = un 2 b) ∧ (b < 0 → un 2 (b.natAbs : Int) = -un 2 b) := ⟨fun z => by
      have e1 : ((b.natAbs : Nat) : Int) = b := by omega
      rw [e1], fun z => by
      have e1 : ((b.natAbs : Nat) : Int) = -b := by omega
      rw [e1]
      exact (unN_neg (by decide) hb).1⟩
    clear ua
    rcases Int.lt_or_lt_of_ne ha with x | x <;> rcases Int.lt_or_lt_of_ne hb with y | y
    · exact hs (by rw [eq_true x, eq_true y])
    · rw [ua'.2 x, ub'.1 y] at e4
      omega
    · rw [ua'.1 x, ub'.2 y] at e4
      omega
    · exact hs (by rw [eq_false (show ¬ a < 0 by omega), eq_false (show ¬ b < 0 by omega)])
  · exact ho
theorem root_sign {g : Nat} {a b N D : Int} (hr : (b.natAbs : Int) * D ^ g = (a.natAbs : Int) * N ^ g) (ha : a ≠ 0) (hb : b ≠ 0) (ho : (a < 0) ≠ (b < 0) → g % 2 = 1) :
    b * D ^ g = a * (if (decide (a < 0)) != (decide (b < 0)) then -N else N) ^ g := by
  have na := Int.natAbs_eq a
  have nb := Int.natAbs_eq b
  by_cases x : a < 0 <;> by_cases y : b < 0
  · have e1 : ((a.natAbs : Nat) : Int) = -a := by omega
    have e2 : ((b.natAbs : Nat) : Int) = -b := by omega
    rw [decide_eq_true x, decide_eq_true y]
    show b * D ^ g = a * N ^ g
    rw [e1, e2, Int.neg_mul, Int.neg_mul] at hr
    omega
  · have e1 : ((a.natAbs : Nat) : Int) = -a := by omega
    have e2 : ((b.natAbs : Nat) : Int) = b := by omega
    rw [decide_eq_true x, decide_eq_false y]
    show b * D ^ g = a * (-N) ^ g
    have h1 := ho (by rw [eq_true x, eq_false y]; exact fun z => by simp at z)
    have e3 : (-N) ^ g = -(N ^ g) := by
      have e : g = 2 * (g / 2) + 1 := by omega
      rw [e, Int.pow_succ, Int.pow_succ, Int.pow_mul, Int.pow_mul, show (-N) ^ 2 = N ^ 2 by rw [Int.pow_succ, Int.pow_succ, Int.pow_succ, Int.pow_succ, Int.pow_zero, Int.pow_zero]; rw [Int.one_mul, Int.one_mul, Int.neg_mul_neg], Int.mul_neg]
    rw [e3, Int.mul_neg]
    rw [e1, e2, Int.neg_mul] at hr
    exact hr
  · have e1 : ((a.natAbs : Nat) : Int) = a := by omega
    have e2 : ((b.natAbs : Nat) : Int) = -b := by omega
    rw [decide_eq_false x, decide_eq_true y]
    show b * D ^ g = a * (-N) ^ g
    have h1 := ho (by rw [eq_false x, eq_true y]; exact fun z => by simp at z)
    have e3 : (-N) ^ g = -(N ^ g) := by
      have e : g = 2 * (g / 2) + 1 := by omega
      rw [e, Int.pow_succ, Int.pow_succ, Int.pow_mul, Int.pow_mul, show (-N) ^ 2 = N ^ 2 by rw [Int.pow_succ, Int.pow_succ, Int.pow_succ, Int.pow_succ, Int.pow_zero, Int.pow_zero]; rw [Int.one_mul, Int.one_mul, Int.neg_mul_neg], Int.mul_neg]
    rw [e3, Int.mul_neg]
    rw [e1, e2, Int.neg_mul] at hr
    omega
  · have e1 : ((a.natAbs : Nat) : Int) = a := by omega
    have e2 : ((b.natAbs : Nat) : Int) = b := by omega
    rw [decide_eq_false x, decide_eq_false y]
    show b * D ^ g = a * N ^ g
    rw [e1, e2] at hr
    exact hr
end K9
namespace K9
open K7
theorem red_rel {a b N D num den : Int} {g : Nat} (hd : den ≠ 0) (e : N * den = num * D) (h : b * den ^ g = a * num ^ g) : b * D ^ g = a * N ^ g := by
  have h0 : den ^ g ≠ 0 := Int.pow_ne_zero hd
  refine Int.eq_of_mul_eq_mul_right h0 ?_
  calc b * D ^ g * den ^ g = b * den ^ g * D ^ g := Int.mul_right_comm ..
    _ = a * num ^ g * D ^ g := by rw [h]
    _ = a * (num * D) ^ g := by rw [Int.mul_pow, Int.mul_assoc]
    _ = a * (N * den) ^ g := by rw [e]
    _ = a * N ^ g * den ^ g := by rw [Int.mul_pow, Int.mul_assoc]
theorem sol0 {a b x1 x2 y1 y2 P R Yn Yd : Int} {m n : Nat} (hP : P ≠ 0) (hY : Yd ≠ 0) (ex : x1 * P = R * x2) (ey : y1 * Yd = Yn * y2) (h : a * R ^ m * Yd ^ n = b * Yn ^ n * P ^ m) :
    a * x1 ^ m * y2 ^ n = b * y1 ^ n * x2 ^ m := by
  have h0 : P ^ m * Yd ^ n ≠ 0 := Int.mul_ne_zero (Int.pow_ne_zero hP) (Int.pow_ne_zero hY)
  refine Int.eq_of_mul_eq_mul_right h0 ?_
  have e1 : x1 ^ m * P ^ m = R ^ m * x2 ^ m := by rw [← Int.mul_pow, ex, Int.mul_pow]
  have e2 : y1 ^ n * Yd ^ n = Yn ^ n * y2 ^ n := by rw [← Int.mul_pow, ey, Int.mul_pow]
  generalize x1 ^ m = A at *
  generalize y2 ^ n = B at *
  generalize y1 ^ n = C at *
  generalize x2 ^ m = F at *
  generalize P ^ m = G at *
  generalize Yd ^ n = I at *
  generalize R ^ m = J at *
  generalize Yn ^ n = L at *
  calc a * A * B * (G * I) = a * (A * G) * I * B := by ac_rfl
    _ = a * (J * F) * I * B := by rw [e1]
    _ = (a * J * I) * F * B := by ac_rfl
    _ = (b * L * G) * F * B := by rw [h]
    _ = b * (L * B) * G * F := by ac_rfl
    _ = b * (C * I) * G * F := by rw [e2]
    _ = b * C * F * (G * I) := by ac_rfl
theorem sol_pos {a b N D x1 x2 y1 y2 : Int} {g f k m n : Nat} (hD : D ≠ 0) (h : b * D ^ g = a * N ^ g) (e : f * m = k * n + g) (ex : x1 * D ^ f = N ^ f * x2) (ey : y1 * D ^ k = N ^ k * y2) :
    a * x1 ^ m * y2 ^ n = b * y1 ^ n * x2 ^ m := by
  refine sol0 (Int.pow_ne_zero hD) (Int.pow_ne_zero hD) ex ey ?_
  rw [← Int.pow_mul, ← Int.pow_mul, ← Int.pow_mul, ← Int.pow_mul, e, Int.pow_add, Int.pow_add]
  calc a * (N ^ (k * n) * N ^ g) * D ^ (k * n) = (a * N ^ g) * N ^ (k * n) * D ^ (k * n) := by ac_rfl
    _ = (b * D ^ g) * N ^ (k * n) * D ^ (k * n) := by rw [h]
    _ = b * N ^ (k * n) * (D ^ (k * n) * D ^ g) := by ac_rfl
theorem sol_neg {a b N D x1 x2 y1 y2 : Int} {g f j m n : Nat} (hD : D ≠ 0) (hN : N ≠ 0) (h : b * D ^ g = a * N ^ g) (e : f * m + j * n = g) (ex : x1 * D ^ f = N ^ f * x2) (ey : y1 * N ^ j = D ^ j * y2) :
    a * x1 ^ m * y2 ^ n = b * y1 ^ n * x2 ^ m := by
  refine sol0 (Int.pow_ne_zero hD) (Int.pow_ne_zero hN) ex ey ?_
  rw [← Int.pow_mul, ← Int.pow_mul, ← Int.pow_mul, ← Int.pow_mul, Int.mul_assoc, ← Int.pow_add, Int.mul_assoc, ← Int.pow_add, e, Nat.add_comm (j * n), e]
  exact h.symm
def Low1 (N D : Int) : Prop := 0 < D ∧ Nat.gcd N.natAbs D.natAbs = 1
theorem low_dvd {y1 y2 num den : Int} (h : Low1 y1 y2) (e : y1 * den = num * y2) : y2 ∣ den ∧ y1 ∣ num := by
  have h1 : Nat.Coprime y1.natAbs y2.natAbs := h.2
  constructor
  · have h2 : y2.natAbs ∣ y1.natAbs * den.natAbs := by
      rw [← Int.natAbs_mul]
      exact Int.natAbs_dvd_natAbs.mpr ⟨num, by rw [e, Int.mul_comm]⟩
    exact Int.natAbs_dvd_natAbs.mp (Nat.Coprime.dvd_of_dvd_mul_left h1.symm h2)
  · have h2 : y1.natAbs ∣ y2.natAbs * num.natAbs := by
      rw [← Int.natAbs_mul]
      exact Int.natAbs_dvd_natAbs.mpr ⟨den, by rw [Int.mul_comm y2, e]⟩
    exact Int.natAbs_dvd_natAbs.mp (Nat.Coprime.dvd_of_dvd_mul_left h1 h2)
theorem low_bd {y1 y2 num den : Int} (h : Low1 y1 y2) (e : y1 * den = num * y2) (hd : den ≠ 0) : y2.natAbs ≤ den.natAbs ∧ (y1.natAbs ≤ num.natAbs) ∧ (num ≠ 0 → y1 ≠ 0) := by
  obtain ⟨d1, d2⟩ := low_dvd h e
  refine ⟨Nat.le_of_dvd (by omega) (Int.natAbs_dvd_natAbs.mpr d1), ?_, ?_⟩
  · by_cases hn : num = 0
    · rw [hn, Int.zero_mul] at e
      have : y1 = 0 := (Int.mul_eq_zero.mp e).resolve_right hd
      rw [this, hn]
      exact Nat.le_refl _
    · exact Nat.le_of_dvd (by omega) (Int.natAbs_dvd_natAbs.mpr d2)
  · intro hn hy
    rw [hy, Int.zero_mul] at e
    exact (Int.mul_eq_zero.mp e.symm).elim hn (fun z => by have := h.1; omega)
theorem low_of {num den : Int} (hd : 0 < den) : Low1 (num / ((Nat.gcd num.natAbs den.natAbs : Nat) : Int)) (den / ((Nat.gcd num.natAbs den.natAbs : Nat) : Int)) ∧
    num / ((Nat.gcd num.natAbs den.natAbs : Nat) : Int) * den = num * (den / ((Nat.gcd num.natAbs den.natAbs : Nat) : Int)) ∧ (num / ((Nat.gcd num.natAbs den.natAbs : Nat) : Int)).natAbs ≤ num.natAbs ∧ den / ((Nat.gcd num.natAbs den.natAbs : Nat) : Int) ≤ den := by
  have hg0 : 0 < Nat.gcd num.natAbs den.natAbs := Nat.gcd_pos_of_pos_right _ (by omega)
  obtain ⟨c, hc⟩ := Nat.gcd_dvd_left num.natAbs den.natAbs
  obtain ⟨d, hd'⟩ := Nat.gcd_dvd_right num.natAbs den.natAbs
  have hcop : Nat.gcd c d = 1 := by
    have h1 := Nat.gcd_mul_left (Nat.gcd num.natAbs den.natAbs) c d
    rw [← hc, ← hd'] at h1
    exact Nat.eq_of_mul_eq_mul_left hg0 (by rw [Nat.mul_one]; exact h1.symm)
  generalize Nat.gcd num.natAbs den.natAbs = g at *
  have e2 : den = (g : Int) * d := by
    have : (den.natAbs : Int) = ((g * d : Nat) : Int) := by rw [← hd']
    rw [Int.natCast_mul] at this
    omega
  have hgI : (g : Int) ≠ 0 := by omega
  have ed : den / (g : Int) = d := by rw [e2]; exact Int.mul_ediv_cancel_left _ hgI
  have hd0 : 0 < d := by
    rcases Nat.eq_zero_or_pos d with z | z
    · rw [z] at e2
      simp at e2
      omega
    · exact z
  have hdd : d ≤ g * d := Nat.le_mul_of_pos_left d hg0
  rcases Int.natAbs_eq num with z | z
  · have e1 : num = (g : Int) * c := by
      rw [z, hc, Int.natCast_mul]
    have en : num / (g : Int) = c := by rw [e1]; exact Int.mul_ediv_cancel_left _ hgI
    rw [ed, en]
    refine ⟨⟨by omega, by rw [Int.natAbs_natCast, Int.natAbs_natCast]; exact hcop⟩, ?_, ?_, ?_⟩
    · rw [e1, e2]; ac_rfl
    · rw [hc, Int.natAbs_natCast]; exact Nat.le_mul_of_pos_left c hg0
    · rw [e2, ← Int.natCast_mul]; omega
  · have e1 : num = (g : Int) * -(c : Int) := by
      rw [z, hc, Int.natCast_mul, Int.mul_neg]
    have en : num / (g : Int) = -(c : Int) := by rw [e1]; exact Int.mul_ediv_cancel_left _ hgI
    rw [ed, en]
    refine ⟨⟨by omega, by rw [Int.natAbs_neg, Int.natAbs_natCast, Int.natAbs_natCast]; exact hcop⟩, ?_, ?_, ?_⟩
    · rw [e1, e2]; ac_rfl
    · rw [hc, Int.natAbs_neg, Int.natAbs_natCast]; exact Nat.le_mul_of_pos_left c hg0
    · rw [e2, ← Int.natCast_mul]; omega
theorem low_uniq {N D N' D' num den : Int} (hd : den ≠ 0) (h : Low1 N D) (h' : Low1 N' D') (e : N * den = num * D) (e' : N' * den = num * D') : N = N' ∧ D = D' := by
  have e1 : N * D' = N' * D := by
    refine Int.eq_of_mul_eq_mul_right hd ?_
    calc N * D' * den = (N * den) * D' := by ac_rfl
      _ = num * D * D' := by rw [e]
      _ = (num * D') * D := by ac_rfl
      _ = N' * den * D := by rw [e']
      _ = N' * D * den := by ac_rfl
  obtain ⟨d1, _⟩ := low_dvd h e1
  obtain ⟨d2, _⟩ := low_dvd h' e1.symm
  have hD := Int.le_of_dvd h'.1 d1
  have hD' := Int.le_of_dvd h.1 d2
  have hDD : D = D' := by omega
  refine ⟨?_, hDD⟩
  rw [hDD] at e1
  have := h'.1
  exact Int.eq_of_mul_eq_mul_right (by omega) e1
theorem first_tab : ∀ m, m < 13 → 0 < m → ∀ n, n < 13 → 0 < n → ((List.range n).any fun f => (m * f) % n == Nat.gcd m n % n) = true := by decide +kernel
theorem fst_ex {m n : Nat} (hm : 0 < m) (hm2 : m < 13) (hn : 0 < n) (hn2 : n < 13) : ∃ f : Nat, f < n ∧ ((m : Int) * f - (Nat.gcd m n : Nat)) % (n : Int) = 0 := by
  have h := first_tab m hm2 hm n hn2 hn
  rw [List.any_eq_true] at h
  obtain ⟨f, hf, he⟩ := h
  refine ⟨f, List.mem_range.mp hf, ?_⟩
  have e := beq_iff_eq.mp he
  refine Int.emod_eq_emod_iff_emod_sub_eq_zero.mp ?_
  rw [← Int.natCast_mul, ← Int.natCast_emod, ← Int.natCast_emod, e]
end K9
namespace K9
open PySem PySem.Spec PyProof.Rows L2 K7
local macro_rules | `(tactic| walk_at "rc") => `(tactic| first
  | assumption
  | (show (0 : Int) < _; omega)
  | (show (0 : Int) < _ ∧ _ < (1073741824 : Int); exact ⟨by omega, by omega⟩)
  | (show (-(2 ^ 64 : Int) < _ ∧ _ < (2 ^ 64 : Int)) ∨ _; exact .inl ⟨by omega, by omega⟩)
  | (show _ ∨ (-(2 ^ 64 : Int) < _ ∧ _ < (2 ^ 64 : Int)); exact .inr ⟨by omega, by omega⟩)
  | (show (0 : Int) ≤ _ ∧ _ ≤ (1000000 : Int) ∧ _ < 2 ^ 64; exact ⟨by decide, by decide, by decide⟩))
local macro_rules | `(tactic| walk_at "rd") => `(tactic| repeat (first
  | with_reducible apply KR.seq
  | with_reducible apply KR.asg
  | with_reducible apply KR.drop
  | with_reducible apply KR.ret
  | with_reducible apply KR.retN
  | with_reducible apply KR.next
  | with_reducible apply KR.ifs
  | with_reducible refine KR.var rfl ?_
  | with_reducible refine L2.iteT ?_
  | with_reducible refine L2.iteF ?_
  | with_reducible refine KR.iteNF ?_
  | with_reducible refine KR.iteNT ?_
  | with_reducible apply KR.con
  | with_reducible apply KR.op
  | with_reducible apply KR.opI0
  | ((with_reducible refine KR.opI ?rc ?_); (case rc => walk_at "rc"))
  | with_reducible apply KR.un
  | with_reducible apply KR.unI
  | with_reducible apply KR.eqI
  | with_reducible apply KR.neI
  | with_reducible apply KR.test
  | with_reducible apply KR.tb'
  | with_reducible apply KR.exbl
  | with_reducible apply KR.and'
  | with_reducible apply KR.or'
  | with_reducible apply KR.not'
  | with_reducible apply KR.chain
  | with_reducible apply KR.call
  | with_reducible apply KR.callS
  | with_reducible apply KR.make
  | with_reducible apply KR.bm
  | with_reducible apply KR.errF
  | with_reducible apply KR.cons
  | with_reducible apply KR.nil
  | with_reducible apply KR.cb
  | with_reducible apply KR.cInt1
  | with_reducible apply KR.cI1
  | with_reducible apply KR.cI2
  | with_reducible apply KR.isi_ii
  | with_reducible apply KR.isi_ib
  | with_reducible apply KR.bits
  | with_reducible apply KR.exint
  | with_reducible apply KR.ifx
  | with_reducible refine KR.aug rfl ?_
  | with_reducible apply KR.ipI
  | with_reducible apply KR.for'
  | with_reducible apply KR.rng1
  | with_reducible apply KR.rng2
  | with_reducible apply KR.ilist
  | with_reducible apply KR.itup
  | with_reducible apply KR.iseq
  | with_reducible apply KR.gcd
  | with_reducible apply KR.tup
  | with_reducible apply KR.lst
  | with_reducible apply KR.andV
  | with_reducible apply KR.orV
  | with_reducible apply KR.notV
  | with_reducible apply KR.asgG
  | with_reducible apply KR.sub
  | with_reducible apply KR.fld
  | with_reducible apply KR.prop
  | with_reducible apply KR.meth
  | with_reducible apply KR.par
  | with_reducible apply KR.parN
  | with_reducible apply KR.raise1
  | with_reducible apply KR.raise0
  | with_reducible apply KR.exv
  | with_reducible apply KR.lc
  | with_reducible apply KR.ienT
  | with_reducible apply KR.sfld
  | with_reducible apply KR.sl
  | with_reducible apply KR.part
  | with_reducible apply KR.nopart
  | with_reducible apply KR.isNo
  | with_reducible refine KR.nnT ?_
  | with_reducible refine KR.niF ?_
  | with_reducible refine KR.nrF ?_
  | with_reducible refine KR.mnT ?_
  | with_reducible refine KR.miF ?_
  | with_reducible refine KR.mrF ?_))
theorem lg {n k : Nat} (h : n < 2 ^ k) : n.log2 ≤ k := by
  by_cases z : n = 0
  · rw [z]
    exact Nat.zero_le _
  · have := (Nat.log2_lt z).mpr h
    omega
theorem mulW {i j : Int} {k : Nat} (hk : k < 400000) (hi : i.natAbs < 2 ^ k) (hj : j.natAbs < 2 ^ k) : CMulW i j := by
  have h1 := lg hi
  have h2 := lg hj
  show i.natAbs.log2 + j.natAbs.log2 < 1000000
  omega
theorem divW {i j : Int} {k : Nat} (hk : k < 9000) (hj : 0 < j) (h : j.natAbs < 2 ^ k) : CDivW i j := ⟨hj, by
  have := lg h
  omega⟩
theorem pow_lt7 {b r k : Nat} (hb : b < 128) (hr : 7 * r < k) : b ^ r < 2 ^ k := by
  have h1 : b ^ r ≤ (2 ^ 7) ^ r := Nat.pow_le_pow_left (by omega) r
  rw [← Nat.pow_mul] at h1
  have h2 : 2 ^ (7 * r) < 2 ^ k := Nat.pow_lt_pow_right (by decide) hr
  omega
section
variable {P : Program} {w : World} {K : PySem.W.Frag} {mg : Str → Option Value} {base : Heap} {A : Ad}
def PowOk (b : Int) (e : Nat) : Prop := ∀ r, (r ≤ e ∨ r ≤ 1) → (b ^ r).natAbs < 2 ^ 5000
theorem powOk {b : Int} {e c k : Nat} (hb : b.natAbs < 2 ^ c) (h1 : 1 ≤ k) (he : e ≤ k) (h : c * k < 5000) : PowOk b e := by
  intro r hr
  rw [Int.natAbs_pow]
  have h1 : b.natAbs ^ r ≤ (2 ^ c) ^ r := Nat.pow_le_pow_left (by omega) r
  rw [← Nat.pow_mul] at h1
  have h2 : c * r ≤ c * k := Nat.mul_le_mul_left c (by omega)
  have h3 : 2 ^ (c * r) < 2 ^ 5000 := Nat.pow_lt_pow_right (by decide) (by omega)
  omega
def sp_power : Sp := fun vs H Q _ => ∃ (b : Int) (e : Nat), vs = [.int b, .int e] ∧ PowOk b e ∧ Q (.int (b ^ e)) H
theorem ok_power (T : Txt P K mg A) : FnOk P w K mg base CX0 1 A.a_power A.d_power ["base", "exponent"] sp_power := by
  refine T.F_power.ok sc_power (fun vs H Q E h => ?_) (fun cdv Ar outer s H vs Q E hr h => ?_)
  · obtain ⟨_, _, rfl, _⟩ := h; rfl
  have nd := sc_power.nd
  obtain ⟨b, e, rfl, hb, q⟩ := h
  refine ⟨_, (pss_cons (ps_set (i := 2) nd rfl (.inl rfl) pe_int)
    (pss_cons (ps_set (i := 3) nd rfl (.inl rfl) (pv 0))
    (pss_cons (ps_set (i := 4) nd rfl (.inl rfl) (pv 1))
    (pss_cons (ps_while PassesOwn.never (pt_cmpR op_gt (pv 4) pe_int (nomark _)) (pss_cons (ps_if (pt_cmpR op_eq (pe_op op_mod (pv 4) pe_int) pe_int (nomark _)) (pss_one (ps_set (i := 2) nd rfl (.inl rfl) (pe_op op_mulW (pv 2) (pv 3)))) pss_nil)
    (pss_cons (ps_set (i := 4) nd rfl (.inl rfl) (pe_op op_fdiv (pv 4) pe_int))
    (pss_one (ps_if (pt_cmpR op_gt (pv 4) pe_int (nomark _)) (pss_one (ps_set (i := 3) nd rfl (.inl rfl) (pe_op op_mulW (pv 3) (pv 3)))) pss_nil)))))
    (pss_one (ps_ret (pv 2))))))), ?_⟩
  walk_at "rd"
  refine KR.whl (fun m σ' H' => ∃ r s t : Nat, m = t ∧ H' = H ∧ r + s * t = e ∧ (0 < t → 1 ≤ s) ∧ (s ≤ e ∨ s ≤ 1) ∧ σ' = [some (.int b), some (.int e), some (.int (b ^ r)), some (.int (b ^ s)), some (.int t)]) e ⟨0, 1, e, rfl, rfl, by omega, fun _ => Nat.le_refl _, .inr (Nat.le_refl _), by rw [Int.pow_zero, Int.pow_succ, Int.pow_zero, Int.one_mul]; rfl⟩ ?_
  rintro t σ' H' ⟨r, s, _, rfl, rfl, hrs, hs, hs4, rfl⟩
  walk_at "rd"
  refine KR.iteD (fun hp => KR.turn ?_) (fun hq => ?_)
  · have ht : 0 < t := by omega
    have hst : s ≤ s * t := Nat.le_mul_of_pos_right s ht
    walk_at "rd"
    refine KR.iteD (fun ho => ?_) (fun hn => ?_)
    · walk_at "rd"
      refine KR.opI (mulW (k := 5000) (by decide) (hb r (.inl (by omega))) (hb s hs4)) ?_
      walk_at "rd"
      have et : t = 2 * (t / 2) + 1 := by omega
      refine KR.iteD (fun hp2 => ?_) (fun hq2 => ?_)
      · have ht2 : 1 ≤ t / 2 := by omega
        have h3 : r + s + (s + s) * (t / 2) = e := by
          rw [et, Nat.mul_add, Nat.mul_one, ← Nat.mul_assoc, Nat.mul_two] at hrs
          omega
        have h4 : s + s ≤ (s + s) * (t / 2) := Nat.le_mul_of_pos_right _ ht2
        walk_at "rd"
        refine KR.opI (mulW (k := 5000) (by decide) (hb s hs4) (hb s hs4)) ?_
        walk_at "rd"
        exact ⟨t / 2, by omega, r + s, s + s, t / 2, rfl, rfl, h3, fun _ => by have := hs ht; omega, by omega, by rw [Int.pow_add, Int.pow_add]; rfl⟩
      · walk_at "rd"
        have h0 : t / 2 = 0 := by omega
        have h3 : r + s = e := by
          rw [et, h0] at hrs
          omega
        exact ⟨t / 2, by omega, r + s, s, t / 2, rfl, rfl, by rw [h0, Nat.mul_zero]; omega, fun z => by omega, hs4, by rw [Int.pow_add]; rfl⟩
    · walk_at "rd"
      have et : t = 2 * (t / 2) := by omega
      refine KR.iteD (fun hp2 => ?_) (fun hq2 => ?_)
      · have ht2 : 1 ≤ t / 2 := by omega
        have h3 : r + (s + s) * (t / 2) = e := by
          rw [et, ← Nat.mul_assoc, Nat.mul_two] at hrs
          exact hrs
        have h4 : s + s ≤ (s + s) * (t / 2) := Nat.le_mul_of_pos_right _ ht2
        walk_at "rd"
        refine KR.opI (mulW (k := 5000) (by decide) (hb s hs4) (hb s hs4)) ?_
        walk_at "rd"
        exact ⟨t / 2, by omega, r, s + s, t / 2, rfl, rfl, h3, fun _ => by have := hs ht; omega, by omega, by rw [Int.pow_add]; rfl⟩
      · exfalso
        omega
  · walk_at "rd"
    have ht : t = 0 := by omega
    rw [ht, Nat.mul_zero, Nat.add_zero] at hrs
    rw [hrs]
    exact q
def sp_power_mod : Sp := fun vs H Q _ => ∃ (b : Int) (e m : Nat), vs = [.int b, .int e, .int m] ∧ 1 ≤ m ∧ m < 2 ^ 60 ∧ e < 1000000 ∧ Q (.int (((b % (m : Int)).toNat ^ e % m : Nat) : Int)) H
theorem pm_step {m : Nat} {S t : Nat} : (S * S % m) ^ t % m = S ^ (2 * t) % m := by
  rw [← Nat.pow_mod, Nat.pow_mul, Nat.pow_two]
theorem ok_power_mod (T : Txt P K mg A) : FnOk P w K mg base CX0 1 A.a_power_mod A.d_power_mod ["base", "exponent", "modulus"] sp_power_mod := by
  refine T.F_power_mod.ok sc_power_mod (fun vs H Q E h => ?_) (fun cdv Ar outer s H vs Q E hr h => ?_)
  · obtain ⟨_, _, _, rfl, _⟩ := h; rfl
  have nd := sc_power_mod.nd
  obtain ⟨b, e, m, rfl, hm, hm2, he, q⟩ := h
  refine ⟨_, (pss_cons (ps_set (i := 3) nd rfl (.inl rfl) (pe_op op_mod pe_int (pv 2)))
    (pss_cons (ps_set (i := 4) nd rfl (.inl rfl) (pe_op op_mod (pv 0) (pv 2)))
    (pss_cons (ps_set (i := 5) nd rfl (.inl rfl) (pv 1))
    (pss_cons (ps_while PassesOwn.never (pt_cmpR op_gt (pv 5) pe_int (nomark _)) (pss_cons (ps_if (pt_cmpR op_eq (pe_op op_mod (pv 5) pe_int) pe_int (nomark _)) (pss_one (ps_set (i := 3) nd rfl (.inl rfl) (pe_op op_mod (pe_op op_mul (pv 3) (pv 4)) (pv 2)))) pss_nil)
    (pss_cons (ps_set (i := 5) nd rfl (.inl rfl) (pe_op op_fdiv (pv 5) pe_int))
    (pss_one (ps_if (pt_cmpR op_gt (pv 5) pe_int (nomark _)) (pss_one (ps_set (i := 4) nd rfl (.inl rfl) (pe_op op_mod (pe_op op_mul (pv 4) (pv 4)) (pv 2)))) pss_nil)))))
    (pss_one (ps_ret (pv 3))))))), ?_⟩
  walk_at "rd"
  obtain ⟨c, hc⟩ := Int.eq_ofNat_of_zero_le (Int.emod_nonneg b (show (m : Int) ≠ 0 by omega))
  have hcm : c < m := by have := Int.emod_lt_of_pos b (show (0 : Int) < m by omega); omega
  rw [hc] at q ⊢
  rw [Int.toNat_natCast] at q
  refine KR.whl (fun M σ' H' => ∃ R S t : Nat, M = t ∧ H' = H ∧ R < m ∧ S < m ∧ R * S ^ t % m = c ^ e % m ∧ σ' = [some (.int b), some (.int e), some (.int m), some (.int R), some (.int S), some (.int t)]) e
    ⟨1 % m, c, e, rfl, rfl, Nat.mod_lt _ (by omega), hcm, by rw [Nat.mod_mul_mod, Nat.one_mul], rfl⟩ ?_
  rintro t σ' H' ⟨R, S, _, rfl, rfl, hR, hS, hE, rfl⟩
  walk_at "rd"
  refine KR.iteD (fun hp => KR.turn ?_) (fun hq => ?_)
  · walk_at "rd"
    refine KR.iteD (fun ho => ?_) (fun hn => ?_)
    · walk_at "rd"
      have et : t = 2 * (t / 2) + 1 := by omega
      have hE2 : (R * S % m) * S ^ (2 * (t / 2)) % m = c ^ e % m := by
        rw [← hE, Nat.mod_mul_mod, Nat.mul_assoc, ← Nat.pow_succ']
        congr 3
        exact et.symm
      refine KR.iteD (fun hp2 => ?_) (fun hq2 => ?_)
      · walk_at "rd"
        exact ⟨t / 2, by omega, R * S % m, S * S % m, t / 2, rfl, rfl, Nat.mod_lt _ (by omega), Nat.mod_lt _ (by omega), by rw [Nat.mul_mod, pm_step, ← Nat.mul_mod]; exact hE2, rfl⟩
      · walk_at "rd"
        exact ⟨t / 2, by omega, R * S % m, S, t / 2, rfl, rfl, Nat.mod_lt _ (by omega), hS, by
          have h0 : t / 2 = 0 := by omega
          rw [h0] at hE2 ⊢
          exact hE2, rfl⟩
    · walk_at "rd"
      have et : t = 2 * (t / 2) := by omega
      refine KR.iteD (fun hp2 => ?_) (fun hq2 => ?_)
      · walk_at "rd"
        exact ⟨t / 2, by omega, R, S * S % m, t / 2, rfl, rfl, hR, Nat.mod_lt _ (by omega), by rw [Nat.mul_mod, pm_step, ← Nat.mul_mod, ← et]; exact hE, rfl⟩
      · exfalso
        omega
  · walk_at "rd"
    have ht : t = 0 := by omega
    rw [ht, Nat.pow_zero, Nat.mul_one, Nat.mod_eq_of_lt hR] at hE
    rw [hE]
    exact q
def sp_inverse_mod : Sp := fun vs H Q _ => ∃ (a : Int) (m : Nat), vs = [.int a, .int m] ∧ 2 ≤ m ∧ m < 2 ^ 5000 ∧ Nat.gcd m ((a % (m : Int)).toNat) = 1 ∧ ∀ v : Int, 0 ≤ v → v < m → (m : Int) ∣ a * v - 1 → Q (.int v) H
theorem ok_inverse_mod (T : Txt P K mg A) : FnOk P w K mg base CX0 1 A.a_inverse_mod A.d_inverse_mod ["a", "modulus"] sp_inverse_mod := by
  refine T.F_inverse_mod.ok sc_inverse_mod (fun vs H Q E h => ?_) (fun cdv Ar outer s H vs Q E hr h => ?_)
  · obtain ⟨_, _, rfl, _⟩ := h; rfl
  have nd := sc_inverse_mod.nd
  obtain ⟨a, m, rfl, hm, hmb, hg, q⟩ := h
  refine ⟨_, (pss_cons (ps_set (i := 2) nd rfl (.inl rfl) (pv 1))
    (pss_cons (ps_set (i := 3) nd rfl (.inl rfl) (pe_op op_mod (pv 0) (pv 1)))
    (pss_cons (ps_set (i := 4) nd rfl (.inl rfl) pe_int)
    (pss_cons (ps_set (i := 5) nd rfl (.inl rfl) pe_int)
    (pss_cons (ps_while PassesOwn.never (pt_cmpR op_gt (pv 3) pe_int (nomark _)) (pss_cons (ps_set (i := 6) nd rfl (.inl rfl) (pe_op op_fdivW (pv 2) (pv 3)))
    (pss_cons (ps_par (i := 2) (j := 3) (by rfl) nd rfl rfl (by decide) rfl rfl (pa_cons (pv 3) (pa_cons (pe_op op_sub (pv 2) (pe_op op_mulW (pv 6) (pv 3))) pa_nil)) (by rfl))
    (pss_one (ps_par (i := 4) (j := 5) (by rfl) nd rfl rfl (by decide) rfl rfl (pa_cons (pv 5) (pa_cons (pe_op op_sub (pv 4) (pe_op op_mulW (pv 6) (pv 5))) pa_nil)) (by rfl))))))
    (pss_one (ps_ret (pe_op op_mod (pv 4) (pv 1))))))))), ?_⟩
  walk_at "rd"
  obtain ⟨c, hc⟩ := Int.eq_ofNat_of_zero_le (Int.emod_nonneg a (show (m : Int) ≠ 0 by omega))
  have hcm : c < m := by have := Int.emod_lt_of_pos a (show (0 : Int) < m by omega); omega
  have hca : (m : Int) ∣ (c : Int) - 1 * a := by
    rw [← hc, Int.one_mul]
    have := Int.dvd_self_sub_emod (x := a) (m := (m : Int))
    have e : a % (m : Int) - a = -(a - a % m) := by omega
    rw [e]
    exact Int.dvd_neg.mpr this
  rw [hc] at hg ⊢
  rw [Int.toNat_natCast] at hg
  refine KR.whl (fun M σ' H' => ∃ (o n : Nat) (bf fc : Int) (z : Option V), M = n ∧ H' = H ∧ n < o ∧ Nat.gcd o n = 1 ∧ (m : Int) ∣ (o : Int) - bf * a ∧ (m : Int) ∣ (n : Int) - fc * a ∧ fc.natAbs * o + bf.natAbs * n ≤ m ∧ o ≤ m ∧
      σ' = [some (.int a), some (.int m), some (.int o), some (.int n), some (.int bf), some (.int fc), z]) c
    ⟨m, c, 0, 1, none, rfl, rfl, hcm, hg, by rw [Int.zero_mul, Int.sub_zero]; exact Int.dvd_refl _, hca, by show 1 * m + 0 * c ≤ m; omega, Nat.le_refl _, rfl⟩ ?_
  rintro n σ' H' ⟨o, _, bf, fc, z, rfl, rfl, hno, hgc, d1, d2, hb, hom, rfl⟩
  walk_at "rd"
  refine KR.iteD (fun hp => KR.turn ?_) (fun hq => ?_)
  · have hn0 : 0 < n := by omega
    have hfm : fc.natAbs ≤ m := by
      have : fc.natAbs ≤ fc.natAbs * o := Nat.le_mul_of_pos_right _ (by omega)
      omega
    have hqo : o / n ≤ o := Nat.div_le_self _ _
    walk_at "rd"
    refine KR.opI (divW (k := 5000) (by decide) (by omega) (by show n < _; omega)) ?_
    have eq : (o : Int) / (n : Int) = ((o / n : Nat) : Int) := rfl
    rw [eq]
    walk_at "rd"
    refine KR.opI (mulW (k := 5000) (by decide) (by show o / n < _; omega) (by show n < _; omega)) ?_
    walk_at "rd"
    refine KR.opI (mulW (k := 5000) (by decide) (by show o / n < _; omega) (by omega)) ?_
    walk_at "rd"
    have em : (o : Int) - ((o / n : Nat) : Int) * n = ((o % n : Nat) : Int) := by
      have := Nat.div_add_mod o n
      rw [← Int.natCast_mul, Nat.mul_comm]
      omega
    rw [em]
    refine ⟨o % n, Nat.mod_lt _ hn0, n, o % n, fc, bf - ((o / n : Nat) : Int) * fc, _, rfl, rfl, Nat.mod_lt _ hn0, by rw [Nat.gcd_comm, ← Nat.gcd_rec, Nat.gcd_comm]; exact hgc, d2, ?_, ?_, by omega, rfl⟩
    · rw [← em]
      have e : (o : Int) - ((o / n : Nat) : Int) * n - (bf - ((o / n : Nat) : Int) * fc) * a = ((o : Int) - bf * a) - ((o / n : Nat) : Int) * ((n : Int) - fc * a) := by
        rw [Int.sub_mul, Int.mul_sub, Int.mul_assoc]
        omega
      rw [e]
      exact Int.dvd_sub d1 (Int.dvd_mul_of_dvd_right d2)
    · have h1 : (bf - ((o / n : Nat) : Int) * fc).natAbs ≤ bf.natAbs + o / n * fc.natAbs := by
        have := Int.natAbs_sub_le bf (((o / n : Nat) : Int) * fc)
        rw [Int.natAbs_mul, Int.natAbs_natCast] at this
        exact this
      have h2 : (bf - ((o / n : Nat) : Int) * fc).natAbs * n ≤ (bf.natAbs + o / n * fc.natAbs) * n := Nat.mul_le_mul_right n h1
      have h3 : (bf.natAbs + o / n * fc.natAbs) * n + fc.natAbs * (o % n) = bf.natAbs * n + fc.natAbs * o := by
        have := Nat.div_add_mod o n
        rw [Nat.add_mul]
        have e : o / n * fc.natAbs * n = fc.natAbs * (n * (o / n)) := by rw [Nat.mul_comm (o / n), Nat.mul_assoc, Nat.mul_comm (o / n)]
        rw [e]
        have e2 : fc.natAbs * (n * (o / n)) + fc.natAbs * (o % n) = fc.natAbs * o := by rw [← Nat.mul_add, this]
        omega
      omega
  · walk_at "rd"
    have hn0 : n = 0 := by omega
    rw [hn0, Nat.gcd_zero_right] at hgc
    rw [hgc] at d1
    refine q _ (Int.emod_nonneg _ (by omega)) (Int.emod_lt_of_pos _ (by omega)) ?_
    have h1 : (m : Int) ∣ bf - bf % m := Int.dvd_self_sub_emod
    have e : a * (bf % m) - 1 = -((1 : Nat) - bf * a) - a * (bf - bf % m) := by
      rw [Int.mul_sub, Int.mul_comm bf a]
      show a * (bf % m) - 1 = -(1 - a * bf) - (a * bf - a * (bf % m))
      omega
    rw [e]
    exact Int.dvd_sub (Int.dvd_neg.mpr d1) (Int.dvd_mul_of_dvd_right h1)
theorem div_p {p : Nat} {r : Int} (hr : r % (p : Int) = 0) : r = (p : Int) * (r / p) := (Int.mul_ediv_cancel' (Int.dvd_of_emod_eq_zero hr)).symm
theorem div_ne {p : Nat} {r : Int} (h : r ≠ 0) (hr : r % (p : Int) = 0) : r / (p : Int) ≠ 0 := fun z => h (by rw [div_p hr, z, Int.mul_zero])
theorem div_small {p : Nat} {r : Int} (hp : 2 ≤ p) (h : r ≠ 0) (hr : r % (p : Int) = 0) : (r / (p : Int)).natAbs < r.natAbs := by
  have e := div_p hr
  have h1 : r.natAbs = p * (r / (p : Int)).natAbs := by
    have e2 := congrArg Int.natAbs e
    rw [Int.natAbs_mul, Int.natAbs_natCast] at e2
    exact e2
  have h2 : 0 < (r / (p : Int)).natAbs := Int.natAbs_pos.mpr (div_ne h hr)
  rw [h1]
  have := Nat.mul_lt_mul_of_pos_right (show 1 < p by omega) h2
  rwa [Nat.one_mul] at this
theorem up_pow {p f : Nat} {n r : Int} (e : n = (p : Int) ^ f * r) (hr : r % (p : Int) = 0) : n = (p : Int) ^ (f + 1) * (r / p) := by
  rw [Int.pow_succ, Int.mul_assoc, ← div_p hr, ← e]
def sp_parted : Sp := fun vs H Q _ => ∃ (p : Nat) (n : Int), vs = [.int p, .int n] ∧ 2 ≤ p ∧ p < 100 ∧ n ≠ 0 ∧ ∀ a, H a = none → Q (.ref a) (upd H a (.tup [.int (vI p n : Nat), .int (un p n)]))
theorem ok_parted (T : Txt P K mg A) : FnOk P w K mg base CX0 1 A.a_parted A.d_parted ["p", "n"] sp_parted := by
  refine T.F_parted.ok sc_parted (fun vs H Q E h => ?_) (fun cdv Ar outer s H vs Q E hr h => ?_)
  · obtain ⟨_, _, rfl, _⟩ := h; rfl
  have nd := sc_parted.nd
  obtain ⟨p, n, rfl, h2, h9, hn, q⟩ := h
  refine ⟨_, (pss_cons (ps_set (i := 2) nd rfl (.inl rfl) pe_int)
    (pss_cons (ps_set (i := 3) nd rfl (.inl rfl) (pv 1))
    (pss_cons (ps_while PassesOwn.never (pt_cmpR op_eq (pe_op op_mod (pv 3) (pv 0)) pe_int (nomark _)) (pss_cons (ps_set (i := 3) nd rfl (.inl rfl) (pe_op op_fdiv (pv 3) (pv 0)))
    (pss_one (ps_aug (i := 2) nd rfl (.inl rfl) pe_int ip_add))))
    (pss_one (ps_ret (pe_tup (pa_cons (pv 2) (pa_cons (pv 3) pa_nil)))))))), ?_⟩
  walk_at "rd"
  refine KR.whl (fun m σ' H' => ∃ (f : Nat) (r : Int), m = r.natAbs ∧ H' = H ∧ σ' = [some (.int p), some (.int n), some (.int f), some (.int r)] ∧ r ≠ 0 ∧ n = (p : Int) ^ f * r) n.natAbs ⟨0, n, rfl, rfl, rfl, hn, by rw [Int.pow_zero, Int.one_mul]⟩ ?_
  rintro m σ' H' ⟨f, r, rfl, rfl, rfl, hr, e⟩
  walk_at "rd"
  refine KR.iteD (fun hp => KR.turn ?_) (fun hq => ?_)
  · walk_at "rd"
    exact ⟨(r / (p : Int)).natAbs, div_small h2 hr hp, f + 1, r / p, rfl, rfl, rfl, div_ne hr hp, up_pow e hp⟩
  · walk_at "rd"
    obtain ⟨e1, e2⟩ := form_uniq h2 e (fun z => hq (Int.emod_eq_zero_of_dvd z))
    rw [e1, e2] at q
    exact ⟨by show 2 ≤ sizeLine; decide, fun a ha => q a ha⟩
def sp_int_depth : Sp := fun vs H Q _ => ∃ (p : Nat) (n : Int), vs = [.int p, .int n] ∧ 2 ≤ p ∧ p < 100 ∧ n ≠ 0 ∧ ∀ H2, Evl.Ex H H2 → Q (.int (vI p n : Nat)) H2
theorem ok_int_depth (T : Txt P K mg A) : FnOk P w K mg base CX0 2 A.a_int_depth A.d_int_depth ["p", "n"] sp_int_depth := by
  refine T.F_int_depth.ok sc_int_depth (fun vs H Q E h => ?_) (fun cdv Ar outer s H vs Q E hr h => ?_)
  · obtain ⟨_, _, rfl, _⟩ := h; rfl
  have nd := sc_int_depth.nd
  obtain ⟨p, n, rfl, h2, h9, hn, q⟩ := h
  refine ⟨_, (pss_one (ps_ret (pe_ix ix_tup (pe_call (ok_parted T) (hr.mono (by decide)) (by rfl) T.g_parted T.k_parted T.b_parted .nil pass0 (pa_cons (pv 0) (pa_cons (pv 1) pa_nil))) pe_int (fun _ _ => rfl)))), ?_⟩
  walk_at "rd"
  refine ⟨p, n, rfl, h2, h9, hn, fun a ha => ?_⟩
  walk_at "rd"
  refine KR.ixT (.inl (.inl upd_same)) (v := .int (vI p n : Nat)) (atI_nat (j := 0) rfl) ?_
  exact q _ (Evl.Ex.new ha)
end
end K9
namespace K9
open PySem PySem.Spec PyProof.Rows L2 K7
local macro_rules | `(tactic| walk_at "rc") => `(tactic| first
  | assumption
  | (show (0 : Int) < _; omega)
  | (show (0 : Int) < _ ∧ _ < (1073741824 : Int); exact ⟨by omega, by omega⟩)
  | (show (-(2 ^ 64 : Int) < _ ∧ _ < (2 ^ 64 : Int)) ∨ _; exact .inl ⟨by omega, by omega⟩)
  | (show _ ∨ (-(2 ^ 64 : Int) < _ ∧ _ < (2 ^ 64 : Int)); exact .inr ⟨by omega, by omega⟩)
  | (show (0 : Int) ≤ _ ∧ _ ≤ (1000000 : Int) ∧ _ < 2 ^ 64; exact ⟨by decide, by decide, by decide⟩))
local macro_rules | `(tactic| walk_at "rd") => `(tactic| repeat (first
  | with_reducible apply KR.seq
  | with_reducible apply KR.asg
  | with_reducible apply KR.drop
  | with_reducible apply KR.ret
  | with_reducible apply KR.retN
  | with_reducible apply KR.next
  | with_reducible apply KR.ifs
  | with_reducible refine KR.var rfl ?_
  | with_reducible refine L2.iteT ?_
  | with_reducible refine L2.iteF ?_
  | with_reducible refine KR.iteNF ?_
  | with_reducible refine KR.iteNT ?_
  | with_reducible apply KR.con
  | with_reducible apply KR.op
  | with_reducible apply KR.opI0
  | ((with_reducible refine KR.opI ?rc ?_); (case rc => walk_at "rc"))
  | with_reducible apply KR.un
  | with_reducible apply KR.unI
  | with_reducible apply KR.eqI
  | with_reducible apply KR.neI
  | with_reducible apply KR.test
  | with_reducible apply KR.tb'
  | with_reducible apply KR.exbl
  | with_reducible apply KR.and'
  | with_reducible apply KR.or'
  | with_reducible apply KR.not'
  | with_reducible apply KR.chain
  | with_reducible apply KR.call
  | with_reducible apply KR.callS
  | with_reducible apply KR.make
  | with_reducible apply KR.bm
  | with_reducible apply KR.errF
  | with_reducible apply KR.cons
  | with_reducible apply KR.nil
  | with_reducible apply KR.cb
  | with_reducible apply KR.cInt1
  | with_reducible apply KR.cI1
  | with_reducible apply KR.cI2
  | with_reducible apply KR.isi_ii
  | with_reducible apply KR.isi_ib
  | with_reducible apply KR.bits
  | with_reducible apply KR.exint
  | with_reducible apply KR.ifx
  | with_reducible refine KR.aug rfl ?_
  | with_reducible apply KR.ipI
  | with_reducible apply KR.for'
  | with_reducible apply KR.rng1
  | with_reducible apply KR.rng2
  | with_reducible apply KR.ilist
  | with_reducible apply KR.itup
  | with_reducible apply KR.iseq
  | with_reducible apply KR.gcd
  | with_reducible apply KR.tup
  | with_reducible apply KR.lst
  | with_reducible apply KR.andV
  | with_reducible apply KR.orV
  | with_reducible apply KR.notV
  | with_reducible apply KR.asgG
  | with_reducible apply KR.sub
  | with_reducible apply KR.fld
  | with_reducible apply KR.prop
  | with_reducible apply KR.meth
  | with_reducible apply KR.par
  | with_reducible apply KR.parN
  | with_reducible apply KR.raise1
  | with_reducible apply KR.raise0
  | with_reducible apply KR.exv
  | with_reducible apply KR.lc
  | with_reducible apply KR.ienT
  | with_reducible apply KR.sfld
  | with_reducible apply KR.sl
  | with_reducible apply KR.part
  | with_reducible apply KR.nopart
  | with_reducible apply KR.isNo
  | with_reducible refine KR.nnT ?_
  | with_reducible refine KR.niF ?_
  | with_reducible refine KR.nrF ?_
  | with_reducible refine KR.mnT ?_
  | with_reducible refine KR.miF ?_
  | with_reducible refine KR.mrF ?_))
theorem inV_int (a : Int) (l : List Int) : inV (.int a) (l.map V.int) = decide (a ∈ l) := by
  unfold inV
  induction l with
  | nil => rfl
  | cons x r ih =>
    rw [List.map_cons, List.any_cons, ih]
    show ((x == a) || _) = _
    by_cases h : x = a
    · rw [h]; simp
    · have h' : ¬ a = x := fun z => h z.symm
      simp [h, h']
theorem flat_ints (l : List Int) : (l.map V.int).all flatV = true := by
  rw [List.all_map, List.all_eq_true]
  intro x _
  rfl
theorem pr_of {p : Int} (h : p ∈ primesL) : ∃ q : Nat, p = (q : Int) ∧ q ∈ primesN ∧ 2 ≤ q ∧ q < 100 := by
  have : ∀ x ∈ primesL, x.toNat ∈ primesN ∧ 2 ≤ x ∧ x < 100 := by decide
  obtain ⟨h1, h2, h3⟩ := this p h
  exact ⟨p.toNat, by omega, h1, by omega, by omega⟩
theorem of_pr {q : Nat} (h : q ∈ primesN) : (q : Int) ∈ primesL ∧ 2 ≤ q ∧ q < 100 := by
  have : ∀ x ∈ primesN, (x : Int) ∈ primesL ∧ 2 ≤ x ∧ x < 100 := by decide
  exact this q h
abbrev errF (f : Str) (A : Addr) (E : XK) (H : Hp) (a : Int) : Prop := ∀ d, H d = none → E (.ref A) (some d) (upd H d (.xd [(f, .int a)]))
abbrev errD (A : Addr) (E : XK) (H : Hp) (a : Int) : Prop := errF "number" A E H a
def okA (n : Int) : Prop := -1000000000000 ≤ n ∧ n ≤ 1000000000000
theorem vI_lt {p : Nat} (hp : 2 ≤ p) {n : Int} (hn : n ≠ 0) {k : Nat} (h : n.natAbs < 2 ^ k) : vI p n < k := by
  have h1 := vN_lt_pow hp (show 0 < n.natAbs by omega)
  have h2 : 2 ^ vN p n.natAbs ≤ p ^ vN p n.natAbs := Nat.pow_le_pow_left hp _
  refine Decidable.by_contra fun c => ?_
  have h3 : (2 : Nat) ^ k ≤ 2 ^ vN p n.natAbs := Nat.pow_le_pow_right (by decide) (by unfold vI at c; omega)
  omega
theorem un_le {p : Nat} (hp : 2 ≤ p) {n : Int} (hn : n ≠ 0) : (un p n).natAbs ≤ n.natAbs := by
  have e := congrArg Int.natAbs (form hp hn).1
  rw [Int.natAbs_mul] at e
  have : 1 ≤ ((p : Int) ^ vI p n).natAbs := by
    have : (0 : Int) < (p : Int) ^ vI p n := Int.pow_pos (by omega)
    omega
  have := Nat.mul_le_mul_right (un p n).natAbs this
  omega
section
variable {P : Program} {w : World} {K : PySem.W.Frag} {mg : Str → Option Value} {base : Heap} {A : Ad}
theorem Txt.sqSP (T : Txt P K mg A) (H : Hp) : SqT K H A.aSP (primesL.map V.int) := by
  obtain ⟨dd, its, n, sl, h1, h2, h3⟩ := T.tSP
  exact .inr ⟨_, its, n, h1, rfl, rfl, h2, h3⟩
def sp_look_prime (A : Ad) : Sp := fun vs H Q E => ∃ a : Int, vs = [.int a] ∧ (a ∈ primesL → Q .non H) ∧ (a ∉ primesL → errD A.a_PrimeError E H a)
theorem ok_look_prime (T : Txt P K mg A) : FnOk P w K mg base (L2N.CX P w) 2 A.a_look_prime A.d_look_prime ["p"] (sp_look_prime A) := by
  refine T.F_look_prime.okN sc_look_prime (fun vs H Q E h => ?_) (fun cdv Ar outer s H vs Q E hr h => ?_)
  · obtain ⟨_, rfl, _⟩ := h; rfl
  have nd := sc_look_prime.nd
  obtain ⟨a, rfl, q, e⟩ := h
  refine ⟨_, (pss_one (ps_if (pt_cmpR op_notIn_seq (pv 0) (pe_glob (v := .ref A.aSP) (by rfl) T.c_SMALL_PRIMES rfl) (by rfl)) (pss_one (ps_raise1 rfl T.e_PrimeError PySem.KX.fld_number hr (L2N.takes_of rfl rfl rfl rfl) (pa_cons (pv 0) pa_nil) (by rfl))) pss_nil)), ?_⟩
  walk_at "rd"
  refine ⟨A.aSP, _, rfl, .inr (T.sqSP H), rfl, flat_ints _, ?_⟩
  rw [inV_int]
  walk_at "rd"
  refine KR.iteND (fun hn => ?_) (fun hp => ?_)
  · walk_at "rd"
    exact fun d hd => e hn d hd
  · walk_at "rd"
    exact q hp
def sp_look_range (A : Ad) : Sp := fun vs H Q E => ∃ a lo hi : Int, vs = [.int a, .int lo, .int hi] ∧ (lo ≤ a ∧ a ≤ hi → Q .non H) ∧ (¬ (lo ≤ a ∧ a ≤ hi) → errD A.a_RangeError E H a)
theorem ok_look_range (T : Txt P K mg A) : FnOk P w K mg base (L2N.CX P w) 2 A.a_look_range A.d_look_range ["number", "low", "high"] (sp_look_range A) := by
  refine T.F_look_range.okN sc_look_range (fun vs H Q E h => ?_) (fun cdv Ar outer s H vs Q E hr h => ?_)
  · obtain ⟨_, _, _, rfl, _⟩ := h; rfl
  have nd := sc_look_range.nd
  obtain ⟨a, lo, hi, rfl, q, e⟩ := h
  refine ⟨_, (pss_one (ps_if (pt_not (pt_chain op_le op_le (pv 1) (pv 0) (pv 2))) (pss_one (ps_raise1 rfl T.e_RangeError PySem.KX.fld_number hr (L2N.takes_of rfl rfl rfl rfl) (pa_cons (pv 0) pa_nil) (by rfl))) pss_nil)), ?_⟩
  walk_at "rd"
  refine KR.iteD (fun h1 => ?_) (fun h1 => ?_)
  · walk_at "rd"
    refine KR.iteND (fun hn => ?_) (fun hp => ?_)
    · walk_at "rd"
      exact fun d hd => e (fun z => hn z.2) d hd
    · walk_at "rd"
      exact q ⟨h1, hp⟩
  · walk_at "rd"
    exact fun d hd => e (fun z => h1 z.1) d hd
def sp_look_size (A : Ad) : Sp := fun vs H Q E => ∃ a lo hi : Int, vs = [.int a, .int lo, .int hi] ∧ (lo ≤ a ∧ a ≤ hi → Q .non H) ∧ (¬ (lo ≤ a ∧ a ≤ hi) → errF "count" A.a_SizeError E H a)
theorem ok_look_size (T : Txt P K mg A) : FnOk P w K mg base (L2N.CX P w) 2 A.a_look_size A.d_look_size ["count", "low", "high"] (sp_look_size A) := by
  refine T.F_look_size.okN sc_look_size (fun vs H Q E h => ?_) (fun cdv Ar outer s H vs Q E hr h => ?_)
  · obtain ⟨_, _, _, rfl, _⟩ := h; rfl
  have nd := sc_look_size.nd
  obtain ⟨a, lo, hi, rfl, q, e⟩ := h
  refine ⟨_, (pss_one (ps_if (pt_not (pt_chain op_le op_le (pv 1) (pv 0) (pv 2))) (pss_one (ps_raise1 rfl T.e_SizeError PySem.KX.fld_count hr (L2N.takes_of rfl rfl rfl rfl) (pa_cons (pv 0) pa_nil) (by rfl))) pss_nil)), ?_⟩
  walk_at "rd"
  refine KR.iteD (fun h1 => ?_) (fun h1 => ?_)
  · walk_at "rd"
    refine KR.iteND (fun hn => ?_) (fun hp => ?_)
    · walk_at "rd"
      exact fun d hd => e (fun z => hn z.2) d hd
    · walk_at "rd"
      exact q ⟨h1, hp⟩
  · walk_at "rd"
    exact fun d hd => e (fun z => h1 z.1) d hd
def sp_look_list (A : Ad) (K : PySem.W.Frag) : Sp := fun vs H Q E => ∃ (b : Bool) (N : Addr) (xs : List Int) (lo hi : Int), vs = [.ref N, .int lo, .int hi] ∧ SqA b K H N (xs.map V.int) ∧ (lo ≤ (xs.length : Int) ∧ (xs.length : Int) ≤ hi → Q .non H) ∧ (¬ (lo ≤ (xs.length : Int) ∧ (xs.length : Int) ≤ hi) → errF "count" A.a_SizeError E H xs.length)
theorem ok_look_list (T : Txt P K mg A) : FnOk P w K mg base (L2N.CX P w) 3 A.a_look_list A.d_look_list ["entries", "low", "high"] (sp_look_list A K) := by
  refine T.F_look_list.okN sc_look_list (fun vs H Q E h => ?_) (fun cdv Ar outer s H vs Q E hr h => ?_)
  · obtain ⟨_, _, _, _, _, rfl, _⟩ := h; rfl
  have nd := sc_look_list.nd
  obtain ⟨b, N, xs, lo, hi, rfl, hs, q, e⟩ := h
  refine ⟨_, (pss_one (ps_expr (pe_call (ok_look_size T) (hr.mono (by decide)) (by rfl) T.g_look_size T.k_look_size T.b_look_size .nil (L2N.passes_call (L2N.takes_of rfl rfl rfl rfl) (fun _ _ _ _ h => h)) (pa_cons (pe_callB call_len_seq (by rfl) T.n_len PySem.boot_len (pa_cons (pv 0) pa_nil)) (pa_cons (pv 1) (pa_cons (pv 2) pa_nil)))))), ?_⟩
  walk_at "rd"
  refine ⟨N, _, rfl, hs.or, ?_⟩
  rw [List.length_map]
  walk_at "rd"
  exact ⟨_, _, _, rfl, q, e⟩
def sp_look_each (A : Ad) (K : PySem.W.Frag) : Sp := fun vs H Q E => ∃ (b : Bool) (N : Addr) (xs : List Int) (lo hi : Int), vs = [.ref N, .int lo, .int hi] ∧ SqA b K H N (xs.map V.int) ∧ ((∀ x ∈ xs, lo ≤ x ∧ x ≤ hi) → Q .non H) ∧
  (∀ (j : Nat) (x : Int), xs[j]? = some x → (∀ i y, i < j → xs[i]? = some y → lo ≤ y ∧ y ≤ hi) → ¬ (lo ≤ x ∧ x ≤ hi) → errD A.a_RangeError E H x)
theorem ok_look_each (T : Txt P K mg A) : FnOk P w K mg base (L2N.CX P w) 3 A.a_look_each A.d_look_each ["entries", "low", "high"] (sp_look_each A K) := by
  refine T.F_look_each.okN sc_look_each (fun vs H Q E h => ?_) (fun cdv Ar outer s H vs Q E hr h => ?_)
  · obtain ⟨_, _, _, _, _, rfl, _⟩ := h; rfl
  have nd := sc_look_each.nd
  obtain ⟨b, N, xs, lo, hi, rfl, hs, q, e⟩ := h
  refine ⟨_, (pss_one (ps_for (passes_of rfl) rfl (pi_seq (pv 0)) (pg_name (i := 3) nd rfl (Or.inl rfl)) (pss_one (ps_expr (pe_call (ok_look_range T) (hr.mono (by decide)) (by rfl) T.g_look_range T.k_look_range T.b_look_range .nil (L2N.passes_call (L2N.takes_of rfl rfl rfl rfl) (fun _ _ _ _ h => h)) (pa_cons (pv 3) (pa_cons (pv 1) (pa_cons (pv 2) pa_nil)))))))), ?_⟩
  walk_at "rd"
  refine KR.fwA (b := b) (xs := xs.map V.int) (fun k σ' H' => H' = H ∧ (∀ i y, i < k → xs[i]? = some y → lo ≤ y ∧ y ≤ hi) ∧ ∃ z, σ' = [some (.ref N), some (.int lo), some (.int hi), z]) ⟨rfl, fun i y hi' => absurd hi' (Nat.not_lt_zero _), none, rfl⟩ ?_ ?_ ?_
  · rintro k σ' H' _ ⟨rfl, _⟩
    exact hs
  · rintro k v σ' H' hv ⟨rfl, hall, z, rfl⟩
    rw [List.getElem?_map] at hv
    obtain ⟨x, hx, rfl⟩ := Option.map_eq_some_iff.mp hv
    walk_at "rd"
    refine ⟨x, lo, hi, rfl, fun hok => ?_, fun hbad => e k x hx hall hbad⟩
    walk_at "rd"
    refine ⟨rfl, fun i y hi' hy => ?_, _, rfl⟩
    rcases Nat.lt_or_ge i k with c | c
    · exact hall i y c hy
    · have : i = k := by omega
      rw [this, hx] at hy
      rw [← Option.some.inj hy]
      exact hok
  · rintro σ' H' ⟨rfl, hall, z, rfl⟩
    rw [List.length_map] at hall
    exact q fun x hx => by
      obtain ⟨j, hj, hj2⟩ := List.getElem_of_mem hx
      exact hall j x hj (by rw [List.getElem?_eq_getElem hj, hj2])
end
end K9
namespace K9
open PySem PySem.Spec PyProof.Rows L2 K7
local macro_rules | `(tactic| walk_at "rc") => `(tactic| first
  | assumption
  | (show (0 : Int) < _; omega)
  | (show (0 : Int) < _ ∧ _ < (1073741824 : Int); exact ⟨by omega, by omega⟩)
  | (show (-(2 ^ 64 : Int) < _ ∧ _ < (2 ^ 64 : Int)) ∨ _; exact .inl ⟨by omega, by omega⟩)
  | (show _ ∨ (-(2 ^ 64 : Int) < _ ∧ _ < (2 ^ 64 : Int)); exact .inr ⟨by omega, by omega⟩)
  | (show (0 : Int) ≤ _ ∧ _ ≤ (1000000 : Int) ∧ _ < 2 ^ 64; exact ⟨by decide, by decide, by decide⟩))
local macro_rules | `(tactic| walk_at "rd") => `(tactic| repeat (first
  | with_reducible apply KR.seq
  | with_reducible apply KR.asg
  | with_reducible apply KR.drop
  | with_reducible apply KR.ret
  | with_reducible apply KR.retN
  | with_reducible apply KR.next
  | with_reducible apply KR.ifs
  | with_reducible refine KR.var rfl ?_
  | with_reducible refine L2.iteT ?_
  | with_reducible refine L2.iteF ?_
  | with_reducible refine KR.iteNF ?_
  | with_reducible refine KR.iteNT ?_
  | with_reducible apply KR.con
  | with_reducible apply KR.op
  | with_reducible apply KR.opI0
  | ((with_reducible refine KR.opI ?rc ?_); (case rc => walk_at "rc"))
  | with_reducible apply KR.un
  | with_reducible apply KR.unI
  | with_reducible apply KR.eqI
  | with_reducible apply KR.neI
  | with_reducible apply KR.test
  | with_reducible apply KR.tb'
  | with_reducible apply KR.exbl
  | with_reducible apply KR.and'
  | with_reducible apply KR.or'
  | with_reducible apply KR.not'
  | with_reducible apply KR.chain
  | with_reducible apply KR.call
  | with_reducible apply KR.callS
  | with_reducible apply KR.make
  | with_reducible apply KR.bm
  | with_reducible apply KR.errF
  | with_reducible apply KR.cons
  | with_reducible apply KR.nil
  | with_reducible apply KR.cb
  | with_reducible apply KR.cInt1
  | with_reducible apply KR.cI1
  | with_reducible apply KR.cI2
  | with_reducible apply KR.isi_ii
  | with_reducible apply KR.isi_ib
  | with_reducible apply KR.bits
  | with_reducible apply KR.exint
  | with_reducible apply KR.ifx
  | with_reducible refine KR.aug rfl ?_
  | with_reducible apply KR.ipI
  | with_reducible apply KR.for'
  | with_reducible apply KR.rng1
  | with_reducible apply KR.rng2
  | with_reducible apply KR.ilist
  | with_reducible apply KR.itup
  | with_reducible apply KR.iseq
  | with_reducible apply KR.gcd
  | with_reducible apply KR.tup
  | with_reducible apply KR.lst
  | with_reducible apply KR.andV
  | with_reducible apply KR.orV
  | with_reducible apply KR.notV
  | with_reducible apply KR.asgG
  | with_reducible apply KR.sub
  | with_reducible apply KR.fld
  | with_reducible apply KR.prop
  | with_reducible apply KR.meth
  | with_reducible apply KR.par
  | with_reducible apply KR.parN
  | with_reducible apply KR.raise1
  | with_reducible apply KR.raise0
  | with_reducible apply KR.exv
  | with_reducible apply KR.lc
  | with_reducible apply KR.ienT
  | with_reducible apply KR.sfld
  | with_reducible apply KR.sl
  | with_reducible apply KR.part
  | with_reducible apply KR.nopart
  | with_reducible apply KR.isNo
  | with_reducible refine KR.nnT ?_
  | with_reducible refine KR.niF ?_
  | with_reducible refine KR.nrF ?_
  | with_reducible refine KR.mnT ?_
  | with_reducible refine KR.miF ?_
  | with_reducible refine KR.mrF ?_))
def Parts (H : Hp) (L : Addr) (ps : List (Addr × Nat)) : Prop := H L = some (.lst (ps.map fun x => V.ref x.1)) ∧ ∀ x ∈ ps, ∃ e : Int, H x.1 = some (.tup [.int (x.2 : Nat), .int e])
theorem Parts.ex {H H' : Hp} {L : Addr} {ps : List (Addr × Nat)} (h : Parts H L ps) (e : Evl.Ex H H') : Parts H' L ps := ⟨e _ _ h.1, fun x hx => by
  obtain ⟨z, hz⟩ := h.2 x hx
  exact ⟨z, e _ _ hz⟩⟩
theorem Parts.add {H : Hp} {L t : Addr} {ps : List (Addr × Nat)} {q : Nat} {e : Int} (h : Parts H L ps) (ht : H t = none) : Parts (upd (upd H t (.tup [.int (q : Nat), .int e])) L (.lst ((ps.map fun x => V.ref x.1) ++ [.ref t]))) L (ps ++ [(t, q)]) := by
  have htL : t ≠ L := fun z => by rw [z, h.1] at ht; cases ht
  refine ⟨by rw [upd_same, List.map_append]; rfl, fun x hx => ?_⟩
  rcases List.mem_append.mp hx with hx | hx
  · obtain ⟨z, hz⟩ := h.2 x hx
    have h1 : x.1 ≠ L := fun y => by rw [y, h.1] at hz; cases hz
    exact ⟨z, by rw [upd_ne h1, upd_ne (ne_of_none hz ht)]; exact hz⟩
  · rw [List.mem_singleton.mp hx]
    exact ⟨e, by rw [upd_ne htL, upd_same]⟩
section
variable {P : Program} {w : World} {K : PySem.W.Frag} {mg : Str → Option Value} {base : Heap} {A : Ad}
def sp_prime_parts : Sp := fun vs H Q _ => ∃ n : Nat, vs = [.int n] ∧ 1 ≤ n ∧ n ≤ 1000000000 ∧
  ∀ L ps H2, Evl.Ex H H2 → H L = none → Parts H2 L ps → (∀ x ∈ ps, Pr x.2 ∧ x.2 ∣ n) → (∀ q, Pr q → q ∣ n → ∃ x ∈ ps, x.2 = q) → 2 ^ ps.length ≤ n → Q (.ref L) H2
theorem ok_prime_parts (T : Txt P K mg A) : FnOk P w K mg base (L2N.CX P w) 2 A.a_prime_parts A.d_prime_parts ["number"] sp_prime_parts := by
  refine T.F_prime_parts.okN sc_prime_parts (fun vs H Q E h => ?_) (fun cdv Ar outer s H vs Q E hr h => ?_)
  · obtain ⟨_, rfl, _⟩ := h; rfl
  have nd := sc_prime_parts.nd
  obtain ⟨n, rfl, h1, h9, q⟩ := h
  refine ⟨_, (pss_cons (ps_if (pt_not (pt_chain op_le op_le pe_int (pv 0) (KR.pe_gI (by rfl) T.c_MOST_PARTED))) (pss_one (ps_raise1 rfl T.e_RangeError PySem.KX.fld_number hr (L2N.takes_of rfl rfl rfl rfl) (pa_cons (pv 0) pa_nil) (by rfl))) pss_nil)
    (pss_cons (ps_set (i := 1) nd rfl (.inl rfl) (pe_lst pa_nil))
    (pss_cons (ps_set (i := 2) nd rfl (.inl rfl) (pv 0))
    (pss_cons (ps_set (i := 3) nd rfl (.inl rfl) pe_int)
    (pss_cons (ps_while (passes_of rfl) (pt_cmpR op_le (pe_op op_mul (pv 3) (pv 3)) (pv 2) (nomark _)) (pss_cons (ps_set (i := 4) nd rfl (.inl rfl) pe_int)
    (pss_cons (ps_while (passes_of rfl) (pt_cmpR op_eq (pe_op op_mod (pv 2) (pv 3)) pe_int (nomark _)) (pss_cons (ps_set (i := 2) nd rfl (.inl rfl) (pe_op op_fdiv (pv 2) (pv 3)))
    (pss_one (ps_aug (i := 4) nd rfl (.inl rfl) pe_int ip_add))))
    (Evl.pss_cut (ps_if (pt_cmpR op_gt (pv 4) pe_int (nomark _)) (pss_one (ps_expr (pe_bm PySem.F.plainAttrs_list PySem.F.slot_list_append PySem.F.type_list_append mt_append (pv 1) (pa_cons (pe_tup (pa_cons (pv 3) (pa_cons (pv 4) pa_nil))) pa_nil)))) pss_nil)
    (pss_one (ps_aug (i := 3) nd rfl (.inl rfl) (pe_ifExp (pt_cmpR op_eq (pv 3) pe_int (nomark _)) pe_int pe_int) ip_add))))))
    (Evl.pss_cut (ps_if (pt_cmpR op_gt (pv 2) pe_int (nomark _)) (pss_one (ps_expr (pe_bm PySem.F.plainAttrs_list PySem.F.slot_list_append PySem.F.type_list_append mt_append (pv 1) (pa_cons (pe_tup (pa_cons (pv 2) (pa_cons pe_int pa_nil))) pa_nil)))) pss_nil)
    (pss_one (ps_ret (pv 1))))))))), ?_⟩
  walk_at "rd"
  refine KR.iteDT (by omega) ?_
  walk_at "rd"
  refine KR.iteND (fun z => absurd (by omega) z) (fun _ => ?_)
  walk_at "rd"
  refine ⟨Nat.zero_le _, fun L hL => ?_⟩
  walk_at "rd"
  refine KR.whl (fun m σ' H' => ∃ (d r : Nat) (ps : List (Addr × Nat)) (z : Option V), m = n + 3 - d ∧ Evl.Ex H H' ∧ Parts H' L ps ∧ 2 ≤ d ∧ d ≤ 40000 ∧ (d = 2 ∨ d % 2 = 1) ∧ 1 ≤ r ∧ r ∣ n ∧ Low d r ∧ (∀ x ∈ ps, Pr x.2 ∧ x.2 ∣ n) ∧ (∀ q, Pr q → q ∣ n → (∃ x ∈ ps, x.2 = q) ∨ q ∣ r) ∧ 2 ^ ps.length * r ≤ n ∧
      σ' = [some (.int n), some (.ref L), some (.int r), some (.int d), z]) (n + 1)
    ⟨2, n, [], none, rfl, Evl.Ex.new hL, ⟨upd_same, fun x hx => nomatch hx⟩, by decide, by decide, .inl rfl, h1, Nat.dvd_refl n, fun q hq _ => hq.two, (fun x hx => nomatch hx), fun q _ hd => .inr hd, (by show 1 * n ≤ n; omega), rfl⟩ ?_
  rintro m σ' H1 ⟨d, r, ps, z, rfl, e1, hP, hd2, hd4, hodd, hr1, hrn, hlow, hps, hall, hlen, rfl⟩
  have hrn9 : r ≤ n := Nat.le_of_dvd (by omega) hrn
  walk_at "rd"
  refine KR.iteD (fun hdr => KR.turn ?_) (fun hdr => ?_)
  · have hdr' : d * d ≤ r := by
      have : ((d * d : Nat) : Int) ≤ (r : Int) := hdr
      omega
    have hdd : d ≤ 31623 := by
      refine Decidable.by_contra fun c => ?_
      have : 31624 * 31624 ≤ d * d := Nat.mul_le_mul (by omega) (by omega)
      omega
    have hdn : d ≤ n := by
      have : d * 1 ≤ d * d := Nat.mul_le_mul_left d (by omega)
      omega
    walk_at "rd"
    refine KR.whl (fun m σ' H' => ∃ e r' : Nat, m = r' ∧ H' = H1 ∧ r = d ^ e * r' ∧ 1 ≤ r' ∧ σ' = [some (.int n), some (.ref L), some (.int r'), some (.int d), some (.int e)]) r ⟨0, r, rfl, rfl, by rw [Nat.pow_zero, Nat.one_mul], hr1, rfl⟩ ?_
    rintro r' σ' H2 ⟨e, _, rfl, rfl, her, hr1', rfl⟩
    walk_at "rd"
    refine KR.iteD (fun hdv => KR.turn ?_) (fun hdv => ?_)
    · have hdv' : r' % d = 0 := by omega
      have hr2 : r' = d * (r' / d) := (Nat.mul_div_cancel' (Nat.dvd_of_mod_eq_zero hdv')).symm
      have hr3 : 1 ≤ r' / d := by
        rcases Nat.eq_zero_or_pos (r' / d) with z | z
        · rw [z] at hr2; omega
        · exact z
      walk_at "rd"
      exact ⟨r' / d, Nat.div_lt_self (by omega) (by omega), e + 1, r' / d, rfl, rfl, by rw [Nat.pow_succ, Nat.mul_assoc, ← hr2]; exact her, hr3, rfl⟩
    · have hdv' : ¬ d ∣ r' := fun z => hdv (by have := Nat.mod_eq_zero_of_dvd z; omega)
      have hrr : r' ∣ r := ⟨d ^ e, by rw [her, Nat.mul_comm]⟩
      refine KR.cut (Mid := fun σ' H' => ∃ ps' : List (Addr × Nat), Evl.Ex H H' ∧ Parts H' L ps' ∧ (∀ x ∈ ps', Pr x.2 ∧ x.2 ∣ n) ∧ (∀ q, Pr q → q ∣ n → (∃ x ∈ ps', x.2 = q) ∨ q ∣ r') ∧ 2 ^ ps'.length * r' ≤ n ∧
          σ' = [some (.int n), some (.ref L), some (.int r'), some (.int d), some (.int e)]) ?_ ?_
      · walk_at "rd"
        refine KR.iteD (fun he => ?_) (fun he => ?_)
        · have hdr2 : d ∣ r := ⟨d ^ (e - 1) * r', by rw [her, ← Nat.mul_assoc, Nat.mul_comm d, ← Nat.pow_succ]; congr 2; omega⟩
          have hdp := low_pr hd2 hlow hdr2
          have h2e : 2 * r' ≤ r := by
            have h1 : d ^ 1 ≤ d ^ e := Nat.pow_le_pow_right (by omega) (by omega)
            rw [Nat.pow_one] at h1
            have h2 := Nat.mul_le_mul_right r' (show 2 ≤ d ^ e by omega)
            omega
          have hpl : ps.length < 40 := by
            refine Decidable.by_contra fun c => ?_
            have h3 : (2 : Nat) ^ 40 ≤ 2 ^ ps.length := Nat.pow_le_pow_right (by decide) (by omega)
            have h4 : 2 ^ ps.length * 1 ≤ 2 ^ ps.length * r := Nat.mul_le_mul_left _ hr1
            have h5 : (2 : Nat) ^ 40 = 1099511627776 := by decide
            omega
          walk_at "rd"
          refine ⟨.inl ⟨rfl, _, .inl (.inl hP.1)⟩, ?_⟩
          walk_at "rd"
          refine ⟨by show (2 : Nat) ≤ sizeLine; decide, fun t ht => ?_⟩
          walk_at "rd"
          refine ⟨L, _, _, rfl, rfl, Evl.Ex.new ht _ _ hP.1, by rw [List.length_map, sizeLine_eq]; omega, ?_⟩
          have hP2 := hP.add (q := d) (e := (e : Int)) ht
          refine ⟨ps ++ [(t, d)], Evl.Ex.mut (e1.trans (Evl.Ex.new ht)) hL, hP2, fun x hx => ?_, fun q hq hqn => ?_, ?_, rfl⟩
          · rcases List.mem_append.mp hx with hx | hx
            · exact hps x hx
            · rw [List.mem_singleton.mp hx]
              exact ⟨hdp, Nat.dvd_trans hdr2 hrn⟩
          · rcases hall q hq hqn with ⟨x, hx, hxq⟩ | hqr
            · exact .inl ⟨x, List.mem_append_left _ hx, hxq⟩
            · rw [her] at hqr
              rcases hq.mul hqr with z | z
              · have := Pr.eq hq hdp (Pr.dvd_pow hq z)
                exact .inl ⟨(t, d), List.mem_append_right _ List.mem_cons_self, this.symm⟩
              · exact .inr z
          · rw [List.length_append, List.length_singleton, Nat.pow_succ, Nat.mul_assoc]
            have := Nat.mul_le_mul_left (2 ^ ps.length) h2e
            omega
        · walk_at "rd"
          have he0 : e = 0 := by omega
          have hrr' : r = r' := by rw [her, he0, Nat.pow_zero, Nat.one_mul]
          exact ⟨ps, e1, hP, hps, fun q hq hqn => by rw [← hrr']; exact hall q hq hqn, by rw [← hrr']; exact hlen, rfl⟩
      rintro σ' H3 ⟨ps', e3, hP3, hps3, hall3, hlen3, rfl⟩
      have hlow' : Low d r' := fun q hq hqr => hlow q hq (Nat.dvd_trans hqr hrr)
      have hnx := low_next hd2 hodd hlow' hdv'
      walk_at "rd"
      refine KR.iteD (fun c2 => ?_) (fun c2 => ?_)
      · rw [if_pos (show d = 2 by omega)] at hnx
        walk_at "rd"
        exact ⟨n + 3 - (d + 1), by omega, d + 1, r', ps', _, rfl, e3, hP3, by omega, by omega, by omega, hr1', Nat.dvd_trans hrr hrn, hnx, hps3, hall3, hlen3, rfl⟩
      · rw [if_neg (show ¬ d = 2 by omega)] at hnx
        walk_at "rd"
        exact ⟨n + 3 - (d + 2), by omega, d + 2, r', ps', _, rfl, e3, hP3, by omega, by omega, by omega, hr1', Nat.dvd_trans hrr hrn, hnx, hps3, hall3, hlen3, rfl⟩
  · have hdr' : r < d * d := by
      have : ¬ ((d * d : Nat) : Int) ≤ (r : Int) := hdr
      omega
    have hpl : ps.length < 39 := by
      refine Decidable.by_contra fun c => ?_
      have h3 : (2 : Nat) ^ 39 ≤ 2 ^ ps.length := Nat.pow_le_pow_right (by decide) (by omega)
      have h4 : 2 ^ ps.length * 1 ≤ 2 ^ ps.length * r := Nat.mul_le_mul_left _ hr1
      have h5 : (2 : Nat) ^ 39 = 549755813888 := by decide
      omega
    refine KR.cut (Mid := fun σ' H' => ∃ (ps' : List (Addr × Nat)) (z1 z2 z3 : Option V), Evl.Ex H H' ∧ Parts H' L ps' ∧ (∀ x ∈ ps', Pr x.2 ∧ x.2 ∣ n) ∧ (∀ q, Pr q → q ∣ n → (∃ x ∈ ps', x.2 = q)) ∧ 2 ^ ps'.length ≤ n ∧ σ' = [some (.int n), some (.ref L), z1, z2, z3]) ?_ ?_
    · walk_at "rd"
      refine KR.iteD (fun hr => ?_) (fun hr => ?_)
      · have hrp := low_end (by omega) hlow hdr'
        walk_at "rd"
        refine ⟨.inl ⟨rfl, _, .inl (.inl hP.1)⟩, ?_⟩
        walk_at "rd"
        refine ⟨by show (2 : Nat) ≤ sizeLine; decide, fun t ht => ?_⟩
        walk_at "rd"
        refine ⟨L, _, _, rfl, rfl, Evl.Ex.new ht _ _ hP.1, by rw [List.length_map, sizeLine_eq]; omega, ?_⟩
        have hP2 := hP.add (q := r) (e := 1) ht
        refine ⟨ps ++ [(t, r)], _, _, _, Evl.Ex.mut (e1.trans (Evl.Ex.new ht)) hL, hP2, fun x hx => ?_, fun q hq hqn => ?_, ?_, rfl⟩
        · rcases List.mem_append.mp hx with hx | hx
          · exact hps x hx
          · rw [List.mem_singleton.mp hx]
            exact ⟨hrp, hrn⟩
        · rcases hall q hq hqn with ⟨x, hx, hxq⟩ | hqr
          · exact ⟨x, List.mem_append_left _ hx, hxq⟩
          · exact ⟨(t, r), List.mem_append_right _ List.mem_cons_self, (Pr.eq hq hrp hqr).symm⟩
        · rw [List.length_append, List.length_singleton, Nat.pow_succ]
          have := Nat.mul_le_mul_left (2 ^ ps.length) (show 2 ≤ r by omega)
          omega
      · walk_at "rd"
        have hr0 : r = 1 := by omega
        exact ⟨ps, _, _, _, e1, hP, hps, fun q hq hqn => (hall q hq hqn).resolve_right fun z => by
          rw [hr0] at z
          have := Nat.le_of_dvd (by decide) z
          have := hq.two
          omega, by rw [hr0, Nat.mul_one] at hlen; exact hlen, rfl⟩
    rintro σ' H3 ⟨ps', z1, z2, z3, e3, hP3, hps3, hall3, hl3, rfl⟩
    walk_at "rd"
    exact q L ps' H3 e3 hL hP3 hps3 hall3 hl3
end
end K9
namespace K9
open PySem PySem.Spec PyProof.Rows L2 K7
local macro_rules | `(tactic| walk_at "rc") => `(tactic| first
  | assumption
  | (show (0 : Int) < _; omega)
  | (show (0 : Int) < _ ∧ _ < (1073741824 : Int); exact ⟨by omega, by omega⟩)
  | (show (-(2 ^ 64 : Int) < _ ∧ _ < (2 ^ 64 : Int)) ∨ _; exact .inl ⟨by omega, by omega⟩)
  | (show _ ∨ (-(2 ^ 64 : Int) < _ ∧ _ < (2 ^ 64 : Int)); exact .inr ⟨by omega, by omega⟩)
  | (show (0 : Int) ≤ _ ∧ _ ≤ (1000000 : Int) ∧ _ < 2 ^ 64; exact ⟨by decide, by decide, by decide⟩))
local macro_rules | `(tactic| walk_at "rd") => `(tactic| repeat (first
  | with_reducible apply KR.seq
  | with_reducible apply KR.asg
  | with_reducible apply KR.drop
  | with_reducible apply KR.ret
  | with_reducible apply KR.retN
  | with_reducible apply KR.next
  | with_reducible apply KR.ifs
  | with_reducible refine KR.var rfl ?_
  | with_reducible refine L2.iteT ?_
  | with_reducible refine L2.iteF ?_
  | with_reducible refine KR.iteNF ?_
  | with_reducible refine KR.iteNT ?_
  | with_reducible apply KR.con
  | with_reducible apply KR.op
  | with_reducible apply KR.opI0
  | ((with_reducible refine KR.opI ?rc ?_); (case rc => walk_at "rc"))
  | with_reducible apply KR.un
  | with_reducible apply KR.unI
  | with_reducible apply KR.eqI
  | with_reducible apply KR.neI
  | with_reducible apply KR.test
  | with_reducible apply KR.tb'
  | with_reducible apply KR.exbl
  | with_reducible apply KR.and'
  | with_reducible apply KR.or'
  | with_reducible apply KR.not'
  | with_reducible apply KR.chain
  | with_reducible apply KR.call
  | with_reducible apply KR.callS
  | with_reducible apply KR.make
  | with_reducible apply KR.bm
  | with_reducible apply KR.errF
  | with_reducible apply KR.cons
  | with_reducible apply KR.nil
  | with_reducible apply KR.cb
  | with_reducible apply KR.cInt1
  | with_reducible apply KR.cI1
  | with_reducible apply KR.cI2
  | with_reducible apply KR.isi_ii
  | with_reducible apply KR.isi_ib
  | with_reducible apply KR.bits
  | with_reducible apply KR.exint
  | with_reducible apply KR.ifx
  | with_reducible refine KR.aug rfl ?_
  | with_reducible apply KR.ipI
  | with_reducible apply KR.for'
  | with_reducible apply KR.rng1
  | with_reducible apply KR.rng2
  | with_reducible apply KR.ilist
  | with_reducible apply KR.itup
  | with_reducible apply KR.iseq
  | with_reducible apply KR.gcd
  | with_reducible apply KR.tup
  | with_reducible apply KR.lst
  | with_reducible apply KR.andV
  | with_reducible apply KR.orV
  | with_reducible apply KR.notV
  | with_reducible apply KR.asgG
  | with_reducible apply KR.sub
  | with_reducible apply KR.fld
  | with_reducible apply KR.prop
  | with_reducible apply KR.meth
  | with_reducible apply KR.par
  | with_reducible apply KR.parN
  | with_reducible apply KR.raise1
  | with_reducible apply KR.raise0
  | with_reducible apply KR.exv
  | with_reducible apply KR.lc
  | with_reducible apply KR.ienT
  | with_reducible apply KR.sfld
  | with_reducible apply KR.sl
  | with_reducible apply KR.part
  | with_reducible apply KR.nopart
  | with_reducible apply KR.isNo
  | with_reducible refine KR.nnT ?_
  | with_reducible refine KR.niF ?_
  | with_reducible refine KR.nrF ?_
  | with_reducible refine KR.mnT ?_
  | with_reducible refine KR.miF ?_
  | with_reducible refine KR.mrF ?_))
def okL (n : Int) : Prop := -1000000000 ≤ n ∧ n ≤ 1000000000
def DivL (xs : List Int) (x : Int) : Prop := ∃ q : Nat, x = q ∧ Pr q ∧ ∃ c ∈ xs, q ∣ c.natAbs
def ExB (a : Addr) (H H2 : Hp) : Prop := ∀ b o, b ≠ a → H b = some o → H2 b = some o
theorem ExB.refl (a : Addr) (H : Hp) : ExB a H H := fun _ _ _ e => e
theorem ExB.trans {a : Addr} {H H1 H2 : Hp} (h : ExB a H H1) (k : ExB a H1 H2) : ExB a H H2 := fun b o n e => k b o n (h b o n e)
theorem ExB.of {a : Addr} {H H2 : Hp} (e : Evl.Ex H H2) : ExB a H H2 := fun b o _ q => e b o q
theorem ExB.upd {a : Addr} {H : Hp} {o : HO} : ExB a H (L2.upd H a o) := fun b o' n e => by rw [upd_ne n]; exact e
theorem SqA.exB {b : Bool} {K : PySem.W.Frag} {H H1 H2 : Hp} {a F : Addr} {xs : List V} (h : SqA b K H a xs) (hF : H F = none) (e1 : Evl.Ex H H1) (e : ExB F H1 H2) : SqA b K H2 a xs := by
  have e2 : Evl.Ex H H2 := fun y o hy => e y o (ne_of_none hy hF) (e1 _ _ hy)
  exact h.ex e2
section
variable {P : Program} {w : World} {K : PySem.W.Frag} {mg : Str → Option Value} {base : Heap} {A : Ad}
def sp_primes_of (A : Ad) (K : PySem.W.Frag) : Sp := fun vs H Q E => ∃ (b : Bool) (N : Addr) (xs : List Int), vs = [.ref N, .int 97] ∧ SqA b K H N (xs.map V.int) ∧ (∀ x ∈ xs, okL x) ∧ xs.length ≤ 30 ∧ (0 ∈ xs → E (.ref A.a_ZeroError) none H) ∧ (0 ∉ xs →
  (∀ f, DivL xs f → 97 < f → (∀ g, DivL xs g → 97 < g → f ≤ g) → ∀ H2, Evl.Ex H H2 → errD A.a_PrimeError E H2 f) ∧
  ((∀ f, DivL xs f → f ≤ 97) → ∀ (L : Addr) (fs : List Int) H2, H L = none → Evl.Ex H H2 → H2 L = some (.lst (fs.map V.int)) → fs.Pairwise (· < ·) → (∀ x, x ∈ fs ↔ DivL xs x) → fs.length < 1000 → Q (.ref L) H2))
theorem ok_primes_of (T : Txt P K mg A) : FnOk P w K mg base (L2N.CX P w) 3 A.a_primes_of A.d_primes_of ["numbers", "most"] (sp_primes_of A K) := by
  refine T.F_primes_of.okN sc_primes_of (fun vs H Q E h => ?_) (fun cdv Ar outer s H vs Q E hr h => ?_)
  · obtain ⟨_, _, _, rfl, _⟩ := h; rfl
  have nd := sc_primes_of.nd
  obtain ⟨bb, N, xs, rfl, hN, hok, hxl, e0, h⟩ := h
  refine ⟨_, (pss_cons (ps_if (pt_cmpR op_in_seq pe_int (pv 0) (by rfl)) (pss_one (ps_raise0 rfl T.e_ZeroError hr (L2N.takes_of rfl rfl rfl rfl) (by rfl))) pss_nil)
    (pss_cons (ps_set (i := 2) nd rfl (.inl rfl) (pe_lst pa_nil))
    (pss_cons (ps_for (passes_of rfl) rfl (pi_seq (pv 0)) (pg_name (i := 3) nd rfl (Or.inl rfl)) (pss_one (ps_for (passes_of rfl) rfl (pi_list (pe_call (ok_prime_parts T) (hr.mono (by decide)) (by rfl) T.g_prime_parts T.k_prime_parts T.b_prime_parts .nil (L2N.passes_call (L2N.takes_of rfl rfl rfl rfl) (fun _ _ _ _ h => h)) (pa_cons (pe_callB call_abs (by rfl) T.n_abs (by decide +kernel) (pa_cons (pv 3) pa_nil)) pa_nil))) (pg_name (i := 4) nd rfl (Or.inl rfl)) (pss_one (ps_if (pt_cmpR op_notIn_seq (pe_ix ix_tup (pv 4) pe_int (fun _ _ => rfl)) (pv 2) (by rfl)) (pss_one (ps_expr (pe_bm PySem.F.plainAttrs_list PySem.F.slot_list_append PySem.F.type_list_append mt_append (pv 2) (pa_cons (pe_ix ix_tup (pv 4) pe_int (fun _ _ => rfl)) pa_nil)))) pss_nil)))))
    (pss_cons (ps_set (i := 2) nd rfl (.inl rfl) (pe_callB cr_sortedI (by rfl) T.n_sorted (by decide +kernel) (pa_cons (pv 2) pa_nil)))
    (pss_cons (ps_for (passes_of rfl) rfl (pi_list (pv 2)) (pg_name (i := 5) nd rfl (Or.inl rfl)) (pss_one (ps_if (pt_cmpR op_gt (pv 5) (pv 1) (nomark _)) (pss_one (ps_raise1 rfl T.e_PrimeError PySem.KX.fld_number hr (L2N.takes_of rfl rfl rfl rfl) (pa_cons (pv 5) pa_nil) (by rfl))) pss_nil)))
    (pss_one (ps_ret (pv 2)))))))), ?_⟩
  walk_at "rd"
  refine ⟨N, xs.map V.int, rfl, hN.or, rfl, flat_ints _, ?_⟩
  rw [inV_int]
  walk_at "rd"
  refine KR.iteD (fun hz => ?_) (fun hz => ?_)
  · walk_at "rd"
    exact e0 hz
  obtain ⟨eP, q⟩ := h hz
  walk_at "rd"
  refine ⟨Nat.zero_le _, fun F hF => ?_⟩
  generalize hG : upd H F _ = H1
  have x1 : Evl.Ex H H1 := by rw [← hG]; exact Evl.Ex.new hF
  have lF : H1 F = some (.lst (([] : List Int).map V.int)) := by rw [← hG]; exact upd_same
  have hN1 := hN.ex x1
  have hst : ∀ H', ExB F H1 H' → SqA bb K H' N (xs.map V.int) := fun H' ex => SqA.exB hN hF x1 ex
  clear hG
  walk_at "rd"
  refine KR.fwA (b := bb) (xs := xs.map V.int) (fun i σ' H' => ∃ (fs : List Int) (z3 z4 : Option V), H' F = some (.lst (fs.map V.int)) ∧ ExB F H1 H' ∧ fs.Nodup ∧ (∀ x ∈ fs, DivL xs x) ∧
      (∀ j, j < i → ∀ q : Nat, Pr q → q ∣ (xs.getD j 1).natAbs → (q : Int) ∈ fs) ∧ fs.length ≤ 30 * i ∧ σ' = [some (.ref N), some (.int 97), some (.ref F), z3, z4, none])
    ⟨[], none, none, lF, ExB.refl _ _, .nil, (fun x hx => nomatch hx), fun j hj => absurd hj (Nat.not_lt_zero _), by decide, rfl⟩ ?_ ?_ ?_
  · rintro i σ' H' _ ⟨fs, z3, z4, _, ex, _⟩
    exact hst H' ex
  · rintro i v σ' H2 hv ⟨fs, z3, z4, lF2, ex2, hnd, hd2, hall, hlen, rfl⟩
    rw [List.getElem?_map] at hv
    obtain ⟨c, hc, rfl⟩ := Option.map_eq_some_iff.mp hv
    have hi2 : i < xs.length := (List.getElem?_eq_some_iff.mp hc).1
    have hcd : xs.getD i 1 = c := by rw [List.getD_eq_getElem?_getD, hc]; rfl
    have hcab : c ∈ xs := List.mem_of_getElem? hc
    have hc0 : c ≠ 0 := fun z => hz (z ▸ hcab)
    have hc9 : c.natAbs ≤ 1000000000 := by
      obtain ⟨c1, c2⟩ := hok c hcab
      omega
    walk_at "rd"
    have eabs : (if c < 0 then -c else c) = ((c.natAbs : Nat) : Int) := by split <;> omega
    rw [eabs]
    refine ⟨c.natAbs, rfl, by omega, hc9, fun L ps H3 x3 hL hP hps hpall hpl => ?_⟩
    have hpl30 : ps.length < 30 := by
      refine Decidable.by_contra fun cc => ?_
      have h3 : (2 : Nat) ^ 30 ≤ 2 ^ ps.length := Nat.pow_le_pow_right (by decide) (by omega)
      have h5 : (2 : Nat) ^ 30 = 1073741824 := by decide
      omega
    have hLF : L ≠ F := fun z => by rw [z, lF2] at hL; cases hL
    have ex3 := ex2.trans (ExB.of x3)
    refine ⟨L, rfl, ⟨_, .inl (.inl hP.1)⟩, KR.fwL (xs := ps.map fun x => V.ref x.1) (fun k σ' H' => ∃ (fs' : List Int) (z4 : Option V), H' F = some (.lst (fs'.map V.int)) ∧ ExB F H3 H' ∧ fs'.Nodup ∧ (∀ x ∈ fs', DivL xs x) ∧ (∀ x ∈ fs, x ∈ fs') ∧
      (∀ j x, j < k → ps[j]? = some x → ((x.2 : Nat) : Int) ∈ fs') ∧ fs'.length ≤ 30 * i + k ∧ σ' = [some (.ref N), some (.int 97), some (.ref F), some (.int c), z4, none])
      ⟨fs, z4, x3 _ _ lF2, ExB.refl _ _, hnd, hd2, fun x hx => hx, fun j x hj => absurd hj (Nat.not_lt_zero _), hlen, rfl⟩ ?_ ?_ ?_⟩
    · rintro k σ' H' _ ⟨fs', z4, _, ex, _⟩
      exact .inl (.inl (ex _ _ hLF hP.1))
    · rintro k v σ' H4 hv4 ⟨fs', z4', lF4, ex4, hnd4, hd4, hsub, hall4, hlen4, rfl⟩
      rw [List.getElem?_map] at hv4
      obtain ⟨x, hx, rfl⟩ := Option.map_eq_some_iff.mp hv4
      have hkp : k < ps.length := (List.getElem?_eq_some_iff.mp hx).1
      obtain ⟨e, he⟩ := hP.2 x (List.mem_of_getElem? hx)
      have hxF : x.1 ≠ F := fun z => by
        have := x3 _ _ lF2
        rw [z, this] at he
        cases he
      obtain ⟨hxp, hxd⟩ := hps x (List.mem_of_getElem? hx)
      have sT : SqT K H4 x.1 [V.int (x.2 : Nat), V.int e] := .inl (.inl (ex4 _ _ hxF he))
      have hdx : DivL xs ((x.2 : Nat) : Int) := ⟨x.2, rfl, hxp, c, hcab, hxd⟩
      walk_at "rd"
      refine KR.ixT sT (v := .int (x.2 : Nat)) rfl ?_
      walk_at "rd"
      refine ⟨F, _, rfl, .inl (.inl (.inl lF4)), rfl, flat_ints _, ?_⟩
      rw [inV_int]
      walk_at "rd"
      refine KR.iteND (fun hn => ?_) (fun hy => ?_)
      · walk_at "rd"
        refine ⟨.inl ⟨rfl, _, .inl (.inl lF4)⟩, ?_⟩
        walk_at "rd"
        refine KR.ixT sT (v := .int (x.2 : Nat)) rfl ?_
        walk_at "rd"
        refine ⟨F, _, _, rfl, rfl, lF4, by rw [List.length_map, sizeLine_eq]; omega, ?_⟩
        refine ⟨fs' ++ [((x.2 : Nat) : Int)], _, by rw [upd_same, List.map_append]; rfl, ex4.trans ExB.upd, ?_, fun y hy => ?_, fun y hy => List.mem_append_left _ (hsub y hy), fun j y hj hy => ?_, by rw [List.length_append, List.length_singleton]; omega, rfl⟩
        · rw [List.nodup_append]
          exact ⟨hnd4, by simp, fun y hy z hz => by
            rw [List.mem_singleton.mp hz]
            exact fun w => hn (w ▸ hy)⟩
        · rcases List.mem_append.mp hy with hy | hy
          · exact hd4 y hy
          · rw [List.mem_singleton.mp hy]; exact hdx
        · rcases Nat.lt_or_ge j k with cc | cc
          · exact List.mem_append_left _ (hall4 j y cc hy)
          · have : j = k := by omega
            rw [this, hx] at hy
            rw [← Option.some.inj hy]
            exact List.mem_append_right _ List.mem_cons_self
      · walk_at "rd"
        refine ⟨fs', _, lF4, ex4, hnd4, hd4, hsub, fun j y hj hy2 => ?_, by omega, rfl⟩
        rcases Nat.lt_or_ge j k with cc | cc
        · exact hall4 j y cc hy2
        · have : j = k := by omega
          rw [this, hx] at hy2
          rw [← Option.some.inj hy2]
          exact hy
    · rintro σ' H4 ⟨fs', z4', lF4, ex4, hnd4, hd4, hsub, hall4, hlen4, rfl⟩
      rw [List.length_map] at hall4 hlen4
      refine ⟨fs', _, _, lF4, ex3.trans ex4, hnd4, hd4, fun j hj q hq hqd => ?_, by omega, rfl⟩
      rcases Nat.lt_or_ge j i with cc | cc
      · exact hsub _ (hall j cc q hq hqd)
      · have hji : j = i := by omega
        rw [hji, hcd] at hqd
        obtain ⟨x, hx, rfl⟩ := hpall q hq hqd
        obtain ⟨k, hk, hk2⟩ := List.getElem_of_mem hx
        exact hall4 k x hk (by rw [List.getElem?_eq_getElem hk, hk2])
  rintro σ' H5 ⟨fs, z3, z4, lF5, ex5, hnd, hd5, hall, hlen, rfl⟩
  rw [List.length_map] at hall hlen
  walk_at "rd"
  refine ⟨F, fs, rfl, .inl (.inl lF5), fun ns S hperm hsort hS => ?_⟩
  have hasc := asc_of hsort (hperm.nodup_iff.mpr hnd)
  have hmem : ∀ x, x ∈ ns ↔ DivL xs x := fun x => by
    rw [hperm.mem_iff]
    constructor
    · exact hd5 x
    · rintro ⟨q, rfl, hq, c, hc, hqd⟩
      obtain ⟨j, hj, hj2⟩ := List.getElem_of_mem hc
      exact hall j hj q hq (by rw [List.getD_eq_getElem?_getD, List.getElem?_eq_getElem hj, hj2]; exact hqd)
  have hlenS : ns.length < 1000 := by rw [hperm.length_eq]; omega
  have xAll : Evl.Ex H (upd H5 S (.lst (ns.map V.int))) := fun y o hy => by
    have h1 := ex5 y o (ne_of_none hy hF) (x1 _ _ hy)
    rw [upd_ne (ne_of_none h1 hS)]
    exact h1
  have lS : (upd H5 S (.lst (ns.map V.int))) S = some (.lst (ns.map V.int)) := upd_same
  have hS0 : H S = none := by
    cases h3 : H S with
    | none => rfl
    | some o =>
      have := ex5 S o (ne_of_none h3 hF) (x1 _ _ h3)
      rw [hS] at this
      cases this
  generalize upd H5 S (.lst (ns.map V.int)) = H6 at xAll lS ⊢
  walk_at "rd"
  refine KR.ilistN (xs := ns.map V.int) (.inl (.inl lS)) (KR.fwL (xs := ns.map V.int) (fun i σ' H' => H' = H6 ∧ (∀ j f, j < i → ns[j]? = some f → f ≤ 97) ∧ ∃ z, σ' = [some (.ref N), some (.int 97), some (.ref S), z3, z4, z]) ⟨rfl, fun j f hj => absurd hj (Nat.not_lt_zero _), none, rfl⟩ ?_ ?_ ?_)
  · rintro i σ' H' _ ⟨rfl, _⟩
    exact .inl (.inl lS)
  · rintro i v σ' H' hv ⟨rfl, hle, z, rfl⟩
    rw [List.getElem?_map] at hv
    obtain ⟨f, hf, rfl⟩ := Option.map_eq_some_iff.mp hv
    walk_at "rd"
    refine KR.iteD (fun hgt => ?_) (fun hgt => ?_)
    · walk_at "rd"
      intro d hd
      refine eP f ((hmem f).mp (List.mem_of_getElem? hf)) hgt (fun g hg hg97 => ?_) H' xAll d hd
      obtain ⟨j, hj, hj2⟩ := List.getElem_of_mem ((hmem g).mpr hg)
      obtain ⟨hi, hi2⟩ := List.getElem?_eq_some_iff.mp hf
      rcases Nat.lt_trichotomy j i with cc | cc | cc
      · have := hle j g cc (by rw [List.getElem?_eq_getElem hj, hj2])
        omega
      · subst cc
        rw [← hi2, ← hj2]
        exact Int.le_refl _
      · have := List.pairwise_iff_getElem.mp hasc i j hi hj cc
        rw [hi2, hj2] at this
        omega
    · walk_at "rd"
      refine ⟨rfl, fun j g hj hg => ?_, _, rfl⟩
      rcases Nat.lt_or_ge j i with cc | cc
      · exact hle j g cc hg
      · have : j = i := by omega
        rw [this, hf] at hg
        rw [← Option.some.inj hg]
        omega
  rintro σ' H' ⟨rfl, hle, z, rfl⟩
  rw [List.length_map] at hle
  walk_at "rd"
  refine q (fun f hf => ?_) S ns H' hS0 xAll lS hasc hmem hlenS
  obtain ⟨j, hj, hj2⟩ := List.getElem_of_mem ((hmem f).mpr hf)
  exact hle j f hj (by rw [List.getElem?_eq_getElem hj, hj2])
end
end K9
namespace K9
open PySem PySem.Spec PyProof.Rows L2 K7
local macro_rules | `(tactic| walk_at "rc") => `(tactic| first
  | assumption
  | (show (0 : Int) < _; omega)
  | (show (0 : Int) < _ ∧ _ < (1073741824 : Int); exact ⟨by omega, by omega⟩)
  | (show (-(2 ^ 64 : Int) < _ ∧ _ < (2 ^ 64 : Int)) ∨ _; exact .inl ⟨by omega, by omega⟩)
  | (show _ ∨ (-(2 ^ 64 : Int) < _ ∧ _ < (2 ^ 64 : Int)); exact .inr ⟨by omega, by omega⟩)
  | (show (0 : Int) ≤ _ ∧ _ ≤ (1000000 : Int) ∧ _ < 2 ^ 64; exact ⟨by decide, by decide, by decide⟩))
local macro_rules | `(tactic| walk_at "rd") => `(tactic| repeat (first
  | with_reducible apply KR.seq
  | with_reducible apply KR.asg
  | with_reducible apply KR.drop
  | with_reducible apply KR.ret
  | with_reducible apply KR.retN
  | with_reducible apply KR.next
  | with_reducible apply KR.ifs
  | with_reducible refine KR.var rfl ?_
  | with_reducible refine L2.iteT ?_
  | with_reducible refine L2.iteF ?_
  | with_reducible refine KR.iteNF ?_
  | with_reducible refine KR.iteNT ?_
  | with_reducible apply KR.con
  | with_reducible apply KR.op
  | with_reducible apply KR.opI0
  | ((with_reducible refine KR.opI ?rc ?_); (case rc => walk_at "rc"))
  | with_reducible apply KR.un
  | with_reducible apply KR.unI
  | with_reducible apply KR.eqI
  | with_reducible apply KR.neI
  | with_reducible apply KR.test
  | with_reducible apply KR.tb'
  | with_reducible apply KR.exbl
  | with_reducible apply KR.and'
  | with_reducible apply KR.or'
  | with_reducible apply KR.not'
  | with_reducible apply KR.chain
  | with_reducible apply KR.call
  | with_reducible apply KR.callS
  | with_reducible apply KR.make
  | with_reducible apply KR.bm
  | with_reducible apply KR.errF
  | with_reducible apply KR.cons
  | with_reducible apply KR.nil
  | with_reducible apply KR.cb
  | with_reducible apply KR.cInt1
  | with_reducible apply KR.cI1
  | with_reducible apply KR.cI2
  | with_reducible apply KR.isi_ii
  | with_reducible apply KR.isi_ib
  | with_reducible apply KR.bits
  | with_reducible apply KR.exint
  | with_reducible apply KR.ifx
  | with_reducible refine KR.aug rfl ?_
  | with_reducible apply KR.ipI
  | with_reducible apply KR.for'
  | with_reducible apply KR.rng1
  | with_reducible apply KR.rng2
  | with_reducible apply KR.ilist
  | with_reducible apply KR.itup
  | with_reducible apply KR.iseq
  | with_reducible apply KR.gcd
  | with_reducible apply KR.tup
  | with_reducible apply KR.lst
  | with_reducible apply KR.andV
  | with_reducible apply KR.orV
  | with_reducible apply KR.notV
  | with_reducible apply KR.asgG
  | with_reducible apply KR.sub
  | with_reducible apply KR.fld
  | with_reducible apply KR.prop
  | with_reducible apply KR.meth
  | with_reducible apply KR.par
  | with_reducible apply KR.parN
  | with_reducible apply KR.raise1
  | with_reducible apply KR.raise0
  | with_reducible apply KR.exv
  | with_reducible apply KR.lc
  | with_reducible apply KR.ienT
  | with_reducible apply KR.sfld
  | with_reducible apply KR.sl
  | with_reducible apply KR.part
  | with_reducible apply KR.nopart
  | with_reducible apply KR.isNo
  | with_reducible refine KR.nnT ?_
  | with_reducible refine KR.niF ?_
  | with_reducible refine KR.nrF ?_
  | with_reducible refine KR.mnT ?_
  | with_reducible refine KR.miF ?_
  | with_reducible refine KR.mrF ?_))
theorem giv_list (f : Int → Bool) (g : Int → V) (fs : List Int) : ∀ n, n ≤ fs.length → KR.giv (fun k => f (fs.getD k 0)) (fun k => g (fs.getD k 0)) 0 n = ((fs.take n).filter f).map g
  | 0, _ => rfl
  | n + 1, h => by
    unfold KR.giv
    have e : fs.getD n 0 = fs[n] := by rw [List.getD_eq_getElem?_getD, List.getElem?_eq_getElem (by omega)]; rfl
    rw [giv_list f g fs n (by omega), List.take_succ_eq_append_getElem (by omega), List.filter_append, List.map_append, Nat.zero_add, e]
    congr 1
    cases hf : f fs[n] with
    | true => rw [List.filter_cons_of_pos hf]; rfl
    | false => rw [List.filter_cons_of_neg (by rw [hf]; decide)]; rfl
theorem giv_whole (f : Int → Bool) (g : Int → V) (fs : List Int) : KR.giv (fun k => f (fs.getD k 0)) (fun k => g (fs.getD k 0)) 0 fs.length = (fs.filter f).map g := by
  rw [giv_list f g fs _ (Nat.le_refl _), List.take_length]
theorem at_getD {fs : List Int} {k : Nat} {v : V} (h : (fs.map V.int)[k]? = some v) : v = .int (fs.getD k 0) := by
  rw [List.getElem?_map] at h
  obtain ⟨w, hw, rfl⟩ := Option.map_eq_some_iff.mp h
  rw [List.getD_eq_getElem?_getD, hw]
  rfl
theorem small_prime {q : Nat} (hq : Pr q) (h : q ≤ 97) : q ∈ primesN := by
  have tab : ∀ q, q < 98 → 2 ≤ q → q ∈ primesN ∨ (List.range 98).any (fun d => decide (2 ≤ d) && decide (d < q) && decide (q % d = 0)) = true := by decide +kernel
  rcases tab q (by omega) hq.two with z | z
  · exact z
  · rw [List.any_eq_true] at z
    obtain ⟨d, _, hd⟩ := z
    simp only [Bool.and_eq_true, decide_eq_true_iff] at hd
    rcases hq.irr d (Nat.dvd_of_mod_eq_zero hd.2) with e | e <;> omega
theorem ex_none {H H2 : Hp} {L : Addr} (e : Evl.Ex H H2) (h : H2 L = none) : H L = none := by
  cases h3 : H L with
  | none => rfl
  | some o =>
    have := e _ _ h3
    rw [this] at h
    cases h
def Told (xs ts : List Int) : Prop := ts.Pairwise (· < ·) ∧ ∀ x, x ∈ ts ↔ x = 2 ∨ DivL xs x
theorem Told.uniq {xs ts us : List Int} (h : Told xs ts) (k : Told xs us) : ts = us := asc_eq h.1 k.1 fun x => by rw [h.2, k.2]
theorem told_of {xs fs : List Int} (hf : fs.Pairwise (· < ·)) (hm : ∀ x, x ∈ fs ↔ DivL xs x) : Told xs ((2 : Int) :: fs.filter fun x => !decide (x = 2)) := by
  have h2 : ∀ x ∈ fs, (2 : Int) ≤ x := fun x hx => by
    obtain ⟨q, rfl, hq, _⟩ := (hm x).mp hx
    have := hq.two
    omega
  refine ⟨List.pairwise_cons.mpr ⟨fun x hx => ?_, hf.filter _⟩, fun x => ?_⟩
  · obtain ⟨hx1, hx2⟩ := List.mem_filter.mp hx
    have := h2 x hx1
    have : x ≠ 2 := fun z => by rw [decide_eq_true z] at hx2; cases hx2
    omega
  · rw [List.mem_cons, List.mem_filter]
    constructor
    · rintro (h | ⟨h, _⟩)
      · exact .inl h
      · exact .inr ((hm x).mp h)
    · intro h
      by_cases c : x = 2
      · exact .inl c
      · exact .inr ⟨(hm x).mpr (h.resolve_left c), by rw [decide_eq_false c]; rfl⟩
section
variable {P : Program} {w : World} {K : PySem.W.Frag} {mg : Str → Option Value} {base : Heap} {A : Ad}
def sp_with_two (K : PySem.W.Frag) : Sp := fun vs H Q _ => ∃ (L : Addr) (fs : List Int), vs = [.ref L] ∧ SqL K H L (fs.map V.int) ∧ fs.length < 1000 ∧
  ∀ M H2, H M = none → Evl.Ex H H2 → H2 M = some (.lst (((2 : Int) :: fs.filter fun x => !decide (x = 2)).map V.int)) → Q (.ref M) H2
theorem ok_with_two (T : Txt P K mg A) : FnOk P w K mg base CX0 1 A.a_with_two A.d_with_two ["primes"] (sp_with_two K) := by
  refine T.F_with_two.ok sc_with_two (fun vs H Q E h => ?_) (fun cdv Ar outer s H vs Q E hr h => ?_)
  · obtain ⟨_, _, rfl, _⟩ := h; rfl
  have nd := sc_with_two.nd
  obtain ⟨L, fs, rfl, hs, hl, q⟩ := h
  refine ⟨_, (pss_one (ps_ret (pe_op op_cat (pe_lst (pa_cons pe_int pa_nil)) (pe_lc (own := [("prime", 1)]) (g := gName 1) rfl nd (pi_list (pv 0)) (blkOk_by (own := [("prime", 1)]) (N := ["primes", "prime"]) (sc := defScope s_with_two) (by decide +kernel)) (fun _ _ _ _ _ => pg_name (i := 1) nd rfl (Or.inl rfl)) (fun _ _ _ _ _ => (pts_one (pt_cmpR op_ne (pv 1) pe_int (nomark _)))) (fun _ _ _ _ _ => (pv 1)))))), ?_⟩
  walk_at "rd"
  refine ⟨by show (1 : Nat) ≤ sizeLine; decide, fun c hc => ?_⟩
  generalize hG : upd H c _ = H1
  have x1 : Evl.Ex H H1 := by rw [← hG]; exact Evl.Ex.new hc
  have lc : H1 c = some (.lst [.int 2]) := by rw [← hG]; exact upd_same
  clear hG
  have hs1 := Evl.ex_l x1 hs
  walk_at "rd"
  refine KR.llistN hs1 (KR.lwL (fun k => !decide (fs.getD k 0 = 2)) (fun k => .int (fs.getD k 0)) hs1 (by rw [List.length_map]; omega) (fun _ => rfl) ?_ ?_ ?_)
  · intro k v H2 e2 hv H3 e3 Q' q'
    rw [at_getD hv]
    walk_at "rd"
    exact q' H3 (Evl.Ex.refl _)
  · intro k v H2 e2 hv hf H3 e3 Q' q'
    rw [at_getD hv]
    walk_at "rd"
    exact q' H3 (Evl.Ex.refl _)
  intro d H2 hd e2 ld
  rw [List.length_map, giv_whole (fun x => !decide (x = 2)) (fun x => V.int x)] at ld
  refine ⟨c, d, _, _, rfl, rfl, e2 _ _ lc, ld, ?_, fun r hr => q r _ (ex_none (x1.trans e2) hr) ((x1.trans e2).trans (Evl.Ex.new hr)) ?_⟩
  · rw [List.length_map, sizeLine_eq]
    have := List.length_filter_le (fun x => !decide (x = 2)) fs
    show 1 + _ ≤ _
    omega
  · rw [upd_same, List.map_cons]
    rfl
def sp_told_primes (A : Ad) (K : PySem.W.Frag) : Sp := fun vs H Q E => ∃ (b : Bool) (N : Addr) (xs : List Int), vs = [.ref N] ∧ SqA b K H N (xs.map V.int) ∧
  (¬ (1 ≤ xs.length ∧ xs.length ≤ 8) → errF "count" A.a_SizeError E H xs.length) ∧ (1 ≤ xs.length → xs.length ≤ 8 →
    (∀ (j : Nat) (x : Int), xs[j]? = some x → (∀ i y, i < j → xs[i]? = some y → okL y) → ¬ okL x → errD A.a_RangeError E H x) ∧ ((∀ x ∈ xs, okL x) →
      (0 ∈ xs → E (.ref A.a_ZeroError) none H) ∧ (0 ∉ xs → (∀ f, DivL xs f → 97 < f → (∀ g, DivL xs g → 97 < g → f ≤ g) → ∀ H2, Evl.Ex H H2 → errD A.a_PrimeError E H2 f) ∧
        ((∀ f, DivL xs f → f ≤ 97) → ∀ (L : Addr) (ts : List Int) H2, H L = none → Evl.Ex H H2 → H2 L = some (.lst (ts.map V.int)) → Told xs ts → ts.length ≤ 1000 → Q (.ref L) H2))))
theorem ok_told_primes (T : Txt P K mg A) : FnOk P w K mg base (L2N.CX P w) 4 A.a_told_primes A.d_told_primes ["numbers"] (sp_told_primes A K) := by
  refine T.F_told_primes.okN sc_told_primes (fun vs H Q E h => ?_) (fun cdv Ar outer s H vs Q E hr h => ?_)
  · obtain ⟨_, _, _, rfl, _⟩ := h; rfl
  have nd := sc_told_primes.nd
  obtain ⟨b, N, xs, rfl, hs, e1, h⟩ := h
  refine ⟨_, (pss_cons (ps_expr (pe_call (ok_look_list T) (hr.mono (by decide)) (by rfl) T.g_look_list T.k_look_list T.b_look_list .nil (L2N.passes_call (L2N.takes_of rfl rfl rfl rfl) (fun _ _ _ _ h => h)) (pa_cons (pv 0) (pa_cons pe_int (pa_cons pe_int pa_nil)))))
    (pss_cons (ps_expr (pe_call (ok_look_each T) (hr.mono (by decide)) (by rfl) T.g_look_each T.k_look_each T.b_look_each .nil (L2N.passes_call (L2N.takes_of rfl rfl rfl rfl) (fun _ _ _ _ h => h)) (pa_cons (pv 0) (pa_cons (pe_un un_neg (KR.pe_gI (by rfl) T.c_LARGEST)) (pa_cons (KR.pe_gI (by rfl) T.c_LARGEST) pa_nil)))))
    (pss_one (ps_ret (pe_call (ok_with_two T) (hr.mono (by decide)) (by rfl) T.g_with_two T.k_with_two T.b_with_two .nil pass0 (pa_cons (pe_call (ok_primes_of T) (hr.mono (by decide)) (by rfl) T.g_primes_of T.k_primes_of T.b_primes_of .nil (L2N.passes_call (L2N.takes_of rfl rfl rfl rfl) (fun _ _ _ _ h => h)) (pa_cons (pv 0) (pa_cons (KR.pe_gI (by rfl) T.c_MOST_PRIME) pa_nil))) pa_nil)))))), ?_⟩
  walk_at "rd"
  refine ⟨b, N, xs, _, _, rfl, hs, fun hl => ?_, fun hl => e1 fun z => hl ⟨by omega, by omega⟩⟩
  obtain ⟨e2, h⟩ := h (by omega) (by omega)
  walk_at "rd"
  refine ⟨b, N, xs, _, _, rfl, hs, fun hok => ?_, fun j x hx hall hbad => e2 j x hx hall hbad⟩
  obtain ⟨e3, h⟩ := h hok
  walk_at "rd"
  refine ⟨b, N, xs, rfl, hs, hok, by omega, e3, fun h0 => ⟨(h h0).1, fun hle L fs H2 hL x2 lL hasc hmem hlen => ?_⟩⟩
  have q := (h h0).2 hle
  walk_at "rd"
  refine ⟨L, fs, rfl, .inl (.inl lL), hlen, fun M H3 hM x3 lM => ?_⟩
  refine q M _ H3 (ex_none x2 hM) (x2.trans x3) lM (told_of hasc hmem) ?_
  have := List.length_filter_le (fun x => !decide (x = 2)) fs
  rw [List.length_cons]
  omega
end
end K9
namespace K9
open PySem PySem.Spec PyProof.Rows L2 K7
local macro_rules | `(tactic| walk_at "rc") => `(tactic| first
  | assumption
  | (show (0 : Int) < _; omega)
  | (show (0 : Int) < _ ∧ _ < (1073741824 : Int); exact ⟨by omega, by omega⟩)
  | (show (-(2 ^ 64 : Int) < _ ∧ _ < (2 ^ 64 : Int)) ∨ _; exact .inl ⟨by omega, by omega⟩)
  | (show _ ∨ (-(2 ^ 64 : Int) < _ ∧ _ < (2 ^ 64 : Int)); exact .inr ⟨by omega, by omega⟩)
  | (show (0 : Int) ≤ _ ∧ _ ≤ (1000000 : Int) ∧ _ < 2 ^ 64; exact ⟨by decide, by decide, by decide⟩))
local macro_rules | `(tactic| walk_at "rd") => `(tactic| repeat (first
  | with_reducible apply KR.seq
  | with_reducible apply KR.asg
  | with_reducible apply KR.drop
  | with_reducible apply KR.ret
  | with_reducible apply KR.retN
  | with_reducible apply KR.next
  | with_reducible apply KR.ifs
  | with_reducible refine KR.var rfl ?_
  | with_reducible refine L2.iteT ?_
  | with_reducible refine L2.iteF ?_
  | with_reducible refine KR.iteNF ?_
  | with_reducible refine KR.iteNT ?_
  | with_reducible apply KR.con
  | with_reducible apply KR.op
  | with_reducible apply KR.opI0
  | ((with_reducible refine KR.opI ?rc ?_); (case rc => walk_at "rc"))
  | with_reducible apply KR.un
  | with_reducible apply KR.unI
  | with_reducible apply KR.eqI
  | with_reducible apply KR.neI
  | with_reducible apply KR.test
  | with_reducible apply KR.tb'
  | with_reducible apply KR.exbl
  | with_reducible apply KR.and'
  | with_reducible apply KR.or'
  | with_reducible apply KR.not'
  | with_reducible apply KR.chain
  | with_reducible apply KR.call
  | with_reducible apply KR.callS
  | with_reducible apply KR.make
  | with_reducible apply KR.bm
  | with_reducible apply KR.errF
  | with_reducible apply KR.cons
  | with_reducible apply KR.nil
  | with_reducible apply KR.cb
  | with_reducible apply KR.cInt1
  | with_reducible apply KR.cI1
  | with_reducible apply KR.cI2
  | with_reducible apply KR.isi_ii
  | with_reducible apply KR.isi_ib
  | with_reducible apply KR.bits
  | with_reducible apply KR.exint
  | with_reducible apply KR.ifx
  | with_reducible refine KR.aug rfl ?_
  | with_reducible apply KR.ipI
  | with_reducible apply KR.for'
  | with_reducible apply KR.rng1
  | with_reducible apply KR.rng2
  | with_reducible apply KR.ilist
  | with_reducible apply KR.itup
  | with_reducible apply KR.iseq
  | with_reducible apply KR.gcd
  | with_reducible apply KR.tup
  | with_reducible apply KR.lst
  | with_reducible apply KR.andV
  | with_reducible apply KR.orV
  | with_reducible apply KR.notV
  | with_reducible apply KR.asgG
  | with_reducible apply KR.sub
  | with_reducible apply KR.fld
  | with_reducible apply KR.prop
  | with_reducible apply KR.meth
  | with_reducible apply KR.par
  | with_reducible apply KR.parN
  | with_reducible apply KR.raise1
  | with_reducible apply KR.raise0
  | with_reducible apply KR.exv
  | with_reducible apply KR.lc
  | with_reducible apply KR.ienT
  | with_reducible apply KR.sfld
  | with_reducible apply KR.sl
  | with_reducible apply KR.part
  | with_reducible apply KR.nopart
  | with_reducible apply KR.isNo
  | with_reducible refine KR.nnT ?_
  | with_reducible refine KR.niF ?_
  | with_reducible refine KR.nrF ?_
  | with_reducible refine KR.mnT ?_
  | with_reducible refine KR.miF ?_
  | with_reducible refine KR.mrF ?_))
def RatAt (A : Ad) (H : Hp) (r : Addr) (N D : Int) : Prop := ∃ dx, H r = some (.ins A.a_Ratio dx [("num", .int N), ("den", .int D)])
theorem RatAt.ex {A : Ad} {H H2 : Hp} {r : Addr} {N D : Int} (h : RatAt A H r N D) (e : Evl.Ex H H2) : RatAt A H2 r N D := by
  obtain ⟨dx, h⟩ := h
  exact ⟨dx, e _ _ h⟩
def Bd (n : Int) : Prop := n.natAbs < 2 ^ 1900
theorem Bd.most {n M : Int} (h : Bd n) (hM : (2 : Int) ^ 2000 ≤ M) : -M ≤ n ∧ n ≤ M := by
  have h1 : n.natAbs < 2 ^ 1900 := h
  have h2 : (2 : Nat) ^ 1900 ≤ 2 ^ 2000 := Nat.pow_le_pow_right (by decide) (by decide)
  have h3 : ((2 ^ 2000 : Nat) : Int) = (2 : Int) ^ 2000 := Int.natCast_pow ..
  omega
theorem Bd.w {n : Int} (h : Bd n) : n.natAbs < 2 ^ 5000 := Nat.lt_of_lt_of_le h (Nat.pow_le_pow_right (by decide) (by decide))
theorem Bd.le {n m : Int} (h : Bd n) (hm : m.natAbs ≤ n.natAbs) : Bd m := Nat.lt_of_le_of_lt hm h
section
variable {P : Program} {w : World} {K : PySem.W.Frag} {mg : Str → Option Value} {base : Heap} {A : Ad}
theorem Txt.fnum (T : Txt P K mg A) {H : Hp} {r : Addr} {n d : Int} {R : V → Prop} (h : RatAt A H r n d) (q : R (.int n)) :
    ∃ a C dx fs v, V.ref r = .ref a ∧ H a = some (.ins C dx fs) ∧ Cls K C ∧ NoAttr K C "num" ∧ fs.lookup ("num" : Str) = some v ∧ R v := by
  obtain ⟨dx, h⟩ := h
  exact ⟨r, _, dx, _, _, rfl, h, T.cl_Ratio, T.na_Ratio_num, rfl, q⟩
theorem Txt.fden (T : Txt P K mg A) {H : Hp} {r : Addr} {n d : Int} {R : V → Prop} (h : RatAt A H r n d) (q : R (.int d)) :
    ∃ a C dx fs v, V.ref r = .ref a ∧ H a = some (.ins C dx fs) ∧ Cls K C ∧ NoAttr K C "den" ∧ fs.lookup ("den" : Str) = some v ∧ R v := by
  obtain ⟨dx, h⟩ := h
  exact ⟨r, _, dx, _, _, rfl, h, T.cl_Ratio, T.na_Ratio_den, rfl, q⟩
def sp_Ratio_init (A : Ad) : Sp := fun vs H Q _ => ∃ (x dx : Addr) (num den : Int), vs = [.ref x, .int num, .int den] ∧ H x = some (.ins A.a_Ratio dx []) ∧ Bd num ∧ Bd den ∧ 0 < den ∧
  ∀ H2, (∀ b o, b ≠ x → H b = some o → H2 b = some o) → RatAt A H2 x (num / ((Nat.gcd num.natAbs den.natAbs : Nat) : Int)) (den / ((Nat.gcd num.natAbs den.natAbs : Nat) : Int)) → Q .non H2
theorem ok_Ratio_init (T : Txt P K mg A) : FnOk P w K mg base CX0 2 A.a_Ratio_init A.d_Ratio_init ["self", "num", "den"] (sp_Ratio_init A) := by
  refine T.F_Ratio_init.ok sc_Ratio_init (fun vs H Q E h => ?_) (fun cdv Ar outer s H vs Q E hr h => ?_)
  · obtain ⟨_, _, _, _, rfl, _⟩ := h; rfl
  have nd := sc_Ratio_init.nd
  obtain ⟨x, dx, num, den, rfl, hx, bn, bd, hd, q⟩ := h
  obtain ⟨n1, n2⟩ := bn.most T.h_MOST
  obtain ⟨d1, d2⟩ := bd.most T.h_MOST
  refine ⟨_, (pss_cons (ps_if (pt_not (pt_chain op_le op_le (pe_un un_neg (KR.pe_gI (by rfl) T.c_MOST)) (pv 1) (KR.pe_gI (by rfl) T.c_MOST))) (pss_one ps_never) pss_nil)
    (pss_cons (ps_if (pt_not (pt_chain op_le op_le pe_int (pv 2) (KR.pe_gI (by rfl) T.c_MOST))) (pss_one ps_never) pss_nil)
    (pss_cons (ps_set (i := 3) nd rfl (.inl rfl) (pe_callBfun cr_gcd (by rfl) T.n_gcd (pa_cons (pv 1) (pa_cons (pv 2) pa_nil))))
    (pss_cons (ps_fld (pv 0) (pe_op op_fdivW (pv 1) (pv 3)) rfl)
    (pss_one (ps_fld (pv 0) (pe_op op_fdivW (pv 2) (pv 3)) rfl)))))), ?_⟩
  have hg0 : 0 < Nat.gcd num.natAbs den.natAbs := Nat.gcd_pos_of_pos_right _ (by omega)
  have hgb : Nat.gcd num.natAbs den.natAbs < 2 ^ 5000 := Nat.lt_of_le_of_lt (Nat.le_of_dvd (by omega) (Nat.gcd_dvd_right _ _)) bd.w
  walk_at "rd"
  refine KR.iteDT n1 ?_
  walk_at "rd"
  refine KR.iteND (fun z => absurd n2 z) (fun _ => ?_)
  walk_at "rd"
  refine KR.iteDT (by omega) ?_
  walk_at "rd"
  refine KR.iteND (fun z => absurd d2 z) (fun _ => ?_)
  walk_at "rd"
  refine KR.opI (divW (k := 5000) (by decide) (by omega) (by rw [Int.natAbs_natCast]; exact hgb)) ?_
  walk_at "rd"
  refine ⟨x, _, dx, [], rfl, hx, T.cl_Ratio, T.na_Ratio_num, by decide, ?_⟩
  walk_at "rd"
  refine KR.opI (divW (k := 5000) (by decide) (by omega) (by rw [Int.natAbs_natCast]; exact hgb)) ?_
  walk_at "rd"
  refine ⟨x, _, dx, _, rfl, upd_same, T.cl_Ratio, T.na_Ratio_den, by show (1 : Nat) < 1000; decide, ?_⟩
  refine q _ (fun b o hb hH => by rw [upd_ne hb, upd_ne hb]; exact hH) ⟨dx, by rw [upd_same]; rfl⟩
theorem mkR {H : Hp} {R : Addr → Hp → Prop} {E : XK} {num den : Int} (bn : Bd num) (bd : Bd den) (hd : 0 < den) (q : ∀ r H2 N D, H r = none → Evl.Ex H H2 → RatAt A H2 r N D → Low1 N D → N * den = num * D → N.natAbs ≤ num.natAbs → D ≤ den → R r H2) :
    ∀ x dx, H x = none → H dx = none → dx ≠ x → sp_Ratio_init A [.ref x, .int num, .int den] (upd (upd H dx (.own x)) x (.ins A.a_Ratio dx [])) (fun v H2 => v = .non ∧ R x H2) E := by
  intro x dx hx hdx hne
  obtain ⟨l1, l2, l3, l4⟩ := low_of (num := num) hd
  refine ⟨x, dx, num, den, rfl, upd_same, bn, bd, hd, fun H2 k2 hR => ⟨rfl, q x H2 _ _ hx (fun y o hy => ?_) hR l1 l2 l3 l4⟩⟩
  exact k2 y o (ne_of_none hy hx) (by rw [upd_ne (ne_of_none hy hx), upd_ne (ne_of_none hy hdx)]; exact hy)
def sp_to_ratio (A : Ad) : Sp := fun vs H Q _ => ∃ v : V, vs = [v] ∧ ((∃ n, v = .int n ∧ Bd n ∧ ∀ r H2, H r = none → Evl.Ex H H2 → RatAt A H2 r n 1 → Q (.ref r) H2) ∨ (∃ r n d, v = .ref r ∧ RatAt A H r n d ∧ Q (.ref r) H))
theorem ok_to_ratio (T : Txt P K mg A) : FnOk P w K mg base CX0 4 A.a_to_ratio A.d_to_ratio ["x"] (sp_to_ratio A) := by
  refine T.F_to_ratio.ok sc_to_ratio (fun vs H Q E h => ?_) (fun cdv Ar outer s H vs Q E hr h => ?_)
  · obtain ⟨_, rfl, _⟩ := h; rfl
  have nd := sc_to_ratio.nd
  obtain ⟨v, rfl, h⟩ := h
  refine ⟨_, (pss_cons (ps_if (pt_val (pe_callB call_isi (by rfl) T.n_isinstance (by decide +kernel) (pa_cons (pv 0) (pa_cons (pe_glob (v := .ref A.a_Ratio) (by rfl) T.g_Ratio rfl) pa_nil)))) (pss_one (ps_ret (pv 0))) pss_nil)
    (pss_one (ps_ret (pe_make (dvs := [.int 1]) T.mk_Ratio (ok_Ratio_init T) (hr.mono (by decide)) (by rfl) T.g_Ratio T.b1_Ratio_init.choose_spec.2 T.b1_Ratio_init.choose_spec.1 pass0 (pa_cons (pv 0) pa_nil))))), ?_⟩
  walk_at "rd"
  rcases h with ⟨n, rfl, bn, q⟩ | ⟨r, n, d, rfl, hR, q⟩
  · refine KR.isi_io T.ty_Ratio ?_
    walk_at "rd"
    refine mkR bn (by show 1 < 2 ^ 1900; exact Nat.lt_of_lt_of_le (by decide : 1 < 2 ^ 1) (Nat.pow_le_pow_right (by decide) (by decide))) (by decide) fun r H2 N D hr x2 hR hl he hN hD => ?_
    have hD1 : D = 1 := by have := hl.1; omega
    rw [hD1] at hR he
    rw [Int.mul_one, Int.mul_one] at he
    rw [he] at hR
    exact q r H2 hr x2 hR
  · obtain ⟨dx, hR⟩ := hR
    refine KR.isi_own T.ty_Ratio hR ?_
    walk_at "rd"
    exact q
theorem sp_to_ratio_mono {vs : List V} {H : Hp} {Q Q' : VK} {E E' : XK} (h : sp_to_ratio A vs H Q E) (k : ∀ x H2, Q x H2 → Q' x H2) : sp_to_ratio A vs H Q' E' := by
  obtain ⟨v, e, ⟨n, e1, bn, q⟩ | ⟨r, n, d, e1, hR, q⟩⟩ := h
  · exact ⟨v, e, .inl ⟨n, e1, bn, fun r H2 hr x2 hR => k _ _ (q r H2 hr x2 hR)⟩⟩
  · exact ⟨v, e, .inr ⟨r, n, d, e1, hR, k _ _ q⟩⟩
def sp_as_ratio (A : Ad) : Sp := fun vs H Q _ => ∃ r n d, vs = [.ref r] ∧ RatAt A H r n d ∧ Q (.ref r) H
theorem ok_as_ratio (T : Txt P K mg A) : FnOk P w K mg base CX0 5 A.a_as_ratio A.d_as_ratio ["x"] (sp_as_ratio A) := by
  refine T.F_as_ratio.ok sc_as_ratio (fun vs H Q E h => ?_) (fun cdv Ar outer s H vs Q E hr h => ?_)
  · obtain ⟨_, _, _, rfl, _⟩ := h; rfl
  have nd := sc_as_ratio.nd
  obtain ⟨r, n, d, rfl, hR, q⟩ := h
  refine ⟨_, (pss_one (ps_ret (pe_call (ok_to_ratio T) (hr.mono (by decide)) (by rfl) T.g_to_ratio T.k_to_ratio T.b_to_ratio .nil pass0 (pa_cons (pv 0) pa_nil)))), ?_⟩
  walk_at "rd"
  exact ⟨_, rfl, .inr ⟨r, n, d, rfl, hR, q⟩⟩
def sp_made_ratio (A : Ad) : Sp := fun vs H Q _ => ∃ num den : Int, vs = [.int num, .int den] ∧ Bd num ∧ Bd den ∧ den ≠ 0 ∧ Nat.gcd num.natAbs den.natAbs < 1073741824 ∧
  ∀ r H2 N D, H r = none → Evl.Ex H H2 → RatAt A H2 r N D → Low1 N D → N * den = num * D → Q (.ref r) H2
theorem ok_made_ratio (T : Txt P K mg A) : FnOk P w K mg base CX0 4 A.a_made_ratio A.d_made_ratio ["num", "den"] (sp_made_ratio A) := by
  refine T.F_made_ratio.ok sc_made_ratio (fun vs H Q E h => ?_) (fun cdv Ar outer s H vs Q E hr h => ?_)
  · obtain ⟨_, _, rfl, _⟩ := h; rfl
  have nd := sc_made_ratio.nd
  obtain ⟨num, den, rfl, bn, bd, hd, hg, q⟩ := h
  refine ⟨_, (pss_cons (ps_set (i := 2) nd rfl (.inl rfl) (pe_callBfun cr_gcd (by rfl) T.n_gcd (pa_cons (pv 0) (pa_cons (pv 1) pa_nil))))
    (Evl.pss_cut (ps_if (pt_cmpR op_lt (pv 1) pe_int (nomark _)) (pss_one (ps_set (i := 2) nd rfl (.inl rfl) (pe_un un_neg (pv 2)))) pss_nil)
    (pss_cons (ps_set (i := 3) nd rfl (.inl rfl) (pe_op op_fdivN (pv 0) (pv 2)))
    (pss_cons (ps_set (i := 4) nd rfl (.inl rfl) (pe_op op_fdivN (pv 1) (pv 2)))
    (pss_cons (ps_if (pt_not (pt_chain op_le op_le (pe_un un_neg (KR.pe_gI (by rfl) T.c_MOST)) (pv 3) (KR.pe_gI (by rfl) T.c_MOST))) (pss_one ps_never) pss_nil)
    (pss_cons (ps_if (pt_cmpR op_gt (pv 4) (KR.pe_gI (by rfl) T.c_MOST) (nomark _)) (pss_one ps_never) pss_nil)
    (pss_one (ps_ret (pe_make (dvs := []) T.mk_Ratio (ok_Ratio_init T) (hr.mono (by decide)) (by rfl) T.g_Ratio T.b2_Ratio_init.choose_spec.2 T.b2_Ratio_init.choose_spec.1 pass0 (pa_cons (pv 3) (pa_cons (pv 4) pa_nil))))))))))), ?_⟩
  have hg0 : 0 < Nat.gcd num.natAbs den.natAbs := Nat.gcd_pos_of_pos_right _ (by omega)
  obtain ⟨c, hc⟩ : ((Nat.gcd num.natAbs den.natAbs : Nat) : Int) ∣ num := Int.dvd_natAbs.mp (Int.natCast_dvd_natCast.mpr (Nat.gcd_dvd_left _ _))
  obtain ⟨e, he⟩ : ((Nat.gcd num.natAbs den.natAbs : Nat) : Int) ∣ den := Int.dvd_natAbs.mp (Int.natCast_dvd_natCast.mpr (Nat.gcd_dvd_right _ _))
  walk_at "rd"
  generalize Nat.gcd num.natAbs den.natAbs = g at hg hg0 hc he ⊢
  have hgI : (0 : Int) < (g : Int) := by omega
  have he0 : e ≠ 0 := fun z => hd (by rw [he, z, Int.mul_zero])
  refine KR.cut (Mid := fun σ' H' => H' = H ∧ ∃ s : Int, (s = 1 ∨ s = -1) ∧ 0 < s * e ∧ σ' = [some (.int num), some (.int den), some (.int (s * g)), none, none]) ?_ ?_
  · walk_at "rd"
    refine KR.iteD (fun hn => ?_) (fun hn => ?_)
    · walk_at "rd"
      refine ⟨rfl, -1, .inr rfl, ?_, by rw [Int.neg_mul, Int.one_mul]; rfl⟩
      have : e < 0 := Decidable.by_contra fun z => by
        have := Int.mul_nonneg (Int.le_of_lt hgI) (show 0 ≤ e by omega)
        omega
      omega
    · walk_at "rd"
      refine ⟨rfl, 1, .inl rfl, ?_, by rw [Int.one_mul]; rfl⟩
      have : 0 < e := Decidable.by_contra fun z => by
        have := Int.mul_neg_of_pos_of_neg hgI (show e < 0 by omega)
        omega
      omega
  rintro σ' H' ⟨rfl, s, hs, hse, rfl⟩
  have hss : s * s = 1 := by rcases hs with rfl | rfl <;> decide
  have hsg : s * (g : Int) ≠ 0 := by rcases hs with rfl | rfl <;> omega
  have hsa : (s * (g : Int)).natAbs = g := by rcases hs with rfl | rfl <;> omega
  have e1 : num = (s * c) * (s * (g : Int)) := by
    calc num = g * c := hc
      _ = (s * s) * (g * c) := by rw [hss, Int.one_mul]
      _ = (s * c) * (s * g) := by ac_rfl
  have e2 : den = (s * e) * (s * (g : Int)) := by
    calc den = g * e := he
      _ = (s * s) * (g * e) := by rw [hss, Int.one_mul]
      _ = (s * e) * (s * g) := by ac_rfl
  have b1 : Bd (s * c) := bn.le (by
    have := congrArg Int.natAbs e1
    rw [Int.natAbs_mul, hsa] at this
    rw [this]
    exact Nat.le_mul_of_pos_right _ hg0)
  have b2 : Bd (s * e) := bd.le (by
    have := congrArg Int.natAbs e2
    rw [Int.natAbs_mul, hsa] at this
    rw [this]
    exact Nat.le_mul_of_pos_right _ hg0)
  have f1 : Int.fdiv num (s * (g : Int)) = s * c := by
    conv => lhs; rw [e1]
    exact Int.mul_fdiv_cancel _ hsg
  have f2 : Int.fdiv den (s * (g : Int)) = s * e := by
    conv => lhs; rw [e2]
    exact Int.mul_fdiv_cancel _ hsg
  obtain ⟨m1, m2⟩ := b1.most T.h_MOST
  obtain ⟨m3, m4⟩ := b2.most T.h_MOST
  walk_at "rd"
  refine KR.opI ⟨hsg, by rw [hsa]; exact hg⟩ ?_
  walk_at "rd"
  refine KR.opI ⟨hsg, by rw [hsa]; exact hg⟩ ?_
  rw [f1, f2]
  walk_at "rd"
  refine KR.iteDT m1 ?_
  walk_at "rd"
  refine KR.iteND (fun z => absurd m2 z) (fun _ => ?_)
  walk_at "rd"
  refine KR.iteDF (by omega) ?_
  walk_at "rd"
  refine mkR b1 b2 hse fun r H2 N D hr x2 hR hl hND _ _ => q r H2 N D hr x2 hR hl ?_
  rw [e1, e2, ← Int.mul_assoc, hND]
  ac_rfl
def sp_Ratio_over (A : Ad) : Sp := fun vs H Q _ => ∃ (r : Addr) (n d n' d' : Int) (v : V), vs = [.ref r, v] ∧ RatAt A H r n d ∧ ((v = .int n' ∧ d' = 1) ∨ (∃ r', v = .ref r' ∧ RatAt A H r' n' d')) ∧ n' ≠ 0 ∧ d ≠ 0 ∧
  Bd n ∧ Bd d ∧ Bd n' ∧ Bd d' ∧ Bd (n * d') ∧ Bd (d * n') ∧ Nat.gcd (n * d').natAbs (d * n').natAbs < 1073741824 ∧
  ∀ r H2 N D, H r = none → Evl.Ex H H2 → RatAt A H2 r N D → Low1 N D → N * (d * n') = (n * d') * D → Q (.ref r) H2
theorem ok_Ratio_over (T : Txt P K mg A) : FnOk P w K mg base CX0 5 A.a_Ratio_over A.d_Ratio_over ["self", "other"] (sp_Ratio_over A) := by
  refine T.F_Ratio_over.ok sc_Ratio_over (fun vs H Q E h => ?_) (fun cdv Ar outer s H vs Q E hr h => ?_)
  · obtain ⟨_, _, _, _, _, _, rfl, _⟩ := h; rfl
  have nd := sc_Ratio_over.nd
  obtain ⟨r, n, d, n', d', v, rfl, hR, hv, hn', hd, bn, bd, bn', bd', b1, b2, hg, q⟩ := h
  refine ⟨_, (pss_cons (ps_set (i := 2) nd rfl (.inl rfl) (pe_call (ok_to_ratio T) (hr.mono (by decide)) (by rfl) T.g_to_ratio T.k_to_ratio T.b_to_ratio .nil pass0 (pa_cons (pv 1) pa_nil)))
    (pss_cons (ps_if (pt_cmpR op_eq (pe_fld (pv 2) rfl) pe_int (nomark _)) (pss_one ps_never) pss_nil)
    (pss_one (ps_ret (pe_call (ok_made_ratio T) (hr.mono (by decide)) (by rfl) T.g_made_ratio T.k_made_ratio T.b_made_ratio .nil pass0 (pa_cons (pe_op op_mulW (pe_fld (pv 0) rfl) (pe_fld (pv 2) rfl)) (pa_cons (pe_op op_mulW (pe_fld (pv 0) rfl) (pe_fld (pv 2) rfl)) pa_nil))))))), ?_⟩
  walk_at "rd"
  have key : sp_to_ratio A [v] H (fun x H2 => ∃ r2, x = .ref r2 ∧ Evl.Ex H H2 ∧ RatAt A H2 r2 n' d') (fun _ _ _ => False) := by
    rcases hv with ⟨rfl, rfl⟩ | ⟨r', rfl, hR'⟩
    · exact ⟨_, rfl, .inl ⟨n', rfl, bn', fun r2 H2 _ x2 hR2 => ⟨r2, rfl, x2, hR2⟩⟩⟩
    · exact ⟨_, rfl, .inr ⟨r', n', d', rfl, hR', r', rfl, Evl.Ex.refl H, hR'⟩⟩
  refine sp_to_ratio_mono key fun x H2 ⟨r2, hx, x2, hR2⟩ => ?_
  subst hx
  have hR1 := hR.ex x2
  walk_at "rd"
  refine T.fnum hR2 ?_
  walk_at "rd"
  refine KR.iteDF hn' ?_
  walk_at "rd"
  refine T.fnum hR1 ?_
  walk_at "rd"
  refine T.fden hR2 ?_
  walk_at "rd"
  refine KR.opI (mulW (k := 5000) (by decide) bn.w bd'.w) ?_
  walk_at "rd"
  refine T.fden hR1 ?_
  walk_at "rd"
  refine T.fnum hR2 ?_
  walk_at "rd"
  refine KR.opI (mulW (k := 5000) (by decide) bd.w bn'.w) ?_
  walk_at "rd"
  exact ⟨_, _, rfl, b1, b2, Int.mul_ne_zero hd hn', hg, fun r3 H3 N D hr3 x3 hR3 hl he => q r3 H3 N D (ex_none x2 hr3) (x2.trans x3) hR3 hl he⟩
end
end K9
namespace K9
open PySem PySem.Spec PyProof.Rows L2 K7
local macro_rules | `(tactic| walk_at "rc") => `(tactic| first
  | assumption
  | (show (0 : Int) < _; omega)
  | (show (0 : Int) < _ ∧ _ < (1073741824 : Int); exact ⟨by omega, by omega⟩)
  | (show (-(2 ^ 64 : Int) < _ ∧ _ < (2 ^ 64 : Int)) ∨ _; exact .inl ⟨by omega, by omega⟩)
  | (show _ ∨ (-(2 ^ 64 : Int) < _ ∧ _ < (2 ^ 64 : Int)); exact .inr ⟨by omega, by omega⟩)
  | (show (0 : Int) ≤ _ ∧ _ ≤ (1000000 : Int) ∧ _ < 2 ^ 64; exact ⟨by decide, by decide, by decide⟩))
local macro_rules | `(tactic| walk_at "rd") => `(tactic| repeat (first
  | with_reducible apply KR.seq
  | with_reducible apply KR.asg
  | with_reducible apply KR.drop
  | with_reducible apply KR.ret
  | with_reducible apply KR.retN
  | with_reducible apply KR.next
  | with_reducible apply KR.ifs
  | with_reducible refine KR.var rfl ?_
  | with_reducible refine L2.iteT ?_
  | with_reducible refine L2.iteF ?_
  | with_reducible refine KR.iteNF ?_
  | with_reducible refine KR.iteNT ?_
  | with_reducible apply KR.con
  | with_reducible apply KR.op
  | with_reducible apply KR.opI0
  | ((with_reducible refine KR.opI ?rc ?_); (case rc => walk_at "rc"))
  | with_reducible apply KR.un
  | with_reducible apply KR.unI
  | with_reducible apply KR.eqI
  | with_reducible apply KR.neI
  | with_reducible apply KR.test
  | with_reducible apply KR.tb'
  | with_reducible apply KR.exbl
  | with_reducible apply KR.and'
  | with_reducible apply KR.or'
  | with_reducible apply KR.not'
  | with_reducible apply KR.chain
  | with_reducible apply KR.call
  | with_reducible apply KR.callS
  | with_reducible apply KR.make
  | with_reducible apply KR.bm
  | with_reducible apply KR.errF
  | with_reducible apply KR.cons
  | with_reducible apply KR.nil
  | with_reducible apply KR.cb
  | with_reducible apply KR.cInt1
  | with_reducible apply KR.cI1
  | with_reducible apply KR.cI2
  | with_reducible apply KR.isi_ii
  | with_reducible apply KR.isi_ib
  | with_reducible apply KR.bits
  | with_reducible apply KR.exint
  | with_reducible apply KR.ifx
  | with_reducible refine KR.aug rfl ?_
  | with_reducible apply KR.ipI
  | with_reducible apply KR.for'
  | with_reducible apply KR.rng1
  | with_reducible apply KR.rng2
  | with_reducible apply KR.ilist
  | with_reducible apply KR.itup
  | with_reducible apply KR.iseq
  | with_reducible apply KR.gcd
  | with_reducible apply KR.tup
  | with_reducible apply KR.lst
  | with_reducible apply KR.andV
  | with_reducible apply KR.orV
  | with_reducible apply KR.notV
  | with_reducible apply KR.asgG
  | with_reducible apply KR.sub
  | with_reducible apply KR.fld
  | with_reducible apply KR.prop
  | with_reducible apply KR.meth
  | with_reducible apply KR.par
  | with_reducible apply KR.parN
  | with_reducible apply KR.raise1
  | with_reducible apply KR.raise0
  | with_reducible apply KR.exv
  | with_reducible apply KR.lc
  | with_reducible apply KR.ienT
  | with_reducible apply KR.sfld
  | with_reducible apply KR.sl
  | with_reducible apply KR.part
  | with_reducible apply KR.nopart
  | with_reducible apply KR.isNo
  | with_reducible refine KR.nnT ?_
  | with_reducible refine KR.niF ?_
  | with_reducible refine KR.nrF ?_
  | with_reducible refine KR.mnT ?_
  | with_reducible refine KR.miF ?_
  | with_reducible refine KR.mrF ?_))
theorem rat_form {p : Nat} (hp : p ∈ primesN) {N D a b : Int} (hN : N ≠ 0) (hD : D ≠ 0) (ha : a ≠ 0) (hb : b ≠ 0) (e : N * a = b * D) : (vI p N : Int) - vI p D = (vI p b : Int) - vI p a ∧ un p N * un p a = un p b * un p D := by
  have h1 := form_mul hp hN ha
  have h2 := form_mul hp hb hD
  rw [e] at h1
  constructor
  · have := h1.1.symm.trans h2.1
    omega
  · exact h1.2.symm.trans h2.2
theorem rat_res {p s t : Nat} (hp : p ∈ primesN) {N D a b : Int} (hN : N ≠ 0) (hD : D ≠ 0) (ha : a ≠ 0) (hb : b ≠ 0) (e : N * a = b * D) (h : (p : Int) ^ s ∣ (t : Int) * un p D - un p N) : (p : Int) ^ s ∣ (t : Int) * un p a - un p b := by
  have e2 := (rat_form hp hN hD ha hb e).2
  refine pow_cop (pr_mem hp) (form (pr_mem hp).two hD).2 ?_
  have h2 := Int.dvd_mul_of_dvd_left (c := un p a) h
  have e3 : ((t : Int) * un p D - un p N) * un p a = ((t : Int) * un p a - un p b) * un p D := by
    rw [Int.sub_mul, Int.sub_mul, e2]
    congr 1
    ac_rfl
  rw [e3] at h2
  exact h2
theorem depth_lt {p s : Nat} {z : Int} (hp : 2 ≤ p) (h0 : z ≠ 0) (h : z.natAbs < p ^ s) : vI p z < s := by
  have h1 := vN_lt_pow hp (show 0 < z.natAbs by omega)
  refine Decidable.by_contra fun c => ?_
  have h3 : p ^ s ≤ p ^ vN p z.natAbs := Nat.pow_le_pow_right (by omega) (by unfold vI at c; omega)
  omega
theorem pow_bd7 {p s : Nat} (hp : p ∈ primesN) (hs : s ≤ 7) : PowOk (p : Int) s := by
  obtain ⟨_, h2, h9⟩ := of_pr hp
  exact powOk (c := 7) (k := 7) (by omega) (by decide) hs (by decide)
theorem sr_bd {p g : Nat} (hp : p ∈ primesN) (hg : 0 < g) (hg2 : g < 13) : sr p g ≤ 5 ∧ p ^ sr p g < 20000 ∧ 0 < kk p g ∧ kk p g ≤ 100 ∧ 0 < Nat.gcd g (p - 1) := by
  have tab : ∀ p ∈ primesN, ∀ g, g < 13 → 0 < g → sr p g ≤ 5 ∧ p ^ sr p g < 20000 ∧ 0 < kk p g ∧ kk p g ≤ 100 ∧ 0 < Nat.gcd g (p - 1) := by decide +kernel
  exact tab p hp g hg2 hg
section
variable {P : Program} {w : World} {K : PySem.W.Frag} {mg : Str → Option Value} {base : Heap} {A : Ad}
def sp_depth_of : Sp := fun vs H Q _ => ∃ (p : Nat) (n d : Int), vs = [.int p, .int n, .int d] ∧ 2 ≤ p ∧ p < 100 ∧ n ≠ 0 ∧ d ≠ 0 ∧ ∀ H2, Evl.Ex H H2 → Q (.int ((vI p n : Int) - vI p d)) H2
theorem ok_depth_of (T : Txt P K mg A) : FnOk P w K mg base CX0 3 A.a_depth_of A.d_depth_of ["p", "num", "den"] sp_depth_of := by
  refine T.F_depth_of.ok sc_depth_of (fun vs H Q E h => ?_) (fun cdv Ar outer s H vs Q E hr h => ?_)
  · obtain ⟨_, _, _, rfl, _⟩ := h; rfl
  have nd := sc_depth_of.nd
  obtain ⟨p, n, d, rfl, h2, h9, hn, hd, q⟩ := h
  refine ⟨_, (pss_cons (ps_if (pt_cmpR op_eq (pv 1) pe_int (nomark _)) (pss_one (ps_ret pe_non)) pss_nil)
    (pss_one (ps_ret (pe_op op_sub (pe_call (ok_int_depth T) (hr.mono (by decide)) (by rfl) T.g_int_depth T.k_int_depth T.b_int_depth .nil pass0 (pa_cons (pv 0) (pa_cons (pv 1) pa_nil))) (pe_call (ok_int_depth T) (hr.mono (by decide)) (by rfl) T.g_int_depth T.k_int_depth T.b_int_depth .nil pass0 (pa_cons (pv 0) (pa_cons (pv 2) pa_nil))))))), ?_⟩
  walk_at "rd"
  refine KR.iteDF hn ?_
  walk_at "rd"
  refine ⟨p, n, rfl, h2, h9, hn, fun H2 x2 => ?_⟩
  walk_at "rd"
  refine ⟨p, d, rfl, h2, h9, hd, fun H3 x3 => ?_⟩
  walk_at "rd"
  exact q H3 (x2.trans x3)
def sp_root_count : Sp := fun vs H Q _ => ∃ (p n : Nat), vs = [.int p, .int n] ∧ 2 < p ∧ Q (.int (Nat.gcd n (p - 1) : Nat)) H
theorem ok_root_count (T : Txt P K mg A) : FnOk P w K mg base CX0 1 A.a_root_count A.d_root_count ["p", "n"] sp_root_count := by
  refine T.F_root_count.ok sc_root_count (fun vs H Q E h => ?_) (fun cdv Ar outer s H vs Q E hr h => ?_)
  · obtain ⟨_, _, rfl, _⟩ := h; rfl
  have nd := sc_root_count.nd
  obtain ⟨p, n, rfl, hp, q⟩ := h
  refine ⟨_, (pss_cons (ps_if (pt_cmpR op_eq (pv 0) pe_int (nomark _)) (pss_one (ps_ret (pe_callBfun cr_gcd (by rfl) T.n_gcd (pa_cons (pv 1) (pa_cons pe_int pa_nil))))) pss_nil)
    (pss_one (ps_ret (pe_callBfun cr_gcd (by rfl) T.n_gcd (pa_cons (pv 1) (pa_cons (pe_op op_sub (pv 0) pe_int) pa_nil)))))), ?_⟩
  walk_at "rd"
  refine KR.iteDF (by omega) ?_
  walk_at "rd"
  have e : ((p : Int) - 1).natAbs = p - 1 := by omega
  rw [e, Int.natAbs_natCast]
  exact q
def sp_sure_depth : Sp := fun vs H Q _ => ∃ (p n : Nat), vs = [.int p, .int n] ∧ p ∈ primesN ∧ 0 < n ∧ n < 13 ∧ ∀ H2, Evl.Ex H H2 → Q (.int (sr p n : Nat)) H2
theorem ok_sure_depth (T : Txt P K mg A) : FnOk P w K mg base CX0 3 A.a_sure_depth A.d_sure_depth ["p", "n"] sp_sure_depth := by
  refine T.F_sure_depth.ok sc_sure_depth (fun vs H Q E h => ?_) (fun cdv Ar outer s H vs Q E hr h => ?_)
  · obtain ⟨_, _, rfl, _⟩ := h; rfl
  have nd := sc_sure_depth.nd
  obtain ⟨p, n, rfl, hp, hn, hn2, q⟩ := h
  obtain ⟨_, h2, h9⟩ := of_pr hp
  have ev := vs_eq hp hn hn2
  have eI : vI p (n : Int) = vs p n := by unfold vI; rw [Int.natAbs_natCast]; exact ev
  refine ⟨_, (pss_cons (ps_if (PW.pt (pw_and (pt_cmpR op_eq (pv 0) pe_int (nomark _)) (pw_and1 (pt_cmpR op_eq (pe_op op_mod (pv 1) pe_int) pe_int (nomark _))))) (pss_one (ps_ret (pe_op op_add (pe_call (ok_int_depth T) (hr.mono (by decide)) (by rfl) T.g_int_depth T.k_int_depth T.b_int_depth .nil pass0 (pa_cons (pv 0) (pa_cons (pv 1) pa_nil))) pe_int))) pss_nil)
    (pss_one (ps_ret (pe_op op_add (pe_call (ok_int_depth T) (hr.mono (by decide)) (by rfl) T.g_int_depth T.k_int_depth T.b_int_depth .nil pass0 (pa_cons (pv 0) (pa_cons (pv 1) pa_nil))) pe_int)))), ?_⟩
  walk_at "rd"
  have last : ¬ (p = 2 ∧ n % 2 = 0) → sp_int_depth [.int p, .int n] H (fun x H1 => ∃ z : Int, x = .int z ∧ Q (.int (z + 1)) H1) (fun _ _ _ => False) := fun hc => ⟨p, n, rfl, h2, h9, by omega, fun H2 x2 => ⟨_, rfl, by
    rw [eI]
    have e := q H2 x2
    unfold sr at e
    rw [if_neg hc] at e
    exact e⟩⟩
  refine KR.iteD (fun c1 => ?_) (fun c1 => ?_)
  · walk_at "rd"
    refine KR.iteD (fun c2 => ?_) (fun c2 => ?_)
    · walk_at "rd"
      refine ⟨p, n, rfl, h2, h9, by omega, fun H2 x2 => ?_⟩
      rw [eI]
      walk_at "rd"
      have e := q H2 x2
      unfold sr at e
      rw [if_pos ⟨by omega, by omega⟩] at e
      exact e
    · walk_at "rd"
      obtain ⟨p', n', e1, h3, h4, h5, h6⟩ := last (by omega)
      refine ⟨p', n', e1, h3, h4, h5, fun H2 x2 => ?_⟩
      obtain ⟨z, ez, qz⟩ := h6 H2 x2
      injection ez with ez
      rw [ez]
      walk_at "rd"
      exact qz
  · walk_at "rd"
    obtain ⟨p', n', e1, h3, h4, h5, h6⟩ := last (by omega)
    refine ⟨p', n', e1, h3, h4, h5, fun H2 x2 => ?_⟩
    obtain ⟨z, ez, qz⟩ := h6 H2 x2
    injection ez with ez
    rw [ez]
    walk_at "rd"
    exact qz
def sp_unit_residue (A : Ad) : Sp := fun vs H Q _ => ∃ (p : Nat) (r : Addr) (s : Nat) (N D : Int), vs = [.int p, .ref r, .int s] ∧ p ∈ primesN ∧ 1 ≤ s ∧ s ≤ 7 ∧ RatAt A H r N D ∧ N ≠ 0 ∧ D ≠ 0 ∧ N.natAbs ≤ 1000000000 ∧ D.natAbs ≤ 1000000000 ∧
  ∀ (t : Nat) H2, t < p ^ s → (p : Int) ^ s ∣ (t : Int) * un p D - un p N → Evl.Ex H H2 → Q (.int t) H2
theorem ok_unit_residue (T : Txt P K mg A) : FnOk P w K mg base CX0 2 A.a_unit_residue A.d_unit_residue ["p", "ratio", "m"] (sp_unit_residue A) := by
  refine T.F_unit_residue.ok sc_unit_residue (fun vs H Q E h => ?_) (fun cdv Ar outer s H vs Q E hr h => ?_)
  · obtain ⟨_, _, _, _, _, rfl, _⟩ := h; rfl
  have nd := sc_unit_residue.nd
  obtain ⟨p, r, s1, N, D, rfl, hp, hs1, hs2, hR, hN, hD, bN, bD, q⟩ := h
  obtain ⟨_, h2, h9⟩ := of_pr hp
  refine ⟨_, (pss_cons (ps_set (i := 3) nd rfl (.inl rfl) (pe_call (ok_power T) (hr.mono (by decide)) (by rfl) T.g_power T.k_power T.b_power .nil pass0 (pa_cons (pv 0) (pa_cons (pv 2) pa_nil))))
    (pss_one (ps_ret (pe_op op_mod (pe_op op_mul (pe_ix ix_tup (pe_call (ok_parted T) (hr.mono (by decide)) (by rfl) T.g_parted T.k_parted T.b_parted .nil pass0 (pa_cons (pv 0) (pa_cons (pe_fld (pv 1) rfl) pa_nil))) pe_int (fun _ _ => rfl)) (pe_call (ok_inverse_mod T) (hr.mono (by decide)) (by rfl) T.g_inverse_mod T.k_inverse_mod T.b_inverse_mod .nil pass0 (pa_cons (pe_ix ix_tup (pe_call (ok_parted T) (hr.mono (by decide)) (by rfl) T.g_parted T.k_parted T.b_parted .nil pass0 (pa_cons (pv 0) (pa_cons (pe_fld (pv 1) rfl) pa_nil))) pe_int (fun _ _ => rfl)) (pa_cons (pv 3) pa_nil)))) (pv 3))))), ?_⟩
  walk_at "rd"
  refine ⟨p, s1, rfl, pow_bd7 hp hs2, ?_⟩
  walk_at "rd"
  refine T.fnum hR ?_
  walk_at "rd"
  refine ⟨p, N, rfl, h2, h9, hN, fun a1 ha1 => ?_⟩
  walk_at "rd"
  refine KR.ixT (.inl (.inl upd_same)) (v := .int (un p N)) (atI_nat (j := 1) rfl) ?_
  have x1 := Evl.Ex.new (o := .tup [.int (vI p N : Nat), .int (un p N)]) ha1
  have hR1 := hR.ex x1
  generalize upd H a1 _ = H1 at x1 hR1 ⊢
  walk_at "rd"
  refine T.fden hR1 ?_
  walk_at "rd"
  refine ⟨p, D, rfl, h2, h9, hD, fun a2 ha2 => ?_⟩
  walk_at "rd"
  refine KR.ixT (.inl (.inl upd_same)) (v := .int (un p D)) (atI_nat (j := 1) rfl) ?_
  have x2 := Evl.Ex.new (o := .tup [.int (vI p D : Nat), .int (un p D)]) ha2
  generalize upd H1 a2 _ = H2 at x2 ⊢
  walk_at "rd"
  have epow : ((p : Int) ^ s1) = ((p ^ s1 : Nat) : Int) := (Int.natCast_pow ..).symm
  have hm2 : 2 ≤ p ^ s1 := two_le_pow h2 hs1
  have hm5 : p ^ s1 < 2 ^ 5000 := by
    have := pow_bd7 hp hs2 s1 (.inl (Nat.le_refl _))
    rw [epow] at this
    exact this
  have huD := (form h2 hD).2
  have huN := un_le (p := p) h2 hN
  rw [epow] at q ⊢
  refine ⟨un p D, p ^ s1, rfl, hm2, hm5, ?_, fun v hv0 hv1 hv => ?_⟩
  · have hcop : Nat.Coprime (p ^ s1) (un p D % ((p ^ s1 : Nat) : Int)).toNat := (pr_mem hp).copPow (fun z => huD ?_) s1
    · exact hcop
    · have hd1 : ((p : Nat) : Int) ∣ un p D % ((p ^ s1 : Nat) : Int) := by
        have hnn := Int.emod_nonneg (un p D) (show ((p ^ s1 : Nat) : Int) ≠ 0 by omega)
        have := Int.natCast_dvd_natCast.mpr z
        rw [Int.toNat_of_nonneg hnn] at this
        exact this
      have hd2 : ((p : Nat) : Int) ∣ ((p ^ s1 : Nat) : Int) := by
        refine Int.natCast_dvd_natCast.mpr ⟨p ^ (s1 - 1), ?_⟩
        rw [← Nat.pow_succ']
        congr 1
        omega
      have e : un p D = (un p D - un p D % ((p ^ s1 : Nat) : Int)) + un p D % ((p ^ s1 : Nat) : Int) := by omega
      rw [e]
      exact Int.dvd_add (Int.dvd_trans hd2 Int.dvd_self_sub_emod) hd1
  · walk_at "rd"
    have hnn := Int.emod_nonneg (un p N * v) (show ((p ^ s1 : Nat) : Int) ≠ 0 by omega)
    have hlt := Int.emod_lt_of_pos (un p N * v) (show (0 : Int) < ((p ^ s1 : Nat) : Int) by omega)
    obtain ⟨t, ht⟩ := Int.eq_ofNat_of_zero_le hnn
    rw [ht]
    refine q t H2 (by omega) ?_ (x1.trans x2)
    have h3 : ((p ^ s1 : Nat) : Int) ∣ un p N * v - (t : Int) := by rw [← ht]; exact Int.dvd_self_sub_emod
    have h4 : ((p ^ s1 : Nat) : Int) ∣ un p N * (un p D * v - 1) := Int.dvd_mul_of_dvd_right hv
    have h5 : ((p ^ s1 : Nat) : Int) ∣ (un p N * v - (t : Int)) * un p D := Int.dvd_mul_of_dvd_left h3
    have e : (t : Int) * un p D - un p N = un p N * (un p D * v - 1) - (un p N * v - t) * un p D := by
      rw [Int.mul_sub, Int.sub_mul, Int.mul_one]
      have : un p N * (un p D * v) = un p N * v * un p D := by ac_rfl
      omega
    rw [e]
    exact Int.dvd_sub h4 h5
def sp_unit_agreement (A : Ad) : Sp := fun vs H Q _ => ∃ (p n : Nat) (r : Addr) (N D : Int), vs = [.int p, .int n, .ref r] ∧ p ∈ primesN ∧ 0 < n ∧ n < 13 ∧ RatAt A H r N D ∧ N ≠ 0 ∧ D ≠ 0 ∧ N.natAbs ≤ 1000000000 ∧ D.natAbs ≤ 1000000000 ∧
  ∀ (t : Nat) (v : Int) H2, (p : Int) ^ sr p n ∣ (t : Int) * un p D - un p N → (v = (sr p n : Nat) ↔ crN p n t = true) → Evl.Ex H H2 → Q (.int v) H2
theorem ok_unit_agreement (T : Txt P K mg A) : FnOk P w K mg base CX0 4 A.a_unit_agreement A.d_unit_agreement ["p", "n", "ratio"] (sp_unit_agreement A) := by
  refine T.F_unit_agreement.ok sc_unit_agreement (fun vs H Q E h => ?_) (fun cdv Ar outer s H vs Q E hr h => ?_)
  · obtain ⟨_, _, _, _, _, rfl, _⟩ := h; rfl
  have nd := sc_unit_agreement.nd
  obtain ⟨p, n, r, N, D, rfl, hp, hn, hn2, hR, hN, hD, bN, bD, q⟩ := h
  obtain ⟨_, h2, h9⟩ := of_pr hp
  obtain ⟨s1, s2⟩ := sr_le hp hn hn2
  obtain ⟨s3, s4, s5, s6, s7⟩ := sr_bd hp hn hn2
  refine ⟨_, (pss_cons (ps_set (i := 3) nd rfl (.inl rfl) (pe_call (ok_sure_depth T) (hr.mono (by decide)) (by rfl) T.g_sure_depth T.k_sure_depth T.b_sure_depth .nil pass0 (pa_cons (pv 0) (pa_cons (pv 1) pa_nil))))
    (pss_cons (ps_set (i := 4) nd rfl (.inl rfl) (pe_call (ok_unit_residue T) (hr.mono (by decide)) (by rfl) T.g_unit_residue T.k_unit_residue T.b_unit_residue .nil pass0 (pa_cons (pv 0) (pa_cons (pv 2) (pa_cons (pv 3) pa_nil)))))
    (Evl.pss_cut (ps_if (pt_cmpR op_ne (pv 0) pe_int (nomark _)) (pss_one (ps_set (i := 4) nd rfl (.inl rfl) (pe_call (ok_power_mod T) (hr.mono (by decide)) (by rfl) T.g_power_mod T.k_power_mod T.b_power_mod .nil pass0 (pa_cons (pv 4) (pa_cons (pe_op op_fdiv (pe_op op_sub (pv 0) pe_int) (pe_call (ok_root_count T) (hr.mono (by decide)) (by rfl) T.g_root_count T.k_root_count T.b_root_count .nil pass0 (pa_cons (pv 0) (pa_cons (pv 1) pa_nil)))) (pa_cons (pe_call (ok_power T) (hr.mono (by decide)) (by rfl) T.g_power T.k_power T.b_power .nil pass0 (pa_cons (pv 0) (pa_cons (pv 3) pa_nil))) pa_nil)))))) pss_nil)
    (pss_cons (ps_if (pt_cmpR op_eq (pv 4) pe_int (nomark _)) (pss_one (ps_ret (pv 3))) pss_nil)
    (pss_one (ps_ret (pe_call (ok_int_depth T) (hr.mono (by decide)) (by rfl) T.g_int_depth T.k_int_depth T.b_int_depth .nil pass0 (pa_cons (pv 0) (pa_cons (pe_op op_sub (pv 4) pe_int) pa_nil))))))))), ?_⟩
  walk_at "rd"
  refine ⟨p, n, rfl, hp, hn, hn2, fun H1 x1 => ?_⟩
  walk_at "rd"
  refine ⟨p, r, sr p n, N, D, rfl, hp, s1, by omega, hR.ex x1, hN, hD, bN, bD, fun t H2 ht hd x2 => ?_⟩
  have q := fun v H3 h x3 => q t v H3 hd h (x1.trans (x2.trans x3))
  have epow : ((p : Int) ^ sr p n) = ((p ^ sr p n : Nat) : Int) := (Int.natCast_pow ..).symm
  have hm2 : 2 ≤ p ^ sr p n := two_le_pow h2 s1
  walk_at "rd"
  refine KR.cut (Mid := fun σ' H' => ∃ w : Nat, w < p ^ sr p n ∧ (w = 1 ↔ crN p n t = true) ∧ Evl.Ex H2 H' ∧ σ' = [some (.int p), some (.int n), some (.ref r), some (.int (sr p n : Nat)), some (.int w)]) ?_ ?_
  · walk_at "rd"
    refine KR.iteND (fun hne => ?_) (fun he => ?_)
    · have hp2 : p ≠ 2 := fun z => hne (by omega)
      walk_at "rd"
      refine ⟨p, n, rfl, by omega, ?_⟩
      have ediv : ((p : Int) - 1) / ((Nat.gcd n (p - 1) : Nat) : Int) = ((kk p n : Nat) : Int) := by
        have e : (p : Int) - 1 = ((p - 1 : Nat) : Int) := by omega
        rw [e]
        rfl
      have hgl : Nat.gcd n (p - 1) < 1073741824 := by
        have := Nat.le_of_dvd hn (Nat.gcd_dvd_left n (p - 1))
        omega
      refine KR.opI ⟨by omega, by omega⟩ ?_
      rw [ediv]
      walk_at "rd"
      refine ⟨p, sr p n, rfl, pow_bd7 hp (by omega), ?_⟩
      rw [epow]
      walk_at "rd"
      refine ⟨t, kk p n, p ^ sr p n, rfl, by omega, by
        have : (2 : Nat) ^ 60 = 1152921504606846976 := by decide
        omega, by omega, ?_⟩
      walk_at "rd"
      have emod : ((t : Int) % ((p ^ sr p n : Nat) : Int)).toNat = t := by
        rw [← Int.natCast_emod, Int.toNat_natCast, Nat.mod_eq_of_lt ht]
      rw [emod]
      refine ⟨t ^ kk p n % p ^ sr p n, Nat.mod_lt _ (by omega), ?_, Evl.Ex.refl _, rfl⟩
      unfold crN
      rw [if_neg hp2]
      exact ⟨fun z => beq_iff_eq.mpr z, fun z => beq_iff_eq.mp z⟩
    · walk_at "rd"
      refine ⟨t, ht, ?_, Evl.Ex.refl _, rfl⟩
      have hp2 : p = 2 := by omega
      unfold crN
      rw [if_pos hp2]
      subst hp2
      rw [Nat.mod_eq_of_lt ht]
      exact ⟨fun z => beq_iff_eq.mpr z, fun z => beq_iff_eq.mp z⟩
  rintro σ' H3 ⟨w', hw, hwc, x3, rfl⟩
  walk_at "rd"
  refine KR.iteD (fun c => ?_) (fun c => ?_)
  · walk_at "rd"
    exact q _ H3 ⟨fun _ => hwc.mp (by omega), fun _ => rfl⟩ x3
  · walk_at "rd"
    refine ⟨p, (w' : Int) - 1, rfl, h2, h9, by omega, fun H4 x4 => ?_⟩
    have hlt := depth_lt (p := p) (s := sr p n) (z := (w' : Int) - 1) h2 (by omega) (by omega)
    exact q _ H4 ⟨fun z => by omega, fun z => absurd (hwc.mpr z) (by omega)⟩ (x3.trans x4)
def sp_is_power (A : Ad) : Sp := fun vs H Q _ => ∃ (p n : Nat) (r : Addr) (N D a b : Int), vs = [.int p, .int n, .ref r] ∧ p ∈ primesN ∧ 0 < n ∧ n < 13 ∧ RatAt A H r N D ∧ D ≠ 0 ∧ N.natAbs ≤ 1000000000 ∧ D.natAbs ≤ 1000000000 ∧ a ≠ 0 ∧ b ≠ 0 ∧ N * a = b * D ∧
  ∀ H2, Evl.Ex H H2 → Q (.bl (isPow p n a b)) H2
theorem ok_is_power (T : Txt P K mg A) : FnOk P w K mg base CX0 6 A.a_is_power A.d_is_power ["p", "n", "a"] (sp_is_power A) := by
  refine T.F_is_power.ok sc_is_power (fun vs H Q E h => ?_) (fun cdv Ar outer s H vs Q E hr h => ?_)
  · obtain ⟨_, _, _, _, _, _, _, rfl, _⟩ := h; rfl
  have nd := sc_is_power.nd
  obtain ⟨p, n, r, N, D, a, b, rfl, hp, hn, hn2, hR, hD, bN, bD, ha, hb, e, q⟩ := h
  obtain ⟨hpL, h2, h9⟩ := of_pr hp
  have hN : N ≠ 0 := fun z => by
    rw [z, Int.zero_mul] at e
    exact (Int.mul_eq_zero.mp e.symm).elim hb hD
  obtain ⟨f1, f2⟩ := rat_form hp hN hD ha hb e
  refine ⟨_, (pss_cons (ps_expr (pe_call (ok_look_prime T) (hr.mono (by decide)) (by rfl) T.g_look_prime T.k_look_prime T.b_look_prime .nil passN (pa_cons (pv 0) pa_nil)))
    (pss_cons (ps_expr (pe_call (ok_look_range T) (hr.mono (by decide)) (by rfl) T.g_look_range T.k_look_range T.b_look_range .nil passN (pa_cons (pv 1) (pa_cons pe_int (pa_cons (KR.pe_gI (by rfl) T.c_MOST_EXPONENT_nth) pa_nil)))))
    (pss_cons (ps_set (i := 3) nd rfl (.inl rfl) (pe_call (ok_as_ratio T) (hr.mono (by decide)) (by rfl) T.g_as_ratio T.k_as_ratio T.b_as_ratio .nil pass0 (pa_cons (pv 2) pa_nil)))
    (pss_cons (ps_if (pt_cmpR op_eq (pe_fld (pv 3) rfl) pe_int (nomark _)) (pss_one (ps_ret pe_bl)) pss_nil)
    (pss_cons (ps_if (pt_cmpR op_ne (pe_op op_mod (pe_call (ok_depth_of T) (hr.mono (by decide)) (by rfl) T.g_depth_of T.k_depth_of T.b_depth_of .nil pass0 (pa_cons (pv 0) (pa_cons (pe_fld (pv 3) rfl) (pa_cons (pe_fld (pv 3) rfl) pa_nil)))) (pv 1)) pe_int (nomark _)) (pss_one (ps_ret pe_bl)) pss_nil)
    (pss_one (ps_ret (pe_cmpR op_eq (pe_call (ok_unit_agreement T) (hr.mono (by decide)) (by rfl) T.g_unit_agreement T.k_unit_agreement T.b_unit_agreement .nil pass0 (pa_cons (pv 0) (pa_cons (pv 1) (pa_cons (pv 3) pa_nil)))) (pe_call (ok_sure_depth T) (hr.mono (by decide)) (by rfl) T.g_sure_depth T.k_sure_depth T.b_sure_depth .nil pass0 (pa_cons (pv 0) (pa_cons (pv 1) pa_nil))) (nomark _))))))))), ?_⟩
  walk_at "rd"
  refine ⟨p, rfl, fun _ => ?_, fun z => absurd hpL z⟩
  walk_at "rd"
  refine ⟨n, _, _, rfl, fun _ => ?_, fun z => absurd ⟨by omega, by omega⟩ z⟩
  walk_at "rd"
  refine ⟨r, N, D, rfl, hR, ?_⟩
  walk_at "rd"
  refine T.fnum hR ?_
  walk_at "rd"
  refine KR.iteDF hN ?_
  walk_at "rd"
  refine T.fnum hR ?_
  walk_at "rd"
  refine T.fden hR ?_
  walk_at "rd"
  refine ⟨p, N, D, rfl, h2, h9, hN, hD, fun H1 x1 => ?_⟩
  walk_at "rd"
  rw [f1]
  refine KR.iteND (fun c => ?_) (fun c => ?_)
  · walk_at "rd"
    have eF : isPow p n a b = false := by
      unfold isPow
      rw [decide_eq_false c, Bool.false_and]
    have := q H1 x1
    rw [eF] at this
    exact this
  · walk_at "rd"
    refine ⟨p, n, r, N, D, rfl, hp, hn, hn2, hR.ex x1, hN, hD, bN, bD, fun t v H2 hd hv x2 => ?_⟩
    walk_at "rd"
    refine ⟨p, n, rfl, hp, hn, hn2, fun H3 x3 => ?_⟩
    walk_at "rd"
    have ec := crN_cr2 hp hn hn2 ha (rat_res hp hN hD ha hb e hd)
    have eF : isPow p n a b = decide (v = (sr p n : Nat)) := by
      unfold isPow
      rw [decide_eq_true c, Bool.true_and, ← ec]
      by_cases z : v = (sr p n : Nat)
      · rw [decide_eq_true z]; exact hv.mp z
      · rw [decide_eq_false z]
        cases hc : crN p n t with
        | false => rfl
        | true => exact absurd (hv.mpr hc) z
    rw [← eF]
    exact q H3 (x1.trans (x2.trans x3))
end
end K9
namespace K9
open PySem PySem.Spec PyProof.Rows L2 K7
local macro_rules | `(tactic| walk_at "rc") => `(tactic| first
  | assumption
  | (show (0 : Int) < _; omega)
  | (show (0 : Int) < _ ∧ _ < (1073741824 : Int); exact ⟨by omega, by omega⟩)
  | (show (-(2 ^ 64 : Int) < _ ∧ _ < (2 ^ 64 : Int)) ∨ _; exact .inl ⟨by omega, by omega⟩)
  | (show _ ∨ (-(2 ^ 64 : Int) < _ ∧ _ < (2 ^ 64 : Int)); exact .inr ⟨by omega, by omega⟩)
  | (show (0 : Int) ≤ _ ∧ _ ≤ (1000000 : Int) ∧ _ < 2 ^ 64; exact ⟨by decide, by decide, by decide⟩))
local macro_rules | `(tactic| walk_at "rd") => `(tactic| repeat (first
  | with_reducible apply KR.seq
  | with_reducible apply KR.asg
  | with_reducible apply KR.drop
  | with_reducible apply KR.ret
  | with_reducible apply KR.retN
  | with_reducible apply KR.next
  | with_reducible apply KR.ifs
  | with_reducible refine KR.var rfl ?_
  | with_reducible refine L2.iteT ?_
  | with_reducible refine L2.iteF ?_
  | with_reducible refine KR.iteNF ?_
  | with_reducible refine KR.iteNT ?_
  | with_reducible apply KR.con
  | with_reducible apply KR.op
  | with_reducible apply KR.opI0
  | ((with_reducible refine KR.opI ?rc ?_); (case rc => walk_at "rc"))
  | with_reducible apply KR.un
  | with_reducible apply KR.unI
  | with_reducible apply KR.eqI
  | with_reducible apply KR.neI
  | with_reducible apply KR.test
  | with_reducible apply KR.tb'
  | with_reducible apply KR.exbl
  | with_reducible apply KR.and'
  | with_reducible apply KR.or'
  | with_reducible apply KR.not'
  | with_reducible apply KR.chain
  | with_reducible apply KR.call
  | with_reducible apply KR.callS
  | with_reducible apply KR.make
  | with_reducible apply KR.bm
  | with_reducible apply KR.errF
  | with_reducible apply KR.cons
  | with_reducible apply KR.nil
  | with_reducible apply KR.cb
  | with_reducible apply KR.cInt1
  | with_reducible apply KR.cI1
  | with_reducible apply KR.cI2
  | with_reducible apply KR.isi_ii
  | with_reducible apply KR.isi_ib
  | with_reducible apply KR.bits
  | with_reducible apply KR.exint
  | with_reducible apply KR.ifx
  | with_reducible refine KR.aug rfl ?_
  | with_reducible apply KR.ipI
  | with_reducible apply KR.for'
  | with_reducible apply KR.rng1
  | with_reducible apply KR.rng2
  | with_reducible apply KR.ilist
  | with_reducible apply KR.itup
  | with_reducible apply KR.iseq
  | with_reducible apply KR.gcd
  | with_reducible apply KR.tup
  | with_reducible apply KR.lst
  | with_reducible apply KR.andV
  | with_reducible apply KR.orV
  | with_reducible apply KR.notV
  | with_reducible apply KR.asgG
  | with_reducible apply KR.sub
  | with_reducible apply KR.fld
  | with_reducible apply KR.prop
  | with_reducible apply KR.meth
  | with_reducible apply KR.par
  | with_reducible apply KR.parN
  | with_reducible apply KR.raise1
  | with_reducible apply KR.raise0
  | with_reducible apply KR.exv
  | with_reducible apply KR.lc
  | with_reducible apply KR.ienT
  | with_reducible apply KR.sfld
  | with_reducible apply KR.sl
  | with_reducible apply KR.part
  | with_reducible apply KR.nopart
  | with_reducible apply KR.isNo
  | with_reducible refine KR.nnT ?_
  | with_reducible refine KR.niF ?_
  | with_reducible refine KR.nrF ?_
  | with_reducible refine KR.mnT ?_
  | with_reducible refine KR.miF ?_
  | with_reducible refine KR.mrF ?_))
def okE (n : Int) : Prop := 1 ≤ n ∧ n ≤ 12
def barsT (g : Nat) (a b : Int) (ts : List Int) : List Int := ts.filter fun p => !isPow p.toNat g a b
theorem okL_nat {a : Int} (h : okL a) : a.natAbs ≤ 1000000000 := by
  obtain ⟨h1, h2⟩ := h
  omega
theorem bd_of {a : Int} (h : a.natAbs < 2 ^ 60) : Bd a := Nat.lt_of_lt_of_le h (Nat.pow_le_pow_right (by decide) (by decide))
theorem bd_okL {a : Int} (h : okL a) : Bd a := bd_of (by
  have := okL_nat h
  have e : (2 : Nat) ^ 60 = 1152921504606846976 := by decide
  omega)
theorem two_mem {a b x : Int} : x ∈ [a, b] ↔ x = a ∨ x = b := by
  rw [List.mem_cons, List.mem_singleton]
section
variable {P : Program} {w : World} {K : PySem.W.Frag} {mg : Str → Option Value} {base : Heap} {A : Ad}
def sp_two_term_bars (A : Ad) : Sp := fun vs H Q E => ∃ a m b n : Int, vs = [.int a, .int m, .int b, .int n] ∧ (¬ okL a → errD A.a_RangeError E H a) ∧ (okL a → (¬ okE m → errD A.a_RangeError E H m) ∧ (okE m → (¬ okL b → errD A.a_RangeError E H b) ∧ (okL b → (¬ okE n → errD A.a_RangeError E H n) ∧ (okE n →
  ((a = 0 ∨ b = 0) → ∀ H2, Evl.Ex H H2 → E (.ref A.a_ZeroError) none H2) ∧ (a ≠ 0 → b ≠ 0 → (∀ f, DivL [a, b] f → 97 < f → (∀ g, DivL [a, b] g → 97 < g → f ≤ g) → ∀ H2, Evl.Ex H H2 → errD A.a_PrimeError E H2 f) ∧
    ((∀ f, DivL [a, b] f → f ≤ 97) → ∀ (L : Addr) (ts : List Int) H2, H L = none → Evl.Ex H H2 → Told [a, b] ts → ts.length ≤ 1000 → H2 L = some (.lst ((barsT (Nat.gcd m.natAbs n.natAbs) a b ts).map V.int)) → Q (.ref L) H2))))))
theorem ok_two_term_bars (T : Txt P K mg A) : FnOk P w K mg base (L2N.CX P w) 7 A.a_two_term_bars A.d_two_term_bars ["a", "m", "b", "n"] (sp_two_term_bars A) := by
  refine T.F_two_term_bars.okN sc_two_term_bars (fun vs H Q E h => ?_) (fun cdv Ar outer s H vs Q E hr h => ?_)
  · obtain ⟨_, _, _, _, rfl, _⟩ := h; rfl
  have nd := sc_two_term_bars.nd
  obtain ⟨a, m, b, n, rfl, e1, h⟩ := h
  refine ⟨_, (pss_cons (ps_expr (pe_call (ok_look_range T) (hr.mono (by decide)) (by rfl) T.g_look_range T.k_look_range T.b_look_range .nil (L2N.passes_call (L2N.takes_of rfl rfl rfl rfl) (fun _ _ _ _ h => h)) (pa_cons (pv 0) (pa_cons (pe_un un_neg (KR.pe_gI (by rfl) T.c_LARGEST)) (pa_cons (KR.pe_gI (by rfl) T.c_LARGEST) pa_nil)))))
    (pss_cons (ps_expr (pe_call (ok_look_range T) (hr.mono (by decide)) (by rfl) T.g_look_range T.k_look_range T.b_look_range .nil (L2N.passes_call (L2N.takes_of rfl rfl rfl rfl) (fun _ _ _ _ h => h)) (pa_cons (pv 1) (pa_cons pe_int (pa_cons (KR.pe_gI (by rfl) T.c_MOST_EXPONENT_equations) pa_nil)))))
    (pss_cons (ps_expr (pe_call (ok_look_range T) (hr.mono (by decide)) (by rfl) T.g_look_range T.k_look_range T.b_look_range .nil (L2N.passes_call (L2N.takes_of rfl rfl rfl rfl) (fun _ _ _ _ h => h)) (pa_cons (pv 2) (pa_cons (pe_un un_neg (KR.pe_gI (by rfl) T.c_LARGEST)) (pa_cons (KR.pe_gI (by rfl) T.c_LARGEST) pa_nil)))))
    (pss_cons (ps_expr (pe_call (ok_look_range T) (hr.mono (by decide)) (by rfl) T.g_look_range T.k_look_range T.b_look_range .nil (L2N.passes_call (L2N.takes_of rfl rfl rfl rfl) (fun _ _ _ _ h => h)) (pa_cons (pv 3) (pa_cons pe_int (pa_cons (KR.pe_gI (by rfl) T.c_MOST_EXPONENT_equations) pa_nil)))))
    (pss_cons (ps_set (i := 4) nd rfl (.inl rfl) (pe_call (ok_with_two T) (hr.mono (by decide)) (by rfl) T.g_with_two T.k_with_two T.b_with_two .nil pass0 (pa_cons (pe_call (ok_primes_of T) (hr.mono (by decide)) (by rfl) T.g_primes_of T.k_primes_of T.b_primes_of .nil (L2N.passes_call (L2N.takes_of rfl rfl rfl rfl) (fun _ _ _ _ h => h)) (pa_cons (pe_lst (pa_cons (pv 0) (pa_cons (pv 2) pa_nil))) (pa_cons (KR.pe_gI (by rfl) T.c_MOST_PRIME) pa_nil))) pa_nil)))
    (pss_cons (ps_set (i := 5) nd rfl (.inr rfl) (pe_callBfun cr_gcd (by rfl) T.n_gcd (pa_cons (pv 1) (pa_cons (pv 3) pa_nil))))
    (pss_cons (ps_set (i := 6) nd rfl (.inr rfl) (pe_meth (pe_make (dvs := [.int 1]) T.mk_Ratio (ok_Ratio_init T) (hr.mono (by decide)) (by rfl) T.g_Ratio T.b1_Ratio_init.choose_spec.2 T.b1_Ratio_init.choose_spec.1 pass0 (pa_cons (pv 2) pa_nil)) T.cl_Ratio T.m_Ratio_over (ok_Ratio_over T) (hr.mono (by decide)) T.b_Ratio_over .nil pass0 (pa_cons (pv 0) pa_nil)))
    (pss_one (ps_ret (pe_lc (own := [("p", 7)]) (g := gName 7) rfl nd (pi_list (pv 4)) (blkOk_by (own := [("p", 7)]) (N := ["a", "m", "b", "n", "told", "shared", "goal", "p"]) (sc := defScope s_two_term_bars) (by decide +kernel)) (fun _ _ _ _ _ => pg_name (i := 7) nd rfl (Or.inl rfl)) (fun _ _ _ _ _ => (pts_one (pt_not (pt_val (pe_call (ok_is_power T) (hr.mono (by decide)) (by rfl) T.g_is_power T.k_is_power T.b_is_power .nil pass0 (pa_cons (pv 7) (pa_cons (pv 5) (pa_cons (pv 6) pa_nil)))))))) (fun _ _ _ _ _ => (pv 7)))))))))))), ?_⟩
  walk_at "rd"
  refine ⟨a, _, _, rfl, fun ha => ?_, e1⟩
  obtain ⟨e2, h⟩ := h ha
  walk_at "rd"
  refine ⟨m, _, _, rfl, fun hm => ?_, e2⟩
  obtain ⟨e3, h⟩ := h hm
  walk_at "rd"
  refine ⟨b, _, _, rfl, fun hb => ?_, e3⟩
  obtain ⟨e4, h⟩ := h hb
  walk_at "rd"
  refine ⟨n, _, _, rfl, fun hn => ?_, e4⟩
  obtain ⟨e5, h⟩ := h hn
  walk_at "rd"
  refine ⟨by show (2 : Nat) ≤ sizeLine; decide, fun c hc => ?_⟩
  have x1 : Evl.Ex H (upd H c (.lst [.int a, .int b])) := Evl.Ex.new hc
  have lc : (upd H c (.lst [.int a, .int b])) c = some (.lst (([a, b] : List Int).map V.int)) := upd_same
  generalize upd H c _ = H1 at x1 lc ⊢
  walk_at "rd"
  refine ⟨true, c, [a, b], rfl, SqA.l lc, fun x hx => (two_mem.mp hx).elim (fun z => z ▸ ha) (fun z => z ▸ hb), by show (2 : Nat) ≤ 30; decide, fun h0 => e5 ((two_mem.mp h0).imp Eq.symm Eq.symm) H1 x1, fun h0 => ?_⟩
  have a0 : a ≠ 0 := fun z => h0 (two_mem.mpr (.inl z.symm))
  have b0 : b ≠ 0 := fun z => h0 (two_mem.mpr (.inr z.symm))
  obtain ⟨e6, q⟩ := h a0 b0
  refine ⟨fun f hf h97 hmin H2 x2 => e6 f hf h97 hmin H2 (x1.trans x2), fun hle L fs H2 hL x2 lL hasc hmem hlen => ?_⟩
  have q := q hle
  walk_at "rd"
  refine ⟨L, fs, rfl, .inl (.inl lL), hlen, fun M H3 hM x3 lM => ?_⟩
  have hT := told_of hasc hmem
  have hTl : ((2 : Int) :: fs.filter fun x => !decide (x = 2)).length ≤ 1000 := by
    rw [List.length_cons]
    have := List.length_filter_le (fun x => !decide (x = 2)) fs
    omega
  generalize ((2 : Int) :: fs.filter fun x => !decide (x = 2)) = ts at lM hT hTl
  have x13 := x1.trans (x2.trans x3)
  clear x1 x2 x3 hM hL lL hasc hmem hlen lc hc
  obtain ⟨m1, m2⟩ := hm
  obtain ⟨n1, n2⟩ := hn
  have hg0 : 0 < Nat.gcd m.natAbs n.natAbs := Nat.gcd_pos_of_pos_left _ (by omega)
  have hg1 : Nat.gcd m.natAbs n.natAbs < 13 := by
    have := Nat.le_of_dvd (by omega) (Nat.gcd_dvd_left m.natAbs n.natAbs)
    omega
  walk_at "rd"
  generalize Nat.gcd m.natAbs n.natAbs = g at q hg0 hg1 ⊢
  have hb9 := okL_nat hb
  have ha9 := okL_nat ha
  refine mkR (num := b) (den := 1) (bd_okL hb) (bd_of (by decide)) (by decide) fun r H4 N1 D1 hr x4 hR hl he hN hD => ?_
  have hD1 : D1 = 1 := by have := hl.1; omega
  rw [hD1] at hR he
  rw [Int.mul_one, Int.mul_one] at he
  rw [he] at hR
  obtain ⟨dx, hR'⟩ := id hR
  refine ⟨r, dx, _, rfl, hR', rfl, ?_⟩
  walk_at "rd"
  refine ⟨r, b, 1, a, 1, .int a, rfl, hR, .inl ⟨rfl, rfl⟩, a0, by decide, bd_okL hb, bd_of (by decide), bd_okL ha, bd_of (by decide), by rw [Int.mul_one]; exact bd_okL hb, by rw [Int.one_mul]; exact bd_okL ha, ?_, fun r2 H5 N D hr2 x5 hR2 hl2 he2 => ?_⟩
  · rw [Int.mul_one, Int.one_mul]
    have := Nat.le_of_dvd (by omega) (Nat.gcd_dvd_right b.natAbs a.natAbs)
    omega
  rw [Int.one_mul, Int.mul_one] at he2
  obtain ⟨c1, c2, _⟩ := low_bd hl2 he2 a0
  have hD0 : D ≠ 0 := by have := hl2.1; omega
  have lM5 := x5 _ _ (x4 _ _ lM)
  have x15 := x13.trans (x4.trans x5)
  have hpN : ∀ x ∈ ts, ∃ p ∈ primesN, x = ((p : Nat) : Int) := fun x hx => by
    rcases (hT.2 x).mp hx with rfl | ⟨p, rfl, hp, hd⟩
    · exact ⟨2, by decide, rfl⟩
    · exact ⟨p, small_prime hp (by have := hle p ⟨p, rfl, hp, hd⟩; omega), rfl⟩
  walk_at "rd"
  refine KR.llistN (xs := ts.map V.int) (.inl (.inl lM5)) (KR.lwL (fun k => !isPow (ts.getD k 0).toNat g a b) (fun k => .int (ts.getD k 0)) (.inl (.inl lM5)) (by rw [List.length_map]; omega) (fun _ => rfl) ?_ ?_ ?_)
  · intro k v H6 x6 hv H7 x7 Q' q'
    have hkm : ts.getD k 0 ∈ ts := by
      rw [List.getElem?_map] at hv
      obtain ⟨w, hw, _⟩ := Option.map_eq_some_iff.mp hv
      rw [List.getD_eq_getElem?_getD, hw]
      exact List.mem_of_getElem? hw
    rw [at_getD hv]
    obtain ⟨p, hp, ep⟩ := hpN _ hkm
    rw [ep] at q' ⊢
    rw [Int.toNat_natCast] at q'
    walk_at "rd"
    refine ⟨p, g, r2, N, D, a, b, rfl, hp, hg0, hg1, (hR2.ex x6).ex x7, hD0, by omega, by omega, a0, b0, he2, fun H8 x8 => ?_⟩
    walk_at "rd"
    exact q' H8 x8
  · intro k v H6 x6 hv hf H7 x7 Q' q'
    rw [at_getD hv]
    walk_at "rd"
    exact q' H7 (Evl.Ex.refl _)
  intro d H6 hd x6 ld
  rw [List.length_map, giv_whole (fun x => !isPow x.toNat g a b) (fun x => V.int x)] at ld
  exact q d ts H6 (ex_none x15 hd) (x15.trans x6) hT hTl ld
end
end K9
namespace K9
open PySem PySem.Spec PyProof.Rows L2 K7
local macro_rules | `(tactic| walk_at "rc") => `(tactic| first
  | assumption
  | (show (0 : Int) < _; omega)
  | (show (0 : Int) < _ ∧ _ < (1073741824 : Int); exact ⟨by omega, by omega⟩)
  | (show (-(2 ^ 64 : Int) < _ ∧ _ < (2 ^ 64 : Int)) ∨ _; exact .inl ⟨by omega, by omega⟩)
  | (show _ ∨ (-(2 ^ 64 : Int) < _ ∧ _ < (2 ^ 64 : Int)); exact .inr ⟨by omega, by omega⟩)
  | (show (0 : Int) ≤ _ ∧ _ ≤ (1000000 : Int) ∧ _ < 2 ^ 64; exact ⟨by decide, by decide, by decide⟩))
local macro_rules | `(tactic| walk_at "rd") => `(tactic| repeat (first
  | with_reducible apply KR.seq
  | with_reducible apply KR.asg
  | with_reducible apply KR.drop
  | with_reducible apply KR.ret
  | with_reducible apply KR.retN
  | with_reducible apply KR.next
  | with_reducible apply KR.ifs
  | with_reducible refine KR.var rfl ?_
  | with_reducible refine L2.iteT ?_
  | with_reducible refine L2.iteF ?_
  | with_reducible refine KR.iteNF ?_
  | with_reducible refine KR.iteNT ?_
  | with_reducible apply KR.con
  | with_reducible apply KR.op
  | with_reducible apply KR.opI0
  | ((with_reducible refine KR.opI ?rc ?_); (case rc => walk_at "rc"))
  | with_reducible apply KR.un
  | with_reducible apply KR.unI
  | with_reducible apply KR.eqI
  | with_reducible apply KR.neI
  | with_reducible apply KR.test
  | with_reducible apply KR.tb'
  | with_reducible apply KR.exbl
  | with_reducible apply KR.and'
  | with_reducible apply KR.or'
  | with_reducible apply KR.not'
  | with_reducible apply KR.chain
  | with_reducible apply KR.call
  | with_reducible apply KR.callS
  | with_reducible apply KR.make
  | with_reducible apply KR.bm
  | with_reducible apply KR.errF
  | with_reducible apply KR.cons
  | with_reducible apply KR.nil
  | with_reducible apply KR.cb
  | with_reducible apply KR.cInt1
  | with_reducible apply KR.cI1
  | with_reducible apply KR.cI2
  | with_reducible apply KR.isi_ii
  | with_reducible apply KR.isi_ib
  | with_reducible apply KR.bits
  | with_reducible apply KR.exint
  | with_reducible apply KR.ifx
  | with_reducible refine KR.aug rfl ?_
  | with_reducible apply KR.ipI
  | with_reducible apply KR.for'
  | with_reducible apply KR.rng1
  | with_reducible apply KR.rng2
  | with_reducible apply KR.ilist
  | with_reducible apply KR.itup
  | with_reducible apply KR.iseq
  | with_reducible apply KR.gcd
  | with_reducible apply KR.tup
  | with_reducible apply KR.lst
  | with_reducible apply KR.andV
  | with_reducible apply KR.orV
  | with_reducible apply KR.notV
  | with_reducible apply KR.asgG
  | with_reducible apply KR.sub
  | with_reducible apply KR.fld
  | with_reducible apply KR.prop
  | with_reducible apply KR.meth
  | with_reducible apply KR.par
  | with_reducible apply KR.parN
  | with_reducible apply KR.raise1
  | with_reducible apply KR.raise0
  | with_reducible apply KR.exv
  | with_reducible apply KR.lc
  | with_reducible apply KR.ienT
  | with_reducible apply KR.sfld
  | with_reducible apply KR.sl
  | with_reducible apply KR.part
  | with_reducible apply KR.nopart
  | with_reducible apply KR.isNo
  | with_reducible refine KR.nnT ?_
  | with_reducible refine KR.niF ?_
  | with_reducible refine KR.nrF ?_
  | with_reducible refine KR.mnT ?_
  | with_reducible refine KR.miF ?_
  | with_reducible refine KR.mrF ?_))
theorem neBl (x y : Bool) : (!decide (V.bl x = V.bl y)) = (x != y) := by
  cases x <;> cases y <;> decide
theorem vI_30 {p : Nat} (hp : 2 ≤ p) {a : Int} (ha : a ≠ 0) (h : okL a) : vI p a < 30 := vI_lt hp ha (by
  have := okL_nat h
  have e : (2 : Nat) ^ 30 = 1073741824 := by decide
  omega)
theorem pow_bd30 {p e : Nat} (hp : p < 100) (he : e ≤ 30) : PowOk (p : Int) e := powOk (c := 7) (k := 30) (by omega) (by decide) he (by decide)
theorem pow_bd12 {b : Int} {e : Nat} (hb : b.natAbs ≤ 1000000000) (he : e ≤ 12) : PowOk b e := powOk (c := 30) (k := 12) (by
  have e : (2 : Nat) ^ 30 = 1073741824 := by decide
  omega) (by decide) he (by decide)
theorem pow_400 {b : Int} {e : Nat} (hb : b.natAbs ≤ 1000000000) (he : e ≤ 12) : (b ^ e).natAbs < 2 ^ 400 := by
  rw [Int.natAbs_pow]
  have e0 : (2 : Nat) ^ 30 = 1073741824 := by decide
  have h1 : b.natAbs ^ e ≤ (2 ^ 30) ^ e := Nat.pow_le_pow_left (by omega) e
  rw [← Nat.pow_mul] at h1
  have h3 : 2 ^ (30 * e) < 2 ^ 400 := Nat.pow_lt_pow_right (by decide) (by omega)
  omega
theorem bd_400 {n : Int} (h : n.natAbs < 2 ^ 400) : Bd n := Nat.lt_of_lt_of_le h (Nat.pow_le_pow_right (by decide) (by decide))
section
variable {P : Program} {w : World} {K : PySem.W.Frag} {mg : Str → Option Value} {base : Heap} {A : Ad}
def sp_root (A : Ad) : Sp := fun vs H Q _ => ∃ (a b : Int) (g : Nat), vs = [.int a, .int b, .int g] ∧ okL a ∧ okL b ∧ a ≠ 0 ∧ b ≠ 0 ∧ 0 < g ∧ g < 13 ∧ (∀ f, DivL [a, b] f → f ≤ 97) ∧ (∀ f, DivL [a, b] f → ((vI f.toNat b : Int) - vI f.toNat a) % (g : Int) = 0) ∧ cr2 2 g a b = true ∧
  ∀ r H2 N D, Evl.Ex H H2 → RatAt A H2 r N D → Low1 N D → b * D ^ g = a * N ^ g → N ≠ 0 → N.natAbs ≤ 1000000000 → D.natAbs ≤ 1000000000 → Q (.ref r) H2
theorem ok_root (T : Txt P K mg A) : FnOk P w K mg base CX0 4 A.a_root A.d_root ["a", "b", "n"] (sp_root A) := by
  refine T.F_root.ok sc_root (fun vs H Q E h => ?_) (fun cdv Ar outer s H vs Q E hr h => ?_)
  · obtain ⟨_, _, _, rfl, _⟩ := h; rfl
  have nd := sc_root.nd
  obtain ⟨a, b, g, rfl, ha, hb, a0, b0, hg0, hg2, hle, hdv, hc2, q⟩ := h
  refine ⟨_, (pss_cons (ps_set (i := 3) nd rfl (.inl rfl) pe_int)
    (pss_cons (ps_set (i := 4) nd rfl (.inl rfl) pe_int)
    (pss_cons (ps_for PassesOwn.never rfl (pi_list (pe_call (ok_primes_of T) (hr.mono (by decide)) (by rfl) T.g_primes_of T.k_primes_of T.b_primes_of .nil passN (pa_cons (pe_lst (pa_cons (pv 0) (pa_cons (pv 1) pa_nil))) (pa_cons (KR.pe_gI (by rfl) T.c_MOST_PRIME) pa_nil)))) (pg_name (i := 5) nd rfl (Or.inl rfl)) (pss_cons (ps_set (i := 6) nd rfl (.inl rfl) (pe_op op_fdiv (pe_op op_sub (pe_call (ok_int_depth T) (hr.mono (by decide)) (by rfl) T.g_int_depth T.k_int_depth T.b_int_depth .nil pass0 (pa_cons (pv 5) (pa_cons (pv 1) pa_nil))) (pe_call (ok_int_depth T) (hr.mono (by decide)) (by rfl) T.g_int_depth T.k_int_depth T.b_int_depth .nil pass0 (pa_cons (pv 5) (pa_cons (pv 0) pa_nil)))) (pv 2)))
    (pss_one (ps_if (pt_cmpR op_gt (pv 6) pe_int (nomark _)) (pss_one (ps_set (i := 3) nd rfl (.inl rfl) (pe_op op_mulW (pv 3) (pe_call (ok_power T) (hr.mono (by decide)) (by rfl) T.g_power T.k_power T.b_power .nil pass0 (pa_cons (pv 5) (pa_cons (pv 6) pa_nil)))))) (pss_one (ps_set (i := 4) nd rfl (.inl rfl) (pe_op op_mulW (pv 4) (pe_call (ok_power T) (hr.mono (by decide)) (by rfl) T.g_power T.k_power T.b_power .nil pass0 (pa_cons (pv 5) (pa_cons (pe_un un_neg (pv 6)) pa_nil))))))))))
    (Evl.pss_cut (ps_if (pt_cmpR op_ne (pe_cmpR op_lt (pv 0) pe_int (nomark _)) (pe_cmpR op_lt (pv 1) pe_int (nomark _)) (nomark _)) (pss_one (ps_set (i := 3) nd rfl (.inl rfl) (pe_un un_neg (pv 3)))) pss_nil)
    (pss_one (ps_ret (pe_make (dvs := []) T.mk_Ratio (ok_Ratio_init T) (hr.mono (by decide)) (by rfl) T.g_Ratio T.b2_Ratio_init.choose_spec.2 T.b2_Ratio_init.choose_spec.1 pass0 (pa_cons (pv 3) (pa_cons (pv 4) pa_nil))))))))), ?_⟩
  walk_at "rd"
  refine ⟨by show (2 : Nat) ≤ sizeLine; decide, fun c hc => ?_⟩
  have x1 : Evl.Ex H (upd H c (.lst [.int a, .int b])) := Evl.Ex.new hc
  have lc : (upd H c (.lst [.int a, .int b])) c = some (.lst (([a, b] : List Int).map V.int)) := upd_same
  generalize upd H c _ = H1 at x1 lc ⊢
  walk_at "rd"
  refine ⟨true, c, [a, b], rfl, SqA.l lc, fun x hx => (two_mem.mp hx).elim (fun z => z ▸ ha) (fun z => z ▸ hb), by show (2 : Nat) ≤ 30; decide, fun h0 => absurd h0 (fun h0 => (two_mem.mp h0).elim (fun z => a0 z.symm) (fun z => b0 z.symm)), fun h0 => ⟨fun f hf h97 _ _ _ => absurd (hle f hf) (by omega), fun _ L fs H2 hL x2 lL hasc hmem hlen => ?_⟩⟩
  have hnd : fs.Nodup := hasc.imp (fun h => by omega)
  have hprs : ∀ x ∈ fs, ∃ q : Nat, x = q ∧ Pr q := fun x hx => by
    obtain ⟨q, e, hq, _⟩ := (hmem x).mp hx
    exact ⟨q, e, hq⟩
  have hall : ∀ q : Nat, Pr q → (q ∣ a.natAbs ∨ q ∣ b.natAbs) → (q : Int) ∈ fs := fun q hq hd => (hmem q).mpr ⟨q, rfl, hq, hd.elim (fun z => ⟨a, two_mem.mpr (.inl rfl), z⟩) (fun z => ⟨b, two_mem.mpr (.inr rfl), z⟩)⟩
  have hd : ∀ x ∈ fs, ((vI x.toNat b : Int) - vI x.toNat a) % (g : Int) = 0 := fun x hx => hdv x ((hmem x).mp hx)
  obtain ⟨rel, bp, bn, pp, pn⟩ := root_rel hg0 a0 b0 hnd hprs hall hd
  have h2 : ∀ x ∈ fs, 2 ≤ x := fun x hx => by
    obtain ⟨q, rfl, hq⟩ := hprs x hx
    have := hq.two
    omega
  have ha9 := okL_nat ha
  have hb9 := okL_nat hb
  have x12 := x1.trans x2
  refine KR.ilistN (xs := fs.map V.int) (.inl (.inl lL)) (KR.fwL (xs := fs.map V.int) (fun k σ' H' => Evl.Ex H2 H' ∧ ∃ z1 z2, σ' = [some (.int a), some (.int b), some (.int g), some (.int (PI (pos g a b) (fs.take k))), some (.int (PI (neg g a b) (fs.take k))), z1, z2]) ⟨Evl.Ex.refl _, none, none, rfl⟩ ?_ ?_ ?_)
  · rintro k σ' H' _ ⟨e, _⟩
    exact .inl (.inl (e _ _ lL))
  · rintro k v σ' H3 hv ⟨x3, z1, z2, rfl⟩
    rw [List.getElem?_map] at hv
    obtain ⟨x, hx, rfl⟩ := Option.map_eq_some_iff.mp hv
    have hxm := List.mem_of_getElem? hx
    obtain ⟨p, rfl, hp⟩ := hprs x hxm
    have p2 := hp.two
    have p9 := hle p ((hmem p).mp hxm)
    have hdx := hd _ hxm
    rw [Int.toNat_natCast] at hdx
    have vb := vI_30 p2 b0 hb
    have va := vI_30 p2 a0 ha
    have est : ((vI p b : Int) - vI p a) / (g : Int) = stp g a b (p : Int) := by unfold stp; rw [Int.toNat_natCast]
    have bk1 := PI_take (f := pos g a b) h2 k
    have bk2 := PI_take (f := neg g a b) h2 k
    have pk1 := PI_pos (pos g a b) (fs.take k) fun x hx => h2 x (List.mem_of_mem_take hx)
    have pk2 := PI_pos (neg g a b) (fs.take k) fun x hx => h2 x (List.mem_of_mem_take hx)
    obtain ⟨_, pn1, pn2⟩ := pos_neg hg0 (hd _ hxm)
    rw [Int.toNat_natCast] at pn1 pn2
    have hbig : ∀ z : Int, 0 < z → z ≤ 1000000000 → z.natAbs < 2 ^ 5000 := fun z z0 z1 => Nat.lt_of_lt_of_le (show z.natAbs < 2 ^ 30 by
      have e : (2 : Nat) ^ 30 = 1073741824 := by decide
      omega) (Nat.pow_le_pow_right (by decide) (by decide))
    have st1 := PI_step (f := pos g a b) hx
    have st2 := PI_step (f := neg g a b) hx
    walk_at "rd"
    refine ⟨p, b, rfl, p2, by omega, b0, fun H4 x4 => ?_⟩
    walk_at "rd"
    refine ⟨p, a, rfl, p2, by omega, a0, fun H5 x5 => ?_⟩
    walk_at "rd"
    rw [est]
    have x35 := x3.trans (x4.trans x5)
    refine KR.iteD (fun hs => ?_) (fun hs => ?_)
    · have es : stp g a b (p : Int) = ((pos g a b (p : Int) : Nat) : Int) := by unfold pos; omega
      have en : neg g a b (p : Int) = 0 := by unfold neg; omega
      walk_at "rd"
      rw [es]
      refine ⟨p, pos g a b (p : Int), rfl, pow_bd30 (by omega) (by omega), ?_⟩
      refine KR.opI (mulW (k := 5000) (by decide) (hbig _ pk1 (by omega)) (pow_bd30 (by omega) (by omega) _ (.inl (Nat.le_refl _)))) ?_
      walk_at "rd"
      refine ⟨x35, some (.int (p : Nat)), some (.int ((pos g a b (p : Int) : Nat) : Int)), ?_⟩
      rw [st1, st2, en, Int.pow_zero, Int.mul_one]
      rfl
    · have es : -stp g a b (p : Int) = ((neg g a b (p : Int) : Nat) : Int) := by unfold neg; omega
      have en : pos g a b (p : Int) = 0 := by unfold pos; omega
      walk_at "rd"
      rw [es]
      refine ⟨p, neg g a b (p : Int), rfl, pow_bd30 (by omega) (by omega), ?_⟩
      refine KR.opI (mulW (k := 5000) (by decide) (hbig _ pk2 (by omega)) (pow_bd30 (by omega) (by omega) _ (.inl (Nat.le_refl _)))) ?_
      walk_at "rd"
      refine ⟨x35, some (.int (p : Nat)), some (.int (stp g a b (p : Int))), ?_⟩
      rw [st1, st2, en, Int.pow_zero, Int.mul_one]
      rfl
  rintro σ' H3 ⟨x3, z1, z2, rfl⟩
  rw [List.length_map, List.take_length]
  generalize PI (pos g a b) fs = num at rel bp pp
  generalize PI (neg g a b) fs = den at rel bn pn
  have hso : (a < 0) ≠ (b < 0) → g % 2 = 1 := fun hs => sign_two hg0 hg2 a0 b0 (by omega) (by omega) rel hc2 hs
  have rel2 := root_sign rel a0 b0 hso
  refine KR.cut (Mid := fun σ' H' => H' = H3 ∧ σ' = [some (.int a), some (.int b), some (.int g), some (.int (if (decide (a < 0)) != (decide (b < 0)) then -num else num)), some (.int den), z1, z2]) ?_ ?_
  · walk_at "rd"
    refine KR.neS rfl ?_
    rw [neBl]
    walk_at "rd"
    refine KR.iteB (fun c => ?_) (fun c => ?_)
    · walk_at "rd"
      rw [c]
      exact ⟨rfl, rfl⟩
    · walk_at "rd"
      rw [c]
      exact ⟨rfl, rfl⟩
  rintro σ' H' ⟨rfl, rfl⟩
  obtain ⟨num', hnum', hn9, hn0⟩ : ∃ num' : Int, (if (decide (a < 0)) != (decide (b < 0)) then -num else num) = num' ∧ num'.natAbs ≤ 1000000000 ∧ num' ≠ 0 := ⟨_, rfl, by split <;> omega, by split <;> omega⟩
  rw [hnum'] at rel2 ⊢
  walk_at "rd"
  refine mkR (num := num') (den := den) (bd_of (by
    have e : (2 : Nat) ^ 60 = 1152921504606846976 := by decide
    omega)) (bd_of (by
    have e : (2 : Nat) ^ 60 = 1152921504606846976 := by decide
    omega)) pn fun r H4 N D hr x4 hR hl he hN hD => ?_
  have hd0 : den ≠ 0 := by omega
  have lb := low_bd hl he hd0
  exact q r H4 N D (x12.trans (x3.trans x4)) hR hl (red_rel hd0 he rel2) (lb.2.2 hn0) (by omega) (by have := hl.1; omega)
def sp_raised (A : Ad) : Sp := fun vs H Q _ => ∃ (r : Addr) (N D e : Int), vs = [.ref r, .int e] ∧ RatAt A H r N D ∧ N ≠ 0 ∧ 0 < D ∧ N.natAbs ≤ 1000000000 ∧ D.natAbs ≤ 1000000000 ∧ -12 ≤ e ∧ e ≤ 12 ∧
  ∀ r2 H2 y1 y2, Evl.Ex H H2 → RatAt A H2 r2 y1 y2 → Low1 y1 y2 → y1 ≠ 0 → y1.natAbs < 2 ^ 400 → y2.natAbs < 2 ^ 400 → (∀ k : Nat, e = k → y1 * D ^ k = N ^ k * y2) → (∀ j : Nat, e = -(j : Int) → y1 * N ^ j = D ^ j * y2) → Q (.ref r2) H2
theorem ok_raised (T : Txt P K mg A) : FnOk P w K mg base CX0 6 A.a_raised A.d_raised ["base", "exponent"] (sp_raised A) := by
  refine T.F_raised.ok sc_raised (fun vs H Q E h => ?_) (fun cdv Ar outer s H vs Q E hr h => ?_)
  · obtain ⟨_, _, _, _, rfl, _⟩ := h; rfl
  have nd := sc_raised.nd
  obtain ⟨r, N, D, e, rfl, hR, hN, hD, bN, bD, e1, e2, q⟩ := h
  refine ⟨_, (pss_cons (ps_set (i := 2) nd rfl (.inl rfl) (pe_callB call_abs (by rfl) T.n_abs (by decide +kernel) (pa_cons (pv 1) pa_nil)))
    (pss_cons (ps_set (i := 3) nd rfl (.inl rfl) (pe_make (dvs := []) T.mk_Ratio (ok_Ratio_init T) (hr.mono (by decide)) (by rfl) T.g_Ratio T.b2_Ratio_init.choose_spec.2 T.b2_Ratio_init.choose_spec.1 pass0 (pa_cons (pe_call (ok_power T) (hr.mono (by decide)) (by rfl) T.g_power T.k_power T.b_power .nil pass0 (pa_cons (pe_fld (pv 0) rfl) (pa_cons (pv 2) pa_nil))) (pa_cons (pe_call (ok_power T) (hr.mono (by decide)) (by rfl) T.g_power T.k_power T.b_power .nil pass0 (pa_cons (pe_fld (pv 0) rfl) (pa_cons (pv 2) pa_nil))) pa_nil))))
    (pss_one (ps_ret (pe_ifExp (pt_cmpR op_lt (pv 1) pe_int (nomark _)) (pe_meth (pe_make (dvs := [.int 1]) T.mk_Ratio (ok_Ratio_init T) (hr.mono (by decide)) (by rfl) T.g_Ratio T.b1_Ratio_init.choose_spec.2 T.b1_Ratio_init.choose_spec.1 pass0 (pa_cons pe_int pa_nil)) T.cl_Ratio T.m_Ratio_over (ok_Ratio_over T) (hr.mono (by decide)) T.b_Ratio_over .nil pass0 (pa_cons (pv 3) pa_nil)) (pv 3)))))), ?_⟩
  walk_at "rd"
  have ea : (if e < 0 then -e else e) = ((e.natAbs : Nat) : Int) := by split <;> omega
  rw [ea]
  have he12 : e.natAbs ≤ 12 := by omega
  have q0 := q
  generalize hj : e.natAbs = j at he12 ⊢
  refine T.fnum hR ?_
  walk_at "rd"
  refine ⟨N, j, rfl, pow_bd12 bN he12, ?_⟩
  walk_at "rd"
  refine T.fden hR ?_
  walk_at "rd"
  refine ⟨D, j, rfl, pow_bd12 bD he12, ?_⟩
  walk_at "rd"
  have p1 := pow_400 bN he12
  have p2 := pow_400 bD he12
  have hDj : 0 < D ^ j := Int.pow_pos hD
  have hNj : N ^ j ≠ 0 := Int.pow_ne_zero hN
  refine mkR (num := N ^ j) (den := D ^ j) (bd_400 p1) (bd_400 p2) hDj fun r1 H1 u1 u2 hr1 x1 hR1 hl1 he1 hu1 hu2 => ?_
  have lb := low_bd hl1 he1 (by omega)
  have u10 := lb.2.2 hNj
  have u2n := hl1.1
  walk_at "rd"
  refine KR.iteD (fun hneg => ?_) (fun hneg => ?_)
  · have hej : e = -(j : Int) := by omega
    walk_at "rd"
    refine mkR (num := 1) (den := 1) (bd_of (by decide)) (bd_of (by decide)) (by decide) fun r3 H3 N3 D3 hr3 x3 hR3 hl3 he3 hn3 hd3 => ?_
    have hD31 : D3 = 1 := by have := hl3.1; omega
    rw [hD31] at hR3 he3
    rw [Int.mul_one, Int.mul_one] at he3
    rw [he3] at hR3
    obtain ⟨dx, hR3'⟩ := id hR3
    refine ⟨r3, dx, _, rfl, hR3', rfl, ?_⟩
    walk_at "rd"
    have bu1 : u1.natAbs < 2 ^ 400 := by omega
    have bu2 : u2.natAbs < 2 ^ 400 := by omega
    refine ⟨r3, 1, 1, u1, u2, .ref r1, rfl, hR3, .inr ⟨r1, rfl, hR1.ex x3⟩, u10, by decide, bd_of (by decide), bd_of (by decide), bd_400 bu1, bd_400 bu2, by rw [Int.one_mul]; exact bd_400 bu2, by rw [Int.one_mul]; exact bd_400 bu1, ?_, fun r4 H4 y1 y2 hr4 x4 hR4 hl4 he4 => ?_⟩
    · rw [Int.one_mul, Int.one_mul, Nat.gcd_comm]
      have := hl1.2
      omega
    rw [Int.one_mul, Int.one_mul] at he4
    have lb4 := low_bd hl4 he4 u10
    refine q r4 H4 y1 y2 (x1.trans (x3.trans x4)) hR4 hl4 (lb4.2.2 (by omega)) (by omega) (by omega) (fun k hk => ?_) (fun i hi => ?_)
    · exact absurd hk (by omega)
    · have hij : i = j := by omega
      rw [hij]
      refine Int.eq_of_mul_eq_mul_right (show u2 ≠ 0 by omega) ?_
      calc y1 * N ^ j * u2 = y1 * (N ^ j * u2) := Int.mul_assoc ..
        _ = y1 * (u1 * D ^ j) := by rw [he1]
        _ = (y1 * u1) * D ^ j := by ac_rfl
        _ = (u2 * y2) * D ^ j := by rw [he4]
        _ = D ^ j * y2 * u2 := by ac_rfl
  · have hej : e = (j : Int) := by omega
    walk_at "rd"
    refine q r1 H1 u1 u2 x1 hR1 hl1 u10 (by omega) (by omega) (fun k hk => ?_) (fun i hi => ?_)
    · have : k = j := by omega
      rw [this]
      exact he1
    · have hi0 : i = 0 := by omega
      have hj0 : j = 0 := by omega
      rw [hj0, Int.pow_zero, Int.pow_zero] at he1
      rw [hi0, Int.pow_zero, Int.pow_zero]
      exact he1
end
end K9
namespace K9
open PySem PySem.Spec PyProof.Rows L2 K7
local macro_rules | `(tactic| walk_at "rc") => `(tactic| first
  | assumption
  | (show (0 : Int) < _; omega)
  | (show (0 : Int) < _ ∧ _ < (1073741824 : Int); exact ⟨by omega, by omega⟩)
  | (show (-(2 ^ 64 : Int) < _ ∧ _ < (2 ^ 64 : Int)) ∨ _; exact .inl ⟨by omega, by omega⟩)
  | (show _ ∨ (-(2 ^ 64 : Int) < _ ∧ _ < (2 ^ 64 : Int)); exact .inr ⟨by omega, by omega⟩)
  | (show (0 : Int) ≤ _ ∧ _ ≤ (1000000 : Int) ∧ _ < 2 ^ 64; exact ⟨by decide, by decide, by decide⟩))
local macro_rules | `(tactic| walk_at "rd") => `(tactic| repeat (first
  | with_reducible apply KR.seq
  | with_reducible apply KR.asg
  | with_reducible apply KR.drop
  | with_reducible apply KR.ret
  | with_reducible apply KR.retN
  | with_reducible apply KR.next
  | with_reducible apply KR.ifs
  | with_reducible refine KR.var rfl ?_
  | with_reducible refine L2.iteT ?_
  | with_reducible refine L2.iteF ?_
  | with_reducible refine KR.iteNF ?_
  | with_reducible refine KR.iteNT ?_
  | with_reducible apply KR.con
  | with_reducible apply KR.op
  | with_reducible apply KR.opI0
  | ((with_reducible refine KR.opI ?rc ?_); (case rc => walk_at "rc"))
  | with_reducible apply KR.un
  | with_reducible apply KR.unI
  | with_reducible apply KR.eqI
  | with_reducible apply KR.neI
  | with_reducible apply KR.test
  | with_reducible apply KR.tb'
  | with_reducible apply KR.exbl
  | with_reducible apply KR.and'
  | with_reducible apply KR.or'
  | with_reducible apply KR.not'
  | with_reducible apply KR.chain
  | with_reducible apply KR.call
  | with_reducible apply KR.callS
  | with_reducible apply KR.make
  | with_reducible apply KR.bm
  | with_reducible apply KR.errF
  | with_reducible apply KR.cons
  | with_reducible apply KR.nil
  | with_reducible apply KR.cb
  | with_reducible apply KR.cInt1
  | with_reducible apply KR.cI1
  | with_reducible apply KR.cI2
  | with_reducible apply KR.isi_ii
  | with_reducible apply KR.isi_ib
  | with_reducible apply KR.bits
  | with_reducible apply KR.exint
  | with_reducible apply KR.ifx
  | with_reducible refine KR.aug rfl ?_
  | with_reducible apply KR.ipI
  | with_reducible apply KR.for'
  | with_reducible apply KR.rng1
  | with_reducible apply KR.rng2
  | with_reducible apply KR.ilist
  | with_reducible apply KR.itup
  | with_reducible apply KR.iseq
  | with_reducible apply KR.gcd
  | with_reducible apply KR.tup
  | with_reducible apply KR.lst
  | with_reducible apply KR.andV
  | with_reducible apply KR.orV
  | with_reducible apply KR.notV
  | with_reducible apply KR.asgG
  | with_reducible apply KR.sub
  | with_reducible apply KR.fld
  | with_reducible apply KR.prop
  | with_reducible apply KR.meth
  | with_reducible apply KR.par
  | with_reducible apply KR.parN
  | with_reducible apply KR.raise1
  | with_reducible apply KR.raise0
  | with_reducible apply KR.exv
  | with_reducible apply KR.lc
  | with_reducible apply KR.ienT
  | with_reducible apply KR.sfld
  | with_reducible apply KR.sl
  | with_reducible apply KR.part
  | with_reducible apply KR.nopart
  | with_reducible apply KR.isNo
  | with_reducible refine KR.nnT ?_
  | with_reducible refine KR.niF ?_
  | with_reducible refine KR.nrF ?_
  | with_reducible refine KR.mnT ?_
  | with_reducible refine KR.miF ?_
  | with_reducible refine KR.mrF ?_))
section
variable {P : Program} {w : World} {K : PySem.W.Frag} {mg : Str → Option Value} {base : Heap} {A : Ad}
def sp_two_term (A : Ad) : Sp := fun vs H Q E => ∃ a m b n : Int, vs = [.int a, .int m, .int b, .int n] ∧ (¬ okL a → errD A.a_RangeError E H a) ∧ (okL a → (¬ okE m → errD A.a_RangeError E H m) ∧ (okE m → (¬ okL b → errD A.a_RangeError E H b) ∧ (okL b → (¬ okE n → errD A.a_RangeError E H n) ∧ (okE n →
  ((a = 0 ∨ b = 0) → ∀ H2, Evl.Ex H H2 → E (.ref A.a_ZeroError) none H2) ∧ (a ≠ 0 → b ≠ 0 → (∀ f, DivL [a, b] f → 97 < f → (∀ g, DivL [a, b] g → 97 < g → f ≤ g) → ∀ H2, Evl.Ex H H2 → errD A.a_PrimeError E H2 f) ∧
    ((∀ f, DivL [a, b] f → f ≤ 97) → ∃ ts, Told [a, b] ts ∧ (barsT (Nat.gcd m.natAbs n.natAbs) a b ts ≠ [] → ∀ H2, Evl.Ex H H2 → Q .non H2) ∧
      (barsT (Nat.gcd m.natAbs n.natAbs) a b ts = [] → ∀ t r1 r2 x1 x2 y1 y2 H2, Evl.Ex H H2 → H2 t = some (.tup [.ref r1, .ref r2]) → RatAt A H2 r1 x1 x2 → RatAt A H2 r2 y1 y2 → Low1 x1 x2 → Low1 y1 y2 → x1 ≠ 0 → y1 ≠ 0 →
        x1.natAbs < 2 ^ 400 → x2.natAbs < 2 ^ 400 → y1.natAbs < 2 ^ 400 → y2.natAbs < 2 ^ 400 → a * x1 ^ m.toNat * y2 ^ n.toNat = b * y1 ^ n.toNat * x2 ^ m.toNat → Q (.ref t) H2)))))))
theorem ok_two_term (T : Txt P K mg A) : FnOk P w K mg base (L2N.CX P w) 8 A.a_two_term A.d_two_term ["a", "m", "b", "n"] (sp_two_term A) := by
  refine T.F_two_term.okN sc_two_term (fun vs H Q E h => ?_) (fun cdv Ar outer s H vs Q E hr h => ?_)
  · obtain ⟨_, _, _, _, rfl, _⟩ := h; rfl
  have nd := sc_two_term.nd
  obtain ⟨a, m, b, n, rfl, e1, h⟩ := h
  refine ⟨_, (pss_cons (ps_if (pt_truth (pe_call (ok_two_term_bars T) (hr.mono (by decide)) (by rfl) T.g_two_term_bars T.k_two_term_bars T.b_two_term_bars .nil (L2N.passes_call (L2N.takes_of rfl rfl rfl rfl) (fun _ _ _ _ h => h)) (pa_cons (pv 0) (pa_cons (pv 1) (pa_cons (pv 2) (pa_cons (pv 3) pa_nil))))) (by intro _; rfl)) (pss_one (ps_ret pe_non)) pss_nil)
    (pss_cons (ps_set (i := 4) nd rfl (.inl rfl) (pe_callBfun cr_gcd (by rfl) T.n_gcd (pa_cons (pv 1) (pa_cons (pv 3) pa_nil))))
    (pss_cons (ps_set (i := 5) nd rfl (.inl rfl) (pe_call (ok_root T) (hr.mono (by decide)) (by rfl) T.g_root T.k_root T.b_root .nil pass0 (pa_cons (pv 0) (pa_cons (pv 2) (pa_cons (pv 4) pa_nil)))))
    (pss_cons (ps_set (i := 6) nd rfl (.inl rfl) pe_int)
    (pss_cons (ps_while (passes_of rfl) (pt_cmpR op_ne (pe_op op_mod (pe_op op_sub (pe_op op_mul (pv 1) (pv 6)) (pv 4)) (pv 3)) pe_int (nomark _)) (pss_one (ps_aug (i := 6) nd rfl (.inl rfl) pe_int ip_add)))
    (pss_one (ps_ret (pe_tup (pa_cons (pe_call (ok_raised T) (hr.mono (by decide)) (by rfl) T.g_raised T.k_raised T.b_raised .nil pass0 (pa_cons (pv 5) (pa_cons (pv 6) pa_nil))) (pa_cons (pe_call (ok_raised T) (hr.mono (by decide)) (by rfl) T.g_raised T.k_raised T.b_raised .nil pass0 (pa_cons (pv 5) (pa_cons (pe_op op_fdiv (pe_op op_sub (pe_op op_mul (pv 1) (pv 6)) (pv 4)) (pv 3)) pa_nil))) pa_nil)))))))))), ?_⟩
  walk_at "rd"
  refine ⟨a, m, b, n, rfl, e1, fun ha => ⟨(h ha).1, fun hm => ⟨((h ha).2 hm).1, fun hb => ⟨(((h ha).2 hm).2 hb).1, fun hn => ⟨((((h ha).2 hm).2 hb).2 hn).1, fun a0 b0 => ⟨(((((h ha).2 hm).2 hb).2 hn).2 a0 b0).1, fun hle L ts H2 hL x2 hT hTl lL => ?_⟩⟩⟩⟩⟩⟩
  obtain ⟨ts', hT', q1, q2⟩ := (((((h ha).2 hm).2 hb).2 hn).2 a0 b0).2 hle
  obtain rfl := hT.uniq hT'
  clear h e1 hT'
  have sL : SqL K H2 L _ := .inl (.inl lL)
  walk_at "rd"
  refine (Decidable.em (barsT (Nat.gcd m.natAbs n.natAbs) a b ts = [])).symm.elim (fun hbars => ?_) (fun hbars => ?_)
  · refine KR.truLb true sL ?_ ?_
    · cases hx : barsT (Nat.gcd m.natAbs n.natAbs) a b ts with
      | nil => exact absurd hx hbars
      | cons _ _ => rfl
    walk_at "rd"
    exact q1 hbars H2 x2
  have q := q2 hbars
  refine KR.truLb false sL (by rw [hbars]; rfl) ?_
  clear q1 q2 sL lL
  obtain ⟨m1, m2⟩ := hm
  obtain ⟨n1, n2⟩ := hn
  obtain ⟨m, rfl⟩ := Int.eq_ofNat_of_zero_le (show 0 ≤ m by omega)
  obtain ⟨n, rfl⟩ := Int.eq_ofNat_of_zero_le (show 0 ≤ n by omega)
  rw [Int.natAbs_natCast, Int.natAbs_natCast] at hbars
  simp only [Int.toNat_natCast] at q
  have hg0 : 0 < Nat.gcd m n := Nat.gcd_pos_of_pos_left _ (by omega)
  have hgn := Nat.le_of_dvd (by omega) (Nat.gcd_dvd_right m n)
  obtain ⟨f0, hf0, hf1⟩ := fst_ex (m := m) (n := n) (by omega) (by omega) (by omega) (by omega)
  walk_at "rd"
  rw [Int.natAbs_natCast, Int.natAbs_natCast]
  generalize Nat.gcd m n = g at hbars hg0 hgn hf1 ⊢
  have hpow : ∀ x ∈ ts, isPow x.toNat g a b = true := fun x hx => by
    cases hx2 : isPow x.toNat g a b with
    | true => rfl
    | false =>
      have : x ∈ barsT g a b ts := List.mem_filter.mpr ⟨hx, by rw [hx2]; rfl⟩
      rw [hbars] at this
      cases this
  have c2 : cr2 2 g a b = true := (Bool.and_eq_true_iff.mp (hpow 2 ((hT.2 2).mpr (.inl rfl)))).2
  have hdv : ∀ f, DivL [a, b] f → ((vI f.toNat b : Int) - vI f.toNat a) % (g : Int) = 0 := fun f hf => of_decide_eq_true (Bool.and_eq_true_iff.mp (hpow f ((hT.2 f).mpr (.inr hf)))).1
  refine ⟨a, b, g, rfl, ha, hb, a0, b0, hg0, by omega, hle, hdv, c2, fun r H3 N D x3 hR hl rel hN bN bD => ?_⟩
  have hD := hl.1
  have x13 := x2.trans x3
  walk_at "rd"
  refine KR.whl (fun M σ' H' => ∃ f : Nat, M = f0 - f ∧ f ≤ f0 ∧ H' = H3 ∧ σ' = [some (.int a), some (.int m), some (.int b), some (.int n), some (.int g), some (.ref r), some (.int f)]) f0 ⟨0, rfl, Nat.zero_le _, rfl, rfl⟩ ?_
  rintro M σ' H' ⟨f, rfl, hf, rfl, rfl⟩
  walk_at "rd"
  refine KR.iteND (fun hne => KR.turn ?_) (fun he => ?_)
  · have hff : f ≠ f0 := fun z => hne (z ▸ hf1)
    walk_at "rd"
    exact ⟨f0 - (f + 1), by omega, f + 1, rfl, by omega, rfl, rfl⟩
  · have hk : ((m : Int) * f - g) = ((m : Int) * f - g) / n * n := by
      rw [Int.mul_comm (((m : Int) * f - g) / n)]
      exact (Int.mul_ediv_cancel' (Int.dvd_of_emod_eq_zero he)).symm
    have hmf : (m : Int) * f ≤ m * (n - 1) := Int.mul_le_mul_of_nonneg_left (by omega) (by omega)
    rw [Int.mul_sub, Int.mul_one] at hmf
    have hmf0 : (0 : Int) ≤ (m : Int) * f := Int.mul_nonneg (by omega) (by omega)
    have hk1 : -1 ≤ ((m : Int) * f - g) / n := by
      refine Int.le_of_mul_le_mul_right (a := n) ?_ (by omega)
      rw [← hk]
      omega
    have hk2 : ((m : Int) * f - g) / n < m := by
      refine Int.lt_of_mul_lt_mul_right (a := n) ?_ (by omega)
      rw [← hk]
      omega
    walk_at "rd"
    generalize hkk : ((m : Int) * f - g) / n = k at hk hk1 hk2
    refine ⟨r, N, D, f, rfl, hR, hN, hD, bN, bD, by omega, by omega, fun r1 H4 X1 X2 x4 hR1 hl1 hX1 bX1 bX2 ex _ => ?_⟩
    have ex := ex f rfl
    walk_at "rd"
    rw [hkk]
    refine ⟨r, N, D, k, rfl, hR.ex x4, hN, hD, bN, bD, by omega, by omega, fun r2 H5 Y1 Y2 x5 hR2 hl2 hY1 bY1 bY2 ey1 ey2 => ?_⟩
    walk_at "rd"
    refine ⟨by show (2 : Nat) ≤ sizeLine; decide, fun t ht => ?_⟩
    have x6 := Evl.Ex.new (o := .tup [.ref r1, .ref r2]) ht
    refine q t r1 r2 X1 X2 Y1 Y2 _ (x13.trans (x4.trans (x5.trans x6))) upd_same ((hR1.ex x5).ex x6) (hR2.ex x6) hl1 hl2 hX1 hY1 bX1 bX2 bY1 bY2 ?_
    rcases Int.le_total 0 k with hk0 | hk0
    · obtain ⟨k, rfl⟩ := Int.eq_ofNat_of_zero_le hk0
      refine sol_pos (by omega) rel (show f * m = k * n + g from ?_) ex (ey1 k rfl)
      rw [← Int.natCast_mul, ← Int.natCast_mul] at hk
      rw [Nat.mul_comm f m]
      omega
    · obtain ⟨j, hj⟩ := Int.eq_ofNat_of_zero_le (show 0 ≤ -k by omega)
      have hkj : k = -(j : Int) := by omega
      refine sol_neg (by omega) hN rel (show f * m + j * n = g from ?_) ex (ey2 j hkj)
      rw [hkj, Int.neg_mul, ← Int.natCast_mul, ← Int.natCast_mul] at hk
      rw [Nat.mul_comm f m]
      omega
end
end K9
namespace K9
open PySem PySem.Spec PyProof.Rows L2 K7
local macro_rules | `(tactic| walk_at "rc") => `(tactic| first
  | assumption
  | (show (0 : Int) < _; omega)
  | (show (0 : Int) < _ ∧ _ < (1073741824 : Int); exact ⟨by omega, by omega⟩)
  | (show (-(2 ^ 64 : Int) < _ ∧ _ < (2 ^ 64 : Int)) ∨ _; exact .inl ⟨by omega, by omega⟩)
  | (show _ ∨ (-(2 ^ 64 : Int) < _ ∧ _ < (2 ^ 64 : Int)); exact .inr ⟨by omega, by omega⟩)
  | (show (0 : Int) ≤ _ ∧ _ ≤ (1000000 : Int) ∧ _ < 2 ^ 64; exact ⟨by decide, by decide, by decide⟩))
local macro_rules | `(tactic| walk_at "rd") => `(tactic| repeat (first
  | with_reducible apply KR.seq
  | with_reducible apply KR.asg
  | with_reducible apply KR.drop
  | with_reducible apply KR.ret
  | with_reducible apply KR.retN
  | with_reducible apply KR.next
  | with_reducible apply KR.ifs
  | with_reducible refine KR.var rfl ?_
  | with_reducible refine L2.iteT ?_
  | with_reducible refine L2.iteF ?_
  | with_reducible refine KR.iteNF ?_
  | with_reducible refine KR.iteNT ?_
  | with_reducible apply KR.con
  | with_reducible apply KR.op
  | with_reducible apply KR.opI0
  | ((with_reducible refine KR.opI ?rc ?_); (case rc => walk_at "rc"))
  | with_reducible apply KR.un
  | with_reducible apply KR.unI
  | with_reducible apply KR.eqI
  | with_reducible apply KR.neI
  | with_reducible apply KR.test
  | with_reducible apply KR.tb'
  | with_reducible apply KR.exbl
  | with_reducible apply KR.and'
  | with_reducible apply KR.or'
  | with_reducible apply KR.not'
  | with_reducible apply KR.chain
  | with_reducible apply KR.call
  | with_reducible apply KR.callS
  | with_reducible apply KR.make
  | with_reducible apply KR.bm
  | with_reducible apply KR.errF
  | with_reducible apply KR.cons
  | with_reducible apply KR.nil
  | with_reducible apply KR.cb
  | with_reducible apply KR.cInt1
  | with_reducible apply KR.cI1
  | with_reducible apply KR.cI2
  | with_reducible apply KR.isi_ii
  | with_reducible apply KR.isi_ib
  | with_reducible apply KR.bits
  | with_reducible apply KR.exint
  | with_reducible apply KR.ifx
  | with_reducible refine KR.aug rfl ?_
  | with_reducible apply KR.ipI
  | with_reducible apply KR.for'
  | with_reducible apply KR.rng1
  | with_reducible apply KR.rng2
  | with_reducible apply KR.ilist
  | with_reducible apply KR.itup
  | with_reducible apply KR.iseq
  | with_reducible apply KR.gcd
  | with_reducible apply KR.tup
  | with_reducible apply KR.lst
  | with_reducible apply KR.andV
  | with_reducible apply KR.orV
  | with_reducible apply KR.notV
  | with_reducible apply KR.asgG
  | with_reducible apply KR.sub
  | with_reducible apply KR.fld
  | with_reducible apply KR.prop
  | with_reducible apply KR.meth
  | with_reducible apply KR.par
  | with_reducible apply KR.parN
  | with_reducible apply KR.raise1
  | with_reducible apply KR.raise0
  | with_reducible apply KR.exv
  | with_reducible apply KR.lc
  | with_reducible apply KR.ienT
  | with_reducible apply KR.sfld
  | with_reducible apply KR.sl
  | with_reducible apply KR.part
  | with_reducible apply KR.nopart
  | with_reducible apply KR.isNo
  | with_reducible refine KR.nnT ?_
  | with_reducible refine KR.niF ?_
  | with_reducible refine KR.nrF ?_
  | with_reducible refine KR.mnT ?_
  | with_reducible refine KR.miF ?_
  | with_reducible refine KR.mrF ?_))
def PoolL (cs : List Int) : Prop := 1 ≤ cs.length ∧ cs.length ≤ 64 ∧ ∀ x ∈ cs, 0 ≤ x
def Pool (H : Hp) (a : Addr) : Prop := ∃ cs, PoolL cs ∧ H a = some (.lst (cs.map V.int))
theorem Pool.ex {a : Addr} {H H2 : Hp} (h : Pool H a) (e : Evl.Ex H H2) : Pool H2 a := by
  obtain ⟨cs, h1, h2⟩ := h
  exact ⟨cs, h1, e _ _ h2⟩
theorem Pool.ne {H : Hp} {t L : Addr} (h : Pool H t) (hL : H L = none) : L ≠ t := by
  obtain ⟨cs, _, ht⟩ := h
  intro z
  rw [z, ht] at hL
  cases hL
theorem bitsLt {n : Int} : n.natAbs < 2 ^ Builtin.Int.intBits n := PySem.intBits_le_iff.mp (Nat.le_refl _)
theorem bitsLe {n : Int} {k : Nat} (h : n.natAbs < 2 ^ k) : Builtin.Int.intBits n ≤ k := PySem.intBits_le_iff.mpr h
section
variable {P : Program} {w : World} {K : PySem.W.Frag} {mg : Str → Option Value} {base : Heap} {A : Ad}
def sp_law_draw : Sp := fun vs H Q _ => ∃ (a : Addr) (b plus : Int), vs = [.ref a, .int b, .int plus] ∧ Pool H a ∧ 0 < b ∧ b.natAbs.log2 < 9000 ∧
  ∀ v H2, 0 ≤ v → v < b → ExB a H H2 → Pool H2 a → Q (.int v) H2
theorem ok_law_draw (T : Txt P K mg A) : FnOk P w K mg base CX0 1 A.a_law_draw A.d_law_draw ["pool", "bound", "plus"] sp_law_draw := by
  refine T.F_law_draw.ok sc_law_draw (fun vs H Q E h => ?_) (fun cdv Ar outer s H vs Q E hr h => ?_)
  · obtain ⟨_, _, _, rfl, _⟩ := h; rfl
  have nd := sc_law_draw.nd
  obtain ⟨a, b, plus, rfl, ⟨cs, ⟨h1, h2, h3⟩, hp⟩, hb, hb2, q⟩ := h
  have hlen : (cs.map V.int).length = cs.length := List.length_map _
  have hs : SqL K H a (cs.map V.int) := .inl (.inl hp)
  refine ⟨_, (pss_cons (ps_if (pt_cmpR op_eq (pe_callB call_len_seq (by rfl) T.n_len PySem.boot_len (pa_cons (pv 0) pa_nil)) pe_int (nomark _)) (pss_one (ps_ret (pe_op op_mod (pe_callTy call_int1 (by rfl) T.n_int (by decide +kernel) (pa_cons (pv 2) pa_nil)) (pv 1)))) pss_nil)
    (pss_cons (ps_set (i := 3) nd rfl (.inl rfl) (pe_op op_add pe_int (pe_op op_mod (pe_callTy call_int1 (by rfl) T.n_int (by decide +kernel) (pa_cons (pe_ix ix_list (pv 0) pe_int (fun _ _ => rfl)) pa_nil)) (pe_op op_sub (pe_callB call_len_seq (by rfl) T.n_len PySem.boot_len (pa_cons (pv 0) pa_nil)) pe_int))))
    (pss_cons (ps_set (i := 4) nd rfl (.inl rfl) (pe_callTy call_int1 (by rfl) T.n_int (by decide +kernel) (pa_cons (pe_ix ix_list (pv 0) (pv 3) (fun _ _ => rfl)) pa_nil)))
    (pss_cons (ps_asg (pe_op op_add (pe_ix ix_list (pv 0) pe_int (fun _ _ => rfl)) pe_int) (pg_sub (pv 0) pe_int set_list))
    (pss_cons (ps_asg (pe_op op_fdivW (pv 4) (pv 1)) (pg_sub (pv 0) (pv 3) set_list))
    (pss_one (ps_ret (pe_op op_mod (pe_callTy call_int1 (by rfl) T.n_int (by decide +kernel) (pa_cons (pe_op op_add (pv 4) (pv 2)) pa_nil)) (pv 1))))))))), ?_⟩
  walk_at "rd"
  refine ⟨a, _, rfl, .inl hs, ?_⟩
  rw [hlen]
  walk_at "rd"
  refine KR.iteD (fun c => ?_) (fun c => ?_)
  · walk_at "rd"
    exact q _ H (Int.emod_nonneg _ (by omega)) (Int.emod_lt_of_pos _ hb) (ExB.refl a H) ⟨cs, ⟨h1, h2, h3⟩, hp⟩
  · walk_at "rd"
    obtain ⟨c0, e0⟩ : ∃ c0, cs[0]? = some c0 := ⟨cs[0], List.getElem?_eq_getElem (by omega)⟩
    refine KR.ixL hs (atI_nat (j := 0) (v := V.int c0) (by rw [List.getElem?_map, e0]; rfl)) ?_
    walk_at "rd"
    refine ⟨a, _, rfl, .inl hs, ?_⟩
    rw [hlen]
    walk_at "rd"
    obtain ⟨j, ej, hj⟩ : ∃ j : Nat, 1 + c0 % ((cs.length : Int) - 1) = (j : Int) ∧ j < cs.length := by
      have z1 := Int.emod_nonneg c0 (show (cs.length : Int) - 1 ≠ 0 by omega)
      have z2 := Int.emod_lt_of_pos c0 (show (0 : Int) < (cs.length : Int) - 1 by omega)
      exact ⟨(1 + c0 % ((cs.length : Int) - 1)).toNat, by omega, by omega⟩
    rw [ej]
    obtain ⟨cj, e1⟩ : ∃ cj, cs[j]? = some cj := ⟨cs[j], List.getElem?_eq_getElem hj⟩
    have hcj : 0 ≤ cj := h3 _ (List.mem_of_getElem? e1)
    have hc0 : 0 ≤ c0 := h3 _ (List.mem_of_getElem? e0)
    refine KR.ixL hs (atI_nat (j := j) (v := V.int cj) (by rw [List.getElem?_map, e1]; rfl)) ?_
    walk_at "rd"
    refine KR.ixL hs (atI_nat (j := 0) (v := V.int c0) (by rw [List.getElem?_map, e0]; rfl)) ?_
    walk_at "rd"
    refine KR.setL (j := 0) hp (by omega) ?_
    walk_at "rd"
    refine ⟨_, _, rfl, rfl, ⟨hb, hb2⟩, ?_⟩
    walk_at "rd"
    refine KR.setL (j := j) upd_same (by rw [List.length_set]; omega) ?_
    walk_at "rd"
    refine q _ _ (Int.emod_nonneg _ (by omega)) (Int.emod_lt_of_pos _ hb) (ExB.upd.trans ExB.upd) ⟨(cs.set 0 (c0 + 1)).set j (cj / b), ⟨by simpa using h1, by simpa using h2, fun x hx => ?_⟩, ?_⟩
    · rcases List.mem_or_eq_of_mem_set hx with hx | rfl
      · rcases List.mem_or_eq_of_mem_set hx with hx | rfl
        · exact h3 x hx
        · omega
      · exact Int.ediv_nonneg hcj (by omega)
    · rw [upd_same, List.map_set, List.map_set]
def sp_law_begin (K : PySem.W.Frag) : Sp := fun vs H Q _ => ∃ (a : Addr) (ns : List Int), vs = [.ref a] ∧ SqL K H a (ns.map V.int) ∧
  ∀ b H2, Pool H2 b → Q (.ref b) H2
theorem ok_law_begin (T : Txt P K mg A) : FnOk P w K mg base CX0 1 A.a_law_begin A.d_law_begin ["script"] (sp_law_begin K) := by
  refine T.F_law_begin.ok sc_law_begin (fun vs H Q E h => ?_) (fun cdv Ar outer s H vs Q E hr h => ?_)
  · obtain ⟨_, _, rfl, _⟩ := h; rfl
  have nd := sc_law_begin.nd
  obtain ⟨a, ns, rfl, hs, q⟩ := h
  refine ⟨_, (pss_one (ps_ret (pe_op op_cat (pe_lst (pa_cons pe_int pa_nil)) (pe_lc (own := [("number", 1)]) (g := gName 1) (tt := tYes) rfl nd (pi_list (pe_slice sl_list (pv 0) po_none (po_some pe_int))) (blkOk_by (own := [("number", 1)]) (N := ["script", "number"]) (sc := defScope s_law_begin) (by decide +kernel)) (fun _ _ _ _ _ => pg_name (i := 1) nd rfl (Or.inl rfl)) (fun _ _ _ _ _ => pts_nil) (fun _ _ _ _ _ => (pe_callB call_abs (by rfl) T.n_abs (by decide +kernel) (pa_cons (pv 1) pa_nil))))))), ?_⟩
  walk_at "rd"
  refine ⟨by decide, fun p hp => ?_⟩
  walk_at "rd"
  have hs1 : SqL K (upd H p (.lst [.int 0])) a (ns.map V.int) := Evl.ex_l (Evl.Ex.new hp) hs
  refine KR.slL hs1 fun c hc => ?_
  have ecut : cutV (ns.map V.int) none (some 63) = (ns.take 63).map V.int := by
    unfold cutV
    rw [show (63 : Int) = ((63 : Nat) : Int) from rfl, HT.sIx_none, HT.sIx_nat, Nat.sub_zero, List.drop_zero, List.map_take, List.length_map]
    rcases Nat.le_total 63 ns.length with z | z
    · rw [Nat.min_eq_left z]
    · rw [Nat.min_eq_right z, List.take_of_length_le (by rw [List.length_map]; omega), List.take_of_length_le (by rw [List.length_map]; omega)]
  rw [ecut]
  generalize hms : ns.take 63 = ms
  have hml : ms.length ≤ 63 := by rw [← hms, List.length_take]; omega
  refine KR.llistN (xs := ms.map V.int) (.inl (.inl upd_same)) (KR.lwL (fun _ => true) (fun k => .int ((ms.getD k 0).natAbs : Nat)) (.inl (.inl upd_same)) (by rw [List.length_map]; omega) (fun _ => rfl) (fun _ _ _ _ _ => KR.etYes) ?_ ?_)
  · intro k x H1 _ hx _ H3 e3 Q' q'
    rw [List.getElem?_map] at hx
    obtain ⟨y, hy, rfl⟩ := Option.map_eq_some_iff.mp hx
    walk_at "rd"
    have e : (if y < 0 then -y else y) = ((ms.getD k 0).natAbs : Int) := by
      rw [List.getD_eq_getElem?_getD, hy]
      show _ = ((y.natAbs : Nat) : Int)
      split <;> omega
    rw [e]
    exact q' H3 (Evl.Ex.refl H3)
  · intro d H2 hd e2 hv
    rw [KR.giv_all _ (fun _ => rfl), List.length_map] at hv
    have hp2 : H2 p = some (.lst [.int 0]) := e2 _ _ (Evl.Ex.new hc _ _ upd_same)
    have ev : ([V.int 0] ++ (List.range ms.length).map fun k => V.int ((ms.getD k 0).natAbs : Nat)) = ((0 :: (List.range ms.length).map fun k => (((ms.getD k 0).natAbs : Nat) : Int)) : List Int).map V.int := by
      rw [List.map_cons, List.map_map]
      rfl
    refine ⟨p, d, _, _, rfl, rfl, hp2, hv, ?_, fun y hy => q y _ ⟨_, ⟨?_, ?_, ?_⟩, by rw [upd_same, ev]⟩⟩
    · rw [List.length_map, List.length_range]
      show 1 + _ ≤ sizeLine
      rw [sizeLine_eq]
      omega
    · rw [List.length_cons]; omega
    · rw [List.length_cons, List.length_map, List.length_range]; omega
    · intro x hx
      rcases List.mem_cons.mp hx with rfl | hx
      · decide
      · obtain ⟨k, _, rfl⟩ := List.mem_map.mp hx
        exact Int.natCast_nonneg _
def sp_law_is : Sp := fun vs H Q _ => ∃ a b : Int, vs = [.int a, .int b] ∧ Q (.bl (decide (a = b))) H
theorem ok_law_is (T : Txt P K mg A) : FnOk P w K mg base CX0 1 A.a_law_is A.d_law_is ["told", "due"] sp_law_is := by
  refine T.F_law_is.ok sc_law_is (fun vs H Q E h => ?_) (fun cdv Ar outer s H vs Q E hr h => ?_)
  · obtain ⟨_, _, rfl, _⟩ := h; rfl
  have nd := sc_law_is.nd
  obtain ⟨a, b, rfl, q⟩ := h
  refine ⟨_, (pss_one (ps_ret (pe_and (pe_callB call_isi (by rfl) T.n_isinstance (by decide +kernel) (pa_cons (pv 0) (pa_cons (pe_bltn (v := .ty "int") (by rfl) T.n_int (by decide +kernel) rfl) pa_nil))) (pe_and (pe_not (pe_callB call_isi (by rfl) T.n_isinstance (by decide +kernel) (pa_cons (pv 0) (pa_cons (pe_bltn (v := .ty "bool") (by rfl) T.n_bool (by decide +kernel) rfl) pa_nil)))) (pe_one (pe_cmpR op_eq (pv 0) (pv 1) (nomark _))))))), ?_⟩
  walk_at "rd"
  exact q
def sp_law_number : Sp := fun vs H Q _ => ∃ a : Int, vs = [.int a] ∧ Q (.int a) H
theorem ok_law_number (T : Txt P K mg A) : FnOk P w K mg base CX0 1 A.a_law_number A.d_law_number ["told"] sp_law_number := by
  refine T.F_law_number.ok sc_law_number (fun vs H Q E h => ?_) (fun cdv Ar outer s H vs Q E hr h => ?_)
  · obtain ⟨_, rfl, _⟩ := h; rfl
  have nd := sc_law_number.nd
  obtain ⟨a, rfl, q⟩ := h
  refine ⟨_, (pss_cons (ps_if (PW.pt (pw_and (pt_val (pe_callB call_isi (by rfl) T.n_isinstance (by decide +kernel) (pa_cons (pv 0) (pa_cons (pe_bltn (v := .ty "int") (by rfl) T.n_int (by decide +kernel) rfl) pa_nil)))) (pw_and1 (pt_not (pt_val (pe_callB call_isi (by rfl) T.n_isinstance (by decide +kernel) (pa_cons (pv 0) (pa_cons (pe_bltn (v := .ty "bool") (by rfl) T.n_bool (by decide +kernel) rfl) pa_nil)))))))) (pss_one (ps_ret (pv 0))) pss_nil)
    (pss_one (ps_ret pe_non))), ?_⟩
  walk_at "rd"
  exact q
theorem ok_law_numberH (T : Txt P K mg A) : L2H.FnH P w K mg base CX0 1 A.a_law_number A.d_law_number ["told"] sp_law_number := by
  refine T.F_law_number.okH sc_law_number (fun vs H Q E h => ?_) (fun cdv Ar outer s H vs Q E p hot hr h => ?_)
  · obtain ⟨_, rfl, _⟩ := h; rfl
  have nd := sc_law_number.nd
  obtain ⟨a, rfl, q⟩ := h
  refine ⟨_, (pss_cons (ps_if (PW.pt (pw_and (pt_val (pe_callB call_isi (by rfl) T.n_isinstance (by decide +kernel) (pa_cons (pv 0) (pa_cons (pe_bltn (v := .ty "int") (by rfl) T.n_int (by decide +kernel) rfl) pa_nil)))) (pw_and1 (pt_not (pt_val (pe_callB call_isi (by rfl) T.n_isinstance (by decide +kernel) (pa_cons (pv 0) (pa_cons (pe_bltn (v := .ty "bool") (by rfl) T.n_bool (by decide +kernel) rfl) pa_nil)))))))) (pss_one (ps_ret (pv 0))) pss_nil)
    (pss_one (ps_ret pe_non))), ?_⟩
  walk_at "rd"
  exact q
def sp_law_power : Sp := fun vs H Q _ => ∃ (b : Int) (e : Nat), vs = [.int b, .int e] ∧ PowOk b e ∧ e < 1000000 ∧ Q (.int (b ^ e)) H
theorem ok_law_power (T : Txt P K mg A) : FnOk P w K mg base CX0 1 A.a_law_power A.d_law_power ["base", "exponent"] sp_law_power := by
  refine T.F_law_power.ok sc_law_power (fun vs H Q E h => ?_) (fun cdv Ar outer s H vs Q E hr h => ?_)
  · obtain ⟨_, _, rfl, _⟩ := h; rfl
  have nd := sc_law_power.nd
  obtain ⟨b, e, rfl, hb, he, q⟩ := h
  refine ⟨_, (pss_cons (ps_set (i := 2) nd rfl (.inl rfl) pe_int)
    (pss_cons (ps_for PassesOwn.never rfl (pi_range1 (by rfl) T.n_range (pa_cons (pv 1) pa_nil)) (pg_name (i := 3) nd rfl (Or.inl rfl)) (pss_one (ps_set (i := 2) nd rfl (.inl rfl) (pe_op op_mulW (pv 2) (pv 0)))))
    (pss_one (ps_ret (pv 2))))), ?_⟩
  walk_at "rd"
  refine KR.rngI e rfl (by omega) (KR.fwR (fun k σ' H' => H' = H ∧ ∃ z, σ' = [some (.int b), some (.int e), some (.int (b ^ k)), z]) ⟨rfl, none, by rw [Int.pow_zero]; rfl⟩ ?_ ?_)
  · rintro k σ' H' hk ⟨rfl, z, rfl⟩
    walk_at "rd"
    have h1 := hb 1 (.inr (Nat.le_refl _))
    rw [Int.pow_succ, Int.pow_zero, Int.one_mul] at h1
    refine KR.opI (mulW (k := 5000) (by decide) (hb k (.inl (by omega))) h1) ?_
    walk_at "rd"
    exact ⟨rfl, _, by rw [Int.pow_succ]; rfl⟩
  · rintro σ' H' ⟨rfl, z, rfl⟩
    walk_at "rd"
    exact q
def sp_law_depth : Sp := fun vs H Q _ => ∃ (p : Nat) (n : Int), vs = [.int p, .int n] ∧ 2 ≤ p ∧ p < 100 ∧ n.natAbs < 2 ^ 100000 ∧ n ≠ 0 ∧ Q (.int (vI p n : Nat)) H
theorem ok_law_depth (T : Txt P K mg A) : FnOk P w K mg base CX0 1 A.a_law_depth A.d_law_depth ["p", "n"] sp_law_depth := by
  refine T.F_law_depth.ok sc_law_depth (fun vs H Q E h => ?_) (fun cdv Ar outer s H vs Q E hr h => ?_)
  · obtain ⟨_, _, rfl, _⟩ := h; rfl
  have nd := sc_law_depth.nd
  obtain ⟨p, n, rfl, h2, h9, hb, hn, q⟩ := h
  refine ⟨_, (pss_cons (ps_for PassesOwn.never rfl (pi_range1 (by rfl) T.n_range (pa_cons (pe_op op_add (pe_bits (pv 1)) pe_int) pa_nil)) (pg_name (i := 2) nd rfl (Or.inl rfl)) (pss_cons (ps_if (pt_cmpR op_ne (pe_op op_mod (pe_callTy call_int1 (by rfl) T.n_int (by decide +kernel) (pa_cons (pv 1) pa_nil)) (pv 0)) pe_int (nomark _)) (pss_one (ps_ret (pv 2))) pss_nil)
    (pss_one (ps_set (i := 1) nd rfl (.inl rfl) (pe_op op_fdiv (pv 1) (pv 0))))))
    (pss_one (ps_ret (pe_op op_pow pe_int pe_int)))), ?_⟩
  walk_at "rd"
  have hB := bitsLt (n := n)
  have hB2 : Builtin.Int.intBits n ≤ 100000 := bitsLe hb
  generalize Builtin.Int.intBits n = B at hB hB2 ⊢
  refine KR.rngI (B + 1) rfl (by omega) (KR.fwR (fun k σ' H' => H' = H ∧ ∃ (r : Int) (z : Option V), σ' = [some (.int p), some (.int r), z] ∧ n = (p : Int) ^ k * r) ⟨rfl, n, none, rfl, by rw [Int.pow_zero, Int.one_mul]⟩ ?_ ?_)
  · rintro k σ' H' hk ⟨rfl, r, z, rfl, e⟩
    walk_at "rd"
    refine KR.iteND (fun hp => ?_) (fun hq => ?_)
    · walk_at "rd"
      obtain ⟨e1, e2⟩ := form_uniq h2 e (fun z => hp (Int.emod_eq_zero_of_dvd z))
      rw [e1] at q
      exact q
    · walk_at "rd"
      exact ⟨rfl, r / p, some (.int k), rfl, up_pow e hq⟩
  · rintro σ' H' ⟨rfl, r, z, rfl, e⟩
    exfalso
    have h3 : (p ^ (B + 1)) ∣ n.natAbs := by
      rw [e, Int.natAbs_mul, Int.natAbs_pow, Int.natAbs_natCast]
      exact Nat.dvd_mul_right _ _
    have h4 := Nat.le_of_dvd (Int.natAbs_pos.mpr hn) h3
    have h5 : 2 ^ B ≤ p ^ (B + 1) := Nat.le_trans (Nat.pow_le_pow_left h2 _) (Nat.pow_le_pow_right (by omega) (Nat.le_succ _))
    omega
end
end K9
namespace K9
open PySem PySem.Spec PyProof.Rows L2 K7
local macro_rules | `(tactic| walk_at "rc") => `(tactic| first
  | assumption
  | (show (0 : Int) < _; omega)
  | (show (0 : Int) < _ ∧ _ < (1073741824 : Int); exact ⟨by omega, by omega⟩)
  | (show (-(2 ^ 64 : Int) < _ ∧ _ < (2 ^ 64 : Int)) ∨ _; exact .inl ⟨by omega, by omega⟩)
  | (show _ ∨ (-(2 ^ 64 : Int) < _ ∧ _ < (2 ^ 64 : Int)); exact .inr ⟨by omega, by omega⟩)
  | (show (0 : Int) ≤ _ ∧ _ ≤ (1000000 : Int) ∧ _ < 2 ^ 64; exact ⟨by decide, by decide, by decide⟩))
local macro_rules | `(tactic| walk_at "rd") => `(tactic| repeat (first
  | with_reducible apply KR.seq
  | with_reducible apply KR.asg
  | with_reducible apply KR.drop
  | with_reducible apply KR.ret
  | with_reducible apply KR.retN
  | with_reducible apply KR.next
  | with_reducible apply KR.ifs
  | with_reducible refine KR.var rfl ?_
  | with_reducible refine L2.iteT ?_
  | with_reducible refine L2.iteF ?_
  | with_reducible refine KR.iteNF ?_
  | with_reducible refine KR.iteNT ?_
  | with_reducible apply KR.con
  | with_reducible apply KR.op
  | with_reducible apply KR.opI0
  | ((with_reducible refine KR.opI ?rc ?_); (case rc => walk_at "rc"))
  | with_reducible apply KR.un
  | with_reducible apply KR.unI
  | with_reducible apply KR.eqI
  | with_reducible apply KR.neI
  | with_reducible apply KR.test
  | with_reducible apply KR.tb'
  | with_reducible apply KR.exbl
  | with_reducible apply KR.and'
  | with_reducible apply KR.or'
  | with_reducible apply KR.not'
  | with_reducible apply KR.chain
  | with_reducible apply KR.call
  | with_reducible apply KR.callS
  | with_reducible apply KR.make
  | with_reducible apply KR.bm
  | with_reducible apply KR.errF
  | with_reducible apply KR.cons
  | with_reducible apply KR.nil
  | with_reducible apply KR.cb
  | with_reducible apply KR.cInt1
  | with_reducible apply KR.cI1
  | with_reducible apply KR.cI2
  | with_reducible apply KR.isi_ii
  | with_reducible apply KR.isi_ib
  | with_reducible apply KR.bits
  | with_reducible apply KR.exint
  | with_reducible apply KR.ifx
  | with_reducible refine KR.aug rfl ?_
  | with_reducible apply KR.ipI
  | with_reducible apply KR.for'
  | with_reducible apply KR.rng1
  | with_reducible apply KR.rng2
  | with_reducible apply KR.ilist
  | with_reducible apply KR.itup
  | with_reducible apply KR.iseq
  | with_reducible apply KR.gcd
  | with_reducible apply KR.tup
  | with_reducible apply KR.lst
  | with_reducible apply KR.andV
  | with_reducible apply KR.orV
  | with_reducible apply KR.notV
  | with_reducible apply KR.asgG
  | with_reducible apply KR.sub
  | with_reducible apply KR.fld
  | with_reducible apply KR.prop
  | with_reducible apply KR.meth
  | with_reducible apply KR.par
  | with_reducible apply KR.parN
  | with_reducible apply KR.raise1
  | with_reducible apply KR.raise0
  | with_reducible apply KR.exv
  | with_reducible apply KR.lc
  | with_reducible apply KR.ienT
  | with_reducible apply KR.sfld
  | with_reducible apply KR.sl
  | with_reducible apply KR.part
  | with_reducible apply KR.nopart
  | with_reducible apply KR.isNo
  | with_reducible refine KR.nnT ?_
  | with_reducible refine KR.niF ?_
  | with_reducible refine KR.nrF ?_
  | with_reducible refine KR.mnT ?_
  | with_reducible refine KR.miF ?_
  | with_reducible refine KR.mrF ?_))
theorem halve {a b : Nat} (hb : 0 < b) (h : b ≤ a) : 2 * (a % b) ≤ a := by
  have e := Nat.div_add_mod a b
  have h1 : 1 ≤ a / b := (Nat.one_le_div_iff hb).mpr h
  have h2 := Nat.mod_lt a hb
  have h3 : b * 1 ≤ b * (a / b) := Nat.mul_le_mul_left b h1
  omega
section
variable {P : Program} {w : World} {K : PySem.W.Frag} {mg : Str → Option Value} {base : Heap} {A : Ad}
def sp_law_inverse : Sp := fun vs H Q _ => ∃ (a : Int) (m : Nat), vs = [.int a, .int m] ∧ 2 ≤ m ∧ m < 1000000 ∧ Nat.gcd m ((a % (m : Int)).toNat) = 1 ∧ ∀ v : Int, 0 ≤ v → v < m → (m : Int) ∣ a * v - 1 → Q (.int v) H
theorem ok_law_inverse (T : Txt P K mg A) : FnOk P w K mg base CX0 1 A.a_law_inverse A.d_law_inverse ["a", "modulus"] sp_law_inverse := by
  refine T.F_law_inverse.ok sc_law_inverse (fun vs H Q E h => ?_) (fun cdv Ar outer s H vs Q E hr h => ?_)
  · obtain ⟨_, _, rfl, _⟩ := h; rfl
  have nd := sc_law_inverse.nd
  obtain ⟨a, m, rfl, hm, hmb, hg, q⟩ := h
  refine ⟨_, (pss_cons (ps_set (i := 2) nd rfl (.inl rfl) (pv 1))
    (pss_cons (ps_set (i := 3) nd rfl (.inl rfl) (pe_op op_mod (pe_callTy call_int1 (by rfl) T.n_int (by decide +kernel) (pa_cons (pv 0) pa_nil)) (pv 1)))
    (pss_cons (ps_set (i := 4) nd rfl (.inl rfl) pe_int)
    (pss_cons (ps_set (i := 5) nd rfl (.inl rfl) pe_int)
    (pss_cons (ps_for PassesOwn.never rfl (pi_range1 (by rfl) T.n_range (pa_cons (pe_op op_add (pe_op op_mul pe_int (pe_bits (pv 1))) pe_int) pa_nil)) (pg_name (i := 6) nd rfl (Or.inl rfl)) (pss_cons (ps_if (pt_cmpR op_eq (pv 3) pe_int (nomark _)) (pss_one ps_break) pss_nil)
    (pss_cons (ps_set (i := 7) nd rfl (.inl rfl) (pe_op op_fdiv (pv 2) (pv 3)))
    (pss_cons (ps_set (i := 8) nd rfl (.inl rfl) (pe_op op_sub (pv 2) (pe_op op_mul (pv 7) (pv 3))))
    (pss_cons (ps_set (i := 2) nd rfl (.inl rfl) (pv 3))
    (pss_cons (ps_set (i := 3) nd rfl (.inl rfl) (pv 8))
    (pss_cons (ps_set (i := 8) nd rfl (.inl rfl) (pe_op op_sub (pv 4) (pe_op op_mul (pv 7) (pv 5))))
    (pss_cons (ps_set (i := 4) nd rfl (.inl rfl) (pv 5))
    (pss_one (ps_set (i := 5) nd rfl (.inl rfl) (pv 8)))))))))))
    (pss_one (ps_ret (pe_op op_mod (pe_callTy call_int1 (by rfl) T.n_int (by decide +kernel) (pa_cons (pv 4) pa_nil)) (pv 1))))))))), ?_⟩
  obtain ⟨c, hc⟩ := Int.eq_ofNat_of_zero_le (Int.emod_nonneg a (show (m : Int) ≠ 0 by omega))
  have hcm : c < m := by have := Int.emod_lt_of_pos a (show (0 : Int) < m by omega); omega
  have hca : (m : Int) ∣ (c : Int) - 1 * a := by
    rw [← hc, Int.one_mul]
    have := Int.dvd_self_sub_emod (x := a) (m := (m : Int))
    have e : a % (m : Int) - a = -(a - a % m) := by omega
    rw [e]
    exact Int.dvd_neg.mpr this
  rw [hc, Int.toNat_natCast] at hg
  have hB := bitsLt (n := (m : Int))
  have hB2 : Builtin.Int.intBits (m : Int) ≤ 20 := bitsLe (by
    rw [Int.natAbs_natCast]
    have : (2 : Nat) ^ 20 = 1048576 := by decide
    omega)
  rw [Int.natAbs_natCast] at hB
  walk_at "rd"
  rw [hc]
  generalize Builtin.Int.intBits (m : Int) = B at hB hB2 ⊢
  have eB : 2 * (B : Int) + 2 = ((2 * B + 2 : Nat) : Int) := by omega
  rw [eB]
  have tail : ∀ (bf : Int), (m : Int) ∣ (1 : Int) - bf * a → Q (.int (bf % m)) H := fun bf d1 => by
    refine q _ (Int.emod_nonneg _ (by omega)) (Int.emod_lt_of_pos _ (by omega)) ?_
    have h1 : (m : Int) ∣ bf - bf % m := Int.dvd_self_sub_emod
    have e : a * (bf % m) - 1 = -(1 - bf * a) - a * (bf - bf % m) := by
      rw [Int.mul_sub, Int.mul_comm bf a]
      omega
    rw [e]
    exact Int.dvd_sub (Int.dvd_neg.mpr d1) (Int.dvd_mul_of_dvd_right h1)
  refine KR.rngI (2 * B + 2) rfl (by omega) (KR.fwR (fun k σ' H' => H' = H ∧ ∃ (o n : Nat) (bf fc : Int) (z1 z2 z3 : Option V), n < o ∧ Nat.gcd o n = 1 ∧ (m : Int) ∣ (o : Int) - bf * a ∧ (m : Int) ∣ (n : Int) - fc * a ∧ fc.natAbs * o + bf.natAbs * n ≤ m ∧ o ≤ m ∧ o * n * 2 ^ k ≤ m * m ∧
      σ' = [some (.int a), some (.int m), some (.int o), some (.int n), some (.int bf), some (.int fc), z1, z2, z3])
    ⟨rfl, m, c, 0, 1, none, none, none, hcm, hg, by rw [Int.zero_mul, Int.sub_zero]; exact Int.dvd_refl _, hca, by show 1 * m + 0 * c ≤ m; omega, Nat.le_refl _, by rw [Nat.pow_zero, Nat.mul_one]; exact Nat.mul_le_mul_left m (by omega), rfl⟩ ?_ ?_)
  · rintro k σ' H' hk ⟨rfl, o, n, bf, fc, z1, z2, z3, hno, hgc, d1, d2, hb, hom, hP, rfl⟩
    walk_at "rd"
    refine KR.iteD (fun hn => ?_) (fun hn => ?_)
    · have hn0 : n = 0 := by omega
      rw [hn0, Nat.gcd_zero_right] at hgc
      rw [hgc] at d1
      walk_at "rd"
      refine KR.brk ?_
      walk_at "rd"
      exact tail bf d1
    · have hn0 : 0 < n := by omega
      have hfm : fc.natAbs ≤ m := by
        have : fc.natAbs ≤ fc.natAbs * o := Nat.le_mul_of_pos_right _ (by omega)
        omega
      have hqo : o / n ≤ o := Nat.div_le_self _ _
      walk_at "rd"
      have eq : (o : Int) / (n : Int) = ((o / n : Nat) : Int) := rfl
      rw [eq]
      walk_at "rd"
      have em : (o : Int) - ((o / n : Nat) : Int) * n = ((o % n : Nat) : Int) := by
        have := Nat.div_add_mod o n
        rw [← Int.natCast_mul, Nat.mul_comm]
        omega
      rw [em]
      walk_at "rd"
      refine ⟨rfl, n, o % n, fc, bf - ((o / n : Nat) : Int) * fc, _, _, _, Nat.mod_lt _ hn0, by rw [Nat.gcd_comm, ← Nat.gcd_rec, Nat.gcd_comm]; exact hgc, d2, ?_, ?_, by omega, ?_, rfl⟩
      · rw [← em]
        have e : (o : Int) - ((o / n : Nat) : Int) * n - (bf - ((o / n : Nat) : Int) * fc) * a = ((o : Int) - bf * a) - ((o / n : Nat) : Int) * ((n : Int) - fc * a) := by
          rw [Int.sub_mul, Int.mul_sub, Int.mul_assoc]
          omega
        rw [e]
        exact Int.dvd_sub d1 (Int.dvd_mul_of_dvd_right d2)
      · have h1 : (bf - ((o / n : Nat) : Int) * fc).natAbs ≤ bf.natAbs + o / n * fc.natAbs := by
          have := Int.natAbs_sub_le bf (((o / n : Nat) : Int) * fc)
          rw [Int.natAbs_mul, Int.natAbs_natCast] at this
          exact this
        have h2 : (bf - ((o / n : Nat) : Int) * fc).natAbs * n ≤ (bf.natAbs + o / n * fc.natAbs) * n := Nat.mul_le_mul_right n h1
        have h3 : (bf.natAbs + o / n * fc.natAbs) * n + fc.natAbs * (o % n) = bf.natAbs * n + fc.natAbs * o := by
          have := Nat.div_add_mod o n
          rw [Nat.add_mul]
          have e : o / n * fc.natAbs * n = fc.natAbs * (n * (o / n)) := by rw [Nat.mul_comm (o / n), Nat.mul_assoc, Nat.mul_comm (o / n)]
          rw [e]
          have e2 : fc.natAbs * (n * (o / n)) + fc.natAbs * (o % n) = fc.natAbs * o := by rw [← Nat.mul_add, this]
          omega
        omega
      · have h1 := halve hn0 (Nat.le_of_lt hno)
        have h2 : n * (o % n) * 2 ^ (k + 1) ≤ o * n * 2 ^ k := by
          rw [Nat.pow_succ]
          calc n * (o % n) * (2 ^ k * 2) = n * (2 * (o % n)) * 2 ^ k := by ac_rfl
            _ ≤ n * o * 2 ^ k := Nat.mul_le_mul_right _ (Nat.mul_le_mul_left _ h1)
            _ = o * n * 2 ^ k := by ac_rfl
        omega
  · rintro σ' H' ⟨rfl, o, n, bf, fc, z1, z2, z3, hno, hgc, d1, d2, hb, hom, hP, rfl⟩
    have hn0 : n = 0 := by
      refine Decidable.by_contra fun z => ?_
      have h1 : 1 ≤ o * n := Nat.mul_pos (by omega) (by omega)
      have h2 : 2 ^ (2 * B + 2) ≤ o * n * 2 ^ (2 * B + 2) := Nat.le_mul_of_pos_left _ h1
      have h3 : m * m < 2 ^ B * 2 ^ B := Nat.mul_lt_mul_of_lt_of_le hB (by omega) (Nat.pow_pos (by decide))
      rw [← Nat.pow_add] at h3
      have h4 : (2 : Nat) ^ (B + B) ≤ 2 ^ (2 * B + 2) := Nat.pow_le_pow_right (by decide) (by omega)
      omega
    rw [hn0, Nat.gcd_zero_right] at hgc
    rw [hgc] at d1
    walk_at "rd"
    exact tail bf d1
def sp_law_common : Sp := fun vs H Q _ => ∃ (a b : Int), vs = [.int a, .int b] ∧ a.natAbs < 2 ^ 2000 ∧ b.natAbs < 2 ^ 2000 ∧ Q (.int (Nat.gcd a.natAbs b.natAbs : Nat)) H
theorem ok_law_common (T : Txt P K mg A) : FnOk P w K mg base CX0 1 A.a_law_common A.d_law_common ["a", "b"] sp_law_common := by
  refine T.F_law_common.ok sc_law_common (fun vs H Q E h => ?_) (fun cdv Ar outer s H vs Q E hr h => ?_)
  · obtain ⟨_, _, rfl, _⟩ := h; rfl
  have nd := sc_law_common.nd
  obtain ⟨a, b, rfl, ha, hb, q⟩ := h
  refine ⟨_, (pss_cons (ps_set (i := 0) nd rfl (.inl rfl) (pe_callB call_abs (by rfl) T.n_abs (by decide +kernel) (pa_cons (pv 0) pa_nil)))
    (pss_cons (ps_set (i := 1) nd rfl (.inl rfl) (pe_callB call_abs (by rfl) T.n_abs (by decide +kernel) (pa_cons (pv 1) pa_nil)))
    (pss_cons (ps_for PassesOwn.never rfl (pi_range1 (by rfl) T.n_range (pa_cons (pe_op op_pow pe_int pe_int) pa_nil)) (pg_name (i := 2) nd rfl (Or.inl rfl)) (pss_cons (ps_if (pt_cmpR op_eq (pv 1) pe_int (nomark _)) (pss_one ps_break) pss_nil)
    (pss_cons (ps_set (i := 3) nd rfl (.inl rfl) (pe_op op_mod (pe_callTy call_int1 (by rfl) T.n_int (by decide +kernel) (pa_cons (pv 0) pa_nil)) (pv 1)))
    (pss_cons (ps_set (i := 0) nd rfl (.inl rfl) (pv 1))
    (pss_one (ps_set (i := 1) nd rfl (.inl rfl) (pv 3)))))))
    (pss_one (ps_ret (pv 0)))))), ?_⟩
  walk_at "rd"
  have ea : (if a < 0 then -a else a) = ((a.natAbs : Nat) : Int) := by split <;> omega
  rw [ea]
  walk_at "rd"
  have eb : (if b < 0 then -b else b) = ((b.natAbs : Nat) : Int) := by split <;> omega
  rw [eb]
  generalize a.natAbs = A at ha q
  generalize b.natAbs = B at hb q
  obtain ⟨G, hG⟩ : ∃ G, Nat.gcd A B = G := ⟨_, rfl⟩
  rw [hG] at q
  have hP : A * B < 2 ^ 4000 := by
    have h3 : A * B < 2 ^ 2000 * 2 ^ 2000 := Nat.mul_lt_mul_of_lt_of_le ha (Nat.le_of_lt hb) (Nat.pow_pos (by decide))
    rw [← Nat.pow_add] at h3
    exact h3
  walk_at "rd"
  refine KR.rngI 10000 (by decide) (by decide) (KR.fwR (fun k σ' H' => H' = H ∧ ∃ (x y : Nat) (z1 z2 : Option V), Nat.gcd x y = G ∧ (k = 0 ∨ y < x) ∧ x * y * 2 ^ (k - 1) ≤ A * B ∧ σ' = [some (.int x), some (.int y), z1, z2])
    ⟨rfl, A, B, none, none, hG, .inl rfl, by rw [Nat.zero_sub, Nat.pow_zero, Nat.mul_one]; exact Nat.le_refl _, rfl⟩ ?_ ?_)
  · rintro k σ' H' hk ⟨rfl, x, y, z1, z2, hg, hxy, hPk, rfl⟩
    walk_at "rd"
    refine KR.iteD (fun hn => ?_) (fun hn => ?_)
    · have hy : y = 0 := by omega
      rw [hy, Nat.gcd_zero_right] at hg
      walk_at "rd"
      refine KR.brk ?_
      walk_at "rd"
      rw [hg]
      exact q
    · have hy : 0 < y := by omega
      walk_at "rd"
      refine ⟨rfl, y, x % y, _, _, by rw [Nat.gcd_comm, ← Nat.gcd_rec, Nat.gcd_comm]; exact hg, .inr (Nat.mod_lt _ hy), ?_, rfl⟩
      rcases Nat.eq_zero_or_pos k with z | z
      · subst z
        rw [Nat.zero_sub, Nat.pow_zero, Nat.mul_one] at hPk
        show y * (x % y) * 2 ^ 0 ≤ A * B
        rw [Nat.pow_zero, Nat.mul_one]
        have h1 : y * (x % y) ≤ y * x := Nat.mul_le_mul_left y (Nat.mod_le x y)
        rw [Nat.mul_comm y x] at h1
        omega
      · have hlt := hxy.resolve_left (by omega)
        have h1 := halve hy (Nat.le_of_lt hlt)
        obtain ⟨j, rfl⟩ : ∃ j, k = j + 1 := ⟨k - 1, by omega⟩
        rw [Nat.add_sub_cancel] at hPk ⊢
        have h2 : y * (x % y) * 2 ^ (j + 1) ≤ x * y * 2 ^ j := by
          rw [Nat.pow_succ]
          calc y * (x % y) * (2 ^ j * 2) = y * (2 * (x % y)) * 2 ^ j := by ac_rfl
            _ ≤ y * x * 2 ^ j := Nat.mul_le_mul_right _ (Nat.mul_le_mul_left _ h1)
            _ = x * y * 2 ^ j := by ac_rfl
        omega
  · rintro σ' H' ⟨rfl, x, y, z1, z2, hg, hxy, hPk, rfl⟩
    have hy : y = 0 := by
      refine Decidable.by_contra fun z => ?_
      have hlt := hxy.resolve_left (by decide)
      have h1 : 1 ≤ x * y := Nat.mul_pos (by omega) (by omega)
      have h2 : 2 ^ (10000 - 1) ≤ x * y * 2 ^ (10000 - 1) := Nat.le_mul_of_pos_left _ h1
      have h4 : (2 : Nat) ^ 4000 ≤ 2 ^ (10000 - 1) := Nat.pow_le_pow_right (by decide) (by decide)
      omega
    rw [hy, Nat.gcd_zero_right] at hg
    walk_at "rd"
    rw [hg]
    exact q
end
end K9
namespace K9
open PySem PySem.Spec PyProof.Rows L2 K7
local macro_rules | `(tactic| walk_at "rc") => `(tactic| first
  | assumption
  | (show (0 : Int) < _; omega)
  | (show (0 : Int) < _ ∧ _ < (1073741824 : Int); exact ⟨by omega, by omega⟩)
  | (show (-(2 ^ 64 : Int) < _ ∧ _ < (2 ^ 64 : Int)) ∨ _; exact .inl ⟨by omega, by omega⟩)
  | (show _ ∨ (-(2 ^ 64 : Int) < _ ∧ _ < (2 ^ 64 : Int)); exact .inr ⟨by omega, by omega⟩)
  | (show (0 : Int) ≤ _ ∧ _ ≤ (1000000 : Int) ∧ _ < 2 ^ 64; exact ⟨by decide, by decide, by decide⟩))
local macro_rules | `(tactic| walk_at "rd") => `(tactic| repeat (first
  | with_reducible apply KR.seq
  | with_reducible apply KR.asg
  | with_reducible apply KR.drop
  | with_reducible apply KR.ret
  | with_reducible apply KR.retN
  | with_reducible apply KR.next
  | with_reducible apply KR.ifs
  | with_reducible refine KR.var rfl ?_
  | with_reducible refine L2.iteT ?_
  | with_reducible refine L2.iteF ?_
  | with_reducible refine KR.iteNF ?_
  | with_reducible refine KR.iteNT ?_
  | with_reducible apply KR.con
  | with_reducible apply KR.op
  | with_reducible apply KR.opI0
  | ((with_reducible refine KR.opI ?rc ?_); (case rc => walk_at "rc"))
  | with_reducible apply KR.un
  | with_reducible apply KR.unI
  | with_reducible apply KR.eqI
  | with_reducible apply KR.neI
  | with_reducible apply KR.test
  | with_reducible apply KR.tb'
  | with_reducible apply KR.exbl
  | with_reducible apply KR.and'
  | with_reducible apply KR.or'
  | with_reducible apply KR.not'
  | with_reducible apply KR.chain
  | with_reducible apply KR.call
  | with_reducible apply KR.callS
  | with_reducible apply KR.make
  | with_reducible apply KR.bm
  | with_reducible apply KR.errF
  | with_reducible apply KR.cons
  | with_reducible apply KR.nil
  | with_reducible apply KR.cb
  | with_reducible apply KR.cInt1
  | with_reducible apply KR.cI1
  | with_reducible apply KR.cI2
  | with_reducible apply KR.isi_ii
  | with_reducible apply KR.isi_ib
  | with_reducible apply KR.bits
  | with_reducible apply KR.exint
  | with_reducible apply KR.ifx
  | with_reducible refine KR.aug rfl ?_
  | with_reducible apply KR.ipI
  | with_reducible apply KR.for'
  | with_reducible apply KR.rng1
  | with_reducible apply KR.rng2
  | with_reducible apply KR.ilist
  | with_reducible apply KR.itup
  | with_reducible apply KR.iseq
  | with_reducible apply KR.gcd
  | with_reducible apply KR.tup
  | with_reducible apply KR.lst
  | with_reducible apply KR.andV
  | with_reducible apply KR.orV
  | with_reducible apply KR.notV
  | with_reducible apply KR.asgG
  | with_reducible apply KR.sub
  | with_reducible apply KR.fld
  | with_reducible apply KR.prop
  | with_reducible apply KR.meth
  | with_reducible apply KR.par
  | with_reducible apply KR.parN
  | with_reducible apply KR.raise1
  | with_reducible apply KR.raise0
  | with_reducible apply KR.exv
  | with_reducible apply KR.lc
  | with_reducible apply KR.ienT
  | with_reducible apply KR.sfld
  | with_reducible apply KR.sl
  | with_reducible apply KR.part
  | with_reducible apply KR.nopart
  | with_reducible apply KR.isNo
  | with_reducible refine KR.nnT ?_
  | with_reducible refine KR.niF ?_
  | with_reducible refine KR.nrF ?_
  | with_reducible refine KR.mnT ?_
  | with_reducible refine KR.miF ?_
  | with_reducible refine KR.mrF ?_))
theorem low_up {d r : Nat} (h : Low d r) (hr : ¬ d ∣ r) : Low (d + 1) r := by
  intro q hq hqr
  have h1 := h q hq hqr
  have h2 : q ≠ d := fun z => hr (z ▸ hqr)
  omega
structure Fnd (n r : Nat) (fs : List Int) : Prop where
  pr : ∀ x ∈ fs, ∃ q : Nat, x = q ∧ Pr q ∧ q ∣ n
  all : ∀ q : Nat, Pr q → q ∣ n → (q : Int) ∈ fs ∨ q ∣ r
  len : 2 ^ fs.length * r ≤ n
  dvd : r ∣ n
  pos : 1 ≤ r
theorem Fnd.lt {n r : Nat} {fs : List Int} (h : Fnd n r fs) (hn : n ≤ 1000000000) : fs.length < 40 := by
  refine Decidable.by_contra fun c => ?_
  have h3 : (2 : Nat) ^ 40 ≤ 2 ^ fs.length := Nat.pow_le_pow_right (by decide) (by omega)
  have h4 : 2 ^ fs.length * 1 ≤ 2 ^ fs.length * r := Nat.mul_le_mul_left _ h.pos
  have h5 : (2 : Nat) ^ 40 = 1099511627776 := by decide
  have := h.len
  omega
theorem Fnd.more {n r r' d e : Nat} {fs : List Int} (h : Fnd n r fs) (hd : Pr d) (he : 0 < e) (hr : r = d ^ e * r') (hr' : 1 ≤ r') : Fnd n r' (fs ++ [(d : Int)]) := by
  have hdr : d ∣ r := ⟨d ^ (e - 1) * r', by rw [hr, ← Nat.mul_assoc, ← Nat.pow_succ']; congr 2; omega⟩
  have hrr : r' ∣ r := ⟨d ^ e, by rw [hr, Nat.mul_comm]⟩
  refine ⟨fun x hx => ?_, fun q hq hqn => ?_, ?_, Nat.dvd_trans hrr h.dvd, hr'⟩
  · rcases List.mem_append.mp hx with hx | hx
    · exact h.pr x hx
    · exact ⟨d, List.mem_singleton.mp hx, hd, Nat.dvd_trans hdr h.dvd⟩
  · rcases h.all q hq hqn with z | z
    · exact .inl (List.mem_append_left _ z)
    · rw [hr] at z
      rcases hq.mul z with y | y
      · have := Pr.eq hq hd (Pr.dvd_pow hq y)
        exact .inl (List.mem_append_right _ (by rw [this]; exact List.mem_cons_self))
      · exact .inr y
  · rw [List.length_append, List.length_singleton, Nat.pow_succ, Nat.mul_assoc]
    have h1 : d ^ 1 ≤ d ^ e := Nat.pow_le_pow_right (by have := hd.two; omega) he
    rw [Nat.pow_one] at h1
    have h2 := Nat.mul_le_mul_right r' (show 2 ≤ d ^ e by have := hd.two; omega)
    rw [← hr] at h2
    have h3 := Nat.mul_le_mul_left (2 ^ fs.length) h2
    have := h.len
    omega
section
variable {P : Program} {w : World} {K : PySem.W.Frag} {mg : Str → Option Value} {base : Heap} {A : Ad}
def sp_law_parts : Sp := fun vs H Q _ => ∃ n : Int, vs = [.int n] ∧ n ≠ 0 ∧ n.natAbs ≤ 1000000000 ∧
  ∀ L (fs : List Int) H2, H L = none → Evl.Ex H H2 → H2 L = some (.lst (fs.map V.int)) → (∀ x ∈ fs, ∃ q : Nat, x = q ∧ Pr q ∧ q ∣ n.natAbs) → (∀ q : Nat, Pr q → q ∣ n.natAbs → (q : Int) ∈ fs) → fs.length ≤ 40 → Q (.ref L) H2
theorem ok_law_parts (T : Txt P K mg A) : FnOk P w K mg base CX0 1 A.a_law_parts A.d_law_parts ["n"] sp_law_parts := by
  refine T.F_law_parts.ok sc_law_parts (fun vs H Q E h => ?_) (fun cdv Ar outer s H vs Q E hr h => ?_)
  · obtain ⟨_, rfl, _⟩ := h; rfl
  have nd := sc_law_parts.nd
  obtain ⟨n, rfl, hn0, hn9, q⟩ := h
  refine ⟨_, (pss_cons (ps_set (i := 1) nd rfl (.inl rfl) (pe_callB call_abs (by rfl) T.n_abs (by decide +kernel) (pa_cons (pv 0) pa_nil)))
    (pss_cons (ps_set (i := 2) nd rfl (.inl rfl) (pe_lst pa_nil))
    (pss_cons (ps_for PassesOwn.never rfl (pi_range2 (by rfl) T.n_range (pa_cons pe_int (pa_cons pe_int pa_nil))) (pg_name (i := 3) nd rfl (Or.inl rfl)) (pss_cons (ps_if (pt_cmpR op_gt (pe_op op_mul (pv 3) (pv 3)) (pv 1) (nomark _)) (pss_one ps_break) pss_nil)
    (pss_one (ps_if (pt_cmpR op_eq (pe_op op_mod (pe_callTy call_int1 (by rfl) T.n_int (by decide +kernel) (pa_cons (pv 1) pa_nil)) (pv 3)) pe_int (nomark _)) (pss_cons (ps_expr (pe_bm PySem.F.plainAttrs_list PySem.F.slot_list_append PySem.F.type_list_append mt_append (pv 2) (pa_cons (pv 3) pa_nil)))
    (pss_one (ps_for PassesOwn.never rfl (pi_range1 (by rfl) T.n_range (pa_cons pe_int pa_nil)) (pg_name (i := 4) nd rfl (Or.inl rfl)) (pss_one (ps_if (pt_cmpR op_eq (pe_op op_mod (pe_callTy call_int1 (by rfl) T.n_int (by decide +kernel) (pa_cons (pv 1) pa_nil)) (pv 3)) pe_int (nomark _)) (pss_one (ps_set (i := 1) nd rfl (.inl rfl) (pe_op op_fdiv (pv 1) (pv 3)))) pss_nil))))) pss_nil))))
    (pss_cons (ps_if (pt_cmpR op_gt (pv 1) pe_int (nomark _)) (pss_one (ps_expr (pe_bm PySem.F.plainAttrs_list PySem.F.slot_list_append PySem.F.type_list_append mt_append (pv 2) (pa_cons (pv 1) pa_nil)))) pss_nil)
    (pss_one (ps_ret (pv 2))))))), ?_⟩
  walk_at "rd"
  have ea : (if n < 0 then -n else n) = ((n.natAbs : Nat) : Int) := by split <;> omega
  rw [ea]
  have hn1 : 1 ≤ n.natAbs := by omega
  generalize n.natAbs = N at hn1 hn9 q
  walk_at "rd"
  refine ⟨Nat.zero_le _, fun L hL => ?_⟩
  have tail : ∀ (r : Nat) (fs : List Int) (H' : Hp) (z3 z4 : Option V), Evl.Ex H H' → H' L = some (.lst (fs.map V.int)) → Fnd N r fs → (r = 1 ∨ Pr r) →
      (1 < r → ∀ H2, Evl.Ex H H2 → H2 L = some (.lst ((fs ++ [(r : Int)]).map V.int)) → Q (.ref L) H2) ∧ (¬ 1 < r → Q (.ref L) H') := by
    intro r fs H' z3 z4 x' l' F hr
    have hl := F.lt hn9
    refine ⟨fun h1 H2 x2 l2 => ?_, fun h1 => ?_⟩
    · have hp := hr.resolve_left (by omega)
      have F2 := F.more (d := r) (e := 1) (r' := 1) hp (by decide) (by rw [Nat.pow_one, Nat.mul_one]) (Nat.le_refl _)
      refine q L _ H2 hL x2 l2 F2.pr (fun q hq hd => (F2.all q hq hd).resolve_right fun z => ?_) (by rw [List.length_append]; show _ + 1 ≤ 40; omega)
      have := Nat.le_of_dvd (by decide) z
      have := hq.two
      omega
    · have hr1 : r = 1 := hr.resolve_right fun z => by have := z.two; omega
      refine q L _ H' hL x' l' F.pr (fun q hq hd => (F.all q hq hd).resolve_right fun z => ?_) (by omega)
      rw [hr1] at z
      have := Nat.le_of_dvd (by decide) z
      have := hq.two
      omega
  walk_at "rd"
  refine KR.rngNN 2 31624 rfl rfl (by decide) (by decide) (KR.fwRa (fun k σ' H' => ∃ (r : Nat) (fs : List Int) (z3 z4 : Option V), Evl.Ex H H' ∧ H' L = some (.lst (fs.map V.int)) ∧ Fnd N r fs ∧ Low k r ∧ σ' = [some (.int n), some (.int r), some (.ref L), z3, z4])
    ⟨N, [], none, none, Evl.Ex.new hL, upd_same, ⟨(fun x hx => nomatch hx), fun q _ hd => .inr hd, by show 1 * N ≤ N; omega, Nat.dvd_refl _, hn1⟩, fun q hq _ => hq.two, rfl⟩ (by decide) ?_ ?_)
  · rintro k σ' H1 hk2 hk ⟨r, fs, z3, z4, x1, l1, F, hlow, rfl⟩
    have hrN : r ≤ N := Nat.le_of_dvd (by omega) F.dvd
    walk_at "rd"
    refine KR.iteD (fun hgt => ?_) (fun hle => ?_)
    · have hgt' : r < k * k := by
        have : (r : Int) < ((k * k : Nat) : Int) := hgt
        omega
      have hrp : r = 1 ∨ Pr r := by
        rcases Nat.lt_or_ge 1 r with c | c
        · exact .inr (low_end c hlow hgt')
        · exact .inl (by have := F.pos; omega)
      obtain ⟨t1, t2⟩ := tail r fs H1 z3 z4 x1 l1 F hrp
      have hl := F.lt hn9
      walk_at "rd"
      refine KR.brk ?_
      walk_at "rd"
      refine KR.iteD (fun c => ?_) (fun c => ?_)
      · walk_at "rd"
        refine ⟨.inl ⟨rfl, _, .inl (.inl l1)⟩, ?_⟩
        walk_at "rd"
        refine ⟨L, _, _, rfl, rfl, l1, by rw [List.length_map, sizeLine_eq]; omega, ?_⟩
        walk_at "rd"
        exact t1 (by omega) _ (Evl.Ex.mut x1 hL) (by rw [upd_same, List.map_append]; rfl)
      · walk_at "rd"
        exact t2 (by omega)
    · walk_at "rd"
      refine KR.iteD (fun hdv => ?_) (fun hdv => ?_)
      · have hdv' : k ∣ r := Nat.dvd_of_mod_eq_zero (by omega)
        have hkp := low_pr hk2 hlow hdv'
        have hl := F.lt hn9
        walk_at "rd"
        refine ⟨.inl ⟨rfl, _, .inl (.inl l1)⟩, ?_⟩
        walk_at "rd"
        refine ⟨L, _, _, rfl, rfl, l1, by rw [List.length_map, sizeLine_eq]; omega, ?_⟩
        have x2 : Evl.Ex H (upd H1 L (.lst (fs.map V.int ++ [V.int (k : Nat)]))) := Evl.Ex.mut x1 hL
        have l2 : (upd H1 L (.lst (fs.map V.int ++ [V.int (k : Nat)]))) L = some (.lst ((fs ++ [(k : Int)]).map V.int)) := by rw [upd_same, List.map_append]; rfl
        generalize upd H1 L _ = H2 at x2 l2 ⊢
        walk_at "rd"
        refine KR.rngI 40 rfl (by decide) (KR.fwR (fun j σ' H' => H' = H2 ∧ ∃ (e r' : Nat) (z4 : Option V), r = k ^ e * r' ∧ 1 ≤ r' ∧ (e = j ∨ ¬ k ∣ r') ∧ (0 < e ∨ j = 0) ∧ σ' = [some (.int n), some (.int r'), some (.ref L), some (.int k), z4])
          ⟨rfl, 0, r, z4, by rw [Nat.pow_zero, Nat.one_mul], F.pos, .inl rfl, .inr rfl, rfl⟩ ?_ ?_)
        · rintro j σ' H' hj ⟨rfl, e, r', z4', he, hr1, hej, he0, rfl⟩
          walk_at "rd"
          refine KR.iteD (fun hd2 => ?_) (fun hd2 => ?_)
          · have hd3 : r' % k = 0 := by omega
            have hd2' : k ∣ r' := Nat.dvd_of_mod_eq_zero hd3
            have hej' := hej.resolve_right (fun z => z hd2')
            have hr2 : r' = k * (r' / k) := (Nat.mul_div_cancel' hd2').symm
            have hr3 : 1 ≤ r' / k := by
              rcases Nat.eq_zero_or_pos (r' / k) with z | z
              · rw [z] at hr2; omega
              · exact z
            walk_at "rd"
            exact ⟨rfl, e + 1, r' / k, _, by rw [Nat.pow_succ, Nat.mul_assoc, ← hr2]; exact he, hr3, .inl (by omega), .inl (by omega), rfl⟩
          · have hd2' : ¬ k ∣ r' := fun z => hd2 (by have := Nat.mod_eq_zero_of_dvd z; omega)
            walk_at "rd"
            refine ⟨rfl, e, r', _, he, hr1, .inr hd2', .inl ?_, rfl⟩
            rcases Nat.eq_zero_or_pos e with z | z
            · rw [z, Nat.pow_zero, Nat.one_mul] at he
              exact absurd (he ▸ hdv') hd2'
            · exact z
        · rintro σ' H' ⟨rfl, e, r', z4', he, hr1, hej, he0, rfl⟩
          have hnd : ¬ k ∣ r' := by
            rcases hej with z | z
            · intro hd2
              have h1 : 2 ^ 40 ≤ k ^ e := by
                rw [z]
                exact Nat.pow_le_pow_left hk2 40
              have h2 : k ^ e * 1 ≤ k ^ e * r' := Nat.mul_le_mul_left _ hr1
              have h5 : (2 : Nat) ^ 40 = 1099511627776 := by decide
              omega
            · exact z
          have hrr : r' ∣ r := ⟨k ^ e, by rw [he, Nat.mul_comm]⟩
          have hlow' : Low k r' := fun q hq hqr => hlow q hq (Nat.dvd_trans hqr hrr)
          exact ⟨r', fs ++ [(k : Int)], _, _, x2, l2, F.more hkp (he0.resolve_right (by decide)) he hr1, low_up hlow' hnd, rfl⟩
      · have hdv' : ¬ k ∣ r := fun z => hdv (by have := Nat.mod_eq_zero_of_dvd z; omega)
        walk_at "rd"
        exact ⟨r, fs, _, _, x1, l1, F, low_up hlow hdv', rfl⟩
  · rintro σ' H1 ⟨r, fs, z3, z4, x1, l1, F, hlow, rfl⟩
    have hrN : r ≤ N := Nat.le_of_dvd (by omega) F.dvd
    have hrp : r = 1 ∨ Pr r := by
      rcases Nat.lt_or_ge 1 r with c | c
      · refine .inr (low_end c hlow ?_)
        have : 31624 * 31624 = 1000077376 := by decide
        omega
      · exact .inl (by have := F.pos; omega)
    obtain ⟨t1, t2⟩ := tail r fs H1 z3 z4 x1 l1 F hrp
    have hl := F.lt hn9
    walk_at "rd"
    refine KR.iteD (fun c => ?_) (fun c => ?_)
    · walk_at "rd"
      refine ⟨.inl ⟨rfl, _, .inl (.inl l1)⟩, ?_⟩
      walk_at "rd"
      refine ⟨L, _, _, rfl, rfl, l1, by rw [List.length_map, sizeLine_eq]; omega, ?_⟩
      walk_at "rd"
      exact t1 (by omega) _ (Evl.Ex.mut x1 hL) (by rw [upd_same, List.map_append]; rfl)
    · walk_at "rd"
      exact t2 (by omega)
def sp_law_primes (K : PySem.W.Frag) : Sp := fun vs H Q _ => ∃ (N : Addr) (xs : List Int), vs = [.ref N] ∧ SqL K H N (xs.map V.int) ∧ (∀ x ∈ xs, okL x) ∧ 0 ∉ xs ∧ xs.length ≤ 8 ∧
  ∀ L (ts : List Int) H2, H L = none → Evl.Ex H H2 → H2 L = some (.lst (ts.map V.int)) → Told xs ts → ts.length ≤ 1000 → Q (.ref L) H2
theorem ok_law_primes (T : Txt P K mg A) : FnOk P w K mg base CX0 2 A.a_law_primes A.d_law_primes ["numbers"] (sp_law_primes K) := by
  refine T.F_law_primes.ok sc_law_primes (fun vs H Q E h => ?_) (fun cdv Ar outer s H vs Q E hr h => ?_)
  · obtain ⟨_, _, rfl, _⟩ := h; rfl
  have nd := sc_law_primes.nd
  obtain ⟨N, xs, rfl, hN, hok, h0, hxl, q⟩ := h
  refine ⟨_, (pss_cons (ps_set (i := 1) nd rfl (.inl rfl) (pe_lst (pa_cons pe_int pa_nil)))
    (pss_cons (ps_for PassesOwn.never rfl (pi_list (pv 0)) (pg_name (i := 2) nd rfl (Or.inl rfl)) (pss_one (ps_for PassesOwn.never rfl (pi_list (pe_call (ok_law_parts T) (hr.mono (by decide)) (by rfl) T.g_law_parts T.k_law_parts T.b_law_parts .nil pass0 (pa_cons (pv 2) pa_nil))) (pg_name (i := 3) nd rfl (Or.inl rfl)) (pss_one (ps_if (pt_cmpR op_notIn_seq (pv 3) (pv 1) (by rfl)) (pss_one (ps_expr (pe_bm PySem.F.plainAttrs_list PySem.F.slot_list_append PySem.F.type_list_append mt_append (pv 1) (pa_cons (pv 3) pa_nil)))) pss_nil)))))
    (pss_one (ps_ret (pe_callB cr_sortedI (by rfl) T.n_sorted (by decide +kernel) (pa_cons (pv 1) pa_nil)))))), ?_⟩
  walk_at "rd"
  refine ⟨by show (1 : Nat) ≤ sizeLine; decide, fun F hF => ?_⟩
  have x1 : Evl.Ex H (upd H F (.lst [.int 2])) := Evl.Ex.new hF
  have lF : (upd H F (.lst [.int 2])) F = some (.lst (([2] : List Int).map V.int)) := upd_same
  generalize upd H F _ = H1 at x1 lF ⊢
  have hst : ∀ H', ExB F H1 H' → SqL K H' N (xs.map V.int) := fun H' ex => SqA.exB (b := true) hN hF x1 ex
  walk_at "rd"
  refine KR.ilistN (Evl.ex_l x1 hN) (KR.fwL (xs := xs.map V.int) (fun i σ' H' => ∃ (fs : List Int) (z2 z3 : Option V), H' F = some (.lst (fs.map V.int)) ∧ ExB F H1 H' ∧ fs.Nodup ∧ 2 ∈ fs ∧ (∀ x ∈ fs, x = 2 ∨ DivL xs x) ∧
      (∀ j, j < i → ∀ q : Nat, Pr q → q ∣ (xs.getD j 1).natAbs → (q : Int) ∈ fs) ∧ fs.length ≤ 1 + 40 * i ∧ σ' = [some (.ref N), some (.ref F), z2, z3])
    ⟨[2], none, none, lF, ExB.refl _ _, by decide, List.mem_cons_self, fun x hx => .inl (List.mem_singleton.mp hx), fun j hj => absurd hj (Nat.not_lt_zero _), by decide, rfl⟩ ?_ ?_ ?_)
  · rintro i σ' H' _ ⟨fs, z2, z3, _, ex, _⟩
    exact hst H' ex
  · rintro i v σ' H2 hv ⟨fs, z2, z3, lF2, ex2, hnd, h2m, hd2, hall, hlen, rfl⟩
    rw [List.getElem?_map] at hv
    obtain ⟨c, hc, rfl⟩ := Option.map_eq_some_iff.mp hv
    have hi2 : i < xs.length := (List.getElem?_eq_some_iff.mp hc).1
    have hcd : xs.getD i 1 = c := by rw [List.getD_eq_getElem?_getD, hc]; rfl
    have hcab : c ∈ xs := List.mem_of_getElem? hc
    have hc0 : c ≠ 0 := fun z => h0 (z ▸ hcab)
    have hc9 : c.natAbs ≤ 1000000000 := by
      obtain ⟨c1, c2⟩ := hok c hcab
      omega
    walk_at "rd"
    refine ⟨c, rfl, hc0, hc9, fun L ps H3 hL x3 lL hps hpall hpl => ?_⟩
    have hLF : L ≠ F := fun z => by rw [z, lF2] at hL; cases hL
    have ex3 := ex2.trans (ExB.of x3)
    refine KR.ilistN (.inl (.inl lL)) (KR.fwL (xs := ps.map V.int) (fun k σ' H' => ∃ (fs' : List Int) (z3 : Option V), H' F = some (.lst (fs'.map V.int)) ∧ ExB F H3 H' ∧ fs'.Nodup ∧ 2 ∈ fs' ∧ (∀ x ∈ fs', x = 2 ∨ DivL xs x) ∧ (∀ x ∈ fs, x ∈ fs') ∧
      (∀ j x, j < k → ps[j]? = some x → x ∈ fs') ∧ fs'.length ≤ 1 + 40 * i + k ∧ σ' = [some (.ref N), some (.ref F), some (.int c), z3])
      ⟨fs, z3, x3 _ _ lF2, ExB.refl _ _, hnd, h2m, hd2, fun x hx => hx, fun j x hj => absurd hj (Nat.not_lt_zero _), hlen, rfl⟩ ?_ ?_ ?_)
    · rintro k σ' H' _ ⟨fs', z4, _, ex, _⟩
      exact .inl (.inl (ex _ _ hLF lL))
    · rintro k v σ' H4 hv4 ⟨fs', z4', lF4, ex4, hnd4, h2m4, hd4, hsub, hall4, hlen4, rfl⟩
      rw [List.getElem?_map] at hv4
      obtain ⟨x, hx, rfl⟩ := Option.map_eq_some_iff.mp hv4
      have hkp : k < ps.length := (List.getElem?_eq_some_iff.mp hx).1
      obtain ⟨p, rfl, hxp, hxd⟩ := hps x (List.mem_of_getElem? hx)
      have hdx : DivL xs ((p : Nat) : Int) := ⟨p, rfl, hxp, c, hcab, hxd⟩
      walk_at "rd"
      refine ⟨F, _, rfl, .inl (.inl (.inl lF4)), rfl, flat_ints _, ?_⟩
      rw [inV_int]
      walk_at "rd"
      refine KR.iteND (fun hn => ?_) (fun hy => ?_)
      · walk_at "rd"
        refine ⟨.inl ⟨rfl, _, .inl (.inl lF4)⟩, ?_⟩
        walk_at "rd"
        refine ⟨F, _, _, rfl, rfl, lF4, by rw [List.length_map, sizeLine_eq]; omega, ?_⟩
        refine ⟨fs' ++ [((p : Nat) : Int)], _, by rw [upd_same, List.map_append]; rfl, ex4.trans ExB.upd, ?_, List.mem_append_left _ h2m4, fun y hy => ?_, fun y hy => List.mem_append_left _ (hsub y hy), fun j y hj hy => ?_, by rw [List.length_append, List.length_singleton]; omega, rfl⟩
        · rw [List.nodup_append]
          exact ⟨hnd4, by simp, fun y hy z hz => by
            rw [List.mem_singleton.mp hz]
            exact fun w => hn (w ▸ hy)⟩
        · rcases List.mem_append.mp hy with hy | hy
          · exact hd4 y hy
          · rw [List.mem_singleton.mp hy]; exact .inr hdx
        · rcases Nat.lt_or_ge j k with cc | cc
          · exact List.mem_append_left _ (hall4 j y cc hy)
          · have : j = k := by omega
            rw [this, hx] at hy
            rw [← Option.some.inj hy]
            exact List.mem_append_right _ List.mem_cons_self
      · walk_at "rd"
        refine ⟨fs', _, lF4, ex4, hnd4, h2m4, hd4, hsub, fun j y hj hy2 => ?_, by omega, rfl⟩
        rcases Nat.lt_or_ge j k with cc | cc
        · exact hall4 j y cc hy2
        · have : j = k := by omega
          rw [this, hx] at hy2
          rw [← Option.some.inj hy2]
          exact hy
    · rintro σ' H4 ⟨fs', z4', lF4, ex4, hnd4, h2m4, hd4, hsub, hall4, hlen4, rfl⟩
      rw [List.length_map] at hall4 hlen4
      refine ⟨fs', _, _, lF4, ex3.trans ex4, hnd4, h2m4, hd4, fun j hj q hq hqd => ?_, by omega, rfl⟩
      rcases Nat.lt_or_ge j i with cc | cc
      · exact hsub _ (hall j cc q hq hqd)
      · have hji : j = i := by omega
        rw [hji, hcd] at hqd
        obtain ⟨k, hk, hk2⟩ := List.getElem_of_mem (hpall q hq hqd)
        exact hall4 k _ hk (by rw [List.getElem?_eq_getElem hk, hk2])
  rintro σ' H5 ⟨fs, z2, z3, lF5, ex5, hnd, h2m, hd5, hall, hlen, rfl⟩
  rw [List.length_map] at hall hlen
  walk_at "rd"
  refine ⟨F, fs, rfl, .inl (.inl lF5), fun ns S hperm hsort hS => ?_⟩
  have hasc := asc_of hsort (hperm.nodup_iff.mpr hnd)
  have hmem : ∀ x, x ∈ ns ↔ (x = 2 ∨ DivL xs x) := fun x => by
    rw [hperm.mem_iff]
    constructor
    · exact hd5 x
    · rintro (rfl | ⟨q, rfl, hq, c, hc, hqd⟩)
      · exact h2m
      · obtain ⟨j, hj, hj2⟩ := List.getElem_of_mem hc
        exact hall j hj q hq (by rw [List.getD_eq_getElem?_getD, List.getElem?_eq_getElem hj, hj2]; exact hqd)
  have e5 : Evl.Ex H H5 := fun y o hy => ex5 y o (ne_of_none hy hF) (x1 _ _ hy)
  exact q S ns _ (ex_none e5 hS) (e5.trans (Evl.Ex.new hS)) upd_same ⟨hasc, hmem⟩ (by rw [hperm.length_eq]; omega)
end
end K9
namespace K9
open PySem PySem.Spec PyProof.Rows L2 K7
local macro_rules | `(tactic| walk_at "rc") => `(tactic| first
  | assumption
  | (show (0 : Int) < _; omega)
  | (show (0 : Int) < _ ∧ _ < (1073741824 : Int); exact ⟨by omega, by omega⟩)
  | (show (-(2 ^ 64 : Int) < _ ∧ _ < (2 ^ 64 : Int)) ∨ _; exact .inl ⟨by omega, by omega⟩)
  | (show _ ∨ (-(2 ^ 64 : Int) < _ ∧ _ < (2 ^ 64 : Int)); exact .inr ⟨by omega, by omega⟩)
  | (show (0 : Int) ≤ _ ∧ _ ≤ (1000000 : Int) ∧ _ < 2 ^ 64; exact ⟨by decide, by decide, by decide⟩))
local macro_rules | `(tactic| walk_at "rd") => `(tactic| repeat (first
  | with_reducible apply KR.seq
  | with_reducible apply KR.asg
  | with_reducible apply KR.drop
  | with_reducible apply KR.ret
  | with_reducible apply KR.retN
  | with_reducible apply KR.next
  | with_reducible apply KR.ifs
  | with_reducible refine KR.var rfl ?_
  | with_reducible refine L2.iteT ?_
  | with_reducible refine L2.iteF ?_
  | with_reducible refine KR.iteNF ?_
  | with_reducible refine KR.iteNT ?_
  | with_reducible apply KR.con
  | with_reducible apply KR.op
  | with_reducible apply KR.opI0
  | ((with_reducible refine KR.opI ?rc ?_); (case rc => walk_at "rc"))
  | with_reducible apply KR.un
  | with_reducible apply KR.unI
  | with_reducible apply KR.eqI
  | with_reducible apply KR.neI
  | with_reducible apply KR.test
  | with_reducible apply KR.tb'
  | with_reducible apply KR.exbl
  | with_reducible apply KR.and'
  | with_reducible apply KR.or'
  | with_reducible apply KR.not'
  | with_reducible apply KR.chain
  | with_reducible apply KR.call
  | with_reducible apply KR.callS
  | with_reducible apply KR.make
  | with_reducible apply KR.bm
  | with_reducible apply KR.errF
  | with_reducible apply KR.cons
  | with_reducible apply KR.nil
  | with_reducible apply KR.cb
  | with_reducible apply KR.cInt1
  | with_reducible apply KR.cI1
  | with_reducible apply KR.cI2
  | with_reducible apply KR.isi_ii
  | with_reducible apply KR.isi_ib
  | with_reducible apply KR.bits
  | with_reducible apply KR.exint
  | with_reducible apply KR.ifx
  | with_reducible refine KR.aug rfl ?_
  | with_reducible apply KR.ipI
  | with_reducible apply KR.for'
  | with_reducible apply KR.rng1
  | with_reducible apply KR.rng2
  | with_reducible apply KR.ilist
  | with_reducible apply KR.itup
  | with_reducible apply KR.iseq
  | with_reducible apply KR.gcd
  | with_reducible apply KR.tup
  | with_reducible apply KR.lst
  | with_reducible apply KR.andV
  | with_reducible apply KR.orV
  | with_reducible apply KR.notV
  | with_reducible apply KR.asgG
  | with_reducible apply KR.sub
  | with_reducible apply KR.fld
  | with_reducible apply KR.prop
  | with_reducible apply KR.meth
  | with_reducible apply KR.par
  | with_reducible apply KR.parN
  | with_reducible apply KR.raise1
  | with_reducible apply KR.raise0
  | with_reducible apply KR.exv
  | with_reducible apply KR.lc
  | with_reducible apply KR.ienT
  | with_reducible apply KR.sfld
  | with_reducible apply KR.sl
  | with_reducible apply KR.part
  | with_reducible apply KR.nopart
  | with_reducible apply KR.isNo
  | with_reducible refine KR.nnT ?_
  | with_reducible refine KR.niF ?_
  | with_reducible refine KR.nrF ?_
  | with_reducible refine KR.mnT ?_
  | with_reducible refine KR.miF ?_
  | with_reducible refine KR.mrF ?_))
theorem mo_bd {p g : Nat} (hp : p ∈ primesN) (hg : 0 < g) (hg2 : g < 13) : 2 ≤ Mo p g ∧ Mo p g < 2000 ∧ vs p g ≤ 3 := by
  have tab : ∀ p ∈ primesN, ∀ g, g < 13 → 0 < g → 2 ≤ Mo p g ∧ Mo p g < 2000 ∧ vs p g ≤ 3 := by decide +kernel
  exact tab p hp g hg2 hg
theorem pw_le {p : Nat} (hp : 2 ≤ p) {a : Int} (ha : a ≠ 0) (h : okL a) : (0 : Int) < (p : Int) ^ vI p a ∧ (p : Int) ^ vI p a < 1073741824 := by
  refine ⟨Int.pow_pos (by omega), ?_⟩
  have h1 := vN_lt_pow hp (show 0 < a.natAbs by omega)
  have h2 := okL_nat h
  have h3 : ((p ^ vN p a.natAbs : Nat) : Int) = (p : Int) ^ vI p a := Int.natCast_pow ..
  omega
theorem cop_mod {p s : Nat} (hp : p ∈ primesN) (hs : 1 ≤ s) {u : Int} (hu : ¬ (p : Int) ∣ u) : Nat.gcd (p ^ s) (u % ((p ^ s : Nat) : Int)).toNat = 1 := by
  have h2 := (pr_mem hp).two
  have hm2 := two_le_pow h2 hs
  refine (pr_mem hp).copPow (fun z => hu ?_) s
  have hd1 : ((p : Nat) : Int) ∣ u % ((p ^ s : Nat) : Int) := by
    have hnn := Int.emod_nonneg u (show ((p ^ s : Nat) : Int) ≠ 0 by omega)
    have := Int.natCast_dvd_natCast.mpr z
    rw [Int.toNat_of_nonneg hnn] at this
    exact this
  have hd2 : ((p : Nat) : Int) ∣ ((p ^ s : Nat) : Int) := by
    refine Int.natCast_dvd_natCast.mpr ⟨p ^ (s - 1), ?_⟩
    rw [← Nat.pow_succ']
    congr 1
    omega
  have e : u = (u - u % ((p ^ s : Nat) : Int)) + u % ((p ^ s : Nat) : Int) := by omega
  rw [e]
  exact Int.dvd_add (Int.dvd_trans hd2 Int.dvd_self_sub_emod) hd1
theorem sub_mod_iff {x u M : Nat} (hu : u < M) : ((x : Int) - (u : Int)) % (M : Int) = 0 ↔ x % M = u := by
  constructor
  · intro h
    have h1 := Int.emod_eq_emod_iff_emod_sub_eq_zero.mpr h
    rw [← Int.natCast_emod, ← Int.natCast_emod, Nat.mod_eq_of_lt hu] at h1
    omega
  · intro h
    refine Int.emod_eq_emod_iff_emod_sub_eq_zero.mp ?_
    rw [← Int.natCast_emod, ← Int.natCast_emod, Nat.mod_eq_of_lt hu, h]
section
variable {P : Program} {w : World} {K : PySem.W.Frag} {mg : Str → Option Value} {base : Heap} {A : Ad}
def sp_law_solved : Sp := fun vs H Q _ => ∃ (p g : Nat) (a b : Int), vs = [.int p, .int g, .int a, .int b] ∧ p ∈ primesN ∧ 0 < g ∧ g < 13 ∧ okL a ∧ okL b ∧ a ≠ 0 ∧ b ≠ 0 ∧ Q (.bl (isPow p g a b)) H
theorem ok_law_solved (T : Txt P K mg A) : FnOk P w K mg base CX0 2 A.a_law_solved A.d_law_solved ["p", "g", "a", "b"] sp_law_solved := by
  refine T.F_law_solved.ok sc_law_solved (fun vs H Q E h => ?_) (fun cdv Ar outer s H vs Q E hr h => ?_)
  · obtain ⟨_, _, _, _, rfl, _⟩ := h; rfl
  have nd := sc_law_solved.nd
  obtain ⟨p, g, a, b, rfl, hp, hg, hg2, ha, hb, a0, b0, q⟩ := h
  obtain ⟨_, h2, h9⟩ := of_pr hp
  obtain ⟨M2, M9, v3⟩ := mo_bd hp hg hg2
  have big : ∀ {z : Int}, z.natAbs ≤ 1000000000 → z.natAbs < 2 ^ 100000 := fun h => Nat.lt_of_le_of_lt h (Nat.lt_of_lt_of_le (by decide : 1000000000 < 2 ^ 30) (Nat.pow_le_pow_right (by decide) (by decide)))
  have va := vI_30 (p := p) h2 a0 ha
  have vb := vI_30 (p := p) h2 b0 hb
  have pa := pw_le h2 a0 ha
  have pb := pw_le h2 b0 hb
  have eg : vI p (g : Int) = vs p g := by unfold vI; rw [Int.natAbs_natCast]; exact vs_eq hp hg hg2
  have ua9 := un_le h2 a0
  have ub9 := un_le h2 b0
  have ha9 := okL_nat ha
  have hb9 := okL_nat hb
  refine ⟨_, (pss_cons (ps_set (i := 4) nd rfl (.inl rfl) (pe_call (ok_law_depth T) (hr.mono (by decide)) (by rfl) T.g_law_depth T.k_law_depth T.b_law_depth .nil pass0 (pa_cons (pv 0) (pa_cons (pv 2) pa_nil))))
    (pss_cons (ps_set (i := 5) nd rfl (.inl rfl) (pe_call (ok_law_depth T) (hr.mono (by decide)) (by rfl) T.g_law_depth T.k_law_depth T.b_law_depth .nil pass0 (pa_cons (pv 0) (pa_cons (pv 3) pa_nil))))
    (pss_cons (ps_if (pt_cmpR op_ne (pe_op op_mod (pe_callTy call_int1 (by rfl) T.n_int (by decide +kernel) (pa_cons (pe_op op_sub (pv 5) (pv 4)) pa_nil)) (pv 1)) pe_int (nomark _)) (pss_one (ps_ret pe_bl)) pss_nil)
    (pss_cons (ps_set (i := 6) nd rfl (.inl rfl) (pe_call (ok_law_power T) (hr.mono (by decide)) (by rfl) T.g_law_power T.k_law_power T.b_law_power .nil pass0 (pa_cons (pv 0) (pa_cons (pe_op op_add (pe_op op_mul pe_int (pe_call (ok_law_depth T) (hr.mono (by decide)) (by rfl) T.g_law_depth T.k_law_depth T.b_law_depth .nil pass0 (pa_cons (pv 0) (pa_cons (pv 1) pa_nil)))) pe_int) pa_nil))))
    (pss_cons (ps_set (i := 7) nd rfl (.inl rfl) (pe_call (ok_law_inverse T) (hr.mono (by decide)) (by rfl) T.g_law_inverse T.k_law_inverse T.b_law_inverse .nil pass0 (pa_cons (pe_op op_fdiv (pv 2) (pe_call (ok_law_power T) (hr.mono (by decide)) (by rfl) T.g_law_power T.k_law_power T.b_law_power .nil pass0 (pa_cons (pv 0) (pa_cons (pv 4) pa_nil)))) (pa_cons (pv 6) pa_nil))))
    (pss_cons (ps_set (i := 7) nd rfl (.inl rfl) (pe_op op_mod (pe_callTy call_int1 (by rfl) T.n_int (by decide +kernel) (pa_cons (pe_op op_mul (pe_op op_fdiv (pv 3) (pe_call (ok_law_power T) (hr.mono (by decide)) (by rfl) T.g_law_power T.k_law_power T.b_law_power .nil pass0 (pa_cons (pv 0) (pa_cons (pv 5) pa_nil)))) (pv 7)) pa_nil)) (pv 6)))
    (pss_cons (ps_for PassesOwn.never rfl (pi_range2 (by rfl) T.n_range (pa_cons pe_int (pa_cons (pv 6) pa_nil))) (pg_name (i := 8) nd rfl (Or.inl rfl)) (pss_one (ps_if (pt_cmpR op_eq (pe_op op_mod (pe_callTy call_int1 (by rfl) T.n_int (by decide +kernel) (pa_cons (pe_op op_sub (pe_call (ok_law_power T) (hr.mono (by decide)) (by rfl) T.g_law_power T.k_law_power T.b_law_power .nil pass0 (pa_cons (pv 8) (pa_cons (pv 1) pa_nil))) (pv 7)) pa_nil)) (pv 6)) pe_int (nomark _)) (pss_one (ps_ret pe_bl)) pss_nil)))
    (pss_one (ps_ret pe_bl))))))))), ?_⟩
  walk_at "rd"
  refine ⟨p, a, rfl, h2, h9, big (okL_nat ha), a0, ?_⟩
  walk_at "rd"
  refine ⟨p, b, rfl, h2, h9, big (okL_nat hb), b0, ?_⟩
  walk_at "rd"
  refine KR.iteND (fun c => ?_) (fun c => ?_)
  · walk_at "rd"
    have e : isPow p g a b = false := by
      unfold isPow
      rw [decide_eq_false c, Bool.false_and]
    rw [e] at q
    exact q
  have e : isPow p g a b = cr2 p g a b := by
    unfold isPow
    rw [decide_eq_true c, Bool.true_and]
  rw [e] at q
  walk_at "rd"
  refine ⟨p, g, rfl, h2, h9, by rw [Int.natAbs_natCast]; exact Nat.lt_of_lt_of_le (show g < 2 ^ 4 by omega) (Nat.pow_le_pow_right (by decide) (by decide)), by omega, ?_⟩
  rw [eg]
  walk_at "rd"
  refine ⟨p, 2 * vs p g + 1, by congr 1, pow_bd7 hp (by omega), by omega, ?_⟩
  have epow : ((p : Int) ^ (2 * vs p g + 1)) = ((Mo p g : Nat) : Int) := (Int.natCast_pow ..).symm
  rw [epow]
  walk_at "rd"
  refine ⟨p, vI p a, rfl, pow_bd30 h9 (by omega), by omega, ?_⟩
  refine KR.opI pa ?_
  have eua : a / (p : Int) ^ vI p a = un p a := rfl
  rw [eua]
  walk_at "rd"
  refine ⟨un p a, Mo p g, rfl, M2, by omega, cop_mod hp (by omega) (form h2 a0).2, fun v hv0 hv1 hv => ?_⟩
  walk_at "rd"
  refine ⟨p, vI p b, rfl, pow_bd30 h9 (by omega), by omega, ?_⟩
  refine KR.opI pb ?_
  have eub : b / (p : Int) ^ vI p b = un p b := rfl
  rw [eub]
  walk_at "rd"
  obtain ⟨u, hu⟩ := Int.eq_ofNat_of_zero_le (Int.emod_nonneg (un p b * v) (show ((Mo p g : Nat) : Int) ≠ 0 by omega))
  have hul := Int.emod_lt_of_pos (un p b * v) (show (0 : Int) < ((Mo p g : Nat) : Int) by omega)
  rw [hu] at hul ⊢
  have huM : u < Mo p g := by omega
  have hd : (p : Int) ^ (2 * vs p g + 1) ∣ (u : Int) * un p a - un p b := by
    rw [epow]
    have h3 : ((Mo p g : Nat) : Int) ∣ un p b * v - (u : Int) := by rw [← hu]; exact Int.dvd_self_sub_emod
    have h4 : ((Mo p g : Nat) : Int) ∣ un p b * (un p a * v - 1) := Int.dvd_mul_of_dvd_right hv
    have h5 : ((Mo p g : Nat) : Int) ∣ (un p b * v - (u : Int)) * un p a := Int.dvd_mul_of_dvd_left h3
    have e : (u : Int) * un p a - un p b = un p b * (un p a * v - 1) - (un p b * v - u) * un p a := by
      rw [Int.mul_sub, Int.sub_mul, Int.mul_one]
      have : un p b * (un p a * v) = un p b * v * un p a := by ac_rfl
      omega
    rw [e]
    exact Int.dvd_sub h4 h5
  have key := walk_cr2 hp hg hg2 a0 b0 huM hd
  walk_at "rd"
  refine KR.rngNN 1 (Mo p g) rfl rfl (by decide) (by omega) (KR.fwRa (fun k σ' H' => H' = H ∧ (∀ x, 1 ≤ x → x < k → x ^ g % Mo p g ≠ u) ∧ ∃ z, σ' = [some (.int p), some (.int g), some (.int a), some (.int b), some (.int (vI p a : Nat)), some (.int (vI p b : Nat)), some (.int (Mo p g : Nat)), some (.int u), z])
    ⟨rfl, fun x h1 h2 => by omega, none, rfl⟩ (by omega) ?_ ?_)
  · rintro k σ' H' hk1 hk2 ⟨rfl, hno, z, rfl⟩
    walk_at "rd"
    refine ⟨k, g, rfl, powOk (c := 11) (k := 12) (by
      have : (2 : Nat) ^ 11 = 2048 := by decide
      omega) (by decide) (by omega) (by decide), by omega, ?_⟩
    have ek : (k : Int) ^ g = ((k ^ g : Nat) : Int) := (Int.natCast_pow ..).symm
    rw [ek]
    walk_at "rd"
    refine KR.iteD (fun c1 => ?_) (fun c1 => ?_)
    · walk_at "rd"
      rw [key.mp ⟨k, hk1, hk2, (sub_mod_iff huM).mp c1⟩] at q
      exact q
    · walk_at "rd"
      refine ⟨rfl, fun x h1 h3 hx => ?_, _, rfl⟩
      rcases Nat.lt_or_ge x k with cc | cc
      · exact hno x h1 cc hx
      · have : x = k := by omega
        rw [this] at hx
        exact c1 ((sub_mod_iff huM).mpr hx)
  · rintro σ' H' ⟨rfl, hno, z, rfl⟩
    walk_at "rd"
    have hf : cr2 p g a b = false := by
      cases hc : cr2 p g a b with
      | false => rfl
      | true =>
        obtain ⟨x, h1, h3, hx⟩ := key.mpr hc
        exact absurd hx (hno x h1 h3)
    rw [hf] at q
    exact q
end
end K9
namespace K9
open PySem PySem.Spec PyProof.Rows L2 K7
local macro_rules | `(tactic| walk_at "rc") => `(tactic| first
  | assumption
  | (show (0 : Int) < _; omega)
  | (show (0 : Int) < _ ∧ _ < (1073741824 : Int); exact ⟨by omega, by omega⟩)
  | (show (-(2 ^ 64 : Int) < _ ∧ _ < (2 ^ 64 : Int)) ∨ _; exact .inl ⟨by omega, by omega⟩)
  | (show _ ∨ (-(2 ^ 64 : Int) < _ ∧ _ < (2 ^ 64 : Int)); exact .inr ⟨by omega, by omega⟩)
  | (show (0 : Int) ≤ _ ∧ _ ≤ (1000000 : Int) ∧ _ < 2 ^ 64; exact ⟨by decide, by decide, by decide⟩))
local macro_rules | `(tactic| walk_at "rd") => `(tactic| repeat (first
  | with_reducible apply KR.seq
  | with_reducible apply KR.asg
  | with_reducible apply KR.drop
  | with_reducible apply KR.ret
  | with_reducible apply KR.retN
  | with_reducible apply KR.next
  | with_reducible apply KR.ifs
  | with_reducible refine KR.var rfl ?_
  | with_reducible refine L2.iteT ?_
  | with_reducible refine L2.iteF ?_
  | with_reducible refine KR.iteNF ?_
  | with_reducible refine KR.iteNT ?_
  | with_reducible apply KR.con
  | with_reducible apply KR.op
  | with_reducible apply KR.opI0
  | ((with_reducible refine KR.opI ?rc ?_); (case rc => walk_at "rc"))
  | with_reducible apply KR.un
  | with_reducible apply KR.unI
  | with_reducible apply KR.eqI
  | with_reducible apply KR.neI
  | with_reducible apply KR.test
  | with_reducible apply KR.tb'
  | with_reducible apply KR.exbl
  | with_reducible apply KR.and'
  | with_reducible apply KR.or'
  | with_reducible apply KR.not'
  | with_reducible apply KR.chain
  | with_reducible apply KR.call
  | with_reducible apply KR.callS
  | with_reducible apply KR.make
  | with_reducible apply KR.bm
  | with_reducible apply KR.errF
  | with_reducible apply KR.cons
  | with_reducible apply KR.nil
  | with_reducible apply KR.cb
  | with_reducible apply KR.cInt1
  | with_reducible apply KR.cI1
  | with_reducible apply KR.cI2
  | with_reducible apply KR.isi_ii
  | with_reducible apply KR.isi_ib
  | with_reducible apply KR.bits
  | with_reducible apply KR.exint
  | with_reducible apply KR.ifx
  | with_reducible refine KR.aug rfl ?_
  | with_reducible apply KR.ipI
  | with_reducible apply KR.for'
  | with_reducible apply KR.rng1
  | with_reducible apply KR.rng2
  | with_reducible apply KR.ilist
  | with_reducible apply KR.itup
  | with_reducible apply KR.iseq
  | with_reducible apply KR.gcd
  | with_reducible apply KR.tup
  | with_reducible apply KR.lst
  | with_reducible apply KR.andV
  | with_reducible apply KR.orV
  | with_reducible apply KR.notV
  | with_reducible apply KR.asgG
  | with_reducible apply KR.sub
  | with_reducible apply KR.fld
  | with_reducible apply KR.prop
  | with_reducible apply KR.meth
  | with_reducible apply KR.par
  | with_reducible apply KR.parN
  | with_reducible apply KR.raise1
  | with_reducible apply KR.raise0
  | with_reducible apply KR.exv
  | with_reducible apply KR.lc
  | with_reducible apply KR.ienT
  | with_reducible apply KR.sfld
  | with_reducible apply KR.sl
  | with_reducible apply KR.part
  | with_reducible apply KR.nopart
  | with_reducible apply KR.isNo
  | with_reducible refine KR.nnT ?_
  | with_reducible refine KR.niF ?_
  | with_reducible refine KR.nrF ?_
  | with_reducible refine KR.mnT ?_
  | with_reducible refine KR.miF ?_
  | with_reducible refine KR.mrF ?_))
structure EF (K : PySem.W.Frag) (A : Ad) (C : Addr) (s r p z : Bool) : Prop where
  ei : L2.ErrI K C
  ex : PySem.W.exmOne K (.ref C) (.ref A.a_PrimedeepError) = some true
  kv : PySem.W.kitOne K (.ref C) (.type "ValueError") = some true
  k1 : PySem.W.kitOne K (.ref C) (.ref A.a_SizeError) = some s
  k2 : PySem.W.kitOne K (.ref C) (.ref A.a_RangeError) = some r
  k3 : PySem.W.kitOne K (.ref C) (.ref A.a_PrimeError) = some p
  k4 : PySem.W.kitOne K (.ref C) (.ref A.a_DepthError) = some false
  k5 : PySem.W.kitOne K (.ref C) (.ref A.a_ZeroError) = some z
  k6 : PySem.W.kitOne K (.ref C) (.ref A.a_MixError) = some false
  k7 : PySem.W.kitOne K (.ref C) (.ref A.a_BarError) = some false
  k8 : PySem.W.kitOne K (.ref C) (.ref A.a_MonicError) = some false
  k9 : PySem.W.kitOne K (.ref C) (.ref A.a_RepeatError) = some false
  k10 : PySem.W.kitOne K (.ref C) (.ref A.a_FieldError) = some false
  k11 : PySem.W.kitOne K (.ref C) (.ref A.a_EditError) = some false
  k12 : PySem.W.kitOne K (.ref C) (.ref A.a_TextError) = some false
  k13 : PySem.W.kitOne K (.ref C) (.ref A.a_HistoryError) = some false
theorem Txt.efS {prog : Program} {K : PySem.W.Frag} {mg : Str → Option Value} {A : Ad} (T : Txt prog K mg A) : EF K A A.a_SizeError true false false false := ⟨T.ei_SizeError, T.ex_SizeError, T.kv_SizeError, T.kt_SizeError_SizeError, T.kt_SizeError_RangeError, T.kt_SizeError_PrimeError, T.kt_SizeError_DepthError, T.kt_SizeError_ZeroError, T.kt_SizeError_MixError, T.kt_SizeError_BarError, T.kt_SizeError_MonicError, T.kt_SizeError_RepeatError, T.kt_SizeError_FieldError, T.kt_SizeError_EditError, T.kt_SizeError_TextError, T.kt_SizeError_HistoryError⟩
theorem Txt.efR {prog : Program} {K : PySem.W.Frag} {mg : Str → Option Value} {A : Ad} (T : Txt prog K mg A) : EF K A A.a_RangeError false true false false := ⟨T.ei_RangeError, T.ex_RangeError, T.kv_RangeError, T.kt_RangeError_SizeError, T.kt_RangeError_RangeError, T.kt_RangeError_PrimeError, T.kt_RangeError_DepthError, T.kt_RangeError_ZeroError, T.kt_RangeError_MixError, T.kt_RangeError_BarError, T.kt_RangeError_MonicError, T.kt_RangeError_RepeatError, T.kt_RangeError_FieldError, T.kt_RangeError_EditError, T.kt_RangeError_TextError, T.kt_RangeError_HistoryError⟩
theorem Txt.efP {prog : Program} {K : PySem.W.Frag} {mg : Str → Option Value} {A : Ad} (T : Txt prog K mg A) : EF K A A.a_PrimeError false false true false := ⟨T.ei_PrimeError, T.ex_PrimeError, T.kv_PrimeError, T.kt_PrimeError_SizeError, T.kt_PrimeError_RangeError, T.kt_PrimeError_PrimeError, T.kt_PrimeError_DepthError, T.kt_PrimeError_ZeroError, T.kt_PrimeError_MixError, T.kt_PrimeError_BarError, T.kt_PrimeError_MonicError, T.kt_PrimeError_RepeatError, T.kt_PrimeError_FieldError, T.kt_PrimeError_EditError, T.kt_PrimeError_TextError, T.kt_PrimeError_HistoryError⟩
theorem Txt.efZ {prog : Program} {K : PySem.W.Frag} {mg : Str → Option Value} {A : Ad} (T : Txt prog K mg A) : EF K A A.a_ZeroError false false false true := ⟨T.ei_ZeroError, T.ex_ZeroError, T.kv_ZeroError, T.kt_ZeroError_SizeError, T.kt_ZeroError_RangeError, T.kt_ZeroError_PrimeError, T.kt_ZeroError_DepthError, T.kt_ZeroError_ZeroError, T.kt_ZeroError_MixError, T.kt_ZeroError_BarError, T.kt_ZeroError_MonicError, T.kt_ZeroError_RepeatError, T.kt_ZeroError_FieldError, T.kt_ZeroError_EditError, T.kt_ZeroError_TextError, T.kt_ZeroError_HistoryError⟩
theorem isE {K : PySem.W.Frag} {A : Ad} {C a : Addr} {s r p z : Bool} {d : Option Addr} {H : Hp} {Q : VK} (F : EF K A C s r p z) {c : V} {u : Value} {b : Bool} (hc : ClsV c u) (hk : PySem.W.kitOne K (.ref C) u = some b) (hd : ∀ dd, d = some dd → ∃ fs, H dd = some (.xd fs)) (q : Q (.bl b) H) :
    rIsErrE K a (.ref C) d [.ref a, c] H Q := ⟨C, c, u, b, rfl, rfl, F.ei, hc, hk, hd, q⟩
def rowV (tg : Str) : Option Int → List V
  | some v => [.str tg, .int v]
  | none => [.str tg]
inductive Ans4 (a m b n : Int) : Str → Option Int → Prop
  | rA : ¬ okL a → Ans4 a m b n "range" (some a)
  | rM : okL a → ¬ okE m → Ans4 a m b n "range" (some m)
  | rB : okL a → okE m → ¬ okL b → Ans4 a m b n "range" (some b)
  | rN : okL a → okE m → okL b → ¬ okE n → Ans4 a m b n "range" (some n)
  | z : okL a → okE m → okL b → okE n → (a = 0 ∨ b = 0) → Ans4 a m b n "zero" none
  | p {f : Int} : okL a → okE m → okL b → okE n → a ≠ 0 → b ≠ 0 → DivL [a, b] f → 97 < f → (∀ g, DivL [a, b] g → 97 < g → f ≤ g) → Ans4 a m b n "prime" (some f)
inductive Ans1 (xs : List Int) : Str → Option Int → Prop
  | size : ¬ (1 ≤ xs.length ∧ xs.length ≤ 8) → Ans1 xs "size" (some (xs.length : Nat))
  | rng (j : Nat) {x : Int} : 1 ≤ xs.length → xs.length ≤ 8 → xs[j]? = some x → (∀ i y, i < j → xs[i]? = some y → okL y) → ¬ okL x → Ans1 xs "range" (some x)
  | zer : 1 ≤ xs.length → xs.length ≤ 8 → (∀ x ∈ xs, okL x) → 0 ∈ xs → Ans1 xs "zero" none
  | prm {f : Int} : 1 ≤ xs.length → xs.length ≤ 8 → (∀ x ∈ xs, okL x) → 0 ∉ xs → DivL xs f → 97 < f → (∀ g, DivL xs g → 97 < g → f ≤ g) → Ans1 xs "prime" (some f)
def Ans (w : Str) (xs : List Int) (tag : Str) (v : Option Int) : Prop := (w = "primes" ∧ Ans1 xs tag v) ∨ ((w = "bars" ∨ w = "solution") ∧ ∃ a m b n : Int, xs = [a, m, b, n] ∧ Ans4 a m b n tag v)
section
variable {P : Program} {w : World} {K : PySem.W.Frag} {mg : Str → Option Value} {base : Heap} {A : Ad}
def sp_law_call (K : PySem.W.Frag) : Sp := fun vs H Q _ => ∃ (w : Str) (b : Bool) (N : Addr) (xs : List Int) (tag : Str) (v : Option Int), vs = [.str w, .ref N] ∧ SqA b K H N (xs.map V.int) ∧ (w ≠ "primes" → b = true) ∧ Ans w xs tag v ∧
  ∀ t H2, Evl.Ex H H2 → H2 t = some (.tup (rowV tag v)) → Q (.ref t) H2
theorem ok_law_call (T : Txt P K mg A) : FnOk P w K mg base CX0 9 A.a_law_call A.d_law_call ["word", "numbers"] (sp_law_call K) := by
  refine T.F_law_call.ok sc_law_call (fun vs H Q E h => ?_) (fun cdv Ar outer s H vs Q E hr h => ?_)
  · obtain ⟨_, _, _, _, _, _, rfl, _⟩ := h; rfl
  have nd := sc_law_call.nd
  obtain ⟨wd, bb, N, xs, tag, v, rfl, hN, hbb, hans, q⟩ := h
  refine ⟨_, (pss_one (L2N.ps_try_as (i := 4) (Wout := fun _ _ _ _ => False) rfl rfl nd rfl rfl ⟨rfl, by decide, Or.inl T.g_PrimedeepError⟩ takesN0 (fun W pn xe tk _ => (pss_cons (ps_if (by exact (pt_cmpR op_eq (pv 0) pe_str (nomark _))) (pss_one (ps_ret (by exact (pe_tup (pa_cons pe_str (pa_cons (pe_callS (ok_told_primes T) (hr.mono (by decide)) (by rfl) T.g_told_primes T.k_told_primes T.b_told_primes (fun σ => L2N.passAt tk σ) (pa_cons (pv 1) pa_nil)) pa_nil)))))) pss_nil)
    (pss_cons (ps_set (i := 2) nd rfl (.inl rfl) (by exact (pe_ix (KR.ix_listK (K := K) rfl) (pv 1) pe_int (fun _ _ => rfl))))
    (pss_cons (ps_set (i := 3) nd rfl (.inl rfl) (by exact (pe_ix (KR.ix_listK (K := K) rfl) (pv 1) pe_int (fun _ _ => rfl))))
    (pss_cons (ps_if (by exact (pt_cmpR op_eq (pv 0) pe_str (nomark _))) (pss_one (ps_ret (by exact (pe_tup (pa_cons pe_str (pa_cons (pe_callS (ok_two_term_bars T) (hr.mono (by decide)) (by rfl) T.g_two_term_bars T.k_two_term_bars T.b_two_term_bars (fun σ => L2N.passAt tk σ) (pa_cons (pv 2) (pa_cons (pe_ix (KR.ix_listK (K := K) rfl) (pv 1) pe_int (fun _ _ => rfl)) (pa_cons (pv 3) (pa_cons (pe_ix (KR.ix_listK (K := K) rfl) (pv 1) pe_int (fun _ _ => rfl)) pa_nil))))) pa_nil)))))) pss_nil)
    (pss_one (ps_ret (by exact (pe_tup (pa_cons pe_str (pa_cons (pe_callS (ok_two_term T) (hr.mono (by decide)) (by rfl) T.g_two_term T.k_two_term T.b_two_term (fun σ => L2N.passAt tk σ) (pa_cons (pv 2) (pa_cons (pe_ix (KR.ix_listK (K := K) rfl) (pv 1) pe_int (fun _ _ => rfl)) (pa_cons (pv 3) (pa_cons (pe_ix (KR.ix_listK (K := K) rfl) (pv 1) pe_int (fun _ _ => rfl)) pa_nil))))) pa_nil))))))))))) (fun a oe cls d pn hz hf => (pss_cons (ps_set (i := 5) nd rfl (.inl rfl) (by exact (pe_lst (pa_cons (pe_callB (call_isErrE hz hf) (by rfl) T.n_isinstance (by decide +kernel) (pa_cons (pv 4) (pa_cons (pe_glob (v := .ref A.a_SizeError) (by rfl) T.g_SizeError rfl) pa_nil))) (pa_cons (pe_callB (call_isErrE hz hf) (by rfl) T.n_isinstance (by decide +kernel) (pa_cons (pv 4) (pa_cons (pe_glob (v := .ref A.a_RangeError) (by rfl) T.g_RangeError rfl) pa_nil))) (pa_cons (pe_callB (call_isErrE hz hf) (by rfl) T.n_isinstance (by decide +kernel) (pa_cons (pv 4) (pa_cons (pe_glob (v := .ref A.a_PrimeError) (by rfl) T.g_PrimeError rfl) pa_nil))) pa_nil))))))
    (pss_cons (ps_set (i := 5) nd rfl (.inl rfl) (by exact (pe_op op_cat (pv 5) (pe_lst (pa_cons (pe_callB (call_isErrE hz hf) (by rfl) T.n_isinstance (by decide +kernel) (pa_cons (pv 4) (pa_cons (pe_glob (v := .ref A.a_DepthError) (by rfl) T.g_DepthError rfl) pa_nil))) (pa_cons (pe_callB (call_isErrE hz hf) (by rfl) T.n_isinstance (by decide +kernel) (pa_cons (pv 4) (pa_cons (pe_glob (v := .ref A.a_ZeroError) (by rfl) T.g_ZeroError rfl) pa_nil))) (pa_cons (pe_callB (call_isErrE hz hf) (by rfl) T.n_isinstance (by decide +kernel) (pa_cons (pv 4) (pa_cons (pe_glob (v := .ref A.a_MixError) (by rfl) T.g_MixError rfl) pa_nil))) pa_nil)))))))
    (pss_cons (ps_set (i := 5) nd rfl (.inl rfl) (by exact (pe_op op_cat (pv 5) (pe_lst (pa_cons (pe_callB (call_isErrE hz hf) (by rfl) T.n_isinstance (by decide +kernel) (pa_cons (pv 4) (pa_cons (pe_glob (v := .ref A.a_BarError) (by rfl) T.g_BarError rfl) pa_nil))) (pa_cons (pe_callB (call_isErrE hz hf) (by rfl) T.n_isinstance (by decide +kernel) (pa_cons (pv 4) (pa_cons (pe_glob (v := .ref A.a_MonicError) (by rfl) T.g_MonicError rfl) pa_nil))) (pa_cons (pe_callB (call_isErrE hz hf) (by rfl) T.n_isinstance (by decide +kernel) (pa_cons (pv 4) (pa_cons (pe_glob (v := .ref A.a_RepeatError) (by rfl) T.g_RepeatError rfl) pa_nil))) pa_nil)))))))
    (pss_cons (ps_set (i := 5) nd rfl (.inl rfl) (by exact (pe_op op_cat (pv 5) (pe_lst (pa_cons (pe_callB (call_isErrE hz hf) (by rfl) T.n_isinstance (by decide +kernel) (pa_cons (pv 4) (pa_cons (pe_glob (v := .ref A.a_FieldError) (by rfl) T.g_FieldError rfl) pa_nil))) (pa_cons (pe_callB (call_isErrE hz hf) (by rfl) T.n_isinstance (by decide +kernel) (pa_cons (pv 4) (pa_cons (pe_glob (v := .ref A.a_EditError) (by rfl) T.g_EditError rfl) pa_nil))) (pa_cons (pe_callB (call_isErrE hz hf) (by rfl) T.n_isinstance (by decide +kernel) (pa_cons (pv 4) (pa_cons (pe_glob (v := .ref A.a_TextError) (by rfl) T.g_TextError rfl) pa_nil))) pa_nil)))))))
    (pss_cons (ps_set (i := 5) nd rfl (.inl rfl) (by exact (pe_op op_cat (pv 5) (pe_lst (pa_cons (pe_callB (call_isErrE hz hf) (by rfl) T.n_isinstance (by decide +kernel) (pa_cons (pv 4) (pa_cons (pe_glob (v := .ref A.a_HistoryError) (by rfl) T.g_HistoryError rfl) pa_nil))) pa_nil)))))
    (pss_cons (ps_if (by exact (PW.pt (pw_or (pt_cmpR op_ne (KR.pe_bmK (K := K) rfl PySem.F.plainAttrs_list PySem.F.slot_list_count PySem.F.type_list_count (KR.mt_bcountK (K := K) rfl) (pv 5) (pa_cons pe_bl pa_nil)) pe_int (nomark _)) (pw_or1 (pt_not (pt_val (pe_callB (call_isErrE hz hf) (by rfl) T.n_isinstance (by decide +kernel) (pa_cons (pv 4) (pa_cons (pe_bltn (v := .ty "ValueError") (by rfl) T.n_ValueError (by decide +kernel) rfl) pa_nil))))))))) (pss_one ps_never) pss_nil)
    (pss_cons (ps_if (by exact (pt_val (pe_ix (KR.ix_listK (K := K) rfl) (pv 5) pe_int (fun _ _ => rfl)))) (pss_one (ps_ret (by exact (pe_tup (pa_cons pe_str (pa_cons (L2H.pe_callH (ok_law_numberH T) ((L2H.roomH_mark hr _).mono (by decide)) (hot_suite hz hf) (by rfl) T.g_law_number T.k_law_number T.b_law_number (fun _ => pass0At) (pa_cons (pe_errF T.e_SizeError.toErrC T.e_SizeError.noN hz.zc hf (pv 4)) pa_nil)) pa_nil)))))) pss_nil)
    (pss_cons (ps_if (by exact (pt_val (pe_ix (KR.ix_listK (K := K) rfl) (pv 5) pe_int (fun _ _ => rfl)))) (pss_one (ps_ret (by exact (pe_tup (pa_cons pe_str (pa_cons (L2H.pe_callH (ok_law_numberH T) ((L2H.roomH_mark hr _).mono (by decide)) (hot_suite hz hf) (by rfl) T.g_law_number T.k_law_number T.b_law_number (fun _ => pass0At) (pa_cons (pe_errF T.e_RangeError.toErrC T.e_RangeError.noN hz.zc hf (pv 4)) pa_nil)) pa_nil)))))) pss_nil)
    (pss_cons (ps_if (by exact (pt_val (pe_ix (KR.ix_listK (K := K) rfl) (pv 5) pe_int (fun _ _ => rfl)))) (pss_one (ps_ret (by exact (pe_tup (pa_cons pe_str (pa_cons (L2H.pe_callH (ok_law_numberH T) ((L2H.roomH_mark hr _).mono (by decide)) (hot_suite hz hf) (by rfl) T.g_law_number T.k_law_number T.b_law_number (fun _ => pass0At) (pa_cons (pe_errF T.e_PrimeError.toErrC T.e_PrimeError.noN hz.zc hf (pv 4)) pa_nil)) pa_nil)))))) pss_nil)
    (pss_cons (ps_if (by exact (pt_val (pe_ix (KR.ix_listK (K := K) rfl) (pv 5) pe_int (fun _ _ => rfl)))) (pss_one (ps_ret (by exact (pe_tup (pa_cons pe_str pa_nil))))) pss_nil)
    (pss_one ps_never)))))))))))))), ?_⟩
  dsimp only
  generalize hW : wAs _ _ _ _ _ _ = W
  have leaf : ∀ (σ0 : L2.St) (ea eb : Option V), σ0 = [some (.str wd), some (.ref N), ea, eb, none, none] → ∀ (C : Addr) (s r pp z : Bool) (d : Option Addr) (tg : Str) (v0 : Option Int) (H1 : Hp), EF K A C s r pp z → Evl.Ex H H1 →
      ((tg = "size" ∧ C = A.a_SizeError ∧ s = true ∧ r = false ∧ pp = false ∧ z = false ∧ ∃ dd v1, v0 = some v1 ∧ d = some dd ∧ H1 dd = some (.xd [(("count" : Str), .int v1)])) ∨
       (tg = "range" ∧ C = A.a_RangeError ∧ s = false ∧ r = true ∧ pp = false ∧ z = false ∧ ∃ dd v1, v0 = some v1 ∧ d = some dd ∧ H1 dd = some (.xd [(("number" : Str), .int v1)])) ∨
       (tg = "prime" ∧ C = A.a_PrimeError ∧ s = false ∧ r = false ∧ pp = true ∧ z = false ∧ ∃ dd v1, v0 = some v1 ∧ d = some dd ∧ H1 dd = some (.xd [(("number" : Str), .int v1)])) ∨
       (tg = "zero" ∧ C = A.a_ZeroError ∧ s = false ∧ r = false ∧ pp = false ∧ z = true ∧ v0 = none ∧ d = none)) →
      (∀ t H2, Evl.Ex H H2 → H2 t = some (.tup (rowV tg v0)) → Q (.ref t) H2) → WE W σ0 (.ref C) d H1 := by
    intro σ0 ea eb hσ C s r pp z d tg v0 H1 F x1 hC q
    subst hσ
    rw [← hW]
    refine ⟨true, F.ex, fun _ a ha => ?_, fun z => Bool.noConfusion z⟩
    clear hW hans hbb hN
    have dx : ∀ {H' : Hp}, Evl.Ex H1 H' → ∀ dd, d = some dd → ∃ fs, H' dd = some (.xd fs) := fun e dd hd => by
      rcases hC with ⟨_, _, _, _, _, _, d1, v1, _, hd1, hd2⟩ | ⟨_, _, _, _, _, _, d1, v1, _, hd1, hd2⟩ | ⟨_, _, _, _, _, _, d1, v1, _, hd1, hd2⟩ | ⟨_, _, _, _, _, _, _, hd1⟩
      · rw [hd1] at hd; cases hd; exact ⟨_, e _ _ hd2⟩
      · rw [hd1] at hd; cases hd; exact ⟨_, e _ _ hd2⟩
      · rw [hd1] at hd; cases hd; exact ⟨_, e _ _ hd2⟩
      · rw [hd1] at hd; cases hd
    have hdd := dx (Evl.Ex.refl H1)
    walk_at "rd"
    refine isE F (.own _) F.k1 hdd ?_
    walk_at "rd"
    refine isE F (.own _) F.k2 hdd ?_
    walk_at "rd"
    refine isE F (.own _) F.k3 hdd ?_
    walk_at "rd"
    refine ⟨by show (3 : Nat) ≤ sizeLine; decide, fun b1 hb1 => ?_⟩
    generalize q1 : upd H1 b1 _ = H2
    have y1 : Evl.Ex H1 H2 := by rw [← q1]; exact Evl.Ex.new hb1
    have l1 : H2 b1 = some (.lst ([s, r, pp].map V.bl)) := by rw [← q1]; exact upd_same
    clear q1
    replace hdd := dx y1
    walk_at "rd"
    refine isE F (.own _) F.k4 hdd ?_
    walk_at "rd"
    refine isE F (.own _) F.k5 hdd ?_
    walk_at "rd"
    refine isE F (.own _) F.k6 hdd ?_
    walk_at "rd"
    refine ⟨by show (3 : Nat) ≤ sizeLine; decide, fun c2 hc2 => ?_⟩
    generalize p2 : upd H2 c2 _ = G2
    have f2 : Evl.Ex H2 G2 := by rw [← p2]; exact Evl.Ex.new hc2
    have m2 : G2 c2 = some (.lst ([false, z, false].map V.bl)) := by rw [← p2]; exact upd_same
    clear p2
    refine ⟨b1, c2, _, _, rfl, rfl, f2 _ _ l1, m2, by show (6 : Nat) ≤ sizeLine; decide, fun b2 hb2 => ?_⟩
    generalize q2 : upd G2 b2 _ = H3
    have e2 : Evl.Ex G2 H3 := by rw [← q2]; exact Evl.Ex.new hb2
    have l2 : H3 b2 = some (.lst ([s, r, pp, false, z, false].map V.bl)) := by rw [← q2]; exact upd_same
    clear q2
    have y2 := y1.trans (f2.trans e2)
    replace hdd := dx y2
    walk_at "rd"
    refine isE F (.own _) F.k7 hdd ?_
    walk_at "rd"
    refine isE F (.own _) F.k8 hdd ?_
    walk_at "rd"
    refine isE F (.own _) F.k9 hdd ?_
    walk_at "rd"
    refine ⟨by show (3 : Nat) ≤ sizeLine; decide, fun c3 hc3 => ?_⟩
    generalize p3 : upd H3 c3 _ = G3
    have f3 : Evl.Ex H3 G3 := by rw [← p3]; exact Evl.Ex.new hc3
    have m3 : G3 c3 = some (.lst ([false, false, false].map V.bl)) := by rw [← p3]; exact upd_same
    clear p3
    refine ⟨b2, c3, _, _, rfl, rfl, f3 _ _ l2, m3, by show (9 : Nat) ≤ sizeLine; decide, fun b3 hb3 => ?_⟩
    generalize q3 : upd G3 b3 _ = H4
    have e3 : Evl.Ex G3 H4 := by rw [← q3]; exact Evl.Ex.new hb3
    have l3 : H4 b3 = some (.lst ([s, r, pp, false, z, false, false, false, false].map V.bl)) := by rw [← q3]; exact upd_same
    clear q3
    have y3 := y2.trans (f3.trans e3)
    replace hdd := dx y3
    walk_at "rd"
    refine isE F (.own _) F.k10 hdd ?_
    walk_at "rd"
    refine isE F (.own _) F.k11 hdd ?_
    walk_at "rd"
    refine isE F (.own _) F.k12 hdd ?_
    walk_at "rd"
    refine ⟨by show (3 : Nat) ≤ sizeLine; decide, fun c4 hc4 => ?_⟩
    generalize p4 : upd H4 c4 _ = G4
    have f4 : Evl.Ex H4 G4 := by rw [← p4]; exact Evl.Ex.new hc4
    have m4 : G4 c4 = some (.lst ([false, false, false].map V.bl)) := by rw [← p4]; exact upd_same
    clear p4
    refine ⟨b3, c4, _, _, rfl, rfl, f4 _ _ l3, m4, by show (12 : Nat) ≤ sizeLine; decide, fun b4 hb4 => ?_⟩
    generalize q4 : upd G4 b4 _ = H5
    have e4 : Evl.Ex G4 H5 := by rw [← q4]; exact Evl.Ex.new hb4
    have l4 : H5 b4 = some (.lst ([s, r, pp, false, z, false, false, false, false, false, false, false].map V.bl)) := by rw [← q4]; exact upd_same
    clear q4
    have y4 := y3.trans (f4.trans e4)
    replace hdd := dx y4
    walk_at "rd"
    refine isE F (.own _) F.k13 hdd ?_
    walk_at "rd"
    refine ⟨by show (1 : Nat) ≤ sizeLine; decide, fun c5 hc5 => ?_⟩
    generalize p5 : upd H5 c5 _ = G5
    have f5 : Evl.Ex H5 G5 := by rw [← p5]; exact Evl.Ex.new hc5
    have m5 : G5 c5 = some (.lst ([false].map V.bl)) := by rw [← p5]; exact upd_same
    clear p5
    refine ⟨b4, c5, _, _, rfl, rfl, f5 _ _ l4, m5, by show (13 : Nat) ≤ sizeLine; decide, fun b5 hb5 => ?_⟩
    generalize q5 : upd G5 b5 _ = H6
    have e5 : Evl.Ex G5 H6 := by rw [← q5]; exact Evl.Ex.new hb5
    have l5 : H6 b5 = some (.lst ([s, r, pp, false, z, false, false, false, false, false, false, false, false].map V.bl)) := by rw [← q5]; exact upd_same
    clear q5
    have y5 := y4.trans (f5.trans e5)
    replace hdd := dx y5
    walk_at "rd"
    have lsq : SqL K H6 b5 ([s, r, pp, false, z, false, false, false, false, false, false, false, false].map V.bl) := .inl (.inl l5)
    have xx := x1.trans y5
    clear f2 e2 f3 e3 f4 e4 f5 e5 l1 l2 l3 l4 l5 m2 m3 m4 m5 y1 y2 y3 y4 x1
    refine ⟨.inl ⟨rfl, _, lsq⟩, ?_⟩
    walk_at "rd"
    refine KR.bcount lsq ?_
    walk_at "rd"
    rcases hC with ⟨rfl, rfl, rfl, rfl, rfl, rfl, d1, v1, rfl, rfl, hx⟩ | ⟨rfl, rfl, rfl, rfl, rfl, rfl, d1, v1, rfl, rfl, hx⟩ | ⟨rfl, rfl, rfl, rfl, rfl, rfl, d1, v1, rfl, rfl, hx⟩ | ⟨rfl, rfl, rfl, rfl, rfl, rfl, rfl, rfl⟩
    · have hx7 := y5 _ _ hx
      refine KR.iteND (fun z => absurd (by decide) z) (fun _ => ?_)
      walk_at "rd"
      refine isE F (.ty _) F.kv hdd ?_
      walk_at "rd"
      refine KR.ixL lsq (atI_nat (j := 0) (v := .bl true) rfl) ?_
      walk_at "rd"
      refine ⟨rfl, _, .int v1, hx7, rfl, ?_⟩
      walk_at "rd"
      refine ⟨v1, rfl, ?_⟩
      walk_at "rd"
      exact ⟨by show (2 : Nat) ≤ sizeLine; decide, fun t ht => q t _ (xx.trans (Evl.Ex.new ht)) upd_same⟩
    · have hx7 := y5 _ _ hx
      refine KR.iteND (fun z => absurd (by decide) z) (fun _ => ?_)
      walk_at "rd"
      refine isE F (.ty _) F.kv hdd ?_
      walk_at "rd"
      refine KR.ixL lsq (atI_nat (j := 0) (v := .bl false) rfl) ?_
      walk_at "rd"
      refine KR.ixL lsq (atI_nat (j := 1) (v := .bl true) rfl) ?_
      walk_at "rd"
      refine ⟨rfl, _, .int v1, hx7, rfl, ?_⟩
      walk_at "rd"
      refine ⟨v1, rfl, ?_⟩
      walk_at "rd"
      exact ⟨by show (2 : Nat) ≤ sizeLine; decide, fun t ht => q t _ (xx.trans (Evl.Ex.new ht)) upd_same⟩
    · have hx7 := y5 _ _ hx
      refine KR.iteND (fun z => absurd (by decide) z) (fun _ => ?_)
      walk_at "rd"
      refine isE F (.ty _) F.kv hdd ?_
      walk_at "rd"
      refine KR.ixL lsq (atI_nat (j := 0) (v := .bl false) rfl) ?_
      walk_at "rd"
      refine KR.ixL lsq (atI_nat (j := 1) (v := .bl false) rfl) ?_
      walk_at "rd"
      refine KR.ixL lsq (atI_nat (j := 2) (v := .bl true) rfl) ?_
      walk_at "rd"
      refine ⟨rfl, _, .int v1, hx7, rfl, ?_⟩
      walk_at "rd"
      refine ⟨v1, rfl, ?_⟩
      walk_at "rd"
      exact ⟨by show (2 : Nat) ≤ sizeLine; decide, fun t ht => q t _ (xx.trans (Evl.Ex.new ht)) upd_same⟩
    · refine KR.iteND (fun z => absurd (by decide) z) (fun _ => ?_)
      walk_at "rd"
      refine isE F (.ty _) F.kv hdd ?_
      walk_at "rd"
      refine KR.ixL lsq (atI_nat (j := 0) (v := .bl false) rfl) ?_
      walk_at "rd"
      refine KR.ixL lsq (atI_nat (j := 1) (v := .bl false) rfl) ?_
      walk_at "rd"
      refine KR.ixL lsq (atI_nat (j := 2) (v := .bl false) rfl) ?_
      walk_at "rd"
      refine KR.ixL lsq (atI_nat (j := 4) (v := .bl true) rfl) ?_
      walk_at "rd"
      exact ⟨by show (1 : Nat) ≤ sizeLine; decide, fun t ht => q t _ (xx.trans (Evl.Ex.new ht)) upd_same⟩
  clear hW
  have lS : ∀ σ0 ea eb, σ0 = [some (.str wd), some (.ref N), ea, eb, none, none] → ∀ v0 H1, Evl.Ex H H1 → (∀ t H2, Evl.Ex H H2 → H2 t = some (.tup (rowV "size" (some v0))) → Q (.ref t) H2) → errF "count" A.a_SizeError (WE W σ0) H1 v0 :=
    fun σ0 ea eb hσ v0 H1 x1 q d hd => leaf σ0 ea eb hσ _ _ _ _ _ _ "size" (some v0) _ T.efS (x1.trans (Evl.Ex.new hd)) (.inl ⟨rfl, rfl, rfl, rfl, rfl, rfl, d, v0, rfl, rfl, upd_same⟩) q
  have lR : ∀ σ0 ea eb, σ0 = [some (.str wd), some (.ref N), ea, eb, none, none] → ∀ v0 H1, Evl.Ex H H1 → (∀ t H2, Evl.Ex H H2 → H2 t = some (.tup (rowV "range" (some v0))) → Q (.ref t) H2) → errD A.a_RangeError (WE W σ0) H1 v0 :=
    fun σ0 ea eb hσ v0 H1 x1 q d hd => leaf σ0 ea eb hσ _ _ _ _ _ _ "range" (some v0) _ T.efR (x1.trans (Evl.Ex.new hd)) (.inr (.inl ⟨rfl, rfl, rfl, rfl, rfl, rfl, d, v0, rfl, rfl, upd_same⟩)) q
  have lP : ∀ σ0 ea eb, σ0 = [some (.str wd), some (.ref N), ea, eb, none, none] → ∀ v0 H1, Evl.Ex H H1 → (∀ t H2, Evl.Ex H H2 → H2 t = some (.tup (rowV "prime" (some v0))) → Q (.ref t) H2) → errD A.a_PrimeError (WE W σ0) H1 v0 :=
    fun σ0 ea eb hσ v0 H1 x1 q d hd => leaf σ0 ea eb hσ _ _ _ _ _ _ "prime" (some v0) _ T.efP (x1.trans (Evl.Ex.new hd)) (.inr (.inr (.inl ⟨rfl, rfl, rfl, rfl, rfl, rfl, d, v0, rfl, rfl, upd_same⟩))) q
  have lZ : ∀ σ0 ea eb, σ0 = [some (.str wd), some (.ref N), ea, eb, none, none] → ∀ H1, Evl.Ex H H1 → (∀ t H2, Evl.Ex H H2 → H2 t = some (.tup (rowV "zero" none)) → Q (.ref t) H2) → WE W σ0 (.ref A.a_ZeroError) none H1 :=
    fun σ0 ea eb hσ H1 x1 q => leaf σ0 ea eb hσ _ _ _ _ _ _ "zero" none _ T.efZ x1 (.inr (.inr (.inr ⟨rfl, rfl, rfl, rfl, rfl, rfl, rfl, rfl⟩))) q
  clear leaf
  have xr := Evl.Ex.refl H
  rcases hans with ⟨rfl, hans⟩ | ⟨hw, a, m, b, n, rfl, hans⟩
  · walk_at "rd"
    refine KR.eqS rfl ?_
    walk_at "rd"
    refine KR.iteDT rfl ?_
    walk_at "rd"
    refine ⟨bb, N, xs, rfl, hN, ?_⟩
    cases hans with
    | size h => exact ⟨fun _ => lS _ _ _ rfl _ H xr q, fun h1 h2 => absurd ⟨h1, h2⟩ h⟩
    | rng j h1 h2 hx hall hbad =>
      refine ⟨fun z => absurd ⟨h1, h2⟩ z, fun _ _ => ⟨fun j' x' hx' hall' hbad' => ?_, fun hok => absurd (hok _ (List.mem_of_getElem? hx)) hbad⟩⟩
      have hjj : j' = j := by
        rcases Nat.lt_trichotomy j' j with c | c | c
        · exact absurd (hall _ _ c hx') hbad'
        · exact c
        · exact absurd (hall' _ _ c hx) hbad
      rw [hjj, hx] at hx'
      rw [← Option.some.inj hx']
      exact lR _ _ _ rfl _ H xr q
    | zer h1 h2 hok h0 => exact ⟨fun z => absurd ⟨h1, h2⟩ z, fun _ _ => ⟨fun j x hx _ hb => absurd (hok x (List.mem_of_getElem? hx)) hb, fun _ => ⟨fun _ => lZ _ _ _ rfl H xr q, fun z => absurd h0 z⟩⟩⟩
    | prm h1 h2 hok h0 hf h97 hmin =>
      rename_i f
      refine ⟨fun z => absurd ⟨h1, h2⟩ z, fun _ _ => ⟨fun j x hx _ hb => absurd (hok x (List.mem_of_getElem? hx)) hb, fun _ => ⟨fun z => absurd z h0, fun _ => ⟨fun g hg hg97 hgm H2 x2 => ?_, fun hle => absurd (hle f hf) (by omega)⟩⟩⟩⟩
      have e1 := hmin g hg hg97
      have e2 := hgm f hf h97
      have e : g = f := by omega
      rw [e]
      exact lP _ _ _ rfl f H2 x2 q
  · have hb1 : bb = true := hbb fun z => by
      rcases hw with h | h
      · exact absurd (h.symm.trans z) (by decide)
      · exact absurd (h.symm.trans z) (by decide)
    subst hb1
    have sL : SqL K H N (([a, m, b, n] : List Int).map V.int) := hN
    walk_at "rd"
    refine KR.eqS rfl ?_
    walk_at "rd"
    refine KR.iteDF (fun z => ?_) ?_
    · injection z with z
      rcases hw with h | h
      · exact absurd (h.symm.trans z) (by decide)
      · exact absurd (h.symm.trans z) (by decide)
    walk_at "rd"
    refine KR.ixL sL (atI_nat (j := 0) (v := .int a) rfl) ?_
    walk_at "rd"
    refine KR.ixL sL (atI_nat (j := 2) (v := .int b) rfl) ?_
    walk_at "rd"
    refine KR.eqS rfl ?_
    walk_at "rd"
    refine KR.iteD (fun z => ?_) (fun z => ?_)
    · walk_at "rd"
      refine KR.ixL sL (atI_nat (j := 1) (v := .int m) rfl) ?_
      walk_at "rd"
      refine KR.ixL sL (atI_nat (j := 3) (v := .int n) rfl) ?_
      walk_at "rd"
      refine ⟨a, m, b, n, rfl, ?_⟩
      cases hans with
      | rA h1 => exact ⟨fun _ => lR _ _ _ rfl _ H xr q, fun z => absurd z h1⟩
      | rM h1 h2 => exact ⟨fun z => absurd h1 z, fun _ => ⟨fun _ => lR _ _ _ rfl _ H xr q, fun z => absurd z h2⟩⟩
      | rB h1 h2 h3 => exact ⟨fun z => absurd h1 z, fun _ => ⟨fun z => absurd h2 z, fun _ => ⟨fun _ => lR _ _ _ rfl _ H xr q, fun z => absurd z h3⟩⟩⟩
      | rN h1 h2 h3 h4 => exact ⟨fun z => absurd h1 z, fun _ => ⟨fun z => absurd h2 z, fun _ => ⟨fun z => absurd h3 z, fun _ => ⟨fun _ => lR _ _ _ rfl _ H xr q, fun z => absurd z h4⟩⟩⟩⟩
      | z h1 h2 h3 h4 h5 => exact ⟨fun z => absurd h1 z, fun _ => ⟨fun z => absurd h2 z, fun _ => ⟨fun z => absurd h3 z, fun _ => ⟨fun z => absurd h4 z, fun _ => ⟨fun _ H2 x2 => lZ _ _ _ rfl H2 x2 q, fun a0 b0 => (h5.elim a0 b0).elim⟩⟩⟩⟩⟩
      | p h1 h2 h3 h4 a0 b0 hf h97 hmin =>
        rename_i f
        refine ⟨fun z => absurd h1 z, fun _ => ⟨fun z => absurd h2 z, fun _ => ⟨fun z => absurd h3 z, fun _ => ⟨fun z => absurd h4 z, fun _ => ⟨fun z => (z.elim a0 b0).elim, fun _ _ => ⟨fun g hg hg97 hgm H2 x2 => ?_, fun hle => absurd (hle f hf) (by omega)⟩⟩⟩⟩⟩⟩
        have e1 := hmin g hg hg97
        have e2 := hgm f hf h97
        have e : g = f := by omega
        rw [e]
        exact lP _ _ _ rfl f H2 x2 q
    · walk_at "rd"
      refine KR.ixL sL (atI_nat (j := 1) (v := .int m) rfl) ?_
      walk_at "rd"
      refine KR.ixL sL (atI_nat (j := 3) (v := .int n) rfl) ?_
      walk_at "rd"
      refine ⟨a, m, b, n, rfl, ?_⟩
      cases hans with
      | rA h1 => exact ⟨fun _ => lR _ _ _ rfl _ H xr q, fun z => absurd z h1⟩
      | rM h1 h2 => exact ⟨fun z => absurd h1 z, fun _ => ⟨fun _ => lR _ _ _ rfl _ H xr q, fun z => absurd z h2⟩⟩
      | rB h1 h2 h3 => exact ⟨fun z => absurd h1 z, fun _ => ⟨fun z => absurd h2 z, fun _ => ⟨fun _ => lR _ _ _ rfl _ H xr q, fun z => absurd z h3⟩⟩⟩
      | rN h1 h2 h3 h4 => exact ⟨fun z => absurd h1 z, fun _ => ⟨fun z => absurd h2 z, fun _ => ⟨fun z => absurd h3 z, fun _ => ⟨fun _ => lR _ _ _ rfl _ H xr q, fun z => absurd z h4⟩⟩⟩⟩
      | z h1 h2 h3 h4 h5 => exact ⟨fun z => absurd h1 z, fun _ => ⟨fun z => absurd h2 z, fun _ => ⟨fun z => absurd h3 z, fun _ => ⟨fun z => absurd h4 z, fun _ => ⟨fun _ H2 x2 => lZ _ _ _ rfl H2 x2 q, fun a0 b0 => (h5.elim a0 b0).elim⟩⟩⟩⟩⟩
      | p h1 h2 h3 h4 a0 b0 hf h97 hmin =>
        rename_i f
        refine ⟨fun z => absurd h1 z, fun _ => ⟨fun z => absurd h2 z, fun _ => ⟨fun z => absurd h3 z, fun _ => ⟨fun z => absurd h4 z, fun _ => ⟨fun z => (z.elim a0 b0).elim, fun _ _ => ⟨fun g hg hg97 hgm H2 x2 => ?_, fun hle => absurd (hle f hf) (by omega)⟩⟩⟩⟩⟩⟩
        have e1 := hmin g hg hg97
        have e2 := hgm f hf h97
        have e : g = f := by omega
        rw [e]
        exact lP _ _ _ rfl f H2 x2 q
end
end K9
namespace K9
open PySem PySem.Spec PyProof.Rows L2 K7
local macro_rules | `(tactic| walk_at "rc") => `(tactic| first
  | assumption
  | (show (0 : Int) < _; omega)
  | (show (0 : Int) < _ ∧ _ < (1073741824 : Int); exact ⟨by omega, by omega⟩)
  | (show (-(2 ^ 64 : Int) < _ ∧ _ < (2 ^ 64 : Int)) ∨ _; exact .inl ⟨by omega, by omega⟩)
  | (show _ ∨ (-(2 ^ 64 : Int) < _ ∧ _ < (2 ^ 64 : Int)); exact .inr ⟨by omega, by omega⟩)
  | (show (0 : Int) ≤ _ ∧ _ ≤ (1000000 : Int) ∧ _ < 2 ^ 64; exact ⟨by decide, by decide, by decide⟩))
local macro_rules | `(tactic| walk_at "rd") => `(tactic| repeat (first
  | with_reducible apply KR.seq
  | with_reducible apply KR.asg
  | with_reducible apply KR.drop
  | with_reducible apply KR.ret
  | with_reducible apply KR.retN
  | with_reducible apply KR.next
  | with_reducible apply KR.ifs
  | with_reducible refine KR.var rfl ?_
  | with_reducible refine L2.iteT ?_
  | with_reducible refine L2.iteF ?_
  | with_reducible refine KR.iteNF ?_
  | with_reducible refine KR.iteNT ?_
  | with_reducible apply KR.con
  | with_reducible apply KR.op
  | with_reducible apply KR.opI0
  | ((with_reducible refine KR.opI ?rc ?_); (case rc => walk_at "rc"))
  | with_reducible apply KR.un
  | with_reducible apply KR.unI
  | with_reducible apply KR.eqI
  | with_reducible apply KR.neI
  | with_reducible apply KR.test
  | with_reducible apply KR.tb'
  | with_reducible apply KR.exbl
  | with_reducible apply KR.and'
  | with_reducible apply KR.or'
  | with_reducible apply KR.not'
  | with_reducible apply KR.chain
  | with_reducible apply KR.call
  | with_reducible apply KR.callS
  | with_reducible apply KR.make
  | with_reducible apply KR.bm
  | with_reducible apply KR.errF
  | with_reducible apply KR.cons
  | with_reducible apply KR.nil
  | with_reducible apply KR.cb
  | with_reducible apply KR.cInt1
  | with_reducible apply KR.cI1
  | with_reducible apply KR.cI2
  | with_reducible apply KR.isi_ii
  | with_reducible apply KR.isi_ib
  | with_reducible apply KR.bits
  | with_reducible apply KR.exint
  | with_reducible apply KR.ifx
  | with_reducible refine KR.aug rfl ?_
  | with_reducible apply KR.ipI
  | with_reducible apply KR.for'
  | with_reducible apply KR.rng1
  | with_reducible apply KR.rng2
  | with_reducible apply KR.ilist
  | with_reducible apply KR.itup
  | with_reducible apply KR.iseq
  | with_reducible apply KR.gcd
  | with_reducible apply KR.tup
  | with_reducible apply KR.lst
  | with_reducible apply KR.andV
  | with_reducible apply KR.orV
  | with_reducible apply KR.notV
  | with_reducible apply KR.asgG
  | with_reducible apply KR.sub
  | with_reducible apply KR.fld
  | with_reducible apply KR.prop
  | with_reducible apply KR.meth
  | with_reducible apply KR.par
  | with_reducible apply KR.parN
  | with_reducible apply KR.raise1
  | with_reducible apply KR.raise0
  | with_reducible apply KR.exv
  | with_reducible apply KR.lc
  | with_reducible apply KR.ienT
  | with_reducible apply KR.sfld
  | with_reducible apply KR.sl
  | with_reducible apply KR.part
  | with_reducible apply KR.nopart
  | with_reducible apply KR.isNo
  | with_reducible refine KR.nnT ?_
  | with_reducible refine KR.niF ?_
  | with_reducible refine KR.nrF ?_
  | with_reducible refine KR.mnT ?_
  | with_reducible refine KR.miF ?_
  | with_reducible refine KR.mrF ?_))
theorem neTT {x : Bool} {H : Hp} {Q : VK} (h : Q (.bl false) H) : rNe (.bl x) (.bl x) H Q := KR.neS rfl (by
  rw [neBl]
  cases x <;> exact h)
section
variable {P : Program} {w : World} {K : PySem.W.Frag} {mg : Str → Option Value} {base : Heap} {A : Ad}
def sp_law_alike (K : PySem.W.Frag) : Sp := fun vs H Q _ => ∃ (T D : Addr) (xs : List Int), vs = [.ref T, .ref D] ∧ H T = some (.lst (xs.map V.int)) ∧ H D = some (.lst (xs.map V.int)) ∧ xs.length ≤ 1000 ∧ ∀ H2, Evl.Ex H H2 → Q (.bl true) H2
theorem ok_law_alike (T : Txt P K mg A) : FnOk P w K mg base CX0 2 A.a_law_alike A.d_law_alike ["told", "due"] (sp_law_alike K) := by
  refine T.F_law_alike.ok sc_law_alike (fun vs H Q E h => ?_) (fun cdv Ar outer s H vs Q E hr h => ?_)
  · obtain ⟨_, _, _, rfl, _⟩ := h; rfl
  have nd := sc_law_alike.nd
  obtain ⟨L, D, xs, rfl, hT, hD, hl, q⟩ := h
  refine ⟨_, (pss_cons (ps_if (pt_cmpR op_ne (pe_callB call_isi (by rfl) T.n_isinstance (by decide +kernel) (pa_cons (pv 0) (pa_cons (pe_bltn (v := .ty "list") (by rfl) T.n_list (by decide +kernel) rfl) pa_nil))) (pe_callB call_isi (by rfl) T.n_isinstance (by decide +kernel) (pa_cons (pv 1) (pa_cons (pe_bltn (v := .ty "list") (by rfl) T.n_list (by decide +kernel) rfl) pa_nil))) (nomark _)) (pss_one (ps_ret pe_bl)) pss_nil)
    (pss_cons (ps_if (pt_cmpR op_ne (pe_callB call_isi (by rfl) T.n_isinstance (by decide +kernel) (pa_cons (pv 0) (pa_cons (pe_bltn (v := .ty "tuple") (by rfl) T.n_tuple (by decide +kernel) rfl) pa_nil))) (pe_callB call_isi (by rfl) T.n_isinstance (by decide +kernel) (pa_cons (pv 1) (pa_cons (pe_bltn (v := .ty "tuple") (by rfl) T.n_tuple (by decide +kernel) rfl) pa_nil))) (nomark _)) (pss_one (ps_ret pe_bl)) pss_nil)
    (pss_cons (ps_if (pt_cmpR op_ne (pe_callB call_len_seq (by rfl) T.n_len PySem.boot_len (pa_cons (pv 0) pa_nil)) (pe_callB call_len_seq (by rfl) T.n_len PySem.boot_len (pa_cons (pv 1) pa_nil)) (nomark _)) (pss_one (ps_ret pe_bl)) pss_nil)
    (pss_one (ps_ret (pe_callB (cr_all rfl) (by rfl) T.n_all (by decide +kernel) (pa_cons (pe_lc (own := [("k", 2)]) (g := gName 2) (tt := tYes) rfl nd (pi_range1 (by rfl) T.n_range (pa_cons (pe_callB call_len_seq (by rfl) T.n_len PySem.boot_len (pa_cons (pv 1) pa_nil)) pa_nil)) (blkOk_by (own := [("k", 2)]) (N := ["told", "due", "k"]) (sc := defScope s_law_alike) (by decide +kernel)) (fun _ _ _ _ _ => pg_name (i := 2) nd rfl (Or.inl rfl)) (fun _ _ _ _ _ => pts_nil) (fun _ _ _ _ _ => (pe_call (ok_law_is T) (hr.mono (by decide)) (by rfl) T.g_law_is T.k_law_is T.b_law_is .nil pass0 (pa_cons (pe_ix (KR.ix_listK (K := K) rfl) (pv 0) (pv 2) (fun _ _ => rfl)) (pa_cons (pe_ix (KR.ix_listK (K := K) rfl) (pv 1) (pv 2) (fun _ _ => rfl)) pa_nil))))) pa_nil))))))), ?_⟩
  walk_at "rd"
  refine KR.isi_ll hT ?_
  walk_at "rd"
  refine KR.isi_ll hD ?_
  refine neTT ?_
  walk_at "rd"
  refine KR.isi_lt hT ?_
  walk_at "rd"
  refine KR.isi_lt hD ?_
  refine neTT ?_
  walk_at "rd"
  refine ⟨L, _, rfl, .inl (.inl (.inl hT)), ?_⟩
  rw [List.length_map]
  walk_at "rd"
  refine ⟨D, _, rfl, .inl (.inl (.inl hD)), ?_⟩
  rw [List.length_map]
  walk_at "rd"
  refine KR.iteND (fun z => absurd rfl z) (fun _ => ?_)
  walk_at "rd"
  refine ⟨D, _, rfl, .inl (.inl (.inl hD)), ?_⟩
  rw [List.length_map]
  have at_k : ∀ (k : Nat), k < xs.length → atI (xs.map V.int) (k : Int) = some (V.int (xs.getD k 0)) := fun k hk => atI_nat (j := k) (by
    rw [List.getElem?_map, List.getD_eq_getElem?_getD, List.getElem?_eq_getElem hk]
    rfl)
  walk_at "rd"
  refine KR.lrngI xs.length rfl (by omega) (KR.lwR (a := 0) (n := xs.length) (fun _ => true) (fun _ => .bl true) (by omega) (fun _ => rfl) (fun _ _ _ _ _ => KR.etYes) ?_ ?_)
  · intro k H2 e2 _ hk _ H3 e3 Q' q'
    walk_at "rd"
    refine KR.ixL (.inl (.inl ((e2.trans e3) _ _ hT))) (at_k k hk) ?_
    walk_at "rd"
    refine KR.ixL (.inl (.inl ((e2.trans e3) _ _ hD))) (at_k k hk) ?_
    refine ⟨_, _, rfl, ?_⟩
    rw [decide_eq_true rfl]
    exact q' H3 (Evl.Ex.refl H3)
  intro b H0 hb e0 hv
  rw [Nat.sub_zero, KR.giv_all _ (fun _ => rfl)] at hv
  have ev : (List.range xs.length).map (fun _ => V.bl true) = (List.replicate xs.length true).map V.bl := by
    rw [List.map_replicate, List.map_const', List.length_range]
  rw [ev] at hv
  walk_at "rd"
  refine ⟨b, List.replicate xs.length true, rfl, .inl (.inl hv), ?_⟩
  have hall : (List.replicate xs.length true).all id = true := by
    rw [List.all_eq_true]
    intro x hx
    exact List.eq_of_mem_replicate hx
  rw [hall]
  exact q H0 e0
def sp_law_solves (A : Ad) : Sp := fun vs H Q _ => ∃ (t r1 r2 : Addr) (a b x1 x2 y1 y2 : Int) (m n : Nat), vs = [.ref t, .int a, .int m, .int b, .int n] ∧ H t = some (.tup [.ref r1, .ref r2]) ∧ RatAt A H r1 x1 x2 ∧ RatAt A H r2 y1 y2 ∧ Low1 x1 x2 ∧ Low1 y1 y2 ∧ x1 ≠ 0 ∧ y1 ≠ 0 ∧
  x1.natAbs < 2 ^ 400 ∧ x2.natAbs < 2 ^ 400 ∧ y1.natAbs < 2 ^ 400 ∧ y2.natAbs < 2 ^ 400 ∧ okL a ∧ okL b ∧ m ≤ 12 ∧ n ≤ 12 ∧ a * x1 ^ m * y2 ^ n = b * y1 ^ n * x2 ^ m ∧ Q (.bl true) H
theorem ok_law_solves (T : Txt P K mg A) : FnOk P w K mg base CX0 2 A.a_law_solves A.d_law_solves ["told", "a", "m", "b", "n"] (sp_law_solves A) := by
  refine T.F_law_solves.ok sc_law_solves (fun vs H Q E h => ?_) (fun cdv Ar outer s H vs Q E hr h => ?_)
  · obtain ⟨_, _, _, _, _, _, _, _, _, _, _, rfl, _⟩ := h; rfl
  have nd := sc_law_solves.nd
  obtain ⟨t, r1, r2, a, b, x1, x2, y1, y2, m, n, rfl, ht, hR1, hR2, hl1, hl2, hx1, hy1, bx1, bx2, by1, by2, ha, hb, hm, hn, heq, q⟩ := h
  have sT : SqT K H t [.ref r1, .ref r2] := .inl (.inl ht)
  have up : ∀ {z : Int}, z.natAbs < 2 ^ 400 → z.natAbs < 2 ^ 2000 := fun h => Nat.lt_of_lt_of_le h (Nat.pow_le_pow_right (by decide) (by decide))
  have pk : ∀ {z : Int} {e : Nat}, z.natAbs < 2 ^ 400 → e ≤ 12 → PowOk z e := fun h he => powOk (c := 400) (k := 12) h (by decide) he (by decide)
  have pb : ∀ {z : Int} {e : Nat}, z.natAbs < 2 ^ 400 → e ≤ 12 → (z ^ e).natAbs < 2 ^ 4810 := fun {z e} h he => by
    rw [Int.natAbs_pow]
    have h1 : z.natAbs ^ e ≤ (2 ^ 400) ^ e := Nat.pow_le_pow_left (by omega) e
    rw [← Nat.pow_mul] at h1
    have h3 : 2 ^ (400 * e) < 2 ^ 4810 := Nat.pow_lt_pow_right (by decide) (by omega)
    omega
  have w5 : ∀ {z : Int}, z.natAbs < 2 ^ 4810 → z.natAbs < 2 ^ 5000 := fun h => Nat.lt_of_lt_of_le h (Nat.pow_le_pow_right (by decide) (by decide))
  have e30 : (2 : Nat) ^ 30 = 1073741824 := by decide
  have wa : ∀ {c : Int}, okL c → c.natAbs < 2 ^ 5000 := fun h => Nat.lt_of_lt_of_le (show _ < 2 ^ 30 by have := okL_nat h; omega) (Nat.pow_le_pow_right (by decide) (by decide))
  have wm : ∀ {c z : Int}, okL c → z.natAbs < 2 ^ 4810 → (c * z).natAbs < 2 ^ 5000 := fun {c z} hc hz => by
    rw [Int.natAbs_mul]
    have h1 : c.natAbs * z.natAbs < 2 ^ 30 * 2 ^ 4810 := Nat.mul_lt_mul_of_lt_of_le (by have := okL_nat hc; omega) (Nat.le_of_lt hz) (Nat.pow_pos (by decide))
    rw [← Nat.pow_add] at h1
    exact Nat.lt_of_lt_of_le h1 (Nat.pow_le_pow_right (by decide) (by decide))
  refine ⟨_, (pss_cons (ps_if (PW.pt (pw_or (pt_not (pt_val (pe_callB call_isi (by rfl) T.n_isinstance (by decide +kernel) (pa_cons (pv 0) (pa_cons (pe_bltn (v := .ty "tuple") (by rfl) T.n_tuple (by decide +kernel) rfl) pa_nil))))) (pw_or1 (pt_cmpR op_ne (pe_callB call_len_seq (by rfl) T.n_len PySem.boot_len (pa_cons (pv 0) pa_nil)) pe_int (nomark _))))) (pss_one (ps_ret pe_bl)) pss_nil)
    (pss_cons (ps_for PassesOwn.never rfl (pi_tup (pv 0)) (pg_name (i := 5) nd rfl (Or.inl rfl)) (pss_cons (ps_if (PW.pt (pw_or (pt_not (pt_val (pe_callB call_isi (by rfl) T.n_isinstance (by decide +kernel) (pa_cons (pv 5) (pa_cons (pe_glob (v := .ref A.a_Ratio) (by rfl) T.g_Ratio rfl) pa_nil))))) (pw_or (pt_cmpR op_isN (pe_call (ok_law_number T) (hr.mono (by decide)) (by rfl) T.g_law_number T.k_law_number T.b_law_number .nil pass0 (pa_cons (pe_fld (pv 5) rfl) pa_nil)) pe_non (nomark _)) (pw_or1 (pt_cmpR op_isN (pe_call (ok_law_number T) (hr.mono (by decide)) (by rfl) T.g_law_number T.k_law_number T.b_law_number .nil pass0 (pa_cons (pe_fld (pv 5) rfl) pa_nil)) pe_non (nomark _)))))) (pss_one (ps_ret pe_bl)) pss_nil)
    (pss_one (ps_if (PW.pt (pw_or (pt_cmpR op_eq (pe_fld (pv 5) rfl) pe_int (nomark _)) (pw_or (pt_cmpR op_lt (pe_fld (pv 5) rfl) pe_int (nomark _)) (pw_or1 (pt_cmpR op_ne (pe_call (ok_law_common T) (hr.mono (by decide)) (by rfl) T.g_law_common T.k_law_common T.b_law_common .nil pass0 (pa_cons (pe_fld (pv 5) rfl) (pa_cons (pe_fld (pv 5) rfl) pa_nil))) pe_int (nomark _)))))) (pss_one (ps_ret pe_bl)) pss_nil))))
    (pss_cons (ps_set (i := 6) nd rfl (.inl rfl) (pe_op op_mulW (pe_op op_mulW (pv 1) (pe_call (ok_law_power T) (hr.mono (by decide)) (by rfl) T.g_law_power T.k_law_power T.b_law_power .nil pass0 (pa_cons (pe_fld (pe_ix ix_tup (pv 0) pe_int (fun _ _ => rfl)) rfl) (pa_cons (pv 2) pa_nil)))) (pe_call (ok_law_power T) (hr.mono (by decide)) (by rfl) T.g_law_power T.k_law_power T.b_law_power .nil pass0 (pa_cons (pe_fld (pe_ix ix_tup (pv 0) pe_int (fun _ _ => rfl)) rfl) (pa_cons (pv 4) pa_nil)))))
    (pss_cons (ps_set (i := 7) nd rfl (.inl rfl) (pe_op op_mulW (pe_op op_mulW (pv 3) (pe_call (ok_law_power T) (hr.mono (by decide)) (by rfl) T.g_law_power T.k_law_power T.b_law_power .nil pass0 (pa_cons (pe_fld (pe_ix ix_tup (pv 0) pe_int (fun _ _ => rfl)) rfl) (pa_cons (pv 4) pa_nil)))) (pe_call (ok_law_power T) (hr.mono (by decide)) (by rfl) T.g_law_power T.k_law_power T.b_law_power .nil pass0 (pa_cons (pe_fld (pe_ix ix_tup (pv 0) pe_int (fun _ _ => rfl)) rfl) (pa_cons (pv 2) pa_nil)))))
    (pss_one (ps_ret (pe_cmpR op_eq (pv 6) (pv 7) (nomark _)))))))), ?_⟩
  walk_at "rd"
  refine KR.isi_tt ht ?_
  walk_at "rd"
  refine ⟨t, _, rfl, .inr sT, ?_⟩
  walk_at "rd"
  refine KR.iteND (fun z => absurd rfl z) (fun _ => ?_)
  walk_at "rd"
  refine KR.itupN sT (KR.fwT (xs := [.ref r1, .ref r2]) (fun k σ' H' => H' = H ∧ ∃ z, σ' = [some (.ref t), some (.int a), some (.int m), some (.int b), some (.int n), z, none, none]) ⟨rfl, none, rfl⟩ ?_ ?_ ?_)
  · rintro k σ' H' _ ⟨rfl, _⟩
    exact sT
  · rintro k v σ' H' hv ⟨rfl, z, rfl⟩
    obtain ⟨r, u1, u2, rfl, hR, hl, hu, b1, b2⟩ : ∃ r u1 u2, v = .ref r ∧ RatAt A H' r u1 u2 ∧ Low1 u1 u2 ∧ u1 ≠ 0 ∧ u1.natAbs < 2 ^ 400 ∧ u2.natAbs < 2 ^ 400 := by
      have := List.mem_of_getElem? hv
      rcases List.mem_cons.mp this with h | h
      · exact ⟨r1, x1, x2, h, hR1, hl1, hx1, bx1, bx2⟩
      · exact ⟨r2, y1, y2, List.mem_singleton.mp h, hR2, hl2, hy1, by1, by2⟩
    obtain ⟨dx, hR'⟩ := id hR
    have hl0 := hl.1
    walk_at "rd"
    refine KR.isi_own T.ty_Ratio hR' ?_
    walk_at "rd"
    refine T.fnum hR ?_
    refine ⟨u1, rfl, ?_⟩
    walk_at "rd"
    refine T.fden hR ?_
    refine ⟨u2, rfl, ?_⟩
    walk_at "rd"
    refine T.fnum hR ?_
    walk_at "rd"
    refine KR.iteDF hu ?_
    walk_at "rd"
    refine T.fden hR ?_
    walk_at "rd"
    refine KR.iteDF (by omega) ?_
    walk_at "rd"
    refine T.fnum hR ?_
    walk_at "rd"
    refine T.fden hR ?_
    walk_at "rd"
    refine ⟨u1, u2, rfl, up b1, up b2, ?_⟩
    rw [hl.2]
    walk_at "rd"
    exact ⟨rfl, _, rfl⟩
  rintro σ' H' ⟨rfl, z, rfl⟩
  walk_at "rd"
  refine KR.ixT sT (v := .ref r1) rfl ?_
  walk_at "rd"
  refine T.fnum hR1 ?_
  walk_at "rd"
  refine ⟨x1, m, rfl, pk bx1 hm, by omega, ?_⟩
  refine KR.opI (mulW (k := 5000) (by decide) (wa ha) (w5 (pb bx1 hm))) ?_
  walk_at "rd"
  refine KR.ixT sT (v := .ref r2) rfl ?_
  walk_at "rd"
  refine T.fden hR2 ?_
  walk_at "rd"
  refine ⟨y2, n, rfl, pk by2 hn, by omega, ?_⟩
  refine KR.opI (mulW (k := 5000) (by decide) (wm ha (pb bx1 hm)) (w5 (pb by2 hn))) ?_
  walk_at "rd"
  refine KR.ixT sT (v := .ref r2) rfl ?_
  walk_at "rd"
  refine T.fnum hR2 ?_
  walk_at "rd"
  refine ⟨y1, n, rfl, pk by1 hn, by omega, ?_⟩
  refine KR.opI (mulW (k := 5000) (by decide) (wa hb) (w5 (pb by1 hn))) ?_
  walk_at "rd"
  refine KR.ixT sT (v := .ref r1) rfl ?_
  walk_at "rd"
  refine T.fden hR1 ?_
  walk_at "rd"
  refine ⟨x2, m, rfl, pk bx2 hm, by omega, ?_⟩
  refine KR.opI (mulW (k := 5000) (by decide) (wm hb (pb by1 hn)) (w5 (pb bx2 hm))) ?_
  walk_at "rd"
  rw [decide_eq_true heq]
  exact q
end
end K9
namespace K9
open PySem PySem.Spec PyProof.Rows L2 K7
local macro_rules | `(tactic| walk_at "rc") => `(tactic| first
  | assumption
  | (show (0 : Int) < _; omega)
  | (show (0 : Int) < _ ∧ _ < (1073741824 : Int); exact ⟨by omega, by omega⟩)
  | (show (-(2 ^ 64 : Int) < _ ∧ _ < (2 ^ 64 : Int)) ∨ _; exact .inl ⟨by omega, by omega⟩)
  | (show _ ∨ (-(2 ^ 64 : Int) < _ ∧ _ < (2 ^ 64 : Int)); exact .inr ⟨by omega, by omega⟩)
  | (show (0 : Int) ≤ _ ∧ _ ≤ (1000000 : Int) ∧ _ < 2 ^ 64; exact ⟨by decide, by decide, by decide⟩))
local macro_rules | `(tactic| walk_at "rd") => `(tactic| repeat (first
  | with_reducible apply KR.seq
  | with_reducible apply KR.asg
  | with_reducible apply KR.drop
  | with_reducible apply KR.ret
  | with_reducible apply KR.retN
  | with_reducible apply KR.next
  | with_reducible apply KR.ifs
  | with_reducible refine KR.var rfl ?_
  | with_reducible refine L2.iteT ?_
  | with_reducible refine L2.iteF ?_
  | with_reducible refine KR.iteNF ?_
  | with_reducible refine KR.iteNT ?_
  | with_reducible apply KR.con
  | with_reducible apply KR.op
  | with_reducible apply KR.opI0
  | ((with_reducible refine KR.opI ?rc ?_); (case rc => walk_at "rc"))
  | with_reducible apply KR.un
  | with_reducible apply KR.unI
  | with_reducible apply KR.eqI
  | with_reducible apply KR.neI
  | with_reducible apply KR.test
  | with_reducible apply KR.tb'
  | with_reducible apply KR.exbl
  | with_reducible apply KR.and'
  | with_reducible apply KR.or'
  | with_reducible apply KR.not'
  | with_reducible apply KR.chain
  | with_reducible apply KR.call
  | with_reducible apply KR.callS
  | with_reducible apply KR.make
  | with_reducible apply KR.bm
  | with_reducible apply KR.errF
  | with_reducible apply KR.cons
  | with_reducible apply KR.nil
  | with_reducible apply KR.cb
  | with_reducible apply KR.cInt1
  | with_reducible apply KR.cI1
  | with_reducible apply KR.cI2
  | with_reducible apply KR.isi_ii
  | with_reducible apply KR.isi_ib
  | with_reducible apply KR.bits
  | with_reducible apply KR.exint
  | with_reducible apply KR.ifx
  | with_reducible refine KR.aug rfl ?_
  | with_reducible apply KR.ipI
  | with_reducible apply KR.for'
  | with_reducible apply KR.rng1
  | with_reducible apply KR.rng2
  | with_reducible apply KR.ilist
  | with_reducible apply KR.itup
  | with_reducible apply KR.iseq
  | with_reducible apply KR.gcd
  | with_reducible apply KR.tup
  | with_reducible apply KR.lst
  | with_reducible apply KR.andV
  | with_reducible apply KR.orV
  | with_reducible apply KR.notV
  | with_reducible apply KR.asgG
  | with_reducible apply KR.sub
  | with_reducible apply KR.fld
  | with_reducible apply KR.prop
  | with_reducible apply KR.meth
  | with_reducible apply KR.par
  | with_reducible apply KR.parN
  | with_reducible apply KR.raise1
  | with_reducible apply KR.raise0
  | with_reducible apply KR.exv
  | with_reducible apply KR.lc
  | with_reducible apply KR.ienT
  | with_reducible apply KR.sfld
  | with_reducible apply KR.sl
  | with_reducible apply KR.part
  | with_reducible apply KR.nopart
  | with_reducible apply KR.isNo
  | with_reducible refine KR.nnT ?_
  | with_reducible refine KR.niF ?_
  | with_reducible refine KR.nrF ?_
  | with_reducible refine KR.mnT ?_
  | with_reducible refine KR.miF ?_
  | with_reducible refine KR.mrF ?_))
theorem lay_ints : ∀ xs : List Int, PyData.canLayAll0 (xs.map PyData.int) = true
  | [] => by simp [PyData.canLayAll0]
  | x :: xs => by simp [PyData.canLayAll0, PyData.canLay0, lay_ints xs]
theorem depth_ints : ∀ xs : List Int, PyData.depthAll (xs.map PyData.int) ≤ 1
  | [] => by simp [PyData.depthAll]
  | x :: xs => by
    have := depth_ints xs
    simp [PyData.depthAll, PyData.depth]
    try omega
theorem eqv_ints : ∀ xs : List Int, PyData.eqvAll (xs.map PyData.int) (xs.map PyData.int) = true
  | [] => by simp [PyData.eqvAll]
  | x :: xs => by simp [PyData.eqvAll, PyData.eqv, eqv_ints xs]
theorem shaped_ints (xs : List Int) : SeqAt.shaped (.list (xs.map PyData.int)) = true := by
  have h1 := lay_ints xs
  have h2 := depth_ints xs
  simp [SeqAt.shaped, PyData.canLay0, PyData.depth, h1]
  omega
theorem dp_ints {K : PySem.W.Frag} {H : Hp} : ∀ xs : List Int, DpAll K H (xs.map V.int) (xs.map PyData.int)
  | [] => .nil
  | x :: xs => .cons (.int x) (dp_ints xs)
theorem eqv_lists (xs : List Int) : PyData.eqv (.list (xs.map PyData.int)) (.list (xs.map PyData.int)) = true := by
  simp [PyData.eqv, eqv_ints xs]
theorem eqv_nil : ∀ xs : List Int, PyData.eqv (.list (xs.map PyData.int)) (.list (([] : List Int).map PyData.int)) = xs.isEmpty
  | [] => by simp [PyData.eqv, PyData.eqvAll]
  | x :: xs => by simp [PyData.eqv, PyData.eqvAll]
theorem eqv_pair (tg : Str) (v : Int) : PyData.eqv (.tuple [.str tg, .int v]) (.tuple [.str tg, .int v]) = true := by
  simp [PyData.eqv, PyData.eqvAll]
theorem shaped_pair (tg : Str) (v : Int) (h : PyData.strOk tg = true := by decide +kernel) : SeqAt.shaped (.tuple [.str tg, .int v]) = true := by
  simp [SeqAt.shaped, PyData.canLay0, PyData.canLayAll0, PyData.depth, PyData.depthAll, h]
section
variable {P : Program} {w : World} {K : PySem.W.Frag} {mg : Str → Option Value} {base : Heap} {A : Ad}
variable {H : Hp} {Q : VK} {E : XK}
theorem eqP {t u : Addr} {tg : Str} {v : Int} {Q : VK} (ht : H t = some (.tup [.str tg, .int v])) (hu : H u = some (.tup [.str tg, .int v])) (hs : PyData.strOk tg = true) (q : Q (.bl true) H) : rEqD K (.ref t) (.ref u) H Q := by
  refine ⟨.tuple [.str tg, .int v], .tuple [.str tg, .int v], .tup (.inl (.inl ht)) (.cons (.str _) (.cons (.int _) .nil)), .tup (.inl (.inl hu)) (.cons (.str _) (.cons (.int _) .nil)), shaped_pair _ _ hs, shaped_pair _ _ hs, ?_⟩
  rw [eqv_pair]
  exact q
theorem tellB {a b : Int} {m n : Nat} {ts : List Int} (ha : okL a) (hb : okL b) (a0 : a ≠ 0) (b0 : b ≠ 0) (hm : okE m) (hn : okE n) (hT : Told [a, b] ts) (hle : ∀ f, DivL [a, b] f → f ≤ 97)
    (q : ∀ L H2, H L = none → Evl.Ex H H2 → H2 L = some (.lst ((barsT (Nat.gcd m n) a b ts).map V.int)) → Q (.ref L) H2) : sp_two_term_bars A [.int a, .int m, .int b, .int n] H Q E := by
  refine ⟨a, m, b, n, rfl, fun z => absurd ha z, fun _ => ⟨fun z => absurd hm z, fun _ => ⟨fun z => absurd hb z, fun _ => ⟨fun z => absurd hn z, fun _ => ⟨fun z => (z.elim a0 b0).elim, fun _ _ => ⟨fun f hf h97 _ _ _ => absurd (hle f hf) (by omega), fun _ L ts' H2 hL x2 hT' _ l2 => ?_⟩⟩⟩⟩⟩⟩
  rw [hT'.uniq hT, Int.natAbs_natCast, Int.natAbs_natCast] at l2
  exact q L H2 hL x2 l2
def sp_law_asked : Sp := fun vs H Q _ => ∃ (a b : Int) (m n : Nat), vs = [.int a, .int m, .int b, .int n] ∧ okL a ∧ okL b ∧ a ≠ 0 ∧ b ≠ 0 ∧ okE m ∧ okE n ∧ ∀ H2, Evl.Ex H H2 → Q (.bl true) H2
theorem ok_law_asked (T : Txt P K mg A) : FnOk P w K mg base CX0 10 A.a_law_asked A.d_law_asked ["a", "m", "b", "n"] sp_law_asked := by
  refine T.F_law_asked.ok sc_law_asked (fun vs H Q E h => ?_) (fun cdv Ar outer s H vs Q E hr h => ?_)
  · obtain ⟨_, _, _, _, rfl, _⟩ := h; rfl
  have nd := sc_law_asked.nd
  obtain ⟨a, b, m, n, rfl, ha, hb, a0, b0, hm, hn, q⟩ := h
  obtain ⟨hm1, hm2⟩ := id hm
  obtain ⟨hn1, hn2⟩ := id hn
  have b2000 : ∀ {k : Nat}, k ≤ 12 → ((k : Nat) : Int).natAbs < 2 ^ 2000 := fun h => by
    rw [Int.natAbs_natCast]
    exact Nat.lt_of_lt_of_le (show _ < 2 ^ 4 by omega) (Nat.pow_le_pow_right (by decide) (by decide))
  have hg0 : 0 < Nat.gcd m n := Nat.gcd_pos_of_pos_left _ (by omega)
  have hg1 : Nat.gcd m n < 13 := by
    have := Nat.le_of_dvd (by omega) (Nat.gcd_dvd_left m n)
    omega
  refine ⟨_, (pss_cons (ps_set (i := 4) nd rfl (.inr rfl) (pe_call (ok_law_common T) (hr.mono (by decide)) (by rfl) T.g_law_common T.k_law_common T.b_law_common .nil pass0 (pa_cons (pv 1) (pa_cons (pv 3) pa_nil))))
    (pss_cons (ps_set (i := 5) nd rfl (.inl rfl) (pe_call (ok_law_primes T) (hr.mono (by decide)) (by rfl) T.g_law_primes T.k_law_primes T.b_law_primes .nil pass0 (pa_cons (pe_lst (pa_cons (pv 0) (pa_cons (pv 2) pa_nil))) pa_nil)))
    (pss_cons (ps_setLc (i := 6) (own := [("prime", 10)]) (g := gName 10) rfl nd rfl rfl (sw_true rfl rfl rfl (by decide +kernel)) (pi_list (pv 5)) (blkOk_by (own := [("prime", 10)]) (N := ["a", "m", "b", "n", "g", "primes", "wide", "bars", "told", "solution", "prime", "p"]) (sc := defScope s_law_asked) (by decide +kernel)) (fun _ _ _ _ _ => pg_name (i := 10) nd rfl (Or.inl rfl)) (fun _ _ _ _ _ => (pts_one (pt_cmpR op_gt (pv 10) pe_int (nomark _)))) (fun _ _ _ _ _ => (pv 10)))
    (pss_cons (ps_if (pt_cmpR (op_neD hr.units) (pv 6) (pe_lst pa_nil) (nomark _)) (pss_cons (ps_if (pt_cmpR (op_neD hr.units) (pe_call (ok_law_call T) (hr.mono (by decide)) (by rfl) T.g_law_call T.k_law_call T.b_law_call .nil pass0 (pa_cons pe_str (pa_cons (pe_lst (pa_cons (pv 0) (pa_cons (pv 1) (pa_cons (pv 2) (pa_cons (pv 3) pa_nil))))) pa_nil))) (pe_tup (pa_cons pe_str (pa_cons (pe_ix ix_list (pv 6) pe_int (fun _ _ => rfl)) pa_nil))) (nomark _)) (pss_one (ps_ret pe_bl)) pss_nil)
    (pss_one (ps_ret (pe_cmpR (op_eqD hr.units) (pe_call (ok_law_call T) (hr.mono (by decide)) (by rfl) T.g_law_call T.k_law_call T.b_law_call .nil pass0 (pa_cons pe_str (pa_cons (pe_lst (pa_cons (pv 0) (pa_cons (pv 1) (pa_cons (pv 2) (pa_cons (pv 3) pa_nil))))) pa_nil))) (pe_tup (pa_cons pe_str (pa_cons (pe_ix ix_list (pv 6) pe_int (fun _ _ => rfl)) pa_nil))) (nomark _))))) pss_nil)
    (pss_cons (ps_setLc (i := 7) (own := [("p", 11)]) (g := gName 11) rfl nd rfl rfl (sw_true rfl rfl rfl (by decide +kernel)) (pi_list (pv 5)) (blkOk_by (own := [("p", 11)]) (N := ["a", "m", "b", "n", "g", "primes", "wide", "bars", "told", "solution", "prime", "p"]) (sc := defScope s_law_asked) (by decide +kernel)) (fun _ _ _ _ _ => pg_name (i := 11) nd rfl (Or.inl rfl)) (fun _ _ _ _ _ => (pts_one (pt_not (pt_val (pe_call (ok_law_solved T) (hr.mono (by decide)) (by rfl) T.g_law_solved T.k_law_solved T.b_law_solved .nil pass0 (pa_cons (pv 11) (pa_cons (pv 4) (pa_cons (pv 0) (pa_cons (pv 2) pa_nil))))))))) (fun _ _ _ _ _ => (pv 11)))
    (pss_cons (ps_set (i := 8) nd rfl (.inl rfl) (pe_call (ok_two_term_bars T) (hr.mono (by decide)) (by rfl) T.g_two_term_bars T.k_two_term_bars T.b_two_term_bars .nil passN (pa_cons (pv 0) (pa_cons (pv 1) (pa_cons (pv 2) (pa_cons (pv 3) pa_nil))))))
    (pss_cons (ps_if (pt_not (pt_val (pe_call (ok_law_alike T) (hr.mono (by decide)) (by rfl) T.g_law_alike T.k_law_alike T.b_law_alike .nil pass0 (pa_cons (pv 8) (pa_cons (pv 7) pa_nil))))) (pss_one (ps_ret pe_bl)) pss_nil)
    (pss_cons (ps_expr (pe_bm PySem.F.plainAttrs_list PySem.F.slot_list_append PySem.F.type_list_append mt_append (pv 8) (pa_cons pe_int pa_nil)))
    (pss_cons (ps_set (i := 9) nd rfl (.inl rfl) (pe_call (ok_two_term T) (hr.mono (by decide)) (by rfl) T.g_two_term T.k_two_term T.b_two_term .nil passN (pa_cons (pv 0) (pa_cons (pv 1) (pa_cons (pv 2) (pa_cons (pv 3) pa_nil))))))
    (pss_cons (ps_if (PW.pt (pw_and (pt_cmpR (op_eqD hr.units) (pv 7) (pe_lst pa_nil) (nomark _)) (pw_and1 (pt_not (pt_val (pe_call (ok_law_solves T) (hr.mono (by decide)) (by rfl) T.g_law_solves T.k_law_solves T.b_law_solves .nil pass0 (pa_cons (pv 9) (pa_cons (pv 0) (pa_cons (pv 1) (pa_cons (pv 2) (pa_cons (pv 3) pa_nil))))))))))) (pss_one (ps_ret pe_bl)) pss_nil)
    (pss_cons (ps_if (PW.pt (pw_and (pt_cmpR (op_neD hr.units) (pv 7) (pe_lst pa_nil) (nomark _)) (pw_and1 (pt_cmpR op_notN (pv 9) pe_non (nomark _))))) (pss_one (ps_ret pe_bl)) pss_nil)
    (pss_one (ps_ret (pe_call (ok_law_alike T) (hr.mono (by decide)) (by rfl) T.g_law_alike T.k_law_alike T.b_law_alike .nil pass0 (pa_cons (pe_call (ok_two_term_bars T) (hr.mono (by decide)) (by rfl) T.g_two_term_bars T.k_two_term_bars T.b_two_term_bars .nil passN (pa_cons (pv 0) (pa_cons (pv 1) (pa_cons (pv 2) (pa_cons (pv 3) pa_nil))))) (pa_cons (pv 7) pa_nil)))))))))))))))), ?_⟩
  walk_at "rd"
  refine ⟨m, n, rfl, b2000 (by omega), b2000 (by omega), ?_⟩
  rw [Int.natAbs_natCast, Int.natAbs_natCast]
  have tB := fun (H : Hp) (Q : VK) (E : XK) (ts : List Int) => @tellB A H Q E a b m n ts ha hb a0 b0 hm hn
  obtain ⟨g, hg⟩ : ∃ g, Nat.gcd m n = g := ⟨_, rfl⟩
  rw [hg] at hg0 hg1 ⊢
  walk_at "rd"
  refine ⟨by show (2 : Nat) ≤ sizeLine; decide, fun c hc => ?_⟩
  have x1 : Evl.Ex H (upd H c (.lst [.int a, .int b])) := Evl.Ex.new hc
  have lc : (upd H c (.lst [.int a, .int b])) c = some (.lst (([a, b] : List Int).map V.int)) := upd_same
  generalize upd H c _ = H1 at x1 lc ⊢
  walk_at "rd"
  refine ⟨c, [a, b], rfl, .inl (.inl lc), fun x hx => (two_mem.mp hx).elim (fun z => z ▸ ha) (fun z => z ▸ hb), fun h0 => (two_mem.mp h0).elim (fun z => a0 z.symm) (fun z => b0 z.symm), by show (2 : Nat) ≤ 8; decide, fun T1 ts H2 hT1 x2 lT hT hTl => ?_⟩
  have x12 := x1.trans x2
  clear x1 x2 lc hc
  walk_at "rd"
  refine KR.llistN (xs := ts.map V.int) (.inl (.inl lT)) (KR.lwL (fun k => decide (97 < ts.getD k 0)) (fun k => .int (ts.getD k 0)) (.inl (.inl lT)) (by rw [List.length_map]; omega) (fun _ => rfl) ?_ ?_ ?_)
  · intro k v H3 e3 hv H4 e4 Q' q'
    rw [at_getD hv]
    walk_at "rd"
    exact q' H4 (Evl.Ex.refl _)
  · intro k v H3 e3 hv hf H4 e4 Q' q'
    rw [at_getD hv]
    walk_at "rd"
    exact q' H4 (Evl.Ex.refl _)
  intro W H3 hW x3 lW
  rw [List.length_map, giv_whole (fun x => decide (97 < x)) (fun x => V.int x)] at lW
  have lT3 := x3 _ _ lT
  have x13 := x12.trans x3
  walk_at "rd"
  refine ⟨Nat.zero_le _, fun e1 he1 => ?_⟩
  have x4 := Evl.Ex.new (o := .lst []) he1
  have lW4 := x4 _ _ lW
  have le1 : (upd H3 e1 (.lst [])) e1 = some (.lst (([] : List Int).map V.int)) := upd_same
  have lT4 := x4 _ _ lT3
  have x14 := x13.trans x4
  generalize upd H3 e1 _ = H4 at x4 lW4 le1 lT4 x14 ⊢
  clear x12 x3 lT x13 lT3 x4 lW hW he1
  refine ⟨_, _, .lst (.inl (.inl lW4)) (dp_ints _), .lst (.inl (.inl le1)) (dp_ints _), shaped_ints _, shaped_ints _, ?_⟩
  rw [eqv_nil]
  walk_at "rd"
  cases hws : ts.filter (fun x => decide (97 < x)) with
  | cons f ws =>
    refine KR.iteNF ?_
    have hfm : f ∈ ts.filter (fun x => decide (97 < x)) := by rw [hws]; exact List.mem_cons_self
    obtain ⟨hf1, hf2⟩ := List.mem_filter.mp hfm
    have hf97 : 97 < f := of_decide_eq_true hf2
    have hfd : DivL [a, b] f := ((hT.2 f).mp hf1).resolve_left (by omega)
    have hmin : ∀ h, DivL [a, b] h → 97 < h → f ≤ h := fun h hd h97 => by
      have h1 : h ∈ ts.filter (fun x => decide (97 < x)) := List.mem_filter.mpr ⟨(hT.2 h).mpr (.inr hd), decide_eq_true h97⟩
      have h2 := hT.1.filter (fun x => decide (97 < x))
      rw [hws] at h1 h2
      rcases List.mem_cons.mp h1 with z | z
      · omega
      · have := (List.pairwise_cons.mp h2).1 h z
        omega
    rw [hws] at lW4
    have hAns : ∀ wd : Str, (wd = "bars" ∨ wd = "solution") → Ans wd [a, m, b, n] "prime" (some f) := fun wd h => .inr ⟨h, a, m, b, n, rfl, .p ha hm hb hn a0 b0 hfd hf97 hmin⟩
    have hst : PyData.strOk "prime" = true := by decide +kernel
    walk_at "rd"
    refine ⟨by show (4 : Nat) ≤ sizeLine; decide, fun d1 hd1 => ?_⟩
    have y1 := Evl.Ex.new (o := .lst [.int a, .int m, .int b, .int n]) hd1
    refine ⟨"bars", true, d1, [a, m, b, n], "prime", some f, rfl, SqA.l upd_same, fun _ => rfl, hAns _ (.inl rfl), fun t1 H5 x5 ht1 => ?_⟩
    have y2 := y1.trans x5
    walk_at "rd"
    refine KR.ixL (.inl (.inl (y2 _ _ lW4))) (atI_nat (j := 0) (v := .int f) rfl) ?_
    walk_at "rd"
    refine ⟨by show (2 : Nat) ≤ sizeLine; decide, fun u1 hu1 => ?_⟩
    have y3 := y2.trans (Evl.Ex.new (o := .tup [.str "prime", .int f]) hu1)
    have ht1' : (upd H5 u1 (.tup [.str "prime", .int f])) t1 = some (.tup [.str "prime", .int f]) := Evl.Ex.new hu1 _ _ ht1
    refine ⟨.tuple [.str "prime", .int f], .tuple [.str "prime", .int f], .tup (.inl (.inl ht1')) (.cons (.str _) (.cons (.int _) .nil)), .tup (.inl (.inl upd_same)) (.cons (.str _) (.cons (.int _) .nil)), shaped_pair _ _ hst, shaped_pair _ _ hst, ?_⟩
    rw [eqv_pair]
    generalize upd H5 u1 _ = H6 at y3 ⊢
    clear y1 y2 ht1 ht1' hu1 x5 hd1
    walk_at "rd"
    refine ⟨by show (4 : Nat) ≤ sizeLine; decide, fun d2 hd2 => ?_⟩
    have y4 := y3.trans (Evl.Ex.new (o := .lst [.int a, .int m, .int b, .int n]) hd2)
    refine ⟨"solution", true, d2, [a, m, b, n], "prime", some f, rfl, SqA.l upd_same, fun _ => rfl, hAns _ (.inr rfl), fun t2 H7 x7 ht2 => ?_⟩
    have y5 := y4.trans x7
    walk_at "rd"
    refine KR.ixL (.inl (.inl (y5 _ _ lW4))) (atI_nat (j := 0) (v := .int f) rfl) ?_
    walk_at "rd"
    refine ⟨by show (2 : Nat) ≤ sizeLine; decide, fun u2 hu2 => ?_⟩
    have y6 := y5.trans (Evl.Ex.new (o := .tup [.str "prime", .int f]) hu2)
    have ht2' : (upd H7 u2 (.tup [.str "prime", .int f])) t2 = some (.tup [.str "prime", .int f]) := Evl.Ex.new hu2 _ _ ht2
    refine ⟨.tuple [.str "prime", .int f], .tuple [.str "prime", .int f], .tup (.inl (.inl ht2')) (.cons (.str _) (.cons (.int _) .nil)), .tup (.inl (.inl upd_same)) (.cons (.str _) (.cons (.int _) .nil)), shaped_pair _ _ hst, shaped_pair _ _ hst, ?_⟩
    rw [eqv_pair]
    exact q _ (x14.trans y6)
  | nil =>
    refine KR.iteNT ?_
    have hle : ∀ f, DivL [a, b] f → f ≤ 97 := fun f hf => by
      refine Decidable.by_contra fun z => ?_
      have h1 : f ∈ ts.filter (fun x => decide (97 < x)) := List.mem_filter.mpr ⟨(hT.2 f).mpr (.inr hf), decide_eq_true (by omega)⟩
      rw [hws] at h1
      cases h1
    have hpN : ∀ x ∈ ts, ∃ p ∈ primesN, x = ((p : Nat) : Int) := fun x hx => by
      rcases (hT.2 x).mp hx with rfl | ⟨p, rfl, hp, hd⟩
      · exact ⟨2, by decide, rfl⟩
      · exact ⟨p, small_prime hp (by have := hle p ⟨p, rfl, hp, hd⟩; omega), rfl⟩
    have tB := fun (H : Hp) (Q : VK) (E : XK) => tB H Q E ts hT hle
    rw [hg] at tB
    walk_at "rd"
    refine KR.llistN (xs := ts.map V.int) (.inl (.inl lT4)) (KR.lwL (fun k => !isPow (ts.getD k 0).toNat g a b) (fun k => .int (ts.getD k 0)) (.inl (.inl lT4)) (by rw [List.length_map]; omega) (fun _ => rfl) ?_ ?_ ?_)
    · intro k v H5 x5 hv H6 x6 Q' q'
      have hkm : ts.getD k 0 ∈ ts := by
        rw [List.getElem?_map] at hv
        obtain ⟨w, hw, _⟩ := Option.map_eq_some_iff.mp hv
        rw [List.getD_eq_getElem?_getD, hw]
        exact List.mem_of_getElem? hw
      rw [at_getD hv]
      obtain ⟨p, hp, ep⟩ := hpN _ hkm
      rw [ep] at q' ⊢
      rw [Int.toNat_natCast] at q'
      walk_at "rd"
      refine ⟨p, g, a, b, rfl, hp, hg0, hg1, ha, hb, a0, b0, ?_⟩
      walk_at "rd"
      exact q' H6 (Evl.Ex.refl _)
    · intro k v H5 x5 hv hf H6 x6 Q' q'
      rw [at_getD hv]
      walk_at "rd"
      exact q' H6 (Evl.Ex.refl _)
    intro B H5 hB x5 lB
    rw [List.length_map, giv_whole (fun x => !isPow x.toNat g a b) (fun x => V.int x)] at lB
    have x15 := x14.trans x5
    clear x14 x5 lT4 le1 lW4 hB
    have hbl : (barsT g a b ts).length ≤ 1000 := by
      have := List.length_filter_le (fun p => !isPow p.toNat g a b) ts
      unfold barsT
      omega
    have lB : H5 B = some (.lst ((barsT g a b ts).map V.int)) := lB
    walk_at "rd"
    refine tB H5 _ _ fun L H6 hL x6 lL => ?_
    have hLB : B ≠ L := fun z => by rw [z, hL] at lB; cases lB
    walk_at "rd"
    refine ⟨L, B, barsT g a b ts, rfl, lL, x6 _ _ lB, hbl, fun H7 x7 => ?_⟩
    have lL7 := x7 _ _ lL
    have x57 := x6.trans x7
    walk_at "rd"
    refine ⟨.inl ⟨rfl, _, .inl (.inl lL7)⟩, ?_⟩
    walk_at "rd"
    refine ⟨L, _, _, rfl, rfl, lL7, by rw [List.length_map, sizeLine_eq]; omega, ?_⟩
    have x58 : Evl.Ex H5 (upd H7 L (.lst ((barsT g a b ts).map V.int ++ [V.int 2]))) := Evl.Ex.mut x57 hL
    generalize upd H7 L _ = H8 at x58 ⊢
    have lB8 := x58 _ _ lB
    have x18 := x15.trans x58
    clear x15 x58 x57 lL7 x7 x6 lL hL hLB lB
    walk_at "rd"
    refine ⟨a, m, b, n, rfl, fun z => absurd ha z, fun _ => ⟨fun z => absurd hm z, fun _ => ⟨fun z => absurd hb z, fun _ => ⟨fun z => absurd hn z, fun _ => ⟨fun z => (z.elim a0 b0).elim, fun _ _ => ⟨fun f hf h97 _ _ _ => absurd (hle f hf) (by omega), fun _ => ⟨ts, hT, fun hne H9 x9 => ?_, fun he t r1 r2 X1 X2 Y1 Y2 H9 x9 ht hR1 hR2 hl1 hl2 hX hY bX1 bX2 bY1 bY2 heq => ?_⟩⟩⟩⟩⟩⟩⟩
    · rw [Int.natAbs_natCast, Int.natAbs_natCast, hg] at hne
      have hie : (barsT g a b ts).isEmpty = false := by
        cases hx : barsT g a b ts with
        | nil => exact absurd hx hne
        | cons _ _ => rfl
      have lB9 := x9 _ _ lB8
      have x19 := x18.trans x9
      walk_at "rd"
      refine ⟨Nat.zero_le _, fun e2 he2 => ?_⟩
      have y1 := Evl.Ex.new (o := .lst []) he2
      have le2 : (upd H9 e2 (.lst [])) e2 = some (.lst (([] : List Int).map V.int)) := upd_same
      have lB10 := y1 _ _ lB9
      have x110 := x19.trans y1
      generalize upd H9 e2 _ = H10 at le2 lB10 x110 ⊢
      clear y1 lB9 x19 he2
      refine ⟨_, _, .lst (.inl (.inl lB10)) (dp_ints _), .lst (.inl (.inl le2)) (dp_ints _), shaped_ints _, shaped_ints _, ?_⟩
      rw [eqv_nil, hie]
      walk_at "rd"
      refine ⟨Nat.zero_le _, fun e3 he3 => ?_⟩
      have y1 := Evl.Ex.new (o := .lst []) he3
      have le3 : (upd H10 e3 (.lst [])) e3 = some (.lst (([] : List Int).map V.int)) := upd_same
      have lB11 := y1 _ _ lB10
      have x111 := x110.trans y1
      generalize upd H10 e3 _ = H11 at le3 lB11 x111 ⊢
      clear y1 lB10 x110 he3
      refine ⟨_, _, .lst (.inl (.inl lB11)) (dp_ints _), .lst (.inl (.inl le3)) (dp_ints _), shaped_ints _, shaped_ints _, ?_⟩
      rw [eqv_nil, hie]
      walk_at "rd"
      refine tB H11 _ _ fun L2 H12 hL2 x12 lL2 => ?_
      walk_at "rd"
      exact ⟨L2, B, barsT g a b ts, rfl, lL2, x12 _ _ lB11, hbl, fun H13 x13 => q H13 (x111.trans (x12.trans x13))⟩
    · rw [Int.natAbs_natCast, Int.natAbs_natCast, hg] at he
      rw [Int.toNat_natCast, Int.toNat_natCast] at heq
      have hie : (barsT g a b ts).isEmpty = true := by rw [he]; rfl
      have lB9 := x9 _ _ lB8
      have x19 := x18.trans x9
      walk_at "rd"
      refine ⟨Nat.zero_le _, fun e2 he2 => ?_⟩
      have y1 := Evl.Ex.new (o := .lst []) he2
      have le2 : (upd H9 e2 (.lst [])) e2 = some (.lst (([] : List Int).map V.int)) := upd_same
      have lB10 := y1 _ _ lB9
      have x110 := x19.trans y1
      have hR1' := hR1.ex y1
      have hR2' := hR2.ex y1
      have ht' := y1 _ _ ht
      generalize upd H9 e2 _ = H10 at le2 lB10 x110 hR1' hR2' ht' ⊢
      clear y1 lB9 x19 he2
      refine ⟨_, _, .lst (.inl (.inl lB10)) (dp_ints _), .lst (.inl (.inl le2)) (dp_ints _), shaped_ints _, shaped_ints _, ?_⟩
      rw [eqv_nil, hie]
      walk_at "rd"
      refine ⟨t, r1, r2, a, b, X1, X2, Y1, Y2, m, n, rfl, ht', hR1', hR2', hl1, hl2, hX, hY, bX1, bX2, bY1, bY2, ha, hb, by omega, by omega, heq, ?_⟩
      walk_at "rd"
      refine ⟨Nat.zero_le _, fun e3 he3 => ?_⟩
      have y1 := Evl.Ex.new (o := .lst []) he3
      have le3 : (upd H10 e3 (.lst [])) e3 = some (.lst (([] : List Int).map V.int)) := upd_same
      have lB11 := y1 _ _ lB10
      have x111 := x110.trans y1
      generalize upd H10 e3 _ = H11 at le3 lB11 x111 ⊢
      clear y1 lB10 x110 he3
      refine ⟨_, _, .lst (.inl (.inl lB11)) (dp_ints _), .lst (.inl (.inl le3)) (dp_ints _), shaped_ints _, shaped_ints _, ?_⟩
      rw [eqv_nil, hie]
      walk_at "rd"
      refine tB H11 _ _ fun L2 H12 hL2 x12 lL2 => ?_
      walk_at "rd"
      exact ⟨L2, B, barsT g a b ts, rfl, lL2, x12 _ _ lB11, hbl, fun H13 x13 => q H13 (x111.trans (x12.trans x13))⟩
end
end K9
namespace K9
open PySem PySem.Spec PyProof.Rows L2 K7
local macro_rules | `(tactic| walk_at "rc") => `(tactic| first
  | assumption
  | (show (0 : Int) < _; omega)
  | (show (0 : Int) < _ ∧ _ < (1073741824 : Int); exact ⟨by omega, by omega⟩)
  | (show (-(2 ^ 64 : Int) < _ ∧ _ < (2 ^ 64 : Int)) ∨ _; exact .inl ⟨by omega, by omega⟩)
  | (show _ ∨ (-(2 ^ 64 : Int) < _ ∧ _ < (2 ^ 64 : Int)); exact .inr ⟨by omega, by omega⟩)
  | (show (0 : Int) ≤ _ ∧ _ ≤ (1000000 : Int) ∧ _ < 2 ^ 64; exact ⟨by decide, by decide, by decide⟩))
local macro_rules | `(tactic| walk_at "rd") => `(tactic| repeat (first
  | with_reducible apply KR.seq
  | with_reducible apply KR.asg
  | with_reducible apply KR.drop
  | with_reducible apply KR.ret
  | with_reducible apply KR.retN
  | with_reducible apply KR.next
  | with_reducible apply KR.ifs
  | with_reducible refine KR.var rfl ?_
  | with_reducible refine L2.iteT ?_
  | with_reducible refine L2.iteF ?_
  | with_reducible refine KR.iteNF ?_
  | with_reducible refine KR.iteNT ?_
  | with_reducible apply KR.con
  | with_reducible apply KR.op
  | with_reducible apply KR.opI0
  | ((with_reducible refine KR.opI ?rc ?_); (case rc => walk_at "rc"))
  | with_reducible apply KR.un
  | with_reducible apply KR.unI
  | with_reducible apply KR.eqI
  | with_reducible apply KR.neI
  | with_reducible apply KR.test
  | with_reducible apply KR.tb'
  | with_reducible apply KR.exbl
  | with_reducible apply KR.and'
  | with_reducible apply KR.or'
  | with_reducible apply KR.not'
  | with_reducible apply KR.chain
  | with_reducible apply KR.call
  | with_reducible apply KR.callS
  | with_reducible apply KR.make
  | with_reducible apply KR.bm
  | with_reducible apply KR.errF
  | with_reducible apply KR.cons
  | with_reducible apply KR.nil
  | with_reducible apply KR.cb
  | with_reducible apply KR.cInt1
  | with_reducible apply KR.cI1
  | with_reducible apply KR.cI2
  | with_reducible apply KR.isi_ii
  | with_reducible apply KR.isi_ib
  | with_reducible apply KR.bits
  | with_reducible apply KR.exint
  | with_reducible apply KR.ifx
  | with_reducible refine KR.aug rfl ?_
  | with_reducible apply KR.ipI
  | with_reducible apply KR.for'
  | with_reducible apply KR.rng1
  | with_reducible apply KR.rng2
  | with_reducible apply KR.ilist
  | with_reducible apply KR.itup
  | with_reducible apply KR.iseq
  | with_reducible apply KR.gcd
  | with_reducible apply KR.tup
  | with_reducible apply KR.lst
  | with_reducible apply KR.andV
  | with_reducible apply KR.orV
  | with_reducible apply KR.notV
  | with_reducible apply KR.asgG
  | with_reducible apply KR.sub
  | with_reducible apply KR.fld
  | with_reducible apply KR.prop
  | with_reducible apply KR.meth
  | with_reducible apply KR.par
  | with_reducible apply KR.parN
  | with_reducible apply KR.raise1
  | with_reducible apply KR.raise0
  | with_reducible apply KR.exv
  | with_reducible apply KR.lc
  | with_reducible apply KR.ienT
  | with_reducible apply KR.sfld
  | with_reducible apply KR.sl
  | with_reducible apply KR.part
  | with_reducible apply KR.nopart
  | with_reducible apply KR.isNo
  | with_reducible refine KR.nnT ?_
  | with_reducible refine KR.niF ?_
  | with_reducible refine KR.nrF ?_
  | with_reducible refine KR.mnT ?_
  | with_reducible refine KR.miF ?_
  | with_reducible refine KR.mrF ?_))
theorem log_ok {b : Int} (h2 : b.natAbs < 2 ^ 60) : b.natAbs.log2 < 9000 := by
  have := lg h2
  omega
theorem sgn_draw {s : Int} (h0 : 0 ≤ s) (h1 : s < 2) : 1 - 2 * s = 1 ∨ 1 - 2 * s = -1 := by omega
theorem okL_mul {z s : Int} (h0 : 0 < z) (h1 : z ≤ 1000000000) (hs : s = 1 ∨ s = -1) : okL (z * s) ∧ z * s ≠ 0 := by
  rcases hs with rfl | rfl
  · rw [Int.mul_one]; exact ⟨⟨by omega, h1⟩, by omega⟩
  · have : z * -1 = -z := by omega
    rw [this]; exact ⟨⟨by omega, by omega⟩, by omega⟩
section
variable {P : Program} {w : World} {K : PySem.W.Frag} {mg : Str → Option Value} {base : Heap} {A : Ad}
def sp_law_drawn : Sp := fun vs H Q _ => ∃ (t : Addr) (m n : Nat) (gr : Bool) (kind : Int), vs = [.ref t, .int m, .int n, .bl gr, .int kind] ∧ Pool H t ∧ 1 ≤ m ∧ m ≤ 12 ∧ 1 ≤ n ∧ n ≤ 12 ∧
  ∀ c a b H2, okL a → okL b → a ≠ 0 → b ≠ 0 → H2 c = some (.tup [.int a, .int b]) → ExB t H H2 → Pool H2 t → Q (.ref c) H2
theorem ok_law_drawn (T : Txt P K mg A) : FnOk P w K mg base CX0 2 A.a_law_drawn A.d_law_drawn ["pool", "m", "n", "great", "kind"] sp_law_drawn := by
  refine T.F_law_drawn.ok sc_law_drawn (fun vs H Q E h => ?_) (fun cdv Ar outer s H vs Q E hr h => ?_)
  · obtain ⟨_, _, _, _, _, rfl, _⟩ := h; rfl
  have nd := sc_law_drawn.nd
  obtain ⟨t, m, n, gr, kind, rfl, hp, hm1, hm2, hn1, hn2, q⟩ := h
  have b2000 : ∀ {k : Nat}, k ≤ 12 → ((k : Nat) : Int).natAbs < 2 ^ 2000 := fun h => by
    rw [Int.natAbs_natCast]
    exact Nat.lt_of_lt_of_le (show _ < 2 ^ 4 by omega) (Nat.pow_le_pow_right (by decide) (by decide))
  have hg0 : 0 < Nat.gcd m n := Nat.gcd_pos_of_pos_left _ (by omega)
  have hg1 : Nat.gcd m n < 13 := by
    have := Nat.le_of_dvd (by omega) (Nat.gcd_dvd_left m n)
    omega
  have e6 : (10 : Int) ^ Int.toNat 6 = 1000000 := by decide
  have e9 : (10 : Int) ^ Int.toNat 9 = 1000000000 := by decide
  refine ⟨_, (pss_cons (ps_set (i := 5) nd rfl (.inl rfl) (pe_call (ok_law_common T) (hr.mono (by decide)) (by rfl) T.g_law_common T.k_law_common T.b_law_common .nil pass0 (pa_cons (pv 1) (pa_cons (pv 2) pa_nil))))
    (pss_cons (ps_set (i := 6) nd rfl (.inl rfl) pe_int)
    (pss_cons (ps_for PassesOwn.never rfl (pi_range2 (by rfl) T.n_range (pa_cons pe_int (pa_cons pe_int pa_nil))) (pg_name (i := 7) nd rfl (Or.inl rfl)) (pss_one (ps_if (pt_cmpR op_le (pe_call (ok_law_power T) (hr.mono (by decide)) (by rfl) T.g_law_power T.k_law_power T.b_law_power .nil pass0 (pa_cons (pv 7) (pa_cons (pv 5) pa_nil))) (pe_op op_pow pe_int pe_int) (nomark _)) (pss_one (ps_set (i := 6) nd rfl (.inl rfl) (pv 7))) pss_nil)))
    (pss_cons (ps_set (i := 8) nd rfl (.inl rfl) (pe_op op_add pe_int (pe_call (ok_law_draw T) (hr.mono (by decide)) (by rfl) T.g_law_draw T.k_law_draw T.b_law_draw .nil pass0 (pa_cons (pv 0) (pa_cons (pv 6) (pa_cons pe_int pa_nil))))))
    (pss_cons (ps_set (i := 9) nd rfl (.inl rfl) (pe_op op_add pe_int (pe_call (ok_law_draw T) (hr.mono (by decide)) (by rfl) T.g_law_draw T.k_law_draw T.b_law_draw .nil pass0 (pa_cons (pv 0) (pa_cons (pv 6) (pa_cons pe_int pa_nil))))))
    (pss_cons (ps_set (i := 10) nd rfl (.inl rfl) (pe_op op_add pe_int (pe_call (ok_law_draw T) (hr.mono (by decide)) (by rfl) T.g_law_draw T.k_law_draw T.b_law_draw .nil pass0 (pa_cons (pv 0) (pa_cons pe_int (pa_cons pe_int pa_nil))))))
    (pss_cons (ps_set (i := 11) nd rfl (.inl rfl) (pe_op op_mul (pe_op op_mul (pv 10) (pe_call (ok_law_power T) (hr.mono (by decide)) (by rfl) T.g_law_power T.k_law_power T.b_law_power .nil pass0 (pa_cons (pv 9) (pa_cons (pv 5) pa_nil)))) (pe_op op_sub pe_int (pe_op op_mul pe_int (pe_call (ok_law_draw T) (hr.mono (by decide)) (by rfl) T.g_law_draw T.k_law_draw T.b_law_draw .nil pass0 (pa_cons (pv 0) (pa_cons pe_int (pa_cons pe_int pa_nil))))))))
    (pss_cons (ps_set (i := 12) nd rfl (.inl rfl) (pe_op op_mul (pe_op op_mul (pv 10) (pe_call (ok_law_power T) (hr.mono (by decide)) (by rfl) T.g_law_power T.k_law_power T.b_law_power .nil pass0 (pa_cons (pv 8) (pa_cons (pv 5) pa_nil)))) (pe_op op_sub pe_int (pe_op op_mul pe_int (pe_call (ok_law_draw T) (hr.mono (by decide)) (by rfl) T.g_law_draw T.k_law_draw T.b_law_draw .nil pass0 (pa_cons (pv 0) (pa_cons pe_int (pa_cons pe_int pa_nil))))))))
    (Evl.pss_cut (ps_if (pt_cmpR op_eq (pv 4) pe_int (nomark _)) (pss_one (ps_set (i := 11) nd rfl (.inl rfl) (pe_op op_mul (pe_op op_fdiv (pv 11) (pv 10)) (pe_op op_add pe_int (pe_call (ok_law_draw T) (hr.mono (by decide)) (by rfl) T.g_law_draw T.k_law_draw T.b_law_draw .nil pass0 (pa_cons (pv 0) (pa_cons pe_int (pa_cons pe_int pa_nil)))))))) pss_nil)
    (Evl.pss_cut (ps_if (pt_cmpR op_eq (pv 4) pe_int (nomark _)) (pss_cons (ps_set (i := 13) nd rfl (.inl rfl) pe_int)
    (Evl.pss_cut (ps_if (pt_val (pv 3)) (pss_one (ps_set (i := 13) nd rfl (.inl rfl) (pe_op op_pow pe_int pe_int))) pss_nil)
    (pss_cons (ps_set (i := 11) nd rfl (.inl rfl) (pe_op op_mul (pe_op op_add pe_int (pe_call (ok_law_draw T) (hr.mono (by decide)) (by rfl) T.g_law_draw T.k_law_draw T.b_law_draw .nil pass0 (pa_cons (pv 0) (pa_cons (pv 13) (pa_cons pe_int pa_nil))))) (pe_op op_sub pe_int (pe_op op_mul pe_int (pe_call (ok_law_draw T) (hr.mono (by decide)) (by rfl) T.g_law_draw T.k_law_draw T.b_law_draw .nil pass0 (pa_cons (pv 0) (pa_cons pe_int (pa_cons pe_int pa_nil))))))))
    (pss_one (ps_set (i := 12) nd rfl (.inl rfl) (pe_op op_mul (pe_op op_add pe_int (pe_call (ok_law_draw T) (hr.mono (by decide)) (by rfl) T.g_law_draw T.k_law_draw T.b_law_draw .nil pass0 (pa_cons (pv 0) (pa_cons (pv 13) (pa_cons pe_int pa_nil))))) (pe_op op_sub pe_int (pe_op op_mul pe_int (pe_call (ok_law_draw T) (hr.mono (by decide)) (by rfl) T.g_law_draw T.k_law_draw T.b_law_draw .nil pass0 (pa_cons (pv 0) (pa_cons pe_int (pa_cons pe_int pa_nil)))))))))))) pss_nil)
    (pss_one (ps_ret (pe_tup (pa_cons (pv 11) (pa_cons (pv 12) pa_nil))))))))))))))), ?_⟩
  walk_at "rd"
  refine ⟨m, n, rfl, b2000 (by omega), b2000 (by omega), ?_⟩
  rw [Int.natAbs_natCast, Int.natAbs_natCast]
  generalize Nat.gcd m n = g at hg0 hg1 ⊢
  have pk : ∀ k : Nat, k < 128 → PowOk (k : Int) g := fun k hk => powOk (c := 7) (k := 12) (by omega) (by decide) (by omega) (by decide)
  walk_at "rd"
  refine KR.rngNN 2 90 rfl rfl (by decide) (by decide) (KR.fwRa (fun k σ' H' => H' = H ∧ ∃ (l : Nat) (z : Option V), 1 ≤ l ∧ l < 90 ∧ l ^ g ≤ 1000000 ∧ σ' = [some (.ref t), some (.int m), some (.int n), some (.bl gr), some (.int kind), some (.int g), some (.int l), z, none, none, none, none, none, none])
    ⟨rfl, 1, none, by decide, by decide, by rw [Nat.one_pow]; decide, rfl⟩ (by decide) ?_ ?_)
  · rintro k σ' H' hk2 hk9 ⟨rfl, l, z, hl1, hl9, hlg, rfl⟩
    walk_at "rd"
    refine ⟨k, g, rfl, pk k (by omega), by omega, ?_⟩
    have ek : (k : Int) ^ g = ((k ^ g : Nat) : Int) := (Int.natCast_pow ..).symm
    rw [ek]
    walk_at "rd"
    rw [e6]
    refine KR.iteD (fun c => ?_) (fun c => ?_)
    · walk_at "rd"
      exact ⟨rfl, k, _, by omega, by omega, by omega, rfl⟩
    · walk_at "rd"
      exact ⟨rfl, l, _, hl1, hl9, hlg, rfl⟩
  rintro σ' H' ⟨rfl, l, z, hl1, hl9, hlg, rfl⟩
  have e60 : (2 : Nat) ^ 60 = 1152921504606846976 := by decide
  walk_at "rd"
  refine ⟨t, _, _, rfl, hp, by omega, log_ok (by omega), fun v1 H1 hv0 hv1 x1 p1 => ?_⟩
  obtain ⟨v1, rfl⟩ := Int.eq_ofNat_of_zero_le hv0
  walk_at "rd"
  refine ⟨t, _, _, rfl, p1, by omega, log_ok (by omega), fun v2 H2 hw0 hw1 x2 p2 => ?_⟩
  obtain ⟨v2, rfl⟩ := Int.eq_ofNat_of_zero_le hw0
  walk_at "rd"
  refine ⟨t, _, _, rfl, p2, by decide, log_ok (by decide), fun v3 H3 hs0 hs1 x3 p3 => ?_⟩
  have x13 := x1.trans (x2.trans x3)
  obtain ⟨w1, et, w1a, w1b⟩ : ∃ w1 : Nat, (1 : Int) + (v1 : Int) = (w1 : Int) ∧ 1 ≤ w1 ∧ w1 ≤ l := ⟨1 + v1, by omega, by omega, by omega⟩
  obtain ⟨w2, el, w2a, w2b⟩ : ∃ w2 : Nat, (1 : Int) + (v2 : Int) = (w2 : Int) ∧ 1 ≤ w2 ∧ w2 ≤ l := ⟨1 + v2, by omega, by omega, by omega⟩
  rw [et, el]
  walk_at "rd"
  refine ⟨(w2 : Int), g, rfl, pk _ (by omega), by omega, ?_⟩
  have ek2 : (w2 : Int) ^ g = ((w2 ^ g : Nat) : Int) := (Int.natCast_pow ..).symm
  have ek1 : (w1 : Int) ^ g = ((w1 ^ g : Nat) : Int) := (Int.natCast_pow ..).symm
  have k2 : w2 ^ g ≤ 1000000 := Nat.le_trans (Nat.pow_le_pow_left w2b g) hlg
  have k1 : w1 ^ g ≤ 1000000 := Nat.le_trans (Nat.pow_le_pow_left w1b g) hlg
  have k2' : 0 < w2 ^ g := Nat.pow_pos (by omega)
  have k1' : 0 < w1 ^ g := Nat.pow_pos (by omega)
  rw [ek2]
  generalize w2 ^ g = P2 at k2 k2'
  generalize w1 ^ g = P1 at k1 k1' ek1
  obtain ⟨s0, hs0'⟩ : ∃ s0 : Int, 1 + v3 = s0 := ⟨_, rfl⟩
  have bd : ∀ P : Nat, 0 < P → P ≤ 1000000 → 0 < (1 + v3) * (P : Int) ∧ (1 + v3) * (P : Int) ≤ 1000000000 := fun P h0 h1 => by
    refine ⟨Int.mul_pos (by omega) (by omega), ?_⟩
    have := Int.mul_le_mul (show 1 + v3 ≤ 900 by omega) (show (P : Int) ≤ 1000000 by omega) (by omega) (by decide)
    omega
  obtain ⟨bd1, bd2⟩ := bd P2 k2' k2
  obtain ⟨bd3, bd4⟩ := bd P1 k1' k1
  walk_at "rd"
  refine ⟨t, 2, 0, rfl, p3, by decide, by decide, fun sg H4 hg0' hg1' x4 p4 => ?_⟩
  walk_at "rd"
  refine ⟨(w1 : Int), g, rfl, pk _ (by omega), by omega, ?_⟩
  rw [ek1]
  walk_at "rd"
  refine ⟨t, 2, 0, rfl, p4, by decide, by decide, fun sh H5 hh0 hh1 x5 p5 => ?_⟩
  have x15 := x13.trans (x4.trans x5)
  obtain ⟨oa, na⟩ := okL_mul bd1 bd2 (sgn_draw hg0' hg1')
  obtain ⟨ob, nb⟩ := okL_mul bd3 bd4 (sgn_draw hh0 hh1)
  walk_at "rd"
  refine KR.cut (Mid := fun σ' H' => ∃ (a : Int), okL a ∧ a ≠ 0 ∧ ExB t H' H' ∧ ExB t H5 H' ∧ Pool H' t ∧ σ' = [some (.ref t), some (.int m), some (.int n), some (.bl gr), some (.int kind), some (.int g), some (.int l), z, some (.int w1), some (.int w2), some (.int (1 + v3)), some (.int a), some (.int ((1 + v3) * (P1 : Int) * (1 - 2 * sh))), none]) ?_ ?_
  · walk_at "rd"
    refine KR.iteD (fun c => ?_) (fun c => ?_)
    · have edv : (1 + v3) * (P2 : Int) * (1 - 2 * sg) / (1 + v3) = (P2 : Int) * (1 - 2 * sg) := by
        rw [Int.mul_assoc]
        exact Int.mul_ediv_cancel_left _ (by omega)
      walk_at "rd"
      rw [edv]
      refine ⟨t, 96, 1, rfl, p5, by decide, by decide, fun w' H6 hw0' hw1' x6 p6 => ?_⟩
      have hP : 0 < (P2 : Int) * (1 + w') ∧ (P2 : Int) * (1 + w') ≤ 1000000000 := by
        refine ⟨Int.mul_pos (by omega) (by omega), ?_⟩
        have := Int.mul_le_mul (show (P2 : Int) ≤ 1000000 by omega) (show 1 + w' ≤ 96 by omega) (by omega) (by decide)
        omega
      obtain ⟨o1, n1⟩ := okL_mul hP.1 hP.2 (sgn_draw hg0' hg1')
      have em : (P2 : Int) * (1 - 2 * sg) * (1 + w') = (P2 : Int) * (1 + w') * (1 - 2 * sg) := by ac_rfl
      walk_at "rd"
      rw [em]
      exact ⟨_, o1, n1, ExB.refl _ _, x6, p6, rfl⟩
    · walk_at "rd"
      exact ⟨_, oa, na, ExB.refl _ _, ExB.refl _ _, p5, rfl⟩
  rintro σ' H6 ⟨a, oa', na', _, x6, p6, rfl⟩
  have x16 := x15.trans x6
  refine KR.cut (Mid := fun σ' H' => ∃ (a b : Int) (z1 : Option V), okL a ∧ a ≠ 0 ∧ okL b ∧ b ≠ 0 ∧ ExB t H6 H' ∧ Pool H' t ∧ σ' = [some (.ref t), some (.int m), some (.int n), some (.bl gr), some (.int kind), some (.int g), some (.int l), z, some (.int w1), some (.int w2), some (.int (1 + v3)), some (.int a), some (.int b), z1]) ?_ ?_
  · walk_at "rd"
    refine KR.iteD (fun c => ?_) (fun c => ?_)
    · walk_at "rd"
      refine KR.cut (Mid := fun σ' H' => H' = H6 ∧ ∃ most : Int, 0 < most ∧ most ≤ 1000000000 ∧ σ' = [some (.ref t), some (.int m), some (.int n), some (.bl gr), some (.int kind), some (.int g), some (.int l), z, some (.int w1), some (.int w2), some (.int (1 + v3)), some (.int a), some (.int ((1 + v3) * (P1 : Int) * (1 - 2 * sh))), some (.int most)]) ?_ ?_
      · cases gr with
        | true =>
          walk_at "rd"
          rw [e9]
          exact ⟨rfl, 1000000000, by decide, by decide, rfl⟩
        | false =>
          walk_at "rd"
          exact ⟨rfl, 2000, by decide, by decide, rfl⟩
      rintro σ' H' ⟨rfl, most, hmo1, hmo2, rfl⟩
      walk_at "rd"
      refine ⟨t, _, _, rfl, p6, hmo1, log_ok (by omega), fun c1 H7 hc0 hc1 x7 p7 => ?_⟩
      walk_at "rd"
      refine ⟨t, 2, 0, rfl, p7, by decide, by decide, fun s1 H8 hs10 hs11 x8 p8 => ?_⟩
      obtain ⟨o1, n1⟩ := okL_mul (z := 1 + c1) (by omega) (by omega) (sgn_draw hs10 hs11)
      walk_at "rd"
      refine ⟨t, _, _, rfl, p8, hmo1, log_ok (by omega), fun c2 H9 hd0 hd1 x9 p9 => ?_⟩
      walk_at "rd"
      refine ⟨t, 2, 1, rfl, p9, by decide, by decide, fun s2 H10 hs20 hs21 x10 p10 => ?_⟩
      obtain ⟨o2, n2⟩ := okL_mul (z := 1 + c2) (by omega) (by omega) (sgn_draw hs20 hs21)
      walk_at "rd"
      exact ⟨_, _, _, o1, n1, o2, n2, x7.trans (x8.trans (x9.trans x10)), p10, rfl⟩
    · walk_at "rd"
      exact ⟨a, _, _, oa', na', ob, nb, ExB.refl _ _, p6, rfl⟩
  rintro σ' H7 ⟨a2, b2, z1, oa2, na2, ob2, nb2, x7, p7, rfl⟩
  walk_at "rd"
  refine ⟨by show (2 : Nat) ≤ sizeLine; decide, fun c hc => ?_⟩
  have y := Evl.Ex.new (o := .tup [.int a2, .int b2]) hc
  exact q c a2 b2 _ oa2 ob2 na2 nb2 upd_same ((x16.trans x7).trans (ExB.of y)) (p7.ex y)
def sp_law_same_primes : Sp := fun vs H Q _ => ∃ (N : Addr) (xs : List Int), vs = [.ref N] ∧ H N = some (.lst (xs.map V.int)) ∧ 1 ≤ xs.length ∧ xs.length ≤ 8 ∧ (∀ x ∈ xs, okL x) ∧ 0 ∉ xs ∧ (∀ f, DivL xs f → f ≤ 97) ∧ ∀ H2, Evl.Ex H H2 → Q (.bl true) H2
theorem ok_law_same_primes (T : Txt P K mg A) : FnOk P w K mg base CX0 10 A.a_law_same_primes A.d_law_same_primes ["numbers"] sp_law_same_primes := by
  refine T.F_law_same_primes.ok sc_law_same_primes (fun vs H Q E h => ?_) (fun cdv Ar outer s H vs Q E hr h => ?_)
  · obtain ⟨_, _, rfl, _⟩ := h; rfl
  have nd := sc_law_same_primes.nd
  obtain ⟨N, xs, rfl, hN, hl1, hl8, hok, h0, hle, q⟩ := h
  refine ⟨_, (pss_cons (ps_set (i := 1) nd rfl (.inl rfl) (pe_call (ok_law_primes T) (hr.mono (by decide)) (by rfl) T.g_law_primes T.k_law_primes T.b_law_primes .nil pass0 (pa_cons (pv 0) pa_nil)))
    (pss_cons (ps_setLc (i := 2) (own := [("prime", 5)]) (g := gName 5) rfl nd rfl rfl (sw_true rfl rfl rfl (by decide +kernel)) (pi_list (pv 1)) (blkOk_by (own := [("prime", 5)]) (N := ["numbers", "primes", "wide", "given", "told", "prime"]) (sc := defScope s_law_same_primes) (by decide +kernel)) (fun _ _ _ _ _ => pg_name (i := 5) nd rfl (Or.inl rfl)) (fun _ _ _ _ _ => (pts_one (pt_cmpR op_gt (pv 5) pe_int (nomark _)))) (fun _ _ _ _ _ => (pv 5)))
    (pss_cons (ps_if (pt_cmpR (op_neD hr.units) (pv 2) (pe_lst pa_nil) (nomark _)) (pss_one (ps_ret (pe_cmpR (op_eqD hr.units) (pe_call (ok_law_call T) (hr.mono (by decide)) (by rfl) T.g_law_call T.k_law_call T.b_law_call .nil pass0 (pa_cons pe_str (pa_cons (pe_callTy call_list_of (by rfl) T.n_list (by decide +kernel) (pa_cons (pv 0) pa_nil)) pa_nil))) (pe_tup (pa_cons pe_str (pa_cons (pe_ix ix_list (pv 2) pe_int (fun _ _ => rfl)) pa_nil))) (nomark _)))) pss_nil)
    (pss_cons (ps_set (i := 3) nd rfl (.inl rfl) (pe_callTy call_list_of (by rfl) T.n_list (by decide +kernel) (pa_cons (pv 0) pa_nil)))
    (pss_cons (ps_set (i := 4) nd rfl (.inl rfl) (pe_call (ok_told_primes T) (hr.mono (by decide)) (by rfl) T.g_told_primes T.k_told_primes T.b_told_primes .nil passN (pa_cons (pv 3) pa_nil)))
    (pss_cons (ps_if (PW.pt (pw_or (pt_not (pt_val (pe_call (ok_law_alike T) (hr.mono (by decide)) (by rfl) T.g_law_alike T.k_law_alike T.b_law_alike .nil pass0 (pa_cons (pv 4) (pa_cons (pv 1) pa_nil))))) (pw_or1 (pt_cmpR (op_neD hr.units) (pv 3) (pv 0) (nomark _))))) (pss_one (ps_ret pe_bl)) pss_nil)
    (pss_cons (ps_expr (pe_bm PySem.F.plainAttrs_list PySem.F.slot_list_append PySem.F.type_list_append mt_append (pv 4) (pa_cons pe_int pa_nil)))
    (pss_one (ps_ret (pe_call (ok_law_alike T) (hr.mono (by decide)) (by rfl) T.g_law_alike T.k_law_alike T.b_law_alike .nil pass0 (pa_cons (pe_call (ok_told_primes T) (hr.mono (by decide)) (by rfl) T.g_told_primes T.k_told_primes T.b_told_primes .nil passN (pa_cons (pe_callTy call_tuple_of (by rfl) T.n_tuple (by decide +kernel) (pa_cons (pv 0) pa_nil)) pa_nil)) (pa_cons (pv 1) pa_nil)))))))))))), ?_⟩
  walk_at "rd"
  refine ⟨N, xs, rfl, .inl (.inl hN), hok, h0, hl8, fun T1 ts H2 hT1 x2 lT hT hTl => ?_⟩
  have hws : ts.filter (fun x => decide (97 < x)) = [] := by
    rw [List.filter_eq_nil_iff]
    intro x hx
    have : x ≤ 97 := by
      rcases (hT.2 x).mp hx with rfl | h
      · decide
      · exact hle x h
    rw [decide_eq_false (by omega)]
    exact Bool.false_ne_true
  have lN2 := x2 _ _ hN
  walk_at "rd"
  refine KR.llistN (xs := ts.map V.int) (.inl (.inl lT)) (KR.lwL (fun k => decide (97 < ts.getD k 0)) (fun k => .int (ts.getD k 0)) (.inl (.inl lT)) (by rw [List.length_map]; omega) (fun _ => rfl) ?_ ?_ ?_)
  · intro k v H3 e3 hv H4 e4 Q' q'
    rw [at_getD hv]
    walk_at "rd"
    exact q' H4 (Evl.Ex.refl _)
  · intro k v H3 e3 hv hf H4 e4 Q' q'
    rw [at_getD hv]
    walk_at "rd"
    exact q' H4 (Evl.Ex.refl _)
  intro W H3 hW x3 lW
  rw [List.length_map, giv_whole (fun x => decide (97 < x)) (fun x => V.int x), hws] at lW
  have lT3 := x3 _ _ lT
  have x13 := x2.trans x3
  walk_at "rd"
  refine ⟨Nat.zero_le _, fun e1 he1 => ?_⟩
  have x4 := Evl.Ex.new (o := .lst []) he1
  have lW4 : (upd H3 e1 (.lst [])) W = some (.lst (([] : List Int).map V.int)) := x4 _ _ lW
  have le1 : (upd H3 e1 (.lst [])) e1 = some (.lst (([] : List Int).map V.int)) := upd_same
  have lT4 := x4 _ _ lT3
  have lN4 := x4 _ _ (x3 _ _ lN2)
  have x14 := x13.trans x4
  generalize upd H3 e1 _ = H4 at x4 lW4 le1 lT4 lN4 x14 ⊢
  refine ⟨_, _, .lst (.inl (.inl lW4)) (dp_ints _), .lst (.inl (.inl le1)) (dp_ints _), shaped_ints _, shaped_ints _, ?_⟩
  rw [eqv_nil]
  clear x2 x3 x4 lT lT3 lN2 x13 lW lW4 le1 hW he1
  walk_at "rd"
  refine KR.iteNT ?_
  walk_at "rd"
  refine ⟨N, _, rfl, .inl (.inl (.inl lN4)), fun G hG => ?_⟩
  have x5 := Evl.Ex.new (o := .lst (xs.map V.int)) hG
  have lG5 : (upd H4 G (.lst (xs.map V.int))) G = some (.lst (xs.map V.int)) := upd_same
  have lT5 := x5 _ _ lT4
  have lN5 := x5 _ _ lN4
  have x15 := x14.trans x5
  generalize upd H4 G _ = H5 at x5 lG5 lT5 lN5 x15 ⊢
  clear x5 lT4 lN4 x14 hG
  have tell : ∀ (b : Bool) (G : Addr) (H5 : Hp) (Q : VK) (E : XK), SqA b K H5 G (xs.map V.int) → (∀ L H6, H5 L = none → Evl.Ex H5 H6 → H6 L = some (.lst (ts.map V.int)) → Q (.ref L) H6) → sp_told_primes A K [.ref G] H5 Q E := fun b G H5 Q E hs q =>
    ⟨b, G, xs, rfl, hs, fun z => absurd ⟨hl1, hl8⟩ z, fun _ _ => ⟨fun j x hx _ hb => absurd (hok x (List.mem_of_getElem? hx)) hb, fun _ => ⟨fun z => absurd z h0, fun _ => ⟨fun f hf h97 _ _ _ => absurd (hle f hf) (by omega), fun _ L ts' H6 hL x6 lL hT' _ => q L H6 hL x6 (by rw [← hT'.uniq hT]; exact lL)⟩⟩⟩⟩
  walk_at "rd"
  refine tell true G H5 _ _ (SqA.l lG5) fun L H6 hL x6 lL => ?_
  have hLT : T1 ≠ L := fun z => by rw [z, hL] at lT5; cases lT5
  have hLN : N ≠ L := fun z => by rw [z, hL] at lN5; cases lN5
  walk_at "rd"
  refine ⟨L, T1, ts, rfl, lL, x6 _ _ lT5, hTl, fun H7 x7 => ?_⟩
  have x57 := x6.trans x7
  have lG7 := x57 _ _ lG5
  have lN7 := x57 _ _ lN5
  walk_at "rd"
  refine ⟨_, _, .lst (.inl (.inl lG7)) (dp_ints _), .lst (.inl (.inl lN7)) (dp_ints _), shaped_ints _, shaped_ints _, ?_⟩
  rw [eqv_lists]
  walk_at "rd"
  refine ⟨.inl ⟨rfl, _, .inl (.inl (x7 _ _ lL))⟩, ?_⟩
  walk_at "rd"
  refine ⟨L, _, _, rfl, rfl, x7 _ _ lL, by rw [List.length_map, sizeLine_eq]; omega, ?_⟩
  have x58 : Evl.Ex H5 (upd H7 L (.lst (ts.map V.int ++ [V.int 1]))) := Evl.Ex.mut x57 hL
  generalize upd H7 L _ = H8 at x58 ⊢
  have lT8 := x58 _ _ lT5
  have lN8 := x58 _ _ lN5
  have x18 := x15.trans x58
  walk_at "rd"
  refine ⟨N, _, rfl, .inl ⟨.inl (.inl lN8), fun U hU => ?_⟩⟩
  have x9 := Evl.Ex.new (o := .tup (xs.map V.int)) hU
  walk_at "rd"
  refine tell false U _ _ _ (SqA.t upd_same) fun L2 H10 hL2 x10 lL2 => ?_
  walk_at "rd"
  exact ⟨L2, T1, ts, rfl, lL2, x10 _ _ (x9 _ _ lT8), hTl, fun H11 x11 => q H11 (x18.trans (x9.trans (x10.trans x11)))⟩
end
end K9
namespace K9
open PySem PySem.Spec PyProof.Rows L2 K7
local macro_rules | `(tactic| walk_at "rc") => `(tactic| first
  | assumption
  | (show (0 : Int) < _; omega)
  | (show (0 : Int) < _ ∧ _ < (1073741824 : Int); exact ⟨by omega, by omega⟩)
  | (show (-(2 ^ 64 : Int) < _ ∧ _ < (2 ^ 64 : Int)) ∨ _; exact .inl ⟨by omega, by omega⟩)
  | (show _ ∨ (-(2 ^ 64 : Int) < _ ∧ _ < (2 ^ 64 : Int)); exact .inr ⟨by omega, by omega⟩)
  | (show (0 : Int) ≤ _ ∧ _ ≤ (1000000 : Int) ∧ _ < 2 ^ 64; exact ⟨by decide, by decide, by decide⟩))
local macro_rules | `(tactic| walk_at "rd") => `(tactic| repeat (first
  | with_reducible apply KR.seq
  | with_reducible apply KR.asg
  | with_reducible apply KR.drop
  | with_reducible apply KR.ret
  | with_reducible apply KR.retN
  | with_reducible apply KR.next
  | with_reducible apply KR.ifs
  | with_reducible refine KR.var rfl ?_
  | with_reducible refine L2.iteT ?_
  | with_reducible refine L2.iteF ?_
  | with_reducible refine KR.iteNF ?_
  | with_reducible refine KR.iteNT ?_
  | with_reducible apply KR.con
  | with_reducible apply KR.op
  | with_reducible apply KR.opI0
  | ((with_reducible refine KR.opI ?rc ?_); (case rc => walk_at "rc"))
  | with_reducible apply KR.un
  | with_reducible apply KR.unI
  | with_reducible apply KR.eqI
  | with_reducible apply KR.neI
  | with_reducible apply KR.test
  | with_reducible apply KR.tb'
  | with_reducible apply KR.exbl
  | with_reducible apply KR.and'
  | with_reducible apply KR.or'
  | with_reducible apply KR.not'
  | with_reducible apply KR.chain
  | with_reducible apply KR.call
  | with_reducible apply KR.callS
  | with_reducible apply KR.make
  | with_reducible apply KR.bm
  | with_reducible apply KR.errF
  | with_reducible apply KR.cons
  | with_reducible apply KR.nil
  | with_reducible apply KR.cb
  | with_reducible apply KR.cInt1
  | with_reducible apply KR.cI1
  | with_reducible apply KR.cI2
  | with_reducible apply KR.isi_ii
  | with_reducible apply KR.isi_ib
  | with_reducible apply KR.bits
  | with_reducible apply KR.exint
  | with_reducible apply KR.ifx
  | with_reducible refine KR.aug rfl ?_
  | with_reducible apply KR.ipI
  | with_reducible apply KR.for'
  | with_reducible apply KR.rng1
  | with_reducible apply KR.rng2
  | with_reducible apply KR.ilist
  | with_reducible apply KR.itup
  | with_reducible apply KR.iseq
  | with_reducible apply KR.gcd
  | with_reducible apply KR.tup
  | with_reducible apply KR.lst
  | with_reducible apply KR.andV
  | with_reducible apply KR.orV
  | with_reducible apply KR.notV
  | with_reducible apply KR.asgG
  | with_reducible apply KR.sub
  | with_reducible apply KR.fld
  | with_reducible apply KR.prop
  | with_reducible apply KR.meth
  | with_reducible apply KR.par
  | with_reducible apply KR.parN
  | with_reducible apply KR.raise1
  | with_reducible apply KR.raise0
  | with_reducible apply KR.exv
  | with_reducible apply KR.lc
  | with_reducible apply KR.ienT
  | with_reducible apply KR.sfld
  | with_reducible apply KR.sl
  | with_reducible apply KR.part
  | with_reducible apply KR.nopart
  | with_reducible apply KR.isNo
  | with_reducible refine KR.nnT ?_
  | with_reducible refine KR.niF ?_
  | with_reducible refine KR.nrF ?_
  | with_reducible refine KR.mnT ?_
  | with_reducible refine KR.miF ?_
  | with_reducible refine KR.mrF ?_))
theorem eqv_one (tg : Str) : PyData.eqv (.tuple [.str tg]) (.tuple [.str tg]) = true := by
  simp [PyData.eqv, PyData.eqvAll]
theorem shaped_one (tg : Str) (h : PyData.strOk tg = true := by decide +kernel) : SeqAt.shaped (.tuple [.str tg]) = true := by
  simp [SeqAt.shaped, PyData.canLay0, PyData.canLayAll0, PyData.depth, PyData.depthAll, h]
structure Askd (H0 H : Hp) (c : Addr) (k : Nat) : Prop where
  ex : Evl.Ex H0 H
  fr : H0 c = none
  at' : H c = some (.lst ((List.replicate k true).map V.bl))
theorem Askd.go {H0 H H2 : Hp} {c : Addr} {k : Nat} (h : Askd H0 H c k) (e : Evl.Ex H H2) : Askd H0 H2 c k := ⟨h.ex.trans e, h.fr, e _ _ h.at'⟩
theorem Askd.add {H0 H : Hp} {c : Addr} {k : Nat} (h : Askd H0 H c k) : Askd H0 (L2.upd H c (.lst ((List.replicate k true).map V.bl ++ [V.bl true]))) c (k + 1) :=
  ⟨Evl.Ex.mut h.ex h.fr, h.fr, by rw [upd_same, List.replicate_succ', List.map_append]; rfl⟩
theorem Askd.sz {H0 H : Hp} {c : Addr} {k : Nat} (_h : Askd H0 H c k) (hk : k < 1000) : ((List.replicate k true).map V.bl).length < sizeLine := by
  rw [List.length_map, List.length_replicate, sizeLine_eq]
  omega
theorem rng_rep (n : Nat) (x : Int) : (List.range n).map (fun _ => V.int x) = (List.replicate n x).map V.int := by
  rw [List.map_replicate, List.map_const', List.length_range]
def largeN : List Nat := [103, 101, 107, 109, 997, 10007]
theorem pr_large {n : Nat} (h : n ∈ largeN) : Pr n ∧ 101 ≤ n ∧ n ≤ 10007 := by
  have tab : ∀ n ∈ largeN, 101 ≤ n ∧ n ≤ 10007 ∧ ∀ d, d < 101 → 2 ≤ d → n % d ≠ 0 := by decide +kernel
  obtain ⟨h1, h2, h3⟩ := tab n h
  refine ⟨low_end (d := 101) (by omega) (fun q hq hd => ?_) (by omega), h1, h2⟩
  rcases Nat.lt_or_ge q 101 with c | c
  · exact absurd (Nat.mod_eq_zero_of_dvd hd) (h3 q c hq.two)
  · exact c
theorem pr_100 {n : Nat} (h : n ∈ [101, 113, 127]) : Pr n := by
  have tab : ∀ n ∈ [101, 113, 127], 1 < n ∧ n < 100 * 100 ∧ ∀ d, d < 100 → 2 ≤ d → n % d ≠ 0 := by decide +kernel
  obtain ⟨h1, h2, h3⟩ := tab n h
  refine low_end h1 (fun q hq hd => ?_) h2
  rcases Nat.lt_or_ge q 100 with c | c
  · exact absurd (Nat.mod_eq_zero_of_dvd hd) (h3 q c hq.two)
  · exact c
theorem ans_three {n : Nat} (h : n ∈ largeN) {f : Int} (hf : f = if (n : Int) < 113 then (n : Int) else 113) : Ans "primes" [6, 113 * 127, (n : Int) * 2] "prime" (some f) := by
  obtain ⟨hp, h1, h2⟩ := pr_large h
  have p113 := pr_100 (n := 113) (by decide)
  have p127 := pr_100 (n := 127) (by decide)
  have e2 : ((n : Int) * 2).natAbs = n * 2 := by omega
  have e3 : (113 * 127 : Int).natAbs = 113 * 127 := rfl
  have e4 : (6 : Int).natAbs = 6 := rfl
  refine .inl ⟨rfl, .prm (by show (1 : Nat) ≤ 3; decide) (by show (3 : Nat) ≤ 8; decide) (fun x hx => ?_) (fun z => ?_) ?_ ?_ ?_⟩
  · simp only [List.mem_cons, List.not_mem_nil, or_false] at hx
    rcases hx with rfl | rfl | rfl <;> constructor <;> omega
  · simp only [List.mem_cons, List.not_mem_nil, or_false] at z
    omega
  · by_cases c : (n : Int) < 113
    · rw [hf, if_pos c]
      exact ⟨n, rfl, hp, (n : Int) * 2, by simp, by rw [e2]; exact Nat.dvd_mul_right _ _⟩
    · rw [hf, if_neg c]
      exact ⟨113, rfl, p113, 113 * 127, by simp, by rw [e3]; exact Nat.dvd_mul_right _ _⟩
  · rw [hf]
    split <;> omega
  · rintro g ⟨q, rfl, hq, c, hc, hd⟩ hg
    have small : ∀ m : Nat, 0 < m → m ≤ 97 → q ∣ m → False := fun m h0 h9 hd => by
      have := Nat.le_of_dvd h0 hd
      omega
    have key : q = 113 ∨ q = 127 ∨ q = n := by
      simp only [List.mem_cons, List.not_mem_nil, or_false] at hc
      rcases hc with rfl | rfl | rfl
      · exact (small 6 (by decide) (by decide) hd).elim
      · rw [e3] at hd
        rcases hq.mul hd with z | z
        · exact .inl (Pr.eq hq p113 z)
        · exact .inr (.inl (Pr.eq hq p127 z))
      · rw [e2] at hd
        rcases hq.mul hd with z | z
        · exact .inr (.inr (Pr.eq hq hp z))
        · exact (small 2 (by decide) (by decide) z).elim
    rw [hf]
    split <;> omega
theorem ans_last {n : Nat} (h : n ∈ largeN) {w : Str} (hw : w = "bars" ∨ w = "solution") : Ans w [-(n : Int), 2, 10201, 2] "prime" (some 101) := by
  obtain ⟨hp, h1, h2⟩ := pr_large h
  have p101 := pr_100 (n := 101) (by decide)
  have e1 : (-(n : Int)).natAbs = n := by omega
  have e2 : (10201 : Int).natAbs = 101 * 101 := rfl
  refine .inr ⟨hw, _, _, _, _, rfl, .p ⟨by omega, by omega⟩ ⟨by decide, by decide⟩ ⟨by decide, by decide⟩ ⟨by decide, by decide⟩ (by omega) (by decide) ⟨101, rfl, p101, 10201, by simp, by rw [e2]; exact Nat.dvd_mul_right _ _⟩ (by decide) ?_⟩
  rintro g ⟨q, rfl, hq, c, hc, hd⟩ hg
  simp only [List.mem_cons, List.not_mem_nil, or_false] at hc
  rcases hc with rfl | rfl
  · rw [e1] at hd
    have := Pr.eq hq hp hd
    omega
  · rw [e2] at hd
    have := (hq.mul hd).elim (fun z => Pr.eq hq p101 z) (fun z => Pr.eq hq p101 z)
    omega
theorem eight_ok : (∀ x ∈ ([97, -89, 1, -1, 1000000000, -1000000000, 64, 81] : List Int), okL x) ∧ (0 : Int) ∉ ([97, -89, 1, -1, 1000000000, -1000000000, 64, 81] : List Int) ∧ ∀ f, DivL [97, -89, 1, -1, 1000000000, -1000000000, 64, 81] f → f ≤ 97 := by
  refine ⟨?_, by decide, ?_⟩
  · intro x hx
    simp only [List.mem_cons, List.not_mem_nil, or_false] at hx
    rcases hx with rfl | rfl | rfl | rfl | rfl | rfl | rfl | rfl <;> constructor <;> decide
  · rintro f ⟨q, rfl, hq, c, hc, hd⟩
    have sm : ∀ m : Nat, 0 < m → m ≤ 97 → q ∣ m → (q : Int) ≤ 97 := fun m h0 h9 hd => by
      have := Nat.le_of_dvd h0 hd
      omega
    have big : q ∣ 1000000000 → (q : Int) ≤ 97 := fun hd => by
      have e : 1000000000 = 10 ^ 9 := by decide
      rw [e] at hd
      exact sm 10 (by decide) (by decide) (Pr.dvd_pow hq hd)
    simp only [List.mem_cons, List.not_mem_nil, or_false] at hc
    rcases hc with rfl | rfl | rfl | rfl | rfl | rfl | rfl | rfl
    · exact sm 97 (by decide) (by decide) hd
    · exact sm 89 (by decide) (by decide) hd
    · exact sm 1 (by decide) (by decide) hd
    · exact sm 1 (by decide) (by decide) hd
    · exact big hd
    · exact big hd
    · exact sm 64 (by decide) (by decide) hd
    · exact sm 81 (by decide) (by decide) hd
section
variable {P : Program} {w : World} {K : PySem.W.Frag} {mg : Str → Option Value} {base : Heap} {A : Ad}
def sp_law_refused : Sp := fun vs H Q _ => ∃ (t : Addr), vs = [.ref t] ∧ Pool H t ∧ ∀ H2, Q (.bl true) H2
theorem ok_law_refused (T : Txt P K mg A) : FnOk P w K mg base CX0 11 A.a_law_refused A.d_law_refused ["pool"] sp_law_refused := by
  refine T.F_law_refused.ok sc_law_refused (fun vs H Q E h => ?_) (fun cdv Ar outer s H vs Q E hr h => ?_)
  · obtain ⟨_, rfl, _⟩ := h; rfl
  have nd := sc_law_refused.nd
  obtain ⟨t, rfl, hp, q⟩ := h
  have e6 : (10 : Int) ^ Int.toNat 6 = 1000000 := by decide
  have e9 : (10 : Int) ^ Int.toNat 9 = 1000000000 := by decide
  refine ⟨_, (pss_cons (ps_set (i := 1) nd rfl (.inl rfl) (pe_op op_add pe_int (pe_call (ok_law_draw T) (hr.mono (by decide)) (by rfl) T.g_law_draw T.k_law_draw T.b_law_draw .nil pass0 (pa_cons (pv 0) (pa_cons (pe_op op_pow pe_int pe_int) (pa_cons pe_int pa_nil))))))
    (pss_cons (ps_set (i := 2) nd rfl (.inl rfl) (pe_op op_sub pe_int (pe_op op_mul pe_int (pe_call (ok_law_draw T) (hr.mono (by decide)) (by rfl) T.g_law_draw T.k_law_draw T.b_law_draw .nil pass0 (pa_cons (pv 0) (pa_cons pe_int (pa_cons pe_int pa_nil)))))))
    (pss_cons (ps_set (i := 3) nd rfl (.inr rfl) (pe_op op_mul (pv 2) (pe_op op_add (pe_op op_pow pe_int pe_int) (pv 1))))
    (pss_cons (ps_setLc (i := 4) (own := [("k", 11)]) (g := gName 11) (tt := tYes) rfl nd rfl rfl (sw_true rfl rfl rfl (by decide +kernel)) (pi_range1 (by rfl) T.n_range (pa_cons (pe_op op_add pe_int (pe_call (ok_law_draw T) (hr.mono (by decide)) (by rfl) T.g_law_draw T.k_law_draw T.b_law_draw .nil pass0 (pa_cons (pv 0) (pa_cons pe_int (pa_cons pe_int pa_nil))))) pa_nil)) (blkOk_by (own := [("k", 11)]) (N := ["pool", "more", "sign", "far", "many", "place", "bent", "zero", "large", "asked", "word", "k"]) (sc := defScope s_law_refused) (by decide +kernel)) (fun _ _ _ _ _ => pg_name (i := 11) nd rfl (Or.inl rfl)) (fun _ _ _ _ _ => pts_nil) (fun _ _ _ _ _ => (pv 3)))
    (pss_cons (ps_set (i := 5) nd rfl (.inl rfl) (pe_call (ok_law_draw T) (hr.mono (by decide)) (by rfl) T.g_law_draw T.k_law_draw T.b_law_draw .nil pass0 (pa_cons (pv 0) (pa_cons pe_int (pa_cons pe_int pa_nil)))))
    (pss_cons (ps_set (i := 6) nd rfl (.inl rfl) (pe_op op_cat (pe_op op_cat (pe_lc (own := [("k", 11)]) (g := gName 11) (tt := tYes) rfl nd (pi_range1 (by rfl) T.n_range (pa_cons (pv 5) pa_nil)) (blkOk_by (own := [("k", 11)]) (N := ["pool", "more", "sign", "far", "many", "place", "bent", "zero", "large", "asked", "word", "k"]) (sc := defScope s_law_refused) (by decide +kernel)) (fun _ _ _ _ _ => pg_name (i := 11) nd rfl (Or.inl rfl)) (fun _ _ _ _ _ => pts_nil) (fun _ _ _ _ _ => pe_int)) (pe_lst (pa_cons (pv 3) pa_nil))) (pe_lc (own := [("k", 11)]) (g := gName 11) (tt := tYes) rfl nd (pi_range1 (by rfl) T.n_range (pa_cons (pe_op op_sub pe_int (pv 5)) pa_nil)) (blkOk_by (own := [("k", 11)]) (N := ["pool", "more", "sign", "far", "many", "place", "bent", "zero", "large", "asked", "word", "k"]) (sc := defScope s_law_refused) (by decide +kernel)) (fun _ _ _ _ _ => pg_name (i := 11) nd rfl (Or.inl rfl)) (fun _ _ _ _ _ => pts_nil) (fun _ _ _ _ _ => pe_int))))
    (pss_cons (ps_set (i := 7) nd rfl (.inl rfl) (pe_op op_cat (pe_op op_cat (pe_lc (own := [("k", 11)]) (g := gName 11) (tt := tYes) rfl nd (pi_range1 (by rfl) T.n_range (pa_cons (pv 5) pa_nil)) (blkOk_by (own := [("k", 11)]) (N := ["pool", "more", "sign", "far", "many", "place", "bent", "zero", "large", "asked", "word", "k"]) (sc := defScope s_law_refused) (by decide +kernel)) (fun _ _ _ _ _ => pg_name (i := 11) nd rfl (Or.inl rfl)) (fun _ _ _ _ _ => pts_nil) (fun _ _ _ _ _ => pe_int)) (pe_lst (pa_cons pe_int pa_nil))) (pe_lc (own := [("k", 11)]) (g := gName 11) (tt := tYes) rfl nd (pi_range1 (by rfl) T.n_range (pa_cons (pe_op op_sub pe_int (pv 5)) pa_nil)) (blkOk_by (own := [("k", 11)]) (N := ["pool", "more", "sign", "far", "many", "place", "bent", "zero", "large", "asked", "word", "k"]) (sc := defScope s_law_refused) (by decide +kernel)) (fun _ _ _ _ _ => pg_name (i := 11) nd rfl (Or.inl rfl)) (fun _ _ _ _ _ => pts_nil) (fun _ _ _ _ _ => pe_int))))
    (pss_cons (ps_set (i := 8) nd rfl (.inl rfl) (pe_ix ix_list (pe_lst (pa_cons pe_int (pa_cons pe_int (pa_cons pe_int (pa_cons pe_int (pa_cons pe_int (pa_cons pe_int pa_nil))))))) (pe_call (ok_law_draw T) (hr.mono (by decide)) (by rfl) T.g_law_draw T.k_law_draw T.b_law_draw .nil pass0 (pa_cons (pv 0) (pa_cons pe_int (pa_cons pe_int pa_nil)))) (fun _ _ => rfl)))
    (pss_cons (ps_set (i := 9) nd rfl (.inl rfl) (pe_lst (pa_cons (pe_cmpR (op_eqD hr.units) (pe_call (ok_law_call T) (hr.mono (by decide)) (by rfl) T.g_law_call T.k_law_call T.b_law_call .nil pass0 (pa_cons pe_str (pa_cons (pe_lst pa_nil) pa_nil))) (pe_tup (pa_cons pe_str (pa_cons pe_int pa_nil))) (nomark _)) pa_nil)))
    (pss_cons (ps_expr (pe_bm PySem.F.plainAttrs_list PySem.F.slot_list_append PySem.F.type_list_append mt_append (pv 9) (pa_cons (pe_cmpR (op_eqD hr.units) (pe_call (ok_law_call T) (hr.mono (by decide)) (by rfl) T.g_law_call T.k_law_call T.b_law_call .nil pass0 (pa_cons pe_str (pa_cons (pv 4) pa_nil))) (pe_tup (pa_cons pe_str (pa_cons (pe_callB call_len_seq (by rfl) T.n_len PySem.boot_len (pa_cons (pv 4) pa_nil)) pa_nil))) (nomark _)) pa_nil)))
    (pss_cons (ps_expr (pe_bm PySem.F.plainAttrs_list PySem.F.slot_list_append PySem.F.type_list_append mt_append (pv 9) (pa_cons (pe_cmpR (op_eqD hr.units) (pe_call (ok_law_call T) (hr.mono (by decide)) (by rfl) T.g_law_call T.k_law_call T.b_law_call .nil pass0 (pa_cons pe_str (pa_cons (pv 6) pa_nil))) (pe_tup (pa_cons pe_str (pa_cons (pv 3) pa_nil))) (nomark _)) pa_nil)))
    (pss_cons (ps_expr (pe_bm PySem.F.plainAttrs_list PySem.F.slot_list_append PySem.F.type_list_append mt_append (pv 9) (pa_cons (pe_cmpR (op_eqD hr.units) (pe_call (ok_law_call T) (hr.mono (by decide)) (by rfl) T.g_law_call T.k_law_call T.b_law_call .nil pass0 (pa_cons pe_str (pa_cons (pe_callTy call_tuple_of (by rfl) T.n_tuple (by decide +kernel) (pa_cons (pv 7) pa_nil)) pa_nil))) (pe_tup (pa_cons pe_str pa_nil)) (nomark _)) pa_nil)))
    (pss_cons (ps_expr (pe_bm PySem.F.plainAttrs_list PySem.F.slot_list_append PySem.F.type_list_append mt_append (pv 9) (pa_cons (pe_cmpR (op_eqD hr.units) (pe_call (ok_law_call T) (hr.mono (by decide)) (by rfl) T.g_law_call T.k_law_call T.b_law_call .nil pass0 (pa_cons pe_str (pa_cons (pe_lst (pa_cons pe_int (pa_cons (pe_op op_mul pe_int pe_int) (pa_cons (pe_op op_mul (pv 8) pe_int) pa_nil)))) pa_nil))) (pe_tup (pa_cons pe_str (pa_cons (pe_callB (call_min2 rfl) (by rfl) T.n_min (by decide +kernel) (pa_cons pe_int (pa_cons (pv 8) pa_nil))) pa_nil))) (nomark _)) pa_nil)))
    (pss_cons (ps_expr (pe_bm PySem.F.plainAttrs_list PySem.F.slot_list_append PySem.F.type_list_append mt_append (pv 9) (pa_cons (pe_call (ok_law_same_primes T) (hr.mono (by decide)) (by rfl) T.g_law_same_primes T.k_law_same_primes T.b_law_same_primes .nil pass0 (pa_cons (pe_lst (pa_cons pe_int (pa_cons (pe_un un_neg pe_int) (pa_cons pe_int (pa_cons (pe_un un_neg pe_int) (pa_cons (pe_op op_pow pe_int pe_int) (pa_cons (pe_un un_neg (pe_op op_pow pe_int pe_int)) (pa_cons pe_int (pa_cons pe_int pa_nil))))))))) pa_nil)) pa_nil)))
    (pss_cons (ps_for PassesOwn.never rfl (pi_list (pe_lst (pa_cons pe_str (pa_cons pe_str pa_nil)))) (pg_name (i := 10) nd rfl (Or.inl rfl)) (pss_cons (ps_expr (pe_bm PySem.F.plainAttrs_list PySem.F.slot_list_append PySem.F.type_list_append mt_append (pv 9) (pa_cons (pe_cmpR (op_eqD hr.units) (pe_call (ok_law_call T) (hr.mono (by decide)) (by rfl) T.g_law_call T.k_law_call T.b_law_call .nil pass0 (pa_cons (pv 10) (pa_cons (pe_lst (pa_cons (pv 3) (pa_cons pe_int (pa_cons (pv 3) (pa_cons pe_int pa_nil))))) pa_nil))) (pe_tup (pa_cons pe_str (pa_cons (pv 3) pa_nil))) (nomark _)) pa_nil)))
    (pss_cons (ps_expr (pe_bm PySem.F.plainAttrs_list PySem.F.slot_list_append PySem.F.type_list_append mt_append (pv 9) (pa_cons (pe_cmpR (op_eqD hr.units) (pe_call (ok_law_call T) (hr.mono (by decide)) (by rfl) T.g_law_call T.k_law_call T.b_law_call .nil pass0 (pa_cons (pv 10) (pa_cons (pe_lst (pa_cons pe_int (pa_cons (pe_op op_sub pe_int (pv 1)) (pa_cons (pv 3) (pa_cons pe_int pa_nil))))) pa_nil))) (pe_tup (pa_cons pe_str (pa_cons (pe_op op_sub pe_int (pv 1)) pa_nil))) (nomark _)) pa_nil)))
    (pss_cons (ps_expr (pe_bm PySem.F.plainAttrs_list PySem.F.slot_list_append PySem.F.type_list_append mt_append (pv 9) (pa_cons (pe_cmpR (op_eqD hr.units) (pe_call (ok_law_call T) (hr.mono (by decide)) (by rfl) T.g_law_call T.k_law_call T.b_law_call .nil pass0 (pa_cons (pv 10) (pa_cons (pe_lst (pa_cons pe_int (pa_cons (pe_op op_add pe_int (pv 1)) (pa_cons (pv 3) (pa_cons pe_int pa_nil))))) pa_nil))) (pe_tup (pa_cons pe_str (pa_cons (pe_op op_add pe_int (pv 1)) pa_nil))) (nomark _)) pa_nil)))
    (pss_cons (ps_expr (pe_bm PySem.F.plainAttrs_list PySem.F.slot_list_append PySem.F.type_list_append mt_append (pv 9) (pa_cons (pe_cmpR (op_eqD hr.units) (pe_call (ok_law_call T) (hr.mono (by decide)) (by rfl) T.g_law_call T.k_law_call T.b_law_call .nil pass0 (pa_cons (pv 10) (pa_cons (pe_lst (pa_cons pe_int (pa_cons pe_int (pa_cons (pv 3) (pa_cons pe_int pa_nil))))) pa_nil))) (pe_tup (pa_cons pe_str (pa_cons (pv 3) pa_nil))) (nomark _)) pa_nil)))
    (pss_cons (ps_expr (pe_bm PySem.F.plainAttrs_list PySem.F.slot_list_append PySem.F.type_list_append mt_append (pv 9) (pa_cons (pe_cmpR (op_eqD hr.units) (pe_call (ok_law_call T) (hr.mono (by decide)) (by rfl) T.g_law_call T.k_law_call T.b_law_call .nil pass0 (pa_cons (pv 10) (pa_cons (pe_lst (pa_cons pe_int (pa_cons pe_int (pa_cons pe_int (pa_cons (pe_op op_add pe_int (pv 1)) pa_nil))))) pa_nil))) (pe_tup (pa_cons pe_str (pa_cons (pe_op op_add pe_int (pv 1)) pa_nil))) (nomark _)) pa_nil)))
    (pss_cons (ps_expr (pe_bm PySem.F.plainAttrs_list PySem.F.slot_list_append PySem.F.type_list_append mt_append (pv 9) (pa_cons (pe_cmpR (op_eqD hr.units) (pe_call (ok_law_call T) (hr.mono (by decide)) (by rfl) T.g_law_call T.k_law_call T.b_law_call .nil pass0 (pa_cons (pv 10) (pa_cons (pe_lst (pa_cons pe_int (pa_cons pe_int (pa_cons pe_int (pa_cons (pe_op op_sub pe_int (pv 1)) pa_nil))))) pa_nil))) (pe_tup (pa_cons pe_str (pa_cons (pe_op op_sub pe_int (pv 1)) pa_nil))) (nomark _)) pa_nil)))
    (pss_cons (ps_expr (pe_bm PySem.F.plainAttrs_list PySem.F.slot_list_append PySem.F.type_list_append mt_append (pv 9) (pa_cons (pe_cmpR (op_eqD hr.units) (pe_call (ok_law_call T) (hr.mono (by decide)) (by rfl) T.g_law_call T.k_law_call T.b_law_call .nil pass0 (pa_cons (pv 10) (pa_cons (pe_lst (pa_cons pe_int (pa_cons pe_int (pa_cons pe_int (pa_cons pe_int pa_nil))))) pa_nil))) (pe_tup (pa_cons pe_str pa_nil)) (nomark _)) pa_nil)))
    (pss_cons (ps_expr (pe_bm PySem.F.plainAttrs_list PySem.F.slot_list_append PySem.F.type_list_append mt_append (pv 9) (pa_cons (pe_cmpR (op_eqD hr.units) (pe_call (ok_law_call T) (hr.mono (by decide)) (by rfl) T.g_law_call T.k_law_call T.b_law_call .nil pass0 (pa_cons (pv 10) (pa_cons (pe_lst (pa_cons (pv 8) (pa_cons pe_int (pa_cons pe_int (pa_cons pe_int pa_nil))))) pa_nil))) (pe_tup (pa_cons pe_str pa_nil)) (nomark _)) pa_nil)))
    (pss_one (ps_expr (pe_bm PySem.F.plainAttrs_list PySem.F.slot_list_append PySem.F.type_list_append mt_append (pv 9) (pa_cons (pe_cmpR (op_eqD hr.units) (pe_call (ok_law_call T) (hr.mono (by decide)) (by rfl) T.g_law_call T.k_law_call T.b_law_call .nil pass0 (pa_cons (pv 10) (pa_cons (pe_lst (pa_cons (pe_un un_neg (pv 8)) (pa_cons pe_int (pa_cons pe_int (pa_cons pe_int pa_nil))))) pa_nil))) (pe_tup (pa_cons pe_str (pa_cons pe_int pa_nil))) (nomark _)) pa_nil)))))))))))))
    (pss_one (ps_ret (pe_callB (cr_all rfl) (by rfl) T.n_all (by decide +kernel) (pa_cons (pv 9) pa_nil))))))))))))))))))), ?_⟩
  walk_at "rd"
  refine ⟨t, _, _, rfl, hp, by decide, by decide, fun v1 H1 hv0 hv1 x1 p1 => ?_⟩
  rw [e6] at hv1
  obtain ⟨more, hmore, hm1, hm2⟩ : ∃ more : Int, 1 + v1 = more ∧ 1 ≤ more ∧ more ≤ 1000000 := ⟨_, rfl, by omega, by omega⟩
  walk_at "rd"
  rw [hmore]
  refine ⟨t, 2, 0, rfl, p1, by decide, by decide, fun v2 H2 hw0 hw1 x2 p2 => ?_⟩
  have hsg := sgn_draw hw0 hw1
  walk_at "rd"
  rw [e9]
  obtain ⟨far, hfar, nfar⟩ : ∃ far : Int, (1 - 2 * v2) * (1000000000 + more) = far ∧ ¬ okL far := ⟨_, rfl, fun z => by
    rcases hsg with h | h
    · rw [h, Int.one_mul] at z; have := z.2; omega
    · rw [h, Int.neg_mul, Int.one_mul] at z; have := z.1; omega⟩
  rw [hfar]
  walk_at "rd"
  refine ⟨t, 20, 0, rfl, p2, by decide, by decide, fun v3 H3 hs0 hs1 x3 p3 => ?_⟩
  obtain ⟨v3, rfl⟩ := Int.eq_ofNat_of_zero_le hs0
  walk_at "rd"
  refine KR.lrngI (9 + v3) (by omega) (by omega) (KR.lwR (a := 0) (n := 9 + v3) (fun _ => true) (fun _ => .int far) (by omega) (fun _ => rfl) (fun _ _ _ _ _ => KR.etYes) ?_ ?_)
  · intro k H4 e4 _ hk _ H5 e5 Q' q'
    walk_at "rd"
    exact q' H5 (Evl.Ex.refl H5)
  intro Lm H4 hLm x4 lm
  rw [Nat.sub_zero, KR.giv_all _ (fun _ => rfl), rng_rep] at lm
  have p4 := p3.ex x4
  have hLmt := p3.ne hLm
  clear x3 x2 x1 p1 p2 p3 hp
  walk_at "rd"
  refine ⟨t, 8, 3, rfl, p4, by decide, by decide, fun j H5 hj0 hj1 x5 p5 => ?_⟩
  obtain ⟨j, rfl⟩ := Int.eq_ofNat_of_zero_le hj0
  have lm5 := x5 _ _ hLmt lm
  clear x5 lm
  walk_at "rd"
  refine KR.lrngI j rfl (by omega) (KR.lwR (a := 0) (n := j) (fun _ => true) (fun _ => .int 101) (by omega) (fun _ => rfl) (fun _ _ _ _ _ => KR.etYes) ?_ ?_)
  · intro k H6 e6' _ hk _ H7 e7 Q' q'
    walk_at "rd"
    exact q' H7 (Evl.Ex.refl H7)
  intro a1 G1 ha1 y1 la1
  rw [Nat.sub_zero, KR.giv_all _ (fun _ => rfl), rng_rep] at la1
  walk_at "rd"
  refine ⟨by show (1 : Nat) ≤ sizeLine; decide, fun a2 ha2 => ?_⟩
  have y2 := Evl.Ex.new (o := .lst [.int far]) ha2
  have la2 : (upd G1 a2 (.lst [.int far])) a2 = some (.lst (([far] : List Int).map V.int)) := upd_same
  have la1' := y2 _ _ la1
  have y12 := y1.trans y2
  generalize upd G1 a2 _ = G2 at la2 la1' y12 ⊢
  refine ⟨a1, a2, _, _, rfl, rfl, la1', la2, by rw [List.length_map, List.length_replicate, sizeLine_eq]; show j + 1 ≤ _; omega, fun a3 ha3 => ?_⟩
  have y3 := Evl.Ex.new (o := .lst ((List.replicate j (101 : Int)).map V.int ++ ([far] : List Int).map V.int)) ha3
  have la3 : (upd G2 a3 (.lst ((List.replicate j (101 : Int)).map V.int ++ ([far] : List Int).map V.int))) a3 = some (.lst ((List.replicate j (101 : Int) ++ [far]).map V.int)) := by rw [upd_same, List.map_append]
  have y13 := y12.trans y3
  generalize upd G2 a3 _ = G3 at la3 y13 ⊢
  walk_at "rd"
  refine KR.lrngI (7 - j) (by omega) (by omega) (KR.lwR (a := 0) (n := 7 - j) (fun _ => true) (fun _ => .int 0) (by omega) (fun _ => rfl) (fun _ _ _ _ _ => KR.etYes) ?_ ?_)
  · intro k H6 e6' _ hk _ H7 e7 Q' q'
    walk_at "rd"
    exact q' H7 (Evl.Ex.refl H7)
  intro a4 G4 ha4 y4 la4
  rw [Nat.sub_zero, KR.giv_all _ (fun _ => rfl), rng_rep] at la4
  refine ⟨a3, a4, _, _, rfl, rfl, y4 _ _ la3, la4, by rw [List.length_map, List.length_map, List.length_append, List.length_replicate, List.length_replicate, sizeLine_eq]; show j + 1 + (7 - j) ≤ _; omega, fun Lb ha5 => ?_⟩
  have y5 := Evl.Ex.new (o := .lst ((List.replicate j (101 : Int) ++ [far]).map V.int ++ (List.replicate (7 - j) (0 : Int)).map V.int)) ha5
  have lLb : (upd G4 Lb (.lst ((List.replicate j (101 : Int) ++ [far]).map V.int ++ (List.replicate (7 - j) (0 : Int)).map V.int))) Lb = some (.lst ((List.replicate j (101 : Int) ++ [far] ++ List.replicate (7 - j) (0 : Int)).map V.int)) := by rw [upd_same]; simp only [List.map_append]
  have zLb := y13.trans (y4.trans y5)
  have hLbt : Lb ≠ t := (p5.ex (y13.trans y4)).ne ha5
  generalize upd G4 Lb _ = H6 at lLb zLb ⊢
  clear y1 la1 y2 la2 la1' y12 y3 la3 y13 y4 la4 y5 ha1 ha2 ha3 ha4 ha5
  walk_at "rd"
  refine KR.lrngI j rfl (by omega) (KR.lwR (a := 0) (n := j) (fun _ => true) (fun _ => .int 101) (by omega) (fun _ => rfl) (fun _ _ _ _ _ => KR.etYes) ?_ ?_)
  · intro k H6 e6' _ hk _ H7 e7 Q' q'
    walk_at "rd"
    exact q' H7 (Evl.Ex.refl H7)
  intro a1 G1 ha1 y1 la1
  rw [Nat.sub_zero, KR.giv_all _ (fun _ => rfl), rng_rep] at la1
  walk_at "rd"
  refine ⟨by show (1 : Nat) ≤ sizeLine; decide, fun a2 ha2 => ?_⟩
  have y2 := Evl.Ex.new (o := .lst [.int 0]) ha2
  have la2 : (upd G1 a2 (.lst [.int 0])) a2 = some (.lst (([0] : List Int).map V.int)) := upd_same
  have la1' := y2 _ _ la1
  have y12 := y1.trans y2
  generalize upd G1 a2 _ = G2 at la2 la1' y12 ⊢
  refine ⟨a1, a2, _, _, rfl, rfl, la1', la2, by rw [List.length_map, List.length_replicate, sizeLine_eq]; show j + 1 ≤ _; omega, fun a3 ha3 => ?_⟩
  have y3 := Evl.Ex.new (o := .lst ((List.replicate j (101 : Int)).map V.int ++ ([0] : List Int).map V.int)) ha3
  have la3 : (upd G2 a3 (.lst ((List.replicate j (101 : Int)).map V.int ++ ([0] : List Int).map V.int))) a3 = some (.lst ((List.replicate j (101 : Int) ++ [0]).map V.int)) := by rw [upd_same, List.map_append]
  have y13 := y12.trans y3
  generalize upd G2 a3 _ = G3 at la3 y13 ⊢
  walk_at "rd"
  refine KR.lrngI (7 - j) (by omega) (by omega) (KR.lwR (a := 0) (n := 7 - j) (fun _ => true) (fun _ => .int 6) (by omega) (fun _ => rfl) (fun _ _ _ _ _ => KR.etYes) ?_ ?_)
  · intro k H6 e6' _ hk _ H7 e7 Q' q'
    walk_at "rd"
    exact q' H7 (Evl.Ex.refl H7)
  intro a4 G4 ha4 y4 la4
  rw [Nat.sub_zero, KR.giv_all _ (fun _ => rfl), rng_rep] at la4
  refine ⟨a3, a4, _, _, rfl, rfl, y4 _ _ la3, la4, by rw [List.length_map, List.length_map, List.length_append, List.length_replicate, List.length_replicate, sizeLine_eq]; show j + 1 + (7 - j) ≤ _; omega, fun Lz ha5 => ?_⟩
  have y5 := Evl.Ex.new (o := .lst ((List.replicate j (101 : Int) ++ [0]).map V.int ++ (List.replicate (7 - j) (6 : Int)).map V.int)) ha5
  have lLz : (upd G4 Lz (.lst ((List.replicate j (101 : Int) ++ [0]).map V.int ++ (List.replicate (7 - j) (6 : Int)).map V.int))) Lz = some (.lst ((List.replicate j (101 : Int) ++ [0] ++ List.replicate (7 - j) (6 : Int)).map V.int)) := by rw [upd_same]; simp only [List.map_append]
  have zLz := y13.trans (y4.trans y5)
  have hLzt : Lz ≠ t := ((p5.ex zLb).ex (y13.trans y4)).ne ha5
  generalize upd G4 Lz _ = H7 at lLz zLz ⊢
  clear y1 la1 y2 la2 la1' y12 y3 la3 y13 y4 la4 y5 ha1 ha2 ha3 ha4 ha5
  have lm7 := zLz _ _ (zLb _ _ lm5)
  have lb7 := zLz _ _ lLb
  have p7 := (p5.ex zLb).ex zLz
  walk_at "rd"
  refine ⟨by show (6 : Nat) ≤ sizeLine; decide, fun LL hLL => ?_⟩
  have y8 := Evl.Ex.new (o := .lst ((largeN.map fun n : Nat => (n : Int)).map V.int)) hLL
  have lL8 : (upd H7 LL (.lst ((largeN.map fun n : Nat => (n : Int)).map V.int))) LL = some (.lst ((largeN.map fun n : Nat => (n : Int)).map V.int)) := upd_same
  have hLLt := p7.ne hLL
  have p8 := p7.ex y8
  walk_at "rd"
  refine ⟨t, 6, 0, rfl, p8, by decide, by decide, fun v4 H9 hz0 hz1 x9 p9 => ?_⟩
  obtain ⟨v4, rfl⟩ := Int.eq_ofNat_of_zero_le hz0
  obtain ⟨n, hn, en⟩ : ∃ n ∈ largeN, ((largeN.map fun n : Nat => (n : Int)).map V.int)[v4]? = some (V.int (n : Int)) := by
    have hl : v4 < largeN.length := by show v4 < 6; omega
    exact ⟨largeN[v4], List.getElem_mem hl, by rw [List.getElem?_map, List.getElem?_map, List.getElem?_eq_getElem hl]; rfl⟩
  refine KR.ixL (.inl (.inl (x9 _ _ hLLt lL8))) (atI_nat en) ?_
  have lm9 := x9 _ _ hLmt (y8 _ _ lm7)
  have lb9 := x9 _ _ hLbt (y8 _ _ lb7)
  have lz9 := x9 _ _ hLzt (y8 _ _ lLz)
  clear x9 p9 hLLt lL8 y8 lm7 lb7 lLz hLmt hLbt hLzt p8 p7 zLz zLb lLb lm5 p5 p4 x4 hLm hLL en
  obtain ⟨hpn, n1, n2⟩ := pr_large hn
  have okn : okL (n : Int) := ⟨by omega, by omega⟩
  have ok0 : okL 0 := ⟨by decide, by decide⟩
  have ok101 : okL 101 := ⟨by decide, by decide⟩
  have E1 : okE 1 := ⟨by decide, by decide⟩
  have E12 : okE 12 := ⟨by decide, by decide⟩
  have nE13 : ¬ okE 13 := fun z => by have := z.2; omega
  have nEl : ¬ okE (1 - more) := fun z => by have := z.1; omega
  have nEg : ¬ okE (12 + more) := fun z => by have := z.2; omega
  have sz2 : (2 : Nat) ≤ sizeLine := by decide
  have sz1 : (1 : Nat) ≤ sizeLine := by decide
  have sz4 : (4 : Nat) ≤ sizeLine := by decide
  have hbent : Ans "primes" (List.replicate j 101 ++ [far] ++ List.replicate (7 - j) 0) "range" (some far) := by
    refine .inl ⟨rfl, .rng j ?_ ?_ ?_ (fun i y hi hy => ?_) nfar⟩
    · rw [List.length_append, List.length_append, List.length_replicate, List.length_replicate]; show 1 ≤ j + 1 + (7 - j); omega
    · rw [List.length_append, List.length_append, List.length_replicate, List.length_replicate]; show j + 1 + (7 - j) ≤ 8; omega
    · rw [List.append_assoc, List.getElem?_append_right (by rw [List.length_replicate]; exact Nat.le_refl _), List.length_replicate, Nat.sub_self]
      rfl
    · rw [List.append_assoc, List.getElem?_append_left (by rw [List.length_replicate]; exact hi), List.getElem?_replicate, if_pos hi] at hy
      rw [← Option.some.inj hy]
      exact ok101
  have hzero : Ans "primes" (List.replicate j 101 ++ [0] ++ List.replicate (7 - j) 6) "zero" none := by
    refine .inl ⟨rfl, .zer ?_ ?_ (fun x hx => ?_) ?_⟩
    · rw [List.length_append, List.length_append, List.length_replicate, List.length_replicate]; show 1 ≤ j + 1 + (7 - j); omega
    · rw [List.length_append, List.length_append, List.length_replicate, List.length_replicate]; show j + 1 + (7 - j) ≤ 8; omega
    · rcases List.mem_append.mp hx with hx | hx
      · rcases List.mem_append.mp hx with hx | hx
        · rw [(List.mem_replicate.mp hx).2]; exact ok101
        · rw [List.mem_singleton.mp hx]; exact ok0
      · rw [(List.mem_replicate.mp hx).2]; exact ⟨by decide, by decide⟩
    · exact List.mem_append_left _ (List.mem_append_right _ List.mem_cons_self)
  have hmany : Ans "primes" (List.replicate (9 + v3) far) "size" (some ((9 + v3 : Nat) : Int)) := by
    have h : Ans1 (List.replicate (9 + v3) far) "size" (some (((List.replicate (9 + v3) far).length : Nat) : Int)) := .size (by rw [List.length_replicate]; omega)
    rw [List.length_replicate] at h
    exact .inl ⟨rfl, h⟩
  walk_at "rd"
  refine ⟨Nat.zero_le _, fun d hd => ?_⟩
  have y1 := Evl.Ex.new (o := .lst []) hd
  refine ⟨"primes", true, d, [], "size", some ((0 : Nat) : Int), rfl, SqA.l upd_same, fun _ => rfl, .inl ⟨rfl, .size (by decide)⟩, fun t1 H10 x10 ht1 => ?_⟩
  walk_at "rd"
  refine ⟨sz2, fun u hu => ?_⟩
  refine ⟨.tuple [.str "size", .int 0], .tuple [.str "size", .int 0], .tup (.inl (.inl (Evl.Ex.new hu _ _ ht1))) (.cons (.str _) (.cons (.int _) .nil)), .tup (.inl (.inl upd_same)) (.cons (.str _) (.cons (.int _) .nil)), shaped_pair _ _, shaped_pair _ _, ?_⟩
  rw [eqv_pair]
  have y2 := y1.trans (x10.trans (Evl.Ex.new (o := .tup [.str "size", .int 0]) hu))
  have lm0 := y2 _ _ lm9
  have lb0 := y2 _ _ lb9
  have lz0 := y2 _ _ lz9
  generalize upd H10 u _ = K0 at lm0 lb0 lz0 ⊢
  clear y1 y2 ht1 x10 hu hd lm9 lb9 lz9
  walk_at "rd"
  refine ⟨sz1, fun c hc => ?_⟩
  have S : Askd K0 (upd K0 c (.lst [V.bl true])) c 1 := ⟨Evl.Ex.new hc, hc, upd_same⟩
  generalize upd K0 c _ = C0 at S ⊢
  clear hc
  walk_at "rd"
  refine ⟨.inl ⟨rfl, _, .inl (.inl S.at')⟩, ?_⟩
  walk_at "rd"
  refine ⟨"primes", true, Lm, List.replicate (9 + v3) far, "size", some ((9 + v3 : Nat) : Int), rfl, SqA.l (S.ex _ _ lm0), fun _ => rfl, hmany, fun t1 Ht x1 ht1 => ?_⟩
  replace S := S.go x1
  walk_at "rd"
  refine ⟨Lm, _, rfl, .inl (.inl (.inl (S.ex _ _ lm0))), ?_⟩
  rw [List.length_map, List.length_replicate]
  walk_at "rd"
  refine ⟨sz2, fun u hu => ?_⟩
  refine ⟨.tuple [.str "size", .int ((9 + v3 : Nat))], .tuple [.str "size", .int ((9 + v3 : Nat))], .tup (.inl (.inl (Evl.Ex.new hu _ _ ht1))) (.cons (.str _) (.cons (.int _) .nil)), .tup (.inl (.inl upd_same)) (.cons (.str _) (.cons (.int _) .nil)), shaped_pair _ _, shaped_pair _ _, ?_⟩
  rw [eqv_pair]
  replace S := S.go (Evl.Ex.new (o := .tup [.str "size", .int ((9 + v3 : Nat))]) hu)
  walk_at "rd"
  refine ⟨c, _, _, rfl, rfl, S.at', S.sz (by decide), ?_⟩
  replace S := S.add
  generalize upd (upd Ht u _) c _ = C1 at S ⊢
  clear ht1 hu x1
  walk_at "rd"
  refine ⟨.inl ⟨rfl, _, .inl (.inl S.at')⟩, ?_⟩
  walk_at "rd"
  refine ⟨"primes", true, Lb, List.replicate j 101 ++ [far] ++ List.replicate (7 - j) 0, "range", some far, rfl, SqA.l (S.ex _ _ lb0), fun _ => rfl, hbent, fun t1 Ht x1 ht1 => ?_⟩
  replace S := S.go x1
  walk_at "rd"
  refine ⟨sz2, fun u hu => ?_⟩
  refine ⟨.tuple [.str "range", .int (far)], .tuple [.str "range", .int (far)], .tup (.inl (.inl (Evl.Ex.new hu _ _ ht1))) (.cons (.str _) (.cons (.int _) .nil)), .tup (.inl (.inl upd_same)) (.cons (.str _) (.cons (.int _) .nil)), shaped_pair _ _, shaped_pair _ _, ?_⟩
  rw [eqv_pair]
  replace S := S.go (Evl.Ex.new (o := .tup [.str "range", .int (far)]) hu)
  walk_at "rd"
  refine ⟨c, _, _, rfl, rfl, S.at', S.sz (by decide), ?_⟩
  replace S := S.add
  generalize upd (upd Ht u _) c _ = C2 at S ⊢
  clear ht1 hu x1
  walk_at "rd"
  refine ⟨.inl ⟨rfl, _, .inl (.inl S.at')⟩, ?_⟩
  walk_at "rd"
  refine ⟨Lz, _, rfl, .inl ⟨.inl (.inl (S.ex _ _ lz0)), fun d hd => ?_⟩⟩
  replace S := S.go (Evl.Ex.new (o := .tup ((List.replicate j (101 : Int) ++ [0] ++ List.replicate (7 - j) (6 : Int)).map V.int)) hd)
  walk_at "rd"
  refine ⟨"primes", false, d, List.replicate j 101 ++ [0] ++ List.replicate (7 - j) 6, "zero", none, rfl, SqA.t upd_same, fun z => absurd rfl z, hzero, fun t1 Ht x1 ht1 => ?_⟩
  replace S := S.go x1
  walk_at "rd"
  refine ⟨sz1, fun u hu => ?_⟩
  refine ⟨.tuple [.str "zero"], .tuple [.str "zero"], .tup (.inl (.inl (Evl.Ex.new hu _ _ ht1))) (.cons (.str _) .nil), .tup (.inl (.inl upd_same)) (.cons (.str _) .nil), shaped_one _, shaped_one _, ?_⟩
  rw [eqv_one]
  replace S := S.go (Evl.Ex.new (o := .tup [.str "zero"]) hu)
  walk_at "rd"
  refine ⟨c, _, _, rfl, rfl, S.at', S.sz (by decide), ?_⟩
  replace S := S.add
  generalize upd (upd Ht u _) c _ = C3 at S ⊢
  clear ht1 hu x1
  walk_at "rd"
  refine ⟨.inl ⟨rfl, _, .inl (.inl S.at')⟩, ?_⟩
  walk_at "rd"
  refine ⟨by show (3 : Nat) ≤ sizeLine; decide, fun d hd => ?_⟩
  replace S := S.go (Evl.Ex.new (o := .lst [.int (6), .int (113 * 127), .int ((n : Int) * 2)]) hd)
  refine ⟨"primes", true, d, [6, 113 * 127, (n : Int) * 2], "prime", some (if (n : Int) < 113 then (n : Int) else 113), rfl, SqA.l upd_same, fun _ => rfl, ans_three hn rfl, fun t1 Ht x1 ht1 => ?_⟩
  replace S := S.go x1
  walk_at "rd"
  refine ⟨sz2, fun u hu => ?_⟩
  refine ⟨.tuple [.str "prime", .int (if (n : Int) < 113 then (n : Int) else 113)], .tuple [.str "prime", .int (if (n : Int) < 113 then (n : Int) else 113)], .tup (.inl (.inl (Evl.Ex.new hu _ _ ht1))) (.cons (.str _) (.cons (.int _) .nil)), .tup (.inl (.inl upd_same)) (.cons (.str _) (.cons (.int _) .nil)), shaped_pair _ _, shaped_pair _ _, ?_⟩
  rw [eqv_pair]
  replace S := S.go (Evl.Ex.new (o := .tup [.str "prime", .int (if (n : Int) < 113 then (n : Int) else 113)]) hu)
  walk_at "rd"
  refine ⟨c, _, _, rfl, rfl, S.at', S.sz (by decide), ?_⟩
  replace S := S.add
  generalize upd (upd Ht u _) c _ = C4 at S ⊢
  clear ht1 hu x1
  walk_at "rd"
  refine ⟨.inl ⟨rfl, _, .inl (.inl S.at')⟩, ?_⟩
  walk_at "rd"
  rw [e9]
  refine ⟨by show (8 : Nat) ≤ sizeLine; decide, fun d hd => ?_⟩
  replace S := S.go (Evl.Ex.new (o := .lst (([97, -89, 1, -1, 1000000000, -1000000000, 64, 81] : List Int).map V.int)) hd)
  obtain ⟨o1, o2, o3⟩ := eight_ok
  refine ⟨d, [97, -89, 1, -1, 1000000000, -1000000000, 64, 81], rfl, upd_same, by decide, by decide, o1, o2, o3, fun Ht x1 => ?_⟩
  replace S := S.go x1
  walk_at "rd"
  refine ⟨c, _, _, rfl, rfl, S.at', S.sz (by decide), ?_⟩
  replace S := S.add
  generalize upd Ht c _ = C9 at S ⊢
  clear x1 hd o1 o2 o3
  walk_at "rd"
  refine ⟨sz2, fun W hW => ?_⟩
  replace S := S.go (Evl.Ex.new (o := .lst [.str "bars", .str "solution"]) hW)
  have lW : (upd C9 W (.lst [.str "bars", .str "solution"])) W = some (.lst (([("bars" : Str), ("solution" : Str)] : List Str).map V.str)) := upd_same
  generalize upd C9 W _ = W0 at S lW ⊢
  have hcW : W ≠ c := fun z => by
    have := S.at'
    rw [← z, lW] at this
    have e := HO.lst.inj (Option.some.inj this)
    have := congrArg (·[0]?) e
    cases this
  obtain ⟨B0, hB0⟩ : ∃ B0, B0 = K0 := ⟨_, rfl⟩
  refine KR.ilistN (.inl (.inl lW)) (KR.fwL (xs := ([("bars" : Str), ("solution" : Str)] : List Str).map V.str) (fun i σ' H' => ∃ k, k ≤ 6 + 9 * i ∧ Askd K0 H' c k ∧ H' W = some (.lst (([("bars" : Str), ("solution" : Str)] : List Str).map V.str)) ∧ ∃ z, σ' = [some (.ref t), some (.int more), some (.int (1 - 2 * v2)), some (.int far), some (.ref Lm), some (.int j), some (.ref Lb), some (.ref Lz), some (.int n), some (.ref c), z, none]) ⟨6, by decide, S, lW, none, rfl⟩ ?_ ?_ ?_)
  · rintro i σ' H' _ ⟨k, _, _, h, _⟩
    exact .inl (.inl h)
  · clear S lW
    rintro i x σ' C10 hx ⟨k, hk, S, lW, z, rfl⟩
    have hi2 : i < 2 := (List.getElem?_eq_some_iff.mp hx).1
    rw [List.getElem?_map] at hx
    obtain ⟨wd, hwd, rfl⟩ := Option.map_eq_some_iff.mp hx
    have hw : wd = "bars" ∨ wd = "solution" := by
      have := List.mem_of_getElem? hwd
      simpa using this
    have keep : ∀ {Ha Hb : Hp}, Ha W = some (.lst (([("bars" : Str), ("solution" : Str)] : List Str).map V.str)) → Evl.Ex Ha Hb → Hb W = some (.lst (([("bars" : Str), ("solution" : Str)] : List Str).map V.str)) := fun h e => e _ _ h
    walk_at "rd"
    refine ⟨.inl ⟨rfl, _, .inl (.inl S.at')⟩, ?_⟩
    walk_at "rd"
    refine ⟨by show (4 : Nat) ≤ sizeLine; decide, fun d hd => ?_⟩
    replace lW := Evl.Ex.new (o := .lst [.int (far), .int (0), .int (far), .int (0)]) hd _ _ lW
    replace S := S.go (Evl.Ex.new (o := .lst [.int (far), .int (0), .int (far), .int (0)]) hd)
    refine ⟨wd, true, d, [far, 0, far, 0], "range", some (far), rfl, SqA.l upd_same, fun _ => rfl, .inr ⟨hw, _, _, _, _, rfl, .rA nfar⟩, fun t1 Ht x1 ht1 => ?_⟩
    replace lW := x1 _ _ lW
    replace S := S.go x1
    walk_at "rd"
    refine ⟨sz2, fun u hu => ?_⟩
    refine ⟨.tuple [.str "range", .int (far)], .tuple [.str "range", .int (far)], .tup (.inl (.inl (Evl.Ex.new hu _ _ ht1))) (.cons (.str _) (.cons (.int _) .nil)), .tup (.inl (.inl upd_same)) (.cons (.str _) (.cons (.int _) .nil)), shaped_pair _ _, shaped_pair _ _, ?_⟩
    rw [eqv_pair]
    replace lW := Evl.Ex.new (o := .tup [.str "range", .int (far)]) hu _ _ lW
    replace S := S.go (Evl.Ex.new (o := .tup [.str "range", .int (far)]) hu)
    walk_at "rd"
    refine ⟨c, _, _, rfl, rfl, S.at', S.sz (by omega), ?_⟩
    replace S := S.add
    replace lW : (upd (upd Ht u (.tup [.str "range", .int (far)])) c (.lst ((List.replicate (k) true).map V.bl ++ [V.bl true]))) W = _ := (upd_ne hcW).trans lW
    generalize upd (upd Ht u _) c _ = C11 at S lW ⊢
    clear ht1 hu x1
    walk_at "rd"
    refine ⟨.inl ⟨rfl, _, .inl (.inl S.at')⟩, ?_⟩
    walk_at "rd"
    refine ⟨by show (4 : Nat) ≤ sizeLine; decide, fun d hd => ?_⟩
    replace lW := Evl.Ex.new (o := .lst [.int (0), .int (1 - more), .int (far), .int (0)]) hd _ _ lW
    replace S := S.go (Evl.Ex.new (o := .lst [.int (0), .int (1 - more), .int (far), .int (0)]) hd)
    refine ⟨wd, true, d, [0, 1 - more, far, 0], "range", some (1 - more), rfl, SqA.l upd_same, fun _ => rfl, .inr ⟨hw, _, _, _, _, rfl, .rM ok0 nEl⟩, fun t1 Ht x1 ht1 => ?_⟩
    replace lW := x1 _ _ lW
    replace S := S.go x1
    walk_at "rd"
    refine ⟨sz2, fun u hu => ?_⟩
    refine ⟨.tuple [.str "range", .int (1 - more)], .tuple [.str "range", .int (1 - more)], .tup (.inl (.inl (Evl.Ex.new hu _ _ ht1))) (.cons (.str _) (.cons (.int _) .nil)), .tup (.inl (.inl upd_same)) (.cons (.str _) (.cons (.int _) .nil)), shaped_pair _ _, shaped_pair _ _, ?_⟩
    rw [eqv_pair]
    replace lW := Evl.Ex.new (o := .tup [.str "range", .int (1 - more)]) hu _ _ lW
    replace S := S.go (Evl.Ex.new (o := .tup [.str "range", .int (1 - more)]) hu)
    walk_at "rd"
    refine ⟨c, _, _, rfl, rfl, S.at', S.sz (by omega), ?_⟩
    replace S := S.add
    replace lW : (upd (upd Ht u (.tup [.str "range", .int (1 - more)])) c (.lst ((List.replicate (k + 1) true).map V.bl ++ [V.bl true]))) W = _ := (upd_ne hcW).trans lW
    generalize upd (upd Ht u _) c _ = C12 at S lW ⊢
    clear ht1 hu x1
    walk_at "rd"
    refine ⟨.inl ⟨rfl, _, .inl (.inl S.at')⟩, ?_⟩
    walk_at "rd"
    refine ⟨by show (4 : Nat) ≤ sizeLine; decide, fun d hd => ?_⟩
    replace lW := Evl.Ex.new (o := .lst [.int (0), .int (12 + more), .int (far), .int (0)]) hd _ _ lW
    replace S := S.go (Evl.Ex.new (o := .lst [.int (0), .int (12 + more), .int (far), .int (0)]) hd)
    refine ⟨wd, true, d, [0, 12 + more, far, 0], "range", some (12 + more), rfl, SqA.l upd_same, fun _ => rfl, .inr ⟨hw, _, _, _, _, rfl, .rM ok0 nEg⟩, fun t1 Ht x1 ht1 => ?_⟩
    replace lW := x1 _ _ lW
    replace S := S.go x1
    walk_at "rd"
    refine ⟨sz2, fun u hu => ?_⟩
    refine ⟨.tuple [.str "range", .int (12 + more)], .tuple [.str "range", .int (12 + more)], .tup (.inl (.inl (Evl.Ex.new hu _ _ ht1))) (.cons (.str _) (.cons (.int _) .nil)), .tup (.inl (.inl upd_same)) (.cons (.str _) (.cons (.int _) .nil)), shaped_pair _ _, shaped_pair _ _, ?_⟩
    rw [eqv_pair]
    replace lW := Evl.Ex.new (o := .tup [.str "range", .int (12 + more)]) hu _ _ lW
    replace S := S.go (Evl.Ex.new (o := .tup [.str "range", .int (12 + more)]) hu)
    walk_at "rd"
    refine ⟨c, _, _, rfl, rfl, S.at', S.sz (by omega), ?_⟩
    replace S := S.add
    replace lW : (upd (upd Ht u (.tup [.str "range", .int (12 + more)])) c (.lst ((List.replicate (k + 1 + 1) true).map V.bl ++ [V.bl true]))) W = _ := (upd_ne hcW).trans lW
    generalize upd (upd Ht u _) c _ = C13 at S lW ⊢
    clear ht1 hu x1
    walk_at "rd"
    refine ⟨.inl ⟨rfl, _, .inl (.inl S.at')⟩, ?_⟩
    walk_at "rd"
    refine ⟨by show (4 : Nat) ≤ sizeLine; decide, fun d hd => ?_⟩
    replace lW := Evl.Ex.new (o := .lst [.int (0), .int (12), .int (far), .int (13)]) hd _ _ lW
    replace S := S.go (Evl.Ex.new (o := .lst [.int (0), .int (12), .int (far), .int (13)]) hd)
    refine ⟨wd, true, d, [0, 12, far, 13], "range", some (far), rfl, SqA.l upd_same, fun _ => rfl, .inr ⟨hw, _, _, _, _, rfl, .rB ok0 E12 nfar⟩, fun t1 Ht x1 ht1 => ?_⟩
    replace lW := x1 _ _ lW
    replace S := S.go x1
    walk_at "rd"
    refine ⟨sz2, fun u hu => ?_⟩
    refine ⟨.tuple [.str "range", .int (far)], .tuple [.str "range", .int (far)], .tup (.inl (.inl (Evl.Ex.new hu _ _ ht1))) (.cons (.str _) (.cons (.int _) .nil)), .tup (.inl (.inl upd_same)) (.cons (.str _) (.cons (.int _) .nil)), shaped_pair _ _, shaped_pair _ _, ?_⟩
    rw [eqv_pair]
    replace lW := Evl.Ex.new (o := .tup [.str "range", .int (far)]) hu _ _ lW
    replace S := S.go (Evl.Ex.new (o := .tup [.str "range", .int (far)]) hu)
    walk_at "rd"
    refine ⟨c, _, _, rfl, rfl, S.at', S.sz (by omega), ?_⟩
    replace S := S.add
    replace lW : (upd (upd Ht u (.tup [.str "range", .int (far)])) c (.lst ((List.replicate (k + 1 + 1 + 1) true).map V.bl ++ [V.bl true]))) W = _ := (upd_ne hcW).trans lW
    generalize upd (upd Ht u _) c _ = C14 at S lW ⊢
    clear ht1 hu x1
    walk_at "rd"
    refine ⟨.inl ⟨rfl, _, .inl (.inl S.at')⟩, ?_⟩
    walk_at "rd"
    refine ⟨by show (4 : Nat) ≤ sizeLine; decide, fun d hd => ?_⟩
    replace lW := Evl.Ex.new (o := .lst [.int (0), .int (1), .int (101), .int (12 + more)]) hd _ _ lW
    replace S := S.go (Evl.Ex.new (o := .lst [.int (0), .int (1), .int (101), .int (12 + more)]) hd)
    refine ⟨wd, true, d, [0, 1, 101, 12 + more], "range", some (12 + more), rfl, SqA.l upd_same, fun _ => rfl, .inr ⟨hw, _, _, _, _, rfl, .rN ok0 E1 ok101 nEg⟩, fun t1 Ht x1 ht1 => ?_⟩
    replace lW := x1 _ _ lW
    replace S := S.go x1
    walk_at "rd"
    refine ⟨sz2, fun u hu => ?_⟩
    refine ⟨.tuple [.str "range", .int (12 + more)], .tuple [.str "range", .int (12 + more)], .tup (.inl (.inl (Evl.Ex.new hu _ _ ht1))) (.cons (.str _) (.cons (.int _) .nil)), .tup (.inl (.inl upd_same)) (.cons (.str _) (.cons (.int _) .nil)), shaped_pair _ _, shaped_pair _ _, ?_⟩
    rw [eqv_pair]
    replace lW := Evl.Ex.new (o := .tup [.str "range", .int (12 + more)]) hu _ _ lW
    replace S := S.go (Evl.Ex.new (o := .tup [.str "range", .int (12 + more)]) hu)
    walk_at "rd"
    refine ⟨c, _, _, rfl, rfl, S.at', S.sz (by omega), ?_⟩
    replace S := S.add
    replace lW : (upd (upd Ht u (.tup [.str "range", .int (12 + more)])) c (.lst ((List.replicate (k + 1 + 1 + 1 + 1) true).map V.bl ++ [V.bl true]))) W = _ := (upd_ne hcW).trans lW
    generalize upd (upd Ht u _) c _ = C15 at S lW ⊢
    clear ht1 hu x1
    walk_at "rd"
    refine ⟨.inl ⟨rfl, _, .inl (.inl S.at')⟩, ?_⟩
    walk_at "rd"
    refine ⟨by show (4 : Nat) ≤ sizeLine; decide, fun d hd => ?_⟩
    replace lW := Evl.Ex.new (o := .lst [.int (0), .int (1), .int (101), .int (1 - more)]) hd _ _ lW
    replace S := S.go (Evl.Ex.new (o := .lst [.int (0), .int (1), .int (101), .int (1 - more)]) hd)
    refine ⟨wd, true, d, [0, 1, 101, 1 - more], "range", some (1 - more), rfl, SqA.l upd_same, fun _ => rfl, .inr ⟨hw, _, _, _, _, rfl, .rN ok0 E1 ok101 nEl⟩, fun t1 Ht x1 ht1 => ?_⟩
    replace lW := x1 _ _ lW
    replace S := S.go x1
    walk_at "rd"
    refine ⟨sz2, fun u hu => ?_⟩
    refine ⟨.tuple [.str "range", .int (1 - more)], .tuple [.str "range", .int (1 - more)], .tup (.inl (.inl (Evl.Ex.new hu _ _ ht1))) (.cons (.str _) (.cons (.int _) .nil)), .tup (.inl (.inl upd_same)) (.cons (.str _) (.cons (.int _) .nil)), shaped_pair _ _, shaped_pair _ _, ?_⟩
    rw [eqv_pair]
    replace lW := Evl.Ex.new (o := .tup [.str "range", .int (1 - more)]) hu _ _ lW
    replace S := S.go (Evl.Ex.new (o := .tup [.str "range", .int (1 - more)]) hu)
    walk_at "rd"
    refine ⟨c, _, _, rfl, rfl, S.at', S.sz (by omega), ?_⟩
    replace S := S.add
    replace lW : (upd (upd Ht u (.tup [.str "range", .int (1 - more)])) c (.lst ((List.replicate (k + 1 + 1 + 1 + 1 + 1) true).map V.bl ++ [V.bl true]))) W = _ := (upd_ne hcW).trans lW
    generalize upd (upd Ht u _) c _ = C16 at S lW ⊢
    clear ht1 hu x1
    walk_at "rd"
    refine ⟨.inl ⟨rfl, _, .inl (.inl S.at')⟩, ?_⟩
    walk_at "rd"
    refine ⟨by show (4 : Nat) ≤ sizeLine; decide, fun d hd => ?_⟩
    replace lW := Evl.Ex.new (o := .lst [.int (0), .int (1), .int (101), .int (12)]) hd _ _ lW
    replace S := S.go (Evl.Ex.new (o := .lst [.int (0), .int (1), .int (101), .int (12)]) hd)
    refine ⟨wd, true, d, [0, 1, 101, 12], "zero", none, rfl, SqA.l upd_same, fun _ => rfl, .inr ⟨hw, _, _, _, _, rfl, .z ok0 E1 ok101 E12 (.inl rfl)⟩, fun t1 Ht x1 ht1 => ?_⟩
    replace lW := x1 _ _ lW
    replace S := S.go x1
    walk_at "rd"
    refine ⟨sz1, fun u hu => ?_⟩
    refine ⟨.tuple [.str "zero"], .tuple [.str "zero"], .tup (.inl (.inl (Evl.Ex.new hu _ _ ht1))) (.cons (.str _) .nil), .tup (.inl (.inl upd_same)) (.cons (.str _) .nil), shaped_one _, shaped_one _, ?_⟩
    rw [eqv_one]
    replace lW := Evl.Ex.new (o := .tup [.str "zero"]) hu _ _ lW
    replace S := S.go (Evl.Ex.new (o := .tup [.str "zero"]) hu)
    walk_at "rd"
    refine ⟨c, _, _, rfl, rfl, S.at', S.sz (by omega), ?_⟩
    replace S := S.add
    replace lW : (upd (upd Ht u (.tup [.str "zero"])) c (.lst ((List.replicate (k + 1 + 1 + 1 + 1 + 1 + 1) true).map V.bl ++ [V.bl true]))) W = _ := (upd_ne hcW).trans lW
    generalize upd (upd Ht u _) c _ = C17 at S lW ⊢
    clear ht1 hu x1
    walk_at "rd"
    refine ⟨.inl ⟨rfl, _, .inl (.inl S.at')⟩, ?_⟩
    walk_at "rd"
    refine ⟨by show (4 : Nat) ≤ sizeLine; decide, fun d hd => ?_⟩
    replace lW := Evl.Ex.new (o := .lst [.int ((n : Int)), .int (12), .int (0), .int (1)]) hd _ _ lW
    replace S := S.go (Evl.Ex.new (o := .lst [.int ((n : Int)), .int (12), .int (0), .int (1)]) hd)
    refine ⟨wd, true, d, [(n : Int), 12, 0, 1], "zero", none, rfl, SqA.l upd_same, fun _ => rfl, .inr ⟨hw, _, _, _, _, rfl, .z okn E12 ok0 E1 (.inr rfl)⟩, fun t1 Ht x1 ht1 => ?_⟩
    replace lW := x1 _ _ lW
    replace S := S.go x1
    walk_at "rd"
    refine ⟨sz1, fun u hu => ?_⟩
    refine ⟨.tuple [.str "zero"], .tuple [.str "zero"], .tup (.inl (.inl (Evl.Ex.new hu _ _ ht1))) (.cons (.str _) .nil), .tup (.inl (.inl upd_same)) (.cons (.str _) .nil), shaped_one _, shaped_one _, ?_⟩
    rw [eqv_one]
    replace lW := Evl.Ex.new (o := .tup [.str "zero"]) hu _ _ lW
    replace S := S.go (Evl.Ex.new (o := .tup [.str "zero"]) hu)
    walk_at "rd"
    refine ⟨c, _, _, rfl, rfl, S.at', S.sz (by omega), ?_⟩
    replace S := S.add
    replace lW : (upd (upd Ht u (.tup [.str "zero"])) c (.lst ((List.replicate (k + 1 + 1 + 1 + 1 + 1 + 1 + 1) true).map V.bl ++ [V.bl true]))) W = _ := (upd_ne hcW).trans lW
    generalize upd (upd Ht u _) c _ = C18 at S lW ⊢
    clear ht1 hu x1
    walk_at "rd"
    refine ⟨.inl ⟨rfl, _, .inl (.inl S.at')⟩, ?_⟩
    walk_at "rd"
    refine ⟨by show (4 : Nat) ≤ sizeLine; decide, fun d hd => ?_⟩
    replace lW := Evl.Ex.new (o := .lst [.int (-(n : Int)), .int (2), .int (10201), .int (2)]) hd _ _ lW
    replace S := S.go (Evl.Ex.new (o := .lst [.int (-(n : Int)), .int (2), .int (10201), .int (2)]) hd)
    refine ⟨wd, true, d, [-(n : Int), 2, 10201, 2], "prime", some (101), rfl, SqA.l upd_same, fun _ => rfl, ans_last hn hw, fun t1 Ht x1 ht1 => ?_⟩
    replace lW := x1 _ _ lW
    replace S := S.go x1
    walk_at "rd"
    refine ⟨sz2, fun u hu => ?_⟩
    refine ⟨.tuple [.str "prime", .int (101)], .tuple [.str "prime", .int (101)], .tup (.inl (.inl (Evl.Ex.new hu _ _ ht1))) (.cons (.str _) (.cons (.int _) .nil)), .tup (.inl (.inl upd_same)) (.cons (.str _) (.cons (.int _) .nil)), shaped_pair _ _, shaped_pair _ _, ?_⟩
    rw [eqv_pair]
    replace lW := Evl.Ex.new (o := .tup [.str "prime", .int (101)]) hu _ _ lW
    replace S := S.go (Evl.Ex.new (o := .tup [.str "prime", .int (101)]) hu)
    walk_at "rd"
    refine ⟨c, _, _, rfl, rfl, S.at', S.sz (by omega), ?_⟩
    replace S := S.add
    replace lW : (upd (upd Ht u (.tup [.str "prime", .int (101)])) c (.lst ((List.replicate (k + 1 + 1 + 1 + 1 + 1 + 1 + 1 + 1) true).map V.bl ++ [V.bl true]))) W = _ := (upd_ne hcW).trans lW
    generalize upd (upd Ht u _) c _ = C19 at S lW ⊢
    clear ht1 hu x1
    exact ⟨_, by omega, S, lW, _, rfl⟩
  · clear S lW
    rintro σ' C30 ⟨k, hk, S, lW, z, rfl⟩
    walk_at "rd"
    refine ⟨c, List.replicate k true, rfl, .inl (.inl S.at'), ?_⟩
    have hall : (List.replicate k true).all id = true := by
      rw [List.all_eq_true]
      intro x hx
      exact List.eq_of_mem_replicate hx
    rw [hall]
    exact q C30
end
end K9
namespace K9
open PySem PySem.Spec PyProof.Rows L2 K7
local macro_rules | `(tactic| walk_at "rc") => `(tactic| first
  | assumption
  | (show (0 : Int) < _; omega)
  | (show (0 : Int) < _ ∧ _ < (1073741824 : Int); exact ⟨by omega, by omega⟩)
  | (show (-(2 ^ 64 : Int) < _ ∧ _ < (2 ^ 64 : Int)) ∨ _; exact .inl ⟨by omega, by omega⟩)
  | (show _ ∨ (-(2 ^ 64 : Int) < _ ∧ _ < (2 ^ 64 : Int)); exact .inr ⟨by omega, by omega⟩)
  | (show (0 : Int) ≤ _ ∧ _ ≤ (1000000 : Int) ∧ _ < 2 ^ 64; exact ⟨by decide, by decide, by decide⟩))
local macro_rules | `(tactic| walk_at "rd") => `(tactic| repeat (first
  | with_reducible apply KR.seq
  | with_reducible apply KR.asg
  | with_reducible apply KR.drop
  | with_reducible apply KR.ret
  | with_reducible apply KR.retN
  | with_reducible apply KR.next
  | with_reducible apply KR.ifs
  | with_reducible refine KR.var rfl ?_
  | with_reducible refine L2.iteT ?_
  | with_reducible refine L2.iteF ?_
  | with_reducible refine KR.iteNF ?_
  | with_reducible refine KR.iteNT ?_
  | with_reducible apply KR.con
  | with_reducible apply KR.op
  | with_reducible apply KR.opI0
  | ((with_reducible refine KR.opI ?rc ?_); (case rc => walk_at "rc"))
  | with_reducible apply KR.un
  | with_reducible apply KR.unI
  | with_reducible apply KR.eqI
  | with_reducible apply KR.neI
  | with_reducible apply KR.test
  | with_reducible apply KR.tb'
  | with_reducible apply KR.exbl
  | with_reducible apply KR.and'
  | with_reducible apply KR.or'
  | with_reducible apply KR.not'
  | with_reducible apply KR.chain
  | with_reducible apply KR.call
  | with_reducible apply KR.callS
  | with_reducible apply KR.make
  | with_reducible apply KR.bm
  | with_reducible apply KR.errF
  | with_reducible apply KR.cons
  | with_reducible apply KR.nil
  | with_reducible apply KR.cb
  | with_reducible apply KR.cInt1
  | with_reducible apply KR.cI1
  | with_reducible apply KR.cI2
  | with_reducible apply KR.isi_ii
  | with_reducible apply KR.isi_ib
  | with_reducible apply KR.bits
  | with_reducible apply KR.exint
  | with_reducible apply KR.ifx
  | with_reducible refine KR.aug rfl ?_
  | with_reducible apply KR.ipI
  | with_reducible apply KR.for'
  | with_reducible apply KR.rng1
  | with_reducible apply KR.rng2
  | with_reducible apply KR.ilist
  | with_reducible apply KR.itup
  | with_reducible apply KR.iseq
  | with_reducible apply KR.gcd
  | with_reducible apply KR.tup
  | with_reducible apply KR.lst
  | with_reducible apply KR.andV
  | with_reducible apply KR.orV
  | with_reducible apply KR.notV
  | with_reducible apply KR.asgG
  | with_reducible apply KR.sub
  | with_reducible apply KR.fld
  | with_reducible apply KR.prop
  | with_reducible apply KR.meth
  | with_reducible apply KR.par
  | with_reducible apply KR.parN
  | with_reducible apply KR.raise1
  | with_reducible apply KR.raise0
  | with_reducible apply KR.exv
  | with_reducible apply KR.lc
  | with_reducible apply KR.ienT
  | with_reducible apply KR.sfld
  | with_reducible apply KR.sl
  | with_reducible apply KR.part
  | with_reducible apply KR.nopart
  | with_reducible apply KR.isNo
  | with_reducible refine KR.nnT ?_
  | with_reducible refine KR.niF ?_
  | with_reducible refine KR.nrF ?_
  | with_reducible refine KR.mnT ?_
  | with_reducible refine KR.miF ?_
  | with_reducible refine KR.mrF ?_))
theorem Pool.upd {H : Hp} {t L : Addr} {o : HO} (h : Pool H t) (hL : L ≠ t) : Pool (L2.upd H L o) t := by
  obtain ⟨cs, h1, h2⟩ := h
  exact ⟨cs, h1, by rw [upd_ne (Ne.symm hL)]; exact h2⟩
theorem small_div {xs : List Int} (h : ∀ x ∈ xs, x ≠ 0 ∧ x.natAbs ≤ 97) : (∀ x ∈ xs, okL x) ∧ (0 : Int) ∉ xs ∧ ∀ f, DivL xs f → f ≤ 97 := by
  refine ⟨fun x hx => ?_, fun z => (h 0 z).1 rfl, ?_⟩
  · have := (h x hx).2
    constructor <;> omega
  · rintro f ⟨q, rfl, hq, c, hc, hd⟩
    obtain ⟨h1, h2⟩ := h c hc
    have := Nat.le_of_dvd (by omega) hd
    omega
section
variable {P : Program} {w : World} {K : PySem.W.Frag} {mg : Str → Option Value} {base : Heap} {A : Ad}
def sp_law (K : PySem.W.Frag) : Sp := fun vs H Q _ => ∃ (a : Addr) (ns : List Int), vs = [.ref a] ∧ SqL K H a (ns.map V.int) ∧ ∀ H2, Q (.bl true) H2
theorem ok_law (T : Txt P K mg A) : FnOk P w K mg base CX0 12 A.a_law A.d_law ["script"] (sp_law K) := by
  refine T.F_law.ok sc_law (fun vs H Q E h => ?_) (fun cdv Ar outer s H vs Q E hr h => ?_)
  · obtain ⟨_, _, rfl, _⟩ := h; rfl
  have nd := sc_law.nd
  obtain ⟨a0, ns, rfl, hs, q⟩ := h
  refine ⟨_, (pss_cons (ps_set (i := 1) nd rfl (.inl rfl) (pe_call (ok_law_begin T) (hr.mono (by decide)) (by rfl) T.g_law_begin T.k_law_begin T.b_law_begin .nil pass0 (pa_cons (pv 0) pa_nil)))
    (pss_cons (ps_set (i := 2) nd rfl (.inl rfl) (pe_cmpR op_eq (pe_call (ok_law_draw T) (hr.mono (by decide)) (by rfl) T.g_law_draw T.k_law_draw T.b_law_draw .nil pass0 (pa_cons (pv 1) (pa_cons pe_int (pa_cons pe_int pa_nil)))) pe_int (nomark _)))
    (pss_cons (ps_for PassesOwn.never rfl (pi_range1 (by rfl) T.n_range (pa_cons pe_int pa_nil)) (pg_name (i := 3) nd rfl (Or.inl rfl)) (pss_cons (ps_set (i := 4) nd rfl (.inl rfl) (pe_op op_add pe_int (pe_op op_mul pe_int (pe_callTy call_int1 (by rfl) T.n_int (by decide +kernel) (pa_cons (pv 2) pa_nil)))))
    (pss_cons (ps_set (i := 5) nd rfl (.inl rfl) (pe_op op_add pe_int (pe_call (ok_law_draw T) (hr.mono (by decide)) (by rfl) T.g_law_draw T.k_law_draw T.b_law_draw .nil pass0 (pa_cons (pv 1) (pa_cons (pv 4) (pa_cons (pe_op op_add pe_int (pv 3)) pa_nil))))))
    (pss_cons (ps_set (i := 6) nd rfl (.inl rfl) (pe_op op_add pe_int (pe_call (ok_law_draw T) (hr.mono (by decide)) (by rfl) T.g_law_draw T.k_law_draw T.b_law_draw .nil pass0 (pa_cons (pv 1) (pa_cons (pv 4) (pa_cons (pe_op op_add pe_int (pe_op op_mul pe_int (pv 3))) pa_nil))))))
    (pss_cons (ps_set (i := 7) nd rfl (.inl rfl) (pe_call (ok_law_drawn T) (hr.mono (by decide)) (by rfl) T.g_law_drawn T.k_law_drawn T.b_law_drawn .nil pass0 (pa_cons (pv 1) (pa_cons (pv 5) (pa_cons (pv 6) (pa_cons (pv 2) (pa_cons (pe_op op_mod (pe_callTy call_int1 (by rfl) T.n_int (by decide +kernel) (pa_cons (pv 3) pa_nil)) pe_int) pa_nil)))))))
    (pss_one (ps_if (pt_not (pt_val (pe_call (ok_law_asked T) (hr.mono (by decide)) (by rfl) T.g_law_asked T.k_law_asked T.b_law_asked .nil pass0 (pa_cons (pe_ix ix_tup (pv 7) pe_int (fun _ _ => rfl)) (pa_cons (pv 5) (pa_cons (pe_ix ix_tup (pv 7) pe_int (fun _ _ => rfl)) (pa_cons (pv 6) pa_nil))))))) (pss_one (ps_ret pe_bl)) pss_nil)))))))
    (pss_cons (ps_set (i := 8) nd rfl (.inl rfl) (pe_lst pa_nil))
    (pss_cons (ps_for PassesOwn.never rfl (pi_range1 (by rfl) T.n_range (pa_cons (pe_op op_add pe_int (pe_call (ok_law_draw T) (hr.mono (by decide)) (by rfl) T.g_law_draw T.k_law_draw T.b_law_draw .nil pass0 (pa_cons (pv 1) (pa_cons pe_int (pa_cons pe_int pa_nil))))) pa_nil)) (pg_name (i := 3) nd rfl (Or.inl rfl)) (pss_cons (ps_expr (pe_bm PySem.F.plainAttrs_list PySem.F.slot_list_append PySem.F.type_list_append mt_append (pv 8) (pa_cons (pe_op op_add pe_int (pe_call (ok_law_draw T) (hr.mono (by decide)) (by rfl) T.g_law_draw T.k_law_draw T.b_law_draw .nil pass0 (pa_cons (pv 1) (pa_cons pe_int (pa_cons (pe_op op_mul pe_int (pv 3)) pa_nil))))) pa_nil)))
    (pss_one (ps_if (pt_cmpR op_eq (pe_call (ok_law_draw T) (hr.mono (by decide)) (by rfl) T.g_law_draw T.k_law_draw T.b_law_draw .nil pass0 (pa_cons (pv 1) (pa_cons pe_int (pa_cons (pv 3) pa_nil)))) pe_int (nomark _)) (pss_one (ps_asg (pe_un un_neg (pe_ix ix_list (pv 8) (pv 3) (fun _ _ => rfl))) (pg_sub (pv 8) (pv 3) set_list))) pss_nil))))
    (pss_cons (ps_if (PW.pt (pw_or (pt_not (pt_val (pe_call (ok_law_same_primes T) (hr.mono (by decide)) (by rfl) T.g_law_same_primes T.k_law_same_primes T.b_law_same_primes .nil pass0 (pa_cons (pv 8) pa_nil)))) (pw_or1 (pt_not (pt_val (pe_call (ok_law_same_primes T) (hr.mono (by decide)) (by rfl) T.g_law_same_primes T.k_law_same_primes T.b_law_same_primes .nil pass0 (pa_cons (pe_lst (pa_cons (pv 5) (pa_cons (pv 6) pa_nil))) pa_nil))))))) (pss_one (ps_ret pe_bl)) pss_nil)
    (pss_cons (ps_set (i := 9) nd rfl (.inl rfl) (pe_op op_add pe_int (pe_call (ok_law_draw T) (hr.mono (by decide)) (by rfl) T.g_law_draw T.k_law_draw T.b_law_draw .nil pass0 (pa_cons (pv 1) (pa_cons pe_int (pa_cons pe_int pa_nil))))))
    (pss_cons (ps_if (PW.pt (pw_or (pt_not (pt_val (pe_call (ok_law_asked T) (hr.mono (by decide)) (by rfl) T.g_law_asked T.k_law_asked T.b_law_asked .nil pass0 (pa_cons pe_int (pa_cons (pv 9) (pa_cons pe_int (pa_cons (pv 9) pa_nil))))))) (pw_or1 (pt_not (pt_val (pe_call (ok_law_asked T) (hr.mono (by decide)) (by rfl) T.g_law_asked T.k_law_asked T.b_law_asked .nil pass0 (pa_cons (pe_un un_neg pe_int) (pa_cons pe_int (pa_cons pe_int (pa_cons pe_int pa_nil)))))))))) (pss_one (ps_ret pe_bl)) pss_nil)
    (pss_one (ps_ret (pe_call (ok_law_refused T) (hr.mono (by decide)) (by rfl) T.g_law_refused T.k_law_refused T.b_law_refused .nil pass0 (pa_cons (pv 1) pa_nil)))))))))))), ?_⟩
  walk_at "rd"
  refine ⟨a0, ns, rfl, hs, fun t H1 hp1 => ?_⟩
  clear hs
  walk_at "rd"
  refine ⟨t, _, _, rfl, hp1, by decide, by decide, fun v H2 hv0 hv1 ex2 hp2 => ?_⟩
  clear ex2 hp1
  walk_at "rd"
  generalize decide (v = 0) = gr
  clear hv0 hv1
  refine KR.rngI 4 rfl (by decide) (KR.fwR (fun k σ' H' => Pool H' t ∧ ∃ (z3 z4 mz nz z7 : Option V), (k = 0 ∨ ∃ m n : Nat, mz = some (.int m) ∧ nz = some (.int n) ∧ 1 ≤ m ∧ m ≤ 12 ∧ 1 ≤ n ∧ n ≤ 12) ∧ σ' = [some (.ref a0), some (.ref t), some (.bl gr), z3, z4, mz, nz, z7, none, none])
    ⟨hp2, none, none, none, none, none, .inl rfl, rfl⟩ ?_ ?_)
  · rintro k σ' H3 hk ⟨hp3, z3, z4, mz, nz, z7, _, rfl⟩
    walk_at "rd"
    refine .inr ⟨gr, rfl, ?_⟩
    walk_at "rd"
    obtain ⟨most, hmo, hmo1, hmo2⟩ : ∃ most : Int, 6 + 6 * (if gr = true then (1 : Int) else 0) = most ∧ 6 ≤ most ∧ most ≤ 12 := ⟨_, rfl, by split <;> omega, by split <;> omega⟩
    rw [hmo]
    refine ⟨t, _, _, rfl, hp3, by omega, log_ok (by omega), fun v1 H4 h10 h11 x4 p4 => ?_⟩
    obtain ⟨m, hm, hm1, hm2⟩ : ∃ m : Nat, 1 + v1 = (m : Int) ∧ 1 ≤ m ∧ m ≤ 12 := ⟨(1 + v1).toNat, by omega, by omega, by omega⟩
    walk_at "rd"
    rw [hm]
    refine ⟨t, _, _, rfl, p4, by omega, log_ok (by omega), fun v2 H5 h20 h21 x5 p5 => ?_⟩
    obtain ⟨n, hn, hn1, hn2⟩ : ∃ n : Nat, 1 + v2 = (n : Int) ∧ 1 ≤ n ∧ n ≤ 12 := ⟨(1 + v2).toNat, by omega, by omega, by omega⟩
    walk_at "rd"
    rw [hn]
    refine ⟨t, m, n, gr, _, rfl, p5, hm1, hm2, hn1, hn2, fun c a b H6 oa ob na nb hc x6 p6 => ?_⟩
    have sT : SqT K H6 c [.int a, .int b] := .inl (.inl hc)
    walk_at "rd"
    refine KR.ixT sT (v := .int a) rfl ?_
    walk_at "rd"
    refine KR.ixT sT (v := .int b) rfl ?_
    walk_at "rd"
    refine ⟨a, b, m, n, rfl, oa, ob, na, nb, ⟨by omega, by omega⟩, ⟨by omega, by omega⟩, fun H7 x7 => ?_⟩
    walk_at "rd"
    exact ⟨p6.ex x7, _, _, _, _, _, .inr ⟨m, n, rfl, rfl, hm1, hm2, hn1, hn2⟩, rfl⟩
  rintro σ' H3 ⟨hp3, z3, z4, mz, nz, z7, hmn, rfl⟩
  obtain ⟨m, n, rfl, rfl, hm1, hm2, hn1, hn2⟩ := hmn.resolve_left (by decide)
  clear hmn hp2
  walk_at "rd"
  refine ⟨Nat.zero_le _, fun L hL => ?_⟩
  have hLt := hp3.ne hL
  have p4 := hp3.ex (Evl.Ex.new (o := .lst []) hL)
  have l4 : (upd H3 L (.lst [])) L = some (.lst (([] : List Int).map V.int)) := upd_same
  generalize upd H3 L _ = H4 at p4 l4 ⊢
  clear hL hp3
  walk_at "rd"
  refine ⟨t, _, _, rfl, p4, by decide, by decide, fun v5 H5 h50 h51 x5 p5 => ?_⟩
  obtain ⟨cnt, hc, hc1, hc2⟩ : ∃ cnt : Nat, 1 + v5 = (cnt : Int) ∧ 1 ≤ cnt ∧ cnt ≤ 8 := ⟨(1 + v5).toNat, by omega, by omega, by omega⟩
  have l5 := x5 _ _ hLt l4
  clear x5 l4 p4
  walk_at "rd"
  refine KR.rngI cnt hc (by omega) (KR.fwR (fun k σ' H' => Pool H' t ∧ ∃ (xs : List Int) (z : Option V), H' L = some (.lst (xs.map V.int)) ∧ xs.length = k ∧ (∀ x ∈ xs, x ≠ 0 ∧ x.natAbs ≤ 97) ∧ σ' = [some (.ref a0), some (.ref t), some (.bl gr), z, z4, some (.int m), some (.int n), z7, some (.ref L), none])
    ⟨p5, [], _, l5, rfl, (fun x hx => nomatch hx), rfl⟩ ?_ ?_)
  · rintro k σ' H6 hk ⟨p6, xs, z, l6, hxl, hxs, rfl⟩
    walk_at "rd"
    refine ⟨.inl ⟨rfl, _, .inl (.inl l6)⟩, ?_⟩
    walk_at "rd"
    refine ⟨t, _, _, rfl, p6, by decide, by decide, fun v7 H7 h70 h71 x7 p7 => ?_⟩
    have l7 := x7 _ _ hLt l6
    walk_at "rd"
    refine ⟨L, _, _, rfl, rfl, l7, by rw [List.length_map, sizeLine_eq]; omega, ?_⟩
    have l8 : (upd H7 L (.lst (xs.map V.int ++ [V.int (1 + v7)]))) L = some (.lst ((xs ++ [1 + v7]).map V.int)) := by rw [upd_same, List.map_append]; rfl
    have p8 : Pool (upd H7 L (.lst (xs.map V.int ++ [V.int (1 + v7)]))) t := p7.upd hLt
    generalize upd H7 L _ = H8 at l8 p8 ⊢
    have hxs8 : ∀ x ∈ xs ++ [1 + v7], x ≠ 0 ∧ x.natAbs ≤ 97 := fun x hx => by
      rcases List.mem_append.mp hx with h | h
      · exact hxs x h
      · rw [List.mem_singleton.mp h]
        omega
    have hkx : (xs ++ [1 + v7])[k]? = some (1 + v7) := by
      rw [List.getElem?_append_right (by omega), hxl, Nat.sub_self]
      rfl
    have hxl8 : (xs ++ [1 + v7]).length = k + 1 := by rw [List.length_append, hxl]; rfl
    have hw : 1 + v7 ≠ 0 ∧ (1 + v7).natAbs ≤ 97 := by omega
    generalize xs ++ [1 + v7] = ys at l8 hxs8 hkx hxl8
    generalize 1 + v7 = w7 at hkx hw
    clear l7 x7 p7 p6 l6
    walk_at "rd"
    refine ⟨t, _, _, rfl, p8, by decide, by decide, fun v9 H9 h90 h91 x9 p9 => ?_⟩
    have l9 := x9 _ _ hLt l8
    walk_at "rd"
    refine KR.iteD (fun c => ?_) (fun c => ?_)
    · walk_at "rd"
      refine KR.ixL (.inl (.inl l9)) (atI_nat (j := k) (v := .int w7) (by rw [List.getElem?_map, hkx]; rfl)) ?_
      walk_at "rd"
      refine KR.setL (j := k) l9 (by rw [List.length_map]; omega) ?_
      walk_at "rd"
      refine ⟨p9.upd hLt, ys.set k (-w7), _, by rw [upd_same, List.map_set], by rw [List.length_set]; exact hxl8, fun x hx => ?_, rfl⟩
      rcases List.mem_or_eq_of_mem_set hx with h | rfl
      · exact hxs8 x h
      · omega
    · walk_at "rd"
      exact ⟨p9, ys, _, l9, hxl8, hxs8, rfl⟩
  rintro σ' H6 ⟨p6, xs, z, l6, hxl, hxs, rfl⟩
  obtain ⟨o1, o2, o3⟩ := small_div hxs
  walk_at "rd"
  refine ⟨L, xs, rfl, l6, by omega, by omega, o1, o2, o3, fun H7 x7 => ?_⟩
  walk_at "rd"
  refine ⟨by show (2 : Nat) ≤ sizeLine; decide, fun d hd => ?_⟩
  obtain ⟨w1, w2, w3⟩ := small_div (xs := [(m : Int), (n : Int)]) (fun x hx => by
    rcases two_mem.mp hx with rfl | rfl <;> omega)
  have y := Evl.Ex.new (o := .lst [.int m, .int n]) hd
  refine ⟨d, [(m : Int), (n : Int)], rfl, upd_same, by show (1 : Nat) ≤ 2; decide, by show (2 : Nat) ≤ 8; decide, w1, w2, w3, fun H8 x8 => ?_⟩
  have p8 := p6.ex (x7.trans (y.trans x8))
  walk_at "rd"
  refine ⟨t, _, _, rfl, p8, by decide, by decide, fun v9 H9 h90 h91 x9 p9 => ?_⟩
  obtain ⟨g, hg, hg1, hg2⟩ : ∃ g : Nat, 1 + v9 = (g : Int) ∧ 1 ≤ g ∧ g ≤ 12 := ⟨(1 + v9).toNat, by omega, by omega, by omega⟩
  have k1 : okL 1 := ⟨by decide, by decide⟩
  have k2 : okL (-1) := ⟨by decide, by decide⟩
  have k3 : okE ((12 : Nat) : Int) := ⟨by decide, by decide⟩
  walk_at "rd"
  rw [hg]
  refine ⟨1, 1, g, g, rfl, k1, k1, by decide, by decide, ⟨by omega, by omega⟩, ⟨by omega, by omega⟩, fun H10 x10 => ?_⟩
  walk_at "rd"
  refine ⟨-1, 1, 12, 12, rfl, k2, k1, by decide, by decide, k3, k3, fun H11 x11 => ?_⟩
  walk_at "rd"
  exact ⟨t, rfl, p9.ex (x10.trans x11), q⟩
end
end K9
namespace K9
open PySem PySem.Spec PyProof.Rows L2
theorem factsH {w : World} {K : PySem.W.Frag} {h : Heap} {mg : Str → Option Value} {fa : Addr} (X : K.In h) (G : h.Ns mainGlobals mg) (hfa : mg "law" = some (.ref fa)) (c : KH.SaysH exH fnH xsH K) :
    ∃ fd : FuncData, (∀ (s : Shared) (v : Value), BindsTo s fd ⟨[v], []⟩ [("script", v)]) ∧ ∀ base : Heap, K.In base → base.Ns mainGlobals mg → FnOk PySem.Challenge.pw_primedeep_k89_two_term_everywhere w K mg base CX0 12 fa fd ["script"] (sp_law K) := by
  obtain ⟨fd_prime_parts, F_prime_parts⟩ := c.def_ 0 (d := dd_prime_parts) rfl
  obtain ⟨fd_to_ratio, F_to_ratio⟩ := c.def_ 1 (d := dd_to_ratio) rfl
  obtain ⟨fd_made_ratio, F_made_ratio⟩ := c.def_ 2 (d := dd_made_ratio) rfl
  obtain ⟨fd_Ratio_init, F_Ratio_init⟩ := c.def_ 3 (d := dd_Ratio_init) rfl
  obtain ⟨fd_Ratio_over, F_Ratio_over⟩ := c.def_ 4 (d := dd_Ratio_over) rfl
  obtain ⟨fd_look_prime, F_look_prime⟩ := c.def_ 5 (d := dd_look_prime) rfl
  obtain ⟨fd_look_range, F_look_range⟩ := c.def_ 6 (d := dd_look_range) rfl
  obtain ⟨fd_look_size, F_look_size⟩ := c.def_ 7 (d := dd_look_size) rfl
  obtain ⟨fd_look_list, F_look_list⟩ := c.def_ 8 (d := dd_look_list) rfl
  obtain ⟨fd_look_each, F_look_each⟩ := c.def_ 9 (d := dd_look_each) rfl
  obtain ⟨fd_as_ratio, F_as_ratio⟩ := c.def_ 10 (d := dd_as_ratio) rfl
  obtain ⟨fd_power, F_power⟩ := c.def_ 11 (d := dd_power) rfl
  obtain ⟨fd_power_mod, F_power_mod⟩ := c.def_ 12 (d := dd_power_mod) rfl
  obtain ⟨fd_inverse_mod, F_inverse_mod⟩ := c.def_ 13 (d := dd_inverse_mod) rfl
  obtain ⟨fd_parted, F_parted⟩ := c.def_ 14 (d := dd_parted) rfl
  obtain ⟨fd_int_depth, F_int_depth⟩ := c.def_ 15 (d := dd_int_depth) rfl
  obtain ⟨fd_depth_of, F_depth_of⟩ := c.def_ 16 (d := dd_depth_of) rfl
  obtain ⟨fd_root_count, F_root_count⟩ := c.def_ 17 (d := dd_root_count) rfl
  obtain ⟨fd_sure_depth, F_sure_depth⟩ := c.def_ 18 (d := dd_sure_depth) rfl
  obtain ⟨fd_unit_residue, F_unit_residue⟩ := c.def_ 19 (d := dd_unit_residue) rfl
  obtain ⟨fd_unit_agreement, F_unit_agreement⟩ := c.def_ 20 (d := dd_unit_agreement) rfl
  obtain ⟨fd_is_power, F_is_power⟩ := c.def_ 21 (d := dd_is_power) rfl
  obtain ⟨fd_primes_of, F_primes_of⟩ := c.def_ 22 (d := dd_primes_of) rfl
  obtain ⟨fd_with_two, F_with_two⟩ := c.def_ 23 (d := dd_with_two) rfl
  obtain ⟨fd_told_primes, F_told_primes⟩ := c.def_ 24 (d := dd_told_primes) rfl
  obtain ⟨fd_two_term_bars, F_two_term_bars⟩ := c.def_ 25 (d := dd_two_term_bars) rfl
  obtain ⟨fd_root, F_root⟩ := c.def_ 26 (d := dd_root) rfl
  obtain ⟨fd_raised, F_raised⟩ := c.def_ 27 (d := dd_raised) rfl
  obtain ⟨fd_two_term, F_two_term⟩ := c.def_ 28 (d := dd_two_term) rfl
  obtain ⟨fd_law_begin, F_law_begin⟩ := c.def_ 29 (d := dd_law_begin) rfl
  obtain ⟨fd_law_draw, F_law_draw⟩ := c.def_ 30 (d := dd_law_draw) rfl
  obtain ⟨fd_law_power, F_law_power⟩ := c.def_ 31 (d := dd_law_power) rfl
  obtain ⟨fd_law_depth, F_law_depth⟩ := c.def_ 32 (d := dd_law_depth) rfl
  obtain ⟨fd_law_is, F_law_is⟩ := c.def_ 33 (d := dd_law_is) rfl
  obtain ⟨fd_law_alike, F_law_alike⟩ := c.def_ 34 (d := dd_law_alike) rfl
  obtain ⟨fd_law_number, F_law_number⟩ := c.def_ 35 (d := dd_law_number) rfl
  obtain ⟨fd_law_inverse, F_law_inverse⟩ := c.def_ 36 (d := dd_law_inverse) rfl
  obtain ⟨fd_law_call, F_law_call⟩ := c.def_ 37 (d := dd_law_call) rfl
  obtain ⟨fd_law_common, F_law_common⟩ := c.def_ 38 (d := dd_law_common) rfl
  obtain ⟨fd_law_parts, F_law_parts⟩ := c.def_ 39 (d := dd_law_parts) rfl
  obtain ⟨fd_law_primes, F_law_primes⟩ := c.def_ 40 (d := dd_law_primes) rfl
  obtain ⟨fd_law_solved, F_law_solved⟩ := c.def_ 41 (d := dd_law_solved) rfl
  obtain ⟨fd_law_solves, F_law_solves⟩ := c.def_ 42 (d := dd_law_solves) rfl
  obtain ⟨fd_law_asked, F_law_asked⟩ := c.def_ 43 (d := dd_law_asked) rfl
  obtain ⟨fd_law_drawn, F_law_drawn⟩ := c.def_ 44 (d := dd_law_drawn) rfl
  obtain ⟨fd_law_same_primes, F_law_same_primes⟩ := c.def_ 45 (d := dd_law_same_primes) rfl
  obtain ⟨fd_law_refused, F_law_refused⟩ := c.def_ 46 (d := dd_law_refused) rfl
  obtain ⟨fd_law, F_law⟩ := c.def_ 47 (d := dd_law) rfl
  obtain ⟨x1_SizeError, x2_SizeError⟩ := c.xd 0 (d := xd_SizeError) rfl
  have EF_SizeError : KH.ErrF K PySem.Challenge.pw_primedeep_k89_two_term_everywhere.main.file "SizeError" := KH.errB_ok (c.fact 93 (f := KH.errB PySem.Challenge.pw_primedeep_k89_two_term_everywhere.main.file "SizeError") rfl)
  obtain ⟨x1_RangeError, x2_RangeError⟩ := c.xd 1 (d := xd_RangeError) rfl
  have EF_RangeError : KH.ErrF K PySem.Challenge.pw_primedeep_k89_two_term_everywhere.main.file "RangeError" := KH.errB_ok (c.fact 111 (f := KH.errB PySem.Challenge.pw_primedeep_k89_two_term_everywhere.main.file "RangeError") rfl)
  obtain ⟨x1_PrimeError, x2_PrimeError⟩ := c.xd 2 (d := xd_PrimeError) rfl
  have EF_PrimeError : KH.ErrF K PySem.Challenge.pw_primedeep_k89_two_term_everywhere.main.file "PrimeError" := KH.errB_ok (c.fact 129 (f := KH.errB PySem.Challenge.pw_primedeep_k89_two_term_everywhere.main.file "PrimeError") rfl)
  obtain ⟨x1_ZeroError, x2_ZeroError⟩ := c.xd 3 (d := xd_ZeroError) rfl
  have EF_ZeroError : KH.ErrF K PySem.Challenge.pw_primedeep_k89_two_term_everywhere.main.file "ZeroError" := KH.errB_ok (c.fact 147 (f := KH.errB PySem.Challenge.pw_primedeep_k89_two_term_everywhere.main.file "ZeroError") rfl)
  have tp : PySem.W.nsIn K cStatics "thirdparty.any" = some none := (He.eqO_ok (c.fact 91 (f := fun K => He.eqO (PySem.W.nsIn K cStatics "thirdparty.any") (some none)) rfl))
  have sg : mg "super" = none := (He.free_ok X G (c.fact 92 (f := fun K => (He.Fa.free "super").ok K) rfl))
  have topk : (PySem.Challenge.pw_primedeep_k89_two_term_everywhere.main.scope.names.lookup ("super" : Str)).isSome = false := by kernel_rfl
  have T : Txt PySem.Challenge.pw_primedeep_k89_two_term_everywhere K mg ⟨(He.ga K "prime_parts"), fd_prime_parts, (He.ga K "to_ratio"), fd_to_ratio, (He.ga K "made_ratio"), fd_made_ratio, (He.ma K (He.ga K "Ratio") "__init__"), fd_Ratio_init, (He.ma K (He.ga K "Ratio") "over"), fd_Ratio_over, (He.ga K "look_prime"), fd_look_prime, (He.ga K "look_range"), fd_look_range, (He.ga K "look_size"), fd_look_size, (He.ga K "look_list"), fd_look_list, (He.ga K "look_each"), fd_look_each, (He.ga K "as_ratio"), fd_as_ratio, (He.ga K "power"), fd_power, (He.ga K "power_mod"), fd_power_mod, (He.ga K "inverse_mod"), fd_inverse_mod, (He.ga K "parted"), fd_parted, (He.ga K "int_depth"), fd_int_depth, (He.ga K "depth_of"), fd_depth_of, (He.ga K "root_count"), fd_root_count, (He.ga K "sure_depth"), fd_sure_depth, (He.ga K "unit_residue"), fd_unit_residue, (He.ga K "unit_agreement"), fd_unit_agreement, (He.ga K "is_power"), fd_is_power, (He.ga K "primes_of"), fd_primes_of, (He.ga K "with_two"), fd_with_two, (He.ga K "told_primes"), fd_told_primes, (He.ga K "two_term_bars"), fd_two_term_bars, (He.ga K "_root"), fd_root, (He.ga K "_raised"), fd_raised, (He.ga K "two_term"), fd_two_term, (He.ga K "_law_begin"), fd_law_begin, (He.ga K "_law_draw"), fd_law_draw, (He.ga K "_law_power"), fd_law_power, (He.ga K "_law_depth"), fd_law_depth, (He.ga K "_law_is"), fd_law_is, (He.ga K "_law_alike"), fd_law_alike, (He.ga K "_law_number"), fd_law_number, (He.ga K "_law_inverse"), fd_law_inverse, (He.ga K "_law_call"), fd_law_call, (He.ga K "_law_common"), fd_law_common, (He.ga K "_law_parts"), fd_law_parts, (He.ga K "_law_primes"), fd_law_primes, (He.ga K "_law_solved"), fd_law_solved, (He.ga K "_law_solves"), fd_law_solves, (He.ga K "_law_asked"), fd_law_asked, (He.ga K "_law_drawn"), fd_law_drawn, (He.ga K "_law_same_primes"), fd_law_same_primes, (He.ga K "_law_refused"), fd_law_refused, (He.ga K "law"), fd_law, (He.ga K "SMALL_PRIMES"), (He.ga K "Ratio"), (KH.intAt K "MOST"), (He.ga K "PrimedeepError"), 0, 0, 0, (He.ga K "SizeError"), (KH.xI K "SizeError"), (KH.xC K "SizeError"), (KH.xK K "SizeError"), (He.ga K "RangeError"), (KH.xI K "RangeError"), (KH.xC K "RangeError"), (KH.xK K "RangeError"), (He.ga K "PrimeError"), (KH.xI K "PrimeError"), (KH.xC K "PrimeError"), (KH.xK K "PrimeError"), (He.ga K "DepthError"), 0, 0, 0, (He.ga K "ZeroError"), (KH.xI K "ZeroError"), (KH.xC K "ZeroError"), (KH.xK K "ZeroError"), (He.ga K "MixError"), 0, 0, 0, (He.ga K "BarError"), 0, 0, 0, (He.ga K "MonicError"), 0, 0, 0, (He.ga K "RepeatError"), 0, 0, 0, (He.ga K "FieldError"), 0, 0, 0, (He.ga K "EditError"), 0, 0, 0, (He.ga K "TextError"), 0, 0, 0, (He.ga K "HistoryError"), 0, 0, 0⟩ :=
    { F_prime_parts := KH.fun_of F_prime_parts,
      g_prime_parts := He.glo_ok X G (c.fact 0 (f := fun K => (He.Fa.glo "prime_parts").ok K) rfl),
      F_to_ratio := KH.fun_of F_to_ratio,
      g_to_ratio := He.glo_ok X G (c.fact 1 (f := fun K => (He.Fa.glo "to_ratio").ok K) rfl),
      F_made_ratio := KH.fun_of F_made_ratio,
      g_made_ratio := He.glo_ok X G (c.fact 2 (f := fun K => (He.Fa.glo "made_ratio").ok K) rfl),
      F_Ratio_init := F_Ratio_init,
      F_Ratio_over := KH.fun_of F_Ratio_over,
      F_look_prime := KH.fun_of F_look_prime,
      g_look_prime := He.glo_ok X G (c.fact 3 (f := fun K => (He.Fa.glo "look_prime").ok K) rfl),
      F_look_range := KH.fun_of F_look_range,
      g_look_range := He.glo_ok X G (c.fact 4 (f := fun K => (He.Fa.glo "look_range").ok K) rfl),
      F_look_size := KH.fun_of F_look_size,
      g_look_size := He.glo_ok X G (c.fact 5 (f := fun K => (He.Fa.glo "look_size").ok K) rfl),
      F_look_list := KH.fun_of F_look_list,
      g_look_list := He.glo_ok X G (c.fact 6 (f := fun K => (He.Fa.glo "look_list").ok K) rfl),
      F_look_each := KH.fun_of F_look_each,
      g_look_each := He.glo_ok X G (c.fact 7 (f := fun K => (He.Fa.glo "look_each").ok K) rfl),
      F_as_ratio := KH.fun_of F_as_ratio,
      g_as_ratio := He.glo_ok X G (c.fact 8 (f := fun K => (He.Fa.glo "as_ratio").ok K) rfl),
      F_power := KH.fun_of F_power,
      g_power := He.glo_ok X G (c.fact 9 (f := fun K => (He.Fa.glo "power").ok K) rfl),
      F_power_mod := KH.fun_of F_power_mod,
      g_power_mod := He.glo_ok X G (c.fact 10 (f := fun K => (He.Fa.glo "power_mod").ok K) rfl),
      F_inverse_mod := KH.fun_of F_inverse_mod,
      g_inverse_mod := He.glo_ok X G (c.fact 11 (f := fun K => (He.Fa.glo "inverse_mod").ok K) rfl),
      F_parted := KH.fun_of F_parted,
      g_parted := He.glo_ok X G (c.fact 12 (f := fun K => (He.Fa.glo "parted").ok K) rfl),
      F_int_depth := KH.fun_of F_int_depth,
      g_int_depth := He.glo_ok X G (c.fact 13 (f := fun K => (He.Fa.glo "int_depth").ok K) rfl),
      F_depth_of := KH.fun_of F_depth_of,
      g_depth_of := He.glo_ok X G (c.fact 14 (f := fun K => (He.Fa.glo "depth_of").ok K) rfl),
      F_root_count := KH.fun_of F_root_count,
      g_root_count := He.glo_ok X G (c.fact 15 (f := fun K => (He.Fa.glo "root_count").ok K) rfl),
      F_sure_depth := KH.fun_of F_sure_depth,
      g_sure_depth := He.glo_ok X G (c.fact 16 (f := fun K => (He.Fa.glo "sure_depth").ok K) rfl),
      F_unit_residue := KH.fun_of F_unit_residue,
      g_unit_residue := He.glo_ok X G (c.fact 17 (f := fun K => (He.Fa.glo "unit_residue").ok K) rfl),
      F_unit_agreement := KH.fun_of F_unit_agreement,
      g_unit_agreement := He.glo_ok X G (c.fact 18 (f := fun K => (He.Fa.glo "unit_agreement").ok K) rfl),
      F_is_power := KH.fun_of F_is_power,
      g_is_power := He.glo_ok X G (c.fact 19 (f := fun K => (He.Fa.glo "is_power").ok K) rfl),
      F_primes_of := KH.fun_of F_primes_of,
      g_primes_of := He.glo_ok X G (c.fact 20 (f := fun K => (He.Fa.glo "primes_of").ok K) rfl),
      F_with_two := KH.fun_of F_with_two,
      g_with_two := He.glo_ok X G (c.fact 21 (f := fun K => (He.Fa.glo "with_two").ok K) rfl),
      F_told_primes := KH.fun_of F_told_primes,
      g_told_primes := He.glo_ok X G (c.fact 22 (f := fun K => (He.Fa.glo "told_primes").ok K) rfl),
      F_two_term_bars := KH.fun_of F_two_term_bars,
      g_two_term_bars := He.glo_ok X G (c.fact 23 (f := fun K => (He.Fa.glo "two_term_bars").ok K) rfl),
      F_root := KH.fun_of F_root,
      g_root := He.glo_ok X G (c.fact 24 (f := fun K => (He.Fa.glo "_root").ok K) rfl),
      F_raised := KH.fun_of F_raised,
      g_raised := He.glo_ok X G (c.fact 25 (f := fun K => (He.Fa.glo "_raised").ok K) rfl),
      F_two_term := KH.fun_of F_two_term,
      g_two_term := He.glo_ok X G (c.fact 26 (f := fun K => (He.Fa.glo "two_term").ok K) rfl),
      F_law_begin := KH.fun_of F_law_begin,
      g_law_begin := He.glo_ok X G (c.fact 27 (f := fun K => (He.Fa.glo "_law_begin").ok K) rfl),
      F_law_draw := KH.fun_of F_law_draw,
      g_law_draw := He.glo_ok X G (c.fact 28 (f := fun K => (He.Fa.glo "_law_draw").ok K) rfl),
      F_law_power := KH.fun_of F_law_power,
      g_law_power := He.glo_ok X G (c.fact 29 (f := fun K => (He.Fa.glo "_law_power").ok K) rfl),
      F_law_depth := KH.fun_of F_law_depth,
      g_law_depth := He.glo_ok X G (c.fact 30 (f := fun K => (He.Fa.glo "_law_depth").ok K) rfl),
      F_law_is := KH.fun_of F_law_is,
      g_law_is := He.glo_ok X G (c.fact 31 (f := fun K => (He.Fa.glo "_law_is").ok K) rfl),
      F_law_alike := KH.fun_of F_law_alike,
      g_law_alike := He.glo_ok X G (c.fact 32 (f := fun K => (He.Fa.glo "_law_alike").ok K) rfl),
      F_law_number := KH.fun_of F_law_number,
      g_law_number := He.glo_ok X G (c.fact 33 (f := fun K => (He.Fa.glo "_law_number").ok K) rfl),
      F_law_inverse := KH.fun_of F_law_inverse,
      g_law_inverse := He.glo_ok X G (c.fact 34 (f := fun K => (He.Fa.glo "_law_inverse").ok K) rfl),
      F_law_call := KH.fun_of F_law_call,
      g_law_call := He.glo_ok X G (c.fact 35 (f := fun K => (He.Fa.glo "_law_call").ok K) rfl),
      F_law_common := KH.fun_of F_law_common,
      g_law_common := He.glo_ok X G (c.fact 36 (f := fun K => (He.Fa.glo "_law_common").ok K) rfl),
      F_law_parts := KH.fun_of F_law_parts,
      g_law_parts := He.glo_ok X G (c.fact 37 (f := fun K => (He.Fa.glo "_law_parts").ok K) rfl),
      F_law_primes := KH.fun_of F_law_primes,
      g_law_primes := He.glo_ok X G (c.fact 38 (f := fun K => (He.Fa.glo "_law_primes").ok K) rfl),
      F_law_solved := KH.fun_of F_law_solved,
      g_law_solved := He.glo_ok X G (c.fact 39 (f := fun K => (He.Fa.glo "_law_solved").ok K) rfl),
      F_law_solves := KH.fun_of F_law_solves,
      g_law_solves := He.glo_ok X G (c.fact 40 (f := fun K => (He.Fa.glo "_law_solves").ok K) rfl),
      F_law_asked := KH.fun_of F_law_asked,
      g_law_asked := He.glo_ok X G (c.fact 41 (f := fun K => (He.Fa.glo "_law_asked").ok K) rfl),
      F_law_drawn := KH.fun_of F_law_drawn,
      g_law_drawn := He.glo_ok X G (c.fact 42 (f := fun K => (He.Fa.glo "_law_drawn").ok K) rfl),
      F_law_same_primes := KH.fun_of F_law_same_primes,
      g_law_same_primes := He.glo_ok X G (c.fact 43 (f := fun K => (He.Fa.glo "_law_same_primes").ok K) rfl),
      F_law_refused := KH.fun_of F_law_refused,
      g_law_refused := He.glo_ok X G (c.fact 44 (f := fun K => (He.Fa.glo "_law_refused").ok K) rfl),
      F_law := KH.fun_of F_law,
      g_law := He.glo_ok X G (c.fact 45 (f := fun K => (He.Fa.glo "law").ok K) rfl),
      g_Ratio := He.glo_ok X G (c.fact 46 (f := fun K => (He.Fa.glo "Ratio").ok K) rfl),
      cl_Ratio := He.cls_ok (c.fact 47 (f := fun K => (He.Fa.cls "Ratio").ok K) rfl),
      mk_Ratio := He.mkr_ok (c.fact 49 (f := fun K => (He.Fa.mkr "Ratio").ok K) rfl),
      m_Ratio_over := He.meth_ok (c.fact 50 (f := fun K => (He.Fa.meth "Ratio" "over").ok K) rfl),
      na_Ratio_num := He.noat_ok (c.fact 51 (f := fun K => (He.Fa.noat "Ratio" "num").ok K) rfl),
      na_Ratio_den := He.noat_ok (c.fact 52 (f := fun K => (He.Fa.noat "Ratio" "den").ok K) rfl),
      ty_Ratio := KH.tyR_of (x := "Ratio") (He.cls_ok (c.fact 47 (f := fun K => (He.Fa.cls "Ratio").ok K) rfl)) (c.fact 53 (f := KH.isB "Ratio") rfl) (c.fact 48 (f := KH.icB) rfl) (c.fact 54 (f := fun K => decide (PySem.W.kitOne K (.ref (He.ga K "Ratio")) (.ref (He.ga K "Ratio")) = some true)) rfl) (c.fact 55 (f := fun K => decide (PySem.W.kitOne K (.type "int") (.ref (He.ga K "Ratio")) = some false)) rfl),
      n_gcd := KH.bi_ok X G (c.fact 56 (f := KH.biB "gcd" "math.gcd") rfl),
      c_MOST := (KH.big_ok X G (c.fact 57 (f := KH.bigB "MOST" 2000) rfl)).1,
      h_MOST := (KH.big_ok X G (c.fact 57 (f := KH.bigB "MOST" 2000) rfl)).2,
      n_len := He.free_ok X G (c.fact 58 (f := fun K => (He.Fa.free "len").ok K) rfl),
      n_int := He.free_ok X G (c.fact 59 (f := fun K => (He.Fa.free "int").ok K) rfl),
      n_bool := He.free_ok X G (c.fact 60 (f := fun K => (He.Fa.free "bool").ok K) rfl),
      n_tuple := He.free_ok X G (c.fact 61 (f := fun K => (He.Fa.free "tuple").ok K) rfl),
      n_list := He.free_ok X G (c.fact 62 (f := fun K => (He.Fa.free "list").ok K) rfl),
      n_abs := He.free_ok X G (c.fact 63 (f := fun K => (He.Fa.free "abs").ok K) rfl),
      n_isinstance := He.free_ok X G (c.fact 64 (f := fun K => (He.Fa.free "isinstance").ok K) rfl),
      n_all := He.free_ok X G (c.fact 65 (f := fun K => (He.Fa.free "all").ok K) rfl),
      n_range := He.free_ok X G (c.fact 66 (f := fun K => (He.Fa.free "range").ok K) rfl),
      n_sorted := He.free_ok X G (c.fact 67 (f := fun K => (He.Fa.free "sorted").ok K) rfl),
      n_min := He.free_ok X G (c.fact 68 (f := fun K => (He.Fa.free "min").ok K) rfl),
      n_ValueError := He.free_ok X G (c.fact 69 (f := fun K => (He.Fa.free "ValueError").ok K) rfl),
      c_MOST_PARTED := He.int_ok X G (c.fact 70 (f := fun K => (He.Fa.int "MOST_PARTED" 1000000000).ok K) rfl),
      c_LARGEST := He.int_ok X G (c.fact 71 (f := fun K => (He.Fa.int "LARGEST" 1000000000).ok K) rfl),
      c_MOST_PRIME := He.int_ok X G (c.fact 72 (f := fun K => (He.Fa.int "MOST_PRIME" 97).ok K) rfl),
      c_MOST_EXPONENT_nth := He.int_ok X G (c.fact 73 (f := fun K => (He.Fa.int "MOST_EXPONENT_nth" 60).ok K) rfl),
      c_MOST_EXPONENT_equations := He.int_ok X G (c.fact 74 (f := fun K => (He.Fa.int "MOST_EXPONENT_equations" 12).ok K) rfl),
      c_SMALL_PRIMES := He.glo_ok X G (c.fact 75 (f := fun K => (He.Fa.glo "SMALL_PRIMES").ok K) rfl),
      tSP := KH.tup_ok (c.fact 76 (f := fun K => He.tupB K "SMALL_PRIMES" (primesL.map He.Dv.int)) rfl),
      g_PrimedeepError := He.glo_ok X G (c.fact 77 (f := fun K => (He.Fa.glo "PrimedeepError").ok K) rfl),
      g_SizeError := He.glo_ok X G (c.fact 78 (f := fun K => (He.Fa.glo "SizeError").ok K) rfl),
      g_RangeError := He.glo_ok X G (c.fact 79 (f := fun K => (He.Fa.glo "RangeError").ok K) rfl),
      g_PrimeError := He.glo_ok X G (c.fact 80 (f := fun K => (He.Fa.glo "PrimeError").ok K) rfl),
      g_DepthError := He.glo_ok X G (c.fact 81 (f := fun K => (He.Fa.glo "DepthError").ok K) rfl),
      g_ZeroError := He.glo_ok X G (c.fact 82 (f := fun K => (He.Fa.glo "ZeroError").ok K) rfl),
      g_MixError := He.glo_ok X G (c.fact 83 (f := fun K => (He.Fa.glo "MixError").ok K) rfl),
      g_BarError := He.glo_ok X G (c.fact 84 (f := fun K => (He.Fa.glo "BarError").ok K) rfl),
      g_MonicError := He.glo_ok X G (c.fact 85 (f := fun K => (He.Fa.glo "MonicError").ok K) rfl),
      g_RepeatError := He.glo_ok X G (c.fact 86 (f := fun K => (He.Fa.glo "RepeatError").ok K) rfl),
      g_FieldError := He.glo_ok X G (c.fact 87 (f := fun K => (He.Fa.glo "FieldError").ok K) rfl),
      g_EditError := He.glo_ok X G (c.fact 88 (f := fun K => (He.Fa.glo "EditError").ok K) rfl),
      g_TextError := He.glo_ok X G (c.fact 89 (f := fun K => (He.Fa.glo "TextError").ok K) rfl),
      g_HistoryError := He.glo_ok X G (c.fact 90 (f := fun K => (He.Fa.glo "HistoryError").ok K) rfl),
      e_SizeError := EF_SizeError.err1 (d := xd_SizeError) X G tp sg topk x1_SizeError x2_SizeError (c.fact 94 (f := fun K => He.eqO (PySem.W.findIn K (.ref (He.ga K "SizeError")) "count") (some none)) rfl) (by decide) rfl rfl rfl (fun _ _ _ _ => ⟨_, rfl⟩),
      ei_SizeError := EF_SizeError.errI (c.fact 95 (f := KH.isB "SizeError") rfl) (c.fact 48 (f := KH.icB) rfl),
      ex_SizeError := of_decide_eq_true (c.fact 96 (f := fun K => decide (PySem.W.exmOne K (.ref (He.ga K "SizeError")) (.ref (He.ga K "PrimedeepError")) = some true)) rfl),
      kv_SizeError := of_decide_eq_true (c.fact 97 (f := fun K => decide (PySem.W.kitOne K (.ref (He.ga K "SizeError")) (.type "ValueError") = some true)) rfl),
      kt_SizeError_SizeError := of_decide_eq_true (c.fact 98 (f := fun K => decide (PySem.W.kitOne K (.ref (He.ga K "SizeError")) (.ref (He.ga K "SizeError")) = some true)) rfl),
      kt_SizeError_RangeError := of_decide_eq_true (c.fact 99 (f := fun K => decide (PySem.W.kitOne K (.ref (He.ga K "SizeError")) (.ref (He.ga K "RangeError")) = some false)) rfl),
      kt_SizeError_PrimeError := of_decide_eq_true (c.fact 100 (f := fun K => decide (PySem.W.kitOne K (.ref (He.ga K "SizeError")) (.ref (He.ga K "PrimeError")) = some false)) rfl),
      kt_SizeError_DepthError := of_decide_eq_true (c.fact 101 (f := fun K => decide (PySem.W.kitOne K (.ref (He.ga K "SizeError")) (.ref (He.ga K "DepthError")) = some false)) rfl),
      kt_SizeError_ZeroError := of_decide_eq_true (c.fact 102 (f := fun K => decide (PySem.W.kitOne K (.ref (He.ga K "SizeError")) (.ref (He.ga K "ZeroError")) = some false)) rfl),
      kt_SizeError_MixError := of_decide_eq_true (c.fact 103 (f := fun K => decide (PySem.W.kitOne K (.ref (He.ga K "SizeError")) (.ref (He.ga K "MixError")) = some false)) rfl),
      kt_SizeError_BarError := of_decide_eq_true (c.fact 104 (f := fun K => decide (PySem.W.kitOne K (.ref (He.ga K "SizeError")) (.ref (He.ga K "BarError")) = some false)) rfl),
      kt_SizeError_MonicError := of_decide_eq_true (c.fact 105 (f := fun K => decide (PySem.W.kitOne K (.ref (He.ga K "SizeError")) (.ref (He.ga K "MonicError")) = some false)) rfl),
      kt_SizeError_RepeatError := of_decide_eq_true (c.fact 106 (f := fun K => decide (PySem.W.kitOne K (.ref (He.ga K "SizeError")) (.ref (He.ga K "RepeatError")) = some false)) rfl),
      kt_SizeError_FieldError := of_decide_eq_true (c.fact 107 (f := fun K => decide (PySem.W.kitOne K (.ref (He.ga K "SizeError")) (.ref (He.ga K "FieldError")) = some false)) rfl),
      kt_SizeError_EditError := of_decide_eq_true (c.fact 108 (f := fun K => decide (PySem.W.kitOne K (.ref (He.ga K "SizeError")) (.ref (He.ga K "EditError")) = some false)) rfl),
      kt_SizeError_TextError := of_decide_eq_true (c.fact 109 (f := fun K => decide (PySem.W.kitOne K (.ref (He.ga K "SizeError")) (.ref (He.ga K "TextError")) = some false)) rfl),
      kt_SizeError_HistoryError := of_decide_eq_true (c.fact 110 (f := fun K => decide (PySem.W.kitOne K (.ref (He.ga K "SizeError")) (.ref (He.ga K "HistoryError")) = some false)) rfl),
      e_RangeError := EF_RangeError.err1 (d := xd_RangeError) X G tp sg topk x1_RangeError x2_RangeError (c.fact 112 (f := fun K => He.eqO (PySem.W.findIn K (.ref (He.ga K "RangeError")) "number") (some none)) rfl) (by decide) rfl rfl rfl (fun _ _ _ _ => ⟨_, rfl⟩),
      ei_RangeError := EF_RangeError.errI (c.fact 113 (f := KH.isB "RangeError") rfl) (c.fact 48 (f := KH.icB) rfl),
      ex_RangeError := of_decide_eq_true (c.fact 114 (f := fun K => decide (PySem.W.exmOne K (.ref (He.ga K "RangeError")) (.ref (He.ga K "PrimedeepError")) = some true)) rfl),
      kv_RangeError := of_decide_eq_true (c.fact 115 (f := fun K => decide (PySem.W.kitOne K (.ref (He.ga K "RangeError")) (.type "ValueError") = some true)) rfl),
      kt_RangeError_SizeError := of_decide_eq_true (c.fact 116 (f := fun K => decide (PySem.W.kitOne K (.ref (He.ga K "RangeError")) (.ref (He.ga K "SizeError")) = some false)) rfl),
      kt_RangeError_RangeError := of_decide_eq_true (c.fact 117 (f := fun K => decide (PySem.W.kitOne K (.ref (He.ga K "RangeError")) (.ref (He.ga K "RangeError")) = some true)) rfl),
      kt_RangeError_PrimeError := of_decide_eq_true (c.fact 118 (f := fun K => decide (PySem.W.kitOne K (.ref (He.ga K "RangeError")) (.ref (He.ga K "PrimeError")) = some false)) rfl),
      kt_RangeError_DepthError := of_decide_eq_true (c.fact 119 (f := fun K => decide (PySem.W.kitOne K (.ref (He.ga K "RangeError")) (.ref (He.ga K "DepthError")) = some false)) rfl),
      kt_RangeError_ZeroError := of_decide_eq_true (c.fact 120 (f := fun K => decide (PySem.W.kitOne K (.ref (He.ga K "RangeError")) (.ref (He.ga K "ZeroError")) = some false)) rfl),
      kt_RangeError_MixError := of_decide_eq_true (c.fact 121 (f := fun K => decide (PySem.W.kitOne K (.ref (He.ga K "RangeError")) (.ref (He.ga K "MixError")) = some false)) rfl),
      kt_RangeError_BarError := of_decide_eq_true (c.fact 122 (f := fun K => decide (PySem.W.kitOne K (.ref (He.ga K "RangeError")) (.ref (He.ga K "BarError")) = some false)) rfl),
      kt_RangeError_MonicError := of_decide_eq_true (c.fact 123 (f := fun K => decide (PySem.W.kitOne K (.ref (He.ga K "RangeError")) (.ref (He.ga K "MonicError")) = some false)) rfl),
      kt_RangeError_RepeatError := of_decide_eq_true (c.fact 124 (f := fun K => decide (PySem.W.kitOne K (.ref (He.ga K "RangeError")) (.ref (He.ga K "RepeatError")) = some false)) rfl),
      kt_RangeError_FieldError := of_decide_eq_true (c.fact 125 (f := fun K => decide (PySem.W.kitOne K (.ref (He.ga K "RangeError")) (.ref (He.ga K "FieldError")) = some false)) rfl),
      kt_RangeError_EditError := of_decide_eq_true (c.fact 126 (f := fun K => decide (PySem.W.kitOne K (.ref (He.ga K "RangeError")) (.ref (He.ga K "EditError")) = some false)) rfl),
      kt_RangeError_TextError := of_decide_eq_true (c.fact 127 (f := fun K => decide (PySem.W.kitOne K (.ref (He.ga K "RangeError")) (.ref (He.ga K "TextError")) = some false)) rfl),
      kt_RangeError_HistoryError := of_decide_eq_true (c.fact 128 (f := fun K => decide (PySem.W.kitOne K (.ref (He.ga K "RangeError")) (.ref (He.ga K "HistoryError")) = some false)) rfl),
      e_PrimeError := EF_PrimeError.err1 (d := xd_PrimeError) X G tp sg topk x1_PrimeError x2_PrimeError (c.fact 130 (f := fun K => He.eqO (PySem.W.findIn K (.ref (He.ga K "PrimeError")) "number") (some none)) rfl) (by decide) rfl rfl rfl (fun _ _ _ _ => ⟨_, rfl⟩),
      ei_PrimeError := EF_PrimeError.errI (c.fact 131 (f := KH.isB "PrimeError") rfl) (c.fact 48 (f := KH.icB) rfl),
      ex_PrimeError := of_decide_eq_true (c.fact 132 (f := fun K => decide (PySem.W.exmOne K (.ref (He.ga K "PrimeError")) (.ref (He.ga K "PrimedeepError")) = some true)) rfl),
      kv_PrimeError := of_decide_eq_true (c.fact 133 (f := fun K => decide (PySem.W.kitOne K (.ref (He.ga K "PrimeError")) (.type "ValueError") = some true)) rfl),
      kt_PrimeError_SizeError := of_decide_eq_true (c.fact 134 (f := fun K => decide (PySem.W.kitOne K (.ref (He.ga K "PrimeError")) (.ref (He.ga K "SizeError")) = some false)) rfl),
      kt_PrimeError_RangeError := of_decide_eq_true (c.fact 135 (f := fun K => decide (PySem.W.kitOne K (.ref (He.ga K "PrimeError")) (.ref (He.ga K "RangeError")) = some false)) rfl),
      kt_PrimeError_PrimeError := of_decide_eq_true (c.fact 136 (f := fun K => decide (PySem.W.kitOne K (.ref (He.ga K "PrimeError")) (.ref (He.ga K "PrimeError")) = some true)) rfl),
      kt_PrimeError_DepthError := of_decide_eq_true (c.fact 137 (f := fun K => decide (PySem.W.kitOne K (.ref (He.ga K "PrimeError")) (.ref (He.ga K "DepthError")) = some false)) rfl),
      kt_PrimeError_ZeroError := of_decide_eq_true (c.fact 138 (f := fun K => decide (PySem.W.kitOne K (.ref (He.ga K "PrimeError")) (.ref (He.ga K "ZeroError")) = some false)) rfl),
      kt_PrimeError_MixError := of_decide_eq_true (c.fact 139 (f := fun K => decide (PySem.W.kitOne K (.ref (He.ga K "PrimeError")) (.ref (He.ga K "MixError")) = some false)) rfl),
      kt_PrimeError_BarError := of_decide_eq_true (c.fact 140 (f := fun K => decide (PySem.W.kitOne K (.ref (He.ga K "PrimeError")) (.ref (He.ga K "BarError")) = some false)) rfl),
      kt_PrimeError_MonicError := of_decide_eq_true (c.fact 141 (f := fun K => decide (PySem.W.kitOne K (.ref (He.ga K "PrimeError")) (.ref (He.ga K "MonicError")) = some false)) rfl),
      kt_PrimeError_RepeatError := of_decide_eq_true (c.fact 142 (f := fun K => decide (PySem.W.kitOne K (.ref (He.ga K "PrimeError")) (.ref (He.ga K "RepeatError")) = some false)) rfl),
      kt_PrimeError_FieldError := of_decide_eq_true (c.fact 143 (f := fun K => decide (PySem.W.kitOne K (.ref (He.ga K "PrimeError")) (.ref (He.ga K "FieldError")) = some false)) rfl),
      kt_PrimeError_EditError := of_decide_eq_true (c.fact 144 (f := fun K => decide (PySem.W.kitOne K (.ref (He.ga K "PrimeError")) (.ref (He.ga K "EditError")) = some false)) rfl),
      kt_PrimeError_TextError := of_decide_eq_true (c.fact 145 (f := fun K => decide (PySem.W.kitOne K (.ref (He.ga K "PrimeError")) (.ref (He.ga K "TextError")) = some false)) rfl),
      kt_PrimeError_HistoryError := of_decide_eq_true (c.fact 146 (f := fun K => decide (PySem.W.kitOne K (.ref (He.ga K "PrimeError")) (.ref (He.ga K "HistoryError")) = some false)) rfl),
      e_ZeroError := EF_ZeroError.err0 (d := xd_ZeroError) X G tp sg topk x1_ZeroError x2_ZeroError rfl rfl rfl (fun _ _ _ _ => ⟨_, rfl⟩),
      ei_ZeroError := EF_ZeroError.errI (c.fact 148 (f := KH.isB "ZeroError") rfl) (c.fact 48 (f := KH.icB) rfl),
      ex_ZeroError := of_decide_eq_true (c.fact 149 (f := fun K => decide (PySem.W.exmOne K (.ref (He.ga K "ZeroError")) (.ref (He.ga K "PrimedeepError")) = some true)) rfl),
      kv_ZeroError := of_decide_eq_true (c.fact 150 (f := fun K => decide (PySem.W.kitOne K (.ref (He.ga K "ZeroError")) (.type "ValueError") = some true)) rfl),
      kt_ZeroError_SizeError := of_decide_eq_true (c.fact 151 (f := fun K => decide (PySem.W.kitOne K (.ref (He.ga K "ZeroError")) (.ref (He.ga K "SizeError")) = some false)) rfl),
      kt_ZeroError_RangeError := of_decide_eq_true (c.fact 152 (f := fun K => decide (PySem.W.kitOne K (.ref (He.ga K "ZeroError")) (.ref (He.ga K "RangeError")) = some false)) rfl),
      kt_ZeroError_PrimeError := of_decide_eq_true (c.fact 153 (f := fun K => decide (PySem.W.kitOne K (.ref (He.ga K "ZeroError")) (.ref (He.ga K "PrimeError")) = some false)) rfl),
      kt_ZeroError_DepthError := of_decide_eq_true (c.fact 154 (f := fun K => decide (PySem.W.kitOne K (.ref (He.ga K "ZeroError")) (.ref (He.ga K "DepthError")) = some false)) rfl),
      kt_ZeroError_ZeroError := of_decide_eq_true (c.fact 155 (f := fun K => decide (PySem.W.kitOne K (.ref (He.ga K "ZeroError")) (.ref (He.ga K "ZeroError")) = some true)) rfl),
      kt_ZeroError_MixError := of_decide_eq_true (c.fact 156 (f := fun K => decide (PySem.W.kitOne K (.ref (He.ga K "ZeroError")) (.ref (He.ga K "MixError")) = some false)) rfl),
      kt_ZeroError_BarError := of_decide_eq_true (c.fact 157 (f := fun K => decide (PySem.W.kitOne K (.ref (He.ga K "ZeroError")) (.ref (He.ga K "BarError")) = some false)) rfl),
      kt_ZeroError_MonicError := of_decide_eq_true (c.fact 158 (f := fun K => decide (PySem.W.kitOne K (.ref (He.ga K "ZeroError")) (.ref (He.ga K "MonicError")) = some false)) rfl),
      kt_ZeroError_RepeatError := of_decide_eq_true (c.fact 159 (f := fun K => decide (PySem.W.kitOne K (.ref (He.ga K "ZeroError")) (.ref (He.ga K "RepeatError")) = some false)) rfl),
      kt_ZeroError_FieldError := of_decide_eq_true (c.fact 160 (f := fun K => decide (PySem.W.kitOne K (.ref (He.ga K "ZeroError")) (.ref (He.ga K "FieldError")) = some false)) rfl),
      kt_ZeroError_EditError := of_decide_eq_true (c.fact 161 (f := fun K => decide (PySem.W.kitOne K (.ref (He.ga K "ZeroError")) (.ref (He.ga K "EditError")) = some false)) rfl),
      kt_ZeroError_TextError := of_decide_eq_true (c.fact 162 (f := fun K => decide (PySem.W.kitOne K (.ref (He.ga K "ZeroError")) (.ref (He.ga K "TextError")) = some false)) rfl),
      kt_ZeroError_HistoryError := of_decide_eq_true (c.fact 163 (f := fun K => decide (PySem.W.kitOne K (.ref (He.ga K "ZeroError")) (.ref (He.ga K "HistoryError")) = some false)) rfl) }
  have e := hfa.symm.trans T.g_law
  cases e
  have b := FunD.bindsA (ps := ["script"]) F_law fun _ _ _ _ _ _ us hl => match us, hl with | [_], _ => rfl
  exact ⟨_, fun s v => b s [v] rfl, fun base _ _ => ok_law T⟩
end K9
open PySem PySem.W PySem.Calls PyProof.Rows
theorem PySem.Challenge.cw_primedeep_k89_two_term_everywhere_holds : PySem.Challenge.rw_primedeep_k89_two_term_everywhere.Holds := by
  w_on; o_law
  refine HandSHeadRun.head_imp (r := OpenLaw.row PySem.Challenge.rw_primedeep_k89_two_term_everywhere) (q := view (OpenLaw.row PySem.Challenge.rw_primedeep_k89_two_term_everywhere).prog [0, 79]) (H := K9.hkH) (ob := K9.obH) (M := 40000) (loose := K9.nmH) (d := HandSHeadRun.topDef (OpenLaw.row PySem.Challenge.rw_primedeep_k89_two_term_everywhere).prog 79) (kwd := []) K9.obH_eq
    K9.runH (by kernel_rfl) (by kernel_rfl) (by kernel_rfl) (by rfl) (by first | assumption | decide +kernel) (by decide +kernel) ⟨rfl, rfl, rfl, rfl, rfl, by decide +kernel⟩ ?hw ?hc
  case hw => w_witness2
  case hc =>
    refine L2.walk_ofE (l := PySem.Challenge.rw_primedeep_k89_two_term_everywhere) (n := 63) (k := 12) (x := "script") (CX := L2.CX0) rfl (by decide) (by kernel_rfl) ⟨rfl, by decide, by decide⟩ ?F (fun _ _ _ _ z => z)
    intro w mg fa h Y G hmg0
    obtain ⟨K, KX, c⟩ := Y
    have hmg : mg ("law" : PySem.Str) = some (.ref fa) := by
      have e : (HandSHeadRun.topDef (OpenLaw.row PySem.Challenge.rw_primedeep_k89_two_term_everywhere).prog 79).name = ("law" : PySem.Str) := by kernel_rfl
      rw [← e]
      exact hmg0
    obtain ⟨fd, hb, hF⟩ := K9.factsH (w := w) KX G hmg c
    exact ⟨K, fd, K9.sp_law K, KX, hb, fun H a ns hl _ hS => ⟨a, ns, rfl, hS, fun _ => rfl⟩, hF⟩
