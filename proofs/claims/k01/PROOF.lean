import PyProof.Rows.All
import Wide.All
import OpenK.AllK
import Wide.FinOn
import PyProof.EqAt
import PyProof.EqKinds
import PyProof.TupleCall
import KE.KStateDown
import KE.KExcSuper
import HandS.ForMost
import HandS.ForExc
import HandS.HeadWalk
import HandS.Defaults
import HandS.ExcIs
import HandS.ExcCtx
import HandS.HotCalls
import HandS.ExcInitHot
import HandS.IsInst
import KE.KExcIs
import HandS.RaiseFrom
import HandS.SuiteRaise
import HandS.EndBits
import HandS.Head0
import HandS.Head1
import HandS.Head2
import HandS.HeadEnd
import HandS.HeadHook1
import HandS.HeadHook2
import HandS.HeadHook3
import HandS.HeadNt
import HandS.Wide
import HandS.Flow
import HandS.StrMore
import HandS.Conv
import HandS.TupAny
import HandS.RaiseMore
import HandS.TupLe
import HandS.Star
import HandS.Property
import HandS.ClsMeth
import HandS.Style
import HandS.ExcOwn
import HandS.Iter
import HandS.Dict
import HandS.More
import HandS.SortInts
import PyProof.Rows.SortShellAny
import HandS.IterVal
import HandS.OwnIter
import KE.KOwnIter
import KE.KCallOwn
import HandS.Gcd
import HandS.FStr
import HandS.Head3
import KE.KOpsOwn
import KE.KDictList
import HandS.DictComp
import HandS.Zip
import HandS.List
import HandS.CallSlots
import HandS.Text
import HandS.ReplaceLit
import HandS.Comp
import PySem.Challenge.RW_renamedhorn_k01_literal_order
set_option Elab.async false
set_option linter.all false
set_option maxRecDepth 100000
set_option maxHeartbeats 4000000
/-! own errors whose __init__ says super().__init__('..') and keeps one argument in a field, or none -/
namespace PySem
namespace ErrX
open PySem.W PySem.Calls PyProof.Rows PySem.HandSPX
theorem one_size (v : Value) : [v].length ≤ sizeLine := by
  rw [sizeLine_eq]
  exact (by decide : 1 ≤ 16777216)
/-- the first statement of such an __init__ -/
def supS (msg : Str) (a1 a2 a3 a4 a5 a6 : Pos) : Stmt := .Expr (.Call (.Attribute (.Call (.Name "super" a1) [] [] a2) "__init__" a3) [.Constant (.str msg) 0 a4] [] a5) a6
def fldS (f : Str) (b1 b2 b3 b4 : Pos) : Stmt := .Assign [.Attribute (.Name "self" b1) f b2] (.Name f b3) b4
/-- what the written part says of the class at C and of its __init__ at fI -/
structure ErrC (prog : Program) (K : Frag) (C fI : Addr) (body : List Stmt) (scope : Scope) (params : Arguments) : Prop where
  cls : ∃ nm q N bs bm sn sub ab col dd k0 k1 k2 k3 k5, K.lookup C = some (excClassObj nm q C N bs bm true sn sub ab col dd k0 k1 k2 k3 k5 "ValueError.__new__") ∧ refsVE bm = true
  sa : findIn K (.ref C) "__setattr__" = some (some (.builtin "object.__setattr__"))
  ga : findIn K (.ref C) "__getattribute__" = some (some (.builtin "BaseException.__getattribute__"))
  gg : findIn K (.ref C) "__getattr__" = some none
  iC : findIn K (.ref C) "__init__" = some (some (.ref fI))
  tC : typeIn K (.ref fI) = some (.type "function")
  kC : keepIn K (.ref C) = true
  exC : subIn K (.ref C) (.type "BaseException") = some true
  veC : subIn K (.ref C) (.type "ValueError") = some true
  tyC : typeIn K (.ref C) = some (.type "type")
  hdC : hasDictIn K C = true
  mroC : mroIn K C (.ref C) = some true
  supC : ks_superIn K C C "__init__" = some (some (.builtin "ValueError.__init__"))
  opq : nsIn K cStatics "thirdparty.any" = some none
  supG : nsIn K mainGlobals "super" = some none
  fn : ∃ (oc : Value) (od : Option Addr) (nm qual : Str) (kV doc pm : Value) (an : Option Addr) (cda cc : Addr) (ct : Value) (osl : Array (Option Value)) (ccl : Value) (cdd : Option Addr) (vs : Array Value) (ccs : Array (Option Value)) (file : Str) (tf : Tok) (cl : Value) (cld : Option Addr) (csl : Array (Option Value)),
    K.lookup fI = some ⟨oc, od, .func (ksFn nm qual params body scope .none kV doc pm an (.ref cda) ct cc), osl⟩ ∧ codeIn K (.ref cda) qual = true ∧
    K.lookup cda = some ⟨ccl, cdd, .fields vs, ccs⟩ ∧ vs[2]? = some (.str file tf) ∧ ((prog.main.file : Str) == file) = true ∧ K.lookup cc = some ⟨cl, cld, .cell (some (.ref C)), csl⟩
  ar : ∃ pp, (params.posonlyargs ++ params.args).head? = some ⟨"self", none, pp⟩
  hks : scope.names.lookup ("super" : Str) = some .globalImplicit
  hkc : scope.names.lookup ("__class__" : Str) = some .free
  hka : scope.names.lookup ("self" : Str) = some .local
  hk : scope.kind = .function
  hco : scope.isCoroutine = false
  hgen : scope.isGenerator = false
  hcell : ∀ x ∈ scope.names, x.2 ≠ .cell
  htop : (prog.main.scope.names.lookup ("super" : Str)).isSome = false
section
variable {prog : Program} {w : World} {M : Model} {A : Around} {E : Value → Shared → Prop} {h : Heap} {g : Array GenState} {d : Drawn} {t : Nat} {os : OsState}
variable {nm q : Str} {C N : Addr} {bs bm : List Value} {hdct : Bool} {sn : List Str} {sub : List Value} {ab : Bool} {col : Option Bool} {dd : Option Addr} {k0 k1 k2 k3 k5 : Option Value}
theorem call_vw {u e t0 : Addr} {rest : List Value} {Q : Value → Shared → Prop}
    (hC : h.get? C = some (excClassObj nm q C N bs bm hdct sn sub ab col dd k0 k1 k2 k3 k5 "ValueError.__new__")) (he : h.get? e = some (excO C t0)) (hu : h.get? u = some (kxs_mw "ValueError.__init__" e)) (hrest : rest.length ≤ sizeLine)
    (hq : ∀ h' t1, (∀ b o, b ≠ e → h.get? b = some o → h'.get? b = some o) → h'.get? e = some (excO C t1) → Q .none ⟨h', g, d, t, os⟩) :
    wpAny (model prog w) A (call (.ref u) rest) Q E ⟨h, g, d, t, os⟩ := by
  refine wpAny_call (codeAny_of_tree ?_)
  show wpAny _ A.in1 (callAny (.ref u) ⟨rest, []⟩) _ _ _
  simp only [callAny]
  refine wpAny_bind (wpAny_load hu ?_)
  simp only [kxs_mw, show (Value.type "method-wrapper" == Value.type "method" || Value.type "method-wrapper" == Value.type "builtin_function_or_method" || Value.type "method-wrapper" == Value.type "method-wrapper") = true by decide, if_true]
  refine W.KFB.if_so (by decide) ?_
  refine wpAny_bind (check_bound_init F.excBase_ValueError.toExcCallFacts hC he rfl ?_)
  refine wpAny_bind (wpAny_pure (wpAny_pure ?_))
  refine ⟨plainId_quiet F.excBase_ValueError.init.plain _, codeAny_builtin F.excBase_ValueError.initEntry ?_⟩
  rw [Around.under_plainId F.excBase_ValueError.init.plain _]
  wp_walk
  refine hq _ h.objs.size (fun b o hb ho => ?_) ?_
  · rw [Heap.get?_update_other _ _ (Ne.symm hb)]
    exact Heap.get?_push_of_some _ ho
  · rw [Heap.get?_update_self _ (Heap.get?_push_of_some _ he) rfl]
    rfl
end
section
variable {prog : Program} {w : World} {A : Around} {E : Value → Shared → Prop} {s : Shared} {K : Frag} {mg : Str → Option Value} {C fI : Addr} {body : List Stmt} {scope : Scope} {params : Arguments}
/-- super().__init__('..') in such an __init__ -/
theorem sup_stmt (T : ErrC prog K C fI body scope params) {L x t0 : Addr} {m : Str → Option Value} {msg : Str} {a1 a2 a3 a4 a5 a6 : Pos} {Q : Flow → Shared → Prop}
    {oc : Value} {od : Option Addr} {nm qual : Str} {kV doc pm : Value} {an : Option Addr} {cda cc : Addr} {ct : Value} {osl : Array (Option Value)} {ccl : Value} {cdd : Option Addr} {vs : Array Value} {ccs : Array (Option Value)} {file : Str} {tf : Tok} {cl : Value} {cld : Option Addr} {csl : Array (Option Value)}
    (hf : K.lookup fI = some ⟨oc, od, .func (ksFn nm qual params body scope .none kV doc pm an (.ref cda) ct cc), osl⟩)
    (hcode : K.lookup cda = some ⟨ccl, cdd, .fields vs, ccs⟩) (hvs : vs[2]? = some (.str file tf)) (hfile : ((prog.main.file : Str) == file) = true) (hcell : K.lookup cc = some ⟨cl, cld, .cell (some (.ref C)), csl⟩)
    (X : K.In s.heap) (hG : s.heap.Ns mainGlobals mg) (hB : ∃ mb, s.heap.Ns builtinsNs mb ∧ ∀ x : Str, x ≠ "__name__" → mb x = bootBuiltins x)
    (hline : (a3.endLine == a5.line) = true) (hn : s.heap.Ns L m) (hv : m "self" = some (.ref x)) (hx : s.heap.get? x = some (excO C t0)) (hnx : K.lookup x = none)
    (hq : ∀ h' tk t1, (∀ b o, b ≠ x → s.heap.get? b = some o → h'.get? b = some o) → h'.get? x = some (excO C t1) → Q .next { s with heap := h', toks := tk }) :
    _root_.PySem.wpAt (model prog w) A (.func body (ksEnv qual scope L fI (.ref cda) cc)) (exec (supS msg a1 a2 a3 a4 a5 a6) (ksEnv qual scope L fI (.ref cda) cc)) Q E s := by
  obtain ⟨cnm, cq, N, bs, bm, sn, sub, ab, col, dd, k0, k1, k2, k3, k5, hC, hbm⟩ := T.cls
  obtain ⟨pp, har⟩ := T.ar
  obtain ⟨mb, hb1, hb2⟩ := hB
  have hD : clsIn K C = some { name := cnm, bases := bs, mro := .ref C :: bm, ns := N, qualname := cq, hasDict := true, slotNames := sn, subclasses := sub, abstract := ab, collection := col, hasDel := false } := by unfold clsIn; rw [hC] <;> rfl
  have hxC : x ≠ C := fun z => by rw [z, hC] at hnx; cases hnx
  obtain ⟨hh, g, d, t, os⟩ := s
  refine ks_wpAt_Expr_any (ks_wpAt_MethodCall (pl := L2.plainOf (.Call (.Name "super" a1) [] [] a2) (ksEnv qual scope L fI (.ref cda) cc)) ?_ (by
      show (do
        let ov ← attributeBase (.Call (.Name "super" a1) [] [] a2) "__init__" (ksEnv qual scope L fI (.ref cda) cc) (eval (.Call (.Name "super" a1) [] [] a2) (ksEnv qual scope L fI (.ref cda) cc))
        standAt a3.atName
        methodCall (.Call (.Name "super" a1) [] [] a2) "__init__" a3 a5 (ksEnv qual scope L fI (.ref cda) cc) ov 1 (backTo a5 (starEach [.Constant (.str msg) 0 a4] (ksEnv qual scope L fI (.ref cda) cc))) []) = _
      simp only [L2.mcall_line (n := 1) (args := backTo a5 (starEach [.Constant (.str msg) 0 a4] (ksEnv qual scope L fI (.ref cda) cc))) (kws := []) rfl hline])) (by simp [interactive, T.hk])
  refine ks_wpAt_super_base (env := ksEnv qual scope L fI (.ref cda) cc) T.hks T.hkc (by decide) rfl (X _ _ hf) rfl har rfl (X _ _ hcode) rfl hvs hfile T.htop ?_
  refine ks_loadName_global T.hk T.hks (loadGlobal_builtin (env := ksEnv qual scope L fI (.ref cda) cc) hG (mg_none_of X hG T.supG) hb1 ((hb2 _ (by decide +kernel)).trans PyProof.Rows.Boot.«super») ⟨rfl, ?_⟩)
  refine wpAny_loadName_free T.hk T.hkc rfl ⟨_, X _ _ hcell, rfl⟩ ?_
  refine wpAny_loadName_local T.hk T.hka hn hv ?_
  refine ks_wpAny_isType_cls (X _ _ hC) rfl ⟨rfl, ?_⟩
  refine ks_wpAny_call_super (X _ _ hC) rfl hx rfl (fun c e => by cases e) (looks_mroIn X T.mroC) (fun h1 e1 up1 => ?_)
  have hx1 := up1 _ _ hx
  have X1 : K.In h1 := X.keeps up1
  have I1 : InstAt h1 x (excO C t0) C none := ⟨hx1, rfl, rfl, trivial⟩
  have hI : Looks (model prog w) h1 (isInstance (.ref x) (.type "ValueError")) true := I1.type.andThen (looks_subIn X1 T.veC)
  have hsup := T.supC
  unfold ks_superIn at hsup
  rw [hD] at hsup
  refine kxs_getMethod kxs_ValueError e1 (looks_opaque X1 T.opq) (l₀ := .ref C :: bm) (fun A Q E s k q => wpAny_bind ((looks_clsIn X1 hD) A _ E s k (wpAny_pure q))) rfl X1 hsup hI hxC (by decide) ?_
  have up2 : ∀ b o, h1.get? b = some o → (h1.push (kxs_mw "ValueError.__init__" x)).get? b = some o := fun b o e => Heap.get?_push_of_some _ e
  have hu2 : (h1.push (kxs_mw "ValueError.__init__" x)).get? h1.objs.size = some (kxs_mw "ValueError.__init__" x) := Heap.get?_push_at rfl rfl
  refine kxs_callWith (u := h1.objs.size) (i := "ValueError.__init__") (x := x) rfl (evalArgs_plain ?_)
  refine Calls.spliced_cons (x := eval (.Constant (.str msg) 0 a4) (ksEnv qual scope L fI (.ref cda) cc)) (Calls.Constant_str (k := 0) (pos := a4) (Calls.spliced_nil ?_))
  refine ⟨hu2, ?_⟩
  refine call_vw ((X1.keeps up2) _ _ hC) (up2 _ _ hx1) hu2 (one_size _) (fun h3 t1 k3 hx3 => ?_)
  exact hq h3 _ t1 (fun b o hb e => k3 b o hb (up2 _ _ (up1 _ _ e))) hx3
end
section
variable {prog : Program} {w : World} {A : Around} {E : Value → Shared → Prop} {R : Result → Shared → Prop} {s : Shared} {K : Frag} {mg : Str → Option Value} {C fI : Addr} {body : List Stmt} {scope : Scope} {params : Arguments}
/-- what __init__ leaves of a fresh exception at x: with a field; without -/
structure InitEnd (h h' : Heap) (x C dx : Addr) (f : Str) (v : Value) : Prop where
  keep : ∀ b o, b ≠ x → h.get? b = some o → h'.get? b = some o
  obj : ∃ t1 : Addr, h'.get? x = some { cls := .ref C, dict := some dx, data := .fields #[.ref t1, .none, .none, .none, .bool false, .none] }
  dbig : h.objs.size ≤ dx
  dne : dx ≠ x
  ns : h'.Ns1 dx (fun y => if y = f then some v else none)
structure InitEnd0 (h h' : Heap) (x C : Addr) : Prop where
  keep : ∀ b o, b ≠ x → h.get? b = some o → h'.get? b = some o
  obj : ∃ t1 : Addr, h'.get? x = some (excO C t1)
theorem init1 {f msg : Str} {a1 a2 a3 a4 a5 a6 b1 b2 b3 b4 : Pos} (T : ErrC prog K C fI [supS msg a1 a2 a3 a4 a5 a6, fldS f b1 b2 b3 b4] scope params) (hline : (a3.endLine == a5.line) = true)
    (hbind : ∀ (nm qual : Str) (kV doc pm : Value) (an : Option Addr) (cdv ct : Value) (cc : Addr) (x y : Value), bindArgs (ksFn nm qual params [supS msg a1 a2 a3 a4 a5 a6, fldS f b1 b2 b3 b4] scope .none kV doc pm an cdv ct cc) ⟨[x, y], []⟩ = pure [((("self" : Str)), x), (f, y)])
    (hkf : scope.names.lookup f = some .local) (hne : (("self" : Str) == f) = false) (hdf : (f == ("__debug__" : Str)) = false) (noN : findIn K (.ref C) f = some none)
    {x t0 : Addr} {v : Value} (X : K.In s.heap) (hlim : s.heap.NoLimit) (hG : s.heap.Ns mainGlobals mg) (hB : ∃ mb, s.heap.Ns builtinsNs mb ∧ ∀ x : Str, x ≠ "__name__" → mb x = bootBuiltins x)
    (hx : s.heap.get? x = some (excO C t0)) (hnx : K.lookup x = none) (hroom : A.depth < recursionLimit)
    (hq : ∀ h' tk dx, InitEnd s.heap h' x C dx f v → R (.ok (.ret .none)) { s with heap := h', toks := tk }) :
    codeAny (model prog w) A (.call (.ref fI) ⟨[.ref x, v], []⟩) R s := by
  obtain ⟨oc, od, nm, qual, kV, doc, pm, an, cda, cc, ct, osl, ccl, cdd, vs, ccs, file, tf, cl, cld, csl, hf, hcd, hcode, hvs, hfile, hcell⟩ := T.fn
  obtain ⟨cnm, cq, N, bs, bm, sn, sub, ab, col, dd, k0, k1, k2, k3, k5, hC, hbm⟩ := T.cls
  have hcl : clsIn K C = some { name := cnm, bases := bs, mro := .ref C :: bm, ns := N, qualname := cq, hasDict := true, slotNames := sn, subclasses := sub, abstract := ab, collection := col, hasDel := false } := by unfold clsIn; rw [hC] <;> rfl
  refine ks_codeAny_call_defAt (fd := ksFn nm qual params [supS msg a1 a2 a3 a4 a5 a6, fldS f b1 b2 b3 b4] scope .none kV doc pm an (.ref cda) ct cc) (body := [supS msg a1 a2 a3 a4 a5 a6, fldS f b1 b2 b3 b4]) (binds := [("self", .ref x), (f, v)]) hroom (X _ _ hf) rfl hlim (codeRec_of X hcd) rfl (BindsTo.of_eq (hbind _ _ _ _ _ _ _ _ _ _ _)) T.hcell ?_ (fun h1 hns hk1 => ?_) T.hco T.hgen T.hk
  · intro y hy
    rcases List.mem_cons.mp hy with rfl | hy
    · exact T.hka
    rcases List.mem_cons.mp hy with rfl | hy
    · exact hkf
    · cases hy
  · have hx1 := hk1 _ _ hx
    have X1 : K.In h1 := X.keeps hk1
    obtain ⟨mb, hb1, hb2⟩ := hB
    have lkf : ([(("self" : Str), Value.ref x), (f, v)] : List (Str × Value)).reverse.lookup f = some v := by simp [List.lookup]
    have lks : ([(("self" : Str), Value.ref x), (f, v)] : List (Str × Value)).reverse.lookup ("self" : Str) = some (.ref x) := by
      show (match (("self" : Str) == f) with | true => some v | false => List.lookup ("self" : Str) [(("self" : Str), Value.ref x)]) = _
      rw [hne]
      simp [List.lookup]
    refine ks_wpAt_execs_cons (sup_stmt (s := { s with heap := h1, toks := s.toks + 2 }) T hf hcode hvs hfile hcell X1 (hG.keeps hk1) ⟨mb, hb1.keeps hk1, hb2⟩ hline hns lks hx1 hnx (fun h2 tk2 t1 k2 hx2 => ?_))
    have X2 : K.In h2 := fun a o e => k2 a o (fun z => by rw [z, hnx] at e; cases e) (X1 a o e)
    have hxL : s.heap.objs.size ≠ x := Nat.ne_of_gt (Heap.lt_size hx)
    obtain ⟨oL, esL, epL, hoL, rL⟩ := id hns
    have hns2 : h2.Ns s.heap.objs.size (fun y => ([(("self" : Str), Value.ref x), (f, v)] : List (Str × Value)).reverse.lookup y) := ⟨oL, esL, epL, k2 _ _ hxL hoL, rL⟩
    refine wpAt_of_wpAny ?_
    refine wpAny_execs_cons (plainObj_wpAny_Assign_Attribute ?_)
    refine wpAny_Name (wpAny_loadName_local T.hk hkf hns2 lkf ?_) hdf
    refine wpAny_Name (wpAny_loadName_local T.hk T.hka hns2 lks ?_) (by decide)
    refine set_plain X2 (ox := excO C t1) (od := none) ⟨hx2, rfl, rfl, trivial⟩ T.sa ?_
    refine exc_osa X2 hx2 hcl (show refsVE (.ref C :: bm) = true from hbm) rfl noN (fun h3 tk3 dx k3 dn dne hx3 hn3 => ?_)
    have z : s.heap.objs.size < h2.objs.size := hns2.lt
    exact wpAny_execs_nil (hq h3 tk3 dx ⟨fun b o hb e => k3 b o hb (k2 b o hb (hk1 b o e)), ⟨t1, hx3⟩, Nat.le_of_lt (Nat.lt_of_lt_of_le z dn), dne, hn3⟩)
/-- a made error with a field; without -/
structure OwnMade (h h' : Heap) (e C d : Addr) (f : Str) (v : Value) : Prop where
  keep : ∀ b o, h.get? b = some o → h'.get? b = some o
  new : h.objs.size ≤ e
  obj : ∃ oe vs, h'.get? e = some oe ∧ oe.cls = .ref C ∧ oe.dict = some d ∧ oe.data = .fields vs ∧ vs[1]? = some .none ∧ vs[2]? = some .none ∧ 4 < vs.size
  dbig : h.objs.size ≤ d
  dne : d ≠ e
  ns : h'.Ns1 d (fun y => if y = f then some v else none)
structure OwnMade0 (h h' : Heap) (e C : Addr) : Prop where
  keep : ∀ b o, h.get? b = some o → h'.get? b = some o
  new : h.objs.size ≤ e
  obj : ∃ oe vs, h'.get? e = some oe ∧ oe.cls = .ref C ∧ oe.dict = none ∧ oe.data = .fields vs ∧ vs[1]? = some .none ∧ vs[2]? = some .none
theorem made1 {f msg : Str} {a1 a2 a3 a4 a5 a6 b1 b2 b3 b4 : Pos} (T : ErrC prog K C fI [supS msg a1 a2 a3 a4 a5 a6, fldS f b1 b2 b3 b4] scope params) (hline : (a3.endLine == a5.line) = true)
    (hbind : ∀ (nm qual : Str) (kV doc pm : Value) (an : Option Addr) (cdv ct : Value) (cc : Addr) (x y : Value), bindArgs (ksFn nm qual params [supS msg a1 a2 a3 a4 a5 a6, fldS f b1 b2 b3 b4] scope .none kV doc pm an cdv ct cc) ⟨[x, y], []⟩ = pure [((("self" : Str)), x), (f, y)])
    (hkf : scope.names.lookup f = some .local) (hne : (("self" : Str) == f) = false) (hdf : (f == ("__debug__" : Str)) = false) (noN : findIn K (.ref C) f = some none)
    {v : Value} (X : K.In s.heap) (hlim : s.heap.NoLimit) (hG : s.heap.Ns mainGlobals mg) (hB : ∃ mb, s.heap.Ns builtinsNs mb ∧ ∀ x : Str, x ≠ "__name__" → mb x = bootBuiltins x) (hroom : A.depth + 1 < recursionLimit)
    (hq : ∀ h' tk e d, OwnMade s.heap h' e C d f v → R (.ok (.ret (.ref e))) { s with heap := h', toks := tk }) :
    codeAny (model prog w) A (.call (.ref C) ⟨[v], []⟩) R s := by
  obtain ⟨nm, q, N, bs, bm, sn, sub, ab, col, dd, k0, k1, k2, k3, k5, hC, hbm⟩ := T.cls
  obtain ⟨mb, hb1, hb2⟩ := hB
  obtain ⟨hp, g, dr, tk, os⟩ := s
  have k : ∀ b o, hp.get? b = some o → ((hp.push (kdv_tup [v])).push (excO C hp.objs.size)).get? b = some o := fun b o e => Heap.get?_push_of_some _ (Heap.get?_push_of_some _ e)
  have hget : ((hp.push (kdv_tup [v])).push (excO C hp.objs.size)).get? (hp.objs.size + 1) = some (excO C hp.objs.size) := by heap_get
  have hnx : K.lookup (hp.objs.size + 1) = none := by
    cases e : K.lookup (hp.objs.size + 1) with
    | none => rfl
    | some o =>
      have z : hp.get? (hp.objs.size + 1) = some o := X _ _ e
      exact absurd (Nat.lt_of_succ_lt (Heap.lt_size z)) (Nat.lt_irrefl _)
  refine call_own F.excBase_ValueError (fun X => refsVE_contains X bm hbm) (X _ _ hC) (looks_findIn X T.iC) (fun self => bind_fn X self T.tC) (one_size v) ?_
  refine init1 (s := ⟨(hp.push (kdv_tup [v])).push (excO C hp.objs.size), g, dr, tk, os⟩) T hline hbind hkf hne hdf noN (X.keeps k) (hlim.keeps k) (hG.keeps k) ⟨mb, hb1.keeps k, hb2⟩ hget hnx ?_ fun h' tk' dx ⟨k', ⟨t1, hx⟩, dn, dne, hns⟩ => ?_
  · show A.depth + 1 < recursionLimit
    exact hroom
  · have old : ∀ b o, hp.get? b = some o → h'.get? b = some o := fun b o e => k' b o (Nat.ne_of_lt (Nat.lt_succ_of_lt (Heap.lt_size e))) (k b o e)
    have z : hp.objs.size + 1 + 1 ≤ dx := by
      first
        | (simpa only [Heap.size_push] using dn)
        | exact dn
        | (have q := dn; rw [Heap.size_push, Heap.size_push] at q; exact q)
    exact ⟨rfl, hq h' tk' (hp.objs.size + 1) dx ⟨old, Nat.le_succ _, ⟨_, _, hx, rfl, rfl, rfl, rfl, rfl, by show (4 : Nat) < 6; decide⟩, Nat.le_trans (Nat.le_trans (Nat.le_succ _) (Nat.le_succ _)) z, dne, hns⟩⟩
end
end ErrX
end PySem
namespace L2
open PySem PySem.Spec PyProof.Rows PySem.W
/-- an error class with one field, as the rules use it -/
structure Err1 (prog : Program) (w : World) (K : Frag) (mg : Str → Option Value) (nm f : Str) (C : Addr) : Prop where
  gC : mg nm = some (.ref C)
  kC : keepIn K (.ref C) = true
  exC : subIn K (.ref C) (.type "BaseException") = some true
  tyC : typeIn K (.ref C) = some (.type "type")
  hdC : hasDictIn K C = true
  ga : findIn K (.ref C) "__getattribute__" = some (some (.builtin "BaseException.__getattribute__"))
  gg : findIn K (.ref C) "__getattr__" = some none
  noN : findIn K (.ref C) f = some none
  made : ∀ {A : Around} {R : Result → Shared → Prop} {s : Shared} {v : Value}, K.In s.heap → s.heap.NoLimit → s.heap.Ns mainGlobals mg → (∃ mb, s.heap.Ns builtinsNs mb ∧ ∀ x : Str, x ≠ "__name__" → mb x = bootBuiltins x) → A.depth + 1 < recursionLimit →
    (∀ h' tk e d, PySem.ErrX.OwnMade s.heap h' e C d f v → R (.ok (.ret (.ref e))) { s with heap := h', toks := tk }) → codeAny (model prog w) A (.call (.ref C) ⟨[v], []⟩) R s
structure Err0 (prog : Program) (w : World) (K : Frag) (mg : Str → Option Value) (nm : Str) (C : Addr) : Prop where
  gC : mg nm = some (.ref C)
  kC : keepIn K (.ref C) = true
  exC : subIn K (.ref C) (.type "BaseException") = some true
  tyC : typeIn K (.ref C) = some (.type "type")
  made : ∀ {A : Around} {R : Result → Shared → Prop} {s : Shared}, K.In s.heap → s.heap.NoLimit → s.heap.Ns mainGlobals mg → (∃ mb, s.heap.Ns builtinsNs mb ∧ ∀ x : Str, x ≠ "__name__" → mb x = bootBuiltins x) → A.depth + 1 < recursionLimit →
    (∀ h' tk e, PySem.ErrX.OwnMade0 s.heap h' e C → R (.ok (.ret (.ref e))) { s with heap := h', toks := tk }) → codeAny (model prog w) A (.call (.ref C) ⟨[], []⟩) R s
theorem relO_one {v : V} {v' : Value} {n : Str} (r : RelV v v') (f : Str) : RelO (List.lookup f [(n, v)]) (if f = n then some v' else none) := by
  by_cases hw : f = n
  · subst hw
    rw [if_pos rfl]
    have q : List.lookup f [(f, v)] = some v := by simp [List.lookup]
    rw [q]
    exact r
  · rw [if_neg hw]
    have qw : (f == n) = false := by simpa using hw
    have q2 : List.lookup f [(n, v)] = none := by simp [List.lookup, qw]
    rw [q2]
    trivial
section
variable {X : Cx} {C : Addr} {nm f : Str}
theorem Inv.blt {pins : List (Addr × Obj)} {σ : St} {H : Hp} {s : Shared} (I : Inv X pins σ H s) : ∃ mb, s.heap.Ns builtinsNs mb ∧ ∀ x : Str, x ≠ "__name__" → mb x = bootBuiltins x := by
  obtain ⟨mb, h1, h2⟩ := I.mod.blt
  exact ⟨mb, h1.keeps I.bk, h2⟩
/-- nm(e) -/
def tMkE (C : Addr) (f : Str) (ta : TA) : St → Hp → XK → Prop := fun σ H Q => ta σ H fun vs H1 => ∃ v, vs = [v] ∧ ∀ d, H1 d = none → Q (.ref C) (some d) (upd H1 d (.xd [(f, v)]))
theorem pmk_err5 {a : Expr} {ta : TA} {p pos : Pos} (T : Err1 X.prog X.w X.K X.mg nm f C) (hdp : X.A.depth + 1 < recursionLimit) (ha : PA X [a] ta) (hg : Gl X nm := by rfl) (hdb : (nm == ("__debug__" : Str)) = false := by decide)
    (he : starEach (a :: []) X.env = (false, eval a X.env) :: starEach [] X.env := by rfl) (hpl : (backTo pos (starEach [] X.env)).any (·.1) = false := by rfl) :
    L2H.PMk5 X (.Call (.Name nm p) [a] [] pos) (tMkE C f ta) := by
  intro pins s σ H Q I h
  refine wpAny_Call_Name_kw (ld_glob I hg T.gC ?_ hdb)
  refine PySem.W.callWith_K (h₀ := X.base) I.ok.mod.kin T.kC (thn (ha.run pos pins s σ H _ I h) fun us s1 hh => ?_) he hpl
  obtain ⟨vs, H1, I1, r1, v, ev, q1⟩ := hh
  subst ev
  refine ⟨I1.kIn, ?_⟩
  cases r1 with
  | cons rv rn =>
    rename_i v' us'
    cases rn
    show wpAny _ _ (call (.ref C) [v']) _ _ _
    have hlim := I1.nolimit
    have hG := I1.mod.glob.keeps I1.bk
    have hB := I1.blt
    obtain ⟨hp, g, dr, tk, os⟩ := s1
    refine wpAny_call (T.made I1.kIn hlim hG hB hdp fun h' tk' e d M => ?_)
    obtain ⟨oe, fv, hoe, hc, hd, hdat, h1, h2, h4⟩ := M.obj
    refine And.intro ?_ (fun a0 o0 vs0 ea hg hdd => by
      cases ea
      have hg : h'.get? e = some o0 := hg
      rw [hoe] at hg
      cases hg
      rw [hdat] at hdd
      cases hdd
      exact h4)
    show L2N.MkP X pins σ Q (.ref e) ⟨h', g, dr, tk', os⟩
    have hns := M.ns
    obtain ⟨G', g1, g2⟩ := restrict h' fun b => decide (b ≠ e)
    have gk : ∀ b, b ≠ e → G'.get? b = h'.get? b := fun b hb => g1 b (decide_eq_true hb)
    have ge : G'.get? e = none := g2 e (by simp)
    have old : ∀ b o, hp.get? b = some o → G'.get? b = some o := fun b o q => (gk b (Nat.ne_of_lt (Nat.lt_of_lt_of_le (Heap.lt_size q) M.new))).trans (M.keep b o q)
    have ob : ObjOk X.prog X.w (upd H1 d (.xd [(f, v)])) G' d (.xd [(f, v)]) :=
      ⟨_, hns.at (fun o q => (gk d M.dne).trans q), fun g => relO_one rv g⟩
    have J : Inv X pins σ (upd H1 d (.xd [(f, v)])) ⟨G', g, dr, tk', os⟩ := I1.laid (t' := tk') old M.dbig ob
    refine ⟨e, oe, fv, ⟨G', g, dr, tk', os⟩, _, .ref C, some d, rfl, J, fun b o q => ?_, ge, hoe, ⟨hc, hd, fun vs e => by rw [hdat] at e; cases e; exact h2⟩, hdat, h1, ?_, rfl, I1.bare, raises_own T.exC T.tyC, q1 d (I1.hok.fresh M.dbig)⟩
    · by_cases hb : b = e
      · have q' : G'.get? b = some o := q
        rw [hb, ge] at q'; cases q'
      · exact (gk b hb).symm.trans q
    · rw [upd_ne (Ne.symm M.dne)]
      exact I1.hok.fresh M.new
theorem pmk_err {a : Expr} {ta : TA} {p pos : Pos} {k : Nat} (T : Err1 X.prog X.w X.K X.mg nm f C) (hr : Room k X.A) (ha : PA X [a] ta) (hg : Gl X nm := by rfl) (hdb : (nm == ("__debug__" : Str)) = false := by decide)
    (he : starEach (a :: []) X.env = (false, eval a X.env) :: starEach [] X.env := by rfl) (hpl : (backTo pos (starEach [] X.env)).any (·.1) = false := by rfl) :
    L2N.PMk X (.Call (.Name nm p) [a] [] pos) (tMkE C f ta) := L2H.PMk5.pmk (pmk_err5 T (by have := hr.dp; omega) ha hg hdb he hpl)
/-- e.f, e the exception that the suite holds (at a; its class cls, its dict d) -/
def tErrF (C : Addr) (f : Str) (a : Addr) (cls : Value) (d : Option Addr) (te : TE) : TE := fun σ H Q => te σ H fun x H1 => x = .ref a ∧ cls = .ref C ∧ ∃ (dd : Addr) (v : V), d = some dd ∧ H1 dd = some (.xd [(f, v)]) ∧ Q v H1
theorem pe_errF {a : Addr} {oe : Obj} {cls : Value} {d : Option Addr} {pn : List (Addr × Obj)} {e : Expr} {te : TE} {pos : Pos} (T : Err1 X.prog X.w X.K X.mg nm f C) (hz : Zc cls d oe) (hf : ∃ vs, oe.data = .fields vs) (he : PE (X.suite a ((a, oe) :: pn)) e te)
    (hb : attributeBase e f X.env (eval e X.env) = eval e X.env := by rfl) :
    PE (X.suite a ((a, oe) :: pn)) (.Attribute e f pos) (tErrF C f a cls d te) := by
  refine ⟨fun pins s σ H Q I h => ?_⟩
  refine attr_of hb (thn (he.run pins s σ H _ I h) fun u s1 hh => ?_)
  obtain ⟨x, H1, I1, rx, ex, ec, dd, v, ed, ea, q⟩ := hh
  subst ex
  obtain rfl : u = Value.ref a := rx
  subst ec
  subst ed
  obtain ⟨ha, _⟩ := I1.pin (a, oe) (List.mem_append_left _ List.mem_cons_self)
  obtain ⟨vs, hd⟩ := hf
  have hx : ObjOk X.prog X.w H1 s1.heap dd (.xd [(f, v)]) := I1.hok dd _ ea
  obtain ⟨mA, hns, hr⟩ := hx
  obtain ⟨od, ho, hl⟩ := lookIn_ns hns
  have l : List.lookup f [(f, v)] = some v := by simp [List.lookup]
  obtain ⟨u, hu, ru⟩ := RelO.some_of (v := v) (o := mA f) (by rw [← l]; exact hr f)
  have J : PySem.W.InstAt s1.heap a oe C (some od) := ⟨ha, hz.1, by unfold PySem.W.notCls; rw [hd] <;> rfl, by rw [hz.2]; exact ho⟩
  exact HandSPX.exc_get I1.kIn J T.ga T.gg T.exC (PySem.W.findObj_own T.hdC T.noN rfl (by rw [hl, hu])) (handed_of ru) ⟨v, H1, I1.tok _, ru, q⟩
end
end L2
namespace L2
open PySem PySem.Spec PyProof.Rows
/-- isinstance(e, c), e the exception that the suite holds -/
def rIsEE (K : PySem.W.Frag) (a : Addr) (cls : Value) (d : Option Addr) : List V → Hp → VK → Prop := fun xs H Q => ∃ (D : Addr) (c : V) (cv : Value) (b : Bool), cls = .ref D ∧ ExcC K D ∧ (d = none ∨ ∃ dd fs, d = some dd ∧ H dd = some (.xd fs)) ∧ xs = [.ref a, c] ∧ (∀ u, RelV c u → u = cv) ∧ PySem.W.kitOne K (.ref D) cv = some b ∧ Q (.bl b) H
theorem call_isEE {X : Cx} {a : Addr} {cls : Value} {d : Option Addr} {oe : Obj} {pn : List (Addr × Obj)} (hz : Zc cls d oe) (hf : ∃ vs, oe.data = .fields vs) : CallR (X.suite a ((a, oe) :: pn)) (.builtin "isinstance") (rIsEE X.K a cls d) := by
  intro pins s σ H xs us Q I r h
  obtain ⟨D, c, cv, b, rfl, C, hd, rfl, hcv, e, q⟩ := h
  cases r with
  | cons rx rr =>
    cases rr with
    | cons rt rr =>
      cases rr
      cases rx
      have ec := hcv _ rt
      subst ec
      obtain ⟨hget, _⟩ := I.pin (a, oe) (List.mem_append.mpr (.inl List.mem_cons_self))
      obtain ⟨vs, hv⟩ := hf
      have hcl : (PySem.W.clsIn X.K D).isSome = true := by
        obtain ⟨cd, hc, _⟩ := PySem.W.any_some C.hd
        rw [hc]; rfl
      have J : ∃ od, PySem.W.InstAt s.heap a oe D od := by
        obtain ⟨oc, od, oda, osl⟩ := oe
        obtain ⟨h1, h2⟩ := hz
        dsimp only at h1 h2 hv
        subst h1 h2 hv
        rcases hd with rfl | ⟨dd, fs, rfl, hx⟩
        · exact ⟨none, hget, rfl, rfl, trivial⟩
        · have hx2 : ObjOk X.prog X.w H s.heap dd (.xd fs) := I.hok dd _ hx
          obtain ⟨mA, hns, hr⟩ := hx2
          obtain ⟨od, ho, hl⟩ := lookIn_ns hns
          exact ⟨some od, hget, rfl, rfl, ho⟩
      obtain ⟨od, J⟩ := J
      exact PySem.W.kia_one (PySem.W.kitx_exc hcl C.hg C.hk C.hs C.ha C.hn C.ht C.hm) I.kIn J e (fun z => nomatch z) fun tk => ⟨.bl b, H, I.kept (t' := tk) fun _ _ z => z, rfl, q⟩
/-- raise nm(e), raise nm() -/
def tRaiseE (C : Addr) (f : Str) (W : WX) (ta : TA) : TS := fun _ σ H => tMkE C f ta σ H fun cls d H' => W cls d σ H'
section
variable {X : Cx} {C : Addr} {nm f : Str}
theorem ps_raiseE {a : Expr} {ta : TA} {W : WX} {p pos pos2 : Pos} {k : Nat} (hc : X.calm = true) (T : Err1 X.prog X.w X.K X.mg nm f C) (hr : Room k X.A) (tk : L2N.Takes X W) (ha : PA X [a] ta) (hg : Gl X nm := by rfl) (hdb : (nm == ("__debug__" : Str)) = false := by decide)
    (he : starEach (a :: []) X.env = (false, eval a X.env) :: starEach [] X.env := by rfl) (hpl : (backTo pos (starEach [] X.env)).any (·.1) = false := by rfl) :
    PS X (.Raise (some (.Call (.Name nm p) [a] [] pos)) none pos2) (tRaiseE C f W ta) := L2N.ps_raise hc tk (pmk_err T hr ha hg hdb he hpl)
theorem passN {X : Cx} : Passes (L2N.CX X.prog X.w) X E0 := fun _ _ _ _ _ _ _ h => by
  obtain ⟨_, _, _, _, _, _, _, _, _, _, _, _, z⟩ := h
  exact z.elim
theorem takesN {X : Cx} : L2N.Takes X (fun _ _ _ _ => False) := fun _ _ x => by
  obtain ⟨_, _, _, _, _, _, _, _, _, _, _, _, _, _, _, _, z⟩ := x
  exact z.elim
/-- the suite is hot -/
theorem hotc {X : Cx} {a : Addr} {oe : Obj} {cls : Value} {d : Option Addr} {pn : List (Addr × Obj)} (hz : L2N.Zn cls d oe) (hf : ∃ vs, oe.data = .fields vs) : L2H.HotC (X.suite a ((a, oe) :: pn)) := by
  obtain ⟨vs, h⟩ := hf
  exact ⟨(a, oe), ⟨rfl, vs, h, hz.2.2 vs h⟩, List.mem_cons_self⟩
end
/-- as FunD.ok, within an except suite -/
theorem FunD.okH {P : Program} {w : World} {K : PySem.W.Frag} {mg : Str → Option Value} {base : Heap} {x qual : Str} {params : Arguments} {body : List Stmt} {scope : Scope} {dvs : List V} {kws : List (Str × V)} {f : Addr} {fd : FuncData} {CX : CXT} {N ps : List Str} {k : Nat} {sp : Sp} (F : FunD K x qual params body scope dvs kws f fd) (S : FnScope N ps scope) (len : ∀ vs H Q E, sp vs H Q E → vs.length = ps.length)
    (hbody : ∀ (cdv : Value) (A : Around) (outer : List Env) (s : Shared) (H : Hp) (vs : List V) (Q : VK) (E : XK) (p : Addr × Obj), L2H.Hot1 A p → L2H.RoomH k (A.deeper (envOfC qual scope s.heap.objs.size f cdv)) → sp vs H Q E →
      ∃ t, PSs (L2H.cxH CX P w K mg base N qual scope f cdv A outer s H E p) body t ∧ t { nx := fun _ H' => Q .non H', rt := Q } (start N vs) H) : L2H.FnH P w K mg base CX (k + 1) f fd ps sp := by
  obtain ⟨oc, od, dV, kV, doc, pm, an, cdv, ct, osl, rfl, lk, hcd, _, _⟩ := F.ex
  exact L2H.fn_ofH lk hcd S len fun A outer s H vs Q E p hot hr hsp => hbody cdv A outer s H vs Q E p hot hr hsp
end L2
theorem L2H.RoomH.units {k : Nat} {A : PySem.Around} (r : L2H.RoomH k A) : A.units + 64 < PySem.cLine := by have := r.un; omega
/-! the head's facts: defs, error classes, Bools -/
namespace Hk
open PySem PySem.W PySem.Spec PyProof.Rows L2 He
abbrev FnZ : Type := Option (PySem.Str × PySem.Str × Arguments × FuncBody × Scope)
def fnZ (K : Frag) (a : Addr) : FnZ := match K.lookup a with
  | some ⟨_, _, .func fd, _⟩ => some (fd.name, fd.qualname, fd.params, fd.body, fd.scope)
  | _ => none
structure It where
  at_ : Frag → Addr
  val : FnZ
  ok : Frag → Bool
structure DefX where
  at_ : Frag → Addr
  name : PySem.Str
  qual : PySem.Str
  params : Arguments
  body : List Stmt
  scope : Scope
  dfl : List Dv := []
  kwd : List (PySem.Str × Dv) := []
def DefX.val (d : DefX) : FnZ := some (d.name, d.qual, d.params, .stmts d.body, d.scope)
def DefX.dvs (K : Frag) (d : DefX) : List V := d.dfl.map (Dv.v K)
def DefX.kws (K : Frag) (d : DefX) : List (PySem.Str × V) := d.kwd.map fun q => (q.1, q.2.v K)
def defOk (K : Frag) (a : Addr) (qual : PySem.Str) (dvs : List V) (kws : List (PySem.Str × V)) : Bool := keepIn K (.ref a) && (match K.lookup a with
  | some ⟨_, _, .func fd, _⟩ => codeIn K fd.code qual && (decide (fd.globals = mainGlobals) && (decide (fd.builtins = builtinsNs) && (fd.closure.isEmpty && (dflB K fd.defaults dvs && kwdB K fd.kwdefaults kws))))
  | _ => false)
def DefX.it (d : DefX) : It := ⟨d.at_, d.val, fun K => defOk K (d.at_ K) d.qual (d.dvs K) (d.kws K)⟩
theorem DefX.funD {K : Frag} {d : DefX} (e : fnZ K (d.at_ K) = d.val) (c : d.it.ok K = true) : ∃ fd, FunD K d.name d.qual d.params d.body d.scope (d.dvs K) (d.kws K) (d.at_ K) fd := by
  obtain ⟨kp, c2⟩ := ba c
  unfold fnZ at e
  cases q : K.lookup (d.at_ K) with
  | none =>
    rw [q] at c2
    cases c2
  | some o =>
    obtain ⟨oc, od, dt, osl⟩ := o
    rw [q] at c2 e
    cases dt with
    | func fd =>
      obtain ⟨n1, n2, n3, n4, n5, n6, n7, n8, n9, n10, n11, n12, n13, n14, n15⟩ := fd
      have e2 : (some (n1, n2, n3, n4, n5) : FnZ) = some (d.name, d.qual, d.params, .stmts d.body, d.scope) := e
      simp only [Option.some.injEq, Prod.mk.injEq] at e2
      obtain ⟨h1, h2, h3, h4, h5⟩ := e2
      have c3 : (codeIn K n13 d.qual && (decide (n6 = mainGlobals) && (decide (n15 = builtinsNs) && (n7.isEmpty && (dflB K n8 (d.dvs K) && kwdB K n9 (d.kws K)))))) = true := c2
      obtain ⟨k1, k2⟩ := ba c3
      obtain ⟨k3, k4⟩ := ba k2
      obtain ⟨k5, k6⟩ := ba k4
      obtain ⟨k7, k8⟩ := ba k6
      obtain ⟨k9, k10⟩ := ba k8
      have h6 := of_decide_eq_true k3
      have h7 := of_decide_eq_true k5
      have h8 : n7 = [] := List.isEmpty_iff.mp k7
      subst h1 h2 h3 h4 h5 h6 h7 h8
      exact ⟨_, ⟨oc, od, n8, n9, n10, n11, n12, n13, n14, osl, rfl, q, k1, dflB_ok k9, kwdB_ok k10⟩, kp⟩
    | _ => cases c2
/-! ### error classes -/
def clsB (K : Frag) (C : Addr) : Bool := match K.lookup C with
  | some ⟨.type ty, _, .cls cd, sl⟩ => (match cd.mro, sl.toList with
    | .ref C' :: bm, [_, _, _, _, some (.builtin n), _] => decide (ty = "type") && (decide (C' = C) && (decide (n = "ValueError.__new__") && (!cd.hasDel && (cd.hasDict && HandSPX.refsVE bm))))
    | _, _ => false)
  | _ => false
theorem clsB_ok {K : Frag} {C : Addr} (q : clsB K C = true) : ∃ nm q N bs bm sn sub ab col dd k0 k1 k2 k3 k5, K.lookup C = some (excClassObj nm q C N bs bm true sn sub ab col dd k0 k1 k2 k3 k5 "ValueError.__new__") ∧ HandSPX.refsVE bm = true := by
  unfold clsB at q
  split at q
  · rename_i ty dd cd sl ho
    split at q
    · rename_i C' bm k0 k1 k2 k3 n k5 hm hs
      obtain ⟨q1, q⟩ := ba q
      obtain ⟨q2, q⟩ := ba q
      obtain ⟨q3, q⟩ := ba q
      obtain ⟨q4, q⟩ := ba q
      obtain ⟨q5, q6⟩ := ba q
      have e1 := of_decide_eq_true q1
      have e2 := of_decide_eq_true q2
      have e3 := of_decide_eq_true q3
      obtain ⟨nm, bs, mro, ns, qn, hd, sn, sub, ab, col, del⟩ := cd
      dsimp only at hm q4 q5
      have e4 : del = false := by simpa using q4
      have hsl : sl = #[k0, k1, k2, k3, some (.builtin n), k5] := by
        obtain ⟨l⟩ := sl
        simp only at hs
        rw [hs]
      subst e1 e2 e3 hm e4 q5 hsl
      exact ⟨nm, qn, ns, bs, bm, sn, sub, ab, col, dd, k0, k1, k2, k3, k5, ho, q6⟩
    · cases q
  · cases q
def initB (K : Frag) (C fI : Addr) (file : PySem.Str) : Bool := match K.lookup fI with
  | some ⟨_, _, .func fd, _⟩ => (match fd.code, fd.closure with
    | .ref cda, [(x, cc)] => decide (x = "__class__" ∧ fd.defaults = .none) && (codeIn K (.ref cda) fd.qualname && (decide (fd.globals = mainGlobals) && (decide (fd.builtins = builtinsNs) && ((match K.lookup cda with
        | some ⟨_, _, .fields vs, _⟩ => (match (vs[2]? : Option Value) with
          | some (Value.str fl _) => decide (fl = file)
          | _ => false)
        | _ => false) && (match K.lookup cc with
        | some ⟨_, _, .cell (some (.ref D)), _⟩ => decide (D = C)
        | _ => false)))))
    | _, _ => false)
  | _ => false
theorem initB_ok {K : Frag} {C fI : Addr} {file : PySem.Str} {prog : Program} {nm0 qual0 : PySem.Str} {params : Arguments} {body : List Stmt} {scope : Scope} (h : initB K C fI file = true) (e : fnZ K fI = some (nm0, qual0, params, .stmts body, scope)) (hfile : (prog.main.file : PySem.Str) = file) :
  ∃ (oc : Value) (od : Option Addr) (nm qual : PySem.Str) (kV doc pm : Value) (an : Option Addr) (cda cc : Addr) (ct : Value) (osl : Array (Option Value)) (ccl : Value) (cdd : Option Addr) (vs : Array Value) (ccs : Array (Option Value)) (file : PySem.Str) (tf : Tok) (cl : Value) (cld : Option Addr) (csl : Array (Option Value)),
    K.lookup fI = some ⟨oc, od, .func (ksFn nm qual params body scope .none kV doc pm an (.ref cda) ct cc), osl⟩ ∧ codeIn K (.ref cda) qual = true ∧
    K.lookup cda = some ⟨ccl, cdd, .fields vs, ccs⟩ ∧ vs[2]? = some (.str file tf) ∧ ((prog.main.file : PySem.Str) == file) = true ∧ K.lookup cc = some ⟨cl, cld, .cell (some (.ref C)), csl⟩ := by
  unfold initB at h
  unfold fnZ at e
  cases q : K.lookup fI with
  | none =>
    rw [q] at h
    cases h
  | some o =>
    obtain ⟨oc, od, dt, osl⟩ := o
    rw [q] at h e
    cases dt with
    | func fd =>
      obtain ⟨n1, n2, n3, n4, n5, n6, n7, n8, n9, n10, n11, n12, n13, n14, n15⟩ := fd
      have e2 : (some (n1, n2, n3, n4, n5) : FnZ) = some (nm0, qual0, params, .stmts body, scope) := e
      simp only [Option.some.injEq, Prod.mk.injEq] at e2
      obtain ⟨h1, h2, h3, h4, h5⟩ := e2
      dsimp only at h
      split at h
      · rename_i cda x cc
        obtain ⟨g1, h⟩ := ba h
        obtain ⟨g2, h⟩ := ba h
        obtain ⟨g3, h⟩ := ba h
        obtain ⟨g4, h⟩ := ba h
        obtain ⟨g5, g6⟩ := ba h
        obtain ⟨f1, f0⟩ := of_decide_eq_true g1
        have f3 := of_decide_eq_true g3
        have f4 := of_decide_eq_true g4
        split at g5
        · rename_i ccl cdd vs ccs hcode
          split at g5
          · rename_i fl tf hvs
            have f5 := of_decide_eq_true g5
            split at g6
            · rename_i cl cld D csl hcell
              have f6 := of_decide_eq_true g6
              subst h1 h2 h3 h4 h5 f1 f0 f3 f4 f5 f6
              exact ⟨oc, od, _, _, n9, n10, n11, n12, cda, cc, n14, osl, ccl, cdd, vs, ccs, _, tf, cl, cld, csl, rfl, g2, hcode, hvs, by rw [hfile]; exact beq_self_eq_true _, hcell⟩
            · cases g6
          · cases g5
        · cases g5
      · cases h
    | _ => cases h
def errB (K : Frag) (nm : PySem.Str) (fs : List PySem.Str) (file : PySem.Str) : Bool :=
  eqO (nsIn K mainGlobals nm) (some (some (.ref (ga K nm)))) && (clsB K (ga K nm) && (eqO (findIn K (.ref (ga K nm)) "__setattr__") (some (some (.builtin "object.__setattr__"))) &&
  (eqO (findIn K (.ref (ga K nm)) "__getattribute__") (some (some (.builtin "BaseException.__getattribute__"))) && (eqO (findIn K (.ref (ga K nm)) "__getattr__") (some none) &&
  (eqO (findIn K (.ref (ga K nm)) "__init__") (some (some (.ref (ma K (ga K nm) "__init__")))) && (decide (typeIn K (.ref (ma K (ga K nm) "__init__")) = some (.type "function")) && (keepIn K (.ref (ga K nm)) &&
  (decide (subIn K (.ref (ga K nm)) (.type "BaseException") = some true) && (decide (subIn K (.ref (ga K nm)) (.type "ValueError") = some true) && (decide (typeIn K (.ref (ga K nm)) = some (.type "type")) && (hasDictIn K (ga K nm) &&
  (decide (mroIn K (ga K nm) (.ref (ga K nm)) = some true) && (eqO (ks_superIn K (ga K nm) (ga K nm) "__init__") (some (some (.builtin "ValueError.__init__"))) && (eqO (nsIn K cStatics "thirdparty.any") (some none) &&
  (eqO (nsIn K mainGlobals "super") (some none) && (initB K (ga K nm) (ma K (ga K nm) "__init__") file && fs.all fun f => eqO (findIn K (.ref (ga K nm)) f) (some none)))))))))))))))))
structure ErrD where
  name : PySem.Str
  fs : List PySem.Str
  qual : PySem.Str
  params : Arguments
  body : List Stmt
  scope : Scope
def ErrD.it (file : PySem.Str) (d : ErrD) : It := ⟨fun K => ma K (ga K d.name) "__init__", some ("__init__", d.qual, d.params, .stmts d.body, d.scope), fun K => errB K d.name d.fs file⟩
/-- the scope's facts, by decide -/
structure ScopeE (prog : Program) (scope : Scope) (params : Arguments) : Prop where
  ar : ∃ pp, (params.posonlyargs ++ params.args).head? = some ⟨"self", none, pp⟩
  hks : scope.names.lookup ("super" : PySem.Str) = some .globalImplicit
  hkc : scope.names.lookup ("__class__" : PySem.Str) = some .free
  hka : scope.names.lookup ("self" : PySem.Str) = some .local
  hk : scope.kind = .function
  hco : scope.isCoroutine = false
  hgen : scope.isGenerator = false
  hcell : ∀ x ∈ scope.names, x.2 ≠ .cell
  htop : (prog.main.scope.names.lookup ("super" : PySem.Str)).isSome = false
theorem errC_of {prog : Program} {K : Frag} {nm qual0 nm0 file : PySem.Str} {fs : List PySem.Str} {params : Arguments} {body : List Stmt} {scope : Scope} (c : errB K nm fs file = true) (e : fnZ K (ma K (ga K nm) "__init__") = some (nm0, qual0, params, .stmts body, scope))
    (hfile : (prog.main.file : PySem.Str) = file) (S : ScopeE prog scope params) : PySem.ErrX.ErrC prog K (ga K nm) (ma K (ga K nm) "__init__") body scope params ∧ nsIn K mainGlobals nm = some (some (.ref (ga K nm))) ∧ ∀ f ∈ fs, findIn K (.ref (ga K nm)) f = some none := by
  unfold errB at c
  obtain ⟨c0, c⟩ := ba c
  obtain ⟨c1, c⟩ := ba c
  obtain ⟨c2, c⟩ := ba c
  obtain ⟨c3, c⟩ := ba c
  obtain ⟨c4, c⟩ := ba c
  obtain ⟨c5, c⟩ := ba c
  obtain ⟨c6, c⟩ := ba c
  obtain ⟨c7, c⟩ := ba c
  obtain ⟨c8, c⟩ := ba c
  obtain ⟨c9, c⟩ := ba c
  obtain ⟨c10, c⟩ := ba c
  obtain ⟨c11, c⟩ := ba c
  obtain ⟨c12, c⟩ := ba c
  obtain ⟨c13, c⟩ := ba c
  obtain ⟨c14, c⟩ := ba c
  obtain ⟨c15, c⟩ := ba c
  obtain ⟨c16, c17⟩ := ba c
  exact ⟨{ cls := clsB_ok c1, sa := eqO_ok c2, ga := eqO_ok c3, gg := eqO_ok c4, iC := eqO_ok c5, tC := of_decide_eq_true c6, kC := c7, exC := of_decide_eq_true c8, veC := of_decide_eq_true c9, tyC := of_decide_eq_true c10, hdC := c11, mroC := of_decide_eq_true c12,
           supC := eqO_ok c13, opq := eqO_ok c14, supG := eqO_ok c15, fn := initB_ok c16 e hfile, ar := S.ar, hks := S.hks, hkc := S.hkc, hka := S.hka, hk := S.hk, hco := S.hco, hgen := S.hgen, hcell := S.hcell, htop := S.htop }, eqO_ok c0, fun f hf => eqO_ok (List.all_eq_true.mp c17 f hf)⟩
section
variable {prog : Program} {w : World} {K : Frag} {h : Heap} {mg : PySem.Str → Option Value} {nm qual0 nm0 file f msg : PySem.Str} {params : Arguments} {scope : Scope} {a1 a2 a3 a4 a5 a6 b1 b2 b3 b4 : Pos}
theorem err1_of (X : K.In h) (G : h.Ns mainGlobals mg) (c : errB K nm [f] file = true) (e : fnZ K (ma K (ga K nm) "__init__") = some (nm0, qual0, params, .stmts [PySem.ErrX.supS msg a1 a2 a3 a4 a5 a6, PySem.ErrX.fldS f b1 b2 b3 b4], scope))
    (hfile : (prog.main.file : PySem.Str) = file) (S : ScopeE prog scope params) (hline : (a3.endLine == a5.line) = true)
    (hbind : ∀ (nm qual : PySem.Str) (kV doc pm : Value) (an : Option Addr) (cdv ct : Value) (cc : Addr) (x y : Value), bindArgs (ksFn nm qual params [PySem.ErrX.supS msg a1 a2 a3 a4 a5 a6, PySem.ErrX.fldS f b1 b2 b3 b4] scope .none kV doc pm an cdv ct cc) ⟨[x, y], []⟩ = pure [(("self" : PySem.Str), x), (f, y)])
    (hkf : scope.names.lookup f = some .local) (hne : (("self" : PySem.Str) == f) = false) (hdf : (f == ("__debug__" : PySem.Str)) = false) : Err1 prog w K mg nm f (ga K nm) := by
  obtain ⟨T, g, hf⟩ := errC_of c e hfile S
  have noN := hf f (List.mem_singleton.mpr rfl)
  exact { gC := mg_of X G g, kC := T.kC, exC := T.exC, tyC := T.tyC, hdC := T.hdC, ga := T.ga, gg := T.gg, noN := noN, made := fun X hl hG hB hr hq => PySem.ErrX.made1 T hline hbind hkf hne hdf noN X hl hG hB hr hq }
end
/-- ExcC as a Bool -/
def excCB (K : Frag) (D : Addr) : Bool := eqO (findIn K (.ref D) "__getattribute__") (some (some (.builtin "BaseException.__getattribute__"))) && (eqO (findIn K (.ref D) "__getattr__") (some none) && (decide (subIn K (.ref D) (.type "BaseException") = some true) &&
  (hasDictIn K D && (eqO (findIn K (.ref D) "__class__") (some (some (.builtin "object.__class__"))) && (eqO (specialIn K (.builtin "object.__class__") "__get__") (some (some (.builtin "getset_descriptor.__get__"))) &&
  (decide (takesIn K (.builtin "object.__class__") = some true) && decide (mroIn K D (.type "object") = some true)))))))
theorem excCB_ok {K : Frag} {D : Addr} (c : excCB K D = true) : ExcC K D := by
  unfold excCB at c
  obtain ⟨c1, c⟩ := ba c
  obtain ⟨c2, c⟩ := ba c
  obtain ⟨c3, c⟩ := ba c
  obtain ⟨c4, c⟩ := ba c
  obtain ⟨c5, c⟩ := ba c
  obtain ⟨c6, c⟩ := ba c
  obtain ⟨c7, c8⟩ := ba c
  exact ⟨eqO_ok c1, eqO_ok c2, of_decide_eq_true c3, c4, eqO_ok c5, eqO_ok c6, of_decide_eq_true c7, of_decide_eq_true c8⟩
def kitB (K : Frag) (x y : Value) (b : Bool) : Bool := decide (kitOne K x y = some b)
theorem kitB_ok {K : Frag} {x y : Value} {b : Bool} (h : kitB K x y b = true) : kitOne K x y = some b := of_decide_eq_true h
/-- the function's data at a -/
def fdOf (K : Frag) (a : Addr) : FuncData := match K.lookup a with
  | some ⟨_, _, .func fd, _⟩ => fd
  | _ => fnOf "" "" ⟨[], [], none, [], [], none, []⟩ [] ⟨.function, [], false, false, []⟩ .none .none .none .none none .none .none
theorem fdOf_eq {K : Frag} {x qual : PySem.Str} {params : Arguments} {body : List Stmt} {scope : Scope} {dvs : List V} {kws : List (PySem.Str × V)} {f : Addr} {fd : FuncData} (F : FunD K x qual params body scope dvs kws f fd) : FunD K x qual params body scope dvs kws f (fdOf K f) := by
  obtain ⟨oc, od, dV, kV, doc, pm, an, cdv, ct, osl, e, lk, r⟩ := F.ex
  have e2 : fdOf K f = fd := by unfold fdOf; rw [lk]
  rw [e2]
  exact F
/-! ### the Hook -/
abbrev AlZ : Type := Bool × List FnZ
def obsZ (fa : List Fa) (ex : List (Frag → Bool)) (its : List It) (K : Frag) : AlZ := ((fa.all fun f => f.ok K) && ((ex.all fun f => f K) && its.all fun d => d.ok K), its.map fun d => fnZ K (d.at_ K))
def valZ (its : List It) : AlZ := (true, its.map It.val)
def SaysZ (fa : List Fa) (ex : List (Frag → Bool)) (its : List It) (K : Frag) : Prop := obsZ fa ex its K = valZ its
def obsZG (n : Nat) (fa : List Fa) (ex : List (Frag → Bool)) (its : List It) (g : Addr → Option Obj) : AlZ := obsZ fa ex its (frG g (He5.asA g n))
def hookZ (n : Nat) (fa : List Fa) (ex : List (Frag → Bool)) (its : List It) : PySem.W.Hook where
  α := AlZ
  obs := fun s => obsZG n fa ex its s.heap.get?
  val := fun _ => valZ its
  says := fun _ h => ∃ K : Frag, K.In h ∧ SaysZ fa ex its K
  of := fun _ _ e => ⟨_, frG_in, e⟩
  keeps := fun _ _ _ ⟨K, hK, c⟩ k => ⟨K, Frag.In.keeps hK k, c⟩
theorem obsZG_eq {n : Nat} {fa : List Fa} {ex : List (Frag → Bool)} {its : List It} {g : Addr → Option Obj} {s : Shared} (h : ∀ a, g a = s.heap.get? a) : obsZG n fa ex its g = (hookZ n fa ex its).obs s := by
  have e : g = s.heap.get? := funext h
  rw [e] <;> rfl
section
variable {fa : List Fa} {ex : List (Frag → Bool)} {its : List It} {K : Frag}
theorem SaysZ.fact (c : SaysZ fa ex its K) (i : Nat) {f : Fa} (h : fa[i]? = some f := by rfl) : f.ok K = true := by
  have c1 := (ba (show ((fa.all fun f => f.ok K) && ((ex.all fun f => f K) && its.all fun d => d.ok K)) = true from congrArg (fun z : AlZ => z.1) c)).1
  exact List.all_eq_true.mp c1 f (List.mem_of_getElem? h)
theorem SaysZ.more (c : SaysZ fa ex its K) (i : Nat) {f : Frag → Bool} (h : ex[i]? = some f := by rfl) : f K = true := by
  have c1 := (ba (ba (show ((fa.all fun f => f.ok K) && ((ex.all fun f => f K) && its.all fun d => d.ok K)) = true from congrArg (fun z : AlZ => z.1) c)).2).1
  exact List.all_eq_true.mp c1 f (List.mem_of_getElem? h)
theorem SaysZ.it (c : SaysZ fa ex its K) (i : Nat) {d : It} (h : its[i]? = some d := by rfl) : fnZ K (d.at_ K) = d.val ∧ d.ok K = true := by
  have c2 := (ba (ba (show ((fa.all fun f => f.ok K) && ((ex.all fun f => f K) && its.all fun d => d.ok K)) = true from congrArg (fun z : AlZ => z.1) c)).2).2
  have e : its.map (fun d => fnZ K (d.at_ K)) = its.map It.val := congrArg (fun z : AlZ => z.2) c
  have e2 : (its.map fun d => fnZ K (d.at_ K))[i]? = (its.map It.val)[i]? := by rw [e]
  rw [List.getElem?_map, List.getElem?_map, h] at e2
  exact ⟨Option.some.inj e2, List.all_eq_true.mp c2 d (List.mem_of_getElem? h)⟩
theorem SaysZ.def_ (c : SaysZ fa ex its K) (i : Nat) {d : DefX} (h : its[i]? = some d.it := by rfl) : ∃ fd, FunD K d.name d.qual d.params d.body d.scope (d.dvs K) (d.kws K) (d.at_ K) fd := by
  obtain ⟨e1, e2⟩ := c.it i h
  exact DefX.funD e1 e2
theorem SaysZ.fn (c : SaysZ fa ex its K) (i : Nat) {d : DefX} (h : its[i]? = some d.it := by rfl) : FunD K d.name d.qual d.params d.body d.scope (d.dvs K) (d.kws K) (d.at_ K) (fdOf K (d.at_ K)) := by
  obtain ⟨fd, F⟩ := c.def_ i h
  exact fdOf_eq F
end
/-- a law: as walk_ofE, with the script's bits -/
theorem walk_ofEB {l : PySem.W.OpenLaw} {n k : Nat} {q : Program} {loose : List PySem.Str} {XP : (PySem.Str → Option Value) → Heap → Prop} {YP : World → Heap → Prop} {d : DefRec} {CX : World → CXT} {x : PySem.Str}
    (hn : l.most = some n) (hn2 : n ≤ sizeLine) (hdf : d.params.defaults = []) (hr : Room k callerA)
    (F : ∀ (w : World) (mg : PySem.Str → Option Value) (fa : Addr) (h : Heap), YP w h → h.Ns mainGlobals mg → mg d.name = some (.ref fa) →
      ∃ (K : PySem.W.Frag) (fd : FuncData) (sp : Sp), K.In h ∧ (∀ (s : Shared) (u : Value), BindsTo s fd ⟨[u], []⟩ [(x, u)]) ∧
        (∀ (H : Hp) (a : Addr) (ns : List Int), ns.length ≤ n → (∀ k ∈ ns, Builtin.Int.intBits k ≤ 1048576) → Only H → SqL K H a (ns.map V.int) → sp [.ref a] H (fun v _ => v = .bl true) fun _ _ _ => False) ∧
        ∀ base : Heap, K.In base → base.Ns mainGlobals mg → FnOk l.prog w K mg base (CX w) k fa fd [x] sp)
    (hCX : ∀ (w : World) (H : Hp) (s : Shared) (e : Value) (s' : Shared), CX w [] H s (fun _ _ _ => False) e s' → False) :
    PySem.W.WalkO q loose XP YP l.row.toRowW d [] (fun f vs => PySem.call f vs) := by
  refine Att.attach_callB hn hdf fun w s₀ s₁ mg mb fa o pm cd doc a vs ns G Y ho hd hcd hmg hobj hints hlen hbits hg => ?_
  obtain ⟨K, fd, sp, KX, hb, hsp, hF⟩ := F w mg fa _ Y G.T.g hmg
  exact law_call KX G.T.g G.T.b G.T.builtins G.T.nolimit hg hobj hints (Nat.le_trans hlen hn2) hr hF hb (fun H hO hS => hsp H a ns hlen hbits hO hS) fun H e s' => hCX w H s₁ e s'
end Hk
/-! operators by the values' own kinds; steps -/
namespace Px
open PySem PySem.Spec PyProof.Rows L2
section
variable {X : Cx}
/-- + -/
def rAddP (K : PySem.W.Frag) : R2 := fun x y H Q => match x, y with
  | .int i, .int j => Q (.int (i + j)) H
  | .str i, .str j => i.length + j.length ≤ sizeLine ∧ Q (.str (i ++ j)) H
  | .ref a, .ref b => rCat (.ref a) (.ref b) H Q ∨ rCatA K (.ref a) (.ref b) H Q
  | _, _ => False
theorem op_addP : OpR X (binaryOp .Add) (rAddP X.K) := by
  intro pins s σ H x y v u Q I rx ry h
  cases x <;> cases y <;> first
    | exact False.elim h
    | exact op_add pins s σ H _ _ v u Q I rx ry ⟨_, _, rfl, rfl, h⟩
    | exact op_add_str pins s σ H _ _ v u Q I rx ry ⟨_, _, rfl, rfl, h.1, h.2⟩
    | (rcases h with h | h
       · exact op_cat pins s σ H _ _ v u Q I rx ry h
       · exact op_catA pins s σ H _ _ v u Q I rx ry h)
/-- ints -/
def rIn2 (C : Int → Int → Prop) (g : Int → Int → V) : R2 := fun x y H Q => match x, y with
  | .int i, .int j => C i j ∧ Q (g i j) H
  | _, _ => False
theorem OpR.in2 {f : Value → Value → Sem Value} {C : Int → Int → Prop} {g : Int → Int → V} (h : OpR X f (rI C g)) : OpR X f (rIn2 C g) := by
  intro pins s σ H x y v u Q I rx ry q
  cases x <;> cases y <;> first
    | exact False.elim q
    | exact h pins s σ H _ _ v u Q I rx ry ⟨_, _, rfl, rfl, q.1, q.2⟩
def rIn0 (g : Int → Int → V) : R2 := fun x y H Q => match x, y with
  | .int i, .int j => Q (g i j) H
  | _, _ => False
theorem OpR.in0 {f : Value → Value → Sem Value} {g : Int → Int → V} (h : OpR X f (rI0 g)) : OpR X f (rIn0 g) := by
  intro pins s σ H x y v u Q I rx ry q
  cases x <;> cases y <;> first
    | exact False.elim q
    | exact h pins s σ H _ _ v u Q I rx ry ⟨_, _, rfl, rfl, q⟩
abbrev rSubP : R2 := rIn0 fun i j => .int (i - j)
theorem op_subP : OpR X (binaryOp .Sub) rSubP := OpR.in0 op_sub
def CMulP (i j : Int) : Prop := CMul i j ∨ CMulW i j
abbrev rMulP : R2 := rIn2 CMulP fun i j => .int (i * j)
theorem op_mulP : OpR X (binaryOp .Mult) rMulP := OpR.in2 (opI fun _ _ _ _ _ _ _ hc q => mul_int q (hc.elim CMul.ok CMulW.ok))
def CDivP (_ j : Int) : Prop := j ≠ 0 ∧ j.natAbs.log2 < 9000
abbrev rFdivP : R2 := rIn2 CDivP fun i j => .int (i.fdiv j)
theorem op_fdivP : OpR X (binaryOp .FloorDiv) rFdivP := OpR.in2 (opI fun _ _ _ _ _ _ _ hc q => floordiv_int hc.1 q (.inl (PyProof.noPylong_of_log2 hc.2)))
abbrev rModP : R2 := rIn2 (fun _ j => j ≠ 0) fun i j => .int (i.fmod j)
theorem op_modP : OpR X (binaryOp .Mod) rModP := OpR.in2 op_modN
abbrev rPowP : R2 := rIn2 CPow fun i j => .int (i ^ j.toNat)
theorem op_powP : OpR X (binaryOp .Pow) rPowP := OpR.in2 op_pow
/-- ==, != -/
def rEqP (K : PySem.W.Frag) : R2 := fun x y H Q => match scal x y with
  | true => Q (.bl (decide (x = y))) H
  | false => rEqD K x y H Q
theorem op_eqP (hu : X.A.units + 64 < cLine) : OpR X (compareOp .Eq) (rEqP X.K) := by
  intro pins s σ H x y v u Q I rx ry h
  unfold rEqP at h
  cases e : scal x y with
  | true => rw [e] at h; exact op_eq pins s σ H _ _ v u Q I rx ry ⟨e, h⟩
  | false => rw [e] at h; exact op_eqD hu pins s σ H _ _ v u Q I rx ry h
def rNeP (K : PySem.W.Frag) : R2 := fun x y H Q => match scal x y with
  | true => Q (.bl (!decide (x = y))) H
  | false => rNeD K x y H Q
theorem op_neP (hu : X.A.units + 64 < cLine) : OpR X (compareOp .NotEq) (rNeP X.K) := by
  intro pins s σ H x y v u Q I rx ry h
  unfold rNeP at h
  cases e : scal x y with
  | true => rw [e] at h; exact op_ne pins s σ H _ _ v u Q I rx ry ⟨e, h⟩
  | false => rw [e] at h; exact op_neD hu pins s σ H _ _ v u Q I rx ry h
/-- <, <=, >, >= -/
def rLtP : R2 := fun x y H Q => match x, y with
  | .int i, .int j => Q (.bl (decide (i < j))) H
  | .str i, .str j => Q (.bl (decide (i.cps.toList < j.cps.toList))) H
  | _, _ => False
theorem op_ltP : OpR X (compareOp .Lt) rLtP := by
  intro pins s σ H x y v u Q I rx ry h
  cases x <;> cases y <;> first
    | exact False.elim h
    | exact op_lt pins s σ H _ _ v u Q I rx ry ⟨_, _, rfl, rfl, h⟩
    | exact op_lt_str pins s σ H _ _ v u Q I rx ry ⟨_, _, rfl, rfl, h⟩
abbrev rGtP : R2 := rIn0 fun i j => .bl (decide (j < i))
theorem op_gtP : OpR X (compareOp .Gt) rGtP := OpR.in0 op_gt
abbrev rGeP : R2 := rIn0 fun i j => .bl (decide (j ≤ i))
theorem op_geP : OpR X (compareOp .GtE) rGeP := OpR.in0 op_ge
/-- in, not in -/
def strIn (i j : Str) : Bool := !(Builtin.Str.occurrences j i 0 j.length 1).isEmpty
theorem strIn_sign (c : Nat) (z : Str) : strIn ⟨#[c]⟩ z = decide (c ∈ z.cps.toList) := PySem.StrLaws.found_one z c
def tgtIn (neg b : Bool) : Bool := if neg then !b else b
def rInP (K : PySem.W.Frag) (neg : Bool) : R2 := fun x y H Q => match y with
  | .str j => (match x with
    | .str i => Q (.bl (tgtIn neg (strIn i j))) H
    | _ => False)
  | .ref p => rIn K neg x (.ref p) H Q ∨ ∃ o, DGet H p x o ∧ Q (.bl (tgtIn neg o.isSome)) H
  | _ => False
theorem op_inP (hu : X.A.units + 64 < cLine) : OpR X (compareOp .In) (rInP X.K false) := by
  intro pins s σ H x y v u Q I rx ry h
  cases y <;> first
    | exact False.elim h
    | (cases x <;> first
       | exact False.elim h
       | exact op_in_str pins s σ H _ _ v u Q I rx ry ⟨_, _, rfl, rfl, h⟩)
    | (rcases h with h | ⟨o, g, q⟩
       · exact op_in_seq pins s σ H _ _ v u Q I rx ry h
       · obtain rfl : u = Value.ref _ := ry
         exact d_in (by omega) I g rx fun s3 I3 => ⟨.bl o.isSome, H, I3, rfl, q⟩)
theorem op_ninP (hu : X.A.units + 64 < cLine) : OpR X (compareOp .NotIn) (rInP X.K true) := by
  intro pins s σ H x y v u Q I rx ry h
  cases y <;> first
    | exact False.elim h
    | (cases x <;> first
       | exact False.elim h
       | exact op_notin_str pins s σ H _ _ v u Q I rx ry ⟨_, _, rfl, rfl, h⟩)
    | (rcases h with h | ⟨o, g, q⟩
       · exact op_notIn_seq pins s σ H _ _ v u Q I rx ry h
       · obtain rfl : u = Value.ref _ := ry
         exact d_notIn (by omega) I g rx fun s3 I3 => ⟨.bl (!o.isSome), H, I3, rfl, q⟩)
/-- is None -/
def rIsP (neg : Bool) : R2 := fun x y H Q => y = .non ∧ Q (.bl (tgtIn neg (decide (x = .non)))) H
theorem op_isP : OpR X (compareOp .Is) (rIsP false) := op_isN
/-- x[i] -/
def rIxP (K : PySem.W.Frag) : R2 := fun x y H Q => match x, y with
  | .str z, .int i => z.length ≤ sizeLine ∧ ∃ c, atI z.cps.toList i = some c ∧ Q (.str ⟨#[c]⟩) H
  | .ref p, .int i => ∃ xs v, (SqL K H p xs ∨ SqT K H p xs) ∧ atI xs i = some v ∧ Q v H
  | _, _ => False
theorem ix_P : IxR X (rIxP X.K) := by
  intro value slice pins s σ H x y v u Q I rx ry h hs
  cases x <;> cases y <;> first
    | exact False.elim h
    | (obtain ⟨hz, c, he, q⟩ := h
       exact ix_str value slice pins s σ H _ _ v u Q I rx ry ⟨_, _, c, rfl, rfl, hz, he, q⟩ hs)
    | (obtain ⟨xs, w, hq, he, q⟩ := h
       rcases hq with hq | hq
       · exact ix_list value slice pins s σ H _ _ v u Q I rx ry ⟨_, xs, _, w, rfl, rfl, hq, he, q⟩ hs
       · exact ix_tup value slice pins s σ H _ _ v u Q I rx ry ⟨_, xs, _, w, rfl, rfl, hq, he, q⟩ hs)
/-- x[a:b] -/
def rSlP (K : PySem.W.Frag) : V → Option Int → Option Int → Hp → VK → Prop := fun x lo hi H Q => match x with
  | .str z => z.length ≤ sizeLine ∧ Q (.str (cutS z lo hi)) H
  | .ref a => rSlL K (.ref a) lo hi H Q ∨ rSlA K (.ref a) lo hi H Q
  | _ => False
theorem sl_P : SlR X (rSlP X.K) := by
  intro pins s σ H x v vl vu lo hi sl Q I rx hs pl pu h
  cases x <;> first
    | exact False.elim h
    | exact sl_str pins s σ H _ v vl vu lo hi sl Q I rx hs pl pu ⟨_, rfl, h.1, h.2⟩
    | (rcases h with h | h
       · exact sl_list pins s σ H _ v vl vu lo hi sl Q I rx hs pl pu h
       · exact sl_tupA pins s σ H _ v vl vu lo hi sl Q I rx hs pl pu h)
/-- len -/
def rLenP (K : PySem.W.Frag) : List V → Hp → VK → Prop := fun vs H Q => match vs with
  | [.str z] => z.length ≤ sizeLine ∧ Q (.int z.length) H
  | [.ref p] => (∃ xs, (SqL K H p xs ∨ SqT K H p xs) ∧ Q (.int xs.length) H) ∨ ∃ kvs, H p = some (.dK kvs) ∧ Q (.int kvs.length) H
  | _ => False
theorem call_lenP : CallR X (.builtin "len") (rLenP X.K) := by
  intro pins s σ H vs us Q I r h
  match vs, h with
  | [.str z], h => exact call_len_str pins s σ H _ us Q I r ⟨z, rfl, h.1, h.2⟩
  | [.ref p], h =>
    rcases h with ⟨xs, hq, q⟩ | ⟨kvs, hd, q⟩
    · exact call_len_seq pins s σ H _ us Q I r ⟨p, xs, rfl, hq, q⟩
    · exact call_lenD pins s σ H _ us Q I r ⟨p, kvs, rfl, hd, q⟩
  | [], h => exact False.elim h
  | [.non], h => exact False.elim h
  | [.bl _], h => exact False.elim h
  | [.int _], h => exact False.elim h
  | [.byt _], h => exact False.elim h
  | [.flt _], h => exact False.elim h
  | [.ty _], h => exact False.elim h
  | x :: y :: z, h => exact False.elim (by cases x <;> exact h)
/-- for x in .. -/
def iAnyP (K : PySem.W.Frag) (te : TE) : TI := fun σ H R => te σ H fun x H1 => match x with
  | .str z => R (Its z) H1
  | .ref a => ((∃ xs, SqL K H1 a xs) ∧ R (Itl K a) H1) ∨ ((∃ xs, SqT K H1 a xs) ∧ R (Itt K a) H1)
  | _ => False
theorem pi_anyP {tg e : Expr} {te : TE} (he : PE X e te) : PI X tg e (iAnyP X.K te) := by
  refine ⟨fun pins s σ H R I h => ?_⟩
  refine thn (he.run pins s σ H _ I h) fun v s1 ⟨x, H1, I1, r1, q1⟩ => ?_
  cases x <;> first
    | exact False.elim q1
    | (rename_i x
       obtain ⟨t, rfl⟩ := r1
       cases ha : x.cps.all (· < 128)
       · exact wpAny_pyIter_wide ha (pi_one (tk := s1.toks) I1 _ (turn_str _ x t "str_iterator" (.inr rfl)) ⟨_, Heap.get?_push_size _ rfl, rfl, rfl⟩ q1)
       · exact wpAny_pyIter_ascii ha (pi_one (tk := s1.toks) I1 _ (turn_str _ x t "str_ascii_iterator" (.inl rfl)) ⟨_, Heap.get?_push_size _ rfl, rfl, rfl⟩ q1))
    | (rename_i a
       obtain rfl : v = Value.ref a := r1
       rcases q1 with ⟨⟨xs, hq⟩, q⟩ | ⟨⟨xs, hq⟩, q⟩
       · obtain ⟨its, rv, p, hz⟩ := I1.list hq
         refine wpAny_pyIter_list p.isList ?_
         refine ⟨s1.heap.objs.size, [s1.heap.objs.size], _, _, H1, rfl, I1.kept (t' := s1.toks) fun b o e => Heap.get?_push_of_some _ e, turn_list a _, ⟨_, Heap.get?_push_size _ rfl, rfl, rfl⟩, fun b hb => ?_, q⟩
         have e : b = s1.heap.objs.size := by simpa using hb
         subst e
         exact I1.fpOk (Nat.le_refl _) (I1.hok.fresh (Nat.le_refl _))
       · obtain ⟨its, rv, p, hz⟩ := I1.tuple hq
         refine wpAny_pyIter_tuple (show s1.heap.IsTuple a its.toArray from p) ?_
         refine ⟨s1.heap.objs.size, [s1.heap.objs.size], _, _, H1, rfl, I1.kept (t' := s1.toks) fun b o e => Heap.get?_push_of_some _ e, turn_tuple a _, ⟨_, Heap.get?_push_size _ rfl, rfl, rfl⟩, fun b hb => ?_, q⟩
         have e : b = s1.heap.objs.size := by simpa using hb
         subst e
         exact I1.fpOk (Nat.le_refl _) (I1.hok.fresh (Nat.le_refl _)))
/-- o[i] = v -/
def rSetP : V → V → V → Hp → (Hp → Prop) → Prop := fun o i v H Q => match o with
  | .ref p => rSetL (.ref p) i v H Q ∨ ∃ H', DPut H p i v H' ∧ Q H'
  | _ => False
theorem set_P (hu : X.A.units + 64 < cLine) : PSet X rSetP := by
  intro pins s σ H o i v ov iv u Q I ro ri rv h
  cases o <;> first
    | exact False.elim h
    | (rcases h with h | ⟨H', g, q⟩
       · exact set_list pins s σ H _ i v ov iv u Q I ro ri rv h
       · obtain rfl : ov = Value.ref _ := ro
         exact d_setItem (by omega) I g ri rv fun s4 I4 => ⟨H', I4, q⟩)
/-- int(x), list(x), tuple(x), abs(x) -/
def rIntP : List V → Hp → VK → Prop := fun vs H Q => match vs with
  | [.int i] => Q (.int i) H
  | [.bl b] => Q (.int (if b then 1 else 0)) H
  | [.str z] => ∃ n, PySem.intText? z = some n ∧ z.length ≤ 640 ∧ Q (.int n) H
  | _ => False
theorem call_intP : CallR X (.type "int") rIntP := by
  intro pins s σ H vs us Q I r h
  match vs, h with
  | [.int i], h => exact call_int1 pins s σ H _ us Q I r (.inl ⟨i, rfl, h⟩)
  | [.bl b], h => exact call_int1 pins s σ H _ us Q I r (.inr ⟨b, rfl, h⟩)
  | [.str z], ⟨n, e, l, q⟩ => exact call_int_str pins s σ H _ us Q I r ⟨z, n, rfl, e, l, q⟩
  | [], h => exact False.elim h
  | [.non], h => exact False.elim h
  | [.ref _], h => exact False.elim h
  | [.byt _], h => exact False.elim h
  | [.flt _], h => exact False.elim h
  | [.ty _], h => exact False.elim h
  | x :: y :: z, h => exact False.elim (by cases x <;> exact h)
def rListP (K : PySem.W.Frag) : List V → Hp → VK → Prop := fun xs H Q => ∃ p ys, xs = [.ref p] ∧ (SqL K H p ys ∨ SqT K H p ys) ∧ ∀ l, H l = none → Q (.ref l) (upd H l (.lst ys))
theorem call_listP : CallR X (.type "list") (rListP X.K) := call_list_of
def rStrP : List V → Hp → VK → Prop := fun vs H Q => match vs with
  | [.int i] => i.natAbs.log2 < 1920 ∧ Q (.str (toString i)) H
  | [.str z] => Q (.str z) H
  | _ => False
theorem call_strP : CallR X (.type "str") rStrP := by
  intro pins s σ H vs us Q I r h
  match vs, h with
  | [.int i], h => exact call_str_int pins s σ H _ us Q I r ⟨i, rfl, h.1, h.2⟩
  | [.str z], h => exact SkE.call_str_str pins s σ H _ us Q I r ⟨z, rfl, h⟩
  | [], h => exact False.elim h
  | [.non], h => exact False.elim h
  | [.bl _], h => exact False.elim h
  | [.ref _], h => exact False.elim h
  | [.byt _], h => exact False.elim h
  | [.flt _], h => exact False.elim h
  | [.ty _], h => exact False.elim h
  | x :: y :: z, h => exact False.elim (by cases x <;> exact h)
/-- a statement, then the rest, with a word between them -/
def tCut (t u : TS) : TS := fun D σ H => ∃ Mid : L2.St → Hp → Prop, t { D with nx := Mid } σ H ∧ ∀ σ' H', Mid σ' H' → u D σ' H'
theorem pss_cut {st : Stmt} {rest : List Stmt} {t u : TS} (h1 : PS X st t) (h2 : PSs X rest u) : PSs X (st :: rest) (tCut t u) := by
  refine ⟨fun pins s σ H D I h => ?_⟩
  obtain ⟨Mid, hm, hu⟩ := h
  refine wpAny_execs_cons (thn (h1.run pins s σ H { D with nx := Mid } I hm) fun f s1 q => ?_)
  cases f with
  | next =>
    obtain ⟨σ', H', I', q⟩ := q
    exact h2.run pins s1 σ' H' D I' (hu σ' H' q)
  | ret v => exact q
  | brk => exact q
  | cont => exact q
/-! promises by the number of arguments -/
def Sp1 (P : V → Hp → VK → XK → Prop) : Sp := fun vs H Q E => ∃ x, vs = [x] ∧ P x H Q E
def Sp2 (P : V → V → Hp → VK → XK → Prop) : Sp := fun vs H Q E => ∃ x y, vs = [x, y] ∧ P x y H Q E
def Sp3 (P : V → V → V → Hp → VK → XK → Prop) : Sp := fun vs H Q E => ∃ x y z, vs = [x, y, z] ∧ P x y z H Q E
def Sp4 (P : V → V → V → V → Hp → VK → XK → Prop) : Sp := fun vs H Q E => ∃ x y z u, vs = [x, y, z, u] ∧ P x y z u H Q E
def Sp5 (P : V → V → V → V → V → Hp → VK → XK → Prop) : Sp := fun vs H Q E => ∃ x y z u v, vs = [x, y, z, u, v] ∧ P x y z u v H Q E
theorem Sp5.len {P} {vs H Q E} (h : Sp5 P vs H Q E) : vs.length = 5 := by obtain ⟨_, _, _, _, _, rfl, _⟩ := h; rfl
def Sp9 (P : V → V → V → V → V → V → V → V → V → Hp → VK → XK → Prop) : Sp := fun vs H Q E => ∃ x y z u v a b c d, vs = [x, y, z, u, v, a, b, c, d] ∧ P x y z u v a b c d H Q E
theorem Sp9.len {P} {vs H Q E} (h : Sp9 P vs H Q E) : vs.length = 9 := by obtain ⟨_, _, _, _, _, _, _, _, _, rfl, _⟩ := h; rfl
theorem Sp1.len {P} {vs H Q E} (h : Sp1 P vs H Q E) : vs.length = 1 := by obtain ⟨_, rfl, _⟩ := h; rfl
theorem Sp2.len {P} {vs H Q E} (h : Sp2 P vs H Q E) : vs.length = 2 := by obtain ⟨_, _, rfl, _⟩ := h; rfl
theorem Sp3.len {P} {vs H Q E} (h : Sp3 P vs H Q E) : vs.length = 3 := by obtain ⟨_, _, _, rfl, _⟩ := h; rfl
theorem Sp4.len {P} {vs H Q E} (h : Sp4 P vs H Q E) : vs.length = 4 := by obtain ⟨_, _, _, _, rfl, _⟩ := h; rfl
end
end Px
/-! steps of readings -/
namespace Px
open PySem PySem.Spec PyProof.Rows L2
section
variable {K : PySem.W.Frag} {σ σ' : L2.St} {H : Hp} {D : Ends} {Q : VK} {QB : Bool → Hp → Prop} {QL : List V → Hp → Prop} {QO : Option Int → Hp → Prop} {QS : L2.St → Hp → Prop} {t u : TS} {te ta tb : TE} {tt tu : TT} {tl : TA} {v x y : V} {g : TG} {r : R2}
theorem s_seq (h : t { D with nx := u D } σ H) : tSeq t u D σ H := h
theorem s_asg (h : te σ H fun x H1 => g x σ H1 D.nx) : tAsg te g D σ H := h
theorem s_ret (h : te σ H D.rt) : tRet te D σ H := h
theorem s_retN (h : D.rt .non H) : tRetN D σ H := h
theorem s_drop (h : te σ H fun _ H1 => D.nx σ H1) : tDrop te D σ H := h
theorem s_ifS (h : tt σ H fun b H1 => if b = true then t D σ H1 else u D σ H1) : tIfS tt t u D σ H := h
theorem s_next (h : D.nx σ H) : tNext D σ H := h
theorem s_break (h : D.bk σ H) : tBreak D σ H := h
theorem s_cont (h : D.ct σ H) : tCont D σ H := h
theorem s_var {i : Nat} (e : σ[i]? = some (some v)) (h : Q v H) : tVar i σ H Q := ⟨v, e, h⟩
theorem s_c (h : Q v H) : tC v σ H Q := h
theorem s_op (h : ta σ H fun x H1 => tb σ H1 fun y H2 => r x y H2 Q) : tOp r ta tb σ H Q := h
theorem s_un {r : V → Hp → VK → Prop} (h : ta σ H fun x H1 => r x H1 Q) : tUn r ta σ H Q := h
theorem s_gname {i : Nat} (h : QS (σ.set i (some v)) H) : gName i v σ H QS := h
theorem s_gsub {to ti : TE} {ts : TSet} (h : to σ H fun o H1 => ti σ H1 fun i H2 => ts o i v H2 fun H3 => QS σ H3) : gSub to ti ts v σ H QS := h
theorem s_test (h : te σ H fun x H' => ∃ k, x = .bl k ∧ QB k H') : tTest te σ H QB := h
theorem s_tB (h : te σ H fun x H' => ∃ k, x = .bl k ∧ QB k H') : tB te σ H QB := h
theorem s_and (h : tt σ H fun c H1 => if c = true then tu σ H1 QB else QB false H1) : tAnd tt tu σ H QB := h
theorem s_or (h : tt σ H fun c H1 => if c = true then QB true H1 else tu σ H1 QB) : tOr tt tu σ H QB := h
theorem s_not (h : tt σ H fun c H1 => QB (!c) H1) : tNot tt σ H QB := h
theorem s_andV (h : ta σ H fun x H1 => ∃ c, x = .bl c ∧ if c = true then tb σ H1 Q else Q (.bl false) H1) : tAndV ta tb σ H Q := h
theorem s_orV (h : ta σ H fun x H1 => ∃ c, x = .bl c ∧ if c = true then Q (.bl true) H1 else tb σ H1 Q) : tOrV ta tb σ H Q := h
theorem s_notV (h : ta σ H fun x H1 => ∃ c, x = .bl c ∧ Q (.bl (!c)) H1) : tNotV ta σ H Q := h
theorem s_ifE (h : tt σ H fun c H1 => if c = true then ta σ H1 Q else tb σ H1 Q) : tIf tt ta tb σ H Q := h
theorem s_exb {b : Bool} {R : Bool → Prop} (h : R b) : ∃ k, (V.bl b = .bl k) ∧ R k := ⟨b, rfl, h⟩
theorem s_exi {b : Int} {R : Int → Prop} (h : R b) : ∃ k, (V.int b = .int k) ∧ R k := ⟨b, rfl, h⟩
theorem s_nil (h : QL [] H) : tNil σ H QL := h
theorem s_cons (h : ta σ H fun x H1 => tl σ H1 fun xs H2 => QL (x :: xs) H2) : tCons ta tl σ H QL := h
theorem s_cb {r : List V → Hp → VK → Prop} (h : tl σ H fun vs H1 => r vs H1 Q) : tCB r tl σ H Q := h
theorem s_call {sp : Sp} {dvs : List V} {E : XK} (h : tl σ H fun vs H1 => sp (vs ++ dvs) H1 Q E) : tCall sp dvs E tl σ H Q := h
theorem s_callS {sp : Sp} {E : L2.St → XK} (h : tl σ H fun vs H1 => sp vs H1 Q (E σ)) : tCallS sp E tl σ H Q := h
theorem s_lst (h : tl σ H fun xs H1 => xs.length ≤ sizeLine ∧ ∀ p, H1 p = none → Q (.ref p) (upd H1 p (.lst xs))) : tLst tl σ H Q := h
theorem s_tup (h : tl σ H fun xs H1 => xs.length ≤ sizeLine ∧ ∀ p, H1 p = none → Q (.ref p) (upd H1 p (.tup xs))) : tTup tl σ H Q := h
theorem s_sl {r : V → Option Int → Option Int → Hp → VK → Prop} {lo hi : TO} (h : te σ H fun x H1 => lo σ H1 fun l H2 => hi σ H2 fun u H3 => r x l u H3 Q) : tSl r te lo hi σ H Q := h
theorem s_nopart (h : QO none H) : tNoPart σ H QO := h
theorem s_part (h : te σ H fun x H1 => ∃ i, x = .int i ∧ QO (some i) H1) : tPart te σ H QO := h
theorem s_yes (h : QB true H) : tYes σ H QB := h
/-! values -/
theorem s_addI {i j : Int} (h : Q (.int (i + j)) H) : rAddP K (.int i) (.int j) H Q := h
theorem s_addS {i j : Str} (hl : i.length + j.length ≤ sizeLine) (h : Q (.str (i ++ j)) H) : rAddP K (.str i) (.str j) H Q := ⟨hl, h⟩
theorem s_in0 {g : Int → Int → V} {i j : Int} (h : Q (g i j) H) : rIn0 g (.int i) (.int j) H Q := h
theorem s_in2 {C : Int → Int → Prop} {g : Int → Int → V} {i j : Int} (hc : C i j) (h : Q (g i j) H) : rIn2 C g (.int i) (.int j) H Q := ⟨hc, h⟩
theorem s_eqI {i j : Int} (h : Q (.bl (decide (i = j))) H) : rEqP K (.int i) (.int j) H Q := by
  show Q (.bl (decide (V.int i = V.int j))) H
  rw [show decide (V.int i = V.int j) = decide (i = j) from by rw [Bool.eq_iff_iff]; simp]
  exact h
theorem s_eqS {i j : Str} (h : Q (.bl (decide (i = j))) H) : rEqP K (.str i) (.str j) H Q := by
  show Q (.bl (decide (V.str i = V.str j))) H
  rw [show decide (V.str i = V.str j) = decide (i = j) from by rw [Bool.eq_iff_iff]; simp]
  exact h
theorem s_eqB {i j : Bool} (h : Q (.bl (decide (i = j))) H) : rEqP K (.bl i) (.bl j) H Q := by
  show Q (.bl (decide (V.bl i = V.bl j))) H
  rw [show decide (V.bl i = V.bl j) = decide (i = j) from by rw [Bool.eq_iff_iff]; simp]
  exact h
theorem s_neI {i j : Int} (h : Q (.bl (!decide (i = j))) H) : rNeP K (.int i) (.int j) H Q := by
  show Q (.bl (!decide (V.int i = V.int j))) H
  rw [show decide (V.int i = V.int j) = decide (i = j) from by rw [Bool.eq_iff_iff]; simp]
  exact h
theorem s_neS {i j : Str} (h : Q (.bl (!decide (i = j))) H) : rNeP K (.str i) (.str j) H Q := by
  show Q (.bl (!decide (V.str i = V.str j))) H
  rw [show decide (V.str i = V.str j) = decide (i = j) from by rw [Bool.eq_iff_iff]; simp]
  exact h
theorem s_ltI {i j : Int} (h : Q (.bl (decide (i < j))) H) : rLtP (.int i) (.int j) H Q := h
theorem s_ltS {i j : Str} (h : Q (.bl (decide (i.cps.toList < j.cps.toList))) H) : rLtP (.str i) (.str j) H Q := h
theorem s_inS {i j : Str} {neg : Bool} (h : Q (.bl (tgtIn neg (strIn i j))) H) : rInP K neg (.str i) (.str j) H Q := h
theorem s_isN {neg : Bool} (h : Q (.bl (tgtIn neg (decide (x = .non)))) H) : rIsP neg x .non H Q := ⟨rfl, h⟩
theorem s_ixS {z : Str} {i : Int} {c : Nat} (hz : z.length ≤ sizeLine) (e : atI z.cps.toList i = some c) (h : Q (.str ⟨#[c]⟩) H) : rIxP K (.str z) (.int i) H Q := ⟨hz, c, e, h⟩
theorem s_ixL {p : Addr} {xs : List V} {i : Int} (hp : H p = some (.lst xs)) (e : atI xs i = some v) (h : Q v H) : rIxP K (.ref p) (.int i) H Q := ⟨xs, v, .inl (SqL.of hp), e, h⟩
theorem s_ixT {p : Addr} {xs : List V} {i : Int} (hp : H p = some (.tup xs)) (e : atI xs i = some v) (h : Q v H) : rIxP K (.ref p) (.int i) H Q := ⟨xs, v, .inr (SqT.of hp), e, h⟩
theorem s_slS {z : Str} {lo hi : Option Int} (hz : z.length ≤ sizeLine) (h : Q (.str (cutS z lo hi)) H) : rSlP K (.str z) lo hi H Q := ⟨hz, h⟩
theorem s_lenS {z : Str} (hz : z.length ≤ sizeLine) (h : Q (.int z.length) H) : rLenP K [.str z] H Q := ⟨hz, h⟩
theorem s_lenL {p : Addr} {xs : List V} (hp : H p = some (.lst xs)) (h : Q (.int xs.length) H) : rLenP K [.ref p] H Q := .inl ⟨xs, .inl (SqL.of hp), h⟩
theorem s_lenT {p : Addr} {xs : List V} (hp : H p = some (.tup xs)) (h : Q (.int xs.length) H) : rLenP K [.ref p] H Q := .inl ⟨xs, .inr (SqT.of hp), h⟩
theorem s_setL {p : Addr} {xs : List V} {k : Int} {j : Nat} {QH : Hp → Prop} (hp : H p = some (.lst xs)) (e : ixN xs.length k = some j) (h : QH (upd H p (.lst (xs.set j v)))) : rSetP (.ref p) (.int k) v H QH := .inl ⟨p, xs, k, j, rfl, rfl, hp, e, h⟩
theorem s_neg {i : Int} {f : Int → V} (h : Q (f i) H) : rU f (.int i) H Q := ⟨i, rfl, h⟩
theorem s_itd {p : Prop} [Decidable p] {A B : Prop} (h1 : p → A) (h2 : ¬p → B) : if decide p = true then A else B := by
  by_cases h : p
  · rw [if_pos (decide_eq_true h)]; exact h1 h
  · rw [if_neg (by rw [decide_eq_false h]; exact Bool.false_ne_true)]; exact h2 h
theorem s_itT {c : Bool} {A B : Prop} (hc : c = true) (h : A) : if c = true then A else B := by rw [if_pos hc]; exact h
theorem s_itF {c : Bool} {A B : Prop} (hc : c = false) (h : B) : if c = true then A else B := by rw [hc, if_neg Bool.false_ne_true]; exact h
theorem s_nocut (h : t { D with nx := u D } σ H) : tCut t u D σ H := ⟨u D, h, fun _ _ h => h⟩
theorem s_cut (Mid : L2.St → Hp → Prop) (h : t { D with nx := Mid } σ H) (h2 : ∀ σ' H', Mid σ' H' → u D σ' H') : tCut t u D σ H := ⟨Mid, h, h2⟩
theorem s_setU {p : Addr} {xs : List V} {k : Int} {j : Nat} {QH : Hp → Prop} (e : ixN xs.length k = some j) (h : QH (upd H p (.lst (xs.set j v)))) : rSetP (.ref p) (.int k) v (upd H p (.lst xs)) QH := by
  refine s_setL upd_same e ?_
  rw [upd_upd]
  exact h
theorem s_intI {i : Int} (h : Q (.int i) H) : rIntP [.int i] H Q := h
theorem s_listL {p : Addr} {ys : List V} (hp : SqL K H p ys) (h : ∀ l, H l = none → Q (.ref l) (upd H l (.lst ys))) : rListP K [.ref p] H Q := ⟨p, ys, rfl, .inl hp, h⟩
theorem s_rng1 {ta : TA} {R : L2.It → Hp → Prop} (h : ta σ H fun vs H1 => ∃ j : Int, vs = [.int j] ∧ -(2 ^ 62) ≤ j ∧ j < 2 ^ 62 ∧ R (Itr 0 j.toNat) H1) : iRng1 ta σ H R := h
/-! heaps -/
theorem same_new {p : Addr} {o : HO} (h : H p = none) : Same H (upd H p o) := fun b u e => by
  rw [upd_ne (ne_of_none e h)]
  exact e
/-- one object may have changed -/
def But (a : Addr) (H H' : Hp) : Prop := ∀ b o, H b = some o → b ≠ a → H' b = some o
theorem But.refl (a : Addr) (H : Hp) : But a H H := fun _ _ h _ => h
theorem But.trans {a : Addr} {H H1 H2 : Hp} (h1 : But a H H1) (h2 : But a H1 H2) : But a H H2 := fun b o h n => h2 b o (h1 b o h n) n
theorem But.of_same {a : Addr} {H H1 : Hp} (h : Same H H1) : But a H H1 := fun b o e _ => h b o e
theorem But.upd {a : Addr} {H : Hp} {o : HO} : But a H (upd H a o) := fun b u h n => by rw [upd_ne n]; exact h
theorem But.put {a : Addr} {H H1 : Hp} {o : HO} (h : But a H H1) : But a H (L2.upd H1 a o) := h.trans But.upd
theorem one_lt {n : Nat} (h : n ≤ 1000000) : n ≤ sizeLine := by rw [sizeLine_eq]; omega
end
end Px
/-! loops and comprehensions over anything whose items are known -/
namespace Px
open PySem PySem.Spec PyProof.Rows L2
/-- at turn i, the heap H: the items are xs -/
def YieldsAt (J : L2.It) (xs : List V) (i : Nat) (H : Hp) : Prop := (∀ h : i < xs.length, J.go i H ∧ ∀ x H', J.yld i H x H' → H' = H ∧ xs[i]? = some x) ∧ (xs.length ≤ i → J.stop i H)
theorem yields_str (z : Str) (i : Nat) (H : Hp) : YieldsAt (Its z) (z.cps.toList.map fun c => V.str ⟨#[c]⟩) i H := by
  refine ⟨fun h => ⟨?_, fun x H' hy => ?_⟩, fun h => ?_⟩
  · show i < z.cps.size
    simpa using h
  · obtain ⟨e, c, hc, rfl⟩ := hy
    refine ⟨e, ?_⟩
    rw [List.getElem?_map]
    have : z.cps.toList[i]? = some c := by simpa using hc
    rw [this]
    rfl
  · show z.cps.size ≤ i
    simpa using h
theorem yields_range (lo : Int) (n i : Nat) (H : Hp) : YieldsAt (Itr lo n) ((List.range n).map fun (j : Nat) => V.int (lo + (j : Int))) i H := by
  refine ⟨fun h => ⟨?_, fun x H' hy => ?_⟩, fun h => ?_⟩
  · show i < n
    simpa using h
  · obtain ⟨e, rfl⟩ := hy
    refine ⟨e, ?_⟩
    have hi : i < n := by simpa using h
    rw [List.getElem?_map, List.getElem?_range hi]
    rfl
  · show n ≤ i
    simpa using h
theorem yields_list {K : PySem.W.Frag} {a : Addr} {xs : List V} {H : Hp} (h : SqL K H a xs) (i : Nat) : YieldsAt (Itl K a) xs i H := by
  refine ⟨fun hi => ⟨⟨xs, xs[i], h, by simp [hi]⟩, fun x H' hy => ⟨hy.1, hy.2 xs h⟩⟩, fun hi => ⟨xs, h, hi⟩⟩
theorem yields_tup {K : PySem.W.Frag} {a : Addr} {xs : List V} {H : Hp} (h : SqT K H a xs) (i : Nat) : YieldsAt (Itt K a) xs i H := by
  refine ⟨fun hi => ⟨⟨xs, xs[i], h, by simp [hi]⟩, fun x H' hy => ⟨hy.1, hy.2 xs h⟩⟩, fun hi => ⟨xs, h, hi⟩⟩
theorem Same.sqT {K : PySem.W.Frag} {H H' : Hp} {a : Addr} {xs : List V} (e : Same H H') (h : SqT K H a xs) : SqT K H' a xs := by
  rcases h with (h | ⟨o, h⟩) | h
  · exact .inl (.inl (e _ _ h))
  · exact .inl (.inr ⟨o, e _ _ h⟩)
  · exact .inr h
section
variable {K : PySem.W.Frag} {σ : L2.St} {H H1 : Hp} {D : Ends} {Q : VK} {J : L2.It} {xs : List V}
/-- a for over known items, by an invariant -/
theorem for_y {g : TG} {tb : TS} (Pv : Nat → L2.St → Hp → Prop) (h0 : Pv 0 σ H) (hy : ∀ i σ H, i ≤ xs.length → Pv i σ H → YieldsAt J xs i H)
    (hs : ∀ i x σ H, xs[i]? = some x → Pv i σ H → g x σ H fun σ2 H2 => tb { D with nx := Pv (i + 1), ct := Pv (i + 1), bk := D.nx } σ2 H2) (hd : ∀ σ H, Pv xs.length σ H → D.nx σ H) :
    ∃ W : Nat → Nat → L2.St → Hp → Prop, (∃ m, W 0 m σ H) ∧ ∀ i m σ H, W i m σ H →
      (J.stop i H ∧ D.nx σ H) ∨ (J.go i H ∧ ∃ N : L2.St → Hp → Prop, (∀ σ' H', N σ' H' → ∃ m', m' < m ∧ W (i + 1) m' σ' H') ∧ ∀ x H', J.yld i H x H' → g x σ H' fun σ2 H2 => tb { D with nx := N, ct := N, bk := D.nx } σ2 H2) := by
  refine ⟨fun i m σ H => m = xs.length - i ∧ i ≤ xs.length ∧ Pv i σ H, ⟨xs.length, by simp, Nat.zero_le _, h0⟩, ?_⟩
  rintro i m σ H ⟨rfl, hi, p⟩
  have q := hy i σ H hi p
  by_cases hlt : i < xs.length
  · refine .inr ⟨(q.1 hlt).1, Pv (i + 1), fun σ' H' p' => ⟨xs.length - (i + 1), by omega, rfl, hlt, p'⟩, fun x H' y => ?_⟩
    obtain ⟨e, hx⟩ := (q.1 hlt).2 x H' y
    subst e
    exact hs i x σ H' hx p
  · have e : i = xs.length := by omega
    subst e
    exact .inl ⟨q.2 (Nat.le_refl _), hd σ H p⟩
/-- a comprehension over known items, by an invariant -/
theorem lc_y {g : TG} {tt : TT} {te : TE} {vs : List Nat} {Dr : Addr} {Qd : Hp → Prop} (Pv : Nat → Hp → Prop) (h0 : Pv 0 (upd H1 Dr (.lst []))) (hy : ∀ i H, i ≤ xs.length → Pv i H → YieldsAt J xs i H)
    (hs : ∀ i x H, xs[i]? = some x → Pv i H → g x (wipe σ vs) H fun σ2 H2 => wipe σ2 vs = wipe σ vs ∧ tt σ2 H2 fun b H3 =>
      if b = true then te σ2 H3 fun y H4 => ∃ acc, H4 Dr = some (.lst acc) ∧ acc.length < sizeLine ∧ Pv (i + 1) (upd H4 Dr (.lst (acc ++ [y]))) else Pv (i + 1) H3) (hd : ∀ H, Pv xs.length H → Qd H) :
    ∃ W : Nat → Nat → Hp → Prop, (∃ m, W 0 m (upd H1 Dr (.lst []))) ∧ ∀ i m H, W i m H →
      (J.stop i H ∧ Qd H) ∨ (J.go i H ∧ ∃ Nx : Hp → Prop, (∀ H', Nx H' → ∃ m', m' < m ∧ W (i + 1) m' H') ∧ ∀ x H', J.yld i H x H' → g x (wipe σ vs) H' fun σ2 H2 => wipe σ2 vs = wipe σ vs ∧ tt σ2 H2 fun b H3 =>
        if b = true then te σ2 H3 fun y H4 => ∃ acc, H4 Dr = some (.lst acc) ∧ acc.length < sizeLine ∧ Nx (upd H4 Dr (.lst (acc ++ [y]))) else Nx H3) := by
  refine ⟨fun i m H => m = xs.length - i ∧ i ≤ xs.length ∧ Pv i H, ⟨xs.length, by simp, Nat.zero_le _, h0⟩, ?_⟩
  rintro i m H ⟨rfl, hi, p⟩
  have q := hy i H hi p
  by_cases hlt : i < xs.length
  · refine .inr ⟨(q.1 hlt).1, Pv (i + 1), fun H' p' => ⟨xs.length - (i + 1), by omega, rfl, hlt, p'⟩, fun x H' y => ?_⟩
    obtain ⟨e, hx⟩ := (q.1 hlt).2 x H' y
    subst e
    exact hs i x H' hx p
  · have e : i = xs.length := by omega
    subst e
    exact .inl ⟨q.2 (Nat.le_refl _), hd H p⟩
theorem take_more {α : Type} {l : List α} {i : Nat} {x : α} (h : l[i]? = some x) : l.take (i + 1) = l.take i ++ [x] := by
  obtain ⟨hi, rfl⟩ := List.getElem?_eq_some_iff.mp h
  rw [List.take_succ_eq_append_getElem hi]
/-- [e for x in ..]: each item's value is f x, the heap only grows -/
theorem lc_map {v : Nat} {te : TE} {f : V → V} (hx : xs.length ≤ 1000000) (hy : ∀ i H, Same H1 H → YieldsAt J xs i H)
    (hf : ∀ x ∈ xs, ∀ H', Same H1 H' → ∀ Q' : VK, (∀ H'', Same H' H'' → Q' (f x) H'') → te (σ.set v (some x)) H' Q')
    (hq : ∀ D H', H1 D = none → Same H1 H' → H' D = some (.lst (xs.map f)) → Q (.ref D) H') :
    ∀ Dr, H1 Dr = none → ∃ W : Nat → Nat → Hp → Prop, (∃ m, W 0 m (upd H1 Dr (.lst []))) ∧ ∀ i m H, W i m H →
      (J.stop i H ∧ Q (.ref Dr) H) ∨ (J.go i H ∧ ∃ Nx : Hp → Prop, (∀ H', Nx H' → ∃ m', m' < m ∧ W (i + 1) m' H') ∧ ∀ x H', J.yld i H x H' → gName v x (wipe σ [v]) H' fun σ2 H2 => wipe σ2 [v] = wipe σ [v] ∧ tYes σ2 H2 fun b H3 =>
        if b = true then te σ2 H3 fun y H4 => ∃ acc, H4 Dr = some (.lst acc) ∧ acc.length < sizeLine ∧ Nx (upd H4 Dr (.lst (acc ++ [y]))) else Nx H3) := by
  intro Dr hD
  refine lc_y (xs := xs) (fun i H => Same H1 H ∧ H Dr = some (.lst ((xs.take i).map f))) ⟨same_new hD, by simp [upd_same]⟩ (fun i H _ p => hy i H p.1) ?_ (fun H p => hq Dr H hD p.1 (by rw [p.2, List.take_length]))
  rintro i x H hi ⟨sm, hl⟩
  have e1 : wipe σ [v] = σ.set v none := rfl
  rw [e1]
  have e2 : (σ.set v none).set v (some x) = σ.set v (some x) := by rw [List.set_set]
  have e3 : wipe (σ.set v (some x)) [v] = σ.set v none := by show (σ.set v (some x)).set v none = _; rw [List.set_set]
  unfold gName
  rw [e2]
  refine ⟨e3, ?_⟩
  unfold tYes
  dsimp only
  rw [if_pos rfl]
  refine hf x (List.mem_of_getElem? hi) H sm _ fun H'' s2 => ?_
  refine ⟨_, s2 _ _ hl, ?_, fun b o e => ?_, ?_⟩
  · rw [List.length_map, List.length_take, sizeLine_eq]
    have := (List.getElem?_eq_some_iff.mp hi).1
    omega
  · rw [upd_ne (ne_of_none e hD)]
    exact s2 _ _ (sm _ _ e)
  · rw [upd_same, take_more hi, List.map_append]
    rfl
/-! with what follows kept whole -/
/-- the items of a value that is walked -/
def Items (K : PySem.W.Frag) (H : Hp) (x : V) (xs : List V) : Prop := match x with
  | .str z => xs = z.cps.toList.map fun c => V.str ⟨#[c]⟩
  | .ref a => SqL K H a xs ∨ SqT K H a xs
  | _ => False
theorem Items.keep {H' : Hp} {x : V} (h : Items K H x xs) (s : Same H H') : Items K H' x xs := by
  cases x <;> first
    | exact False.elim h
    | exact h
    | (rcases h with h | h
       · exact .inl (s.seq h)
       · exact .inr (Same.sqT s h))
def LcB (J : L2.It) (g : TG) (tt : TT) (te : TE) (vs : List Nat) (σ : L2.St) (Q : VK) (H1 : Hp) : Prop := ∀ D, H1 D = none → ∃ W : Nat → Nat → Hp → Prop, (∃ m, W 0 m (upd H1 D (.lst []))) ∧ ∀ i m H, W i m H →
  (J.stop i H ∧ Q (.ref D) H) ∨ (J.go i H ∧ ∃ Nx : Hp → Prop, (∀ H', Nx H' → ∃ m', m' < m ∧ W (i + 1) m' H') ∧ ∀ x H', J.yld i H x H' → g x (wipe σ vs) H' fun σ2 H2 => wipe σ2 vs = wipe σ vs ∧ tt σ2 H2 fun b H3 =>
    if b = true then te σ2 H3 fun y H4 => ∃ acc, H4 D = some (.lst acc) ∧ acc.length < sizeLine ∧ Nx (upd H4 D (.lst (acc ++ [y]))) else Nx H3)
def LcBody (K : PySem.W.Frag) (g : TG) (tt : TT) (te : TE) (vs : List Nat) (σ : L2.St) (Q : VK) (x : V) (H1 : Hp) : Prop := match x with
  | .str z => LcB (Its z) g tt te vs σ Q H1
  | .ref a => ((∃ xs, SqL K H1 a xs) ∧ LcB (Itl K a) g tt te vs σ Q H1) ∨ ((∃ xs, SqT K H1 a xs) ∧ LcB (Itt K a) g tt te vs σ Q H1)
  | _ => False
theorem s_lcA {te0 te : TE} {g : TG} {tt : TT} {vs : List Nat} (h : te0 σ H fun x H1 => LcBody K g tt te vs σ Q x H1) : tLc (iAnyP K te0) g tt te vs σ H Q := h
def LcBodyR (g : TG) (tt : TT) (te : TE) (vs : List Nat) (σ : L2.St) (Q : VK) (ws : List V) (H1 : Hp) : Prop := ∃ j : Int, ws = [.int j] ∧ -(2 ^ 62) ≤ j ∧ j < 2 ^ 62 ∧ LcB (Itr 0 j.toNat) g tt te vs σ Q H1
theorem s_lcR {ta : TA} {te : TE} {g : TG} {tt : TT} {vs : List Nat} (h : ta σ H fun ws H1 => LcBodyR g tt te vs σ Q ws H1) : tLc (iRng1 ta) g tt te vs σ H Q := h
theorem lcb_items {g : TG} {tt : TT} {te : TE} {vs : List Nat} {x : V} (hx : Items K H1 x xs) (h : ∀ J, (∀ i H, Same H1 H → YieldsAt J xs i H) → LcB J g tt te vs σ Q H1) : LcBody K g tt te vs σ Q x H1 := by
  cases x <;> first
    | exact False.elim hx
    | (have e : xs = _ := hx
       subst e
       exact h _ fun i H _ => yields_str _ i H)
    | (rcases hx with hx | hx
       · exact .inl ⟨⟨xs, hx⟩, h _ fun i H s => yields_list (s.seq hx) i⟩
       · exact .inr ⟨⟨xs, hx⟩, h _ fun i H s => yields_tup (Same.sqT s hx) i⟩)
/-- [e for x in y]: each item's value is f x, the heap only grows -/
theorem lcb_map {v : Nat} {te : TE} {x : V} (f : V → V) (hx : Items K H1 x xs) (hl : xs.length ≤ 1000000)
    (hf : ∀ x ∈ xs, ∀ H', Same H1 H' → ∀ Q' : VK, (∀ H'', Same H' H'' → Q' (f x) H'') → te (σ.set v (some x)) H' Q')
    (hq : ∀ D H', H1 D = none → Same H1 H' → H' D = some (.lst (xs.map f)) → Q (.ref D) H') : LcBody K (gName v) tYes te [v] σ Q x H1 :=
  lcb_items hx fun _ hy => lc_map hl hy hf hq
theorem lcr_map {v : Nat} {te : TE} {j : Int} (f : V → V) (h1 : j ≤ 1000000) (h0 : -1000000 ≤ j)
    (hf : ∀ i : Nat, (i : Int) < j → ∀ H', Same H1 H' → ∀ Q' : VK, (∀ H'', Same H' H'' → Q' (f (.int i)) H'') → te (σ.set v (some (.int i))) H' Q')
    (hq : ∀ D H', H1 D = none → Same H1 H' → H' D = some (.lst ((List.range j.toNat).map fun (i : Nat) => f (.int i))) → Q (.ref D) H') : LcBodyR (gName v) tYes te [v] σ Q [.int j] H1 := by
  refine ⟨j, rfl, by omega, by omega, ?_⟩
  refine lc_map (xs := (List.range j.toNat).map fun (i : Nat) => V.int (0 + (i : Int))) (f := f) (by rw [List.length_map, List.length_range]; omega) (fun i H _ => yields_range 0 j.toNat i H) ?_ ?_
  · intro x hx
    obtain ⟨i, hi, rfl⟩ := List.mem_map.mp hx
    have := List.mem_range.mp hi
    rw [Int.zero_add]
    exact hf i (by omega)
  · intro D H' hD s hl
    refine hq D H' hD s ?_
    rw [hl, List.map_map]
    congr 2
    apply List.map_congr_left
    intro i _
    show f (.int (0 + (i : Int))) = _
    rw [Int.zero_add]
def ForB (J : L2.It) (g : TG) (tb : TS) (D : Ends) (σ : L2.St) (H : Hp) : Prop := ∃ W : Nat → Nat → L2.St → Hp → Prop, (∃ m, W 0 m σ H) ∧ ∀ i m σ H, W i m σ H →
      (J.stop i H ∧ D.nx σ H) ∨ (J.go i H ∧ ∃ N : L2.St → Hp → Prop, (∀ σ' H', N σ' H' → ∃ m', m' < m ∧ W (i + 1) m' σ' H') ∧ ∀ x H', J.yld i H x H' → g x σ H' fun σ2 H2 => tb { D with nx := N, ct := N, bk := D.nx } σ2 H2)
def ForBody (K : PySem.W.Frag) (g : TG) (tb : TS) (D : Ends) (σ : L2.St) (x : V) (H1 : Hp) : Prop := match x with
  | .str z => ForB (Its z) g tb D σ H1
  | .ref a => ((∃ xs, SqL K H1 a xs) ∧ ForB (Itl K a) g tb D σ H1) ∨ ((∃ xs, SqT K H1 a xs) ∧ ForB (Itt K a) g tb D σ H1)
  | _ => False
theorem s_forA {te0 : TE} {g : TG} {tb : TS} (h : te0 σ H fun x H1 => ForBody K g tb D σ x H1) : tFor (iAnyP K te0) g tb D σ H := h
def ForBodyR (g : TG) (tb : TS) (D : Ends) (σ : L2.St) (ws : List V) (H1 : Hp) : Prop := ∃ j : Int, ws = [.int j] ∧ -(2 ^ 62) ≤ j ∧ j < 2 ^ 62 ∧ ForB (Itr 0 j.toNat) g tb D σ H1
theorem s_forR {ta : TA} {g : TG} {tb : TS} (h : ta σ H fun ws H1 => ForBodyR g tb D σ ws H1) : tFor (iRng1 ta) g tb D σ H := h
/-- for v in y: an invariant over the turn, the slots, the heap; y's items stand -/
theorem forb_list {g : TG} {tb : TS} {a : Addr} (Pv : Nat → L2.St → Hp → Prop) (h0 : Pv 0 σ H) (hy : ∀ i σ H, i ≤ xs.length → Pv i σ H → SqL K H a xs)
    (hs : ∀ i y σ H, xs[i]? = some y → Pv i σ H → g y σ H fun σ2 H2 => tb { D with nx := Pv (i + 1), ct := Pv (i + 1), bk := D.nx } σ2 H2) (hd : ∀ σ H, Pv xs.length σ H → D.nx σ H) : ForBody K g tb D σ (.ref a) H :=
  .inl ⟨⟨xs, hy 0 σ H (Nat.zero_le _) h0⟩, for_y Pv h0 (fun i σ H hi p => yields_list (hy i σ H hi p) i) hs hd⟩
theorem forb_tup {g : TG} {tb : TS} {a : Addr} (Pv : Nat → L2.St → Hp → Prop) (h0 : Pv 0 σ H) (hy : ∀ i σ H, i ≤ xs.length → Pv i σ H → SqT K H a xs)
    (hs : ∀ i y σ H, xs[i]? = some y → Pv i σ H → g y σ H fun σ2 H2 => tb { D with nx := Pv (i + 1), ct := Pv (i + 1), bk := D.nx } σ2 H2) (hd : ∀ σ H, Pv xs.length σ H → D.nx σ H) : ForBody K g tb D σ (.ref a) H :=
  .inr ⟨⟨xs, hy 0 σ H (Nat.zero_le _) h0⟩, for_y Pv h0 (fun i σ H hi p => yields_tup (hy i σ H hi p) i) hs hd⟩
theorem forr_inv {g : TG} {tb : TS} {j : Int} (h0 : -1000000000 ≤ j) (h1 : j ≤ 1000000000) (Pv : Nat → L2.St → Hp → Prop) (hp : Pv 0 σ H)
    (hs : ∀ (i : Nat) σ H, (i : Int) < j → Pv i σ H → g (.int i) σ H fun σ2 H2 => tb { D with nx := Pv (i + 1), ct := Pv (i + 1), bk := D.nx } σ2 H2) (hd : ∀ σ H, Pv j.toNat σ H → D.nx σ H) : ForBodyR g tb D σ [.int j] H := by
  refine ⟨j, rfl, by omega, by omega, ?_⟩
  refine for_range (lo := 0) (n := j.toNat) Pv hp (fun i σ H hi p => ?_) hd
  rw [Int.zero_add]
  exact hs i σ H (by omega) p
theorem s_all {a : Addr} {bs : List Bool} (hp : H a = some (.lst (bs.map V.bl))) (h : Q (.bl (bs.all id)) H) : rAll K [.ref a] H Q := ⟨a, bs, rfl, SqL.of hp, h⟩
end
end Px
/-! try with several clauses 'except x as n' -/
namespace L2N
open PySem PySem.Spec PyProof.Rows L2
/-- one clause: its class, the slot of its name, its suite's reading -/
abbrev Cla := Value × Nat × (Addr → Value → Option Addr → TS)
inductive Clas (X : Cx) : List ExceptHandler → List Cla → Prop
  | nil : Clas X [] []
  | cons {x n : Str} {c : Value} {i : Nat} {ts : Addr → Value → Option Addr → TS} {b1 : Stmt} {bs : List Stmt} {np p : Pos} {hds : List ExceptHandler} {l : List Cla} (hi : X.N[i]? = some n) (hln : X.env.kindOf n = some .local) (hc : Names X x c)
      (hsu : ∀ (a : Addr) (oe : Obj) (cls : Value) (d : Option Addr) (pn : List (Addr × Obj)), Zn cls d oe → (∃ vs, oe.data = .fields vs) → PSs (X.suite a ((a, oe) :: pn)) (b1 :: bs) (ts a cls d)) (r : Clas X hds l) :
      Clas X (.ExceptHandler (some (.Name x np)) (some n) (b1 :: bs) p :: hds) ((c, i, ts) :: l)
end L2N
/-! own classes: making, fields, constants -/
namespace Cl
open PySem PySem.Spec PyProof.Rows L2
section
variable {X : Cx} {CX : CXT} {k : Nat} {f C : Addr} {sp : Sp} {E : L2.St → XK} {x : Str} {e : Expr} {es : List Expr} {t : TA} {p pos : Pos}
/-- C(..): a new instance and its dict, then __init__ by its positional promise -/
def tMakeS (C : Addr) (sp : Sp) (E : L2.St → XK) (t : TA) : TE := fun σ H Q => t σ H fun vs H1 => ∀ x dx, H1 x = none → H1 dx = none → dx ≠ x →
  sp (V.ref x :: vs) (upd (upd H1 dx (.own x)) x (.ins C dx [])) (fun v H2 => v = .non ∧ Q (.ref x) H2) (E σ)
end
/-! attributes by the class of the object -/
abbrev Alt := Addr → List (Str × V) → L2.St → Hp → VK → Prop
def AltOk (X : Cx) (f : Str) (C : Addr) (r : Alt) : Prop := ∀ (pins : List (Addr × Obj)) (s : Shared) (σ : L2.St) (H : Hp) (a dx : Addr) (fs : List (Str × V)) (Q : VK), Inv X pins σ H s → H a = some (.ins C dx fs) → r a fs σ H Q →
  wpAny (model X.prog X.w) X.A (getAttr (.ref a) f true) (EP X pins σ Q) X.xe s
/-- e.f, by the alternatives of its object's class -/
def tAtt (l : List (Addr × Alt)) (te : TE) : TE := fun σ H Q => te σ H fun x H1 => ∃ (a dx : Addr) (fs : List (Str × V)) (i : Nat) (C : Addr) (r : Alt), x = .ref a ∧ l[i]? = some (C, r) ∧ H1 a = some (.ins C dx fs) ∧ r a fs σ H1 Q
section
variable {X : Cx} {f : Str} {C : Addr} {e : Expr} {te : TE} {pos : Pos}
inductive Alts (X : Cx) (f : Str) : List (Addr × Alt) → Prop
  | nil : Alts X f []
  | cons {C : Addr} {r : Alt} {l : List (Addr × Alt)} : AltOk X f C r → Alts X f l → Alts X f ((C, r) :: l)
theorem Alts.at {l : List (Addr × Alt)} (h : Alts X f l) : ∀ {i : Nat} {r : Alt}, l[i]? = some (C, r) → AltOk X f C r := by
  induction h with
  | nil => intro i r e; cases e
  | cons h _ ih =>
    intro i r e
    cases i with
    | zero => cases e; exact h
    | succ i => exact ih (by simpa using e)
/-- e.f = v, by the class -/
def sAtt (l : List Addr) (ta tv : TE) (f : Str) : TS := fun D σ H => tv σ H fun y H1 => ta σ H1 fun x H2 => ∃ a C dx fs, x = .ref a ∧ C ∈ l ∧ H2 a = some (.ins C dx fs) ∧ fs.length < 1000 ∧ D.nx σ (upd H2 a (.ins C dx (putF f y fs)))
/-- C.f, a constant read of the class itself -/
def tCls (v : V) : TE := fun _ H Q => Q v H
end
end Cl
namespace L2
open PySem PySem.Spec PyProof.Rows
end L2
/-! the head's facts of classes -/
namespace Hk
open PySem PySem.W PySem.Spec PyProof.Rows L2 He
/-- what isinstance asks of a class of instances -/
structure InsK (K : Frag) (C : Addr) : Prop where
  cl : Cls K C
  ha : findIn K (.ref C) "__class__" = some (some (.builtin "object.__class__"))
  hn : specialIn K (.builtin "object.__class__") "__get__" = some (some (.builtin "getset_descriptor.__get__"))
  ht : takesIn K (.builtin "object.__class__") = some true
  hm : mroIn K C (.type "object") = some true
theorem InsK.ty {K : Frag} {C a dx : Addr} {fs : List (PySem.Str × V)} {H : Hp} (k : InsK K C) (h : H a = some (.ins C dx fs)) : TyX K H (.ref a) (.ref C) := .base (.ins h k.cl k.ha k.hn k.ht k.hm)
end Hk
/-! lists' methods, sorted, dicts with text keys, comprehensions with if; classes: steps -/
namespace Px
open PySem PySem.Spec PyProof.Rows L2
/-- sorted(xs): texts or ints, any number of them -/
def rSortedT (K : PySem.W.Frag) : List V → Hp → VK → Prop := fun vs H Q => ∃ (a : Addr) (xs : List Str), vs = [V.ref a] ∧ SqL K H a (xs.map V.str) ∧ ∀ (ys : List Str) (p : Addr), ys.Perm xs → sortedS ys = true → H p = none → Q (.ref p) (upd H p (.lst (ys.map V.str)))
def rSortAny (K : PySem.W.Frag) : List V → Hp → VK → Prop := fun vs H Q => rSortedT K vs H Q ∨ rSortedI K vs H Q
theorem cr_sortedP2 {X : Cx} : CallR X (.builtin "sorted") (rSortAny X.K) := by
  intro pins s σ H vs us Q I r h
  rcases h with ⟨a, xs, rfl, hs, q⟩ | h
  · obtain ⟨its, rv, hl, hz⟩ := I.list hs
    obtain ⟨u, rfl, ru⟩ := vals1 r
    cases ru
    refine PyProof.Rows.sorted_strsAny hl.isList rv.strs (by rw [← rv.length]; exact hz) fun out ys h1 h2 h3 => ?_
    obtain ⟨ep, he'⟩ := PyProof.Rows.sortedAll_at s.heap its out
    have hlen : (ys.map V.str).length ≤ sizeLine := by
      rw [List.length_map] at hz ⊢
      rw [h2.length_eq]
      exact hz
    exact ⟨.ref _, upd H (s.heap.objs.size + 1) (.lst (ys.map V.str)), I.laid (t' := s.toks) (fun _ _ => PyProof.Rows.sortedAll_old) (Nat.le_succ _) ⟨hlen, out.toList, ep, vals_of_strs h1, he'⟩, rfl, q ys _ h2 h3 (I.hok.fresh (Nat.le_succ _))⟩
  · exact cr_sortedI pins s σ H vs us Q I r h
section
variable {K : PySem.W.Frag} {σ : L2.St} {H H1 : Hp} {D : Ends} {Q : VK} {t : TA} {te to ta tv : TE} {v x y : V} {p : Addr} {xs : List V}
theorem s_bm {T : String} {r : V → List V → Hp → VK → Prop} (h : to σ H fun x H1 => tyV K T x H1 ∧ t σ H1 fun xs H2 => r x xs H2 Q) : tBM K T r to t σ H Q := h
theorem s_tyL {r : V → List V → Hp → VK → Prop} (hp : H p = some (.lst xs)) (h : t σ H fun xs H2 => r (.ref p) xs H2 Q) : tyV K "list" (.ref p) H ∧ t σ H fun xs H2 => r (.ref p) xs H2 Q := ⟨.inl ⟨rfl, _, SqL.of hp⟩, h⟩
theorem s_app (hp : H p = some (.lst xs)) (hl : xs.length ≤ 1000000) (h : Q .non (upd H p (.lst (xs ++ [y])))) : rAppend (.ref p) [y] H Q := ⟨p, xs, y, rfl, rfl, hp, by rw [sizeLine_eq]; omega, h⟩
theorem s_sort {ss : List Str} (hp : H p = some (.lst (ss.map V.str))) (hl : ss.length ≤ 1000000) (h : ∀ ys q, ys.Perm ss → sortedS ys = true → H q = none → Q (.ref q) (upd H q (.lst (ys.map V.str)))) : rSortAny K [.ref p] H Q := .inl ⟨p, ss, rfl, SqL.of hp, h⟩
theorem s_inL {neg : Bool} (hp : H p = some (.lst xs)) (fx : flatV x = true) (fs : xs.all flatV = true) (h : Q (.bl (tgtIn neg (inV x xs))) H) : rInP K neg x (.ref p) H Q := .inl ⟨p, xs, rfl, .inl (SqL.of hp), fx, fs, h⟩
theorem flat_strs (ss : List Str) : (ss.map V.str).all flatV = true := by rw [List.all_map]; exact List.all_eq_true.mpr fun _ _ => rfl
theorem inV_strs (z : Str) (ss : List Str) : inV (.str z) (ss.map V.str) = decide (z ∈ ss) := by
  unfold inV
  rw [List.any_map, Bool.eq_iff_iff, List.any_eq_true, decide_eq_true_iff]
  constructor
  · rintro ⟨y, hy, e⟩
    have e2 : (y == z) = true := e
    rw [← eq_of_beq e2]
    exact hy
  · intro h
    exact ⟨z, h, show (z == z) = true from beq_self_eq_true z⟩
theorem s_inSL {neg : Bool} {z : Str} {ss : List Str} (hp : H p = some (.lst (ss.map V.str))) (h : Q (.bl (tgtIn neg (decide (z ∈ ss)))) H) : rInP K neg (.str z) (.ref p) H Q :=
  s_inL hp rfl (flat_strs ss) (by rw [inV_strs]; exact h)
/-! dicts that keep True for texts -/
def ksD (ks : List Str) : HO := .dK (ks.map fun k => (Sum.inr k, V.bl true))
theorem s_dnew (h : ∀ p, H p = none → Q (.ref p) (upd H p (ksD []))) : tDNewK σ H Q := h
theorem val_ks (z : Str) (ks : List Str) : (valV (ks.map fun k => ((Sum.inr k : Key), V.bl true)) (Sum.inr z)).isSome = decide (z ∈ ks) := by
  rw [← valV_any, List.any_map, Bool.eq_iff_iff, List.any_eq_true, decide_eq_true_iff]
  constructor
  · rintro ⟨y, hy, e⟩
    have e2 : (Sum.inr y : Key) = Sum.inr z := of_decide_eq_true e
    cases e2
    exact hy
  · intro h
    exact ⟨z, h, decide_eq_true rfl⟩
theorem s_inD {neg : Bool} {z : Str} {ks : List Str} (hp : H p = some (ksD ks)) (h : Q (.bl (tgtIn neg (decide (z ∈ ks)))) H) : rInP K neg (.str z) (.ref p) H Q :=
  .inr ⟨_, DGet.k (k := Sum.inr z) hp, by rw [val_ks]; exact h⟩
theorem put_ks (z : Str) (ks : List Str) : putK (ks.map fun k => ((Sum.inr k : Key), V.bl true)) (Sum.inr z) (.bl true) = (if z ∈ ks then ks else ks ++ [z]).map fun k => ((Sum.inr k : Key), V.bl true) := by
  unfold putK
  rw [valV_any, val_ks]
  by_cases h : z ∈ ks
  · rw [if_pos (decide_eq_true h), if_pos h, List.map_map]
    apply List.map_congr_left
    intro k _
    show (if (Sum.inr k : Key) = Sum.inr z then _ else _) = _
    split <;> rfl
  · rw [if_neg (by rw [decide_eq_false h]; exact Bool.false_ne_true), if_neg h, List.map_append]
    rfl
theorem s_putD {z : Str} {ks : List Str} {QH : Hp → Prop} (hp : H p = some (ksD ks)) (hl : ks.length ≤ 1000000) (h : QH (upd H p (ksD (if z ∈ ks then ks else ks ++ [z])))) : rSetP (.ref p) (.str z) (.bl true) H QH := by
  refine .inr ⟨_, DPut.k (k := Sum.inr z) hp (by rw [List.length_map, sizeLine_eq]; omega), ?_⟩
  rw [put_ks]
  exact h
/-- [e for x in a dict of texts] -/
theorem lc_keys {i v : Nat} {te : TE} {d : Addr} {ks : List Str} (f : Str → V) (hv : σ[i]? = some (some (.ref d))) (hd : H d = some (ksD ks)) (hl : ks.length ≤ 1000000)
    (hf : ∀ z ∈ ks, ∀ H' od, H' d = some (.frz od (ksD ks)) → (∀ b o, H b = some o → b ≠ d → H' b = some o) → ∀ Q' : VK, (∀ H'', Same H' H'' → Q' (f z) H'') → te (σ.set v (some (.str z))) H' Q')
    (hq : ∀ D H', H D = none → Same H H' → H' D = some (.lst (ks.map f)) → Q (.ref D) H') : tLockE (tLc (iKeys (tVar i)) (gName v) tYes te [v]) σ H Q := by
  refine ⟨d, ksD ks, hd, trivial, fun od => ?_⟩
  refine ⟨_, hv, d, od, rfl, .inl ⟨_, upd_same, ?_⟩⟩
  have hy : ∀ j H', Same (upd H d (.frz od (ksD ks))) H' → YieldsAt (Itk d od (ks.map fun k => ((Sum.inr k : Key), V.bl true))) (ks.map V.str) j H' := by
    intro j H' sm
    have hd' := sm _ _ (upd_same (H := H) (a := d) (o := HO.frz od (ksD ks)))
    refine ⟨fun hj => ⟨⟨hd', by simpa using hj⟩, fun x H'' y => ?_⟩, fun hj => ⟨hd', by simpa using hj⟩⟩
    obtain ⟨e, k, w, hk, rfl⟩ := y
    refine ⟨e, ?_⟩
    rw [List.getElem?_map] at hk ⊢
    cases e2 : ks[j]? with
    | none => rw [e2] at hk; cases hk
    | some z =>
      rw [e2] at hk
      have hk2 : ((Sum.inr z : Key), V.bl true) = (k, w) := Option.some.inj hk
      cases hk2
      rfl
  have old : ∀ b o, H b = some o → b ≠ d → (upd H d (.frz od (ksD ks))) b = some o := fun b o e n => by rw [upd_ne n]; exact e
  show LcB (Itk d od (ks.map fun k => ((Sum.inr k : Key), V.bl true))) (gName v) tYes te [v] σ (fun v H' => H' d = some (.frz od (ksD ks)) ∧ Q v (upd H' d (ksD ks))) (upd H d (.frz od (ksD ks)))
  refine lc_map (Q := fun v H' => H' d = some (.frz od (ksD ks)) ∧ Q v (upd H' d (ksD ks))) (σ := σ) (v := v) (te := te) (f := fun x => match x with | .str z => f z | _ => .non) (by rw [List.length_map]; exact hl) hy ?_ ?_
  · intro x hx H' sm Q' hQ
    obtain ⟨z, hz, rfl⟩ := List.mem_map.mp hx
    exact hf z hz H' od (sm _ _ upd_same) (fun b o e n => sm _ _ (old b o e n)) Q' hQ
  · intro D H' hD sm hr
    have hDd : D ≠ d := fun e => by rw [e, upd_same] at hD; cases hD
    rw [upd_ne hDd] at hD
    refine ⟨sm _ _ upd_same, hq D _ hD (fun b o e => ?_) ?_⟩
    · by_cases n : b = d
      · subst n
        rw [upd_same, ← hd, e]
      · rw [upd_ne n]
        exact sm _ _ (old b o e n)
    · rw [upd_ne hDd, hr, List.map_map]
      rfl
/-- [e for x in y if c]: the heap only grows -/
theorem lc_filt {J : L2.It} {v : Nat} {tt : TT} {te : TE} {f : V → V} {c : V → Bool} (hx : xs.length ≤ 1000000) (hy : ∀ i H, Same H1 H → YieldsAt J xs i H)
    (hc : ∀ x ∈ xs, ∀ H', Same H1 H' → ∀ Q' : Bool → Hp → Prop, (∀ H'', Same H' H'' → Q' (c x) H'') → tt (σ.set v (some x)) H' Q')
    (hf : ∀ x ∈ xs, c x = true → ∀ H', Same H1 H' → ∀ Q' : VK, (∀ H'', Same H' H'' → Q' (f x) H'') → te (σ.set v (some x)) H' Q')
    (hq : ∀ D H', H1 D = none → Same H1 H' → H' D = some (.lst ((xs.filter c).map f)) → Q (.ref D) H') : LcB J (gName v) tt te [v] σ Q H1 := by
  intro Dr hD
  refine lc_y (xs := xs) (fun i H => Same H1 H ∧ H Dr = some (.lst (((xs.take i).filter c).map f))) ⟨same_new hD, by simp [upd_same]⟩ (fun i H _ p => hy i H p.1) ?_ (fun H p => hq Dr H hD p.1 (by rw [p.2, List.take_length]))
  rintro i x H hi ⟨sm, hl⟩
  have e1 : wipe σ [v] = σ.set v none := rfl
  rw [e1]
  have e2 : (σ.set v none).set v (some x) = σ.set v (some x) := by rw [List.set_set]
  have e3 : wipe (σ.set v (some x)) [v] = σ.set v none := by show (σ.set v (some x)).set v none = _; rw [List.set_set]
  unfold gName
  rw [e2]
  refine ⟨e3, ?_⟩
  have hm := List.mem_of_getElem? hi
  refine hc x hm H sm _ fun H2 s2 => ?_
  cases hcx : c x with
  | false =>
    rw [if_neg Bool.false_ne_true]
    refine ⟨sm.trans s2, ?_⟩
    rw [s2 _ _ hl, take_more hi, List.filter_append, List.filter_cons_of_neg (by rw [hcx]; exact Bool.false_ne_true), List.filter_nil, List.append_nil]
  | true =>
    rw [if_pos rfl]
    refine hf x hm hcx H2 (sm.trans s2) _ fun H3 s3 => ?_
    refine ⟨_, s3 _ _ (s2 _ _ hl), ?_, fun b o e => ?_, ?_⟩
    · rw [List.length_map, sizeLine_eq]
      have h1 := List.length_filter_le c (xs.take i)
      rw [List.length_take] at h1
      omega
    · rw [upd_ne (ne_of_none e hD)]
      exact s3 _ _ (s2 _ _ (sm _ _ e))
    · rw [upd_same, take_more hi, List.filter_append, List.filter_cons_of_pos hcx, List.filter_nil, List.map_append]
      rfl
theorem lcb_filt {v : Nat} {tt : TT} {te : TE} {x : V} (f : V → V) (c : V → Bool) (hx : Items K H1 x xs) (hl : xs.length ≤ 1000000)
    (hc : ∀ x ∈ xs, ∀ H', Same H1 H' → ∀ Q' : Bool → Hp → Prop, (∀ H'', Same H' H'' → Q' (c x) H'') → tt (σ.set v (some x)) H' Q')
    (hf : ∀ x ∈ xs, c x = true → ∀ H', Same H1 H' → ∀ Q' : VK, (∀ H'', Same H' H'' → Q' (f x) H'') → te (σ.set v (some x)) H' Q')
    (hq : ∀ D H', H1 D = none → Same H1 H' → H' D = some (.lst ((xs.filter c).map f)) → Q (.ref D) H') : LcBody K (gName v) tt te [v] σ Q x H1 :=
  lcb_items hx fun _ hy => lc_filt hl hy hc hf hq
theorem s_listS (hp : H p = some (.lst xs)) (h : ∀ l, H l = none → Q (.ref l) (upd H l (.lst xs))) : rListP K [.ref p] H Q := ⟨p, xs, rfl, .inl (SqL.of hp), h⟩
theorem s_strS {z : Str} (h : Q (.str z) H) : rStrP [.str z] H Q := h
/-! classes -/
theorem s_make {C : Addr} {sp : Sp} {E : L2.St → XK} (h : t σ H fun vs H1 => ∀ x dx, H1 x = none → H1 dx = none → dx ≠ x → sp (V.ref x :: vs) (upd (upd H1 dx (.own x)) x (.ins C dx [])) (fun v H2 => v = .non ∧ Q (.ref x) H2) (E σ)) : Cl.tMakeS C sp E t σ H Q := h
theorem s_cls {v : V} (h : Q v H) : Cl.tCls v σ H Q := h
theorem s_att {l : List (Addr × Cl.Alt)} (h : te σ H fun x H1 => ∃ (a dx : Addr) (fs : List (Str × V)) (i : Nat) (C : Addr) (r : Cl.Alt), x = .ref a ∧ l[i]? = some (C, r) ∧ H1 a = some (.ins C dx fs) ∧ r a fs σ H1 Q) : Cl.tAtt l te σ H Q := h
theorem s_setA {l : List Addr} {f : Str} (h : tv σ H fun y H1 => ta σ H1 fun x H2 => ∃ a C dx fs, x = .ref a ∧ C ∈ l ∧ H2 a = some (.ins C dx fs) ∧ fs.length < 1000 ∧ D.nx σ (upd H2 a (.ins C dx (putF f y fs)))) : Cl.sAtt l ta tv f D σ H := h
end
end Px
/-! operators of own classes -/
namespace Cl
open PySem PySem.Spec PyProof.Rows L2
abbrev R2S := L2.St → R2
def tOpS (r : R2S) (ta tb : TE) : TE := fun σ H Q => ta σ H fun x H1 => tb σ H1 fun y H2 => r σ x y H2 Q
section
variable {X : Cx} {CX : CXT} {k : Nat} {f C : Addr} {sp : Sp} {E : L2.St → XK} {a b : Expr} {ta tb : TE} {pos : Pos} {r : R2S}
/-- alternatives by the class of the left object -/
def AltB (X : Cx) (f : Value → Value → Sem Value) (C : Addr) (sp : Sp) (E : L2.St → XK) : Prop := ∀ (pins : List (Addr × Obj)) (s : Shared) (σ : L2.St) (H : Hp) (a b dx dy : Addr) (fs gs : List (Str × V)) (Q : VK), Inv X pins σ H s → H a = some (.ins C dx fs) → H b = some (.ins C dy gs) → sp [.ref a, .ref b] H Q (E σ) →
  wpAny (model X.prog X.w) X.A (f (.ref a) (.ref b)) (EP X pins σ Q) X.xe s
structure OwnOp (K : PySem.W.Frag) (C : Addr) (m : Str) (f : Addr) : Prop where
  at_ : PySem.W.findIn K (.ref C) m = some (some (.ref f))
  fn : PySem.W.isFn K (.ref f) = true
  sf : PySem.W.selfFirst K C = true
inductive AltBs (X : Cx) (f : Value → Value → Sem Value) (E : L2.St → XK) : List (Addr × Sp) → Prop
  | nil : AltBs X f E []
  | cons {C : Addr} {sp : Sp} {l : List (Addr × Sp)} : AltB X f C sp E → AltBs X f E l → AltBs X f E ((C, sp) :: l)
theorem AltBs.at {g : Value → Value → Sem Value} {l : List (Addr × Sp)} (h : AltBs X g E l) : ∀ {i : Nat}, l[i]? = some (C, sp) → AltB X g C sp E := by
  induction h with
  | nil => intro i e; cases e
  | cons h _ ih =>
    intro i e
    cases i with
    | zero => cases e; exact h
    | succ i => exact ih (by simpa using e)
/-! x in an own container -/
def AltI (X : Cx) (C : Addr) (sp : Sp) (E : L2.St → XK) : Prop := ∀ (neg : Bool) (pins : List (Addr × Obj)) (s : Shared) (σ : L2.St) (H : Hp) (x : V) (v : Value) (b dy : Addr) (gs : List (Str × V)) (Q : VK), Inv X pins σ H s → RelV x v → H b = some (.ins C dy gs) → sp [.ref b, x] H (fun z H' => ∃ c, z = .bl c ∧ Q (.bl (Px.tgtIn neg c)) H') (E σ) →
  wpAny (model X.prog X.w) X.A (compareOp (if neg then .NotIn else .In) v (.ref b)) (EP X pins σ Q) X.xe s
inductive AltIs (X : Cx) (E : L2.St → XK) : List (Addr × Sp) → Prop
  | nil : AltIs X E []
  | cons {C : Addr} {sp : Sp} {l : List (Addr × Sp)} : AltI X C sp E → AltIs X E l → AltIs X E ((C, sp) :: l)
theorem AltIs.at {l : List (Addr × Sp)} (h : AltIs X E l) : ∀ {i : Nat}, l[i]? = some (C, sp) → AltI X C sp E := by
  induction h with
  | nil => intro i e; cases e
  | cons h _ ih =>
    intro i e
    cases i with
    | zero => cases e; exact h
    | succ i => exact ih (by simpa using e)
end
end Cl
/-! walking own objects: __iter__ says return iter(self.f), f a tuple -/
namespace Cl
open PySem PySem.Spec PyProof.Rows L2
/-- an iterator of the tuple at t, as it begins -/
def TiO (t it : Addr) : HO := .ext fun h => h.IsTupleIter it t 0
/-- what a class must have that its objects are walked by the tuple in the field f -/
structure IterF (P : Program) (w : World) (K : PySem.W.Frag) (mg : Str → Option Value) (base : Heap) (k : Nat) (C : Addr) (f : Str) : Prop where
  run : ∃ fi : Addr, PySem.W.findIn K (.ref C) "__iter__" = some (some (.ref fi)) ∧ PySem.W.isFn K (.ref fi) = true ∧
    ∀ (A : Around) (outer : List Env) (s : Shared) (H : Hp) (a dx t : Addr) (fs : List (Str × V)) (xs : List V), Room k A → Env0 P w K mg base A outer s H → H a = some (.ins C dx fs) → fs.lookup f = some (.ref t) → SqT K H t xs →
      codeAny (model P w) A (.call (.ref fi) ⟨[.ref a], []⟩) (CR (L2N.CX P w) outer P w H s (fun y H' => ∃ it, y = .ref it ∧ H it = none ∧ s.heap.objs.size ≤ it ∧ H' = upd H it (TiO t it)) E0) s
section
variable {X : Cx} {k : Nat} {C : Addr} {f : Str} {pins : List (Addr × Obj)} {σ : L2.St} {H : Hp} {s : Shared} {a dx t : Addr} {fs : List (Str × V)} {xs : List V}
/-- len's promise: so many, all stands -/
def spLen (C : Addr) (f : Str) : Sp := fun vs H Q _ => ∃ a dx fs t xs, vs = [.ref a] ∧ H a = some (.ins C dx fs) ∧ fs.lookup f = some (.ref t) ∧ H t = some (.tup xs) ∧ xs.length ≤ 1000000 ∧ Q (.int xs.length) H
end
end Cl
namespace Cl
open PySem PySem.Spec PyProof.Rows L2 Px
/-- a class whose objects are walked and counted by the tuple in the field f -/
def WalkC (X : Cx) (C : Addr) (f : Str) : Prop := ∃ (n : Nat) (fl : Addr), IterF X.prog X.w X.K X.mg X.base n C f ∧ OwnOp X.K C "__len__" fl ∧ FnR X.prog X.w X.K X.mg X.base (L2N.CX X.prog X.w) n fl (spLen C f) ∧ Room (n + 3) X.A
inductive WalkCs (X : Cx) : List (Addr × Str) → Prop
  | nil : WalkCs X []
  | cons {C : Addr} {f : Str} {l : List (Addr × Str)} : WalkC X C f → WalkCs X l → WalkCs X ((C, f) :: l)
section
variable {X : Cx} {l : List (Addr × Str)}
theorem WalkCs.at (h : WalkCs X l) : ∀ {i : Nat} {C : Addr} {f : Str}, l[i]? = some (C, f) → WalkC X C f := by
  induction h with
  | nil => intro i C f e; cases e
  | cons h _ ih =>
    intro i C f e
    cases i with
    | zero => cases e; exact h
    | succ i => exact ih (by simpa using e)
/-- x is an object of one of the classes, its tuple holds xs -/
def OwnT (l : List (Addr × Str)) (x : V) (H : Hp) (t : Addr) (xs : List V) : Prop := ∃ (i : Nat) (C : Addr) (f : Str) (a dx : Addr) (fs : List (Str × V)), l[i]? = some (C, f) ∧ x = .ref a ∧ H a = some (.ins C dx fs) ∧ fs.lookup f = some (.ref t) ∧ H t = some (.tup xs) ∧ xs.length ≤ 1000000
/-- for .. in x -/
def AnyB (K : PySem.W.Frag) (x : V) (H1 : Hp) (R : L2.It → Hp → Prop) : Prop := match x with
  | .str z => R (Its z) H1
  | .ref a => ((∃ xs, SqL K H1 a xs) ∧ R (Itl K a) H1) ∨ ((∃ xs, SqT K H1 a xs) ∧ R (Itt K a) H1)
  | _ => False
def iAnyO (K : PySem.W.Frag) (l : List (Addr × Str)) (te : TE) : TI := fun σ H R => te σ H fun x H1 => AnyB K x H1 R ∨ ∃ t xs, OwnT l x H1 t xs ∧ R (Itt K t) H1
end
end Cl
namespace Hk
open PySem PySem.W PySem.Spec PyProof.Rows L2 He
end Hk
namespace Px
open PySem PySem.Spec PyProof.Rows L2
section
variable {K : PySem.W.Frag} {l : List (Addr × Str)} {σ : L2.St} {H : Hp} {D : Ends} {Q : VK} {te ta tb : TE}
theorem s_opS {r : Cl.R2S} (h : ta σ H fun x H1 => tb σ H1 fun y H2 => r σ x y H2 Q) : Cl.tOpS r ta tb σ H Q := h
def ForBodyO (K : PySem.W.Frag) (l : List (Addr × Str)) (g : TG) (tb : TS) (D : Ends) (σ : L2.St) (x : V) (H1 : Hp) : Prop := ForBody K g tb D σ x H1 ∨ ∃ t xs, Cl.OwnT l x H1 t xs ∧ ForB (Itt K t) g tb D σ H1
theorem s_forO {g : TG} {tb : TS} (h : te σ H fun x H1 => ForBodyO K l g tb D σ x H1) : tFor (Cl.iAnyO K l te) g tb D σ H := h
def LcBodyO (K : PySem.W.Frag) (l : List (Addr × Str)) (g : TG) (tt : TT) (te : TE) (vs : List Nat) (σ : L2.St) (Q : VK) (x : V) (H1 : Hp) : Prop := LcBody K g tt te vs σ Q x H1 ∨ ∃ t xs, Cl.OwnT l x H1 t xs ∧ LcB (Itt K t) g tt te vs σ Q H1
theorem s_lcO {g : TG} {tt : TT} {te0 : TE} {vs : List Nat} (h : te0 σ H fun x H1 => LcBodyO K l g tt te vs σ Q x H1) : tLc (Cl.iAnyO K l te0) g tt te vs σ H Q := h
end
end Px
/-! methods of own objects: o.m(..), o(..), o[i], str(o); sep.join(..) -/
namespace Cl
open PySem PySem.Spec PySem.Calls PyProof.Rows L2 Px
/-- the class at C has the def m, which keeps the promise sp -/
structure OwnM (X : Cx) (m : Str) (E : L2.St → XK) (C : Addr) (sp : Sp) : Prop where
  cls : Cls X.K C
  ex : ∃ (CX : CXT) (k : Nat) (f : Addr), OwnOp X.K C m f ∧ PySem.W.keepIn X.K (.ref f) = true ∧ PySem.W.fnIn X.K f = true ∧ FnR X.prog X.w X.K X.mg X.base CX k f sp ∧ Room (k + 2) X.A ∧ ∀ σ, PassesAt CX X σ (E σ)
inductive OwnMs (X : Cx) (m : Str) (E : L2.St → XK) : List (Addr × Sp) → Prop
  | nil : OwnMs X m E []
  | cons {C : Addr} {sp : Sp} {l : List (Addr × Sp)} : OwnM X m E C sp → OwnMs X m E l → OwnMs X m E ((C, sp) :: l)
section
variable {X : Cx} {CX : CXT} {k : Nat} {f C : Addr} {sp : Sp} {E : L2.St → XK} {m : Str} {l : List (Addr × Sp)} {o e a b : Expr} {es : List Expr} {ta tb te : TE} {t : TA} {apos pos p : Pos} {x : Str}
theorem OwnMs.at (h : OwnMs X m E l) : ∀ {i : Nat} {C : Addr} {sp : Sp}, l[i]? = some (C, sp) → OwnM X m E C sp := by
  induction h with
  | nil => intro i C sp e; cases e
  | cons h _ ih =>
    intro i C sp e
    cases i with
    | zero => cases e; exact h
    | succ i => exact ih (by simpa using e)
/-- o.m(e, ..) -/
def tMethO (l : List (Addr × Sp)) (m : Str) (E : L2.St → XK) (ta : TE) (t : TA) : TE := fun σ H Q => ta σ H fun x H1 => ∃ (i : Nat) (C : Addr) (sp : Sp) (a dx : Addr) (fs : List (Str × V)), l[i]? = some (C, sp) ∧ x = .ref a ∧ H1 a = some (.ins C dx fs) ∧ fs.lookup m = none ∧ t σ H1 fun vs H2 => sp (.ref a :: vs) H2 Q (E σ)
/-- o(e, ..) -/
def tCallO (l : List (Addr × Sp)) (E : L2.St → XK) (ta : TE) (t : TA) : TE := fun σ H Q => ta σ H fun x H1 => ∃ a, x = .ref a ∧ t σ H1 fun vs H2 => ∃ (i : Nat) (C : Addr) (sp : Sp) (dx : Addr) (fs : List (Str × V)), l[i]? = some (C, sp) ∧ H2 a = some (.ins C dx fs) ∧ sp (.ref a :: vs) H2 Q (E σ)
end
end Cl
namespace Hk
open PySem PySem.Spec PySem.W PyProof.Rows L2 He
end Hk
namespace Px
open PySem PySem.Spec PyProof.Rows L2
section
variable {K : PySem.W.Frag} {σ : L2.St} {H : Hp} {Q : VK} {ta te : TE} {t : TA}
theorem s_methO {l : List (Addr × Sp)} {m : Str} {E : L2.St → XK} (h : ta σ H fun x H1 => ∃ (i : Nat) (C : Addr) (sp : Sp) (a dx : Addr) (fs : List (Str × V)), l[i]? = some (C, sp) ∧ x = .ref a ∧ H1 a = some (.ins C dx fs) ∧ fs.lookup m = none ∧ t σ H1 fun vs H2 => sp (.ref a :: vs) H2 Q (E σ)) : Cl.tMethO l m E ta t σ H Q := h
theorem s_callO {l : List (Addr × Sp)} {E : L2.St → XK} (h : ta σ H fun x H1 => ∃ a, x = .ref a ∧ t σ H1 fun vs H2 => ∃ (i : Nat) (C : Addr) (sp : Sp) (dx : Addr) (fs : List (Str × V)), l[i]? = some (C, sp) ∧ H2 a = some (.ins C dx fs) ∧ sp (.ref a :: vs) H2 Q (E σ)) : Cl.tCallO l E ta t σ H Q := h
theorem s_exr {a : Addr} {R : Addr → Prop} (h : R a) : ∃ b, (V.ref a = .ref b) ∧ R b := ⟨a, rfl, h⟩
theorem s_m1 {r : V → List V → Hp → VK → Prop} {z : Str} (h : te σ H fun y H2 => r (.str z) [y] H2 Q) : tM1 r (tC (.str z)) te σ H Q := ⟨⟨z, rfl⟩, h⟩
end
end Px
/-! C.m(e, ..), m a staticmethod of the class C -/
namespace Cl
open PySem PySem.Spec PySem.Calls PyProof.Rows L2 Px
structure SMet (K : PySem.W.Frag) (C : Addr) (m : Str) (p g : Addr) : Prop where
  rd : ClX.CRead K C (.type "type")
  at_ : PySem.W.findCls K (.ref C) (.type "type") m = some (.get (.builtin "staticmethod.__get__") (.ref p) .none (.ref C))
  rc : ∃ rest, PySem.W.recIn K p "staticmethod" = some (.ref g :: rest)
def tSMeth (C : Addr) (sp : Sp) (E : L2.St → XK) (ta : TE) (t : TA) : TE := fun σ H Q => ta σ H fun x H1 => x = .ref C ∧ t σ H1 fun vs H2 => sp vs H2 Q (E σ)
section
variable {X : Cx} {CX : CXT} {k : Nat} {C p g : Addr} {sp : Sp} {E : L2.St → XK} {o e : Expr} {es : List Expr} {m : Str} {pos apos : Pos} {ta : TE} {t : TA} {pl : Sem Bool}
end
end Cl
namespace Hk
open PySem PySem.Spec PySem.W PyProof.Rows L2 He
end Hk
namespace Px
open PySem PySem.Spec PyProof.Rows L2
theorem s_smeth {σ : L2.St} {H : Hp} {Q : VK} {C : Addr} {sp : Sp} {E : L2.St → XK} {t : TA} (h : t σ H fun vs H2 => sp vs H2 Q (E σ)) : Cl.tSMeth C sp E (tC (.ref C)) t σ H Q := ⟨rfl, h⟩
end Px
/-! defs called within an except suite, the handled exception one of their arguments -/
namespace L2H
open PySem PySem.Spec PyProof.Rows L2 HotX
/-- what such a def promises: a the exception's place, cls its class, d its dict -/
structure FnE (P : Program) (w : World) (K : PySem.W.Frag) (mg : Str → Option Value) (base : Heap) (CX : CXT) (k : Nat) (f : Addr) (fd : FuncData) (ps : List Str) (sp : Addr → Value → Option Addr → Sp) : Prop where
  len : ∀ a cls d vs H Q E, sp a cls d vs H Q E → vs.length = ps.length
  run : ∀ (A : Around) (outer : List Env) (s : Shared) (H : Hp) (args : Args) (us : List Value) (vs : List V) (Q : VK) (E : XK) (p : Addr × Obj) (cls : Value) (d : Option Addr), RoomH k A → Hot1 A p → Zc cls d p.2 → PinOk outer H s p → Env0 P w K mg base A outer s H → BindsTo s fd args (ps.zip us) → Vals vs us → sp p.1 cls d vs H Q E →
    codeAny (model P w) A (.call (.ref f) args) (CR CX outer P w H s Q E) s
section
variable {X : Cx} {CX : CXT} {k : Nat} {f a : Addr} {fd : FuncData} {ps : List Str} {sp : Addr → Value → Option Addr → Sp} {E : St → XK} {x : Str} {q pos : Pos} {e : Expr} {es : List Expr} {t : TA} {oe : Obj} {cls : Value} {d : Option Addr} {pn : List (Addr × Obj)}
end
end L2H
namespace L2
open PySem PySem.Spec PyProof.Rows
end L2
/-! defs with defaults, gcd, f-strings -/
namespace Cl
open PySem PySem.Spec PySem.Calls PyProof.Rows L2 Px
end Cl
namespace Hk
open PySem PySem.Spec PySem.W PyProof.Rows L2 He
end Hk
namespace Px
open PySem PySem.Spec PyProof.Rows L2
section
variable {σ : L2.St} {H : Hp} {Q : VK} {te : TE}
end
end Px
/-! operators of an own object and an int, on either side -/
namespace Cl
open PySem PySem.Spec PySem.Calls PySem.W PyProof.Rows L2 Px
section
variable {prog : Program} {w : World} {M : Model} {A : Around} {E : Value → Shared → Prop} {s : Shared} {K : PySem.W.Frag} {y C L f g : Addr} {h₀ : Heap} {m : Str → Option Value} {oy : Obj} {od : Option Obj}
/-- an int's method that says NotImplemented to an own object -/
def NoInt (B : Builtin) : Prop := ∀ (M : Model) (A : Around) (E : Value → Shared → Prop) (s : Shared) (y : Addr) (oy : Obj) (i : Int) (tk : Tok) (Q : Value → Shared → Prop), s.heap.get? y = some oy → oy.data = .plain → Q .notImplemented s → wpAny M A (B ⟨[.int i tk, .ref y], []⟩) (fun fin s' => ∃ v, fin = .done (.ret v) ∧ Q v s') E s
end
end Cl
namespace Cl
open PySem PySem.Spec PySem.Calls PyProof.Rows L2 Px
structure MixOp (K : PySem.W.Frag) (C : Addr) (op : Operator) (f g : Addr) : Prop where
  at_ : PySem.W.findIn K (.ref C) (PySem.dunder op.info.2) = some (some (.ref f))
  fn : PySem.W.isFn K (.ref f) = true
  sf : PySem.W.selfFirst K C = true
  rat : PySem.W.findIn K (.ref C) (dunderR op.info.2) = some (some (.ref g))
  rfn : PySem.W.isFn K (.ref g) = true
  i1 : ∃ fo, PySem.W.findIn K (.type "int") (PySem.dunder op.info.2) = some fo
  i2 : ∃ ro, PySem.W.findIn K (.type "int") (dunderR op.info.2) = some ro
  s1 : PySem.W.subIn K (.type "int") (.ref C) = some false
  s2 : PySem.W.subIn K (.ref C) (.type "int") = some false
  ni : ∃ cd, PySem.W.clsIn K C = some cd ∧ ∀ c ∈ cd.mro, PySem.W.findIn K c (dunderI op.info.2) = some none
structure IntOp (op : Operator) : Prop where
  fills : fillsNumberSlot (.type "int") op.info.2 = pure true
  ex : ∃ (id : String) (B : Builtin), NoInt B ∧ Slot "int" (PySem.dunder op.info.2) id ∧ entryFor table id = some B ∧ ∀ a b : Value, argsOk id ⟨[a, b], []⟩
/-- own op own, own op int; int op own -/
structure MixAt (X : Cx) (op : Operator) (E : L2.St → XK) (C : Addr) (sp spr : Sp) : Prop where
  fwd : ∀ (pins : List (Addr × Obj)) (s : Shared) (σ : L2.St) (H : Hp) (a dx : Addr) (fs : List (Str × V)) (y : V) (u : Value) (Q : VK), Inv X pins σ H s → H a = some (.ins C dx fs) → RelV y u → ((∃ b dy gs, y = .ref b ∧ H b = some (.ins C dy gs)) ∨ ∃ n, y = .int n) → sp [.ref a, y] H Q (E σ) →
    wpAny (model X.prog X.w) X.A (binaryOp1 op.info.2 (.ref a) u) (fun r s' => ∃ v, r = some v ∧ EP X pins σ Q v s') X.xe s
  bwd : ∀ (pins : List (Addr × Obj)) (s : Shared) (σ : L2.St) (H : Hp) (b dy : Addr) (gs : List (Str × V)) (n : Int) (tk : Tok) (Q : VK), Inv X pins σ H s → H b = some (.ins C dy gs) → spr [.ref b, .int n] H Q (E σ) →
    wpAny (model X.prog X.w) X.A (binaryOp1 op.info.2 (.int n tk) (.ref b)) (fun r s' => ∃ v, r = some v ∧ EP X pins σ Q v s') X.xe s
  ni : ∃ cd, PySem.W.clsIn X.K C = some cd ∧ ∀ c ∈ cd.mro, PySem.W.findIn X.K c (dunderI op.info.2) = some none
inductive Mixes (X : Cx) (op : Operator) (E : L2.St → XK) : List (Addr × Sp × Sp) → Prop
  | nil : Mixes X op E []
  | cons {C : Addr} {sp spr : Sp} {l : List (Addr × Sp × Sp)} : MixAt X op E C sp spr → Mixes X op E l → Mixes X op E ((C, sp, spr) :: l)
theorem Mixes.at {X : Cx} {op : Operator} {E : L2.St → XK} {l : List (Addr × Sp × Sp)} (h : Mixes X op E l) : ∀ {i : Nat} {C : Addr} {sp spr : Sp}, l[i]? = some (C, sp, spr) → MixAt X op E C sp spr := by
  induction h with
  | nil => intro i C sp spr e; cases e
  | cons h _ ih =>
    intro i C sp spr e
    cases i with
    | zero => cases e; exact h
    | succ i => exact ih (by simpa using e)
def tAugO (i : Nat) (te : TE) (r : R2S) : TS := fun D σ H => ∃ x, σ[i]? = some (some x) ∧ te σ H fun y H1 => r σ x y H1 fun z H2 => D.nx (σ.set i (some z)) H2
end Cl
namespace Hk
open PySem PySem.Spec PySem.W PyProof.Rows L2 He
end Hk
namespace Px
open PySem PySem.Spec PyProof.Rows L2
theorem s_augO {i : Nat} {te : TE} {r : Cl.R2S} {D : Ends} {σ : L2.St} {H : Hp} {v : V} (e : σ[i]? = some (some v)) (h : te σ H fun y H1 => r σ v y H1 fun z H2 => D.nx (σ.set i (some z)) H2) : Cl.tAugO i te r D σ H := ⟨v, e, h⟩
end Px
/-! comparisons of an own object and any value, on either side; -o, abs(o), bool(o) -/
namespace Cl
open PySem PySem.Spec PySem.Calls PySem.W PyProof.Rows L2 Px
section
variable {prog : Program} {w : World} {M : Model} {A : Around} {E : Value → Shared → Prop} {s : Shared} {K : PySem.W.Frag} {y C L f g : Addr} {h₀ : Heap} {m : Str → Option Value} {oy : Obj} {od : Option Obj}
end
end Cl
namespace Cl
open PySem PySem.Spec PySem.Calls PyProof.Rows L2 Px
structure CmpK (K : PySem.W.Frag) (C : Addr) (op : CmpOp) (f g : Addr) : Prop where
  at_ : PySem.W.findIn K (.ref C) (cmpInfo op).2.1 = some (some (.ref f))
  fn : PySem.W.isFn K (.ref f) = true
  rat : PySem.W.findIn K (.ref C) (cmpInfo op).2.2 = some (some (.ref g))
  rfn : PySem.W.isFn K (.ref g) = true
  sub : ∀ T ∈ (["int", "str", "tuple", "list"] : List String), PySem.W.subIn K (.type T) (.ref C) = some false ∧ PySem.W.subIn K (.ref C) (.type T) = some false
/-- what may stand beside an own object of the class C -/
inductive Beside (H : Hp) (C : Addr) : V → Prop
  | own {b dy : Addr} {gs : List (Str × V)} : H b = some (.ins C dy gs) → Beside H C (.ref b)
  | int (n : Int) : Beside H C (.int n)
  | str (z : Str) : Beside H C (.str z)
  | tup {b : Addr} {xs : List V} : H b = some (.tup xs) → Beside H C (.ref b)
  | lst {b : Addr} {xs : List V} : H b = some (.lst xs) → Beside H C (.ref b)
/-- what may stand left of it -/
inductive LeftOk : CmpOp → V → Prop
  | int {op : CmpOp} (n : Int) : LeftOk op (.int n)
  | str (z : Str) : LeftOk .Eq (.str z)
structure IntCmp (op : CmpOp) : Prop where
  ex : ∃ (id : String) (B : Builtin), NoInt B ∧ Slot "int" (cmpInfo op).2.1 id ∧ entryFor table id = some B ∧ ∀ a b : Value, argsOk id ⟨[a, b], []⟩
  hop : ∀ x y, compareOp op x y = richCompare op x y
structure CmpAt (X : Cx) (op : CmpOp) (E : L2.St → XK) (C : Addr) (sp spr : Sp) : Prop where
  fwd : ∀ (pins : List (Addr × Obj)) (s : Shared) (σ : L2.St) (H : Hp) (a dx : Addr) (fs : List (Str × V)) (y : V) (u : Value) (Q : VK), Inv X pins σ H s → H a = some (.ins C dx fs) → RelV y u → Beside H C y → sp [.ref a, y] H Q (E σ) →
    wpAny (model X.prog X.w) X.A (compareOp op (.ref a) u) (EP X pins σ Q) X.xe s
  bwd : ∀ (pins : List (Addr × Obj)) (s : Shared) (σ : L2.St) (H : Hp) (b dy : Addr) (gs : List (Str × V)) (x : V) (u : Value) (Q : VK), Inv X pins σ H s → H b = some (.ins C dy gs) → RelV x u → LeftOk op x → spr [.ref b, x] H Q (E σ) →
    wpAny (model X.prog X.w) X.A (compareOp op u (.ref b)) (EP X pins σ Q) X.xe s
inductive CmpAts (X : Cx) (op : CmpOp) (E : L2.St → XK) : List (Addr × Sp × Sp) → Prop
  | nil : CmpAts X op E []
  | cons {C : Addr} {sp spr : Sp} {l : List (Addr × Sp × Sp)} : CmpAt X op E C sp spr → CmpAts X op E l → CmpAts X op E ((C, sp, spr) :: l)
theorem CmpAts.at {X : Cx} {op : CmpOp} {E : L2.St → XK} {l : List (Addr × Sp × Sp)} (h : CmpAts X op E l) : ∀ {i : Nat} {C : Addr} {sp spr : Sp}, l[i]? = some (C, sp, spr) → CmpAt X op E C sp spr := by
  induction h with
  | nil => intro i C sp spr e; cases e
  | cons h _ ih =>
    intro i C sp spr e
    cases i with
    | zero => cases e; exact h
    | succ i => exact ih (by simpa using e)
section
variable {X : Cx} {l : List (Addr × Sp)}
end
end Cl
namespace Hk
open PySem PySem.Spec PySem.W PyProof.Rows L2 He
end Hk
/-! dicts with number keys: list(d.values()), walks under the lock, comprehensions with two fors -/
namespace Cl
open PySem PySem.Spec PyProof.Rows L2 Px
/-- list(e.values()) -/
def tListVals (te : TE) : TE := fun σ H Q => te σ H fun x H1 => ∃ d kvs, x = .ref d ∧ H1 d = some (.dK kvs) ∧ ∀ q, H1 q = none → Q (.ref q) (upd H1 q (.lst (kvs.map Prod.snd)))
section
variable {X : Cx} {e : Expr} {te : TE} {p apos cpos pos : Pos}
end
end Cl
namespace Px
open PySem PySem.Spec PyProof.Rows L2
section
variable {K : PySem.W.Frag} {σ : L2.St} {H H1 : Hp} {D : Ends} {Q : VK} {te td : TE} {d : Addr} {kvs : List (Key × V)}
theorem s_listV (h : te σ H fun x H1 => ∃ d kvs, x = .ref d ∧ H1 d = some (.dK kvs) ∧ ∀ q, H1 q = none → Q (.ref q) (upd H1 q (.lst (kvs.map Prod.snd)))) : Cl.tListVals te σ H Q := h
theorem s_dget {ty : TE} (h : td σ H fun x H1 => ty σ H1 fun y H2 => ∃ a v, x = .ref a ∧ DGet H2 a y (some v) ∧ Q v H2) : tDGet td ty σ H Q := h
/-- the heap while d is locked -/
@[reducible] def lk (H : Hp) (d : Addr) (od : Obj) (kvs : List (Key × V)) : Hp := upd H d (.frz od (.dK kvs))
/-- [..] over two fors -/
def L2B (g : TG) (tt : TT) (wi1 : TI) (g1 : TG) (tt1 : TT) (te : TE) (vs vs1 : List Nat) (σ : L2.St) (Q : VK) : L2.It → Hp → Prop := fun J H1 => ∀ D, H1 D = none → ∃ W : Nat → Nat → Hp → Prop, (∃ m, W 0 m (upd H1 D (.lst []))) ∧ ∀ i m H, W i m H →
  (J.stop i H ∧ Q (.ref D) H) ∨ (J.go i H ∧ ∃ Nx : Hp → Prop, (∀ H', Nx H' → ∃ m', m' < m ∧ W (i + 1) m' H') ∧ ∀ x H', J.yld i H x H' → g x (wipe σ vs) H' fun σ2 H2 => wipe σ2 vs = wipe σ vs ∧ tt σ2 H2 fun b H3 =>
    if b = true then wi1 σ2 H3 fun J1 H4 => ∃ W1 : Nat → Nat → Hp → Prop, (∃ m, W1 0 m H4) ∧ ∀ j k H, W1 j k H →
      (J1.stop j H ∧ Nx H) ∨ (J1.go j H ∧ ∃ Nx1 : Hp → Prop, (∀ H', Nx1 H' → ∃ k', k' < k ∧ W1 (j + 1) k' H') ∧ ∀ x H', J1.yld j H x H' → g1 x (wipe σ2 vs1) H' fun σ3 H5 => wipe σ3 vs1 = wipe σ2 vs1 ∧ tt1 σ3 H5 fun b H6 =>
        if b = true then te σ3 H6 fun y H7 => ∃ acc, H7 D = some (.lst acc) ∧ acc.length < sizeLine ∧ Nx1 (upd H7 D (.lst (acc ++ [y]))) else Nx1 H6)
    else Nx H3)
end
end Px
/-! __init__(self, *v, k = d, ..): C(*e), C(*e, k = v, ..) -/
namespace Cl
open PySem PySem.Spec PySem.Calls PyProof.Rows L2 Px
section
variable {M : Model} {A : Around} {E : Value → Shared → Prop} {s : Shared} {K : PySem.W.Frag}
/-- t looks names up in the dict at D, then goes on as r -/
def KwTo {α : Type} (D : Addr) : List (Str × Value) → Sem α → Sem α → Prop
  | [], t, r => t = r
  | q :: l, t, r => ∃ (β γ : Type) (k1 : Option Value → Sem β) (k2 : β → Sem γ) (k3 : γ → Sem α) (a : β), t = ((nsGet D q.1 >>= k1) >>= k2) >>= k3 ∧ k1 (some q.2) = pure a ∧ KwTo D l (k2 a >>= k3) r
theorem KwTo.run {α : Type} {D : Addr} {Q : α → Shared → Prop} {r : Sem α} (X : K.In s.heap) : ∀ {l : List (Str × Value)} {t : Sem α}, (∀ q ∈ l, PySem.W.nsIn K D q.1 = some (some q.2)) → KwTo D l t r → wpAny M A r Q E s → wpAny M A t Q E s
  | [], t, _, e, h => by rw [show t = r from e]; exact h
  | q :: l, t, hl, e, h => by
    obtain ⟨β, γ, k1, k2, k3, a, e1, e2, e3⟩ := e
    have l1 : PySem.W.Looks M s.heap (nsGet D q.1 >>= k1) a := (PySem.W.looks_nsIn X (hl q List.mem_cons_self)).andThen (PySem.W.Looks.of_pure e2)
    rw [e1, bind_assoc]
    exact wpAny_bind (l1.here (KwTo.run X (fun p hp => hl p (List.mem_cons_of_mem _ hp)) e3 h))
end
section
variable {P : Program} {w : World} {K : PySem.W.Frag} {mg : Str → Option Value} {base : Heap} {x qual pv p1 : Str} {params : Arguments} {body : List Stmt} {scope : Scope} {kws : List (Str × V)} {f : Addr} {fd : FuncData} {N : List Str} {k : Nat} {sp : Sp}
end
section
variable {X : Cx} {CX : CXT} {k : Nat} {f C : Addr} {ks : List Str} {spK : List V → Sp} {E : L2.St → XK} {x : Str} {e : Expr} {te : TE} {tk : TA} {p pos sp_ : Pos} {kws : List Keyword}
/-- C(*e, k = v, ..) -/
def tMakeSK (K : PySem.W.Frag) (C : Addr) (m : Nat) (spK : List V → Sp) (E : L2.St → XK) (te : TE) (tk : TA) : TE := fun σ H Q => te σ H fun y H1 => tk σ H1 fun zs H2 => ∃ a xs, y = .ref a ∧ zs.length = m ∧ (SqT K H2 a xs ∨ SqL K H2 a xs) ∧ ∀ x dx, H2 x = none → H2 dx = none → dx ≠ x →
  spK zs (V.ref x :: xs) (upd (upd H2 dx (.own x)) x (.ins C dx [])) (fun v H3 => v = .non ∧ Q (.ref x) H3) (E σ)
end
end Cl
/-! own objects walked by the dict in a field: __iter__ says return iter(self.f) -/
namespace Cl
open PySem PySem.Spec PyProof.Rows L2 Px
/-- an iterator of the locked dict at d, as it begins -/
def KiO (d it : Addr) (n : Nat) (od : Obj) : HO := .ext fun h => ∃ es ep, od.data = .dict es ep ∧ h.IsKeyIter it d 0 n ep
/-- what a class must have that its objects are walked by the dict in the field f -/
structure IterK (P : Program) (w : World) (K : PySem.W.Frag) (mg : Str → Option Value) (base : Heap) (k : Nat) (C : Addr) (f : Str) : Prop where
  run : ∃ fi : Addr, PySem.W.findIn K (.ref C) "__iter__" = some (some (.ref fi)) ∧ PySem.W.isFn K (.ref fi) = true ∧
    ∀ (A : Around) (outer : List Env) (s : Shared) (H : Hp) (a dx d : Addr) (fs : List (Str × V)) (kvs : List (Key × V)) (od : Obj), Room k A → Env0 P w K mg base A outer s H → H a = some (.ins C dx fs) → fs.lookup f = some (.ref d) → H d = some (.frz od (.dK kvs)) →
      codeAny (model P w) A (.call (.ref fi) ⟨[.ref a], []⟩) (CR (L2N.CX P w) outer P w H s (fun y H' => ∃ it, y = .ref it ∧ H it = none ∧ s.heap.objs.size ≤ it ∧ H' = upd H it (KiO d it kvs.length od)) E0) s
section
variable {X : Cx} {k : Nat} {C : Addr} {f : Str} {pins : List (Addr × Obj)} {σ : L2.St} {H : Hp} {s : Shared} {a dx d : Addr} {fs : List (Str × V)} {kvs : List (Key × V)} {od : Obj}
/-- len's promise: so many, all stands -/
def spLenK (C : Addr) (f : Str) : Sp := fun vs H Q _ => ∃ a dx fs d kvs, vs = [.ref a] ∧ H a = some (.ins C dx fs) ∧ fs.lookup f = some (.ref d) ∧ Rd H d (.dK kvs) ∧ kvs.length ≤ 1000000 ∧ Q (.int kvs.length) H
end
/-- a class whose objects are walked and counted by the dict in the field f -/
def WalkK (X : Cx) (C : Addr) (f : Str) : Prop := ∃ (n : Nat) (fl : Addr), IterK X.prog X.w X.K X.mg X.base n C f ∧ OwnOp X.K C "__len__" fl ∧ FnR X.prog X.w X.K X.mg X.base (L2N.CX X.prog X.w) n fl (spLenK C f) ∧ Room (n + 3) X.A
inductive WalkKs (X : Cx) : List (Addr × Str) → Prop
  | nil : WalkKs X []
  | cons {C : Addr} {f : Str} {l : List (Addr × Str)} : WalkK X C f → WalkKs X l → WalkKs X ((C, f) :: l)
section
variable {X : Cx} {l : List (Addr × Str)}
theorem WalkKs.at (h : WalkKs X l) : ∀ {i : Nat} {C : Addr} {f : Str}, l[i]? = some (C, f) → WalkK X C f := by
  induction h with
  | nil => intro i C f e; cases e
  | cons h _ ih =>
    intro i C f e
    cases i with
    | zero => cases e; exact h
    | succ i => exact ih (by simpa using e)
end
end Cl
/-! zip(a list, a tuple) -/
namespace ZiX
open PySem
section
variable {prog : Program} {w : World}
/-- an iterator it over the object l: St i tells that it stands at the i-th of xs -/
structure Walk1 (prog : Program) (w : World) (it l : Addr) (xs : Array Value) (St : Nat → Heap → Prop) : Prop where
  item : ∀ (A : Around) (E : Value → Shared → Prop) (s : Shared) (i : Nat) (x : Value) (Q : Value → Shared → Prop), St i s.heap → xs[i]? = some x → (∀ h', St (i + 1) h' → Heap.SameBut it s.heap h' → Q x { s with heap := h' }) → wpAny (model prog w) A (Builtin.SmallTypes.nextOf (.ref it)) Q E s
  fin : ∀ (A : Around) (E : Value → Shared → Prop) (s : Shared) (i : Nat) (Q : Value → Shared → Prop), A.handled = none → St i s.heap → xs[i]? = none → (∀ h' e, Heap.ExtBut it s.heap h' → (∃ o, h'.get? e = some o ∧ o.cls = .type "StopIteration") → E (.ref e) { s with heap := h' }) → wpAny (model prog w) A (Builtin.SmallTypes.nextOf (.ref it)) Q E s
  keep : ∀ i h h', St i h → (∀ o, h.get? it = some o → h'.get? it = some o) → (∀ o, h.get? l = some o → h'.get? l = some o) → St i h'
variable {A : Around} {E : Value → Shared → Prop} {s : Shared} {z TI TO i1 i2 l1 l2 : Addr} {xs ys : Array Value} {S1 S2 : Nat → Heap → Prop}
end
/-- the heaps that zip(a list, a tuple) goes through -/
def g1 (h : Heap) (l : Addr) : Heap := h.push { cls := .type "list_iterator", data := .fields #[.ref l, .int 0 0] }
def g2 (h : Heap) (l m : Addr) : Heap := (g1 h l).push { cls := .type "tuple_iterator", data := .fields #[.ref m, .int 0 0] }
def g3 (h : Heap) (l m : Addr) : Heap := (g2 h l m).push { cls := .type "tuple", data := .seq #[.ref h.objs.size, .ref (g1 h l).objs.size] }
def g4 (h : Heap) (l m : Addr) : Heap := (g3 h l m).push { cls := .type "tuple", data := .seq #[.none, .none] }
def g5 (h : Heap) (l m : Addr) : Heap := (g4 h l m).push { cls := .type "zip", data := .fields #[.none, .bool false, .bool false, .ref (g2 h l m).objs.size, .ref (g3 h l m).objs.size] }
end ZiX
namespace ZiX
open PySem PySem.Spec PyProof.Rows L2
section
variable {prog : Program} {w : World} {A : Around} {E : Value → Shared → Prop} {s : Shared}
end
end ZiX
/-! own in-place operators; o[i] = v by __setitem__; o.f op= e -/
namespace Cl
open PySem PySem.Spec PySem.Calls PyProof.Rows L2 Px
section
variable {X : Cx} {CX : CXT} {k : Nat} {f C : Addr} {sp : Sp} {E : L2.St → XK}
def AltN (X : Cx) (op : Operator) (C : Addr) (sp : Sp) (E : L2.St → XK) : Prop := ∀ (pins : List (Addr × Obj)) (s : Shared) (σ : L2.St) (H : Hp) (a dx : Addr) (fs : List (Str × V)) (y : V) (u : Value) (Q : VK), Inv X pins σ H s → H a = some (.ins C dx fs) → RelV y u → sp [.ref a, y] H Q (E σ) →
  wpAny (model X.prog X.w) X.A (inplaceOp op (.ref a) u) (EP X pins σ Q) X.xe s
inductive AltNs (X : Cx) (op : Operator) (E : L2.St → XK) : List (Addr × Sp) → Prop
  | nil : AltNs X op E []
  | cons {C : Addr} {sp : Sp} {l : List (Addr × Sp)} : AltN X op C sp E → AltNs X op E l → AltNs X op E ((C, sp) :: l)
theorem AltNs.at {op : Operator} {l : List (Addr × Sp)} (h : AltNs X op E l) : ∀ {i : Nat} {C : Addr} {sp : Sp}, l[i]? = some (C, sp) → AltN X op C sp E := by
  induction h with
  | nil => intro i C sp e; cases e
  | cons h _ ih =>
    intro i C sp e
    cases i with
    | zero => cases e; exact h
    | succ i => exact ih (by simpa using e)
/-- o[i] = v -/
def gSubO (to ti : TE) (ts : L2.St → TSet) : TG := fun v σ H Q => to σ H fun o H1 => ti σ H1 fun i H2 => ts σ o i v H2 fun H3 => Q σ H3
def AltS (X : Cx) (C : Addr) (sp : Sp) (E : L2.St → XK) : Prop := ∀ (pins : List (Addr × Obj)) (s : Shared) (σ : L2.St) (H : Hp) (a dx : Addr) (fs : List (Str × V)) (y z : V) (u w : Value) (Q : Hp → Prop), Inv X pins σ H s → H a = some (.ins C dx fs) → RelV y u → RelV z w → sp [.ref a, y, z] H (fun _ H' => Q H') (E σ) →
  wpAny (model X.prog X.w) X.A (setItem (.ref a) u w) (fun _ s' => ∃ H', Inv X pins σ H' s' ∧ Q H') X.xe s
inductive AltSs (X : Cx) (E : L2.St → XK) : List (Addr × Sp) → Prop
  | nil : AltSs X E []
  | cons {C : Addr} {sp : Sp} {l : List (Addr × Sp)} : AltS X C sp E → AltSs X E l → AltSs X E ((C, sp) :: l)
theorem AltSs.at {l : List (Addr × Sp)} (h : AltSs X E l) : ∀ {i : Nat} {C : Addr} {sp : Sp}, l[i]? = some (C, sp) → AltS X C sp E := by
  induction h with
  | nil => intro i C sp e; cases e
  | cons h _ ih =>
    intro i C sp e
    cases i with
    | zero => cases e; exact h
    | succ i => exact ih (by simpa using e)
/-- o.f op= e, by o's class -/
def sAttA (l : List Addr) (ta tv : TE) (rd : R2) (f : Str) : TS := fun D σ H => ta σ H fun x H1 => ∃ a C dx fs v, x = .ref a ∧ C ∈ l ∧ H1 a = some (.ins C dx fs) ∧ fs.lookup f = some v ∧ tv σ H1 fun y H2 => rd v y H2 fun z H3 => ∃ dx' fs', H3 a = some (.ins C dx' fs') ∧ fs'.length < 1000 ∧ D.nx σ (upd H3 a (.ins C dx' (putF f z fs')))
end
end Cl
namespace Hk
open PySem PySem.Spec PySem.W PyProof.Rows L2 He
end Hk
namespace Px
open PySem PySem.Spec PyProof.Rows L2
section
variable {σ : L2.St} {H : Hp} {D : Ends} {v : V} {QS : L2.St → Hp → Prop} {ta tv td ty : TE}
theorem s_gsubO {to ti : TE} {ts : L2.St → TSet} (h : to σ H fun o H1 => ti σ H1 fun i H2 => ts σ o i v H2 fun H3 => QS σ H3) : Cl.gSubO to ti ts v σ H QS := h
theorem s_attA {l : List Addr} {rd : R2} {f : Str} (h : ta σ H fun x H1 => ∃ a C dx fs v, x = .ref a ∧ C ∈ l ∧ H1 a = some (.ins C dx fs) ∧ fs.lookup f = some v ∧ tv σ H1 fun y H2 => rd v y H2 fun z H3 => ∃ dx' fs', H3 a = some (.ins C dx' fs') ∧ fs'.length < 1000 ∧ D.nx σ (upd H3 a (.ins C dx' (putF f z fs')))) : Cl.sAttA l ta tv rd f D σ H := h
theorem s_ddel (h : td σ H fun x H1 => ty σ H1 fun y H2 => ∃ a kvs k, x = .ref a ∧ H2 a = some (.dK kvs) ∧ y = kV k ∧ (valV kvs k).isSome = true ∧ D.nx σ (upd H2 a (.dK (dropK kvs k)))) : sDDel td ty D σ H := h
end
end Px
/-! the alternatives by classes, answered by membership -/
namespace Px
open PySem PySem.Spec PyProof.Rows L2
section
variable {K : PySem.W.Frag} {σ : L2.St} {H : Hp} {Q : VK} {C a dx : Addr} {fs : List (Str × V)} {sp spr : Sp} {E : L2.St → XK} {y : V}
theorem s_lstRg2 {ta tb : TE} (h : ta σ H fun x H1 => tb σ H1 fun y H2 => ∃ i j, x = .int i ∧ y = .int j ∧ RgOk i j ∧ ∀ q, H2 q = none → Q (.ref q) (upd H2 q (.lst (rgV i j)))) : tLstRg (tRg2 ta tb) σ H Q := h
theorem s_lstRg1 {ta : TE} (h : ta σ H fun x H1 => ∃ n, x = .int n ∧ RgOk 0 n ∧ ∀ q, H1 q = none → Q (.ref q) (upd H1 q (.lst (rgV 0 n)))) : tLstRg (tRg1 ta) σ H Q := h
theorem s_makeK {m : Nat} {spK : List V → Sp} {te : TE} {tk : TA} (h : te σ H fun y H1 => tk σ H1 fun zs H2 => ∃ a xs, y = .ref a ∧ zs.length = m ∧ (SqT K H2 a xs ∨ SqL K H2 a xs) ∧ ∀ x dx, H2 x = none → H2 dx = none → dx ≠ x → spK zs (V.ref x :: xs) (upd (upd H2 dx (.own x)) x (.ins C dx [])) (fun v H3 => v = .non ∧ Q (.ref x) H3) (E σ)) : Cl.tMakeSK K C m spK E te tk σ H Q := h
theorem s_lc2 {te0 te : TE} {g g1 : TG} {tt tt1 : TT} {wi1 : TI} {vs vs1 : List Nat} (h : te0 σ H fun x H1 => Cl.AnyB K x H1 (L2B g tt wi1 g1 tt1 te vs vs1 σ Q)) : tLc2 (iAnyP K te0) g tt wi1 g1 tt1 te vs vs1 σ H Q := h
theorem s_anyB {te0 : TE} {R : L2.It → Hp → Prop} (h : te0 σ H fun x H1 => Cl.AnyB K x H1 R) : iAnyP K te0 σ H R := h
end
end Px
/-! classmethods: C.m(..); inside one: cls(), cls.f -/
namespace Cl
open PySem PySem.Spec PySem.Calls PyProof.Rows L2 Px
/-- C.m(e, ..), m a classmethod of the class at C -/
def tCMethS (C : Addr) (sp : Sp) (E : L2.St → XK) (ta : TE) (t : TA) : TE := fun σ H Q => ta σ H fun x H1 => x = .ref C ∧ t σ H1 fun vs H2 => sp (.ref C :: vs) H2 Q (E σ)
/-- v(), v the class at C -/
def tMakeV (C : Addr) (sp : Sp) (E : L2.St → XK) (ta : TE) : TE := fun σ H Q => ta σ H fun y H1 => y = .ref C ∧ ∀ x dx, H1 x = none → H1 dx = none → dx ≠ x → sp [V.ref x] (upd (upd H1 dx (.own x)) x (.ins C dx [])) (fun v H2 => v = .non ∧ Q (.ref x) H2) (E σ)
/-- v.f, v the class at C, f a constant of it -/
def tClsV (C : Addr) (v : V) (ta : TE) : TE := fun σ H Q => ta σ H fun y H1 => y = .ref C ∧ Q v H1
section
variable {X : Cx} {CX : CXT} {k : Nat} {C p g : Addr} {mc : Value} {sp : Sp} {E : L2.St → XK} {o e : Expr} {es : List Expr} {f m : Str} {pos apos : Pos} {ta : TE} {t : TA} {pl : Sem Bool}
end
end Cl
namespace Hk
open PySem PySem.Spec PySem.W PyProof.Rows L2 He
end Hk
namespace Px
open PySem PySem.Spec PyProof.Rows L2
theorem s_cmeth {σ : L2.St} {H : Hp} {Q : VK} {C : Addr} {sp : Sp} {E : L2.St → XK} {t : TA} (h : t σ H fun vs H2 => sp (.ref C :: vs) H2 Q (E σ)) : Cl.tCMethS C sp E (tC (.ref C)) t σ H Q := ⟨rfl, h⟩
theorem s_makeV {σ : L2.St} {H : Hp} {Q : VK} {C : Addr} {sp : Sp} {E : L2.St → XK} {ta : TE} (h : ta σ H fun y H1 => y = .ref C ∧ ∀ x dx, H1 x = none → H1 dx = none → dx ≠ x → sp [V.ref x] (upd (upd H1 dx (.own x)) x (.ins C dx [])) (fun v H2 => v = .non ∧ Q (.ref x) H2) (E σ)) : Cl.tMakeV C sp E ta σ H Q := h
theorem s_clsV {σ : L2.St} {H : Hp} {Q : VK} {C : Addr} {v : V} {ta : TE} (h : ta σ H fun y H1 => y = .ref C ∧ Q v H1) : Cl.tClsV C v ta σ H Q := h
end Px
/-! a list times an int; walks over own objects by the dict in a field; a locked statement that may raise -/
namespace Cl
open PySem PySem.Spec PyProof.Rows L2 Px
section
variable {X : Cx} {l : List (Addr × Str)}
end
section
variable {X : Cx} {W : WX}
end
end Cl
namespace Cl
open PySem PySem.Spec PyProof.Rows L2 Px
/-- two own classes that both have the method, neither has the reflected one -/
structure PairOp (K : PySem.W.Frag) (C D : Addr) (op : Operator) (f g : Addr) : Prop where
  l : OwnOp K C (PySem.dunder op.info.2) f
  r : OwnOp K D (PySem.dunder op.info.2) g
  lr : PySem.W.findIn K (.ref C) (dunderR op.info.2) = some none
  rr : PySem.W.findIn K (.ref D) (dunderR op.info.2) = some none
  sub : PySem.W.subIn K (.ref D) (.ref C) = some false
  ne : C ≠ D
section
open PySem.W
variable {K : PySem.W.Frag} {h₀ : Heap} {L : Addr} {s : Shared} {m : Str → Option Value} {A : Around} {E : Value → Shared → Prop} {x y C D f g : Addr} {ox oy : Obj} {od od' : Option Obj} {prog : Program} {w : World}
end
section
variable {X : Cx} {CX : CXT} {k : Nat} {f g C D : Addr} {sp : Sp} {E : L2.St → XK}
def AltP (X : Cx) (F : Value → Value → Sem Value) (C D : Addr) (sp : Sp) (E : L2.St → XK) : Prop := ∀ (pins : List (Addr × Obj)) (s : Shared) (σ : L2.St) (H : Hp) (a b dx dy : Addr) (fs gs : List (Str × V)) (Q : VK), Inv X pins σ H s → H a = some (.ins C dx fs) → H b = some (.ins D dy gs) → sp [.ref a, .ref b] H Q (E σ) →
  wpAny (model X.prog X.w) X.A (F (.ref a) (.ref b)) (EP X pins σ Q) X.xe s
inductive AltPs (X : Cx) (F : Value → Value → Sem Value) (E : L2.St → XK) : List (Addr × Addr × Sp) → Prop
  | nil : AltPs X F E []
  | cons {C D : Addr} {sp : Sp} {l : List (Addr × Addr × Sp)} : AltP X F C D sp E → AltPs X F E l → AltPs X F E ((C, D, sp) :: l)
theorem AltPs.at {F : Value → Value → Sem Value} {l : List (Addr × Addr × Sp)} (h : AltPs X F E l) (hm : (C, D, sp) ∈ l) : AltP X F C D sp E := by
  induction h with
  | nil => cases hm
  | cons h _ ih =>
    rcases List.mem_cons.mp hm with e | hm
    · cases e; exact h
    · exact ih hm
end
end Cl
namespace Hk
open PySem PySem.W PySem.Spec PyProof.Rows L2 He
end Hk
/-! a default that is an empty tuple -/
namespace Hk
open PySem PySem.W PySem.Spec PyProof.Rows L2 He
end Hk
namespace Cl
open PySem PySem.Spec PyProof.Rows L2 Px
end Cl
/-! x.upper() of a text; a loop over a list or a tuple -/
namespace Cl
open PySem PySem.Spec PyProof.Rows L2 Px
theorem forb_seq {K : PySem.W.Frag} {D : Ends} {σ : L2.St} {H : Hp} {xs : List V} {g : TG} {tb : TS} {a : Addr} (Pv : Nat → L2.St → Hp → Prop) (h0 : Pv 0 σ H) (hy : (∀ i σ H, i ≤ xs.length → Pv i σ H → SqL K H a xs) ∨ (∀ i σ H, i ≤ xs.length → Pv i σ H → SqT K H a xs))
    (hs : ∀ i y σ H, xs[i]? = some y → Pv i σ H → g y σ H fun σ2 H2 => tb { D with nx := Pv (i + 1), ct := Pv (i + 1), bk := D.nx } σ2 H2) (hd : ∀ σ H, Pv xs.length σ H → D.nx σ H) : ForBody K g tb D σ (.ref a) H := by
  rcases hy with hy | hy
  · exact forb_list Pv h0 hy hs hd
  · exact forb_tup Pv h0 hy hs hd
end Cl
/-! x[lo:hi:step] of a list -/
namespace Cl
open PySem PySem.Spec PyProof.Rows L2 Px
section
variable {X : Cx} {e : Expr} {te : TE} {lo hi : Option Expr} {st : Expr} {tl tu ts : TO} {p3 pos : Pos}
end
end Cl
/-! max, min of two ints -/
namespace Px
open PySem PySem.Spec PyProof.Rows L2
end Px
namespace Cl
open PySem PySem.Spec PySem.Calls PyProof.Rows L2 Px
end Cl
/-! TxX: x.split(y); a list of texts, one of them by x.replace(..) -/
namespace Cl
open PySem PySem.Spec PyProof.Rows L2 Px
section
variable {X : Cx} {o e f : Expr} {es : List Expr} {to te tf : TE} {t : TA} {apos pos p : Pos}
end
end Cl
namespace Cl
open PySem PySem.Spec PyProof.Rows L2 Px
section
variable {X : Cx} {o ie l : Expr} {body orelse : List Stmt} {to ti tl : TE} {apos pos p : Pos}
end
end Cl
namespace Px
open PySem PySem.Spec PyProof.Rows L2
/-- l.insert(i, y) -/
def rInsP : V → List V → Hp → VK → Prop := fun x vs H Q => match x, vs with
  | .ref l, [.int i, y] => ∃ xs : List V, H l = some (.lst xs) ∧ xs.length < sizeLine ∧ 0 ≤ i ∧ i < 2 ^ 63 ∧ Q .non (upd H l (.lst (xs.take i.toNat ++ [y] ++ xs.drop i.toNat)))
  | _, _ => False
theorem mt_insertP {X : Cx} : MtR X "list.insert" rInsP := by
  intro pins s σ H x vs v us Q I rx rv h
  match x, vs, h with
  | .ref l, [.int i, y], ⟨xs, h1, h2, h3, h4, q⟩ => exact mt_insert pins s σ H _ _ v us Q I rx rv ⟨l, xs, i, y, rfl, rfl, h1, h2, h3, h4, q⟩
end Px
namespace Cl
open PySem PySem.Spec PyProof.Rows L2 Px
section
variable {X : Cx} {o e : Expr} {to te : TE} {apos pos : Pos}
end
end Cl
/-! while an exception is handled: a list's end, all, comprehensions over ranges -/
namespace HotX
open PySem PySem.Spec PyProof.Rows
section
variable {prog : Program} {w : World} {A : Around} {E : Value → Shared → Prop} {s : Shared}
theorem pyNext_list_end_hot {it l x1 : Addr} {i : Nat} {items : Array Value} {Q : Option Value → Shared → Prop} (hot : HotAt A x1 s.heap) (hne : x1 ≠ it) (hit : s.heap.IsListIter it l i) (hl : s.heap.IsList l items) (hx : items[i]? = none)
    (hQ : ∀ h', Heap.ExtBut it s.heap h' → Q none { s with heap := h' }) : wpAny (model prog w) A (pyNext (.ref it)) Q E s := by
  obtain ⟨hh, o1, vs1, h1, d1, c1⟩ := hot
  obtain ⟨o, ho, hc, hd⟩ := id hit
  obtain ⟨ol, hol, _, nl, hdl⟩ := hl
  unfold pyNext
  refine wpAny_bind (wpAny_attempt (wpAny_callSpecial?_slot (name := Str.ofString "__next__") hit.typeIs slot_listiter_next
    (wpAny_call_entry slot_listiter_next hit.typeIs entry_listiter_next ?_ (args_listiter_next _))))
  show wpAny _ _ (field (.ref it) 0 >>= _) _ _ s
  refine wpAny_bind (wpAny_field ho hd (x := .ref l) rfl ?_)
  show wpAny _ _ (if (Value.ref l == Value.none) = true then _ else _) _ _ s
  rw [if_neg (show ¬ ((Value.ref l == Value.none) = true) from Bool.false_ne_true)]
  show wpAny _ _ (field (.ref it) 1 >>= _) _ _ s
  refine wpAny_bind (wpAny_field ho hd (x := .int i 0) rfl ?_)
  show wpAny _ _ (seqItems? (.ref l) >>= _) _ _ s
  refine wpAny_bind (wpAny_seqItems hol hdl ?_)
  simp only [Int.toNat_natCast, hx]
  refine wpAny_bind (wpAny_rule (wpAny_bind (wpAny_setField ho hd (by simp) ?_)))
  show wpAny _ _ (newExc (.type "StopIteration") [] >>= _) _ _ _
  refine wpAny_bind ?_
  simp only [newExc, newTuple]
  refine wpAny_bind (wpAny_newObj_type ?_ (by size_fits))
  refine wpAny_bind (m := firstArgMember _ _) (wpAny_of_eq (a := Value.none) (by first | rfl | (simp only [firstArgMember]; rfl)) ?_)
  refine wpAny_newObj_type ?_ (by size_fits)
  have g1 : (s.heap.update it (Obj.mapFields (·.setIfInBounds 0 Value.none))).get? x1 = some o1 := by rw [Heap.get?_update_other _ _ (Ne.symm hne)]; exact h1
  refine raiseNew_hot ⟨hh, o1, vs1, Heap.get?_push_of_some _ (Heap.get?_push_of_some _ g1), d1, c1⟩ (Nat.ne_of_lt (Heap.lt_size (Heap.get?_push_of_some _ g1))) (Heap.get?_push_size _ rfl) rfl (by first | (simp; done) | (simp; omega) | (simp only [Array.size_append]; simp; omega)) ?_
  refine wpAny_bind (wpAny_isInstance (T := "StopIteration") (b := true) ⟨_, Heap.get?_update_self _ (Heap.get?_push_size _ rfl) rfl, rfl⟩ isSubtype_stop ?_)
  refine wpAny_pure (hQ _ fun b o hb e => ?_)
  have e2 : (s.heap.update it (Obj.mapFields (·.setIfInBounds 0 Value.none))).get? b = some o := by rw [Heap.get?_update_other _ _ (Ne.symm hb)]; exact e
  rw [Heap.get?_update_other _ _ (Nat.ne_of_gt (Heap.lt_size (Heap.get?_push_of_some _ e2)))]
  exact Heap.get?_push_of_some _ (Heap.get?_push_of_some _ e2)
end
theorem walks_listH {prog : Program} {w : World} {A : Around} {x1 : Addr} {o1 : Obj} {vs1 : Array Value} (hh : A.handled = some (.ref x1)) (d1 : o1.data = .fields vs1) (c1 : vs1[2]? = some .none) (I ax : Addr) (hne : ax ≠ I) (hn1 : x1 ≠ I) (items : Array Value) :
    Walks prog w A I [I, ax, x1] [I] items.size (fun i v => items[i]? = some v) (fun i h => h.IsListIter I ax i ∧ h.IsList ax items ∧ h.get? x1 = some o1) where
  sub := fun b hb => by simp at hb; simp [hb]
  frame := fun _ _ _ st hk => ⟨st.1.at fun o e => hk I (by simp) o e, st.2.1.at fun o e => hk ax (by simp) o e, hk x1 (by simp) _ st.2.2⟩
  item := fun i s Q E hi st hQ => by
    refine wpAny_pyNext_list_item st.1 st.2.1 (x := items[i]) (by simp [hi]) fun h' hit' hs' => ?_
    exact hQ _ h' s.toks (by simp [hi]) ⟨hit', st.2.1.extBut hs'.extBut hne, hs'.extBut x1 _ hn1 st.2.2⟩ fun b o hb e => hs'.extBut b o (fun h => hb (by simp [h])) e
  done := fun s Q E st hQ => pyNext_list_end_hot ⟨hh, o1, vs1, st.2.2, d1, c1⟩ hn1 st.1 st.2.1 (by simp) fun h' he' => hQ h' s.toks fun b o hb e => he' b o (fun h => hb (by simp [h])) e
  self := fun _ _ _ _ st hQ => wpAny_pyIter_listiter st.1 hQ
end HotX
namespace L2H
open PySem PySem.Spec PyProof.Rows L2 HotX
section
variable {X : Cx}
theorem cr_allH (hc : HotC X) : CallR X (.builtin "all") (rAll X.K) := by
  intro pins s σ H vs us Q I r h
  obtain ⟨a, bs, rfl, hs, q⟩ := h
  obtain ⟨its, rv, hl, _⟩ := I.list hs
  rw [Vals.ref1 r]
  have hb := rv.bls
  obtain ⟨p, ⟨hh, v1, e1, c1⟩, hp⟩ := hc
  have P1 := (I.pin p (List.mem_append_left _ hp)).1
  refine call_all_walk (iter_any hl.isList fun s₂ e2 st hne => ?_)
  subst e2
  refine ⟨_, _, _, _, _, _, _, rfl, walks_listH (A := X.A.in1) hh e1 c1 _ a hne (Nat.ne_of_lt (Heap.lt_size P1)) its.toArray, ⟨st.1, st.2, Heap.get?_push_of_some _ P1⟩, truth_bools hb, fun h' tk hk => ?_⟩
  refine ⟨.bl _, H, I.kept fun b o eo => hk b o (fun hmem => ?_) (Heap.get?_push_of_some _ eo), ?_, q⟩
  · rcases List.mem_cons.mp hmem with e1 | hmem
    · exact absurd (e1 ▸ Heap.lt_size eo) (Nat.lt_irrefl _)
    · cases hmem
  · show Value.bool _ = Value.bool _
    rw [← L2.all_range, hb, List.size_toArray, List.length_map]
/-- a block's context, the pinned things kept -/
abbrev blkP (X : Cx) (s : Shared) (H : Hp) (scope : Scope) (cenv : Env) (fp : List Addr) : Cx := { X.blk s H scope cenv fp with pn := X.pn }
theorem inv_blkP {s s' : Shared} {H H' : Hp} {scope : Scope} {ce : Env} {fp : List Addr} {pins : List (Addr × Obj)} {σ : L2.St} (I : Inv (X.blk s H scope ce fp) pins σ H' s') (hp : ∀ p ∈ X.pn, s'.heap.get? p.1 = some p.2 ∧ H' p.1 = none ∧ p.1 ≠ ce.locals ∧ p.1 ∉ frs X.stack ∧ ∀ v, p.2.data ≠ .cell v) : Inv (blkP X s H scope ce fp) pins σ H' s' := by
  obtain ⟨ok, os, bare, base, loc, cell, free, freeC, pin, hok, len⟩ := I
  obtain ⟨a1, a2, a3, a4, a5, a6, a7, a8, a9, a10, a11, a12, a13, a14, a15, a16, a17, a18⟩ := ok
  refine ⟨⟨a1, a2, a3, a4, a5, a6, a7, a8, a9, a10, a11, a12, a13, a14, a15, a16, a17, a18⟩, os, bare, base, loc, cell, free, freeC, fun p hm => ?_, hok, len⟩
  rcases List.mem_append.mp hm with hm | hm
  · exact hp p hm
  · exact pin p (List.mem_append_right _ hm)
/-- [elt for target in iter if ..] while an exception is handled -/
theorem lc_coreH {pins : List (Addr × Obj)} {s : Shared} {σ : L2.St} {H : Hp} {Q : VK} {elt tg iter : Expr} {ifs : List Expr} {scope : Scope} {own : List (Str × Nat)} {pos pos' : Pos} {wi : TI} {g : TG} {tt : TT} {te : TE} {use : Option (Value → Sem Unit)} {Qf : Value → Shared → Prop}
    (hc : HotC X) (hN : X.N.Nodup) (I : Inv X pins σ H s) (hi : PIH X tg iter wi) (ok : BlkOk X.N X.env.scope scope own)
    (hg : ∀ (s : Shared) (H : Hp) (C : Addr) (cl : List (Str × Addr)) (fp : List Addr), PG (blkP X s H scope (compEnvC scope cl C X.env) fp) tg g) (ht : ∀ (s : Shared) (H : Hp) (C : Addr) (cl : List (Str × Addr)) (fp : List Addr), PTs (blkP X s H scope (compEnvC scope cl C X.env) fp) ifs tt)
    (he : ∀ (s : Shared) (H : Hp) (C : Addr) (cl : List (Str × Addr)) (fp : List Addr), PE (blkP X s H scope (compEnvC scope cl C X.env) fp) elt te) (hs : ∀ x, foldedSetIterable iter X.env x = pure x)
    (h : tLc wi g tt te (own.map (·.2)) σ H Q)
    (hRR : ∀ D C s' m H', Inv X pins σ H' s' → Q (.ref D) H' → s'.heap.Ns C m → FpOk X pins H' C → compPost (model X.prog X.w) X.A X.xe use Qf (.ref D) C (.ok .next) s') :
    wpAny (model X.prog X.w) X.A (comprehension (.ListComp elt [⟨tg, iter, ifs, 0⟩] scope pos) scope X.env pos' (newList []) false (eval iter X.env) use) Qf X.xe s := by
  have hfree : ∀ y ∈ scope.names, y.2 = .free → ∃ c, X.env.cells.lookup y.1 = some c := fun y hy e => by
    rcases ok.free y hy e with k | k
    · exact I.ok.has _ (.inl k)
    · exact I.ok.has _ (.inr k)
  refine wpAny_comprehension_free (use := use) rfl hs (closure_ok hfree) ok.kind (fun y hy e => by rw [ok.uniq y hy, e])
    (thn (hi.run pins s σ H _ I h) fun xv s1 hx => thn hx fun itv s2 h2 => ?_)
  obtain ⟨it, fp, tn, J, H2, e, I2, T, st2, f2, q⟩ := h2
  subst e
  refine wpAny_newObj_type (newEnv_comp ?_) (by show 0 ≤ sizeLine; decide)
  generalize hD : s2.heap.objs.size = D
  obtain ⟨W, ⟨m0, w0⟩, turn⟩ := q D (I2.hok.fresh (Nat.le_of_eq hD))
  generalize hs3 : ({ s2 with heap := s2.heap.push { cls := .type "list", data := .seq ([] : List Value).toArray } } : Shared) = s3
  have h3 : s3.heap = s2.heap.push { cls := .type "list", data := .seq ([] : List Value).toArray } := by rw [← hs3]
  have I3 : Inv X pins σ (upd H2 D (.lst [])) s3 := by
    rw [← hs3]
    refine I2.laid (t' := s2.toks) (fun b o e => Heap.get?_push_of_some _ e) (Nat.le_of_eq hD) ⟨Nat.zero_le _, [], 0, .nil, ?_⟩
    rw [← hD]
    exact Heap.get?_push_size _ rfl
  have f3 : ∀ b ∈ fp, FpOk X pins (upd H2 D (.lst [])) b ∧ b < s3.heap.objs.size := fun b hb => by
    obtain ⟨o, e, _⟩ := T.obj _ _ st2 b hb
    have hlt := Heap.lt_size e
    refine ⟨⟨?_, (f2 b hb).2⟩, by rw [h3, Heap.size_push]; exact Nat.lt_succ_of_lt hlt⟩
    rw [upd_ne (by rw [← hD]; exact Nat.ne_of_lt hlt)]
    exact (f2 b hb).1
  have st3 : tn 0 s3.heap := T.keep _ _ _ st2 fun b _ o e => by rw [h3]; exact Heap.get?_push_of_some _ e
  have nfp : ∀ b ∈ fp, (upd H2 D (.lst [])) b = none := fun b hb => (f3 b hb).1.1
  have kp4 : ∀ b o, s3.heap.get? b = some o → (pushCells (s3.heap.push { cls := .type "dict", data := .dict #[] }) scope.names).get? b = some o := fun b o e => pushCells_keeps _ _ _ _ (Heap.get?_push_of_some _ e)
  have I4 := inv_blkP (block_start I3 ok hN f3) fun p hp => by
    obtain ⟨p1, p2, p3, p4, p5⟩ := I3.pin p (List.mem_append_left _ hp)
    exact ⟨kp4 _ _ p1, p2, Nat.ne_of_lt (Heap.lt_size p1), fun z => (List.mem_cons.mp (I3.stkSub _ z)).elim p3 p4, p5⟩
  have pg := hg s3 (upd H2 D (.lst [])) s3.heap.objs.size (cellsFrom (s3.heap.objs.size + 1) scope.names (cloFrom X.env.cells scope.names [])) fp
  have pt := ht s3 (upd H2 D (.lst [])) s3.heap.objs.size (cellsFrom (s3.heap.objs.size + 1) scope.names (cloFrom X.env.cells scope.names [])) fp
  have pe := he s3 (upd H2 D (.lst [])) s3.heap.objs.size (cellsFrom (s3.heap.objs.size + 1) scope.names (cloFrom X.env.cells scope.names [])) fp
  show codeAny _ _ (.compStart (.ListComp elt [⟨tg, iter, ifs, 0⟩] scope pos) 0 (.ref it) (.ref D) (compEnvC scope (cellsFrom (s3.heap.objs.size + 1) scope.names (cloFrom X.env.cells scope.names [])) s3.heap.objs.size X.env)) (compPost (model X.prog X.w) X.A X.xe use Qf (.ref D) s3.heap.objs.size) { s3 with heap := pushCells (s3.heap.push { cls := .type "dict", data := .dict #[] }) scope.names }
  generalize hce : compEnvC scope (cellsFrom (s3.heap.objs.size + 1) scope.names (cloFrom X.env.cells scope.names [])) s3.heap.objs.size X.env = ce at I4 pg pt pe ⊢
  have cL : ce.locals = s3.heap.objs.size := by subst hce; rfl
  generalize hH3 : upd H2 D (.lst []) = H3 at I3 I4 pg pt pe w0 nfp f3
  generalize hs4 : ({ s3 with heap := pushCells (s3.heap.push { cls := .type "dict", data := .dict #[] }) scope.names } : Shared) = s4 at I4 ⊢
  have st4 : tn 0 s4.heap := T.keep _ _ _ st3 fun b _ o e => by rw [← hs4]; exact kp4 b o e
  have hcB : HotC (blkP X s3 H3 scope ce fp) := hc
  have stat : ∀ {σ' : L2.St} {H' : Hp} {s' : Shared}, Inv (blkP X s3 H3 scope ce fp) [] σ' H' s' → (∀ b ∈ fp, H' b = none) → ∀ b ∈ fp, FpOk (blkP X s3 H3 scope ce fp) [] H' b := fun {σ' H' s'} I' hn b hb =>
    ⟨hn b hb, (I'.ok.exf b hb).1, I'.ok.exfs b hb, .inl hb, fun x c e => (I'.ok.exf b hb).2 x c e, fun p hp => (f3 b hb).1.2.2.2.2.2 p (List.mem_append_left _ (by simpa using hp))⟩
  have loop : codeAny (model X.prog X.w) X.A (.compLoop (.ListComp elt [⟨tg, iter, ifs, 0⟩] scope pos) 0 (.ref it) (.ref D) ce) (compPost (model X.prog X.w) X.A X.xe use Qf (.ref D) s3.heap.objs.size) s4 := by
    refine compLoop_any (fun n s' => ∃ i H', Inv (blkP X s3 H3 scope ce fp) [] (wipe σ (own.map (·.2))) H' s' ∧ tn i s'.heap ∧ (∀ b ∈ fp, H' b = none) ∧ W i n H') ?_ m0 ⟨0, H3, I4, st4, nfp, w0⟩
    rintro n s5 ⟨i, H5, I5, st5, n5, w5⟩
    rcases turn i n H5 w5 with ⟨stop, qq⟩ | ⟨go, Nx, hNx, step⟩
    · refine thnF (T.done (blkP X s3 H3 scope ce fp) rfl rfl rfl hcB i [] s5 _ H5 (fun _ _ => False) I5 (stat I5 n5) st5 stop) fun r s6 ⟨hr, I6⟩ => ?_
      subst hr
      have I7 : Inv X pins σ H5 s6 := I3.call' (ch := fp) I6.os I6.base I6.hok I6.bare fun b hb => ⟨(f3 b hb).1.2.2.2.1, (f3 b hb).1.2.1, (f3 b hb).1.2.2.2.2.1, (f3 b hb).1.2.2.2.2.2⟩
      have nC : H5 s3.heap.objs.size = none := by
        have z : H5 ce.locals = none := I6.free
        rw [cL] at z
        exact z
      obtain ⟨m, hn, _⟩ := I6.loc
      have hn : s6.heap.Ns ce.locals m := hn
      rw [cL] at hn
      exact hRR D s3.heap.objs.size s6 m H5 I7 qq hn (I3.fpOk (Nat.le_refl _) nC)
    · refine thnF (T.item (blkP X s3 H3 scope ce fp) rfl rfl rfl hcB i [] s5 _ H5 (fun _ _ => False) I5 (stat I5 n5) st5 go) fun r s6 ⟨u, hr, h6⟩ => ?_
      subst hr
      refine thnF h6 fun _ s7 ⟨x, H7, I7, r7, y7, st7, n7⟩ => ?_
      refine thnF (pg.run _ s7 _ H7 x u _ (I7.pinned (stat I7 n7) (T.obj _ _ st7)) r7 (step x H7 y7)) fun _ s8 ⟨σ8, H8, I8, hw8, q8⟩ => ?_
      refine thnF (pt.run _ s8 σ8 H8 _ I8 q8) fun b s9 ⟨H9, I9, q9⟩ => ?_
      have fin : ∀ {s' : Shared} {H' : Hp}, Inv (blkP X s3 H3 scope ce fp) ([] ++ pinsAt fp s7.heap) σ8 H' s' → Nx H' → ∃ m, m < n ∧ ∃ i H', Inv (blkP X s3 H3 scope ce fp) [] (wipe σ (own.map (·.2))) H' s' ∧ tn i s'.heap ∧ (∀ b ∈ fp, H' b = none) ∧ W i m H' := fun {s' H'} I' nx => by
        obtain ⟨m', hm, w'⟩ := hNx H' nx
        have pin' : ∀ b ∈ fp, ∀ o, s7.heap.get? b = some o → s'.heap.get? b = some o ∧ H' b = none := fun b hb o e =>
          let z := I'.pin (b, o) (List.mem_append_right _ (List.mem_append_right _ (mem_pinsAt hb e)))
          ⟨z.1, z.2.1⟩
        have hl : (wipe σ (own.map (·.2))).length = σ8.length := by rw [← hw8, wipe_length]
        refine ⟨m', hm, i + 1, H', (I'.unpinned (pins := [])).weak hl (fun j v e => ?_), T.keep _ _ _ st7 fun b hb o e => (pin' b hb o e).1, fun b hb => ?_, w'⟩
        · rw [← hw8] at e
          exact (wipe_some e).1
        · obtain ⟨o, e, _⟩ := T.obj _ _ st7 b hb
          exact (pin' b hb o e).2
      cases b with
      | false =>
        simp only [Bool.false_eq_true, if_false] at q9 ⊢
        exact fin I9 q9
      | true =>
        simp only [if_true] at q9 ⊢
        refine thnF (pe.run _ s9 σ8 H9 _ I9 q9) fun z s10 ⟨yv, H10, I10, r10, acc, hD10, hz10, nx⟩ => ?_
        exact app_ok (X := blkP X s3 H3 scope ce fp) I10 hD10 hz10 r10 fun s11 I11 => fin I11 nx
  exact codeAny_compStart_list loop (T.self X.A 0 _ _ _ st4 loop)
theorem pe_lcH {elt tg iter : Expr} {ifs : List Expr} {scope : Scope} {own : List (Str × Nat)} {pos : Pos} {wi : TI} {g : TG} {tt : TT} {te : TE} (hc : HotC X) (hN : X.N.Nodup) (hi : PIH X tg iter wi) (ok : BlkOk X.N X.env.scope scope own)
    (hg : ∀ (s : Shared) (H : Hp) (C : Addr) (cl : List (Str × Addr)) (fp : List Addr), PG (blkP X s H scope (compEnvC scope cl C X.env) fp) tg g) (ht : ∀ (s : Shared) (H : Hp) (C : Addr) (cl : List (Str × Addr)) (fp : List Addr), PTs (blkP X s H scope (compEnvC scope cl C X.env) fp) ifs tt)
    (he : ∀ (s : Shared) (H : Hp) (C : Addr) (cl : List (Str × Addr)) (fp : List Addr), PE (blkP X s H scope (compEnvC scope cl C X.env) fp) elt te) (hs : ∀ x, foldedSetIterable iter X.env x = pure x := by intro _; rfl) :
    PE X (.ListComp elt [⟨tg, iter, ifs, 0⟩] scope pos) (tLc wi g tt te (own.map (·.2))) := by
  refine ⟨fun pins s σ H Q I h => ?_⟩
  rw [eval_ListComp]
  refine lc_coreH hc hN I hi ok hg ht he hs h fun D C s' m H' I' q hn f => ⟨m, hn, fun h'' sb => ?_⟩
  obtain ⟨f0, f1, f2, f3, f4, f5⟩ := f
  exact ⟨.ref D, H', I'.turned (t' := s'.toks) (fun b o hb e => (sb.2 b hb).trans e) f0 f1 f3 f4 f5, rfl, q⟩
end
end L2H
namespace Hd
open PySem PySem.Spec PyProof.Rows L2 He Hk
def top (i : Nat) : Stmt := PySem.Challenge.pw_renamedhorn_k01_literal_order.main.body.getD i (.Pass ⟨0, 0, 0, 0⟩)
abbrev s_is_name : Stmt := top 8
def d_is_name : DefX := ⟨fun K => ga K "is_name", "is_name", "is_name", defArgs s_is_name, defBody s_is_name, defScope s_is_name, [], []⟩
abbrev s_is_literal : Stmt := top 9
def d_is_literal : DefX := ⟨fun K => ga K "is_literal", "is_literal", "is_literal", defArgs s_is_literal, defBody s_is_literal, defScope s_is_literal, [], []⟩
abbrev s_name_of : Stmt := top 10
def d_name_of : DefX := ⟨fun K => ga K "name_of", "name_of", "name_of", defArgs s_name_of, defBody s_name_of, defScope s_name_of, [], []⟩
abbrev s_ordered_names : Stmt := top 11
def d_ordered_names : DefX := ⟨fun K => ga K "ordered_names", "ordered_names", "ordered_names", defArgs s_ordered_names, defBody s_ordered_names, defScope s_ordered_names, [], []⟩
abbrev s_in_order : Stmt := top 12
def d_in_order : DefX := ⟨fun K => ga K "in_order", "in_order", "in_order", defArgs s_in_order, defBody s_in_order, defScope s_in_order, [], []⟩
abbrev s_law_source : Stmt := top 14
def d_law_source : DefX := ⟨fun K => ga K "_law_source", "_law_source", "_law_source", defArgs s_law_source, defBody s_law_source, defScope s_law_source, [], []⟩
abbrev s_law_take : Stmt := top 15
def d_law_take : DefX := ⟨fun K => ga K "_law_take", "_law_take", "_law_take", defArgs s_law_take, defBody s_law_take, defScope s_law_take, [], []⟩
abbrev s_law_word : Stmt := top 16
def d_law_word : DefX := ⟨fun K => ga K "_law_word", "_law_word", "_law_word", defArgs s_law_word, defBody s_law_word, defScope s_law_word, [], []⟩
abbrev s_law_names : Stmt := top 17
def d_law_names : DefX := ⟨fun K => ga K "_law_names", "_law_names", "_law_names", defArgs s_law_names, defBody s_law_names, defScope s_law_names, [], []⟩
abbrev s_law_name : Stmt := top 18
def d_law_name : DefX := ⟨fun K => ga K "_law_name", "_law_name", "_law_name", defArgs s_law_name, defBody s_law_name, defScope s_law_name, [], []⟩
abbrev s_law_sorted : Stmt := top 19
def d_law_sorted : DefX := ⟨fun K => ga K "_law_sorted", "_law_sorted", "_law_sorted", defArgs s_law_sorted, defBody s_law_sorted, defScope s_law_sorted, [], []⟩
abbrev s_law_ordered : Stmt := top 20
def d_law_ordered : DefX := ⟨fun K => ga K "_law_ordered", "_law_ordered", "_law_ordered", defArgs s_law_ordered, defBody s_law_ordered, defScope s_law_ordered, [], []⟩
abbrev s_law_same : Stmt := top 21
def d_law_same : DefX := ⟨fun K => ga K "_law_same", "_law_same", "_law_same", defArgs s_law_same, defBody s_law_same, defScope s_law_same, [], []⟩
abbrev s_law_bad : Stmt := top 22
def d_law_bad : DefX := ⟨fun K => ga K "_law_bad", "_law_bad", "_law_bad", defArgs s_law_bad, defBody s_law_bad, defScope s_law_bad, [], []⟩
abbrev s_law_list : Stmt := top 23
def d_law_list : DefX := ⟨fun K => ga K "_law_list", "_law_list", "_law_list", defArgs s_law_list, defBody s_law_list, defScope s_law_list, [], []⟩
abbrev s_law_told : Stmt := top 24
def d_law_told : DefX := ⟨fun K => ga K "_law_told", "_law_told", "_law_told", defArgs s_law_told, defBody s_law_told, defScope s_law_told, [], []⟩
abbrev s_law_refused : Stmt := top 25
def d_law_refused : DefX := ⟨fun K => ga K "_law_refused", "_law_refused", "_law_refused", defArgs s_law_refused, defBody s_law_refused, defScope s_law_refused, [], []⟩
abbrev s_law : Stmt := top 26
def d_law : DefX := ⟨fun K => ga K "law", "law", "law", defArgs s_law, defBody s_law, defScope s_law, [], []⟩
abbrev s_BadName_init : Stmt := inClass (top 2) 0
def d_BadName : ErrD := ⟨"BadName", ["text"], "BadName.__init__", defArgs s_BadName_init, defBody s_BadName_init, defScope s_BadName_init⟩
abbrev s_BadLiteral_init : Stmt := inClass (top 3) 0
def d_BadLiteral : ErrD := ⟨"BadLiteral", ["text"], "BadLiteral.__init__", defArgs s_BadLiteral_init, defBody s_BadLiteral_init, defScope s_BadLiteral_init⟩
def its : List Hk.It := [d_is_name.it, d_is_literal.it, d_name_of.it, d_ordered_names.it, d_in_order.it, d_law_source.it, d_law_take.it, d_law_word.it, d_law_names.it, d_law_name.it, d_law_sorted.it, d_law_ordered.it, d_law_same.it, d_law_bad.it, d_law_list.it, d_law_told.it, d_law_refused.it, d_law.it, d_BadName.it "/claim/cut.py", d_BadLiteral.it "/claim/cut.py"]
def fa : List Fa := [.glo "is_name", .glo "is_literal", .glo "name_of", .glo "ordered_names", .glo "in_order", .glo "_law_source", .glo "_law_take", .glo "_law_word", .glo "_law_names", .glo "_law_name", .glo "_law_sorted", .glo "_law_ordered", .glo "_law_same", .glo "_law_bad", .glo "_law_list", .glo "_law_told", .glo "_law_refused", .glo "law", .glo "HornError", .glo "BadName", .glo "BadLiteral", .str "LETTERS" "abcdefghijklmnopqrstuvwxyz", .str "SIGNS" "abcdefghijklmnopqrstuvwxyz0123456789", .int "NAME_SIZE" 8, .free "ValueError", .free "all", .free "bool", .free "int", .free "isinstance", .free "len", .free "list", .free "range", .free "sorted", .free "str", .free "tuple", .exm "BadName" "BadLiteral" false, .exm "BadLiteral" "BadLiteral" true]
def ex : List (PySem.W.Frag → Bool) := [fun K => excCB K (ga K "BadLiteral"), fun K => Hk.kitB K (.ref (ga K "BadLiteral")) (.ref (ga K "HornError")) true, fun K => Hk.kitB K (.ref (ga K "BadLiteral")) (.type "ValueError") true, fun K => Hk.kitB K (.ref (ga K "BadLiteral")) (.ref (ga K "BadName")) false]
def loose : List PySem.Str := (["HornError", "BadName", "BadLiteral", "LETTERS", "SIGNS", "NAME_SIZE", "is_name", "is_literal", "name_of", "ordered_names", "in_order", "_law_source"] : List PySem.Str) ++ (["_law_take", "_law_word", "_law_names", "_law_name", "_law_sorted", "_law_ordered", "_law_same", "_law_bad", "_law_list", "_law_told", "_law_refused"] : List PySem.Str)
abbrev R : PySem.W.OpenRow := PySem.W.OpenLaw.row PySem.Challenge.rw_renamedhorn_k01_literal_order
abbrev hk : PySem.W.Hook := hookZ 6 fa ex its
def ob (s : PySem.W.SharedT) : AlZ := obsZG 6 fa ex its (HandSHeadRun.getT s)
theorem ob_eq (s : PySem.W.SharedT) : ob s = hk.obs s.abs := obsZG_eq (HandSHeadRun.getT_eq s)
set_option maxHeartbeats 0 in
theorem run (w : World) : HandSHeadRun.RunEq R (PySem.W.view R.prog [26]) hk ob 6000 loose w := by
  intro os
  kernel_rfl
end Hd
section
open PySem PySem.Spec PyProof.Rows L2 Px
local macro_rules | `(tactic| walk_at "s") => `(tactic| first
  | with_reducible refine s_var rfl ?_
  | with_reducible (first
  | refine s_c ?_ | refine s_seq ?_ | refine s_asg ?_ | refine s_op ?_ | refine s_gname ?_ | refine s_cons ?_ | refine s_nil ?_ | refine s_cb ?_ | refine s_ifS ?_ | refine s_test ?_ | refine s_exb ?_ | refine s_ret ?_
  | refine s_eqI ?_ | refine s_addI ?_ | refine s_in0 ?_ | refine s_ltI ?_ | refine s_eqS ?_ | refine s_gsub ?_ | refine s_and ?_ | refine s_or ?_ | refine s_not ?_ | refine s_andV ?_ | refine s_orV ?_ | refine s_notV ?_ | refine s_sl ?_ | refine s_nopart ?_ | refine s_part ?_ | refine s_exi ?_
  | refine s_callS ?_ | refine s_call ?_ | refine s_drop ?_ | refine s_next ?_ | refine s_tB ?_ | refine s_lst ?_ | refine s_tup ?_ | refine s_inS ?_ | refine s_isN ?_ | refine s_yes ?_ | refine s_un ?_ | refine s_neg ?_ | refine s_ifE ?_ | refine s_retN ?_ | refine s_neS ?_ | refine s_neI ?_ | refine s_eqB ?_ | refine s_ltS ?_ | refine s_intI ?_ | refine s_rng1 ?_ | refine s_cont ?_ | refine s_break ?_ | refine s_forR ?_ | refine s_forA ?_ | refine s_lcA ?_ | refine s_lcR ?_ | refine s_bm ?_ | refine s_make ?_ | refine s_att ?_ | refine s_cls ?_ | refine s_setA ?_ | refine s_strS ?_ | refine s_opS ?_ | refine s_forO ?_ | refine s_lcO ?_ | refine s_methO ?_ | refine s_callO ?_ | refine s_exr ?_ | refine s_m1 ?_ | refine s_smeth ?_ | refine s_cmeth ?_ | refine s_makeV ?_ | refine s_clsV ?_ | refine s_listV ?_ | refine s_dget ?_ | refine s_lc2 ?_ | refine s_anyB ?_ | refine s_gsubO ?_ | refine s_attA ?_ | refine s_ddel ?_ | refine s_lstRg2 ?_ | refine s_lstRg1 ?_ | refine s_makeK ?_ | refine s_augO rfl ?_))
local macro_rules | `(tactic| walk_at "mem") => `(tactic| repeat (first | exact List.mem_cons_self | apply List.mem_cons_of_mem))
local macro_rules | `(tactic| walk_at "ss") => `(tactic| repeat walk_at "s")
local macro_rules | `(tactic| walk_at "sl") => `(tactic| repeat (first | walk_at "s" | ((with_reducible refine' s_ixL ?kA ?kB ?_); (case kA => first | assumption | exact upd_same); (case kB => rfl)) | ((with_reducible refine' s_setU ?kA ?_); (case kA => rfl)) | ((with_reducible refine' s_setL ?kA ?kB ?_); (case kA => assumption); (case kB => rfl))))
namespace Rd
open PySem PySem.Spec PyProof.Rows L2 He Px
/-- the law's source of numbers: the cells, the next cell, the number at hand, how often, which way -/
def Src (H : Hp) (a : Addr) : Prop := ∃ (c : Addr) (cells : List Int) (i cur cnt mode : Int), H a = some (.lst [.ref c, .int i, .int cur, .int cnt, .int mode]) ∧ H c = some (.lst (cells.map V.int)) ∧ 0 ≤ i ∧ cells.length ≤ 100
theorem Src.keep {H H' : Hp} {a : Addr} (h : Src H a) (s : Same H H') : Src H' a := by
  obtain ⟨c, cells, i, cur, cnt, mode, h1, h2, h3, h4⟩ := h
  exact ⟨c, cells, i, cur, cnt, mode, s _ _ h1, s _ _ h2, h3, h4⟩
theorem Src.but {H H' : Hp} {a b : Addr} {o : HO} (h : Src H a) (s : But b H H') (hb : H b = some o) (hn : ∀ xs, o ≠ .lst xs) : Src H' a := by
  obtain ⟨c, cells, i, cur, cnt, mode, h1, h2, h3, h4⟩ := h
  exact ⟨c, cells, i, cur, cnt, mode, s _ _ h1 (ne_of h1 hb fun e => hn _ e.symm), s _ _ h2 (ne_of h2 hb fun e => hn _ e.symm), h3, h4⟩
theorem atI_cells {cells : List Int} {i : Int} (h0 : 0 ≤ i) (h1 : ¬ ((cells.map V.int).length : Int) ≤ i) : ∃ z : Int, atI (cells.map V.int) i = some (.int z) := by
  rw [List.length_map] at h1
  have hl : i.toNat < cells.length := by omega
  refine ⟨cells[i.toNat], ?_⟩
  unfold atI ixN
  rw [if_pos h0, if_pos (by rw [List.length_map]; omega)]
  simp [hl]
theorem lg {m : Int} (h0 : 0 < m) (h1 : m ≤ 1000000000000000) : m.natAbs.log2 < 9000 := by
  have : m.natAbs ≠ 0 := by omega
  refine (Nat.log2_lt this).mpr (Nat.lt_of_lt_of_le (m := 2 ^ 60) (by omega) (Nat.pow_le_pow_right (by decide) (by decide)))
/-- the source at a went on; all else stands -/
structure Mov (a : Addr) (H H' : Hp) : Prop where
  but : But a H H'
  cell : ∀ c xs, H a = some (.lst (.ref c :: xs)) → ∃ ys, H' a = some (.lst (.ref c :: ys))
instance {a : Addr} {H H' : Hp} : CoeFun (Mov a H H') (fun _ => ∀ b o, H b = some o → b ≠ a → H' b = some o) := ⟨Mov.but⟩
theorem Mov.refl (a : Addr) (H : Hp) : Mov a H H := ⟨But.refl a H, fun _ xs h => ⟨xs, h⟩⟩
theorem Mov.trans {a : Addr} {H H1 H2 : Hp} (h1 : Mov a H H1) (h2 : Mov a H1 H2) : Mov a H H2 := ⟨h1.but.trans h2.but, fun c xs h => by
  obtain ⟨ys, h⟩ := h1.cell c xs h
  exact h2.cell c ys h⟩
theorem Mov.of_same {a : Addr} {H H1 : Hp} (h : Same H H1) : Mov a H H1 := ⟨But.of_same h, fun _ xs e => ⟨xs, h _ _ e⟩⟩
theorem Mov.of {a c : Addr} {H H1 : Hp} {xs ys : List V} (h : But a H H1) (h0 : H a = some (.lst (.ref c :: xs))) (h1 : H1 a = some (.lst (.ref c :: ys))) : Mov a H H1 := ⟨h, fun d zs e => by
  rw [h0] at e
  have e := Option.some.inj e
  injection e with e
  injection e with e _
  injection e with e
  subst e
  exact ⟨ys, h1⟩⟩
theorem Mov.un {a : Addr} {H H' : Hp} {p : Addr} (b : Mov a H H') (hn : p ≠ a) (h : H' p = none) : H p = none := by
  cases e : H p with
  | none => rfl
  | some o => rw [b _ _ e hn] at h; cases h
theorem Src.ne {H : Hp} {a p : Addr} (h : Src H a) (hp : H p = none) : p ≠ a := by
  obtain ⟨c, cells, i, cur, cnt, mode, h1, _⟩ := h
  exact fun e => by rw [e, h1] at hp; cases hp
/-- an object that is younger than the source changes -/
theorem Src.off {H H' : Hp} {a q : Addr} {o : HO} (h : Src H a) (hq : H q = none) (m : Mov a H H') (h' : Src H' a) : Src (L2.upd H' q o) a := by
  have hqa := h.ne hq
  obtain ⟨c, cells, i, cur, cnt, mode, h1, h2, _⟩ := h
  obtain ⟨c', cells', i', cur', cnt', mode', k1, k2, k3, k4⟩ := h'
  obtain ⟨ys, e⟩ := m.cell c _ h1
  rw [k1] at e
  have e := Option.some.inj e
  injection e with e
  injection e with e _
  injection e with e
  subst e
  have hc : c' ≠ q := fun z => by rw [z, hq] at h2; cases h2
  exact ⟨c', cells', i', cur', cnt', mode', by rw [upd_ne hqa.symm]; exact k1, by rw [upd_ne hc]; exact k2, k3, k4⟩
theorem Mov.put {H H' : Hp} {a q : Addr} {o : HO} (hS : Src H a) (hq : H q = none) (m : Mov a H H') : Mov a H (L2.upd H' q o) := by
  have hqa := hS.ne hq
  refine ⟨fun b u e n => ?_, fun c xs e => ?_⟩
  · rw [upd_ne (ne_of_none e hq)]
    exact m _ _ e n
  · rw [upd_ne hqa.symm]
    exact m.cell c xs e
/-- texts: a minus first, the name of a literal, its negation; names, literals -/
def dash (z : Str) : Bool := decide (cutS z none (some 1) = ("-" : Str))
def bare (z : Str) : Str := if dash z = true then cutS z (some 1) none else z
def flip (z : Str) : Str := if dash z = true then cutS z (some 1) none else ("-" : Str) ++ z
def lettersL : List Nat := ("abcdefghijklmnopqrstuvwxyz" : Str).cps.toList
def signsL : List Nat := ("abcdefghijklmnopqrstuvwxyz0123456789" : Str).cps.toList
def digitsL : List Nat := ("0123456789" : Str).cps.toList
def isNm (z : Str) : Bool := !decide (((z.length : Int) < 1)) && (!decide ((8 : Int) < (z.length : Int)) && ((match z.cps.toList with | c :: _ => decide (c ∈ lettersL) | [] => false) && z.cps.toList.all fun c => decide (c ∈ signsL)))
def isLit (z : Str) : Bool := isNm (bare z)
theorem cutS_len (z : Str) (lo hi : Option Int) : (cutS z lo hi).length ≤ z.length := by
  unfold cutS Str.length
  simp only [List.size_toArray, List.length_take, List.length_drop, Array.length_toList]
  omega
theorem bare_len (z : Str) : (bare z).length ≤ z.length := by
  unfold bare
  split
  · exact cutS_len _ _ _
  · exact Nat.le_refl _
theorem len_toList (z : Str) : z.cps.toList.length = z.length := by simp [Str.length]
theorem app_len (a b : Str) : (a ++ b).length = a.length + b.length := by
  show (a.cps ++ b.cps).size = a.cps.size + b.cps.size
  simp
theorem at0 {z : Str} (h : ¬ ((z.length : Int) < 1)) : ∃ c r, z.cps.toList = c :: r ∧ atI z.cps.toList 0 = some c := by
  have hl := len_toList z
  cases e : z.cps.toList with
  | nil => rw [e] at hl; simp at hl; omega
  | cons c r =>
    refine ⟨c, r, rfl, ?_⟩
    unfold atI ixN
    rw [if_pos (by decide), if_pos (by simp)]
    rfl
theorem at_ex {l : List Nat} {r : Int} (h0 : 0 ≤ r) (h1 : r < (l.length : Int)) : ∃ c, c ∈ l ∧ atI l r = some c := by
  have hl : r.toNat < l.length := by omega
  refine ⟨l[r.toNat], List.getElem_mem hl, ?_⟩
  unfold atI ixN
  rw [if_pos h0, if_pos h1]
  simp [hl]
theorem app_toList (a b : Str) : (a ++ b).cps.toList = a.cps.toList ++ b.cps.toList := by
  show (a.cps ++ b.cps).toList = _
  simp
/-- a letter, then letters and digits -/
def Wrd (z : Str) : Prop := ∃ c r, z.cps.toList = c :: r ∧ c ∈ lettersL ∧ ∀ x ∈ r, x ∈ signsL
theorem letters_signs {c : Nat} (h : c ∈ lettersL) : c ∈ signsL := by
  have e : signsL = lettersL ++ digitsL := by decide +kernel
  rw [e]
  exact List.mem_append_left _ h
theorem Wrd.nm {z : Str} (h : Wrd z) (hl : z.length ≤ 8) : isNm z = true := by
  obtain ⟨c, r, e, h1, h2⟩ := h
  have hn := len_toList z
  rw [e] at hn
  unfold isNm
  rw [decide_eq_false (by simp at hn; omega), decide_eq_false (by omega), e]
  show (true && (true && (decide (c ∈ lettersL) && (c :: r).all fun c => decide (c ∈ signsL)))) = true
  rw [decide_eq_true h1]
  simp only [Bool.true_and, List.all_eq_true, decide_eq_true_eq]
  intro x hx
  rcases List.mem_cons.mp hx with rfl | hx
  · exact letters_signs h1
  · exact h2 x hx
theorem Wrd.add {z : Str} {c : Nat} (h : Wrd z) (hc : c ∈ signsL) : Wrd (z ++ ⟨#[c]⟩) := by
  obtain ⟨d, r, e, h1, h2⟩ := h
  refine ⟨d, r ++ [c], ?_, h1, fun x hx => ?_⟩
  · rw [app_toList, e]
    rfl
  · rcases List.mem_append.mp hx with hx | hx
    · exact h2 x hx
    · have : x = c := by simpa using hx
      rw [this]; exact hc
theorem Wrd.one {c : Nat} (h : c ∈ lettersL) : Wrd ⟨#[c]⟩ := ⟨c, [], rfl, h, fun _ hx => nomatch hx⟩
def signs2L : List Nat := ("0123456789abcdefghijklmnopqrstuvwxyz" : Str).cps.toList
theorem signs2_in {c : Nat} (h : c ∈ signs2L) : c ∈ signsL := by
  have e : signs2L = digitsL ++ lettersL := by decide +kernel
  rw [e] at h
  have e2 : signsL = lettersL ++ digitsL := by decide +kernel
  rw [e2]
  rcases List.mem_append.mp h with h | h
  · exact List.mem_append_right _ h
  · exact List.mem_append_left _ h
theorem fmod_b (z m : Int) (hm : 0 < m) : 0 ≤ z.fmod m ∧ z.fmod m < m := ⟨Int.fmod_nonneg_of_pos z hm, Int.fmod_lt_of_pos z hm⟩
theorem cut_tail (z : Str) : (cutS z (some 1) none).cps.toList = z.cps.toList.drop 1 := by
  unfold cutS
  have e : HT.sIx z.length 0 (some 1) = min 1 z.length := HT.sIx_nat z.length 0 1
  rw [e, HT.sIx_none]
  have hl := len_toList z
  show List.take (z.length - min 1 z.length) (List.drop (min 1 z.length) z.cps.toList) = _
  cases hz : z.cps.toList with
  | nil => simp
  | cons c r =>
    rw [hz] at hl
    have : min 1 z.length = 1 := by rw [← hl]; simp
    rw [this, List.take_of_length_le (by simp at hl ⊢; omega)]
theorem cut_head (z : Str) : (cutS z none (some 1)).cps.toList = z.cps.toList.take 1 := by
  unfold cutS
  have e : HT.sIx z.length z.length (some 1) = min 1 z.length := HT.sIx_nat z.length z.length 1
  rw [e, HT.sIx_none]
  show List.take (min 1 z.length - 0) (List.drop 0 z.cps.toList) = _
  have hl := len_toList z
  cases hz : z.cps.toList with
  | nil => simp
  | cons c r =>
    rw [hz] at hl
    have : min 1 z.length = 1 := by rw [← hl]; simp
    rw [this]
    rfl
theorem str_ext {a b : Str} (h : a.cps.toList = b.cps.toList) : a = b := by
  obtain ⟨x⟩ := a
  obtain ⟨y⟩ := b
  have : x = y := by
    obtain ⟨l⟩ := x
    obtain ⟨m⟩ := y
    simp at h
    rw [h]
  rw [this]
theorem dash_iff (z : Str) : dash z = true ↔ ∃ r, z.cps.toList = 45 :: r := by
  have h45 : ("-" : Str).cps.toList = [45] := by decide +kernel
  unfold dash
  rw [decide_eq_true_iff]
  constructor
  · intro h
    have e := cut_head z
    rw [h, h45] at e
    cases hz : z.cps.toList with
    | nil => rw [hz] at e; cases e
    | cons c r =>
      rw [hz] at e
      have : c = 45 := by simpa using e.symm
      exact ⟨r, by rw [this]⟩
  · rintro ⟨r, h⟩
    apply str_ext
    rw [cut_head, h, h45]
    rfl
/-! data as a whole -/
mutual
inductive Is (H : Hp) : V → PyData → Prop
  | non : Is H .non .none
  | bl (b : Bool) : Is H (.bl b) (.bool b)
  | int (i : Int) : Is H (.int i) (.int i)
  | str (x : Str) : Is H (.str x) (.str x)
  | lst {a : Addr} {xs : List V} {ds : List PyData} : H a = some (.lst xs) → IsAll H xs ds → Is H (.ref a) (.list ds)
  | tup {a : Addr} {xs : List V} {ds : List PyData} : H a = some (.tup xs) → IsAll H xs ds → Is H (.ref a) (.tuple ds)
inductive IsAll (H : Hp) : List V → List PyData → Prop
  | nil : IsAll H [] []
  | cons {v : V} {vs : List V} {d : PyData} {ds : List PyData} : Is H v d → IsAll H vs ds → IsAll H (v :: vs) (d :: ds)
end
mutual
theorem Is.keep {H H' : Hp} (s : Same H H') : ∀ {v : V} {d : PyData}, Is H v d → Is H' v d
  | _, _, .non => .non
  | _, _, .bl b => .bl b
  | _, _, .int i => .int i
  | _, _, .str x => .str x
  | _, _, .lst h r => .lst (s _ _ h) (IsAll.keep s r)
  | _, _, .tup h r => .tup (s _ _ h) (IsAll.keep s r)
theorem IsAll.keep {H H' : Hp} (s : Same H H') : ∀ {vs : List V} {ds : List PyData}, IsAll H vs ds → IsAll H' vs ds
  | _, _, .nil => .nil
  | _, _, .cons h r => .cons (Is.keep s h) (IsAll.keep s r)
end
theorem IsAll.len {H : Hp} : ∀ {vs : List V} {ds : List PyData}, IsAll H vs ds → vs.length = ds.length
  | _, _, .nil => rfl
  | _, _, .cons _ r => congrArg (· + 1) r.len
theorem IsAll.at {H : Hp} : ∀ {vs : List V} {ds : List PyData} {i : Nat}, IsAll H vs ds → i < ds.length → ∃ v d, vs[i]? = some v ∧ ds[i]? = some d ∧ Is H v d
  | _, _, i, .nil, h => absurd h (by simp)
  | v :: vs, d :: ds, 0, .cons h _, _ => ⟨v, d, rfl, rfl, h⟩
  | v :: vs, d :: ds, i + 1, .cons _ r, h => by
    obtain ⟨v', d', h1, h2, h3⟩ := r.at (i := i) (by simpa using h)
    exact ⟨v', d', by simpa using h1, by simpa using h2, h3⟩
theorem IsAll.strs {H : Hp} : ∀ l : List Str, IsAll H (l.map V.str) (l.map PyData.str)
  | [] => .nil
  | x :: r => .cons (.str x) (IsAll.strs r)
theorem IsAll.ints {H : Hp} : ∀ l : List Int, IsAll H (l.map V.int) (l.map PyData.int)
  | [] => .nil
  | x :: r => .cons (.int x) (IsAll.ints r)
/-- depth at most n, no list longer than a million -/
def Fits : Nat → PyData → Prop
  | _, .none => True
  | _, .bool _ => True
  | _, .int _ => True
  | _, .str _ => True
  | 0, .list _ => False
  | 0, .tuple _ => False
  | n + 1, .list ds => ds.length ≤ 1000000 ∧ ∀ d ∈ ds, Fits n d
  | n + 1, .tuple ds => ds.length ≤ 1000000 ∧ ∀ d ∈ ds, Fits n d
  | _, .dict _ => False
noncomputable def sameB (d e : PyData) : Bool := @decide (d = e) (Classical.propDecidable _)
theorem sameB_eq {d e : PyData} (h : d = e) : sameB d e = true := by unfold sameB; simp [h]
theorem sameB_ne {d e : PyData} (h : d ≠ e) : sameB d e = false := by unfold sameB; simp [h]
theorem sameB_bool (a b : Bool) : sameB (.bool a) (.bool b) = decide (a = b) := by
  by_cases h : a = b
  · rw [sameB_eq (by rw [h]), decide_eq_true h]
  · rw [sameB_ne (by simpa using h), decide_eq_false h]
theorem sameB_int (a b : Int) : sameB (.int a) (.int b) = decide (a = b) := by
  by_cases h : a = b
  · rw [sameB_eq (by rw [h]), decide_eq_true h]
  · rw [sameB_ne (by simpa using h), decide_eq_false h]
theorem sameB_str (a b : Str) : sameB (.str a) (.str b) = decide (a = b) := by
  by_cases h : a = b
  · rw [sameB_eq (by rw [h]), decide_eq_true h]
  · rw [sameB_ne (by simpa using h), decide_eq_false h]
theorem same_all : ∀ {xs ys : List PyData}, xs.length = ys.length → ((List.range xs.length).all fun i => sameB (xs.getD i .none) (ys.getD i .none)) = @decide (xs = ys) (Classical.propDecidable _) := by
  intro xs ys hl
  by_cases h : xs = ys
  · subst h
    simp only [decide_true, List.all_eq_true, List.mem_range]
    exact fun i _ => sameB_eq rfl
  · rw [show @decide (xs = ys) (Classical.propDecidable _) = false by simp [h]]
    rw [Bool.eq_false_iff]
    intro ha
    apply h
    simp only [List.all_eq_true, List.mem_range] at ha
    refine List.ext_getElem hl fun i h1 h2 => ?_
    have := ha i h1
    by_cases hi : xs.getD i .none = ys.getD i .none
    · simpa [List.getD, h1, h2] using hi
    · rw [sameB_ne hi] at this
      cases this
/-- isinstance of data -/
def isBoolD : PyData → Bool
  | .none => false
  | .bool _ => true
  | .int _ => false
  | .str _ => false
  | .list _ => false
  | .tuple _ => false
  | .dict _ => false
theorem isi_bool {K : PySem.W.Frag} {H : Hp} {Q : VK} {x : V} {d : PyData} (h : Is H x d) (q : Q (.bl (isBoolD d)) H) : rIsi K [x, .ty "bool"] H Q := by
  cases h with
  | non => exact ⟨_, .ty "bool", _, _, false, rfl, .ty _, .base (.non), kit_ty (show kitB "NoneType" "bool" = some false by decide +kernel), q⟩
  | bl b => exact ⟨_, .ty "bool", _, _, true, rfl, .ty _, .base (.bl b), kit_ty (show kitB "bool" "bool" = some true by decide +kernel), q⟩
  | int i => exact ⟨_, .ty "bool", _, _, false, rfl, .ty _, .base (.int i), kit_ty (show kitB "int" "bool" = some false by decide +kernel), q⟩
  | str z => exact ⟨_, .ty "bool", _, _, false, rfl, .ty _, .base (.str z), kit_ty (show kitB "str" "bool" = some false by decide +kernel), q⟩
  | lst e r => exact ⟨_, .ty "bool", _, _, false, rfl, .ty _, .base (.lst e), kit_ty (show kitB "list" "bool" = some false by decide +kernel), q⟩
  | tup e r => exact ⟨_, .ty "bool", _, _, false, rfl, .ty _, .base (.tup e), kit_ty (show kitB "tuple" "bool" = some false by decide +kernel), q⟩
def isIntD : PyData → Bool
  | .none => false
  | .bool _ => true
  | .int _ => true
  | .str _ => false
  | .list _ => false
  | .tuple _ => false
  | .dict _ => false
theorem isi_int {K : PySem.W.Frag} {H : Hp} {Q : VK} {x : V} {d : PyData} (h : Is H x d) (q : Q (.bl (isIntD d)) H) : rIsi K [x, .ty "int"] H Q := by
  cases h with
  | non => exact ⟨_, .ty "int", _, _, false, rfl, .ty _, .base (.non), kit_ty (show kitB "NoneType" "int" = some false by decide +kernel), q⟩
  | bl b => exact ⟨_, .ty "int", _, _, true, rfl, .ty _, .base (.bl b), kit_ty (show kitB "bool" "int" = some true by decide +kernel), q⟩
  | int i => exact ⟨_, .ty "int", _, _, true, rfl, .ty _, .base (.int i), kit_ty (show kitB "int" "int" = some true by decide +kernel), q⟩
  | str z => exact ⟨_, .ty "int", _, _, false, rfl, .ty _, .base (.str z), kit_ty (show kitB "str" "int" = some false by decide +kernel), q⟩
  | lst e r => exact ⟨_, .ty "int", _, _, false, rfl, .ty _, .base (.lst e), kit_ty (show kitB "list" "int" = some false by decide +kernel), q⟩
  | tup e r => exact ⟨_, .ty "int", _, _, false, rfl, .ty _, .base (.tup e), kit_ty (show kitB "tuple" "int" = some false by decide +kernel), q⟩
def isStrD : PyData → Bool
  | .none => false
  | .bool _ => false
  | .int _ => false
  | .str _ => true
  | .list _ => false
  | .tuple _ => false
  | .dict _ => false
theorem isi_str {K : PySem.W.Frag} {H : Hp} {Q : VK} {x : V} {d : PyData} (h : Is H x d) (q : Q (.bl (isStrD d)) H) : rIsi K [x, .ty "str"] H Q := by
  cases h with
  | non => exact ⟨_, .ty "str", _, _, false, rfl, .ty _, .base (.non), kit_ty (show kitB "NoneType" "str" = some false by decide +kernel), q⟩
  | bl b => exact ⟨_, .ty "str", _, _, false, rfl, .ty _, .base (.bl b), kit_ty (show kitB "bool" "str" = some false by decide +kernel), q⟩
  | int i => exact ⟨_, .ty "str", _, _, false, rfl, .ty _, .base (.int i), kit_ty (show kitB "int" "str" = some false by decide +kernel), q⟩
  | str z => exact ⟨_, .ty "str", _, _, true, rfl, .ty _, .base (.str z), kit_ty (show kitB "str" "str" = some true by decide +kernel), q⟩
  | lst e r => exact ⟨_, .ty "str", _, _, false, rfl, .ty _, .base (.lst e), kit_ty (show kitB "list" "str" = some false by decide +kernel), q⟩
  | tup e r => exact ⟨_, .ty "str", _, _, false, rfl, .ty _, .base (.tup e), kit_ty (show kitB "tuple" "str" = some false by decide +kernel), q⟩
def isListD : PyData → Bool
  | .none => false
  | .bool _ => false
  | .int _ => false
  | .str _ => false
  | .list _ => true
  | .tuple _ => false
  | .dict _ => false
theorem isi_list {K : PySem.W.Frag} {H : Hp} {Q : VK} {x : V} {d : PyData} (h : Is H x d) (q : Q (.bl (isListD d)) H) : rIsi K [x, .ty "list"] H Q := by
  cases h with
  | non => exact ⟨_, .ty "list", _, _, false, rfl, .ty _, .base (.non), kit_ty (show kitB "NoneType" "list" = some false by decide +kernel), q⟩
  | bl b => exact ⟨_, .ty "list", _, _, false, rfl, .ty _, .base (.bl b), kit_ty (show kitB "bool" "list" = some false by decide +kernel), q⟩
  | int i => exact ⟨_, .ty "list", _, _, false, rfl, .ty _, .base (.int i), kit_ty (show kitB "int" "list" = some false by decide +kernel), q⟩
  | str z => exact ⟨_, .ty "list", _, _, false, rfl, .ty _, .base (.str z), kit_ty (show kitB "str" "list" = some false by decide +kernel), q⟩
  | lst e r => exact ⟨_, .ty "list", _, _, true, rfl, .ty _, .base (.lst e), kit_ty (show kitB "list" "list" = some true by decide +kernel), q⟩
  | tup e r => exact ⟨_, .ty "list", _, _, false, rfl, .ty _, .base (.tup e), kit_ty (show kitB "tuple" "list" = some false by decide +kernel), q⟩
def isTupleD : PyData → Bool
  | .none => false
  | .bool _ => false
  | .int _ => false
  | .str _ => false
  | .list _ => false
  | .tuple _ => true
  | .dict _ => false
theorem isi_tuple {K : PySem.W.Frag} {H : Hp} {Q : VK} {x : V} {d : PyData} (h : Is H x d) (q : Q (.bl (isTupleD d)) H) : rIsi K [x, .ty "tuple"] H Q := by
  cases h with
  | non => exact ⟨_, .ty "tuple", _, _, false, rfl, .ty _, .base (.non), kit_ty (show kitB "NoneType" "tuple" = some false by decide +kernel), q⟩
  | bl b => exact ⟨_, .ty "tuple", _, _, false, rfl, .ty _, .base (.bl b), kit_ty (show kitB "bool" "tuple" = some false by decide +kernel), q⟩
  | int i => exact ⟨_, .ty "tuple", _, _, false, rfl, .ty _, .base (.int i), kit_ty (show kitB "int" "tuple" = some false by decide +kernel), q⟩
  | str z => exact ⟨_, .ty "tuple", _, _, false, rfl, .ty _, .base (.str z), kit_ty (show kitB "str" "tuple" = some false by decide +kernel), q⟩
  | lst e r => exact ⟨_, .ty "tuple", _, _, false, rfl, .ty _, .base (.lst e), kit_ty (show kitB "list" "tuple" = some false by decide +kernel), q⟩
  | tup e r => exact ⟨_, .ty "tuple", _, _, true, rfl, .ty _, .base (.tup e), kit_ty (show kitB "tuple" "tuple" = some true by decide +kernel), q⟩
end Rd
namespace Rd
open PySem PySem.Spec PyProof.Rows L2 He Px
def spn_law_same (K : PySem.W.Frag) (n : Nat) : Sp := Sp2 fun x y H Q _ => ∃ d e : PyData, Is H x d ∧ Is H y e ∧ Fits n d ∧ ∀ H', Same H H' → Q (.bl (sameB d e)) H'
def sp_law_same (K : PySem.W.Frag) : Sp := spn_law_same K 4
def spR_law_same (K : PySem.W.Frag) : Nat → Sp
  | 0 => fun _ _ _ _ => False
  | n + 1 => spn_law_same K n
def N_law_same : List PySem.Str := ["_law_one", "_law_other", "_law_lists", "_law_k"]
def t_law_same (K : PySem.W.Frag) (R : Sp) (W : WX) : TS := (tCut (tIfS (tOr (tB (tCB (rIsi K) (tCons (tVar 0) (tCons (tC (.ty "bool")) tNil)))) (tB (tCB (rIsi K) (tCons (tVar 1) (tCons (tC (.ty "bool")) tNil))))) (tRet (tAndV (tCB (rIsi K) (tCons (tVar 0) (tCons (tC (.ty "bool")) tNil))) (tAndV (tCB (rIsi K) (tCons (tVar 1) (tCons (tC (.ty "bool")) tNil))) (tOp (rEqP K) (tVar 0) (tVar 1))))) tNext)
    (tCut (tIfS (tOr (tB (tCB (rIsi K) (tCons (tVar 0) (tCons (tC (.ty "int")) tNil)))) (tB (tCB (rIsi K) (tCons (tVar 1) (tCons (tC (.ty "int")) tNil))))) (tRet (tAndV (tCB (rIsi K) (tCons (tVar 0) (tCons (tC (.ty "int")) tNil))) (tAndV (tCB (rIsi K) (tCons (tVar 1) (tCons (tC (.ty "int")) tNil))) (tOp (rEqP K) (tVar 0) (tVar 1))))) tNext)
    (tCut (tIfS (tOr (tB (tCB (rIsi K) (tCons (tVar 0) (tCons (tC (.ty "str")) tNil)))) (tB (tCB (rIsi K) (tCons (tVar 1) (tCons (tC (.ty "str")) tNil))))) (tRet (tAndV (tCB (rIsi K) (tCons (tVar 0) (tCons (tC (.ty "str")) tNil))) (tAndV (tCB (rIsi K) (tCons (tVar 1) (tCons (tC (.ty "str")) tNil))) (tOp (rEqP K) (tVar 0) (tVar 1))))) tNext)
    (tSeq (tAsg (tAndV (tCB (rIsi K) (tCons (tVar 0) (tCons (tC (.ty "list")) tNil))) (tCB (rIsi K) (tCons (tVar 1) (tCons (tC (.ty "list")) tNil)))) (gName 2))
    (tCut (tIfS (tAnd (tNot (tB (tVar 2))) (tNot (tAnd (tB (tCB (rIsi K) (tCons (tVar 0) (tCons (tC (.ty "tuple")) tNil)))) (tB (tCB (rIsi K) (tCons (tVar 1) (tCons (tC (.ty "tuple")) tNil))))))) (tRet (tAndV (tOp (rIsP false) (tVar 0) (tC .non)) (tOp (rIsP false) (tVar 1) (tC .non)))) tNext)
    (tRet (tAndV (tOp (rEqP K) (tCB (rLenP K) (tCons (tVar 0) tNil)) (tCB (rLenP K) (tCons (tVar 1) tNil))) (tCB (rAll K) (tCons (tLc (iRng1 (tCons (tCB (rLenP K) (tCons (tVar 0) tNil)) tNil)) (gName 3) tYes (tCall R [] E0 (tCons (tOp (rIxP K) (tVar 0) (tVar 3)) (tCons (tOp (rIxP K) (tVar 1) (tVar 3)) tNil))) [3]) tNil)))))))))
local macro_rules | `(tactic| walk_at "same") => `(tactic| repeat (first | walk_at "s" | (with_reducible refine isi_bool (by assumption) ?_) | (with_reducible refine isi_int (by assumption) ?_) | (with_reducible refine isi_str (by assumption) ?_) | (with_reducible refine isi_list (by assumption) ?_) | (with_reducible refine isi_tuple (by assumption) ?_) | (refine s_itF rfl ?_) | (refine s_itT rfl ?_) | (with_reducible refine s_nocut ?_)))
theorem pure_law_same {K : PySem.W.Frag} {n : Nat} {vs : List V} {H : Hp} {Q : VK} {E : XK} {W : WX} (h : spn_law_same K n vs H Q E) : t_law_same K (spR_law_same K n) W { nx := fun _ H' => Q .non H', rt := Q } (start N_law_same vs) H := by
  obtain ⟨x, y, rfl, d, e, hd, he, hf, hq⟩ := h
  show t_law_same K _ W _ [some x, some y, none, none] H
  unfold t_law_same
  have q0 := hq H (Same.refl H)
  have no : d ≠ e → Q (.bl false) H := fun e1 => by rw [sameB_ne e1] at q0; exact q0
  have hy : ∀ {z : V} {f : PyData}, Is H z f → match f with
    | .none => z = .non
    | .bool b => z = .bl b
    | .int i => z = .int i
    | .str s => z = .str s
    | .list ds => ∃ a xs, z = .ref a ∧ H a = some (.lst xs) ∧ IsAll H xs ds
    | .tuple ds => ∃ a xs, z = .ref a ∧ H a = some (.tup xs) ∧ IsAll H xs ds
    | .dict _ => False := by
    intro z f h
    cases h with
    | lst h1 h2 => exact ⟨_, _, rfl, h1, h2⟩
    | tup h1 h2 => exact ⟨_, _, rfl, h1, h2⟩
    | _ => rfl
  have hX := hy hd
  have hY := hy he
  cases d with
  | none =>
    cases e with
    | none =>
      have hX : x = .non := hX
      have hY : y = .non := hY
      subst hX hY
      walk_at "same"
      rw [sameB_eq rfl] at q0
      exact q0
    | list es =>
      obtain ⟨b, ys, rfl, hb, hys⟩ := hY
      have hX : x = .non := hX
      subst hX
      walk_at "same"
      exact no (fun h => by cases h)
    | tuple es =>
      obtain ⟨b, ys, rfl, hb, hys⟩ := hY
      have hX : x = .non := hX
      subst hX
      walk_at "same"
      exact no (fun h => by cases h)
    | dict _ => exact False.elim hY
    | _ =>
      walk_at "same"
      exact no (fun h => by cases h)
  | bool a =>
    cases e with
    | bool b =>
      have hX : x = .bl a := hX
      have hY : y = .bl b := hY
      subst hX hY
      walk_at "same"
      rw [sameB_bool] at q0
      exact q0
    | dict _ => exact False.elim hY
    | _ =>
      walk_at "same"
      exact no (fun h => by cases h)
  | int a =>
    cases e with
    | int b =>
      have hX : x = .int a := hX
      have hY : y = .int b := hY
      subst hX hY
      walk_at "same"
      rw [sameB_int] at q0
      exact q0
    | dict _ => exact False.elim hY
    | _ =>
      walk_at "same"
      exact no (fun h => by cases h)
  | str a =>
    cases e with
    | str b =>
      have hX : x = .str a := hX
      have hY : y = .str b := hY
      subst hX hY
      walk_at "same"
      rw [sameB_str] at q0
      exact q0
    | dict _ => exact False.elim hY
    | _ =>
      walk_at "same"
      exact no (fun h => by cases h)
  | list ds =>
    obtain ⟨a, xs, rfl, ha, hxs⟩ := hX
    cases n with
    | zero => exact False.elim hf
    | succ n =>
    cases e with
    | list es =>
      obtain ⟨b, ys, rfl, hb, hys⟩ := hY
      walk_at "same"
      have e1 := hxs.len
      have e2 := hys.len
      have fin : ∀ H', Same H H' → Q (.bl (@decide (ds = es) (Classical.propDecidable _))) H' := fun H' s => by
        have w := hq H' s
        have e1 : sameB (.list ds) (.list es) = @decide (ds = es) (Classical.propDecidable _) := by
          by_cases h : ds = es
          · rw [sameB_eq (by rw [h])]; simp [h]
          · rw [sameB_ne (by simpa using h)]; simp [h]
        rw [e1] at w
        exact w
      have hL := hf.1
      refine s_lenL ha ?_
      walk_at "ss"
      refine s_lenL hb ?_
      walk_at "ss"
      refine s_itd (fun e => ?_) (fun e => ?_)
      · have hl : ds.length = es.length := by omega
        walk_at "ss"
        refine s_lenL ha ?_
        walk_at "ss"
        refine lcr_map (fun x => match x with | .int i => .bl (sameB (ds.getD i.toNat .none) (es.getD i.toNat .none)) | _ => .non) (by omega) (by omega) ?_ ?_
        · intro i hi H' s1 Q' hQ
          obtain ⟨v, d, h1, h2, h3⟩ := hxs.at (i := i) (by omega)
          obtain ⟨w, e', g1, g2, g3⟩ := hys.at (i := i) (by omega)
          walk_at "ss"
          refine s_ixL (s1 _ _ ha) (v := v) (atI_nat h1) ?_
          walk_at "ss"
          refine s_ixL (s1 _ _ hb) (v := w) (atI_nat g1) ?_
          walk_at "ss"
          refine ⟨_, _, rfl, d, e', h3.keep s1, g3.keep s1, hf.2 d (List.mem_of_getElem? h2), fun H2 s2 => ?_⟩
          have k1 : ds.getD i .none = d := by simp [List.getD, h2]
          have k2 : es.getD i .none = e' := by simp [List.getD, g2]
          have k3 : Q' (.bl (sameB (ds.getD i .none) (es.getD i .none))) H2 := hQ H2 s2
          rw [k1, k2] at k3
          exact k3
        · intro D H' hD s1 hl'
          walk_at "ss"
          refine s_all (bs := (List.range ds.length).map fun i => sameB (ds.getD i .none) (es.getD i .none)) ?_ ?_
          · rw [hl', List.map_map, ← e1]
            rfl
          · have := fin H' s1
            rw [← same_all hl] at this
            rw [List.all_map]
            exact this
      · have := fin H (Same.refl H)
        rw [show @decide (ds = es) (Classical.propDecidable _) = false by simp; intro h; apply e; rw [e1, e2, h]] at this
        exact this
    | dict _ => exact False.elim hY
    | _ =>
      walk_at "same"
      exact no (fun h => by cases h)
  | tuple ds =>
    obtain ⟨a, xs, rfl, ha, hxs⟩ := hX
    cases n with
    | zero => exact False.elim hf
    | succ n =>
    cases e with
    | tuple es =>
      obtain ⟨b, ys, rfl, hb, hys⟩ := hY
      walk_at "same"
      have e1 := hxs.len
      have e2 := hys.len
      have fin : ∀ H', Same H H' → Q (.bl (@decide (ds = es) (Classical.propDecidable _))) H' := fun H' s => by
        have w := hq H' s
        have e1 : sameB (.tuple ds) (.tuple es) = @decide (ds = es) (Classical.propDecidable _) := by
          by_cases h : ds = es
          · rw [sameB_eq (by rw [h])]; simp [h]
          · rw [sameB_ne (by simpa using h)]; simp [h]
        rw [e1] at w
        exact w
      have hL := hf.1
      refine s_lenT ha ?_
      walk_at "ss"
      refine s_lenT hb ?_
      walk_at "ss"
      refine s_itd (fun e => ?_) (fun e => ?_)
      · have hl : ds.length = es.length := by omega
        walk_at "ss"
        refine s_lenT ha ?_
        walk_at "ss"
        refine lcr_map (fun x => match x with | .int i => .bl (sameB (ds.getD i.toNat .none) (es.getD i.toNat .none)) | _ => .non) (by omega) (by omega) ?_ ?_
        · intro i hi H' s1 Q' hQ
          obtain ⟨v, d, h1, h2, h3⟩ := hxs.at (i := i) (by omega)
          obtain ⟨w, e', g1, g2, g3⟩ := hys.at (i := i) (by omega)
          walk_at "ss"
          refine s_ixT (s1 _ _ ha) (v := v) (atI_nat h1) ?_
          walk_at "ss"
          refine s_ixT (s1 _ _ hb) (v := w) (atI_nat g1) ?_
          walk_at "ss"
          refine ⟨_, _, rfl, d, e', h3.keep s1, g3.keep s1, hf.2 d (List.mem_of_getElem? h2), fun H2 s2 => ?_⟩
          have k1 : ds.getD i .none = d := by simp [List.getD, h2]
          have k2 : es.getD i .none = e' := by simp [List.getD, g2]
          have k3 : Q' (.bl (sameB (ds.getD i .none) (es.getD i .none))) H2 := hQ H2 s2
          rw [k1, k2] at k3
          exact k3
        · intro D H' hD s1 hl'
          walk_at "ss"
          refine s_all (bs := (List.range ds.length).map fun i => sameB (ds.getD i .none) (es.getD i .none)) ?_ ?_
          · rw [hl', List.map_map, ← e1]
            rfl
          · have := fin H' s1
            rw [← same_all hl] at this
            rw [List.all_map]
            exact this
      · have := fin H (Same.refl H)
        rw [show @decide (ds = es) (Classical.propDecidable _) = false by simp; intro h; apply e; rw [e1, e2, h]] at this
        exact this
    | dict _ => exact False.elim hY
    | _ =>
      walk_at "same"
      exact no (fun h => by cases h)
  | dict _ => exact False.elim hX
theorem same_ok {K : PySem.W.Frag} {x y : V} {d : PyData} {H : Hp} {Q : VK} {E : XK} (hx : Is H x d) (hy : Is H y d) (hf : Fits 4 d) (hq : ∀ H', Same H H' → Q (.bl true) H') : sp_law_same K [x, y] H Q E :=
  ⟨_, _, rfl, d, d, hx, hy, hf, fun H' s => by rw [sameB_eq rfl]; exact hq H' s⟩
def tH_law_same (K : PySem.W.Frag) (W : WX) : TS := (tCut (tIfS (tOr (tB (tCB (rIsi K) (tCons (tVar 0) (tCons (tC (.ty "bool")) tNil)))) (tB (tCB (rIsi K) (tCons (tVar 1) (tCons (tC (.ty "bool")) tNil))))) (tRet (tAndV (tCB (rIsi K) (tCons (tVar 0) (tCons (tC (.ty "bool")) tNil))) (tAndV (tCB (rIsi K) (tCons (tVar 1) (tCons (tC (.ty "bool")) tNil))) (tOp (rEqP K) (tVar 0) (tVar 1))))) tNext)
    (tCut (tIfS (tOr (tB (tCB (rIsi K) (tCons (tVar 0) (tCons (tC (.ty "int")) tNil)))) (tB (tCB (rIsi K) (tCons (tVar 1) (tCons (tC (.ty "int")) tNil))))) (tRet (tAndV (tCB (rIsi K) (tCons (tVar 0) (tCons (tC (.ty "int")) tNil))) (tAndV (tCB (rIsi K) (tCons (tVar 1) (tCons (tC (.ty "int")) tNil))) (tOp (rEqP K) (tVar 0) (tVar 1))))) tNext)
    (tCut (tIfS (tOr (tB (tCB (rIsi K) (tCons (tVar 0) (tCons (tC (.ty "str")) tNil)))) (tB (tCB (rIsi K) (tCons (tVar 1) (tCons (tC (.ty "str")) tNil))))) (tRet (tAndV (tCB (rIsi K) (tCons (tVar 0) (tCons (tC (.ty "str")) tNil))) (tAndV (tCB (rIsi K) (tCons (tVar 1) (tCons (tC (.ty "str")) tNil))) (tOp (rEqP K) (tVar 0) (tVar 1))))) tNext)
    (tSeq (tAsg (tAndV (tCB (rIsi K) (tCons (tVar 0) (tCons (tC (.ty "list")) tNil))) (tCB (rIsi K) (tCons (tVar 1) (tCons (tC (.ty "list")) tNil)))) (gName 2))
    (tCut (tIfS (tAnd (tNot (tB (tVar 2))) (tNot (tAnd (tB (tCB (rIsi K) (tCons (tVar 0) (tCons (tC (.ty "tuple")) tNil)))) (tB (tCB (rIsi K) (tCons (tVar 1) (tCons (tC (.ty "tuple")) tNil))))))) (tRet (tAndV (tOp (rIsP false) (tVar 0) (tC .non)) (tOp (rIsP false) (tVar 1) (tC .non)))) tNext)
    tNever)))))
def spH_law_same (K : PySem.W.Frag) : Sp := Sp2 fun x y H Q _ => ∃ d e : PyData, Is H x d ∧ Is H y e ∧ Fits 0 d ∧ Fits 0 e ∧ Q (.bl (sameB d e)) H
theorem pureH_law_same {K : PySem.W.Frag} {vs : List V} {H : Hp} {Q : VK} {E : XK} {W : WX} (h : spH_law_same K vs H Q E) : tH_law_same K W { nx := fun _ H' => Q .non H', rt := Q } (start N_law_same vs) H := by
  obtain ⟨x, y, rfl, d, e, hd, he, hf, hf2, q0⟩ := h
  show tH_law_same K W _ [some x, some y, none, none] H
  unfold tH_law_same
  have no : d ≠ e → Q (.bl false) H := fun e1 => by rw [sameB_ne e1] at q0; exact q0
  cases d with
  | none =>
    have hX : x = .non := by cases hd; rfl
    subst hX
    cases e with
    | none =>
      have hY : y = .non := by cases he; rfl
      subst hY
      walk_at "same"
      rw [sameB_eq rfl] at q0
      exact q0
    | list es => exact False.elim hf2
    | tuple es => exact False.elim hf2
    | dict _ => exact False.elim hf2
    | _ =>
      walk_at "same"
      exact no (fun h => by cases h)
  | bool a =>
    have hX : x = .bl a := by cases hd; rfl
    subst hX
    cases e with
    | bool b =>
      have hY : y = .bl b := by cases he; rfl
      subst hY
      walk_at "same"
      rw [sameB_bool] at q0
      exact q0
    | list es => exact False.elim hf2
    | tuple es => exact False.elim hf2
    | dict _ => exact False.elim hf2
    | _ =>
      walk_at "same"
      exact no (fun h => by cases h)
  | int a =>
    have hX : x = .int a := by cases hd; rfl
    subst hX
    cases e with
    | int b =>
      have hY : y = .int b := by cases he; rfl
      subst hY
      walk_at "same"
      rw [sameB_int] at q0
      exact q0
    | list es => exact False.elim hf2
    | tuple es => exact False.elim hf2
    | dict _ => exact False.elim hf2
    | _ =>
      walk_at "same"
      exact no (fun h => by cases h)
  | str a =>
    have hX : x = .str a := by cases hd; rfl
    subst hX
    cases e with
    | str b =>
      have hY : y = .str b := by cases he; rfl
      subst hY
      walk_at "same"
      rw [sameB_str] at q0
      exact q0
    | list es => exact False.elim hf2
    | tuple es => exact False.elim hf2
    | dict _ => exact False.elim hf2
    | _ =>
      walk_at "same"
      exact no (fun h => by cases h)
  | list ds => exact False.elim hf
  | tuple ds => exact False.elim hf
  | dict _ => cases hd
def tHL_law_same (K : PySem.W.Frag) (W : WX) : TS := (tCut (tIfS (tOr (tB (tCB (rIsi K) (tCons (tVar 0) (tCons (tC (.ty "bool")) tNil)))) (tB (tCB (rIsi K) (tCons (tVar 1) (tCons (tC (.ty "bool")) tNil))))) (tRet (tAndV (tCB (rIsi K) (tCons (tVar 0) (tCons (tC (.ty "bool")) tNil))) (tAndV (tCB (rIsi K) (tCons (tVar 1) (tCons (tC (.ty "bool")) tNil))) (tOp (rEqP K) (tVar 0) (tVar 1))))) tNext)
    (tCut (tIfS (tOr (tB (tCB (rIsi K) (tCons (tVar 0) (tCons (tC (.ty "int")) tNil)))) (tB (tCB (rIsi K) (tCons (tVar 1) (tCons (tC (.ty "int")) tNil))))) (tRet (tAndV (tCB (rIsi K) (tCons (tVar 0) (tCons (tC (.ty "int")) tNil))) (tAndV (tCB (rIsi K) (tCons (tVar 1) (tCons (tC (.ty "int")) tNil))) (tOp (rEqP K) (tVar 0) (tVar 1))))) tNext)
    (tCut (tIfS (tOr (tB (tCB (rIsi K) (tCons (tVar 0) (tCons (tC (.ty "str")) tNil)))) (tB (tCB (rIsi K) (tCons (tVar 1) (tCons (tC (.ty "str")) tNil))))) (tRet (tAndV (tCB (rIsi K) (tCons (tVar 0) (tCons (tC (.ty "str")) tNil))) (tAndV (tCB (rIsi K) (tCons (tVar 1) (tCons (tC (.ty "str")) tNil))) (tOp (rEqP K) (tVar 0) (tVar 1))))) tNext)
    (tSeq (tAsg (tAndV (tCB (rIsi K) (tCons (tVar 0) (tCons (tC (.ty "list")) tNil))) (tCB (rIsi K) (tCons (tVar 1) (tCons (tC (.ty "list")) tNil)))) (gName 2))
    (tCut (tIfS (tAnd (tNot (tB (tVar 2))) (tNot (tAnd (tB (tCB (rIsi K) (tCons (tVar 0) (tCons (tC (.ty "tuple")) tNil)))) (tB (tCB (rIsi K) (tCons (tVar 1) (tCons (tC (.ty "tuple")) tNil))))))) (tRet (tAndV (tOp (rIsP false) (tVar 0) (tC .non)) (tOp (rIsP false) (tVar 1) (tC .non)))) tNext)
    (tRet (tAndV (tOp (rEqP K) (tCB (rLenP K) (tCons (tVar 0) tNil)) (tCB (rLenP K) (tCons (tVar 1) tNil))) (tCB (rAll K) (tCons (tLc (iRng1 (tCons (tCB (rLenP K) (tCons (tVar 0) tNil)) tNil)) (gName 3) tYes (tCallS (spH_law_same K) (WE (fun _ _ _ _ => False)) (tCons (tOp (rIxP K) (tVar 0) (tVar 3)) (tCons (tOp (rIxP K) (tVar 1) (tVar 3)) tNil))) [3]) tNil)))))))))
def spHL_law_same (K : PySem.W.Frag) : Sp := Sp2 fun x y H Q _ => ∃ (a b : Addr) (xs ys : List Str), x = .ref a ∧ y = .ref b ∧ H a = some (.lst (xs.map V.str)) ∧ H b = some (.lst (ys.map V.str)) ∧ xs.length ≤ 1000 ∧ ys.length ≤ 1000 ∧ ∀ H', Same H H' → Q (.bl (decide (xs = ys))) H'
theorem all_at {xs ys : List Str} (hl : xs.length = ys.length) : ((List.range xs.length).map fun i => decide (xs[i]? = ys[i]?)).all id = decide (xs = ys) := by
  rw [Bool.eq_iff_iff, List.all_eq_true, decide_eq_true_eq]
  constructor
  · intro h
    refine List.ext_getElem? fun i => ?_
    by_cases hi : i < xs.length
    · exact of_decide_eq_true (h _ (List.mem_map.mpr ⟨i, List.mem_range.mpr hi, rfl⟩))
    · rw [List.getElem?_eq_none (by omega), List.getElem?_eq_none (by omega)]
  · intro e b hb
    obtain ⟨i, _, rfl⟩ := List.mem_map.mp hb
    rw [e]
    exact decide_eq_true rfl
theorem pureHL_law_same {K : PySem.W.Frag} {vs : List V} {H : Hp} {Q : VK} {E : XK} {W : WX} (h : spHL_law_same K vs H Q E) : tHL_law_same K W { nx := fun _ H' => Q .non H', rt := Q } (start N_law_same vs) H := by
  obtain ⟨x, y, rfl, a, b, xs, ys, rfl, rfl, ha, hb, lx, ly, hq⟩ := h
  show tHL_law_same K W _ [some (.ref a), some (.ref b), none, none] H
  unfold tHL_law_same
  have hX : Is H (.ref a) (.list (xs.map PyData.str)) := .lst ha (IsAll.strs xs)
  have hY : Is H (.ref b) (.list (ys.map PyData.str)) := .lst hb (IsAll.strs ys)
  walk_at "same"
  refine s_lenL ha ?_
  walk_at "ss"
  refine s_lenL hb ?_
  walk_at "ss"
  rw [List.length_map, List.length_map]
  refine s_itd (fun e => ?_) (fun e => ?_)
  · have hl : xs.length = ys.length := by omega
    walk_at "ss"
    refine s_lenL ha ?_
    walk_at "ss"
    rw [List.length_map]
    refine lcr_map (fun x => match x with | .int i => .bl (decide (xs[i.toNat]? = ys[i.toNat]?)) | _ => .non) (by omega) (by omega) ?_ ?_
    · intro i hi H' s1 Q' hQ
      obtain ⟨p, hp⟩ : ∃ p, xs[i]? = some p := ⟨_, List.getElem?_eq_getElem (by omega)⟩
      obtain ⟨q, hq2⟩ : ∃ q, ys[i]? = some q := ⟨_, List.getElem?_eq_getElem (by omega)⟩
      walk_at "ss"
      refine s_ixL (s1 _ _ ha) (v := .str p) (atI_nat (by rw [List.getElem?_map, hp]; rfl)) ?_
      walk_at "ss"
      refine s_ixL (s1 _ _ hb) (v := .str q) (atI_nat (by rw [List.getElem?_map, hq2]; rfl)) ?_
      walk_at "ss"
      refine ⟨_, _, rfl, .str p, .str q, .str _, .str _, trivial, trivial, ?_⟩
      have k3 : Q' (.bl (decide (xs[i]? = ys[i]?))) H' := hQ H' (Same.refl H')
      rw [hp, hq2] at k3
      rw [sameB_str]
      rw [show decide (p = q) = decide (some p = some q) by by_cases e : p = q <;> simp [e]]
      exact k3
    · intro D H' hD s1 hl'
      walk_at "ss"
      refine s_all (bs := (List.range xs.length).map fun i => decide (xs[i]? = ys[i]?)) ?_ ?_
      · rw [hl', List.map_map]
        rfl
      · rw [all_at hl]
        exact hq H' s1
  · have := hq H (Same.refl H)
    rw [decide_eq_false fun h => e (by rw [h])] at this
    exact this
end Rd
namespace Rd
open PySem PySem.Spec PyProof.Rows L2 He Px
/-! texts in order -/
def SLt (a b : Str) : Prop := a.cps.toList < b.cps.toList
instance : DecidableRel SLt := fun a b => inferInstanceAs (Decidable (a.cps.toList < b.cps.toList))
theorem SLt.irr {a : Str} : ¬ SLt a a := List.lt_irrefl _
theorem SLt.tr {a b c : Str} (h : SLt a b) (g : SLt b c) : SLt a c := List.lt_trans h g
theorem SLt.tri {a b : Str} (h : ¬ SLt a b) (g : ¬ SLt b a) : a = b := str_ext (List.le_antisymm (List.not_lt.mp g) (List.not_lt.mp h))
def Ord (l : List Str) : Prop := l.Pairwise SLt
theorem Ord.uniq : ∀ {a b : List Str}, Ord a → Ord b → (∀ x, x ∈ a ↔ x ∈ b) → a = b
  | [], [], _, _, _ => rfl
  | [], y :: b, _, _, h => absurd ((h y).mpr List.mem_cons_self) List.not_mem_nil
  | x :: a, [], _, _, h => absurd ((h x).mp List.mem_cons_self) List.not_mem_nil
  | x :: a, y :: b, ha, hb, h => by
    have ha' := List.pairwise_cons.mp ha
    have hb' := List.pairwise_cons.mp hb
    have e : x = y := by
      rcases List.mem_cons.mp ((h x).mp List.mem_cons_self) with e | e
      · exact e
      · rcases List.mem_cons.mp ((h y).mpr List.mem_cons_self) with e2 | e2
        · exact e2.symm
        · exact absurd (SLt.tr (hb'.1 x e) (ha'.1 y e2)) SLt.irr
    subst e
    rw [Ord.uniq ha'.2 hb'.2 fun z => ⟨fun hz => ?_, fun hz => ?_⟩]
    · rcases List.mem_cons.mp ((h z).mp (List.mem_cons_of_mem _ hz)) with e | e
      · subst e; exact absurd (ha'.1 z hz) SLt.irr
      · exact e
    · rcases List.mem_cons.mp ((h z).mpr (List.mem_cons_of_mem _ hz)) with e | e
      · subst e; exact absurd (hb'.1 z hz) SLt.irr
      · exact e
def ins (x : Str) : List Str → List Str
  | [] => [x]
  | y :: r => if x = y then y :: r else if SLt x y then x :: y :: r else y :: ins x r
theorem mem_ins {x z : Str} : ∀ {l : List Str}, z ∈ ins x l ↔ z = x ∨ z ∈ l
  | [] => by simp [ins]
  | y :: r => by
    unfold ins
    by_cases e : x = y
    · rw [if_pos e]; subst e; simp
    · rw [if_neg e]
      by_cases g : SLt x y
      · rw [if_pos g]; simp
      · rw [if_neg g, List.mem_cons, mem_ins, List.mem_cons]
        constructor
        · rintro (h | h | h)
          · exact .inr (.inl h)
          · exact .inl h
          · exact .inr (.inr h)
        · rintro (h | h | h)
          · exact .inr (.inl h)
          · exact .inl h
          · exact .inr (.inr h)
theorem ord_ins {x : Str} : ∀ {l : List Str}, Ord l → Ord (ins x l)
  | [], _ => List.pairwise_singleton _ _
  | y :: r, h => by
    unfold ins
    have h' := List.pairwise_cons.mp h
    by_cases e : x = y
    · rw [if_pos e]; exact h
    · rw [if_neg e]
      by_cases g : SLt x y
      · rw [if_pos g]
        refine List.pairwise_cons.mpr ⟨fun z hz => ?_, h⟩
        rcases List.mem_cons.mp hz with rfl | hz
        · exact g
        · exact g.tr (h'.1 z hz)
      · rw [if_neg g]
        refine List.pairwise_cons.mpr ⟨fun z hz => ?_, ord_ins h'.2⟩
        rcases mem_ins.mp hz with rfl | hz
        · by_cases g2 : SLt y z
          · exact g2
          · exact absurd (SLt.tri g g2) e
        · exact h'.1 z hz
/-- the different texts of a list, in order -/
def srt : List Str → List Str
  | [] => []
  | x :: r => ins x (srt r)
theorem mem_srt {z : Str} : ∀ {l : List Str}, z ∈ srt l ↔ z ∈ l
  | [] => Iff.rfl
  | x :: r => by rw [srt, mem_ins, mem_srt, List.mem_cons]
theorem ord_srt : ∀ l : List Str, Ord (srt l)
  | [] => List.Pairwise.nil
  | x :: r => ord_ins (ord_srt r)
theorem srt_eq {l a : List Str} (h : Ord a) (m : ∀ x, x ∈ a ↔ x ∈ l) : a = srt l := Ord.uniq h (ord_srt l) fun x => (m x).trans mem_srt.symm
theorem srt_congr {a b : List Str} (h : ∀ x, x ∈ a ↔ x ∈ b) : srt a = srt b := srt_eq (ord_srt a) fun x => mem_srt.trans (h x)
theorem ins_len (x : Str) : ∀ l : List Str, (ins x l).length ≤ l.length + 1
  | [] => by simp [ins]
  | y :: r => by
    unfold ins
    split
    · simp
    · split
      · simp
      · have := ins_len x r
        simp only [List.length_cons]
        omega
theorem srt_len : ∀ l : List Str, (srt l).length ≤ l.length
  | [] => Nat.le_refl _
  | x :: r => Nat.le_trans (ins_len x _) (Nat.succ_le_succ (srt_len r))
/-- what sorted says -/
theorem rising_ge {p : Str} : ∀ {l : List Str}, risingS p l = true → ∀ x ∈ l, ¬ SLt x p
  | [], _, x, hx => nomatch hx
  | y :: r, h, x, hx => by
    have h2 : (!ltCps y.cps.toList p.cps.toList && risingS y r) = true := h
    rw [Bool.and_eq_true, ltCps_eq] at h2
    have hy : ¬ SLt y p := by
      intro g
      have g' : y.cps.toList < p.cps.toList := g
      rw [decide_eq_true g'] at h2
      cases h2.1
    rcases List.mem_cons.mp hx with rfl | hx
    · exact hy
    · intro g
      have := rising_ge h2.2 x hx
      by_cases e : SLt p y
      · exact this (g.tr e)
      · have e2 := SLt.tri hy e
        subst e2
        exact this g
theorem sorted_pair : ∀ {l : List Str}, sortedS l = true → l.Pairwise fun a b => ¬ SLt b a
  | [], _ => List.Pairwise.nil
  | x :: r, h => by
    have h : risingS x r = true := h
    refine List.pairwise_cons.mpr ⟨fun y hy => rising_ge h y hy, ?_⟩
    cases r with
    | nil => exact List.Pairwise.nil
    | cons y r =>
      have h2 : (!ltCps y.cps.toList x.cps.toList && risingS y r) = true := h
      rw [Bool.and_eq_true] at h2
      exact sorted_pair (l := y :: r) h2.2
/-- a further text of a sorted list -/
theorem ord_more {ys acc : List Str} {i : Nat} {x : Str} (hs : ys.Pairwise fun a b => ¬ SLt b a) (hi : ys[i]? = some x) (ha : Ord acc) (hm : ∀ z, z ∈ acc ↔ z ∈ ys.take i) (hx : x ∉ acc) : Ord (acc ++ [x]) := by
  refine List.pairwise_append.mpr ⟨ha, List.pairwise_singleton _ _, fun a hA b hb => ?_⟩
  have e : b = x := by simpa using hb
  subst e
  obtain ⟨hl, rfl⟩ := List.getElem?_eq_some_iff.mp hi
  obtain ⟨j, hj, e⟩ := List.getElem_of_mem ((hm a).mp hA)
  rw [List.length_take] at hj
  have hj2 : j < i := by omega
  have e2 : ys[j]'(by omega) = a := by rw [← e, List.getElem_take]
  have q := List.pairwise_iff_getElem.mp hs j i (by omega) hl hj2
  rw [e2] at q
  by_cases g : SLt a ys[i]
  · exact g
  · have := SLt.tri g q
    subst this
    exact absurd hA hx
/-! literals in order -/
def flat (zs : List Str) (l : List Str) : List Str := l.flatMap fun n => [n, ("-" : Str) ++ n].filter fun z => decide (z ∈ zs)
theorem flat_len (zs : List Str) : ∀ l : List Str, (flat zs l).length ≤ 2 * l.length
  | [] => by simp [flat]
  | x :: r => by
    have ih := flat_len zs r
    unfold flat at ih ⊢
    rw [List.flatMap_cons, List.length_append, List.length_cons]
    have := List.length_filter_le (fun z => decide (z ∈ zs)) [x, ("-" : Str) ++ x]
    simp only [List.length_cons, List.length_nil] at this
    omega
theorem flat_more (zs l : List Str) (n : Str) : flat zs (l ++ [n]) = flat zs l ++ [n, ("-" : Str) ++ n].filter fun z => decide (z ∈ zs) := by
  unfold flat
  rw [List.flatMap_append]
  simp
def litO (ls : List Str) : List Str := flat ls (srt (ls.map bare))
theorem litO_congr {a b : List Str} (h : ∀ x, x ∈ a ↔ x ∈ b) : litO a = litO b := by
  unfold litO flat
  rw [srt_congr (a := a.map bare) (b := b.map bare) fun x => by simp [h]]
  congr 1
  funext n
  congr 1
  funext z
  rw [Bool.eq_iff_iff]
  simp [h]
theorem litO_len (ls : List Str) : (litO ls).length ≤ 2 * ls.length := by
  have h := flat_len ls (srt (ls.map bare))
  have h2 := srt_len (ls.map bare)
  rw [List.length_map] at h2
  unfold litO
  omega
def badOf (zs : List Str) : Option Str := zs.find? fun z => !isLit z
/-! names, literals -/
theorem dash_app (z : Str) : dash (("-" : Str) ++ z) = true := (dash_iff _).mpr ⟨z.cps.toList, by rw [app_toList]; rfl⟩
theorem tail_app (z : Str) : cutS (("-" : Str) ++ z) (some 1) none = z := str_ext (by rw [cut_tail, app_toList]; rfl)
theorem bare_app (z : Str) : bare (("-" : Str) ++ z) = z := by
  unfold bare
  rw [if_pos (dash_app z), tail_app]
theorem nm_first {z : Str} (h : isNm z = true) : ∃ c r, z.cps.toList = c :: r ∧ c ∈ lettersL ∧ (∀ x ∈ z.cps.toList, x ∈ signsL) ∧ 1 ≤ z.length ∧ z.length ≤ 8 := by
  unfold isNm at h
  rw [Bool.and_eq_true, Bool.and_eq_true, Bool.and_eq_true] at h
  obtain ⟨h1, h2, h3, h4⟩ := h
  have h1 : ¬ (z.length : Int) < 1 := by simpa using h1
  have h2 : ¬ (8 : Int) < (z.length : Int) := by simpa using h2
  cases e : z.cps.toList with
  | nil => rw [e] at h3; cases h3
  | cons c r =>
    rw [e] at h3 h4
    refine ⟨c, r, rfl, of_decide_eq_true h3, fun x hx => ?_, by omega, by omega⟩
    exact of_decide_eq_true (List.all_eq_true.mp h4 x hx)
theorem dash45 : (45 : Nat) ∉ lettersL := by decide +kernel
theorem nm_nodash {z : Str} (h : isNm z = true) : dash z = false := by
  obtain ⟨c, r, e, hc, _⟩ := nm_first h
  cases hd : dash z with
  | false => rfl
  | true =>
    obtain ⟨r2, e2⟩ := (dash_iff z).mp hd
    rw [e] at e2
    have : c = 45 := (List.cons.inj e2).1
    subst this
    exact absurd hc dash45
theorem nm_bare {z : Str} (h : isNm z = true) : bare z = z := by
  unfold bare
  rw [nm_nodash h, if_neg Bool.false_ne_true]
theorem nm_lit {z : Str} (h : isNm z = true) : isLit z = true := by unfold isLit; rw [nm_bare h]; exact h
theorem neg_lit {z : Str} (h : isNm z = true) : isLit (("-" : Str) ++ z) = true := by unfold isLit; rw [bare_app]; exact h
theorem bare_eq {z : Str} (h : dash z = true) : ("-" : Str) ++ bare z = z := by
  obtain ⟨r, e⟩ := (dash_iff z).mp h
  apply str_ext
  rw [app_toList]
  unfold bare
  rw [if_pos h, cut_tail, e]
  rfl
theorem lit_cases {z : Str} (h : isLit z = true) : z = bare z ∨ z = ("-" : Str) ++ bare z := by
  cases hd : dash z with
  | false => left; unfold bare; rw [hd, if_neg Bool.false_ne_true]
  | true => right; exact (bare_eq hd).symm
theorem lit_len {z : Str} (h : isLit z = true) : z.length ≤ 9 := by
  obtain ⟨_, _, _, _, _, _, h8⟩ := nm_first (show isNm (bare z) = true from h)
  rcases lit_cases h with e | e
  · rw [e]; omega
  · rw [e, app_len]; show 1 + _ ≤ 9; omega
theorem flip_lit {z : Str} (h : isLit z = true) : isLit (flip z) = true := by
  unfold flip
  cases hd : dash z with
  | true =>
    rw [if_pos rfl]
    have e : bare z = cutS z (some 1) none := by unfold bare; rw [if_pos hd]
    rw [← e]
    exact nm_lit h
  | false =>
    rw [if_neg Bool.false_ne_true]
    have e : bare z = z := by unfold bare; rw [hd, if_neg Bool.false_ne_true]
    have h2 : isNm (bare z) = true := h
    rw [e] at h2
    exact neg_lit h2
/-- strings that are no literals -/
theorem nodash_of {z : Str} {c : Nat} {r : List Nat} (e : z.cps.toList = c :: r) (h : c ≠ 45) : dash z = false := by
  cases hd : dash z with
  | false => rfl
  | true =>
    obtain ⟨r2, e2⟩ := (dash_iff z).mp hd
    rw [e] at e2
    exact absurd (List.cons.inj e2).1 h
theorem bad_sign {z : Str} {c : Nat} (h : c ∈ z.cps.toList) (h1 : c ∉ signsL) (h2 : c ≠ 45) : isLit z = false := by
  cases hl : isLit z with
  | false => rfl
  | true =>
    obtain ⟨_, _, _, _, hs, _⟩ := nm_first (show isNm (bare z) = true from hl)
    rcases lit_cases hl with e | e
    · rw [e] at h; exact absurd (hs c h) h1
    · rw [e, app_toList] at h
      rcases List.mem_append.mp h with h | h
      · have : c = 45 := by simpa using (show c ∈ [45] from h)
        exact absurd this h2
      · exact absurd (hs c h) h1
theorem bad_first {z : Str} {c : Nat} {r : List Nat} (e : z.cps.toList = c :: r) (h : c ≠ 45) (h1 : c ∉ lettersL) : isLit z = false := by
  cases hl : isLit z with
  | false => rfl
  | true =>
    have hb : bare z = z := by unfold bare; rw [nodash_of e h, if_neg Bool.false_ne_true]
    obtain ⟨c2, r2, e2, hc, _⟩ := nm_first (show isNm (bare z) = true from hl)
    rw [hb, e] at e2
    rw [(List.cons.inj e2).1] at h1
    exact absurd hc h1
theorem bad_long {z : Str} {c : Nat} {r : List Nat} (e : z.cps.toList = c :: r) (h : c ≠ 45) (h1 : 8 < z.length) : isLit z = false := by
  cases hl : isLit z with
  | false => rfl
  | true =>
    have hb : bare z = z := by unfold bare; rw [nodash_of e h, if_neg Bool.false_ne_true]
    obtain ⟨_, _, _, _, _, _, h8⟩ := nm_first (show isNm (bare z) = true from hl)
    rw [hb] at h8
    omega
theorem letter_ne {c : Nat} (h : c ∈ lettersL) : c ≠ 45 := fun e => by rw [e] at h; exact dash45 h
/-! cuts -/
theorem cut_to (z : Str) (k : Nat) : (cutS z none (some (k : Int))).cps.toList = z.cps.toList.take k := by
  unfold cutS
  have e : HT.sIx z.length z.length (some (k : Int)) = min k z.length := HT.sIx_nat z.length z.length k
  rw [e, HT.sIx_none]
  show List.take (min k z.length - 0) (List.drop 0 z.cps.toList) = _
  rw [List.drop_zero, Nat.sub_zero, ← len_toList]
  rcases Nat.le_total k z.cps.toList.length with h | h
  · rw [Nat.min_eq_left h]
  · rw [Nat.min_eq_right h, List.take_of_length_le (Nat.le_refl _), List.take_of_length_le h]
theorem cut_from (z : Str) (k : Nat) : (cutS z (some (k : Int)) none).cps.toList = z.cps.toList.drop k := by
  unfold cutS
  have e : HT.sIx z.length 0 (some (k : Int)) = min k z.length := HT.sIx_nat z.length 0 k
  rw [e, HT.sIx_none]
  show List.take (z.length - min k z.length) (List.drop (min k z.length) z.cps.toList) = _
  rw [← len_toList]
  rcases Nat.le_total k z.cps.toList.length with h | h
  · rw [Nat.min_eq_left h, List.take_of_length_le (by rw [List.length_drop]; omega)]
  · rw [Nat.min_eq_right h, List.drop_of_length_le (Nat.le_refl _), List.drop_of_length_le h, List.take_nil]
theorem cut_mid {z : Str} {lo hi : Option Int} {x : Nat} (h : x ∈ (cutS z lo hi).cps.toList) : x ∈ z.cps.toList := by
  unfold cutS at h
  exact List.mem_of_mem_drop (List.mem_of_mem_take (by simpa using h))
theorem wrd_put {a b : Str} {c : Nat} (ha : a.cps.toList = [] ∨ Wrd a) (hc : c ∈ lettersL) (hb : ∀ x ∈ b.cps.toList, x ∈ signsL) : Wrd (a ++ ⟨#[c]⟩ ++ b) := by
  have e : (a ++ ⟨#[c]⟩ ++ b).cps.toList = a.cps.toList ++ (c :: b.cps.toList) := by
    rw [app_toList, app_toList, List.append_assoc]
    rfl
  rcases ha with ha | ⟨d, r, e1, h1, h2⟩
  · exact ⟨c, b.cps.toList, by rw [e, ha]; rfl, hc, hb⟩
  · refine ⟨d, r ++ (c :: b.cps.toList), by rw [e, e1]; rfl, h1, fun x hx => ?_⟩
    rcases List.mem_append.mp hx with hx | hx
    · exact h2 x hx
    · rcases List.mem_cons.mp hx with rfl | hx
      · exact letters_signs hc
      · exact hb x hx
theorem wrd_to {z : Str} (h : Wrd z) (k : Nat) : (cutS z none (some (k : Int))).cps.toList = [] ∨ Wrd (cutS z none (some (k : Int))) := by
  obtain ⟨c, r, e, h1, h2⟩ := h
  cases k with
  | zero => left; rw [cut_to]; rfl
  | succ k => right; exact ⟨c, r.take k, by rw [cut_to, e]; rfl, h1, fun x hx => h2 x (List.mem_of_mem_take hx)⟩
theorem wrd_signs {z : Str} (h : Wrd z) : ∀ x ∈ z.cps.toList, x ∈ signsL := by
  obtain ⟨c, r, e, h1, h2⟩ := h
  intro x hx
  rw [e] at hx
  rcases List.mem_cons.mp hx with rfl | hx
  · exact letters_signs h1
  · exact h2 x hx
theorem cutS_lenle (z : Str) (k : Int) (h : 0 ≤ k) : ((cutS z none (some k)).length : Int) ≤ k := by
  have e : (cutS z none (some k)).cps.toList = z.cps.toList.take k.toNat := by
    have := cut_to z k.toNat
    rw [Int.toNat_of_nonneg h] at this
    exact this
  have l := len_toList (cutS z none (some k))
  rw [e, List.length_take] at l
  omega
/-! searching -/
theorem find_at {α : Type} {p : α → Bool} {x : α} (hx : p x = true) : ∀ {l : List α} {i : Nat}, l[i]? = some x → (∀ y ∈ l.take i, p y = false) → l.find? p = some x
  | [], i, h, _ => by cases i <;> cases h
  | y :: r, 0, h, _ => by
    have e : y = x := Option.some.inj h
    subst e
    rw [List.find?_cons, hx]
  | y :: r, i + 1, h, hb => by
    rw [List.find?_cons, hb y List.mem_cons_self]
    exact find_at hx (l := r) (i := i) (by simpa using h) fun z hz => hb z (List.mem_cons_of_mem _ hz)
theorem find_no {α : Type} {p : α → Bool} {l : List α} (hb : ∀ y ∈ l, p y = false) : l.find? p = none := List.find?_eq_none.mpr fun y hy => by rw [hb y hy]; exact Bool.false_ne_true
theorem at_strs {zs : List Str} {i : Nat} {y : V} (h : (zs.map V.str)[i]? = some y) : ∃ z, zs[i]? = some z ∧ y = .str z := by
  rw [List.getElem?_map] at h
  cases e : zs[i]? with
  | none => rw [e] at h; cases h
  | some z => rw [e] at h; exact ⟨z, rfl, (Option.some.inj h).symm⟩
theorem take_all {α : Type} {P : α → Prop} {l : List α} {i : Nat} {x : α} (hi : l[i]? = some x) (h : ∀ y ∈ l.take i, P y) (hx : P x) : ∀ y ∈ l.take (i + 1), P y := fun y hy => by
  rw [take_more hi] at hy
  rcases List.mem_append.mp hy with hy | hy
  · exact h y hy
  · have : y = x := by simpa using hy
    rw [this]; exact hx
def badN (zs : List Str) : Option Str := zs.find? fun z => !isNm z
theorem badN_none {zs : List Str} (h : ∀ z ∈ zs, isNm z = true) : badN zs = none := find_no fun z hz => by rw [h z hz]; rfl
theorem badOf_none {zs : List Str} (h : ∀ z ∈ zs, isLit z = true) : badOf zs = none := find_no fun z hz => by rw [h z hz]; rfl
theorem badOf_ok {zs : List Str} (h : badOf zs = none) : ∀ z ∈ zs, isLit z = true := fun z hz => by
  have := List.find?_eq_none.mp h z hz
  cases e : isLit z with
  | true => rfl
  | false => rw [e] at this; exact absurd rfl this
/-- the loop's accumulator -/
theorem nub_step {ys acc : List Str} {i : Nat} {x : Str} (hs : ys.Pairwise fun a b => ¬ SLt b a) (hi : ys[i]? = some x) (ha : Ord acc) (hm : ∀ z, z ∈ acc ↔ z ∈ ys.take i) : (x ∈ acc → ∀ z, z ∈ acc ↔ z ∈ ys.take (i + 1)) ∧ (x ∉ acc → Ord (acc ++ [x]) ∧ ∀ z, z ∈ acc ++ [x] ↔ z ∈ ys.take (i + 1)) := by
  refine ⟨fun hx z => ?_, fun hx => ⟨ord_more hs hi ha hm hx, fun z => ?_⟩⟩
  · rw [take_more hi, List.mem_append, ← hm z]
    constructor
    · exact .inl
    · rintro (h | h)
      · exact h
      · have : z = x := by simpa using h
        rw [this]; exact hx
  · rw [take_more hi, List.mem_append, List.mem_append, ← hm z]
theorem filt1 {zs : List Str} {z : Str} (h : z ∈ zs) : [z].filter (fun z => decide (z ∈ zs)) = [z] := by simp [h]
theorem filt0 {zs : List Str} {z : Str} (h : z ∉ zs) : [z].filter (fun z => decide (z ∈ zs)) = [] := by simp [h]
theorem map_snoc (l : List Str) (z : Str) : (l ++ [z]).map V.str = l.map V.str ++ [V.str z] := by simp
theorem at_str {l : List Str} {i : Int} (h0 : 0 ≤ i) (h1 : i < (l.length : Int)) : ∃ z, z ∈ l ∧ atI (l.map V.str) i = some (.str z) := by
  have hl : i.toNat < l.length := by omega
  refine ⟨l[i.toNat], List.getElem_mem hl, ?_⟩
  unfold atI ixN
  rw [if_pos h0, if_pos (by rw [List.length_map]; omega)]
  simp [hl]
theorem flip_bare {z : Str} (h : isLit z = true) : bare (flip z) = bare z := by
  unfold flip
  cases hd : dash z with
  | true =>
    rw [if_pos rfl]
    have e : bare z = cutS z (some 1) none := by unfold bare; rw [if_pos hd]
    rw [← e]
    exact nm_bare h
  | false =>
    rw [if_neg Bool.false_ne_true, bare_app]
    unfold bare
    rw [hd, if_neg Bool.false_ne_true]
/-- the object at c is a clause with these literals -/
def IsCl (K : PySem.W.Frag) (H : Hp) (c : Addr) (ls : List Str) : Prop := ∃ dx q, H c = some (.ins (ga K "Clause") dx [("literals", .ref q)]) ∧ H q = some (.tup (ls.map V.str))
theorem IsCl.keep {K : PySem.W.Frag} {H H' : Hp} {c : Addr} {ls : List Str} (h : IsCl K H c ls) (s : Same H H') : IsCl K H' c ls := by
  obtain ⟨dx, q, h1, h2⟩ := h
  exact ⟨dx, q, s _ _ h1, s _ _ h2⟩
theorem DpAll.strs {K : PySem.W.Frag} {H : Hp} : ∀ l : List Str, DpAll K H (l.map V.str) (l.map PyData.str)
  | [] => .nil
  | x :: r => .cons (.str x) (DpAll.strs r)
theorem litO_mem {zs : List Str} {z : Str} (h : z ∈ litO zs) : z ∈ zs := by
  unfold litO flat at h
  obtain ⟨n, _, hz⟩ := List.mem_flatMap.mp h
  exact of_decide_eq_true (List.mem_filter.mp hz).2
theorem litO_iff {zs : List Str} (h : ∀ z ∈ zs, isLit z = true) {z : Str} : z ∈ litO zs ↔ z ∈ zs := by
  refine ⟨litO_mem, fun hz => ?_⟩
  unfold litO flat
  refine List.mem_flatMap.mpr ⟨bare z, mem_srt.mpr (List.mem_map_of_mem hz), ?_⟩
  refine List.mem_filter.mpr ⟨?_, decide_eq_true hz⟩
  rcases lit_cases (h z hz) with e | e
  · rw [← e]; exact List.mem_cons_self
  · rw [← e]; exact List.mem_cons_of_mem _ List.mem_cons_self
theorem three {H : Hp} {q : Addr} {x y z : V} {d e f : PyData} (h : H q = some (.tup [x, y, z])) (h1 : Is H x d) (h2 : Is H y e) (h3 : Is H z f) : Is H (.ref q) (.tuple [d, e, f]) := .tup h (.cons h1 (.cons h2 (.cons h3 .nil)))
/-! rows of literals of different names, as sets -/
theorem ins_len_new {x : Str} : ∀ {l : List Str}, x ∉ l → (ins x l).length = l.length + 1
  | [], _ => rfl
  | y :: r, h => by
    have h1 : ¬ x = y := fun e => h (e ▸ List.mem_cons_self)
    have h2 : x ∉ r := fun m => h (List.mem_cons_of_mem _ m)
    have ih := ins_len_new h2
    unfold ins
    rw [if_neg h1]
    split
    · rfl
    · rw [List.length_cons, ih]
      rfl
theorem srt_len_nd : ∀ {l : List Str}, l.Nodup → (srt l).length = l.length
  | [], _ => rfl
  | x :: r, h => by
    obtain ⟨h1, h2⟩ := List.nodup_cons.mp h
    show (ins x (srt r)).length = _
    rw [ins_len_new fun m => h1 (mem_srt.mp m), srt_len_nd h2]
    rfl
theorem inj_bare : ∀ {zs : List Str}, (zs.map bare).Nodup → ∀ x ∈ zs, ∀ y ∈ zs, bare x = bare y → x = y
  | [], _, x, hx, _, _, _ => by cases hx
  | z :: r, h, x, hx, y, hy, e => by
    obtain ⟨h1, h2⟩ := List.nodup_cons.mp (show (bare z :: r.map bare).Nodup from h)
    rcases List.mem_cons.mp hx with hx' | hx'
    · rcases List.mem_cons.mp hy with hy' | hy'
      · rw [hx', hy']
      · refine absurd ?_ h1
        rw [← hx', e]
        exact List.mem_map_of_mem hy'
    · rcases List.mem_cons.mp hy with hy' | hy'
      · refine absurd ?_ h1
        rw [← hy', ← e]
        exact List.mem_map_of_mem hx'
      · exact inj_bare h2 x hx' y hy' e
theorem neg_ne (n : Str) : n ≠ ("-" : Str) ++ n := fun e => by
  have := congrArg (fun z : Str => z.cps.toList.length) e
  simp only [app_toList, List.length_append] at this
  have h1 : (("-" : Str).cps.toList).length = 1 := rfl
  omega
theorem flat_len_one {zs : List Str} : ∀ {l : List Str}, (∀ n ∈ l, (n ∈ zs ∨ ("-" : Str) ++ n ∈ zs) ∧ ¬ (n ∈ zs ∧ ("-" : Str) ++ n ∈ zs)) → (flat zs l).length = l.length
  | [], _ => rfl
  | n :: r, h => by
    have ih := flat_len_one (zs := zs) (l := r) fun m hm => h m (List.mem_cons_of_mem _ hm)
    have hn := h n List.mem_cons_self
    have e : flat zs (n :: r) = ([n, ("-" : Str) ++ n].filter fun z => decide (z ∈ zs)) ++ flat zs r := by unfold flat; rw [List.flatMap_cons]
    rw [e, List.length_append, ih, List.length_cons]
    by_cases h1 : n ∈ zs <;> by_cases h2 : ("-" : Str) ++ n ∈ zs <;> simp [h1, h2] at hn ⊢ <;> omega
theorem litO_len_nd {zs : List Str} (h : ∀ z ∈ zs, isLit z = true) (hn : (zs.map bare).Nodup) : (litO zs).length = zs.length := by
  have e := srt_len_nd hn
  rw [List.length_map] at e
  rw [← e]
  refine flat_len_one fun n hm => ?_
  obtain ⟨y, hy, rfl⟩ := List.mem_map.mp (mem_srt.mp hm)
  constructor
  · rcases lit_cases (h y hy) with e | e
    · left; rw [← e]; exact hy
    · right; rw [← e]; exact hy
  · rintro ⟨h1, h2⟩
    refine neg_ne (bare y) (inj_bare hn _ h1 _ h2 ?_)
    rw [bare_app, nm_bare (h y hy)]
theorem filt_nd {zs : List Str} (p : Str → Bool) (hn : (zs.map bare).Nodup) : ((zs.filter p).map bare).Nodup := hn.sublist ((List.filter_sublist (l := zs)).map bare)
/-- a row of at most six literals of different names -/
structure Row6 (zs : List Str) : Prop where
  len : zs.length ≤ 6
  lit : ∀ z ∈ zs, isLit z = true
  nd : (zs.map bare).Nodup
theorem Row6.filter {zs : List Str} (h : Row6 zs) (p : Str → Bool) : Row6 (zs.filter p) := ⟨by have := List.length_filter_le p zs; have := h.len; omega, fun z hz => h.lit z (List.mem_filter.mp hz).1, filt_nd p h.nd⟩
theorem Row6.reverse {zs : List Str} (h : Row6 zs) : Row6 zs.reverse := ⟨by rw [List.length_reverse]; exact h.len, fun z hz => h.lit z (List.mem_reverse.mp hz), by rw [List.map_reverse]; exact List.pairwise_reverse.mpr (h.nd.imp Ne.symm)⟩
theorem Row6.litO {zs : List Str} (h : Row6 zs) : (litO zs).length = zs.length := litO_len_nd h.lit h.nd
theorem Row6.mem {zs : List Str} (h : Row6 zs) {z : Str} : z ∈ Rd.litO zs ↔ z ∈ zs := litO_iff h.lit
/-! lists of texts: comprehensions, joining -/
def gS (g : Str → V) : V → V
  | .str z => g z
  | _ => .non
def cS (c : Str → Bool) : V → Bool
  | .str z => c z
  | _ => false
theorem map_gS (g : Str → V) (zs : List Str) : (zs.map V.str).map (gS g) = zs.map g := by rw [List.map_map]; rfl
theorem filter_cS (c : Str → Bool) (zs : List Str) : (zs.map V.str).filter (cS c) = (zs.filter c).map V.str := by rw [List.filter_map]; rfl
theorem lcS_filt {K : PySem.W.Frag} {H1 : Hp} {σ : L2.St} {Q : VK} {v : Nat} {tt : TT} {te : TE} {x : V} {zs : List Str} (f : Str → Str) (c : Str → Bool) (hx : Items K H1 x (zs.map V.str)) (hl : zs.length ≤ 1000000)
    (hc : ∀ z ∈ zs, ∀ H', Same H1 H' → ∀ Q' : Bool → Hp → Prop, (∀ H'', Same H' H'' → Q' (c z) H'') → tt (σ.set v (some (.str z))) H' Q')
    (hf : ∀ z ∈ zs, c z = true → ∀ H', Same H1 H' → ∀ Q' : VK, (∀ H'', Same H' H'' → Q' (.str (f z)) H'') → te (σ.set v (some (.str z))) H' Q')
    (hq : ∀ D H', H1 D = none → Same H1 H' → H' D = some (.lst (((zs.filter c).map f).map V.str)) → Q (.ref D) H') : LcBody K (gName v) tt te [v] σ Q x H1 := by
  refine lcb_filt (gS fun z => .str (f z)) (cS c) hx (by rw [List.length_map]; exact hl) ?_ ?_ ?_
  · intro x hx H' s Q' hQ
    obtain ⟨z, hz, rfl⟩ := List.mem_map.mp hx
    exact hc z hz H' s Q' hQ
  · intro x hx hcx H' s Q' hQ
    obtain ⟨z, hz, rfl⟩ := List.mem_map.mp hx
    exact hf z hz hcx H' s Q' hQ
  · intro D H' h0 s h
    rw [filter_cS, map_gS] at h
    exact hq D H' h0 s (by rw [h, List.map_map]; rfl)
theorem IsAll.bls {H : Hp} : ∀ l : List Bool, IsAll H (l.map V.bl) (l.map PyData.bool)
  | [] => .nil
  | b :: r => .cons (.bl b) (IsAll.bls r)
theorem fits_strs {l : List Str} (h : l.length ≤ 1000000) : Fits 4 (.tuple (l.map .str)) ∧ Fits 4 (.list (l.map .str)) := by
  have a : ∀ d ∈ l.map PyData.str, Fits 3 d := fun d hd => by
    obtain ⟨z, _, rfl⟩ := List.mem_map.mp hd
    trivial
  exact ⟨⟨by rw [List.length_map]; exact h, a⟩, ⟨by rw [List.length_map]; exact h, a⟩⟩
theorem same_un {H H' : Hp} {q : Addr} (s : Same H H') (h : H' q = none) : H q = none := by
  cases e : H q with
  | none => rfl
  | some o => rw [s _ _ e] at h; cases h
theorem same_put {H H' : Hp} {q : Addr} {o : HO} (s : Same H H') (h : H q = none) : Same H (upd H' q o) := fun b u e => by
  rw [upd_ne (ne_of_none e h)]
  exact s _ _ e
/-! [e for k in range(j)], e draws from the source -/
/-! turnings -/
def IsTu (K : PySem.W.Frag) (H : Hp) (c : Addr) (ns : List Str) : Prop := ∃ dx q, H c = some (.ins (ga K "Turning") dx [("turned", .ref q)]) ∧ H q = some (.tup (ns.map V.str))
theorem IsTu.keep {K : PySem.W.Frag} {H H' : Hp} {c : Addr} {ns : List Str} (h : IsTu K H c ns) (s : Same H H') : IsTu K H' c ns := by
  obtain ⟨dx, q, h1, h2⟩ := h
  exact ⟨dx, q, s _ _ h1, s _ _ h2⟩
/-- a turning of the names is made, or refused -/
structure ChT (K : PySem.W.Frag) (zs : List Str) (H : Hp) (E : XK) (ok : Prop) : Prop where
  bad : ∀ z, badN zs = some z → ∀ H' d, Same H H' → H' d = some (.xd [("text", .str z)]) → E (.ref (ga K "BadName")) (some d) H'
  many : badN zs = none → (12 : Int) < ((srt zs).length : Int) → ∀ H' d, Same H H' → H' d = some (.xd [("limit", .int 12)]) → E (.ref (ga K "TooMany")) (some d) H'
  fine : badN zs = none → ((srt zs).length : Int) ≤ 12 → ok
theorem ChT.keep {K : PySem.W.Frag} {zs : List Str} {H H1 : Hp} {E : XK} {ok ok' : Prop} (h : ChT K zs H E ok) (s : Same H H1) (f : ok → ok') : ChT K zs H1 E ok' :=
  ⟨fun z e H' d s' => h.bad z e H' d (s.trans s'), fun e e2 H' d s' => h.many e e2 H' d (s.trans s'), fun e e2 => f (h.fine e e2)⟩
abbrev CkT (K : PySem.W.Frag) (zs : List Str) (H : Hp) (Q : VK) (E : XK) : Prop := ChT K zs H E (∀ H' c, Same H H' → H c = none → IsTu K H' c (srt zs) → Q (.ref c) H')
theorem CkT.keep {K : PySem.W.Frag} {zs : List Str} {H H1 : Hp} {Q : VK} {E : XK} (h : CkT K zs H Q E) (s : Same H H1) : CkT K zs H1 Q E := ChT.keep h s fun ok H' c s2 hc => ok H' c (s.trans s2) (same_un s hc)
/-- names, in order, each once -/
structure Tn (ns : List Str) : Prop where
  nm : ∀ z ∈ ns, isNm z = true
  ord : Ord ns
  len : ns.length ≤ 12
theorem Tn.srt {ns : List Str} (h : Tn ns) : srt ns = ns := (srt_eq h.ord fun _ => Iff.rfl).symm
theorem Tn.of {zs : List Str} (hn : ∀ z ∈ zs, isNm z = true) (hl : (Rd.srt zs).length ≤ 12) : Tn (Rd.srt zs) := ⟨fun z h => hn z (mem_srt.mp h), ord_srt zs, hl⟩
theorem nm_short {z : Str} (h : isNm z = true) : z.length ≤ 8 := by obtain ⟨_, _, _, _, _, _, h8⟩ := nm_first h; exact h8
/-- a literal turned -/
def turnL (ns : List Str) (z : Str) : Str := if bare z ∈ ns then flip z else z
theorem turnL_lit {ns : List Str} {z : Str} (h : isLit z = true) : isLit (turnL ns z) = true := by
  unfold turnL
  split
  · exact flip_lit h
  · exact h
theorem turnL_bare {ns : List Str} {z : Str} (h : isLit z = true) : bare (turnL ns z) = bare z := by
  unfold turnL
  split
  · exact flip_bare h
  · rfl
/-- a turning of the ordered names is made, or refused -/
def MkT (K : PySem.W.Frag) (ns : List Str) (H : Hp) (Q : VK) (E : XK) : Prop := (ns.length ≤ 12 → ∀ H' c, Same H H' → H c = none → IsTu K H' c ns → Q (.ref c) H') ∧ (12 < ns.length → ∀ H' d, Same H H' → H' d = some (.xd [("limit", .int 12)]) → E (.ref (ga K "TooMany")) (some d) H')
theorem MkT.keep {K : PySem.W.Frag} {ns : List Str} {H H1 : Hp} {Q : VK} {E : XK} (h : MkT K ns H Q E) (s : Same H H1) : MkT K ns H1 Q E := ⟨fun l H' c s2 hc => h.1 l H' c (s.trans s2) (same_un s hc), fun l H' d s2 => h.2 l H' d (s.trans s2)⟩
theorem MkT.fine {K : PySem.W.Frag} {ns : List Str} {H : Hp} {Q : VK} {E : XK} (hl : ns.length ≤ 12) (h : ∀ H' c, Same H H' → H c = none → IsTu K H' c ns → Q (.ref c) H') : MkT K ns H Q E := ⟨fun _ => h, fun l => by omega⟩
theorem Row6.turn {zs : List Str} (h : Row6 zs) (ns : List Str) : Row6 (zs.map (turnL ns)) := ⟨by rw [List.length_map]; exact h.len, fun z hz => by
    obtain ⟨y, hy, rfl⟩ := List.mem_map.mp hz
    exact turnL_lit (h.lit y hy), by
    have e : (zs.map (turnL ns)).map bare = zs.map bare := by
      rw [List.map_map]
      exact List.map_congr_left fun z hz => turnL_bare (h.lit z hz)
    rw [e]
    exact h.nd⟩
/-- a list of different names, at most 12 -/
structure Nms (zs : List Str) : Prop where
  len : zs.length ≤ 12
  nm : ∀ z ∈ zs, isNm z = true
  nd : zs.Nodup
theorem Nms.tn {zs : List Str} (h : Nms zs) : Tn (Rd.srt zs) := Tn.of h.nm (by have := srt_len zs; have := h.len; omega)
theorem Row6.sub {zs ys : List Str} (h : Row6 zs) (s : ys.Sublist zs) : Row6 ys := ⟨Nat.le_trans s.length_le h.len, fun z hz => h.lit z (s.subset hz), h.nd.sublist (s.map bare)⟩
theorem IsTu.upd {K : PySem.W.Frag} {H : Hp} {c D : Addr} {ns : List Str} {zs ws : List V} (h : IsTu K H c ns) (hD : H D = some (.lst zs)) : IsTu K (L2.upd H D (.lst ws)) c ns := by
  obtain ⟨dx, q, h1, h2⟩ := h
  refine ⟨dx, q, ?_, ?_⟩
  · rw [upd_ne (fun e => by rw [e, hD] at h1; cases h1)]; exact h1
  · rw [upd_ne (fun e => by rw [e, hD] at h2; cases h2)]; exact h2
theorem Nms.sub {l zs : List Str} (hn : ∀ z ∈ l, isNm z = true) (hd : l.Nodup) (s : zs.Sublist l) (hl : zs.length ≤ 12) : Nms zs := ⟨hl, fun z h => hn z (s.subset h), hd.sublist s⟩
/-- three lists of names -/
structure Rows3 (H : Hp) (r : Addr) (rs : List Addr) (zss : List (List Str)) : Prop where
  at_ : H r = some (.lst (rs.map V.ref))
  lr : rs.length = 3
  lz : zss.length = 3
  row : ∀ i, i < 3 → ∃ q z, rs[i]? = some q ∧ zss[i]? = some z ∧ H q = some (.lst (z.map V.str)) ∧ Nms z
theorem Rows3.keep {H H' : Hp} {r : Addr} {rs : List Addr} {zss : List (List Str)} (h : Rows3 H r rs zss) (s : Same H H') : Rows3 H' r rs zss := ⟨s _ _ h.at_, h.lr, h.lz, fun i hi => by
  obtain ⟨q, z, h1, h2, h3, h4⟩ := h.row i hi
  exact ⟨q, z, h1, h2, s _ _ h3, h4⟩⟩
theorem Rows3.of {H : Hp} {r q0 q1 q2 : Addr} {z0 z1 z2 : List Str} (h : H r = some (.lst [.ref q0, .ref q1, .ref q2])) (h0 : H q0 = some (.lst (z0.map V.str))) (h1 : H q1 = some (.lst (z1.map V.str))) (h2 : H q2 = some (.lst (z2.map V.str))) (n0 : Nms z0) (n1 : Nms z1) (n2 : Nms z2) : Rows3 H r [q0, q1, q2] [z0, z1, z2] := ⟨h, rfl, rfl, fun i hi => by
  match i, hi with
  | 0, _ => exact ⟨_, _, rfl, rfl, h0, n0⟩
  | 1, _ => exact ⟨_, _, rfl, rfl, h1, n1⟩
  | 2, _ => exact ⟨_, _, rfl, rfl, h2, n2⟩⟩
end Rd
namespace Rd
open PySem PySem.Spec PyProof.Rows L2 He Px
def sp_is_name (K : PySem.W.Frag) : Sp := Sp1 fun x H Q _ => ∃ z : Str, x = .str z ∧ z.length ≤ 1000000 ∧ ∀ H', Same H H' → Q (.bl (isNm z)) H'
def N_is_name : List PySem.Str := ["text", "sign"]
def t_is_name (K : PySem.W.Frag) (W : WX) : TS := (tCut (tIfS (tOr (tTest (tOp rLtP (tCB (rLenP K) (tCons (tVar 0) tNil)) (tC (.int 1)))) (tTest (tOp rGtP (tCB (rLenP K) (tCons (tVar 0) tNil)) (tC (.int 8))))) (tRet (tC (.bl false))) tNext)
    (tCut (tIfS (tTest (tOp (rInP K true) (tOp (rIxP K) (tVar 0) (tC (.int 0))) (tC (.str "abcdefghijklmnopqrstuvwxyz")))) (tRet (tC (.bl false))) tNext)
    (tRet (tCB (rAll K) (tCons (tLc (iAnyP K (tVar 0)) (gName 1) tYes (tOp (rInP K false) (tVar 1) (tC (.str "abcdefghijklmnopqrstuvwxyz0123456789"))) [1]) tNil)))))
theorem all_comp {l : List Nat} {p : Nat → Bool} : ((l.map p).all id) = l.all p := by rw [List.all_map]; rfl
theorem pure_is_name {K : PySem.W.Frag} {vs : List V} {H : Hp} {Q : VK} {E : XK} {W : WX} (h : sp_is_name K vs H Q E) : t_is_name K W { nx := fun _ H' => Q .non H', rt := Q } (start N_is_name vs) H := by
  obtain ⟨x, rfl, z, rfl, hz, hq⟩ := h
  show t_is_name K W _ [some (.str z), none] H
  unfold t_is_name
  have hs : z.length ≤ sizeLine := one_lt hz
  have no : isNm z = false → Q (.bl false) H := fun e => by have := hq H (Same.refl H); rw [e] at this; exact this
  refine s_nocut ?_
  walk_at "ss"
  refine s_lenS hs ?_
  walk_at "ss"
  refine s_itd (fun e1 => ?_) (fun e1 => ?_)
  · rw [if_pos rfl]
    walk_at "ss"
    exact no (by unfold isNm; rw [decide_eq_true e1]; rfl)
  · walk_at "ss"
    refine s_lenS hs ?_
    walk_at "ss"
    refine s_itd (fun e2 => ?_) (fun e2 => ?_)
    · walk_at "ss"
      exact no (by unfold isNm; rw [decide_eq_true e2, decide_eq_false e1]; rfl)
    · walk_at "ss"
      refine s_nocut ?_
      obtain ⟨c, r, hc, h0⟩ := at0 e1
      walk_at "ss"
      refine s_ixS hs h0 ?_
      walk_at "ss"
      rw [strIn_sign]
      show if (!decide (c ∈ lettersL)) = true then _ else _
      have en : isNm z = (decide (c ∈ lettersL) && z.cps.toList.all fun c => decide (c ∈ signsL)) := by
        unfold isNm
        rw [decide_eq_false e1, decide_eq_false e2, hc]
        rfl
      by_cases hm : c ∈ lettersL
      · rw [decide_eq_true hm] at en ⊢
        refine s_itF rfl ?_
        walk_at "ss"
        refine lcb_map (fun x => match x with | .str y => .bl (strIn y "abcdefghijklmnopqrstuvwxyz0123456789") | _ => .non) (show Items K H (.str z) _ from rfl) (by rw [List.length_map, len_toList]; exact hz) ?_ ?_
        · intro x hx H' s1 Q' hQ
          obtain ⟨d, _, rfl⟩ := List.mem_map.mp hx
          walk_at "ss"
          exact hQ _ (Same.refl _)
        · intro D H' hD s1 hl
          rw [List.map_map] at hl
          walk_at "ss"
          refine s_all (bs := z.cps.toList.map fun c => decide (c ∈ signsL)) (by
            rw [hl, List.map_map]
            congr 2
            apply List.map_congr_left
            intro c _
            show V.bl (strIn ⟨#[c]⟩ _) = _
            rw [strIn_sign]
            rfl) ?_
          rw [all_comp]
          have := hq H' s1
          rw [en] at this
          exact this
      · rw [decide_eq_false hm] at en ⊢
        refine s_itT rfl ?_
        walk_at "ss"
        exact no en
def sp_is_literal (K : PySem.W.Frag) : Sp := Sp1 fun x H Q _ => ∃ z : Str, x = .str z ∧ z.length ≤ 1000000 ∧ ∀ H', Same H H' → Q (.bl (isLit z)) H'
def N_is_literal : List PySem.Str := ["text"]
def t_is_literal (K : PySem.W.Frag) (W : WX) : TS := (tCut (tIfS (tTest (tOp (rEqP K) (tSl (rSlP K) (tVar 0) tNoPart (tPart (tC (.int 1)))) (tC (.str "-")))) (tRet (tCallS (sp_is_name K) (WE W) (tCons (tSl (rSlP K) (tVar 0) (tPart (tC (.int 1))) tNoPart) tNil))) tNext)
    (tRet (tCallS (sp_is_name K) (WE W) (tCons (tVar 0) tNil))))
theorem pure_is_literal {K : PySem.W.Frag} {vs : List V} {H : Hp} {Q : VK} {E : XK} {W : WX} (h : sp_is_literal K vs H Q E) : t_is_literal K W { nx := fun _ H' => Q .non H', rt := Q } (start N_is_literal vs) H := by
  obtain ⟨x, rfl, z, rfl, hz, hq⟩ := h
  show t_is_literal K W _ [some (.str z)] H
  unfold t_is_literal
  have hs : z.length ≤ sizeLine := one_lt hz
  unfold isLit bare dash at hq
  refine s_nocut ?_
  walk_at "ss"
  refine s_slS hs ?_
  walk_at "ss"
  refine s_itd (fun e1 => ?_) (fun e1 => ?_)
  · rw [decide_eq_true e1, if_pos rfl] at hq
    walk_at "ss"
    refine s_slS hs ?_
    walk_at "ss"
    exact ⟨_, rfl, _, rfl, Nat.le_trans (cutS_len _ _ _) hz, hq⟩
  · rw [decide_eq_false e1, if_neg Bool.false_ne_true] at hq
    walk_at "ss"
    exact ⟨_, rfl, _, rfl, hz, hq⟩
def sp_name_of (K : PySem.W.Frag) : Sp := Sp1 fun x H Q E => ∃ z : Str, x = .str z ∧ z.length ≤ 1000000 ∧ (isLit z = true → ∀ H', Same H H' → Q (.str (bare z)) H') ∧ (isLit z = false → ∀ H' d, Same H H' → H' d = some (.xd [("text", .str z)]) → E (.ref (ga K "BadLiteral")) (some d) H')
def N_name_of : List PySem.Str := ["literal"]
def t_name_of (K : PySem.W.Frag) (W : WX) : TS := (tCut (tIfS (tNot (tB (tCallS (sp_is_literal K) (WE W) (tCons (tVar 0) tNil)))) (tRaiseE (ga K "BadLiteral") "text" W (tCons (tVar 0) tNil)) tNext)
    (tCut (tIfS (tTest (tOp (rEqP K) (tSl (rSlP K) (tVar 0) tNoPart (tPart (tC (.int 1)))) (tC (.str "-")))) (tRet (tSl (rSlP K) (tVar 0) (tPart (tC (.int 1))) tNoPart)) tNext)
    (tRet (tVar 0))))
theorem pure_name_of {K : PySem.W.Frag} {vs : List V} {H : Hp} {Q : VK} {E : XK} (h : sp_name_of K vs H Q E) : t_name_of K (fun cls d _ H => E cls d H) { nx := fun _ H' => Q .non H', rt := Q } (start N_name_of vs) H := by
  obtain ⟨x, rfl, z, rfl, hz, hq, he⟩ := h
  show t_name_of K _ _ [some (.str z)] H
  unfold t_name_of
  have hs : z.length ≤ sizeLine := one_lt hz
  refine s_nocut ?_
  walk_at "ss"
  refine ⟨_, rfl, z, rfl, hz, fun H1 s1 => ?_⟩
  walk_at "ss"
  cases hl : isLit z with
  | false =>
    refine s_itT rfl ?_
    refine ⟨_, rfl, _, rfl, fun d hd => he hl _ d (s1.trans (same_new hd)) upd_same⟩
  | true =>
    refine s_itF rfl ?_
    have hq1 := hq hl
    unfold bare dash at hq1
    walk_at "ss"
    refine s_nocut ?_
    walk_at "ss"
    refine s_slS hs ?_
    walk_at "ss"
    refine s_itd (fun e1 => ?_) (fun e1 => ?_)
    · rw [decide_eq_true e1, if_pos rfl] at hq1
      walk_at "ss"
      refine s_slS hs ?_
      exact hq1 _ s1
    · rw [decide_eq_false e1, if_neg Bool.false_ne_true] at hq1
      walk_at "ss"
      exact hq1 _ s1
def sp_law_source (K : PySem.W.Frag) : Sp := Sp1 fun x H Q _ => ∃ (a : Addr) (ns : List Int), x = .ref a ∧ SqL K H a (ns.map V.int) ∧ ns.length ≤ 100 ∧ ∀ H' p, Same H H' → H p = none → Src H' p → Q (.ref p) H'
def N_law_source : List PySem.Str := ["_law_script"]
def t_law_source (K : PySem.W.Frag) (W : WX) : TS := (tRet (tLst (tCons (tCB (rListP K) (tCons (tVar 0) tNil)) (tCons (tC (.int 0)) (tCons (tC (.int 0)) (tCons (tC (.int 0)) (tCons (tC (.int 0)) tNil)))))))
theorem pure_law_source {K : PySem.W.Frag} {vs : List V} {H : Hp} {Q : VK} {E : XK} {W : WX} (h : sp_law_source K vs H Q E) : t_law_source K W { nx := fun _ H' => Q .non H', rt := Q } (start N_law_source vs) H := by
  obtain ⟨x, rfl, a, ns, rfl, hS, hl, hq⟩ := h
  show t_law_source K W _ [some (.ref a)] H
  unfold t_law_source
  walk_at "ss"
  refine s_listL hS fun l hl0 => ?_
  walk_at "ss"
  refine ⟨by show 5 ≤ sizeLine; rw [sizeLine_eq]; decide, fun p hp => ?_⟩
  have s1 := same_new (o := .lst (ns.map V.int)) hl0
  refine hq _ p (s1.trans (same_new hp)) (s1.free hp) ⟨l, ns, 0, 0, 0, 0, upd_same, ?_, by decide, hl⟩
  rw [upd_ne (ne_of_none (H := upd H l (.lst (ns.map V.int))) upd_same hp)]
  exact upd_same
def sp_law_take (K : PySem.W.Frag) : Sp := Sp2 fun x y H Q _ => ∃ (a : Addr) (m : Int), x = .ref a ∧ y = .int m ∧ Src H a ∧ 0 < m ∧ m.natAbs.log2 < 9000 ∧ ∀ H' (r : Int), Src H' a → Mov a H H' → 0 ≤ r → r < m → Q (.int r) H'
def N_law_take : List PySem.Str := ["_law_source_here", "_law_many", "_law_mixed", "_law_cell", "_law_value"]
def t_law_take (K : PySem.W.Frag) (W : WX) : TS := (tCut (tIfS (tTest (tOp (rEqP K) (tOp (rIxP K) (tVar 0) (tC (.int 3))) (tC (.int 0)))) (tCut (tIfS (tTest (tOp rGeP (tOp (rIxP K) (tVar 0) (tC (.int 1))) (tCB (rLenP K) (tCons (tOp (rIxP K) (tVar 0) (tC (.int 0))) tNil)))) (tRet (tC (.int 0))) tNext)
    (tSeq (tAsg (tCB rIntP (tCons (tOp (rIxP K) (tOp (rIxP K) (tVar 0) (tC (.int 0))) (tOp (rIxP K) (tVar 0) (tC (.int 1)))) tNil)) (gName 3))
    (tSeq (tAsg (tOp (rAddP K) (tOp (rIxP K) (tVar 0) (tC (.int 1))) (tC (.int 1))) (gSub (tVar 0) (tC (.int 1)) rSetP))
    (tSeq (tAsg (tVar 3) (gSub (tVar 0) (tC (.int 2)) rSetP))
    (tSeq (tAsg (tC (.int 4)) (gSub (tVar 0) (tC (.int 3)) rSetP))
    (tSeq (tAsg (tC (.int 0)) (gSub (tVar 0) (tC (.int 4)) rSetP))
    (tIfS (tTest (tOp rGeP (tVar 3) (tOp rPowP (tC (.int 10)) (tC (.int 18))))) (tSeq (tAsg (tC (.int 60)) (gSub (tVar 0) (tC (.int 3)) rSetP))
    (tAsg (tC (.int 1)) (gSub (tVar 0) (tC (.int 4)) rSetP))) tNext))))))) tNext)
    (tSeq (tAsg (tOp rSubP (tOp (rIxP K) (tVar 0) (tC (.int 3))) (tC (.int 1))) (gSub (tVar 0) (tC (.int 3)) rSetP))
    (tCut (tIfS (tTest (tOp (rEqP K) (tOp (rIxP K) (tVar 0) (tC (.int 4))) (tC (.int 1)))) (tSeq (tAsg (tOp rModP (tCB rIntP (tCons (tOp (rIxP K) (tVar 0) (tC (.int 2))) tNil)) (tVar 1)) (gName 4))
    (tSeq (tAsg (tOp rFdivP (tOp (rIxP K) (tVar 0) (tC (.int 2))) (tVar 1)) (gSub (tVar 0) (tC (.int 2)) rSetP))
    (tCut (tIfS (tTest (tOp (rEqP K) (tOp (rIxP K) (tVar 0) (tC (.int 2))) (tC (.int 0)))) (tAsg (tC (.int 0)) (gSub (tVar 0) (tC (.int 3)) rSetP)) tNext)
    (tRet (tVar 4))))) tNext)
    (tSeq (tAsg (tOp rModP (tCB rIntP (tCons (tOp (rAddP K) (tOp (rAddP K) (tOp rMulP (tOp (rIxP K) (tVar 0) (tC (.int 2))) (tC (.int 48271))) (tOp rMulP (tOp (rIxP K) (tVar 0) (tC (.int 3))) (tC (.int 69621)))) (tC (.int 11))) tNil)) (tC (.int 2147483647))) (gName 2))
    (tSeq (tAsg (tOp rModP (tCB rIntP (tCons (tOp (rAddP K) (tOp (rAddP K) (tOp rMulP (tVar 2) (tC (.int 16807))) (tOp rMulP (tOp (rIxP K) (tVar 0) (tC (.int 3))) (tC (.int 7919)))) (tC (.int 5))) tNil)) (tC (.int 2147483629))) (gName 2))
    (tRet (tOp rModP (tCB rIntP (tCons (tVar 2) tNil)) (tVar 1))))))))
theorem pure_law_take {K : PySem.W.Frag} {vs : List V} {H : Hp} {Q : VK} {E : XK} {W : WX} (h : sp_law_take K vs H Q E) : t_law_take K W { nx := fun _ H' => Q .non H', rt := Q } (start N_law_take vs) H := by
  obtain ⟨x, y, rfl, a, m, rfl, rfl, ⟨c, cells, i, cur, cnt, mode, ha, hc, hi, hl⟩, hm, hm2, hq⟩ := h
  show t_law_take K W _ [some (.ref a), some (.int m), none, none, none] H
  unfold t_law_take
  have hca : c ≠ a := by
    intro e
    rw [e, ha] at hc
    have e2 := Option.some.inj hc
    injection e2 with e3
    have e4 := congrArg List.head? e3
    cases cells with
    | nil => cases e4
    | cons z r => cases e4
  refine s_cut (fun σ' H' => ∃ (i' cur' cnt' mode' : Int) (v3 : Option V), σ' = [some (.ref a), some (.int m), none, v3, none] ∧ H' a = some (.lst [.ref c, .int i', .int cur', .int cnt', .int mode']) ∧ But a H H' ∧ 0 ≤ i') ?_ ?_
  · walk_at "sl"
    refine s_itd (fun e0 => ?_) (fun e0 => ?_)
    · refine s_nocut ?_
      walk_at "sl"
      refine s_lenL hc ?_
      walk_at "sl"
      refine s_itd (fun e1 => ?_) (fun e1 => ?_)
      · walk_at "sl"
        exact hq H 0 ⟨c, cells, i, cur, cnt, mode, ha, hc, hi, hl⟩ (Mov.refl _ _) (by decide) hm
      · obtain ⟨z, hz⟩ := atI_cells hi e1
        walk_at "sl"
        refine s_ixL hc hz ?_
        walk_at "sl"
        refine s_in2 (by exact ⟨by decide, by decide, by decide⟩) ?_
        walk_at "sl"
        refine s_itd (fun e2 => ?_) (fun e2 => ?_)
        · walk_at "sl"
          exact ⟨_, _, _, _, _, rfl, upd_same, But.upd, by omega⟩
        · walk_at "sl"
          exact ⟨_, _, _, _, _, rfl, upd_same, But.upd, by omega⟩
    · walk_at "sl"
      exact ⟨_, _, _, _, _, rfl, ha, But.refl _ _, hi⟩
  · rintro σ' H' ⟨i', cur', cnt', mode', v3, rfl, ha', hb, hi'⟩
    have hc' := hb _ _ hc hca
    walk_at "sl"
    have fin : ∀ (i2 cur2 cnt2 mode2 r : Int), 0 ≤ i2 → 0 ≤ r → r < m → Q (.int r) (upd H' a (.lst [.ref c, .int i2, .int cur2, .int cnt2, .int mode2])) := fun i2 cur2 cnt2 mode2 r h2 h3 h4 =>
      hq _ r ⟨c, cells, i2, cur2, cnt2, mode2, upd_same, by rw [upd_ne hca]; exact hc', h2, hl⟩ (Mov.of (hb.trans But.upd) ha upd_same) h3 h4
    have hmod : ∀ z : Int, 0 ≤ z.fmod m ∧ z.fmod m < m := fun z => ⟨Int.fmod_nonneg_of_pos z hm, Int.fmod_lt_of_pos z hm⟩
    refine s_nocut ?_
    walk_at "sl"
    refine s_itd (fun e0 => ?_) (fun e0 => ?_)
    · walk_at "sl"
      refine s_in2 (by omega) ?_
      walk_at "sl"
      refine s_in2 ⟨by omega, hm2⟩ ?_
      walk_at "sl"
      refine s_nocut ?_
      walk_at "sl"
      refine s_itd (fun e1 => ?_) (fun e1 => ?_)
      · walk_at "sl"
        exact fin _ _ _ _ _ hi' (hmod _).1 (hmod _).2
      · walk_at "sl"
        exact fin _ _ _ _ _ hi' (hmod _).1 (hmod _).2
    · walk_at "sl"
      refine s_in2 (.inl (.inr ⟨by decide, by decide⟩)) ?_
      walk_at "sl"
      refine s_in2 (.inl (.inr ⟨by decide, by decide⟩)) ?_
      walk_at "sl"
      refine s_in2 (by decide) ?_
      walk_at "sl"
      refine s_in2 (.inl (.inr ⟨by decide, by decide⟩)) ?_
      walk_at "sl"
      refine s_in2 (.inl (.inr ⟨by decide, by decide⟩)) ?_
      walk_at "sl"
      refine s_in2 (by decide) ?_
      walk_at "sl"
      refine s_in2 (by omega) ?_
      exact fin _ _ _ _ _ hi' (hmod _).1 (hmod _).2
theorem take_ok {K : PySem.W.Frag} {a : Addr} {m : Int} {H : Hp} {Q : VK} {E : XK} (S : Src H a) (h0 : 0 < m) (h1 : m ≤ 1000000000000000) (hq : ∀ H' (r : Int), Src H' a → Mov a H H' → 0 ≤ r → r < m → Q (.int r) H') : sp_law_take K [.ref a, .int m] H Q E :=
  ⟨_, _, rfl, a, m, rfl, rfl, S, h0, lg h0 h1, hq⟩
def sp_law_word (K : PySem.W.Frag) : Sp := Sp2 fun x y H Q _ => ∃ (a : Addr) (n : Int), x = .ref a ∧ y = .int n ∧ Src H a ∧ 1 ≤ n ∧ n ≤ 1000 ∧ ∀ H' z, Src H' a → Mov a H H' → Wrd z → (z.length : Int) = n → Q (.str z) H'
def N_law_word : List PySem.Str := ["_law_source_here", "_law_size", "_law_letters", "_law_signs", "_law_word_here", "_law_number", "_law_k"]
def t_law_word (K : PySem.W.Frag) (W : WX) : TS := (tSeq (tAsg (tC (.str "abcdefghijklmnopqrstuvwxyz")) (gName 2))
    (tSeq (tAsg (tC (.str "0123456789abcdefghijklmnopqrstuvwxyz")) (gName 3))
    (tSeq (tAsg (tOp (rIxP K) (tVar 2) (tCallS (sp_law_take K) (WE W) (tCons (tVar 0) (tCons (tC (.int 26)) tNil)))) (gName 4))
    (tSeq (tAsg (tCallS (sp_law_take K) (WE W) (tCons (tVar 0) (tCons (tOp rPowP (tC (.int 36)) (tC (.int 7))) tNil))) (gName 5))
    (tCut (tFor (iRng1 (tCons (tOp rSubP (tVar 1) (tC (.int 1))) tNil)) (gName 6) (tSeq (tAsg (tOp (rAddP K) (tVar 4) (tOp (rIxP K) (tVar 3) (tOp rModP (tCB rIntP (tCons (tVar 5) tNil)) (tC (.int 36))))) (gName 4))
    (tAsg (tOp rFdivP (tVar 5) (tC (.int 36))) (gName 5))))
    (tRet (tVar 4)))))))
theorem pure_law_word {K : PySem.W.Frag} {vs : List V} {H : Hp} {Q : VK} {E : XK} {W : WX} (h : sp_law_word K vs H Q E) : t_law_word K W { nx := fun _ H' => Q .non H', rt := Q } (start N_law_word vs) H := by
  obtain ⟨x, y, rfl, a, n, rfl, rfl, hS, h1, h2, hq⟩ := h
  show t_law_word K W _ [some (.ref a), some (.int n), none, none, none, none, none] H
  unfold t_law_word
  walk_at "ss"
  refine ⟨_, _, rfl, a, 26, rfl, rfl, hS, by decide, by decide, fun H1 r S1 b1 r0 r1 => ?_⟩
  obtain ⟨c, hc, e⟩ := at_ex (l := lettersL) r0 (show r < ((lettersL.length : Nat) : Int) from r1)
  refine s_ixS (by decide +kernel) e ?_
  walk_at "ss"
  refine s_in2 ⟨by decide, by decide, by decide⟩ ?_
  walk_at "ss"
  refine ⟨_, _, rfl, a, _, rfl, rfl, S1, by decide +kernel, by decide +kernel, fun H2 num S2 b2 n0 n1 => ?_⟩
  walk_at "ss"
  refine s_nocut ?_
  walk_at "ss"
  refine forr_inv (by omega) (by omega) (fun i σ H' => ∃ (w : Str) (num : Int) (v : Option V), σ = [some (.ref a), some (.int n), some (.str "abcdefghijklmnopqrstuvwxyz"), some (.str "0123456789abcdefghijklmnopqrstuvwxyz"), some (.str w), some (.int num), v] ∧ Src H' a ∧ Mov a H H' ∧ Wrd w ∧ w.length = 1 + i ∧ 0 ≤ num)
    ⟨_, num, _, rfl, S2, b1.trans b2, Wrd.one hc, rfl, n0⟩ ?_ ?_
  · rintro i σ H' hi ⟨w, num', v, rfl, S3, b3, hw, hl, n3⟩
    walk_at "ss"
    refine s_in2 (by decide) ?_
    obtain ⟨f0, f1⟩ := fmod_b num' 36 (by decide)
    obtain ⟨d, hd, e2⟩ := at_ex (l := signs2L) f0 (show num'.fmod 36 < ((signs2L.length : Nat) : Int) from f1)
    refine s_ixS (by decide +kernel) e2 ?_
    refine s_addS (by rw [hl, sizeLine_eq]; show 1 + i + 1 ≤ _; omega) ?_
    walk_at "ss"
    refine s_in2 ⟨by decide, by decide⟩ ?_
    walk_at "ss"
    refine ⟨_, _, _, rfl, S3, b3, hw.add (signs2_in hd), by rw [app_len, hl]; rfl, ?_⟩
    rw [Int.fdiv_eq_ediv_of_nonneg _ (by decide)]
    exact Int.ediv_nonneg n3 (by decide)
  · rintro σ H' ⟨w, num', v, rfl, S3, b3, hw, hl, n3⟩
    walk_at "ss"
    exact hq H' w S3 b3 hw (by rw [hl]; omega)
theorem word_ok {K : PySem.W.Frag} {a : Addr} {n : Int} {H : Hp} {Q : VK} {E : XK} (S : Src H a) (h0 : 1 ≤ n) (h1 : n ≤ 1000) (hq : ∀ H' z, Src H' a → Mov a H H' → Wrd z → (z.length : Int) = n → Q (.str z) H') : sp_law_word K [.ref a, .int n] H Q E :=
  ⟨_, _, rfl, a, n, rfl, rfl, S, h0, h1, hq⟩
def sp_law_names (K : PySem.W.Frag) : Sp := Sp2 fun x y H Q _ => ∃ (a : Addr) (n : Int), x = .ref a ∧ y = .int n ∧ Src H a ∧ 0 ≤ n ∧ n ≤ 40 ∧ ∀ H' (p : Addr) (zs : List Str), Src H' a → Mov a H H' → H p = none → p ≠ a → H' p = some (.lst (zs.map V.str)) → (zs.length : Int) = n → (∀ z ∈ zs, isNm z = true) → (n ≤ 26 → zs.Nodup) → Q (.ref p) H'
def N_law_names : List PySem.Str := ["_law_source_here", "_law_many", "_law_letters", "_law_style", "_law_size", "_law_at", "_law_base", "_law_shift", "_law_pace", "_law_names_here", "_law_k", "_law_letter"]
def t_law_names (K : PySem.W.Frag) (W : WX) : TS := (tSeq (tAsg (tC (.str "abcdefghijklmnopqrstuvwxyz")) (gName 2))
    (tSeq (tAsg (tCallS (sp_law_take K) (WE W) (tCons (tVar 0) (tCons (tC (.int 3)) tNil))) (gName 3))
    (tSeq (tAsg (tOp (rAddP K) (tC (.int 1)) (tCallS (sp_law_take K) (WE W) (tCons (tVar 0) (tCons (tC (.int 8)) tNil)))) (gName 4))
    (tSeq (tAsg (tCallS (sp_law_take K) (WE W) (tCons (tVar 0) (tCons (tVar 4) tNil))) (gName 5))
    (tSeq (tAsg (tCallS (sp_law_word K) (WE W) (tCons (tVar 0) (tCons (tVar 4) tNil))) (gName 6))
    (tSeq (tAsg (tCallS (sp_law_take K) (WE W) (tCons (tVar 0) (tCons (tC (.int 26)) tNil))) (gName 7))
    (tSeq (tAsg (tOp (rIxP K) (tLst (tCons (tC (.int 1)) (tCons (tC (.int 5)) (tCons (tC (.int 7)) (tCons (tC (.int 25)) tNil))))) (tCallS (sp_law_take K) (WE W) (tCons (tVar 0) (tCons (tC (.int 4)) tNil)))) (gName 8))
    (tSeq (tAsg (tLst tNil) (gName 9))
    (tCut (tFor (iRng1 (tCons (tVar 1) tNil)) (gName 10) (tSeq (tAsg (tOp (rIxP K) (tVar 2) (tOp rModP (tCB rIntP (tCons (tOp (rAddP K) (tVar 7) (tOp rMulP (tVar 8) (tVar 10))) tNil)) (tC (.int 26)))) (gName 11))
    (tIfS (tTest (tOp (rEqP K) (tVar 3) (tC (.int 0)))) (tDrop (tBM K "list" rAppend (tVar 9) (tCons (tOp (rAddP K) (tOp (rAddP K) (tSl (rSlP K) (tVar 6) tNoPart (tPart (tVar 5))) (tVar 11)) (tSl (rSlP K) (tVar 6) (tPart (tOp (rAddP K) (tVar 5) (tC (.int 1)))) tNoPart)) tNil))) (tIfS (tTest (tOp (rEqP K) (tVar 3) (tC (.int 1)))) (tDrop (tBM K "list" rAppend (tVar 9) (tCons (tOp (rAddP K) (tVar 11) (tSl (rSlP K) (tVar 6) (tPart (tC (.int 1))) (tPart (tOp (rAddP K) (tC (.int 1)) (tCallS (sp_law_take K) (WE W) (tCons (tVar 0) (tCons (tC (.int 8)) tNil))))))) tNil))) (tDrop (tBM K "list" rAppend (tVar 9) (tCons (tOp (rAddP K) (tOp (rAddP K) (tSl (rSlP K) (tVar 6) tNoPart (tPart (tVar 5))) (tVar 11)) (tSl (rSlP K) (tCallS (sp_law_word K) (WE W) (tCons (tVar 0) (tCons (tOp rSubP (tC (.int 8)) (tVar 5)) tNil))) tNoPart (tPart (tCallS (sp_law_take K) (WE W) (tCons (tVar 0) (tCons (tOp rSubP (tC (.int 8)) (tVar 5)) tNil)))))) tNil)))))))
    (tRet (tVar 9)))))))))))
/-- the letter that tells the k-th name -/
def LtAt (pos : Nat) (shift pace : Int) (k : Nat) (z : Str) : Prop := z.cps.toList[pos]? = some (97 + ((shift + pace * k) % 26).toNat)
theorem letter_at {m : Int} {c : Nat} (h0 : 0 ≤ m) (h1 : m < 26) (h : atI lettersL m = some c) : c = 97 + m.toNat := by
  have key : ∀ k, k < 26 → lettersL[k]? = some (97 + k) := by decide +kernel
  have e := key m.toNat (by omega)
  unfold atI ixN at h
  rw [if_pos h0, if_pos (show m < ((lettersL.length : Nat) : Int) from h1)] at h
  have h2 : lettersL[m.toNat]? = some c := h
  rw [e] at h2
  simpa using h2.symm
theorem pace_inj {shift pace : Int} (hp : pace = 1 ∨ pace = 5 ∨ pace = 7 ∨ pace = 25) {i k : Nat} (hi : i < 26) (hk : k < 26) (e : (shift + pace * (i : Int)) % 26 = (shift + pace * (k : Int)) % 26) : i = k := by
  rcases hp with rfl | rfl | rfl | rfl <;> omega
theorem names_nodup {zs : List Str} {pos : Nat} {shift pace : Int} (hp : pace = 1 ∨ pace = 5 ∨ pace = 7 ∨ pace = 25) (hl : zs.length ≤ 26) (h : ∀ k z, zs[k]? = some z → LtAt pos shift pace k z) : zs.Nodup := by
  refine List.pairwise_iff_getElem.mpr fun i j hi hj hij e => ?_
  have h1 := h i zs[i] (by simp [hi])
  have h2 := h j zs[j] (by simp [hj])
  unfold LtAt at h1 h2
  rw [e] at h1
  rw [h1] at h2
  have h3 : (97 + ((shift + pace * (i : Int)) % 26).toNat) = 97 + ((shift + pace * (j : Int)) % 26).toNat := by simpa using h2
  have := pace_inj (shift := shift) hp (show i < 26 by omega) (show j < 26 by omega) (by omega)
  omega
theorem put_at (a b : Str) (c : Nat) : (a ++ ⟨#[c]⟩ ++ b).cps.toList[a.length]? = some c := by
  rw [app_toList, app_toList, List.append_assoc, List.getElem?_append_right (by rw [len_toList]; exact Nat.le_refl _), len_toList, Nat.sub_self]
  rfl
theorem pure_law_names {K : PySem.W.Frag} {vs : List V} {H : Hp} {Q : VK} {E : XK} {W : WX} (h : sp_law_names K vs H Q E) : t_law_names K W { nx := fun _ H' => Q .non H', rt := Q } (start N_law_names vs) H := by
  obtain ⟨x, y, rfl, a, n, rfl, rfl, hS, n0, n1, hq⟩ := h
  show t_law_names K W _ [some (.ref a), some (.int n), none, none, none, none, none, none, none, none, none, none] H
  unfold t_law_names
  walk_at "ss"
  refine take_ok hS (by decide) (by decide) fun H1 style S1 b1 st0 st1 => ?_
  walk_at "ss"
  refine take_ok S1 (by decide) (by decide) fun H2 sz S2 b2 z0 z1 => ?_
  walk_at "ss"
  refine take_ok S2 (by omega) (by omega) fun H3 at_ S3 b3 at0 at1 => ?_
  walk_at "ss"
  refine word_ok S3 (by omega) (by omega) fun H4 w S4 b4 hw hwl => ?_
  walk_at "ss"
  refine take_ok S4 (by decide) (by decide) fun H5 shift S5 b5 sh0 sh1 => ?_
  have B5 : Mov a H H5 := (((b1.trans b2).trans b3).trans b4).trans b5
  walk_at "ss"
  refine ⟨by show 4 ≤ sizeLine; rw [sizeLine_eq]; decide, fun p hp => ?_⟩
  have hpa := S5.ne hp
  walk_at "ss"
  refine take_ok (S5.keep (same_new hp)) (by decide) (by decide) fun H6 r S6 b6 r0 r1 => ?_
  have B6 : Mov a H H6 := (B5.trans (Mov.of_same (same_new hp))).trans b6
  obtain ⟨pace, hpc, pc0, pc1, pcs⟩ : ∃ pace : Int, atI [V.int 1, V.int 5, V.int 7, V.int 25] r = some (.int pace) ∧ 0 ≤ pace ∧ pace ≤ 25 ∧ (pace = 1 ∨ pace = 5 ∨ pace = 7 ∨ pace = 25) := by
    rcases (show r = 0 ∨ r = 1 ∨ r = 2 ∨ r = 3 by omega) with rfl | rfl | rfl | rfl
    · exact ⟨1, rfl, by decide, by decide, by simp⟩
    · exact ⟨5, rfl, by decide, by decide, by simp⟩
    · exact ⟨7, rfl, by decide, by decide, by simp⟩
    · exact ⟨25, rfl, by decide, by decide, by simp⟩
  refine s_ixL (b6 _ _ upd_same hpa) hpc ?_
  walk_at "ss"
  refine ⟨Nat.zero_le _, fun q hq0 => ?_⟩
  have hqa := S6.ne hq0
  have hqn := B6.un hqa hq0
  have hws : w.length ≤ sizeLine := by rw [sizeLine_eq]; omega
  walk_at "ss"
  refine s_cut (fun σ' H' => ∃ v u, σ' = [some (.ref a), some (.int n), some (.str "abcdefghijklmnopqrstuvwxyz"), some (.int style), some (.int (1 + sz)), some (.int at_), some (.str w), some (.int shift), some (.int pace), some (.ref q), v, u] ∧ Src H' a ∧ Mov a H H' ∧ ∃ zs : List Str, H' q = some (.lst (zs.map V.str)) ∧ (zs.length : Int) = n ∧ (∀ z ∈ zs, isNm z = true) ∧ ∀ k z, zs[k]? = some z → LtAt (if style = 1 then 0 else at_.toNat) shift pace k z) ?_ ?_
  · walk_at "ss"
    refine forr_inv (by omega) (by omega) (fun i σ' H' => ∃ v u, σ' = [some (.ref a), some (.int n), some (.str "abcdefghijklmnopqrstuvwxyz"), some (.int style), some (.int (1 + sz)), some (.int at_), some (.str w), some (.int shift), some (.int pace), some (.ref q), v, u] ∧ Src H' a ∧ Mov a H H' ∧ ∃ zs : List Str, H' q = some (.lst (zs.map V.str)) ∧ zs.length = i ∧ (∀ z ∈ zs, isNm z = true) ∧ ∀ k z, zs[k]? = some z → LtAt (if style = 1 then 0 else at_.toNat) shift pace k z)
      ⟨none, none, rfl, S6.keep (same_new hq0), B6.trans (Mov.of_same (same_new hq0)), [], upd_same, rfl, by simp, fun k z h => by simp at h⟩ ?_ ?_
    · rintro i σ' H' hi ⟨v, u, rfl, S7, B7, zs, hzs, hzl, hnm, hLt⟩
      walk_at "ss"
      refine s_in2 (.inl (by unfold CMul; omega)) ?_
      walk_at "ss"
      refine s_in2 (by decide) ?_
      walk_at "ss"
      obtain ⟨f0, f1⟩ := fmod_b (shift + pace * i) 26 (by decide)
      obtain ⟨c, hc, e2⟩ := at_ex (l := lettersL) f0 (show (shift + pace * i).fmod 26 < ((lettersL.length : Nat) : Int) from f1)
      have hcc : c = 97 + ((shift + pace * (i : Int)) % 26).toNat := by
        have := letter_at f0 f1 e2
        rw [Int.fmod_eq_emod_of_nonneg _ (by decide)] at this
        exact this
      refine s_ixS (by decide +kernel) e2 ?_
      walk_at "ss"
      have fin : ∀ (H8 : Hp) (z : Str), Src H8 a → Mov a H' H8 → Wrd z → z.length ≤ 8 → LtAt (if style = 1 then 0 else at_.toNat) shift pace i z → H8 q = some (.lst (zs.map V.str)) → rAppend (.ref q) [.str z] H8 fun _ H9 => ∃ v u, ([some (.ref a), some (.int n), some (.str "abcdefghijklmnopqrstuvwxyz"), some (.int style), some (.int (1 + sz)), some (.int at_), some (.str w), some (.int shift), some (.int pace), some (.ref q), some (.int i), some (.str ⟨#[c]⟩)] : L2.St) = [some (.ref a), some (.int n), some (.str "abcdefghijklmnopqrstuvwxyz"), some (.int style), some (.int (1 + sz)), some (.int at_), some (.str w), some (.int shift), some (.int pace), some (.ref q), v, u] ∧ Src H9 a ∧ Mov a H H9 ∧ ∃ zs : List Str, H9 q = some (.lst (zs.map V.str)) ∧ zs.length = i + 1 ∧ (∀ z ∈ zs, isNm z = true) ∧ ∀ k z, zs[k]? = some z → LtAt (if style = 1 then 0 else at_.toNat) shift pace k z := by
        intro H8 z S8 B8 hw8 hl8 hz8 hq8
        refine s_app hq8 (by rw [List.length_map]; omega) ?_
        refine ⟨_, _, rfl, ?_, ?_, zs ++ [z], by rw [upd_same, map_snoc], by rw [List.length_append, hzl]; rfl, fun y hy => ?_, fun k y hk => ?_⟩
        · exact hS.off hqn (B7.trans B8) S8
        · exact Mov.put hS hqn (B7.trans B8)
        · rcases List.mem_append.mp hy with hy | hy
          · exact hnm y hy
          · have : y = z := by simpa using hy
            rw [this]; exact hw8.nm hl8
        · by_cases hlt : k < zs.length
          · rw [List.getElem?_append_left hlt] at hk
            exact hLt k y hk
          · rw [List.getElem?_append_right (by omega)] at hk
            have hk0 : k = zs.length := by
              have := (List.getElem?_eq_some_iff.mp hk).1
              simp at this
              omega
            subst hk0
            have : z = y := by simpa using hk
            subst this
            rw [hzl]
            exact hz8
      refine s_itd (fun e => ?_) (fun e => ?_)
      · walk_at "ss"
        refine s_tyL hzs ?_
        walk_at "ss"
        refine s_slS hws ?_
        have ea : at_ = ((at_.toNat : Nat) : Int) := by omega
        have l1 := cutS_lenle w at_ at0
        have lcut : (cutS w none (some at_)).length = at_.toNat := by
          rw [← len_toList, ea, cut_to, List.length_take, len_toList]
          omega
        walk_at "ss"
        refine s_addS (by show _ + 1 ≤ sizeLine; rw [sizeLine_eq]; omega) ?_
        walk_at "ss"
        refine s_slS hws ?_
        have l2 := cutS_len w (some (at_ + 1)) none
        have l3 : (cutS w none (some at_) ++ (⟨#[c]⟩ : Str)).length = (cutS w none (some at_)).length + 1 := app_len _ _
        refine s_addS (by rw [sizeLine_eq]; omega) ?_
        walk_at "ss"
        refine fin H' _ S7 (Mov.refl a H') (wrd_put (by rw [ea]; exact wrd_to hw _) hc fun x hx => wrd_signs hw x (cut_mid hx)) ?_ (by
            unfold LtAt
            rw [if_neg (by omega), ← hcc, ← lcut]
            exact put_at _ _ _) hzs
        have l4 : ((cutS w (some (at_ + 1)) none).length : Int) ≤ 1 + sz - (at_ + 1) := by
          have e1 : at_ + 1 = (((at_ + 1).toNat : Nat) : Int) := by omega
          have e2 := len_toList (cutS w (some (at_ + 1)) none)
          rw [e1, cut_from, List.length_drop, len_toList, ← e1] at e2
          omega
        rw [app_len, l3]
        omega
      · walk_at "ss"
        refine s_itd (fun e2 => ?_) (fun e2 => ?_)
        · walk_at "ss"
          refine s_tyL hzs ?_
          walk_at "ss"
          refine take_ok S7 (by decide) (by decide) fun H8 k S8 b8 k0 k1 => ?_
          walk_at "ss"
          refine s_slS hws ?_
          have l1 := cutS_len w (some 1) (some (1 + k))
          refine s_addS (by show 1 + _ ≤ sizeLine; rw [sizeLine_eq]; omega) ?_
          walk_at "ss"
          have e0 : (⟨#[c]⟩ : Str) ++ cutS w (some 1) (some (1 + k)) = ("" : Str) ++ ⟨#[c]⟩ ++ cutS w (some 1) (some (1 + k)) := str_ext (by rw [app_toList, app_toList, app_toList]; rfl)
          have hl : (cutS w (some 1) (some (1 + k))).length ≤ 7 := by
            have := len_toList (cutS w (some 1) (some (1 + k)))
            have e1 : HT.sIx w.length 0 (some 1) = min 1 w.length := HT.sIx_nat w.length 0 1
            have e3 : HT.sIx w.length w.length (some (1 + k)) = min (1 + k.toNat) w.length := by
              have := HT.sIx_nat w.length w.length (1 + k.toNat)
              rw [← this]; congr 2; omega
            have e4 : (cutS w (some 1) (some (1 + k))).length = (List.take (min (1 + k.toNat) w.length - min 1 w.length) (List.drop (min 1 w.length) w.cps.toList)).length := by
              rw [← this]; unfold cutS; rw [e1, e3]
            rw [e4, List.length_take]
            omega
          refine fin H8 _ S8 b8 (by rw [e0]; exact wrd_put (.inl rfl) hc fun x hx => wrd_signs hw x (cut_mid hx)) ?_ (by
            unfold LtAt
            rw [if_pos e2, ← hcc, e0]
            exact put_at "" _ _) (b8 _ _ hzs hqa)
          rw [app_len]
          show 1 + _ ≤ 8
          omega
        · walk_at "ss"
          refine s_tyL hzs ?_
          walk_at "ss"
          refine s_slS hws ?_
          have ea : at_ = ((at_.toNat : Nat) : Int) := by omega
          have l1 := cutS_lenle w at_ at0
          have lcut : (cutS w none (some at_)).length = at_.toNat := by
            rw [← len_toList, ea, cut_to, List.length_take, len_toList]
            omega
          walk_at "ss"
          refine s_addS (by show _ + 1 ≤ sizeLine; rw [sizeLine_eq]; omega) ?_
          walk_at "ss"
          refine word_ok S7 (by omega) (by omega) fun H8 w2 S8 b8 hw2 hwl2 => ?_
          walk_at "ss"
          refine take_ok S8 (by omega) (by omega) fun H9 k S9 b9 k0 k1 => ?_
          walk_at "ss"
          refine s_slS (by rw [sizeLine_eq]; omega) ?_
          have l2 := cutS_lenle w2 k k0
          have l3 : (cutS w none (some at_) ++ (⟨#[c]⟩ : Str)).length = (cutS w none (some at_)).length + 1 := app_len _ _
          refine s_addS (by rw [sizeLine_eq]; omega) ?_
          walk_at "ss"
          refine fin H9 _ S9 (b8.trans b9) (wrd_put (by rw [ea]; exact wrd_to hw _) hc fun x hx => wrd_signs hw2 x (cut_mid hx)) ?_ (by
            unfold LtAt
            rw [if_neg e2, ← hcc, ← lcut]
            exact put_at _ _ _) (b9 _ _ (b8 _ _ hzs hqa) hqa)
          rw [app_len, l3]
          omega
    · rintro σ' H' ⟨v, u, rfl, S7, B7, zs, hzs, hzl, hnm, hLt⟩
      exact ⟨v, u, rfl, S7, B7, zs, hzs, by omega, hnm, hLt⟩
  · rintro σ' H' ⟨v, u, rfl, S7, B7, zs, hzs, hzl, hnm, hLt⟩
    walk_at "ss"
    exact hq H' q zs S7 B7 hqn hqa hzs hzl hnm fun hn => names_nodup pcs (by omega) hLt
def sp_law_name (K : PySem.W.Frag) : Sp := Sp1 fun x H Q _ => ∃ z : Str, x = .str z ∧ z.length ≤ 1000000 ∧ Q (.str (bare z)) H
def N_law_name : List PySem.Str := ["_law_literal"]
def t_law_name (K : PySem.W.Frag) (W : WX) : TS := (tCut (tIfS (tTest (tOp (rEqP K) (tSl (rSlP K) (tVar 0) tNoPart (tPart (tC (.int 1)))) (tC (.str "-")))) (tRet (tSl (rSlP K) (tVar 0) (tPart (tC (.int 1))) tNoPart)) tNext)
    (tRet (tVar 0)))
theorem pure_law_name {K : PySem.W.Frag} {vs : List V} {H : Hp} {Q : VK} {E : XK} {W : WX} (h : sp_law_name K vs H Q E) : t_law_name K W { nx := fun _ H' => Q .non H', rt := Q } (start N_law_name vs) H := by
  obtain ⟨x, rfl, z, rfl, hz, hq⟩ := h
  show t_law_name K W _ [some (.str z)] H
  unfold t_law_name
  have hs : z.length ≤ sizeLine := one_lt hz
  unfold bare dash at hq
  refine s_nocut ?_
  walk_at "ss"
  refine s_slS hs ?_
  walk_at "ss"
  refine s_itd (fun e1 => ?_) (fun e1 => ?_)
  · rw [decide_eq_true e1, if_pos rfl] at hq
    walk_at "ss"
    exact s_slS hs hq
  · rw [decide_eq_false e1, if_neg Bool.false_ne_true] at hq
    walk_at "ss"
    exact hq
end Rd
namespace Rd
open PySem PySem.Spec PyProof.Rows L2 He Px
def sp_ordered_names (K : PySem.W.Frag) : Sp := Sp1 fun x H Q E => ∃ (p : Addr) (zs : List Str), x = .ref p ∧ H p = some (.lst (zs.map V.str)) ∧ zs.length ≤ 1000 ∧ (∀ z ∈ zs, z.length ≤ 1000000) ∧ (∀ z, badN zs = some z → ∀ H' d, Same H H' → H' d = some (.xd [("text", .str z)]) → E (.ref (ga K "BadName")) (some d) H') ∧ (badN zs = none → ∀ H' q, Same H H' → H q = none → H' q = some (.lst ((srt zs).map V.str)) → Q (.ref q) H')
def N_ordered_names : List PySem.Str := ["names", "name", "result"]
def t_ordered_names (K : PySem.W.Frag) (W : WX) : TS := (tCut (tFor (iAnyP K (tVar 0)) (gName 1) (tIfS (tNot (tB (tCallS (sp_is_name K) (WE W) (tCons (tVar 1) tNil)))) (tRaiseE (ga K "BadName") "text" W (tCons (tVar 1) tNil)) tNext))
    (tSeq (tAsg (tLst tNil) (gName 2))
    (tCut (tFor (iAnyP K (tCB (rSortAny K) (tCons (tLc (iAnyP K (tVar 0)) (gName 1) tYes (tCB rStrP (tCons (tVar 1) tNil)) [1]) tNil))) (gName 1) (tIfS (tTest (tOp (rInP K true) (tVar 1) (tVar 2))) (tDrop (tBM K "list" rAppend (tVar 2) (tCons (tVar 1) tNil))) tNext))
    (tRet (tVar 2)))))
theorem pure_ordered_names {K : PySem.W.Frag} {vs : List V} {H : Hp} {Q : VK} {E : XK} (h : sp_ordered_names K vs H Q E) : t_ordered_names K (fun cls d _ H => E cls d H) { nx := fun _ H' => Q .non H', rt := Q } (start N_ordered_names vs) H := by
  obtain ⟨x, rfl, p, zs, rfl, hp, hl, hz, he, hq⟩ := h
  show t_ordered_names K _ _ [some (.ref p), none, none] H
  unfold t_ordered_names
  refine s_cut (fun σ' H' => ∃ v, σ' = [some (.ref p), v, none] ∧ Same H H' ∧ badN zs = none) ?_ ?_
  · walk_at "ss"
    refine forb_list (xs := zs.map V.str) (fun i σ' H' => ∃ v, σ' = [some (.ref p), v, none] ∧ Same H H' ∧ ∀ z ∈ zs.take i, isNm z = true) ⟨none, rfl, Same.refl H, by simp⟩ ?_ ?_ ?_
    · rintro i σ' H' hi ⟨v, rfl, s1, _⟩
      exact SqL.of (s1 _ _ hp)
    · rintro i y σ' H' hi ⟨v, rfl, s1, ha⟩
      obtain ⟨z, hj, rfl⟩ := at_strs hi; replace hi := hj
      walk_at "ss"
      refine ⟨_, rfl, z, rfl, hz z (List.mem_of_getElem? hi), fun H2 s2 => ?_⟩
      walk_at "ss"
      cases hn : isNm z with
      | false =>
        refine s_itT rfl ?_
        exact ⟨_, rfl, _, rfl, fun d hd => he z (find_at (by rw [hn]; rfl) hi fun y hy => by rw [ha y hy]; rfl) _ d ((s1.trans s2).trans (same_new hd)) upd_same⟩
      | true =>
        refine s_itF rfl ?_
        walk_at "ss"
        exact ⟨_, rfl, s1.trans s2, take_all hi ha hn⟩
    · rintro σ' H' ⟨v, rfl, s1, ha⟩
      refine ⟨v, rfl, s1, badN_none ?_⟩
      rw [List.length_map, List.take_length] at ha
      exact ha
  · rintro σ' H' ⟨v, rfl, s1, hb⟩
    have hq := hq hb
    walk_at "ss"
    refine ⟨Nat.zero_le _, fun q hq0 => ?_⟩
    have hqn : H q = none := by
      cases e : H q with
      | none => rfl
      | some o => rw [s1 _ _ e] at hq0; cases hq0
    have s2 : Same H (upd H' q (.lst [])) := s1.trans (same_new hq0)
    walk_at "ss"
    refine s_cut (fun σ2 H2 => ∃ v, σ2 = [some (.ref p), v, some (.ref q)] ∧ Same H H2 ∧ H2 q = some (.lst ((srt zs).map V.str))) ?_ ?_
    · walk_at "ss"
      refine lcb_map (fun x => x) (.inl (SqL.of (s2 _ _ hp))) (by rw [List.length_map]; omega) ?_ ?_
      · intro x hx H2 s3 Q' hQ
        obtain ⟨z, _, rfl⟩ := List.mem_map.mp hx
        walk_at "ss"
        exact hQ _ (Same.refl _)
      · intro D H2 hD s3 hl2
        rw [List.map_id'] at hl2
        walk_at "ss"
        refine s_sort hl2 (by omega) fun ys r hperm hsort hr => ?_
        have hs := sorted_pair hsort
        have s4 : Same H' (upd H2 r (.lst (ys.map V.str))) := ((same_new hq0).trans s3).trans (same_new hr)
        have hqr : q ≠ r := fun e => by rw [← e, s3 _ _ upd_same] at hr; cases hr
        refine forb_list (xs := ys.map V.str) (fun i σ' H' => ∃ v acc, σ' = [some (.ref p), v, some (.ref q)] ∧ Same H H' ∧ H' r = some (.lst (ys.map V.str)) ∧ H' q = some (.lst (acc.map V.str)) ∧ Ord acc ∧ (∀ z, z ∈ acc ↔ z ∈ ys.take i) ∧ acc.length ≤ i)
          ⟨v, [], rfl, s1.trans s4, upd_same, by rw [upd_ne hqr]; exact s3 _ _ upd_same, List.Pairwise.nil, by simp, Nat.le_refl _⟩ ?_ ?_ ?_
        · rintro i σ' H' hi ⟨v, acc, rfl, _, h2, _⟩
          exact SqL.of h2
        · rintro i y σ' H3 hi ⟨v, acc, rfl, h1, h2, h3, h4, h5, h6⟩
          have hil := (List.getElem?_eq_some_iff.mp hi).1
          rw [List.length_map, hperm.length_eq] at hil
          obtain ⟨z, hj, rfl⟩ := at_strs hi; replace hi := hj
          obtain ⟨n1, n2⟩ := nub_step hs hi h4 h5
          walk_at "ss"
          refine s_inSL h3 ?_
          show ∃ k, V.bl (!decide (z ∈ acc)) = .bl k ∧ _
          walk_at "ss"
          by_cases hm : z ∈ acc
          · rw [decide_eq_true hm]
            refine s_itF rfl ?_
            walk_at "ss"
            exact ⟨_, acc, rfl, h1, h2, h3, h4, n1 hm, by omega⟩
          · rw [decide_eq_false hm]
            refine s_itT rfl ?_
            walk_at "ss"
            refine s_tyL h3 ?_
            walk_at "ss"
            refine s_app h3 (by rw [List.length_map]; omega) ?_
            refine ⟨_, acc ++ [z], rfl, fun b o e => ?_, by rw [upd_ne hqr.symm]; exact h2, by rw [upd_same, List.map_append]; rfl, (n2 hm).1, (n2 hm).2, by rw [List.length_append]; simp; omega⟩
            rw [upd_ne (ne_of_none e hqn)]
            exact h1 _ _ e
        · rintro σ' H3 ⟨v, acc, rfl, h1, h2, h3, h4, h5, h6⟩
          rw [List.length_map, List.take_length] at h5
          have e : acc = srt zs := srt_eq h4 fun x => (h5 x).trans hperm.mem_iff
          rw [e] at h3
          exact ⟨v, rfl, h1, h3⟩
    · rintro σ2 H2 ⟨v, rfl, h1, h2⟩
      walk_at "ss"
      exact hq H2 q h1 hqn h2
def sp_in_order (K : PySem.W.Frag) : Sp := Sp1 fun x H Q E => ∃ (p : Addr) (zs : List Str), x = .ref p ∧ (H p = some (.lst (zs.map V.str)) ∨ H p = some (.tup (zs.map V.str))) ∧ zs.length ≤ 1000 ∧ (∀ z ∈ zs, z.length ≤ 1000000) ∧ (∀ z, badOf zs = some z → ∀ H' d, Same H H' → H' d = some (.xd [("text", .str z)]) → E (.ref (ga K "BadLiteral")) (some d) H') ∧ (badOf zs = none → ∀ H' q, Same H H' → H q = none → H' q = some (.lst ((litO zs).map V.str)) → Q (.ref q) H')
def N_in_order : List PySem.Str := ["literals", "taken", "literal", "result", "name"]
def t_in_order (K : PySem.W.Frag) (W : WX) : TS := (tSeq (tAsg tDNewK (gName 1))
    (tCut (tFor (iAnyP K (tVar 0)) (gName 2) (tCut (tIfS (tNot (tB (tCallS (sp_is_literal K) (WE W) (tCons (tVar 2) tNil)))) (tRaiseE (ga K "BadLiteral") "text" W (tCons (tVar 2) tNil)) tNext)
    (tAsg (tC (.bl true)) (gSub (tVar 1) (tVar 2) rSetP))))
    (tSeq (tAsg (tLst tNil) (gName 3))
    (tCut (tFor (iAnyP K (tCallS (sp_ordered_names K) (WE W) (tCons (tLockE (tLc (iKeys (tVar 1)) (gName 2) tYes (tCall (sp_name_of K) [] E0 (tCons (tVar 2) tNil)) [2])) tNil))) (gName 4) (tFor (iAnyP K (tTup (tCons (tVar 4) (tCons (tOp (rAddP K) (tC (.str "-")) (tVar 4)) tNil)))) (gName 2) (tIfS (tTest (tOp (rInP K false) (tVar 2) (tVar 1))) (tDrop (tBM K "list" rAppend (tVar 3) (tCons (tVar 2) tNil))) tNext)))
    (tRet (tVar 3))))))
theorem pure_in_order {K : PySem.W.Frag} {vs : List V} {H : Hp} {Q : VK} {E : XK} (h : sp_in_order K vs H Q E) : t_in_order K (fun cls d _ H => E cls d H) { nx := fun _ H' => Q .non H', rt := Q } (start N_in_order vs) H := by
  obtain ⟨x, rfl, p, zs, rfl, hp, hl, hz, he, hq⟩ := h
  show t_in_order K _ _ [some (.ref p), none, none, none, none] H
  unfold t_in_order
  walk_at "ss"
  refine s_dnew fun d hd => ?_
  walk_at "ss"
  refine s_cut (fun σ' H' => ∃ v ks, σ' = [some (.ref p), some (.ref d), v, none, none] ∧ Same H H' ∧ H' d = some (ksD ks) ∧ (∀ x, x ∈ ks ↔ x ∈ zs) ∧ ks.length ≤ 1000 ∧ badOf zs = none) ?_ ?_
  · walk_at "ss"
    refine Cl.forb_seq (xs := zs.map V.str) (fun i σ' H' => ∃ v ks, σ' = [some (.ref p), some (.ref d), v, none, none] ∧ Same H H' ∧ H' d = some (ksD ks) ∧ (∀ x, x ∈ ks ↔ x ∈ zs.take i) ∧ ks.length ≤ i ∧ ∀ z ∈ zs.take i, isLit z = true)
      ⟨none, [], rfl, same_new hd, upd_same, by simp, Nat.le_refl _, by simp⟩ ?_ ?_ ?_
    · rcases hp with hp | hp
      · refine .inl ?_
        rintro i σ' H' hi ⟨v, ks, rfl, s1, _⟩
        exact SqL.of (s1 _ _ hp)
      · refine .inr ?_
        rintro i σ' H' hi ⟨v, ks, rfl, s1, _⟩
        exact SqT.of (s1 _ _ hp)
    · rintro i y σ' H' hi ⟨v, ks, rfl, s1, h1, h2, h3, ha⟩
      have hil := (List.getElem?_eq_some_iff.mp hi).1
      rw [List.length_map] at hil
      obtain ⟨z, hj, rfl⟩ := at_strs hi
      walk_at "ss"
      refine s_nocut ?_
      walk_at "ss"
      refine ⟨_, rfl, z, rfl, hz z (List.mem_of_getElem? hj), fun H2 s2 => ?_⟩
      walk_at "ss"
      cases hn : isLit z with
      | false =>
        refine s_itT rfl ?_
        exact ⟨_, rfl, _, rfl, fun e he' => he z (find_at (by rw [hn]; rfl) hj fun y hy => by rw [ha y hy]; rfl) _ e ((s1.trans s2).trans (same_new he')) upd_same⟩
      | true =>
        refine s_itF rfl ?_
        walk_at "ss"
        refine s_putD (s2 _ _ h1) (by omega) ?_
        walk_at "ss"
        refine ⟨_, _, rfl, same_put (s1.trans s2) hd, upd_same, fun x => ?_, ?_, take_all hj ha hn⟩
        · rw [take_more hj, List.mem_append]
          by_cases hm : z ∈ ks
          · rw [if_pos hm, ← h2 x]
            constructor
            · exact .inl
            · rintro (h | h)
              · exact h
              · have : x = z := by simpa using h
                rw [this]; exact hm
          · rw [if_neg hm, List.mem_append, ← h2 x]
        · split
          · omega
          · rw [List.length_append]; simp; omega
    · rintro σ' H' ⟨v, ks, rfl, s1, h1, h2, h3, ha⟩
      rw [List.length_map] at h3 ha h2
      rw [List.take_length] at ha h2
      exact ⟨v, ks, rfl, s1, h1, h2, by omega, badOf_none ha⟩
  · rintro σ' H' ⟨v, ks, rfl, s1, h1, h2, h3, hb⟩
    have hq := hq hb
    have lit := badOf_ok hb
    walk_at "ss"
    refine ⟨Nat.zero_le _, fun q hq0 => ?_⟩
    have hqn := same_un s1 hq0
    have hqd : q ≠ d := fun e => by rw [e, h1] at hq0; cases hq0
    walk_at "ss"
    refine s_cut (fun σ2 H2 => ∃ v w, σ2 = [some (.ref p), some (.ref d), v, some (.ref q), w] ∧ Same H H2 ∧ H2 q = some (.lst ((litO zs).map V.str))) ?_ ?_
    · walk_at "ss"
      refine lc_keys (fun z => .str (bare z)) rfl (show _ = some (ksD ks) by rw [upd_ne hqd.symm]; exact h1) (by omega) ?_ ?_
      · intro z hzk H2 od _ _ Q' hQ
        walk_at "ss"
        have hm := (h2 z).mp hzk
        exact ⟨_, rfl, z, rfl, hz z hm, fun _ H3 s3 => hQ H3 s3, fun e => by rw [lit z hm] at e; cases e⟩
      · intro D H2 hD s2 hr
        walk_at "ss"
        have e1 : ks.map (fun z => V.str (bare z)) = (ks.map bare).map V.str := by rw [List.map_map]; rfl
        rw [e1] at hr
        refine ⟨_, rfl, D, ks.map bare, rfl, hr, by rw [List.length_map]; exact h3, fun z hzk => ?_, fun z e => ?_, fun _ H3 r s3 hrn h4 => ?_⟩
        · obtain ⟨y, hy, rfl⟩ := List.mem_map.mp hzk
          exact Nat.le_trans (bare_len y) (hz y ((h2 y).mp hy))
        · rw [badN_none (fun w hw => by obtain ⟨y, hy, rfl⟩ := List.mem_map.mp hw; exact lit y ((h2 y).mp hy))] at e
          cases e
        · rw [srt_congr (a := ks.map bare) (b := zs.map bare) fun x => by simp [h2]] at h4
          have sA : Same (upd H' q (.lst [])) H3 := s2.trans s3
          have hqr : q ≠ r := fun e => by rw [← e, s2 _ _ upd_same] at hrn; cases hrn
          have hdr : d ≠ r := fun e => by rw [← e, s2 _ _ (show _ = some (ksD ks) by rw [upd_ne hqd.symm]; exact h1)] at hrn; cases hrn
          have hos : (srt (zs.map bare)).length ≤ 1000 := by have := srt_len (zs.map bare); rw [List.length_map] at this; omega
          generalize hO : srt (zs.map bare) = os at h4 hos
          have hnm : ∀ n ∈ os, isNm n = true := fun n hn => by
            rw [← hO] at hn
            obtain ⟨y, hy, rfl⟩ := List.mem_map.mp (mem_srt.mp hn)
            exact lit y hy
          refine forb_list (xs := os.map V.str) (fun i σ' H' => ∃ v w, σ' = [some (.ref p), some (.ref d), v, some (.ref q), w] ∧ Same H H' ∧ H' r = some (.lst (os.map V.str)) ∧ H' d = some (ksD ks) ∧ H' q = some (.lst ((flat zs (os.take i)).map V.str)))
            ⟨_, _, rfl, (s1.trans (same_new hq0)).trans sA, h4, sA _ _ (by rw [upd_ne hqd.symm]; exact h1), sA _ _ upd_same⟩ ?_ ?_ ?_
          · rintro i σ' H' hi ⟨v, w, rfl, _, h5, _⟩
            exact SqL.of h5
          · rintro i y σ' H4 hi ⟨v, w, rfl, k1, k2, k3, k4⟩
            have hil := (List.getElem?_eq_some_iff.mp hi).1
            rw [List.length_map] at hil
            obtain ⟨n, hj, rfl⟩ := at_strs hi
            have hn8 : n.length ≤ 8 := by obtain ⟨_, _, _, _, _, _, h8⟩ := nm_first (hnm n (List.mem_of_getElem? hj)); exact h8
            have fl := flat_len zs (os.take i)
            rw [List.length_take] at fl
            walk_at "ss"
            refine s_addS (by show 1 + n.length ≤ sizeLine; rw [sizeLine_eq]; omega) ?_
            walk_at "ss"
            refine ⟨by show 2 ≤ sizeLine; rw [sizeLine_eq]; decide, fun u hu => ?_⟩
            have huq : q ≠ u := fun e => by rw [← e, k4] at hu; cases hu
            have hud : d ≠ u := fun e => by rw [← e, k3] at hu; cases hu
            have hur : r ≠ u := fun e => by rw [← e, k2] at hu; cases hu
            refine forb_tup (xs := [n, ("-" : Str) ++ n].map V.str) (fun j σ' H' => ∃ v, σ' = [some (.ref p), some (.ref d), v, some (.ref q), some (.str n)] ∧ Same H H' ∧ H' r = some (.lst (os.map V.str)) ∧ H' d = some (ksD ks) ∧ H' u = some (.tup ([n, ("-" : Str) ++ n].map V.str)) ∧ H' q = some (.lst ((flat zs (os.take i) ++ ([n, ("-" : Str) ++ n].take j).filter fun z => decide (z ∈ zs)).map V.str)))
              ⟨_, rfl, same_put k1 (same_un k1 hu), by rw [upd_ne hur]; exact k2, by rw [upd_ne hud]; exact k3, upd_same, by rw [upd_ne huq, k4]; simp⟩ ?_ ?_ ?_
            · rintro j σ' H' hj ⟨v, rfl, _, _, _, h5, _⟩
              exact SqT.of h5
            · rintro j y σ' H5 hj2 ⟨v, rfl, m1, m2, m3, m4, m5⟩
              obtain ⟨z, hz2, rfl⟩ := at_strs hj2
              have fl2 : ([n, ("-" : Str) ++ n].take j).length ≤ 2 := by rw [List.length_take]; simp; omega
              have fl3 := List.length_filter_le (fun z => decide (z ∈ zs)) ([n, ("-" : Str) ++ n].take j)
              walk_at "ss"
              refine s_inD m3 ?_
              show ∃ k, V.bl (decide (z ∈ ks)) = .bl k ∧ _
              walk_at "ss"
              rw [show decide (z ∈ ks) = decide (z ∈ zs) by rw [Bool.eq_iff_iff]; simp [h2]]
              by_cases hm : z ∈ zs
              · rw [decide_eq_true hm]
                refine s_itT rfl ?_
                walk_at "ss"
                refine s_tyL m5 ?_
                walk_at "ss"
                refine s_app m5 (by rw [List.length_map, List.length_append]; omega) ?_
                refine ⟨_, rfl, same_put m1 hqn, by rw [upd_ne hqr.symm]; exact m2, by rw [upd_ne hqd.symm]; exact m3, by rw [upd_ne huq.symm]; exact m4, ?_⟩
                rw [upd_same, take_more hz2, List.filter_append, filt1 hm, ← List.append_assoc, map_snoc]
              · rw [decide_eq_false hm]
                refine s_itF rfl ?_
                walk_at "ss"
                refine ⟨_, rfl, m1, m2, m3, m4, ?_⟩
                rw [m5, take_more hz2, List.filter_append, filt0 hm, List.append_nil]
            · rintro σ' H5 ⟨v, rfl, m1, m2, m3, m4, m5⟩
              refine ⟨_, _, rfl, m1, m2, m3, ?_⟩
              rw [take_more hj, flat_more, m5]
              rfl
          · rintro σ' H4 ⟨v, w, rfl, k1, k2, k3, k4⟩
            rw [List.length_map, List.take_length, ← hO] at k4
            exact ⟨v, w, rfl, k1, k4⟩
    · rintro σ2 H2 ⟨v, w, rfl, k1, k2⟩
      walk_at "ss"
      exact hq H2 q k1 hqn k2
def sp_law_sorted (K : PySem.W.Frag) : Sp := Sp1 fun x H Q _ => ∃ (p : Addr) (zs : List Str), x = .ref p ∧ H p = some (.lst (zs.map V.str)) ∧ zs.length ≤ 1000 ∧ (∀ H' q, Same H H' → H q = none → H' q = some (.lst ((srt zs).map V.str)) → Q (.ref q) H')
def N_law_sorted : List PySem.Str := ["_law_names_here", "_law_result", "_law_name_here", "_law_each"]
def t_law_sorted (K : PySem.W.Frag) (W : WX) : TS := (tSeq (tAsg (tLst tNil) (gName 1))
    (tCut (tFor (iAnyP K (tCB (rSortAny K) (tCons (tLc (iAnyP K (tVar 0)) (gName 3) tYes (tCB rStrP (tCons (tVar 3) tNil)) [3]) tNil))) (gName 2) (tIfS (tTest (tOp (rInP K true) (tVar 2) (tVar 1))) (tDrop (tBM K "list" rAppend (tVar 1) (tCons (tVar 2) tNil))) tNext))
    (tRet (tVar 1))))
theorem pure_law_sorted {K : PySem.W.Frag} {vs : List V} {H : Hp} {Q : VK} {E : XK} {W : WX} (h : sp_law_sorted K vs H Q E) : t_law_sorted K W { nx := fun _ H' => Q .non H', rt := Q } (start N_law_sorted vs) H := by
  obtain ⟨x, rfl, p, zs, rfl, hp, hl, hq⟩ := h
  show t_law_sorted K W _ [some (.ref p), none, none, none] H
  unfold t_law_sorted
  walk_at "ss"
  refine ⟨Nat.zero_le _, fun q hqn => ?_⟩
  have s2 : Same H (upd H q (.lst [])) := same_new hqn
  walk_at "ss"
  refine s_cut (fun σ2 H2 => ∃ v, σ2 = [some (.ref p), some (.ref q), v, none] ∧ Same H H2 ∧ H2 q = some (.lst ((srt zs).map V.str))) ?_ ?_
  · walk_at "ss"
    refine lcb_map (fun x => x) (.inl (SqL.of (s2 _ _ hp))) (by rw [List.length_map]; omega) ?_ ?_
    · intro x hx H2 s3 Q' hQ
      obtain ⟨z, _, rfl⟩ := List.mem_map.mp hx
      walk_at "ss"
      exact hQ _ (Same.refl _)
    · intro D H2 hD s3 hl2
      rw [List.map_id'] at hl2
      walk_at "ss"
      refine s_sort hl2 (by omega) fun ys r hperm hsort hr => ?_
      have hs := sorted_pair hsort
      have s4 : Same H (upd H2 r (.lst (ys.map V.str))) := (s2.trans s3).trans (same_new hr)
      have hqr : q ≠ r := fun e => by rw [← e, s3 _ _ upd_same] at hr; cases hr
      refine forb_list (xs := ys.map V.str) (fun i σ' H' => ∃ v acc, σ' = [some (.ref p), some (.ref q), v, none] ∧ Same H H' ∧ H' r = some (.lst (ys.map V.str)) ∧ H' q = some (.lst (acc.map V.str)) ∧ Ord acc ∧ (∀ z, z ∈ acc ↔ z ∈ ys.take i) ∧ acc.length ≤ i)
        ⟨_, [], rfl, s4, upd_same, by rw [upd_ne hqr]; exact s3 _ _ upd_same, List.Pairwise.nil, by simp, Nat.le_refl _⟩ ?_ ?_ ?_
      · rintro i σ' H' hi ⟨v, acc, rfl, _, h2, _⟩
        exact SqL.of h2
      · rintro i y σ' H3 hi ⟨v, acc, rfl, h1, h2, h3, h4, h5, h6⟩
        have hil := (List.getElem?_eq_some_iff.mp hi).1
        rw [List.length_map, hperm.length_eq] at hil
        obtain ⟨z, hj, rfl⟩ := at_strs hi; replace hi := hj
        obtain ⟨n1, n2⟩ := nub_step hs hi h4 h5
        walk_at "ss"
        refine s_inSL h3 ?_
        show ∃ k, V.bl (!decide (z ∈ acc)) = .bl k ∧ _
        walk_at "ss"
        by_cases hm : z ∈ acc
        · rw [decide_eq_true hm]
          refine s_itF rfl ?_
          walk_at "ss"
          exact ⟨_, acc, rfl, h1, h2, h3, h4, n1 hm, by omega⟩
        · rw [decide_eq_false hm]
          refine s_itT rfl ?_
          walk_at "ss"
          refine s_tyL h3 ?_
          walk_at "ss"
          refine s_app h3 (by rw [List.length_map]; omega) ?_
          refine ⟨_, acc ++ [z], rfl, fun b o e => ?_, by rw [upd_ne hqr.symm]; exact h2, by rw [upd_same, List.map_append]; rfl, (n2 hm).1, (n2 hm).2, by rw [List.length_append]; simp; omega⟩
          rw [upd_ne (ne_of_none e hqn)]
          exact h1 _ _ e
      · rintro σ' H3 ⟨v, acc, rfl, h1, h2, h3, h4, h5, h6⟩
        rw [List.length_map, List.take_length] at h5
        have e : acc = srt zs := srt_eq h4 fun x => (h5 x).trans hperm.mem_iff
        rw [e] at h3
        exact ⟨v, rfl, h1, h3⟩
  · rintro σ2 H2 ⟨v, rfl, h1, h2⟩
    walk_at "ss"
    exact hq H2 q h1 hqn h2
def sp_law_ordered (K : PySem.W.Frag) : Sp := Sp1 fun x H Q _ => ∃ (p : Addr) (zs : List Str), x = .ref p ∧ H p = some (.lst (zs.map V.str)) ∧ zs.length ≤ 1000 ∧ (∀ z ∈ zs, z.length ≤ 100000) ∧ (∀ H' q, Same H H' → H q = none → H' q = some (.lst ((litO zs).map V.str)) → Q (.ref q) H')
def N_law_ordered : List PySem.Str := ["_law_literals", "_law_result", "_law_name_here", "_law_each"]
def t_law_ordered (K : PySem.W.Frag) (W : WX) : TS := (tSeq (tAsg (tLst tNil) (gName 1))
    (tCut (tFor (iAnyP K (tCallS (sp_law_sorted K) (WE W) (tCons (tLc (iAnyP K (tVar 0)) (gName 3) tYes (tCall (sp_law_name K) [] E0 (tCons (tVar 3) tNil)) [3]) tNil))) (gName 2) (tCut (tIfS (tTest (tOp (rInP K false) (tVar 2) (tVar 0))) (tDrop (tBM K "list" rAppend (tVar 1) (tCons (tVar 2) tNil))) tNext)
    (tIfS (tTest (tOp (rInP K false) (tOp (rAddP K) (tC (.str "-")) (tVar 2)) (tVar 0))) (tDrop (tBM K "list" rAppend (tVar 1) (tCons (tOp (rAddP K) (tC (.str "-")) (tVar 2)) tNil))) tNext)))
    (tRet (tVar 1))))
theorem pure_law_ordered {K : PySem.W.Frag} {vs : List V} {H : Hp} {Q : VK} {E : XK} {W : WX} (h : sp_law_ordered K vs H Q E) : t_law_ordered K W { nx := fun _ H' => Q .non H', rt := Q } (start N_law_ordered vs) H := by
  obtain ⟨x, rfl, p, zs, rfl, hp, hl, hz, hq⟩ := h
  show t_law_ordered K W _ [some (.ref p), none, none, none] H
  unfold t_law_ordered
  walk_at "ss"
  refine ⟨Nat.zero_le _, fun q hqn => ?_⟩
  have hqp : q ≠ p := fun e => by rw [e, hp] at hqn; cases hqn
  walk_at "ss"
  refine s_cut (fun σ2 H2 => ∃ w, σ2 = [some (.ref p), some (.ref q), w, none] ∧ Same H H2 ∧ H2 q = some (.lst ((litO zs).map V.str))) ?_ ?_
  · walk_at "ss"
    refine lcb_map (fun x => match x with | .str z => .str (bare z) | _ => .non) (.inl (SqL.of (same_new hqn _ _ hp))) (by rw [List.length_map]; omega) ?_ ?_
    · intro x hx H2 s3 Q' hQ
      obtain ⟨z, hzz, rfl⟩ := List.mem_map.mp hx
      walk_at "ss"
      exact ⟨_, rfl, z, rfl, by have := hz z hzz; omega, hQ _ (Same.refl _)⟩
    · intro D H2 hD s2 hr
      have e1 : (zs.map V.str).map (fun x => match x with | .str z => V.str (bare z) | _ => .non) = (zs.map bare).map V.str := by rw [List.map_map, List.map_map]; rfl
      rw [e1] at hr
      walk_at "ss"
      refine ⟨_, rfl, D, zs.map bare, rfl, hr, by rw [List.length_map]; exact hl, fun H3 r s3 hrn h4 => ?_⟩
      have sA : Same (upd H q (.lst [])) H3 := s2.trans s3
      have hqr : q ≠ r := fun e => by rw [← e, s2 _ _ upd_same] at hrn; cases hrn
      have hos : (srt (zs.map bare)).length ≤ 1000 := by have := srt_len (zs.map bare); rw [List.length_map] at this; omega
      generalize hO : srt (zs.map bare) = os at h4 hos
      have hnm : ∀ n ∈ os, n.length ≤ 100000 := fun n hn => by
        rw [← hO] at hn
        obtain ⟨y, hy, rfl⟩ := List.mem_map.mp (mem_srt.mp hn)
        exact Nat.le_trans (bare_len y) (hz y hy)
      refine forb_list (xs := os.map V.str) (fun i σ' H' => ∃ w, σ' = [some (.ref p), some (.ref q), w, none] ∧ Same H H' ∧ H' r = some (.lst (os.map V.str)) ∧ H' q = some (.lst ((flat zs (os.take i)).map V.str)))
        ⟨_, rfl, (same_new hqn).trans sA, h4, sA _ _ upd_same⟩ ?_ ?_ ?_
      · rintro i σ' H' hi ⟨w, rfl, _, h5, _⟩
        exact SqL.of h5
      · rintro i y σ' H4 hi ⟨w, rfl, k1, k2, k4⟩
        have hil := (List.getElem?_eq_some_iff.mp hi).1
        rw [List.length_map] at hil
        obtain ⟨n, hj, rfl⟩ := at_strs hi
        have hn8 : n.length ≤ 100000 := hnm n (List.mem_of_getElem? hj)
        have hns : 1 + n.length ≤ sizeLine := by rw [sizeLine_eq]; omega
        have fl := flat_len zs (os.take i)
        rw [List.length_take] at fl
        have fin : ∀ H5, Same H H5 → H5 r = some (.lst (os.map V.str)) → H5 q = some (.lst ((flat zs (os.take i) ++ [n, ("-" : Str) ++ n].filter fun z => decide (z ∈ zs)).map V.str)) → ∃ w, [some (.ref p), some (.ref q), some (.str n), none] = [some (V.ref p), some (.ref q), w, none] ∧ Same H H5 ∧ H5 r = some (.lst (os.map V.str)) ∧ H5 q = some (.lst ((flat zs (os.take (i + 1))).map V.str)) := fun H5 a1 a2 a3 => ⟨_, rfl, a1, a2, by rw [take_more hj, flat_more, a3]⟩
        walk_at "ss"
        refine s_cut (fun σ5 H5 => σ5 = [some (.ref p), some (.ref q), some (.str n), none] ∧ Same H H5 ∧ H5 r = some (.lst (os.map V.str)) ∧ H5 q = some (.lst ((flat zs (os.take i) ++ [n].filter fun z => decide (z ∈ zs)).map V.str))) ?_ ?_
        · walk_at "ss"
          refine s_inSL (k1 _ _ hp) ?_
          show ∃ k, V.bl (decide (n ∈ zs)) = .bl k ∧ _
          walk_at "ss"
          by_cases hm : n ∈ zs
          · rw [decide_eq_true hm]
            refine s_itT rfl ?_
            walk_at "ss"
            refine s_tyL k4 ?_
            walk_at "ss"
            refine s_app k4 (by rw [List.length_map]; omega) ?_
            refine ⟨rfl, same_put k1 hqn, by rw [upd_ne hqr.symm]; exact k2, ?_⟩
            rw [upd_same, filt1 hm, List.map_append]
            rfl
          · rw [decide_eq_false hm]
            refine s_itF rfl ?_
            walk_at "ss"
            refine ⟨rfl, k1, k2, ?_⟩
            rw [k4, filt0 hm, List.append_nil]
        · rintro σ5 H5 ⟨rfl, k1, k2, k4⟩
          have fl3 := List.length_filter_le (fun z => decide (z ∈ zs)) [n]
          simp only [List.length_cons, List.length_nil] at fl3
          have e2 : [n, ("-" : Str) ++ n].filter (fun z => decide (z ∈ zs)) = [n].filter (fun z => decide (z ∈ zs)) ++ [("-" : Str) ++ n].filter (fun z => decide (z ∈ zs)) := List.filter_append (l₁ := [n]) (l₂ := [("-" : Str) ++ n])
          walk_at "ss"
          refine s_addS hns ?_
          walk_at "ss"
          refine s_inSL (k1 _ _ hp) ?_
          show ∃ k, V.bl (decide (("-" : Str) ++ n ∈ zs)) = .bl k ∧ _
          walk_at "ss"
          by_cases hm : ("-" : Str) ++ n ∈ zs
          · rw [decide_eq_true hm]
            refine s_itT rfl ?_
            walk_at "ss"
            refine s_tyL k4 ?_
            walk_at "ss"
            refine s_addS hns ?_
            walk_at "ss"
            refine s_app k4 (by rw [List.length_map, List.length_append]; omega) ?_
            refine fin _ (same_put k1 hqn) (by rw [upd_ne hqr.symm]; exact k2) ?_
            rw [upd_same, e2, filt1 hm, ← List.append_assoc, List.map_append (l₂ := [("-" : Str) ++ n])]
            rfl
          · rw [decide_eq_false hm]
            refine s_itF rfl ?_
            walk_at "ss"
            refine fin _ k1 k2 ?_
            rw [k4, e2, filt0 hm, List.append_nil]
      · rintro σ' H4 ⟨w, rfl, k1, k2, k4⟩
        rw [List.length_map, List.take_length, ← hO] at k4
        exact ⟨w, rfl, k1, k4⟩
  · rintro σ2 H2 ⟨w, rfl, k1, k2⟩
    walk_at "ss"
    exact hq H2 q k1 hqn k2
end Rd
namespace Rd
open PySem PySem.Spec PyProof.Rows L2 He Px
def sp_law_bad (K : PySem.W.Frag) : Sp := Sp2 fun x y H Q _ => ∃ (a : Addr) (n : Str), x = .ref a ∧ y = .str n ∧ Src H a ∧ isNm n = true ∧ ∀ H' (z : Str), Src H' a → Mov a H H' → isLit z = false → z.length ≤ 100 → Q (.str z) H'
def N_law_bad : List PySem.Str := ["_law_source_here", "_law_name_here", "_law_barred", "_law_style", "_law_at"]
def t_law_bad (K : PySem.W.Frag) (W : WX) : TS := (tSeq (tAsg (tC (.str " !\"#$&'()*+,./:;<=>?@ABCDEFGHIJKLMNOPQRSTUVWXYZ[\\]^_`{|}~\n")) (gName 2))
    (tSeq (tAsg (tCallS (sp_law_take K) (WE W) (tCons (tVar 0) (tCons (tC (.int 6)) tNil))) (gName 3))
    (tCut (tIfS (tTest (tOp (rEqP K) (tVar 3) (tC (.int 0)))) (tRet (tC (.str ""))) tNext)
    (tCut (tIfS (tTest (tOp (rEqP K) (tVar 3) (tC (.int 1)))) (tRet (tC (.str "-"))) tNext)
    (tCut (tIfS (tTest (tOp (rEqP K) (tVar 3) (tC (.int 2)))) (tRet (tOp (rAddP K) (tC (.str "--")) (tVar 1))) tNext)
    (tCut (tIfS (tTest (tOp (rEqP K) (tVar 3) (tC (.int 3)))) (tRet (tOp (rAddP K) (tVar 1) (tSl (rSlP K) (tC (.str "abcdefgh")) (tPart (tOp rSubP (tCB (rLenP K) (tCons (tVar 1) tNil)) (tC (.int 1)))) tNoPart))) tNext)
    (tCut (tIfS (tTest (tOp (rEqP K) (tVar 3) (tC (.int 4)))) (tRet (tOp (rAddP K) (tC (.str "7")) (tSl (rSlP K) (tVar 1) (tPart (tC (.int 1))) tNoPart))) tNext)
    (tSeq (tAsg (tCallS (sp_law_take K) (WE W) (tCons (tVar 0) (tCons (tOp (rAddP K) (tC (.int 1)) (tCB (rLenP K) (tCons (tVar 1) tNil))) tNil))) (gName 4))
    (tRet (tOp (rAddP K) (tOp (rAddP K) (tSl (rSlP K) (tVar 1) tNoPart (tPart (tVar 4))) (tOp (rIxP K) (tVar 2) (tCallS (sp_law_take K) (WE W) (tCons (tVar 0) (tCons (tC (.int 58)) tNil))))) (tSl (rSlP K) (tVar 1) (tPart (tVar 4)) tNoPart)))))))))))
theorem pure_law_bad {K : PySem.W.Frag} {vs : List V} {H : Hp} {Q : VK} {E : XK} {W : WX} (h : sp_law_bad K vs H Q E) : t_law_bad K W { nx := fun _ H' => Q .non H', rt := Q } (start N_law_bad vs) H := by
  obtain ⟨x, y, rfl, a, n, rfl, rfl, hS, hn, hq⟩ := h
  obtain ⟨c, r, e, hc, hs, l1, l8⟩ := nm_first hn
  have hns : n.length ≤ sizeLine := by rw [sizeLine_eq]; omega
  show t_law_bad K W _ [some (.ref a), some (.str n), none, none, none] H
  unfold t_law_bad
  walk_at "ss"
  refine take_ok hS (by decide) (by decide) fun H1 style S1 b1 s0 s1 => ?_
  walk_at "ss"
  refine s_nocut ?_
  walk_at "ss"
  refine s_itd (fun _ => ?_) (fun _ => ?_)
  · walk_at "ss"
    exact hq _ _ S1 b1 (by decide +kernel) (by decide)
  walk_at "ss"
  refine s_nocut ?_
  walk_at "ss"
  refine s_itd (fun _ => ?_) (fun _ => ?_)
  · walk_at "ss"
    exact hq _ _ S1 b1 (by decide +kernel) (by decide)
  walk_at "ss"
  refine s_nocut ?_
  walk_at "ss"
  refine s_itd (fun _ => ?_) (fun _ => ?_)
  · walk_at "ss"
    refine s_addS (by show 2 + n.length ≤ sizeLine; rw [sizeLine_eq]; omega) ?_
    refine hq _ _ S1 b1 ?_ (by rw [app_len]; show 2 + n.length ≤ 100; omega)
    have e2 : ("--" : Str) ++ n = ("-" : Str) ++ (("-" : Str) ++ n) := str_ext (by rw [app_toList, app_toList, app_toList]; rfl)
    rw [e2]
    unfold isLit
    rw [bare_app]
    cases hb : isNm (("-" : Str) ++ n) with
    | false => rfl
    | true => have := nm_nodash hb; rw [dash_app] at this; cases this
  walk_at "ss"
  refine s_nocut ?_
  walk_at "ss"
  refine s_itd (fun _ => ?_) (fun _ => ?_)
  · walk_at "ss"
    refine s_lenS hns ?_
    walk_at "ss"
    refine s_slS (by decide +kernel) ?_
    have e3 : ((n.length : Int) - 1) = ((n.length - 1 : Nat) : Int) := by omega
    have l3 := len_toList (cutS "abcdefgh" (some ((n.length : Int) - 1)) none)
    rw [e3, cut_from, List.length_drop, ← e3] at l3
    have l4 : ("abcdefgh" : Str).cps.toList.length = 8 := by decide +kernel
    rw [l4] at l3
    refine s_addS (by rw [sizeLine_eq]; omega) ?_
    refine hq _ _ S1 b1 (bad_long (c := c) (r := r ++ (cutS "abcdefgh" (some ((n.length : Int) - 1)) none).cps.toList) (by rw [app_toList, e]; rfl) (letter_ne hc) (by rw [app_len]; omega)) (by rw [app_len]; omega)
  walk_at "ss"
  refine s_nocut ?_
  walk_at "ss"
  refine s_itd (fun _ => ?_) (fun _ => ?_)
  · walk_at "ss"
    refine s_slS hns ?_
    have l3 := cutS_len n (some 1) none
    refine s_addS (by show 1 + _ ≤ sizeLine; rw [sizeLine_eq]; omega) ?_
    exact hq _ _ S1 b1 (bad_first (c := 55) (r := (cutS n (some 1) none).cps.toList) (by rw [app_toList]; rfl) (by decide) (by decide +kernel)) (by rw [app_len]; show 1 + _ ≤ 100; omega)
  walk_at "ss"
  refine s_lenS hns ?_
  walk_at "ss"
  refine take_ok S1 (by omega) (by omega) fun H2 at_ S2 b2 a0 a1 => ?_
  walk_at "ss"
  refine s_slS hns ?_
  walk_at "ss"
  refine take_ok S2 (by decide) (by decide) fun H3 k S3 b3 k0 k1 => ?_
  walk_at "ss"
  have hL : (" !\"#$&'()*+,./:;<=>?@ABCDEFGHIJKLMNOPQRSTUVWXYZ[\\]^_`{|}~\n" : Str).cps.toList.length = 58 := by decide +kernel
  obtain ⟨d, hd, e2⟩ := at_ex (l := (" !\"#$&'()*+,./:;<=>?@ABCDEFGHIJKLMNOPQRSTUVWXYZ[\\]^_`{|}~\n" : Str).cps.toList) k0 (by rw [hL]; exact k1)
  refine s_ixS (by decide +kernel) e2 ?_
  have l2 := cutS_len n none (some at_)
  refine s_addS (by show _ + 1 ≤ sizeLine; rw [sizeLine_eq]; omega) ?_
  walk_at "ss"
  refine s_slS hns ?_
  have l3 := cutS_len n (some at_) none
  have l4 : (cutS n none (some at_) ++ (⟨#[d]⟩ : Str)).length = (cutS n none (some at_)).length + 1 := app_len _ _
  refine s_addS (by rw [sizeLine_eq]; omega) ?_
  have hno : ∀ x ∈ (" !\"#$&'()*+,./:;<=>?@ABCDEFGHIJKLMNOPQRSTUVWXYZ[\\]^_`{|}~\n" : Str).cps.toList, x ∉ signsL ∧ x ≠ 45 := by decide +kernel
  refine hq _ _ S3 (b1.trans (b2.trans b3)) (bad_sign (c := d) ?_ (hno d hd).1 (hno d hd).2) (by rw [app_len]; omega)
  rw [app_toList, app_toList]
  exact List.mem_append_left _ (List.mem_append_right _ List.mem_cons_self)
end Rd
namespace Rd
open PySem PySem.Spec PyProof.Rows L2 He Px
def sp_law_list (K : PySem.W.Frag) : Sp := Sp2 fun x y H Q _ => ∃ (a p : Addr) (ns : List Str), x = .ref a ∧ y = .ref p ∧ Src H a ∧ p ≠ a ∧ H p = some (.lst (ns.map V.str)) ∧ 1 ≤ ns.length ∧ ns.length ≤ 40 ∧ (∀ z ∈ ns, isNm z = true) ∧ ∀ H' (q : Addr) (zs : List Str), Src H' a → Mov a H H' → H q = none → q ≠ a → H' q = some (.lst (zs.map V.str)) → zs.length ≤ 14 → (∀ z ∈ zs, isLit z = true) → Q (.ref q) H'
def N_law_list : List PySem.Str := ["_law_source_here", "_law_names_here", "_law_literals", "_law_k"]
def t_law_list (K : PySem.W.Frag) (W : WX) : TS := (tSeq (tAsg (tLst tNil) (gName 2))
    (tCut (tFor (iRng1 (tCons (tCallS (sp_law_take K) (WE W) (tCons (tVar 0) (tCons (tC (.int 15)) tNil))) tNil)) (gName 3) (tDrop (tBM K "list" rAppend (tVar 2) (tCons (tOp (rAddP K) (tOp (rIxP K) (tLst (tCons (tC (.str "")) (tCons (tC (.str "-")) tNil))) (tCallS (sp_law_take K) (WE W) (tCons (tVar 0) (tCons (tC (.int 2)) tNil)))) (tOp (rIxP K) (tVar 1) (tCallS (sp_law_take K) (WE W) (tCons (tVar 0) (tCons (tCB (rLenP K) (tCons (tVar 1) tNil)) tNil))))) tNil))))
    (tRet (tVar 2))))
theorem dash_any {r : Int} (h0 : 0 ≤ r) (h1 : r < 2) : ∃ d : Str, atI [V.str "", V.str "-"] r = some (.str d) ∧ d.length ≤ 1 ∧ ∀ n, isNm n = true → isLit (d ++ n) = true := by
  rcases (show r = 0 ∨ r = 1 by omega) with rfl | rfl
  · refine ⟨"", rfl, by decide, fun n hn => ?_⟩
    rw [show ("" : Str) ++ n = n from str_ext (by rw [app_toList]; rfl)]
    exact nm_lit hn
  · exact ⟨"-", rfl, by decide, fun n hn => neg_lit hn⟩
theorem pure_law_list {K : PySem.W.Frag} {vs : List V} {H : Hp} {Q : VK} {E : XK} {W : WX} (h : sp_law_list K vs H Q E) : t_law_list K W { nx := fun _ H' => Q .non H', rt := Q } (start N_law_list vs) H := by
  obtain ⟨x, y, rfl, a, p, ns, rfl, rfl, hS, hpa, hp, hn1, hnl, hnm, hq⟩ := h
  show t_law_list K W _ [some (.ref a), some (.ref p), none, none] H
  unfold t_law_list
  walk_at "ss"
  refine ⟨Nat.zero_le _, fun q hq0 => ?_⟩
  have hqa := hS.ne hq0
  have hqp : q ≠ p := fun e => by rw [e, hp] at hq0; cases hq0
  walk_at "ss"
  refine s_cut (fun σ' H' => ∃ v, σ' = [some (.ref a), some (.ref p), some (.ref q), v] ∧ Src H' a ∧ Mov a H H' ∧ ∃ zs : List Str, H' q = some (.lst (zs.map V.str)) ∧ zs.length ≤ 14 ∧ ∀ z ∈ zs, isLit z = true) ?_ ?_
  · walk_at "ss"
    refine take_ok (hS.keep (same_new hq0)) (by decide) (by decide) fun H2 m S2 b2 m0 m1 => ?_
    have B2 : Mov a H H2 := (Mov.of_same (same_new hq0)).trans b2
    refine forr_inv (by omega) (by omega) (fun i σ' H' => ∃ v, σ' = [some (.ref a), some (.ref p), some (.ref q), v] ∧ Src H' a ∧ Mov a H H' ∧ ∃ zs : List Str, H' q = some (.lst (zs.map V.str)) ∧ zs.length = i ∧ ∀ z ∈ zs, isLit z = true)
      ⟨_, rfl, S2, B2, [], b2 _ _ upd_same hqa, rfl, by simp⟩ ?_ ?_
    · rintro i σ' H' hi ⟨v, rfl, S6, B6, zs, hzs6, hzl, hlit⟩
      walk_at "ss"
      refine s_tyL hzs6 ?_
      walk_at "ss"
      refine ⟨by show 2 ≤ sizeLine; rw [sizeLine_eq]; decide, fun l hl => ?_⟩
      have hla := S6.ne hl
      walk_at "ss"
      refine take_ok (S6.keep (same_new hl)) (by decide) (by decide) fun H7 r S7 b7 r0 r1 => ?_
      have B7 : Mov a H H7 := (B6.trans (Mov.of_same (same_new hl))).trans b7
      obtain ⟨d, hd, hdl, hL⟩ := dash_any r0 r1
      refine s_ixL (b7 _ _ upd_same hla) hd ?_
      walk_at "ss"
      refine s_lenL (B7 _ _ hp hpa) ?_
      walk_at "ss"
      rw [List.length_map]
      refine take_ok S7 (by omega) (by omega) fun H8 j S8 b8 j0 j1 => ?_
      have B8 : Mov a H H8 := B7.trans b8
      obtain ⟨n, hnM, hn⟩ := at_str (l := ns) (i := j) j0 j1
      refine s_ixL (B8 _ _ hp hpa) hn ?_
      have h8 : n.length ≤ 8 := nm_short (hnm n hnM)
      refine s_addS (by rw [sizeLine_eq]; omega) ?_
      walk_at "ss"
      have hzs8 : H8 q = some (.lst (zs.map V.str)) := b8 _ _ (b7 _ _ (same_new hl _ _ hzs6) hqa) hqa
      refine s_app hzs8 (by rw [List.length_map]; omega) ?_
      refine ⟨_, rfl, hS.off hq0 B8 S8, Mov.put hS hq0 B8, zs ++ [d ++ n], by rw [upd_same, map_snoc], by rw [List.length_append, hzl]; rfl, fun y hy => ?_⟩
      rcases List.mem_append.mp hy with hy | hy
      · exact hlit y hy
      · have : y = d ++ n := by simpa using hy
        rw [this]; exact hL n (hnm n hnM)
    · rintro σ' H' ⟨v, rfl, S3, B3, zs, hzs, hzl, hlit⟩
      exact ⟨v, rfl, S3, B3, zs, hzs, by omega, hlit⟩
  · rintro σ' H' ⟨v, rfl, S3, B3, zs, hzs, hzl, hlit⟩
    walk_at "ss"
    exact hq H' q zs S3 B3 hq0 hqa hzs hzl hlit
def sp_law_told (K : PySem.W.Frag) : Sp := Sp2 fun x y H Q _ => ∃ (p q : Addr) (zs : List Str), x = .ref p ∧ y = .ref q ∧ H p = some (.lst (zs.map V.str)) ∧ H q = some (.lst ((litO zs).map V.str)) ∧ zs.length ≤ 100 ∧ (∀ z ∈ zs, isLit z = true) ∧ ∀ H', Same H H' → Q (.bl true) H'
def N_law_told : List PySem.Str := ["_law_literals", "_law_due", "_law_given", "_law_told_here"]
def t_law_told (K : PySem.W.Frag) (W : WX) : TS := (tSeq (tAsg (tCB (rListP K) (tCons (tVar 0) tNil)) (gName 2))
    (tSeq (tAsg (tCallS (sp_in_order K) (WE W) (tCons (tVar 2) tNil)) (gName 3))
    (tCut (tIfS (tOr (tNot (tB (tCallS (sp_law_same K) (WE W) (tCons (tVar 3) (tCons (tVar 1) tNil))))) (tNot (tB (tCallS (sp_law_same K) (WE W) (tCons (tVar 2) (tCons (tVar 0) tNil)))))) (tRet (tC (.bl false))) tNext)
    (tSeq (tDrop (tBM K "list" rAppend (tVar 3) (tCons (tC (.str "-")) tNil)))
    (tRet (tAndV (tCallS (sp_law_same K) (WE W) (tCons (tVar 2) (tCons (tVar 0) tNil))) (tCallS (sp_law_same K) (WE W) (tCons (tCallS (sp_in_order K) (WE W) (tCons (tVar 2) tNil)) (tCons (tVar 1) tNil)))))))))
theorem pure_law_told {K : PySem.W.Frag} {vs : List V} {H : Hp} {Q : VK} {E : XK} {W : WX} (h : sp_law_told K vs H Q E) : t_law_told K W { nx := fun _ H' => Q .non H', rt := Q } (start N_law_told vs) H := by
  obtain ⟨x, y, rfl, p, q, zs, rfl, rfl, hp, hq0, hl, hz, hq⟩ := h
  show t_law_told K W _ [some (.ref p), some (.ref q), none, none] H
  unfold t_law_told
  have hb : badOf zs = none := badOf_none hz
  have lo := litO_len zs
  have fz : Fits 4 (.list (zs.map PyData.str)) := (fits_strs (by omega)).2
  have fo : Fits 4 (.list ((litO zs).map PyData.str)) := (fits_strs (by omega)).2
  walk_at "ss"
  refine s_listS hp fun g hg => ?_
  have s1 : Same H (upd H g (.lst (zs.map V.str))) := same_new hg
  generalize hH1 : upd H g (.lst (zs.map V.str)) = H1 at s1
  have hg1 : H1 g = some (.lst (zs.map V.str)) := by rw [← hH1]; exact upd_same
  walk_at "ss"
  refine ⟨_, rfl, g, zs, rfl, .inl hg1, by omega, fun z h => by have := lit_len (hz z h); omega, fun z e => by rw [hb] at e; (cases e), fun _ H2 t s2 ht0 ht => ?_⟩
  have hp2 := s2 _ _ (s1 _ _ hp)
  have hq2 := s2 _ _ (s1 _ _ hq0)
  have hg2 := s2 _ _ hg1
  walk_at "ss"
  refine s_nocut ?_
  walk_at "ss"
  refine same_ok (d := .list ((litO zs).map .str)) (.lst ht (IsAll.strs _)) (.lst hq2 (IsAll.strs _)) fo fun H3 s3 => ?_
  walk_at "ss"
  refine s_itF rfl ?_
  walk_at "ss"
  refine same_ok (d := .list (zs.map .str)) (.lst (s3 _ _ hg2) (IsAll.strs _)) (.lst (s3 _ _ hp2) (IsAll.strs _)) fz fun H4 s4 => ?_
  walk_at "ss"
  refine s_itF rfl ?_
  walk_at "ss"
  have ht4 := s4 _ _ (s3 _ _ ht)
  have s14 : Same H1 H4 := (s2.trans s3).trans s4
  have off : ∀ {b : Addr} {o : HO}, H1 b = some o → b ≠ t := fun {b o} h e => by rw [e, ht0] at h; cases h
  refine s_tyL ht4 ?_
  walk_at "ss"
  refine s_app ht4 (by rw [List.length_map]; omega) ?_
  generalize hH5 : upd H4 t (.lst ((litO zs).map V.str ++ [.str "-"])) = H5
  have s15 : Same H1 H5 := fun b o h => by rw [← hH5, upd_ne (off h)]; exact s14 _ _ h
  walk_at "ss"
  refine same_ok (d := .list (zs.map .str)) (.lst (s15 _ _ hg1) (IsAll.strs _)) (.lst (s15 _ _ (s1 _ _ hp)) (IsAll.strs _)) fz fun H6 s6 => ?_
  walk_at "ss"
  refine s_itT rfl ?_
  have s16 := s15.trans s6
  walk_at "ss"
  refine ⟨_, rfl, g, zs, rfl, .inl (s16 _ _ hg1), by omega, fun z h => by have := lit_len (hz z h); omega, fun z e => by rw [hb] at e; (cases e), fun _ H7 u s7 hu0 hu => ?_⟩
  walk_at "ss"
  refine same_ok (d := .list ((litO zs).map .str)) (.lst hu (IsAll.strs _)) (.lst (s7 _ _ (s16 _ _ (s1 _ _ hq0))) (IsAll.strs _)) fo fun H8 s8 => ?_
  exact hq H8 (((s1.trans s16).trans s7).trans s8)
/-- the facts of the head -/
structure FxR (K : PySem.W.Frag) : Prop where
  m : PySem.W.exmOne K (.ref (ga K "BadLiteral")) (.ref (ga K "BadLiteral")) = some true
  x : ExcC K (ga K "BadLiteral")
  h : PySem.W.kitOne K (.ref (ga K "BadLiteral")) (.ref (ga K "HornError")) = some true
  v : PySem.W.kitOne K (.ref (ga K "BadLiteral")) (.type "ValueError") = some true
  n : PySem.W.kitOne K (.ref (ga K "BadLiteral")) (.ref (ga K "BadName")) = some false
def sp_law_refused (K : PySem.W.Frag) : Sp := Sp2 fun x y H Q _ => ∃ (p : Addr) (zs : List Str) (z : Str), x = .ref p ∧ y = .str z ∧ H p = some (.lst (zs.map V.str)) ∧ zs.length ≤ 1000 ∧ (∀ z ∈ zs, z.length ≤ 1000) ∧ badOf zs = some z ∧ ∀ H', Same H H' → Q (.bl true) H'
def N_law_refused : List PySem.Str := ["_law_literals", "_law_text", "_law_given", "error", "_law_right"]
def t_law_refused (K : PySem.W.Frag) (W : WX) : TS := (tSeq (tAsg (tCB (rListP K) (tCons (tVar 0) tNil)) (gName 2))
    (tCut (fun D σ H => (fun W1 => (tDrop (tCallS (sp_in_order K) (WE W1) (tCons (tVar 2) tNil)))) (wAs K (.ref (ga K "BadLiteral")) 3 (fun a_ cls_ d_ => (tSeq (tAsg (tAndV (tCB (rIsEE K a_ cls_ d_) (tCons (tVar 3) (tCons (tC (.ref (ga K "HornError"))) tNil))) (tAndV (tCB (rIsEE K a_ cls_ d_) (tCons (tVar 3) (tCons (tC (.ty "ValueError")) tNil))) (tNotV (tCB (rIsEE K a_ cls_ d_) (tCons (tVar 3) (tCons (tC (.ref (ga K "BadName"))) tNil)))))) (gName 4))
    (tRet (tAndV (tVar 4) (tAndV (tCallS (spH_law_same K) (WE (fun _ _ _ _ => False)) (tCons (tErrF (ga K "BadLiteral") "text" a_ cls_ d_ (tVar 3)) (tCons (tVar 1) tNil))) (tCallS (spHL_law_same K) (WE (fun _ _ _ _ => False)) (tCons (tVar 2) (tCons (tVar 0) tNil)))))))) W D) D σ H)
    (tRet (tC (.bl false)))))
theorem pure_law_refused {K : PySem.W.Frag} (F : FxR K) {vs : List V} {H : Hp} {Q : VK} {E : XK} {W : WX} (h : sp_law_refused K vs H Q E) : t_law_refused K W { nx := fun _ H' => Q .non H', rt := Q } (start N_law_refused vs) H := by
  obtain ⟨x, y, rfl, p, zs, z, rfl, rfl, hp, hl, hz, hb, hq⟩ := h
  show t_law_refused K W _ [some (.ref p), some (.str z), none, none, none] H
  unfold t_law_refused
  walk_at "ss"
  refine s_listS hp fun g hg => ?_
  have hpg : p ≠ g := fun e => by rw [e, hg] at hp; cases hp
  have hp1 : (upd H g (.lst (zs.map V.str))) p = some (.lst (zs.map V.str)) := by rw [upd_ne hpg]; exact hp
  walk_at "ss"
  dsimp only
  refine s_nocut ?_
  dsimp only
  walk_at "ss"
  refine ⟨_, rfl, g, zs, rfl, .inl upd_same, hl, fun y hy => by have := hz y hy; omega, fun y hy H1 d s1 hd => ?_, fun e => by rw [hb] at e; cases e⟩
  rw [hb] at hy
  cases hy
  refine ⟨true, F.m, fun _ a ha => ?_, fun e => by cases e⟩
  walk_at "ss"
  refine ⟨_, _, _, true, rfl, F.x, .inr ⟨d, _, rfl, hd⟩, rfl, fun u r => r, F.h, ?_⟩
  walk_at "ss"
  refine s_itT rfl ?_
  walk_at "ss"
  refine ⟨_, _, _, true, rfl, F.x, .inr ⟨d, _, rfl, hd⟩, rfl, fun u r => r, F.v, ?_⟩
  walk_at "ss"
  refine s_itT rfl ?_
  walk_at "ss"
  refine ⟨_, _, _, false, rfl, F.x, .inr ⟨d, _, rfl, hd⟩, rfl, fun u r => r, F.n, ?_⟩
  walk_at "ss"
  refine s_itT rfl ?_
  walk_at "ss"
  refine ⟨_, rfl, rfl, rfl, d, _, rfl, hd, ?_⟩
  walk_at "ss"
  refine ⟨_, _, rfl, .str z, .str z, .str z, .str z, trivial, trivial, ?_⟩
  rw [sameB_eq rfl]
  walk_at "ss"
  refine s_itT rfl ?_
  walk_at "ss"
  refine ⟨_, _, rfl, g, p, zs, zs, rfl, rfl, s1 _ _ upd_same, s1 _ _ hp1, hl, hl, fun H2 s2 => ?_⟩
  rw [decide_eq_true rfl]
  exact hq H2 (((same_new hg).trans s1).trans s2)
def sp_law (K : PySem.W.Frag) : Sp := Sp1 fun x H Q _ => ∃ (a : Addr) (ns : List Int), x = .ref a ∧ SqL K H a (ns.map V.int) ∧ ns.length ≤ 100 ∧ ∀ H', Q (.bl true) H'
def N_law : List PySem.Str := ["_law_script", "_law_source_here", "_law_names_here", "_law_literals", "_law_due", "_law_bad_here", "_law_k", "_law_at", "_law_text"]
def t_law (K : PySem.W.Frag) (W : WX) : TS := (tSeq (tAsg (tCallS (sp_law_source K) (WE W) (tCons (tVar 0) tNil)) (gName 1))
    (tSeq (tAsg (tCallS (sp_law_names K) (WE W) (tCons (tVar 1) (tCons (tOp (rAddP K) (tC (.int 1)) (tCallS (sp_law_take K) (WE W) (tCons (tVar 1) (tCons (tC (.int 6)) tNil)))) tNil))) (gName 2))
    (tSeq (tAsg (tCallS (sp_law_list K) (WE W) (tCons (tVar 1) (tCons (tVar 2) tNil))) (gName 3))
    (tSeq (tAsg (tCallS (sp_law_ordered K) (WE W) (tCons (tVar 3) tNil)) (gName 4))
    (tCut (tIfS (tOr (tNot (tB (tCallS (sp_law_told K) (WE W) (tCons (tVar 3) (tCons (tVar 4) tNil))))) (tNot (tB (tCallS (sp_law_told K) (WE W) (tCons (tVar 4) (tCons (tVar 4) tNil)))))) (tRet (tC (.bl false))) tNext)
    (tCut (tIfS (tTest (tOp (rNeP K) (tCallS (sp_law_take K) (WE W) (tCons (tVar 1) (tCons (tC (.int 3)) tNil))) (tC (.int 1)))) (tRet (tC (.bl true))) tNext)
    (tSeq (tAsg (tLst tNil) (gName 5))
    (tCut (tFor (iRng1 (tCons (tOp (rAddP K) (tC (.int 1)) (tCallS (sp_law_take K) (WE W) (tCons (tVar 1) (tCons (tC (.int 2)) tNil)))) tNil)) (gName 6) (tSeq (tAsg (tCallS (sp_law_take K) (WE W) (tCons (tVar 1) (tCons (tOp (rAddP K) (tCB (rLenP K) (tCons (tVar 3) tNil)) (tC (.int 1))) tNil))) (gName 7))
    (tSeq (tDrop (tBM K "list" rAppend (tVar 5) (tCons (tCallS (sp_law_bad K) (WE W) (tCons (tVar 1) (tCons (tOp (rIxP K) (tVar 2) (tC (.int 0))) tNil))) tNil)))
    (tDrop (tBM K "list" rInsP (tVar 3) (tCons (tVar 7) (tCons (tOp (rIxP K) (tVar 5) (tVar 6)) tNil)))))))
    (tRet (tCallS (sp_law_refused K) (WE W) (tCons (tVar 3) (tCons (tOp (rIxP K) (tLc (iAnyP K (tVar 3)) (gName 8) (tTest (tOp (rInP K false) (tVar 8) (tVar 5))) (tVar 8) [8]) (tC (.int 0))) tNil))))))))))))
theorem pure_law {K : PySem.W.Frag} {vs : List V} {H : Hp} {Q : VK} {E : XK} {W : WX} (h : sp_law K vs H Q E) : t_law K W { nx := fun _ H' => Q .non H', rt := Q } (start N_law vs) H := by
  obtain ⟨x, rfl, a, ns, rfl, hS, hl, hq⟩ := h
  show t_law K W _ [some (.ref a), none, none, none, none, none, none, none, none] H
  unfold t_law
  walk_at "ss"
  refine ⟨_, rfl, a, ns, rfl, hS, hl, fun H1 s s1 hs S1 => ?_⟩
  walk_at "ss"
  refine take_ok S1 (by decide) (by decide) fun H2 k S2 b2 k0 k6 => ?_
  walk_at "ss"
  refine ⟨_, _, rfl, s, 1 + k, rfl, rfl, S2, by omega, by omega, fun H3 p nm S3 b3 hpn hpa hp hnl hnm _ => ?_⟩
  walk_at "ss"
  refine ⟨_, _, rfl, s, p, nm, rfl, rfl, S3, hpa, hp, by omega, by omega, hnm, fun H4 q zs S4 b4 hqn hqa hzs hzl hlit => ?_⟩
  have hp4 := b4 _ _ hp hpa
  have hqp : q ≠ p := fun e => by rw [e, hp] at hqn; cases hqn
  walk_at "ss"
  refine ⟨_, rfl, q, zs, rfl, hzs, by omega, fun z h => by have := lit_len (hlit z h); omega, fun H5 d s5 hdn hd => ?_⟩
  have S5 := S4.keep s5
  have lo := litO_len zs
  have e2 : litO (litO zs) = litO zs := litO_congr fun x => litO_iff hlit
  walk_at "ss"
  refine s_nocut ?_
  walk_at "ss"
  refine ⟨_, _, rfl, q, d, zs, rfl, rfl, s5 _ _ hzs, hd, by omega, hlit, fun H6 s6 => ?_⟩
  walk_at "ss"
  refine s_itF rfl ?_
  walk_at "ss"
  refine ⟨_, _, rfl, d, d, litO zs, rfl, rfl, s6 _ _ hd, by rw [e2]; exact s6 _ _ hd, by omega, fun z h => hlit z (litO_mem h), fun H7 s7 => ?_⟩
  walk_at "ss"
  refine s_itF rfl ?_
  have S7 := (S5.keep s6).keep s7
  have s47 : Same H4 H7 := (s5.trans s6).trans s7
  have hz7 := s47 _ _ hzs
  have hp7 := s47 _ _ hp4
  walk_at "ss"
  refine s_nocut ?_
  walk_at "ss"
  refine take_ok S7 (by decide) (by decide) fun H8 t S8 b8 t0 t3 => ?_
  have hz8 := b8 _ _ hz7 hqa
  have hp8 := b8 _ _ hp7 hpa
  walk_at "ss"
  by_cases ht : t = 1
  rotate_left
  · refine s_itT (by rw [decide_eq_false ht]; rfl) ?_
    walk_at "ss"
    exact hq _
  refine s_itF (by rw [decide_eq_true ht]; rfl) ?_
  walk_at "ss"
  refine ⟨Nat.zero_le _, fun b hb0 => ?_⟩
  have hba := S8.ne hb0
  have hbq : b ≠ q := fun e => by rw [e, hz8] at hb0; cases hb0
  have hbp : b ≠ p := fun e => by rw [e, hp8] at hb0; cases hb0
  have S9 := S8.keep (same_new (o := HO.lst []) hb0)
  obtain ⟨n0, hn0M, hn0⟩ := at_str (l := nm) (i := 0) (by decide) (by omega)
  have M8 : Mov s H3 H8 := (b4.trans (Mov.of_same s47)).trans b8
  have hb3 : H3 b = none := M8.un hba hb0
  have M9 : Mov s H3 (upd H8 b (.lst [])) := M8.trans (Mov.of_same (same_new hb0))
  walk_at "ss"
  refine s_cut (fun σ' H' => ∃ v u w, σ' = [some (.ref a), some (.ref s), some (.ref p), some (.ref q), some (.ref d), some (.ref b), v, u, w] ∧ ∃ ys bs : List Str, H' q = some (.lst (ys.map V.str)) ∧ H' b = some (.lst (bs.map V.str)) ∧ ys.length ≤ 20 ∧ bs ≠ [] ∧ (∀ y ∈ bs, y ∈ ys) ∧ (∀ y ∈ ys, y.length ≤ 1000) ∧ ∀ y ∈ ys, y ∈ bs ↔ isLit y = false) ?_ ?_
  · walk_at "ss"
    refine take_ok S9 (by decide) (by decide) fun H10 c S10 b10 c0 c2 => ?_
    walk_at "ss"
    refine forr_inv (by omega) (by omega) (fun i σ' H' => ∃ v u w, σ' = [some (.ref a), some (.ref s), some (.ref p), some (.ref q), some (.ref d), some (.ref b), v, u, w] ∧ Src H' s ∧ Mov s H3 H' ∧ ∃ ys bs : List Str, H' q = some (.lst (ys.map V.str)) ∧ H' b = some (.lst (bs.map V.str)) ∧ ys.length = zs.length + i ∧ bs.length = i ∧ (∀ y ∈ bs, y ∈ ys) ∧ (∀ y ∈ ys, y.length ≤ 1000) ∧ ∀ y ∈ ys, y ∈ bs ↔ isLit y = false)
      ⟨_, _, _, rfl, S10, M9.trans b10, zs, [], b10 _ _ (by rw [upd_ne hbq.symm]; exact hz8) hqa, b10 _ _ upd_same hba, rfl, rfl, fun _ h => (by cases h), fun z h => by have := lit_len (hlit z h); omega, fun z h => by rw [hlit z h]; simp⟩ ?_ ?_
    · rintro i σ' H' hi ⟨v, u, w, rfl, S11, M11, ys, bs, hq11, hb11, hyl, hbl, hsub, hsh, hyb⟩
      walk_at "ss"
      refine s_lenL hq11 ?_
      walk_at "ss"
      rw [List.length_map]
      refine take_ok S11 (by omega) (by omega) fun H12 at_ S12 b12 a0 a1 => ?_
      have hq12 := b12 _ _ hq11 hqa
      have hb12 := b12 _ _ hb11 hba
      have M12 := M11.trans b12
      walk_at "ss"
      refine s_tyL hb12 ?_
      walk_at "ss"
      refine s_ixL (M12 _ _ hp hpa) hn0 ?_
      walk_at "ss"
      refine ⟨_, _, rfl, s, n0, rfl, rfl, S12, hnm n0 hn0M, fun H13 z S13 b13 hzb hzl13 => ?_⟩
      have hq13 := b13 _ _ hq12 hqa
      have hb13 := b13 _ _ hb12 hba
      have M13 := M12.trans b13
      walk_at "ss"
      refine s_app hb13 (by rw [List.length_map]; omega) ?_
      have S14 : Src (upd H13 b (.lst (bs.map V.str ++ [.str z]))) s := S3.off hb3 M13 S13
      have M14 : Mov s H3 (upd H13 b (.lst (bs.map V.str ++ [.str z]))) := Mov.put S3 hb3 M13
      have hb14 : (upd H13 b (.lst (bs.map V.str ++ [.str z]))) b = some (.lst ((bs ++ [z]).map V.str)) := by rw [upd_same, map_snoc]
      have hq14 : (upd H13 b (.lst (bs.map V.str ++ [.str z]))) q = some (.lst (ys.map V.str)) := by rw [upd_ne hbq.symm]; exact hq13
      generalize upd H13 b (.lst (bs.map V.str ++ [.str z])) = H14 at S14 M14 hb14 hq14
      walk_at "ss"
      refine s_tyL hq14 ?_
      walk_at "ss"
      refine s_ixL hb14 (v := .str z) (atI_nat (by rw [List.map_append, List.getElem?_append_right (by rw [List.length_map]; omega), List.length_map, hbl, Nat.sub_self]; rfl)) ?_
      walk_at "ss"
      obtain ⟨j, rfl⟩ := Int.eq_ofNat_of_zero_le a0
      refine ⟨ys.map V.str, hq14, by rw [List.length_map, sizeLine_eq]; omega, by omega, by omega, ?_⟩
      have eL : (ys.map V.str).take ((j : Int)).toNat ++ [V.str z] ++ (ys.map V.str).drop ((j : Int)).toNat = (ys.take j ++ [z] ++ ys.drop j).map V.str := by
        rw [Int.toNat_natCast, List.map_append, List.map_append, List.map_take, List.map_drop]
        rfl
      have mem : ∀ y, y ∈ ys.take j ++ [z] ++ ys.drop j ↔ y ∈ ys ∨ y = z := fun y => by
        have h := congrArg (fun l : List Str => y ∈ l) (List.take_append_drop j ys)
        have h : (y ∈ ys.take j ++ ys.drop j) = (y ∈ ys) := h
        rw [← h]
        simp only [List.mem_append, List.mem_singleton]
        constructor
        · rintro ((h | h) | h)
          · exact .inl (.inl h)
          · exact .inr h
          · exact .inl (.inr h)
        · rintro ((h | h) | h)
          · exact .inl (.inl h)
          · exact .inr h
          · exact .inl (.inr h)
      rw [eL]
      refine ⟨_, _, _, rfl, S3.off hqn M14 S14, Mov.put S3 hqn M14, ys.take j ++ [z] ++ ys.drop j, bs ++ [z], upd_same, by rw [upd_ne hbq]; exact hb14, ?_, by rw [List.length_append, hbl]; rfl, fun y hy => ?_, fun y hy => ?_, fun y hy => ?_⟩
      · rw [List.length_append, List.length_append, List.length_take, List.length_drop]
        show _ + 1 + _ = _
        omega
      · rcases List.mem_append.mp hy with hy | hy
        · exact (mem y).mpr (.inl (hsub y hy))
        · exact (mem y).mpr (.inr (List.mem_singleton.mp hy))
      · rcases (mem y).mp hy with hy | rfl
        · exact hsh y hy
        · omega
      · rcases (mem y).mp hy with hy | rfl
        · rw [List.mem_append, hyb y hy, List.mem_singleton]
          exact ⟨fun h => h.elim id fun e => by rw [e]; exact hzb, .inl⟩
        · exact ⟨fun _ => hzb, fun _ => List.mem_append_right _ List.mem_cons_self⟩
    · rintro σ' H' ⟨v, u, w, rfl, S11, M11, ys, bs, hq11, hb11, hyl, hbl, hsub, hsh, hyb⟩
      exact ⟨v, u, w, rfl, ys, bs, hq11, hb11, by omega, fun e => by rw [e] at hbl; simp at hbl; omega, hsub, hsh, hyb⟩
  rintro σ' H' ⟨v, u, w, rfl, ys, bs, hq11, hb11, hyl, hbn, hsub, hsh, hyb⟩
  walk_at "ss"
  refine lcS_filt (fun z => z) (fun z => decide (z ∈ bs)) (.inl (SqL.of hq11)) (by omega) ?_ ?_ ?_
  · intro z hz H2 s2 Q' hQ
    walk_at "ss"
    exact s_inSL (s2 _ _ hb11) ⟨_, rfl, hQ _ (Same.refl _)⟩
  · intro z hz _ H2 s2 Q' hQ
    walk_at "ss"
    exact hQ _ (Same.refl _)
  intro g H15 _ s15 h15
  rw [List.map_id'] at h15
  have ef : ys.filter (fun z => decide (z ∈ bs)) = ys.filter fun z => !isLit z := List.filter_congr fun z hz => by
    rw [Bool.eq_iff_iff, decide_eq_true_eq, hyb z hz]
    cases isLit z <;> simp
  rw [ef] at h15
  obtain ⟨y0, hy0⟩ : ∃ y, y ∈ bs := by
    cases bs with
    | nil => exact absurd rfl hbn
    | cons y r => exact ⟨y, List.mem_cons_self⟩
  obtain ⟨z0, r0, ez⟩ : ∃ z r, ys.filter (fun z => !isLit z) = z :: r := by
    cases e : ys.filter fun z => !isLit z with
    | nil =>
      have h1 : y0 ∈ ys.filter fun z => !isLit z := List.mem_filter.mpr ⟨hsub y0 hy0, by rw [(hyb y0 (hsub y0 hy0)).mp hy0]; rfl⟩
      rw [e] at h1
      cases h1
    | cons z r => exact ⟨z, r, rfl⟩
  have hbad : badOf ys = some z0 := by
    unfold badOf
    rw [← List.head?_filter, ez]
    rfl
  rw [ez] at h15
  walk_at "ss"
  refine s_ixL h15 (v := .str z0) (show atI ((z0 :: r0).map V.str) ((0 : Nat) : Int) = some (.str z0) from atI_nat rfl) ?_
  walk_at "ss"
  exact ⟨_, _, rfl, q, ys, z0, rfl, rfl, s15 _ _ hq11, by omega, hsh, hbad, fun H' _ => hq H'⟩
end Rd
end
namespace Ok
open PySem PySem.Spec PyProof.Rows L2 He Hk Px Rd
structure Tx (w : World) (K : PySem.W.Frag) (mg : PySem.Str → Option Value) : Prop where
  c : SaysZ Hd.fa Hd.ex Hd.its K
  g : ∃ h : Heap, K.In h ∧ h.Ns mainGlobals mg
section
variable {w : World} {K : PySem.W.Frag} {mg : PySem.Str → Option Value}
theorem Tx.g_is_name (T : Tx w K mg) : mg "is_name" = some (.ref (ga K "is_name")) := by
  obtain ⟨h, X, G⟩ := T.g
  exact glo_ok X G (T.c.fact 0 (f := .glo "is_name") rfl)
theorem Tx.g_is_literal (T : Tx w K mg) : mg "is_literal" = some (.ref (ga K "is_literal")) := by
  obtain ⟨h, X, G⟩ := T.g
  exact glo_ok X G (T.c.fact 1 (f := .glo "is_literal") rfl)
theorem Tx.g_name_of (T : Tx w K mg) : mg "name_of" = some (.ref (ga K "name_of")) := by
  obtain ⟨h, X, G⟩ := T.g
  exact glo_ok X G (T.c.fact 2 (f := .glo "name_of") rfl)
theorem Tx.g_ordered_names (T : Tx w K mg) : mg "ordered_names" = some (.ref (ga K "ordered_names")) := by
  obtain ⟨h, X, G⟩ := T.g
  exact glo_ok X G (T.c.fact 3 (f := .glo "ordered_names") rfl)
theorem Tx.g_in_order (T : Tx w K mg) : mg "in_order" = some (.ref (ga K "in_order")) := by
  obtain ⟨h, X, G⟩ := T.g
  exact glo_ok X G (T.c.fact 4 (f := .glo "in_order") rfl)
theorem Tx.g_law_source (T : Tx w K mg) : mg "_law_source" = some (.ref (ga K "_law_source")) := by
  obtain ⟨h, X, G⟩ := T.g
  exact glo_ok X G (T.c.fact 5 (f := .glo "_law_source") rfl)
theorem Tx.g_law_take (T : Tx w K mg) : mg "_law_take" = some (.ref (ga K "_law_take")) := by
  obtain ⟨h, X, G⟩ := T.g
  exact glo_ok X G (T.c.fact 6 (f := .glo "_law_take") rfl)
theorem Tx.g_law_word (T : Tx w K mg) : mg "_law_word" = some (.ref (ga K "_law_word")) := by
  obtain ⟨h, X, G⟩ := T.g
  exact glo_ok X G (T.c.fact 7 (f := .glo "_law_word") rfl)
theorem Tx.g_law_names (T : Tx w K mg) : mg "_law_names" = some (.ref (ga K "_law_names")) := by
  obtain ⟨h, X, G⟩ := T.g
  exact glo_ok X G (T.c.fact 8 (f := .glo "_law_names") rfl)
theorem Tx.g_law_name (T : Tx w K mg) : mg "_law_name" = some (.ref (ga K "_law_name")) := by
  obtain ⟨h, X, G⟩ := T.g
  exact glo_ok X G (T.c.fact 9 (f := .glo "_law_name") rfl)
theorem Tx.g_law_sorted (T : Tx w K mg) : mg "_law_sorted" = some (.ref (ga K "_law_sorted")) := by
  obtain ⟨h, X, G⟩ := T.g
  exact glo_ok X G (T.c.fact 10 (f := .glo "_law_sorted") rfl)
theorem Tx.g_law_ordered (T : Tx w K mg) : mg "_law_ordered" = some (.ref (ga K "_law_ordered")) := by
  obtain ⟨h, X, G⟩ := T.g
  exact glo_ok X G (T.c.fact 11 (f := .glo "_law_ordered") rfl)
theorem Tx.g_law_same (T : Tx w K mg) : mg "_law_same" = some (.ref (ga K "_law_same")) := by
  obtain ⟨h, X, G⟩ := T.g
  exact glo_ok X G (T.c.fact 12 (f := .glo "_law_same") rfl)
theorem Tx.g_law_bad (T : Tx w K mg) : mg "_law_bad" = some (.ref (ga K "_law_bad")) := by
  obtain ⟨h, X, G⟩ := T.g
  exact glo_ok X G (T.c.fact 13 (f := .glo "_law_bad") rfl)
theorem Tx.g_law_list (T : Tx w K mg) : mg "_law_list" = some (.ref (ga K "_law_list")) := by
  obtain ⟨h, X, G⟩ := T.g
  exact glo_ok X G (T.c.fact 14 (f := .glo "_law_list") rfl)
theorem Tx.g_law_told (T : Tx w K mg) : mg "_law_told" = some (.ref (ga K "_law_told")) := by
  obtain ⟨h, X, G⟩ := T.g
  exact glo_ok X G (T.c.fact 15 (f := .glo "_law_told") rfl)
theorem Tx.g_law_refused (T : Tx w K mg) : mg "_law_refused" = some (.ref (ga K "_law_refused")) := by
  obtain ⟨h, X, G⟩ := T.g
  exact glo_ok X G (T.c.fact 16 (f := .glo "_law_refused") rfl)
theorem Tx.g_law (T : Tx w K mg) : mg "law" = some (.ref (ga K "law")) := by
  obtain ⟨h, X, G⟩ := T.g
  exact glo_ok X G (T.c.fact 17 (f := .glo "law") rfl)
theorem Tx.g_HornError (T : Tx w K mg) : mg "HornError" = some (.ref (ga K "HornError")) := by
  obtain ⟨h, X, G⟩ := T.g
  exact glo_ok X G (T.c.fact 18 (f := .glo "HornError") rfl)
theorem Tx.g_BadName (T : Tx w K mg) : mg "BadName" = some (.ref (ga K "BadName")) := by
  obtain ⟨h, X, G⟩ := T.g
  exact glo_ok X G (T.c.fact 19 (f := .glo "BadName") rfl)
theorem Tx.g_BadLiteral (T : Tx w K mg) : mg "BadLiteral" = some (.ref (ga K "BadLiteral")) := by
  obtain ⟨h, X, G⟩ := T.g
  exact glo_ok X G (T.c.fact 20 (f := .glo "BadLiteral") rfl)
theorem Tx.c_LETTERS (T : Tx w K mg) : ∃ t, mg "LETTERS" = some (.str "abcdefghijklmnopqrstuvwxyz" t) := by
  obtain ⟨h, X, G⟩ := T.g
  exact str_ok X G (T.c.fact 21 (f := .str "LETTERS" "abcdefghijklmnopqrstuvwxyz") rfl)
theorem Tx.c_SIGNS (T : Tx w K mg) : ∃ t, mg "SIGNS" = some (.str "abcdefghijklmnopqrstuvwxyz0123456789" t) := by
  obtain ⟨h, X, G⟩ := T.g
  exact str_ok X G (T.c.fact 22 (f := .str "SIGNS" "abcdefghijklmnopqrstuvwxyz0123456789") rfl)
theorem Tx.c_NAME_SIZE (T : Tx w K mg) : ∃ t, mg "NAME_SIZE" = some (.int 8 t) := by
  obtain ⟨h, X, G⟩ := T.g
  exact int_ok X G (T.c.fact 23 (f := .int "NAME_SIZE" 8) rfl)
theorem Tx.f_ValueError (T : Tx w K mg) : mg "ValueError" = none := by
  obtain ⟨h, X, G⟩ := T.g
  exact free_ok X G (T.c.fact 24 (f := .free "ValueError") rfl)
theorem Tx.f_all (T : Tx w K mg) : mg "all" = none := by
  obtain ⟨h, X, G⟩ := T.g
  exact free_ok X G (T.c.fact 25 (f := .free "all") rfl)
theorem Tx.f_bool (T : Tx w K mg) : mg "bool" = none := by
  obtain ⟨h, X, G⟩ := T.g
  exact free_ok X G (T.c.fact 26 (f := .free "bool") rfl)
theorem Tx.f_int (T : Tx w K mg) : mg "int" = none := by
  obtain ⟨h, X, G⟩ := T.g
  exact free_ok X G (T.c.fact 27 (f := .free "int") rfl)
theorem Tx.f_isinstance (T : Tx w K mg) : mg "isinstance" = none := by
  obtain ⟨h, X, G⟩ := T.g
  exact free_ok X G (T.c.fact 28 (f := .free "isinstance") rfl)
theorem Tx.f_len (T : Tx w K mg) : mg "len" = none := by
  obtain ⟨h, X, G⟩ := T.g
  exact free_ok X G (T.c.fact 29 (f := .free "len") rfl)
theorem Tx.f_list (T : Tx w K mg) : mg "list" = none := by
  obtain ⟨h, X, G⟩ := T.g
  exact free_ok X G (T.c.fact 30 (f := .free "list") rfl)
theorem Tx.f_range (T : Tx w K mg) : mg "range" = none := by
  obtain ⟨h, X, G⟩ := T.g
  exact free_ok X G (T.c.fact 31 (f := .free "range") rfl)
theorem Tx.f_sorted (T : Tx w K mg) : mg "sorted" = none := by
  obtain ⟨h, X, G⟩ := T.g
  exact free_ok X G (T.c.fact 32 (f := .free "sorted") rfl)
theorem Tx.f_str (T : Tx w K mg) : mg "str" = none := by
  obtain ⟨h, X, G⟩ := T.g
  exact free_ok X G (T.c.fact 33 (f := .free "str") rfl)
theorem Tx.f_tuple (T : Tx w K mg) : mg "tuple" = none := by
  obtain ⟨h, X, G⟩ := T.g
  exact free_ok X G (T.c.fact 34 (f := .free "tuple") rfl)
theorem Tx.exm_BadLiteral_BadLiteral (T : Tx w K mg) : PySem.W.exmOne K (.ref (ga K "BadLiteral")) (.ref (ga K "BadLiteral")) = some true := exm_ok (T.c.fact 36 (f := .exm "BadLiteral" "BadLiteral" true) rfl)
theorem Tx.excC_BadLiteral (T : Tx w K mg) : ExcC K (ga K "BadLiteral") := excCB_ok (T.c.more 0 (f := fun K => excCB K (ga K "BadLiteral")) rfl)
theorem Tx.kit_BadLiteral_HornError (T : Tx w K mg) : PySem.W.kitOne K (.ref (ga K "BadLiteral")) (.ref (ga K "HornError")) = some true := kitB_ok (T.c.more 1 (f := fun K => Hk.kitB K (.ref (ga K "BadLiteral")) (.ref (ga K "HornError")) true) rfl)
theorem Tx.kit_BadLiteral_ValueError (T : Tx w K mg) : PySem.W.kitOne K (.ref (ga K "BadLiteral")) (.type "ValueError") = some true := kitB_ok (T.c.more 2 (f := fun K => Hk.kitB K (.ref (ga K "BadLiteral")) (.type "ValueError") true) rfl)
theorem Tx.kit_BadLiteral_BadName (T : Tx w K mg) : PySem.W.kitOne K (.ref (ga K "BadLiteral")) (.ref (ga K "BadName")) = some false := kitB_ok (T.c.more 3 (f := fun K => Hk.kitB K (.ref (ga K "BadLiteral")) (.ref (ga K "BadName")) false) rfl)
theorem Tx.fn_is_name (T : Tx w K mg) : FunD K Hd.d_is_name.name Hd.d_is_name.qual (defArgs Hd.s_is_name) (defBody Hd.s_is_name) (defScope Hd.s_is_name) [] [] (Hd.d_is_name.at_ K) (fdOf K (Hd.d_is_name.at_ K)) := T.c.fn 0 (d := Hd.d_is_name) rfl
theorem Tx.fn_is_literal (T : Tx w K mg) : FunD K Hd.d_is_literal.name Hd.d_is_literal.qual (defArgs Hd.s_is_literal) (defBody Hd.s_is_literal) (defScope Hd.s_is_literal) [] [] (Hd.d_is_literal.at_ K) (fdOf K (Hd.d_is_literal.at_ K)) := T.c.fn 1 (d := Hd.d_is_literal) rfl
theorem Tx.fn_name_of (T : Tx w K mg) : FunD K Hd.d_name_of.name Hd.d_name_of.qual (defArgs Hd.s_name_of) (defBody Hd.s_name_of) (defScope Hd.s_name_of) [] [] (Hd.d_name_of.at_ K) (fdOf K (Hd.d_name_of.at_ K)) := T.c.fn 2 (d := Hd.d_name_of) rfl
theorem Tx.fn_ordered_names (T : Tx w K mg) : FunD K Hd.d_ordered_names.name Hd.d_ordered_names.qual (defArgs Hd.s_ordered_names) (defBody Hd.s_ordered_names) (defScope Hd.s_ordered_names) [] [] (Hd.d_ordered_names.at_ K) (fdOf K (Hd.d_ordered_names.at_ K)) := T.c.fn 3 (d := Hd.d_ordered_names) rfl
theorem Tx.fn_in_order (T : Tx w K mg) : FunD K Hd.d_in_order.name Hd.d_in_order.qual (defArgs Hd.s_in_order) (defBody Hd.s_in_order) (defScope Hd.s_in_order) [] [] (Hd.d_in_order.at_ K) (fdOf K (Hd.d_in_order.at_ K)) := T.c.fn 4 (d := Hd.d_in_order) rfl
theorem Tx.fn_law_source (T : Tx w K mg) : FunD K Hd.d_law_source.name Hd.d_law_source.qual (defArgs Hd.s_law_source) (defBody Hd.s_law_source) (defScope Hd.s_law_source) [] [] (Hd.d_law_source.at_ K) (fdOf K (Hd.d_law_source.at_ K)) := T.c.fn 5 (d := Hd.d_law_source) rfl
theorem Tx.fn_law_take (T : Tx w K mg) : FunD K Hd.d_law_take.name Hd.d_law_take.qual (defArgs Hd.s_law_take) (defBody Hd.s_law_take) (defScope Hd.s_law_take) [] [] (Hd.d_law_take.at_ K) (fdOf K (Hd.d_law_take.at_ K)) := T.c.fn 6 (d := Hd.d_law_take) rfl
theorem Tx.fn_law_word (T : Tx w K mg) : FunD K Hd.d_law_word.name Hd.d_law_word.qual (defArgs Hd.s_law_word) (defBody Hd.s_law_word) (defScope Hd.s_law_word) [] [] (Hd.d_law_word.at_ K) (fdOf K (Hd.d_law_word.at_ K)) := T.c.fn 7 (d := Hd.d_law_word) rfl
theorem Tx.fn_law_names (T : Tx w K mg) : FunD K Hd.d_law_names.name Hd.d_law_names.qual (defArgs Hd.s_law_names) (defBody Hd.s_law_names) (defScope Hd.s_law_names) [] [] (Hd.d_law_names.at_ K) (fdOf K (Hd.d_law_names.at_ K)) := T.c.fn 8 (d := Hd.d_law_names) rfl
theorem Tx.fn_law_name (T : Tx w K mg) : FunD K Hd.d_law_name.name Hd.d_law_name.qual (defArgs Hd.s_law_name) (defBody Hd.s_law_name) (defScope Hd.s_law_name) [] [] (Hd.d_law_name.at_ K) (fdOf K (Hd.d_law_name.at_ K)) := T.c.fn 9 (d := Hd.d_law_name) rfl
theorem Tx.fn_law_sorted (T : Tx w K mg) : FunD K Hd.d_law_sorted.name Hd.d_law_sorted.qual (defArgs Hd.s_law_sorted) (defBody Hd.s_law_sorted) (defScope Hd.s_law_sorted) [] [] (Hd.d_law_sorted.at_ K) (fdOf K (Hd.d_law_sorted.at_ K)) := T.c.fn 10 (d := Hd.d_law_sorted) rfl
theorem Tx.fn_law_ordered (T : Tx w K mg) : FunD K Hd.d_law_ordered.name Hd.d_law_ordered.qual (defArgs Hd.s_law_ordered) (defBody Hd.s_law_ordered) (defScope Hd.s_law_ordered) [] [] (Hd.d_law_ordered.at_ K) (fdOf K (Hd.d_law_ordered.at_ K)) := T.c.fn 11 (d := Hd.d_law_ordered) rfl
theorem Tx.fn_law_same (T : Tx w K mg) : FunD K Hd.d_law_same.name Hd.d_law_same.qual (defArgs Hd.s_law_same) (defBody Hd.s_law_same) (defScope Hd.s_law_same) [] [] (Hd.d_law_same.at_ K) (fdOf K (Hd.d_law_same.at_ K)) := T.c.fn 12 (d := Hd.d_law_same) rfl
theorem Tx.fn_law_bad (T : Tx w K mg) : FunD K Hd.d_law_bad.name Hd.d_law_bad.qual (defArgs Hd.s_law_bad) (defBody Hd.s_law_bad) (defScope Hd.s_law_bad) [] [] (Hd.d_law_bad.at_ K) (fdOf K (Hd.d_law_bad.at_ K)) := T.c.fn 13 (d := Hd.d_law_bad) rfl
theorem Tx.fn_law_list (T : Tx w K mg) : FunD K Hd.d_law_list.name Hd.d_law_list.qual (defArgs Hd.s_law_list) (defBody Hd.s_law_list) (defScope Hd.s_law_list) [] [] (Hd.d_law_list.at_ K) (fdOf K (Hd.d_law_list.at_ K)) := T.c.fn 14 (d := Hd.d_law_list) rfl
theorem Tx.fn_law_told (T : Tx w K mg) : FunD K Hd.d_law_told.name Hd.d_law_told.qual (defArgs Hd.s_law_told) (defBody Hd.s_law_told) (defScope Hd.s_law_told) [] [] (Hd.d_law_told.at_ K) (fdOf K (Hd.d_law_told.at_ K)) := T.c.fn 15 (d := Hd.d_law_told) rfl
theorem Tx.fn_law_refused (T : Tx w K mg) : FunD K Hd.d_law_refused.name Hd.d_law_refused.qual (defArgs Hd.s_law_refused) (defBody Hd.s_law_refused) (defScope Hd.s_law_refused) [] [] (Hd.d_law_refused.at_ K) (fdOf K (Hd.d_law_refused.at_ K)) := T.c.fn 16 (d := Hd.d_law_refused) rfl
theorem Tx.fn_law (T : Tx w K mg) : FunD K Hd.d_law.name Hd.d_law.qual (defArgs Hd.s_law) (defBody Hd.s_law) (defScope Hd.s_law) [] [] (Hd.d_law.at_ K) (fdOf K (Hd.d_law.at_ K)) := T.c.fn 17 (d := Hd.d_law) rfl
theorem Tx.sc_BadName : ScopeE PySem.Challenge.pw_renamedhorn_k01_literal_order (defScope Hd.s_BadName_init) (defArgs Hd.s_BadName_init) := ⟨⟨_, rfl⟩, rfl, rfl, rfl, rfl, rfl, rfl, by decide +kernel, by decide +kernel⟩
theorem Tx.err_BadName (T : Tx w K mg) : Err1 PySem.Challenge.pw_renamedhorn_k01_literal_order w K mg "BadName" "text" (ga K "BadName") := by
  obtain ⟨h, X, G⟩ := T.g
  obtain ⟨e, c⟩ := T.c.it 18 (d := Hd.d_BadName.it "/claim/cut.py") rfl
  exact err1_of X G c e rfl Tx.sc_BadName rfl (fun _ _ _ _ _ _ _ _ _ _ _ => rfl) rfl (by decide) (by decide)
theorem Tx.sc_BadLiteral : ScopeE PySem.Challenge.pw_renamedhorn_k01_literal_order (defScope Hd.s_BadLiteral_init) (defArgs Hd.s_BadLiteral_init) := ⟨⟨_, rfl⟩, rfl, rfl, rfl, rfl, rfl, rfl, by decide +kernel, by decide +kernel⟩
theorem Tx.err_BadLiteral (T : Tx w K mg) : Err1 PySem.Challenge.pw_renamedhorn_k01_literal_order w K mg "BadLiteral" "text" (ga K "BadLiteral") := by
  obtain ⟨h, X, G⟩ := T.g
  obtain ⟨e, c⟩ := T.c.it 19 (d := Hd.d_BadLiteral.it "/claim/cut.py") rfl
  exact err1_of X G c e rfl Tx.sc_BadLiteral rfl (fun _ _ _ _ _ _ _ _ _ _ _ => rfl) rfl (by decide) (by decide)
end
end Ok
namespace Ok
open PySem PySem.Spec PyProof.Rows L2 He Hk Px Rd
section
variable {w : World} {K : PySem.W.Frag} {mg : PySem.Str → Option Value} {base : Heap}
theorem sc_is_name : FnScope N_is_name ["text"] (defScope Hd.s_is_name) := ⟨rfl, rfl, rfl, by decide +kernel, rfl, by decide +kernel, by decide +kernel⟩
theorem b_is_name (T : Tx w K mg) : Binds K (fdOf K (ga K "is_name")) ["text"] [] := T.fn_is_name.bindsN fun _ _ _ _ _ _ us hl => match us, hl with | [_], _ => rfl
theorem ok_is_name (T : Tx w K mg) : FnOk PySem.Challenge.pw_renamedhorn_k01_literal_order w K mg base (L2N.CX PySem.Challenge.pw_renamedhorn_k01_literal_order w) 1 (ga K "is_name") (fdOf K (ga K "is_name")) ["text"] (sp_is_name K) := by
  refine T.fn_is_name.ok sc_is_name (fun vs H Q E h => Sp1.len h) (fun cdv A outer s H vs Q E hr h => ⟨t_is_name K (fun cls d _ H => E cls d H), ?_, pure_is_name h⟩)
  · have tk := L2N.takes_of (X := cxOf (L2N.CX PySem.Challenge.pw_renamedhorn_k01_literal_order w) PySem.Challenge.pw_renamedhorn_k01_literal_order w K mg base N_is_name "is_name" (defScope Hd.s_is_name) (ga K "is_name") cdv A outer s H E) (E := E) rfl rfl rfl rfl
    obtain ⟨tk_LETTERS, m_LETTERS⟩ := T.c_LETTERS
    obtain ⟨tk_NAME_SIZE, m_NAME_SIZE⟩ := T.c_NAME_SIZE
    obtain ⟨tk_SIGNS, m_SIGNS⟩ := T.c_SIGNS
    exact (pss_cut (ps_if (PW.pt (pw_or (pt_cmpR op_ltP (pe_callB call_lenP (by rfl) T.f_len PyProof.Rows.Boot.«len» (pa_cons (pv 0) pa_nil)) pe_int (nomark _)) (pw_or1 (pt_cmpR op_gtP (pe_callB call_lenP (by rfl) T.f_len PyProof.Rows.Boot.«len» (pa_cons (pv 0) pa_nil)) (pe_glob rfl m_NAME_SIZE ⟨_, rfl⟩) (nomark _))))) (pss_one (ps_ret pe_bl)) pss_nil)
      (pss_cut (ps_if (pt_cmpR (op_ninP hr.units) (pe_ix ix_P (pv 0) pe_int (fun _ _ => rfl)) (pe_glob rfl m_LETTERS ⟨_, rfl⟩) (by rfl)) (pss_one (ps_ret pe_bl)) pss_nil)
      (pss_one (ps_ret (pe_callB (cr_all rfl) (by rfl) T.f_all PyProof.Rows.Boot.«all» (pa_cons (pe_lc (own := [("sign", 1)]) (g := (gName 1)) (tt := tYes) rfl sc_is_name.nd (pi_anyP (pv 0)) (blkOk_by (own := [("sign", 1)]) (N := N_is_name) (sc := defScope Hd.s_is_name) (by decide +kernel)) (fun _ _ _ _ _ => (pg_name (i := 1) sc_is_name.nd rfl (Or.inl rfl))) (fun _ _ _ _ _ => pts_nil) (fun _ _ _ _ _ => (pe_cmpR (op_inP hr.units) (pv 1) (pe_glob rfl m_SIGNS ⟨_, rfl⟩) (by rfl)))) pa_nil))))))
theorem sc_is_literal : FnScope N_is_literal ["text"] (defScope Hd.s_is_literal) := ⟨rfl, rfl, rfl, by decide +kernel, rfl, by decide +kernel, by decide +kernel⟩
theorem b_is_literal (T : Tx w K mg) : Binds K (fdOf K (ga K "is_literal")) ["text"] [] := T.fn_is_literal.bindsN fun _ _ _ _ _ _ us hl => match us, hl with | [_], _ => rfl
theorem ok_is_literal (T : Tx w K mg) : FnOk PySem.Challenge.pw_renamedhorn_k01_literal_order w K mg base (L2N.CX PySem.Challenge.pw_renamedhorn_k01_literal_order w) 2 (ga K "is_literal") (fdOf K (ga K "is_literal")) ["text"] (sp_is_literal K) := by
  refine T.fn_is_literal.ok sc_is_literal (fun vs H Q E h => Sp1.len h) (fun cdv A outer s H vs Q E hr h => ⟨t_is_literal K (fun cls d _ H => E cls d H), ?_, pure_is_literal h⟩)
  · have tk := L2N.takes_of (X := cxOf (L2N.CX PySem.Challenge.pw_renamedhorn_k01_literal_order w) PySem.Challenge.pw_renamedhorn_k01_literal_order w K mg base N_is_literal "is_literal" (defScope Hd.s_is_literal) (ga K "is_literal") cdv A outer s H E) (E := E) rfl rfl rfl rfl
    exact (pss_cut (ps_if (pt_cmpR (op_eqP hr.units) (pe_slice sl_P (pv 0) po_none (po_some pe_int)) pe_str (nomark _)) (pss_one (ps_ret (pe_callS (ok_is_name T) (hr.mono (by decide)) rfl T.g_is_name (T.fn_is_name).kp (b_is_name T) (fun σ => L2N.passAt tk σ) (pa_cons (pe_slice sl_P (pv 0) (po_some pe_int) po_none) pa_nil)))) pss_nil)
      (pss_one (ps_ret (pe_callS (ok_is_name T) (hr.mono (by decide)) rfl T.g_is_name (T.fn_is_name).kp (b_is_name T) (fun σ => L2N.passAt tk σ) (pa_cons (pv 0) pa_nil)))))
theorem sc_name_of : FnScope N_name_of ["literal"] (defScope Hd.s_name_of) := ⟨rfl, rfl, rfl, by decide +kernel, rfl, by decide +kernel, by decide +kernel⟩
theorem b_name_of (T : Tx w K mg) : Binds K (fdOf K (ga K "name_of")) ["literal"] [] := T.fn_name_of.bindsN fun _ _ _ _ _ _ us hl => match us, hl with | [_], _ => rfl
theorem ok_name_of (T : Tx w K mg) : FnOk PySem.Challenge.pw_renamedhorn_k01_literal_order w K mg base (L2N.CX PySem.Challenge.pw_renamedhorn_k01_literal_order w) 3 (ga K "name_of") (fdOf K (ga K "name_of")) ["literal"] (sp_name_of K) := by
  refine T.fn_name_of.ok sc_name_of (fun vs H Q E h => Sp1.len h) (fun cdv A outer s H vs Q E hr h => ⟨t_name_of K (fun cls d _ H => E cls d H), ?_, pure_name_of h⟩)
  · have tk := L2N.takes_of (X := cxOf (L2N.CX PySem.Challenge.pw_renamedhorn_k01_literal_order w) PySem.Challenge.pw_renamedhorn_k01_literal_order w K mg base N_name_of "name_of" (defScope Hd.s_name_of) (ga K "name_of") cdv A outer s H E) (E := E) rfl rfl rfl rfl
    exact (pss_cut (ps_if (pt_not (pt_val (pe_callS (ok_is_literal T) (hr.mono (by decide)) rfl T.g_is_literal (T.fn_is_literal).kp (b_is_literal T) (fun σ => L2N.passAt tk σ) (pa_cons (pv 0) pa_nil)))) (pss_one (ps_raiseE rfl T.err_BadLiteral hr tk (pa_cons (pv 0) pa_nil))) pss_nil)
      (pss_cut (ps_if (pt_cmpR (op_eqP hr.units) (pe_slice sl_P (pv 0) po_none (po_some pe_int)) pe_str (nomark _)) (pss_one (ps_ret (pe_slice sl_P (pv 0) (po_some pe_int) po_none))) pss_nil)
      (pss_one (ps_ret (pv 0)))))
theorem sc_ordered_names : FnScope N_ordered_names ["names"] (defScope Hd.s_ordered_names) := ⟨rfl, rfl, rfl, by decide +kernel, rfl, by decide +kernel, by decide +kernel⟩
theorem b_ordered_names (T : Tx w K mg) : Binds K (fdOf K (ga K "ordered_names")) ["names"] [] := T.fn_ordered_names.bindsN fun _ _ _ _ _ _ us hl => match us, hl with | [_], _ => rfl
theorem ok_ordered_names (T : Tx w K mg) : FnOk PySem.Challenge.pw_renamedhorn_k01_literal_order w K mg base (L2N.CX PySem.Challenge.pw_renamedhorn_k01_literal_order w) 3 (ga K "ordered_names") (fdOf K (ga K "ordered_names")) ["names"] (sp_ordered_names K) := by
  refine T.fn_ordered_names.ok sc_ordered_names (fun vs H Q E h => Sp1.len h) (fun cdv A outer s H vs Q E hr h => ⟨t_ordered_names K (fun cls d _ H => E cls d H), ?_, pure_ordered_names h⟩)
  · have tk := L2N.takes_of (X := cxOf (L2N.CX PySem.Challenge.pw_renamedhorn_k01_literal_order w) PySem.Challenge.pw_renamedhorn_k01_literal_order w K mg base N_ordered_names "ordered_names" (defScope Hd.s_ordered_names) (ga K "ordered_names") cdv A outer s H E) (E := E) rfl rfl rfl rfl
    exact (pss_cut (ps_for (passes_of rfl) rfl (pi_anyP (pv 0)) (pg_name (i := 1) sc_ordered_names.nd rfl (Or.inl rfl)) (pss_one (ps_if (pt_not (pt_val (pe_callS (ok_is_name T) (hr.mono (by decide)) rfl T.g_is_name (T.fn_is_name).kp (b_is_name T) (fun σ => L2N.passAt tk σ) (pa_cons (pv 1) pa_nil)))) (pss_one (ps_raiseE rfl T.err_BadName hr tk (pa_cons (pv 1) pa_nil))) pss_nil)))
      (pss_cons (ps_asg (pe_lst pa_nil) (pg_name (i := 2) sc_ordered_names.nd rfl (Or.inl rfl)))
      (pss_cut (ps_for (passes_of rfl) rfl (pi_anyP (pe_callB cr_sortedP2 (by rfl) T.f_sorted PyProof.Rows.Boot.«sorted» (pa_cons (pe_lc (own := [("name", 1)]) (g := (gName 1)) (tt := tYes) rfl sc_ordered_names.nd (pi_anyP (pv 0)) (blkOk_by (own := [("name", 1)]) (N := N_ordered_names) (sc := defScope Hd.s_ordered_names) (by decide +kernel)) (fun _ _ _ _ _ => (pg_name (i := 1) sc_ordered_names.nd rfl (Or.inl rfl))) (fun _ _ _ _ _ => pts_nil) (fun _ _ _ _ _ => (pe_callTy call_strP (by rfl) T.f_str PyProof.Rows.Boot.«str» (pa_cons (pv 1) pa_nil)))) pa_nil))) (pg_name (i := 1) sc_ordered_names.nd rfl (Or.inl rfl)) (pss_one (ps_if (pt_cmpR (op_ninP hr.units) (pv 1) (pv 2) (by rfl)) (pss_one (ps_expr (pe_bm PySem.F.plainAttrs_list PySem.F.slot_list_append PySem.F.type_list_append mt_append (pv 2) (pa_cons (pv 1) pa_nil)))) pss_nil)))
      (pss_one (ps_ret (pv 2))))))
theorem sc_in_order : FnScope N_in_order ["literals"] (defScope Hd.s_in_order) := ⟨rfl, rfl, rfl, by decide +kernel, rfl, by decide +kernel, by decide +kernel⟩
theorem b_in_order (T : Tx w K mg) : Binds K (fdOf K (ga K "in_order")) ["literals"] [] := T.fn_in_order.bindsN fun _ _ _ _ _ _ us hl => match us, hl with | [_], _ => rfl
theorem ok_in_order (T : Tx w K mg) : FnOk PySem.Challenge.pw_renamedhorn_k01_literal_order w K mg base (L2N.CX PySem.Challenge.pw_renamedhorn_k01_literal_order w) 4 (ga K "in_order") (fdOf K (ga K "in_order")) ["literals"] (sp_in_order K) := by
  refine T.fn_in_order.ok sc_in_order (fun vs H Q E h => Sp1.len h) (fun cdv A outer s H vs Q E hr h => ⟨t_in_order K (fun cls d _ H => E cls d H), ?_, pure_in_order h⟩)
  · have tk := L2N.takes_of (X := cxOf (L2N.CX PySem.Challenge.pw_renamedhorn_k01_literal_order w) PySem.Challenge.pw_renamedhorn_k01_literal_order w K mg base N_in_order "in_order" (defScope Hd.s_in_order) (ga K "in_order") cdv A outer s H E) (E := E) rfl rfl rfl rfl
    exact (pss_cons (ps_asg pe_dnewK (pg_name (i := 1) sc_in_order.nd rfl (Or.inl rfl)))
      (pss_cut (ps_for (passes_of rfl) rfl (pi_anyP (pv 0)) (pg_name (i := 2) sc_in_order.nd rfl (Or.inl rfl)) (pss_cut (ps_if (pt_not (pt_val (pe_callS (ok_is_literal T) (hr.mono (by decide)) rfl T.g_is_literal (T.fn_is_literal).kp (b_is_literal T) (fun σ => L2N.passAt tk σ) (pa_cons (pv 2) pa_nil)))) (pss_one (ps_raiseE rfl T.err_BadLiteral hr tk (pa_cons (pv 2) pa_nil))) pss_nil)
      (pss_one (ps_asg pe_bl (pg_sub (pv 1) (pv 2) (set_P hr.units))))))
      (pss_cons (ps_asg (pe_lst pa_nil) (pg_name (i := 3) sc_in_order.nd rfl (Or.inl rfl)))
      (pss_cut (ps_for (passes_of rfl) rfl (pi_anyP (pe_callS (ok_ordered_names T) (hr.mono (by decide)) rfl T.g_ordered_names (T.fn_ordered_names).kp (b_ordered_names T) (fun σ => L2N.passAt tk σ) (pa_cons (pe_lock (pe_lc (own := [("literal", 2)]) (g := (gName 2)) (tt := tYes) rfl sc_in_order.nd (pi_keys (pv 1)) (blkOk_by (own := [("literal", 2)]) (N := N_in_order) (sc := defScope Hd.s_in_order) (by decide +kernel)) (fun _ _ _ _ _ => (pg_name (i := 2) sc_in_order.nd rfl (Or.inl rfl))) (fun _ _ _ _ _ => pts_nil) (fun _ _ _ _ _ => (pe_call (ok_name_of T) (hr.mono (by decide)) rfl T.g_name_of (T.fn_name_of).kp (b_name_of T) .nil passN (pa_cons (pv 2) pa_nil))))) pa_nil))) (pg_name (i := 4) sc_in_order.nd rfl (Or.inl rfl)) (pss_one (ps_for (passes_of rfl) rfl (pi_anyP (pe_tup (pa_cons (pv 4) (pa_cons (pe_op op_addP pe_str (pv 4)) pa_nil)))) (pg_name (i := 2) sc_in_order.nd rfl (Or.inl rfl)) (pss_one (ps_if (pt_cmpR (op_inP hr.units) (pv 2) (pv 1) (by rfl)) (pss_one (ps_expr (pe_bm PySem.F.plainAttrs_list PySem.F.slot_list_append PySem.F.type_list_append mt_append (pv 3) (pa_cons (pv 2) pa_nil)))) pss_nil)))))
      (pss_one (ps_ret (pv 3)))))))
theorem sc_law_source : FnScope N_law_source ["_law_script"] (defScope Hd.s_law_source) := ⟨rfl, rfl, rfl, by decide +kernel, rfl, by decide +kernel, by decide +kernel⟩
theorem b_law_source (T : Tx w K mg) : Binds K (fdOf K (ga K "_law_source")) ["_law_script"] [] := T.fn_law_source.bindsN fun _ _ _ _ _ _ us hl => match us, hl with | [_], _ => rfl
theorem ok_law_source (T : Tx w K mg) : FnOk PySem.Challenge.pw_renamedhorn_k01_literal_order w K mg base (L2N.CX PySem.Challenge.pw_renamedhorn_k01_literal_order w) 1 (ga K "_law_source") (fdOf K (ga K "_law_source")) ["_law_script"] (sp_law_source K) := by
  refine T.fn_law_source.ok sc_law_source (fun vs H Q E h => Sp1.len h) (fun cdv A outer s H vs Q E hr h => ⟨t_law_source K (fun cls d _ H => E cls d H), ?_, pure_law_source h⟩)
  · have tk := L2N.takes_of (X := cxOf (L2N.CX PySem.Challenge.pw_renamedhorn_k01_literal_order w) PySem.Challenge.pw_renamedhorn_k01_literal_order w K mg base N_law_source "_law_source" (defScope Hd.s_law_source) (ga K "_law_source") cdv A outer s H E) (E := E) rfl rfl rfl rfl
    exact (pss_one (ps_ret (pe_lst (pa_cons (pe_callTy call_listP (by rfl) T.f_list PyProof.Rows.Boot.«list» (pa_cons (pv 0) pa_nil)) (pa_cons pe_int (pa_cons pe_int (pa_cons pe_int (pa_cons pe_int pa_nil))))))))
theorem sc_law_take : FnScope N_law_take ["_law_source_here", "_law_many"] (defScope Hd.s_law_take) := ⟨rfl, rfl, rfl, by decide +kernel, rfl, by decide +kernel, by decide +kernel⟩
theorem b_law_take (T : Tx w K mg) : Binds K (fdOf K (ga K "_law_take")) ["_law_source_here", "_law_many"] [] := T.fn_law_take.bindsN fun _ _ _ _ _ _ us hl => match us, hl with | [_, _], _ => rfl
theorem ok_law_take (T : Tx w K mg) : FnOk PySem.Challenge.pw_renamedhorn_k01_literal_order w K mg base (L2N.CX PySem.Challenge.pw_renamedhorn_k01_literal_order w) 1 (ga K "_law_take") (fdOf K (ga K "_law_take")) ["_law_source_here", "_law_many"] (sp_law_take K) := by
  refine T.fn_law_take.ok sc_law_take (fun vs H Q E h => Sp2.len h) (fun cdv A outer s H vs Q E hr h => ⟨t_law_take K (fun cls d _ H => E cls d H), ?_, pure_law_take h⟩)
  · have tk := L2N.takes_of (X := cxOf (L2N.CX PySem.Challenge.pw_renamedhorn_k01_literal_order w) PySem.Challenge.pw_renamedhorn_k01_literal_order w K mg base N_law_take "_law_take" (defScope Hd.s_law_take) (ga K "_law_take") cdv A outer s H E) (E := E) rfl rfl rfl rfl
    exact (pss_cut (ps_if (pt_cmpR (op_eqP hr.units) (pe_ix ix_P (pv 0) pe_int (fun _ _ => rfl)) pe_int (nomark _)) (pss_cut (ps_if (pt_cmpR op_geP (pe_ix ix_P (pv 0) pe_int (fun _ _ => rfl)) (pe_callB call_lenP (by rfl) T.f_len PyProof.Rows.Boot.«len» (pa_cons (pe_ix ix_P (pv 0) pe_int (fun _ _ => rfl)) pa_nil)) (nomark _)) (pss_one (ps_ret pe_int)) pss_nil)
      (pss_cons (ps_asg (pe_callTy call_intP (by rfl) T.f_int PyProof.Rows.Boot.«int» (pa_cons (pe_ix ix_P (pe_ix ix_P (pv 0) pe_int (fun _ _ => rfl)) (pe_ix ix_P (pv 0) pe_int (fun _ _ => rfl)) (fun _ _ => rfl)) pa_nil)) (pg_name (i := 3) sc_law_take.nd rfl (Or.inl rfl)))
      (pss_cons (ps_asg (pe_op op_addP (pe_ix ix_P (pv 0) pe_int (fun _ _ => rfl)) pe_int) (pg_sub (pv 0) pe_int (set_P hr.units)))
      (pss_cons (ps_asg (pv 3) (pg_sub (pv 0) pe_int (set_P hr.units)))
      (pss_cons (ps_asg pe_int (pg_sub (pv 0) pe_int (set_P hr.units)))
      (pss_cons (ps_asg pe_int (pg_sub (pv 0) pe_int (set_P hr.units)))
      (pss_one (ps_if (pt_cmpR op_geP (pv 3) (pe_op op_powP pe_int pe_int) (nomark _)) (pss_cons (ps_asg pe_int (pg_sub (pv 0) pe_int (set_P hr.units)))
      (pss_one (ps_asg pe_int (pg_sub (pv 0) pe_int (set_P hr.units))))) pss_nil)))))))) pss_nil)
      (pss_cons (ps_asg (pe_op op_subP (pe_ix ix_P (pv 0) pe_int (fun _ _ => rfl)) pe_int) (pg_sub (pv 0) pe_int (set_P hr.units)))
      (pss_cut (ps_if (pt_cmpR (op_eqP hr.units) (pe_ix ix_P (pv 0) pe_int (fun _ _ => rfl)) pe_int (nomark _)) (pss_cons (ps_asg (pe_op op_modP (pe_callTy call_intP (by rfl) T.f_int PyProof.Rows.Boot.«int» (pa_cons (pe_ix ix_P (pv 0) pe_int (fun _ _ => rfl)) pa_nil)) (pv 1)) (pg_name (i := 4) sc_law_take.nd rfl (Or.inl rfl)))
      (pss_cons (ps_asg (pe_op op_fdivP (pe_ix ix_P (pv 0) pe_int (fun _ _ => rfl)) (pv 1)) (pg_sub (pv 0) pe_int (set_P hr.units)))
      (pss_cut (ps_if (pt_cmpR (op_eqP hr.units) (pe_ix ix_P (pv 0) pe_int (fun _ _ => rfl)) pe_int (nomark _)) (pss_one (ps_asg pe_int (pg_sub (pv 0) pe_int (set_P hr.units)))) pss_nil)
      (pss_one (ps_ret (pv 4)))))) pss_nil)
      (pss_cons (ps_asg (pe_op op_modP (pe_callTy call_intP (by rfl) T.f_int PyProof.Rows.Boot.«int» (pa_cons (pe_op op_addP (pe_op op_addP (pe_op op_mulP (pe_ix ix_P (pv 0) pe_int (fun _ _ => rfl)) pe_int) (pe_op op_mulP (pe_ix ix_P (pv 0) pe_int (fun _ _ => rfl)) pe_int)) pe_int) pa_nil)) pe_int) (pg_name (i := 2) sc_law_take.nd rfl (Or.inl rfl)))
      (pss_cons (ps_asg (pe_op op_modP (pe_callTy call_intP (by rfl) T.f_int PyProof.Rows.Boot.«int» (pa_cons (pe_op op_addP (pe_op op_addP (pe_op op_mulP (pv 2) pe_int) (pe_op op_mulP (pe_ix ix_P (pv 0) pe_int (fun _ _ => rfl)) pe_int)) pe_int) pa_nil)) pe_int) (pg_name (i := 2) sc_law_take.nd rfl (Or.inl rfl)))
      (pss_one (ps_ret (pe_op op_modP (pe_callTy call_intP (by rfl) T.f_int PyProof.Rows.Boot.«int» (pa_cons (pv 2) pa_nil)) (pv 1)))))))))
theorem sc_law_word : FnScope N_law_word ["_law_source_here", "_law_size"] (defScope Hd.s_law_word) := ⟨rfl, rfl, rfl, by decide +kernel, rfl, by decide +kernel, by decide +kernel⟩
theorem b_law_word (T : Tx w K mg) : Binds K (fdOf K (ga K "_law_word")) ["_law_source_here", "_law_size"] [] := T.fn_law_word.bindsN fun _ _ _ _ _ _ us hl => match us, hl with | [_, _], _ => rfl
theorem ok_law_word (T : Tx w K mg) : FnOk PySem.Challenge.pw_renamedhorn_k01_literal_order w K mg base (L2N.CX PySem.Challenge.pw_renamedhorn_k01_literal_order w) 2 (ga K "_law_word") (fdOf K (ga K "_law_word")) ["_law_source_here", "_law_size"] (sp_law_word K) := by
  refine T.fn_law_word.ok sc_law_word (fun vs H Q E h => Sp2.len h) (fun cdv A outer s H vs Q E hr h => ⟨t_law_word K (fun cls d _ H => E cls d H), ?_, pure_law_word h⟩)
  · have tk := L2N.takes_of (X := cxOf (L2N.CX PySem.Challenge.pw_renamedhorn_k01_literal_order w) PySem.Challenge.pw_renamedhorn_k01_literal_order w K mg base N_law_word "_law_word" (defScope Hd.s_law_word) (ga K "_law_word") cdv A outer s H E) (E := E) rfl rfl rfl rfl
    exact (pss_cons (ps_asg pe_str (pg_name (i := 2) sc_law_word.nd rfl (Or.inl rfl)))
      (pss_cons (ps_asg pe_str (pg_name (i := 3) sc_law_word.nd rfl (Or.inl rfl)))
      (pss_cons (ps_asg (pe_ix ix_P (pv 2) (pe_callS (ok_law_take T) (hr.mono (by decide)) rfl T.g_law_take (T.fn_law_take).kp (b_law_take T) (fun σ => L2N.passAt tk σ) (pa_cons (pv 0) (pa_cons pe_int pa_nil))) (fun _ _ => rfl)) (pg_name (i := 4) sc_law_word.nd rfl (Or.inl rfl)))
      (pss_cons (ps_asg (pe_callS (ok_law_take T) (hr.mono (by decide)) rfl T.g_law_take (T.fn_law_take).kp (b_law_take T) (fun σ => L2N.passAt tk σ) (pa_cons (pv 0) (pa_cons (pe_op op_powP pe_int pe_int) pa_nil))) (pg_name (i := 5) sc_law_word.nd rfl (Or.inl rfl)))
      (pss_cut (ps_for (passes_of rfl) rfl (pi_range1 (by rfl) T.f_range (pa_cons (pe_op op_subP (pv 1) pe_int) pa_nil)) (pg_name (i := 6) sc_law_word.nd rfl (Or.inl rfl)) (pss_cons (ps_asg (pe_op op_addP (pv 4) (pe_ix ix_P (pv 3) (pe_op op_modP (pe_callTy call_intP (by rfl) T.f_int PyProof.Rows.Boot.«int» (pa_cons (pv 5) pa_nil)) pe_int) (fun _ _ => rfl))) (pg_name (i := 4) sc_law_word.nd rfl (Or.inl rfl)))
      (pss_one (ps_asg (pe_op op_fdivP (pv 5) pe_int) (pg_name (i := 5) sc_law_word.nd rfl (Or.inl rfl))))))
      (pss_one (ps_ret (pv 4))))))))
theorem sc_law_names : FnScope N_law_names ["_law_source_here", "_law_many"] (defScope Hd.s_law_names) := ⟨rfl, rfl, rfl, by decide +kernel, rfl, by decide +kernel, by decide +kernel⟩
theorem b_law_names (T : Tx w K mg) : Binds K (fdOf K (ga K "_law_names")) ["_law_source_here", "_law_many"] [] := T.fn_law_names.bindsN fun _ _ _ _ _ _ us hl => match us, hl with | [_, _], _ => rfl
theorem ok_law_names (T : Tx w K mg) : FnOk PySem.Challenge.pw_renamedhorn_k01_literal_order w K mg base (L2N.CX PySem.Challenge.pw_renamedhorn_k01_literal_order w) 3 (ga K "_law_names") (fdOf K (ga K "_law_names")) ["_law_source_here", "_law_many"] (sp_law_names K) := by
  refine T.fn_law_names.ok sc_law_names (fun vs H Q E h => Sp2.len h) (fun cdv A outer s H vs Q E hr h => ⟨t_law_names K (fun cls d _ H => E cls d H), ?_, pure_law_names h⟩)
  · have tk := L2N.takes_of (X := cxOf (L2N.CX PySem.Challenge.pw_renamedhorn_k01_literal_order w) PySem.Challenge.pw_renamedhorn_k01_literal_order w K mg base N_law_names "_law_names" (defScope Hd.s_law_names) (ga K "_law_names") cdv A outer s H E) (E := E) rfl rfl rfl rfl
    exact (pss_cons (ps_asg pe_str (pg_name (i := 2) sc_law_names.nd rfl (Or.inl rfl)))
      (pss_cons (ps_asg (pe_callS (ok_law_take T) (hr.mono (by decide)) rfl T.g_law_take (T.fn_law_take).kp (b_law_take T) (fun σ => L2N.passAt tk σ) (pa_cons (pv 0) (pa_cons pe_int pa_nil))) (pg_name (i := 3) sc_law_names.nd rfl (Or.inl rfl)))
      (pss_cons (ps_asg (pe_op op_addP pe_int (pe_callS (ok_law_take T) (hr.mono (by decide)) rfl T.g_law_take (T.fn_law_take).kp (b_law_take T) (fun σ => L2N.passAt tk σ) (pa_cons (pv 0) (pa_cons pe_int pa_nil)))) (pg_name (i := 4) sc_law_names.nd rfl (Or.inl rfl)))
      (pss_cons (ps_asg (pe_callS (ok_law_take T) (hr.mono (by decide)) rfl T.g_law_take (T.fn_law_take).kp (b_law_take T) (fun σ => L2N.passAt tk σ) (pa_cons (pv 0) (pa_cons (pv 4) pa_nil))) (pg_name (i := 5) sc_law_names.nd rfl (Or.inl rfl)))
      (pss_cons (ps_asg (pe_callS (ok_law_word T) (hr.mono (by decide)) rfl T.g_law_word (T.fn_law_word).kp (b_law_word T) (fun σ => L2N.passAt tk σ) (pa_cons (pv 0) (pa_cons (pv 4) pa_nil))) (pg_name (i := 6) sc_law_names.nd rfl (Or.inl rfl)))
      (pss_cons (ps_asg (pe_callS (ok_law_take T) (hr.mono (by decide)) rfl T.g_law_take (T.fn_law_take).kp (b_law_take T) (fun σ => L2N.passAt tk σ) (pa_cons (pv 0) (pa_cons pe_int pa_nil))) (pg_name (i := 7) sc_law_names.nd rfl (Or.inl rfl)))
      (pss_cons (ps_asg (pe_ix ix_P (pe_lst (pa_cons pe_int (pa_cons pe_int (pa_cons pe_int (pa_cons pe_int pa_nil))))) (pe_callS (ok_law_take T) (hr.mono (by decide)) rfl T.g_law_take (T.fn_law_take).kp (b_law_take T) (fun σ => L2N.passAt tk σ) (pa_cons (pv 0) (pa_cons pe_int pa_nil))) (fun _ _ => rfl)) (pg_name (i := 8) sc_law_names.nd rfl (Or.inl rfl)))
      (pss_cons (ps_asg (pe_lst pa_nil) (pg_name (i := 9) sc_law_names.nd rfl (Or.inl rfl)))
      (pss_cut (ps_for (passes_of rfl) rfl (pi_range1 (by rfl) T.f_range (pa_cons (pv 1) pa_nil)) (pg_name (i := 10) sc_law_names.nd rfl (Or.inl rfl)) (pss_cons (ps_asg (pe_ix ix_P (pv 2) (pe_op op_modP (pe_callTy call_intP (by rfl) T.f_int PyProof.Rows.Boot.«int» (pa_cons (pe_op op_addP (pv 7) (pe_op op_mulP (pv 8) (pv 10))) pa_nil)) pe_int) (fun _ _ => rfl)) (pg_name (i := 11) sc_law_names.nd rfl (Or.inl rfl)))
      (pss_one (ps_if (pt_cmpR (op_eqP hr.units) (pv 3) pe_int (nomark _)) (pss_one (ps_expr (pe_bm PySem.F.plainAttrs_list PySem.F.slot_list_append PySem.F.type_list_append mt_append (pv 9) (pa_cons (pe_op op_addP (pe_op op_addP (pe_slice sl_P (pv 6) po_none (po_some (pv 5))) (pv 11)) (pe_slice sl_P (pv 6) (po_some (pe_op op_addP (pv 5) pe_int)) po_none)) pa_nil)))) (pss_one (ps_if (pt_cmpR (op_eqP hr.units) (pv 3) pe_int (nomark _)) (pss_one (ps_expr (pe_bm PySem.F.plainAttrs_list PySem.F.slot_list_append PySem.F.type_list_append mt_append (pv 9) (pa_cons (pe_op op_addP (pv 11) (pe_slice sl_P (pv 6) (po_some pe_int) (po_some (pe_op op_addP pe_int (pe_callS (ok_law_take T) (hr.mono (by decide)) rfl T.g_law_take (T.fn_law_take).kp (b_law_take T) (fun σ => L2N.passAt tk σ) (pa_cons (pv 0) (pa_cons pe_int pa_nil))))))) pa_nil)))) (pss_one (ps_expr (pe_bm PySem.F.plainAttrs_list PySem.F.slot_list_append PySem.F.type_list_append mt_append (pv 9) (pa_cons (pe_op op_addP (pe_op op_addP (pe_slice sl_P (pv 6) po_none (po_some (pv 5))) (pv 11)) (pe_slice sl_P (pe_callS (ok_law_word T) (hr.mono (by decide)) rfl T.g_law_word (T.fn_law_word).kp (b_law_word T) (fun σ => L2N.passAt tk σ) (pa_cons (pv 0) (pa_cons (pe_op op_subP pe_int (pv 5)) pa_nil))) po_none (po_some (pe_callS (ok_law_take T) (hr.mono (by decide)) rfl T.g_law_take (T.fn_law_take).kp (b_law_take T) (fun σ => L2N.passAt tk σ) (pa_cons (pv 0) (pa_cons (pe_op op_subP pe_int (pv 5)) pa_nil)))))) pa_nil))))))))))
      (pss_one (ps_ret (pv 9))))))))))))
theorem sc_law_name : FnScope N_law_name ["_law_literal"] (defScope Hd.s_law_name) := ⟨rfl, rfl, rfl, by decide +kernel, rfl, by decide +kernel, by decide +kernel⟩
theorem b_law_name (T : Tx w K mg) : Binds K (fdOf K (ga K "_law_name")) ["_law_literal"] [] := T.fn_law_name.bindsN fun _ _ _ _ _ _ us hl => match us, hl with | [_], _ => rfl
theorem ok_law_name (T : Tx w K mg) : FnOk PySem.Challenge.pw_renamedhorn_k01_literal_order w K mg base (L2N.CX PySem.Challenge.pw_renamedhorn_k01_literal_order w) 1 (ga K "_law_name") (fdOf K (ga K "_law_name")) ["_law_literal"] (sp_law_name K) := by
  refine T.fn_law_name.ok sc_law_name (fun vs H Q E h => Sp1.len h) (fun cdv A outer s H vs Q E hr h => ⟨t_law_name K (fun cls d _ H => E cls d H), ?_, pure_law_name h⟩)
  · have tk := L2N.takes_of (X := cxOf (L2N.CX PySem.Challenge.pw_renamedhorn_k01_literal_order w) PySem.Challenge.pw_renamedhorn_k01_literal_order w K mg base N_law_name "_law_name" (defScope Hd.s_law_name) (ga K "_law_name") cdv A outer s H E) (E := E) rfl rfl rfl rfl
    exact (pss_cut (ps_if (pt_cmpR (op_eqP hr.units) (pe_slice sl_P (pv 0) po_none (po_some pe_int)) pe_str (nomark _)) (pss_one (ps_ret (pe_slice sl_P (pv 0) (po_some pe_int) po_none))) pss_nil)
      (pss_one (ps_ret (pv 0))))
theorem sc_law_sorted : FnScope N_law_sorted ["_law_names_here"] (defScope Hd.s_law_sorted) := ⟨rfl, rfl, rfl, by decide +kernel, rfl, by decide +kernel, by decide +kernel⟩
theorem b_law_sorted (T : Tx w K mg) : Binds K (fdOf K (ga K "_law_sorted")) ["_law_names_here"] [] := T.fn_law_sorted.bindsN fun _ _ _ _ _ _ us hl => match us, hl with | [_], _ => rfl
theorem ok_law_sorted (T : Tx w K mg) : FnOk PySem.Challenge.pw_renamedhorn_k01_literal_order w K mg base (L2N.CX PySem.Challenge.pw_renamedhorn_k01_literal_order w) 1 (ga K "_law_sorted") (fdOf K (ga K "_law_sorted")) ["_law_names_here"] (sp_law_sorted K) := by
  refine T.fn_law_sorted.ok sc_law_sorted (fun vs H Q E h => Sp1.len h) (fun cdv A outer s H vs Q E hr h => ⟨t_law_sorted K (fun cls d _ H => E cls d H), ?_, pure_law_sorted h⟩)
  · have tk := L2N.takes_of (X := cxOf (L2N.CX PySem.Challenge.pw_renamedhorn_k01_literal_order w) PySem.Challenge.pw_renamedhorn_k01_literal_order w K mg base N_law_sorted "_law_sorted" (defScope Hd.s_law_sorted) (ga K "_law_sorted") cdv A outer s H E) (E := E) rfl rfl rfl rfl
    exact (pss_cons (ps_asg (pe_lst pa_nil) (pg_name (i := 1) sc_law_sorted.nd rfl (Or.inl rfl)))
      (pss_cut (ps_for (passes_of rfl) rfl (pi_anyP (pe_callB cr_sortedP2 (by rfl) T.f_sorted PyProof.Rows.Boot.«sorted» (pa_cons (pe_lc (own := [("_law_each", 3)]) (g := (gName 3)) (tt := tYes) rfl sc_law_sorted.nd (pi_anyP (pv 0)) (blkOk_by (own := [("_law_each", 3)]) (N := N_law_sorted) (sc := defScope Hd.s_law_sorted) (by decide +kernel)) (fun _ _ _ _ _ => (pg_name (i := 3) sc_law_sorted.nd rfl (Or.inl rfl))) (fun _ _ _ _ _ => pts_nil) (fun _ _ _ _ _ => (pe_callTy call_strP (by rfl) T.f_str PyProof.Rows.Boot.«str» (pa_cons (pv 3) pa_nil)))) pa_nil))) (pg_name (i := 2) sc_law_sorted.nd rfl (Or.inl rfl)) (pss_one (ps_if (pt_cmpR (op_ninP hr.units) (pv 2) (pv 1) (by rfl)) (pss_one (ps_expr (pe_bm PySem.F.plainAttrs_list PySem.F.slot_list_append PySem.F.type_list_append mt_append (pv 1) (pa_cons (pv 2) pa_nil)))) pss_nil)))
      (pss_one (ps_ret (pv 1)))))
theorem sc_law_ordered : FnScope N_law_ordered ["_law_literals"] (defScope Hd.s_law_ordered) := ⟨rfl, rfl, rfl, by decide +kernel, rfl, by decide +kernel, by decide +kernel⟩
theorem b_law_ordered (T : Tx w K mg) : Binds K (fdOf K (ga K "_law_ordered")) ["_law_literals"] [] := T.fn_law_ordered.bindsN fun _ _ _ _ _ _ us hl => match us, hl with | [_], _ => rfl
theorem ok_law_ordered (T : Tx w K mg) : FnOk PySem.Challenge.pw_renamedhorn_k01_literal_order w K mg base (L2N.CX PySem.Challenge.pw_renamedhorn_k01_literal_order w) 2 (ga K "_law_ordered") (fdOf K (ga K "_law_ordered")) ["_law_literals"] (sp_law_ordered K) := by
  refine T.fn_law_ordered.ok sc_law_ordered (fun vs H Q E h => Sp1.len h) (fun cdv A outer s H vs Q E hr h => ⟨t_law_ordered K (fun cls d _ H => E cls d H), ?_, pure_law_ordered h⟩)
  · have tk := L2N.takes_of (X := cxOf (L2N.CX PySem.Challenge.pw_renamedhorn_k01_literal_order w) PySem.Challenge.pw_renamedhorn_k01_literal_order w K mg base N_law_ordered "_law_ordered" (defScope Hd.s_law_ordered) (ga K "_law_ordered") cdv A outer s H E) (E := E) rfl rfl rfl rfl
    exact (pss_cons (ps_asg (pe_lst pa_nil) (pg_name (i := 1) sc_law_ordered.nd rfl (Or.inl rfl)))
      (pss_cut (ps_for (passes_of rfl) rfl (pi_anyP (pe_callS (ok_law_sorted T) (hr.mono (by decide)) rfl T.g_law_sorted (T.fn_law_sorted).kp (b_law_sorted T) (fun σ => L2N.passAt tk σ) (pa_cons (pe_lc (own := [("_law_each", 3)]) (g := (gName 3)) (tt := tYes) rfl sc_law_ordered.nd (pi_anyP (pv 0)) (blkOk_by (own := [("_law_each", 3)]) (N := N_law_ordered) (sc := defScope Hd.s_law_ordered) (by decide +kernel)) (fun _ _ _ _ _ => (pg_name (i := 3) sc_law_ordered.nd rfl (Or.inl rfl))) (fun _ _ _ _ _ => pts_nil) (fun _ _ _ _ _ => (pe_call (ok_law_name T) (hr.mono (by decide)) rfl T.g_law_name (T.fn_law_name).kp (b_law_name T) .nil passN (pa_cons (pv 3) pa_nil)))) pa_nil))) (pg_name (i := 2) sc_law_ordered.nd rfl (Or.inl rfl)) (pss_cut (ps_if (pt_cmpR (op_inP hr.units) (pv 2) (pv 0) (by rfl)) (pss_one (ps_expr (pe_bm PySem.F.plainAttrs_list PySem.F.slot_list_append PySem.F.type_list_append mt_append (pv 1) (pa_cons (pv 2) pa_nil)))) pss_nil)
      (pss_one (ps_if (pt_cmpR (op_inP hr.units) (pe_op op_addP pe_str (pv 2)) (pv 0) (by rfl)) (pss_one (ps_expr (pe_bm PySem.F.plainAttrs_list PySem.F.slot_list_append PySem.F.type_list_append mt_append (pv 1) (pa_cons (pe_op op_addP pe_str (pv 2)) pa_nil)))) pss_nil))))
      (pss_one (ps_ret (pv 1)))))
theorem sc_law_same : FnScope N_law_same ["_law_one", "_law_other"] (defScope Hd.s_law_same) := ⟨rfl, rfl, rfl, by decide +kernel, rfl, by decide +kernel, by decide +kernel⟩
theorem b_law_same (T : Tx w K mg) : Binds K (fdOf K (ga K "_law_same")) ["_law_one", "_law_other"] [] := T.fn_law_same.bindsN fun _ _ _ _ _ _ us hl => match us, hl with | [_, _], _ => rfl
theorem okn_law_same (T : Tx w K mg) (n : Nat) (okR : FnOk PySem.Challenge.pw_renamedhorn_k01_literal_order w K mg base (L2N.CX PySem.Challenge.pw_renamedhorn_k01_literal_order w) n (ga K "_law_same") (fdOf K (ga K "_law_same")) ["_law_one", "_law_other"] (spR_law_same K n)) : FnOk PySem.Challenge.pw_renamedhorn_k01_literal_order w K mg base (L2N.CX PySem.Challenge.pw_renamedhorn_k01_literal_order w) (n + 1) (ga K "_law_same") (fdOf K (ga K "_law_same")) ["_law_one", "_law_other"] (spn_law_same K n) := by
  refine T.fn_law_same.ok sc_law_same (fun vs H Q E h => Sp2.len h) (fun cdv A outer s H vs Q E hr h => ⟨t_law_same K (spR_law_same K n) (fun cls d _ H => E cls d H), ?_, pure_law_same h⟩)
  · have tk := L2N.takes_of (X := cxOf (L2N.CX PySem.Challenge.pw_renamedhorn_k01_literal_order w) PySem.Challenge.pw_renamedhorn_k01_literal_order w K mg base N_law_same "_law_same" (defScope Hd.s_law_same) (ga K "_law_same") cdv A outer s H E) (E := E) rfl rfl rfl rfl
    exact (pss_cut (ps_if (PW.pt (pw_or (pt_val (pe_callB call_isi (by rfl) T.f_isinstance PyProof.Rows.Boot.«isinstance» (pa_cons (pv 0) (pa_cons (pe_bltn (v := .ty "bool") rfl (T.f_bool) PyProof.Rows.Boot.«bool» rfl) pa_nil)))) (pw_or1 (pt_val (pe_callB call_isi (by rfl) T.f_isinstance PyProof.Rows.Boot.«isinstance» (pa_cons (pv 1) (pa_cons (pe_bltn (v := .ty "bool") rfl (T.f_bool) PyProof.Rows.Boot.«bool» rfl) pa_nil))))))) (pss_one (ps_ret (pe_and (pe_callB call_isi (by rfl) T.f_isinstance PyProof.Rows.Boot.«isinstance» (pa_cons (pv 0) (pa_cons (pe_bltn (v := .ty "bool") rfl (T.f_bool) PyProof.Rows.Boot.«bool» rfl) pa_nil))) (pe_and (pe_callB call_isi (by rfl) T.f_isinstance PyProof.Rows.Boot.«isinstance» (pa_cons (pv 1) (pa_cons (pe_bltn (v := .ty "bool") rfl (T.f_bool) PyProof.Rows.Boot.«bool» rfl) pa_nil))) (pe_one (pe_cmpR (op_eqP hr.units) (pv 0) (pv 1) (nomark _))))))) pss_nil)
      (pss_cut (ps_if (PW.pt (pw_or (pt_val (pe_callB call_isi (by rfl) T.f_isinstance PyProof.Rows.Boot.«isinstance» (pa_cons (pv 0) (pa_cons (pe_bltn (v := .ty "int") rfl (T.f_int) PyProof.Rows.Boot.«int» rfl) pa_nil)))) (pw_or1 (pt_val (pe_callB call_isi (by rfl) T.f_isinstance PyProof.Rows.Boot.«isinstance» (pa_cons (pv 1) (pa_cons (pe_bltn (v := .ty "int") rfl (T.f_int) PyProof.Rows.Boot.«int» rfl) pa_nil))))))) (pss_one (ps_ret (pe_and (pe_callB call_isi (by rfl) T.f_isinstance PyProof.Rows.Boot.«isinstance» (pa_cons (pv 0) (pa_cons (pe_bltn (v := .ty "int") rfl (T.f_int) PyProof.Rows.Boot.«int» rfl) pa_nil))) (pe_and (pe_callB call_isi (by rfl) T.f_isinstance PyProof.Rows.Boot.«isinstance» (pa_cons (pv 1) (pa_cons (pe_bltn (v := .ty "int") rfl (T.f_int) PyProof.Rows.Boot.«int» rfl) pa_nil))) (pe_one (pe_cmpR (op_eqP hr.units) (pv 0) (pv 1) (nomark _))))))) pss_nil)
      (pss_cut (ps_if (PW.pt (pw_or (pt_val (pe_callB call_isi (by rfl) T.f_isinstance PyProof.Rows.Boot.«isinstance» (pa_cons (pv 0) (pa_cons (pe_bltn (v := .ty "str") rfl (T.f_str) PyProof.Rows.Boot.«str» rfl) pa_nil)))) (pw_or1 (pt_val (pe_callB call_isi (by rfl) T.f_isinstance PyProof.Rows.Boot.«isinstance» (pa_cons (pv 1) (pa_cons (pe_bltn (v := .ty "str") rfl (T.f_str) PyProof.Rows.Boot.«str» rfl) pa_nil))))))) (pss_one (ps_ret (pe_and (pe_callB call_isi (by rfl) T.f_isinstance PyProof.Rows.Boot.«isinstance» (pa_cons (pv 0) (pa_cons (pe_bltn (v := .ty "str") rfl (T.f_str) PyProof.Rows.Boot.«str» rfl) pa_nil))) (pe_and (pe_callB call_isi (by rfl) T.f_isinstance PyProof.Rows.Boot.«isinstance» (pa_cons (pv 1) (pa_cons (pe_bltn (v := .ty "str") rfl (T.f_str) PyProof.Rows.Boot.«str» rfl) pa_nil))) (pe_one (pe_cmpR (op_eqP hr.units) (pv 0) (pv 1) (nomark _))))))) pss_nil)
      (pss_cons (ps_asg (pe_and (pe_callB call_isi (by rfl) T.f_isinstance PyProof.Rows.Boot.«isinstance» (pa_cons (pv 0) (pa_cons (pe_bltn (v := .ty "list") rfl (T.f_list) PyProof.Rows.Boot.«list» rfl) pa_nil))) (pe_one (pe_callB call_isi (by rfl) T.f_isinstance PyProof.Rows.Boot.«isinstance» (pa_cons (pv 1) (pa_cons (pe_bltn (v := .ty "list") rfl (T.f_list) PyProof.Rows.Boot.«list» rfl) pa_nil))))) (pg_name (i := 2) sc_law_same.nd rfl (Or.inl rfl)))
      (pss_cut (ps_if (PW.pt (pw_and (pt_not (pt_val (pv 2))) (pw_and1 (pt_not (PW.pt (pw_and (pt_val (pe_callB call_isi (by rfl) T.f_isinstance PyProof.Rows.Boot.«isinstance» (pa_cons (pv 0) (pa_cons (pe_bltn (v := .ty "tuple") rfl (T.f_tuple) PyProof.Rows.Boot.«tuple» rfl) pa_nil)))) (pw_and1 (pt_val (pe_callB call_isi (by rfl) T.f_isinstance PyProof.Rows.Boot.«isinstance» (pa_cons (pv 1) (pa_cons (pe_bltn (v := .ty "tuple") rfl (T.f_tuple) PyProof.Rows.Boot.«tuple» rfl) pa_nil))))))))))) (pss_one (ps_ret (pe_and (pe_cmpR op_isP (pv 0) pe_non (nomark _)) (pe_one (pe_cmpR op_isP (pv 1) pe_non (nomark _)))))) pss_nil)
      (pss_one (ps_ret (pe_and (pe_cmpR (op_eqP hr.units) (pe_callB call_lenP (by rfl) T.f_len PyProof.Rows.Boot.«len» (pa_cons (pv 0) pa_nil)) (pe_callB call_lenP (by rfl) T.f_len PyProof.Rows.Boot.«len» (pa_cons (pv 1) pa_nil)) (nomark _)) (pe_one (pe_callB (cr_all rfl) (by rfl) T.f_all PyProof.Rows.Boot.«all» (pa_cons (pe_lc (own := [("_law_k", 3)]) (g := (gName 3)) (tt := tYes) rfl sc_law_same.nd (pi_range1 (by rfl) T.f_range (pa_cons (pe_callB call_lenP (by rfl) T.f_len PyProof.Rows.Boot.«len» (pa_cons (pv 0) pa_nil)) pa_nil)) (blkOk_by (own := [("_law_k", 3)]) (N := N_law_same) (sc := defScope Hd.s_law_same) (by decide +kernel)) (fun _ _ _ _ _ => (pg_name (i := 3) sc_law_same.nd rfl (Or.inl rfl))) (fun _ _ _ _ _ => pts_nil) (fun _ _ _ _ _ => (pe_call okR (hr.mono (by omega)) rfl T.g_law_same (T.fn_law_same).kp (b_law_same T) .nil passN (pa_cons (pe_ix ix_P (pv 0) (pv 3) (fun _ _ => rfl)) (pa_cons (pe_ix ix_P (pv 1) (pv 3) (fun _ _ => rfl)) pa_nil))))) pa_nil)))))))))))
theorem oka_law_same (T : Tx w K mg) : ∀ n : Nat, FnOk PySem.Challenge.pw_renamedhorn_k01_literal_order w K mg base (L2N.CX PySem.Challenge.pw_renamedhorn_k01_literal_order w) (n + 1) (ga K "_law_same") (fdOf K (ga K "_law_same")) ["_law_one", "_law_other"] (spn_law_same K n)
  | 0 => okn_law_same T 0 ⟨fun _ _ _ _ h => h.elim, fun _ _ _ _ _ _ _ _ _ _ _ _ _ h => h.elim⟩
  | n + 1 => okn_law_same T (n + 1) (oka_law_same T n)
theorem ok_law_same (T : Tx w K mg) : FnOk PySem.Challenge.pw_renamedhorn_k01_literal_order w K mg base (L2N.CX PySem.Challenge.pw_renamedhorn_k01_literal_order w) 5 (ga K "_law_same") (fdOf K (ga K "_law_same")) ["_law_one", "_law_other"] (sp_law_same K) := oka_law_same T 4
theorem okH_law_same (T : Tx w K mg) : L2H.FnH PySem.Challenge.pw_renamedhorn_k01_literal_order w K mg base (L2N.CX PySem.Challenge.pw_renamedhorn_k01_literal_order w) 5 (ga K "_law_same") (fdOf K (ga K "_law_same")) ["_law_one", "_law_other"] (spH_law_same K) := by
  refine T.fn_law_same.okH sc_law_same (fun vs H Q E h => Sp2.len h) (fun cdv A outer s H vs Q E p hot hr h => ⟨tH_law_same K (fun cls d _ H => E cls d H), ?_, pureH_law_same h⟩)
  · have tk := L2N.takes_of (X := L2H.cxH (L2N.CX PySem.Challenge.pw_renamedhorn_k01_literal_order w) PySem.Challenge.pw_renamedhorn_k01_literal_order w K mg base N_law_same "_law_same" (defScope Hd.s_law_same) (ga K "_law_same") cdv A outer s H E p) (E := E) rfl rfl rfl rfl
    exact (pss_cut (ps_if (PW.pt (pw_or (pt_val (pe_callB call_isi (by rfl) T.f_isinstance PyProof.Rows.Boot.«isinstance» (pa_cons (pv 0) (pa_cons (pe_bltn (v := .ty "bool") rfl (T.f_bool) PyProof.Rows.Boot.«bool» rfl) pa_nil)))) (pw_or1 (pt_val (pe_callB call_isi (by rfl) T.f_isinstance PyProof.Rows.Boot.«isinstance» (pa_cons (pv 1) (pa_cons (pe_bltn (v := .ty "bool") rfl (T.f_bool) PyProof.Rows.Boot.«bool» rfl) pa_nil))))))) (pss_one (ps_ret (pe_and (pe_callB call_isi (by rfl) T.f_isinstance PyProof.Rows.Boot.«isinstance» (pa_cons (pv 0) (pa_cons (pe_bltn (v := .ty "bool") rfl (T.f_bool) PyProof.Rows.Boot.«bool» rfl) pa_nil))) (pe_and (pe_callB call_isi (by rfl) T.f_isinstance PyProof.Rows.Boot.«isinstance» (pa_cons (pv 1) (pa_cons (pe_bltn (v := .ty "bool") rfl (T.f_bool) PyProof.Rows.Boot.«bool» rfl) pa_nil))) (pe_one (pe_cmpR (op_eqP hr.units) (pv 0) (pv 1) (nomark _))))))) pss_nil)
      (pss_cut (ps_if (PW.pt (pw_or (pt_val (pe_callB call_isi (by rfl) T.f_isinstance PyProof.Rows.Boot.«isinstance» (pa_cons (pv 0) (pa_cons (pe_bltn (v := .ty "int") rfl (T.f_int) PyProof.Rows.Boot.«int» rfl) pa_nil)))) (pw_or1 (pt_val (pe_callB call_isi (by rfl) T.f_isinstance PyProof.Rows.Boot.«isinstance» (pa_cons (pv 1) (pa_cons (pe_bltn (v := .ty "int") rfl (T.f_int) PyProof.Rows.Boot.«int» rfl) pa_nil))))))) (pss_one (ps_ret (pe_and (pe_callB call_isi (by rfl) T.f_isinstance PyProof.Rows.Boot.«isinstance» (pa_cons (pv 0) (pa_cons (pe_bltn (v := .ty "int") rfl (T.f_int) PyProof.Rows.Boot.«int» rfl) pa_nil))) (pe_and (pe_callB call_isi (by rfl) T.f_isinstance PyProof.Rows.Boot.«isinstance» (pa_cons (pv 1) (pa_cons (pe_bltn (v := .ty "int") rfl (T.f_int) PyProof.Rows.Boot.«int» rfl) pa_nil))) (pe_one (pe_cmpR (op_eqP hr.units) (pv 0) (pv 1) (nomark _))))))) pss_nil)
      (pss_cut (ps_if (PW.pt (pw_or (pt_val (pe_callB call_isi (by rfl) T.f_isinstance PyProof.Rows.Boot.«isinstance» (pa_cons (pv 0) (pa_cons (pe_bltn (v := .ty "str") rfl (T.f_str) PyProof.Rows.Boot.«str» rfl) pa_nil)))) (pw_or1 (pt_val (pe_callB call_isi (by rfl) T.f_isinstance PyProof.Rows.Boot.«isinstance» (pa_cons (pv 1) (pa_cons (pe_bltn (v := .ty "str") rfl (T.f_str) PyProof.Rows.Boot.«str» rfl) pa_nil))))))) (pss_one (ps_ret (pe_and (pe_callB call_isi (by rfl) T.f_isinstance PyProof.Rows.Boot.«isinstance» (pa_cons (pv 0) (pa_cons (pe_bltn (v := .ty "str") rfl (T.f_str) PyProof.Rows.Boot.«str» rfl) pa_nil))) (pe_and (pe_callB call_isi (by rfl) T.f_isinstance PyProof.Rows.Boot.«isinstance» (pa_cons (pv 1) (pa_cons (pe_bltn (v := .ty "str") rfl (T.f_str) PyProof.Rows.Boot.«str» rfl) pa_nil))) (pe_one (pe_cmpR (op_eqP hr.units) (pv 0) (pv 1) (nomark _))))))) pss_nil)
      (pss_cons (ps_asg (pe_and (pe_callB call_isi (by rfl) T.f_isinstance PyProof.Rows.Boot.«isinstance» (pa_cons (pv 0) (pa_cons (pe_bltn (v := .ty "list") rfl (T.f_list) PyProof.Rows.Boot.«list» rfl) pa_nil))) (pe_one (pe_callB call_isi (by rfl) T.f_isinstance PyProof.Rows.Boot.«isinstance» (pa_cons (pv 1) (pa_cons (pe_bltn (v := .ty "list") rfl (T.f_list) PyProof.Rows.Boot.«list» rfl) pa_nil))))) (pg_name (i := 2) sc_law_same.nd rfl (Or.inl rfl)))
      (pss_cut (ps_if (PW.pt (pw_and (pt_not (pt_val (pv 2))) (pw_and1 (pt_not (PW.pt (pw_and (pt_val (pe_callB call_isi (by rfl) T.f_isinstance PyProof.Rows.Boot.«isinstance» (pa_cons (pv 0) (pa_cons (pe_bltn (v := .ty "tuple") rfl (T.f_tuple) PyProof.Rows.Boot.«tuple» rfl) pa_nil)))) (pw_and1 (pt_val (pe_callB call_isi (by rfl) T.f_isinstance PyProof.Rows.Boot.«isinstance» (pa_cons (pv 1) (pa_cons (pe_bltn (v := .ty "tuple") rfl (T.f_tuple) PyProof.Rows.Boot.«tuple» rfl) pa_nil))))))))))) (pss_one (ps_ret (pe_and (pe_cmpR op_isP (pv 0) pe_non (nomark _)) (pe_one (pe_cmpR op_isP (pv 1) pe_non (nomark _)))))) pss_nil)
      (pss_one ps_never))))))
theorem okHL_law_same (T : Tx w K mg) : L2H.FnH PySem.Challenge.pw_renamedhorn_k01_literal_order w K mg base (L2N.CX PySem.Challenge.pw_renamedhorn_k01_literal_order w) 6 (ga K "_law_same") (fdOf K (ga K "_law_same")) ["_law_one", "_law_other"] (spHL_law_same K) := by
  refine T.fn_law_same.okH sc_law_same (fun vs H Q E h => Sp2.len h) (fun cdv A outer s H vs Q E p hot hr h => ⟨tHL_law_same K (fun cls d _ H => E cls d H), ?_, pureHL_law_same h⟩)
  · have tk := L2N.takes_of (X := L2H.cxH (L2N.CX PySem.Challenge.pw_renamedhorn_k01_literal_order w) PySem.Challenge.pw_renamedhorn_k01_literal_order w K mg base N_law_same "_law_same" (defScope Hd.s_law_same) (ga K "_law_same") cdv A outer s H E p) (E := E) rfl rfl rfl rfl
    exact (pss_cut (ps_if (PW.pt (pw_or (pt_val (pe_callB call_isi (by rfl) T.f_isinstance PyProof.Rows.Boot.«isinstance» (pa_cons (pv 0) (pa_cons (pe_bltn (v := .ty "bool") rfl (T.f_bool) PyProof.Rows.Boot.«bool» rfl) pa_nil)))) (pw_or1 (pt_val (pe_callB call_isi (by rfl) T.f_isinstance PyProof.Rows.Boot.«isinstance» (pa_cons (pv 1) (pa_cons (pe_bltn (v := .ty "bool") rfl (T.f_bool) PyProof.Rows.Boot.«bool» rfl) pa_nil))))))) (pss_one (ps_ret (pe_and (pe_callB call_isi (by rfl) T.f_isinstance PyProof.Rows.Boot.«isinstance» (pa_cons (pv 0) (pa_cons (pe_bltn (v := .ty "bool") rfl (T.f_bool) PyProof.Rows.Boot.«bool» rfl) pa_nil))) (pe_and (pe_callB call_isi (by rfl) T.f_isinstance PyProof.Rows.Boot.«isinstance» (pa_cons (pv 1) (pa_cons (pe_bltn (v := .ty "bool") rfl (T.f_bool) PyProof.Rows.Boot.«bool» rfl) pa_nil))) (pe_one (pe_cmpR (op_eqP hr.units) (pv 0) (pv 1) (nomark _))))))) pss_nil)
      (pss_cut (ps_if (PW.pt (pw_or (pt_val (pe_callB call_isi (by rfl) T.f_isinstance PyProof.Rows.Boot.«isinstance» (pa_cons (pv 0) (pa_cons (pe_bltn (v := .ty "int") rfl (T.f_int) PyProof.Rows.Boot.«int» rfl) pa_nil)))) (pw_or1 (pt_val (pe_callB call_isi (by rfl) T.f_isinstance PyProof.Rows.Boot.«isinstance» (pa_cons (pv 1) (pa_cons (pe_bltn (v := .ty "int") rfl (T.f_int) PyProof.Rows.Boot.«int» rfl) pa_nil))))))) (pss_one (ps_ret (pe_and (pe_callB call_isi (by rfl) T.f_isinstance PyProof.Rows.Boot.«isinstance» (pa_cons (pv 0) (pa_cons (pe_bltn (v := .ty "int") rfl (T.f_int) PyProof.Rows.Boot.«int» rfl) pa_nil))) (pe_and (pe_callB call_isi (by rfl) T.f_isinstance PyProof.Rows.Boot.«isinstance» (pa_cons (pv 1) (pa_cons (pe_bltn (v := .ty "int") rfl (T.f_int) PyProof.Rows.Boot.«int» rfl) pa_nil))) (pe_one (pe_cmpR (op_eqP hr.units) (pv 0) (pv 1) (nomark _))))))) pss_nil)
      (pss_cut (ps_if (PW.pt (pw_or (pt_val (pe_callB call_isi (by rfl) T.f_isinstance PyProof.Rows.Boot.«isinstance» (pa_cons (pv 0) (pa_cons (pe_bltn (v := .ty "str") rfl (T.f_str) PyProof.Rows.Boot.«str» rfl) pa_nil)))) (pw_or1 (pt_val (pe_callB call_isi (by rfl) T.f_isinstance PyProof.Rows.Boot.«isinstance» (pa_cons (pv 1) (pa_cons (pe_bltn (v := .ty "str") rfl (T.f_str) PyProof.Rows.Boot.«str» rfl) pa_nil))))))) (pss_one (ps_ret (pe_and (pe_callB call_isi (by rfl) T.f_isinstance PyProof.Rows.Boot.«isinstance» (pa_cons (pv 0) (pa_cons (pe_bltn (v := .ty "str") rfl (T.f_str) PyProof.Rows.Boot.«str» rfl) pa_nil))) (pe_and (pe_callB call_isi (by rfl) T.f_isinstance PyProof.Rows.Boot.«isinstance» (pa_cons (pv 1) (pa_cons (pe_bltn (v := .ty "str") rfl (T.f_str) PyProof.Rows.Boot.«str» rfl) pa_nil))) (pe_one (pe_cmpR (op_eqP hr.units) (pv 0) (pv 1) (nomark _))))))) pss_nil)
      (pss_cons (ps_asg (pe_and (pe_callB call_isi (by rfl) T.f_isinstance PyProof.Rows.Boot.«isinstance» (pa_cons (pv 0) (pa_cons (pe_bltn (v := .ty "list") rfl (T.f_list) PyProof.Rows.Boot.«list» rfl) pa_nil))) (pe_one (pe_callB call_isi (by rfl) T.f_isinstance PyProof.Rows.Boot.«isinstance» (pa_cons (pv 1) (pa_cons (pe_bltn (v := .ty "list") rfl (T.f_list) PyProof.Rows.Boot.«list» rfl) pa_nil))))) (pg_name (i := 2) sc_law_same.nd rfl (Or.inl rfl)))
      (pss_cut (ps_if (PW.pt (pw_and (pt_not (pt_val (pv 2))) (pw_and1 (pt_not (PW.pt (pw_and (pt_val (pe_callB call_isi (by rfl) T.f_isinstance PyProof.Rows.Boot.«isinstance» (pa_cons (pv 0) (pa_cons (pe_bltn (v := .ty "tuple") rfl (T.f_tuple) PyProof.Rows.Boot.«tuple» rfl) pa_nil)))) (pw_and1 (pt_val (pe_callB call_isi (by rfl) T.f_isinstance PyProof.Rows.Boot.«isinstance» (pa_cons (pv 1) (pa_cons (pe_bltn (v := .ty "tuple") rfl (T.f_tuple) PyProof.Rows.Boot.«tuple» rfl) pa_nil))))))))))) (pss_one (ps_ret (pe_and (pe_cmpR op_isP (pv 0) pe_non (nomark _)) (pe_one (pe_cmpR op_isP (pv 1) pe_non (nomark _)))))) pss_nil)
      (pss_one (ps_ret (pe_and (pe_cmpR (op_eqP hr.units) (pe_callB call_lenP (by rfl) T.f_len PyProof.Rows.Boot.«len» (pa_cons (pv 0) pa_nil)) (pe_callB call_lenP (by rfl) T.f_len PyProof.Rows.Boot.«len» (pa_cons (pv 1) pa_nil)) (nomark _)) (pe_one (pe_callB (L2H.cr_allH ⟨p, hot, List.mem_singleton.mpr rfl⟩) (by rfl) T.f_all PyProof.Rows.Boot.«all» (pa_cons (L2H.pe_lcH (own := [("_law_k", 3)]) (g := (gName 3)) (tt := tYes) ⟨p, hot, List.mem_singleton.mpr rfl⟩ sc_law_same.nd (L2H.pi_range1H (by rfl) T.f_range (pa_cons (pe_callB call_lenP (by rfl) T.f_len PyProof.Rows.Boot.«len» (pa_cons (pv 0) pa_nil)) pa_nil)) (blkOk_by (own := [("_law_k", 3)]) (N := N_law_same) (sc := defScope Hd.s_law_same) (by decide +kernel)) (fun _ _ _ _ _ => (pg_name (i := 3) sc_law_same.nd rfl (Or.inl rfl))) (fun _ _ _ _ _ => pts_nil) (fun _ _ _ _ _ => (L2H.pe_callH (okH_law_same T) (hr.mono (by decide)) ⟨p, hot, List.mem_singleton.mpr rfl⟩ rfl T.g_law_same (T.fn_law_same).kp (b_law_same T) (fun σ => L2N.passAt takesN σ) (pa_cons (pe_ix ix_P (pv 0) (pv 3) (fun _ _ => rfl)) (pa_cons (pe_ix ix_P (pv 1) (pv 3) (fun _ _ => rfl)) pa_nil))))) pa_nil)))))))))))
theorem sc_law_bad : FnScope N_law_bad ["_law_source_here", "_law_name_here"] (defScope Hd.s_law_bad) := ⟨rfl, rfl, rfl, by decide +kernel, rfl, by decide +kernel, by decide +kernel⟩
theorem b_law_bad (T : Tx w K mg) : Binds K (fdOf K (ga K "_law_bad")) ["_law_source_here", "_law_name_here"] [] := T.fn_law_bad.bindsN fun _ _ _ _ _ _ us hl => match us, hl with | [_, _], _ => rfl
theorem ok_law_bad (T : Tx w K mg) : FnOk PySem.Challenge.pw_renamedhorn_k01_literal_order w K mg base (L2N.CX PySem.Challenge.pw_renamedhorn_k01_literal_order w) 2 (ga K "_law_bad") (fdOf K (ga K "_law_bad")) ["_law_source_here", "_law_name_here"] (sp_law_bad K) := by
  refine T.fn_law_bad.ok sc_law_bad (fun vs H Q E h => Sp2.len h) (fun cdv A outer s H vs Q E hr h => ⟨t_law_bad K (fun cls d _ H => E cls d H), ?_, pure_law_bad h⟩)
  · have tk := L2N.takes_of (X := cxOf (L2N.CX PySem.Challenge.pw_renamedhorn_k01_literal_order w) PySem.Challenge.pw_renamedhorn_k01_literal_order w K mg base N_law_bad "_law_bad" (defScope Hd.s_law_bad) (ga K "_law_bad") cdv A outer s H E) (E := E) rfl rfl rfl rfl
    exact (pss_cons (ps_asg pe_str (pg_name (i := 2) sc_law_bad.nd rfl (Or.inl rfl)))
      (pss_cons (ps_asg (pe_callS (ok_law_take T) (hr.mono (by decide)) rfl T.g_law_take (T.fn_law_take).kp (b_law_take T) (fun σ => L2N.passAt tk σ) (pa_cons (pv 0) (pa_cons pe_int pa_nil))) (pg_name (i := 3) sc_law_bad.nd rfl (Or.inl rfl)))
      (pss_cut (ps_if (pt_cmpR (op_eqP hr.units) (pv 3) pe_int (nomark _)) (pss_one (ps_ret pe_str)) pss_nil)
      (pss_cut (ps_if (pt_cmpR (op_eqP hr.units) (pv 3) pe_int (nomark _)) (pss_one (ps_ret pe_str)) pss_nil)
      (pss_cut (ps_if (pt_cmpR (op_eqP hr.units) (pv 3) pe_int (nomark _)) (pss_one (ps_ret (pe_op op_addP pe_str (pv 1)))) pss_nil)
      (pss_cut (ps_if (pt_cmpR (op_eqP hr.units) (pv 3) pe_int (nomark _)) (pss_one (ps_ret (pe_op op_addP (pv 1) (pe_slice sl_P pe_str (po_some (pe_op op_subP (pe_callB call_lenP (by rfl) T.f_len PyProof.Rows.Boot.«len» (pa_cons (pv 1) pa_nil)) pe_int)) po_none)))) pss_nil)
      (pss_cut (ps_if (pt_cmpR (op_eqP hr.units) (pv 3) pe_int (nomark _)) (pss_one (ps_ret (pe_op op_addP pe_str (pe_slice sl_P (pv 1) (po_some pe_int) po_none)))) pss_nil)
      (pss_cons (ps_asg (pe_callS (ok_law_take T) (hr.mono (by decide)) rfl T.g_law_take (T.fn_law_take).kp (b_law_take T) (fun σ => L2N.passAt tk σ) (pa_cons (pv 0) (pa_cons (pe_op op_addP pe_int (pe_callB call_lenP (by rfl) T.f_len PyProof.Rows.Boot.«len» (pa_cons (pv 1) pa_nil))) pa_nil))) (pg_name (i := 4) sc_law_bad.nd rfl (Or.inl rfl)))
      (pss_one (ps_ret (pe_op op_addP (pe_op op_addP (pe_slice sl_P (pv 1) po_none (po_some (pv 4))) (pe_ix ix_P (pv 2) (pe_callS (ok_law_take T) (hr.mono (by decide)) rfl T.g_law_take (T.fn_law_take).kp (b_law_take T) (fun σ => L2N.passAt tk σ) (pa_cons (pv 0) (pa_cons pe_int pa_nil))) (fun _ _ => rfl))) (pe_slice sl_P (pv 1) (po_some (pv 4)) po_none))))))))))))
theorem sc_law_list : FnScope N_law_list ["_law_source_here", "_law_names_here"] (defScope Hd.s_law_list) := ⟨rfl, rfl, rfl, by decide +kernel, rfl, by decide +kernel, by decide +kernel⟩
theorem b_law_list (T : Tx w K mg) : Binds K (fdOf K (ga K "_law_list")) ["_law_source_here", "_law_names_here"] [] := T.fn_law_list.bindsN fun _ _ _ _ _ _ us hl => match us, hl with | [_, _], _ => rfl
theorem ok_law_list (T : Tx w K mg) : FnOk PySem.Challenge.pw_renamedhorn_k01_literal_order w K mg base (L2N.CX PySem.Challenge.pw_renamedhorn_k01_literal_order w) 2 (ga K "_law_list") (fdOf K (ga K "_law_list")) ["_law_source_here", "_law_names_here"] (sp_law_list K) := by
  refine T.fn_law_list.ok sc_law_list (fun vs H Q E h => Sp2.len h) (fun cdv A outer s H vs Q E hr h => ⟨t_law_list K (fun cls d _ H => E cls d H), ?_, pure_law_list h⟩)
  · have tk := L2N.takes_of (X := cxOf (L2N.CX PySem.Challenge.pw_renamedhorn_k01_literal_order w) PySem.Challenge.pw_renamedhorn_k01_literal_order w K mg base N_law_list "_law_list" (defScope Hd.s_law_list) (ga K "_law_list") cdv A outer s H E) (E := E) rfl rfl rfl rfl
    exact (pss_cons (ps_asg (pe_lst pa_nil) (pg_name (i := 2) sc_law_list.nd rfl (Or.inl rfl)))
      (pss_cut (ps_for (passes_of rfl) rfl (pi_range1 (by rfl) T.f_range (pa_cons (pe_callS (ok_law_take T) (hr.mono (by decide)) rfl T.g_law_take (T.fn_law_take).kp (b_law_take T) (fun σ => L2N.passAt tk σ) (pa_cons (pv 0) (pa_cons pe_int pa_nil))) pa_nil)) (pg_name (i := 3) sc_law_list.nd rfl (Or.inl rfl)) (pss_one (ps_expr (pe_bm PySem.F.plainAttrs_list PySem.F.slot_list_append PySem.F.type_list_append mt_append (pv 2) (pa_cons (pe_op op_addP (pe_ix ix_P (pe_lst (pa_cons pe_str (pa_cons pe_str pa_nil))) (pe_callS (ok_law_take T) (hr.mono (by decide)) rfl T.g_law_take (T.fn_law_take).kp (b_law_take T) (fun σ => L2N.passAt tk σ) (pa_cons (pv 0) (pa_cons pe_int pa_nil))) (fun _ _ => rfl)) (pe_ix ix_P (pv 1) (pe_callS (ok_law_take T) (hr.mono (by decide)) rfl T.g_law_take (T.fn_law_take).kp (b_law_take T) (fun σ => L2N.passAt tk σ) (pa_cons (pv 0) (pa_cons (pe_callB call_lenP (by rfl) T.f_len PyProof.Rows.Boot.«len» (pa_cons (pv 1) pa_nil)) pa_nil))) (fun _ _ => rfl))) pa_nil)))))
      (pss_one (ps_ret (pv 2)))))
theorem sc_law_told : FnScope N_law_told ["_law_literals", "_law_due"] (defScope Hd.s_law_told) := ⟨rfl, rfl, rfl, by decide +kernel, rfl, by decide +kernel, by decide +kernel⟩
theorem b_law_told (T : Tx w K mg) : Binds K (fdOf K (ga K "_law_told")) ["_law_literals", "_law_due"] [] := T.fn_law_told.bindsN fun _ _ _ _ _ _ us hl => match us, hl with | [_, _], _ => rfl
theorem ok_law_told (T : Tx w K mg) : FnOk PySem.Challenge.pw_renamedhorn_k01_literal_order w K mg base (L2N.CX PySem.Challenge.pw_renamedhorn_k01_literal_order w) 6 (ga K "_law_told") (fdOf K (ga K "_law_told")) ["_law_literals", "_law_due"] (sp_law_told K) := by
  refine T.fn_law_told.ok sc_law_told (fun vs H Q E h => Sp2.len h) (fun cdv A outer s H vs Q E hr h => ⟨t_law_told K (fun cls d _ H => E cls d H), ?_, pure_law_told h⟩)
  · have tk := L2N.takes_of (X := cxOf (L2N.CX PySem.Challenge.pw_renamedhorn_k01_literal_order w) PySem.Challenge.pw_renamedhorn_k01_literal_order w K mg base N_law_told "_law_told" (defScope Hd.s_law_told) (ga K "_law_told") cdv A outer s H E) (E := E) rfl rfl rfl rfl
    exact (pss_cons (ps_asg (pe_callTy call_listP (by rfl) T.f_list PyProof.Rows.Boot.«list» (pa_cons (pv 0) pa_nil)) (pg_name (i := 2) sc_law_told.nd rfl (Or.inl rfl)))
      (pss_cons (ps_asg (pe_callS (ok_in_order T) (hr.mono (by decide)) rfl T.g_in_order (T.fn_in_order).kp (b_in_order T) (fun σ => L2N.passAt tk σ) (pa_cons (pv 2) pa_nil)) (pg_name (i := 3) sc_law_told.nd rfl (Or.inl rfl)))
      (pss_cut (ps_if (PW.pt (pw_or (pt_not (pt_val (pe_callS (ok_law_same T) (hr.mono (by decide)) rfl T.g_law_same (T.fn_law_same).kp (b_law_same T) (fun σ => L2N.passAt tk σ) (pa_cons (pv 3) (pa_cons (pv 1) pa_nil))))) (pw_or1 (pt_not (pt_val (pe_callS (ok_law_same T) (hr.mono (by decide)) rfl T.g_law_same (T.fn_law_same).kp (b_law_same T) (fun σ => L2N.passAt tk σ) (pa_cons (pv 2) (pa_cons (pv 0) pa_nil)))))))) (pss_one (ps_ret pe_bl)) pss_nil)
      (pss_cons (ps_expr (pe_bm PySem.F.plainAttrs_list PySem.F.slot_list_append PySem.F.type_list_append mt_append (pv 3) (pa_cons pe_str pa_nil)))
      (pss_one (ps_ret (pe_and (pe_callS (ok_law_same T) (hr.mono (by decide)) rfl T.g_law_same (T.fn_law_same).kp (b_law_same T) (fun σ => L2N.passAt tk σ) (pa_cons (pv 2) (pa_cons (pv 0) pa_nil))) (pe_one (pe_callS (ok_law_same T) (hr.mono (by decide)) rfl T.g_law_same (T.fn_law_same).kp (b_law_same T) (fun σ => L2N.passAt tk σ) (pa_cons (pe_callS (ok_in_order T) (hr.mono (by decide)) rfl T.g_in_order (T.fn_in_order).kp (b_in_order T) (fun σ => L2N.passAt tk σ) (pa_cons (pv 2) pa_nil)) (pa_cons (pv 1) pa_nil)))))))))))
theorem sc_law_refused : FnScope N_law_refused ["_law_literals", "_law_text"] (defScope Hd.s_law_refused) := ⟨rfl, rfl, rfl, by decide +kernel, rfl, by decide +kernel, by decide +kernel⟩
theorem b_law_refused (T : Tx w K mg) : Binds K (fdOf K (ga K "_law_refused")) ["_law_literals", "_law_text"] [] := T.fn_law_refused.bindsN fun _ _ _ _ _ _ us hl => match us, hl with | [_, _], _ => rfl
theorem ok_law_refused (T : Tx w K mg) : FnOk PySem.Challenge.pw_renamedhorn_k01_literal_order w K mg base (L2N.CX PySem.Challenge.pw_renamedhorn_k01_literal_order w) 9 (ga K "_law_refused") (fdOf K (ga K "_law_refused")) ["_law_literals", "_law_text"] (sp_law_refused K) := by
  refine T.fn_law_refused.ok sc_law_refused (fun vs H Q E h => Sp2.len h) (fun cdv A outer s H vs Q E hr h => ⟨t_law_refused K (fun cls d _ H => E cls d H), ?_, pure_law_refused ⟨T.exm_BadLiteral_BadLiteral, T.excC_BadLiteral, T.kit_BadLiteral_HornError, T.kit_BadLiteral_ValueError, T.kit_BadLiteral_BadName⟩ h⟩)
  · have tk := L2N.takes_of (X := cxOf (L2N.CX PySem.Challenge.pw_renamedhorn_k01_literal_order w) PySem.Challenge.pw_renamedhorn_k01_literal_order w K mg base N_law_refused "_law_refused" (defScope Hd.s_law_refused) (ga K "_law_refused") cdv A outer s H E) (E := E) rfl rfl rfl rfl
    exact (pss_cons (ps_asg (pe_callTy call_listP (by rfl) T.f_list PyProof.Rows.Boot.«list» (pa_cons (pv 0) pa_nil)) (pg_name (i := 2) sc_law_refused.nd rfl (Or.inl rfl)))
      (pss_cut (L2N.ps_try_as (i := 3) (tb := fun W1 => (tDrop (tCallS (sp_in_order K) (WE W1) (tCons (tVar 2) tNil)))) (ts := fun a_ cls_ d_ => (tSeq (tAsg (tAndV (tCB (rIsEE K a_ cls_ d_) (tCons (tVar 3) (tCons (tC (.ref (ga K "HornError"))) tNil))) (tAndV (tCB (rIsEE K a_ cls_ d_) (tCons (tVar 3) (tCons (tC (.ty "ValueError")) tNil))) (tNotV (tCB (rIsEE K a_ cls_ d_) (tCons (tVar 3) (tCons (tC (.ref (ga K "BadName"))) tNil)))))) (gName 4))
    (tRet (tAndV (tVar 4) (tAndV (tCallS (spH_law_same K) (WE (fun _ _ _ _ => False)) (tCons (tErrF (ga K "BadLiteral") "text" a_ cls_ d_ (tVar 3)) (tCons (tVar 1) tNil))) (tCallS (spHL_law_same K) (WE (fun _ _ _ _ => False)) (tCons (tVar 2) (tCons (tVar 0) tNil)))))))) rfl rfl sc_law_refused.nd rfl rfl ⟨rfl, by decide, Or.inl T.g_BadLiteral⟩ tk
      (fun W1 pn xe tk1 po_ => (pss_one (ps_expr (pe_callS (ok_in_order T) (hr.mono (by decide)) rfl T.g_in_order (T.fn_in_order).kp (b_in_order T) (fun σ => L2N.passAt tk1 σ) (pa_cons (pv 2) pa_nil)))))
      (fun a oe cls d pn hz hf => (pss_cons (ps_asg (pe_and (pe_callB (call_isEE hz.zc hf) (by rfl) T.f_isinstance PyProof.Rows.Boot.«isinstance» (pa_cons (pv 3) (pa_cons (pe_glob (v := .ref (ga K "HornError")) rfl (T.g_HornError) rfl) pa_nil))) (pe_and (pe_callB (call_isEE hz.zc hf) (by rfl) T.f_isinstance PyProof.Rows.Boot.«isinstance» (pa_cons (pv 3) (pa_cons (pe_bltn (v := .ty "ValueError") rfl (T.f_ValueError) PyProof.Rows.Boot.«ValueError» rfl) pa_nil))) (pe_one (pe_not (pe_callB (call_isEE hz.zc hf) (by rfl) T.f_isinstance PyProof.Rows.Boot.«isinstance» (pa_cons (pv 3) (pa_cons (pe_glob (v := .ref (ga K "BadName")) rfl (T.g_BadName) rfl) pa_nil))))))) (pg_name (i := 4) sc_law_refused.nd rfl (Or.inl rfl)))
      (pss_one (ps_ret (pe_and (pv 4) (pe_and (L2H.pe_callH (okH_law_same T) ((L2H.roomH_mark hr _).mono (by decide)) (hotc hz hf) rfl T.g_law_same (T.fn_law_same).kp (b_law_same T) (fun σ => L2N.passAt takesN σ) (pa_cons (pe_errF T.err_BadLiteral hz.zc hf (pv 3)) (pa_cons (pv 1) pa_nil))) (pe_one (L2H.pe_callH (okHL_law_same T) ((L2H.roomH_mark hr _).mono (by decide)) (hotc hz hf) rfl T.g_law_same (T.fn_law_same).kp (b_law_same T) (fun σ => L2N.passAt takesN σ) (pa_cons (pv 2) (pa_cons (pv 0) pa_nil)))))))))))
      (pss_one (ps_ret pe_bl))))
theorem sc_law : FnScope N_law ["_law_script"] (defScope Hd.s_law) := ⟨rfl, rfl, rfl, by decide +kernel, rfl, by decide +kernel, by decide +kernel⟩
theorem ok_law (T : Tx w K mg) : FnOk PySem.Challenge.pw_renamedhorn_k01_literal_order w K mg base (L2N.CX PySem.Challenge.pw_renamedhorn_k01_literal_order w) 10 (ga K "law") (fdOf K (ga K "law")) ["_law_script"] (sp_law K) := by
  refine T.fn_law.ok sc_law (fun vs H Q E h => Sp1.len h) (fun cdv A outer s H vs Q E hr h => ⟨t_law K (fun cls d _ H => E cls d H), ?_, pure_law h⟩)
  · have tk := L2N.takes_of (X := cxOf (L2N.CX PySem.Challenge.pw_renamedhorn_k01_literal_order w) PySem.Challenge.pw_renamedhorn_k01_literal_order w K mg base N_law "law" (defScope Hd.s_law) (ga K "law") cdv A outer s H E) (E := E) rfl rfl rfl rfl
    exact (pss_cons (ps_asg (pe_callS (ok_law_source T) (hr.mono (by decide)) rfl T.g_law_source (T.fn_law_source).kp (b_law_source T) (fun σ => L2N.passAt tk σ) (pa_cons (pv 0) pa_nil)) (pg_name (i := 1) sc_law.nd rfl (Or.inl rfl)))
      (pss_cons (ps_asg (pe_callS (ok_law_names T) (hr.mono (by decide)) rfl T.g_law_names (T.fn_law_names).kp (b_law_names T) (fun σ => L2N.passAt tk σ) (pa_cons (pv 1) (pa_cons (pe_op op_addP pe_int (pe_callS (ok_law_take T) (hr.mono (by decide)) rfl T.g_law_take (T.fn_law_take).kp (b_law_take T) (fun σ => L2N.passAt tk σ) (pa_cons (pv 1) (pa_cons pe_int pa_nil)))) pa_nil))) (pg_name (i := 2) sc_law.nd rfl (Or.inl rfl)))
      (pss_cons (ps_asg (pe_callS (ok_law_list T) (hr.mono (by decide)) rfl T.g_law_list (T.fn_law_list).kp (b_law_list T) (fun σ => L2N.passAt tk σ) (pa_cons (pv 1) (pa_cons (pv 2) pa_nil))) (pg_name (i := 3) sc_law.nd rfl (Or.inl rfl)))
      (pss_cons (ps_asg (pe_callS (ok_law_ordered T) (hr.mono (by decide)) rfl T.g_law_ordered (T.fn_law_ordered).kp (b_law_ordered T) (fun σ => L2N.passAt tk σ) (pa_cons (pv 3) pa_nil)) (pg_name (i := 4) sc_law.nd rfl (Or.inl rfl)))
      (pss_cut (ps_if (PW.pt (pw_or (pt_not (pt_val (pe_callS (ok_law_told T) (hr.mono (by decide)) rfl T.g_law_told (T.fn_law_told).kp (b_law_told T) (fun σ => L2N.passAt tk σ) (pa_cons (pv 3) (pa_cons (pv 4) pa_nil))))) (pw_or1 (pt_not (pt_val (pe_callS (ok_law_told T) (hr.mono (by decide)) rfl T.g_law_told (T.fn_law_told).kp (b_law_told T) (fun σ => L2N.passAt tk σ) (pa_cons (pv 4) (pa_cons (pv 4) pa_nil)))))))) (pss_one (ps_ret pe_bl)) pss_nil)
      (pss_cut (ps_if (pt_cmpR (op_neP hr.units) (pe_callS (ok_law_take T) (hr.mono (by decide)) rfl T.g_law_take (T.fn_law_take).kp (b_law_take T) (fun σ => L2N.passAt tk σ) (pa_cons (pv 1) (pa_cons pe_int pa_nil))) pe_int (nomark _)) (pss_one (ps_ret pe_bl)) pss_nil)
      (pss_cons (ps_asg (pe_lst pa_nil) (pg_name (i := 5) sc_law.nd rfl (Or.inr rfl)))
      (pss_cut (ps_for (passes_of rfl) rfl (pi_range1 (by rfl) T.f_range (pa_cons (pe_op op_addP pe_int (pe_callS (ok_law_take T) (hr.mono (by decide)) rfl T.g_law_take (T.fn_law_take).kp (b_law_take T) (fun σ => L2N.passAt tk σ) (pa_cons (pv 1) (pa_cons pe_int pa_nil)))) pa_nil)) (pg_name (i := 6) sc_law.nd rfl (Or.inl rfl)) (pss_cons (ps_asg (pe_callS (ok_law_take T) (hr.mono (by decide)) rfl T.g_law_take (T.fn_law_take).kp (b_law_take T) (fun σ => L2N.passAt tk σ) (pa_cons (pv 1) (pa_cons (pe_op op_addP (pe_callB call_lenP (by rfl) T.f_len PyProof.Rows.Boot.«len» (pa_cons (pv 3) pa_nil)) pe_int) pa_nil))) (pg_name (i := 7) sc_law.nd rfl (Or.inl rfl)))
      (pss_cons (ps_expr (pe_bm PySem.F.plainAttrs_list PySem.F.slot_list_append PySem.F.type_list_append mt_append (pv 5) (pa_cons (pe_callS (ok_law_bad T) (hr.mono (by decide)) rfl T.g_law_bad (T.fn_law_bad).kp (b_law_bad T) (fun σ => L2N.passAt tk σ) (pa_cons (pv 1) (pa_cons (pe_ix ix_P (pv 2) pe_int (fun _ _ => rfl)) pa_nil))) pa_nil)))
      (pss_one (ps_expr (pe_bm PySem.F.plainAttrs_list PySem.F.slot_list_insert PySem.F.type_list_insert mt_insertP (pv 3) (pa_cons (pv 7) (pa_cons (pe_ix ix_P (pv 5) (pv 6) (fun _ _ => rfl)) pa_nil))))))))
      (pss_one (ps_ret (pe_callS (ok_law_refused T) (hr.mono (by decide)) rfl T.g_law_refused (T.fn_law_refused).kp (b_law_refused T) (fun σ => L2N.passAt tk σ) (pa_cons (pv 3) (pa_cons (pe_ix ix_P (pe_lc (own := [("_law_text", 8)]) (g := (gName 8)) (tt := (tTest (tOp (rInP K false) (tVar 8) (tVar 5)))) rfl sc_law.nd (pi_anyP (pv 3)) (blkOk_by (own := [("_law_text", 8)]) (N := N_law) (sc := defScope Hd.s_law) (by decide +kernel)) (fun _ _ _ _ _ => (pg_name (i := 8) sc_law.nd rfl (Or.inl rfl))) (fun _ _ _ _ _ => (pts_one (pt_cmpR (op_inP hr.units) (pv 8) (pv 5) (by rfl)))) (fun _ _ _ _ _ => (pv 8))) pe_int (fun _ _ => rfl)) pa_nil)))))))))))))
end
end Ok
open PySem PySem.W PySem.Calls PyProof.Rows
set_option maxRecDepth 100000 in
set_option maxHeartbeats 8000000 in
theorem PySem.Challenge.cw_renamedhorn_k01_literal_order_holds : PySem.Challenge.rw_renamedhorn_k01_literal_order.Holds := by
  w_on; o_law
  refine HandSHeadRun.head_any (r := OpenLaw.row PySem.Challenge.rw_renamedhorn_k01_literal_order) (q := view (OpenLaw.row PySem.Challenge.rw_renamedhorn_k01_literal_order).prog [26]) (H := Hd.hk) (ob := Hd.ob) (M := 6000) (loose := Hd.loose) (d := HandSHeadRun.topDef (OpenLaw.row PySem.Challenge.rw_renamedhorn_k01_literal_order).prog 26) (kwd := []) Hd.ob_eq
    (by kernel_rfl) (fun s => by kernel_rfl) Hd.run (by kernel_rfl) (by kernel_rfl) (by kernel_rfl) (by rfl) (by first | assumption | decide +kernel) (by decide +kernel) ⟨rfl, rfl, rfl, rfl, rfl, by decide +kernel⟩ ?hw ?hc
  case hw => w_witness2
  case hc =>
    refine Hk.walk_ofEB (l := PySem.Challenge.rw_renamedhorn_k01_literal_order) (n := 63) (k := 10) (x := "_law_script") (CX := L2N.CX PySem.Challenge.pw_renamedhorn_k01_literal_order) rfl (by decide) (by kernel_rfl) ⟨rfl, by decide, by decide⟩ ?F (fun w H s e s' z => ?X)
    case X =>
      obtain ⟨_, _, _, _, _, _, _, _, _, _, _, _, z⟩ := z
      exact z
    case F =>
      intro w mg fa h Y G hmg0
      obtain ⟨K, KX, c⟩ := Y
      have hmg : mg ("law" : PySem.Str) = some (.ref fa) := by
        have e : (HandSHeadRun.topDef (OpenLaw.row PySem.Challenge.rw_renamedhorn_k01_literal_order).prog 26).name = ("law" : PySem.Str) := by kernel_rfl
        rw [← e]
        exact hmg0
      have T : Ok.Tx w K mg := ⟨c, h, KX, G⟩
      have e := hmg.symm.trans T.g_law
      cases e
      have b := L2.FunD.bindsA (ps := ["_law_script"]) T.fn_law fun _ _ _ _ _ _ us hl => match us, hl with | [_], _ => rfl
      exact ⟨K, Hk.fdOf K (He.ga K "law"), Rd.sp_law K, KX, fun s v => b s [v] rfl, fun H a ns hl _ _ hS => ⟨_, rfl, a, ns, rfl, hS, by omega, fun _ => rfl⟩, fun base _ _ => Ok.ok_law T⟩
