import PyProof.Rows.All
import Wide.All
import OpenK.AllK
import Wide.FinOn
import PyProof.EqAt
import PyProof.EqKinds
import PyProof.TupleCall
import KE.KStateDown
import KE.KExcSuper
import HandS.ForMost
import HandS.ForExc
import HandS.HeadWalk
import HandS.Defaults
import HandS.ExcIs
import HandS.ExcCtx
import HandS.HotCalls
import HandS.ExcInitHot
import HandS.IsInst
import KE.KExcIs
import HandS.EndBits
import HandS.Head0
import HandS.Head1
import HandS.Head2
import HandS.HeadEnd
import HandS.HeadHook1
import HandS.HeadHook2
import HandS.HeadHook3
import HandS.HeadNt
import HandS.Wide
import HandS.Flow
import HandS.StrMore
import HandS.Conv
import HandS.TupAny
import HandS.RaiseMore
import HandS.TupLe
import HandS.Star
import HandS.Property
import HandS.ClsMeth
import HandS.Style
import HandS.ExcOwn
import HandS.Iter
import HandS.Dict
import HandS.More
import HandS.SortInts
import PyProof.Rows.SortShellAny
import HandS.IterVal
import HandS.OwnIter
import KE.KOwnIter
import KE.KCallOwn
import HandS.Gcd
import HandS.FStr
import HandS.Head3
import KE.KOpsOwn
import KE.KDictList
import HandS.DictComp
import HandS.Zip
import HandS.List
import HandS.Text
import HandS.DictEq
import HandS.SetFor
import PySem.Challenge.RW_renamedhorn_k26_chains_judged
set_option Elab.async false
set_option linter.all false
set_option maxRecDepth 100000
set_option maxHeartbeats 4000000
/-! own errors whose __init__ says super().__init__('..') and keeps one argument in a field, or none -/
namespace PySem
namespace ErrX
open PySem.W PySem.Calls PyProof.Rows PySem.HandSPX
theorem one_size (v : Value) : [v].length ≤ sizeLine := by
  rw [sizeLine_eq]
  exact (by decide : 1 ≤ 16777216)
/-- the first statement of such an __init__ -/
def supS (msg : Str) (a1 a2 a3 a4 a5 a6 : Pos) : Stmt := .Expr (.Call (.Attribute (.Call (.Name "super" a1) [] [] a2) "__init__" a3) [.Constant (.str msg) 0 a4] [] a5) a6
def fldS (f : Str) (b1 b2 b3 b4 : Pos) : Stmt := .Assign [.Attribute (.Name "self" b1) f b2] (.Name f b3) b4
/-- what the written part says of the class at C and of its __init__ at fI -/
structure ErrC (prog : Program) (K : Frag) (C fI : Addr) (body : List Stmt) (scope : Scope) (params : Arguments) : Prop where
  cls : ∃ nm q N bs bm sn sub ab col dd k0 k1 k2 k3 k5, K.lookup C = some (excClassObj nm q C N bs bm true sn sub ab col dd k0 k1 k2 k3 k5 "ValueError.__new__") ∧ refsVE bm = true
  sa : findIn K (.ref C) "__setattr__" = some (some (.builtin "object.__setattr__"))
  ga : findIn K (.ref C) "__getattribute__" = some (some (.builtin "BaseException.__getattribute__"))
  gg : findIn K (.ref C) "__getattr__" = some none
  iC : findIn K (.ref C) "__init__" = some (some (.ref fI))
  tC : typeIn K (.ref fI) = some (.type "function")
  kC : keepIn K (.ref C) = true
  exC : subIn K (.ref C) (.type "BaseException") = some true
  veC : subIn K (.ref C) (.type "ValueError") = some true
  tyC : typeIn K (.ref C) = some (.type "type")
  hdC : hasDictIn K C = true
  mroC : mroIn K C (.ref C) = some true
  supC : ks_superIn K C C "__init__" = some (some (.builtin "ValueError.__init__"))
  opq : nsIn K cStatics "thirdparty.any" = some none
  supG : nsIn K mainGlobals "super" = some none
  fn : ∃ (oc : Value) (od : Option Addr) (nm qual : Str) (kV doc pm : Value) (an : Option Addr) (cda cc : Addr) (ct : Value) (osl : Array (Option Value)) (ccl : Value) (cdd : Option Addr) (vs : Array Value) (ccs : Array (Option Value)) (file : Str) (tf : Tok) (cl : Value) (cld : Option Addr) (csl : Array (Option Value)),
    K.lookup fI = some ⟨oc, od, .func (ksFn nm qual params body scope .none kV doc pm an (.ref cda) ct cc), osl⟩ ∧ codeIn K (.ref cda) qual = true ∧
    K.lookup cda = some ⟨ccl, cdd, .fields vs, ccs⟩ ∧ vs[2]? = some (.str file tf) ∧ ((prog.main.file : Str) == file) = true ∧ K.lookup cc = some ⟨cl, cld, .cell (some (.ref C)), csl⟩
  ar : ∃ pp, (params.posonlyargs ++ params.args).head? = some ⟨"self", none, pp⟩
  hks : scope.names.lookup ("super" : Str) = some .globalImplicit
  hkc : scope.names.lookup ("__class__" : Str) = some .free
  hka : scope.names.lookup ("self" : Str) = some .local
  hk : scope.kind = .function
  hco : scope.isCoroutine = false
  hgen : scope.isGenerator = false
  hcell : ∀ x ∈ scope.names, x.2 ≠ .cell
  htop : (prog.main.scope.names.lookup ("super" : Str)).isSome = false
section
variable {prog : Program} {w : World} {M : Model} {A : Around} {E : Value → Shared → Prop} {h : Heap} {g : Array GenState} {d : Drawn} {t : Nat} {os : OsState}
variable {nm q : Str} {C N : Addr} {bs bm : List Value} {hdct : Bool} {sn : List Str} {sub : List Value} {ab : Bool} {col : Option Bool} {dd : Option Addr} {k0 k1 k2 k3 k5 : Option Value}
theorem call_vw {u e t0 : Addr} {rest : List Value} {Q : Value → Shared → Prop}
    (hC : h.get? C = some (excClassObj nm q C N bs bm hdct sn sub ab col dd k0 k1 k2 k3 k5 "ValueError.__new__")) (he : h.get? e = some (excO C t0)) (hu : h.get? u = some (kxs_mw "ValueError.__init__" e)) (hrest : rest.length ≤ sizeLine)
    (hq : ∀ h' t1, (∀ b o, b ≠ e → h.get? b = some o → h'.get? b = some o) → h'.get? e = some (excO C t1) → Q .none ⟨h', g, d, t, os⟩) :
    wpAny (model prog w) A (call (.ref u) rest) Q E ⟨h, g, d, t, os⟩ := by
  refine wpAny_call (codeAny_of_tree ?_)
  show wpAny _ A.in1 (callAny (.ref u) ⟨rest, []⟩) _ _ _
  simp only [callAny]
  refine wpAny_bind (wpAny_load hu ?_)
  simp only [kxs_mw, show (Value.type "method-wrapper" == Value.type "method" || Value.type "method-wrapper" == Value.type "builtin_function_or_method" || Value.type "method-wrapper" == Value.type "method-wrapper") = true by decide, if_true]
  refine W.KFB.if_so (by decide) ?_
  refine wpAny_bind (check_bound_init F.excBase_ValueError.toExcCallFacts hC he rfl ?_)
  refine wpAny_bind (wpAny_pure (wpAny_pure ?_))
  refine ⟨plainId_quiet F.excBase_ValueError.init.plain _, codeAny_builtin F.excBase_ValueError.initEntry ?_⟩
  rw [Around.under_plainId F.excBase_ValueError.init.plain _]
  wp_walk
  refine hq _ h.objs.size (fun b o hb ho => ?_) ?_
  · rw [Heap.get?_update_other _ _ (Ne.symm hb)]
    exact Heap.get?_push_of_some _ ho
  · rw [Heap.get?_update_self _ (Heap.get?_push_of_some _ he) rfl]
    rfl
end
section
variable {prog : Program} {w : World} {A : Around} {E : Value → Shared → Prop} {s : Shared} {K : Frag} {mg : Str → Option Value} {C fI : Addr} {body : List Stmt} {scope : Scope} {params : Arguments}
/-- super().__init__('..') in such an __init__ -/
theorem sup_stmt (T : ErrC prog K C fI body scope params) {L x t0 : Addr} {m : Str → Option Value} {msg : Str} {a1 a2 a3 a4 a5 a6 : Pos} {Q : Flow → Shared → Prop}
    {oc : Value} {od : Option Addr} {nm qual : Str} {kV doc pm : Value} {an : Option Addr} {cda cc : Addr} {ct : Value} {osl : Array (Option Value)} {ccl : Value} {cdd : Option Addr} {vs : Array Value} {ccs : Array (Option Value)} {file : Str} {tf : Tok} {cl : Value} {cld : Option Addr} {csl : Array (Option Value)}
    (hf : K.lookup fI = some ⟨oc, od, .func (ksFn nm qual params body scope .none kV doc pm an (.ref cda) ct cc), osl⟩)
    (hcode : K.lookup cda = some ⟨ccl, cdd, .fields vs, ccs⟩) (hvs : vs[2]? = some (.str file tf)) (hfile : ((prog.main.file : Str) == file) = true) (hcell : K.lookup cc = some ⟨cl, cld, .cell (some (.ref C)), csl⟩)
    (X : K.In s.heap) (hG : s.heap.Ns mainGlobals mg) (hB : ∃ mb, s.heap.Ns builtinsNs mb ∧ ∀ x : Str, x ≠ "__name__" → mb x = bootBuiltins x)
    (hline : (a3.endLine == a5.line) = true) (hn : s.heap.Ns L m) (hv : m "self" = some (.ref x)) (hx : s.heap.get? x = some (excO C t0)) (hnx : K.lookup x = none)
    (hq : ∀ h' tk t1, (∀ b o, b ≠ x → s.heap.get? b = some o → h'.get? b = some o) → h'.get? x = some (excO C t1) → Q .next { s with heap := h', toks := tk }) :
    _root_.PySem.wpAt (model prog w) A (.func body (ksEnv qual scope L fI (.ref cda) cc)) (exec (supS msg a1 a2 a3 a4 a5 a6) (ksEnv qual scope L fI (.ref cda) cc)) Q E s := by
  obtain ⟨cnm, cq, N, bs, bm, sn, sub, ab, col, dd, k0, k1, k2, k3, k5, hC, hbm⟩ := T.cls
  obtain ⟨pp, har⟩ := T.ar
  obtain ⟨mb, hb1, hb2⟩ := hB
  have hD : clsIn K C = some { name := cnm, bases := bs, mro := .ref C :: bm, ns := N, qualname := cq, hasDict := true, slotNames := sn, subclasses := sub, abstract := ab, collection := col, hasDel := false } := by unfold clsIn; rw [hC] <;> rfl
  have hxC : x ≠ C := fun z => by rw [z, hC] at hnx; cases hnx
  obtain ⟨hh, g, d, t, os⟩ := s
  refine ks_wpAt_Expr_any (ks_wpAt_MethodCall (pl := L2.plainOf (.Call (.Name "super" a1) [] [] a2) (ksEnv qual scope L fI (.ref cda) cc)) ?_ (by
      show (do
        let ov ← attributeBase (.Call (.Name "super" a1) [] [] a2) "__init__" (ksEnv qual scope L fI (.ref cda) cc) (eval (.Call (.Name "super" a1) [] [] a2) (ksEnv qual scope L fI (.ref cda) cc))
        standAt a3.atName
        methodCall (.Call (.Name "super" a1) [] [] a2) "__init__" a3 a5 (ksEnv qual scope L fI (.ref cda) cc) ov 1 (backTo a5 (starEach [.Constant (.str msg) 0 a4] (ksEnv qual scope L fI (.ref cda) cc))) []) = _
      simp only [L2.mcall_line (n := 1) (args := backTo a5 (starEach [.Constant (.str msg) 0 a4] (ksEnv qual scope L fI (.ref cda) cc))) (kws := []) rfl hline])) (by simp [interactive, T.hk])
  refine ks_wpAt_super_base (env := ksEnv qual scope L fI (.ref cda) cc) T.hks T.hkc (by decide) rfl (X _ _ hf) rfl har rfl (X _ _ hcode) rfl hvs hfile T.htop ?_
  refine ks_loadName_global T.hk T.hks (loadGlobal_builtin (env := ksEnv qual scope L fI (.ref cda) cc) hG (mg_none_of X hG T.supG) hb1 ((hb2 _ (by decide +kernel)).trans PyProof.Rows.Boot.«super») ⟨rfl, ?_⟩)
  refine wpAny_loadName_free T.hk T.hkc rfl ⟨_, X _ _ hcell, rfl⟩ ?_
  refine wpAny_loadName_local T.hk T.hka hn hv ?_
  refine ks_wpAny_isType_cls (X _ _ hC) rfl ⟨rfl, ?_⟩
  refine ks_wpAny_call_super (X _ _ hC) rfl hx rfl (fun c e => by cases e) (looks_mroIn X T.mroC) (fun h1 e1 up1 => ?_)
  have hx1 := up1 _ _ hx
  have X1 : K.In h1 := X.keeps up1
  have I1 : InstAt h1 x (excO C t0) C none := ⟨hx1, rfl, rfl, trivial⟩
  have hI : Looks (model prog w) h1 (isInstance (.ref x) (.type "ValueError")) true := I1.type.andThen (looks_subIn X1 T.veC)
  have hsup := T.supC
  unfold ks_superIn at hsup
  rw [hD] at hsup
  refine kxs_getMethod kxs_ValueError e1 (looks_opaque X1 T.opq) (l₀ := .ref C :: bm) (fun A Q E s k q => wpAny_bind ((looks_clsIn X1 hD) A _ E s k (wpAny_pure q))) rfl X1 hsup hI hxC (by decide) ?_
  have up2 : ∀ b o, h1.get? b = some o → (h1.push (kxs_mw "ValueError.__init__" x)).get? b = some o := fun b o e => Heap.get?_push_of_some _ e
  have hu2 : (h1.push (kxs_mw "ValueError.__init__" x)).get? h1.objs.size = some (kxs_mw "ValueError.__init__" x) := Heap.get?_push_at rfl rfl
  refine kxs_callWith (u := h1.objs.size) (i := "ValueError.__init__") (x := x) rfl (evalArgs_plain ?_)
  refine Calls.spliced_cons (x := eval (.Constant (.str msg) 0 a4) (ksEnv qual scope L fI (.ref cda) cc)) (Calls.Constant_str (k := 0) (pos := a4) (Calls.spliced_nil ?_))
  refine ⟨hu2, ?_⟩
  refine call_vw ((X1.keeps up2) _ _ hC) (up2 _ _ hx1) hu2 (one_size _) (fun h3 t1 k3 hx3 => ?_)
  exact hq h3 _ t1 (fun b o hb e => k3 b o hb (up2 _ _ (up1 _ _ e))) hx3
end
section
variable {prog : Program} {w : World} {A : Around} {E : Value → Shared → Prop} {R : Result → Shared → Prop} {s : Shared} {K : Frag} {mg : Str → Option Value} {C fI : Addr} {body : List Stmt} {scope : Scope} {params : Arguments}
/-- what __init__ leaves of a fresh exception at x: with a field; without -/
structure InitEnd (h h' : Heap) (x C dx : Addr) (f : Str) (v : Value) : Prop where
  keep : ∀ b o, b ≠ x → h.get? b = some o → h'.get? b = some o
  obj : ∃ t1 : Addr, h'.get? x = some { cls := .ref C, dict := some dx, data := .fields #[.ref t1, .none, .none, .none, .bool false, .none] }
  dbig : h.objs.size ≤ dx
  dne : dx ≠ x
  ns : h'.Ns1 dx (fun y => if y = f then some v else none)
structure InitEnd0 (h h' : Heap) (x C : Addr) : Prop where
  keep : ∀ b o, b ≠ x → h.get? b = some o → h'.get? b = some o
  obj : ∃ t1 : Addr, h'.get? x = some (excO C t1)
theorem init1 {f msg : Str} {a1 a2 a3 a4 a5 a6 b1 b2 b3 b4 : Pos} (T : ErrC prog K C fI [supS msg a1 a2 a3 a4 a5 a6, fldS f b1 b2 b3 b4] scope params) (hline : (a3.endLine == a5.line) = true)
    (hbind : ∀ (nm qual : Str) (kV doc pm : Value) (an : Option Addr) (cdv ct : Value) (cc : Addr) (x y : Value), bindArgs (ksFn nm qual params [supS msg a1 a2 a3 a4 a5 a6, fldS f b1 b2 b3 b4] scope .none kV doc pm an cdv ct cc) ⟨[x, y], []⟩ = pure [((("self" : Str)), x), (f, y)])
    (hkf : scope.names.lookup f = some .local) (hne : (("self" : Str) == f) = false) (hdf : (f == ("__debug__" : Str)) = false) (noN : findIn K (.ref C) f = some none)
    {x t0 : Addr} {v : Value} (X : K.In s.heap) (hlim : s.heap.NoLimit) (hG : s.heap.Ns mainGlobals mg) (hB : ∃ mb, s.heap.Ns builtinsNs mb ∧ ∀ x : Str, x ≠ "__name__" → mb x = bootBuiltins x)
    (hx : s.heap.get? x = some (excO C t0)) (hnx : K.lookup x = none) (hroom : A.depth < recursionLimit)
    (hq : ∀ h' tk dx, InitEnd s.heap h' x C dx f v → R (.ok (.ret .none)) { s with heap := h', toks := tk }) :
    codeAny (model prog w) A (.call (.ref fI) ⟨[.ref x, v], []⟩) R s := by
  obtain ⟨oc, od, nm, qual, kV, doc, pm, an, cda, cc, ct, osl, ccl, cdd, vs, ccs, file, tf, cl, cld, csl, hf, hcd, hcode, hvs, hfile, hcell⟩ := T.fn
  obtain ⟨cnm, cq, N, bs, bm, sn, sub, ab, col, dd, k0, k1, k2, k3, k5, hC, hbm⟩ := T.cls
  have hcl : clsIn K C = some { name := cnm, bases := bs, mro := .ref C :: bm, ns := N, qualname := cq, hasDict := true, slotNames := sn, subclasses := sub, abstract := ab, collection := col, hasDel := false } := by unfold clsIn; rw [hC] <;> rfl
  refine ks_codeAny_call_defAt (fd := ksFn nm qual params [supS msg a1 a2 a3 a4 a5 a6, fldS f b1 b2 b3 b4] scope .none kV doc pm an (.ref cda) ct cc) (body := [supS msg a1 a2 a3 a4 a5 a6, fldS f b1 b2 b3 b4]) (binds := [("self", .ref x), (f, v)]) hroom (X _ _ hf) rfl hlim (codeRec_of X hcd) rfl (BindsTo.of_eq (hbind _ _ _ _ _ _ _ _ _ _ _)) T.hcell ?_ (fun h1 hns hk1 => ?_) T.hco T.hgen T.hk
  · intro y hy
    rcases List.mem_cons.mp hy with rfl | hy
    · exact T.hka
    rcases List.mem_cons.mp hy with rfl | hy
    · exact hkf
    · cases hy
  · have hx1 := hk1 _ _ hx
    have X1 : K.In h1 := X.keeps hk1
    obtain ⟨mb, hb1, hb2⟩ := hB
    have lkf : ([(("self" : Str), Value.ref x), (f, v)] : List (Str × Value)).reverse.lookup f = some v := by simp [List.lookup]
    have lks : ([(("self" : Str), Value.ref x), (f, v)] : List (Str × Value)).reverse.lookup ("self" : Str) = some (.ref x) := by
      show (match (("self" : Str) == f) with | true => some v | false => List.lookup ("self" : Str) [(("self" : Str), Value.ref x)]) = _
      rw [hne]
      simp [List.lookup]
    refine ks_wpAt_execs_cons (sup_stmt (s := { s with heap := h1, toks := s.toks + 2 }) T hf hcode hvs hfile hcell X1 (hG.keeps hk1) ⟨mb, hb1.keeps hk1, hb2⟩ hline hns lks hx1 hnx (fun h2 tk2 t1 k2 hx2 => ?_))
    have X2 : K.In h2 := fun a o e => k2 a o (fun z => by rw [z, hnx] at e; cases e) (X1 a o e)
    have hxL : s.heap.objs.size ≠ x := Nat.ne_of_gt (Heap.lt_size hx)
    obtain ⟨oL, esL, epL, hoL, rL⟩ := id hns
    have hns2 : h2.Ns s.heap.objs.size (fun y => ([(("self" : Str), Value.ref x), (f, v)] : List (Str × Value)).reverse.lookup y) := ⟨oL, esL, epL, k2 _ _ hxL hoL, rL⟩
    refine wpAt_of_wpAny ?_
    refine wpAny_execs_cons (plainObj_wpAny_Assign_Attribute ?_)
    refine wpAny_Name (wpAny_loadName_local T.hk hkf hns2 lkf ?_) hdf
    refine wpAny_Name (wpAny_loadName_local T.hk T.hka hns2 lks ?_) (by decide)
    refine set_plain X2 (ox := excO C t1) (od := none) ⟨hx2, rfl, rfl, trivial⟩ T.sa ?_
    refine exc_osa X2 hx2 hcl (show refsVE (.ref C :: bm) = true from hbm) rfl noN (fun h3 tk3 dx k3 dn dne hx3 hn3 => ?_)
    have z : s.heap.objs.size < h2.objs.size := hns2.lt
    exact wpAny_execs_nil (hq h3 tk3 dx ⟨fun b o hb e => k3 b o hb (k2 b o hb (hk1 b o e)), ⟨t1, hx3⟩, Nat.le_of_lt (Nat.lt_of_lt_of_le z dn), dne, hn3⟩)
/-- a made error with a field; without -/
structure OwnMade (h h' : Heap) (e C d : Addr) (f : Str) (v : Value) : Prop where
  keep : ∀ b o, h.get? b = some o → h'.get? b = some o
  new : h.objs.size ≤ e
  obj : ∃ oe vs, h'.get? e = some oe ∧ oe.cls = .ref C ∧ oe.dict = some d ∧ oe.data = .fields vs ∧ vs[1]? = some .none ∧ vs[2]? = some .none
  dbig : h.objs.size ≤ d
  dne : d ≠ e
  ns : h'.Ns1 d (fun y => if y = f then some v else none)
structure OwnMade0 (h h' : Heap) (e C : Addr) : Prop where
  keep : ∀ b o, h.get? b = some o → h'.get? b = some o
  new : h.objs.size ≤ e
  obj : ∃ oe vs, h'.get? e = some oe ∧ oe.cls = .ref C ∧ oe.dict = none ∧ oe.data = .fields vs ∧ vs[1]? = some .none ∧ vs[2]? = some .none
theorem made1 {f msg : Str} {a1 a2 a3 a4 a5 a6 b1 b2 b3 b4 : Pos} (T : ErrC prog K C fI [supS msg a1 a2 a3 a4 a5 a6, fldS f b1 b2 b3 b4] scope params) (hline : (a3.endLine == a5.line) = true)
    (hbind : ∀ (nm qual : Str) (kV doc pm : Value) (an : Option Addr) (cdv ct : Value) (cc : Addr) (x y : Value), bindArgs (ksFn nm qual params [supS msg a1 a2 a3 a4 a5 a6, fldS f b1 b2 b3 b4] scope .none kV doc pm an cdv ct cc) ⟨[x, y], []⟩ = pure [((("self" : Str)), x), (f, y)])
    (hkf : scope.names.lookup f = some .local) (hne : (("self" : Str) == f) = false) (hdf : (f == ("__debug__" : Str)) = false) (noN : findIn K (.ref C) f = some none)
    {v : Value} (X : K.In s.heap) (hlim : s.heap.NoLimit) (hG : s.heap.Ns mainGlobals mg) (hB : ∃ mb, s.heap.Ns builtinsNs mb ∧ ∀ x : Str, x ≠ "__name__" → mb x = bootBuiltins x) (hroom : A.depth + 1 < recursionLimit)
    (hq : ∀ h' tk e d, OwnMade s.heap h' e C d f v → R (.ok (.ret (.ref e))) { s with heap := h', toks := tk }) :
    codeAny (model prog w) A (.call (.ref C) ⟨[v], []⟩) R s := by
  obtain ⟨nm, q, N, bs, bm, sn, sub, ab, col, dd, k0, k1, k2, k3, k5, hC, hbm⟩ := T.cls
  obtain ⟨mb, hb1, hb2⟩ := hB
  obtain ⟨hp, g, dr, tk, os⟩ := s
  have k : ∀ b o, hp.get? b = some o → ((hp.push (kdv_tup [v])).push (excO C hp.objs.size)).get? b = some o := fun b o e => Heap.get?_push_of_some _ (Heap.get?_push_of_some _ e)
  have hget : ((hp.push (kdv_tup [v])).push (excO C hp.objs.size)).get? (hp.objs.size + 1) = some (excO C hp.objs.size) := by heap_get
  have hnx : K.lookup (hp.objs.size + 1) = none := by
    cases e : K.lookup (hp.objs.size + 1) with
    | none => rfl
    | some o =>
      have z : hp.get? (hp.objs.size + 1) = some o := X _ _ e
      exact absurd (Nat.lt_of_succ_lt (Heap.lt_size z)) (Nat.lt_irrefl _)
  refine call_own F.excBase_ValueError (fun X => refsVE_contains X bm hbm) (X _ _ hC) (looks_findIn X T.iC) (fun self => bind_fn X self T.tC) (one_size v) ?_
  refine init1 (s := ⟨(hp.push (kdv_tup [v])).push (excO C hp.objs.size), g, dr, tk, os⟩) T hline hbind hkf hne hdf noN (X.keeps k) (hlim.keeps k) (hG.keeps k) ⟨mb, hb1.keeps k, hb2⟩ hget hnx ?_ fun h' tk' dx ⟨k', ⟨t1, hx⟩, dn, dne, hns⟩ => ?_
  · show A.depth + 1 < recursionLimit
    exact hroom
  · have old : ∀ b o, hp.get? b = some o → h'.get? b = some o := fun b o e => k' b o (Nat.ne_of_lt (Nat.lt_succ_of_lt (Heap.lt_size e))) (k b o e)
    have z : hp.objs.size + 1 + 1 ≤ dx := by
      first
        | (simpa only [Heap.size_push] using dn)
        | exact dn
        | (have q := dn; rw [Heap.size_push, Heap.size_push] at q; exact q)
    exact ⟨rfl, hq h' tk' (hp.objs.size + 1) dx ⟨old, Nat.le_succ _, ⟨_, _, hx, rfl, rfl, rfl, rfl, rfl⟩, Nat.le_trans (Nat.le_trans (Nat.le_succ _) (Nat.le_succ _)) z, dne, hns⟩⟩
end
end ErrX
end PySem
namespace L2
open PySem PySem.Spec PyProof.Rows PySem.W
/-- an error class with one field, as the rules use it -/
structure Err1 (prog : Program) (w : World) (K : Frag) (mg : Str → Option Value) (nm f : Str) (C : Addr) : Prop where
  gC : mg nm = some (.ref C)
  kC : keepIn K (.ref C) = true
  exC : subIn K (.ref C) (.type "BaseException") = some true
  tyC : typeIn K (.ref C) = some (.type "type")
  hdC : hasDictIn K C = true
  ga : findIn K (.ref C) "__getattribute__" = some (some (.builtin "BaseException.__getattribute__"))
  gg : findIn K (.ref C) "__getattr__" = some none
  noN : findIn K (.ref C) f = some none
  made : ∀ {A : Around} {R : Result → Shared → Prop} {s : Shared} {v : Value}, K.In s.heap → s.heap.NoLimit → s.heap.Ns mainGlobals mg → (∃ mb, s.heap.Ns builtinsNs mb ∧ ∀ x : Str, x ≠ "__name__" → mb x = bootBuiltins x) → A.depth + 1 < recursionLimit →
    (∀ h' tk e d, PySem.ErrX.OwnMade s.heap h' e C d f v → R (.ok (.ret (.ref e))) { s with heap := h', toks := tk }) → codeAny (model prog w) A (.call (.ref C) ⟨[v], []⟩) R s
structure Err0 (prog : Program) (w : World) (K : Frag) (mg : Str → Option Value) (nm : Str) (C : Addr) : Prop where
  gC : mg nm = some (.ref C)
  kC : keepIn K (.ref C) = true
  exC : subIn K (.ref C) (.type "BaseException") = some true
  tyC : typeIn K (.ref C) = some (.type "type")
  made : ∀ {A : Around} {R : Result → Shared → Prop} {s : Shared}, K.In s.heap → s.heap.NoLimit → s.heap.Ns mainGlobals mg → (∃ mb, s.heap.Ns builtinsNs mb ∧ ∀ x : Str, x ≠ "__name__" → mb x = bootBuiltins x) → A.depth + 1 < recursionLimit →
    (∀ h' tk e, PySem.ErrX.OwnMade0 s.heap h' e C → R (.ok (.ret (.ref e))) { s with heap := h', toks := tk }) → codeAny (model prog w) A (.call (.ref C) ⟨[], []⟩) R s
theorem relO_one {v : V} {v' : Value} {n : Str} (r : RelV v v') (f : Str) : RelO (List.lookup f [(n, v)]) (if f = n then some v' else none) := by
  by_cases hw : f = n
  · subst hw
    rw [if_pos rfl]
    have q : List.lookup f [(f, v)] = some v := by simp [List.lookup]
    rw [q]
    exact r
  · rw [if_neg hw]
    have qw : (f == n) = false := by simpa using hw
    have q2 : List.lookup f [(n, v)] = none := by simp [List.lookup, qw]
    rw [q2]
    trivial
section
variable {X : Cx} {C : Addr} {nm f : Str}
theorem Inv.blt {pins : List (Addr × Obj)} {σ : St} {H : Hp} {s : Shared} (I : Inv X pins σ H s) : ∃ mb, s.heap.Ns builtinsNs mb ∧ ∀ x : Str, x ≠ "__name__" → mb x = bootBuiltins x := by
  obtain ⟨mb, h1, h2⟩ := I.mod.blt
  exact ⟨mb, h1.keeps I.bk, h2⟩
/-- nm(e) -/
def tMkE (C : Addr) (f : Str) (ta : TA) : St → Hp → XK → Prop := fun σ H Q => ta σ H fun vs H1 => ∃ v, vs = [v] ∧ ∀ d, H1 d = none → Q (.ref C) (some d) (upd H1 d (.xd [(f, v)]))
theorem pmk_err {a : Expr} {ta : TA} {p pos : Pos} {k : Nat} (T : Err1 X.prog X.w X.K X.mg nm f C) (hr : Room k X.A) (ha : PA X [a] ta) (hg : Gl X nm := by rfl) (hdb : (nm == ("__debug__" : Str)) = false := by decide)
    (he : starEach (a :: []) X.env = (false, eval a X.env) :: starEach [] X.env := by rfl) (hpl : (backTo pos (starEach [] X.env)).any (·.1) = false := by rfl) :
    L2N.PMk X (.Call (.Name nm p) [a] [] pos) (tMkE C f ta) := by
  intro pins s σ H Q I h
  refine wpAny_Call_Name_kw (ld_glob I hg T.gC ?_ hdb)
  refine PySem.W.callWith_K (h₀ := X.base) I.ok.mod.kin T.kC (thn (ha.run pos pins s σ H _ I h) fun us s1 hh => ?_) he hpl
  obtain ⟨vs, H1, I1, r1, v, ev, q1⟩ := hh
  subst ev
  refine ⟨I1.kIn, ?_⟩
  cases r1 with
  | cons rv rn =>
    rename_i v' us'
    cases rn
    show wpAny _ _ (call (.ref C) [v']) _ _ _
    have hlim := I1.nolimit
    have hG := I1.mod.glob.keeps I1.bk
    have hB := I1.blt
    obtain ⟨hp, g, dr, tk, os⟩ := s1
    refine wpAny_call (T.made I1.kIn hlim hG hB (by have := hr.dp; omega) fun h' tk' e d M => ?_)
    show L2N.MkP X pins σ Q (.ref e) ⟨h', g, dr, tk', os⟩
    obtain ⟨oe, fv, hoe, hc, hd, hdat, h1, h2⟩ := M.obj
    have hns := M.ns
    obtain ⟨G', g1, g2⟩ := restrict h' fun b => decide (b ≠ e)
    have gk : ∀ b, b ≠ e → G'.get? b = h'.get? b := fun b hb => g1 b (decide_eq_true hb)
    have ge : G'.get? e = none := g2 e (by simp)
    have old : ∀ b o, hp.get? b = some o → G'.get? b = some o := fun b o q => (gk b (Nat.ne_of_lt (Nat.lt_of_lt_of_le (Heap.lt_size q) M.new))).trans (M.keep b o q)
    have ob : ObjOk X.prog X.w (upd H1 d (.xd [(f, v)])) G' d (.xd [(f, v)]) :=
      ⟨_, hns.at (fun o q => (gk d M.dne).trans q), fun g => relO_one rv g⟩
    have J : Inv X pins σ (upd H1 d (.xd [(f, v)])) ⟨G', g, dr, tk', os⟩ := I1.laid (t' := tk') old M.dbig ob
    refine ⟨e, oe, fv, ⟨G', g, dr, tk', os⟩, _, .ref C, some d, rfl, J, fun b o q => ?_, ge, hoe, ⟨hc, hd, fun vs e => by rw [hdat] at e; cases e; exact h2⟩, hdat, h1, ?_, rfl, I1.bare, raises_own T.exC T.tyC, q1 d (I1.hok.fresh M.dbig)⟩
    · by_cases hb : b = e
      · have q' : G'.get? b = some o := q
        rw [hb, ge] at q'; cases q'
      · exact (gk b hb).symm.trans q
    · rw [upd_ne (Ne.symm M.dne)]
      exact I1.hok.fresh M.new
/-- e.f, e the exception that the suite holds (at a; its class cls, its dict d) -/
def tErrF (C : Addr) (f : Str) (a : Addr) (cls : Value) (d : Option Addr) (te : TE) : TE := fun σ H Q => te σ H fun x H1 => x = .ref a ∧ cls = .ref C ∧ ∃ (dd : Addr) (v : V), d = some dd ∧ H1 dd = some (.xd [(f, v)]) ∧ Q v H1
theorem pe_errF {a : Addr} {oe : Obj} {cls : Value} {d : Option Addr} {pn : List (Addr × Obj)} {e : Expr} {te : TE} {pos : Pos} (T : Err1 X.prog X.w X.K X.mg nm f C) (hz : Zc cls d oe) (hf : ∃ vs, oe.data = .fields vs) (he : PE (X.suite a ((a, oe) :: pn)) e te)
    (hb : attributeBase e f X.env (eval e X.env) = eval e X.env := by rfl) :
    PE (X.suite a ((a, oe) :: pn)) (.Attribute e f pos) (tErrF C f a cls d te) := by
  refine ⟨fun pins s σ H Q I h => ?_⟩
  refine attr_of hb (thn (he.run pins s σ H _ I h) fun u s1 hh => ?_)
  obtain ⟨x, H1, I1, rx, ex, ec, dd, v, ed, ea, q⟩ := hh
  subst ex
  obtain rfl : u = Value.ref a := rx
  subst ec
  subst ed
  obtain ⟨ha, _⟩ := I1.pin (a, oe) (List.mem_append_left _ List.mem_cons_self)
  obtain ⟨vs, hd⟩ := hf
  have hx : ObjOk X.prog X.w H1 s1.heap dd (.xd [(f, v)]) := I1.hok dd _ ea
  obtain ⟨mA, hns, hr⟩ := hx
  obtain ⟨od, ho, hl⟩ := lookIn_ns hns
  have l : List.lookup f [(f, v)] = some v := by simp [List.lookup]
  obtain ⟨u, hu, ru⟩ := RelO.some_of (v := v) (o := mA f) (by rw [← l]; exact hr f)
  have J : PySem.W.InstAt s1.heap a oe C (some od) := ⟨ha, hz.1, by unfold PySem.W.notCls; rw [hd] <;> rfl, by rw [hz.2]; exact ho⟩
  exact HandSPX.exc_get I1.kIn J T.ga T.gg T.exC (PySem.W.findObj_own T.hdC T.noN rfl (by rw [hl, hu])) (handed_of ru) ⟨v, H1, I1.tok _, ru, q⟩
end
end L2
namespace L2
open PySem PySem.Spec PyProof.Rows
/-- isinstance(e, c), e the exception that the suite holds -/
def rIsEE (K : PySem.W.Frag) (a : Addr) (cls : Value) (d : Option Addr) : List V → Hp → VK → Prop := fun xs H Q => ∃ (D : Addr) (c : V) (cv : Value) (b : Bool), cls = .ref D ∧ ExcC K D ∧ (d = none ∨ ∃ dd fs, d = some dd ∧ H dd = some (.xd fs)) ∧ xs = [.ref a, c] ∧ (∀ u, RelV c u → u = cv) ∧ PySem.W.kitOne K (.ref D) cv = some b ∧ Q (.bl b) H
theorem call_isEE {X : Cx} {a : Addr} {cls : Value} {d : Option Addr} {oe : Obj} {pn : List (Addr × Obj)} (hz : Zc cls d oe) (hf : ∃ vs, oe.data = .fields vs) : CallR (X.suite a ((a, oe) :: pn)) (.builtin "isinstance") (rIsEE X.K a cls d) := by
  intro pins s σ H xs us Q I r h
  obtain ⟨D, c, cv, b, rfl, C, hd, rfl, hcv, e, q⟩ := h
  cases r with
  | cons rx rr =>
    cases rr with
    | cons rt rr =>
      cases rr
      cases rx
      have ec := hcv _ rt
      subst ec
      obtain ⟨hget, _⟩ := I.pin (a, oe) (List.mem_append.mpr (.inl List.mem_cons_self))
      obtain ⟨vs, hv⟩ := hf
      have hcl : (PySem.W.clsIn X.K D).isSome = true := by
        obtain ⟨cd, hc, _⟩ := PySem.W.any_some C.hd
        rw [hc]; rfl
      have J : ∃ od, PySem.W.InstAt s.heap a oe D od := by
        obtain ⟨oc, od, oda, osl⟩ := oe
        obtain ⟨h1, h2⟩ := hz
        dsimp only at h1 h2 hv
        subst h1 h2 hv
        rcases hd with rfl | ⟨dd, fs, rfl, hx⟩
        · exact ⟨none, hget, rfl, rfl, trivial⟩
        · have hx2 : ObjOk X.prog X.w H s.heap dd (.xd fs) := I.hok dd _ hx
          obtain ⟨mA, hns, hr⟩ := hx2
          obtain ⟨od, ho, hl⟩ := lookIn_ns hns
          exact ⟨some od, hget, rfl, rfl, ho⟩
      obtain ⟨od, J⟩ := J
      exact PySem.W.kia_one (PySem.W.kitx_exc hcl C.hg C.hk C.hs C.ha C.hn C.ht C.hm) I.kIn J e (fun z => nomatch z) fun tk => ⟨.bl b, H, I.kept (t' := tk) fun _ _ z => z, rfl, q⟩
/-- raise nm(e), raise nm() -/
def tRaiseE (C : Addr) (f : Str) (W : WX) (ta : TA) : TS := fun _ σ H => tMkE C f ta σ H fun cls d H' => W cls d σ H'
section
variable {X : Cx} {C : Addr} {nm f : Str}
theorem ps_raiseE {a : Expr} {ta : TA} {W : WX} {p pos pos2 : Pos} {k : Nat} (hc : X.calm = true) (T : Err1 X.prog X.w X.K X.mg nm f C) (hr : Room k X.A) (tk : L2N.Takes X W) (ha : PA X [a] ta) (hg : Gl X nm := by rfl) (hdb : (nm == ("__debug__" : Str)) = false := by decide)
    (he : starEach (a :: []) X.env = (false, eval a X.env) :: starEach [] X.env := by rfl) (hpl : (backTo pos (starEach [] X.env)).any (·.1) = false := by rfl) :
    PS X (.Raise (some (.Call (.Name nm p) [a] [] pos)) none pos2) (tRaiseE C f W ta) := L2N.ps_raise hc tk (pmk_err T hr ha hg hdb he hpl)
theorem passN {X : Cx} : Passes (L2N.CX X.prog X.w) X E0 := fun _ _ _ _ _ _ _ h => by
  obtain ⟨_, _, _, _, _, _, _, _, _, _, _, _, z⟩ := h
  exact z.elim
theorem takesN {X : Cx} : L2N.Takes X (fun _ _ _ _ => False) := fun _ _ x => by
  obtain ⟨_, _, _, _, _, _, _, _, _, _, _, _, _, _, _, _, z⟩ := x
  exact z.elim
/-- the suite is hot -/
theorem hotc {X : Cx} {a : Addr} {oe : Obj} {cls : Value} {d : Option Addr} {pn : List (Addr × Obj)} (hz : L2N.Zn cls d oe) (hf : ∃ vs, oe.data = .fields vs) : L2H.HotC (X.suite a ((a, oe) :: pn)) := by
  obtain ⟨vs, h⟩ := hf
  exact ⟨(a, oe), ⟨rfl, vs, h, hz.2.2 vs h⟩, List.mem_cons_self⟩
end
/-- as FunD.ok, within an except suite -/
theorem FunD.okH {P : Program} {w : World} {K : PySem.W.Frag} {mg : Str → Option Value} {base : Heap} {x qual : Str} {params : Arguments} {body : List Stmt} {scope : Scope} {dvs : List V} {kws : List (Str × V)} {f : Addr} {fd : FuncData} {CX : CXT} {N ps : List Str} {k : Nat} {sp : Sp} (F : FunD K x qual params body scope dvs kws f fd) (S : FnScope N ps scope) (len : ∀ vs H Q E, sp vs H Q E → vs.length = ps.length)
    (hbody : ∀ (cdv : Value) (A : Around) (outer : List Env) (s : Shared) (H : Hp) (vs : List V) (Q : VK) (E : XK) (p : Addr × Obj), L2H.Hot1 A p → L2H.RoomH k (A.deeper (envOfC qual scope s.heap.objs.size f cdv)) → sp vs H Q E →
      ∃ t, PSs (L2H.cxH CX P w K mg base N qual scope f cdv A outer s H E p) body t ∧ t { nx := fun _ H' => Q .non H', rt := Q } (start N vs) H) : L2H.FnH P w K mg base CX (k + 1) f fd ps sp := by
  obtain ⟨oc, od, dV, kV, doc, pm, an, cdv, ct, osl, rfl, lk, hcd, _, _⟩ := F.ex
  exact L2H.fn_ofH lk hcd S len fun A outer s H vs Q E p hot hr hsp => hbody cdv A outer s H vs Q E p hot hr hsp
end L2
theorem L2H.RoomH.units {k : Nat} {A : PySem.Around} (r : L2H.RoomH k A) : A.units + 64 < PySem.cLine := by have := r.un; omega
/-! the head's facts: defs, error classes, Bools -/
namespace Hk
open PySem PySem.W PySem.Spec PyProof.Rows L2 He
abbrev FnZ : Type := Option (PySem.Str × PySem.Str × Arguments × FuncBody × Scope)
def fnZ (K : Frag) (a : Addr) : FnZ := match K.lookup a with
  | some ⟨_, _, .func fd, _⟩ => some (fd.name, fd.qualname, fd.params, fd.body, fd.scope)
  | _ => none
structure It where
  at_ : Frag → Addr
  val : FnZ
  ok : Frag → Bool
structure DefX where
  at_ : Frag → Addr
  name : PySem.Str
  qual : PySem.Str
  params : Arguments
  body : List Stmt
  scope : Scope
  dfl : List Dv := []
  kwd : List (PySem.Str × Dv) := []
def DefX.val (d : DefX) : FnZ := some (d.name, d.qual, d.params, .stmts d.body, d.scope)
def DefX.dvs (K : Frag) (d : DefX) : List V := d.dfl.map (Dv.v K)
def DefX.kws (K : Frag) (d : DefX) : List (PySem.Str × V) := d.kwd.map fun q => (q.1, q.2.v K)
def defOk (K : Frag) (a : Addr) (qual : PySem.Str) (dvs : List V) (kws : List (PySem.Str × V)) : Bool := keepIn K (.ref a) && (match K.lookup a with
  | some ⟨_, _, .func fd, _⟩ => codeIn K fd.code qual && (decide (fd.globals = mainGlobals) && (decide (fd.builtins = builtinsNs) && (fd.closure.isEmpty && (dflB K fd.defaults dvs && kwdB K fd.kwdefaults kws))))
  | _ => false)
def DefX.it (d : DefX) : It := ⟨d.at_, d.val, fun K => defOk K (d.at_ K) d.qual (d.dvs K) (d.kws K)⟩
theorem DefX.funD {K : Frag} {d : DefX} (e : fnZ K (d.at_ K) = d.val) (c : d.it.ok K = true) : ∃ fd, FunD K d.name d.qual d.params d.body d.scope (d.dvs K) (d.kws K) (d.at_ K) fd := by
  obtain ⟨kp, c2⟩ := ba c
  unfold fnZ at e
  cases q : K.lookup (d.at_ K) with
  | none =>
    rw [q] at c2
    cases c2
  | some o =>
    obtain ⟨oc, od, dt, osl⟩ := o
    rw [q] at c2 e
    cases dt with
    | func fd =>
      obtain ⟨n1, n2, n3, n4, n5, n6, n7, n8, n9, n10, n11, n12, n13, n14, n15⟩ := fd
      have e2 : (some (n1, n2, n3, n4, n5) : FnZ) = some (d.name, d.qual, d.params, .stmts d.body, d.scope) := e
      simp only [Option.some.injEq, Prod.mk.injEq] at e2
      obtain ⟨h1, h2, h3, h4, h5⟩ := e2
      have c3 : (codeIn K n13 d.qual && (decide (n6 = mainGlobals) && (decide (n15 = builtinsNs) && (n7.isEmpty && (dflB K n8 (d.dvs K) && kwdB K n9 (d.kws K)))))) = true := c2
      obtain ⟨k1, k2⟩ := ba c3
      obtain ⟨k3, k4⟩ := ba k2
      obtain ⟨k5, k6⟩ := ba k4
      obtain ⟨k7, k8⟩ := ba k6
      obtain ⟨k9, k10⟩ := ba k8
      have h6 := of_decide_eq_true k3
      have h7 := of_decide_eq_true k5
      have h8 : n7 = [] := List.isEmpty_iff.mp k7
      subst h1 h2 h3 h4 h5 h6 h7 h8
      exact ⟨_, ⟨oc, od, n8, n9, n10, n11, n12, n13, n14, osl, rfl, q, k1, dflB_ok k9, kwdB_ok k10⟩, kp⟩
    | _ => cases c2
/-! ### error classes -/
def clsB (K : Frag) (C : Addr) : Bool := match K.lookup C with
  | some ⟨.type ty, _, .cls cd, sl⟩ => (match cd.mro, sl.toList with
    | .ref C' :: bm, [_, _, _, _, some (.builtin n), _] => decide (ty = "type") && (decide (C' = C) && (decide (n = "ValueError.__new__") && (!cd.hasDel && (cd.hasDict && HandSPX.refsVE bm))))
    | _, _ => false)
  | _ => false
theorem clsB_ok {K : Frag} {C : Addr} (q : clsB K C = true) : ∃ nm q N bs bm sn sub ab col dd k0 k1 k2 k3 k5, K.lookup C = some (excClassObj nm q C N bs bm true sn sub ab col dd k0 k1 k2 k3 k5 "ValueError.__new__") ∧ HandSPX.refsVE bm = true := by
  unfold clsB at q
  split at q
  · rename_i ty dd cd sl ho
    split at q
    · rename_i C' bm k0 k1 k2 k3 n k5 hm hs
      obtain ⟨q1, q⟩ := ba q
      obtain ⟨q2, q⟩ := ba q
      obtain ⟨q3, q⟩ := ba q
      obtain ⟨q4, q⟩ := ba q
      obtain ⟨q5, q6⟩ := ba q
      have e1 := of_decide_eq_true q1
      have e2 := of_decide_eq_true q2
      have e3 := of_decide_eq_true q3
      obtain ⟨nm, bs, mro, ns, qn, hd, sn, sub, ab, col, del⟩ := cd
      dsimp only at hm q4 q5
      have e4 : del = false := by simpa using q4
      have hsl : sl = #[k0, k1, k2, k3, some (.builtin n), k5] := by
        obtain ⟨l⟩ := sl
        simp only at hs
        rw [hs]
      subst e1 e2 e3 hm e4 q5 hsl
      exact ⟨nm, qn, ns, bs, bm, sn, sub, ab, col, dd, k0, k1, k2, k3, k5, ho, q6⟩
    · cases q
  · cases q
def initB (K : Frag) (C fI : Addr) (file : PySem.Str) : Bool := match K.lookup fI with
  | some ⟨_, _, .func fd, _⟩ => (match fd.code, fd.closure with
    | .ref cda, [(x, cc)] => decide (x = "__class__" ∧ fd.defaults = .none) && (codeIn K (.ref cda) fd.qualname && (decide (fd.globals = mainGlobals) && (decide (fd.builtins = builtinsNs) && ((match K.lookup cda with
        | some ⟨_, _, .fields vs, _⟩ => (match (vs[2]? : Option Value) with
          | some (Value.str fl _) => decide (fl = file)
          | _ => false)
        | _ => false) && (match K.lookup cc with
        | some ⟨_, _, .cell (some (.ref D)), _⟩ => decide (D = C)
        | _ => false)))))
    | _, _ => false)
  | _ => false
theorem initB_ok {K : Frag} {C fI : Addr} {file : PySem.Str} {prog : Program} {nm0 qual0 : PySem.Str} {params : Arguments} {body : List Stmt} {scope : Scope} (h : initB K C fI file = true) (e : fnZ K fI = some (nm0, qual0, params, .stmts body, scope)) (hfile : (prog.main.file : PySem.Str) = file) :
  ∃ (oc : Value) (od : Option Addr) (nm qual : PySem.Str) (kV doc pm : Value) (an : Option Addr) (cda cc : Addr) (ct : Value) (osl : Array (Option Value)) (ccl : Value) (cdd : Option Addr) (vs : Array Value) (ccs : Array (Option Value)) (file : PySem.Str) (tf : Tok) (cl : Value) (cld : Option Addr) (csl : Array (Option Value)),
    K.lookup fI = some ⟨oc, od, .func (ksFn nm qual params body scope .none kV doc pm an (.ref cda) ct cc), osl⟩ ∧ codeIn K (.ref cda) qual = true ∧
    K.lookup cda = some ⟨ccl, cdd, .fields vs, ccs⟩ ∧ vs[2]? = some (.str file tf) ∧ ((prog.main.file : PySem.Str) == file) = true ∧ K.lookup cc = some ⟨cl, cld, .cell (some (.ref C)), csl⟩ := by
  unfold initB at h
  unfold fnZ at e
  cases q : K.lookup fI with
  | none =>
    rw [q] at h
    cases h
  | some o =>
    obtain ⟨oc, od, dt, osl⟩ := o
    rw [q] at h e
    cases dt with
    | func fd =>
      obtain ⟨n1, n2, n3, n4, n5, n6, n7, n8, n9, n10, n11, n12, n13, n14, n15⟩ := fd
      have e2 : (some (n1, n2, n3, n4, n5) : FnZ) = some (nm0, qual0, params, .stmts body, scope) := e
      simp only [Option.some.injEq, Prod.mk.injEq] at e2
      obtain ⟨h1, h2, h3, h4, h5⟩ := e2
      dsimp only at h
      split at h
      · rename_i cda x cc
        obtain ⟨g1, h⟩ := ba h
        obtain ⟨g2, h⟩ := ba h
        obtain ⟨g3, h⟩ := ba h
        obtain ⟨g4, h⟩ := ba h
        obtain ⟨g5, g6⟩ := ba h
        obtain ⟨f1, f0⟩ := of_decide_eq_true g1
        have f3 := of_decide_eq_true g3
        have f4 := of_decide_eq_true g4
        split at g5
        · rename_i ccl cdd vs ccs hcode
          split at g5
          · rename_i fl tf hvs
            have f5 := of_decide_eq_true g5
            split at g6
            · rename_i cl cld D csl hcell
              have f6 := of_decide_eq_true g6
              subst h1 h2 h3 h4 h5 f1 f0 f3 f4 f5 f6
              exact ⟨oc, od, _, _, n9, n10, n11, n12, cda, cc, n14, osl, ccl, cdd, vs, ccs, _, tf, cl, cld, csl, rfl, g2, hcode, hvs, by rw [hfile]; exact beq_self_eq_true _, hcell⟩
            · cases g6
          · cases g5
        · cases g5
      · cases h
    | _ => cases h
def errB (K : Frag) (nm : PySem.Str) (fs : List PySem.Str) (file : PySem.Str) : Bool :=
  eqO (nsIn K mainGlobals nm) (some (some (.ref (ga K nm)))) && (clsB K (ga K nm) && (eqO (findIn K (.ref (ga K nm)) "__setattr__") (some (some (.builtin "object.__setattr__"))) &&
  (eqO (findIn K (.ref (ga K nm)) "__getattribute__") (some (some (.builtin "BaseException.__getattribute__"))) && (eqO (findIn K (.ref (ga K nm)) "__getattr__") (some none) &&
  (eqO (findIn K (.ref (ga K nm)) "__init__") (some (some (.ref (ma K (ga K nm) "__init__")))) && (decide (typeIn K (.ref (ma K (ga K nm) "__init__")) = some (.type "function")) && (keepIn K (.ref (ga K nm)) &&
  (decide (subIn K (.ref (ga K nm)) (.type "BaseException") = some true) && (decide (subIn K (.ref (ga K nm)) (.type "ValueError") = some true) && (decide (typeIn K (.ref (ga K nm)) = some (.type "type")) && (hasDictIn K (ga K nm) &&
  (decide (mroIn K (ga K nm) (.ref (ga K nm)) = some true) && (eqO (ks_superIn K (ga K nm) (ga K nm) "__init__") (some (some (.builtin "ValueError.__init__"))) && (eqO (nsIn K cStatics "thirdparty.any") (some none) &&
  (eqO (nsIn K mainGlobals "super") (some none) && (initB K (ga K nm) (ma K (ga K nm) "__init__") file && fs.all fun f => eqO (findIn K (.ref (ga K nm)) f) (some none)))))))))))))))))
structure ErrD where
  name : PySem.Str
  fs : List PySem.Str
  qual : PySem.Str
  params : Arguments
  body : List Stmt
  scope : Scope
def ErrD.it (file : PySem.Str) (d : ErrD) : It := ⟨fun K => ma K (ga K d.name) "__init__", some ("__init__", d.qual, d.params, .stmts d.body, d.scope), fun K => errB K d.name d.fs file⟩
/-- the scope's facts, by decide -/
structure ScopeE (prog : Program) (scope : Scope) (params : Arguments) : Prop where
  ar : ∃ pp, (params.posonlyargs ++ params.args).head? = some ⟨"self", none, pp⟩
  hks : scope.names.lookup ("super" : PySem.Str) = some .globalImplicit
  hkc : scope.names.lookup ("__class__" : PySem.Str) = some .free
  hka : scope.names.lookup ("self" : PySem.Str) = some .local
  hk : scope.kind = .function
  hco : scope.isCoroutine = false
  hgen : scope.isGenerator = false
  hcell : ∀ x ∈ scope.names, x.2 ≠ .cell
  htop : (prog.main.scope.names.lookup ("super" : PySem.Str)).isSome = false
theorem errC_of {prog : Program} {K : Frag} {nm qual0 nm0 file : PySem.Str} {fs : List PySem.Str} {params : Arguments} {body : List Stmt} {scope : Scope} (c : errB K nm fs file = true) (e : fnZ K (ma K (ga K nm) "__init__") = some (nm0, qual0, params, .stmts body, scope))
    (hfile : (prog.main.file : PySem.Str) = file) (S : ScopeE prog scope params) : PySem.ErrX.ErrC prog K (ga K nm) (ma K (ga K nm) "__init__") body scope params ∧ nsIn K mainGlobals nm = some (some (.ref (ga K nm))) ∧ ∀ f ∈ fs, findIn K (.ref (ga K nm)) f = some none := by
  unfold errB at c
  obtain ⟨c0, c⟩ := ba c
  obtain ⟨c1, c⟩ := ba c
  obtain ⟨c2, c⟩ := ba c
  obtain ⟨c3, c⟩ := ba c
  obtain ⟨c4, c⟩ := ba c
  obtain ⟨c5, c⟩ := ba c
  obtain ⟨c6, c⟩ := ba c
  obtain ⟨c7, c⟩ := ba c
  obtain ⟨c8, c⟩ := ba c
  obtain ⟨c9, c⟩ := ba c
  obtain ⟨c10, c⟩ := ba c
  obtain ⟨c11, c⟩ := ba c
  obtain ⟨c12, c⟩ := ba c
  obtain ⟨c13, c⟩ := ba c
  obtain ⟨c14, c⟩ := ba c
  obtain ⟨c15, c⟩ := ba c
  obtain ⟨c16, c17⟩ := ba c
  exact ⟨{ cls := clsB_ok c1, sa := eqO_ok c2, ga := eqO_ok c3, gg := eqO_ok c4, iC := eqO_ok c5, tC := of_decide_eq_true c6, kC := c7, exC := of_decide_eq_true c8, veC := of_decide_eq_true c9, tyC := of_decide_eq_true c10, hdC := c11, mroC := of_decide_eq_true c12,
           supC := eqO_ok c13, opq := eqO_ok c14, supG := eqO_ok c15, fn := initB_ok c16 e hfile, ar := S.ar, hks := S.hks, hkc := S.hkc, hka := S.hka, hk := S.hk, hco := S.hco, hgen := S.hgen, hcell := S.hcell, htop := S.htop }, eqO_ok c0, fun f hf => eqO_ok (List.all_eq_true.mp c17 f hf)⟩
section
variable {prog : Program} {w : World} {K : Frag} {h : Heap} {mg : PySem.Str → Option Value} {nm qual0 nm0 file f msg : PySem.Str} {params : Arguments} {scope : Scope} {a1 a2 a3 a4 a5 a6 b1 b2 b3 b4 : Pos}
theorem err1_of (X : K.In h) (G : h.Ns mainGlobals mg) (c : errB K nm [f] file = true) (e : fnZ K (ma K (ga K nm) "__init__") = some (nm0, qual0, params, .stmts [PySem.ErrX.supS msg a1 a2 a3 a4 a5 a6, PySem.ErrX.fldS f b1 b2 b3 b4], scope))
    (hfile : (prog.main.file : PySem.Str) = file) (S : ScopeE prog scope params) (hline : (a3.endLine == a5.line) = true)
    (hbind : ∀ (nm qual : PySem.Str) (kV doc pm : Value) (an : Option Addr) (cdv ct : Value) (cc : Addr) (x y : Value), bindArgs (ksFn nm qual params [PySem.ErrX.supS msg a1 a2 a3 a4 a5 a6, PySem.ErrX.fldS f b1 b2 b3 b4] scope .none kV doc pm an cdv ct cc) ⟨[x, y], []⟩ = pure [(("self" : PySem.Str), x), (f, y)])
    (hkf : scope.names.lookup f = some .local) (hne : (("self" : PySem.Str) == f) = false) (hdf : (f == ("__debug__" : PySem.Str)) = false) : Err1 prog w K mg nm f (ga K nm) := by
  obtain ⟨T, g, hf⟩ := errC_of c e hfile S
  have noN := hf f (List.mem_singleton.mpr rfl)
  exact { gC := mg_of X G g, kC := T.kC, exC := T.exC, tyC := T.tyC, hdC := T.hdC, ga := T.ga, gg := T.gg, noN := noN, made := fun X hl hG hB hr hq => PySem.ErrX.made1 T hline hbind hkf hne hdf noN X hl hG hB hr hq }
end
/-- ExcC as a Bool -/
def excCB (K : Frag) (D : Addr) : Bool := eqO (findIn K (.ref D) "__getattribute__") (some (some (.builtin "BaseException.__getattribute__"))) && (eqO (findIn K (.ref D) "__getattr__") (some none) && (decide (subIn K (.ref D) (.type "BaseException") = some true) &&
  (hasDictIn K D && (eqO (findIn K (.ref D) "__class__") (some (some (.builtin "object.__class__"))) && (eqO (specialIn K (.builtin "object.__class__") "__get__") (some (some (.builtin "getset_descriptor.__get__"))) &&
  (decide (takesIn K (.builtin "object.__class__") = some true) && decide (mroIn K D (.type "object") = some true)))))))
theorem excCB_ok {K : Frag} {D : Addr} (c : excCB K D = true) : ExcC K D := by
  unfold excCB at c
  obtain ⟨c1, c⟩ := ba c
  obtain ⟨c2, c⟩ := ba c
  obtain ⟨c3, c⟩ := ba c
  obtain ⟨c4, c⟩ := ba c
  obtain ⟨c5, c⟩ := ba c
  obtain ⟨c6, c⟩ := ba c
  obtain ⟨c7, c8⟩ := ba c
  exact ⟨eqO_ok c1, eqO_ok c2, of_decide_eq_true c3, c4, eqO_ok c5, eqO_ok c6, of_decide_eq_true c7, of_decide_eq_true c8⟩
def kitB (K : Frag) (x y : Value) (b : Bool) : Bool := decide (kitOne K x y = some b)
theorem kitB_ok {K : Frag} {x y : Value} {b : Bool} (h : kitB K x y b = true) : kitOne K x y = some b := of_decide_eq_true h
/-- the function's data at a -/
def fdOf (K : Frag) (a : Addr) : FuncData := match K.lookup a with
  | some ⟨_, _, .func fd, _⟩ => fd
  | _ => fnOf "" "" ⟨[], [], none, [], [], none, []⟩ [] ⟨.function, [], false, false, []⟩ .none .none .none .none none .none .none
theorem fdOf_eq {K : Frag} {x qual : PySem.Str} {params : Arguments} {body : List Stmt} {scope : Scope} {dvs : List V} {kws : List (PySem.Str × V)} {f : Addr} {fd : FuncData} (F : FunD K x qual params body scope dvs kws f fd) : FunD K x qual params body scope dvs kws f (fdOf K f) := by
  obtain ⟨oc, od, dV, kV, doc, pm, an, cdv, ct, osl, e, lk, r⟩ := F.ex
  have e2 : fdOf K f = fd := by unfold fdOf; rw [lk]
  rw [e2]
  exact F
/-! ### the Hook -/
abbrev AlZ : Type := Bool × List FnZ
def obsZ (fa : List Fa) (ex : List (Frag → Bool)) (its : List It) (K : Frag) : AlZ := ((fa.all fun f => f.ok K) && ((ex.all fun f => f K) && its.all fun d => d.ok K), its.map fun d => fnZ K (d.at_ K))
def valZ (its : List It) : AlZ := (true, its.map It.val)
def SaysZ (fa : List Fa) (ex : List (Frag → Bool)) (its : List It) (K : Frag) : Prop := obsZ fa ex its K = valZ its
section
variable {fa : List Fa} {ex : List (Frag → Bool)} {its : List It} {K : Frag}
theorem SaysZ.fact (c : SaysZ fa ex its K) (i : Nat) {f : Fa} (h : fa[i]? = some f := by rfl) : f.ok K = true := by
  have c1 := (ba (show ((fa.all fun f => f.ok K) && ((ex.all fun f => f K) && its.all fun d => d.ok K)) = true from congrArg (fun z : AlZ => z.1) c)).1
  exact List.all_eq_true.mp c1 f (List.mem_of_getElem? h)
theorem SaysZ.more (c : SaysZ fa ex its K) (i : Nat) {f : Frag → Bool} (h : ex[i]? = some f := by rfl) : f K = true := by
  have c1 := (ba (ba (show ((fa.all fun f => f.ok K) && ((ex.all fun f => f K) && its.all fun d => d.ok K)) = true from congrArg (fun z : AlZ => z.1) c)).2).1
  exact List.all_eq_true.mp c1 f (List.mem_of_getElem? h)
theorem SaysZ.it (c : SaysZ fa ex its K) (i : Nat) {d : It} (h : its[i]? = some d := by rfl) : fnZ K (d.at_ K) = d.val ∧ d.ok K = true := by
  have c2 := (ba (ba (show ((fa.all fun f => f.ok K) && ((ex.all fun f => f K) && its.all fun d => d.ok K)) = true from congrArg (fun z : AlZ => z.1) c)).2).2
  have e : its.map (fun d => fnZ K (d.at_ K)) = its.map It.val := congrArg (fun z : AlZ => z.2) c
  have e2 : (its.map fun d => fnZ K (d.at_ K))[i]? = (its.map It.val)[i]? := by rw [e]
  rw [List.getElem?_map, List.getElem?_map, h] at e2
  exact ⟨Option.some.inj e2, List.all_eq_true.mp c2 d (List.mem_of_getElem? h)⟩
theorem SaysZ.def_ (c : SaysZ fa ex its K) (i : Nat) {d : DefX} (h : its[i]? = some d.it := by rfl) : ∃ fd, FunD K d.name d.qual d.params d.body d.scope (d.dvs K) (d.kws K) (d.at_ K) fd := by
  obtain ⟨e1, e2⟩ := c.it i h
  exact DefX.funD e1 e2
theorem SaysZ.fn (c : SaysZ fa ex its K) (i : Nat) {d : DefX} (h : its[i]? = some d.it := by rfl) : FunD K d.name d.qual d.params d.body d.scope (d.dvs K) (d.kws K) (d.at_ K) (fdOf K (d.at_ K)) := by
  obtain ⟨fd, F⟩ := c.def_ i h
  exact fdOf_eq F
end
/-- a law: as walk_ofE, with the script's bits -/
theorem walk_ofEB {l : PySem.W.OpenLaw} {n k : Nat} {q : Program} {loose : List PySem.Str} {XP : (PySem.Str → Option Value) → Heap → Prop} {YP : World → Heap → Prop} {d : DefRec} {CX : World → CXT} {x : PySem.Str}
    (hn : l.most = some n) (hn2 : n ≤ sizeLine) (hdf : d.params.defaults = []) (hr : Room k callerA)
    (F : ∀ (w : World) (mg : PySem.Str → Option Value) (fa : Addr) (h : Heap), YP w h → h.Ns mainGlobals mg → mg d.name = some (.ref fa) →
      ∃ (K : PySem.W.Frag) (fd : FuncData) (sp : Sp), K.In h ∧ (∀ (s : Shared) (u : Value), BindsTo s fd ⟨[u], []⟩ [(x, u)]) ∧
        (∀ (H : Hp) (a : Addr) (ns : List Int), ns.length ≤ n → (∀ k ∈ ns, Builtin.Int.intBits k ≤ 1048576) → Only H → SqL K H a (ns.map V.int) → sp [.ref a] H (fun v _ => v = .bl true) fun _ _ _ => False) ∧
        ∀ base : Heap, K.In base → base.Ns mainGlobals mg → FnOk l.prog w K mg base (CX w) k fa fd [x] sp)
    (hCX : ∀ (w : World) (H : Hp) (s : Shared) (e : Value) (s' : Shared), CX w [] H s (fun _ _ _ => False) e s' → False) :
    PySem.W.WalkO q loose XP YP l.row.toRowW d [] (fun f vs => PySem.call f vs) := by
  refine Att.attach_callB hn hdf fun w s₀ s₁ mg mb fa o pm cd doc a vs ns G Y ho hd hcd hmg hobj hints hlen hbits hg => ?_
  obtain ⟨K, fd, sp, KX, hb, hsp, hF⟩ := F w mg fa _ Y G.T.g hmg
  exact law_call KX G.T.g G.T.b G.T.builtins G.T.nolimit hg hobj hints (Nat.le_trans hlen hn2) hr hF hb (fun H hO hS => hsp H a ns hlen hbits hO hS) fun H e s' => hCX w H s₁ e s'
end Hk
/-! operators by the values' own kinds; steps -/
namespace Px
open PySem PySem.Spec PyProof.Rows L2
section
variable {X : Cx}
/-- + -/
def rAddP (K : PySem.W.Frag) : R2 := fun x y H Q => match x, y with
  | .int i, .int j => Q (.int (i + j)) H
  | .str i, .str j => i.length + j.length ≤ sizeLine ∧ Q (.str (i ++ j)) H
  | .ref a, .ref b => rCat (.ref a) (.ref b) H Q ∨ rCatA K (.ref a) (.ref b) H Q
  | _, _ => False
theorem op_addP : OpR X (binaryOp .Add) (rAddP X.K) := by
  intro pins s σ H x y v u Q I rx ry h
  cases x <;> cases y <;> first
    | exact False.elim h
    | exact op_add pins s σ H _ _ v u Q I rx ry ⟨_, _, rfl, rfl, h⟩
    | exact op_add_str pins s σ H _ _ v u Q I rx ry ⟨_, _, rfl, rfl, h.1, h.2⟩
    | (rcases h with h | h
       · exact op_cat pins s σ H _ _ v u Q I rx ry h
       · exact op_catA pins s σ H _ _ v u Q I rx ry h)
/-- ints -/
def rIn2 (C : Int → Int → Prop) (g : Int → Int → V) : R2 := fun x y H Q => match x, y with
  | .int i, .int j => C i j ∧ Q (g i j) H
  | _, _ => False
theorem OpR.in2 {f : Value → Value → Sem Value} {C : Int → Int → Prop} {g : Int → Int → V} (h : OpR X f (rI C g)) : OpR X f (rIn2 C g) := by
  intro pins s σ H x y v u Q I rx ry q
  cases x <;> cases y <;> first
    | exact False.elim q
    | exact h pins s σ H _ _ v u Q I rx ry ⟨_, _, rfl, rfl, q.1, q.2⟩
def rIn0 (g : Int → Int → V) : R2 := fun x y H Q => match x, y with
  | .int i, .int j => Q (g i j) H
  | _, _ => False
theorem OpR.in0 {f : Value → Value → Sem Value} {g : Int → Int → V} (h : OpR X f (rI0 g)) : OpR X f (rIn0 g) := by
  intro pins s σ H x y v u Q I rx ry q
  cases x <;> cases y <;> first
    | exact False.elim q
    | exact h pins s σ H _ _ v u Q I rx ry ⟨_, _, rfl, rfl, q⟩
abbrev rSubP : R2 := rIn0 fun i j => .int (i - j)
theorem op_subP : OpR X (binaryOp .Sub) rSubP := OpR.in0 op_sub
def CMulP (i j : Int) : Prop := CMul i j ∨ CMulW i j
abbrev rMulP : R2 := rIn2 CMulP fun i j => .int (i * j)
theorem op_mulP : OpR X (binaryOp .Mult) rMulP := OpR.in2 (opI fun _ _ _ _ _ _ _ hc q => mul_int q (hc.elim CMul.ok CMulW.ok))
def CDivP (_ j : Int) : Prop := j ≠ 0 ∧ j.natAbs.log2 < 9000
abbrev rFdivP : R2 := rIn2 CDivP fun i j => .int (i.fdiv j)
theorem op_fdivP : OpR X (binaryOp .FloorDiv) rFdivP := OpR.in2 (opI fun _ _ _ _ _ _ _ hc q => floordiv_int hc.1 q (.inl (PyProof.noPylong_of_log2 hc.2)))
abbrev rModP : R2 := rIn2 (fun _ j => j ≠ 0) fun i j => .int (i.fmod j)
theorem op_modP : OpR X (binaryOp .Mod) rModP := OpR.in2 op_modN
abbrev rPowP : R2 := rIn2 CPow fun i j => .int (i ^ j.toNat)
theorem op_powP : OpR X (binaryOp .Pow) rPowP := OpR.in2 op_pow
/-- ==, != -/
def rEqP (K : PySem.W.Frag) : R2 := fun x y H Q => match scal x y with
  | true => Q (.bl (decide (x = y))) H
  | false => rEqD K x y H Q
theorem op_eqP (hu : X.A.units + 64 < cLine) : OpR X (compareOp .Eq) (rEqP X.K) := by
  intro pins s σ H x y v u Q I rx ry h
  unfold rEqP at h
  cases e : scal x y with
  | true => rw [e] at h; exact op_eq pins s σ H _ _ v u Q I rx ry ⟨e, h⟩
  | false => rw [e] at h; exact op_eqD hu pins s σ H _ _ v u Q I rx ry h
def rNeP (K : PySem.W.Frag) : R2 := fun x y H Q => match scal x y with
  | true => Q (.bl (!decide (x = y))) H
  | false => rNeD K x y H Q
theorem op_neP (hu : X.A.units + 64 < cLine) : OpR X (compareOp .NotEq) (rNeP X.K) := by
  intro pins s σ H x y v u Q I rx ry h
  unfold rNeP at h
  cases e : scal x y with
  | true => rw [e] at h; exact op_ne pins s σ H _ _ v u Q I rx ry ⟨e, h⟩
  | false => rw [e] at h; exact op_neD hu pins s σ H _ _ v u Q I rx ry h
/-- <, <=, >, >= -/
def rLtP : R2 := fun x y H Q => match x, y with
  | .int i, .int j => Q (.bl (decide (i < j))) H
  | .str i, .str j => Q (.bl (decide (i.cps.toList < j.cps.toList))) H
  | _, _ => False
theorem op_ltP : OpR X (compareOp .Lt) rLtP := by
  intro pins s σ H x y v u Q I rx ry h
  cases x <;> cases y <;> first
    | exact False.elim h
    | exact op_lt pins s σ H _ _ v u Q I rx ry ⟨_, _, rfl, rfl, h⟩
    | exact op_lt_str pins s σ H _ _ v u Q I rx ry ⟨_, _, rfl, rfl, h⟩
abbrev rLeP : R2 := rIn0 fun i j => .bl (decide (i ≤ j))
theorem op_leP : OpR X (compareOp .LtE) rLeP := OpR.in0 op_le
abbrev rGtP : R2 := rIn0 fun i j => .bl (decide (j < i))
theorem op_gtP : OpR X (compareOp .Gt) rGtP := OpR.in0 op_gt
abbrev rGeP : R2 := rIn0 fun i j => .bl (decide (j ≤ i))
theorem op_geP : OpR X (compareOp .GtE) rGeP := OpR.in0 op_ge
/-- in, not in -/
def strIn (i j : Str) : Bool := !(Builtin.Str.occurrences j i 0 j.length 1).isEmpty
theorem strIn_sign (c : Nat) (z : Str) : strIn ⟨#[c]⟩ z = decide (c ∈ z.cps.toList) := PySem.StrLaws.found_one z c
def tgtIn (neg b : Bool) : Bool := if neg then !b else b
def rInP (K : PySem.W.Frag) (neg : Bool) : R2 := fun x y H Q => match y with
  | .str j => (match x with
    | .str i => Q (.bl (tgtIn neg (strIn i j))) H
    | _ => False)
  | .ref p => rIn K neg x (.ref p) H Q ∨ ∃ o, DGet H p x o ∧ Q (.bl (tgtIn neg o.isSome)) H
  | _ => False
theorem op_inP (hu : X.A.units + 64 < cLine) : OpR X (compareOp .In) (rInP X.K false) := by
  intro pins s σ H x y v u Q I rx ry h
  cases y <;> first
    | exact False.elim h
    | (cases x <;> first
       | exact False.elim h
       | exact op_in_str pins s σ H _ _ v u Q I rx ry ⟨_, _, rfl, rfl, h⟩)
    | (rcases h with h | ⟨o, g, q⟩
       · exact op_in_seq pins s σ H _ _ v u Q I rx ry h
       · obtain rfl : u = Value.ref _ := ry
         exact d_in (by omega) I g rx fun s3 I3 => ⟨.bl o.isSome, H, I3, rfl, q⟩)
theorem op_ninP (hu : X.A.units + 64 < cLine) : OpR X (compareOp .NotIn) (rInP X.K true) := by
  intro pins s σ H x y v u Q I rx ry h
  cases y <;> first
    | exact False.elim h
    | (cases x <;> first
       | exact False.elim h
       | exact op_notin_str pins s σ H _ _ v u Q I rx ry ⟨_, _, rfl, rfl, h⟩)
    | (rcases h with h | ⟨o, g, q⟩
       · exact op_notIn_seq pins s σ H _ _ v u Q I rx ry h
       · obtain rfl : u = Value.ref _ := ry
         exact d_notIn (by omega) I g rx fun s3 I3 => ⟨.bl (!o.isSome), H, I3, rfl, q⟩)
/-- is None -/
def rIsP (neg : Bool) : R2 := fun x y H Q => y = .non ∧ Q (.bl (tgtIn neg (decide (x = .non)))) H
theorem op_isP : OpR X (compareOp .Is) (rIsP false) := op_isN
theorem op_isnotP : OpR X (compareOp .IsNot) (rIsP true) := op_notN
/-- x[i] -/
def rIxP (K : PySem.W.Frag) : R2 := fun x y H Q => match x, y with
  | .str z, .int i => z.length ≤ sizeLine ∧ ∃ c, atI z.cps.toList i = some c ∧ Q (.str ⟨#[c]⟩) H
  | .ref p, .int i => ∃ xs v, (SqL K H p xs ∨ SqT K H p xs) ∧ atI xs i = some v ∧ Q v H
  | _, _ => False
theorem ix_P : IxR X (rIxP X.K) := by
  intro value slice pins s σ H x y v u Q I rx ry h hs
  cases x <;> cases y <;> first
    | exact False.elim h
    | (obtain ⟨hz, c, he, q⟩ := h
       exact ix_str value slice pins s σ H _ _ v u Q I rx ry ⟨_, _, c, rfl, rfl, hz, he, q⟩ hs)
    | (obtain ⟨xs, w, hq, he, q⟩ := h
       rcases hq with hq | hq
       · exact ix_list value slice pins s σ H _ _ v u Q I rx ry ⟨_, xs, _, w, rfl, rfl, hq, he, q⟩ hs
       · exact ix_tup value slice pins s σ H _ _ v u Q I rx ry ⟨_, xs, _, w, rfl, rfl, hq, he, q⟩ hs)
/-- x[a:b] -/
def rSlP (K : PySem.W.Frag) : V → Option Int → Option Int → Hp → VK → Prop := fun x lo hi H Q => match x with
  | .str z => z.length ≤ sizeLine ∧ Q (.str (cutS z lo hi)) H
  | .ref a => rSlL K (.ref a) lo hi H Q ∨ rSlA K (.ref a) lo hi H Q
  | _ => False
theorem sl_P : SlR X (rSlP X.K) := by
  intro pins s σ H x v vl vu lo hi sl Q I rx hs pl pu h
  cases x <;> first
    | exact False.elim h
    | exact sl_str pins s σ H _ v vl vu lo hi sl Q I rx hs pl pu ⟨_, rfl, h.1, h.2⟩
    | (rcases h with h | h
       · exact sl_list pins s σ H _ v vl vu lo hi sl Q I rx hs pl pu h
       · exact sl_tupA pins s σ H _ v vl vu lo hi sl Q I rx hs pl pu h)
/-- len -/
def rLenP (K : PySem.W.Frag) : List V → Hp → VK → Prop := fun vs H Q => match vs with
  | [.str z] => z.length ≤ sizeLine ∧ Q (.int z.length) H
  | [.ref p] => (∃ xs, (SqL K H p xs ∨ SqT K H p xs) ∧ Q (.int xs.length) H) ∨ ∃ kvs, H p = some (.dK kvs) ∧ Q (.int kvs.length) H
  | _ => False
theorem call_lenP : CallR X (.builtin "len") (rLenP X.K) := by
  intro pins s σ H vs us Q I r h
  match vs, h with
  | [.str z], h => exact call_len_str pins s σ H _ us Q I r ⟨z, rfl, h.1, h.2⟩
  | [.ref p], h =>
    rcases h with ⟨xs, hq, q⟩ | ⟨kvs, hd, q⟩
    · exact call_len_seq pins s σ H _ us Q I r ⟨p, xs, rfl, hq, q⟩
    · exact call_lenD pins s σ H _ us Q I r ⟨p, kvs, rfl, hd, q⟩
  | [], h => exact False.elim h
  | [.non], h => exact False.elim h
  | [.bl _], h => exact False.elim h
  | [.int _], h => exact False.elim h
  | [.byt _], h => exact False.elim h
  | [.flt _], h => exact False.elim h
  | [.ty _], h => exact False.elim h
  | x :: y :: z, h => exact False.elim (by cases x <;> exact h)
/-- for x in .. -/
def iAnyP (K : PySem.W.Frag) (te : TE) : TI := fun σ H R => te σ H fun x H1 => match x with
  | .str z => R (Its z) H1
  | .ref a => ((∃ xs, SqL K H1 a xs) ∧ R (Itl K a) H1) ∨ ((∃ xs, SqT K H1 a xs) ∧ R (Itt K a) H1)
  | _ => False
theorem pi_anyP {tg e : Expr} {te : TE} (he : PE X e te) : PI X tg e (iAnyP X.K te) := by
  refine ⟨fun pins s σ H R I h => ?_⟩
  refine thn (he.run pins s σ H _ I h) fun v s1 ⟨x, H1, I1, r1, q1⟩ => ?_
  cases x <;> first
    | exact False.elim q1
    | (rename_i x
       obtain ⟨t, rfl⟩ := r1
       cases ha : x.cps.all (· < 128)
       · exact wpAny_pyIter_wide ha (pi_one (tk := s1.toks) I1 _ (turn_str _ x t "str_iterator" (.inr rfl)) ⟨_, Heap.get?_push_size _ rfl, rfl, rfl⟩ q1)
       · exact wpAny_pyIter_ascii ha (pi_one (tk := s1.toks) I1 _ (turn_str _ x t "str_ascii_iterator" (.inl rfl)) ⟨_, Heap.get?_push_size _ rfl, rfl, rfl⟩ q1))
    | (rename_i a
       obtain rfl : v = Value.ref a := r1
       rcases q1 with ⟨⟨xs, hq⟩, q⟩ | ⟨⟨xs, hq⟩, q⟩
       · obtain ⟨its, rv, p, hz⟩ := I1.list hq
         refine wpAny_pyIter_list p.isList ?_
         refine ⟨s1.heap.objs.size, [s1.heap.objs.size], _, _, H1, rfl, I1.kept (t' := s1.toks) fun b o e => Heap.get?_push_of_some _ e, turn_list a _, ⟨_, Heap.get?_push_size _ rfl, rfl, rfl⟩, fun b hb => ?_, q⟩
         have e : b = s1.heap.objs.size := by simpa using hb
         subst e
         exact I1.fpOk (Nat.le_refl _) (I1.hok.fresh (Nat.le_refl _))
       · obtain ⟨its, rv, p, hz⟩ := I1.tuple hq
         refine wpAny_pyIter_tuple (show s1.heap.IsTuple a its.toArray from p) ?_
         refine ⟨s1.heap.objs.size, [s1.heap.objs.size], _, _, H1, rfl, I1.kept (t' := s1.toks) fun b o e => Heap.get?_push_of_some _ e, turn_tuple a _, ⟨_, Heap.get?_push_size _ rfl, rfl, rfl⟩, fun b hb => ?_, q⟩
         have e : b = s1.heap.objs.size := by simpa using hb
         subst e
         exact I1.fpOk (Nat.le_refl _) (I1.hok.fresh (Nat.le_refl _)))
/-- o[i] = v -/
def rSetP : V → V → V → Hp → (Hp → Prop) → Prop := fun o i v H Q => match o with
  | .ref p => rSetL (.ref p) i v H Q ∨ ∃ H', DPut H p i v H' ∧ Q H'
  | _ => False
theorem set_P (hu : X.A.units + 64 < cLine) : PSet X rSetP := by
  intro pins s σ H o i v ov iv u Q I ro ri rv h
  cases o <;> first
    | exact False.elim h
    | (rcases h with h | ⟨H', g, q⟩
       · exact set_list pins s σ H _ i v ov iv u Q I ro ri rv h
       · obtain rfl : ov = Value.ref _ := ro
         exact d_setItem (by omega) I g ri rv fun s4 I4 => ⟨H', I4, q⟩)
/-- int(x), list(x), tuple(x), abs(x) -/
def rIntP : List V → Hp → VK → Prop := fun vs H Q => match vs with
  | [.int i] => Q (.int i) H
  | [.bl b] => Q (.int (if b then 1 else 0)) H
  | [.str z] => ∃ n, PySem.intText? z = some n ∧ z.length ≤ 640 ∧ Q (.int n) H
  | _ => False
theorem call_intP : CallR X (.type "int") rIntP := by
  intro pins s σ H vs us Q I r h
  match vs, h with
  | [.int i], h => exact call_int1 pins s σ H _ us Q I r (.inl ⟨i, rfl, h⟩)
  | [.bl b], h => exact call_int1 pins s σ H _ us Q I r (.inr ⟨b, rfl, h⟩)
  | [.str z], ⟨n, e, l, q⟩ => exact call_int_str pins s σ H _ us Q I r ⟨z, n, rfl, e, l, q⟩
  | [], h => exact False.elim h
  | [.non], h => exact False.elim h
  | [.ref _], h => exact False.elim h
  | [.byt _], h => exact False.elim h
  | [.flt _], h => exact False.elim h
  | [.ty _], h => exact False.elim h
  | x :: y :: z, h => exact False.elim (by cases x <;> exact h)
def rListP (K : PySem.W.Frag) : List V → Hp → VK → Prop := fun xs H Q => ∃ p ys, xs = [.ref p] ∧ (SqL K H p ys ∨ SqT K H p ys) ∧ ∀ l, H l = none → Q (.ref l) (upd H l (.lst ys))
theorem call_listP : CallR X (.type "list") (rListP X.K) := call_list_of
def rTupleP (K : PySem.W.Frag) : List V → Hp → VK → Prop := fun xs H Q => ∃ p ys, xs = [.ref p] ∧ ((SqL K H p ys ∧ ∀ l, H l = none → Q (.ref l) (upd H l (.tup ys))) ∨ (SqT K H p ys ∧ Q (.ref p) H))
theorem call_tupleP : CallR X (.type "tuple") (rTupleP X.K) := call_tuple_of
def rStrP : List V → Hp → VK → Prop := fun vs H Q => match vs with
  | [.int i] => i.natAbs.log2 < 1920 ∧ Q (.str (toString i)) H
  | [.str z] => Q (.str z) H
  | _ => False
theorem call_strP : CallR X (.type "str") rStrP := by
  intro pins s σ H vs us Q I r h
  match vs, h with
  | [.int i], h => exact call_str_int pins s σ H _ us Q I r ⟨i, rfl, h.1, h.2⟩
  | [.str z], h => exact SkE.call_str_str pins s σ H _ us Q I r ⟨z, rfl, h⟩
  | [], h => exact False.elim h
  | [.non], h => exact False.elim h
  | [.bl _], h => exact False.elim h
  | [.ref _], h => exact False.elim h
  | [.byt _], h => exact False.elim h
  | [.flt _], h => exact False.elim h
  | [.ty _], h => exact False.elim h
  | x :: y :: z, h => exact False.elim (by cases x <;> exact h)
/-- a statement, then the rest, with a word between them -/
def tCut (t u : TS) : TS := fun D σ H => ∃ Mid : L2.St → Hp → Prop, t { D with nx := Mid } σ H ∧ ∀ σ' H', Mid σ' H' → u D σ' H'
theorem pss_cut {st : Stmt} {rest : List Stmt} {t u : TS} (h1 : PS X st t) (h2 : PSs X rest u) : PSs X (st :: rest) (tCut t u) := by
  refine ⟨fun pins s σ H D I h => ?_⟩
  obtain ⟨Mid, hm, hu⟩ := h
  refine wpAny_execs_cons (thn (h1.run pins s σ H { D with nx := Mid } I hm) fun f s1 q => ?_)
  cases f with
  | next =>
    obtain ⟨σ', H', I', q⟩ := q
    exact h2.run pins s1 σ' H' D I' (hu σ' H' q)
  | ret v => exact q
  | brk => exact q
  | cont => exact q
/-! promises by the number of arguments -/
def Sp1 (P : V → Hp → VK → XK → Prop) : Sp := fun vs H Q E => ∃ x, vs = [x] ∧ P x H Q E
def Sp2 (P : V → V → Hp → VK → XK → Prop) : Sp := fun vs H Q E => ∃ x y, vs = [x, y] ∧ P x y H Q E
def Sp3 (P : V → V → V → Hp → VK → XK → Prop) : Sp := fun vs H Q E => ∃ x y z, vs = [x, y, z] ∧ P x y z H Q E
def Sp4 (P : V → V → V → V → Hp → VK → XK → Prop) : Sp := fun vs H Q E => ∃ x y z u, vs = [x, y, z, u] ∧ P x y z u H Q E
theorem Sp1.len {P} {vs H Q E} (h : Sp1 P vs H Q E) : vs.length = 1 := by obtain ⟨_, rfl, _⟩ := h; rfl
theorem Sp2.len {P} {vs H Q E} (h : Sp2 P vs H Q E) : vs.length = 2 := by obtain ⟨_, _, rfl, _⟩ := h; rfl
theorem Sp3.len {P} {vs H Q E} (h : Sp3 P vs H Q E) : vs.length = 3 := by obtain ⟨_, _, _, rfl, _⟩ := h; rfl
theorem Sp4.len {P} {vs H Q E} (h : Sp4 P vs H Q E) : vs.length = 4 := by obtain ⟨_, _, _, _, rfl, _⟩ := h; rfl
end
end Px
/-! steps of readings -/
namespace Px
open PySem PySem.Spec PyProof.Rows L2
section
variable {K : PySem.W.Frag} {σ σ' : L2.St} {H : Hp} {D : Ends} {Q : VK} {QB : Bool → Hp → Prop} {QL : List V → Hp → Prop} {QO : Option Int → Hp → Prop} {QS : L2.St → Hp → Prop} {t u : TS} {te ta tb : TE} {tt tu : TT} {tl : TA} {v x y : V} {g : TG} {r : R2}
theorem s_seq (h : t { D with nx := u D } σ H) : tSeq t u D σ H := h
theorem s_asg (h : te σ H fun x H1 => g x σ H1 D.nx) : tAsg te g D σ H := h
theorem s_ret (h : te σ H D.rt) : tRet te D σ H := h
theorem s_retN (h : D.rt .non H) : tRetN D σ H := h
theorem s_drop (h : te σ H fun _ H1 => D.nx σ H1) : tDrop te D σ H := h
theorem s_ifS (h : tt σ H fun b H1 => if b = true then t D σ H1 else u D σ H1) : tIfS tt t u D σ H := h
theorem s_next (h : D.nx σ H) : tNext D σ H := h
theorem s_break (h : D.bk σ H) : tBreak D σ H := h
theorem s_cont (h : D.ct σ H) : tCont D σ H := h
theorem s_var {i : Nat} (e : σ[i]? = some (some v)) (h : Q v H) : tVar i σ H Q := ⟨v, e, h⟩
theorem s_c (h : Q v H) : tC v σ H Q := h
theorem s_op (h : ta σ H fun x H1 => tb σ H1 fun y H2 => r x y H2 Q) : tOp r ta tb σ H Q := h
theorem s_un {r : V → Hp → VK → Prop} (h : ta σ H fun x H1 => r x H1 Q) : tUn r ta σ H Q := h
theorem s_gname {i : Nat} (h : QS (σ.set i (some v)) H) : gName i v σ H QS := h
theorem s_gsub {to ti : TE} {ts : TSet} (h : to σ H fun o H1 => ti σ H1 fun i H2 => ts o i v H2 fun H3 => QS σ H3) : gSub to ti ts v σ H QS := h
theorem s_test (h : te σ H fun x H' => ∃ k, x = .bl k ∧ QB k H') : tTest te σ H QB := h
theorem s_tB (h : te σ H fun x H' => ∃ k, x = .bl k ∧ QB k H') : tB te σ H QB := h
theorem s_and (h : tt σ H fun c H1 => if c = true then tu σ H1 QB else QB false H1) : tAnd tt tu σ H QB := h
theorem s_or (h : tt σ H fun c H1 => if c = true then QB true H1 else tu σ H1 QB) : tOr tt tu σ H QB := h
theorem s_not (h : tt σ H fun c H1 => QB (!c) H1) : tNot tt σ H QB := h
theorem s_andV (h : ta σ H fun x H1 => ∃ c, x = .bl c ∧ if c = true then tb σ H1 Q else Q (.bl false) H1) : tAndV ta tb σ H Q := h
theorem s_orV (h : ta σ H fun x H1 => ∃ c, x = .bl c ∧ if c = true then Q (.bl true) H1 else tb σ H1 Q) : tOrV ta tb σ H Q := h
theorem s_notV (h : ta σ H fun x H1 => ∃ c, x = .bl c ∧ Q (.bl (!c)) H1) : tNotV ta σ H Q := h
theorem s_ifE (h : tt σ H fun c H1 => if c = true then ta σ H1 Q else tb σ H1 Q) : tIf tt ta tb σ H Q := h
theorem s_exb {b : Bool} {R : Bool → Prop} (h : R b) : ∃ k, (V.bl b = .bl k) ∧ R k := ⟨b, rfl, h⟩
theorem s_exi {b : Int} {R : Int → Prop} (h : R b) : ∃ k, (V.int b = .int k) ∧ R k := ⟨b, rfl, h⟩
theorem s_nil (h : QL [] H) : tNil σ H QL := h
theorem s_cons (h : ta σ H fun x H1 => tl σ H1 fun xs H2 => QL (x :: xs) H2) : tCons ta tl σ H QL := h
theorem s_cb {r : List V → Hp → VK → Prop} (h : tl σ H fun vs H1 => r vs H1 Q) : tCB r tl σ H Q := h
theorem s_call {sp : Sp} {dvs : List V} {E : XK} (h : tl σ H fun vs H1 => sp (vs ++ dvs) H1 Q E) : tCall sp dvs E tl σ H Q := h
theorem s_callS {sp : Sp} {E : L2.St → XK} (h : tl σ H fun vs H1 => sp vs H1 Q (E σ)) : tCallS sp E tl σ H Q := h
theorem s_lst (h : tl σ H fun xs H1 => xs.length ≤ sizeLine ∧ ∀ p, H1 p = none → Q (.ref p) (upd H1 p (.lst xs))) : tLst tl σ H Q := h
theorem s_tup (h : tl σ H fun xs H1 => xs.length ≤ sizeLine ∧ ∀ p, H1 p = none → Q (.ref p) (upd H1 p (.tup xs))) : tTup tl σ H Q := h
theorem s_sl {r : V → Option Int → Option Int → Hp → VK → Prop} {lo hi : TO} (h : te σ H fun x H1 => lo σ H1 fun l H2 => hi σ H2 fun u H3 => r x l u H3 Q) : tSl r te lo hi σ H Q := h
theorem s_nopart (h : QO none H) : tNoPart σ H QO := h
theorem s_part (h : te σ H fun x H1 => ∃ i, x = .int i ∧ QO (some i) H1) : tPart te σ H QO := h
theorem s_yes (h : QB true H) : tYes σ H QB := h
/-! values -/
theorem s_addI {i j : Int} (h : Q (.int (i + j)) H) : rAddP K (.int i) (.int j) H Q := h
theorem s_addS {i j : Str} (hl : i.length + j.length ≤ sizeLine) (h : Q (.str (i ++ j)) H) : rAddP K (.str i) (.str j) H Q := ⟨hl, h⟩
theorem s_in0 {g : Int → Int → V} {i j : Int} (h : Q (g i j) H) : rIn0 g (.int i) (.int j) H Q := h
theorem s_in2 {C : Int → Int → Prop} {g : Int → Int → V} {i j : Int} (hc : C i j) (h : Q (g i j) H) : rIn2 C g (.int i) (.int j) H Q := ⟨hc, h⟩
theorem s_eqI {i j : Int} (h : Q (.bl (decide (i = j))) H) : rEqP K (.int i) (.int j) H Q := by
  show Q (.bl (decide (V.int i = V.int j))) H
  rw [show decide (V.int i = V.int j) = decide (i = j) from by rw [Bool.eq_iff_iff]; simp]
  exact h
theorem s_eqS {i j : Str} (h : Q (.bl (decide (i = j))) H) : rEqP K (.str i) (.str j) H Q := by
  show Q (.bl (decide (V.str i = V.str j))) H
  rw [show decide (V.str i = V.str j) = decide (i = j) from by rw [Bool.eq_iff_iff]; simp]
  exact h
theorem s_eqB {i j : Bool} (h : Q (.bl (decide (i = j))) H) : rEqP K (.bl i) (.bl j) H Q := by
  show Q (.bl (decide (V.bl i = V.bl j))) H
  rw [show decide (V.bl i = V.bl j) = decide (i = j) from by rw [Bool.eq_iff_iff]; simp]
  exact h
theorem s_neI {i j : Int} (h : Q (.bl (!decide (i = j))) H) : rNeP K (.int i) (.int j) H Q := by
  show Q (.bl (!decide (V.int i = V.int j))) H
  rw [show decide (V.int i = V.int j) = decide (i = j) from by rw [Bool.eq_iff_iff]; simp]
  exact h
theorem s_neS {i j : Str} (h : Q (.bl (!decide (i = j))) H) : rNeP K (.str i) (.str j) H Q := by
  show Q (.bl (!decide (V.str i = V.str j))) H
  rw [show decide (V.str i = V.str j) = decide (i = j) from by rw [Bool.eq_iff_iff]; simp]
  exact h
theorem s_ltI {i j : Int} (h : Q (.bl (decide (i < j))) H) : rLtP (.int i) (.int j) H Q := h
theorem s_ltS {i j : Str} (h : Q (.bl (decide (i.cps.toList < j.cps.toList))) H) : rLtP (.str i) (.str j) H Q := h
theorem s_inS {i j : Str} {neg : Bool} (h : Q (.bl (tgtIn neg (strIn i j))) H) : rInP K neg (.str i) (.str j) H Q := h
theorem s_isN {neg : Bool} (h : Q (.bl (tgtIn neg (decide (x = .non)))) H) : rIsP neg x .non H Q := ⟨rfl, h⟩
theorem s_ixS {z : Str} {i : Int} {c : Nat} (hz : z.length ≤ sizeLine) (e : atI z.cps.toList i = some c) (h : Q (.str ⟨#[c]⟩) H) : rIxP K (.str z) (.int i) H Q := ⟨hz, c, e, h⟩
theorem s_ixL {p : Addr} {xs : List V} {i : Int} (hp : H p = some (.lst xs)) (e : atI xs i = some v) (h : Q v H) : rIxP K (.ref p) (.int i) H Q := ⟨xs, v, .inl (SqL.of hp), e, h⟩
theorem s_ixT {p : Addr} {xs : List V} {i : Int} (hp : H p = some (.tup xs)) (e : atI xs i = some v) (h : Q v H) : rIxP K (.ref p) (.int i) H Q := ⟨xs, v, .inr (SqT.of hp), e, h⟩
theorem s_slS {z : Str} {lo hi : Option Int} (hz : z.length ≤ sizeLine) (h : Q (.str (cutS z lo hi)) H) : rSlP K (.str z) lo hi H Q := ⟨hz, h⟩
theorem s_lenS {z : Str} (hz : z.length ≤ sizeLine) (h : Q (.int z.length) H) : rLenP K [.str z] H Q := ⟨hz, h⟩
theorem s_lenL {p : Addr} {xs : List V} (hp : H p = some (.lst xs)) (h : Q (.int xs.length) H) : rLenP K [.ref p] H Q := .inl ⟨xs, .inl (SqL.of hp), h⟩
theorem s_lenT {p : Addr} {xs : List V} (hp : H p = some (.tup xs)) (h : Q (.int xs.length) H) : rLenP K [.ref p] H Q := .inl ⟨xs, .inr (SqT.of hp), h⟩
theorem s_setL {p : Addr} {xs : List V} {k : Int} {j : Nat} {QH : Hp → Prop} (hp : H p = some (.lst xs)) (e : ixN xs.length k = some j) (h : QH (upd H p (.lst (xs.set j v)))) : rSetP (.ref p) (.int k) v H QH := .inl ⟨p, xs, k, j, rfl, rfl, hp, e, h⟩
theorem s_neg {i : Int} {f : Int → V} (h : Q (f i) H) : rU f (.int i) H Q := ⟨i, rfl, h⟩
theorem s_itd {p : Prop} [Decidable p] {A B : Prop} (h1 : p → A) (h2 : ¬p → B) : if decide p = true then A else B := by
  by_cases h : p
  · rw [if_pos (decide_eq_true h)]; exact h1 h
  · rw [if_neg (by rw [decide_eq_false h]; exact Bool.false_ne_true)]; exact h2 h
theorem s_itT {c : Bool} {A B : Prop} (hc : c = true) (h : A) : if c = true then A else B := by rw [if_pos hc]; exact h
theorem s_itF {c : Bool} {A B : Prop} (hc : c = false) (h : B) : if c = true then A else B := by rw [hc, if_neg Bool.false_ne_true]; exact h
theorem s_nocut (h : t { D with nx := u D } σ H) : tCut t u D σ H := ⟨u D, h, fun _ _ h => h⟩
theorem s_cut (Mid : L2.St → Hp → Prop) (h : t { D with nx := Mid } σ H) (h2 : ∀ σ' H', Mid σ' H' → u D σ' H') : tCut t u D σ H := ⟨Mid, h, h2⟩
theorem s_setU {p : Addr} {xs : List V} {k : Int} {j : Nat} {QH : Hp → Prop} (e : ixN xs.length k = some j) (h : QH (upd H p (.lst (xs.set j v)))) : rSetP (.ref p) (.int k) v (upd H p (.lst xs)) QH := by
  refine s_setL upd_same e ?_
  rw [upd_upd]
  exact h
theorem s_intI {i : Int} (h : Q (.int i) H) : rIntP [.int i] H Q := h
theorem s_listL {p : Addr} {ys : List V} (hp : SqL K H p ys) (h : ∀ l, H l = none → Q (.ref l) (upd H l (.lst ys))) : rListP K [.ref p] H Q := ⟨p, ys, rfl, .inl hp, h⟩
theorem s_rng1 {ta : TA} {R : L2.It → Hp → Prop} (h : ta σ H fun vs H1 => ∃ j : Int, vs = [.int j] ∧ -(2 ^ 62) ≤ j ∧ j < 2 ^ 62 ∧ R (Itr 0 j.toNat) H1) : iRng1 ta σ H R := h
/-! heaps -/
theorem same_new {p : Addr} {o : HO} (h : H p = none) : Same H (upd H p o) := fun b u e => by
  rw [upd_ne (ne_of_none e h)]
  exact e
/-- one object may have changed -/
def But (a : Addr) (H H' : Hp) : Prop := ∀ b o, H b = some o → b ≠ a → H' b = some o
theorem But.refl (a : Addr) (H : Hp) : But a H H := fun _ _ h _ => h
theorem But.trans {a : Addr} {H H1 H2 : Hp} (h1 : But a H H1) (h2 : But a H1 H2) : But a H H2 := fun b o h n => h2 b o (h1 b o h n) n
theorem But.of_same {a : Addr} {H H1 : Hp} (h : Same H H1) : But a H H1 := fun b o e _ => h b o e
theorem But.upd {a : Addr} {H : Hp} {o : HO} : But a H (upd H a o) := fun b u h n => by rw [upd_ne n]; exact h
theorem But.put {a : Addr} {H H1 : Hp} {o : HO} (h : But a H H1) : But a H (L2.upd H1 a o) := h.trans But.upd
theorem one_lt {n : Nat} (h : n ≤ 1000000) : n ≤ sizeLine := by rw [sizeLine_eq]; omega
end
end Px
/-! loops and comprehensions over anything whose items are known -/
namespace Px
open PySem PySem.Spec PyProof.Rows L2
/-- at turn i, the heap H: the items are xs -/
def YieldsAt (J : L2.It) (xs : List V) (i : Nat) (H : Hp) : Prop := (∀ h : i < xs.length, J.go i H ∧ ∀ x H', J.yld i H x H' → H' = H ∧ xs[i]? = some x) ∧ (xs.length ≤ i → J.stop i H)
theorem yields_str (z : Str) (i : Nat) (H : Hp) : YieldsAt (Its z) (z.cps.toList.map fun c => V.str ⟨#[c]⟩) i H := by
  refine ⟨fun h => ⟨?_, fun x H' hy => ?_⟩, fun h => ?_⟩
  · show i < z.cps.size
    simpa using h
  · obtain ⟨e, c, hc, rfl⟩ := hy
    refine ⟨e, ?_⟩
    rw [List.getElem?_map]
    have : z.cps.toList[i]? = some c := by simpa using hc
    rw [this]
    rfl
  · show z.cps.size ≤ i
    simpa using h
theorem yields_range (lo : Int) (n i : Nat) (H : Hp) : YieldsAt (Itr lo n) ((List.range n).map fun (j : Nat) => V.int (lo + (j : Int))) i H := by
  refine ⟨fun h => ⟨?_, fun x H' hy => ?_⟩, fun h => ?_⟩
  · show i < n
    simpa using h
  · obtain ⟨e, rfl⟩ := hy
    refine ⟨e, ?_⟩
    have hi : i < n := by simpa using h
    rw [List.getElem?_map, List.getElem?_range hi]
    rfl
  · show n ≤ i
    simpa using h
theorem yields_list {K : PySem.W.Frag} {a : Addr} {xs : List V} {H : Hp} (h : SqL K H a xs) (i : Nat) : YieldsAt (Itl K a) xs i H := by
  refine ⟨fun hi => ⟨⟨xs, xs[i], h, by simp [hi]⟩, fun x H' hy => ⟨hy.1, hy.2 xs h⟩⟩, fun hi => ⟨xs, h, hi⟩⟩
theorem yields_tup {K : PySem.W.Frag} {a : Addr} {xs : List V} {H : Hp} (h : SqT K H a xs) (i : Nat) : YieldsAt (Itt K a) xs i H := by
  refine ⟨fun hi => ⟨⟨xs, xs[i], h, by simp [hi]⟩, fun x H' hy => ⟨hy.1, hy.2 xs h⟩⟩, fun hi => ⟨xs, h, hi⟩⟩
theorem Same.sqT {K : PySem.W.Frag} {H H' : Hp} {a : Addr} {xs : List V} (e : Same H H') (h : SqT K H a xs) : SqT K H' a xs := by
  rcases h with (h | ⟨o, h⟩) | h
  · exact .inl (.inl (e _ _ h))
  · exact .inl (.inr ⟨o, e _ _ h⟩)
  · exact .inr h
section
variable {K : PySem.W.Frag} {σ : L2.St} {H H1 : Hp} {D : Ends} {Q : VK} {J : L2.It} {xs : List V}
/-- a for over known items, by an invariant -/
theorem for_y {g : TG} {tb : TS} (Pv : Nat → L2.St → Hp → Prop) (h0 : Pv 0 σ H) (hy : ∀ i σ H, i ≤ xs.length → Pv i σ H → YieldsAt J xs i H)
    (hs : ∀ i x σ H, xs[i]? = some x → Pv i σ H → g x σ H fun σ2 H2 => tb { D with nx := Pv (i + 1), ct := Pv (i + 1), bk := D.nx } σ2 H2) (hd : ∀ σ H, Pv xs.length σ H → D.nx σ H) :
    ∃ W : Nat → Nat → L2.St → Hp → Prop, (∃ m, W 0 m σ H) ∧ ∀ i m σ H, W i m σ H →
      (J.stop i H ∧ D.nx σ H) ∨ (J.go i H ∧ ∃ N : L2.St → Hp → Prop, (∀ σ' H', N σ' H' → ∃ m', m' < m ∧ W (i + 1) m' σ' H') ∧ ∀ x H', J.yld i H x H' → g x σ H' fun σ2 H2 => tb { D with nx := N, ct := N, bk := D.nx } σ2 H2) := by
  refine ⟨fun i m σ H => m = xs.length - i ∧ i ≤ xs.length ∧ Pv i σ H, ⟨xs.length, by simp, Nat.zero_le _, h0⟩, ?_⟩
  rintro i m σ H ⟨rfl, hi, p⟩
  have q := hy i σ H hi p
  by_cases hlt : i < xs.length
  · refine .inr ⟨(q.1 hlt).1, Pv (i + 1), fun σ' H' p' => ⟨xs.length - (i + 1), by omega, rfl, hlt, p'⟩, fun x H' y => ?_⟩
    obtain ⟨e, hx⟩ := (q.1 hlt).2 x H' y
    subst e
    exact hs i x σ H' hx p
  · have e : i = xs.length := by omega
    subst e
    exact .inl ⟨q.2 (Nat.le_refl _), hd σ H p⟩
/-- a comprehension over known items, by an invariant -/
theorem lc_y {g : TG} {tt : TT} {te : TE} {vs : List Nat} {Dr : Addr} {Qd : Hp → Prop} (Pv : Nat → Hp → Prop) (h0 : Pv 0 (upd H1 Dr (.lst []))) (hy : ∀ i H, i ≤ xs.length → Pv i H → YieldsAt J xs i H)
    (hs : ∀ i x H, xs[i]? = some x → Pv i H → g x (wipe σ vs) H fun σ2 H2 => wipe σ2 vs = wipe σ vs ∧ tt σ2 H2 fun b H3 =>
      if b = true then te σ2 H3 fun y H4 => ∃ acc, H4 Dr = some (.lst acc) ∧ acc.length < sizeLine ∧ Pv (i + 1) (upd H4 Dr (.lst (acc ++ [y]))) else Pv (i + 1) H3) (hd : ∀ H, Pv xs.length H → Qd H) :
    ∃ W : Nat → Nat → Hp → Prop, (∃ m, W 0 m (upd H1 Dr (.lst []))) ∧ ∀ i m H, W i m H →
      (J.stop i H ∧ Qd H) ∨ (J.go i H ∧ ∃ Nx : Hp → Prop, (∀ H', Nx H' → ∃ m', m' < m ∧ W (i + 1) m' H') ∧ ∀ x H', J.yld i H x H' → g x (wipe σ vs) H' fun σ2 H2 => wipe σ2 vs = wipe σ vs ∧ tt σ2 H2 fun b H3 =>
        if b = true then te σ2 H3 fun y H4 => ∃ acc, H4 Dr = some (.lst acc) ∧ acc.length < sizeLine ∧ Nx (upd H4 Dr (.lst (acc ++ [y]))) else Nx H3) := by
  refine ⟨fun i m H => m = xs.length - i ∧ i ≤ xs.length ∧ Pv i H, ⟨xs.length, by simp, Nat.zero_le _, h0⟩, ?_⟩
  rintro i m H ⟨rfl, hi, p⟩
  have q := hy i H hi p
  by_cases hlt : i < xs.length
  · refine .inr ⟨(q.1 hlt).1, Pv (i + 1), fun H' p' => ⟨xs.length - (i + 1), by omega, rfl, hlt, p'⟩, fun x H' y => ?_⟩
    obtain ⟨e, hx⟩ := (q.1 hlt).2 x H' y
    subst e
    exact hs i x H' hx p
  · have e : i = xs.length := by omega
    subst e
    exact .inl ⟨q.2 (Nat.le_refl _), hd H p⟩
theorem take_more {α : Type} {l : List α} {i : Nat} {x : α} (h : l[i]? = some x) : l.take (i + 1) = l.take i ++ [x] := by
  obtain ⟨hi, rfl⟩ := List.getElem?_eq_some_iff.mp h
  rw [List.take_succ_eq_append_getElem hi]
/-- [e for x in ..]: each item's value is f x, the heap only grows -/
theorem lc_map {v : Nat} {te : TE} {f : V → V} (hx : xs.length ≤ 1000000) (hy : ∀ i H, Same H1 H → YieldsAt J xs i H)
    (hf : ∀ x ∈ xs, ∀ H', Same H1 H' → ∀ Q' : VK, (∀ H'', Same H' H'' → Q' (f x) H'') → te (σ.set v (some x)) H' Q')
    (hq : ∀ D H', H1 D = none → Same H1 H' → H' D = some (.lst (xs.map f)) → Q (.ref D) H') :
    ∀ Dr, H1 Dr = none → ∃ W : Nat → Nat → Hp → Prop, (∃ m, W 0 m (upd H1 Dr (.lst []))) ∧ ∀ i m H, W i m H →
      (J.stop i H ∧ Q (.ref Dr) H) ∨ (J.go i H ∧ ∃ Nx : Hp → Prop, (∀ H', Nx H' → ∃ m', m' < m ∧ W (i + 1) m' H') ∧ ∀ x H', J.yld i H x H' → gName v x (wipe σ [v]) H' fun σ2 H2 => wipe σ2 [v] = wipe σ [v] ∧ tYes σ2 H2 fun b H3 =>
        if b = true then te σ2 H3 fun y H4 => ∃ acc, H4 Dr = some (.lst acc) ∧ acc.length < sizeLine ∧ Nx (upd H4 Dr (.lst (acc ++ [y]))) else Nx H3) := by
  intro Dr hD
  refine lc_y (xs := xs) (fun i H => Same H1 H ∧ H Dr = some (.lst ((xs.take i).map f))) ⟨same_new hD, by simp [upd_same]⟩ (fun i H _ p => hy i H p.1) ?_ (fun H p => hq Dr H hD p.1 (by rw [p.2, List.take_length]))
  rintro i x H hi ⟨sm, hl⟩
  have e1 : wipe σ [v] = σ.set v none := rfl
  rw [e1]
  have e2 : (σ.set v none).set v (some x) = σ.set v (some x) := by rw [List.set_set]
  have e3 : wipe (σ.set v (some x)) [v] = σ.set v none := by show (σ.set v (some x)).set v none = _; rw [List.set_set]
  unfold gName
  rw [e2]
  refine ⟨e3, ?_⟩
  unfold tYes
  dsimp only
  rw [if_pos rfl]
  refine hf x (List.mem_of_getElem? hi) H sm _ fun H'' s2 => ?_
  refine ⟨_, s2 _ _ hl, ?_, fun b o e => ?_, ?_⟩
  · rw [List.length_map, List.length_take, sizeLine_eq]
    have := (List.getElem?_eq_some_iff.mp hi).1
    omega
  · rw [upd_ne (ne_of_none e hD)]
    exact s2 _ _ (sm _ _ e)
  · rw [upd_same, take_more hi, List.map_append]
    rfl
/-! with what follows kept whole -/
/-- the items of a value that is walked -/
def Items (K : PySem.W.Frag) (H : Hp) (x : V) (xs : List V) : Prop := match x with
  | .str z => xs = z.cps.toList.map fun c => V.str ⟨#[c]⟩
  | .ref a => SqL K H a xs ∨ SqT K H a xs
  | _ => False
theorem Items.keep {H' : Hp} {x : V} (h : Items K H x xs) (s : Same H H') : Items K H' x xs := by
  cases x <;> first
    | exact False.elim h
    | exact h
    | (rcases h with h | h
       · exact .inl (s.seq h)
       · exact .inr (Same.sqT s h))
def LcB (J : L2.It) (g : TG) (tt : TT) (te : TE) (vs : List Nat) (σ : L2.St) (Q : VK) (H1 : Hp) : Prop := ∀ D, H1 D = none → ∃ W : Nat → Nat → Hp → Prop, (∃ m, W 0 m (upd H1 D (.lst []))) ∧ ∀ i m H, W i m H →
  (J.stop i H ∧ Q (.ref D) H) ∨ (J.go i H ∧ ∃ Nx : Hp → Prop, (∀ H', Nx H' → ∃ m', m' < m ∧ W (i + 1) m' H') ∧ ∀ x H', J.yld i H x H' → g x (wipe σ vs) H' fun σ2 H2 => wipe σ2 vs = wipe σ vs ∧ tt σ2 H2 fun b H3 =>
    if b = true then te σ2 H3 fun y H4 => ∃ acc, H4 D = some (.lst acc) ∧ acc.length < sizeLine ∧ Nx (upd H4 D (.lst (acc ++ [y]))) else Nx H3)
def LcBody (K : PySem.W.Frag) (g : TG) (tt : TT) (te : TE) (vs : List Nat) (σ : L2.St) (Q : VK) (x : V) (H1 : Hp) : Prop := match x with
  | .str z => LcB (Its z) g tt te vs σ Q H1
  | .ref a => ((∃ xs, SqL K H1 a xs) ∧ LcB (Itl K a) g tt te vs σ Q H1) ∨ ((∃ xs, SqT K H1 a xs) ∧ LcB (Itt K a) g tt te vs σ Q H1)
  | _ => False
theorem s_lcA {te0 te : TE} {g : TG} {tt : TT} {vs : List Nat} (h : te0 σ H fun x H1 => LcBody K g tt te vs σ Q x H1) : tLc (iAnyP K te0) g tt te vs σ H Q := h
def LcBodyR (g : TG) (tt : TT) (te : TE) (vs : List Nat) (σ : L2.St) (Q : VK) (ws : List V) (H1 : Hp) : Prop := ∃ j : Int, ws = [.int j] ∧ -(2 ^ 62) ≤ j ∧ j < 2 ^ 62 ∧ LcB (Itr 0 j.toNat) g tt te vs σ Q H1
theorem s_lcR {ta : TA} {te : TE} {g : TG} {tt : TT} {vs : List Nat} (h : ta σ H fun ws H1 => LcBodyR g tt te vs σ Q ws H1) : tLc (iRng1 ta) g tt te vs σ H Q := h
theorem lcb_items {g : TG} {tt : TT} {te : TE} {vs : List Nat} {x : V} (hx : Items K H1 x xs) (h : ∀ J, (∀ i H, Same H1 H → YieldsAt J xs i H) → LcB J g tt te vs σ Q H1) : LcBody K g tt te vs σ Q x H1 := by
  cases x <;> first
    | exact False.elim hx
    | (have e : xs = _ := hx
       subst e
       exact h _ fun i H _ => yields_str _ i H)
    | (rcases hx with hx | hx
       · exact .inl ⟨⟨xs, hx⟩, h _ fun i H s => yields_list (s.seq hx) i⟩
       · exact .inr ⟨⟨xs, hx⟩, h _ fun i H s => yields_tup (Same.sqT s hx) i⟩)
/-- [e for x in y]: each item's value is f x, the heap only grows -/
theorem lcb_map {v : Nat} {te : TE} {x : V} (f : V → V) (hx : Items K H1 x xs) (hl : xs.length ≤ 1000000)
    (hf : ∀ x ∈ xs, ∀ H', Same H1 H' → ∀ Q' : VK, (∀ H'', Same H' H'' → Q' (f x) H'') → te (σ.set v (some x)) H' Q')
    (hq : ∀ D H', H1 D = none → Same H1 H' → H' D = some (.lst (xs.map f)) → Q (.ref D) H') : LcBody K (gName v) tYes te [v] σ Q x H1 :=
  lcb_items hx fun _ hy => lc_map hl hy hf hq
theorem lcr_map {v : Nat} {te : TE} {j : Int} (f : V → V) (h1 : j ≤ 1000000) (h0 : -1000000 ≤ j)
    (hf : ∀ i : Nat, (i : Int) < j → ∀ H', Same H1 H' → ∀ Q' : VK, (∀ H'', Same H' H'' → Q' (f (.int i)) H'') → te (σ.set v (some (.int i))) H' Q')
    (hq : ∀ D H', H1 D = none → Same H1 H' → H' D = some (.lst ((List.range j.toNat).map fun (i : Nat) => f (.int i))) → Q (.ref D) H') : LcBodyR (gName v) tYes te [v] σ Q [.int j] H1 := by
  refine ⟨j, rfl, by omega, by omega, ?_⟩
  refine lc_map (xs := (List.range j.toNat).map fun (i : Nat) => V.int (0 + (i : Int))) (f := f) (by rw [List.length_map, List.length_range]; omega) (fun i H _ => yields_range 0 j.toNat i H) ?_ ?_
  · intro x hx
    obtain ⟨i, hi, rfl⟩ := List.mem_map.mp hx
    have := List.mem_range.mp hi
    rw [Int.zero_add]
    exact hf i (by omega)
  · intro D H' hD s hl
    refine hq D H' hD s ?_
    rw [hl, List.map_map]
    congr 2
    apply List.map_congr_left
    intro i _
    show f (.int (0 + (i : Int))) = _
    rw [Int.zero_add]
def ForB (J : L2.It) (g : TG) (tb : TS) (D : Ends) (σ : L2.St) (H : Hp) : Prop := ∃ W : Nat → Nat → L2.St → Hp → Prop, (∃ m, W 0 m σ H) ∧ ∀ i m σ H, W i m σ H →
      (J.stop i H ∧ D.nx σ H) ∨ (J.go i H ∧ ∃ N : L2.St → Hp → Prop, (∀ σ' H', N σ' H' → ∃ m', m' < m ∧ W (i + 1) m' σ' H') ∧ ∀ x H', J.yld i H x H' → g x σ H' fun σ2 H2 => tb { D with nx := N, ct := N, bk := D.nx } σ2 H2)
def ForBody (K : PySem.W.Frag) (g : TG) (tb : TS) (D : Ends) (σ : L2.St) (x : V) (H1 : Hp) : Prop := match x with
  | .str z => ForB (Its z) g tb D σ H1
  | .ref a => ((∃ xs, SqL K H1 a xs) ∧ ForB (Itl K a) g tb D σ H1) ∨ ((∃ xs, SqT K H1 a xs) ∧ ForB (Itt K a) g tb D σ H1)
  | _ => False
theorem s_forA {te0 : TE} {g : TG} {tb : TS} (h : te0 σ H fun x H1 => ForBody K g tb D σ x H1) : tFor (iAnyP K te0) g tb D σ H := h
def ForBodyR (g : TG) (tb : TS) (D : Ends) (σ : L2.St) (ws : List V) (H1 : Hp) : Prop := ∃ j : Int, ws = [.int j] ∧ -(2 ^ 62) ≤ j ∧ j < 2 ^ 62 ∧ ForB (Itr 0 j.toNat) g tb D σ H1
theorem s_forR {ta : TA} {g : TG} {tb : TS} (h : ta σ H fun ws H1 => ForBodyR g tb D σ ws H1) : tFor (iRng1 ta) g tb D σ H := h
/-- for v in y: an invariant over the turn, the slots, the heap; y's items stand -/
theorem forb_list {g : TG} {tb : TS} {a : Addr} (Pv : Nat → L2.St → Hp → Prop) (h0 : Pv 0 σ H) (hy : ∀ i σ H, i ≤ xs.length → Pv i σ H → SqL K H a xs)
    (hs : ∀ i y σ H, xs[i]? = some y → Pv i σ H → g y σ H fun σ2 H2 => tb { D with nx := Pv (i + 1), ct := Pv (i + 1), bk := D.nx } σ2 H2) (hd : ∀ σ H, Pv xs.length σ H → D.nx σ H) : ForBody K g tb D σ (.ref a) H :=
  .inl ⟨⟨xs, hy 0 σ H (Nat.zero_le _) h0⟩, for_y Pv h0 (fun i σ H hi p => yields_list (hy i σ H hi p) i) hs hd⟩
theorem forb_tup {g : TG} {tb : TS} {a : Addr} (Pv : Nat → L2.St → Hp → Prop) (h0 : Pv 0 σ H) (hy : ∀ i σ H, i ≤ xs.length → Pv i σ H → SqT K H a xs)
    (hs : ∀ i y σ H, xs[i]? = some y → Pv i σ H → g y σ H fun σ2 H2 => tb { D with nx := Pv (i + 1), ct := Pv (i + 1), bk := D.nx } σ2 H2) (hd : ∀ σ H, Pv xs.length σ H → D.nx σ H) : ForBody K g tb D σ (.ref a) H :=
  .inr ⟨⟨xs, hy 0 σ H (Nat.zero_le _) h0⟩, for_y Pv h0 (fun i σ H hi p => yields_tup (hy i σ H hi p) i) hs hd⟩
theorem forr_inv {g : TG} {tb : TS} {j : Int} (h0 : -1000000000 ≤ j) (h1 : j ≤ 1000000000) (Pv : Nat → L2.St → Hp → Prop) (hp : Pv 0 σ H)
    (hs : ∀ (i : Nat) σ H, (i : Int) < j → Pv i σ H → g (.int i) σ H fun σ2 H2 => tb { D with nx := Pv (i + 1), ct := Pv (i + 1), bk := D.nx } σ2 H2) (hd : ∀ σ H, Pv j.toNat σ H → D.nx σ H) : ForBodyR g tb D σ [.int j] H := by
  refine ⟨j, rfl, by omega, by omega, ?_⟩
  refine for_range (lo := 0) (n := j.toNat) Pv hp (fun i σ H hi p => ?_) hd
  rw [Int.zero_add]
  exact hs i σ H (by omega) p
theorem s_all {a : Addr} {bs : List Bool} (hp : H a = some (.lst (bs.map V.bl))) (h : Q (.bl (bs.all id)) H) : rAll K [.ref a] H Q := ⟨a, bs, rfl, SqL.of hp, h⟩
end
end Px
/-! try with several clauses 'except x as n' -/
namespace L2N
open PySem PySem.Spec PyProof.Rows L2
/-- one clause: its class, the slot of its name, its suite's reading -/
abbrev Cla := Value × Nat × (Addr → Value → Option Addr → TS)
inductive Clas (X : Cx) : List ExceptHandler → List Cla → Prop
  | nil : Clas X [] []
  | cons {x n : Str} {c : Value} {i : Nat} {ts : Addr → Value → Option Addr → TS} {b1 : Stmt} {bs : List Stmt} {np p : Pos} {hds : List ExceptHandler} {l : List Cla} (hi : X.N[i]? = some n) (hln : X.env.kindOf n = some .local) (hc : Names X x c)
      (hsu : ∀ (a : Addr) (oe : Obj) (cls : Value) (d : Option Addr) (pn : List (Addr × Obj)), Zn cls d oe → (∃ vs, oe.data = .fields vs) → PSs (X.suite a ((a, oe) :: pn)) (b1 :: bs) (ts a cls d)) (r : Clas X hds l) :
      Clas X (.ExceptHandler (some (.Name x np)) (some n) (b1 :: bs) p :: hds) ((c, i, ts) :: l)
end L2N
/-! own classes: making, fields, constants -/
namespace Cl
open PySem PySem.Spec PyProof.Rows L2
theorem cxUpN {P : Program} {w : World} : StX.CXUp (L2N.CX P w) := by
  rintro outer s H s2 H2 E e s' un kp ho ⟨a, B, H', cls, d, ea, fl, hok, ub, na, os, ag, he⟩
  refine ⟨a, B, H', cls, d, ea, fl, hok, ?_, na, os.trans ho, ag, he⟩
  exact { keep := fun b o q n hb => ub.keep b o (kp b o q) (un.free b o q n (by simp)) hb
          slot := fun b o q hb => ub.slot b o (kp b o q) hb
          free := fun b o q n => ub.free b o (kp b o q) (un.free b o q n (by simp))
          there := fun b o q hb => ub.there b o (kp b o q) hb
          tups := fun b xs q => ub.tups b xs (un.tups b xs q)
          frzs := fun b o xs q => ub.frzs b o xs (un.frzs b o xs q)
          tbls := fun b ps q => by
            obtain ⟨m1, e1⟩ := un.tbls b ps q
            obtain ⟨m2, e2⟩ := ub.tbls b _ e1
            exact ⟨m1 ++ m2, by rw [e2, Array.append_assoc]⟩ }
section
variable {X : Cx} {CX : CXT} {k : Nat} {f C : Addr} {sp : Sp} {E : L2.St → XK} {x : Str} {e : Expr} {es : List Expr} {t : TA} {p pos : Pos}
/-- C(..): a new instance and its dict, then __init__ by its positional promise -/
def tMakeS (C : Addr) (sp : Sp) (E : L2.St → XK) (t : TA) : TE := fun σ H Q => t σ H fun vs H1 => ∀ x dx, H1 x = none → H1 dx = none → dx ≠ x →
  sp (V.ref x :: vs) (upd (upd H1 dx (.own x)) x (.ins C dx [])) (fun v H2 => v = .non ∧ Q (.ref x) H2) (E σ)
theorem run_makeS {pins : List (Addr × Obj)} {σ : L2.St} {H : Hp} {s : Shared} {Q : VK} {us : List Value} {vs : List V} (M : Mk X.K C f) (F : FnR X.prog X.w X.K X.mg X.base CX k f sp) (hr : Room (k + 1) X.A) (hx : PassesAt CX X σ (E σ)) (I : Inv X pins σ H s) (r : Vals vs us)
    (h : ∀ x dx, H x = none → H dx = none → dx ≠ x → sp (V.ref x :: vs) (upd (upd H dx (.own x)) x (.ins C dx [])) (fun v H2 => v = .non ∧ Q (.ref x) H2) (E σ)) :
    wpAny (model X.prog X.w) X.A (call (.ref C) us) (EP X pins σ Q) X.xe s := by
  have hq := h (s.heap.objs.size + 1) s.heap.objs.size (I.hok.fresh (Nat.le_succ _)) (I.hok.fresh (Nat.le_refl _)) (Nat.ne_of_lt (Nat.lt_succ_self _))
  have I2 := Inv.made (C := C) I
  refine wpAny_call (make_map (f := f) I.kIn M.makes M.init (beq_iff_eq.mp M.fn) (codeAny_mono (F _ X.stack _ _ (Value.ref (s.heap.objs.size + 1) :: us) _ _ (E σ) (hr.make C us []) (I2.env0.make C us []) (show Vals (V.ref (s.heap.objs.size + 1) :: vs) (Value.ref (s.heap.objs.size + 1) :: us) from .cons rfl r) hq) fun r s' hq' => ?_))
  cases r with
  | error e => exact hx pins _ _ e s' I2 hq'
  | ok fl =>
    cases fl with
    | ret u =>
      obtain ⟨v, H', I3, rv, ev, q3⟩ := I2.after hq'
      subst ev
      exact ⟨rv, V.ref (s.heap.objs.size + 1), H', I3, rfl, q3⟩
    | _ => exact hq'.elim
theorem pe_makeS (M : Mk X.K C f) (F : FnR X.prog X.w X.K X.mg X.base CX k f sp) (hr : Room (k + 1) X.A) (hg : Gl X x) (hm : X.mg x = some (.ref C)) (hx : ∀ σ, PassesAt CX X σ (E σ)) (ha : PA X (e :: es) t) (hdb : (x == ("__debug__" : Str)) = false := by decide)
    (he : starEach (e :: es) X.env = (false, eval e X.env) :: starEach es X.env := by rfl) (hpl : (backTo pos (starEach es X.env)).any (·.1) = false := by rfl) : PE X (.Call (.Name x p) (e :: es) [] pos) (tMakeS C sp E t) := by
  refine ⟨fun pins s σ H Q I h => wpAny_Call_Name_kw (ld_glob I hg hm ?_ hdb)⟩
  exact PySem.W.callWith_K (h₀ := X.base) I.ok.mod.kin M.kp (thn (ha.run pos pins s σ H _ I h) fun us s1 ⟨vs, H1, I1, r, q⟩ => ⟨I1.kIn, run_makeS M F hr (hx σ) I1 r q⟩) he hpl
theorem pe_makeS0 (M : Mk X.K C f) (F : FnR X.prog X.w X.K X.mg X.base CX k f sp) (hr : Room (k + 1) X.A) (hg : Gl X x) (hm : X.mg x = some (.ref C)) (hx : ∀ σ, PassesAt CX X σ (E σ)) (hdb : (x == ("__debug__" : Str)) = false := by decide) :
    PE X (.Call (.Name x p) [] [] pos) (tMakeS C sp E tNil) :=
  ⟨fun pins s σ H Q I h => wpAny_Call_Name_kw (ld_glob I hg hm (PySem.W.callWith_K0 I.kIn M.kp (run_makeS (us := []) M F hr (hx σ) I .nil h)) hdb)⟩
end
theorem toR {P : Program} {w : World} {K : PySem.W.Frag} {mg : Str → Option Value} {base : Heap} {CX : CXT} {k : Nat} {f : Addr} {fd : FuncData} {ps : List Str} {sp : Sp} (F : FnOk P w K mg base CX k f fd ps sp) (hb : Binds K fd ps []) : FnR P w K mg base CX k f sp := by
  intro A outer s H us vs Q E hr e0 r h
  have hl : (us ++ []).length = ps.length := by rw [List.append_nil, ← r.length]; exact F.len _ _ _ _ h
  have z := hb s us (e0.mod.kin.keeps fun b o e => (e0.bs b o e).1) hl
  rw [List.append_nil] at z
  exact F.run A outer s H ⟨us, []⟩ us vs Q E hr e0 z r h
/-! attributes by the class of the object -/
abbrev Alt := Addr → List (Str × V) → L2.St → Hp → VK → Prop
def AltOk (X : Cx) (f : Str) (C : Addr) (r : Alt) : Prop := ∀ (pins : List (Addr × Obj)) (s : Shared) (σ : L2.St) (H : Hp) (a dx : Addr) (fs : List (Str × V)) (Q : VK), Inv X pins σ H s → H a = some (.ins C dx fs) → r a fs σ H Q →
  wpAny (model X.prog X.w) X.A (getAttr (.ref a) f true) (EP X pins σ Q) X.xe s
/-- e.f, by the alternatives of its object's class -/
def tAtt (l : List (Addr × Alt)) (te : TE) : TE := fun σ H Q => te σ H fun x H1 => ∃ (a dx : Addr) (fs : List (Str × V)) (i : Nat) (C : Addr) (r : Alt), x = .ref a ∧ l[i]? = some (C, r) ∧ H1 a = some (.ins C dx fs) ∧ r a fs σ H1 Q
def aFld (f : Str) : Alt := fun _ fs _ H Q => ∃ v, fs.lookup f = some v ∧ Q v H
def aCon (f : Str) (v : V) : Alt := fun _ fs _ H Q => fs.lookup f = none ∧ Q v H
def aProp (sp : Sp) : Alt := fun a _ _ H Q => sp [.ref a] H Q E0
section
variable {X : Cx} {f : Str} {C : Addr} {e : Expr} {te : TE} {pos : Pos}
theorem alt_fld (c : Cls X.K C) (n : NoAttr X.K C f) : AltOk X f C (aFld f) := fun pins s σ H a dx fs Q I ha ⟨v, l, q⟩ => getattr_ok I ha c n l fun u s' I' r => ⟨v, H, I', r, q⟩
theorem alt_con {v : V} {u : Value} (c : Cls X.K C) (n : Con X.K C f v u) : AltOk X f C (aCon f v) := fun pins s σ H a dx fs Q I ha ⟨l, q⟩ => getcon_ok I ha c n l fun s' I' => ⟨v, H, I', n.rel, q⟩
inductive Alts (X : Cx) (f : Str) : List (Addr × Alt) → Prop
  | nil : Alts X f []
  | cons {C : Addr} {r : Alt} {l : List (Addr × Alt)} : AltOk X f C r → Alts X f l → Alts X f ((C, r) :: l)
theorem Alts.at {l : List (Addr × Alt)} (h : Alts X f l) : ∀ {i : Nat} {r : Alt}, l[i]? = some (C, r) → AltOk X f C r := by
  induction h with
  | nil => intro i r e; cases e
  | cons h _ ih =>
    intro i r e
    cases i with
    | zero => cases e; exact h
    | succ i => exact ih (by simpa using e)
theorem pe_att {l : List (Addr × Alt)} (h : Alts X f l) (he : PE X e te) (hb : attributeBase e f X.env (eval e X.env) = eval e X.env := by rfl) : PE X (.Attribute e f pos) (tAtt l te) := by
  refine ⟨fun pins s σ H Q I q => attr_of hb (thn (he.run pins s σ H _ I q) fun u s1 ⟨x, H1, I1, rx, a, dx, fs, i, C, r, ex, hl, ha, q1⟩ => ?_)⟩
  subst ex
  obtain rfl : u = Value.ref a := rx
  exact h.at hl pins s1 σ H1 a dx fs Q I1 ha q1
/-- e.f = v, by the class -/
def sAtt (l : List Addr) (ta tv : TE) (f : Str) : TS := fun D σ H => tv σ H fun y H1 => ta σ H1 fun x H2 => ∃ a C dx fs, x = .ref a ∧ C ∈ l ∧ H2 a = some (.ins C dx fs) ∧ fs.length < 1000 ∧ D.nx σ (upd H2 a (.ins C dx (putF f y fs)))
theorem ps_att {l : List Addr} {o value : Expr} {ta tv : TE} {pos' : Pos} (h : ∀ C ∈ l, Cls X.K C ∧ NoAttr X.K C f) (ha : PE X o ta) (hv : PE X value tv) (hs : swapsWith value (some (.Attribute o f pos')) pos.line X.env = pure false := by rfl) : PS X (.Assign [.Attribute o f pos'] value pos) (sAtt l ta tv f) := by
  refine ⟨fun pins s σ H D I q => plainObj_wpAny_Assign_Attribute (thn (hv.run pins s σ H _ I q) fun u s1 ⟨y, H1, I1, ry, q1⟩ => thn (ha.run pins s1 σ H1 _ I1 q1) fun ov s2 ⟨x, H2, I2, rx, a, C, dx, fs, ex, hC, ea, l1, q2⟩ => ?_) hs⟩
  subst ex
  obtain rfl : ov = Value.ref a := rx
  exact setattr_ok I2 ea (h C hC).1 (h C hC).2 l1 ry fun s3 I3 => ⟨σ, _, I3, q2⟩
/-- C.f, a constant read of the class itself -/
def tCls (v : V) : TE := fun _ H Q => Q v H
end
end Cl
namespace L2
open PySem PySem.Spec PyProof.Rows
end L2
/-! the head's facts of classes -/
namespace Hk
open PySem PySem.W PySem.Spec PyProof.Rows L2 He
def conB (K : Frag) (C : Addr) (f : PySem.Str) (i : Int) : Bool := match findIn K (.ref C) f with
  | some (some (.int j t)) => decide (j = i) && eqO (specialIn K (.int j t) "__get__") (some none)
  | _ => false
theorem conB_ok {K : Frag} {C : Addr} {f : PySem.Str} {i : Int} (h : conB K C f i = true) (cp : copiedNames.contains f = false) : ∃ u, Con K C f (.int i) u := by
  unfold conB at h
  split at h
  · rename_i j t e
    obtain ⟨h1, h2⟩ := ba h
    have e1 := of_decide_eq_true h1
    subst e1
    exact ⟨_, e, ⟨t, rfl⟩, eqO_ok h2, cp⟩
  · cases h
def cvalB (K : Frag) (C : Addr) (f : PySem.Str) (i : Int) : Bool := readsIn K C (.type "type") && (eqO (specialIn K (.ref C) "__getattribute__") (some (some (.builtin "type.__getattribute__"))) && (match findCls K (.ref C) (.type "type") f with
  | some (.val (.int j _)) => decide (j = i)
  | _ => false))
theorem cvalB_ok {K : Frag} {C : Addr} {f : PySem.Str} {i : Int} (h : cvalB K C f i = true) : ClX.CRead K C (.type "type") ∧ ∃ u, ClX.CVal K C (.type "type") f (.int i) u := by
  unfold cvalB at h
  obtain ⟨h1, h⟩ := ba h
  obtain ⟨h2, h3⟩ := ba h
  refine ⟨⟨h1, eqO_ok h2⟩, ?_⟩
  split at h3
  · rename_i j t e
    have e1 := of_decide_eq_true h3
    subst e1
    exact ⟨_, e, ⟨t, rfl⟩⟩
  · cases h3
/-- what isinstance asks of a class of instances -/
structure InsK (K : Frag) (C : Addr) : Prop where
  cl : Cls K C
  ha : findIn K (.ref C) "__class__" = some (some (.builtin "object.__class__"))
  hn : specialIn K (.builtin "object.__class__") "__get__" = some (some (.builtin "getset_descriptor.__get__"))
  ht : takesIn K (.builtin "object.__class__") = some true
  hm : mroIn K C (.type "object") = some true
theorem InsK.ty {K : Frag} {C a dx : Addr} {fs : List (PySem.Str × V)} {H : Hp} (k : InsK K C) (h : H a = some (.ins C dx fs)) : TyX K H (.ref a) (.ref C) := .base (.ins h k.cl k.ha k.hn k.ht k.hm)
def insKB (K : Frag) (C : Addr) : Bool := eqO (findIn K (.ref C) "__class__") (some (some (.builtin "object.__class__"))) && (eqO (specialIn K (.builtin "object.__class__") "__get__") (some (some (.builtin "getset_descriptor.__get__"))) && (decide (takesIn K (.builtin "object.__class__") = some true) && decide (mroIn K C (.type "object") = some true)))
/-- a def with *v: its positional promise -/
theorem okStar {P : Program} {w : World} {K : Frag} {mg : PySem.Str → Option Value} {base : Heap} {x qual pv : PySem.Str} {params : Arguments} {body : List Stmt} {scope : Scope} {kws : List (PySem.Str × V)} {f : Addr} {fd : FuncData} {N ps : List PySem.Str} {k : Nat} {sp : Sp} (F : FunD K x qual params body scope [] kws f fd) (S : FnScope N (ps ++ [pv]) scope)
    (hb : ∀ (kV doc pm : Value) (an : Option Addr) (cdv ct : Value) (us rest : List Value), us.length = ps.length → bindArgs (fnOf x qual params body scope .none kV doc pm an cdv ct) ⟨us ++ rest, []⟩ = (newTuple rest >>= fun t => pure (ps.zip us ++ [(pv, t)])))
    (hbody : ∀ (cdv : Value) (A : Around) (outer : List Env) (s : Shared) (H : Hp) (vs : List V) (Q : VK) (E : XK), Room k (A.deeper (envOfC qual scope s.heap.objs.size f cdv)) → sp vs H Q E →
      ∃ t, PSs (cxOf (L2N.CX P w) P w K mg base N qual scope f cdv A outer s H E) body t ∧ t { nx := fun _ H' => Q .non H', rt := Q } (start N vs) H) :
    FnR P w K mg base (L2N.CX P w) (k + 1) f (fun vs H Q E => ∃ ws rest, vs = ws ++ rest ∧ ws.length = ps.length ∧ rest.length ≤ sizeLine ∧ ∀ p, H p = none → sp (ws ++ [V.ref p]) (upd H p (.tup rest)) Q E) := by
  obtain ⟨oc, od, dV, kV, doc, pm, an, cdv, ct, osl, rfl, lk, hcd, hD, _⟩ := F.ex
  rcases hD with ⟨_, rfl⟩ | ⟨e, _⟩
  rotate_left
  · exact absurd rfl e
  exact StX.fn_star lk hcd S Cl.cxUpN (hb _ _ _ _ _ _) fun A outer s H vs Q E hr h => hbody cdv A outer s H vs Q E hr h
end Hk
/-! lists' methods, sorted, dicts with text keys, comprehensions with if; classes: steps -/
namespace Px
open PySem PySem.Spec PyProof.Rows L2
/-- sorted(xs): texts or ints, any number of them -/
def rSortedT (K : PySem.W.Frag) : List V → Hp → VK → Prop := fun vs H Q => ∃ (a : Addr) (xs : List Str), vs = [V.ref a] ∧ SqL K H a (xs.map V.str) ∧ ∀ (ys : List Str) (p : Addr), ys.Perm xs → sortedS ys = true → H p = none → Q (.ref p) (upd H p (.lst (ys.map V.str)))
def rSortAny (K : PySem.W.Frag) : List V → Hp → VK → Prop := fun vs H Q => rSortedT K vs H Q ∨ rSortedI K vs H Q
theorem cr_sortedP2 {X : Cx} : CallR X (.builtin "sorted") (rSortAny X.K) := by
  intro pins s σ H vs us Q I r h
  rcases h with ⟨a, xs, rfl, hs, q⟩ | h
  · obtain ⟨its, rv, hl, hz⟩ := I.list hs
    obtain ⟨u, rfl, ru⟩ := vals1 r
    cases ru
    refine PyProof.Rows.sorted_strsAny hl.isList rv.strs (by rw [← rv.length]; exact hz) fun out ys h1 h2 h3 => ?_
    obtain ⟨ep, he'⟩ := PyProof.Rows.sortedAll_at s.heap its out
    have hlen : (ys.map V.str).length ≤ sizeLine := by
      rw [List.length_map] at hz ⊢
      rw [h2.length_eq]
      exact hz
    exact ⟨.ref _, upd H (s.heap.objs.size + 1) (.lst (ys.map V.str)), I.laid (t' := s.toks) (fun _ _ => PyProof.Rows.sortedAll_old) (Nat.le_succ _) ⟨hlen, out.toList, ep, vals_of_strs h1, he'⟩, rfl, q ys _ h2 h3 (I.hok.fresh (Nat.le_succ _))⟩
  · exact cr_sortedI pins s σ H vs us Q I r h
section
variable {K : PySem.W.Frag} {σ : L2.St} {H H1 : Hp} {D : Ends} {Q : VK} {t : TA} {te to ta tv : TE} {v x y : V} {p : Addr} {xs : List V}
theorem s_bm {T : String} {r : V → List V → Hp → VK → Prop} (h : to σ H fun x H1 => tyV K T x H1 ∧ t σ H1 fun xs H2 => r x xs H2 Q) : tBM K T r to t σ H Q := h
theorem s_tyL {r : V → List V → Hp → VK → Prop} (hp : H p = some (.lst xs)) (h : t σ H fun xs H2 => r (.ref p) xs H2 Q) : tyV K "list" (.ref p) H ∧ t σ H fun xs H2 => r (.ref p) xs H2 Q := ⟨.inl ⟨rfl, _, SqL.of hp⟩, h⟩
theorem s_app (hp : H p = some (.lst xs)) (hl : xs.length ≤ 1000000) (h : Q .non (upd H p (.lst (xs ++ [y])))) : rAppend (.ref p) [y] H Q := ⟨p, xs, y, rfl, rfl, hp, by rw [sizeLine_eq]; omega, h⟩
theorem s_sort {ss : List Str} (hp : H p = some (.lst (ss.map V.str))) (hl : ss.length ≤ 1000000) (h : ∀ ys q, ys.Perm ss → sortedS ys = true → H q = none → Q (.ref q) (upd H q (.lst (ys.map V.str)))) : rSortAny K [.ref p] H Q := .inl ⟨p, ss, rfl, SqL.of hp, h⟩
theorem s_inL {neg : Bool} (hp : H p = some (.lst xs)) (fx : flatV x = true) (fs : xs.all flatV = true) (h : Q (.bl (tgtIn neg (inV x xs))) H) : rInP K neg x (.ref p) H Q := .inl ⟨p, xs, rfl, .inl (SqL.of hp), fx, fs, h⟩
theorem s_inT {neg : Bool} (hp : H p = some (.tup xs)) (fx : flatV x = true) (fs : xs.all flatV = true) (h : Q (.bl (tgtIn neg (inV x xs))) H) : rInP K neg x (.ref p) H Q := .inl ⟨p, xs, rfl, .inr (SqT.of hp), fx, fs, h⟩
theorem flat_strs (ss : List Str) : (ss.map V.str).all flatV = true := by rw [List.all_map]; exact List.all_eq_true.mpr fun _ _ => rfl
theorem inV_strs (z : Str) (ss : List Str) : inV (.str z) (ss.map V.str) = decide (z ∈ ss) := by
  unfold inV
  rw [List.any_map, Bool.eq_iff_iff, List.any_eq_true, decide_eq_true_iff]
  constructor
  · rintro ⟨y, hy, e⟩
    have e2 : (y == z) = true := e
    rw [← eq_of_beq e2]
    exact hy
  · intro h
    exact ⟨z, h, show (z == z) = true from beq_self_eq_true z⟩
theorem inV_ints (z : Int) (ss : List Int) : inV (.int z) (ss.map V.int) = decide (z ∈ ss) := by
  unfold inV
  rw [List.any_map, Bool.eq_iff_iff, List.any_eq_true, decide_eq_true_iff]
  constructor
  · rintro ⟨y, hy, e⟩
    have e2 : (y == z) = true := e
    rw [← eq_of_beq e2]
    exact hy
  · intro h
    exact ⟨z, h, show (z == z) = true from beq_self_eq_true z⟩
theorem s_inSL {neg : Bool} {z : Str} {ss : List Str} (hp : H p = some (.lst (ss.map V.str))) (h : Q (.bl (tgtIn neg (decide (z ∈ ss)))) H) : rInP K neg (.str z) (.ref p) H Q :=
  s_inL hp rfl (flat_strs ss) (by rw [inV_strs]; exact h)
/-! dicts that keep True for texts -/
def ksD (ks : List Str) : HO := .dK (ks.map fun k => (Sum.inr k, V.bl true))
theorem s_dnew (h : ∀ p, H p = none → Q (.ref p) (upd H p (ksD []))) : tDNewK σ H Q := h
theorem val_ks (z : Str) (ks : List Str) : (valV (ks.map fun k => ((Sum.inr k : Key), V.bl true)) (Sum.inr z)).isSome = decide (z ∈ ks) := by
  rw [← valV_any, List.any_map, Bool.eq_iff_iff, List.any_eq_true, decide_eq_true_iff]
  constructor
  · rintro ⟨y, hy, e⟩
    have e2 : (Sum.inr y : Key) = Sum.inr z := of_decide_eq_true e
    cases e2
    exact hy
  · intro h
    exact ⟨z, h, decide_eq_true rfl⟩
theorem s_inD {neg : Bool} {z : Str} {ks : List Str} (hp : H p = some (ksD ks)) (h : Q (.bl (tgtIn neg (decide (z ∈ ks)))) H) : rInP K neg (.str z) (.ref p) H Q :=
  .inr ⟨_, DGet.k (k := Sum.inr z) hp, by rw [val_ks]; exact h⟩
theorem put_ks (z : Str) (ks : List Str) : putK (ks.map fun k => ((Sum.inr k : Key), V.bl true)) (Sum.inr z) (.bl true) = (if z ∈ ks then ks else ks ++ [z]).map fun k => ((Sum.inr k : Key), V.bl true) := by
  unfold putK
  rw [valV_any, val_ks]
  by_cases h : z ∈ ks
  · rw [if_pos (decide_eq_true h), if_pos h, List.map_map]
    apply List.map_congr_left
    intro k _
    show (if (Sum.inr k : Key) = Sum.inr z then _ else _) = _
    split <;> rfl
  · rw [if_neg (by rw [decide_eq_false h]; exact Bool.false_ne_true), if_neg h, List.map_append]
    rfl
theorem s_putD {z : Str} {ks : List Str} {QH : Hp → Prop} (hp : H p = some (ksD ks)) (hl : ks.length ≤ 1000000) (h : QH (upd H p (ksD (if z ∈ ks then ks else ks ++ [z])))) : rSetP (.ref p) (.str z) (.bl true) H QH := by
  refine .inr ⟨_, DPut.k (k := Sum.inr z) hp (by rw [List.length_map, sizeLine_eq]; omega), ?_⟩
  rw [put_ks]
  exact h
/-- [e for x in a dict of texts] -/
theorem lc_keys {i v : Nat} {te : TE} {d : Addr} {ks : List Str} (f : Str → V) (hv : σ[i]? = some (some (.ref d))) (hd : H d = some (ksD ks)) (hl : ks.length ≤ 1000000)
    (hf : ∀ z ∈ ks, ∀ H' od, H' d = some (.frz od (ksD ks)) → (∀ b o, H b = some o → b ≠ d → H' b = some o) → ∀ Q' : VK, (∀ H'', Same H' H'' → Q' (f z) H'') → te (σ.set v (some (.str z))) H' Q')
    (hq : ∀ D H', H D = none → Same H H' → H' D = some (.lst (ks.map f)) → Q (.ref D) H') : tLockE (tLc (iKeys (tVar i)) (gName v) tYes te [v]) σ H Q := by
  refine ⟨d, ksD ks, hd, trivial, fun od => ?_⟩
  refine ⟨_, hv, d, od, rfl, .inl ⟨_, upd_same, ?_⟩⟩
  have hy : ∀ j H', Same (upd H d (.frz od (ksD ks))) H' → YieldsAt (Itk d od (ks.map fun k => ((Sum.inr k : Key), V.bl true))) (ks.map V.str) j H' := by
    intro j H' sm
    have hd' := sm _ _ (upd_same (H := H) (a := d) (o := HO.frz od (ksD ks)))
    refine ⟨fun hj => ⟨⟨hd', by simpa using hj⟩, fun x H'' y => ?_⟩, fun hj => ⟨hd', by simpa using hj⟩⟩
    obtain ⟨e, k, w, hk, rfl⟩ := y
    refine ⟨e, ?_⟩
    rw [List.getElem?_map] at hk ⊢
    cases e2 : ks[j]? with
    | none => rw [e2] at hk; cases hk
    | some z =>
      rw [e2] at hk
      have hk2 : ((Sum.inr z : Key), V.bl true) = (k, w) := Option.some.inj hk
      cases hk2
      rfl
  have old : ∀ b o, H b = some o → b ≠ d → (upd H d (.frz od (ksD ks))) b = some o := fun b o e n => by rw [upd_ne n]; exact e
  show LcB (Itk d od (ks.map fun k => ((Sum.inr k : Key), V.bl true))) (gName v) tYes te [v] σ (fun v H' => H' d = some (.frz od (ksD ks)) ∧ Q v (upd H' d (ksD ks))) (upd H d (.frz od (ksD ks)))
  refine lc_map (Q := fun v H' => H' d = some (.frz od (ksD ks)) ∧ Q v (upd H' d (ksD ks))) (σ := σ) (v := v) (te := te) (f := fun x => match x with | .str z => f z | _ => .non) (by rw [List.length_map]; exact hl) hy ?_ ?_
  · intro x hx H' sm Q' hQ
    obtain ⟨z, hz, rfl⟩ := List.mem_map.mp hx
    exact hf z hz H' od (sm _ _ upd_same) (fun b o e n => sm _ _ (old b o e n)) Q' hQ
  · intro D H' hD sm hr
    have hDd : D ≠ d := fun e => by rw [e, upd_same] at hD; cases hD
    rw [upd_ne hDd] at hD
    refine ⟨sm _ _ upd_same, hq D _ hD (fun b o e => ?_) ?_⟩
    · by_cases n : b = d
      · subst n
        rw [upd_same, ← hd, e]
      · rw [upd_ne n]
        exact sm _ _ (old b o e n)
    · rw [upd_ne hDd, hr, List.map_map]
      rfl
theorem s_tupL (hp : H p = some (.lst xs)) (h : ∀ l, H l = none → Q (.ref l) (upd H l (.tup xs))) : rTupleP K [.ref p] H Q := ⟨p, xs, rfl, .inl ⟨SqL.of hp, h⟩⟩
theorem s_listT (hp : H p = some (.tup xs)) (h : ∀ l, H l = none → Q (.ref l) (upd H l (.lst xs))) : rListP K [.ref p] H Q := ⟨p, xs, rfl, .inr (SqT.of hp), h⟩
theorem s_strS {z : Str} (h : Q (.str z) H) : rStrP [.str z] H Q := h
/-! classes -/
theorem s_make {C : Addr} {sp : Sp} {E : L2.St → XK} (h : t σ H fun vs H1 => ∀ x dx, H1 x = none → H1 dx = none → dx ≠ x → sp (V.ref x :: vs) (upd (upd H1 dx (.own x)) x (.ins C dx [])) (fun v H2 => v = .non ∧ Q (.ref x) H2) (E σ)) : Cl.tMakeS C sp E t σ H Q := h
theorem s_cls {v : V} (h : Q v H) : Cl.tCls v σ H Q := h
theorem s_att {l : List (Addr × Cl.Alt)} (h : te σ H fun x H1 => ∃ (a dx : Addr) (fs : List (Str × V)) (i : Nat) (C : Addr) (r : Cl.Alt), x = .ref a ∧ l[i]? = some (C, r) ∧ H1 a = some (.ins C dx fs) ∧ r a fs σ H1 Q) : Cl.tAtt l te σ H Q := h
theorem s_setA {l : List Addr} {f : Str} (h : tv σ H fun y H1 => ta σ H1 fun x H2 => ∃ a C dx fs, x = .ref a ∧ C ∈ l ∧ H2 a = some (.ins C dx fs) ∧ fs.length < 1000 ∧ D.nx σ (upd H2 a (.ins C dx (putF f y fs)))) : Cl.sAtt l ta tv f D σ H := h
end
end Px
/-! operators of own classes -/
namespace Cl
open PySem PySem.Spec PyProof.Rows L2
abbrev R2S := L2.St → R2
def tOpS (r : R2S) (ta tb : TE) : TE := fun σ H Q => ta σ H fun x H1 => tb σ H1 fun y H2 => r σ x y H2 Q
section
variable {X : Cx} {CX : CXT} {k : Nat} {f C : Addr} {sp : Sp} {E : L2.St → XK} {a b : Expr} {ta tb : TE} {pos : Pos} {r : R2S}
/-- a def is run by its positional promise, its exceptions by the slots -/
theorem run_RS {pins : List (Addr × Obj)} {σ : L2.St} {H : Hp} {s : Shared} {Q : VK} {us : List Value} {vs : List V} (F : FnR X.prog X.w X.K X.mg X.base CX k f sp) (hr : Room k X.A) (hx : PassesAt CX X σ (E σ)) (I : Inv X pins σ H s) (rv : Vals vs us) (h : sp vs H Q (E σ)) :
    wpAny (model X.prog X.w) X.A (call (.ref f) us) (EP X pins σ Q) X.xe s := by
  refine wpAny_call (codeAny_mono (F X.A X.stack s H us vs Q (E σ) hr I.env0 rv h) fun r s' hq => ?_)
  cases r with
  | error e => exact hx pins H s e s' I hq
  | ok fl =>
    cases fl with
    | ret u => exact I.after hq
    | _ => exact hq.elim
/-- alternatives by the class of the left object -/
def AltB (X : Cx) (f : Value → Value → Sem Value) (C : Addr) (sp : Sp) (E : L2.St → XK) : Prop := ∀ (pins : List (Addr × Obj)) (s : Shared) (σ : L2.St) (H : Hp) (a b dx dy : Addr) (fs gs : List (Str × V)) (Q : VK), Inv X pins σ H s → H a = some (.ins C dx fs) → H b = some (.ins C dy gs) → sp [.ref a, .ref b] H Q (E σ) →
  wpAny (model X.prog X.w) X.A (f (.ref a) (.ref b)) (EP X pins σ Q) X.xe s
structure OwnOp (K : PySem.W.Frag) (C : Addr) (m : Str) (f : Addr) : Prop where
  at_ : PySem.W.findIn K (.ref C) m = some (some (.ref f))
  fn : PySem.W.isFn K (.ref f) = true
  sf : PySem.W.selfFirst K C = true
inductive AltBs (X : Cx) (f : Value → Value → Sem Value) (E : L2.St → XK) : List (Addr × Sp) → Prop
  | nil : AltBs X f E []
  | cons {C : Addr} {sp : Sp} {l : List (Addr × Sp)} : AltB X f C sp E → AltBs X f E l → AltBs X f E ((C, sp) :: l)
theorem AltBs.at {g : Value → Value → Sem Value} {l : List (Addr × Sp)} (h : AltBs X g E l) : ∀ {i : Nat}, l[i]? = some (C, sp) → AltB X g C sp E := by
  induction h with
  | nil => intro i e; cases e
  | cons h _ ih =>
    intro i e
    cases i with
    | zero => cases e; exact h
    | succ i => exact ih (by simpa using e)
/-! x in an own container -/
def AltI (X : Cx) (C : Addr) (sp : Sp) (E : L2.St → XK) : Prop := ∀ (neg : Bool) (pins : List (Addr × Obj)) (s : Shared) (σ : L2.St) (H : Hp) (x : V) (v : Value) (b dy : Addr) (gs : List (Str × V)) (Q : VK), Inv X pins σ H s → RelV x v → H b = some (.ins C dy gs) → sp [.ref b, x] H (fun z H' => ∃ c, z = .bl c ∧ Q (.bl (Px.tgtIn neg c)) H') (E σ) →
  wpAny (model X.prog X.w) X.A (compareOp (if neg then .NotIn else .In) v (.ref b)) (EP X pins σ Q) X.xe s
inductive AltIs (X : Cx) (E : L2.St → XK) : List (Addr × Sp) → Prop
  | nil : AltIs X E []
  | cons {C : Addr} {sp : Sp} {l : List (Addr × Sp)} : AltI X C sp E → AltIs X E l → AltIs X E ((C, sp) :: l)
theorem AltIs.at {l : List (Addr × Sp)} (h : AltIs X E l) : ∀ {i : Nat}, l[i]? = some (C, sp) → AltI X C sp E := by
  induction h with
  | nil => intro i e; cases e
  | cons h _ ih =>
    intro i e
    cases i with
    | zero => cases e; exact h
    | succ i => exact ih (by simpa using e)
end
end Cl
/-! walking own objects: __iter__ says return iter(self.f), f a tuple -/
namespace Cl
open PySem PySem.Spec PyProof.Rows L2
/-- an iterator of the tuple at t, as it begins -/
def TiO (t it : Addr) : HO := .ext fun h => h.IsTupleIter it t 0
/-- what a class must have that its objects are walked by the tuple in the field f -/
structure IterF (P : Program) (w : World) (K : PySem.W.Frag) (mg : Str → Option Value) (base : Heap) (k : Nat) (C : Addr) (f : Str) : Prop where
  run : ∃ fi : Addr, PySem.W.findIn K (.ref C) "__iter__" = some (some (.ref fi)) ∧ PySem.W.isFn K (.ref fi) = true ∧
    ∀ (A : Around) (outer : List Env) (s : Shared) (H : Hp) (a dx t : Addr) (fs : List (Str × V)) (xs : List V), Room k A → Env0 P w K mg base A outer s H → H a = some (.ins C dx fs) → fs.lookup f = some (.ref t) → SqT K H t xs →
      codeAny (model P w) A (.call (.ref fi) ⟨[.ref a], []⟩) (CR (L2N.CX P w) outer P w H s (fun y H' => ∃ it, y = .ref it ∧ H it = none ∧ s.heap.objs.size ≤ it ∧ H' = upd H it (TiO t it)) E0) s
section
variable {X : Cx} {k : Nat} {C : Addr} {f : Str} {pins : List (Addr × Obj)} {σ : L2.St} {H : Hp} {s : Shared} {a dx t : Addr} {fs : List (Str × V)} {xs : List V}
/-- len's promise: so many, all stands -/
def spLen (C : Addr) (f : Str) : Sp := fun vs H Q _ => ∃ a dx fs t xs, vs = [.ref a] ∧ H a = some (.ins C dx fs) ∧ fs.lookup f = some (.ref t) ∧ H t = some (.tup xs) ∧ xs.length ≤ 1000000 ∧ Q (.int xs.length) H
end
end Cl
namespace Cl
open PySem PySem.Spec PyProof.Rows L2 Px
/-- a class whose objects are walked and counted by the tuple in the field f -/
def WalkC (X : Cx) (C : Addr) (f : Str) : Prop := ∃ (n : Nat) (fl : Addr), IterF X.prog X.w X.K X.mg X.base n C f ∧ OwnOp X.K C "__len__" fl ∧ FnR X.prog X.w X.K X.mg X.base (L2N.CX X.prog X.w) n fl (spLen C f) ∧ Room (n + 3) X.A
inductive WalkCs (X : Cx) : List (Addr × Str) → Prop
  | nil : WalkCs X []
  | cons {C : Addr} {f : Str} {l : List (Addr × Str)} : WalkC X C f → WalkCs X l → WalkCs X ((C, f) :: l)
section
variable {X : Cx} {l : List (Addr × Str)}
theorem WalkCs.at (h : WalkCs X l) : ∀ {i : Nat} {C : Addr} {f : Str}, l[i]? = some (C, f) → WalkC X C f := by
  induction h with
  | nil => intro i C f e; cases e
  | cons h _ ih =>
    intro i C f e
    cases i with
    | zero => cases e; exact h
    | succ i => exact ih (by simpa using e)
/-- x is an object of one of the classes, its tuple holds xs -/
def OwnT (l : List (Addr × Str)) (x : V) (H : Hp) (t : Addr) (xs : List V) : Prop := ∃ (i : Nat) (C : Addr) (f : Str) (a dx : Addr) (fs : List (Str × V)), l[i]? = some (C, f) ∧ x = .ref a ∧ H a = some (.ins C dx fs) ∧ fs.lookup f = some (.ref t) ∧ H t = some (.tup xs) ∧ xs.length ≤ 1000000
/-- for .. in x -/
def AnyB (K : PySem.W.Frag) (x : V) (H1 : Hp) (R : L2.It → Hp → Prop) : Prop := match x with
  | .str z => R (Its z) H1
  | .ref a => ((∃ xs, SqL K H1 a xs) ∧ R (Itl K a) H1) ∨ ((∃ xs, SqT K H1 a xs) ∧ R (Itt K a) H1)
  | _ => False
def iAnyO (K : PySem.W.Frag) (l : List (Addr × Str)) (te : TE) : TI := fun σ H R => te σ H fun x H1 => AnyB K x H1 R ∨ ∃ t xs, OwnT l x H1 t xs ∧ R (Itt K t) H1
end
end Cl
namespace Hk
open PySem PySem.W PySem.Spec PyProof.Rows L2 He
def ownB (K : Frag) (C : Addr) (m : PySem.Str) : Bool := eqO (findIn K (.ref C) m) (some (some (.ref (ma K C m)))) && (isFn K (.ref (ma K C m)) && selfFirst K C)
theorem ownB_ok {K : Frag} {C : Addr} {m : PySem.Str} (h : ownB K C m = true) : Cl.OwnOp K C m (ma K C m) := by
  unfold ownB at h
  obtain ⟨h1, h⟩ := ba h
  obtain ⟨h2, h3⟩ := ba h
  exact ⟨eqO_ok h1, h2, h3⟩
end Hk
namespace Px
open PySem PySem.Spec PyProof.Rows L2
section
variable {K : PySem.W.Frag} {l : List (Addr × Str)} {σ : L2.St} {H : Hp} {D : Ends} {Q : VK} {te ta tb : TE}
theorem s_opS {r : Cl.R2S} (h : ta σ H fun x H1 => tb σ H1 fun y H2 => r σ x y H2 Q) : Cl.tOpS r ta tb σ H Q := h
def ForBodyO (K : PySem.W.Frag) (l : List (Addr × Str)) (g : TG) (tb : TS) (D : Ends) (σ : L2.St) (x : V) (H1 : Hp) : Prop := ForBody K g tb D σ x H1 ∨ ∃ t xs, Cl.OwnT l x H1 t xs ∧ ForB (Itt K t) g tb D σ H1
theorem s_forO {g : TG} {tb : TS} (h : te σ H fun x H1 => ForBodyO K l g tb D σ x H1) : tFor (Cl.iAnyO K l te) g tb D σ H := h
def LcBodyO (K : PySem.W.Frag) (l : List (Addr × Str)) (g : TG) (tt : TT) (te : TE) (vs : List Nat) (σ : L2.St) (Q : VK) (x : V) (H1 : Hp) : Prop := LcBody K g tt te vs σ Q x H1 ∨ ∃ t xs, Cl.OwnT l x H1 t xs ∧ LcB (Itt K t) g tt te vs σ Q H1
theorem s_lcO {g : TG} {tt : TT} {te0 : TE} {vs : List Nat} (h : te0 σ H fun x H1 => LcBodyO K l g tt te vs σ Q x H1) : tLc (Cl.iAnyO K l te0) g tt te vs σ H Q := h
end
end Px
/-! methods of own objects: o.m(..), o(..), o[i], str(o); sep.join(..) -/
namespace Cl
open PySem PySem.Spec PySem.Calls PyProof.Rows L2 Px
theorem fnIn_of {K : PySem.W.Frag} {x qual : Str} {params : Arguments} {body : List Stmt} {scope : Scope} {dvs : List V} {kws : List (Str × V)} {f : Addr} {fd : FuncData} (F : FunD K x qual params body scope dvs kws f fd) : PySem.W.fnIn K f = true := by
  obtain ⟨oc, od, dV, kV, doc, pm, an, cdv, ct, osl, rfl, lk, _⟩ := F.ex
  unfold PySem.W.fnIn
  rw [lk]
/-- the class at C has the def m, which keeps the promise sp -/
structure OwnM (X : Cx) (m : Str) (E : L2.St → XK) (C : Addr) (sp : Sp) : Prop where
  cls : Cls X.K C
  ex : ∃ (CX : CXT) (k : Nat) (f : Addr), OwnOp X.K C m f ∧ PySem.W.keepIn X.K (.ref f) = true ∧ PySem.W.fnIn X.K f = true ∧ FnR X.prog X.w X.K X.mg X.base CX k f sp ∧ Room (k + 2) X.A ∧ ∀ σ, PassesAt CX X σ (E σ)
inductive OwnMs (X : Cx) (m : Str) (E : L2.St → XK) : List (Addr × Sp) → Prop
  | nil : OwnMs X m E []
  | cons {C : Addr} {sp : Sp} {l : List (Addr × Sp)} : OwnM X m E C sp → OwnMs X m E l → OwnMs X m E ((C, sp) :: l)
section
variable {X : Cx} {CX : CXT} {k : Nat} {f C : Addr} {sp : Sp} {E : L2.St → XK} {m : Str} {l : List (Addr × Sp)} {o e a b : Expr} {es : List Expr} {ta tb te : TE} {t : TA} {apos pos p : Pos} {x : Str}
theorem OwnMs.at (h : OwnMs X m E l) : ∀ {i : Nat} {C : Addr} {sp : Sp}, l[i]? = some (C, sp) → OwnM X m E C sp := by
  induction h with
  | nil => intro i C sp e; cases e
  | cons h _ ih =>
    intro i C sp e
    cases i with
    | zero => cases e; exact h
    | succ i => exact ih (by simpa using e)
theorem ownM_of {x qual : Str} {params : Arguments} {body : List Stmt} {scope : Scope} {dvs : List V} {kws : List (Str × V)} {fd : FuncData} (c : Cls X.K C) (o : OwnOp X.K C m f) (D : FunD X.K x qual params body scope dvs kws f fd) (F : FnR X.prog X.w X.K X.mg X.base CX k f sp) (hr : Room (k + 2) X.A) (hx : ∀ σ, PassesAt CX X σ (E σ)) : OwnM X m E C sp :=
  ⟨c, CX, k, f, o, D.kp, fnIn_of D, F, hr, hx⟩
/-- o.m(e, ..) -/
def tMethO (l : List (Addr × Sp)) (m : Str) (E : L2.St → XK) (ta : TE) (t : TA) : TE := fun σ H Q => ta σ H fun x H1 => ∃ (i : Nat) (C : Addr) (sp : Sp) (a dx : Addr) (fs : List (Str × V)), l[i]? = some (C, sp) ∧ x = .ref a ∧ H1 a = some (.ins C dx fs) ∧ fs.lookup m = none ∧ t σ H1 fun vs H2 => sp (.ref a :: vs) H2 Q (E σ)
theorem pe_methO {pl : Sem Bool} (h : OwnMs X m E l) (he : PE X o ta) (ha : PA X (e :: es) t)
    (hst : starEach (e :: es) X.env = (false, eval e X.env) :: starEach es X.env := by rfl) (hpl : (backTo pos (starEach es X.env)).any (·.1) = false := by rfl)
    (ht : eval (.Call (.Attribute o m apos) (e :: es) [] pos) X.env = (do
      let ov ← eval o X.env
      standAt apos.atName
      let (f, first) ← holding [ov] (getMethod ov m pl)
      callWith pos f first (backTo pos (starEach (e :: es) X.env)) (backToKw pos (keywordEach [] X.env))) := by rfl) :
    PE X (.Call (.Attribute o m apos) (e :: es) [] pos) (tMethO l m E ta t) := by
  refine ⟨fun pins s σ H Q I hh => ?_⟩
  refine PySem.W.methodCall_KW (pl := pl) (thn (he.run pins s σ H _ I hh) fun u s1 ⟨x, H1, I1, rx, i, C, sp, a, dx, fs, hl, ex, ea, lk, q⟩ => ?_) ht
  subst ex
  obtain rfl : u = Value.ref a := rx
  have M := h.at hl
  obtain ⟨CX, k, f, o, hk, hf, F, hr, hx⟩ := M.ex
  refine getmeth_ok I1 ea M.cls ⟨o.at_, o.fn, hk⟩ lk ?_
  refine PySem.W.callWith_K (first := [.ref a]) (h₀ := X.base) I.ok.mod.kin hk (thn (ha.run pos pins s1 σ H1 _ I1 q) fun us s2 ⟨vs, H2, I2, r, q2⟩ => ⟨I2.kIn, ?_⟩) hst hpl
  exact run_RS (us := .ref a :: us) (vs := .ref a :: vs) F (hr.mono (by omega)) (hx σ) I2 (.cons rfl r) q2
/-- o(e, ..) -/
def tCallO (l : List (Addr × Sp)) (E : L2.St → XK) (ta : TE) (t : TA) : TE := fun σ H Q => ta σ H fun x H1 => ∃ a, x = .ref a ∧ t σ H1 fun vs H2 => ∃ (i : Nat) (C : Addr) (sp : Sp) (dx : Addr) (fs : List (Str × V)), l[i]? = some (C, sp) ∧ H2 a = some (.ins C dx fs) ∧ sp (.ref a :: vs) H2 Q (E σ)
end
end Cl
namespace Hk
open PySem PySem.Spec PySem.W PyProof.Rows L2 He
end Hk
namespace Px
open PySem PySem.Spec PyProof.Rows L2
section
variable {K : PySem.W.Frag} {σ : L2.St} {H : Hp} {Q : VK} {ta te : TE} {t : TA}
theorem s_methO {l : List (Addr × Sp)} {m : Str} {E : L2.St → XK} (h : ta σ H fun x H1 => ∃ (i : Nat) (C : Addr) (sp : Sp) (a dx : Addr) (fs : List (Str × V)), l[i]? = some (C, sp) ∧ x = .ref a ∧ H1 a = some (.ins C dx fs) ∧ fs.lookup m = none ∧ t σ H1 fun vs H2 => sp (.ref a :: vs) H2 Q (E σ)) : Cl.tMethO l m E ta t σ H Q := h
theorem s_callO {l : List (Addr × Sp)} {E : L2.St → XK} (h : ta σ H fun x H1 => ∃ a, x = .ref a ∧ t σ H1 fun vs H2 => ∃ (i : Nat) (C : Addr) (sp : Sp) (dx : Addr) (fs : List (Str × V)), l[i]? = some (C, sp) ∧ H2 a = some (.ins C dx fs) ∧ sp (.ref a :: vs) H2 Q (E σ)) : Cl.tCallO l E ta t σ H Q := h
theorem s_exr {a : Addr} {R : Addr → Prop} (h : R a) : ∃ b, (V.ref a = .ref b) ∧ R b := ⟨a, rfl, h⟩
theorem s_m1 {r : V → List V → Hp → VK → Prop} {z : Str} (h : te σ H fun y H2 => r (.str z) [y] H2 Q) : tM1 r (tC (.str z)) te σ H Q := ⟨⟨z, rfl⟩, h⟩
end
end Px
/-! C.m(e, ..), m a staticmethod of the class C -/
namespace Cl
open PySem PySem.Spec PySem.Calls PyProof.Rows L2 Px
structure SMet (K : PySem.W.Frag) (C : Addr) (m : Str) (p g : Addr) : Prop where
  rd : ClX.CRead K C (.type "type")
  at_ : PySem.W.findCls K (.ref C) (.type "type") m = some (.get (.builtin "staticmethod.__get__") (.ref p) .none (.ref C))
  rc : ∃ rest, PySem.W.recIn K p "staticmethod" = some (.ref g :: rest)
def tSMeth (C : Addr) (sp : Sp) (E : L2.St → XK) (ta : TE) (t : TA) : TE := fun σ H Q => ta σ H fun x H1 => x = .ref C ∧ t σ H1 fun vs H2 => sp vs H2 Q (E σ)
section
variable {X : Cx} {CX : CXT} {k : Nat} {C p g : Addr} {sp : Sp} {E : L2.St → XK} {o e : Expr} {es : List Expr} {m : Str} {pos apos : Pos} {ta : TE} {t : TA} {pl : Sem Bool}
end
end Cl
namespace Hk
open PySem PySem.Spec PySem.W PyProof.Rows L2 He
end Hk
namespace Px
open PySem PySem.Spec PyProof.Rows L2
theorem s_smeth {σ : L2.St} {H : Hp} {Q : VK} {C : Addr} {sp : Sp} {E : L2.St → XK} {t : TA} (h : t σ H fun vs H2 => sp vs H2 Q (E σ)) : Cl.tSMeth C sp E (tC (.ref C)) t σ H Q := ⟨rfl, h⟩
end Px
/-! defs called within an except suite, the handled exception one of their arguments -/
namespace L2H
open PySem PySem.Spec PyProof.Rows L2 HotX
/-- what such a def promises: a the exception's place, cls its class, d its dict -/
structure FnE (P : Program) (w : World) (K : PySem.W.Frag) (mg : Str → Option Value) (base : Heap) (CX : CXT) (k : Nat) (f : Addr) (fd : FuncData) (ps : List Str) (sp : Addr → Value → Option Addr → Sp) : Prop where
  len : ∀ a cls d vs H Q E, sp a cls d vs H Q E → vs.length = ps.length
  run : ∀ (A : Around) (outer : List Env) (s : Shared) (H : Hp) (args : Args) (us : List Value) (vs : List V) (Q : VK) (E : XK) (p : Addr × Obj) (cls : Value) (d : Option Addr), RoomH k A → Hot1 A p → Zc cls d p.2 → PinOk outer H s p → Env0 P w K mg base A outer s H → BindsTo s fd args (ps.zip us) → Vals vs us → sp p.1 cls d vs H Q E →
    codeAny (model P w) A (.call (.ref f) args) (CR CX outer P w H s Q E) s
section
variable {X : Cx} {CX : CXT} {k : Nat} {f a : Addr} {fd : FuncData} {ps : List Str} {sp : Addr → Value → Option Addr → Sp} {E : St → XK} {x : Str} {q pos : Pos} {e : Expr} {es : List Expr} {t : TA} {oe : Obj} {cls : Value} {d : Option Addr} {pn : List (Addr × Obj)}
end
end L2H
namespace L2
open PySem PySem.Spec PyProof.Rows
end L2
/-! defs with defaults, gcd, f-strings -/
namespace Cl
open PySem PySem.Spec PySem.Calls PyProof.Rows L2 Px
end Cl
namespace Hk
open PySem PySem.Spec PySem.W PyProof.Rows L2 He
end Hk
namespace Px
open PySem PySem.Spec PyProof.Rows L2
section
variable {σ : L2.St} {H : Hp} {Q : VK} {te : TE}
end
end Px
/-! operators of an own object and an int, on either side -/
namespace Cl
open PySem PySem.Spec PySem.Calls PySem.W PyProof.Rows L2 Px
section
variable {prog : Program} {w : World} {M : Model} {A : Around} {E : Value → Shared → Prop} {s : Shared} {K : PySem.W.Frag} {y C L f g : Addr} {h₀ : Heap} {m : Str → Option Value} {oy : Obj} {od : Option Obj}
/-- an int's method that says NotImplemented to an own object -/
def NoInt (B : Builtin) : Prop := ∀ (M : Model) (A : Around) (E : Value → Shared → Prop) (s : Shared) (y : Addr) (oy : Obj) (i : Int) (tk : Tok) (Q : Value → Shared → Prop), s.heap.get? y = some oy → oy.data = .plain → Q .notImplemented s → wpAny M A (B ⟨[.int i tk, .ref y], []⟩) (fun fin s' => ∃ v, fin = .done (.ret v) ∧ Q v s') E s
end
end Cl
namespace Cl
open PySem PySem.Spec PySem.Calls PyProof.Rows L2 Px
structure MixOp (K : PySem.W.Frag) (C : Addr) (op : Operator) (f g : Addr) : Prop where
  at_ : PySem.W.findIn K (.ref C) (PySem.dunder op.info.2) = some (some (.ref f))
  fn : PySem.W.isFn K (.ref f) = true
  sf : PySem.W.selfFirst K C = true
  rat : PySem.W.findIn K (.ref C) (dunderR op.info.2) = some (some (.ref g))
  rfn : PySem.W.isFn K (.ref g) = true
  i1 : ∃ fo, PySem.W.findIn K (.type "int") (PySem.dunder op.info.2) = some fo
  i2 : ∃ ro, PySem.W.findIn K (.type "int") (dunderR op.info.2) = some ro
  s1 : PySem.W.subIn K (.type "int") (.ref C) = some false
  s2 : PySem.W.subIn K (.ref C) (.type "int") = some false
  ni : ∃ cd, PySem.W.clsIn K C = some cd ∧ ∀ c ∈ cd.mro, PySem.W.findIn K c (dunderI op.info.2) = some none
structure IntOp (op : Operator) : Prop where
  fills : fillsNumberSlot (.type "int") op.info.2 = pure true
  ex : ∃ (id : String) (B : Builtin), NoInt B ∧ Slot "int" (PySem.dunder op.info.2) id ∧ entryFor table id = some B ∧ ∀ a b : Value, argsOk id ⟨[a, b], []⟩
/-- own op own, own op int; int op own -/
structure MixAt (X : Cx) (op : Operator) (E : L2.St → XK) (C : Addr) (sp spr : Sp) : Prop where
  fwd : ∀ (pins : List (Addr × Obj)) (s : Shared) (σ : L2.St) (H : Hp) (a dx : Addr) (fs : List (Str × V)) (y : V) (u : Value) (Q : VK), Inv X pins σ H s → H a = some (.ins C dx fs) → RelV y u → ((∃ b dy gs, y = .ref b ∧ H b = some (.ins C dy gs)) ∨ ∃ n, y = .int n) → sp [.ref a, y] H Q (E σ) →
    wpAny (model X.prog X.w) X.A (binaryOp1 op.info.2 (.ref a) u) (fun r s' => ∃ v, r = some v ∧ EP X pins σ Q v s') X.xe s
  bwd : ∀ (pins : List (Addr × Obj)) (s : Shared) (σ : L2.St) (H : Hp) (b dy : Addr) (gs : List (Str × V)) (n : Int) (tk : Tok) (Q : VK), Inv X pins σ H s → H b = some (.ins C dy gs) → spr [.ref b, .int n] H Q (E σ) →
    wpAny (model X.prog X.w) X.A (binaryOp1 op.info.2 (.int n tk) (.ref b)) (fun r s' => ∃ v, r = some v ∧ EP X pins σ Q v s') X.xe s
  ni : ∃ cd, PySem.W.clsIn X.K C = some cd ∧ ∀ c ∈ cd.mro, PySem.W.findIn X.K c (dunderI op.info.2) = some none
inductive Mixes (X : Cx) (op : Operator) (E : L2.St → XK) : List (Addr × Sp × Sp) → Prop
  | nil : Mixes X op E []
  | cons {C : Addr} {sp spr : Sp} {l : List (Addr × Sp × Sp)} : MixAt X op E C sp spr → Mixes X op E l → Mixes X op E ((C, sp, spr) :: l)
theorem Mixes.at {X : Cx} {op : Operator} {E : L2.St → XK} {l : List (Addr × Sp × Sp)} (h : Mixes X op E l) : ∀ {i : Nat} {C : Addr} {sp spr : Sp}, l[i]? = some (C, sp, spr) → MixAt X op E C sp spr := by
  induction h with
  | nil => intro i C sp spr e; cases e
  | cons h _ ih =>
    intro i C sp spr e
    cases i with
    | zero => cases e; exact h
    | succ i => exact ih (by simpa using e)
def tAugO (i : Nat) (te : TE) (r : R2S) : TS := fun D σ H => ∃ x, σ[i]? = some (some x) ∧ te σ H fun y H1 => r σ x y H1 fun z H2 => D.nx (σ.set i (some z)) H2
end Cl
namespace Hk
open PySem PySem.Spec PySem.W PyProof.Rows L2 He
end Hk
namespace Px
open PySem PySem.Spec PyProof.Rows L2
theorem s_augO {i : Nat} {te : TE} {r : Cl.R2S} {D : Ends} {σ : L2.St} {H : Hp} {v : V} (e : σ[i]? = some (some v)) (h : te σ H fun y H1 => r σ v y H1 fun z H2 => D.nx (σ.set i (some z)) H2) : Cl.tAugO i te r D σ H := ⟨v, e, h⟩
end Px
/-! comparisons of an own object and any value, on either side; -o, abs(o), bool(o) -/
namespace Cl
open PySem PySem.Spec PySem.Calls PySem.W PyProof.Rows L2 Px
section
variable {prog : Program} {w : World} {M : Model} {A : Around} {E : Value → Shared → Prop} {s : Shared} {K : PySem.W.Frag} {y C L f g : Addr} {h₀ : Heap} {m : Str → Option Value} {oy : Obj} {od : Option Obj}
end
end Cl
namespace Cl
open PySem PySem.Spec PySem.Calls PyProof.Rows L2 Px
structure CmpK (K : PySem.W.Frag) (C : Addr) (op : CmpOp) (f g : Addr) : Prop where
  at_ : PySem.W.findIn K (.ref C) (cmpInfo op).2.1 = some (some (.ref f))
  fn : PySem.W.isFn K (.ref f) = true
  rat : PySem.W.findIn K (.ref C) (cmpInfo op).2.2 = some (some (.ref g))
  rfn : PySem.W.isFn K (.ref g) = true
  sub : ∀ T ∈ (["int", "str", "tuple", "list"] : List String), PySem.W.subIn K (.type T) (.ref C) = some false ∧ PySem.W.subIn K (.ref C) (.type T) = some false
/-- what may stand beside an own object of the class C -/
inductive Beside (H : Hp) (C : Addr) : V → Prop
  | own {b dy : Addr} {gs : List (Str × V)} : H b = some (.ins C dy gs) → Beside H C (.ref b)
  | int (n : Int) : Beside H C (.int n)
  | str (z : Str) : Beside H C (.str z)
  | tup {b : Addr} {xs : List V} : H b = some (.tup xs) → Beside H C (.ref b)
  | lst {b : Addr} {xs : List V} : H b = some (.lst xs) → Beside H C (.ref b)
/-- what may stand left of it -/
inductive LeftOk : CmpOp → V → Prop
  | int {op : CmpOp} (n : Int) : LeftOk op (.int n)
  | str (z : Str) : LeftOk .Eq (.str z)
structure IntCmp (op : CmpOp) : Prop where
  ex : ∃ (id : String) (B : Builtin), NoInt B ∧ Slot "int" (cmpInfo op).2.1 id ∧ entryFor table id = some B ∧ ∀ a b : Value, argsOk id ⟨[a, b], []⟩
  hop : ∀ x y, compareOp op x y = richCompare op x y
structure CmpAt (X : Cx) (op : CmpOp) (E : L2.St → XK) (C : Addr) (sp spr : Sp) : Prop where
  fwd : ∀ (pins : List (Addr × Obj)) (s : Shared) (σ : L2.St) (H : Hp) (a dx : Addr) (fs : List (Str × V)) (y : V) (u : Value) (Q : VK), Inv X pins σ H s → H a = some (.ins C dx fs) → RelV y u → Beside H C y → sp [.ref a, y] H Q (E σ) →
    wpAny (model X.prog X.w) X.A (compareOp op (.ref a) u) (EP X pins σ Q) X.xe s
  bwd : ∀ (pins : List (Addr × Obj)) (s : Shared) (σ : L2.St) (H : Hp) (b dy : Addr) (gs : List (Str × V)) (x : V) (u : Value) (Q : VK), Inv X pins σ H s → H b = some (.ins C dy gs) → RelV x u → LeftOk op x → spr [.ref b, x] H Q (E σ) →
    wpAny (model X.prog X.w) X.A (compareOp op u (.ref b)) (EP X pins σ Q) X.xe s
inductive CmpAts (X : Cx) (op : CmpOp) (E : L2.St → XK) : List (Addr × Sp × Sp) → Prop
  | nil : CmpAts X op E []
  | cons {C : Addr} {sp spr : Sp} {l : List (Addr × Sp × Sp)} : CmpAt X op E C sp spr → CmpAts X op E l → CmpAts X op E ((C, sp, spr) :: l)
theorem CmpAts.at {X : Cx} {op : CmpOp} {E : L2.St → XK} {l : List (Addr × Sp × Sp)} (h : CmpAts X op E l) : ∀ {i : Nat} {C : Addr} {sp spr : Sp}, l[i]? = some (C, sp, spr) → CmpAt X op E C sp spr := by
  induction h with
  | nil => intro i C sp spr e; cases e
  | cons h _ ih =>
    intro i C sp spr e
    cases i with
    | zero => cases e; exact h
    | succ i => exact ih (by simpa using e)
section
variable {X : Cx} {l : List (Addr × Sp)}
end
end Cl
namespace Hk
open PySem PySem.Spec PySem.W PyProof.Rows L2 He
end Hk
/-! dicts with number keys: list(d.values()), walks under the lock, comprehensions with two fors -/
namespace Cl
open PySem PySem.Spec PyProof.Rows L2 Px
/-- list(e.values()) -/
def tListVals (te : TE) : TE := fun σ H Q => te σ H fun x H1 => ∃ d kvs, x = .ref d ∧ H1 d = some (.dK kvs) ∧ ∀ q, H1 q = none → Q (.ref q) (upd H1 q (.lst (kvs.map Prod.snd)))
theorem kv_vals : ∀ {kvs : List (Key × V)} {vs : List (Key × Value)}, KV kvs vs → Vals (kvs.map Prod.snd) (vs.map Prod.snd)
  | _, _, .nil => .nil
  | _, _, .cons h t => .cons h.2 (kv_vals t)
section
variable {X : Cx} {e : Expr} {te : TE} {p apos cpos pos : Pos}
theorem pe_listVals (hc : X.calm = true) (hg : Gl X "list") (hm : X.mg "list" = none) (he : PE X e te) (hbase : attributeBase e "values" X.env (eval e X.env) = eval e X.env := by rfl) (hline : (apos.endLine == cpos.line) = true := by rfl)
    (na : starEach [.Call (.Attribute e "values" apos) [] [] cpos] X.env = (false, eval (.Call (.Attribute e "values" apos) [] [] cpos) X.env) :: starEach [] X.env := by rfl) :
    PE X (.Call (.Name "list" p) [.Call (.Attribute e "values" apos) [] [] cpos] [] pos) (tListVals te) := by
  refine ⟨fun pins s σ H Q I h => Call_ (ld_blt I hg hm boot_list (PyProof.Rows.callWith_type1 (args_cons ?_ na) na))⟩
  refine wpAny_Call_method (id := "dict.values") (T := "dict") hbase rfl hline PySem.F.plainAttrs_dict PySem.F.slot_dict_values PySem.F.type_dict_values (thn (he.run pins s σ H _ I h) fun u s1 ⟨x, H1, I1, rx, d, kvs, ex, hd, q⟩ => ?_)
  subst ex
  obtain rfl : u = Value.ref d := rx
  obtain ⟨hz, lo, vs, rk, hdo⟩ := (show ObjOk X.prog X.w H1 s1.heap d (.dK kvs) from I1.hok d _ hd)
  obtain ⟨ep, hat⟩ := hdo.dictAt
  have hl : kvs.length = vs.length := Paired.length rk
  have I2 : Inv X pins σ H1 { s1 with heap := s1.heap.push { cls := .type "dict_values", data := .fields #[.ref d] } } := I1.kept (t' := s1.toks) fun b ob z => Heap.get?_push_of_some _ z
  refine ⟨hdo.typeIs, hdo.mapOf.noDict, ?_⟩
  show wpAny _ _ (callWith cpos (.builtin "dict.values") [.ref d] [] []) _ X.xe s1
  refine method_meetsIn PySem.F.slot_dict_values PySem.F.entry_dict_values rfl (PySem.evalArgs_none ⟨rfl, hdo.typeIs, PySem.F.args_dict_values_1 _, _, meets_dict_values (mixKind X.prog X.w) d lo, ⟨vs, hdo⟩, ?_⟩)
  refine args_nil ?_
  refine PySem.W.kdl_call (PySem.W.kdl_values (knd := mixKind X.prog X.w) (kvs := vs) (ep := ep) (d := d) (r := s1.heap.objs.size)) (I2.ok.hd hc) ⟨⟨_, Heap.get?_push_size _ rfl, rfl, rfl⟩, hat.push _⟩ (by rw [← hl]; exact hz) fun h' tk acc c' hk hS hacc => ?_
  refine ⟨.ref _, upd H1 _ (.lst (kvs.map Prod.snd)), I2.laid hk (Nat.le_refl _) (show ObjOk X.prog X.w _ _ _ (.lst (kvs.map Prod.snd)) from ⟨?_, acc.toList, c', ?_, ?_⟩), rfl, q _ (I2.hok.fresh (Nat.le_refl _))⟩
  · rw [List.length_map]; exact hz
  · have ev : acc.toList = vs.map Prod.snd := PySem.W.kdl_vals_eq acc.toList (by rw [Array.length_toList]; exact hacc.1) fun j v z => hacc.2 j v (by rw [← Array.getElem?_toList]; exact z)
    rw [ev]
    exact kv_vals rk
  · rw [Array.toArray_toList]; exact hS
end
end Cl
namespace Px
open PySem PySem.Spec PyProof.Rows L2
section
variable {K : PySem.W.Frag} {σ : L2.St} {H H1 : Hp} {D : Ends} {Q : VK} {te td : TE} {d : Addr} {kvs : List (Key × V)}
theorem s_listV (h : te σ H fun x H1 => ∃ d kvs, x = .ref d ∧ H1 d = some (.dK kvs) ∧ ∀ q, H1 q = none → Q (.ref q) (upd H1 q (.lst (kvs.map Prod.snd)))) : Cl.tListVals te σ H Q := h
theorem s_dget {ty : TE} (h : td σ H fun x H1 => ty σ H1 fun y H2 => ∃ a v, x = .ref a ∧ DGet H2 a y (some v) ∧ Q v H2) : tDGet td ty σ H Q := h
/-- the heap while d is locked -/
@[reducible] def lk (H : Hp) (d : Addr) (od : Obj) (kvs : List (Key × V)) : Hp := upd H d (.frz od (.dK kvs))
/-- [..] over two fors -/
def L2B (g : TG) (tt : TT) (wi1 : TI) (g1 : TG) (tt1 : TT) (te : TE) (vs vs1 : List Nat) (σ : L2.St) (Q : VK) : L2.It → Hp → Prop := fun J H1 => ∀ D, H1 D = none → ∃ W : Nat → Nat → Hp → Prop, (∃ m, W 0 m (upd H1 D (.lst []))) ∧ ∀ i m H, W i m H →
  (J.stop i H ∧ Q (.ref D) H) ∨ (J.go i H ∧ ∃ Nx : Hp → Prop, (∀ H', Nx H' → ∃ m', m' < m ∧ W (i + 1) m' H') ∧ ∀ x H', J.yld i H x H' → g x (wipe σ vs) H' fun σ2 H2 => wipe σ2 vs = wipe σ vs ∧ tt σ2 H2 fun b H3 =>
    if b = true then wi1 σ2 H3 fun J1 H4 => ∃ W1 : Nat → Nat → Hp → Prop, (∃ m, W1 0 m H4) ∧ ∀ j k H, W1 j k H →
      (J1.stop j H ∧ Nx H) ∨ (J1.go j H ∧ ∃ Nx1 : Hp → Prop, (∀ H', Nx1 H' → ∃ k', k' < k ∧ W1 (j + 1) k' H') ∧ ∀ x H', J1.yld j H x H' → g1 x (wipe σ2 vs1) H' fun σ3 H5 => wipe σ3 vs1 = wipe σ2 vs1 ∧ tt1 σ3 H5 fun b H6 =>
        if b = true then te σ3 H6 fun y H7 => ∃ acc, H7 D = some (.lst acc) ∧ acc.length < sizeLine ∧ Nx1 (upd H7 D (.lst (acc ++ [y]))) else Nx1 H6)
    else Nx H3)
/-- [e for x in xs for y in f x]: the heap only grows -/
theorem lc2_flat {wi1 : TI} {v1 v2 : Nat} {xs : List V} {J : L2.It} (ys : V → List V) (f : V → V) (hne : v1 ≠ v2) (hlen : (xs.flatMap ys).length ≤ 1000000) (hy : ∀ i H, Same H1 H → YieldsAt J xs i H)
    (hi : ∀ x ∈ xs, ∀ H', Same H1 H' → ∀ R : L2.It → Hp → Prop, (∀ J1, (∀ j H'', Same H1 H'' → YieldsAt J1 (ys x) j H'') → R J1 H') → wi1 ((σ.set v1 (some x)).set v2 none) H' R)
    (hf : ∀ x ∈ xs, ∀ y ∈ ys x, ∀ H', Same H1 H' → ∀ Q' : VK, (∀ H'', Same H' H'' → Q' (f y) H'') → te ((σ.set v1 (some x)).set v2 (some y)) H' Q')
    (hq : ∀ D H', H1 D = none → Same H1 H' → H' D = some (.lst ((xs.flatMap ys).map f)) → Q (.ref D) H') : L2B (gName v1) tYes wi1 (gName v2) tYes te [v1, v2] [v2] σ Q J H1 := by
  intro Dr hD
  let Pv : Nat → Hp → Prop := fun i H => Same H1 H ∧ H Dr = some (.lst (((xs.take i).flatMap ys).map f))
  refine ⟨fun i m H => m = xs.length - i ∧ i ≤ xs.length ∧ Pv i H, ⟨xs.length, by simp, Nat.zero_le _, same_new hD, by simp [upd_same]⟩, ?_⟩
  rintro i m H ⟨rfl, hil, sm, hL⟩
  have q := hy i H sm
  by_cases hlt : i < xs.length
  · refine .inr ⟨(q.1 hlt).1, Pv (i + 1), fun H' p' => ⟨xs.length - (i + 1), by omega, rfl, hlt, p'⟩, fun x H' y => ?_⟩
    obtain ⟨e, hx⟩ := (q.1 hlt).2 x H' y
    subst e
    have hm := List.mem_of_getElem? hx
    have e1 : (wipe σ [v1, v2]).set v1 (some x) = (σ.set v1 (some x)).set v2 none := by
      show ((σ.set v2 none).set v1 none).set v1 (some x) = _
      rw [List.set_set, List.set_comm _ _ (Ne.symm hne)]
    have e2 : wipe ((σ.set v1 (some x)).set v2 none) [v1, v2] = wipe σ [v1, v2] := by
      show (((σ.set v1 (some x)).set v2 none).set v2 none).set v1 none = (σ.set v2 none).set v1 none
      rw [List.set_set, List.set_comm _ _ hne, List.set_set]
    unfold gName
    rw [e1]
    refine ⟨e2, ?_⟩
    unfold tYes
    dsimp only
    rw [if_pos rfl]
    refine hi x hm H' sm _ fun J1 hy1 => ?_
    refine ⟨fun j k H => k = (ys x).length - j ∧ j ≤ (ys x).length ∧ Same H1 H ∧ H Dr = some (.lst (((xs.take i).flatMap ys ++ (ys x).take j).map f)), ⟨(ys x).length, by simp, Nat.zero_le _, sm, by simpa using hL⟩, ?_⟩
    rintro j k H2 ⟨rfl, hjl, sm2, hL2⟩
    have q1 := hy1 j H2 sm2
    have lenB : ((xs.take i).flatMap ys).length + (ys x).length ≤ 1000000 := by
      have : ((xs.take (i + 1)).flatMap ys).length ≤ (xs.flatMap ys).length := by
        conv => rhs; rw [← List.take_append_drop (i + 1) xs, List.flatMap_append, List.length_append]
        omega
      rw [take_more hx, List.flatMap_append, List.length_append] at this
      simp only [List.flatMap_cons, List.flatMap_nil, List.append_nil] at this
      omega
    by_cases hlt2 : j < (ys x).length
    · refine .inr ⟨(q1.1 hlt2).1, fun H3 => Same H1 H3 ∧ H3 Dr = some (.lst (((xs.take i).flatMap ys ++ (ys x).take (j + 1)).map f)), fun H3 p3 => ⟨(ys x).length - (j + 1), by omega, rfl, hlt2, p3.1, p3.2⟩, fun z H3 yz => ?_⟩
      obtain ⟨ez, hz⟩ := (q1.1 hlt2).2 z H3 yz
      subst ez
      have e3 : (wipe ((σ.set v1 (some x)).set v2 none) [v2]).set v2 (some z) = (σ.set v1 (some x)).set v2 (some z) := by
        show (((σ.set v1 (some x)).set v2 none).set v2 none).set v2 (some z) = _
        rw [List.set_set, List.set_set]
      have e4 : wipe ((σ.set v1 (some x)).set v2 (some z)) [v2] = wipe ((σ.set v1 (some x)).set v2 none) [v2] := by
        show ((σ.set v1 (some x)).set v2 (some z)).set v2 none = ((σ.set v1 (some x)).set v2 none).set v2 none
        rw [List.set_set, List.set_set]
      rw [e3]
      refine ⟨e4, ?_⟩
      rw [if_pos rfl]
      refine hf x hm z (List.mem_of_getElem? hz) H3 sm2 _ fun H4 s4 => ?_
      refine ⟨_, s4 _ _ hL2, ?_, fun b o e => ?_, ?_⟩
      · rw [List.length_map, List.length_append, List.length_take, sizeLine_eq]
        omega
      · rw [upd_ne (ne_of_none e hD)]
        exact s4 _ _ (sm2 _ _ e)
      · rw [upd_same, take_more hz, ← List.append_assoc, List.map_append, List.map_append, List.map_append]
        rfl
    · have ej : j = (ys x).length := by omega
      subst ej
      refine .inl ⟨q1.2 (Nat.le_refl _), sm2, ?_⟩
      rw [hL2, List.take_length, take_more hx, List.flatMap_append]
      simp
  · have e : i = xs.length := by omega
    subst e
    refine .inl ⟨q.2 (Nat.le_refl _), hq Dr H hD sm ?_⟩
    rw [hL, List.take_length]
/-- {k: v for ..} -/
def DcB (J : L2.It) (g : TG) (tt : TT) (tk tv : TE) (vs : List Nat) (σ : L2.St) (Q : VK) (H1 : Hp) : Prop := ∀ D, H1 D = none → ∃ W : Nat → Nat → Hp → Prop, (∃ m, W 0 m (upd H1 D (.dK []))) ∧ ∀ i m H, W i m H →
  (J.stop i H ∧ Q (.ref D) H) ∨ (J.go i H ∧ ∃ Nx : Hp → Prop, (∀ H', Nx H' → ∃ m', m' < m ∧ W (i + 1) m' H') ∧ ∀ x H', J.yld i H x H' → g x (wipe σ vs) H' fun σ2 H2 => wipe σ2 vs = wipe σ vs ∧ tt σ2 H2 fun b H3 =>
    if b = true then tk σ2 H3 fun y H4 => tv σ2 H4 fun z H5 => ∃ kvs k, y = kV k ∧ H5 D = some (.dK kvs) ∧ kvs.length < sizeLine ∧ Nx (upd H5 D (.dK (putK kvs k z))) else Nx H3)
end
end Px
/-! __init__(self, *v, k = d, ..): C(*e), C(*e, k = v, ..) -/
namespace Cl
open PySem PySem.Spec PySem.Calls PyProof.Rows L2 Px
section
variable {M : Model} {A : Around} {E : Value → Shared → Prop} {s : Shared} {K : PySem.W.Frag}
/-- t looks names up in the dict at D, then goes on as r -/
def KwTo {α : Type} (D : Addr) : List (Str × Value) → Sem α → Sem α → Prop
  | [], t, r => t = r
  | q :: l, t, r => ∃ (β γ : Type) (k1 : Option Value → Sem β) (k2 : β → Sem γ) (k3 : γ → Sem α) (a : β), t = ((nsGet D q.1 >>= k1) >>= k2) >>= k3 ∧ k1 (some q.2) = pure a ∧ KwTo D l (k2 a >>= k3) r
theorem KwTo.run {α : Type} {D : Addr} {Q : α → Shared → Prop} {r : Sem α} (X : K.In s.heap) : ∀ {l : List (Str × Value)} {t : Sem α}, (∀ q ∈ l, PySem.W.nsIn K D q.1 = some (some q.2)) → KwTo D l t r → wpAny M A r Q E s → wpAny M A t Q E s
  | [], t, _, e, h => by rw [show t = r from e]; exact h
  | q :: l, t, hl, e, h => by
    obtain ⟨β, γ, k1, k2, k3, a, e1, e2, e3⟩ := e
    have l1 : PySem.W.Looks M s.heap (nsGet D q.1 >>= k1) a := (PySem.W.looks_nsIn X (hl q List.mem_cons_self)).andThen (PySem.W.Looks.of_pure e2)
    rw [e1, bind_assoc]
    exact wpAny_bind (l1.here (KwTo.run X (fun p hp => hl p (List.mem_cons_of_mem _ hp)) e3 h))
end
section
variable {P : Program} {w : World} {K : PySem.W.Frag} {mg : Str → Option Value} {base : Heap} {x qual pv p1 : Str} {params : Arguments} {body : List Stmt} {scope : Scope} {kws : List (Str × V)} {f : Addr} {fd : FuncData} {N : List Str} {k : Nat} {sp : Sp}
/-- def f(a, *v, k1 = d1, ..): without keywords -/
theorem okStarK (F : FunD K x qual params body scope [] kws f fd) (hk : kws ≠ []) (S : FnScope N (p1 :: (kws.map (·.1) ++ [pv])) scope)
    (hb : ∀ (D : Addr) (doc pm : Value) (an : Option Addr) (cdv ct : Value) (u : Value) (rest ds : List Value), ds.length = kws.length →
      KwTo D ((kws.map (·.1)).zip ds) (bindArgs (PySem.W.fnOf x qual params body scope .none (.ref D) doc pm an cdv ct) ⟨u :: rest, []⟩) (newTuple rest >>= fun t => pure ((p1, u) :: ((kws.map (·.1)).zip ds ++ [(pv, t)]))))
    (hbody : ∀ (cdv : Value) (A : Around) (outer : List Env) (s : Shared) (H : Hp) (vs : List V) (Q : VK) (E : XK), Room k (A.deeper (envOfC qual scope s.heap.objs.size f cdv)) → sp vs H Q E →
      ∃ t, PSs (cxOf (L2N.CX P w) P w K mg base N qual scope f cdv A outer s H E) body t ∧ t { nx := fun _ H' => Q .non H', rt := Q } (start N vs) H) :
    FnR P w K mg base (L2N.CX P w) (k + 1) f (fun vs H Q E => ∃ v rest, vs = v :: rest ∧ rest.length ≤ sizeLine ∧ ∀ p, H p = none → sp (v :: (kws.map (·.2) ++ [V.ref p])) (upd H p (.tup rest)) Q E) := by
  obtain ⟨oc, od, dV, kV, doc, pm, an, cdv, ct, osl, rfl, lk, hcd, hD, hK⟩ := F.ex
  rcases hD with ⟨_, rfl⟩ | ⟨e, _⟩
  rotate_left
  · exact absurd rfl e
  rcases hK with e | ⟨D, rfl, hq⟩
  · exact absurd e hk
  obtain ⟨ds, hl, rk, hks⟩ := kwd_vals hq
  intro A outer s H us vs Q E hr e0 r hsp
  obtain ⟨v, rest, rfl, hz, hsp⟩ := hsp
  cases r with
  | @cons _ u _ ur r1 r2 =>
    have hn : H s.heap.objs.size = Option.none := e0.hok.fresh (Nat.le_refl _)
    have hl2 : ur.length ≤ sizeLine := by rw [← r2.length]; exact hz
    refine StX.run_bnd lk hcd S hr e0 (G := fun xs H2 => ∃ p, H p = Option.none ∧ xs = v :: (kws.map (·.2) ++ [V.ref p]) ∧ H2 = upd H p (.tup rest)) (fun A' Ex Q' h => ?_) fun s2 H2 xs ⟨p, hp, ex, eH⟩ hr' => ?_
    · refine KwTo.run (e0.mod.kin.keeps fun b o e => (e0.bs b o e).1) hks (hb D doc pm an cdv ct u ur ds hl) ?_
      refine wpAny_bind (wpAny_newTuple (wpAny_pure ?_) hl2)
      have new : ObjOk P w (upd H s.heap.objs.size (.tup rest)) (s.heap.push ({ cls := .type "tuple", data := .seq ur.toArray } : Obj)) s.heap.objs.size (.tup rest) := ⟨hz, ur, r2, ⟨_, Heap.get?_push_size _ rfl, rfl, _, rfl⟩⟩
      have un := StX.un_laid (fs := frs outer) (s := s) (o := ({ cls := .type "tuple", data := .seq ur.toArray } : Obj)) (u := .tup rest) hn
      have z := h _ _ (v :: (kws.map (·.2) ++ [V.ref s.heap.objs.size])) (u :: (ds ++ [Value.ref s.heap.objs.size])) (StX.env0_laid e0 new) un rfl (fun e s' => cxUpN outer s H _ _ E e s' un (fun b o q => Heap.get?_push_of_some _ q) rfl) (.cons r1 (rk.append (.cons rfl .nil)))
        (by simp) ⟨_, hn, rfl, rfl⟩
      rw [List.zip_cons_cons, List.zip_append (by rw [List.length_map, hl])] at z
      exact z
    · subst ex eH
      exact hbody cdv A outer s2 _ _ Q E hr' (hsp p hp)
end
section
variable {X : Cx} {CX : CXT} {k : Nat} {f C : Addr} {ks : List Str} {spK : List V → Sp} {E : L2.St → XK} {x : Str} {e : Expr} {te : TE} {tk : TA} {p pos sp_ : Pos} {kws : List Keyword}
/-- C(*e, k = v, ..) -/
def tMakeSK (K : PySem.W.Frag) (C : Addr) (m : Nat) (spK : List V → Sp) (E : L2.St → XK) (te : TE) (tk : TA) : TE := fun σ H Q => te σ H fun y H1 => tk σ H1 fun zs H2 => ∃ a xs, y = .ref a ∧ zs.length = m ∧ (SqT K H2 a xs ∨ SqL K H2 a xs) ∧ ∀ x dx, H2 x = none → H2 dx = none → dx ≠ x →
  spK zs (V.ref x :: xs) (upd (upd H2 dx (.own x)) x (.ins C dx [])) (fun v H3 => v = .non ∧ Q (.ref x) H3) (E σ)
end
end Cl
/-! own objects walked by the dict in a field: __iter__ says return iter(self.f) -/
namespace Cl
open PySem PySem.Spec PyProof.Rows L2 Px
/-- an iterator of the locked dict at d, as it begins -/
def KiO (d it : Addr) (n : Nat) (od : Obj) : HO := .ext fun h => ∃ es ep, od.data = .dict es ep ∧ h.IsKeyIter it d 0 n ep
/-- what a class must have that its objects are walked by the dict in the field f -/
structure IterK (P : Program) (w : World) (K : PySem.W.Frag) (mg : Str → Option Value) (base : Heap) (k : Nat) (C : Addr) (f : Str) : Prop where
  run : ∃ fi : Addr, PySem.W.findIn K (.ref C) "__iter__" = some (some (.ref fi)) ∧ PySem.W.isFn K (.ref fi) = true ∧
    ∀ (A : Around) (outer : List Env) (s : Shared) (H : Hp) (a dx d : Addr) (fs : List (Str × V)) (kvs : List (Key × V)) (od : Obj), Room k A → Env0 P w K mg base A outer s H → H a = some (.ins C dx fs) → fs.lookup f = some (.ref d) → H d = some (.frz od (.dK kvs)) →
      codeAny (model P w) A (.call (.ref fi) ⟨[.ref a], []⟩) (CR (L2N.CX P w) outer P w H s (fun y H' => ∃ it, y = .ref it ∧ H it = none ∧ s.heap.objs.size ≤ it ∧ H' = upd H it (KiO d it kvs.length od)) E0) s
section
variable {X : Cx} {k : Nat} {C : Addr} {f : Str} {pins : List (Addr × Obj)} {σ : L2.St} {H : Hp} {s : Shared} {a dx d : Addr} {fs : List (Str × V)} {kvs : List (Key × V)} {od : Obj}
/-- len's promise: so many, all stands -/
def spLenK (C : Addr) (f : Str) : Sp := fun vs H Q _ => ∃ a dx fs d kvs, vs = [.ref a] ∧ H a = some (.ins C dx fs) ∧ fs.lookup f = some (.ref d) ∧ Rd H d (.dK kvs) ∧ kvs.length ≤ 1000000 ∧ Q (.int kvs.length) H
end
/-- a class whose objects are walked and counted by the dict in the field f -/
def WalkK (X : Cx) (C : Addr) (f : Str) : Prop := ∃ (n : Nat) (fl : Addr), IterK X.prog X.w X.K X.mg X.base n C f ∧ OwnOp X.K C "__len__" fl ∧ FnR X.prog X.w X.K X.mg X.base (L2N.CX X.prog X.w) n fl (spLenK C f) ∧ Room (n + 3) X.A
inductive WalkKs (X : Cx) : List (Addr × Str) → Prop
  | nil : WalkKs X []
  | cons {C : Addr} {f : Str} {l : List (Addr × Str)} : WalkK X C f → WalkKs X l → WalkKs X ((C, f) :: l)
section
variable {X : Cx} {l : List (Addr × Str)}
theorem WalkKs.at (h : WalkKs X l) : ∀ {i : Nat} {C : Addr} {f : Str}, l[i]? = some (C, f) → WalkK X C f := by
  induction h with
  | nil => intro i C f e; cases e
  | cons h _ ih =>
    intro i C f e
    cases i with
    | zero => cases e; exact h
    | succ i => exact ih (by simpa using e)
end
end Cl
/-! zip(a list, a tuple) -/
namespace ZiX
open PySem
section
variable {prog : Program} {w : World}
/-- an iterator it over the object l: St i tells that it stands at the i-th of xs -/
structure Walk1 (prog : Program) (w : World) (it l : Addr) (xs : Array Value) (St : Nat → Heap → Prop) : Prop where
  item : ∀ (A : Around) (E : Value → Shared → Prop) (s : Shared) (i : Nat) (x : Value) (Q : Value → Shared → Prop), St i s.heap → xs[i]? = some x → (∀ h', St (i + 1) h' → Heap.SameBut it s.heap h' → Q x { s with heap := h' }) → wpAny (model prog w) A (Builtin.SmallTypes.nextOf (.ref it)) Q E s
  fin : ∀ (A : Around) (E : Value → Shared → Prop) (s : Shared) (i : Nat) (Q : Value → Shared → Prop), A.handled = none → St i s.heap → xs[i]? = none → (∀ h' e, Heap.ExtBut it s.heap h' → (∃ o, h'.get? e = some o ∧ o.cls = .type "StopIteration") → E (.ref e) { s with heap := h' }) → wpAny (model prog w) A (Builtin.SmallTypes.nextOf (.ref it)) Q E s
  keep : ∀ i h h', St i h → (∀ o, h.get? it = some o → h'.get? it = some o) → (∀ o, h.get? l = some o → h'.get? l = some o) → St i h'
theorem walk_list (it l : Addr) (hne : l ≠ it) (xs : Array Value) : Walk1 prog w it l xs fun i h => h.IsListIter it l i ∧ h.IsList l xs where
  item := fun A E s i x Q st hx hQ => wpAny_nextOf_list_item st.1 st.2 hx fun h' a b => hQ h' ⟨a, st.2.extBut b.extBut hne⟩ b
  fin := fun A E s i Q hh st hx hE => wpAny_nextOf_list_end hh st.1 st.2 hx hE
  keep := fun i h h' st k1 k2 => ⟨st.1.at k1, by obtain ⟨o, ho, r⟩ := st.2; exact ⟨o, k2 o ho, r⟩⟩
theorem walk_tup (it l : Addr) (hne : l ≠ it) (xs : Array Value) : Walk1 prog w it l xs fun i h => h.IsTupleIter it l i ∧ h.IsTuple l xs where
  item := fun A E s i x Q st hx hQ => RZ.nextOf_tuple_item st.1 st.2 hx fun h' a b => hQ h' ⟨a, st.2.extBut b.extBut hne⟩ b
  fin := fun A E s i Q hh st hx hE => RZ.nextOf_tuple_end hh st.1 st.2 hx hE
  keep := fun i h h' st k1 k2 => ⟨st.1.at k1, by obtain ⟨o, ho, r⟩ := st.2; exact ⟨o, k2 o ho, r⟩⟩
variable {A : Around} {E : Value → Shared → Prop} {s : Shared} {z TI TO i1 i2 l1 l2 : Addr} {xs ys : Array Value} {S1 S2 : Nat → Heap → Prop}
/-- the zip's next: both give an item -/
theorem next_item {k : Nat} {x y a b : Value} {Q : Value → Shared → Prop} (D : ZipApart z TI TO i1 i2 l1 l2) (W1 : Walk1 prog w i1 l1 xs S1) (W2 : Walk1 prog w i2 l2 ys S2)
    (hz : IsZip s.heap z TI TO .none) (hTI : IsPair s.heap TI (.ref i1) (.ref i2)) (hTO : IsPair s.heap TO a b) (hi1 : i1 < s.heap.objs.size) (hi2 : i2 < s.heap.objs.size) (h1 : S1 k s.heap) (h2 : S2 k s.heap) (hx : xs[k]? = some x) (hy : ys[k]? = some y)
    (hQ : ∀ h', IsZip h' z TI TO (rawInt s.heap.objs.size) → IsPair h' TO x y → S1 (k + 1) h' → S2 (k + 1) h' → IsPair h' s.heap.objs.size x y → (∀ c o, c ≠ z → c ≠ TO → c ≠ i1 → c ≠ i2 → s.heap.get? c = some o → h'.get? c = some o) → Q (.ref s.heap.objs.size) { s with heap := h' }) :
    wpAny (model prog w) A (Builtin.«zip.__next__» ⟨[.ref z], []⟩) (fun fin s' => ∃ v, fin = .done (.ret v) ∧ Q v s') E s := by
  show wpAny _ _ (field (.ref z) 2 >>= _) _ _ _; refine wpAny_bind (wpAny_field hz rfl (x := .bool false) rfl ?_)
  show wpAny _ _ (field (.ref z) 3 >>= _) _ _ _; refine wpAny_bind (wpAny_field hz rfl (x := .ref TI) rfl (wpAny_bind (wpAny_seqItems hTI rfl ?_)))
  show wpAny _ _ (Builtin.SmallTypes.ownedTupleIsFree (.ref z) >>= _) _ _ _; refine wpAny_bind ?_
  unfold Builtin.SmallTypes.ownedTupleIsFree; refine wpAny_bind (wpAny_field hz rfl (x := .none) rfl (wpAny_pure ?_)); simp only [if_true]
  refine wpAny_bind (wpAny_rule (wpAny_bind (wpAny_field hz rfl (x := .ref TO) rfl (wpAny_bind (wpAny_setField_rec hz (by simp) fun g1 z1 c1 => ?_)))))
  replace z1 : IsZip g1 z TI TO .ellipsis := z1; refine wpAny_bind ?_; simp only [List.zipIdx_cons, List.zipIdx_nil, List.forIn_cons, List.forIn_nil]
  refine wpAny_bind (wpAny_bind (wpAny_onRaise ?_)); show wpAny _ _ (Builtin.SmallTypes.nextOf (.ref i1) >>= _) _ _ _
  have p1 : S1 k g1 := W1.keep k _ _ h1 (fun o e => c1.extBut _ _ D.i1z e) fun o e => c1.extBut _ _ D.l1z e
  refine wpAny_bind (W1.item _ _ _ k x _ p1 hx fun g2 p2 c2 => wpAny_pure ?_)
  have t2 : IsPair g2 TO a b := c2.extBut _ _ D.TOi1 (c1.extBut _ _ D.TOz hTO)
  refine wpAny_bind (wpAny_seqItems t2 rfl (wpAny_bind (wpAny_updateSeq_pair t2 fun g3 t3 c3 => ?_)))
  replace t3 : IsPair g3 TO x b := t3; refine wpAny_bind (wpAny_letGo (wpAny_pure ?_))
  refine wpAny_bind (wpAny_bind (wpAny_onRaise ?_)); show wpAny _ _ (Builtin.SmallTypes.nextOf (.ref i2) >>= _) _ _ _
  have q3 : S2 k g3 := W2.keep k _ _ h2 (fun o e => c3.extBut _ _ D.TOi2.symm (c2.extBut _ _ D.i12.symm (c1.extBut _ _ D.i2z e))) fun o e => c3.extBut _ _ D.l2TO (c2.extBut _ _ D.l2i1 (c1.extBut _ _ D.l2z e))
  refine wpAny_bind (W2.item _ _ _ k y _ q3 hy fun g4 q4 c4 => wpAny_pure ?_)
  have t4 : IsPair g4 TO x b := c4.extBut _ _ D.TOi2 t3
  refine wpAny_bind (wpAny_seqItems t4 rfl (wpAny_bind (wpAny_updateSeq_pair t4 fun g5 t5 c5 => ?_)))
  replace t5 : IsPair g5 TO x y := t5; refine wpAny_bind (wpAny_letGo (wpAny_pure (wpAny_pure ?_)))
  refine wpAny_bind (wpAny_seqItems t5 rfl (wpAny_bind (wpAny_newTuple ?_)))
  have sz : g5.objs.size = s.heap.objs.size := by rw [c5.1, c4.1, c3.1, c2.1, c1.1]
  have z5 : IsZip g5 z TI TO .ellipsis := c5.extBut _ _ D.TOz.symm (c4.extBut _ _ D.i2z.symm (c3.extBut _ _ D.TOz.symm (c2.extBut _ _ D.i1z.symm z1)))
  have k5 : ∀ c o, c ≠ z → c ≠ TO → c ≠ i1 → c ≠ i2 → s.heap.get? c = some o → g5.get? c = some o := fun c o n1 n2 n3 n4 e => c5.extBut _ _ n2 (c4.extBut _ _ n4 (c3.extBut _ _ n2 (c2.extBut _ _ n3 (c1.extBut _ _ n1 e))))
  have zl : z < g5.objs.size := Heap.lt_size z5
  show wpAny _ _ (Builtin.SmallTypes.ownedTupleHandOut (.ref z) (.ref g5.objs.size) >>= _) _ _ _; refine wpAny_bind ?_
  unfold Builtin.SmallTypes.ownedTupleHandOut
  refine wpAny_bind (wpAny_setField_rec (show IsZip (g5.push { cls := .type "tuple", data := .seq #[x, y] }) z TI TO .ellipsis from Heap.get?_push_of_some _ z5) (by simp) fun g7 z7 c7 => ?_)
  replace z7 : IsZip g7 z TI TO (rawInt g5.objs.size) := z7
  refine wpAny_setField_rec z7 (by simp) fun g8 z8 c8 => ?_
  replace z8 : IsZip g8 z TI TO (rawInt g5.objs.size) := z8
  have up : ∀ c o, c ≠ z → g5.get? c = some o → g8.get? c = some o := fun c o n e => c8.extBut _ _ n (c7.extBut _ _ n (Heap.get?_push_of_some _ e))
  have t8 : IsPair g8 g5.objs.size x y := c8.extBut _ _ (Nat.ne_of_gt zl) (c7.extBut _ _ (Nat.ne_of_gt zl) (Heap.get?_push_size _ rfl))
  have p8 : S1 (k + 1) g8 := W1.keep _ _ _ p2 (fun o e => up _ _ D.i1z (c5.extBut _ _ D.TOi1.symm (c4.extBut _ _ D.i12 (c3.extBut _ _ D.TOi1.symm e)))) fun o e => up _ _ D.l1z (c5.extBut _ _ D.l1TO (c4.extBut _ _ D.l1i2 (c3.extBut _ _ D.l1TO e)))
  have q8 : S2 (k + 1) g8 := W2.keep _ _ _ q4 (fun o e => up _ _ D.i2z (c5.extBut _ _ D.TOi2.symm e)) fun o e => up _ _ D.l2z (c5.extBut _ _ D.l2TO e)
  rw [sz] at z8 t8
  refine wpAny_pure ⟨_, rfl, ?_⟩; show Q (.ref g5.objs.size) _; rw [sz]
  exact hQ g8 z8 (up _ _ D.TOz t5) p8 q8 t8 fun c o n1 n2 n3 n4 e => up c o n1 (k5 c o n1 n2 n3 n4 e)
/-- the zip's next: one of them ends -/
theorem next_end {k : Nat} {a b : Value} {Q : Fin → Shared → Prop} (hh : A.handled = none) (D : ZipApart z TI TO i1 i2 l1 l2) (W1 : Walk1 prog w i1 l1 xs S1) (W2 : Walk1 prog w i2 l2 ys S2)
    (hz : IsZip s.heap z TI TO .none) (hTI : IsPair s.heap TI (.ref i1) (.ref i2)) (hTO : IsPair s.heap TO a b) (h1 : S1 k s.heap) (h2 : S2 k s.heap) (hend : xs[k]? = none ∨ ys[k]? = none)
    (hE : ∀ h' e, (∀ c o, c ≠ z → c ≠ TO → c ≠ i1 → c ≠ i2 → s.heap.get? c = some o → h'.get? c = some o) → (∃ o, h'.get? e = some o ∧ o.cls = .type "StopIteration") → E (.ref e) { s with heap := h' }) :
    wpAny (model prog w) A (Builtin.«zip.__next__» ⟨[.ref z], []⟩) Q E s := by
  show wpAny _ _ (field (.ref z) 2 >>= _) _ _ _; refine wpAny_bind (wpAny_field hz rfl (x := .bool false) rfl ?_)
  show wpAny _ _ (field (.ref z) 3 >>= _) _ _ _; refine wpAny_bind (wpAny_field hz rfl (x := .ref TI) rfl (wpAny_bind (wpAny_seqItems hTI rfl ?_)))
  show wpAny _ _ (Builtin.SmallTypes.ownedTupleIsFree (.ref z) >>= _) _ _ _; refine wpAny_bind ?_
  unfold Builtin.SmallTypes.ownedTupleIsFree; refine wpAny_bind (wpAny_field hz rfl (x := .none) rfl (wpAny_pure ?_)); simp only [if_true]
  refine wpAny_bind (wpAny_rule (wpAny_bind (wpAny_field hz rfl (x := .ref TO) rfl (wpAny_bind (wpAny_setField_rec hz (by simp) fun g1 z1 c1 => ?_)))))
  replace z1 : IsZip g1 z TI TO .ellipsis := z1; refine wpAny_bind ?_; simp only [List.zipIdx_cons, List.zipIdx_nil, List.forIn_cons, List.forIn_nil]
  refine wpAny_bind (wpAny_bind (wpAny_onRaise ?_)); show wpAny _ _ (Builtin.SmallTypes.nextOf (.ref i1) >>= _) _ _ _
  have p1 : S1 k g1 := W1.keep k _ _ h1 (fun o e => c1.extBut _ _ D.i1z e) fun o e => c1.extBut _ _ D.l1z e
  cases hx : xs[k]? with
  | none =>
    refine wpAny_bind (W1.fin _ _ _ k _ hh p1 hx fun g2 e c2 ⟨oe, hoe, hce⟩ => ?_)
    have z2 : IsZip g2 z TI TO .ellipsis := c2 _ _ D.i1z.symm z1
    have hez : e ≠ z := fun q => by subst q; rw [z2] at hoe; cases hoe; simp at hce
    exact wpAny_setField_rec z2 (by simp) fun g3 _ c3 => hE g3 e (fun c o n1 _ n3 _ q => c3.extBut _ _ n1 (c2 _ _ n3 (c1.extBut _ _ n1 q))) ⟨oe, c3.extBut _ _ hez hoe, hce⟩
  | some x =>
    have hy : ys[k]? = none := hend.elim (fun q => by rw [hx] at q; cases q) id
    refine wpAny_bind (W1.item _ _ _ k x _ p1 hx fun g2 p2 c2 => wpAny_pure ?_)
    have t2 : IsPair g2 TO a b := c2.extBut _ _ D.TOi1 (c1.extBut _ _ D.TOz hTO)
    refine wpAny_bind (wpAny_seqItems t2 rfl (wpAny_bind (wpAny_updateSeq_pair t2 fun g3 t3 c3 => wpAny_bind (wpAny_letGo (wpAny_pure ?_)))))
    refine wpAny_bind (wpAny_bind (wpAny_onRaise ?_)); show wpAny _ _ (Builtin.SmallTypes.nextOf (.ref i2) >>= _) _ _ _
    have q3 : S2 k g3 := W2.keep k _ _ h2 (fun o e => c3.extBut _ _ D.TOi2.symm (c2.extBut _ _ D.i12.symm (c1.extBut _ _ D.i2z e))) fun o e => c3.extBut _ _ D.l2TO (c2.extBut _ _ D.l2i1 (c1.extBut _ _ D.l2z e))
    refine wpAny_bind (W2.fin _ _ _ k _ hh q3 hy fun g4 e c4 ⟨oe, hoe, hce⟩ => ?_)
    have z4 : IsZip g4 z TI TO .ellipsis := c4 _ _ D.i2z.symm (c3.extBut _ _ D.TOz.symm (c2.extBut _ _ D.i1z.symm z1))
    have hez : e ≠ z := fun q => by subst q; rw [z4] at hoe; cases hoe; simp at hce
    exact wpAny_setField_rec z4 (by simp) fun g5 _ c5 => hE g5 e (fun c o n1 n2 n3 n4 q => c5.extBut _ _ n1 (c4 _ _ n4 (c3.extBut _ _ n2 (c2.extBut _ _ n3 (c1.extBut _ _ n1 q))))) ⟨oe, c5.extBut _ _ hez hoe, hce⟩
theorem py_item {k : Nat} {x y a b : Value} {Q : Option Value → Shared → Prop} (D : ZipApart z TI TO i1 i2 l1 l2) (W1 : Walk1 prog w i1 l1 xs S1) (W2 : Walk1 prog w i2 l2 ys S2)
    (hz : IsZip s.heap z TI TO .none) (hTI : IsPair s.heap TI (.ref i1) (.ref i2)) (hTO : IsPair s.heap TO a b) (hi1 : i1 < s.heap.objs.size) (hi2 : i2 < s.heap.objs.size) (h1 : S1 k s.heap) (h2 : S2 k s.heap) (hx : xs[k]? = some x) (hy : ys[k]? = some y)
    (hQ : ∀ h', IsZip h' z TI TO (rawInt s.heap.objs.size) → IsPair h' TO x y → S1 (k + 1) h' → S2 (k + 1) h' → IsPair h' s.heap.objs.size x y → (∀ c o, c ≠ z → c ≠ TO → c ≠ i1 → c ≠ i2 → s.heap.get? c = some o → h'.get? c = some o) → Q (some (.ref s.heap.objs.size)) { s with heap := h' }) : wpAny (model prog w) A (pyNext (.ref z)) Q E s := by
  have hT : s.TypeIs (.ref z) "zip" := ⟨_, hz, rfl⟩
  unfold pyNext
  exact wpAny_bind (wpAny_attempt (wpAny_callSpecial?_slot (name := Str.ofString "__next__") hT F.slot_zip_next (wpAny_call_entry F.slot_zip_next hT F.entry_zip_next (next_item D W1 W2 hz hTI hTO hi1 hi2 h1 h2 hx hy fun h' a1 a2 a3 a4 a5 a6 => wpAny_pure (hQ h' a1 a2 a3 a4 a5 a6)) (F.args_zip_next_1 _))))
theorem py_end {k : Nat} {a b : Value} {Q : Option Value → Shared → Prop} (hh : A.handled = none) (D : ZipApart z TI TO i1 i2 l1 l2) (W1 : Walk1 prog w i1 l1 xs S1) (W2 : Walk1 prog w i2 l2 ys S2)
    (hz : IsZip s.heap z TI TO .none) (hTI : IsPair s.heap TI (.ref i1) (.ref i2)) (hTO : IsPair s.heap TO a b) (h1 : S1 k s.heap) (h2 : S2 k s.heap) (hend : xs[k]? = none ∨ ys[k]? = none)
    (hQ : ∀ h', (∀ c o, c ≠ z → c ≠ TO → c ≠ i1 → c ≠ i2 → s.heap.get? c = some o → h'.get? c = some o) → Q none { s with heap := h' }) : wpAny (model prog w) A (pyNext (.ref z)) Q E s := by
  have hT : s.TypeIs (.ref z) "zip" := ⟨_, hz, rfl⟩
  unfold pyNext
  refine wpAny_bind (wpAny_attempt (wpAny_callSpecial?_slot (name := Str.ofString "__next__") hT F.slot_zip_next (wpAny_call_entry F.slot_zip_next hT F.entry_zip_next (next_end hh D W1 W2 hz hTI hTO h1 h2 hend fun h' e hk ⟨o, ho, hc⟩ => ?_) (F.args_zip_next_1 _))))
  exact wpAny_bind (wpAny_isInstance (T := "StopIteration") (b := true) ⟨o, ho, hc⟩ isSubtype_stop (wpAny_pure (hQ _ hk)))
end
/-- the heaps that zip(a list, a tuple) goes through -/
def g1 (h : Heap) (l : Addr) : Heap := h.push { cls := .type "list_iterator", data := .fields #[.ref l, .int 0 0] }
def g2 (h : Heap) (l m : Addr) : Heap := (g1 h l).push { cls := .type "tuple_iterator", data := .fields #[.ref m, .int 0 0] }
def g3 (h : Heap) (l m : Addr) : Heap := (g2 h l m).push { cls := .type "tuple", data := .seq #[.ref h.objs.size, .ref (g1 h l).objs.size] }
def g4 (h : Heap) (l m : Addr) : Heap := (g3 h l m).push { cls := .type "tuple", data := .seq #[.none, .none] }
def g5 (h : Heap) (l m : Addr) : Heap := (g4 h l m).push { cls := .type "zip", data := .fields #[.none, .bool false, .bool false, .ref (g2 h l m).objs.size, .ref (g3 h l m).objs.size] }
theorem meets_new (l m : Addr) (xs ys : Array Value) : Meets (Builtin.«zip.__new__» ⟨[.type "zip", .ref l, .ref m], []⟩) (fun _ R s => s.heap.IsList l xs ∧ s.heap.IsTuple m ys ∧ R (.ok (.ret (.ref (g4 s.heap l m).objs.size))) { s with heap := g5 s.heap l m }) :=
  .of_wp fun prog w A R s h => by
    obtain ⟨hp, g, d, tk, os⟩ := s; obtain ⟨hl1, hl2, h⟩ := h
    have hsub := sub_zip
    have hL1 : Heap.IsList (Shared.heap ⟨hp, g, d, tk, os⟩) l xs := hl1
    have hL2 : Heap.IsTuple (Shared.heap ⟨hp.push { cls := .type "list_iterator", data := .fields #[.ref l, .int 0 0] }, g, d, tk, os⟩) m ys := Heap.IsTuple.push hl2 _
    unfold g5 g4 g3 g2 g1 at h
    wp_walk using wpAny_pyIter_list hL1, wpAny_pyIter_tuple hL2
    exact ⟨_, rfl, h⟩
end ZiX
namespace ZiX
open PySem PySem.Spec PyProof.Rows L2
section
variable {prog : Program} {w : World} {A : Around} {E : Value → Shared → Prop} {s : Shared}
theorem call_zipM {l m : Addr} {xs ys : Array Value} {Q : Value → Shared → Prop} (hl : s.heap.IsList l xs) (hm : s.heap.IsTuple m ys)
    (h : ∀ h', IsZip h' (s.heap.objs.size + 4) (s.heap.objs.size + 2) (s.heap.objs.size + 3) .none → PySem.IsPair h' (s.heap.objs.size + 2) (.ref s.heap.objs.size) (.ref (s.heap.objs.size + 1)) → PySem.IsPair h' (s.heap.objs.size + 3) .none .none → h'.IsListIter s.heap.objs.size l 0 → h'.IsTupleIter (s.heap.objs.size + 1) m 0 →
      (∀ c o, s.heap.get? c = some o → h'.get? c = some o) → Q (.ref (s.heap.objs.size + 4)) { s with heap := h' }) : wpAny (model prog w) A (call (.type "zip") [.ref l, .ref m]) Q E s := by
  refine callType_new F.called_zip (by decide) (F.typeCall_zip_2 _ _) (F.newCall_zip_2 _ _) (fun obj => F.args_object_init_3 obj _ _) F.entry_zip_new (meets_new l m xs ys) ⟨hl, hm, ?_⟩
  have s1 : (g1 s.heap l).objs.size = s.heap.objs.size + 1 := Heap.size_push ..
  have s2 : (g2 s.heap l m).objs.size = s.heap.objs.size + 2 := (Heap.size_push ..).trans (by rw [s1])
  have s3 : (g3 s.heap l m).objs.size = s.heap.objs.size + 3 := (Heap.size_push ..).trans (by rw [s2])
  have s4 : (g4 s.heap l m).objs.size = s.heap.objs.size + 4 := (Heap.size_push ..).trans (by rw [s3])
  have a5 : (g5 s.heap l m).get? (g4 s.heap l m).objs.size = some _ := Heap.get?_push_size _ rfl
  have a4 : (g5 s.heap l m).get? (g3 s.heap l m).objs.size = some _ := Heap.get?_push_of_some _ (Heap.get?_push_size (g3 s.heap l m) rfl)
  have a3 : (g5 s.heap l m).get? (g2 s.heap l m).objs.size = some _ := Heap.get?_push_of_some _ (Heap.get?_push_of_some _ (Heap.get?_push_size (g2 s.heap l m) rfl))
  have a2 : (g5 s.heap l m).get? (g1 s.heap l).objs.size = some _ := Heap.get?_push_of_some _ (Heap.get?_push_of_some _ (Heap.get?_push_of_some _ (Heap.get?_push_size (g1 s.heap l) rfl)))
  have a1 : (g5 s.heap l m).get? s.heap.objs.size = some _ := Heap.get?_push_of_some _ (Heap.get?_push_of_some _ (Heap.get?_push_of_some _ (Heap.get?_push_of_some _ (Heap.get?_push_size s.heap rfl))))
  show _ ∧ _
  rw [s2, s3, s4] at a5
  rw [s1, s2] at a3
  rw [s3] at a4
  rw [s1] at a2
  rw [s4]
  exact ⟨⟨_, a5, rfl⟩, h _ a5 a3 a4 ⟨_, a1, rfl, rfl⟩ ⟨_, a2, rfl, rfl⟩ fun c o x => Heap.get?_push_of_some _ (Heap.get?_push_of_some _ (Heap.get?_push_of_some _ (Heap.get?_push_of_some _ (Heap.get?_push_of_some _ x))))⟩
end
/-- the list at a and the tuple at b as they stand at each turn, the items in new pairs -/
def ItM (K : PySem.W.Frag) (a b : Addr) : It :=
  ⟨fun i H => ∃ (xs ys : List V) (x y : V), SqL K H a xs ∧ SqT K H b ys ∧ xs[i]? = some x ∧ ys[i]? = some y,
    fun i H v H' => ∃ T x y, v = .ref T ∧ H T = none ∧ H' = upd H T (.tup [x, y]) ∧ (∀ xs, SqL K H a xs → xs[i]? = some x) ∧ ∀ ys, SqT K H b ys → ys[i]? = some y,
    fun i H => ∃ xs ys : List V, SqL K H a xs ∧ SqT K H b ys ∧ (xs.length ≤ i ∨ ys.length ≤ i)⟩
theorem turn_zipM {P : Program} {w : World} {K : PySem.W.Frag} {elts : List Expr} {kk : Nat} {tpos : Pos} {a b z TI TO i1 i2 : Addr} (D : ZipApart z TI TO i1 i2 a b) :
    Turn P w K (.Tuple elts kk tpos) (ItM K a b) [z, TI, TO, i1, i2] z (fun i h => IsZip h z TI TO .none ∧ PySem.IsPair h TI (.ref i1) (.ref i2) ∧ (∃ x y, PySem.IsPair h TO x y) ∧ h.IsListIter i1 a i ∧ h.IsTupleIter i2 b i) where
  mem := List.mem_cons_self
  obj := fun i h ⟨hz, hTI, ⟨x, y, hTO⟩, ⟨o1, e1, _, d1⟩, ⟨o2, e2, _, d2⟩⟩ c hc => by
    simp only [List.mem_cons, List.not_mem_nil, or_false] at hc
    rcases hc with rfl | rfl | rfl | rfl | rfl
    · exact ⟨_, hz, fun v q => nomatch q⟩
    · exact ⟨_, hTI, fun v q => nomatch q⟩
    · exact ⟨_, hTO, fun v q => nomatch q⟩
    · exact ⟨o1, e1, fun v q => by rw [d1] at q; cases q⟩
    · exact ⟨o2, e2, fun v q => by rw [d2] at q; cases q⟩
  keep := fun i h h' ⟨hz, hTI, ⟨x, y, hTO⟩, h1, h2⟩ k => ⟨k z (by simp) _ hz, k TI (by simp) _ hTI, ⟨x, y, k TO (by simp) _ hTO⟩, h1.at fun o q => k i1 (by simp) o q, h2.at fun o q => k i2 (by simp) o q⟩
  item := by
    intro X hP hw hK hc i pins s σ H E I hf ⟨hz, hTI, ⟨x0, y0, hTO⟩, h1, h2⟩ ⟨xs, ys, x, y, hqx, hqy, hx, hy⟩
    subst hP hw hK
    obtain ⟨its, rv, p, _⟩ := I.list hqx
    obtain ⟨its2, rv2, p2, _⟩ := I.tuple hqy
    obtain ⟨u, hu, ru⟩ := rv.get hx
    obtain ⟨u2, hu2, ru2⟩ := rv2.get hy
    have lz : z < s.heap.objs.size := Heap.lt_size hz
    have l1 : i1 < s.heap.objs.size := by obtain ⟨_, e, _⟩ := h1; exact Heap.lt_size e
    have l2 : i2 < s.heap.objs.size := by obtain ⟨_, e, _⟩ := h2; exact Heap.lt_size e
    refine py_item D (walk_list i1 a D.l1i1 its.toArray) (walk_tup i2 b D.l2i2 its2.toArray) hz hTI hTO l1 l2 ⟨h1, p.isList⟩ ⟨h2, p2⟩ (x := u) (y := u2) (by simpa using hu) (by simpa using hu2) fun h' z' TO' p1' p2' hT hk => ?_
    refine ⟨_, rfl, wpAny_letOwnedTupleGo_zip (s := { s with heap := h' }) z' fun h'' z'' sb => ?_⟩
    have hT2 : h''.get? s.heap.objs.size = some { cls := .type "tuple", data := .seq #[u, u2] } := (sb.2 _ (Nat.ne_of_gt lz)).trans hT
    have new : ObjOk X.prog X.w (upd H s.heap.objs.size (.tup [x, y])) h'' s.heap.objs.size (.tup [x, y]) := ⟨by show 2 ≤ sizeLine; decide, [u, u2], .cons ru (.cons ru2 .nil), ⟨_, hT2, rfl, _, rfl⟩⟩
    have nin : ∀ c, c ∉ ([z, TI, TO, i1, i2] : List Addr) → c ≠ z ∧ c ≠ TO ∧ c ≠ i1 ∧ c ≠ i2 := fun c hc => by simp only [List.mem_cons, List.not_mem_nil, or_false, not_or] at hc; exact ⟨hc.1, hc.2.2.1, hc.2.2.2.1, hc.2.2.2.2⟩
    have I1 : Inv X pins σ (upd H s.heap.objs.size (.tup [x, y])) { s with heap := h'' } := I.turnedNew (t' := s.toks) (ch := [z, TI, TO, i1, i2]) (fun c o hb q => let n := nin c hb; (sb.2 c n.1).trans (hk c o n.1 n.2.1 n.2.2.1 n.2.2.2 q)) hf (Nat.le_refl _) new
    refine ⟨.ref s.heap.objs.size, _, I1, rfl, ⟨_, x, y, rfl, I.hok.fresh (Nat.le_refl _), rfl, fun l hl => by rw [I.list_inj hl hqx]; exact hx, fun l hl => by rw [I.tuple_inj hl hqy]; exact hy⟩, ⟨z'', ?_, ⟨u, u2, (sb.2 _ D.TOz).trans TO'⟩, p1'.1.at fun o q => (sb.2 _ D.i1z).trans q, p2'.1.at fun o q => (sb.2 _ D.i2z).trans q⟩, fun c hcm => ?_⟩
    · exact (sb.2 _ D.TIz).trans (hk _ _ D.TIz D.TITO D.TIi1 D.TIi2 hTI)
    · have lt : c < s.heap.objs.size := by
        simp only [List.mem_cons, List.not_mem_nil, or_false] at hcm
        rcases hcm with rfl | rfl | rfl | rfl | rfl
        · exact lz
        · exact Heap.lt_size hTI
        · exact Heap.lt_size hTO
        · exact l1
        · exact l2
      rw [upd_ne (Nat.ne_of_lt lt)]
      exact (hf c hcm).1
  done := by
    intro X hP hw hK hc i pins s σ H E I hf ⟨hz, hTI, ⟨x0, y0, hTO⟩, h1, h2⟩ ⟨xs, ys, hqx, hqy, hend⟩
    subst hP hw hK
    obtain ⟨its, rv, p, _⟩ := I.list hqx
    obtain ⟨its2, rv2, p2, _⟩ := I.tuple hqy
    have e1 := rv.length
    have e2 := rv2.length
    have he : its.toArray[i]? = none ∨ its2.toArray[i]? = none := hend.imp (fun q => by simp; omega) fun q => by simp; omega
    have nin : ∀ c, c ∉ ([z, TI, TO, i1, i2] : List Addr) → c ≠ z ∧ c ≠ TO ∧ c ≠ i1 ∧ c ≠ i2 := fun c hc => by simp only [List.mem_cons, List.not_mem_nil, or_false, not_or] at hc; exact ⟨hc.1, hc.2.2.1, hc.2.2.2.1, hc.2.2.2.2⟩
    exact py_end (I.ok.hd hc) D (walk_list i1 a D.l1i1 its.toArray) (walk_tup i2 b D.l2i2 its2.toArray) hz hTI hTO ⟨h1, p.isList⟩ ⟨h2, p2⟩ he fun h' hk => ⟨rfl, I.turnedL (t' := s.toks) (ch := [z, TI, TO, i1, i2]) (fun c o hb q => let n := nin c hb; hk c o n.1 n.2.1 n.2.2.1 n.2.2.2 q) hf⟩
  self := fun A i s Q E st h => wpAny_pyIter_zip st.1 h
def iZipM (K : PySem.W.Frag) (ta : TA) : TI := fun σ H R => ta σ H fun vs H1 => ∃ a b xs ys, vs = [.ref a, .ref b] ∧ SqL K H1 a xs ∧ SqT K H1 b ys ∧ R (ItM K a b) H1
theorem pi_zipM {X : Cx} {e e2 : Expr} {ta : TA} {p pos tpos : Pos} {elts : List Expr} {kk : Nat} (hg : Gl X "zip") (hm : X.mg "zip" = none) (ha : PA X [e, e2] ta)
    (hs : starEach [e, e2] X.env = (false, eval e X.env) :: starEach [e2] X.env := by rfl) (hpl : (backTo pos (starEach [e2] X.env)).any (·.1) = false := by rfl) :
    PI X (.Tuple elts kk tpos) (.Call (.Name "zip" p) [e, e2] [] pos) (iZipM X.K ta) := by
  refine ⟨fun pins s σ H R I h => Call_ (ld_blt I hg hm PyProof.Rows.boot_zip (PyProof.Rows.callWith_type1 (thn (ha.run pos pins s σ H _ I h) fun us s1 ⟨vs, H1, I1, r1, a, b, xs, ys, ex, hqx, hqy, q⟩ => ?_) hs hpl))⟩
  subst ex
  obtain ⟨u, u', rfl, ru, ru'⟩ := vals2 r1
  cases ru
  cases ru'
  obtain ⟨its, rv, p1, _⟩ := I1.list hqx
  obtain ⟨its2, rv2, p2, _⟩ := I1.tuple hqy
  obtain ⟨o2, ho2, _⟩ := id p2
  refine call_zipM p1.isList (show s1.heap.IsTuple b its2.toArray from p2) fun h' hz hTI hTO h1 h2 hk => wpAny_pyIter_zip hz ?_
  refine ⟨s1.heap.objs.size + 4, [s1.heap.objs.size + 4, s1.heap.objs.size + 2, s1.heap.objs.size + 3, s1.heap.objs.size, s1.heap.objs.size + 1], _, _, H1, rfl, I1.kept (t' := s1.toks) hk, turn_zipM (PySem.W.ktu_apart s1.heap.objs.size a b p1.lt (Heap.lt_size ho2)), ⟨hz, hTI, ⟨_, _, hTO⟩, h1, h2⟩, fun c hcm => ?_, q⟩
  have hle : s1.heap.objs.size ≤ c := by
    simp only [List.mem_cons, List.not_mem_nil, or_false] at hcm
    rcases hcm with rfl | rfl | rfl | rfl | rfl <;> first | exact Nat.le_add_right _ _ | exact Nat.le_refl _
  exact I1.fpOk hle (I1.hok.fresh hle)
end ZiX
/-! own in-place operators; o[i] = v by __setitem__; o.f op= e -/
namespace Cl
open PySem PySem.Spec PySem.Calls PyProof.Rows L2 Px
section
variable {X : Cx} {CX : CXT} {k : Nat} {f C : Addr} {sp : Sp} {E : L2.St → XK}
def AltN (X : Cx) (op : Operator) (C : Addr) (sp : Sp) (E : L2.St → XK) : Prop := ∀ (pins : List (Addr × Obj)) (s : Shared) (σ : L2.St) (H : Hp) (a dx : Addr) (fs : List (Str × V)) (y : V) (u : Value) (Q : VK), Inv X pins σ H s → H a = some (.ins C dx fs) → RelV y u → sp [.ref a, y] H Q (E σ) →
  wpAny (model X.prog X.w) X.A (inplaceOp op (.ref a) u) (EP X pins σ Q) X.xe s
inductive AltNs (X : Cx) (op : Operator) (E : L2.St → XK) : List (Addr × Sp) → Prop
  | nil : AltNs X op E []
  | cons {C : Addr} {sp : Sp} {l : List (Addr × Sp)} : AltN X op C sp E → AltNs X op E l → AltNs X op E ((C, sp) :: l)
theorem AltNs.at {op : Operator} {l : List (Addr × Sp)} (h : AltNs X op E l) : ∀ {i : Nat} {C : Addr} {sp : Sp}, l[i]? = some (C, sp) → AltN X op C sp E := by
  induction h with
  | nil => intro i C sp e; cases e
  | cons h _ ih =>
    intro i C sp e
    cases i with
    | zero => cases e; exact h
    | succ i => exact ih (by simpa using e)
/-- o[i] = v -/
def gSubO (to ti : TE) (ts : L2.St → TSet) : TG := fun v σ H Q => to σ H fun o H1 => ti σ H1 fun i H2 => ts σ o i v H2 fun H3 => Q σ H3
def AltS (X : Cx) (C : Addr) (sp : Sp) (E : L2.St → XK) : Prop := ∀ (pins : List (Addr × Obj)) (s : Shared) (σ : L2.St) (H : Hp) (a dx : Addr) (fs : List (Str × V)) (y z : V) (u w : Value) (Q : Hp → Prop), Inv X pins σ H s → H a = some (.ins C dx fs) → RelV y u → RelV z w → sp [.ref a, y, z] H (fun _ H' => Q H') (E σ) →
  wpAny (model X.prog X.w) X.A (setItem (.ref a) u w) (fun _ s' => ∃ H', Inv X pins σ H' s' ∧ Q H') X.xe s
inductive AltSs (X : Cx) (E : L2.St → XK) : List (Addr × Sp) → Prop
  | nil : AltSs X E []
  | cons {C : Addr} {sp : Sp} {l : List (Addr × Sp)} : AltS X C sp E → AltSs X E l → AltSs X E ((C, sp) :: l)
theorem AltSs.at {l : List (Addr × Sp)} (h : AltSs X E l) : ∀ {i : Nat} {C : Addr} {sp : Sp}, l[i]? = some (C, sp) → AltS X C sp E := by
  induction h with
  | nil => intro i C sp e; cases e
  | cons h _ ih =>
    intro i C sp e
    cases i with
    | zero => cases e; exact h
    | succ i => exact ih (by simpa using e)
/-- o.f op= e, by o's class -/
def sAttA (l : List Addr) (ta tv : TE) (rd : R2) (f : Str) : TS := fun D σ H => ta σ H fun x H1 => ∃ a C dx fs v, x = .ref a ∧ C ∈ l ∧ H1 a = some (.ins C dx fs) ∧ fs.lookup f = some v ∧ tv σ H1 fun y H2 => rd v y H2 fun z H3 => ∃ dx' fs', H3 a = some (.ins C dx' fs') ∧ fs'.length < 1000 ∧ D.nx σ (upd H3 a (.ins C dx' (putF f z fs')))
end
end Cl
namespace Hk
open PySem PySem.Spec PySem.W PyProof.Rows L2 He
end Hk
namespace Px
open PySem PySem.Spec PyProof.Rows L2
section
variable {σ : L2.St} {H : Hp} {D : Ends} {v : V} {QS : L2.St → Hp → Prop} {ta tv td ty : TE}
theorem s_gsubO {to ti : TE} {ts : L2.St → TSet} (h : to σ H fun o H1 => ti σ H1 fun i H2 => ts σ o i v H2 fun H3 => QS σ H3) : Cl.gSubO to ti ts v σ H QS := h
theorem s_attA {l : List Addr} {rd : R2} {f : Str} (h : ta σ H fun x H1 => ∃ a C dx fs v, x = .ref a ∧ C ∈ l ∧ H1 a = some (.ins C dx fs) ∧ fs.lookup f = some v ∧ tv σ H1 fun y H2 => rd v y H2 fun z H3 => ∃ dx' fs', H3 a = some (.ins C dx' fs') ∧ fs'.length < 1000 ∧ D.nx σ (upd H3 a (.ins C dx' (putF f z fs')))) : Cl.sAttA l ta tv rd f D σ H := h
theorem s_ddel (h : td σ H fun x H1 => ty σ H1 fun y H2 => ∃ a kvs k, x = .ref a ∧ H2 a = some (.dK kvs) ∧ y = kV k ∧ (valV kvs k).isSome = true ∧ D.nx σ (upd H2 a (.dK (dropK kvs k)))) : sDDel td ty D σ H := h
end
end Px
/-! the alternatives by classes, answered by membership -/
namespace Px
open PySem PySem.Spec PyProof.Rows L2
section
variable {K : PySem.W.Frag} {σ : L2.St} {H : Hp} {Q : VK} {C a dx : Addr} {fs : List (Str × V)} {sp spr : Sp} {E : L2.St → XK} {y : V}
theorem ix_of {α : Type} {l : List α} {x : α} (h : x ∈ l) : ∃ i : Nat, l[i]? = some x := List.mem_iff_getElem?.mp h
theorem att_go {l : List (Addr × Cl.Alt)} {r : Cl.Alt} (hm : (C, r) ∈ l) (ha : H a = some (.ins C dx fs)) (h : r a fs σ H Q) : ∃ (a' dx : Addr) (fs : List (Str × V)) (i : Nat) (C : Addr) (r : Cl.Alt), V.ref a = .ref a' ∧ l[i]? = some (C, r) ∧ H a' = some (.ins C dx fs) ∧ r a' fs σ H Q := by
  obtain ⟨i, hi⟩ := ix_of hm
  exact ⟨a, dx, fs, i, C, r, rfl, hi, ha, h⟩
theorem s_raise {D : Ends} {W : WX} {f : Str} {ta : TA} (h : ta σ H fun vs H1 => ∃ v, vs = [v] ∧ ∀ d, H1 d = none → W (.ref C) (some d) σ (upd H1 d (.xd [(f, v)]))) : tRaiseE C f W ta D σ H := h
theorem fld_go (f : Str) {v : V} {l : List (Addr × Cl.Alt)} (hm : (C, Cl.aFld f) ∈ l) (ha : H a = some (.ins C dx fs)) (hl : fs.lookup f = some v) (h : Q v H) : ∃ (a' dx : Addr) (fs : List (Str × V)) (i : Nat) (C : Addr) (r : Cl.Alt), V.ref a = .ref a' ∧ l[i]? = some (C, r) ∧ H a' = some (.ins C dx fs) ∧ r a' fs σ H Q := att_go hm ha ⟨v, hl, h⟩
theorem con_go (f : Str) (v : V) {l : List (Addr × Cl.Alt)} (hm : (C, Cl.aCon f v) ∈ l) (ha : H a = some (.ins C dx fs)) (hl : fs.lookup f = none) (h : Q v H) : ∃ (a' dx : Addr) (fs : List (Str × V)) (i : Nat) (C : Addr) (r : Cl.Alt), V.ref a = .ref a' ∧ l[i]? = some (C, r) ∧ H a' = some (.ins C dx fs) ∧ r a' fs σ H Q := att_go hm ha ⟨hl, h⟩
theorem meth_go (sp : Sp) {l : List (Addr × Sp)} {m : Str} {t : TA} (hm : (C, sp) ∈ l) (ha : H a = some (.ins C dx fs)) (hn : fs.lookup m = none) (h : t σ H fun vs H2 => sp (.ref a :: vs) H2 Q (E σ)) : ∃ (i : Nat) (C : Addr) (sp : Sp) (a' dx : Addr) (fs : List (Str × V)), l[i]? = some (C, sp) ∧ V.ref a = .ref a' ∧ H a' = some (.ins C dx fs) ∧ fs.lookup m = none ∧ t σ H fun vs H2 => sp (.ref a' :: vs) H2 Q (E σ) := by
  obtain ⟨i, hi⟩ := ix_of hm
  exact ⟨i, C, sp, a, dx, fs, hi, rfl, ha, hn, h⟩
theorem setA_go {l : List Addr} {D : Ends} {f : Str} {v : V} (hm : C ∈ l) (ha : H a = some (.ins C dx fs)) (hl : fs.length < 1000) (h : D.nx σ (upd H a (.ins C dx (putF f v fs)))) : ∃ a' C dx fs, V.ref a = .ref a' ∧ C ∈ l ∧ H a' = some (.ins C dx fs) ∧ fs.length < 1000 ∧ D.nx σ (upd H a' (.ins C dx (putF f v fs))) := ⟨a, C, dx, fs, rfl, hm, ha, hl, h⟩
theorem s_lstRg2 {ta tb : TE} (h : ta σ H fun x H1 => tb σ H1 fun y H2 => ∃ i j, x = .int i ∧ y = .int j ∧ RgOk i j ∧ ∀ q, H2 q = none → Q (.ref q) (upd H2 q (.lst (rgV i j)))) : tLstRg (tRg2 ta tb) σ H Q := h
theorem s_lstRg1 {ta : TE} (h : ta σ H fun x H1 => ∃ n, x = .int n ∧ RgOk 0 n ∧ ∀ q, H1 q = none → Q (.ref q) (upd H1 q (.lst (rgV 0 n)))) : tLstRg (tRg1 ta) σ H Q := h
theorem s_makeK {m : Nat} {spK : List V → Sp} {te : TE} {tk : TA} (h : te σ H fun y H1 => tk σ H1 fun zs H2 => ∃ a xs, y = .ref a ∧ zs.length = m ∧ (SqT K H2 a xs ∨ SqL K H2 a xs) ∧ ∀ x dx, H2 x = none → H2 dx = none → dx ≠ x → spK zs (V.ref x :: xs) (upd (upd H2 dx (.own x)) x (.ins C dx [])) (fun v H3 => v = .non ∧ Q (.ref x) H3) (E σ)) : Cl.tMakeSK K C m spK E te tk σ H Q := h
theorem s_lc2 {te0 te : TE} {g g1 : TG} {tt tt1 : TT} {wi1 : TI} {vs vs1 : List Nat} (h : te0 σ H fun x H1 => Cl.AnyB K x H1 (L2B g tt wi1 g1 tt1 te vs vs1 σ Q)) : tLc2 (iAnyP K te0) g tt wi1 g1 tt1 te vs vs1 σ H Q := h
theorem s_anyB {te0 : TE} {R : L2.It → Hp → Prop} (h : te0 σ H fun x H1 => Cl.AnyB K x H1 R) : iAnyP K te0 σ H R := h
theorem anyB_items {x : V} {xs : List V} {R : L2.It → Hp → Prop} (hx : Items K H x xs) (h : ∀ J, (∀ i H', Same H H' → YieldsAt J xs i H') → R J H) : Cl.AnyB K x H R := by
  unfold Cl.AnyB
  cases x <;> first
    | exact False.elim hx
    | (have e : xs = _ := hx
       subst e
       exact h _ fun i H _ => yields_str _ i H)
    | (rcases hx with hx | hx
       · exact .inl ⟨⟨xs, hx⟩, h _ fun i H s => yields_list (s.seq hx) i⟩
       · exact .inr ⟨⟨xs, hx⟩, h _ fun i H s => yields_tup (Same.sqT s hx) i⟩)
/-- .. the inner items stood there before -/
theorem anyB_old {H0 : Hp} {x : V} {xs : List V} {R : L2.It → Hp → Prop} (hs : Same H0 H) (hx : Items K H0 x xs) (h : ∀ J, (∀ i H', Same H0 H' → YieldsAt J xs i H') → R J H) : Cl.AnyB K x H R := by
  unfold Cl.AnyB
  cases x <;> first
    | exact False.elim hx
    | (have e : xs = _ := hx
       subst e
       exact h _ fun i H _ => yields_str _ i H)
    | (rcases hx with hx | hx
       · exact .inl ⟨⟨xs, hs.seq hx⟩, h _ fun i H s => yields_list (s.seq hx) i⟩
       · exact .inr ⟨⟨xs, Same.sqT hs hx⟩, h _ fun i H s => yields_tup (Same.sqT s hx) i⟩)
end
end Px
/-! classmethods: C.m(..); inside one: cls(), cls.f -/
namespace Cl
open PySem PySem.Spec PySem.Calls PyProof.Rows L2 Px
/-- C.m(e, ..), m a classmethod of the class at C -/
def tCMethS (C : Addr) (sp : Sp) (E : L2.St → XK) (ta : TE) (t : TA) : TE := fun σ H Q => ta σ H fun x H1 => x = .ref C ∧ t σ H1 fun vs H2 => sp (.ref C :: vs) H2 Q (E σ)
/-- v(), v the class at C -/
def tMakeV (C : Addr) (sp : Sp) (E : L2.St → XK) (ta : TE) : TE := fun σ H Q => ta σ H fun y H1 => y = .ref C ∧ ∀ x dx, H1 x = none → H1 dx = none → dx ≠ x → sp [V.ref x] (upd (upd H1 dx (.own x)) x (.ins C dx [])) (fun v H2 => v = .non ∧ Q (.ref x) H2) (E σ)
/-- v.f, v the class at C, f a constant of it -/
def tClsV (C : Addr) (v : V) (ta : TE) : TE := fun σ H Q => ta σ H fun y H1 => y = .ref C ∧ Q v H1
section
variable {X : Cx} {CX : CXT} {k : Nat} {C p g : Addr} {mc : Value} {sp : Sp} {E : L2.St → XK} {o e : Expr} {es : List Expr} {f m : Str} {pos apos : Pos} {ta : TE} {t : TA} {pl : Sem Bool}
theorem run_cmS {pins : List (Addr × Obj)} {σ : L2.St} {H : Hp} {s : Shared} {q : Addr} {Q : VK} {us : List Value} {vs : List V} (F : FnR X.prog X.w X.K X.mg X.base CX k g sp) (hr : Room k X.A) (hx : PassesAt CX X σ (E σ)) (I : Inv X ((q, PySem.W.methodObj (.ref g) (.ref C)) :: pins) σ H s)
    (r : Vals vs us) (h : sp (.ref C :: vs) H Q (E σ)) : wpAny (model X.prog X.w) X.A (call (.ref q) us) (EP X pins σ Q) X.xe s := by
  have z : wpAny (model X.prog X.w) X.A (call (.ref q) us) (EP X ((q, PySem.W.methodObj (.ref g) (.ref C)) :: pins) σ Q) X.xe s :=
    wpAny_call (PySem.W.method_call (ClX.pin_at I) (codeAny_mono (F X.A X.stack s H (.ref C :: us) (.ref C :: vs) Q (E σ) hr I.env0 (.cons rfl r) h) fun r s' hq => by
      cases r with
      | error e => exact hx _ H s e s' I hq
      | ok fl =>
        cases fl with
        | ret u => exact I.after hq
        | _ => exact hq.elim))
  exact thn z fun _ _ y => ClX.unpinE y
theorem pe_cmethS (he : PE X o ta) (r : ClX.CRead X.K C mc) (c : ClX.CMet X.K C mc m p g) (F : FnR X.prog X.w X.K X.mg X.base CX k g sp) (hr : Room k X.A) (hx : ∀ σ, PassesAt CX X σ (E σ)) (ha : PA X (e :: es) t)
    (hst : starEach (e :: es) X.env = (false, eval e X.env) :: starEach es X.env := by rfl) (hpl : (backTo pos (starEach es X.env)).any (·.1) = false := by rfl)
    (ht : eval (.Call (.Attribute o m apos) (e :: es) [] pos) X.env = (do
      let ov ← eval o X.env
      standAt apos.atName
      let (f, first) ← holding [ov] (getMethod ov m pl)
      callWith pos f first (backTo pos (starEach (e :: es) X.env)) (backToKw pos (keywordEach [] X.env))) := by rfl) :
    PE X (.Call (.Attribute o m apos) (e :: es) [] pos) (tCMethS C sp E ta t) := by
  refine ⟨fun pins s σ H Q I h => ?_⟩
  refine PySem.W.methodCall_KW (pl := pl) (thn (he.run pins s σ H _ I h) fun u s1 ⟨x, H1, I1, rx, ex, q⟩ => ?_) ht
  subst ex
  obtain rfl : u = Value.ref C := rx
  refine ClX.getmethcm_ok I1 r c fun s2 I2 => ?_
  refine ClX.callwith_cm I2 (ClX.base_none I1 (Nat.le_refl _)) c.fi (thn (ha.run pos _ s2 σ H1 _ I2 q) fun us s3 ⟨vs, H2, I3, rv, q2⟩ => ⟨⟨ClX.pin_at I3, I3.kIn⟩, ?_⟩) hst hpl
  exact run_cmS F hr (hx σ) I3 rv q2
theorem pe_makeV {x : Str} {p' : Pos} {f' : Addr} (M : Mk X.K C f') (F : FnR X.prog X.w X.K X.mg X.base CX k f' sp) (hr : Room (k + 1) X.A) (he : PE X (.Name x p') ta) (hx : ∀ σ, PassesAt CX X σ (E σ)) : PE X (.Call (.Name x p') [] [] pos) (tMakeV C sp E ta) := by
  refine ⟨fun pins s σ H Q I h => ?_⟩
  refine wpAny_Call_Name_kw (thn (he.run pins s σ H _ I h) fun u s1 ⟨v, H1, I1, rx, ex, q⟩ => ?_)
  subst ex
  obtain rfl : u = Value.ref C := rx
  exact PySem.W.callWith_K0 I1.kIn M.kp (run_makeS (us := []) M F hr (hx σ) I1 .nil q)
theorem pe_clsV {v : V} {u : Value} (r : ClX.CRead X.K C mc) (c : ClX.CVal X.K C mc f v u) (he : PE X e ta) (hb : attributeBase e f X.env (eval e X.env) = eval e X.env := by rfl) : PE X (.Attribute e f pos) (tClsV C v ta) := by
  refine ⟨fun pins s σ H Q I h => ?_⟩
  refine attr_of hb (thn (he.run pins s σ H _ I h) fun w s1 ⟨x, H1, I1, rx, ex, q⟩ => ?_)
  subst ex
  obtain rfl : w = Value.ref C := rx
  exact ClX.getcval_ok I1 r c fun s2 I2 => ⟨v, H1, I2, c.rel, q⟩
end
end Cl
namespace Hk
open PySem PySem.Spec PySem.W PyProof.Rows L2 He
def cmetB (K : Frag) (C : Addr) (m : PySem.Str) : Bool := readsIn K C (.type "type") && (eqO (specialIn K (.ref C) "__getattribute__") (some (some (.builtin "type.__getattribute__"))) && (He5.wrapB K C "classmethod" "classmethod.__get__" m && fnIn K (He5.wf K C "classmethod" m)))
theorem cmetB_ok {K : Frag} {C : Addr} {m : PySem.Str} (h : cmetB K C m = true) : ClX.CRead K C (.type "type") ∧ ClX.CMet K C (.type "type") m (ma K C m) (He5.wf K C "classmethod" m) := by
  unfold cmetB at h
  obtain ⟨h1, h⟩ := ba h
  obtain ⟨h2, h⟩ := ba h
  obtain ⟨h3, h4⟩ := ba h
  exact ⟨⟨h1, eqO_ok h2⟩, He5.cmet_of h3 h4⟩
end Hk
namespace Px
open PySem PySem.Spec PyProof.Rows L2
theorem s_ifor {t1 t2 : TT} {ta tb : TS} {D : Ends} {σ : L2.St} {H : Hp} (c1 c2 : Bool) (h1 : ∀ QB : Bool → Hp → Prop, QB c1 H → t1 σ H QB) (h2 : ∀ QB : Bool → Hp → Prop, QB c2 H → t2 σ H QB) (hA : c1 = true ∨ c2 = true → ta D σ H) (hB : c1 = false → c2 = false → tb D σ H) : tIfS (tOr t1 t2) ta tb D σ H := by
  refine h1 _ ?_
  cases c1 with
  | true => exact hA (.inl rfl)
  | false =>
    refine h2 _ ?_
    cases c2 with
    | true => exact hA (.inr rfl)
    | false => exact hB rfl rfl
theorem s_cmeth {σ : L2.St} {H : Hp} {Q : VK} {C : Addr} {sp : Sp} {E : L2.St → XK} {t : TA} (h : t σ H fun vs H2 => sp (.ref C :: vs) H2 Q (E σ)) : Cl.tCMethS C sp E (tC (.ref C)) t σ H Q := ⟨rfl, h⟩
theorem s_makeV {σ : L2.St} {H : Hp} {Q : VK} {C : Addr} {sp : Sp} {E : L2.St → XK} {ta : TE} (h : ta σ H fun y H1 => y = .ref C ∧ ∀ x dx, H1 x = none → H1 dx = none → dx ≠ x → sp [V.ref x] (upd (upd H1 dx (.own x)) x (.ins C dx [])) (fun v H2 => v = .non ∧ Q (.ref x) H2) (E σ)) : Cl.tMakeV C sp E ta σ H Q := h
theorem s_clsV {σ : L2.St} {H : Hp} {Q : VK} {C : Addr} {v : V} {ta : TE} (h : ta σ H fun y H1 => y = .ref C ∧ Q v H1) : Cl.tClsV C v ta σ H Q := h
end Px
/-! a list times an int; walks over own objects by the dict in a field; a locked statement that may raise -/
namespace Cl
open PySem PySem.Spec PyProof.Rows L2 Px
section
variable {X : Cx} {l : List (Addr × Str)}
end
section
variable {X : Cx} {W : WX}
end
end Cl
namespace Cl
open PySem PySem.Spec PyProof.Rows L2 Px
/-- two own classes that both have the method, neither has the reflected one -/
structure PairOp (K : PySem.W.Frag) (C D : Addr) (op : Operator) (f g : Addr) : Prop where
  l : OwnOp K C (PySem.dunder op.info.2) f
  r : OwnOp K D (PySem.dunder op.info.2) g
  lr : PySem.W.findIn K (.ref C) (dunderR op.info.2) = some none
  rr : PySem.W.findIn K (.ref D) (dunderR op.info.2) = some none
  sub : PySem.W.subIn K (.ref D) (.ref C) = some false
  ne : C ≠ D
section
open PySem.W
variable {K : PySem.W.Frag} {h₀ : Heap} {L : Addr} {s : Shared} {m : Str → Option Value} {A : Around} {E : Value → Shared → Prop} {x y C D f g : Addr} {ox oy : Obj} {od od' : Option Obj} {prog : Program} {w : World}
end
section
variable {X : Cx} {CX : CXT} {k : Nat} {f g C D : Addr} {sp : Sp} {E : L2.St → XK}
def AltP (X : Cx) (F : Value → Value → Sem Value) (C D : Addr) (sp : Sp) (E : L2.St → XK) : Prop := ∀ (pins : List (Addr × Obj)) (s : Shared) (σ : L2.St) (H : Hp) (a b dx dy : Addr) (fs gs : List (Str × V)) (Q : VK), Inv X pins σ H s → H a = some (.ins C dx fs) → H b = some (.ins D dy gs) → sp [.ref a, .ref b] H Q (E σ) →
  wpAny (model X.prog X.w) X.A (F (.ref a) (.ref b)) (EP X pins σ Q) X.xe s
inductive AltPs (X : Cx) (F : Value → Value → Sem Value) (E : L2.St → XK) : List (Addr × Addr × Sp) → Prop
  | nil : AltPs X F E []
  | cons {C D : Addr} {sp : Sp} {l : List (Addr × Addr × Sp)} : AltP X F C D sp E → AltPs X F E l → AltPs X F E ((C, D, sp) :: l)
theorem AltPs.at {F : Value → Value → Sem Value} {l : List (Addr × Addr × Sp)} (h : AltPs X F E l) (hm : (C, D, sp) ∈ l) : AltP X F C D sp E := by
  induction h with
  | nil => cases hm
  | cons h _ ih =>
    rcases List.mem_cons.mp hm with e | hm
    · cases e; exact h
    · exact ih hm
end
end Cl
namespace Hk
open PySem PySem.W PySem.Spec PyProof.Rows L2 He
end Hk
/-! x.upper() of a text; a loop over a list or a tuple -/
namespace Cl
open PySem PySem.Spec PyProof.Rows L2 Px
theorem forb_seq {K : PySem.W.Frag} {D : Ends} {σ : L2.St} {H : Hp} {xs : List V} {g : TG} {tb : TS} {a : Addr} (Pv : Nat → L2.St → Hp → Prop) (h0 : Pv 0 σ H) (hy : (∀ i σ H, i ≤ xs.length → Pv i σ H → SqL K H a xs) ∨ (∀ i σ H, i ≤ xs.length → Pv i σ H → SqT K H a xs))
    (hs : ∀ i y σ H, xs[i]? = some y → Pv i σ H → g y σ H fun σ2 H2 => tb { D with nx := Pv (i + 1), ct := Pv (i + 1), bk := D.nx } σ2 H2) (hd : ∀ σ H, Pv xs.length σ H → D.nx σ H) : ForBody K g tb D σ (.ref a) H := by
  rcases hy with hy | hy
  · exact forb_list Pv h0 hy hs hd
  · exact forb_tup Pv h0 hy hs hd
end Cl
/-! == of two dicts whose values are own objects -/
namespace Cl
open PySem PySem.Spec PySem.Calls PySem.W PyProof.Rows L2 Px
section
variable {prog : Program} {w : World} {κ : Type} [DecidableEq κ] {knd : KeyKind prog w κ} {A : Around} {E : Value → Shared → Prop} {s : Shared}
end
section
variable {X : Cx} {CX : CXT} {k : Nat} {f C : Addr} {sp : Sp} {E : L2.St → XK}
/-- an own __eq__, called by a dict's == -/
def AltE (X : Cx) (C : Addr) (sp : Sp) (E : L2.St → XK) : Prop := ∀ (pins : List (Addr × Obj)) (s : Shared) (σ : L2.St) (H : Hp) (a b dx dy : Addr) (fs gs : List (Str × V)) (Q : VK), Inv X pins σ H s → H a = some (.ins C dx fs) → H b = some (.ins C dy gs) → sp [.ref a, .ref b] H Q (E σ) →
  wpAny (model X.prog X.w) X.A.in1 (richCompare .Eq (.ref a) (.ref b)) (EP X pins σ Q) X.xe s
inductive AltEs (X : Cx) (E : L2.St → XK) : List (Addr × Sp) → Prop
  | nil : AltEs X E []
  | cons {C : Addr} {sp : Sp} {l : List (Addr × Sp)} : AltE X C sp E → AltEs X E l → AltEs X E ((C, sp) :: l)
theorem AltEs.at {l : List (Addr × Sp)} (h : AltEs X E l) : ∀ {i : Nat}, l[i]? = some (C, sp) → AltE X C sp E := by
  induction h with
  | nil => intro i e; cases e
  | cons h _ ih =>
    intro i e
    cases i with
    | zero => cases e; exact h
    | succ i => exact ih (by simpa using e)
/-- the heap while both dicts are locked -/
@[reducible] def lk2 (H : Hp) (a b : Addr) (oa ob : Obj) (ks ls : List (Key × V)) : Hp := upd (upd H a (.frz oa (.dK ks))) b (.frz ob (.dK ls))
/-- .. and when the locks are off -/
@[reducible] def off2 (H : Hp) (a b : Addr) (ks ls : List (Key × V)) : Hp := upd (upd H b (.dK ls)) a (.dK ks)
end
end Cl
/-! data: trees over the heap, cells that change; readings over data alone -/
namespace Dx
open PySem PySem.Spec PyProof.Rows L2 Px
inductive D where
  | non
  | bl (b : Bool)
  | int (i : Int)
  | str (s : Str)
  | lst (ds : List D)
  | tup (ds : List D)
  | obj (C : Str) (fs : List (Str × D))
  | dic (lk : Bool) (kvs : List (Key × D))
  | hdl (n : Nat)
/-- the cells' addresses; what else may not be reached (an expression's own list) -/
structure Ads where
  c : List (Option Addr)
  x : List Addr
structure Out (A : Ads) (a : Addr) : Prop where
  c : ¬ (some a ∈ A.c)
  x : ¬ (a ∈ A.x)
mutual
inductive Dt (K : PySem.W.Frag) (H : Hp) (A : Ads) : V → D → Prop
  | non : Dt K H A .non .non
  | bl (b : Bool) : Dt K H A (.bl b) (.bl b)
  | int (i : Int) : Dt K H A (.int i) (.int i)
  | str (s : Str) : Dt K H A (.str s) (.str s)
  | lst {a : Addr} {xs : List V} {ds : List D} : H a = some (.lst xs) → Out A a → Dts K H A xs ds → Dt K H A (.ref a) (.lst ds)
  | tup {a : Addr} {xs : List V} {ds : List D} : H a = some (.tup xs) → Out A a → Dts K H A xs ds → Dt K H A (.ref a) (.tup ds)
  | obj {a dx : Addr} {C : Str} {fs : List (Str × V)} {gs : List (Str × D)} : H a = some (.ins (He.ga K C) dx fs) → Out A a → Dtf K H A fs gs → Dt K H A (.ref a) (.obj C gs)
  | dic {a : Addr} {kvs : List (Key × V)} {ds : List (Key × D)} {lk : Bool} : Rd H a (.dK kvs) → Out A a → Dtk K H A kvs ds → Dt K H A (.ref a) (.dic lk ds)
  | hdl {n : Nat} {a : Addr} : A.c[n]? = some (some a) → Dt K H A (.ref a) (.hdl n)
inductive Dts (K : PySem.W.Frag) (H : Hp) (A : Ads) : List V → List D → Prop
  | nil : Dts K H A [] []
  | cons {v : V} {d : D} {vs : List V} {ds : List D} : Dt K H A v d → Dts K H A vs ds → Dts K H A (v :: vs) (d :: ds)
inductive Dtf (K : PySem.W.Frag) (H : Hp) (A : Ads) : List (Str × V) → List (Str × D) → Prop
  | nil : Dtf K H A [] []
  | cons {f : Str} {v : V} {d : D} {vs : List (Str × V)} {ds : List (Str × D)} : Dt K H A v d → Dtf K H A vs ds → Dtf K H A ((f, v) :: vs) ((f, d) :: ds)
inductive Dtk (K : PySem.W.Frag) (H : Hp) (A : Ads) : List (Key × V) → List (Key × D) → Prop
  | nil : Dtk K H A [] []
  | cons {f : Key} {v : V} {d : D} {vs : List (Key × V)} {ds : List (Key × D)} : Dt K H A v d → Dtk K H A vs ds → Dtk K H A ((f, v) :: vs) ((f, d) :: ds)
end
/-- the heap goes on: all but the cells stands, the cells stay cells -/
structure Kp (H : Hp) (A : Ads) (H' : Hp) (A' : Ads) : Prop where
  keep : ∀ a o, H a = some o → Out A a → H' a = some o ∧ Out A' a
  live : ∀ (n : Nat) (a : Addr), A.c[n]? = some (some a) → A'.c[n]? = some (some a)
  len : A.c.length ≤ A'.c.length
  old : ∀ (n : Nat) (a : Addr), n < A.c.length → A'.c[n]? = some (some a) → A.c[n]? = some (some a)
structure Later (H : Hp) (A : Ads) (H' : Hp) (A' : Ads) : Prop extends Kp H A H' A' where
  ex : ∀ a, a ∈ A.x → H' a = H a ∧ a ∈ A'.x
  fz : ∀ a od u, H a = some (.frz od u) → H' a = some (.frz od u)
theorem Kp.refl (H : Hp) (A : Ads) : Kp H A H A := ⟨fun _ _ h n => ⟨h, n⟩, fun _ _ h => h, Nat.le_refl _, fun _ _ _ h => h⟩
theorem Kp.trans {H H1 H2 : Hp} {A A1 A2 : Ads} (x : Kp H A H1 A1) (y : Kp H1 A1 H2 A2) : Kp H A H2 A2 :=
  ⟨fun a o h n => let ⟨h1, n1⟩ := x.keep a o h n; y.keep a o h1 n1, fun n a h => y.live n a (x.live n a h), Nat.le_trans x.len y.len, fun n a hn h => x.old n a hn (y.old n a (Nat.lt_of_lt_of_le hn x.len) h)⟩
theorem Later.refl (H : Hp) (A : Ads) : Later H A H A := ⟨Kp.refl H A, fun _ h => ⟨rfl, h⟩, fun _ _ _ h => h⟩
theorem Later.trans {H H1 H2 : Hp} {A A1 A2 : Ads} (x : Later H A H1 A1) (y : Later H1 A1 H2 A2) : Later H A H2 A2 :=
  ⟨x.toKp.trans y.toKp, fun a h => let ⟨e1, h1⟩ := x.ex a h; let ⟨e2, h2⟩ := y.ex a h1; ⟨e2.trans e1, h2⟩, fun a od u h => y.fz a od u (x.fz a od u h)⟩
theorem rd_keep {H H' : Hp} {A A' : Ads} {a : Addr} {u : HO} (l : Kp H A H' A') (h : Rd H a u) (n : Out A a) : Rd H' a u ∧ Out A' a := by
  rcases h with h | ⟨o, h⟩
  · exact ⟨.inl (l.keep _ _ h n).1, (l.keep _ _ h n).2⟩
  · exact ⟨.inr ⟨o, (l.keep _ _ h n).1⟩, (l.keep _ _ h n).2⟩
section
variable {K : PySem.W.Frag} {H H' : Hp} {A A' : Ads}
mutual
theorem Dt.kp (l : Kp H A H' A') : ∀ {v : V} {d : D}, Dt K H A v d → Dt K H' A' v d
  | _, _, .non => .non
  | _, _, .bl b => .bl b
  | _, _, .int b => .int b
  | _, _, .str b => .str b
  | _, _, .lst h n r => .lst (l.keep _ _ h n).1 (l.keep _ _ h n).2 (Dts.kp l r)
  | _, _, .tup h n r => .tup (l.keep _ _ h n).1 (l.keep _ _ h n).2 (Dts.kp l r)
  | _, _, .obj h n r => .obj (l.keep _ _ h n).1 (l.keep _ _ h n).2 (Dtf.kp l r)
  | _, _, .dic h n r => .dic (rd_keep l h n).1 (rd_keep l h n).2 (Dtk.kp l r)
  | _, _, .hdl h => .hdl (l.live _ _ h)
theorem Dts.kp (l : Kp H A H' A') : ∀ {v : List V} {d : List D}, Dts K H A v d → Dts K H' A' v d
  | _, _, .nil => .nil
  | _, _, .cons h r => .cons (Dt.kp l h) (Dts.kp l r)
theorem Dtf.kp (l : Kp H A H' A') : ∀ {v : List (Str × V)} {d : List (Str × D)}, Dtf K H A v d → Dtf K H' A' v d
  | _, _, .nil => .nil
  | _, _, .cons h r => .cons (Dt.kp l h) (Dtf.kp l r)
theorem Dtk.kp (l : Kp H A H' A') : ∀ {v : List (Key × V)} {d : List (Key × D)}, Dtk K H A v d → Dtk K H' A' v d
  | _, _, .nil => .nil
  | _, _, .cons h r => .cons (Dt.kp l h) (Dtk.kp l r)
end
theorem Dt.later {v : V} {d : D} (h : Dt K H A v d) (l : Later H A H' A') : Dt K H' A' v d := h.kp l.toKp
theorem Dts.later {v : List V} {d : List D} (h : Dts K H A v d) (l : Later H A H' A') : Dts K H' A' v d := h.kp l.toKp
theorem Dtf.later {v : List (Str × V)} {d : List (Str × D)} (h : Dtf K H A v d) (l : Later H A H' A') : Dtf K H' A' v d := h.kp l.toKp
theorem Dtk.later {v : List (Key × V)} {d : List (Key × D)} (h : Dtk K H A v d) (l : Later H A H' A') : Dtk K H' A' v d := h.kp l.toKp
theorem Dts.len : ∀ {v : List V} {d : List D}, Dts K H A v d → v.length = d.length
  | _, _, .nil => rfl
  | _, _, .cons _ r => congrArg (· + 1) r.len
theorem Dts.at : ∀ {v : List V} {d : List D} {i : Nat} {y : D}, Dts K H A v d → d[i]? = some y → ∃ x, v[i]? = some x ∧ Dt K H A x y
  | _, _, _, _, .nil, h => by simp at h
  | _, _, 0, _, .cons h _, e => ⟨_, rfl, by cases e; exact h⟩
  | _, _, i + 1, _, .cons _ r, e => by
    obtain ⟨x, hx, hd⟩ := r.at (i := i) (by simpa using e)
    exact ⟨x, by simpa using hx, hd⟩
theorem Dts.at' : ∀ {v : List V} {d : List D} {i : Nat} {x : V}, Dts K H A v d → v[i]? = some x → ∃ y, d[i]? = some y ∧ Dt K H A x y
  | _, _, _, _, .nil, h => by simp at h
  | _, _, 0, _, .cons h _, e => ⟨_, rfl, by cases e; exact h⟩
  | _, _, i + 1, _, .cons _ r, e => by
    obtain ⟨x, hx, hd⟩ := r.at' (i := i) (by simpa using e)
    exact ⟨x, by simpa using hx, hd⟩
theorem Dts.app : ∀ {v v' : List V} {d d' : List D}, Dts K H A v d → Dts K H A v' d' → Dts K H A (v ++ v') (d ++ d')
  | _, _, _, _, .nil, h => h
  | _, _, _, _, .cons h r, h' => .cons h (r.app h')
theorem Dts.one {v : V} {d : D} (h : Dt K H A v d) : Dts K H A [v] [d] := .cons h .nil
theorem Dts.take : ∀ {v : List V} {d : List D} (n : Nat), Dts K H A v d → Dts K H A (v.take n) (d.take n)
  | _, _, 0, _ => by simp; exact .nil
  | _, _, n + 1, .nil => by simp; exact .nil
  | _, _, n + 1, .cons h r => .cons h (r.take n)
theorem Dts.drop : ∀ {v : List V} {d : List D} (n : Nat), Dts K H A v d → Dts K H A (v.drop n) (d.drop n)
  | _, _, 0, h => h
  | _, _, n + 1, .nil => by simp; exact .nil
  | _, _, n + 1, .cons h r => r.drop n
theorem Dts.set : ∀ {v : List V} {d : List D} {x : V} {y : D} (n : Nat), Dts K H A v d → Dt K H A x y → Dts K H A (v.set n x) (d.set n y)
  | _, _, _, _, _, .nil, _ => .nil
  | _, _, _, _, 0, .cons _ r, h => .cons h r
  | _, _, _, _, n + 1, .cons h0 r, h => .cons h0 (r.set n h)
theorem Dts.rev : ∀ {v : List V} {d : List D}, Dts K H A v d → Dts K H A v.reverse d.reverse
  | _, _, .nil => .nil
  | _, _, .cons h r => by rw [List.reverse_cons, List.reverse_cons]; exact r.rev.app (.one h)
theorem Dts.strs : ∀ (l : List Str), Dts K H A (l.map V.str) (l.map D.str)
  | [] => .nil
  | x :: r => .cons (.str x) (Dts.strs r)
theorem Dts.ints : ∀ (l : List Int), Dts K H A (l.map V.int) (l.map D.int)
  | [] => .nil
  | x :: r => .cons (.int x) (Dts.ints r)
theorem Dts.strsV : ∀ {v : List V} {l : List Str}, Dts K H A v (l.map D.str) → v = l.map V.str
  | _, [], .nil => rfl
  | _, x :: r, .cons h t => by
    have := t.strsV
    cases h
    rw [this]
    rfl
theorem Dts.intsV : ∀ {v : List V} {l : List Int}, Dts K H A v (l.map D.int) → v = l.map V.int
  | _, [], .nil => rfl
  | _, x :: r, .cons h t => by
    have := t.intsV
    cases h
    rw [this]
    rfl
theorem Dtf.look : ∀ {fs : List (Str × V)} {gs : List (Str × D)} {f : Str} {y : D}, Dtf K H A fs gs → gs.lookup f = some y → ∃ x, fs.lookup f = some x ∧ Dt K H A x y
  | _, _, _, _, .nil, h => by cases h
  | _, _, f, y, .cons (f := g) h r, e => by
    by_cases hg : f == g
    · simp only [List.lookup, hg] at e ⊢
      cases e
      exact ⟨_, rfl, h⟩
    · have hg : (f == g) = false := by simpa using hg
      simp only [List.lookup, hg] at e ⊢
      exact r.look e
theorem Dtf.miss : ∀ {fs : List (Str × V)} {gs : List (Str × D)} {f : Str}, Dtf K H A fs gs → gs.lookup f = none → fs.lookup f = none
  | _, _, _, .nil, _ => rfl
  | _, _, f, .cons (f := g) h r, e => by
    by_cases hg : f == g
    · simp only [List.lookup, hg] at e
      cases e
    · have hg : (f == g) = false := by simpa using hg
      simp only [List.lookup, hg] at e ⊢
      exact r.miss e
theorem Dtf.len : ∀ {fs : List (Str × V)} {gs : List (Str × D)}, Dtf K H A fs gs → fs.length = gs.length
  | _, _, .nil => rfl
  | _, _, .cons _ r => congrArg (· + 1) r.len
end
/-- a cell -/
def Cell (K : PySem.W.Frag) (H : Hp) (A : Ads) (a : Addr) : D → Prop
  | .lst ds => ∃ xs, H a = some (.lst xs) ∧ Dts K H A xs ds
  | .obj C gs => ∃ dx fs, H a = some (.ins (He.ga K C) dx fs) ∧ Dtf K H A fs gs ∧ gs.lookup ("literals" : Str) = none
  | .dic lk ds => ∃ kvs, (if lk = true then ∃ od, H a = some (.frz od (.dK kvs)) else H a = some (.dK kvs)) ∧ Dtk K H A kvs ds
  | _ => False
theorem Cell.here {K : PySem.W.Frag} {H : Hp} {A : Ads} {a : Addr} {c : D} (h : Cell K H A a c) : ∃ o, H a = some o := by
  cases c <;> first
    | exact h.elim
    | (obtain ⟨xs, h, _⟩ := h; exact ⟨_, h⟩)
    | (obtain ⟨dx, fs, h, _⟩ := h; exact ⟨_, h⟩)
    | (obtain ⟨kvs, h, _⟩ := h
       split at h
       · obtain ⟨od, h⟩ := h; exact ⟨_, h⟩
       · exact ⟨_, h⟩)
structure Cells (K : PySem.W.Frag) (H : Hp) (A : Ads) (S : List D) : Prop where
  len : A.c.length = S.length
  at_ : ∀ (n : Nat) (a : Addr), A.c[n]? = some (some a) → ∃ c, S[n]? = some c ∧ Cell K H A a c
  inj : ∀ (n m : Nat) (a : Addr), A.c[n]? = some (some a) → A.c[m]? = some (some a) → n = m
  xs : ∀ a, a ∈ A.x → ∃ zs, H a = some (.lst zs)
  xo : ∀ (n : Nat) (a : Addr), A.c[n]? = some (some a) → a ∉ A.x
structure Rel (K : PySem.W.Frag) (H : Hp) (A : Ads) (σ : L2.St) (ρ : List (Option D)) : Prop where
  len : σ.length = ρ.length
  at_ : ∀ (i : Nat) (d : D), ρ[i]? = some (some d) → ∃ v, σ[i]? = some (some v) ∧ Dt K H A v d
theorem Rel.kp {K : PySem.W.Frag} {H H' : Hp} {A A' : Ads} {σ : L2.St} {ρ : List (Option D)} (r : Rel K H A σ ρ) (l : Kp H A H' A') : Rel K H' A' σ ρ :=
  ⟨r.len, fun i d h => let ⟨v, e, t⟩ := r.at_ i d h; ⟨v, e, t.kp l⟩⟩
theorem Rel.later {K : PySem.W.Frag} {H H' : Hp} {A A' : Ads} {σ : L2.St} {ρ : List (Option D)} (r : Rel K H A σ ρ) (l : Later H A H' A') : Rel K H' A' σ ρ := r.kp l.toKp
theorem Rel.set {K : PySem.W.Frag} {H : Hp} {A : Ads} {σ : L2.St} {ρ : List (Option D)} {v : V} {d : D} (r : Rel K H A σ ρ) (i : Nat) (h : Dt K H A v d) : Rel K H A (σ.set i (some v)) (ρ.set i (some d)) := by
  refine ⟨by rw [List.length_set, List.length_set]; exact r.len, fun j e h' => ?_⟩
  by_cases hj : i = j
  · subst hj
    have hl : i < ρ.length := by
      have := (List.getElem?_eq_some_iff.mp h').1
      rwa [List.length_set] at this
    rw [List.getElem?_set_self hl] at h'
    cases h'
    exact ⟨v, by rw [List.getElem?_set_self (by rw [r.len]; exact hl)], h⟩
  · rw [List.getElem?_set_ne hj] at h'
    obtain ⟨u, eu, t⟩ := r.at_ j e h'
    exact ⟨u, by rw [List.getElem?_set_ne hj]; exact eu, t⟩
theorem Rel.unset {K : PySem.W.Frag} {H : Hp} {A : Ads} {σ : L2.St} {ρ : List (Option D)} {x : Option V} (r : Rel K H A σ ρ) (i : Nat) : Rel K H A (σ.set i x) (ρ.set i none) := by
  refine ⟨by rw [List.length_set, List.length_set]; exact r.len, fun j e h' => ?_⟩
  by_cases hj : i = j
  · subst hj
    have hl : i < ρ.length := by
      have := (List.getElem?_eq_some_iff.mp h').1
      rwa [List.length_set] at this
    rw [List.getElem?_set_self hl] at h'
    cases h'
  · rw [List.getElem?_set_ne hj] at h'
    obtain ⟨u, eu, t⟩ := r.at_ j e h'
    exact ⟨u, by rw [List.getElem?_set_ne hj]; exact eu, t⟩
section
variable {K : PySem.W.Frag} {H : Hp} {A : Ads} {S : List D} {p a : Addr} {o : HO}
theorem Cells.out (C : Cells K H A S) (h : H p = none) : Out A p := by
  refine ⟨fun m => ?_, fun m => ?_⟩
  · obtain ⟨n, e⟩ := List.mem_iff_getElem?.mp m
    obtain ⟨c, _, k⟩ := C.at_ n p e
    obtain ⟨o, e2⟩ := k.here
    rw [h] at e2
    cases e2
  · obtain ⟨o, e2⟩ := C.xs p m
    rw [h] at e2
    cases e2
theorem Later.new (C : Cells K H A S) (h : H p = none) : Later H A (upd H p o) A := ⟨⟨fun a u e n => ⟨by rw [upd_ne (ne_of_none e h)]; exact e, n⟩, fun _ _ e => e, Nat.le_refl _, fun _ _ _ e => e⟩, fun a m => ⟨by
  obtain ⟨u, e⟩ := C.xs a m
  rw [upd_ne (ne_of_none e h)], m⟩, fun a od u e => by rw [upd_ne (ne_of_none e h)]; exact e⟩
theorem Cell.go {H' : Hp} {A' : Ads} {c : D} (k : Cell K H A a c) (l : Kp H A H' A') (e : H' a = H a) : Cell K H' A' a c := by
  cases c <;> first
    | exact k.elim
    | (obtain ⟨xs, h, r⟩ := k; exact ⟨xs, e.trans h, r.kp l⟩)
    | (obtain ⟨dx, fs, h, r, z⟩ := k; exact ⟨dx, fs, e.trans h, r.kp l, z⟩)
    | (obtain ⟨kvs, h, r⟩ := k; exact ⟨kvs, by rw [e]; exact h, r.kp l⟩)
theorem Cells.new (C : Cells K H A S) (h : H p = none) : Cells K (upd H p o) A S :=
  ⟨C.len, fun n a e => by
    obtain ⟨c, e1, k⟩ := C.at_ n a e
    obtain ⟨u, e2⟩ := k.here
    exact ⟨c, e1, k.go (Later.new C h).toKp (upd_ne (ne_of_none e2 h))⟩, C.inj, fun a m => by
    obtain ⟨u, e⟩ := C.xs a m
    exact ⟨u, by rw [upd_ne (ne_of_none e h)]; exact e⟩, C.xo⟩
theorem Cells.same {H' : Hp} (C : Cells K H A S) (s : Same H H') : Cells K H' A S ∧ Later H A H' A := by
  have l : Later H A H' A := ⟨⟨fun a u e n => ⟨s _ _ e, n⟩, fun _ _ e => e, Nat.le_refl _, fun _ _ _ e => e⟩, fun a m => ⟨by
    obtain ⟨u, e⟩ := C.xs a m
    rw [e, s _ _ e], m⟩, fun a od u e => s _ _ e⟩
  refine ⟨⟨C.len, fun n a e => ?_, C.inj, fun a m => let ⟨u, e⟩ := C.xs a m; ⟨u, s _ _ e⟩, C.xo⟩, l⟩
  obtain ⟨c, e1, k⟩ := C.at_ n a e
  obtain ⟨u, e2⟩ := k.here
  exact ⟨c, e1, k.go l.toKp (by rw [e2]; exact s _ _ e2)⟩
/-- a new cell -/
def Ads.add (A : Ads) (p : Addr) : Ads := ⟨A.c ++ [some p], A.x⟩
theorem Later.cell (C : Cells K H A S) (h : H p = none) : Later H A (upd H p o) (A.add p) :=
  ⟨⟨fun a u e n => ⟨by rw [upd_ne (ne_of_none e h)]; exact e, fun m => by
    rcases List.mem_append.mp m with m | m
    · exact n.c m
    · have : a = p := by simpa using m
      exact ne_of_none e h this, n.x⟩, fun n a e => by
    show (A.c ++ [some p])[n]? = _
    rw [List.getElem?_append_left ((List.getElem?_eq_some_iff.mp e).1)]; exact e, by show _ ≤ (A.c ++ [some p]).length; rw [List.length_append]; omega, fun n a hn e => by
    have e : (A.c ++ [some p])[n]? = some (some a) := e
    rw [List.getElem?_append_left hn] at e
    exact e⟩, fun a m => ⟨by
    obtain ⟨u, e⟩ := C.xs a m
    rw [upd_ne (ne_of_none e h)], m⟩, fun a od u e => by rw [upd_ne (ne_of_none e h)]; exact e⟩
theorem Cells.cell (C : Cells K H A S) (h : H p = none) {c : D} (k : Cell K (upd H p o) (A.add p) p c) : Cells K (upd H p o) (A.add p) (S ++ [c]) := by
  have hl := C.len
  have out := C.out h
  have side : ∀ {n : Nat} {a : Addr}, (A.add p).c[n]? = some (some a) → (A.c[n]? = some (some a)) ∨ (n = A.c.length ∧ a = p) := fun {n a} e => by
    have e : (A.c ++ [some p])[n]? = some (some a) := e
    by_cases hn : n < A.c.length
    · exact .inl (by rw [List.getElem?_append_left hn] at e; exact e)
    · rw [List.getElem?_append_right (by omega)] at e
      have h0 : n - A.c.length = 0 := by
        have := (List.getElem?_eq_some_iff.mp e).1
        simp at this
        omega
      rw [h0] at e
      exact .inr ⟨by omega, by cases e; rfl⟩
  refine ⟨by show (A.c ++ [some p]).length = _; rw [List.length_append, List.length_append, hl]; rfl, fun n a e => ?_, fun n m a e e' => ?_, fun a m => ?_, fun n a e => ?_⟩
  · rcases side e with e | ⟨rfl, rfl⟩
    · have hn := (List.getElem?_eq_some_iff.mp e).1
      obtain ⟨c', e1, k'⟩ := C.at_ n a e
      obtain ⟨u, e2⟩ := k'.here
      exact ⟨c', by rw [List.getElem?_append_left (by omega)]; exact e1, k'.go (Later.cell C h).toKp (upd_ne (ne_of_none e2 h))⟩
    · exact ⟨c, by rw [List.getElem?_append_right (by omega), show A.c.length - S.length = 0 by omega]; rfl, k⟩
  · rcases side e with e1 | ⟨rfl, rfl⟩ <;> rcases side e' with e2 | ⟨rfl, e3⟩
    · exact C.inj n m a e1 e2
    · subst e3
      exact absurd (List.mem_iff_getElem?.mpr ⟨n, e1⟩) out.c
    · exact absurd (List.mem_iff_getElem?.mpr ⟨m, e2⟩) out.c
    · rfl
  · obtain ⟨u, e⟩ := C.xs a m
    exact ⟨u, by rw [upd_ne (ne_of_none e h)]; exact e⟩
  · rcases side e with e1 | ⟨rfl, rfl⟩
    · exact C.xo n a e1
    · exact out.x
/-- a cell's new content -/
theorem Kp.put {n : Nat} (h : A.c[n]? = some (some a)) : Kp H A (upd H a o) A := ⟨fun b u e m => ⟨by rw [upd_ne (fun z => m.c (by rw [z]; exact List.mem_iff_getElem?.mpr ⟨n, h⟩))]; exact e, m⟩, fun _ _ e => e, Nat.le_refl _, fun _ _ _ e => e⟩
theorem Later.put (C : Cells K H A S) {n : Nat} (h : A.c[n]? = some (some a)) (hf : ∀ od u, H a ≠ some (.frz od u)) : Later H A (upd H a o) A := ⟨Kp.put h, fun b m => ⟨upd_ne (fun z => C.xo n a h (by rw [← z]; exact m)), m⟩, fun b od u e => by rw [upd_ne (fun z => hf od u (by rw [← z]; exact e))]; exact e⟩
theorem Cells.put (C : Cells K H A S) {n : Nat} (h : A.c[n]? = some (some a)) {c : D} (k : Cell K (upd H a o) A a c) : Cells K (upd H a o) A (S.set n c) := by
  refine ⟨by rw [List.length_set]; exact C.len, fun m b e => ?_, C.inj, fun b m => ?_, C.xo⟩
  rotate_left
  · obtain ⟨u, e⟩ := C.xs b m
    exact ⟨u, by rw [upd_ne (fun z => C.xo n a h (by rw [← z]; exact m))]; exact e⟩
  by_cases hm : n = m
  · subst hm
    rw [h] at e
    cases e
    exact ⟨c, by rw [List.getElem?_set_self (by rw [← C.len]; exact (List.getElem?_eq_some_iff.mp h).1)], k⟩
  · obtain ⟨c', e1, k'⟩ := C.at_ m b e
    exact ⟨c', by rw [List.getElem?_set_ne hm]; exact e1, k'.go (Kp.put h) (upd_ne (fun z => hm (C.inj n m a h (by rw [← z]; exact e))))⟩
end
/-! states, readings over data -/
abbrev Rho := List (Option D)
abbrev Sto := List D
abbrev DQ := D → Sto → Prop
abbrev DE := Rho → Sto → DQ → Prop
abbrev DT := Rho → Sto → (Bool → Sto → Prop) → Prop
abbrev DA := Rho → Sto → (List D → Sto → Prop) → Prop
abbrev DX := Str → List (Str × D) → Sto → Prop
abbrev DW := Str → List (Str × D) → Rho → Sto → Prop
structure DEnds where
  nx : Rho → Sto → Prop
  rt : DQ
  bk : Rho → Sto → Prop := fun _ _ => False
  ct : Rho → Sto → Prop := fun _ _ => False
  b : Nat := 0
abbrev DS := DEnds → Rho → Sto → Prop
abbrev DG := D → Rho → Sto → (Rho → Sto → Prop) → Prop
structure StR (K : PySem.W.Frag) (H0 : Hp) (A0 : Ads) (σ : L2.St) (ρ : Rho) (A : Ads) (S : Sto) (H : Hp) : Prop where
  r : Rel K H A σ ρ
  c : Cells K H A S
  l : Later H0 A0 H A
theorem StR.go {K : PySem.W.Frag} {H0 H H' : Hp} {A0 A A' : Ads} {σ : L2.St} {ρ : Rho} {S S' : Sto} (x : StR K H0 A0 σ ρ A S H) (l : Later H A H' A') (c : Cells K H' A' S') : StR K H0 A0 σ ρ A' S' H' := ⟨x.r.later l, c, x.l.trans l⟩
theorem StR.base {K : PySem.W.Frag} {H0 H1 H : Hp} {A0 A1 A : Ads} {σ : L2.St} {ρ : Rho} {S : Sto} (x : StR K H1 A1 σ ρ A S H) (l : Later H0 A0 H1 A1) : StR K H0 A0 σ ρ A S H := ⟨x.r, x.c, l.trans x.l⟩
/-- exceptions -/
def WRel (K : PySem.W.Frag) (H0 : Hp) (A0 : Ads) (W : WX) (WD : DW) : Prop := ∀ σ ρ A S H C gs fs d, StR K H0 A0 σ ρ A S H → H d = some (.xd fs) → Dtf K H A fs gs → WD C gs ρ S → W (.ref (He.ga K C)) (some d) σ H
theorem WRel.base {K : PySem.W.Frag} {H0 H1 : Hp} {A0 A1 : Ads} {W : WX} {WD : DW} (h : WRel K H0 A0 W WD) (l : Later H0 A0 H1 A1) : WRel K H1 A1 W WD := fun σ ρ A S H C gs fs d x => h σ ρ A S H C gs fs d (x.base l)
def SimE (K : PySem.W.Frag) (W : WX) (WD : DW) (te : TE) (de : DE) : Prop := ∀ H0 A0, WRel K H0 A0 W WD → ∀ σ ρ A S H (Q : VK) (QD : DQ), StR K H0 A0 σ ρ A S H → de ρ S QD →
  (∀ v d A' S' H', Later H A H' A' → StR K H0 A0 σ ρ A' S' H' → Dt K H' A' v d → QD d S' → Q v H') → te σ H Q
def SimT (K : PySem.W.Frag) (W : WX) (WD : DW) (te : TT) (de : DT) : Prop := ∀ H0 A0, WRel K H0 A0 W WD → ∀ σ ρ A S H (Q : Bool → Hp → Prop) (QD : Bool → Sto → Prop), StR K H0 A0 σ ρ A S H → de ρ S QD →
  (∀ b A' S' H', Later H A H' A' → StR K H0 A0 σ ρ A' S' H' → QD b S' → Q b H') → te σ H Q
def SimA (K : PySem.W.Frag) (W : WX) (WD : DW) (te : TA) (de : DA) : Prop := ∀ H0 A0, WRel K H0 A0 W WD → ∀ σ ρ A S H (Q : List V → Hp → Prop) (QD : List D → Sto → Prop), StR K H0 A0 σ ρ A S H → de ρ S QD →
  (∀ vs ds A' S' H', Later H A H' A' → StR K H0 A0 σ ρ A' S' H' → Dts K H' A' vs ds → QD ds S' → Q vs H') → te σ H Q
structure ERel (K : PySem.W.Frag) (H0 : Hp) (A0 : Ads) (E : Ends) (F : DEnds) : Prop where
  nx : ∀ σ ρ A S H, StR K H0 A0 σ ρ A S H → F.nx ρ S → E.nx σ H
  bk : ∀ σ ρ A S H, StR K H0 A0 σ ρ A S H → F.bk ρ S → E.bk σ H
  ct : ∀ σ ρ A S H, StR K H0 A0 σ ρ A S H → F.ct ρ S → E.ct σ H
  rt : ∀ σ ρ A S H v d, StR K H0 A0 σ ρ A S H → Dt K H A v d → F.rt d S → E.rt v H
  b : F.b = A0.c.length
def SimS (K : PySem.W.Frag) (W : WX) (WD : DW) (ts : TS) (ds : DS) : Prop := ∀ H0 A0, WRel K H0 A0 W WD → ∀ σ ρ A S H E F, StR K H0 A0 σ ρ A S H → ERel K H0 A0 E F → ds F ρ S → ts E σ H
def SimG (K : PySem.W.Frag) (W : WX) (WD : DW) (tg : TG) (dg : DG) : Prop := ∀ H0 A0, WRel K H0 A0 W WD → ∀ σ ρ A S H v d (Q : L2.St → Hp → Prop) (QD : Rho → Sto → Prop), StR K H0 A0 σ ρ A S H → Dt K H A v d → dg d ρ S QD →
  (∀ σ' ρ' A' S' H', Later H A H' A' → StR K H0 A0 σ' ρ' A' S' H' → QD ρ' S' → Q σ' H') → tg v σ H Q
end Dx
/-! constructs: expressions -/
namespace Dx
open PySem PySem.Spec PyProof.Rows L2 Px
/-- what stands there -/
def rs (S : Sto) : D → D
  | .hdl n => (S[n]?).getD .non
  | d => d
theorem rs_h {S : Sto} {n : Nat} {c : D} (h : S[n]? = some c) : rs S (.hdl n) = c := by
  show (S[n]?).getD .non = c
  rw [h]
  rfl
def Sq (S : Sto) (d : D) (ds : List D) : Prop := rs S d = .lst ds ∨ rs S d = .tup ds
def getK {α : Type} (l : List (Key × α)) (k : Key) : Option α := (l.find? fun kv => decide (kv.1 = k)).map (·.2)
section
variable {K : PySem.W.Frag} {H H' : Hp} {A : Ads} {S : Sto} {v : V} {d : D}
theorem ls_at {ds : List D} (C : Cells K H A S) (t : Dt K H A v d) (e : rs S d = .lst ds) : ∃ a xs, v = .ref a ∧ H a = some (.lst xs) ∧ Dts K H A xs ds := by
  cases t <;> first
    | (cases e; done)
    | skip
  · rename_i xs es h n r
    cases e
    exact ⟨_, _, rfl, h, r⟩
  · rename_i n a h
    obtain ⟨c, hc, k⟩ := C.at_ n a h
    rw [rs_h hc] at e
    subst e
    obtain ⟨xs, h2, r⟩ := k
    exact ⟨a, xs, rfl, h2, r⟩
theorem sq_at {ds : List D} (C : Cells K H A S) (t : Dt K H A v d) (e : Sq S d ds) : ∃ a xs, v = .ref a ∧ (H a = some (.lst xs) ∨ H a = some (.tup xs)) ∧ Dts K H A xs ds := by
  rcases e with e | e
  · obtain ⟨a, xs, e1, h, r⟩ := ls_at C t e
    exact ⟨a, xs, e1, .inl h, r⟩
  · cases t <;> first
      | (cases e; done)
      | skip
    · cases e
      rename_i h n r
      exact ⟨_, _, rfl, .inr h, r⟩
    · rename_i n a h
      obtain ⟨c, hc, k⟩ := C.at_ n a h
      rw [rs_h hc] at e
      subst e
      exact k.elim
theorem dc_at {ds : List (Key × D)} {lk : Bool} (C : Cells K H A S) (t : Dt K H A v d) (e : rs S d = .dic lk ds) : ∃ a kvs, v = .ref a ∧ Rd H a (.dK kvs) ∧ Dtk K H A kvs ds := by
  cases t <;> first
    | (cases e; done)
    | skip
  · cases e
    rename_i h n r
    exact ⟨_, _, rfl, h, r⟩
  · rename_i n a h
    obtain ⟨c, hc, k⟩ := C.at_ n a h
    rw [rs_h hc] at e
    subst e
    obtain ⟨kvs, h2, r⟩ := k
    refine ⟨a, kvs, rfl, ?_, r⟩
    split at h2
    · exact .inr h2
    · exact .inl h2
theorem ob_at {C0 : Str} {gs : List (Str × D)} (C : Cells K H A S) (t : Dt K H A v d) (e : rs S d = .obj C0 gs) : ∃ a dx fs, v = .ref a ∧ H a = some (.ins (He.ga K C0) dx fs) ∧ Dtf K H A fs gs := by
  cases t <;> first
    | (cases e; done)
    | skip
  · cases e
    rename_i n r h
    exact ⟨_, _, _, rfl, by assumption, by assumption⟩
  · rename_i n a h
    obtain ⟨c, hc, k⟩ := C.at_ n a h
    rw [rs_h hc] at e
    subst e
    obtain ⟨dx, fs, h2, r, _⟩ := k
    exact ⟨a, dx, fs, rfl, h2, r⟩
theorem Dtk.look : ∀ {kvs : List (Key × V)} {ds : List (Key × D)} (k : Key), Dtk K H A kvs ds → (getK ds k = none ∧ valV kvs k = none) ∨ ∃ x y, getK ds k = some y ∧ valV kvs k = some x ∧ Dt K H A x y
  | _, _, k, .nil => .inl ⟨rfl, rfl⟩
  | _, _, k, .cons (f := f) h r => by
    by_cases hk : f = k
    · exact .inr ⟨_, _, by unfold getK; rw [List.find?_cons_of_pos (by simpa using hk)]; rfl, valV_pos hk, h⟩
    · have e1 : ∀ {α : Type} (x : α) (l : List (Key × α)), getK ((f, x) :: l) k = getK l k := fun x l => by unfold getK; rw [List.find?_cons_of_neg (by simpa using hk)]
      rw [e1, valV_neg hk]
      exact r.look k
theorem Dtk.len : ∀ {kvs : List (Key × V)} {ds : List (Key × D)}, Dtk K H A kvs ds → kvs.length = ds.length
  | _, _, .nil => rfl
  | _, _, .cons _ r => congrArg (· + 1) r.len
/-- what an expression gives -/
def Go (K : PySem.W.Frag) (H : Hp) (A : Ads) (Q : VK) (QD : DQ) : Prop := ∀ v d A' S' H', Later H A H' A' → Cells K H' A' S' → Dt K H' A' v d → QD d S' → Q v H'
theorem Go.now {Q : VK} {QD : DQ} (k : Go K H A Q QD) (c : Cells K H A S) (t : Dt K H A v d) (h : QD d S) : Q v H := k v d A S H (Later.refl H A) c t h
/-- a new list: a tree, or a cell -/
def newAt (c : Bool) (ds : List D) (S : Sto) (Q : DQ) : Prop := match c with
  | true => Q (.hdl S.length) (S ++ [.lst ds])
  | false => Q (.lst ds) S
theorem mk_lst {c : Bool} {ds : List D} {xs : List V} {p : Addr} {Q : VK} {QD : DQ} (k : Go K H A Q QD) (C : Cells K H A S) (r : Dts K H A xs ds) (h : newAt c ds S QD) (hp : H p = none) : Q (.ref p) (upd H p (.lst xs)) := by
  cases c with
  | false => exact k _ _ A S _ (Later.new C hp) (C.new hp) (.lst upd_same (C.out hp) (r.later (Later.new C hp))) h
  | true =>
    refine k _ _ (A.add p) _ _ (Later.cell C hp) (C.cell hp (c := .lst ds) ⟨xs, upd_same, r.later (Later.cell C hp)⟩) (.hdl ?_) h
    show (A.c ++ [some p])[S.length]? = _
    rw [← C.len, List.getElem?_append_right (Nat.le_refl _), Nat.sub_self]
    rfl
theorem mk_tup {ds : List D} {xs : List V} {p : Addr} {Q : VK} {QD : DQ} (k : Go K H A Q QD) (C : Cells K H A S) (r : Dts K H A xs ds) (h : QD (.tup ds) S) (hp : H p = none) : Q (.ref p) (upd H p (.tup xs)) :=
  k _ _ A S _ (Later.new C hp) (C.new hp) (.tup upd_same (C.out hp) (r.later (Later.new C hp))) h
end
/-! sims -/
theorem SimE.at {K : PySem.W.Frag} {W : WX} {WD : DW} {te : TE} {de : DE} (h : SimE K W WD te de) {H0 A0 σ ρ A S H} {Q : VK} {QD : DQ} (hW : WRel K H0 A0 W WD) (x : StR K H0 A0 σ ρ A S H) (hd : de ρ S QD)
  (k : ∀ v d A' S' H', Later H A H' A' → StR K H0 A0 σ ρ A' S' H' → Dt K H' A' v d → QD d S' → Q v H') : te σ H Q := h H0 A0 hW σ ρ A S H Q QD x hd k
def OpD (K : PySem.W.Frag) (r : R2) (rd : D → D → Sto → DQ → Prop) : Prop := ∀ H A S x y dx dy Q QD, Cells K H A S → Dt K H A x dx → Dt K H A y dy → rd dx dy S QD → Go K H A Q QD → r x y H Q
def CbD (K : PySem.W.Frag) (r : List V → Hp → VK → Prop) (rd : List D → Sto → DQ → Prop) : Prop := ∀ H A S vs ds Q QD, Cells K H A S → Dts K H A vs ds → rd ds S QD → Go K H A Q QD → r vs H Q
section
variable {K : PySem.W.Frag} {W : WX} {WD : DW} {te ta tb : TE} {de da db : DE} {tt tu : TT} {dt du : DT} {tl : TA} {dl : DA} {i : Nat} {v : V} {d : D}
def dVar (i : Nat) : DE := fun ρ S Q => ∃ d, ρ[i]? = some (some d) ∧ Q d S
theorem sim_var : SimE K W WD (tVar i) (dVar i) := fun H0 A0 hW σ ρ A S H Q QD x ⟨d, e, h⟩ k =>
  let ⟨v, e1, t⟩ := x.r.at_ i d e
  ⟨v, e1, k v d A S H (Later.refl H A) x t h⟩
def dC (d : D) : DE := fun _ S Q => Q d S
theorem sim_c (t : ∀ H A, Dt K H A v d) : SimE K W WD (tC v) (dC d) := fun H0 A0 hW σ ρ A S H Q QD x h k => k v d A S H (Later.refl H A) x (t H A) h
def dOp (r : D → D → Sto → DQ → Prop) (da db : DE) : DE := fun ρ S Q => da ρ S fun x S1 => db ρ S1 fun y S2 => r x y S2 Q
theorem sim_op {r : R2} {rd : D → D → Sto → DQ → Prop} (hr : OpD K r rd) (ha : SimE K W WD ta da) (hb : SimE K W WD tb db) : SimE K W WD (tOp r ta tb) (dOp rd da db) := by
  intro H0 A0 hW σ ρ A S H Q QD x h k
  refine ha.at hW x h fun v1 d1 A1 S1 H1 l1 x1 t1 h1 => ?_
  refine hb.at hW x1 h1 fun v2 d2 A2 S2 H2 l2 x2 t2 h2 => ?_
  exact hr _ _ _ _ _ _ _ _ _ x2.c (t1.later l2) t2 h2 fun v d A' S' H' l3 c t h => k v d A' S' H' ((l1.trans l2).trans l3) (x2.go l3 c) t h
def dNil : DA := fun _ S Q => Q [] S
def dCons (da : DE) (dl : DA) : DA := fun ρ S Q => da ρ S fun x S1 => dl ρ S1 fun xs S2 => Q (x :: xs) S2
theorem sim_nil : SimA K W WD tNil dNil := fun H0 A0 hW σ ρ A S H Q QD x h k => k [] [] A S H (Later.refl H A) x .nil h
theorem sim_cons (ha : SimE K W WD ta da) (hl : SimA K W WD tl dl) : SimA K W WD (tCons ta tl) (dCons da dl) := by
  intro H0 A0 hW σ ρ A S H Q QD x h k
  refine ha.at hW x h fun v1 d1 A1 S1 H1 l1 x1 t1 h1 => ?_
  refine hl H0 A0 hW _ _ _ _ _ _ _ x1 h1 fun vs ds A2 S2 H2 l2 x2 ts h2 => ?_
  exact k _ _ A2 S2 H2 (l1.trans l2) x2 (.cons (t1.later l2) ts) h2
def dCB (r : List D → Sto → DQ → Prop) (dl : DA) : DE := fun ρ S Q => dl ρ S fun ds S1 => r ds S1 Q
theorem sim_cb {r : List V → Hp → VK → Prop} {rd : List D → Sto → DQ → Prop} (hr : CbD K r rd) (hl : SimA K W WD tl dl) : SimE K W WD (tCB r tl) (dCB rd dl) := by
  intro H0 A0 hW σ ρ A S H Q QD x h k
  refine hl H0 A0 hW _ _ _ _ _ _ _ x h fun vs ds A1 S1 H1 l1 x1 ts h1 => ?_
  exact hr _ _ _ _ _ _ _ x1.c ts h1 fun v d A' S' H' l2 c t h => k v d A' S' H' (l1.trans l2) (x1.go l2 c) t h
def dLst (c : Bool) (dl : DA) : DE := fun ρ S Q => dl ρ S fun ds S1 => ds.length ≤ sizeLine ∧ newAt c ds S1 Q
theorem sim_lst {c : Bool} (hl : SimA K W WD tl dl) : SimE K W WD (tLst tl) (dLst c dl) := by
  intro H0 A0 hW σ ρ A S H Q QD x h k
  refine hl H0 A0 hW _ _ _ _ _ _ _ x h fun vs ds A1 S1 H1 l1 x1 ts h1 => ⟨by rw [ts.len]; exact h1.1, fun p hp => ?_⟩
  exact mk_lst (fun v d A' S' H' l2 c t h => k v d A' S' H' (l1.trans l2) (x1.go l2 c) t h) x1.c ts h1.2 hp
def dTup (dl : DA) : DE := fun ρ S Q => dl ρ S fun ds S1 => ds.length ≤ sizeLine ∧ Q (.tup ds) S1
theorem sim_tup (hl : SimA K W WD tl dl) : SimE K W WD (tTup tl) (dTup dl) := by
  intro H0 A0 hW σ ρ A S H Q QD x h k
  refine hl H0 A0 hW _ _ _ _ _ _ _ x h fun vs ds A1 S1 H1 l1 x1 ts h1 => ⟨by rw [ts.len]; exact h1.1, fun p hp => ?_⟩
  exact mk_tup (fun v d A' S' H' l2 c t h => k v d A' S' H' (l1.trans l2) (x1.go l2 c) t h) x1.c ts h1.2 hp
/-! tests -/
def isBl (d : D) (R : Bool → Prop) : Prop := ∃ b, d = .bl b ∧ R b
theorem Dt.isb {H : Hp} {A : Ads} {v : V} {b : Bool} (t : Dt K H A v (.bl b)) : v = .bl b := by cases t; rfl
def dTest (de : DE) : DT := fun ρ S Q => de ρ S fun d S1 => isBl d fun b => Q b S1
theorem sim_test (h : SimE K W WD te de) : SimT K W WD (tTest te) (dTest de) := by
  intro H0 A0 hW σ ρ A S H Q QD x hd k
  refine h.at hW x hd fun v1 d1 A1 S1 H1 l1 x1 t1 ⟨b, e, h1⟩ => ?_
  subst e
  exact ⟨b, t1.isb, k b A1 S1 H1 l1 x1 h1⟩
theorem sim_tB (h : SimE K W WD te de) : SimT K W WD (tB te) (dTest de) := sim_test h
def dAnd (dt du : DT) : DT := fun ρ S Q => dt ρ S fun c S1 => if c = true then du ρ S1 Q else Q false S1
def dOr (dt du : DT) : DT := fun ρ S Q => dt ρ S fun c S1 => if c = true then Q true S1 else du ρ S1 Q
def dNot (dt : DT) : DT := fun ρ S Q => dt ρ S fun c S1 => Q (!c) S1
theorem sim_and (h1 : SimT K W WD tt dt) (h2 : SimT K W WD tu du) : SimT K W WD (tAnd tt tu) (dAnd dt du) := by
  intro H0 A0 hW σ ρ A S H Q QD x hd k
  refine h1 H0 A0 hW _ _ _ _ _ _ _ x hd fun b A1 S1 H1 l1 x1 q => ?_
  cases b with
  | true =>
    rw [if_pos rfl] at q ⊢
    exact h2 H0 A0 hW _ _ _ _ _ _ _ x1 q fun b A2 S2 H2 l2 x2 q => k b A2 S2 H2 (l1.trans l2) x2 q
  | false =>
    rw [if_neg Bool.false_ne_true] at q ⊢
    exact k _ _ _ _ l1 x1 q
theorem sim_or (h1 : SimT K W WD tt dt) (h2 : SimT K W WD tu du) : SimT K W WD (tOr tt tu) (dOr dt du) := by
  intro H0 A0 hW σ ρ A S H Q QD x hd k
  refine h1 H0 A0 hW _ _ _ _ _ _ _ x hd fun b A1 S1 H1 l1 x1 q => ?_
  cases b with
  | false =>
    rw [if_neg Bool.false_ne_true] at q ⊢
    exact h2 H0 A0 hW _ _ _ _ _ _ _ x1 q fun b A2 S2 H2 l2 x2 q => k b A2 S2 H2 (l1.trans l2) x2 q
  | true =>
    rw [if_pos rfl] at q ⊢
    exact k _ _ _ _ l1 x1 q
theorem sim_not (h1 : SimT K W WD tt dt) : SimT K W WD (tNot tt) (dNot dt) := by
  intro H0 A0 hW σ ρ A S H Q QD x hd k
  exact h1 H0 A0 hW _ _ _ _ _ _ _ x hd fun b A1 S1 H1 l1 x1 q => k _ _ _ _ l1 x1 q
def dAndV (da db : DE) : DE := fun ρ S Q => da ρ S fun d S1 => isBl d fun c => if c = true then db ρ S1 Q else Q (.bl false) S1
def dOrV (da db : DE) : DE := fun ρ S Q => da ρ S fun d S1 => isBl d fun c => if c = true then Q (.bl true) S1 else db ρ S1 Q
def dNotV (da : DE) : DE := fun ρ S Q => da ρ S fun d S1 => isBl d fun c => Q (.bl (!c)) S1
theorem sim_andV (h1 : SimE K W WD ta da) (h2 : SimE K W WD tb db) : SimE K W WD (tAndV ta tb) (dAndV da db) := by
  intro H0 A0 hW σ ρ A S H Q QD x hd k
  refine h1.at hW x hd fun v1 d1 A1 S1 H1 l1 x1 t1 ⟨b, e, q⟩ => ?_
  subst e
  refine ⟨b, t1.isb, ?_⟩
  cases b with
  | true =>
    rw [if_pos rfl] at q ⊢
    exact h2.at hW x1 q fun v d A2 S2 H2 l2 x2 t q => k v d A2 S2 H2 (l1.trans l2) x2 t q
  | false =>
    rw [if_neg Bool.false_ne_true] at q ⊢
    exact k _ _ _ _ _ l1 x1 (.bl false) q
def dIf (dt : DT) (da db : DE) : DE := fun ρ S Q => dt ρ S fun c S1 => if c = true then da ρ S1 Q else db ρ S1 Q
def dUn (r : D → Sto → DQ → Prop) (da : DE) : DE := fun ρ S Q => da ρ S fun d S1 => r d S1 Q
def dNeg : D → Sto → DQ → Prop := fun d S Q => ∃ i, d = .int i ∧ Q (.int (-i)) S
theorem sim_neg (h1 : SimE K W WD ta da) : SimE K W WD (tUn (rU fun i => .int (-i)) ta) (dUn dNeg da) := by
  intro H0 A0 hW σ ρ A S H Q QD x hd k
  refine h1.at hW x hd fun v1 d1 A1 S1 H1 l1 x1 t1 ⟨i, e, q⟩ => ?_
  subst e
  cases t1
  exact ⟨i, rfl, k _ _ _ _ _ l1 x1 (.int _) q⟩
/-! operators -/
def dIn2 (C : Int → Int → Prop) (f : Int → Int → D) : D → D → Sto → DQ → Prop := fun x y S Q => ∃ i j, x = .int i ∧ y = .int j ∧ C i j ∧ Q (f i j) S
theorem op_in2 {C : Int → Int → Prop} {g : Int → Int → V} {f : Int → Int → D} (hg : ∀ i j H A, Dt K H A (g i j) (f i j)) : OpD K (rIn2 C g) (dIn2 C f) := by
  rintro H A S x y dx dy Q QD c tx ty ⟨i, j, rfl, rfl, hc, q⟩ k
  cases tx
  cases ty
  exact ⟨hc, k.now c (hg i j H A) q⟩
theorem op_in0 {g : Int → Int → V} {f : Int → Int → D} (hg : ∀ i j H A, Dt K H A (g i j) (f i j)) : OpD K (rIn0 g) (dIn2 (fun _ _ => True) f) := by
  rintro H A S x y dx dy Q QD c tx ty ⟨i, j, rfl, rfl, hc, q⟩ k
  cases tx
  cases ty
  exact k.now c (hg i j H A) q
def dSub := dIn2 (fun _ _ => True) fun i j => .int (i - j)
theorem op_sub : OpD K rSubP dSub := op_in0 fun i j H A => .int _
def dPow := dIn2 CPow fun i j => .int (i ^ j.toNat)
theorem op_pow : OpD K rPowP dPow := op_in2 fun i j H A => .int _
def dLe := dIn2 (fun _ _ => True) fun i j => .bl (decide (i ≤ j))
theorem op_le : OpD K rLeP dLe := op_in0 fun i j H A => .bl _
def dGt := dIn2 (fun _ _ => True) fun i j => .bl (decide (j < i))
theorem op_gt : OpD K rGtP dGt := op_in0 fun i j H A => .bl _
def dGe := dIn2 (fun _ _ => True) fun i j => .bl (decide (j ≤ i))
theorem op_ge : OpD K rGeP dGe := op_in0 fun i j H A => .bl _
inductive dLt : D → D → Sto → DQ → Prop
  | int {i j : Int} {S : Sto} {Q : DQ} : Q (.bl (decide (i < j))) S → dLt (.int i) (.int j) S Q
  | str {i j : Str} {S : Sto} {Q : DQ} : Q (.bl (decide (i.cps.toList < j.cps.toList))) S → dLt (.str i) (.str j) S Q
theorem op_lt : OpD K rLtP dLt := by
  intro H A S x y dx dy Q QD c tx ty h k
  cases h with
  | int h => cases tx; cases ty; exact k.now c (.bl _) h
  | str h => cases tx; cases ty; exact k.now c (.bl _) h
inductive dAdd (b : Bool) : D → D → Sto → DQ → Prop
  | int {i j : Int} {S : Sto} {Q : DQ} : Q (.int (i + j)) S → dAdd b (.int i) (.int j) S Q
  | str {i j : Str} {S : Sto} {Q : DQ} : i.length + j.length ≤ sizeLine → Q (.str (i ++ j)) S → dAdd b (.str i) (.str j) S Q
  | lst {x y : D} {ds es : List D} {S : Sto} {Q : DQ} : rs S x = .lst ds → rs S y = .lst es → ds.length + es.length ≤ sizeLine → newAt b (ds ++ es) S Q → dAdd b x y S Q
  | tup {ds es : List D} {S : Sto} {Q : DQ} : ds.length + es.length ≤ sizeLine → Q (.tup (ds ++ es)) S → dAdd b (.tup ds) (.tup es) S Q
theorem op_add {b : Bool} : OpD K (rAddP K) (dAdd b) := by
  intro H A S x y dx dy Q QD c tx ty h k
  cases h with
  | int h => cases tx; cases ty; exact k.now c (.int _) h
  | str l h => cases tx; cases ty; exact ⟨l, k.now c (.str _) h⟩
  | lst e1 e2 l h =>
    obtain ⟨a, xs, rfl, h1, r1⟩ := ls_at c tx e1
    obtain ⟨a', ys, rfl, h2, r2⟩ := ls_at c ty e2
    exact .inl ⟨_, _, _, _, rfl, rfl, h1, h2, by rw [r1.len, r2.len]; exact l, fun p hp => mk_lst k c (r1.app r2) h hp⟩
  | tup l h =>
    cases tx with
    | tup h1 n1 r1 =>
      cases ty with
      | tup h2 n2 r2 =>
        rename_i a xs a' ys
        refine .inr ⟨_, _, _, _, rfl, rfl, SqT.of h1, SqT.of h2, by rw [r1.len, r2.len]; exact l, fun e => ?_, fun _ e => ?_, fun _ _ p hp => mk_tup k c (r1.app r2) h hp⟩
        · subst e
          cases r1
          exact k.now c (.tup h2 n2 r2) h
        · subst e
          cases r2
          rw [List.append_nil] at h
          exact k.now c (.tup h1 n1 r1) h
inductive dEq : D → D → Sto → DQ → Prop
  | int {i j : Int} {S : Sto} {Q : DQ} : Q (.bl (decide (i = j))) S → dEq (.int i) (.int j) S Q
  | str {i j : Str} {S : Sto} {Q : DQ} : Q (.bl (decide (i = j))) S → dEq (.str i) (.str j) S Q
  | bl {i j : Bool} {S : Sto} {Q : DQ} : Q (.bl (decide (i = j))) S → dEq (.bl i) (.bl j) S Q
theorem op_eq : OpD K (rEqP K) dEq := by
  intro H A S x y dx dy Q QD c tx ty h k
  cases h with
  | int h => cases tx; cases ty; exact s_eqI (k.now c (.bl _) h)
  | str h => cases tx; cases ty; exact s_eqS (k.now c (.bl _) h)
  | bl h => cases tx; cases ty; exact s_eqB (k.now c (.bl _) h)
inductive dNe : D → D → Sto → DQ → Prop
  | int {i j : Int} {S : Sto} {Q : DQ} : Q (.bl (!decide (i = j))) S → dNe (.int i) (.int j) S Q
  | str {i j : Str} {S : Sto} {Q : DQ} : Q (.bl (!decide (i = j))) S → dNe (.str i) (.str j) S Q
  | bl {i j : Bool} {S : Sto} {Q : DQ} : Q (.bl (!decide (i = j))) S → dNe (.bl i) (.bl j) S Q
theorem op_ne : OpD K (rNeP K) dNe := by
  intro H A S x y dx dy Q QD c tx ty h k
  cases h with
  | int h => cases tx; cases ty; exact s_neI (k.now c (.bl _) h)
  | str h => cases tx; cases ty; exact s_neS (k.now c (.bl _) h)
  | bl h =>
    cases tx; cases ty
    rename_i i j
    show Q (.bl (!decide (V.bl i = V.bl j))) H
    rw [show decide (V.bl i = V.bl j) = decide (i = j) from by rw [Bool.eq_iff_iff]; simp]
    exact k.now c (.bl _) h
def isNon : D → Bool
  | .non => true
  | _ => false
def dIs (neg : Bool) : D → D → Sto → DQ → Prop := fun x y S Q => y = .non ∧ Q (.bl (tgtIn neg (isNon x))) S
inductive dIn (neg : Bool) : D → D → Sto → DQ → Prop
  | sub {i j : Str} {S : Sto} {Q : DQ} : Q (.bl (tgtIn neg (strIn i j))) S → dIn neg (.str i) (.str j) S Q
  | ss {z : Str} {l : List Str} {y : D} {S : Sto} {Q : DQ} : Sq S y (l.map .str) → Q (.bl (tgtIn neg (decide (z ∈ l)))) S → dIn neg (.str z) y S Q
  | is {z : Int} {l : List Int} {y : D} {S : Sto} {Q : DQ} : Sq S y (l.map .int) → Q (.bl (tgtIn neg (decide (z ∈ l)))) S → dIn neg (.int z) y S Q
  | dstr {z : Str} {ds : List (Key × D)} {lk : Bool} {y : D} {S : Sto} {Q : DQ} : rs S y = .dic lk ds → Q (.bl (tgtIn neg (getK ds (.inr z)).isSome)) S → dIn neg (.str z) y S Q
  | dint {z : Int} {ds : List (Key × D)} {lk : Bool} {y : D} {S : Sto} {Q : DQ} : rs S y = .dic lk ds → Q (.bl (tgtIn neg (getK ds (.inl z)).isSome)) S → dIn neg (.int z) y S Q
theorem op_in {neg : Bool} : OpD K (rInP K neg) (dIn neg) := by
  intro H A S x y dx dy Q QD c tx ty h k
  have dget : ∀ {a : Addr} {kvs : List (Key × V)} {key : Key}, Rd H a (.dK kvs) → DGet H a (kV key) (valV kvs key) := fun r => .inl ⟨_, _, r, rfl, rfl⟩
  cases h with
  | sub h => cases tx; cases ty; exact k.now c (.bl _) h
  | ss e h =>
    cases tx
    obtain ⟨a, xs, rfl, h1, r⟩ := sq_at c ty e
    rw [r.strsV] at h1
    rcases h1 with h1 | h1
    · exact s_inL h1 rfl (flat_strs _) (by rw [inV_strs]; exact k.now c (.bl _) h)
    · exact s_inT h1 rfl (flat_strs _) (by rw [inV_strs]; exact k.now c (.bl _) h)
  | is e h =>
    cases tx
    obtain ⟨a, xs, rfl, h1, r⟩ := sq_at c ty e
    rw [r.intsV] at h1
    have fl : ∀ l : List Int, (l.map V.int).all flatV = true := fun l => by simp [flatV]
    rcases h1 with h1 | h1
    · exact s_inL h1 rfl (fl _) (by rw [inV_ints]; exact k.now c (.bl _) h)
    · exact s_inT h1 rfl (fl _) (by rw [inV_ints]; exact k.now c (.bl _) h)
  | dstr e h =>
    cases tx
    rename_i z ds lk
    obtain ⟨a, kvs, rfl, h1, r⟩ := dc_at c ty e
    refine .inr ⟨_, dget (key := .inr z) h1, ?_⟩
    rcases r.look (.inr z) with ⟨e1, e2⟩ | ⟨u, w, e1, e2, _⟩
    · rw [e2]; rw [e1] at h; exact k.now c (.bl _) h
    · rw [e2]; rw [e1] at h; exact k.now c (.bl _) h
  | dint e h =>
    cases tx
    rename_i z ds lk
    obtain ⟨a, kvs, rfl, h1, r⟩ := dc_at c ty e
    refine .inr ⟨_, dget (key := .inl z) h1, ?_⟩
    rcases r.look (.inl z) with ⟨e1, e2⟩ | ⟨u, w, e1, e2, _⟩
    · rw [e2]; rw [e1] at h; exact k.now c (.bl _) h
    · rw [e2]; rw [e1] at h; exact k.now c (.bl _) h
theorem at_D {H : Hp} {A : Ads} {xs : List V} {ds : List D} {i : Int} {y : D} (r : Dts K H A xs ds) (h : atI ds i = some y) : ∃ x, atI xs i = some x ∧ Dt K H A x y := by
  unfold atI at h ⊢
  rw [r.len]
  cases e : ixN ds.length i with
  | none => rw [e] at h; cases h
  | some j =>
    rw [e] at h
    obtain ⟨x, hx, t⟩ := r.at h
    exact ⟨x, hx, t⟩
inductive dIx : D → D → Sto → DQ → Prop
  | str {z : Str} {i : Int} {c : Nat} {S : Sto} {Q : DQ} : z.length ≤ sizeLine → atI z.cps.toList i = some c → Q (.str ⟨#[c]⟩) S → dIx (.str z) (.int i) S Q
  | seq {x y : D} {ds : List D} {i : Int} {S : Sto} {Q : DQ} : Sq S x ds → atI ds i = some y → Q y S → dIx x (.int i) S Q
theorem op_ix : OpD K (rIxP K) dIx := by
  intro H A S x y dx dy Q QD c tx ty h k
  cases h with
  | str l e h => cases tx; cases ty; exact ⟨l, _, e, k.now c (.str _) h⟩
  | seq e1 e2 h =>
    cases ty
    obtain ⟨a, xs, rfl, h1, r⟩ := sq_at c tx e1
    obtain ⟨x, hx, t⟩ := at_D r e2
    rcases h1 with h1 | h1
    · exact s_ixL h1 hx (k.now c t h)
    · exact s_ixT h1 hx (k.now c t h)
def cutD (xs : List D) (lo hi : Option Int) : List D := (xs.drop (HT.sIx xs.length 0 lo)).take (HT.sIx xs.length xs.length hi - HT.sIx xs.length 0 lo)
theorem Dts.cut {H : Hp} {A : Ads} {xs : List V} {ds : List D} (r : Dts K H A xs ds) (lo hi : Option Int) : Dts K H A (cutV xs lo hi) (cutD ds lo hi) := by
  unfold cutV cutD
  rw [r.len]
  exact (r.drop _).take _
abbrev DO := Rho → Sto → (Option Int → Sto → Prop) → Prop
def SimO (K : PySem.W.Frag) (W : WX) (WD : DW) (te : TO) (de : DO) : Prop := ∀ H0 A0, WRel K H0 A0 W WD → ∀ σ ρ A S H (Q : Option Int → Hp → Prop) (QD : Option Int → Sto → Prop), StR K H0 A0 σ ρ A S H → de ρ S QD →
  (∀ v A' S' H', Later H A H' A' → StR K H0 A0 σ ρ A' S' H' → QD v S' → Q v H') → te σ H Q
def dNoPart : DO := fun _ S Q => Q none S
def dPart (de : DE) : DO := fun ρ S Q => de ρ S fun d S1 => ∃ i, d = .int i ∧ Q (some i) S1
theorem sim_nopart : SimO K W WD tNoPart dNoPart := fun H0 A0 hW σ ρ A S H Q QD x h k => k _ _ _ _ (Later.refl H A) x h
theorem sim_part (h1 : SimE K W WD te de) : SimO K W WD (tPart te) (dPart de) := by
  intro H0 A0 hW σ ρ A S H Q QD x hd k
  refine h1.at hW x hd fun v1 d1 A1 S1 H1 l1 x1 t1 ⟨i, e, q⟩ => ?_
  subst e
  cases t1
  exact ⟨i, rfl, k _ _ _ _ l1 x1 q⟩
inductive dSlR (b : Bool) : D → Option Int → Option Int → Sto → DQ → Prop
  | str {z : Str} {lo hi : Option Int} {S : Sto} {Q : DQ} : z.length ≤ sizeLine → Q (.str (cutS z lo hi)) S → dSlR b (.str z) lo hi S Q
  | lst {x : D} {ds : List D} {lo hi : Option Int} {S : Sto} {Q : DQ} : rs S x = .lst ds → newAt b (cutD ds lo hi) S Q → dSlR b x lo hi S Q
def dSl (b : Bool) (de : DE) (lo hi : DO) : DE := fun ρ S Q => de ρ S fun x S1 => lo ρ S1 fun l S2 => hi ρ S2 fun u S3 => dSlR b x l u S3 Q
theorem sim_sl {b : Bool} {lo hi : TO} {dlo dhi : DO} (h1 : SimE K W WD te de) (h2 : SimO K W WD lo dlo) (h3 : SimO K W WD hi dhi) : SimE K W WD (tSl (rSlP K) te lo hi) (dSl b de dlo dhi) := by
  intro H0 A0 hW σ ρ A S H Q QD x hd k
  refine h1.at hW x hd fun v1 d1 A1 S1 H1 l1 x1 t1 q1 => ?_
  refine h2 H0 A0 hW _ _ _ _ _ _ _ x1 q1 fun o A2 S2 H2 l2 x2 q2 => ?_
  refine h3 H0 A0 hW _ _ _ _ _ _ _ x2 q2 fun p A3 S3 H3 l3 x3 q3 => ?_
  have t3 := t1.later (l2.trans l3)
  have l := (l1.trans l2).trans l3
  cases q3 with
  | str z q => cases t3; exact ⟨z, k _ _ _ _ _ l x3 (.str _) q⟩
  | lst e q =>
    obtain ⟨a, xs, rfl, h1, r⟩ := ls_at x3.c t3 e
    exact .inl ⟨a, xs, rfl, SqL.of h1, fun p hp => mk_lst (fun v d A' S' H' l4 c t h => k v d A' S' H' (l.trans l4) (x3.go l4 c) t h) x3.c (r.cut _ _) q hp⟩
/-! built-in functions -/
inductive dLen : List D → Sto → DQ → Prop
  | str {z : Str} {S : Sto} {Q : DQ} : z.length ≤ sizeLine → Q (.int z.length) S → dLen [.str z] S Q
  | seq {x : D} {ds : List D} {S : Sto} {Q : DQ} : Sq S x ds → Q (.int ds.length) S → dLen [x] S Q
theorem cb_len : CbD K (rLenP K) dLen := by
  intro H A S vs ds Q QD c ts h k
  cases h with
  | str l h =>
    cases ts with
    | cons t ts => cases t; cases ts; exact ⟨l, k.now c (.int _) h⟩
  | seq e h =>
    cases ts with
    | cons t ts =>
      cases ts
      obtain ⟨a, xs, rfl, h1, r⟩ := sq_at c t e
      rw [← r.len] at h
      exact .inl ⟨xs, h1.elim (fun z => .inl (SqL.of z)) fun z => .inr (SqT.of z), k.now c (.int _) h⟩
inductive dInt : List D → Sto → DQ → Prop
  | int {i : Int} {S : Sto} {Q : DQ} : Q (.int i) S → dInt [.int i] S Q
  | bl {b : Bool} {S : Sto} {Q : DQ} : Q (.int (if b then 1 else 0)) S → dInt [.bl b] S Q
inductive dStr : List D → Sto → DQ → Prop
  | int {i : Int} {S : Sto} {Q : DQ} : i.natAbs.log2 < 1920 → Q (.str (toString i)) S → dStr [.int i] S Q
  | str {z : Str} {S : Sto} {Q : DQ} : Q (.str z) S → dStr [.str z] S Q
inductive dList (b : Bool) : List D → Sto → DQ → Prop
  | seq {x : D} {ds : List D} {S : Sto} {Q : DQ} : Sq S x ds → newAt b ds S Q → dList b [x] S Q
theorem cb_list {b : Bool} : CbD K (rListP K) (dList b) := by
  intro H A S vs ds Q QD c ts h k
  cases h with
  | seq e h =>
    cases ts with
    | cons t ts =>
      cases ts
      obtain ⟨a, xs, rfl, h1, r⟩ := sq_at c t e
      exact ⟨a, xs, rfl, h1.elim (fun z => .inl (SqL.of z)) fun z => .inr (SqT.of z), fun p hp => mk_lst k c r h hp⟩
inductive dTuple : List D → Sto → DQ → Prop
  | seq {x : D} {ds : List D} {S : Sto} {Q : DQ} : Sq S x ds → Q (.tup ds) S → dTuple [x] S Q
theorem cb_tuple : CbD K (rTupleP K) dTuple := by
  intro H A S vs ds Q QD c ts h k
  cases h with
  | seq e h =>
    cases ts with
    | cons t ts =>
      cases ts
      rcases e with e | e
      · obtain ⟨a, xs, rfl, h1, r⟩ := ls_at c t e
        exact ⟨a, xs, rfl, .inl ⟨SqL.of h1, fun p hp => mk_tup k c r h hp⟩⟩
      · cases t <;> first
          | (cases e; done)
          | skip
        · cases e
          rename_i h1 n r
          exact ⟨_, _, rfl, .inr ⟨SqT.of h1, k.now c (.tup h1 n r) h⟩⟩
        · rename_i n a h2
          obtain ⟨c0, hc, k0⟩ := c.at_ n a h2
          rw [rs_h hc] at e
          subst e
          exact k0.elim
inductive dAll (any : Bool) : List D → Sto → DQ → Prop
  | mk {x : D} {bs : List Bool} {S : Sto} {Q : DQ} : rs S x = .lst (bs.map .bl) → Q (.bl (if any then bs.any id else bs.all id)) S → dAll any [x] S Q
inductive dSorted (b : Bool) : List D → Sto → DQ → Prop
  | ss {x : D} {l : List Str} {S : Sto} {Q : DQ} : rs S x = .lst (l.map .str) → (∀ ys : List Str, ys.Perm l → sortedS ys = true → newAt b (ys.map .str) S Q) → dSorted b [x] S Q
end
end Dx
/-! constructs: targets, statements, loops, calls -/
namespace Dx
open PySem PySem.Spec PyProof.Rows L2 Px
section
variable {K : PySem.W.Frag} {W : WX} {WD : DW} {te ta tb : TE} {de da db : DE} {tt : TT} {dt : DT} {tl : TA} {dl : DA} {ts tu : TS} {ds du : DS} {tg : TG} {dg : DG} {i : Nat}
/-! targets -/
def dgName (i : Nat) : DG := fun d ρ S Q => Q (ρ.set i (some d)) S
theorem sim_gname : SimG K W WD (gName i) (dgName i) := fun H0 A0 hW σ ρ A S H v d Q QD x t h k => k _ _ A S H (Later.refl H A) ⟨x.r.set i t, x.c, x.l⟩ h
abbrev DGs := List D → Rho → Sto → (Rho → Sto → Prop) → Prop
def SimGs (K : PySem.W.Frag) (W : WX) (WD : DW) (tg : TGs) (dg : DGs) : Prop := ∀ H0 A0, WRel K H0 A0 W WD → ∀ σ ρ A S H v d (Q : L2.St → Hp → Prop) (QD : Rho → Sto → Prop), StR K H0 A0 σ ρ A S H → Dts K H A v d → dg d ρ S QD →
  (∀ σ' ρ' A' S' H', Later H A H' A' → StR K H0 A0 σ' ρ' A' S' H' → QD ρ' S' → Q σ' H') → tg v σ H Q
def dgNil : DGs := fun ds ρ S Q => ds = [] ∧ Q ρ S
def dgCons (g : DG) (r : DGs) : DGs := fun ds ρ S Q => ∃ d es, ds = d :: es ∧ g d ρ S fun ρ1 S1 => r es ρ1 S1 Q
theorem sim_gnil : SimGs K W WD gNil dgNil := by
  rintro H0 A0 hW σ ρ A S H v d Q QD x ts ⟨rfl, h⟩ k
  cases ts
  exact ⟨rfl, k _ _ A S H (Later.refl H A) x h⟩
theorem sim_gcons {tgs : TGs} {dgs : DGs} (h1 : SimG K W WD tg dg) (h2 : SimGs K W WD tgs dgs) : SimGs K W WD (gCons tg tgs) (dgCons dg dgs) := by
  rintro H0 A0 hW σ ρ A S H v d Q QD x ts ⟨d1, es, rfl, h⟩ k
  cases ts with
  | cons t ts =>
    refine ⟨_, _, rfl, ?_⟩
    refine h1 H0 A0 hW _ _ _ _ _ _ _ _ _ x t h fun σ1 ρ1 A1 S1 H1 l1 x1 q => ?_
    exact h2 H0 A0 hW _ _ _ _ _ _ _ _ _ x1 (ts.later l1) q fun σ2 ρ2 A2 S2 H2 l2 x2 q => k _ _ _ _ _ (l1.trans l2) x2 q
def dgTup (n : Nat) (g : DGs) : DG := fun d ρ S Q => ∃ ds, d = .tup ds ∧ ds.length = n ∧ g ds ρ S Q
theorem sim_gtup {n : Nat} {tgs : TGs} {dgs : DGs} (h : SimGs K W WD tgs dgs) : SimG K W WD (gTup K n tgs) (dgTup n dgs) := by
  rintro H0 A0 hW σ ρ A S H v d Q QD x t ⟨es, rfl, hl, q⟩ k
  cases t with
  | tup h1 n1 r => exact ⟨_, _, rfl, SqT.of h1, by rw [r.len]; exact hl, h H0 A0 hW _ _ _ _ _ _ _ _ _ x r q k⟩
def putG {α : Type} (l : List (Key × α)) (k : Key) (y : α) : List (Key × α) := if l.any (fun kv => decide (kv.1 = k)) then l.map (fun kv => if kv.1 = k then (kv.1, y) else kv) else l ++ [(k, y)]
theorem Dtk.app {H : Hp} {A : Ads} {k : Key} {v : V} {d : D} (h : Dt K H A v d) : ∀ {l : List (Key × V)} {m : List (Key × D)}, Dtk K H A l m → Dtk K H A (l ++ [(k, v)]) (m ++ [(k, d)])
  | _, _, .nil => .cons h .nil
  | _, _, .cons h1 r => .cons h1 (r.app h)
theorem Dtk.any {H : Hp} {A : Ads} {k : Key} : ∀ {l : List (Key × V)} {m : List (Key × D)}, Dtk K H A l m → l.any (fun kv => decide (kv.1 = k)) = m.any (fun kv => decide (kv.1 = k))
  | _, _, .nil => rfl
  | _, _, .cons _ r => by rw [List.any_cons, List.any_cons, r.any]
theorem Dtk.rep {H : Hp} {A : Ads} {k : Key} {v : V} {d : D} (h : Dt K H A v d) : ∀ {l : List (Key × V)} {m : List (Key × D)}, Dtk K H A l m → Dtk K H A (l.map fun kv => if kv.1 = k then (kv.1, v) else kv) (m.map fun kv => if kv.1 = k then (kv.1, d) else kv)
  | _, _, .nil => .nil
  | _, _, .cons (f := f) h1 r => by
    rw [List.map_cons, List.map_cons]
    by_cases e : f = k
    · rw [if_pos e, if_pos e]; exact .cons h (r.rep h)
    · rw [if_neg e, if_neg e]; exact .cons h1 (r.rep h)
theorem Dtk.put {H : Hp} {A : Ads} {k : Key} {v : V} {d : D} {l : List (Key × V)} {m : List (Key × D)} (r : Dtk K H A l m) (h : Dt K H A v d) : Dtk K H A (putK l k v) (putG m k d) := by
  unfold putK putG
  rw [r.any]
  split
  · exact r.rep h
  · exact r.app h
def kD : Key → D
  | .inl i => .int i
  | .inr z => .str z
theorem kD_V {H : Hp} {A : Ads} {v : V} {k : Key} (t : Dt K H A v (kD k)) : v = kV k := by
  cases k with
  | inl i => cases t; rfl
  | inr z => cases t; rfl
inductive dSet : D → D → D → Sto → (Sto → Prop) → Prop
  | lst {n j : Nat} {k : Int} {d : D} {ds : List D} {S : Sto} {Q : Sto → Prop} : S[n]? = some (.lst ds) → ixN ds.length k = some j → Q (S.set n (.lst (ds.set j d))) → dSet (.hdl n) (.int k) d S Q
  | dic {n : Nat} {key : Key} {d x : D} {ds : List (Key × D)} {S : Sto} {Q : Sto → Prop} : S[n]? = some (.dic false ds) → x = kD key → ds.length < sizeLine → Q (S.set n (.dic false (putG ds key d))) → dSet (.hdl n) x d S Q
def dgSub (da db : DE) : DG := fun d ρ S Q => da ρ S fun o S1 => db ρ S1 fun i S2 => dSet o i d S2 fun S3 => Q ρ S3
/-! statements -/
def dNext : DS := fun F ρ S => F.nx ρ S
theorem sim_next : SimS K W WD tNext dNext := fun H0 A0 hW σ ρ A S H E F x e h => e.nx _ _ _ _ _ x h
def dBreak : DS := fun F ρ S => F.bk ρ S
def dCont : DS := fun F ρ S => F.ct ρ S
def dSeq (d u : DS) : DS := fun F ρ S => d { F with nx := u F } ρ S
theorem sim_seq (h1 : SimS K W WD ts ds) (h2 : SimS K W WD tu du) : SimS K W WD (tSeq ts tu) (dSeq ds du) := fun H0 A0 hW σ ρ A S H E F x e h =>
  h1 H0 A0 hW _ _ _ _ _ _ { F with nx := du F } x ⟨fun σ ρ A S H x q => h2 H0 A0 hW _ _ _ _ _ _ _ x e q, e.bk, e.ct, e.rt, e.b⟩ h
def dCut (d u : DS) : DS := fun F ρ S => ∃ Mid : Rho → Sto → Prop, d { F with nx := Mid } ρ S ∧ ∀ ρ' S', Mid ρ' S' → u F ρ' S'
theorem sim_cut (h1 : SimS K W WD ts ds) (h2 : SimS K W WD tu du) : SimS K W WD (tCut ts tu) (dCut ds du) := by
  rintro H0 A0 hW σ ρ A S H E F x e ⟨Mid, h, hm⟩
  refine ⟨fun σ' H' => ∃ ρ' A' S', StR K H0 A0 σ' ρ' A' S' H' ∧ Mid ρ' S', ?_, ?_⟩
  · exact h1 H0 A0 hW _ _ _ _ _ _ { F with nx := Mid } x ⟨fun σ ρ A S H x q => ⟨ρ, A, S, x, q⟩, e.bk, e.ct, e.rt, e.b⟩ h
  · rintro σ' H' ⟨ρ', A', S', x', q⟩
    exact h2 H0 A0 hW _ _ _ _ _ _ _ x' e (hm _ _ q)
def dAsg (de : DE) (dg : DG) : DS := fun F ρ S => de ρ S fun d S1 => dg d ρ S1 F.nx
theorem sim_asg (h1 : SimE K W WD te de) (h2 : SimG K W WD tg dg) : SimS K W WD (tAsg te tg) (dAsg de dg) := by
  intro H0 A0 hW σ ρ A S H E F x e h
  refine h1.at hW x h fun v1 d1 A1 S1 H1 l1 x1 t1 q1 => ?_
  exact h2 H0 A0 hW _ _ _ _ _ _ _ _ _ x1 t1 q1 fun σ' ρ' A' S' H' l2 x2 q => e.nx _ _ _ _ _ x2 q
def dIfS (dt : DT) (d u : DS) : DS := fun F ρ S => dt ρ S fun b S1 => if b = true then d F ρ S1 else u F ρ S1
theorem sim_ifS (h0 : SimT K W WD tt dt) (h1 : SimS K W WD ts ds) (h2 : SimS K W WD tu du) : SimS K W WD (tIfS tt ts tu) (dIfS dt ds du) := by
  intro H0 A0 hW σ ρ A S H E F x e h
  refine h0 H0 A0 hW _ _ _ _ _ _ _ x h fun b A1 S1 H1 l1 x1 q => ?_
  cases b with
  | true =>
    rw [if_pos rfl] at q ⊢
    exact h1 H0 A0 hW _ _ _ _ _ _ _ x1 e q
  | false =>
    rw [if_neg Bool.false_ne_true] at q ⊢
    exact h2 H0 A0 hW _ _ _ _ _ _ _ x1 e q
def dRet (de : DE) : DS := fun F ρ S => de ρ S F.rt
theorem sim_ret (h1 : SimE K W WD te de) : SimS K W WD (tRet te) (dRet de) := by
  intro H0 A0 hW σ ρ A S H E F x e h
  exact h1.at hW x h fun v1 d1 A1 S1 H1 l1 x1 t1 q1 => e.rt _ _ _ _ _ _ _ x1 t1 q1
def dRetN : DS := fun F ρ S => F.rt .non S
def dDrop (de : DE) : DS := fun F ρ S => de ρ S fun _ S1 => F.nx ρ S1
theorem sim_drop (h1 : SimE K W WD te de) : SimS K W WD (tDrop te) (dDrop de) := by
  intro H0 A0 hW σ ρ A S H E F x e h
  exact h1.at hW x h fun v1 d1 A1 S1 H1 l1 x1 t1 q1 => e.nx _ _ _ _ _ x1 q1
/-! raising -/
def dRaise (C f : Str) (WD : DW) (dl : DA) : DS := fun _ ρ S => dl ρ S fun ds S1 => ∃ d, ds = [d] ∧ WD C [(f, d)] ρ S1
/-! what is walked -/
structure IS where
  items : List D
  ok : Sto → Prop
def YA (K : PySem.W.Frag) (J : L2.It) (ds : List D) (i : Nat) (H : Hp) (A : Ads) : Prop := (i < ds.length → J.go i H ∧ ∀ x H', J.yld i H x H' → Later H A H' A ∧ (∀ S, Cells K H A S → Cells K H' A S) ∧ ∃ d, ds[i]? = some d ∧ Dt K H' A x d) ∧ (ds.length ≤ i → J.stop i H)
abbrev DI := Rho → Sto → (IS → Sto → Prop) → Prop
def SimI (K : PySem.W.Frag) (W : WX) (WD : DW) (wi : TI) (di : DI) : Prop := ∀ H0 A0, WRel K H0 A0 W WD → ∀ σ ρ A S H (R : L2.It → Hp → Prop) (RD : IS → Sto → Prop), StR K H0 A0 σ ρ A S H → di ρ S RD →
  (∀ J is A' S' H', Later H A H' A' → StR K H0 A0 σ ρ A' S' H' → (∀ A2 S2 H2 i, Later H' A' H2 A2 → Cells K H2 A2 S2 → is.ok S2 → YA K J is.items i H2 A2) → RD is S' → R J H') → wi σ H R
theorem YA.of {J : L2.It} {xs : List V} {ds : List D} {i : Nat} {H : Hp} {A : Ads} (h : YieldsAt J xs i H) (r : Dts K H A xs ds) : YA K J ds i H A := by
  refine ⟨fun hi => ⟨(h.1 (by rw [r.len]; exact hi)).1, fun x H' y => ?_⟩, fun hi => h.2 (by rw [r.len]; exact hi)⟩
  obtain ⟨e, hx⟩ := (h.1 (by rw [r.len]; exact hi)).2 x H' y
  subst e
  obtain ⟨d, hd, t⟩ := r.at' hx
  exact ⟨Later.refl _ _, fun _ c => c, d, hd, t⟩
theorem Dts.chars {H : Hp} {A : Ads} : ∀ l : List Nat, Dts K H A (l.map fun c => V.str ⟨#[c]⟩) (l.map fun c => D.str ⟨#[c]⟩)
  | [] => .nil
  | c :: r => .cons (.str _) (Dts.chars r)
inductive dAnyR : D → Sto → (IS → Sto → Prop) → Prop
  | str {z : Str} {S : Sto} {R : IS → Sto → Prop} : R ⟨z.cps.toList.map fun c => D.str ⟨#[c]⟩, fun _ => True⟩ S → dAnyR (.str z) S R
  | seq {x : D} {ds : List D} {S : Sto} {R : IS → Sto → Prop} : Sq S x ds → R ⟨ds, fun S' => Sq S' x ds⟩ S → dAnyR x S R
def dAny (de : DE) : DI := fun ρ S R => de ρ S fun d S1 => dAnyR d S1 R
theorem sim_any (h1 : SimE K W WD te de) : SimI K W WD (iAnyP K te) (dAny de) := by
  intro H0 A0 hW σ ρ A S H R RD x h k
  refine h1.at hW x h fun v1 d1 A1 S1 H1 l1 x1 t1 q1 => ?_
  cases q1 with
  | str q =>
    cases t1
    exact k _ _ _ _ _ l1 x1 (fun A2 S2 H2 i _ _ _ => .of (yields_str _ i H2) (Dts.chars _)) q
  | @seq _ ds0 _ _ e q =>
    obtain ⟨a, xs, rfl, h1, r⟩ := sq_at x1.c t1 e
    have key : ∀ (A2 : Ads) (S2 : Sto) (H2 : Hp), Later H1 A1 H2 A2 → Cells K H2 A2 S2 → Sq S2 d1 ds0 → ∃ xs, (H2 a = some (.lst xs) ∨ H2 a = some (.tup xs)) ∧ Dts K H2 A2 xs ds0 := fun A2 S2 H2 kp c e => by
      obtain ⟨a', xs, e', h, r⟩ := sq_at c (t1.later kp) e
      cases e'
      exact ⟨xs, h, r⟩
    rcases h1 with h1 | h1
    · refine .inl ⟨⟨xs, SqL.of h1⟩, k _ _ _ _ _ l1 x1 (fun A2 S2 H2 i kp c e2 => ?_) q⟩
      obtain ⟨ys, h2, r2⟩ := key A2 S2 H2 kp c e2
      rcases h2 with h2 | h2
      · exact .of (yields_list (SqL.of h2) i) r2
      · exfalso
        cases t1 with
        | lst hh nn rr =>
          have := (kp.keep _ _ hh nn).1
          rw [h2] at this
          cases this
        | tup hh nn rr => rw [h1] at hh; cases hh
        | obj hh nn rr => rw [h1] at hh; cases hh
        | dic hh nn rr => rcases hh with hh | ⟨_, hh⟩ <;> (rw [h1] at hh; cases hh)
        | hdl ha =>
          obtain ⟨c0, hc, k0⟩ := c.at_ _ _ (kp.live _ _ ha)
          have e3 : Sq S2 _ ds0 := e2
          unfold Sq at e3
          rw [rs_h hc] at e3
          rcases e3 with e3 | e3
          · subst e3
            obtain ⟨_, h5, _⟩ := k0
            rw [h2] at h5
            cases h5
          · subst e3
            exact k0.elim
    · refine .inr ⟨⟨xs, SqT.of h1⟩, k _ _ _ _ _ l1 x1 (fun A2 S2 H2 i kp c e2 => ?_) q⟩
      cases t1 with
      | lst hh nn rr => rw [h1] at hh; cases hh
      | tup hh nn rr =>
        have hh2 := (kp.keep _ _ hh nn).1
        obtain ⟨ys, h2, r2⟩ := key A2 S2 H2 kp c e2
        rcases h2 with h2 | h2
        · rw [h2] at hh2; cases hh2
        · exact .of (yields_tup (SqT.of h2) i) r2
      | obj hh nn rr => rw [h1] at hh; cases hh
      | dic hh nn rr => rcases hh with hh | ⟨_, hh⟩ <;> (rw [h1] at hh; cases hh)
      | hdl ha =>
        obtain ⟨c0, hc, k0⟩ := x1.c.at_ _ _ ha
        unfold Sq at e
        rw [rs_h hc] at e
        rcases e with e | e
        · subst e
          obtain ⟨_, h5, _⟩ := k0
          rw [h1] at h5
          cases h5
        · subst e
          exact k0.elim
theorem Dts.rng {H : Hp} {A : Ads} (lo : Int) : ∀ l : List Nat, Dts K H A (l.map fun (j : Nat) => V.int (lo + (j : Int))) (l.map fun (j : Nat) => D.int (lo + (j : Int)))
  | [] => .nil
  | c :: r => .cons (.int _) (Dts.rng lo r)
def rngD (lo : Int) (n : Nat) : List D := (List.range n).map fun (j : Nat) => D.int (lo + (j : Int))
theorem rngD_len (lo : Int) (n : Nat) : (rngD lo n).length = n := by unfold rngD; rw [List.length_map, List.length_range]
theorem rngD_at {lo : Int} {n i : Nat} {d : D} (h : (rngD lo n)[i]? = some d) : i < n ∧ d = .int (lo + (i : Int)) := by
  have hi := (List.getElem?_eq_some_iff.mp h).1
  rw [rngD_len] at hi
  unfold rngD at h
  rw [List.getElem?_map, List.getElem?_range hi] at h
  exact ⟨hi, by cases h; rfl⟩
def dRng1 (dl : DA) : DI := fun ρ S R => dl ρ S fun ds S1 => ∃ j : Int, ds = [.int j] ∧ -(2 ^ 62) ≤ j ∧ j < 2 ^ 62 ∧ R ⟨rngD 0 j.toNat, fun _ => True⟩ S1
theorem sim_rng1 (hl : SimA K W WD tl dl) : SimI K W WD (iRng1 tl) (dRng1 dl) := by
  intro H0 A0 hW σ ρ A S H R RD x h k
  refine hl H0 A0 hW _ _ _ _ _ _ _ x h fun vs ds A1 S1 H1 l1 x1 ts ⟨j, e, h1, h2, q⟩ => ?_
  subst e
  cases ts with
  | cons t ts =>
    cases t
    cases ts
    exact ⟨j, rfl, h1, h2, k _ _ _ _ _ l1 x1 (fun A2 S2 H2 i _ _ _ => .of (yields_range 0 j.toNat i H2) (Dts.rng 0 _)) q⟩
def dRng2 (dl : DA) : DI := fun ρ S R => dl ρ S fun ds S1 => ∃ i j : Int, ds = [.int i, .int j] ∧ (-(2 ^ 62) ≤ i ∧ i < 2 ^ 62 ∧ -(2 ^ 62) ≤ j ∧ j < 2 ^ 62) ∧ R ⟨rngD i (j - i).toNat, fun _ => True⟩ S1
/-! loops -/
def dFor (di : DI) (dg : DG) (db : DS) : DS := fun F ρ S => di ρ S fun is S1 => ∃ P : Nat → Rho → Sto → Prop, P 0 ρ S1 ∧ (∀ i ρ' S', i ≤ is.items.length → P i ρ' S' → is.ok S') ∧
  (∀ i d ρ' S', is.items[i]? = some d → P i ρ' S' → dg d ρ' S' fun ρ2 S2 => db { F with nx := P (i + 1), ct := P (i + 1), bk := F.nx, b := S1.length } ρ2 S2) ∧ ∀ ρ' S', P is.items.length ρ' S' → F.nx ρ' S'
theorem sim_for {wi : TI} {di : DI} (h1 : SimI K W WD wi di) (h2 : SimG K W WD tg dg) (h3 : SimS K W WD ts ds) : SimS K W WD (tFor wi tg ts) (dFor di dg ds) := by
  intro H0 A0 hW σ ρ A S H E F x e h
  refine h1 H0 A0 hW _ _ _ _ _ _ _ x h fun J is A1 S1 H1 l1 x1 hy ⟨P, p0, pok, ps, pe⟩ => ?_
  have hW1 := hW.base x1.l
  refine ⟨fun i m σ H => m = is.items.length - i ∧ i ≤ is.items.length ∧ ∃ ρ A S, StR K H1 A1 σ ρ A S H ∧ P i ρ S, ⟨_, rfl, Nat.zero_le _, ρ, A1, S1, ⟨x1.r, x1.c, Later.refl _ _⟩, p0⟩, ?_⟩
  rintro i m σ2 H2 ⟨rfl, hi, ρ2, A2, S2, x2, p⟩
  have y := hy A2 S2 H2 i x2.l x2.c (pok i ρ2 S2 hi p)
  by_cases hlt : i < is.items.length
  · refine .inr ⟨(y.1 hlt).1, fun σ' H' => ∃ ρ A S, StR K H1 A1 σ' ρ A S H' ∧ P (i + 1) ρ S, fun σ' H' p' => ⟨is.items.length - (i + 1), by omega, rfl, hlt, p'⟩, fun v H3 hyl => ?_⟩
    obtain ⟨l3, hc3, d, hd, t⟩ := (y.1 hlt).2 v H3 hyl
    have x3 := x2.go l3 (hc3 _ x2.c)
    refine h2 H1 A1 hW1 _ _ _ _ _ _ _ _ _ x3 t (ps i d ρ2 S2 hd p) fun σ4 ρ4 A4 S4 H4 l4 x4 q => ?_
    exact h3 H1 A1 hW1 _ _ _ _ _ _ { F with nx := P (i + 1), ct := P (i + 1), bk := F.nx, b := S1.length } x4 ⟨fun σ ρ A S H x q => ⟨ρ, A, S, x, q⟩, fun σ ρ A S H x q => e.nx _ _ _ _ _ (x.base x1.l) q, fun σ ρ A S H x q => ⟨ρ, A, S, x, q⟩, fun σ ρ A S H v d x t q => e.rt _ _ _ _ _ _ _ (x.base x1.l) t q, x1.c.len.symm⟩ q
  · have ei : i = is.items.length := by omega
    subst ei
    exact .inl ⟨y.2 (Nat.le_refl _), e.nx _ _ _ _ _ (x2.base x1.l) (pe _ _ p)⟩
/-! calls -/
abbrev DSp := List D → Sto → DQ → DX → Prop
def lift (K : PySem.W.Frag) (dsp : DSp) : Sp := fun vs H Q E => ∃ A S ds QD ED, Cells K H A S ∧ Dts K H A vs ds ∧ dsp ds S QD ED ∧ Go K H A Q QD ∧
  ∀ C gs fs d A' S' H', Later H A H' A' → Cells K H' A' S' → H' d = some (.xd fs) → Dtf K H' A' fs gs → ED C gs S' → E (.ref (He.ga K C)) (some d) H'
def dCall (WD : DW) (dsp : DSp) (dl : DA) : DE := fun ρ S Q => dl ρ S fun ds S1 => dsp ds S1 Q fun C gs S2 => WD C gs ρ S2
theorem sim_callS {sp : Sp} {dsp : DSp} (ad : ∀ vs H Q E, lift K dsp vs H Q E → sp vs H Q E) (hl : SimA K W WD tl dl) : SimE K W WD (tCallS sp (WE W) tl) (dCall WD dsp dl) := by
  intro H0 A0 hW σ ρ A S H Q QD x h k
  refine hl H0 A0 hW _ _ _ _ _ _ _ x h fun vs ds A1 S1 H1 l1 x1 ts h1 => ?_
  refine ad _ _ _ _ ⟨A1, S1, ds, _, _, x1.c, ts, h1, fun v d A' S' H' l2 c t q => k v d A' S' H' (l1.trans l2) (x1.go l2 c) t q, fun C gs fs d A' S' H' l2 c hd tf q => ?_⟩
  exact hW _ _ _ _ _ _ _ _ _ (x1.go l2 c) hd tf q
def dCall0 (dsp : DSp) (dl : DA) : DE := fun ρ S Q => dl ρ S fun ds S1 => dsp ds S1 Q fun _ _ _ => False
theorem sim_call {sp : Sp} {dsp : DSp} (ad : ∀ vs H Q E, lift K dsp vs H Q E → sp vs H Q E) (hl : SimA K W WD tl dl) : SimE K W WD (tCall sp [] E0 tl) (dCall0 dsp dl) := by
  intro H0 A0 hW σ ρ A S H Q QD x h k
  refine hl H0 A0 hW _ _ _ _ _ _ _ x h fun vs ds A1 S1 H1 l1 x1 ts h1 => ?_
  refine ad _ _ _ _ ⟨A1, S1, ds, _, _, x1.c, by rw [List.append_nil]; exact ts, h1, fun v d A' S' H' l2 c t q => k v d A' S' H' (l1.trans l2) (x1.go l2 c) t q, fun C gs fs d A' S' H' l2 c hd tf q => q.elim⟩
end
end Dx
/-! constructs: comprehensions, methods, attributes; defs -/
namespace Dx
open PySem PySem.Spec PyProof.Rows L2 Px
def wipeD (ρ : Rho) : List Nat → Rho
  | [] => ρ
  | v :: vs => (wipeD ρ vs).set v none
theorem Rel.wipe {K : PySem.W.Frag} {H : Hp} {A : Ads} {σ : L2.St} {ρ : Rho} (r : Rel K H A σ ρ) : ∀ vs : List Nat, Rel K H A (L2.wipe σ vs) (wipeD ρ vs)
  | [] => r
  | v :: vs => (r.wipe vs).unset v
theorem wipe_at (σ : L2.St) (j : Nat) : ∀ vs : List Nat, (L2.wipe σ vs)[j]? = if j ∈ vs then (if j < σ.length then some none else none) else σ[j]?
  | [] => by simp [L2.wipe]
  | v :: vs => by
    show ((L2.wipe σ vs).set v none)[j]? = _
    by_cases h : v = j
    · subst h
      rw [if_pos List.mem_cons_self]
      by_cases hl : v < σ.length
      · rw [List.getElem?_set_self (by rw [L2.wipe_length]; exact hl), if_pos hl]
      · rw [if_neg hl, List.getElem?_eq_none (by rw [List.length_set, L2.wipe_length]; omega)]
    · rw [List.getElem?_set_ne h, wipe_at σ j vs]
      have : (j ∈ v :: vs) ↔ j ∈ vs := by simp [Ne.symm h]
      simp only [this]
theorem wipe_set {σ : L2.St} {vs : List Nat} {i : Nat} {x : Option V} (h : i ∈ vs) : L2.wipe (σ.set i x) vs = L2.wipe σ vs := by
  apply List.ext_getElem?
  intro j
  rw [wipe_at, wipe_at, List.length_set]
  by_cases hj : j ∈ vs
  · rw [if_pos hj, if_pos hj]
  · rw [if_neg hj, if_neg hj, List.getElem?_set_ne (fun (e : i = j) => hj (by rw [← e]; exact h))]
theorem wipe_wipe {σ : L2.St} {vs : List Nat} : L2.wipe (L2.wipe σ vs) vs = L2.wipe σ vs := by
  apply List.ext_getElem?
  intro j
  rw [wipe_at, wipe_at, L2.wipe_length]
  by_cases hj : j ∈ vs
  · rw [if_pos hj, if_pos hj]
  · rw [if_neg hj, if_neg hj]
section
variable {K : PySem.W.Frag} {W : WX} {WD : DW} {te ta tb : TE} {de da db : DE} {tt : TT} {dt : DT} {tl : TA} {dl : DA} {ts tu : TS} {ds du : DS} {tg : TG} {dg : DG} {i : Nat}
/-- a target that changes no other slots than vs -/
def SimGv (K : PySem.W.Frag) (W : WX) (WD : DW) (vs : List Nat) (tg : TG) (dg : DG) : Prop := ∀ H0 A0, WRel K H0 A0 W WD → ∀ σ ρ A S H v d (Q : L2.St → Hp → Prop) (QD : Rho → Sto → Prop), StR K H0 A0 σ ρ A S H → Dt K H A v d → dg d ρ S QD →
  (∀ σ' ρ' A' S' H', Later H A H' A' → StR K H0 A0 σ' ρ' A' S' H' → L2.wipe σ' vs = L2.wipe σ vs → QD ρ' S' → Q σ' H') → tg v σ H Q
theorem simv_gname {vs : List Nat} (h : i ∈ vs) : SimGv K W WD vs (gName i) (dgName i) := fun H0 A0 hW σ ρ A S H v d Q QD x t q k => k _ _ A S H (Later.refl H A) ⟨x.r.set i t, x.c, x.l⟩ (wipe_set h) q
def dYes : DT := fun _ S Q => Q true S
theorem sim_yes : SimT K W WD tYes dYes := fun H0 A0 hW σ ρ A S H Q QD x h k => k true A S H (Later.refl H A) x h
/-- the heap and the cells while an expression's own list stands at D -/
theorem own_in {H : Hp} {A : Ads} {S : Sto} {p : Addr} {zs : List V} (C : Cells K H A S) (hp : H p = none) : Later H A (upd H p (.lst zs)) ⟨A.c, p :: A.x⟩ ∧ Cells K (upd H p (.lst zs)) ⟨A.c, p :: A.x⟩ S := by
  have l : Later H A (upd H p (.lst zs)) ⟨A.c, p :: A.x⟩ := ⟨⟨fun a u e n => ⟨by rw [upd_ne (ne_of_none e hp)]; exact e, ⟨n.c, fun m => by
    rcases List.mem_cons.mp m with m | m
    · exact ne_of_none e hp m
    · exact n.x m⟩⟩, fun _ _ e => e, Nat.le_refl _, fun _ _ _ e => e⟩, fun a m => ⟨by
    obtain ⟨u, e⟩ := C.xs a m
    rw [upd_ne (ne_of_none e hp)], List.mem_cons_of_mem _ m⟩, fun a od u e => by rw [upd_ne (ne_of_none e hp)]; exact e⟩
  refine ⟨l, C.len, fun n a e => ?_, C.inj, fun a m => ?_, fun n a e m => ?_⟩
  · obtain ⟨c, e1, k⟩ := C.at_ n a e
    obtain ⟨u, e2⟩ := k.here
    exact ⟨c, e1, k.go l.toKp (upd_ne (ne_of_none e2 hp))⟩
  · rcases List.mem_cons.mp m with m | m
    · subst m; exact ⟨zs, upd_same⟩
    · obtain ⟨u, e⟩ := C.xs a m
      exact ⟨u, by rw [upd_ne (ne_of_none e hp)]; exact e⟩
  · obtain ⟨c, e1, k⟩ := C.at_ n a e
    obtain ⟨u, e2⟩ := k.here
    rcases List.mem_cons.mp m with m | m
    · exact ne_of_none e2 hp m
    · exact C.xo n a e m
theorem own_put {H1 H : Hp} {A1 A : Ads} {S S1 : Sto} {p : Addr} {zs : List V} (h1 : H1 p = none) (C1 : Cells K H1 A1 S1) (l : Later H1 A1 H A) (C : Cells K H A S) (hp : p ∈ A.x) : Kp H A (upd H p (.lst zs)) A ∧ Cells K (upd H p (.lst zs)) A S ∧ Later H1 A1 (upd H p (.lst zs)) A := by
  have kp : Kp H A (upd H p (.lst zs)) A := ⟨fun a u e n => ⟨by rw [upd_ne (fun (z : a = p) => n.x (by rw [z]; exact hp))]; exact e, n⟩, fun _ _ e => e, Nat.le_refl _, fun _ _ _ e => e⟩
  refine ⟨kp, ⟨C.len, fun n a e => ?_, C.inj, fun a m => ?_, C.xo⟩, ⟨⟨fun a u e n => ?_, l.live, l.len, l.old⟩, fun a m => ?_, fun a od u e => by rw [upd_ne (ne_of_none e h1)]; exact l.fz _ _ _ e⟩⟩
  · obtain ⟨c, e1, k⟩ := C.at_ n a e
    exact ⟨c, e1, k.go kp (upd_ne (fun (z : a = p) => C.xo n a e (by rw [z]; exact hp)))⟩
  · by_cases z : a = p
    · subst z; exact ⟨zs, upd_same⟩
    · obtain ⟨u, e⟩ := C.xs a m
      exact ⟨u, by rw [upd_ne z]; exact e⟩
  · obtain ⟨e1, n1⟩ := l.keep a u e n
    exact ⟨by rw [upd_ne (fun (z : a = p) => n1.x (by rw [z]; exact hp))]; exact e1, n1⟩
  · obtain ⟨e1, m1⟩ := l.ex a m
    refine ⟨?_, m1⟩
    by_cases z : a = p
    · subst z
      obtain ⟨u, e⟩ := C1.xs a m
      rw [h1] at e
      cases e
    · rw [upd_ne z]; exact e1
def dLc (c : Bool) (di : DI) (dg : DG) (dt : DT) (de : DE) (vs : List Nat) : DE := fun ρ S Q => di ρ S fun is S1 => ∃ P : Nat → List D → Sto → Prop, P 0 [] S1 ∧ (∀ i acc S', i ≤ is.items.length → P i acc S' → is.ok S') ∧
  (∀ i d acc S', is.items[i]? = some d → P i acc S' → dg d (wipeD ρ vs) S' fun ρ2 S2 => dt ρ2 S2 fun b S3 => if b = true then de ρ2 S3 fun y S4 => acc.length < sizeLine ∧ P (i + 1) (acc ++ [y]) S4 else P (i + 1) acc S3) ∧
  ∀ acc S', P is.items.length acc S' → newAt c acc S' Q
theorem sim_lc {c : Bool} {wi : TI} {di : DI} {vs : List Nat} (h1 : SimI K W WD wi di) (h2 : SimGv K W WD vs tg dg) (h3 : SimT K W WD tt dt) (h4 : SimE K W WD te de) : SimE K W WD (tLc wi tg tt te vs) (dLc c di dg dt de vs) := by
  intro H0 A0 hW σ ρ A S H Q QD x h k
  refine h1 H0 A0 hW _ _ _ _ _ _ _ x h fun J is A1 S1 H1 l1 x1 hy ⟨P, p0, pok, ps, pe⟩ => ?_
  intro p hp
  obtain ⟨lin, cin⟩ := own_in x1.c hp (zs := [])
  refine ⟨fun i m H => m = is.items.length - i ∧ i ≤ is.items.length ∧ ∃ A S xs acc, Later H1 A1 H A ∧ Cells K H A S ∧ p ∈ A.x ∧ H p = some (.lst xs) ∧ Dts K H A xs acc ∧ P i acc S, ⟨_, rfl, Nat.zero_le _, _, S1, [], [], lin, cin, List.mem_cons_self, upd_same, .nil, p0⟩, ?_⟩
  rintro i m H2 ⟨rfl, hi, A2, S2, xs2, acc, l2, c2, hp2, hz2, ts2, p2⟩
  have y := hy A2 S2 H2 i l2 c2 (pok i acc S2 hi p2)
  by_cases hlt : i < is.items.length
  · refine .inr ⟨(y.1 hlt).1, fun H' => ∃ A S xs acc, Later H1 A1 H' A ∧ Cells K H' A S ∧ p ∈ A.x ∧ H' p = some (.lst xs) ∧ Dts K H' A xs acc ∧ P (i + 1) acc S, fun H' p' => ⟨is.items.length - (i + 1), by omega, rfl, hlt, p'⟩, fun v H3 hyl => ?_⟩
    obtain ⟨l3, hc3, d, hd, t⟩ := (y.1 hlt).2 v H3 hyl
    have l13 := l2.trans l3
    have x3 : StR K H0 A0 (L2.wipe σ vs) (wipeD ρ vs) A2 S2 H3 := ⟨(x1.r.wipe vs).kp l13.toKp, hc3 _ c2, x1.l.trans l13⟩
    refine h2 H0 A0 hW _ _ _ _ _ _ _ _ _ x3 t (ps i d acc S2 hd p2) fun σ4 ρ4 A4 S4 H4 l4 x4 ew q4 => ⟨ew.trans wipe_wipe, ?_⟩
    refine h3 H0 A0 hW _ _ _ _ _ _ _ x4 q4 fun b A5 S5 H5 l5 x5 q5 => ?_
    have back : ∀ {A' S' H'}, Later H2 A2 H' A' → Cells K H' A' S' → Later H1 A1 H' A' ∧ p ∈ A'.x ∧ H' p = some (.lst xs2) ∧ Dts K H' A' xs2 acc := fun l c => ⟨l2.trans l, (l.ex p hp2).2, by rw [(l.ex p hp2).1]; exact hz2, ts2.later l⟩
    cases b with
    | false =>
      rw [if_neg Bool.false_ne_true] at q5 ⊢
      obtain ⟨b1, b2, b3, b4⟩ := back ((l3.trans l4).trans l5) x5.c
      exact ⟨A5, S5, xs2, acc, b1, x5.c, b2, b3, b4, q5⟩
    | true =>
      rw [if_pos rfl] at q5 ⊢
      refine h4.at hW x5 q5 fun v6 d6 A6 S6 H6 l6 x6 t6 ⟨hl, q6⟩ => ?_
      obtain ⟨b1, b2, b3, b4⟩ := back (((l3.trans l4).trans l5).trans l6) x6.c
      obtain ⟨kp, c7, l7⟩ := own_put hp x1.c b1 x6.c b2 (zs := xs2 ++ [v6])
      exact ⟨xs2, b3, by rw [b4.len]; exact hl, A6, S6, xs2 ++ [v6], acc ++ [d6], l7, c7, b2, upd_same, (b4.app (.one t6)).kp kp, q6⟩
  · have ei : i = is.items.length := by omega
    subst ei
    refine .inl ⟨y.2 (Nat.le_refl _), ?_⟩
    have q := pe _ _ p2
    -- the list is a tree, or a cell, from now on
    have hx1 : p ∉ A1.x := fun m => by
      obtain ⟨u, e⟩ := x1.c.xs p m
      rw [hp] at e
      cases e
    have hc1 : some p ∉ A2.c := fun m => by
      obtain ⟨n, e⟩ := List.mem_iff_getElem?.mp m
      exact c2.xo n p e hp2
    have sub : ∀ a, a ∈ A1.x → a ∈ A2.x := fun a m => (l2.ex a m).2
    cases c with
    | false =>
      have kp : Kp H2 A2 H2 ⟨A2.c, A1.x⟩ := ⟨fun a u e n => ⟨e, n.c, fun m => n.x (sub a m)⟩, fun _ _ e => e, Nat.le_refl _, fun _ _ _ e => e⟩
      have l8 : Later H1 A1 H2 ⟨A2.c, A1.x⟩ := ⟨⟨fun a u e n => ⟨(l2.keep a u e n).1, (l2.keep a u e n).2.c, n.x⟩, l2.live, l2.len, l2.old⟩, fun a m => ⟨(l2.ex a m).1, m⟩, l2.fz⟩
      have c8 : Cells K H2 ⟨A2.c, A1.x⟩ S2 := ⟨c2.len, fun n a e => by
        obtain ⟨c0, e1, k0⟩ := c2.at_ n a e
        exact ⟨c0, e1, k0.go kp rfl⟩, c2.inj, fun a m => c2.xs a (sub a m), fun n a e m => c2.xo n a e (sub a m)⟩
      exact k _ _ _ _ _ (l1.trans l8) (x1.go l8 c8) (.lst hz2 ⟨hc1, hx1⟩ (ts2.kp kp)) q
    | true =>
      have kp : Kp H2 A2 H2 ⟨A2.c ++ [some p], A1.x⟩ := ⟨fun a u e n => ⟨e, fun m => by
        rcases List.mem_append.mp m with m | m
        · exact n.c m
        · have e2 : a = p := by simpa using m
          subst e2
          exact n.x hp2, fun m => n.x (sub a m)⟩, fun n a e => by
        show (A2.c ++ [some p])[n]? = _
        rw [List.getElem?_append_left ((List.getElem?_eq_some_iff.mp e).1)]; exact e, by show _ ≤ (A2.c ++ [some p]).length; rw [List.length_append]; omega, fun n a hn e => by
        have e : (A2.c ++ [some p])[n]? = some (some a) := e
        rw [List.getElem?_append_left hn] at e
        exact e⟩
      have side : ∀ {n : Nat} {a : Addr}, (A2.c ++ [some p])[n]? = some (some a) → (A2.c[n]? = some (some a)) ∨ (n = A2.c.length ∧ a = p) := fun {n a} e => by
        by_cases hn : n < A2.c.length
        · exact .inl (by rw [List.getElem?_append_left hn] at e; exact e)
        · rw [List.getElem?_append_right (by omega)] at e
          have h0 : n - A2.c.length = 0 := by
            have := (List.getElem?_eq_some_iff.mp e).1
            simp at this
            omega
          rw [h0] at e
          exact .inr ⟨by omega, by cases e; rfl⟩
      have l8 : Later H1 A1 H2 ⟨A2.c ++ [some p], A1.x⟩ := ⟨⟨fun a u e n => ⟨(l2.keep a u e n).1, fun m => by
        rcases List.mem_append.mp m with m | m
        · exact (l2.keep a u e n).2.c m
        · have e2 : a = p := by simpa using m
          exact ne_of_none e hp e2, n.x⟩, fun n a e => kp.live n a (l2.live n a e), Nat.le_trans l2.len kp.len, fun n a hn e => l2.old n a hn (kp.old n a (Nat.lt_of_lt_of_le hn l2.len) e)⟩, fun a m => ⟨(l2.ex a m).1, m⟩, l2.fz⟩
      have hlen := c2.len
      have c8 : Cells K H2 ⟨A2.c ++ [some p], A1.x⟩ (S2 ++ [.lst acc]) := by
        refine ⟨by show (A2.c ++ [some p]).length = _; rw [List.length_append, List.length_append, hlen]; rfl, fun n a e => ?_, fun n m a e e' => ?_, fun a m => c2.xs a (sub a m), fun n a e m => ?_⟩
        · rcases side e with e | ⟨rfl, rfl⟩
          · have hn := (List.getElem?_eq_some_iff.mp e).1
            obtain ⟨c0, e1, k0⟩ := c2.at_ n a e
            exact ⟨c0, by rw [List.getElem?_append_left (by omega)]; exact e1, k0.go kp rfl⟩
          · exact ⟨.lst acc, by rw [List.getElem?_append_right (by omega), show A2.c.length - S2.length = 0 by omega]; rfl, _, hz2, ts2.kp kp⟩
        · rcases side e with e1 | ⟨rfl, rfl⟩ <;> rcases side e' with e2 | ⟨rfl, e3⟩
          · exact c2.inj n m a e1 e2
          · subst e3
            exact absurd (List.mem_iff_getElem?.mpr ⟨n, e1⟩) hc1
          · exact absurd (List.mem_iff_getElem?.mpr ⟨m, e2⟩) hc1
          · rfl
        · rcases side e with e1 | ⟨rfl, rfl⟩
          · exact c2.xo n a e1 (sub a m)
          · exact hx1 m
      refine k _ _ _ _ _ (l1.trans l8) (x1.go l8 c8) (.hdl ?_) q
      show (A2.c ++ [some p])[S2.length]? = _
      rw [← hlen, List.getElem?_append_right (Nat.le_refl _), Nat.sub_self]
      rfl
/-! methods of lists -/
def dApp (da : DE) (dl : DA) : DE := fun ρ S Q => da ρ S fun o S1 => ∃ n, o = .hdl n ∧ (∃ ds, S1[n]? = some (.lst ds)) ∧ dl ρ S1 fun ys S2 => ∃ y ds, ys = [y] ∧ S2[n]? = some (.lst ds) ∧ ds.length ≤ 1000000 ∧ Q .non (S2.set n (.lst (ds ++ [y])))
theorem sim_app (h1 : SimE K W WD ta da) (hl : SimA K W WD tl dl) : SimE K W WD (tBM K "list" rAppend ta tl) (dApp da dl) := by
  intro H0 A0 hW σ ρ A S H Q QD x h k
  refine h1.at hW x h fun v1 d1 A1 S1 H1 l1 x1 t1 ⟨n, e, ⟨es, he⟩, q⟩ => ?_
  subst e
  cases t1 with
  | hdl ha =>
    obtain ⟨c, hc, kc⟩ := x1.c.at_ _ _ ha
    rw [he] at hc
    cases hc
    obtain ⟨xs, hx, _⟩ := kc
    refine s_tyL hx ?_
    refine hl H0 A0 hW _ _ _ _ _ _ _ x1 q fun vs ds A2 S2 H2 l2 x2 ts ⟨y, es2, e2, hs2, hlen, q2⟩ => ?_
    subst e2
    cases ts with
    | @cons v _ _ _ t ts =>
      cases ts
      have ha2 := l2.live _ _ ha
      obtain ⟨c, hc, kc⟩ := x2.c.at_ _ _ ha2
      rw [hs2] at hc
      cases hc
      obtain ⟨xs2, hx2, r2⟩ := kc
      have lp := Later.put x2.c ha2 (fun _ _ e => by rw [hx2] at e; cases e) (o := .lst (xs2 ++ [v]))
      refine s_app hx2 (by rw [r2.len]; exact hlen) ?_
      exact k _ _ _ _ _ ((l1.trans l2).trans lp) (x2.go lp (x2.c.put ha2 (c := .lst (es2 ++ [y])) ⟨_, upd_same, (r2.app (.one t)).later lp⟩)) .non q2
end
/-! attributes and methods of objects -/
inductive DAlt where
  | fld (f : Str)
  | con (f : Str) (d : D)
  | prop (dsp : DSp)
def DAlt.run (al : DAlt) (d : D) (gs : List (Str × D)) (S : Sto) (Q : DQ) : Prop := match al with
  | .fld f => ∃ y, gs.lookup f = some y ∧ Q y S
  | .con f c => gs.lookup f = none ∧ Q c S
  | .prop dsp => dsp [d] S Q fun _ _ _ => False
inductive AltSim (K : PySem.W.Frag) : Cl.Alt → DAlt → Prop
  | fld (f : Str) : AltSim K (Cl.aFld f) (.fld f)
  | con (f : Str) {v : V} {d : D} : (∀ H A, Dt K H A v d) → AltSim K (Cl.aCon f v) (.con f d)
  | prop {sp : Sp} {dsp : DSp} : (∀ vs H Q E, lift K dsp vs H Q E → sp vs H Q E) → AltSim K (Cl.aProp sp) (.prop dsp)
inductive AltsSim (K : PySem.W.Frag) : List (Addr × Cl.Alt) → List (Str × DAlt) → Prop
  | nil : AltsSim K [] []
  | cons {C : Str} {r : Cl.Alt} {a : DAlt} {l : List (Addr × Cl.Alt)} {m : List (Str × DAlt)} : AltSim K r a → AltsSim K l m → AltsSim K ((He.ga K C, r) :: l) ((C, a) :: m)
  | skip {x : Addr × Cl.Alt} {l : List (Addr × Cl.Alt)} {m : List (Str × DAlt)} : AltsSim K l m → AltsSim K (x :: l) m
theorem AltsSim.at {K : PySem.W.Frag} {C : Str} {a : DAlt} : ∀ {l : List (Addr × Cl.Alt)} {m : List (Str × DAlt)}, AltsSim K l m → (C, a) ∈ m → ∃ r, (He.ga K C, r) ∈ l ∧ AltSim K r a
  | _, _, .nil, h => by cases h
  | _, _, .skip t, m => by
    obtain ⟨r, h1, h2⟩ := t.at m
    exact ⟨r, List.mem_cons_of_mem _ h1, h2⟩
  | _, _, .cons h t, m => by
    rcases List.mem_cons.mp m with e | m
    · cases e; exact ⟨_, List.mem_cons_self, h⟩
    · obtain ⟨r, h1, h2⟩ := t.at m
      exact ⟨r, List.mem_cons_of_mem _ h1, h2⟩
inductive SpsSim (K : PySem.W.Frag) : List (Addr × Sp) → List (Str × DSp) → Prop
  | nil : SpsSim K [] []
  | cons {C : Str} {sp : Sp} {dsp : DSp} {l : List (Addr × Sp)} {m : List (Str × DSp)} : (∀ vs H Q E, lift K dsp vs H Q E → sp vs H Q E) → SpsSim K l m → SpsSim K ((He.ga K C, sp) :: l) ((C, dsp) :: m)
  | skip {x : Addr × Sp} {l : List (Addr × Sp)} {m : List (Str × DSp)} : SpsSim K l m → SpsSim K (x :: l) m
theorem SpsSim.at {K : PySem.W.Frag} {C : Str} {dsp : DSp} : ∀ {l : List (Addr × Sp)} {m : List (Str × DSp)}, SpsSim K l m → (C, dsp) ∈ m → ∃ sp, (He.ga K C, sp) ∈ l ∧ ∀ vs H Q E, lift K dsp vs H Q E → sp vs H Q E
  | _, _, .nil, h => by cases h
  | _, _, .skip t, m => by
    obtain ⟨r, h1, h2⟩ := t.at m
    exact ⟨r, List.mem_cons_of_mem _ h1, h2⟩
  | _, _, .cons h t, m => by
    rcases List.mem_cons.mp m with e | m
    · cases e; exact ⟨_, List.mem_cons_self, h⟩
    · obtain ⟨r, h1, h2⟩ := t.at m
      exact ⟨r, List.mem_cons_of_mem _ h1, h2⟩
section
variable {K : PySem.W.Frag} {W : WX} {WD : DW} {te ta tb : TE} {de da db : DE} {tl : TA} {dl : DA}
def dAtt (m : List (Str × DAlt)) (de : DE) : DE := fun ρ S Q => de ρ S fun d S1 => ∃ C gs al, rs S1 d = .obj C gs ∧ (C, al) ∈ m ∧ al.run d gs S1 Q
theorem sim_att {l : List (Addr × Cl.Alt)} {m : List (Str × DAlt)} (hm : AltsSim K l m) (h1 : SimE K W WD te de) : SimE K W WD (Cl.tAtt l te) (dAtt m de) := by
  intro H0 A0 hW σ ρ A S H Q QD x h k
  refine h1.at hW x h fun v1 d1 A1 S1 H1 l1 x1 t1 ⟨C, gs, al, e, hin, q⟩ => ?_
  obtain ⟨a, dx, fs, rfl, ha, r⟩ := ob_at x1.c t1 e
  obtain ⟨rr, hr, sm⟩ := hm.at hin
  refine att_go hr ha ?_
  cases sm with
  | fld f =>
    obtain ⟨y, ey, q⟩ := q
    obtain ⟨u, eu, tu⟩ := r.look ey
    exact ⟨u, eu, k _ _ _ _ _ l1 x1 tu q⟩
  | con f hd =>
    obtain ⟨ey, q⟩ := q
    exact ⟨r.miss ey, k _ _ _ _ _ l1 x1 (hd _ _) q⟩
  | prop ad => exact ad _ _ _ _ ⟨A1, S1, _, _, _, x1.c, .one t1, q, fun v d A' S' H' l2 c t q => k v d A' S' H' (l1.trans l2) (x1.go l2 c) t q, fun C gs fs d A' S' H' l2 c hd tf q => q.elim⟩
end
end Dx
/-! defs: what leaves a def -/
namespace Dx
open PySem PySem.Spec PyProof.Rows L2 Px
mutual
def ltD (b : Nat) : D → Prop
  | .hdl m => m < b
  | .non => True
  | .bl _ => True
  | .int _ => True
  | .str _ => True
  | .lst ds => ltL b ds
  | .tup ds => ltL b ds
  | .obj _ fs => ltF b fs
  | .dic _ kvs => ltK b kvs
def ltL (b : Nat) : List D → Prop
  | [] => True
  | d :: ds => ltD b d ∧ ltL b ds
def ltF (b : Nat) : List (Str × D) → Prop
  | [] => True
  | (_, d) :: ds => ltD b d ∧ ltF b ds
def ltK (b : Nat) : List (Key × D) → Prop
  | [] => True
  | (_, d) :: ds => ltD b d ∧ ltK b ds
end
theorem ltL_all {b : Nat} : ∀ {l : List D}, ltL b l ↔ ∀ d ∈ l, ltD b d
  | [] => by simp [ltL]
  | d :: l => by simp [ltL, ltL_all (l := l)]
theorem ltL_map {α : Type} {b : Nat} {f : α → D} {l : List α} (h : ∀ x, ltD b (f x)) : ltL b (l.map f) := ltL_all.mpr fun d hd => by
  obtain ⟨x, _, rfl⟩ := List.mem_map.mp hd
  exact h x
theorem lt_lst {b : Nat} {l : List D} (h : ltL b l) : ltD b (.lst l) := by unfold ltD; exact h
theorem lt_tup {b : Nat} {l : List D} (h : ltL b l) : ltD b (.tup l) := by unfold ltD; exact h
theorem lt_str {b : Nat} {s : Str} : ltD b (.str s) := by unfold ltD; trivial
theorem lt_int {b : Nat} {s : Int} : ltD b (.int s) := by unfold ltD; trivial
theorem lt_bl {b : Nat} {s : Bool} : ltD b (.bl s) := by unfold ltD; trivial
theorem lt_nil {b : Nat} : ltL b [] := by unfold ltL; trivial
theorem lt_cons {b : Nat} {d : D} {l : List D} (h : ltD b d) (h2 : ltL b l) : ltL b (d :: l) := by unfold ltL; exact ⟨h, h2⟩
def Ads.cut (A : Ads) (b : Nat) : Ads := ⟨A.c.take b, A.x⟩
theorem Out.cut {A : Ads} {a : Addr} (b : Nat) (h : Out A a) : Out (A.cut b) a := ⟨fun m => h.c (List.mem_of_mem_take m), h.x⟩
theorem cut_at {A : Ads} {b n : Nat} (h : n < b) : (A.cut b).c[n]? = A.c[n]? := by
  show (A.c.take b)[n]? = _
  rw [List.getElem?_take, if_pos h]
section
variable {K : PySem.W.Frag} {H : Hp} {A : Ads} {b : Nat}
mutual
theorem Dt.lt : ∀ {v : V} {d : D}, Dt K H A v d → ltD A.c.length d
  | _, _, .non => by unfold ltD; trivial
  | _, _, .bl _ => by unfold ltD; trivial
  | _, _, .int _ => by unfold ltD; trivial
  | _, _, .str _ => by unfold ltD; trivial
  | _, _, .lst _ _ r => by unfold ltD; exact r.lt
  | _, _, .tup _ _ r => by unfold ltD; exact r.lt
  | _, _, .obj _ _ r => by unfold ltD; exact r.lt
  | _, _, .dic _ _ r => by unfold ltD; exact r.lt
  | _, _, .hdl h => by unfold ltD; exact (List.getElem?_eq_some_iff.mp h).1
theorem Dts.lt : ∀ {v : List V} {d : List D}, Dts K H A v d → ltL A.c.length d
  | _, _, .nil => by unfold ltL; trivial
  | _, _, .cons h r => by unfold ltL; exact ⟨h.lt, r.lt⟩
theorem Dtf.lt : ∀ {v : List (Str × V)} {d : List (Str × D)}, Dtf K H A v d → ltF A.c.length d
  | _, _, .nil => by unfold ltF; trivial
  | _, _, .cons h r => by unfold ltF; exact ⟨h.lt, r.lt⟩
theorem Dtk.lt : ∀ {v : List (Key × V)} {d : List (Key × D)}, Dtk K H A v d → ltK A.c.length d
  | _, _, .nil => by unfold ltK; trivial
  | _, _, .cons h r => by unfold ltK; exact ⟨h.lt, r.lt⟩
end
variable {B : Ads}
mutual
theorem Dt.to (ho : ∀ q, Out A q → Out B q) (hc : ∀ (m : Nat) (q : Addr), m < b → A.c[m]? = some (some q) → B.c[m]? = some (some q)) : ∀ {v : V} {d : D}, Dt K H A v d → ltD b d → Dt K H B v d
  | _, _, .non, _ => .non
  | _, _, .bl _, _ => .bl _
  | _, _, .int _, _ => .int _
  | _, _, .str _, _ => .str _
  | _, _, .lst h n r, l => by unfold ltD at l; exact .lst h (ho _ n) (Dts.to ho hc r l)
  | _, _, .tup h n r, l => by unfold ltD at l; exact .tup h (ho _ n) (Dts.to ho hc r l)
  | _, _, .obj h n r, l => by unfold ltD at l; exact .obj h (ho _ n) (Dtf.to ho hc r l)
  | _, _, .dic h n r, l => by unfold ltD at l; exact .dic h (ho _ n) (Dtk.to ho hc r l)
  | _, _, .hdl h, l => by unfold ltD at l; exact .hdl (hc _ _ l h)
theorem Dts.to (ho : ∀ q, Out A q → Out B q) (hc : ∀ (m : Nat) (q : Addr), m < b → A.c[m]? = some (some q) → B.c[m]? = some (some q)) : ∀ {v : List V} {d : List D}, Dts K H A v d → ltL b d → Dts K H B v d
  | _, _, .nil, _ => .nil
  | _, _, .cons h r, l => by unfold ltL at l; exact .cons (Dt.to ho hc h l.1) (Dts.to ho hc r l.2)
theorem Dtf.to (ho : ∀ q, Out A q → Out B q) (hc : ∀ (m : Nat) (q : Addr), m < b → A.c[m]? = some (some q) → B.c[m]? = some (some q)) : ∀ {v : List (Str × V)} {d : List (Str × D)}, Dtf K H A v d → ltF b d → Dtf K H B v d
  | _, _, .nil, _ => .nil
  | _, _, .cons h r, l => by unfold ltF at l; exact .cons (Dt.to ho hc h l.1) (Dtf.to ho hc r l.2)
theorem Dtk.to (ho : ∀ q, Out A q → Out B q) (hc : ∀ (m : Nat) (q : Addr), m < b → A.c[m]? = some (some q) → B.c[m]? = some (some q)) : ∀ {v : List (Key × V)} {d : List (Key × D)}, Dtk K H A v d → ltK b d → Dtk K H B v d
  | _, _, .nil, _ => .nil
  | _, _, .cons h r, l => by unfold ltK at l; exact .cons (Dt.to ho hc h l.1) (Dtk.to ho hc r l.2)
end
theorem Cell.lt {a : Addr} {c : D} (h : Cell K H A a c) : ltD A.c.length c := by
  cases c <;> first
    | exact h.elim
    | (obtain ⟨xs, _, r⟩ := h; unfold ltD; exact r.lt)
    | (obtain ⟨dx, fs, _, r, _⟩ := h; unfold ltD; exact r.lt)
    | (obtain ⟨kvs, _, r⟩ := h; unfold ltD; exact r.lt)
theorem Cell.to {a : Addr} {c : D} (ho : ∀ q, Out A q → Out B q) (hc : ∀ (m : Nat) (q : Addr), m < b → A.c[m]? = some (some q) → B.c[m]? = some (some q)) (h : Cell K H A a c) (l : ltD b c) : Cell K H B a c := by
  cases c <;> first
    | exact h.elim
    | (obtain ⟨xs, h1, r⟩ := h; unfold ltD at l; exact ⟨xs, h1, Dts.to ho hc r l⟩)
    | (obtain ⟨dx, fs, h1, r, z⟩ := h; unfold ltD at l; exact ⟨dx, fs, h1, Dtf.to ho hc r l, z⟩)
    | (obtain ⟨kvs, h1, r⟩ := h; unfold ltD at l; exact ⟨kvs, h1, Dtk.to ho hc r l⟩)
theorem cut_o (b : Nat) : ∀ q, Out A q → Out (A.cut b) q := fun q h => h.cut b
theorem cut_c : ∀ (m : Nat) (q : Addr), m < b → A.c[m]? = some (some q) → (A.cut b).c[m]? = some (some q) := fun m q h e => by rw [cut_at h]; exact e
end
/-- the cells that stood there before hold nothing of the younger ones -/
def Kept (S0 S' : Sto) : Prop := S0.length ≤ S'.length ∧ ∀ n c, n < S0.length → S'[n]? = some c → S0[n]? = some c ∨ ltD S0.length c
theorem Kept.app (S G : Sto) : Kept S (S ++ G) := ⟨by rw [List.length_append]; omega, fun n c hn h => .inl (by rw [List.getElem?_append_left hn] at h; exact h)⟩
theorem Kept.refl (S : Sto) : Kept S S := ⟨Nat.le_refl _, fun _ _ _ h => .inl h⟩
/-- a list whose younger cells are lists themselves, as trees -/
inductive Res (S0 S' : Sto) : List D → List D → Prop
  | nil : Res S0 S' [] []
  | val {d : D} {hs ds : List D} : ltD S0.length d → Res S0 S' hs ds → Res S0 S' (d :: hs) (d :: ds)
  | hd {j : Nat} {es hs ds : List D} : S0.length ≤ j → S'[j]? = some (.lst es) → ltL S0.length es → Res S0 S' hs ds → Res S0 S' (.hdl j :: hs) (.lst es :: ds)
/-- what a def gives: a value without younger cells; a younger list as a tree; a younger list as a cell -/
inductive Exit (S0 S' : Sto) : D → D → Sto → Prop
  | val {d : D} : Kept S0 S' → ltD S0.length d → Exit S0 S' d d (S'.take S0.length)
  | tree {n : Nat} {ds : List D} : Kept S0 S' → S0.length ≤ n → S'[n]? = some (.lst ds) → ltL S0.length ds → Exit S0 S' (.hdl n) (.lst ds) (S'.take S0.length)
  | all {d : D} : Exit S0 S' d d S'
  | tree2 {n : Nat} {hs ds : List D} : Kept S0 S' → S0.length ≤ n → S'[n]? = some (.lst hs) → Res S0 S' hs ds → Exit S0 S' (.hdl n) (.lst ds) (S'.take S0.length)
  | lst2 {hs ds : List D} : Kept S0 S' → Res S0 S' hs ds → Exit S0 S' (.lst hs) (.lst ds) (S'.take S0.length)
  | tup2 {hs ds : List D} : Kept S0 S' → Res S0 S' hs ds → Exit S0 S' (.tup hs) (.tup ds) (S'.take S0.length)
  | cell {n : Nat} {ds : List D} : Kept S0 S' → S0.length ≤ n → S'[n]? = some (.lst ds) → ltL S0.length ds → Exit S0 S' (.hdl n) (.hdl S0.length) (S'.take S0.length ++ [.lst ds])
section
variable {K : PySem.W.Frag} {H0 H : Hp} {A0 A : Ads} {S0 S' : Sto}
theorem kept_lt (C0 : Cells K H0 A0 S0) (l : Later H0 A0 H A) (k : Kept S0 S') {n : Nat} {a : Addr} {c : D} (hn : n < S0.length) (e : A.c[n]? = some (some a)) (e1 : S'[n]? = some c) : ltD S0.length c := by
  have hb : A0.c.length = S0.length := C0.len
  rcases k.2 n c hn e1 with e2 | e2
  · obtain ⟨c2, e3, kc2⟩ := C0.at_ n a (l.old n a (by omega) e)
    rw [e2] at e3
    cases e3
    have := kc2.lt
    rw [hb] at this
    exact this
  · exact e2
theorem kept_ok (C0 : Cells K H0 A0 S0) (l : Later H0 A0 H A) (C : Cells K H A S') (k : Kept S0 S') : Later H0 A0 H (A.cut S0.length) ∧ Cells K H (A.cut S0.length) (S'.take S0.length) := by
  have hb : A0.c.length = S0.length := C0.len
  have hA : A.c.length = S'.length := C.len
  have hk := k.1
  have hlt : ∀ {n : Nat} {a : Addr}, (A.cut S0.length).c[n]? = some (some a) → n < S0.length ∧ A.c[n]? = some (some a) := fun {n a} e => by
    have h1 : n < S0.length := by
      have e : (A.c.take S0.length)[n]? = some (some a) := e
      have := (List.getElem?_eq_some_iff.mp e).1
      rw [List.length_take] at this
      omega
    exact ⟨h1, by rw [cut_at h1] at e; exact e⟩
  refine ⟨⟨⟨fun a u e n => ⟨(l.keep a u e n).1, (l.keep a u e n).2.cut _⟩, fun n a e => ?_, ?_, fun n a hn e => l.old n a hn (hlt e).2⟩, l.ex, l.fz⟩, ?_, fun n a e => ?_, fun n m a e e' => C.inj n m a (hlt e).2 (hlt e').2, C.xs, fun n a e => C.xo n a (hlt e).2⟩
  · rw [cut_at (by have := (List.getElem?_eq_some_iff.mp e).1; omega)]
    exact l.live n a e
  · show _ ≤ (A.c.take S0.length).length
    rw [List.length_take]
    omega
  · show (A.c.take S0.length).length = _
    rw [List.length_take, List.length_take]
    omega
  · obtain ⟨h1, e⟩ := hlt e
    obtain ⟨c, e1, kc⟩ := C.at_ n a e
    exact ⟨c, by rw [List.getElem?_take, if_pos h1]; exact e1, Cell.to (cut_o _) cut_c kc (kept_lt C0 l k h1 e e1)⟩
theorem young_out (C0 : Cells K H0 A0 S0) (C : Cells K H A S') {n : Nat} {a : Addr} (hn : S0.length ≤ n) (ha : A.c[n]? = some (some a)) : Out (A.cut S0.length) a := by
  refine ⟨fun m => ?_, C.xo n a ha⟩
  obtain ⟨j, ej⟩ := List.mem_iff_getElem?.mp m
  have ej : (A.c.take S0.length)[j]? = some (some a) := ej
  rw [List.getElem?_take] at ej
  split at ej
  · have := C.inj n j a ha ej
    omega
  · cases ej
theorem res_ok (C0 : Cells K H0 A0 S0) (C : Cells K H A S') : ∀ {hs ds : List D} {xs : List V}, Res S0 S' hs ds → Dts K H A xs hs → Dts K H (A.cut S0.length) xs ds
  | _, _, _, .nil, .nil => .nil
  | _, _, _, .val lt r, .cons t ts => .cons (t.to (cut_o _) cut_c lt) (res_ok C0 C r ts)
  | _, _, _, .hd (j := j) hj e lt r, .cons t ts => by
    refine .cons ?_ (res_ok C0 C r ts)
    cases t with
    | hdl ha =>
      obtain ⟨c, e1, kc⟩ := C.at_ j _ ha
      rw [e] at e1
      cases e1
      obtain ⟨xs, hx, r⟩ := kc
      exact .lst hx (young_out C0 C hj ha) (Dts.to (cut_o _) cut_c r lt)
theorem exit_ok {v : V} {d d1 : D} {S1 : Sto} (C0 : Cells K H0 A0 S0) (l : Later H0 A0 H A) (C : Cells K H A S') (t : Dt K H A v d) (e : Exit S0 S' d d1 S1) : ∃ A1, Later H0 A0 H A1 ∧ Cells K H A1 S1 ∧ Dt K H A1 v d1 := by
  have hA : A.c.length = S'.length := C.len
  have hb : A0.c.length = S0.length := C0.len
  cases e with
  | all => exact ⟨A, l, C, t⟩
  | val k lt =>
    obtain ⟨l1, c1⟩ := kept_ok C0 l C k
    exact ⟨_, l1, c1, t.to (cut_o _) cut_c lt⟩
  | @tree2 n hs ds k hn e r =>
    obtain ⟨l1, c1⟩ := kept_ok C0 l C k
    cases t with
    | hdl ha =>
      obtain ⟨c, e1, kc⟩ := C.at_ n _ ha
      rw [e] at e1
      cases e1
      obtain ⟨xs, hx, r2⟩ := kc
      exact ⟨_, l1, c1, .lst hx (young_out C0 C hn ha) (res_ok C0 C r r2)⟩
  | @lst2 hs ds k r =>
    obtain ⟨l1, c1⟩ := kept_ok C0 l C k
    cases t with
    | lst hx o r2 => exact ⟨_, l1, c1, .lst hx (o.cut _) (res_ok C0 C r r2)⟩
  | @tup2 hs ds k r =>
    obtain ⟨l1, c1⟩ := kept_ok C0 l C k
    cases t with
    | tup hx o r2 => exact ⟨_, l1, c1, .tup hx (o.cut _) (res_ok C0 C r r2)⟩
  | @tree n ds k hn hs lt =>
    obtain ⟨l1, c1⟩ := kept_ok C0 l C k
    cases t with
    | hdl ha =>
      rename_i a
      obtain ⟨c, e1, kc⟩ := C.at_ n a ha
      rw [hs] at e1
      cases e1
      obtain ⟨xs, hx, r⟩ := kc
      refine ⟨_, l1, c1, .lst hx ⟨fun m => ?_, C.xo n a ha⟩ (Dts.to (cut_o _) cut_c r lt)⟩
      obtain ⟨j, ej⟩ := List.mem_iff_getElem?.mp m
      have ej : (A.c.take S0.length)[j]? = some (some a) := ej
      rw [List.getElem?_take] at ej
      split at ej
      · have := C.inj n j a ha ej
        omega
      · cases ej
  | @cell n ds k hn hs lt =>
    obtain ⟨l1, c1⟩ := kept_ok C0 l C k
    cases t with
    | hdl ha =>
      rename_i a
      obtain ⟨c, e1, kc⟩ := C.at_ n a ha
      rw [hs] at e1
      cases e1
      obtain ⟨xs, hx, r⟩ := kc
      have hl2 : (A.cut S0.length).c.length = S0.length := by
        rw [c1.len, List.length_take]
        have := k.1
        omega
      have ho : ∀ q, Out A q → Out ((A.cut S0.length).add a) q := fun q o => ⟨fun m => by
        rcases List.mem_append.mp m with m | m
        · exact o.c (List.mem_of_mem_take m)
        · have eb : q = a := by simpa using m
          subst eb
          exact o.c (List.mem_iff_getElem?.mpr ⟨n, ha⟩), o.x⟩
      have hadd : ∀ m, m < S0.length → ((A.cut S0.length).add a).c[m]? = A.c[m]? := fun m hm => by
        show ((A.cut S0.length).c ++ [some a])[m]? = _
        rw [List.getElem?_append_left (by omega), cut_at hm]
      have hc : ∀ (m : Nat) (q : Addr), m < S0.length → A.c[m]? = some (some q) → ((A.cut S0.length).add a).c[m]? = some (some q) := fun m q hm e => by rw [hadd m hm]; exact e
      have side : ∀ {n2 : Nat} {b : Addr}, ((A.cut S0.length).add a).c[n2]? = some (some b) → (n2 < S0.length ∧ A.c[n2]? = some (some b)) ∨ (n2 = S0.length ∧ b = a) := fun {n2 b} e => by
        by_cases h2 : n2 < S0.length
        · exact .inl ⟨h2, by rw [← hadd n2 h2]; exact e⟩
        · have e : ((A.cut S0.length).c ++ [some a])[n2]? = some (some b) := e
          rw [List.getElem?_append_right (by omega)] at e
          have h0 : n2 - (A.cut S0.length).c.length = 0 := by
            have := (List.getElem?_eq_some_iff.mp e).1
            simp at this
            omega
          rw [h0] at e
          exact .inr ⟨by omega, by cases e; rfl⟩
      have hlt1 : (S'.take S0.length).length = S0.length := by
        rw [List.length_take]
        have := k.1
        omega
      refine ⟨(A.cut S0.length).add a, ⟨⟨fun b u e n2 => ⟨(l.keep b u e n2).1, ho b (l.keep b u e n2).2⟩, fun n2 b e => hc n2 b (by have := (List.getElem?_eq_some_iff.mp e).1; omega) (l.live n2 b e), ?_, fun n2 b hn2 e => ?_⟩, l.ex, l.fz⟩, ⟨?_, fun n2 b e => ?_, fun n2 m2 b e e' => ?_, C.xs, fun n2 b e => ?_⟩, .hdl ?_⟩
      · show _ ≤ ((A.cut S0.length).c ++ [some a]).length
        rw [List.length_append]
        omega
      · rcases side e with ⟨_, e⟩ | ⟨e2, _⟩
        · exact l.old n2 b hn2 e
        · omega
      · show ((A.cut S0.length).c ++ [some a]).length = _
        rw [List.length_append, List.length_append, hl2, hlt1]
        rfl
      · rcases side e with ⟨h2, e⟩ | ⟨rfl, rfl⟩
        · obtain ⟨c, e1, kc⟩ := C.at_ n2 b e
          exact ⟨c, by rw [List.getElem?_append_left (by omega), List.getElem?_take, if_pos h2]; exact e1, Cell.to ho hc kc (kept_lt C0 l k h2 e e1)⟩
        · exact ⟨.lst ds, by rw [List.getElem?_append_right (by omega), hlt1, Nat.sub_self]; rfl, xs, hx, Dts.to ho hc r lt⟩
      · rcases side e with ⟨h2, e4⟩ | ⟨en, eb⟩ <;> rcases side e' with ⟨h3, e3⟩ | ⟨em, eb2⟩
        · exact C.inj n2 m2 b e4 e3
        · subst eb2
          have := C.inj n2 n b e4 ha
          omega
        · subst eb
          have := C.inj m2 n b e3 ha
          omega
        · omega
      · rcases side e with ⟨h2, e⟩ | ⟨rfl, rfl⟩
        · exact C.xo n2 b e
        · exact C.xo n b ha
      · show ((A.cut S0.length).c ++ [some a])[S0.length]? = _
        rw [List.getElem?_append_right (by omega), hl2, Nat.sub_self]
        rfl
def startD (n : Nat) (ds : List D) : Rho := ds.map some ++ List.replicate (n - ds.length) none
theorem Rel.start {N : List Str} {vs : List V} {ds : List D} (ts : Dts K H A vs ds) : Rel K H A (L2.start N vs) (startD N.length ds) := by
  have hl := ts.len
  refine ⟨by simp [L2.start, startD, hl], fun i d e => ?_⟩
  unfold startD at e
  by_cases hi : i < ds.length
  · rw [List.getElem?_append_left (by rw [List.length_map]; exact hi), List.getElem?_map] at e
    cases e2 : ds[i]? with
    | none => rw [e2] at e; cases e
    | some y =>
      rw [e2] at e
      cases e
      obtain ⟨x, hx, t⟩ := ts.at e2
      exact ⟨x, by unfold L2.start; rw [List.getElem?_append_left (by rw [List.length_map]; omega), List.getElem?_map, hx]; rfl, t⟩
  · rw [List.getElem?_append_right (by rw [List.length_map]; omega)] at e
    have := List.mem_of_getElem? e
    have := List.eq_of_mem_replicate this
    cases this
/-- a def by its data reading -/
def RtD (S0 : Sto) (Q : DQ) : DQ := fun d S' => ∃ d1 S1, Exit S0 S' d d1 S1 ∧ Q d1 S1
def ExD (S0 : Sto) (E : DX) : DW := fun C gs _ S' => Kept S0 S' ∧ ltF S0.length gs ∧ E C gs (S'.take S0.length)
theorem lift_def {dsp : DSp} {t : WX → TS} {d : DW → DS} {N : List Str} (sim : ∀ W WD, SimS K W WD (t W) (d WD))
    (dp : ∀ ds S Q E, dsp ds S Q E → d (ExD S E) { nx := fun _ S' => RtD S Q .non S', rt := RtD S Q, b := S.length } (startD N.length ds) S) :
    ∀ vs H Q E, lift K dsp vs H Q E → t (fun cls d _ H => E cls d H) { nx := fun _ H' => Q .non H', rt := Q } (L2.start N vs) H := by
  rintro vs H Q E ⟨A, S, ds, QD, ED, C, ts, h, hq, he⟩
  refine sim _ _ H A ?_ _ _ A S H _ _ ⟨Rel.start ts, C, Later.refl _ _⟩ ⟨?_, ?_, ?_, ?_, ?_⟩ (dp ds S QD ED h)
  · rintro σ ρ A' S' H' C0 gs fs dd x hd tf ⟨k, lt, e⟩
    obtain ⟨l1, c1⟩ := kept_ok C x.l x.c k
    exact he _ _ _ _ _ _ _ l1 c1 hd (Dtf.to (cut_o _) cut_c tf lt) e
  · rintro σ ρ A' S' H' x ⟨d1, S1, ex, q⟩
    obtain ⟨A1, l1, c1, t1⟩ := exit_ok C x.l x.c .non ex
    exact hq _ _ _ _ _ l1 c1 t1 q
  · exact fun _ _ _ _ _ _ h => h.elim
  · exact fun _ _ _ _ _ _ h => h.elim
  · rintro σ ρ A' S' H' v d x t ⟨d1, S1, ex, q⟩
    obtain ⟨A1, l1, c1, t1⟩ := exit_ok C x.l x.c t ex
    exact hq _ _ _ _ _ l1 c1 t1 q
  · exact C.len.symm
end
end Dx
/-! steps of data readings -/
namespace Dx
open PySem PySem.Spec PyProof.Rows L2 Px
section
variable {ρ : Rho} {S : Sto} {F : DEnds} {Q : DQ} {QB : Bool → Sto → Prop} {QL : List D → Sto → Prop} {QO : Option Int → Sto → Prop} {QR : Rho → Sto → Prop} {RI : IS → Sto → Prop} {d u : DS} {de da db : DE} {dt du : DT} {dl : DA} {x y v : D} {dg : DG} {i j : Int} {s z : Str} {k : Nat} {E : DX}
theorem w_seq (h : d { F with nx := u F } ρ S) : dSeq d u F ρ S := h
theorem w_next (h : F.nx ρ S) : dNext F ρ S := h
theorem w_break (h : F.bk ρ S) : dBreak F ρ S := h
theorem w_cont (h : F.ct ρ S) : dCont F ρ S := h
theorem w_asg (h : de ρ S fun d S1 => dg d ρ S1 F.nx) : dAsg de dg F ρ S := h
theorem w_ret (h : de ρ S F.rt) : dRet de F ρ S := h
theorem w_retN (h : F.rt .non S) : dRetN F ρ S := h
theorem w_drop (h : de ρ S fun _ S1 => F.nx ρ S1) : dDrop de F ρ S := h
theorem w_ifS (h : dt ρ S fun b S1 => if b = true then d F ρ S1 else u F ρ S1) : dIfS dt d u F ρ S := h
theorem w_nocut (h : d { F with nx := u F } ρ S) : dCut d u F ρ S := ⟨u F, h, fun _ _ h => h⟩
theorem w_cut (Mid : Rho → Sto → Prop) (h : d { F with nx := Mid } ρ S) (h2 : ∀ ρ' S', Mid ρ' S' → u F ρ' S') : dCut d u F ρ S := ⟨Mid, h, h2⟩
theorem w_var (e : ρ[k]? = some (some x)) (h : Q x S) : dVar k ρ S Q := ⟨x, e, h⟩
theorem w_newF {ds : List D} (h : Q (.lst ds) S) : newAt false ds S Q := h
theorem w_newT {ds : List D} (h : Q (.hdl S.length) (S ++ [.lst ds])) : newAt true ds S Q := h
theorem w_c (h : Q x S) : dC x ρ S Q := h
theorem w_op {r : D → D → Sto → DQ → Prop} (h : da ρ S fun x S1 => db ρ S1 fun y S2 => r x y S2 Q) : dOp r da db ρ S Q := h
theorem w_un {r : D → Sto → DQ → Prop} (h : da ρ S fun x S1 => r x S1 Q) : dUn r da ρ S Q := h
theorem w_gname (h : QR (ρ.set k (some v)) S) : dgName k v ρ S QR := h
theorem w_gtup {n : Nat} {g : DGs} {ds : List D} (hl : ds.length = n) (h : g ds ρ S QR) : dgTup n g (.tup ds) ρ S QR := ⟨ds, rfl, hl, h⟩
theorem w_gcons {g : DG} {r : DGs} {es : List D} (h : g v ρ S fun ρ1 S1 => r es ρ1 S1 QR) : dgCons g r (v :: es) ρ S QR := ⟨v, es, rfl, h⟩
theorem w_gnil (h : QR ρ S) : dgNil [] ρ S QR := ⟨rfl, h⟩
theorem w_gsub (h : da ρ S fun o S1 => db ρ S1 fun i S2 => dSet o i v S2 fun S3 => QR ρ S3) : dgSub da db v ρ S QR := h
theorem w_nil (h : QL [] S) : dNil ρ S QL := h
theorem w_cons (h : da ρ S fun x S1 => dl ρ S1 fun xs S2 => QL (x :: xs) S2) : dCons da dl ρ S QL := h
theorem w_cb {r : List D → Sto → DQ → Prop} (h : dl ρ S fun ds S1 => r ds S1 Q) : dCB r dl ρ S Q := h
theorem w_lstF (h : dl ρ S fun ds S1 => ds.length ≤ sizeLine ∧ Q (.lst ds) S1) : dLst false dl ρ S Q := h
theorem w_lstT (h : dl ρ S fun ds S1 => ds.length ≤ sizeLine ∧ Q (.hdl S1.length) (S1 ++ [.lst ds])) : dLst true dl ρ S Q := h
theorem w_tup (h : dl ρ S fun ds S1 => ds.length ≤ sizeLine ∧ Q (.tup ds) S1) : dTup dl ρ S Q := h
theorem w_test (h : de ρ S fun d S1 => isBl d fun b => QB b S1) : dTest de ρ S QB := h
theorem w_isb {b : Bool} {R : Bool → Prop} (h : R b) : isBl (.bl b) R := ⟨b, rfl, h⟩
theorem w_and (h : dt ρ S fun c S1 => if c = true then du ρ S1 QB else QB false S1) : dAnd dt du ρ S QB := h
theorem w_or (h : dt ρ S fun c S1 => if c = true then QB true S1 else du ρ S1 QB) : dOr dt du ρ S QB := h
theorem w_not (h : dt ρ S fun c S1 => QB (!c) S1) : dNot dt ρ S QB := h
theorem w_andV (h : da ρ S fun d S1 => isBl d fun c => if c = true then db ρ S1 Q else Q (.bl false) S1) : dAndV da db ρ S Q := h
theorem w_orV (h : da ρ S fun d S1 => isBl d fun c => if c = true then Q (.bl true) S1 else db ρ S1 Q) : dOrV da db ρ S Q := h
theorem w_notV (h : da ρ S fun d S1 => isBl d fun c => Q (.bl (!c)) S1) : dNotV da ρ S Q := h
theorem w_if (h : dt ρ S fun c S1 => if c = true then da ρ S1 Q else db ρ S1 Q) : dIf dt da db ρ S Q := h
theorem w_yes (h : QB true S) : dYes ρ S QB := h
theorem w_neg (h : Q (.int (-i)) S) : dNeg (.int i) S Q := ⟨i, rfl, h⟩
theorem w_sub (h : Q (.int (i - j)) S) : dSub (.int i) (.int j) S Q := ⟨i, j, rfl, rfl, trivial, h⟩
theorem w_le (h : Q (.bl (decide (i ≤ j))) S) : dLe (.int i) (.int j) S Q := ⟨i, j, rfl, rfl, trivial, h⟩
theorem w_gt (h : Q (.bl (decide (j < i))) S) : dGt (.int i) (.int j) S Q := ⟨i, j, rfl, rfl, trivial, h⟩
theorem w_ge (h : Q (.bl (decide (j ≤ i))) S) : dGe (.int i) (.int j) S Q := ⟨i, j, rfl, rfl, trivial, h⟩
theorem w_ltI (h : Q (.bl (decide (i < j))) S) : dLt (.int i) (.int j) S Q := .int h
theorem w_addI {b : Bool} (h : Q (.int (i + j)) S) : dAdd b (.int i) (.int j) S Q := .int h
theorem w_eqI (h : Q (.bl (decide (i = j))) S) : dEq (.int i) (.int j) S Q := .int h
theorem w_eqS (h : Q (.bl (decide (s = z))) S) : dEq (.str s) (.str z) S Q := .str h
theorem w_neI (h : Q (.bl (!decide (i = j))) S) : dNe (.int i) (.int j) S Q := .int h
theorem w_neS (h : Q (.bl (!decide (s = z))) S) : dNe (.str s) (.str z) S Q := .str h
theorem w_is {neg : Bool} (h : Q (.bl (tgtIn neg (isNon x))) S) : dIs neg x .non S Q := ⟨rfl, h⟩
theorem w_inS {neg : Bool} (h : Q (.bl (tgtIn neg (strIn s z))) S) : dIn neg (.str s) (.str z) S Q := .sub h
theorem w_nopart (h : QO none S) : dNoPart ρ S QO := h
theorem w_part (h : de ρ S fun d S1 => ∃ i, d = .int i ∧ QO (some i) S1) : dPart de ρ S QO := h
theorem w_exi {R : Int → Prop} (h : R i) : ∃ k, D.int i = .int k ∧ R k := ⟨i, rfl, h⟩
theorem w_sl {b : Bool} {lo hi : DO} (h : de ρ S fun x S1 => lo ρ S1 fun l S2 => hi ρ S2 fun u S3 => dSlR b x l u S3 Q) : dSl b de lo hi ρ S Q := h
theorem w_intI (h : Q (.int i) S) : dInt [.int i] S Q := .int h
theorem w_strS (h : Q (.str z) S) : dStr [.str z] S Q := .str h
theorem w_call {WD : DW} {dsp : DSp} (h : dl ρ S fun ds S1 => dsp ds S1 Q fun C gs S2 => WD C gs ρ S2) : dCall WD dsp dl ρ S Q := h
theorem w_call0 {dsp : DSp} (h : dl ρ S fun ds S1 => dsp ds S1 Q fun _ _ _ => False) : dCall0 dsp dl ρ S Q := h
theorem w_raise {C f : Str} {WD : DW} (h : dl ρ S fun ds S1 => ∃ d, ds = [d] ∧ WD C [(f, d)] ρ S1) : dRaise C f WD dl F ρ S := h
theorem w_att {m : List (Str × DAlt)} (h : de ρ S fun d S1 => ∃ C gs al, rs S1 d = .obj C gs ∧ (C, al) ∈ m ∧ al.run d gs S1 Q) : dAtt m de ρ S Q := h
theorem w_app (h : da ρ S fun o S1 => ∃ n, o = .hdl n ∧ (∃ ds, S1[n]? = some (.lst ds)) ∧ dl ρ S1 fun ys S2 => ∃ y ds, ys = [y] ∧ S2[n]? = some (.lst ds) ∧ ds.length ≤ 1000000 ∧ Q .non (S2.set n (.lst (ds ++ [y])))) : dApp da dl ρ S Q := h
theorem w_rng1 (h : dl ρ S fun ds S1 => ∃ j : Int, ds = [.int j] ∧ -(2 ^ 62) ≤ j ∧ j < 2 ^ 62 ∧ RI ⟨rngD 0 j.toNat, fun _ => True⟩ S1) : dRng1 dl ρ S RI := h
theorem w_rng2 (h : dl ρ S fun ds S1 => ∃ i j : Int, ds = [.int i, .int j] ∧ (-(2 ^ 62) ≤ i ∧ i < 2 ^ 62 ∧ -(2 ^ 62) ≤ j ∧ j < 2 ^ 62) ∧ RI ⟨rngD i (j - i).toNat, fun _ => True⟩ S1) : dRng2 dl ρ S RI := h
theorem w_any (h : de ρ S fun d S1 => dAnyR d S1 RI) : dAny de ρ S RI := h
/-- a for: what is walked, then an invariant -/
def ForD (is : IS) (dg : DG) (db : DS) (F : DEnds) (ρ : Rho) (S1 : Sto) : Prop := ∃ P : Nat → Rho → Sto → Prop, P 0 ρ S1 ∧ (∀ i ρ' S', i ≤ is.items.length → P i ρ' S' → is.ok S') ∧
  (∀ i d ρ' S', is.items[i]? = some d → P i ρ' S' → dg d ρ' S' fun ρ2 S2 => db { F with nx := P (i + 1), ct := P (i + 1), bk := F.nx, b := S1.length } ρ2 S2) ∧ ∀ ρ' S', P is.items.length ρ' S' → F.nx ρ' S'
theorem w_for {di : DI} {body : DS} (h : di ρ S fun is S1 => ForD is dg body F ρ S1) : dFor di dg body F ρ S := h
/-- a comprehension -/
def LcD (is : IS) (c : Bool) (dg : DG) (dt : DT) (de : DE) (vs : List Nat) (ρ : Rho) (S1 : Sto) (Q : DQ) : Prop := ∃ P : Nat → List D → Sto → Prop, P 0 [] S1 ∧ (∀ i acc S', i ≤ is.items.length → P i acc S' → is.ok S') ∧
  (∀ i d acc S', is.items[i]? = some d → P i acc S' → dg d (wipeD ρ vs) S' fun ρ2 S2 => dt ρ2 S2 fun b S3 => if b = true then de ρ2 S3 fun y S4 => acc.length < sizeLine ∧ P (i + 1) (acc ++ [y]) S4 else P (i + 1) acc S3) ∧
  ∀ acc S', P is.items.length acc S' → newAt c acc S' Q
theorem w_lc {c : Bool} {di : DI} {vs : List Nat} (h : di ρ S fun is S1 => LcD is c dg dt de vs ρ S1 Q) : dLc c di dg dt de vs ρ S Q := h
/-- [e for v in ..]: the state stays -/
theorem lcd_map {α : Type} {is : IS} {c : Bool} {vs : List Nat} (xs : List α) (f g : α → D) (hi : is.items = xs.map f) (hl : xs.length ≤ 1000000) (ok : is.ok S)
    (hf : ∀ a, a ∈ xs → ∀ Q' : DQ, Q' (g a) S → dg (f a) (wipeD ρ vs) S fun ρ2 S2 => de ρ2 S2 Q') (hq : newAt c (xs.map g) S Q) : LcD is c dg dYes de vs ρ S Q := by
  refine ⟨fun i acc S' => S' = S ∧ acc = (xs.take i).map g, ⟨rfl, rfl⟩, fun i acc S' _ p => by rw [p.1]; exact ok, ?_, ?_⟩
  · rintro i d acc S' hd ⟨rfl, rfl⟩
    rw [hi, List.getElem?_map] at hd
    cases e : xs[i]? with
    | none => rw [e] at hd; cases hd
    | some a =>
      rw [e] at hd
      cases hd
      have hlt := (List.getElem?_eq_some_iff.mp e).1
      have key := hf a (List.mem_of_getElem? e) (fun y S4 => (List.map g (xs.take i)).length < sizeLine ∧ S4 = S' ∧ List.map g (xs.take i) ++ [y] = List.map g (xs.take (i + 1))) ⟨by rw [List.length_map, List.length_take, sizeLine_eq]; omega, rfl, by rw [List.take_add_one, e]; simp⟩
      exact key
  · rintro acc S' ⟨rfl, rfl⟩
    rw [hi, List.length_map, List.take_length]
    exact hq
theorem w_lenS (hz : z.length ≤ sizeLine) (h : Q (.int z.length) S) : dLen [.str z] S Q := .str hz h
theorem w_len {ds : List D} (e : Sq S x ds) (h : Q (.int ds.length) S) : dLen [x] S Q := .seq e h
theorem w_ix {ds : List D} (e : Sq S x ds) (e2 : atI ds i = some y) (h : Q y S) : dIx x (.int i) S Q := .seq e e2 h
theorem sq_l {ds : List D} : Sq S (.lst ds) ds := .inl rfl
theorem sq_t {ds : List D} : Sq S (.tup ds) ds := .inr rfl
theorem sq_h {ds : List D} (h : S[k]? = some (.lst ds)) : Sq S (.hdl k) ds := .inl (rs_h h)
/-- nothing changed, nothing new -/
theorem rt_same (lt : ltD S.length x) (h : Q x S) : RtD S Q x S := ⟨x, _, .val (Kept.refl S) lt, by rw [List.take_length]; exact h⟩
theorem rt_tree {G : Sto} {n : Nat} {ds : List D} (hn : S.length ≤ n) (e : (S ++ G)[n]? = some (.lst ds)) (lt : ltL S.length ds) (h : Q (.lst ds) S) : RtD S Q (.hdl n) (S ++ G) := ⟨_, _, .tree (Kept.app S G) hn e lt, by rw [List.take_left]; exact h⟩
theorem ex_same {C f : Str} (lt : ltD S.length x) (h : E C [(f, x)] S) : ExD S E C [(f, x)] ρ S := ⟨Kept.refl S, by unfold ltF; exact ⟨lt, by unfold ltF; trivial⟩, by rw [List.take_length]; exact h⟩
theorem last_at {c : D} : (S ++ [c])[S.length]? = some c := by rw [List.getElem?_append_right (Nat.le_refl _), Nat.sub_self]; rfl
theorem last_set {c c' : D} : (S ++ [c]).set S.length c' = S ++ [c'] := by rw [List.set_append_right _ _ (Nat.le_refl _), Nat.sub_self]; rfl
/-! promises by the number of arguments -/
def DSp1 (P : D → Sto → DQ → DX → Prop) : DSp := fun ds S Q E => ∃ x, ds = [x] ∧ P x S Q E
def DSp2 (P : D → D → Sto → DQ → DX → Prop) : DSp := fun ds S Q E => ∃ x y, ds = [x, y] ∧ P x y S Q E
def DSp3 (P : D → D → D → Sto → DQ → DX → Prop) : DSp := fun ds S Q E => ∃ x y z, ds = [x, y, z] ∧ P x y z S Q E
def DSp4 (P : D → D → D → D → Sto → DQ → DX → Prop) : DSp := fun ds S Q E => ∃ x y z u, ds = [x, y, z, u] ∧ P x y z u S Q E
def DSp5 (P : D → D → D → D → D → Sto → DQ → DX → Prop) : DSp := fun ds S Q E => ∃ x y z u v, ds = [x, y, z, u, v] ∧ P x y z u v S Q E
def DSp6 (P : D → D → D → D → D → D → Sto → DQ → DX → Prop) : DSp := fun ds S Q E => ∃ x y z u v w, ds = [x, y, z, u, v, w] ∧ P x y z u v w S Q E
theorem lift_len {K : PySem.W.Frag} {dsp : DSp} {n : Nat} (h : ∀ ds S Q E, dsp ds S Q E → ds.length = n) {vs : List V} {H : Hp} {Q : VK} {E : XK} (l : lift K dsp vs H Q E) : vs.length = n := by
  obtain ⟨A, S, ds, QD, ED, C, ts, hd, _⟩ := l
  rw [ts.len]
  exact h _ _ _ _ hd
theorem DSp1.len {P} {ds : List D} (h : DSp1 P ds S Q E) : ds.length = 1 := by obtain ⟨_, rfl, _⟩ := h; rfl
theorem DSp2.len {P} {ds : List D} (h : DSp2 P ds S Q E) : ds.length = 2 := by obtain ⟨_, _, rfl, _⟩ := h; rfl
theorem DSp3.len {P} {ds : List D} (h : DSp3 P ds S Q E) : ds.length = 3 := by obtain ⟨_, _, _, rfl, _⟩ := h; rfl
theorem DSp4.len {P} {ds : List D} (h : DSp4 P ds S Q E) : ds.length = 4 := by obtain ⟨_, _, _, _, rfl, _⟩ := h; rfl
theorem DSp5.len {P} {ds : List D} (h : DSp5 P ds S Q E) : ds.length = 5 := by obtain ⟨_, _, _, _, _, rfl, _⟩ := h; rfl
theorem DSp6.len {P} {ds : List D} (h : DSp6 P ds S Q E) : ds.length = 6 := by obtain ⟨_, _, _, _, _, _, rfl, _⟩ := h; rfl
end
end Dx
/-! constructs: own operators, more of lists and dicts -/
namespace Dx
open PySem PySem.Spec PyProof.Rows L2 Px
def EOk (K : PySem.W.Frag) (W : WX) (WD : DW) (E : L2.St → XK) (ED : Rho → DX) : Prop := ∀ H0 A0, WRel K H0 A0 W WD → ∀ σ ρ A S H C gs fs d, StR K H0 A0 σ ρ A S H → H d = some (.xd fs) → Dtf K H A fs gs → ED ρ C gs S → E σ (.ref (He.ga K C)) (some d) H
section
variable {K : PySem.W.Frag} {W : WX} {WD : DW} {te ta tb : TE} {de da db : DE} {tl : TA} {dl : DA} {E : L2.St → XK} {ED : Rho → DX}
def edW (WD : DW) : Rho → DX := fun ρ C gs S => WD C gs ρ S
theorem eo_w : EOk K W WD (WE W) (edW WD) := fun H0 A0 hW σ ρ A S H C gs fs d x hd tf h => hW _ _ _ _ _ _ _ _ _ x hd tf h
/-- a promise is met by its data promise -/
theorem run_lift {sp : Sp} {dsp : DSp} (ad : ∀ vs H Q E, lift K dsp vs H Q E → sp vs H Q E) (eo : EOk K W WD E ED) {H0 A0 σ ρ A S H} (hW : WRel K H0 A0 W WD) (x : StR K H0 A0 σ ρ A S H) {vs : List V} {ds : List D} (ts : Dts K H A vs ds) {Q : VK} {QD : DQ} (h : dsp ds S QD (ED ρ))
    (k : ∀ v d A' S' H', Later H A H' A' → StR K H0 A0 σ ρ A' S' H' → Dt K H' A' v d → QD d S' → Q v H') : sp vs H Q (E σ) :=
  ad _ _ _ _ ⟨A, S, ds, QD, _, x.c, ts, h, fun v d A' S' H' l c t q => k v d A' S' H' l (x.go l c) t q, fun C gs fs d A' S' H' l c hd tf q => eo _ _ hW _ _ _ _ _ _ _ _ _ (x.go l c) hd tf q⟩
def dOpS (rd : Rho → D → D → Sto → DQ → Prop) (da db : DE) : DE := fun ρ S Q => da ρ S fun x S1 => db ρ S1 fun y S2 => rd ρ x y S2 Q
/-- o.m(..), exceptions by ED -/
def dMethE (ED : Rho → DX) (m : List (Str × DSp)) (nm : Str) (de : DE) (dl : DA) : DE := fun ρ S Q => de ρ S fun d S1 => ∃ C gs dsp, rs S1 d = .obj C gs ∧ (C, dsp) ∈ m ∧ gs.lookup nm = none ∧ dl ρ S1 fun ds S2 => dsp (d :: ds) S2 Q (ED ρ)
theorem sim_methE {l : List (Addr × Sp)} {m : List (Str × DSp)} {nm : Str} (hm : SpsSim K l m) (eo : EOk K W WD E ED) (h1 : SimE K W WD te de) (hl : SimA K W WD tl dl) : SimE K W WD (Cl.tMethO l nm E te tl) (dMethE ED m nm de dl) := by
  intro H0 A0 hW σ ρ A S H Q QD x h k
  refine h1.at hW x h fun v1 d1 A1 S1 H1 l1 x1 t1 ⟨C, gs, dsp, e, hin, em, q⟩ => ?_
  obtain ⟨a, dx, fs, rfl, ha, r⟩ := ob_at x1.c t1 e
  obtain ⟨sp, hr, ad⟩ := hm.at hin
  refine meth_go sp hr ha (r.miss em) ?_
  refine hl H0 A0 hW _ _ _ _ _ _ _ x1 q fun vs ds A2 S2 H2 l2 x2 ts q2 => ?_
  exact run_lift ad eo hW x2 (.cons (t1.later l2) ts) q2 fun v d A' S' H' l3 x3 t q => k v d A' S' H' ((l1.trans l2).trans l3) x3 t q
/-- n op= e -/
def dAug (i : Nat) (de : DE) (rd : Rho → D → D → Sto → DQ → Prop) : DS := fun F ρ S => ∃ x, ρ[i]? = some (some x) ∧ de ρ S fun y S1 => rd ρ x y S1 fun z S2 => F.nx (ρ.set i (some z)) S2
/-- o[k] = v, o own or a list or a dict -/
def dgSubO (ED : Rho → DX) (m : List (Str × DSp)) (da db : DE) : DG := fun d ρ S Q => da ρ S fun o S1 => db ρ S1 fun i S2 => dSet o i d S2 (fun S3 => Q ρ S3) ∨ ∃ C gs dsp, rs S2 o = .obj C gs ∧ (C, dsp) ∈ m ∧ dsp [o, i, d] S2 (fun _ S3 => Q ρ S3) (ED ρ)
/-! lists -/
def dPop (da : DE) (dl : DA) : DE := fun ρ S Q => da ρ S fun o S1 => ∃ n, o = .hdl n ∧ (∃ ds, S1[n]? = some (.lst ds)) ∧ dl ρ S1 fun ys S2 => ∃ (k : Nat) (y : D) (ds : List D), ys = [.int k] ∧ k < 1000000 ∧ S2[n]? = some (.lst ds) ∧ ds[k]? = some y ∧ Q y (S2.set n (.lst (ds.eraseIdx k)))
/-- l.index(k) of numbers -/
def dIndex (da : DE) (dl : DA) : DE := fun ρ S Q => da ρ S fun o S1 => (∃ ds, rs S1 o = .lst ds) ∧ dl ρ S1 fun ys S2 => ∃ (z : Int) (l : List Int) (j : Nat), ys = [.int z] ∧ rs S2 o = .lst (l.map .int) ∧ l[j]? = some z ∧ (∀ m, m < j → l[m]? ≠ some z) ∧ Q (.int (j : Nat)) S2
theorem sim_index (h1 : SimE K W WD ta da) (hl : SimA K W WD tl dl) : SimE K W WD (tBM K "list" (rIndex K) ta tl) (dIndex da dl) := by
  intro H0 A0 hW σ ρ A S H Q QD x h k
  refine h1.at hW x h fun v1 d1 A1 S1 H1 l1 x1 t1 ⟨⟨es, he⟩, q⟩ => ?_
  obtain ⟨a, xs, rfl, hx, _⟩ := ls_at x1.c t1 he
  refine s_tyL hx ?_
  refine hl H0 A0 hW _ _ _ _ _ _ _ x1 q fun vs ds A2 S2 H2 l2 x2 ts ⟨z, l, j, e2, hs2, hj, hno, q2⟩ => ?_
  subst e2
  cases ts with
  | cons t ts =>
    cases t
    cases ts
    obtain ⟨a', ys, e3, hy, r⟩ := ls_at x2.c (t1.later l2) hs2
    cases e3
    rw [r.intsV] at hy
    refine ⟨a, _, .int z, j, .int z, rfl, rfl, SqL.of hy, rfl, by simp [flatV], by rw [List.getElem?_map, hj]; rfl, by simp [eqV], fun m z' hm hz => ?_, k _ _ _ _ _ (l1.trans l2) x2 (.int _) q2⟩
    rw [List.getElem?_map] at hz
    cases e4 : l[m]? with
    | none => rw [e4] at hz; cases hz
    | some w =>
      rw [e4] at hz
      cases hz
      have : w ≠ z := fun e => hno m hm (by rw [e4, e])
      simpa [eqV] using this
/-- l.remove(k) of numbers -/
def dRemove (da : DE) (dl : DA) : DE := fun ρ S Q => da ρ S fun o S1 => ∃ n, o = .hdl n ∧ (∃ ds, S1[n]? = some (.lst ds)) ∧ dl ρ S1 fun ys S2 => ∃ (z : Int) (l : List Int) (j : Nat), ys = [.int z] ∧ S2[n]? = some (.lst (l.map .int)) ∧ l[j]? = some z ∧ (∀ m, m < j → l[m]? ≠ some z) ∧ Q .non (S2.set n (.lst ((l.eraseIdx j).map .int)))
/-! walks over own objects that hold a dict -/
inductive KsSim (K : PySem.W.Frag) : List (Addr × Str) → List (Str × Str) → Prop
  | nil : KsSim K [] []
  | cons {C f : Str} {l : List (Addr × Str)} {m : List (Str × Str)} : KsSim K l m → KsSim K ((He.ga K C, f) :: l) ((C, f) :: m)
theorem KsSim.at {C f : Str} : ∀ {l : List (Addr × Str)} {m : List (Str × Str)}, KsSim K l m → (C, f) ∈ m → (He.ga K C, f) ∈ l
  | _, _, .nil, h => by cases h
  | _, _, .cons t, m => by
    rcases List.mem_cons.mp m with e | m
    · cases e; exact List.mem_cons_self
    · exact List.mem_cons_of_mem _ (t.at m)
theorem Dtk.keys : ∀ {kvs : List (Key × V)} {ds : List (Key × D)} {H : Hp} {A : Ads}, Dtk K H A kvs ds → Dts K H A (kvs.map fun p => kV p.1) (ds.map fun p => kD p.1)
  | _, _, _, _, .nil => .nil
  | _, _, _, _, .cons (f := f) h r => by
    refine .cons ?_ r.keys
    cases f with
    | inl i => exact .int i
    | inr z => exact .str z
end
end Dx
namespace Dx
open PySem PySem.Spec PyProof.Rows L2 Px
section
variable {ρ : Rho} {S : Sto} {F : DEnds} {Q : DQ} {QR : Rho → Sto → Prop} {de da db : DE} {dl : DA} {x y v : D} {k : Nat} {ED : Rho → DX} {m : List (Str × DSp)}
theorem w_opS {rd : Rho → D → D → Sto → DQ → Prop} (h : da ρ S fun x S1 => db ρ S1 fun y S2 => rd ρ x y S2 Q) : dOpS rd da db ρ S Q := h
theorem w_methE {nm : Str} (h : de ρ S fun d S1 => ∃ C gs dsp, rs S1 d = .obj C gs ∧ (C, dsp) ∈ m ∧ gs.lookup nm = none ∧ dl ρ S1 fun ds S2 => dsp (d :: ds) S2 Q (ED ρ)) : dMethE ED m nm de dl ρ S Q := h
theorem w_aug {rd : Rho → D → D → Sto → DQ → Prop} (e : ρ[k]? = some (some x)) (h : de ρ S fun y S1 => rd ρ x y S1 fun z S2 => F.nx (ρ.set k (some z)) S2) : dAug k de rd F ρ S := ⟨x, e, h⟩
theorem w_gsubO (h : da ρ S fun o S1 => db ρ S1 fun i S2 => dSet o i v S2 (fun S3 => QR ρ S3) ∨ ∃ C gs dsp, rs S2 o = .obj C gs ∧ (C, dsp) ∈ m ∧ dsp [o, i, v] S2 (fun _ S3 => QR ρ S3) (ED ρ)) : dgSubO ED m da db v ρ S QR := h
theorem w_pop (h : da ρ S fun o S1 => ∃ n, o = .hdl n ∧ (∃ ds, S1[n]? = some (.lst ds)) ∧ dl ρ S1 fun ys S2 => ∃ (k : Nat) (y : D) (ds : List D), ys = [.int k] ∧ k < 1000000 ∧ S2[n]? = some (.lst ds) ∧ ds[k]? = some y ∧ Q y (S2.set n (.lst (ds.eraseIdx k)))) : dPop da dl ρ S Q := h
theorem w_index (h : da ρ S fun o S1 => (∃ ds, rs S1 o = .lst ds) ∧ dl ρ S1 fun ys S2 => ∃ (z : Int) (l : List Int) (j : Nat), ys = [.int z] ∧ rs S2 o = .lst (l.map .int) ∧ l[j]? = some z ∧ (∀ m, m < j → l[m]? ≠ some z) ∧ Q (.int (j : Nat)) S2) : dIndex da dl ρ S Q := h
theorem w_remove (h : da ρ S fun o S1 => ∃ n, o = .hdl n ∧ (∃ ds, S1[n]? = some (.lst ds)) ∧ dl ρ S1 fun ys S2 => ∃ (z : Int) (l : List Int) (j : Nat), ys = [.int z] ∧ S2[n]? = some (.lst (l.map .int)) ∧ l[j]? = some z ∧ (∀ m, m < j → l[m]? ≠ some z) ∧ Q .non (S2.set n (.lst ((l.eraseIdx j).map .int)))) : dRemove da dl ρ S Q := h
/-- a method of the one class -/
theorem own_go {S1 : Sto} {C : Str} {gs : List (Str × D)} (dsp : DSp) (hm : (C, dsp) ∈ m) (e : rs S1 x = .obj C gs) {nm : Str} (hn : gs.lookup nm = none) (h : dl ρ S1 fun ds S2 => dsp (x :: ds) S2 Q (ED ρ)) : ∃ C gs dsp, rs S1 x = .obj C gs ∧ (C, dsp) ∈ m ∧ gs.lookup nm = none ∧ dl ρ S1 fun ds S2 => dsp (x :: ds) S2 Q (ED ρ) := ⟨C, gs, dsp, e, hm, hn, h⟩
theorem att_fld {S1 : Sto} {C : Str} {gs : List (Str × D)} {ml : List (Str × DAlt)} (f : Str) (hm : (C, DAlt.fld f) ∈ ml) (e : rs S1 x = .obj C gs) (hl : gs.lookup f = some y) (h : Q y S1) : ∃ C gs al, rs S1 x = .obj C gs ∧ (C, al) ∈ ml ∧ al.run x gs S1 Q := ⟨C, gs, _, e, hm, y, hl, h⟩
end
end Dx
namespace Dx
open PySem PySem.Spec PyProof.Rows L2 Px
section
variable {K : PySem.W.Frag} {W : WX} {WD : DW}
def dTry (db : DW → DS) (hd : Str → List (Str × D) → DS) : DS := fun F ρ S => db (fun C gs ρ' S' => hd C gs F ρ' S') F ρ S
/-- one clause -/
def HandAs (K : PySem.W.Frag) (W : WX) (WD : DW) (c : Value) (i : Nat) (ts : Addr → Value → Option Addr → TS) (hd : Str → List (Str × D) → DS) : Prop := ∀ H0 A0, WRel K H0 A0 W WD → ∀ E F, ERel K H0 A0 E F → ∀ σ ρ A S H C gs fs d, StR K H0 A0 σ ρ A S H → H d = some (.xd fs) → Dtf K H A fs gs → hd C gs F ρ S → wAs K c i ts W E (.ref (He.ga K C)) (some d) σ H
theorem sim_tryAs {tb : WX → TS} {db : DW → DS} {c : Value} {i : Nat} {ts : Addr → Value → Option Addr → TS} {hd : Str → List (Str × D) → DS} (hb : ∀ W1 WD1, SimS K W1 WD1 (tb W1) (db WD1)) (hh : HandAs K W WD c i ts hd) : SimS K W WD (fun D σ H => (fun W1 => tb W1) (wAs K c i ts W D) D σ H) (dTry db hd) :=
  fun H0 A0 hW σ ρ A S H E F x e h => hb _ _ H0 A0 (fun σ ρ A S H C gs fs d x' hx tf h' => hh H0 A0 hW E F e σ ρ A S H C gs fs d x' hx tf h') σ ρ A S H E F x e h
theorem w_try {db : DW → DS} {hd : Str → List (Str × D) → DS} {F : DEnds} {ρ : Rho} {S : Sto} (h : db (fun C gs ρ' S' => hd C gs F ρ' S') F ρ S) : dTry db hd F ρ S := h
end
end Dx
namespace Dx
open PySem PySem.Spec PyProof.Rows L2 Px
section
variable {K : PySem.W.Frag} {W : WX} {WD : DW}
end
end Dx
/-! locked dicts, while, class constants, a list times an int -/
namespace Dx
open PySem PySem.Spec PyProof.Rows L2 Px
/-- where a thing stands: a variable, a field of it -/
inductive Pth where
  | var (i : Nat)
  | att (p : Pth) (f : Str)
def Pth.at (ρ : Rho) (S : Sto) : Pth → Option D
  | .var i => (ρ[i]?).join
  | .att p f => match p.at ρ S with
    | none => none
    | some d => match rs S d with
      | .obj _ gs => gs.lookup f
      | _ => none
theorem Pth.dt {K : PySem.W.Frag} {H : Hp} {A : Ads} {σ : L2.St} {ρ : Rho} {S : Sto} (r : Rel K H A σ ρ) (C : Cells K H A S) : ∀ {p : Pth} {d : D}, p.at ρ S = some d → ∃ v, Dt K H A v d
  | .var i, d, h => by
    have h : (ρ[i]?).join = some d := h
    cases e : ρ[i]? with
    | none => rw [e] at h; cases h
    | some o =>
      rw [e] at h
      have h : o = some d := h
      subst h
      obtain ⟨v, _, t⟩ := r.at_ i d e
      exact ⟨v, t⟩
  | .att p f, d, h => by
    unfold Pth.at at h
    cases e : p.at ρ S with
    | none => rw [e] at h; cases h
    | some d0 =>
      rw [e] at h
      dsimp only at h
      obtain ⟨v, t⟩ := Pth.dt r C e
      cases e2 : rs S d0 <;> (rw [e2] at h) <;> first
        | (cases h; done)
        | (have h : List.lookup f _ = some d := h
           obtain ⟨a, dx, fs, _, _, rf⟩ := ob_at C t e2
           obtain ⟨x, _, tx⟩ := rf.look h
           exact ⟨x, tx⟩)
section
variable {K : PySem.W.Frag} {W : WX} {WD : DW} {te td ta tb : TE} {de da db : DE} {tt : TT} {dt : DT} {ts : TS} {ds : DS} {tl : TA} {dl : DA}
def dKeys (de : DE) : DI := fun ρ S R => de ρ S fun x S1 => ∃ n kvs, x = .hdl n ∧ S1[n]? = some (.dic true kvs) ∧ R ⟨kvs.map fun p => kD p.1, fun _ => True⟩ S1
def dVals (de : DE) : DI := fun ρ S R => de ρ S fun x S1 => ∃ n kvs, x = .hdl n ∧ S1[n]? = some (.dic true kvs) ∧ R ⟨kvs.map Prod.snd, fun _ => True⟩ S1
/-- for k in an own object, its dict locked -/
def dOwnK (m : List (Str × Str)) (de : DE) : DI := fun ρ S R => de ρ S fun x S1 => ∃ C gs f n kvs, rs S1 x = .obj C gs ∧ (C, f) ∈ m ∧ gs.lookup f = some (.hdl n) ∧ S1[n]? = some (.dic true kvs) ∧ R ⟨kvs.map fun p => kD p.1, fun _ => True⟩ S1
/-- while -/
def WhileD (dt : DT) (db : DS) (F : DEnds) (ρ : Rho) (S : Sto) : Prop := ∃ P : Nat → Rho → Sto → Prop, (∃ m, P m ρ S) ∧ ∀ m ρ' S', P m ρ' S' → dt ρ' S' fun b S1 => if b = true then db { F with nx := fun ρ2 S2 => ∃ m', m' < m ∧ P m' ρ2 S2, ct := fun ρ2 S2 => ∃ m', m' < m ∧ P m' ρ2 S2, bk := F.nx, b := S.length } ρ' S1 else F.nx ρ' S1
def dWhile (dt : DT) (db : DS) : DS := fun F ρ S => WhileD dt db F ρ S
/-- {} -/
def dNewK : DE := fun _ S Q => Q (.hdl S.length) (S ++ [.dic false []])
/-- a list times an int -/
inductive dMulL (b : Bool) : D → D → Sto → DQ → Prop
  | int {i j : Int} {S : Sto} {Q : DQ} : CMulP i j → Q (.int (i * j)) S → dMulL b (.int i) (.int j) S Q
  | lst {x : D} {ds : List D} {k : Nat} {S : Sto} {Q : DQ} : rs S x = .lst ds → k < 1000000 → ds.length * k ≤ sizeLine → newAt b (List.replicate k ds).flatten S Q → dMulL b x (.int (k : Int)) S Q
theorem Dts.rep {H : Hp} {A : Ads} {xs : List V} {ds : List D} (r : Dts K H A xs ds) : ∀ k : Nat, Dts K H A (List.replicate k xs).flatten (List.replicate k ds).flatten
  | 0 => .nil
  | k + 1 => by rw [List.replicate_succ, List.replicate_succ, List.flatten_cons, List.flatten_cons]; exact r.app (r.rep k)
end
/-! x op y of two own classes -/
section
variable {K : PySem.W.Frag} {W : WX} {WD : DW} {E : L2.St → XK} {ED : Rho → DX}
inductive PsSim (K : PySem.W.Frag) : List (Addr × Addr × Sp) → List (Str × Str × DSp) → Prop
  | nil : PsSim K [] []
  | cons {C C' : Str} {sp : Sp} {dsp : DSp} {l : List (Addr × Addr × Sp)} {m : List (Str × Str × DSp)} : (∀ vs H Q E, lift K dsp vs H Q E → sp vs H Q E) → PsSim K l m → PsSim K ((He.ga K C, He.ga K C', sp) :: l) ((C, C', dsp) :: m)
theorem PsSim.at {C C' : Str} {dsp : DSp} : ∀ {l : List (Addr × Addr × Sp)} {m : List (Str × Str × DSp)}, PsSim K l m → (C, C', dsp) ∈ m → ∃ sp, (He.ga K C, He.ga K C', sp) ∈ l ∧ ∀ vs H Q E, lift K dsp vs H Q E → sp vs H Q E
  | _, _, .nil, h => by cases h
  | _, _, .cons h t, m => by
    rcases List.mem_cons.mp m with e | m
    · cases e; exact ⟨_, List.mem_cons_self, h⟩
    · obtain ⟨r, h1, h2⟩ := t.at m
      exact ⟨r, List.mem_cons_of_mem _ h1, h2⟩
end
section
variable {ρ : Rho} {S : Sto} {F : DEnds} {Q : DQ} {RI : IS → Sto → Prop} {de da db : DE} {dt : DT} {ds : DS} {p : Pth}
theorem w_keys (h : de ρ S fun x S1 => ∃ n kvs, x = .hdl n ∧ S1[n]? = some (.dic true kvs) ∧ RI ⟨kvs.map fun p => kD p.1, fun _ => True⟩ S1) : dKeys de ρ S RI := h
theorem w_vals (h : de ρ S fun x S1 => ∃ n kvs, x = .hdl n ∧ S1[n]? = some (.dic true kvs) ∧ RI ⟨kvs.map Prod.snd, fun _ => True⟩ S1) : dVals de ρ S RI := h
theorem w_ownK {m : List (Str × Str)} (h : de ρ S fun x S1 => ∃ C gs f n kvs, rs S1 x = .obj C gs ∧ (C, f) ∈ m ∧ gs.lookup f = some (.hdl n) ∧ S1[n]? = some (.dic true kvs) ∧ RI ⟨kvs.map fun p => kD p.1, fun _ => True⟩ S1) : dOwnK m de ρ S RI := h
theorem w_while (h : WhileD dt ds F ρ S) : dWhile dt ds F ρ S := h
theorem w_newK (h : Q (.hdl S.length) (S ++ [.dic false []])) : dNewK ρ S Q := h
end
end Dx
/-! range with a step -/
namespace Dx
open PySem PySem.Spec PyProof.Rows L2 Px
section
variable {K : PySem.W.Frag} {W : WX} {WD : DW} {tl : TA} {dl : DA} {ρ : Rho} {S : Sto} {RI : IS → Sto → Prop}
def rngC (lo c : Int) (n : Nat) : List D := (List.range n).map fun (j : Nat) => D.int (lo + (j : Nat) * c)
theorem Dts.rngC {H : Hp} {A : Ads} (lo c : Int) : ∀ l : List Nat, Dts K H A (l.map fun (j : Nat) => V.int (lo + (j : Nat) * c)) (l.map fun (j : Nat) => D.int (lo + (j : Nat) * c))
  | [] => .nil
  | x :: r => .cons (.int _) (Dts.rngC lo c r)
def dRng3 (dl : DA) : DI := fun ρ S R => dl ρ S fun ds S1 => ∃ (i j c : Int) (n : Nat), ds = [.int i, .int j, .int c] ∧ RgC i j c n ∧ R ⟨rngC i c n, fun _ => True⟩ S1
theorem w_rng3 (h : dl ρ S fun ds S1 => ∃ (i j c : Int) (n : Nat), ds = [.int i, .int j, .int c] ∧ RgC i j c n ∧ RI ⟨rngC i c n, fun _ => True⟩ S1) : dRng3 dl ρ S RI := h
end
section
variable {K : PySem.W.Frag} {W : WX} {WD : DW} {ta tb : TE} {da db : DE} {ρ : Rho} {S : Sto} {Q : DQ}
/-- d[k] -/
def dDGet (da db : DE) : DE := fun ρ S Q => da ρ S fun x S1 => db ρ S1 fun y S2 => ∃ lk ds key d, rs S2 x = .dic lk ds ∧ y = kD key ∧ getK ds key = some d ∧ Q d S2
theorem sim_dget (h1 : SimE K W WD ta da) (h2 : SimE K W WD tb db) : SimE K W WD (tDGet ta tb) (dDGet da db) := by
  intro H0 A0 hW σ ρ A S H Q QD x h k
  refine h1.at hW x h fun v1 d1 A1 S1 H1 l1 x1 t1 q1 => ?_
  refine h2.at hW x1 q1 fun v2 d2 A2 S2 H2 l2 x2 t2 ⟨lk, ds, key, d, e1, e2, e3, q⟩ => ?_
  subst e2
  obtain ⟨a, kvs, rfl, r, dk⟩ := dc_at x2.c (t1.later l2) e1
  rcases dk.look key with ⟨e4, _⟩ | ⟨u, y, e4, e5, tu⟩
  · rw [e3] at e4; cases e4
  · rw [e3] at e4
    cases e4
    refine ⟨a, u, rfl, ?_, k _ _ _ _ _ (l1.trans l2) x2 tu q⟩
    rw [kD_V t2, ← e5]
    exact .inl ⟨kvs, key, r, rfl, rfl⟩
theorem w_dget (h : da ρ S fun x S1 => db ρ S1 fun y S2 => ∃ lk ds key d, rs S2 x = .dic lk ds ∧ y = kD key ∧ getK ds key = some d ∧ Q d S2) : dDGet da db ρ S Q := h
end
end Dx
/-! x.upper(), x[::-1], isinstance(x, own class), is of bools -/
namespace Dx
open PySem PySem.Spec PyProof.Rows L2 Px He
section
variable {K : PySem.W.Frag} {W : WX} {WD : DW} {te : TE} {de : DE} {ρ : Rho} {S : Sto} {Q : DQ}
def dRev (b : Bool) (de : DE) : DE := fun ρ S Q => de ρ S fun x S1 => ∃ ds, rs S1 x = .lst ds ∧ newAt b ds.reverse S1 Q
theorem sim_rev {b : Bool} (h1 : SimE K W WD te de) : SimE K W WD (tRevL K te) (dRev b de) := by
  intro H0 A0 hW σ ρ A S H Q QD x h k
  refine h1.at hW x h fun v1 d1 A1 S1 H1 l1 x1 t1 ⟨ds, e1, q⟩ => ?_
  obtain ⟨a, xs, rfl, h2, r⟩ := ls_at x1.c t1 e1
  exact ⟨a, xs, rfl, SqL.of h2, fun p hp => mk_lst (fun v d A' S' H' l4 c t h => k v d A' S' H' (l1.trans l4) (x1.go l4 c) t h) x1.c r.rev q hp⟩
theorem w_rev {b : Bool} (h : de ρ S fun x S1 => ∃ ds, rs S1 x = .lst ds ∧ newAt b ds.reverse S1 Q) : dRev b de ρ S Q := h
/-- the built-in type of a thing that is no object -/
def tyD : D → Option String
  | .non => some "NoneType"
  | .bl _ => some "bool"
  | .int _ => some "int"
  | .str _ => some "str"
  | .lst _ => some "list"
  | .tup _ => some "tuple"
  | _ => none
theorem ty_at {H : Hp} {A : Ads} {v : V} {d : D} {s : String} (C : Cells K H A S) (t : Dt K H A v d) (e : tyD (rs S d) = some s) : TyX K H v (.type s) := by
  cases t with
  | non => cases e; exact .base .non
  | bl b => cases e; exact .base (.bl b)
  | int i => cases e; exact .base (.int i)
  | str z => cases e; exact .base (.str z)
  | lst h o r => cases e; exact .base (.lst h)
  | tup h o r => cases e; exact .base (.tup h)
  | obj h o r => cases e
  | dic h o r => cases e
  | hdl ha =>
    obtain ⟨c, hc, kc⟩ := C.at_ _ _ ha
    rw [rs_h hc] at e
    cases c <;> first
      | (cases e; done)
      | (exact kc.elim)
      | skip
    obtain ⟨xs, hx, r⟩ := kc
    cases e
    exact .base (.lst hx)
def dIsT (ty : String) (de : DE) : DE := fun ρ S Q => de ρ S fun x S1 => ∃ s b, tyD (rs S1 x) = some s ∧ kitB s ty = some b ∧ Q (.bl b) S1
theorem sim_isT {ty : String} (h1 : SimE K W WD te de) : SimE K W WD (tCB (rIsi K) (tCons te (tCons (tC (.ty ty)) tNil))) (dIsT ty de) := by
  intro H0 A0 hW σ ρ A S H Q QD x h k
  refine h1.at hW x h fun v1 d1 A1 S1 H1 l1 x1 t1 ⟨s, b, e1, e2, q⟩ => ?_
  exact ⟨_, _, _, _, b, rfl, .ty _, ty_at x1.c t1 e1, kit_ty e2, k _ _ _ _ _ l1 x1 (.bl _) q⟩
theorem w_isT {ty : String} (h : de ρ S fun x S1 => ∃ s b, tyD (rs S1 x) = some s ∧ kitB s ty = some b ∧ Q (.bl b) S1) : dIsT ty de ρ S Q := h
end
end Dx
/-! HeadX: the Hook whose look goes over a tree of the heap: for a head that o_head runs in pieces -/
namespace Hk
open PySem PySem.W He He5
/-- what the names reach in n steps: as asD, each address once, by a tree -/
inductive MT where
  | nil
  | node (m : Bool) (l r : MT)
def MT.get : MT → Nat → Bool
  | .nil, _ => false
  | .node m l r, i => match Nat.beq i 0 with
    | true => m
    | false => match Nat.beq (i % 2) 1 with
      | true => l.get (i / 2)
      | false => r.get (i / 2 - 1)
def MT.add : Nat → MT → Nat → MT
  | 0, t, _ => t
  | f + 1, .nil, i => (match Nat.beq i 0 with
    | true => .node true .nil .nil
    | false => match Nat.beq (i % 2) 1 with
      | true => .node false (MT.add f .nil (i / 2)) .nil
      | false => .node false .nil (MT.add f .nil (i / 2 - 1)))
  | f + 1, .node m l r, i => match Nat.beq i 0 with
    | true => .node true l r
    | false => match Nat.beq (i % 2) 1 with
      | true => .node m (MT.add f l (i / 2)) r
      | false => .node m l (MT.add f r (i / 2 - 1))
def newT : List Addr → MT → List Addr → MT × List Addr
  | [], t, out => (t, out)
  | a :: r, t, out => match t.get a with
    | true => newT r t out
    | false => newT r (MT.add 40 t a) (a :: out)
def goU (g : Addr → Option Obj) : Nat → List Addr → MT → List Addr
  | 0, _, _ => []
  | n + 1, fr, t => match newT (fr.flatMap fun a => match g a with
      | some o => refsD o
      | none => []) t [] with
    | (t', out) => out ++ goU g n out t'
def asU (g : Addr → Option Obj) (n : Nat) : List Addr := mainGlobals :: goU g n [mainGlobals] (MT.add 40 .nil mainGlobals) ++ [cStatics]
def obsU (n : Nat) (fa : List Fa) (ex : List (Frag → Bool)) (its : List It) (s : Shared) : AlZ := match HandSHeadRun.treeOf s with
  | some t => HandSHeadRun.frS t fun t => obsZ fa ex its (frG (HandSHeadRun.getT t) (asU (HandSHeadRun.getT t) n))
  | none => (false, [])
theorem obsU_eq {n : Nat} {fa : List Fa} {ex : List (Frag → Bool)} {its : List It} {s : Shared} (h : obsU n fa ex its s = valZ its) : SaysZ fa ex its (frG s.heap.get? (asU s.heap.get? n)) := by
  unfold obsU at h
  cases e : HandSHeadRun.treeOf s with
  | none =>
    rw [e] at h
    have h1 : false = true := congrArg (fun z : AlZ => z.1) h
    cases h1
  | some t =>
    rw [e] at h
    have h1 : (HandSHeadRun.frS t fun t => obsZ fa ex its (frG (HandSHeadRun.getT t) (asU (HandSHeadRun.getT t) n))) = valZ its := h
    rw [HandSHeadRun.frS_eq] at h1
    have e2 : HandSHeadRun.getT t = s.heap.get? := funext fun a => by rw [HandSHeadRun.getT_eq, (HandSHeadRun.treeOf_eq e).1]
    rw [e2] at h1
    exact h1
def hookU (n : Nat) (fa : List Fa) (ex : List (Frag → Bool)) (its : List It) : PySem.W.Hook where
  α := AlZ
  obs := obsU n fa ex its
  val := fun _ => valZ its
  says := fun _ h => ∃ K : Frag, K.In h ∧ SaysZ fa ex its K
  of := fun _ _ e => ⟨_, frG_in, obsU_eq e⟩
  keeps := fun _ _ _ ⟨K, hK, c⟩ k => ⟨K, Frag.In.keeps hK k, c⟩
end Hk
namespace Hd
open PySem PySem.Spec PyProof.Rows L2 He Hk
def top (i : Nat) : Stmt := PySem.Challenge.pw_renamedhorn_k26_chains_judged.main.body.getD i (.Pass ⟨0, 0, 0, 0⟩)
abbrev s_is_name : Stmt := top 13
def d_is_name : DefX := ⟨fun K => ga K "is_name", "is_name", "is_name", defArgs s_is_name, defBody s_is_name, defScope s_is_name, [], []⟩
abbrev s_is_literal : Stmt := top 14
def d_is_literal : DefX := ⟨fun K => ga K "is_literal", "is_literal", "is_literal", defArgs s_is_literal, defBody s_is_literal, defScope s_is_literal, [], []⟩
abbrev s_name_of : Stmt := top 15
def d_name_of : DefX := ⟨fun K => ga K "name_of", "name_of", "name_of", defArgs s_name_of, defBody s_name_of, defScope s_name_of, [], []⟩
abbrev s_negated : Stmt := top 16
def d_negated : DefX := ⟨fun K => ga K "negated", "negated", "negated", defArgs s_negated, defBody s_negated, defScope s_negated, [], []⟩
abbrev s_ordered_names : Stmt := top 17
def d_ordered_names : DefX := ⟨fun K => ga K "ordered_names", "ordered_names", "ordered_names", defArgs s_ordered_names, defBody s_ordered_names, defScope s_ordered_names, [], []⟩
abbrev s_in_order : Stmt := top 18
def d_in_order : DefX := ⟨fun K => ga K "in_order", "in_order", "in_order", defArgs s_in_order, defBody s_in_order, defScope s_in_order, [], []⟩
abbrev s_twice_named : Stmt := top 19
def d_twice_named : DefX := ⟨fun K => ga K "twice_named", "twice_named", "twice_named", defArgs s_twice_named, defBody s_twice_named, defScope s_twice_named, [], []⟩
abbrev s_checked_facts : Stmt := top 20
def d_checked_facts : DefX := ⟨fun K => ga K "checked_facts", "checked_facts", "checked_facts", defArgs s_checked_facts, defBody s_checked_facts, defScope s_checked_facts, [], []⟩
abbrev s_names_of : Stmt := top 21
def d_names_of : DefX := ⟨fun K => ga K "names_of", "names_of", "names_of", defArgs s_names_of, defBody s_names_of, defScope s_names_of, [], []⟩
abbrev s_is_link : Stmt := top 23
def d_is_link : DefX := ⟨fun K => ga K "is_link", "is_link", "is_link", defArgs s_is_link, defBody s_is_link, defScope s_is_link, [], []⟩
abbrev s_is_chain : Stmt := top 24
def d_is_chain : DefX := ⟨fun K => ga K "is_chain", "is_chain", "is_chain", defArgs s_is_chain, defBody s_is_chain, defScope s_is_chain, [], []⟩
abbrev s_turned_literal : Stmt := top 28
def d_turned_literal : DefX := ⟨fun K => ga K "turned_literal", "turned_literal", "turned_literal", defArgs s_turned_literal, defBody s_turned_literal, defScope s_turned_literal, [], []⟩
abbrev s_turned_clause : Stmt := top 29
def d_turned_clause : DefX := ⟨fun K => ga K "turned_clause", "turned_clause", "turned_clause", defArgs s_turned_clause, defBody s_turned_clause, defScope s_turned_clause, [], []⟩
abbrev s_names_in : Stmt := top 34
def d_names_in : DefX := ⟨fun K => ga K "names_in", "names_in", "names_in", defArgs s_names_in, defBody s_names_in, defScope s_names_in, [], []⟩
abbrev s_check_sizes : Stmt := top 35
def d_check_sizes : DefX := ⟨fun K => ga K "check_sizes", "check_sizes", "check_sizes", defArgs s_check_sizes, defBody s_check_sizes, defScope s_check_sizes, [], []⟩
abbrev s_law_source : Stmt := top 38
def d_law_source : DefX := ⟨fun K => ga K "_law_source", "_law_source", "_law_source", defArgs s_law_source, defBody s_law_source, defScope s_law_source, [], []⟩
abbrev s_law_take : Stmt := top 39
def d_law_take : DefX := ⟨fun K => ga K "_law_take", "_law_take", "_law_take", defArgs s_law_take, defBody s_law_take, defScope s_law_take, [], []⟩
abbrev s_law_word : Stmt := top 40
def d_law_word : DefX := ⟨fun K => ga K "_law_word", "_law_word", "_law_word", defArgs s_law_word, defBody s_law_word, defScope s_law_word, [], []⟩
abbrev s_law_names : Stmt := top 41
def d_law_names : DefX := ⟨fun K => ga K "_law_names", "_law_names", "_law_names", defArgs s_law_names, defBody s_law_names, defScope s_law_names, [], []⟩
abbrev s_law_flip : Stmt := top 42
def d_law_flip : DefX := ⟨fun K => ga K "_law_flip", "_law_flip", "_law_flip", defArgs s_law_flip, defBody s_law_flip, defScope s_law_flip, [], []⟩
abbrev s_law_name : Stmt := top 43
def d_law_name : DefX := ⟨fun K => ga K "_law_name", "_law_name", "_law_name", defArgs s_law_name, defBody s_law_name, defScope s_law_name, [], []⟩
abbrev s_law_sorted : Stmt := top 44
def d_law_sorted : DefX := ⟨fun K => ga K "_law_sorted", "_law_sorted", "_law_sorted", defArgs s_law_sorted, defBody s_law_sorted, defScope s_law_sorted, [], []⟩
abbrev s_law_ordered : Stmt := top 45
def d_law_ordered : DefX := ⟨fun K => ga K "_law_ordered", "_law_ordered", "_law_ordered", defArgs s_law_ordered, defBody s_law_ordered, defScope s_law_ordered, [], []⟩
abbrev s_law_same : Stmt := top 46
def d_law_same : DefX := ⟨fun K => ga K "_law_same", "_law_same", "_law_same", defArgs s_law_same, defBody s_law_same, defScope s_law_same, [], []⟩
abbrev s_law_row : Stmt := top 47
def d_law_row : DefX := ⟨fun K => ga K "_law_row", "_law_row", "_law_row", defArgs s_law_row, defBody s_law_row, defScope s_law_row, [], []⟩
abbrev s_law_clause : Stmt := top 48
def d_law_clause : DefX := ⟨fun K => ga K "_law_clause", "_law_clause", "_law_clause", defArgs s_law_clause, defBody s_law_clause, defScope s_law_clause, [], []⟩
abbrev s_law_numbers : Stmt := top 49
def d_law_numbers : DefX := ⟨fun K => ga K "_law_numbers", "_law_numbers", "_law_numbers", defArgs s_law_numbers, defBody s_law_numbers, defScope s_law_numbers, [], []⟩
abbrev s_law_book : Stmt := top 50
def d_law_book : DefX := ⟨fun K => ga K "_law_book", "_law_book", "_law_book", defArgs s_law_book, defBody s_law_book, defScope s_law_book, [], []⟩
abbrev s_law_is_link : Stmt := top 51
def d_law_is_link : DefX := ⟨fun K => ga K "_law_is_link", "_law_is_link", "_law_is_link", defArgs s_law_is_link, defBody s_law_is_link, defScope s_law_is_link, [], []⟩
abbrev s_law_is_chain : Stmt := top 52
def d_law_is_chain : DefX := ⟨fun K => ga K "_law_is_chain", "_law_is_chain", "_law_is_chain", defArgs s_law_is_chain, defBody s_law_is_chain, defScope s_law_is_chain, [], []⟩
abbrev s_law_needs : Stmt := top 53
def d_law_needs : DefX := ⟨fun K => ga K "_law_needs", "_law_needs", "_law_needs", defArgs s_law_needs, defBody s_law_needs, defScope s_law_needs, [], []⟩
abbrev s_law_line : Stmt := top 54
def d_law_line : DefX := ⟨fun K => ga K "_law_line", "_law_line", "_law_line", defArgs s_law_line, defBody s_law_line, defScope s_law_line, [], []⟩
abbrev s_law_bad : Stmt := top 55
def d_law_bad : DefX := ⟨fun K => ga K "_law_bad", "_law_bad", "_law_bad", defArgs s_law_bad, defBody s_law_bad, defScope s_law_bad, [], []⟩
abbrev s_law_start : Stmt := top 56
def d_law_start : DefX := ⟨fun K => ga K "_law_start", "_law_start", "_law_start", defArgs s_law_start, defBody s_law_start, defScope s_law_start, [], []⟩
abbrev s_law_walk : Stmt := top 57
def d_law_walk : DefX := ⟨fun K => ga K "_law_walk", "_law_walk", "_law_walk", defArgs s_law_walk, defBody s_law_walk, defScope s_law_walk, [], []⟩
abbrev s_law_mirror : Stmt := top 58
def d_law_mirror : DefX := ⟨fun K => ga K "_law_mirror", "_law_mirror", "_law_mirror", defArgs s_law_mirror, defBody s_law_mirror, defScope s_law_mirror, [], []⟩
abbrev s_law_put_at : Stmt := top 59
def d_law_put_at : DefX := ⟨fun K => ga K "_law_put_at", "_law_put_at", "_law_put_at", defArgs s_law_put_at, defBody s_law_put_at, defScope s_law_put_at, [], []⟩
abbrev s_law_spoilt : Stmt := top 60
def d_law_spoilt : DefX := ⟨fun K => ga K "_law_spoilt", "_law_spoilt", "_law_spoilt", defArgs s_law_spoilt, defBody s_law_spoilt, defScope s_law_spoilt, [], []⟩
abbrev s_law_judged : Stmt := top 61
def d_law_judged : DefX := ⟨fun K => ga K "_law_judged", "_law_judged", "_law_judged", defArgs s_law_judged, defBody s_law_judged, defScope s_law_judged, [], []⟩
abbrev s_law_both : Stmt := top 62
def d_law_both : DefX := ⟨fun K => ga K "_law_both", "_law_both", "_law_both", defArgs s_law_both, defBody s_law_both, defScope s_law_both, [], []⟩
abbrev s_law_single_links : Stmt := top 63
def d_law_single_links : DefX := ⟨fun K => ga K "_law_single_links", "_law_single_links", "_law_single_links", defArgs s_law_single_links, defBody s_law_single_links, defScope s_law_single_links, [], []⟩
abbrev s_law_refused : Stmt := top 64
def d_law_refused : DefX := ⟨fun K => ga K "_law_refused", "_law_refused", "_law_refused", defArgs s_law_refused, defBody s_law_refused, defScope s_law_refused, [], []⟩
abbrev s_law_refusals : Stmt := top 65
def d_law_refusals : DefX := ⟨fun K => ga K "_law_refusals", "_law_refusals", "_law_refusals", defArgs s_law_refusals, defBody s_law_refusals, defScope s_law_refusals, [], []⟩
abbrev s_law : Stmt := top 66
def d_law : DefX := ⟨fun K => ga K "law", "law", "law", defArgs s_law, defBody s_law, defScope s_law, [], []⟩
abbrev s_Clause_init : Stmt := inClass (top 26) 1
def d_Clause_init : DefX := ⟨fun K => (ma K (ga K "Clause") "__init__"), "__init__", "Clause.__init__", defArgs s_Clause_init, defBody s_Clause_init, defScope s_Clause_init, [], []⟩
abbrev s_Clause_iter : Stmt := inClass (top 26) 4
def d_Clause_iter : DefX := ⟨fun K => (ma K (ga K "Clause") "__iter__"), "__iter__", "Clause.__iter__", defArgs s_Clause_iter, defBody s_Clause_iter, defScope s_Clause_iter, [], []⟩
abbrev s_Clause_len : Stmt := inClass (top 26) 5
def d_Clause_len : DefX := ⟨fun K => (ma K (ga K "Clause") "__len__"), "__len__", "Clause.__len__", defArgs s_Clause_len, defBody s_Clause_len, defScope s_Clause_len, [], []⟩
abbrev s_Turning_call : Stmt := inClass (top 32) 6
def d_Turning_call : DefX := ⟨fun K => (ma K (ga K "Turning") "__call__"), "__call__", "Turning.__call__", defArgs s_Turning_call, defBody s_Turning_call, defScope s_Turning_call, [], []⟩
abbrev s_Turning_iter : Stmt := inClass (top 32) 7
def d_Turning_iter : DefX := ⟨fun K => (ma K (ga K "Turning") "__iter__"), "__iter__", "Turning.__iter__", defArgs s_Turning_iter, defBody s_Turning_iter, defScope s_Turning_iter, [], []⟩
abbrev s_Turning_len : Stmt := inClass (top 32) 8
def d_Turning_len : DefX := ⟨fun K => (ma K (ga K "Turning") "__len__"), "__len__", "Turning.__len__", defArgs s_Turning_len, defBody s_Turning_len, defScope s_Turning_len, [], []⟩
abbrev s_Book_init : Stmt := inClass (top 36) 3
def d_Book_init : DefX := ⟨fun K => (ma K (ga K "Book") "__init__"), "__init__", "Book.__init__", defArgs s_Book_init, defBody s_Book_init, defScope s_Book_init, [], [("numbers", .non), ("greatest", .int 0)]⟩
abbrev s_Book_numbered : Stmt := inClass (top 36) 4
def d_Book_numbered : DefX := ⟨fun K => (He5.wf K (ga K "Book") "classmethod" "numbered"), "numbered", "Book.numbered", defArgs s_Book_numbered, defBody s_Book_numbered, defScope s_Book_numbered, [], []⟩
abbrev s_Book_need_room : Stmt := inClass (top 36) 7
def d_Book_need_room : DefX := ⟨fun K => (ma K (ga K "Book") "need_room"), "need_room", "Book.need_room", defArgs s_Book_need_room, defBody s_Book_need_room, defScope s_Book_need_room, [], []⟩
abbrev s_Book_drop : Stmt := inClass (top 36) 9
def d_Book_drop : DefX := ⟨fun K => (ma K (ga K "Book") "drop"), "drop", "Book.drop", defArgs s_Book_drop, defBody s_Book_drop, defScope s_Book_drop, [], []⟩
abbrev s_Book_iter : Stmt := inClass (top 36) 11
def d_Book_iter : DefX := ⟨fun K => (ma K (ga K "Book") "__iter__"), "__iter__", "Book.__iter__", defArgs s_Book_iter, defBody s_Book_iter, defScope s_Book_iter, [], []⟩
abbrev s_Book_len : Stmt := inClass (top 36) 12
def d_Book_len : DefX := ⟨fun K => (ma K (ga K "Book") "__len__"), "__len__", "Book.__len__", defArgs s_Book_len, defBody s_Book_len, defScope s_Book_len, [], []⟩
abbrev s_BadName_init : Stmt := inClass (top 3) 0
def d_BadName : ErrD := ⟨"BadName", ["text"], "BadName.__init__", defArgs s_BadName_init, defBody s_BadName_init, defScope s_BadName_init⟩
abbrev s_BadLiteral_init : Stmt := inClass (top 4) 0
def d_BadLiteral : ErrD := ⟨"BadLiteral", ["text"], "BadLiteral.__init__", defArgs s_BadLiteral_init, defBody s_BadLiteral_init, defScope s_BadLiteral_init⟩
abbrev s_BothSigns_init : Stmt := inClass (top 5) 0
def d_BothSigns : ErrD := ⟨"BothSigns", ["name"], "BothSigns.__init__", defArgs s_BothSigns_init, defBody s_BothSigns_init, defScope s_BothSigns_init⟩
abbrev s_TooMany_init : Stmt := inClass (top 6) 0
def d_TooMany : ErrD := ⟨"TooMany", ["limit"], "TooMany.__init__", defArgs s_TooMany_init, defBody s_TooMany_init, defScope s_TooMany_init⟩
abbrev s_NoClause_init : Stmt := inClass (top 7) 0
def d_NoClause : ErrD := ⟨"NoClause", ["number"], "NoClause.__init__", defArgs s_NoClause_init, defBody s_NoClause_init, defScope s_NoClause_init⟩
abbrev s_BadNumber_init : Stmt := inClass (top 8) 0
def d_BadNumber : ErrD := ⟨"BadNumber", ["number"], "BadNumber.__init__", defArgs s_BadNumber_init, defBody s_BadNumber_init, defScope s_BadNumber_init⟩
def its : List Hk.It := [d_is_name.it, d_is_literal.it, d_name_of.it, d_negated.it, d_ordered_names.it, d_in_order.it, d_twice_named.it, d_checked_facts.it, d_names_of.it, d_is_link.it, d_is_chain.it, d_turned_literal.it, d_turned_clause.it, d_names_in.it, d_check_sizes.it, d_law_source.it, d_law_take.it, d_law_word.it, d_law_names.it, d_law_flip.it, d_law_name.it, d_law_sorted.it, d_law_ordered.it, d_law_same.it, d_law_row.it, d_law_clause.it, d_law_numbers.it, d_law_book.it, d_law_is_link.it, d_law_is_chain.it, d_law_needs.it, d_law_line.it, d_law_bad.it, d_law_start.it, d_law_walk.it, d_law_mirror.it, d_law_put_at.it, d_law_spoilt.it, d_law_judged.it, d_law_both.it, d_law_single_links.it, d_law_refused.it, d_law_refusals.it, d_law.it, d_Clause_init.it, d_Clause_iter.it, d_Clause_len.it, d_Turning_call.it, d_Turning_iter.it, d_Turning_len.it, d_Book_init.it, d_Book_numbered.it, d_Book_need_room.it, d_Book_drop.it, d_Book_iter.it, d_Book_len.it, d_BadName.it "/claim/cut.py", d_BadLiteral.it "/claim/cut.py", d_BothSigns.it "/claim/cut.py", d_TooMany.it "/claim/cut.py", d_NoClause.it "/claim/cut.py", d_BadNumber.it "/claim/cut.py"]
def fa : List Fa := [.glo "is_name", .glo "is_literal", .glo "name_of", .glo "negated", .glo "ordered_names", .glo "in_order", .glo "twice_named", .glo "checked_facts", .glo "names_of", .glo "is_link", .glo "is_chain", .glo "turned_literal", .glo "turned_clause", .glo "names_in", .glo "check_sizes", .glo "_law_source", .glo "_law_take", .glo "_law_word", .glo "_law_names", .glo "_law_flip", .glo "_law_name", .glo "_law_sorted", .glo "_law_ordered", .glo "_law_same", .glo "_law_row", .glo "_law_clause", .glo "_law_numbers", .glo "_law_book", .glo "_law_is_link", .glo "_law_is_chain", .glo "_law_needs", .glo "_law_line", .glo "_law_bad", .glo "_law_start", .glo "_law_walk", .glo "_law_mirror", .glo "_law_put_at", .glo "_law_spoilt", .glo "_law_judged", .glo "_law_both", .glo "_law_single_links", .glo "_law_refused", .glo "_law_refusals", .glo "law", .glo "Clause", .cls "Clause", .mkr "Clause", .noat "Clause" "literals", .glo "Turning", .cls "Turning", .noat "Turning" "turned", .glo "Book", .cls "Book", .mkr "Book", .noat "Book" "greatest", .noat "Book" "rows", .glo "HornError", .glo "BadName", .glo "BadLiteral", .glo "BothSigns", .glo "TooMany", .glo "NoClause", .glo "BadNumber", .str "LETTERS" "abcdefghijklmnopqrstuvwxyz", .str "SIGNS" "abcdefghijklmnopqrstuvwxyz0123456789", .int "NAME_SIZE" 8, .free "NotImplemented", .free "ValueError", .free "all", .free "bool", .free "classmethod", .free "int", .free "isinstance", .free "iter", .free "len", .free "list", .free "property", .free "range", .free "sorted", .free "staticmethod", .free "str", .free "tuple", .free "zip", .exm "BadName" "BadLiteral" false, .exm "BadLiteral" "BadLiteral" true, .exm "BothSigns" "BadLiteral" false, .exm "TooMany" "BadLiteral" false, .exm "NoClause" "BadLiteral" false, .exm "BadNumber" "BadLiteral" false]
def ex : List (PySem.W.Frag → Bool) := [fun K => Hk.ownB K (ga K "Clause") "__iter__", fun K => Hk.ownB K (ga K "Clause") "__len__", fun K => Hk.ownB K (ga K "Turning") "__call__", fun K => Hk.ownB K (ga K "Turning") "__iter__", fun K => Hk.ownB K (ga K "Turning") "__len__", fun K => Hk.ownB K (ga K "Book") "need_room", fun K => Hk.ownB K (ga K "Book") "drop", fun K => Hk.ownB K (ga K "Book") "__iter__", fun K => Hk.ownB K (ga K "Book") "__len__", fun K => Hk.cmetB K (ga K "Book") "numbered", fun K => Hk.insKB K (ga K "Clause"), fun K => Hk.kitB K (.type "str") (.type "str") true, fun K => Hk.kitB K (.type "str") (.ref (ga K "Clause")) false, fun K => Hk.kitB K (.ref (ga K "Clause")) (.ref (ga K "Clause")) true, fun K => Hk.kitB K (.ref (ga K "Clause")) (.ref (ga K "Turning")) false, fun K => Hk.kitB K (.ref (ga K "Clause")) (.ref (ga K "Book")) false, fun K => Hk.conB K (ga K "Clause") "LIMIT" 6, fun K => Hk.cvalB K (ga K "Clause") "LIMIT" 6, fun K => Hk.insKB K (ga K "Turning"), fun K => Hk.kitB K (.type "str") (.ref (ga K "Turning")) false, fun K => Hk.kitB K (.ref (ga K "Turning")) (.ref (ga K "Clause")) false, fun K => Hk.kitB K (.ref (ga K "Turning")) (.ref (ga K "Turning")) true, fun K => Hk.kitB K (.ref (ga K "Turning")) (.ref (ga K "Book")) false, fun K => Hk.conB K (ga K "Turning") "LIMIT" 12, fun K => Hk.cvalB K (ga K "Turning") "LIMIT" 12, fun K => Hk.insKB K (ga K "Book"), fun K => Hk.kitB K (.type "str") (.ref (ga K "Book")) false, fun K => Hk.kitB K (.ref (ga K "Book")) (.ref (ga K "Clause")) false, fun K => Hk.kitB K (.ref (ga K "Book")) (.ref (ga K "Turning")) false, fun K => Hk.kitB K (.ref (ga K "Book")) (.ref (ga K "Book")) true, fun K => Hk.conB K (ga K "Book") "LIMIT" 24, fun K => Hk.cvalB K (ga K "Book") "LIMIT" 24, fun K => Hk.conB K (ga K "Book") "NAMES" 12, fun K => Hk.cvalB K (ga K "Book") "NAMES" 12, fun K => Hk.conB K (ga K "Book") "NUMBERS" 999, fun K => Hk.cvalB K (ga K "Book") "NUMBERS" 999, fun K => excCB K (ga K "BadLiteral"), fun K => Hk.kitB K (.ref (ga K "BadLiteral")) (.ref (ga K "HornError")) true, fun K => Hk.kitB K (.ref (ga K "BadLiteral")) (.ref (ga K "BadName")) false]
def loose : List PySem.Str := (["_wall", "HornError", "BadName", "BadLiteral", "BothSigns", "TooMany", "NoClause", "BadNumber", "LETTERS", "SIGNS", "NAME_SIZE", "is_name"] : List PySem.Str) ++ (["is_literal", "name_of", "negated", "ordered_names", "in_order", "twice_named", "checked_facts", "names_of", "is_link", "is_chain", "Clause", "turned_literal"] : List PySem.Str) ++ (["turned_clause", "differing", "comes_before", "Turning", "names_in", "check_sizes", "Book", "_law_source", "_law_take", "_law_word", "_law_names", "_law_flip"] : List PySem.Str) ++ (["_law_name", "_law_sorted", "_law_ordered", "_law_same", "_law_row", "_law_clause", "_law_numbers", "_law_book", "_law_is_link", "_law_is_chain", "_law_needs", "_law_line"] : List PySem.Str) ++ (["_law_bad", "_law_start", "_law_walk", "_law_mirror", "_law_put_at", "_law_spoilt", "_law_judged", "_law_both", "_law_single_links", "_law_refused", "_law_refusals"] : List PySem.Str)
abbrev hk : PySem.W.Hook := hookU 6 fa ex its
end Hd
section
open PySem PySem.Spec PyProof.Rows L2 Px
local macro_rules | `(tactic| walk_at "s") => `(tactic| first
  | with_reducible refine s_var rfl ?_
  | with_reducible (first
  | refine s_c ?_ | refine s_seq ?_ | refine s_asg ?_ | refine s_op ?_ | refine s_gname ?_ | refine s_cons ?_ | refine s_nil ?_ | refine s_cb ?_ | refine s_ifS ?_ | refine s_test ?_ | refine s_exb ?_ | refine s_ret ?_
  | refine s_eqI ?_ | refine s_addI ?_ | refine s_in0 ?_ | refine s_ltI ?_ | refine s_eqS ?_ | refine s_gsub ?_ | refine s_and ?_ | refine s_or ?_ | refine s_not ?_ | refine s_andV ?_ | refine s_orV ?_ | refine s_notV ?_ | refine s_sl ?_ | refine s_nopart ?_ | refine s_part ?_ | refine s_exi ?_
  | refine s_callS ?_ | refine s_call ?_ | refine s_drop ?_ | refine s_next ?_ | refine s_tB ?_ | refine s_lst ?_ | refine s_tup ?_ | refine s_inS ?_ | refine s_isN ?_ | refine s_yes ?_ | refine s_un ?_ | refine s_neg ?_ | refine s_ifE ?_ | refine s_retN ?_ | refine s_neS ?_ | refine s_neI ?_ | refine s_eqB ?_ | refine s_ltS ?_ | refine s_intI ?_ | refine s_rng1 ?_ | refine s_cont ?_ | refine s_break ?_ | refine s_forR ?_ | refine s_forA ?_ | refine s_lcA ?_ | refine s_lcR ?_ | refine s_bm ?_ | refine s_make ?_ | refine s_att ?_ | refine s_cls ?_ | refine s_setA ?_ | refine s_strS ?_ | refine s_opS ?_ | refine s_forO ?_ | refine s_lcO ?_ | refine s_methO ?_ | refine s_callO ?_ | refine s_exr ?_ | refine s_m1 ?_ | refine s_smeth ?_ | refine s_cmeth ?_ | refine s_makeV ?_ | refine s_clsV ?_ | refine s_listV ?_ | refine s_dget ?_ | refine s_lc2 ?_ | refine s_anyB ?_ | refine s_gsubO ?_ | refine s_attA ?_ | refine s_ddel ?_ | refine s_lstRg2 ?_ | refine s_lstRg1 ?_ | refine s_makeK ?_ | refine s_augO rfl ?_))
local macro_rules | `(tactic| walk_at "mem") => `(tactic| repeat (first | exact List.mem_cons_self | apply List.mem_cons_of_mem))
local macro_rules | `(tactic| walk_at "ss") => `(tactic| repeat walk_at "s")
local macro_rules | `(tactic| walk_at "sl") => `(tactic| repeat (first | walk_at "s" | ((with_reducible refine' s_ixL ?kA ?kB ?_); (case kA => first | assumption | exact upd_same); (case kB => rfl)) | ((with_reducible refine' s_setU ?kA ?_); (case kA => rfl)) | ((with_reducible refine' s_setL ?kA ?kB ?_); (case kA => assumption); (case kB => rfl))))
open Dx
local macro_rules | `(tactic| walk_at "d") => `(tactic| first
  | with_reducible refine w_var rfl ?_
  | with_reducible (first
  | refine w_seq ?_ | refine w_asg ?_ | refine w_gname ?_ | refine w_c ?_ | refine w_op ?_ | refine w_cons ?_ | refine w_nil ?_ | refine w_cb ?_ | refine w_ifS ?_ | refine w_test ?_ | refine w_isb ?_ | refine w_ret ?_ | refine w_next ?_ | refine w_drop ?_
  | refine w_eqI ?_ | refine w_eqS ?_ | refine w_addI ?_ | refine w_sub ?_ | refine w_ltI ?_ | refine w_gt ?_ | refine w_le ?_ | refine w_ge ?_ | refine w_neI ?_ | refine w_neS ?_ | refine w_is ?_ | refine w_inS ?_
  | refine w_and ?_ | refine w_or ?_ | refine w_not ?_ | refine w_andV ?_ | refine w_orV ?_ | refine w_notV ?_ | refine w_if ?_ | refine w_yes ?_ | refine w_neg ?_ | refine w_un ?_ | refine w_lstF ?_ | refine w_lstT ?_ | refine w_tup ?_ | refine w_sl ?_ | refine w_nopart ?_ | refine w_part ?_ | refine w_exi ?_ | refine w_intI ?_ | refine w_strS ?_
  | refine w_call ?_ | refine w_call0 ?_ | refine w_raise ?_ | refine w_att ?_ | refine w_app ?_ | refine w_rng1 ?_ | refine w_rng2 ?_ | refine w_rng3 ?_ | refine w_any ?_ | refine w_for ?_ | refine w_lc ?_ | refine w_retN ?_ | refine w_cont ?_ | refine w_break ?_ | refine w_gsub ?_ | refine w_gcons ?_ | refine w_gnil ?_ | refine w_gtup rfl ?_
  | refine w_opS ?_ | refine w_methE ?_ | refine w_aug rfl ?_ | refine w_newF ?_ | refine w_newT ?_ | refine w_gsubO ?_ | refine w_keys ?_ | refine w_vals ?_ | refine w_ownK ?_ | refine w_while ?_ | refine w_newK ?_ | refine w_dget ?_ | refine w_pop ?_ | refine w_index ?_ | refine w_remove ?_))
local macro_rules | `(tactic| walk_at "dd") => `(tactic| repeat walk_at "d")
namespace Rd
open PySem PySem.Spec PyProof.Rows L2 He Px
/-- the law's source of numbers: the cells, the next cell, the number at hand, how often, which way -/
def Src (H : Hp) (a : Addr) : Prop := ∃ (c : Addr) (cells : List Int) (i cur cnt mode : Int), H a = some (.lst [.ref c, .int i, .int cur, .int cnt, .int mode]) ∧ H c = some (.lst (cells.map V.int)) ∧ 0 ≤ i ∧ cells.length ≤ 100
theorem Src.keep {H H' : Hp} {a : Addr} (h : Src H a) (s : Same H H') : Src H' a := by
  obtain ⟨c, cells, i, cur, cnt, mode, h1, h2, h3, h4⟩ := h
  exact ⟨c, cells, i, cur, cnt, mode, s _ _ h1, s _ _ h2, h3, h4⟩
theorem Src.but {H H' : Hp} {a b : Addr} {o : HO} (h : Src H a) (s : But b H H') (hb : H b = some o) (hn : ∀ xs, o ≠ .lst xs) : Src H' a := by
  obtain ⟨c, cells, i, cur, cnt, mode, h1, h2, h3, h4⟩ := h
  exact ⟨c, cells, i, cur, cnt, mode, s _ _ h1 (ne_of h1 hb fun e => hn _ e.symm), s _ _ h2 (ne_of h2 hb fun e => hn _ e.symm), h3, h4⟩
theorem atI_cells {cells : List Int} {i : Int} (h0 : 0 ≤ i) (h1 : ¬ ((cells.map V.int).length : Int) ≤ i) : ∃ z : Int, atI (cells.map V.int) i = some (.int z) := by
  rw [List.length_map] at h1
  have hl : i.toNat < cells.length := by omega
  refine ⟨cells[i.toNat], ?_⟩
  unfold atI ixN
  rw [if_pos h0, if_pos (by rw [List.length_map]; omega)]
  simp [hl]
theorem lg {m : Int} (h0 : 0 < m) (h1 : m ≤ 1000000000000000) : m.natAbs.log2 < 9000 := by
  have : m.natAbs ≠ 0 := by omega
  refine (Nat.log2_lt this).mpr (Nat.lt_of_lt_of_le (m := 2 ^ 60) (by omega) (Nat.pow_le_pow_right (by decide) (by decide)))
/-- the source at a went on; all else stands -/
structure Mov (a : Addr) (H H' : Hp) : Prop where
  but : But a H H'
  cell : ∀ c xs, H a = some (.lst (.ref c :: xs)) → ∃ ys, H' a = some (.lst (.ref c :: ys))
instance {a : Addr} {H H' : Hp} : CoeFun (Mov a H H') (fun _ => ∀ b o, H b = some o → b ≠ a → H' b = some o) := ⟨Mov.but⟩
theorem Mov.refl (a : Addr) (H : Hp) : Mov a H H := ⟨But.refl a H, fun _ xs h => ⟨xs, h⟩⟩
theorem Mov.trans {a : Addr} {H H1 H2 : Hp} (h1 : Mov a H H1) (h2 : Mov a H1 H2) : Mov a H H2 := ⟨h1.but.trans h2.but, fun c xs h => by
  obtain ⟨ys, h⟩ := h1.cell c xs h
  exact h2.cell c ys h⟩
theorem Mov.of_same {a : Addr} {H H1 : Hp} (h : Same H H1) : Mov a H H1 := ⟨But.of_same h, fun _ xs e => ⟨xs, h _ _ e⟩⟩
theorem Mov.of {a c : Addr} {H H1 : Hp} {xs ys : List V} (h : But a H H1) (h0 : H a = some (.lst (.ref c :: xs))) (h1 : H1 a = some (.lst (.ref c :: ys))) : Mov a H H1 := ⟨h, fun d zs e => by
  rw [h0] at e
  have e := Option.some.inj e
  injection e with e
  injection e with e _
  injection e with e
  subst e
  exact ⟨ys, h1⟩⟩
theorem Mov.un {a : Addr} {H H' : Hp} {p : Addr} (b : Mov a H H') (hn : p ≠ a) (h : H' p = none) : H p = none := by
  cases e : H p with
  | none => rfl
  | some o => rw [b _ _ e hn] at h; cases h
theorem Src.ne {H : Hp} {a p : Addr} (h : Src H a) (hp : H p = none) : p ≠ a := by
  obtain ⟨c, cells, i, cur, cnt, mode, h1, _⟩ := h
  exact fun e => by rw [e, h1] at hp; cases hp
/-- an object that is younger than the source changes -/
theorem Src.off {H H' : Hp} {a q : Addr} {o : HO} (h : Src H a) (hq : H q = none) (m : Mov a H H') (h' : Src H' a) : Src (L2.upd H' q o) a := by
  have hqa := h.ne hq
  obtain ⟨c, cells, i, cur, cnt, mode, h1, h2, _⟩ := h
  obtain ⟨c', cells', i', cur', cnt', mode', k1, k2, k3, k4⟩ := h'
  obtain ⟨ys, e⟩ := m.cell c _ h1
  rw [k1] at e
  have e := Option.some.inj e
  injection e with e
  injection e with e _
  injection e with e
  subst e
  have hc : c' ≠ q := fun z => by rw [z, hq] at h2; cases h2
  exact ⟨c', cells', i', cur', cnt', mode', by rw [upd_ne hqa.symm]; exact k1, by rw [upd_ne hc]; exact k2, k3, k4⟩
theorem Mov.put {H H' : Hp} {a q : Addr} {o : HO} (hS : Src H a) (hq : H q = none) (m : Mov a H H') : Mov a H (L2.upd H' q o) := by
  have hqa := hS.ne hq
  refine ⟨fun b u e n => ?_, fun c xs e => ?_⟩
  · rw [upd_ne (ne_of_none e hq)]
    exact m _ _ e n
  · rw [upd_ne hqa.symm]
    exact m.cell c xs e
/-- texts: a minus first, the name of a literal, its negation; names, literals -/
def dash (z : Str) : Bool := decide (cutS z none (some 1) = ("-" : Str))
def bare (z : Str) : Str := if dash z = true then cutS z (some 1) none else z
def flip (z : Str) : Str := if dash z = true then cutS z (some 1) none else ("-" : Str) ++ z
def lettersL : List Nat := ("abcdefghijklmnopqrstuvwxyz" : Str).cps.toList
def signsL : List Nat := ("abcdefghijklmnopqrstuvwxyz0123456789" : Str).cps.toList
def digitsL : List Nat := ("0123456789" : Str).cps.toList
def isNm (z : Str) : Bool := !decide (((z.length : Int) < 1)) && (!decide ((8 : Int) < (z.length : Int)) && ((match z.cps.toList with | c :: _ => decide (c ∈ lettersL) | [] => false) && z.cps.toList.all fun c => decide (c ∈ signsL)))
def isLit (z : Str) : Bool := isNm (bare z)
theorem cutS_len (z : Str) (lo hi : Option Int) : (cutS z lo hi).length ≤ z.length := by
  unfold cutS Str.length
  simp only [List.size_toArray, List.length_take, List.length_drop, Array.length_toList]
  omega
theorem bare_len (z : Str) : (bare z).length ≤ z.length := by
  unfold bare
  split
  · exact cutS_len _ _ _
  · exact Nat.le_refl _
theorem len_toList (z : Str) : z.cps.toList.length = z.length := by simp [Str.length]
theorem app_len (a b : Str) : (a ++ b).length = a.length + b.length := by
  show (a.cps ++ b.cps).size = a.cps.size + b.cps.size
  simp
theorem at0 {z : Str} (h : ¬ ((z.length : Int) < 1)) : ∃ c r, z.cps.toList = c :: r ∧ atI z.cps.toList 0 = some c := by
  have hl := len_toList z
  cases e : z.cps.toList with
  | nil => rw [e] at hl; simp at hl; omega
  | cons c r =>
    refine ⟨c, r, rfl, ?_⟩
    unfold atI ixN
    rw [if_pos (by decide), if_pos (by simp)]
    rfl
theorem at_ex {l : List Nat} {r : Int} (h0 : 0 ≤ r) (h1 : r < (l.length : Int)) : ∃ c, c ∈ l ∧ atI l r = some c := by
  have hl : r.toNat < l.length := by omega
  refine ⟨l[r.toNat], List.getElem_mem hl, ?_⟩
  unfold atI ixN
  rw [if_pos h0, if_pos h1]
  simp [hl]
theorem app_toList (a b : Str) : (a ++ b).cps.toList = a.cps.toList ++ b.cps.toList := by
  show (a.cps ++ b.cps).toList = _
  simp
/-- a letter, then letters and digits -/
def Wrd (z : Str) : Prop := ∃ c r, z.cps.toList = c :: r ∧ c ∈ lettersL ∧ ∀ x ∈ r, x ∈ signsL
theorem letters_signs {c : Nat} (h : c ∈ lettersL) : c ∈ signsL := by
  have e : signsL = lettersL ++ digitsL := by decide +kernel
  rw [e]
  exact List.mem_append_left _ h
theorem Wrd.nm {z : Str} (h : Wrd z) (hl : z.length ≤ 8) : isNm z = true := by
  obtain ⟨c, r, e, h1, h2⟩ := h
  have hn := len_toList z
  rw [e] at hn
  unfold isNm
  rw [decide_eq_false (by simp at hn; omega), decide_eq_false (by omega), e]
  show (true && (true && (decide (c ∈ lettersL) && (c :: r).all fun c => decide (c ∈ signsL)))) = true
  rw [decide_eq_true h1]
  simp only [Bool.true_and, List.all_eq_true, decide_eq_true_eq]
  intro x hx
  rcases List.mem_cons.mp hx with rfl | hx
  · exact letters_signs h1
  · exact h2 x hx
theorem Wrd.add {z : Str} {c : Nat} (h : Wrd z) (hc : c ∈ signsL) : Wrd (z ++ ⟨#[c]⟩) := by
  obtain ⟨d, r, e, h1, h2⟩ := h
  refine ⟨d, r ++ [c], ?_, h1, fun x hx => ?_⟩
  · rw [app_toList, e]
    rfl
  · rcases List.mem_append.mp hx with hx | hx
    · exact h2 x hx
    · have : x = c := by simpa using hx
      rw [this]; exact hc
theorem Wrd.one {c : Nat} (h : c ∈ lettersL) : Wrd ⟨#[c]⟩ := ⟨c, [], rfl, h, fun _ hx => nomatch hx⟩
def signs2L : List Nat := ("0123456789abcdefghijklmnopqrstuvwxyz" : Str).cps.toList
theorem signs2_in {c : Nat} (h : c ∈ signs2L) : c ∈ signsL := by
  have e : signs2L = digitsL ++ lettersL := by decide +kernel
  rw [e] at h
  have e2 : signsL = lettersL ++ digitsL := by decide +kernel
  rw [e2]
  rcases List.mem_append.mp h with h | h
  · exact List.mem_append_right _ h
  · exact List.mem_append_left _ h
theorem fmod_b (z m : Int) (hm : 0 < m) : 0 ≤ z.fmod m ∧ z.fmod m < m := ⟨Int.fmod_nonneg_of_pos z hm, Int.fmod_lt_of_pos z hm⟩
theorem cut_tail (z : Str) : (cutS z (some 1) none).cps.toList = z.cps.toList.drop 1 := by
  unfold cutS
  have e : HT.sIx z.length 0 (some 1) = min 1 z.length := HT.sIx_nat z.length 0 1
  rw [e, HT.sIx_none]
  have hl := len_toList z
  show List.take (z.length - min 1 z.length) (List.drop (min 1 z.length) z.cps.toList) = _
  cases hz : z.cps.toList with
  | nil => simp
  | cons c r =>
    rw [hz] at hl
    have : min 1 z.length = 1 := by rw [← hl]; simp
    rw [this, List.take_of_length_le (by simp at hl ⊢; omega)]
theorem cut_head (z : Str) : (cutS z none (some 1)).cps.toList = z.cps.toList.take 1 := by
  unfold cutS
  have e : HT.sIx z.length z.length (some 1) = min 1 z.length := HT.sIx_nat z.length z.length 1
  rw [e, HT.sIx_none]
  show List.take (min 1 z.length - 0) (List.drop 0 z.cps.toList) = _
  have hl := len_toList z
  cases hz : z.cps.toList with
  | nil => simp
  | cons c r =>
    rw [hz] at hl
    have : min 1 z.length = 1 := by rw [← hl]; simp
    rw [this]
    rfl
theorem str_ext {a b : Str} (h : a.cps.toList = b.cps.toList) : a = b := by
  obtain ⟨x⟩ := a
  obtain ⟨y⟩ := b
  have : x = y := by
    obtain ⟨l⟩ := x
    obtain ⟨m⟩ := y
    simp at h
    rw [h]
  rw [this]
theorem dash_iff (z : Str) : dash z = true ↔ ∃ r, z.cps.toList = 45 :: r := by
  have h45 : ("-" : Str).cps.toList = [45] := by decide +kernel
  unfold dash
  rw [decide_eq_true_iff]
  constructor
  · intro h
    have e := cut_head z
    rw [h, h45] at e
    cases hz : z.cps.toList with
    | nil => rw [hz] at e; cases e
    | cons c r =>
      rw [hz] at e
      have : c = 45 := by simpa using e.symm
      exact ⟨r, by rw [this]⟩
  · rintro ⟨r, h⟩
    apply str_ext
    rw [cut_head, h, h45]
    rfl
theorem bare_self (z : Str) : (!dash z) = decide (bare z = z) := by
  unfold bare
  cases hd : dash z with
  | false => simp
  | true =>
    rw [if_pos rfl]
    obtain ⟨r, h⟩ := (dash_iff z).mp hd
    have : cutS z (some 1) none ≠ z := by
      intro e
      have e2 := congrArg (fun s : Str => s.cps.toList.length) e
      simp only [cut_tail, h] at e2
      simp at e2
    rw [decide_eq_false this]
    rfl
/-! data as a whole -/
mutual
inductive Is (H : Hp) : V → PyData → Prop
  | non : Is H .non .none
  | bl (b : Bool) : Is H (.bl b) (.bool b)
  | int (i : Int) : Is H (.int i) (.int i)
  | str (x : Str) : Is H (.str x) (.str x)
  | lst {a : Addr} {xs : List V} {ds : List PyData} : H a = some (.lst xs) → IsAll H xs ds → Is H (.ref a) (.list ds)
  | tup {a : Addr} {xs : List V} {ds : List PyData} : H a = some (.tup xs) → IsAll H xs ds → Is H (.ref a) (.tuple ds)
inductive IsAll (H : Hp) : List V → List PyData → Prop
  | nil : IsAll H [] []
  | cons {v : V} {vs : List V} {d : PyData} {ds : List PyData} : Is H v d → IsAll H vs ds → IsAll H (v :: vs) (d :: ds)
end
mutual
theorem Is.keep {H H' : Hp} (s : Same H H') : ∀ {v : V} {d : PyData}, Is H v d → Is H' v d
  | _, _, .non => .non
  | _, _, .bl b => .bl b
  | _, _, .int i => .int i
  | _, _, .str x => .str x
  | _, _, .lst h r => .lst (s _ _ h) (IsAll.keep s r)
  | _, _, .tup h r => .tup (s _ _ h) (IsAll.keep s r)
theorem IsAll.keep {H H' : Hp} (s : Same H H') : ∀ {vs : List V} {ds : List PyData}, IsAll H vs ds → IsAll H' vs ds
  | _, _, .nil => .nil
  | _, _, .cons h r => .cons (Is.keep s h) (IsAll.keep s r)
end
theorem IsAll.len {H : Hp} : ∀ {vs : List V} {ds : List PyData}, IsAll H vs ds → vs.length = ds.length
  | _, _, .nil => rfl
  | _, _, .cons _ r => congrArg (· + 1) r.len
theorem IsAll.at {H : Hp} : ∀ {vs : List V} {ds : List PyData} {i : Nat}, IsAll H vs ds → i < ds.length → ∃ v d, vs[i]? = some v ∧ ds[i]? = some d ∧ Is H v d
  | _, _, i, .nil, h => absurd h (by simp)
  | v :: vs, d :: ds, 0, .cons h _, _ => ⟨v, d, rfl, rfl, h⟩
  | v :: vs, d :: ds, i + 1, .cons _ r, h => by
    obtain ⟨v', d', h1, h2, h3⟩ := r.at (i := i) (by simpa using h)
    exact ⟨v', d', by simpa using h1, by simpa using h2, h3⟩
theorem IsAll.strs {H : Hp} : ∀ l : List Str, IsAll H (l.map V.str) (l.map PyData.str)
  | [] => .nil
  | x :: r => .cons (.str x) (IsAll.strs r)
theorem IsAll.ints {H : Hp} : ∀ l : List Int, IsAll H (l.map V.int) (l.map PyData.int)
  | [] => .nil
  | x :: r => .cons (.int x) (IsAll.ints r)
/-- depth at most n, no list longer than a million -/
def Fits : Nat → PyData → Prop
  | _, .none => True
  | _, .bool _ => True
  | _, .int _ => True
  | _, .str _ => True
  | 0, .list _ => False
  | 0, .tuple _ => False
  | n + 1, .list ds => ds.length ≤ 1000000 ∧ ∀ d ∈ ds, Fits n d
  | n + 1, .tuple ds => ds.length ≤ 1000000 ∧ ∀ d ∈ ds, Fits n d
  | _, .dict _ => False
noncomputable def sameB (d e : PyData) : Bool := @decide (d = e) (Classical.propDecidable _)
theorem sameB_eq {d e : PyData} (h : d = e) : sameB d e = true := by unfold sameB; simp [h]
theorem sameB_ne {d e : PyData} (h : d ≠ e) : sameB d e = false := by unfold sameB; simp [h]
theorem sameB_bool (a b : Bool) : sameB (.bool a) (.bool b) = decide (a = b) := by
  by_cases h : a = b
  · rw [sameB_eq (by rw [h]), decide_eq_true h]
  · rw [sameB_ne (by simpa using h), decide_eq_false h]
theorem sameB_int (a b : Int) : sameB (.int a) (.int b) = decide (a = b) := by
  by_cases h : a = b
  · rw [sameB_eq (by rw [h]), decide_eq_true h]
  · rw [sameB_ne (by simpa using h), decide_eq_false h]
theorem sameB_str (a b : Str) : sameB (.str a) (.str b) = decide (a = b) := by
  by_cases h : a = b
  · rw [sameB_eq (by rw [h]), decide_eq_true h]
  · rw [sameB_ne (by simpa using h), decide_eq_false h]
theorem same_all : ∀ {xs ys : List PyData}, xs.length = ys.length → ((List.range xs.length).all fun i => sameB (xs.getD i .none) (ys.getD i .none)) = @decide (xs = ys) (Classical.propDecidable _) := by
  intro xs ys hl
  by_cases h : xs = ys
  · subst h
    simp only [decide_true, List.all_eq_true, List.mem_range]
    exact fun i _ => sameB_eq rfl
  · rw [show @decide (xs = ys) (Classical.propDecidable _) = false by simp [h]]
    rw [Bool.eq_false_iff]
    intro ha
    apply h
    simp only [List.all_eq_true, List.mem_range] at ha
    refine List.ext_getElem hl fun i h1 h2 => ?_
    have := ha i h1
    by_cases hi : xs.getD i .none = ys.getD i .none
    · simpa [List.getD, h1, h2] using hi
    · rw [sameB_ne hi] at this
      cases this
/-- isinstance of data -/
def isBoolD : PyData → Bool
  | .none => false
  | .bool _ => true
  | .int _ => false
  | .str _ => false
  | .list _ => false
  | .tuple _ => false
  | .dict _ => false
theorem isi_bool {K : PySem.W.Frag} {H : Hp} {Q : VK} {x : V} {d : PyData} (h : Is H x d) (q : Q (.bl (isBoolD d)) H) : rIsi K [x, .ty "bool"] H Q := by
  cases h with
  | non => exact ⟨_, .ty "bool", _, _, false, rfl, .ty _, .base (.non), kit_ty (show kitB "NoneType" "bool" = some false by decide +kernel), q⟩
  | bl b => exact ⟨_, .ty "bool", _, _, true, rfl, .ty _, .base (.bl b), kit_ty (show kitB "bool" "bool" = some true by decide +kernel), q⟩
  | int i => exact ⟨_, .ty "bool", _, _, false, rfl, .ty _, .base (.int i), kit_ty (show kitB "int" "bool" = some false by decide +kernel), q⟩
  | str z => exact ⟨_, .ty "bool", _, _, false, rfl, .ty _, .base (.str z), kit_ty (show kitB "str" "bool" = some false by decide +kernel), q⟩
  | lst e r => exact ⟨_, .ty "bool", _, _, false, rfl, .ty _, .base (.lst e), kit_ty (show kitB "list" "bool" = some false by decide +kernel), q⟩
  | tup e r => exact ⟨_, .ty "bool", _, _, false, rfl, .ty _, .base (.tup e), kit_ty (show kitB "tuple" "bool" = some false by decide +kernel), q⟩
def isIntD : PyData → Bool
  | .none => false
  | .bool _ => true
  | .int _ => true
  | .str _ => false
  | .list _ => false
  | .tuple _ => false
  | .dict _ => false
theorem isi_int {K : PySem.W.Frag} {H : Hp} {Q : VK} {x : V} {d : PyData} (h : Is H x d) (q : Q (.bl (isIntD d)) H) : rIsi K [x, .ty "int"] H Q := by
  cases h with
  | non => exact ⟨_, .ty "int", _, _, false, rfl, .ty _, .base (.non), kit_ty (show kitB "NoneType" "int" = some false by decide +kernel), q⟩
  | bl b => exact ⟨_, .ty "int", _, _, true, rfl, .ty _, .base (.bl b), kit_ty (show kitB "bool" "int" = some true by decide +kernel), q⟩
  | int i => exact ⟨_, .ty "int", _, _, true, rfl, .ty _, .base (.int i), kit_ty (show kitB "int" "int" = some true by decide +kernel), q⟩
  | str z => exact ⟨_, .ty "int", _, _, false, rfl, .ty _, .base (.str z), kit_ty (show kitB "str" "int" = some false by decide +kernel), q⟩
  | lst e r => exact ⟨_, .ty "int", _, _, false, rfl, .ty _, .base (.lst e), kit_ty (show kitB "list" "int" = some false by decide +kernel), q⟩
  | tup e r => exact ⟨_, .ty "int", _, _, false, rfl, .ty _, .base (.tup e), kit_ty (show kitB "tuple" "int" = some false by decide +kernel), q⟩
def isStrD : PyData → Bool
  | .none => false
  | .bool _ => false
  | .int _ => false
  | .str _ => true
  | .list _ => false
  | .tuple _ => false
  | .dict _ => false
theorem isi_str {K : PySem.W.Frag} {H : Hp} {Q : VK} {x : V} {d : PyData} (h : Is H x d) (q : Q (.bl (isStrD d)) H) : rIsi K [x, .ty "str"] H Q := by
  cases h with
  | non => exact ⟨_, .ty "str", _, _, false, rfl, .ty _, .base (.non), kit_ty (show kitB "NoneType" "str" = some false by decide +kernel), q⟩
  | bl b => exact ⟨_, .ty "str", _, _, false, rfl, .ty _, .base (.bl b), kit_ty (show kitB "bool" "str" = some false by decide +kernel), q⟩
  | int i => exact ⟨_, .ty "str", _, _, false, rfl, .ty _, .base (.int i), kit_ty (show kitB "int" "str" = some false by decide +kernel), q⟩
  | str z => exact ⟨_, .ty "str", _, _, true, rfl, .ty _, .base (.str z), kit_ty (show kitB "str" "str" = some true by decide +kernel), q⟩
  | lst e r => exact ⟨_, .ty "str", _, _, false, rfl, .ty _, .base (.lst e), kit_ty (show kitB "list" "str" = some false by decide +kernel), q⟩
  | tup e r => exact ⟨_, .ty "str", _, _, false, rfl, .ty _, .base (.tup e), kit_ty (show kitB "tuple" "str" = some false by decide +kernel), q⟩
def isListD : PyData → Bool
  | .none => false
  | .bool _ => false
  | .int _ => false
  | .str _ => false
  | .list _ => true
  | .tuple _ => false
  | .dict _ => false
theorem isi_list {K : PySem.W.Frag} {H : Hp} {Q : VK} {x : V} {d : PyData} (h : Is H x d) (q : Q (.bl (isListD d)) H) : rIsi K [x, .ty "list"] H Q := by
  cases h with
  | non => exact ⟨_, .ty "list", _, _, false, rfl, .ty _, .base (.non), kit_ty (show kitB "NoneType" "list" = some false by decide +kernel), q⟩
  | bl b => exact ⟨_, .ty "list", _, _, false, rfl, .ty _, .base (.bl b), kit_ty (show kitB "bool" "list" = some false by decide +kernel), q⟩
  | int i => exact ⟨_, .ty "list", _, _, false, rfl, .ty _, .base (.int i), kit_ty (show kitB "int" "list" = some false by decide +kernel), q⟩
  | str z => exact ⟨_, .ty "list", _, _, false, rfl, .ty _, .base (.str z), kit_ty (show kitB "str" "list" = some false by decide +kernel), q⟩
  | lst e r => exact ⟨_, .ty "list", _, _, true, rfl, .ty _, .base (.lst e), kit_ty (show kitB "list" "list" = some true by decide +kernel), q⟩
  | tup e r => exact ⟨_, .ty "list", _, _, false, rfl, .ty _, .base (.tup e), kit_ty (show kitB "tuple" "list" = some false by decide +kernel), q⟩
def isTupleD : PyData → Bool
  | .none => false
  | .bool _ => false
  | .int _ => false
  | .str _ => false
  | .list _ => false
  | .tuple _ => true
  | .dict _ => false
theorem isi_tuple {K : PySem.W.Frag} {H : Hp} {Q : VK} {x : V} {d : PyData} (h : Is H x d) (q : Q (.bl (isTupleD d)) H) : rIsi K [x, .ty "tuple"] H Q := by
  cases h with
  | non => exact ⟨_, .ty "tuple", _, _, false, rfl, .ty _, .base (.non), kit_ty (show kitB "NoneType" "tuple" = some false by decide +kernel), q⟩
  | bl b => exact ⟨_, .ty "tuple", _, _, false, rfl, .ty _, .base (.bl b), kit_ty (show kitB "bool" "tuple" = some false by decide +kernel), q⟩
  | int i => exact ⟨_, .ty "tuple", _, _, false, rfl, .ty _, .base (.int i), kit_ty (show kitB "int" "tuple" = some false by decide +kernel), q⟩
  | str z => exact ⟨_, .ty "tuple", _, _, false, rfl, .ty _, .base (.str z), kit_ty (show kitB "str" "tuple" = some false by decide +kernel), q⟩
  | lst e r => exact ⟨_, .ty "tuple", _, _, false, rfl, .ty _, .base (.lst e), kit_ty (show kitB "list" "tuple" = some false by decide +kernel), q⟩
  | tup e r => exact ⟨_, .ty "tuple", _, _, true, rfl, .ty _, .base (.tup e), kit_ty (show kitB "tuple" "tuple" = some true by decide +kernel), q⟩
end Rd
namespace Rd
open PySem PySem.Spec PyProof.Rows L2 He Px Dx
def spn_law_same (K : PySem.W.Frag) (n : Nat) : Sp := Sp2 fun x y H Q _ => ∃ d e : PyData, Is H x d ∧ Is H y e ∧ Fits n d ∧ ∀ H', Same H H' → Q (.bl (sameB d e)) H'
def sp_law_same (K : PySem.W.Frag) : Sp := spn_law_same K 4
def spR_law_same (K : PySem.W.Frag) : Nat → Sp
  | 0 => fun _ _ _ _ => False
  | n + 1 => spn_law_same K n
def N_law_same : List PySem.Str := ["_law_one", "_law_other", "_law_lists", "_law_k"]
def t_law_same (K : PySem.W.Frag) (R : Sp) (W : WX) : TS := (tCut (tIfS (tOr (tB (tCB (rIsi K) (tCons (tVar 0) (tCons (tC (.ty "bool")) tNil)))) (tB (tCB (rIsi K) (tCons (tVar 1) (tCons (tC (.ty "bool")) tNil))))) (tRet (tAndV (tCB (rIsi K) (tCons (tVar 0) (tCons (tC (.ty "bool")) tNil))) (tAndV (tCB (rIsi K) (tCons (tVar 1) (tCons (tC (.ty "bool")) tNil))) (tOp (rEqP K) (tVar 0) (tVar 1))))) tNext)
    (tCut (tIfS (tOr (tB (tCB (rIsi K) (tCons (tVar 0) (tCons (tC (.ty "int")) tNil)))) (tB (tCB (rIsi K) (tCons (tVar 1) (tCons (tC (.ty "int")) tNil))))) (tRet (tAndV (tCB (rIsi K) (tCons (tVar 0) (tCons (tC (.ty "int")) tNil))) (tAndV (tCB (rIsi K) (tCons (tVar 1) (tCons (tC (.ty "int")) tNil))) (tOp (rEqP K) (tVar 0) (tVar 1))))) tNext)
    (tCut (tIfS (tOr (tB (tCB (rIsi K) (tCons (tVar 0) (tCons (tC (.ty "str")) tNil)))) (tB (tCB (rIsi K) (tCons (tVar 1) (tCons (tC (.ty "str")) tNil))))) (tRet (tAndV (tCB (rIsi K) (tCons (tVar 0) (tCons (tC (.ty "str")) tNil))) (tAndV (tCB (rIsi K) (tCons (tVar 1) (tCons (tC (.ty "str")) tNil))) (tOp (rEqP K) (tVar 0) (tVar 1))))) tNext)
    (tSeq (tAsg (tAndV (tCB (rIsi K) (tCons (tVar 0) (tCons (tC (.ty "list")) tNil))) (tCB (rIsi K) (tCons (tVar 1) (tCons (tC (.ty "list")) tNil)))) (gName 2))
    (tCut (tIfS (tAnd (tNot (tB (tVar 2))) (tNot (tAnd (tB (tCB (rIsi K) (tCons (tVar 0) (tCons (tC (.ty "tuple")) tNil)))) (tB (tCB (rIsi K) (tCons (tVar 1) (tCons (tC (.ty "tuple")) tNil))))))) (tRet (tAndV (tOp (rIsP false) (tVar 0) (tC .non)) (tOp (rIsP false) (tVar 1) (tC .non)))) tNext)
    (tRet (tAndV (tOp (rEqP K) (tCB (rLenP K) (tCons (tVar 0) tNil)) (tCB (rLenP K) (tCons (tVar 1) tNil))) (tCB (rAll K) (tCons (tLc (iRng1 (tCons (tCB (rLenP K) (tCons (tVar 0) tNil)) tNil)) (gName 3) tYes (tCall R [] E0 (tCons (tOp (rIxP K) (tVar 0) (tVar 3)) (tCons (tOp (rIxP K) (tVar 1) (tVar 3)) tNil))) [3]) tNil)))))))))
local macro_rules | `(tactic| walk_at "same") => `(tactic| repeat (first | walk_at "s" | (with_reducible refine isi_bool (by assumption) ?_) | (with_reducible refine isi_int (by assumption) ?_) | (with_reducible refine isi_str (by assumption) ?_) | (with_reducible refine isi_list (by assumption) ?_) | (with_reducible refine isi_tuple (by assumption) ?_) | (refine s_itF rfl ?_) | (refine s_itT rfl ?_) | (with_reducible refine s_nocut ?_)))
theorem pure_law_same {K : PySem.W.Frag} {n : Nat} {vs : List V} {H : Hp} {Q : VK} {E : XK} {W : WX} (h : spn_law_same K n vs H Q E) : t_law_same K (spR_law_same K n) W { nx := fun _ H' => Q .non H', rt := Q } (start N_law_same vs) H := by
  obtain ⟨x, y, rfl, d, e, hd, he, hf, hq⟩ := h
  show t_law_same K _ W _ [some x, some y, none, none] H
  unfold t_law_same
  have q0 := hq H (Same.refl H)
  have no : d ≠ e → Q (.bl false) H := fun e1 => by rw [sameB_ne e1] at q0; exact q0
  have hy : ∀ {z : V} {f : PyData}, Is H z f → match f with
    | .none => z = .non
    | .bool b => z = .bl b
    | .int i => z = .int i
    | .str s => z = .str s
    | .list ds => ∃ a xs, z = .ref a ∧ H a = some (.lst xs) ∧ IsAll H xs ds
    | .tuple ds => ∃ a xs, z = .ref a ∧ H a = some (.tup xs) ∧ IsAll H xs ds
    | .dict _ => False := by
    intro z f h
    cases h with
    | lst h1 h2 => exact ⟨_, _, rfl, h1, h2⟩
    | tup h1 h2 => exact ⟨_, _, rfl, h1, h2⟩
    | _ => rfl
  have hX := hy hd
  have hY := hy he
  cases d with
  | none =>
    cases e with
    | none =>
      have hX : x = .non := hX
      have hY : y = .non := hY
      subst hX hY
      walk_at "same"
      rw [sameB_eq rfl] at q0
      exact q0
    | list es =>
      obtain ⟨b, ys, rfl, hb, hys⟩ := hY
      have hX : x = .non := hX
      subst hX
      walk_at "same"
      exact no (fun h => by cases h)
    | tuple es =>
      obtain ⟨b, ys, rfl, hb, hys⟩ := hY
      have hX : x = .non := hX
      subst hX
      walk_at "same"
      exact no (fun h => by cases h)
    | dict _ => exact False.elim hY
    | _ =>
      walk_at "same"
      exact no (fun h => by cases h)
  | bool a =>
    cases e with
    | bool b =>
      have hX : x = .bl a := hX
      have hY : y = .bl b := hY
      subst hX hY
      walk_at "same"
      rw [sameB_bool] at q0
      exact q0
    | dict _ => exact False.elim hY
    | _ =>
      walk_at "same"
      exact no (fun h => by cases h)
  | int a =>
    cases e with
    | int b =>
      have hX : x = .int a := hX
      have hY : y = .int b := hY
      subst hX hY
      walk_at "same"
      rw [sameB_int] at q0
      exact q0
    | dict _ => exact False.elim hY
    | _ =>
      walk_at "same"
      exact no (fun h => by cases h)
  | str a =>
    cases e with
    | str b =>
      have hX : x = .str a := hX
      have hY : y = .str b := hY
      subst hX hY
      walk_at "same"
      rw [sameB_str] at q0
      exact q0
    | dict _ => exact False.elim hY
    | _ =>
      walk_at "same"
      exact no (fun h => by cases h)
  | list ds =>
    obtain ⟨a, xs, rfl, ha, hxs⟩ := hX
    cases n with
    | zero => exact False.elim hf
    | succ n =>
    cases e with
    | list es =>
      obtain ⟨b, ys, rfl, hb, hys⟩ := hY
      walk_at "same"
      have e1 := hxs.len
      have e2 := hys.len
      have fin : ∀ H', Same H H' → Q (.bl (@decide (ds = es) (Classical.propDecidable _))) H' := fun H' s => by
        have w := hq H' s
        have e1 : sameB (.list ds) (.list es) = @decide (ds = es) (Classical.propDecidable _) := by
          by_cases h : ds = es
          · rw [sameB_eq (by rw [h])]; simp [h]
          · rw [sameB_ne (by simpa using h)]; simp [h]
        rw [e1] at w
        exact w
      have hL := hf.1
      refine s_lenL ha ?_
      walk_at "ss"
      refine s_lenL hb ?_
      walk_at "ss"
      refine s_itd (fun e => ?_) (fun e => ?_)
      · have hl : ds.length = es.length := by omega
        walk_at "ss"
        refine s_lenL ha ?_
        walk_at "ss"
        refine lcr_map (fun x => match x with | .int i => .bl (sameB (ds.getD i.toNat .none) (es.getD i.toNat .none)) | _ => .non) (by omega) (by omega) ?_ ?_
        · intro i hi H' s1 Q' hQ
          obtain ⟨v, d, h1, h2, h3⟩ := hxs.at (i := i) (by omega)
          obtain ⟨w, e', g1, g2, g3⟩ := hys.at (i := i) (by omega)
          walk_at "ss"
          refine s_ixL (s1 _ _ ha) (v := v) (atI_nat h1) ?_
          walk_at "ss"
          refine s_ixL (s1 _ _ hb) (v := w) (atI_nat g1) ?_
          walk_at "ss"
          refine ⟨_, _, rfl, d, e', h3.keep s1, g3.keep s1, hf.2 d (List.mem_of_getElem? h2), fun H2 s2 => ?_⟩
          have k1 : ds.getD i .none = d := by simp [List.getD, h2]
          have k2 : es.getD i .none = e' := by simp [List.getD, g2]
          have k3 : Q' (.bl (sameB (ds.getD i .none) (es.getD i .none))) H2 := hQ H2 s2
          rw [k1, k2] at k3
          exact k3
        · intro D H' hD s1 hl'
          walk_at "ss"
          refine s_all (bs := (List.range ds.length).map fun i => sameB (ds.getD i .none) (es.getD i .none)) ?_ ?_
          · rw [hl', List.map_map, ← e1]
            rfl
          · have := fin H' s1
            rw [← same_all hl] at this
            rw [List.all_map]
            exact this
      · have := fin H (Same.refl H)
        rw [show @decide (ds = es) (Classical.propDecidable _) = false by simp; intro h; apply e; rw [e1, e2, h]] at this
        exact this
    | dict _ => exact False.elim hY
    | _ =>
      walk_at "same"
      exact no (fun h => by cases h)
  | tuple ds =>
    obtain ⟨a, xs, rfl, ha, hxs⟩ := hX
    cases n with
    | zero => exact False.elim hf
    | succ n =>
    cases e with
    | tuple es =>
      obtain ⟨b, ys, rfl, hb, hys⟩ := hY
      walk_at "same"
      have e1 := hxs.len
      have e2 := hys.len
      have fin : ∀ H', Same H H' → Q (.bl (@decide (ds = es) (Classical.propDecidable _))) H' := fun H' s => by
        have w := hq H' s
        have e1 : sameB (.tuple ds) (.tuple es) = @decide (ds = es) (Classical.propDecidable _) := by
          by_cases h : ds = es
          · rw [sameB_eq (by rw [h])]; simp [h]
          · rw [sameB_ne (by simpa using h)]; simp [h]
        rw [e1] at w
        exact w
      have hL := hf.1
      refine s_lenT ha ?_
      walk_at "ss"
      refine s_lenT hb ?_
      walk_at "ss"
      refine s_itd (fun e => ?_) (fun e => ?_)
      · have hl : ds.length = es.length := by omega
        walk_at "ss"
        refine s_lenT ha ?_
        walk_at "ss"
        refine lcr_map (fun x => match x with | .int i => .bl (sameB (ds.getD i.toNat .none) (es.getD i.toNat .none)) | _ => .non) (by omega) (by omega) ?_ ?_
        · intro i hi H' s1 Q' hQ
          obtain ⟨v, d, h1, h2, h3⟩ := hxs.at (i := i) (by omega)
          obtain ⟨w, e', g1, g2, g3⟩ := hys.at (i := i) (by omega)
          walk_at "ss"
          refine s_ixT (s1 _ _ ha) (v := v) (atI_nat h1) ?_
          walk_at "ss"
          refine s_ixT (s1 _ _ hb) (v := w) (atI_nat g1) ?_
          walk_at "ss"
          refine ⟨_, _, rfl, d, e', h3.keep s1, g3.keep s1, hf.2 d (List.mem_of_getElem? h2), fun H2 s2 => ?_⟩
          have k1 : ds.getD i .none = d := by simp [List.getD, h2]
          have k2 : es.getD i .none = e' := by simp [List.getD, g2]
          have k3 : Q' (.bl (sameB (ds.getD i .none) (es.getD i .none))) H2 := hQ H2 s2
          rw [k1, k2] at k3
          exact k3
        · intro D H' hD s1 hl'
          walk_at "ss"
          refine s_all (bs := (List.range ds.length).map fun i => sameB (ds.getD i .none) (es.getD i .none)) ?_ ?_
          · rw [hl', List.map_map, ← e1]
            rfl
          · have := fin H' s1
            rw [← same_all hl] at this
            rw [List.all_map]
            exact this
      · have := fin H (Same.refl H)
        rw [show @decide (ds = es) (Classical.propDecidable _) = false by simp; intro h; apply e; rw [e1, e2, h]] at this
        exact this
    | dict _ => exact False.elim hY
    | _ =>
      walk_at "same"
      exact no (fun h => by cases h)
  | dict _ => exact False.elim hX
def tH_law_same (K : PySem.W.Frag) (W : WX) : TS := (tCut (tIfS (tOr (tB (tCB (rIsi K) (tCons (tVar 0) (tCons (tC (.ty "bool")) tNil)))) (tB (tCB (rIsi K) (tCons (tVar 1) (tCons (tC (.ty "bool")) tNil))))) (tRet (tAndV (tCB (rIsi K) (tCons (tVar 0) (tCons (tC (.ty "bool")) tNil))) (tAndV (tCB (rIsi K) (tCons (tVar 1) (tCons (tC (.ty "bool")) tNil))) (tOp (rEqP K) (tVar 0) (tVar 1))))) tNext)
    (tCut (tIfS (tOr (tB (tCB (rIsi K) (tCons (tVar 0) (tCons (tC (.ty "int")) tNil)))) (tB (tCB (rIsi K) (tCons (tVar 1) (tCons (tC (.ty "int")) tNil))))) (tRet (tAndV (tCB (rIsi K) (tCons (tVar 0) (tCons (tC (.ty "int")) tNil))) (tAndV (tCB (rIsi K) (tCons (tVar 1) (tCons (tC (.ty "int")) tNil))) (tOp (rEqP K) (tVar 0) (tVar 1))))) tNext)
    (tCut (tIfS (tOr (tB (tCB (rIsi K) (tCons (tVar 0) (tCons (tC (.ty "str")) tNil)))) (tB (tCB (rIsi K) (tCons (tVar 1) (tCons (tC (.ty "str")) tNil))))) (tRet (tAndV (tCB (rIsi K) (tCons (tVar 0) (tCons (tC (.ty "str")) tNil))) (tAndV (tCB (rIsi K) (tCons (tVar 1) (tCons (tC (.ty "str")) tNil))) (tOp (rEqP K) (tVar 0) (tVar 1))))) tNext)
    (tSeq (tAsg (tAndV (tCB (rIsi K) (tCons (tVar 0) (tCons (tC (.ty "list")) tNil))) (tCB (rIsi K) (tCons (tVar 1) (tCons (tC (.ty "list")) tNil)))) (gName 2))
    (tCut (tIfS (tAnd (tNot (tB (tVar 2))) (tNot (tAnd (tB (tCB (rIsi K) (tCons (tVar 0) (tCons (tC (.ty "tuple")) tNil)))) (tB (tCB (rIsi K) (tCons (tVar 1) (tCons (tC (.ty "tuple")) tNil))))))) (tRet (tAndV (tOp (rIsP false) (tVar 0) (tC .non)) (tOp (rIsP false) (tVar 1) (tC .non)))) tNext)
    tNever)))))
def spH_law_same (K : PySem.W.Frag) : Sp := Sp2 fun x y H Q _ => ∃ d e : PyData, Is H x d ∧ Is H y e ∧ Fits 0 d ∧ Fits 0 e ∧ Q (.bl (sameB d e)) H
theorem pureH_law_same {K : PySem.W.Frag} {vs : List V} {H : Hp} {Q : VK} {E : XK} {W : WX} (h : spH_law_same K vs H Q E) : tH_law_same K W { nx := fun _ H' => Q .non H', rt := Q } (start N_law_same vs) H := by
  obtain ⟨x, y, rfl, d, e, hd, he, hf, hf2, q0⟩ := h
  show tH_law_same K W _ [some x, some y, none, none] H
  unfold tH_law_same
  have no : d ≠ e → Q (.bl false) H := fun e1 => by rw [sameB_ne e1] at q0; exact q0
  cases d with
  | none =>
    have hX : x = .non := by cases hd; rfl
    subst hX
    cases e with
    | none =>
      have hY : y = .non := by cases he; rfl
      subst hY
      walk_at "same"
      rw [sameB_eq rfl] at q0
      exact q0
    | list es => exact False.elim hf2
    | tuple es => exact False.elim hf2
    | dict _ => exact False.elim hf2
    | _ =>
      walk_at "same"
      exact no (fun h => by cases h)
  | bool a =>
    have hX : x = .bl a := by cases hd; rfl
    subst hX
    cases e with
    | bool b =>
      have hY : y = .bl b := by cases he; rfl
      subst hY
      walk_at "same"
      rw [sameB_bool] at q0
      exact q0
    | list es => exact False.elim hf2
    | tuple es => exact False.elim hf2
    | dict _ => exact False.elim hf2
    | _ =>
      walk_at "same"
      exact no (fun h => by cases h)
  | int a =>
    have hX : x = .int a := by cases hd; rfl
    subst hX
    cases e with
    | int b =>
      have hY : y = .int b := by cases he; rfl
      subst hY
      walk_at "same"
      rw [sameB_int] at q0
      exact q0
    | list es => exact False.elim hf2
    | tuple es => exact False.elim hf2
    | dict _ => exact False.elim hf2
    | _ =>
      walk_at "same"
      exact no (fun h => by cases h)
  | str a =>
    have hX : x = .str a := by cases hd; rfl
    subst hX
    cases e with
    | str b =>
      have hY : y = .str b := by cases he; rfl
      subst hY
      walk_at "same"
      rw [sameB_str] at q0
      exact q0
    | list es => exact False.elim hf2
    | tuple es => exact False.elim hf2
    | dict _ => exact False.elim hf2
    | _ =>
      walk_at "same"
      exact no (fun h => by cases h)
  | list ds => exact False.elim hf
  | tuple ds => exact False.elim hf
  | dict _ => cases hd
end Rd
namespace Rd
open PySem PySem.Spec PyProof.Rows L2 He Px
/-! texts in order -/
def SLt (a b : Str) : Prop := a.cps.toList < b.cps.toList
instance : DecidableRel SLt := fun a b => inferInstanceAs (Decidable (a.cps.toList < b.cps.toList))
theorem SLt.irr {a : Str} : ¬ SLt a a := List.lt_irrefl _
theorem SLt.tr {a b c : Str} (h : SLt a b) (g : SLt b c) : SLt a c := List.lt_trans h g
theorem SLt.tri {a b : Str} (h : ¬ SLt a b) (g : ¬ SLt b a) : a = b := str_ext (List.le_antisymm (List.not_lt.mp g) (List.not_lt.mp h))
def Ord (l : List Str) : Prop := l.Pairwise SLt
theorem Ord.uniq : ∀ {a b : List Str}, Ord a → Ord b → (∀ x, x ∈ a ↔ x ∈ b) → a = b
  | [], [], _, _, _ => rfl
  | [], y :: b, _, _, h => absurd ((h y).mpr List.mem_cons_self) List.not_mem_nil
  | x :: a, [], _, _, h => absurd ((h x).mp List.mem_cons_self) List.not_mem_nil
  | x :: a, y :: b, ha, hb, h => by
    have ha' := List.pairwise_cons.mp ha
    have hb' := List.pairwise_cons.mp hb
    have e : x = y := by
      rcases List.mem_cons.mp ((h x).mp List.mem_cons_self) with e | e
      · exact e
      · rcases List.mem_cons.mp ((h y).mpr List.mem_cons_self) with e2 | e2
        · exact e2.symm
        · exact absurd (SLt.tr (hb'.1 x e) (ha'.1 y e2)) SLt.irr
    subst e
    rw [Ord.uniq ha'.2 hb'.2 fun z => ⟨fun hz => ?_, fun hz => ?_⟩]
    · rcases List.mem_cons.mp ((h z).mp (List.mem_cons_of_mem _ hz)) with e | e
      · subst e; exact absurd (ha'.1 z hz) SLt.irr
      · exact e
    · rcases List.mem_cons.mp ((h z).mpr (List.mem_cons_of_mem _ hz)) with e | e
      · subst e; exact absurd (hb'.1 z hz) SLt.irr
      · exact e
def ins (x : Str) : List Str → List Str
  | [] => [x]
  | y :: r => if x = y then y :: r else if SLt x y then x :: y :: r else y :: ins x r
theorem mem_ins {x z : Str} : ∀ {l : List Str}, z ∈ ins x l ↔ z = x ∨ z ∈ l
  | [] => by simp [ins]
  | y :: r => by
    unfold ins
    by_cases e : x = y
    · rw [if_pos e]; subst e; simp
    · rw [if_neg e]
      by_cases g : SLt x y
      · rw [if_pos g]; simp
      · rw [if_neg g, List.mem_cons, mem_ins, List.mem_cons]
        constructor
        · rintro (h | h | h)
          · exact .inr (.inl h)
          · exact .inl h
          · exact .inr (.inr h)
        · rintro (h | h | h)
          · exact .inr (.inl h)
          · exact .inl h
          · exact .inr (.inr h)
theorem ord_ins {x : Str} : ∀ {l : List Str}, Ord l → Ord (ins x l)
  | [], _ => List.pairwise_singleton _ _
  | y :: r, h => by
    unfold ins
    have h' := List.pairwise_cons.mp h
    by_cases e : x = y
    · rw [if_pos e]; exact h
    · rw [if_neg e]
      by_cases g : SLt x y
      · rw [if_pos g]
        refine List.pairwise_cons.mpr ⟨fun z hz => ?_, h⟩
        rcases List.mem_cons.mp hz with rfl | hz
        · exact g
        · exact g.tr (h'.1 z hz)
      · rw [if_neg g]
        refine List.pairwise_cons.mpr ⟨fun z hz => ?_, ord_ins h'.2⟩
        rcases mem_ins.mp hz with rfl | hz
        · by_cases g2 : SLt y z
          · exact g2
          · exact absurd (SLt.tri g g2) e
        · exact h'.1 z hz
/-- the different texts of a list, in order -/
def srt : List Str → List Str
  | [] => []
  | x :: r => ins x (srt r)
theorem mem_srt {z : Str} : ∀ {l : List Str}, z ∈ srt l ↔ z ∈ l
  | [] => Iff.rfl
  | x :: r => by rw [srt, mem_ins, mem_srt, List.mem_cons]
theorem ord_srt : ∀ l : List Str, Ord (srt l)
  | [] => List.Pairwise.nil
  | x :: r => ord_ins (ord_srt r)
theorem srt_eq {l a : List Str} (h : Ord a) (m : ∀ x, x ∈ a ↔ x ∈ l) : a = srt l := Ord.uniq h (ord_srt l) fun x => (m x).trans mem_srt.symm
theorem srt_congr {a b : List Str} (h : ∀ x, x ∈ a ↔ x ∈ b) : srt a = srt b := srt_eq (ord_srt a) fun x => mem_srt.trans (h x)
theorem ins_len (x : Str) : ∀ l : List Str, (ins x l).length ≤ l.length + 1
  | [] => by simp [ins]
  | y :: r => by
    unfold ins
    split
    · simp
    · split
      · simp
      · have := ins_len x r
        simp only [List.length_cons]
        omega
theorem srt_len : ∀ l : List Str, (srt l).length ≤ l.length
  | [] => Nat.le_refl _
  | x :: r => Nat.le_trans (ins_len x _) (Nat.succ_le_succ (srt_len r))
/-- what sorted says -/
theorem rising_ge {p : Str} : ∀ {l : List Str}, risingS p l = true → ∀ x ∈ l, ¬ SLt x p
  | [], _, x, hx => nomatch hx
  | y :: r, h, x, hx => by
    have h2 : (!ltCps y.cps.toList p.cps.toList && risingS y r) = true := h
    rw [Bool.and_eq_true, ltCps_eq] at h2
    have hy : ¬ SLt y p := by
      intro g
      have g' : y.cps.toList < p.cps.toList := g
      rw [decide_eq_true g'] at h2
      cases h2.1
    rcases List.mem_cons.mp hx with rfl | hx
    · exact hy
    · intro g
      have := rising_ge h2.2 x hx
      by_cases e : SLt p y
      · exact this (g.tr e)
      · have e2 := SLt.tri hy e
        subst e2
        exact this g
theorem sorted_pair : ∀ {l : List Str}, sortedS l = true → l.Pairwise fun a b => ¬ SLt b a
  | [], _ => List.Pairwise.nil
  | x :: r, h => by
    have h : risingS x r = true := h
    refine List.pairwise_cons.mpr ⟨fun y hy => rising_ge h y hy, ?_⟩
    cases r with
    | nil => exact List.Pairwise.nil
    | cons y r =>
      have h2 : (!ltCps y.cps.toList x.cps.toList && risingS y r) = true := h
      rw [Bool.and_eq_true] at h2
      exact sorted_pair (l := y :: r) h2.2
/-- a further text of a sorted list -/
theorem ord_more {ys acc : List Str} {i : Nat} {x : Str} (hs : ys.Pairwise fun a b => ¬ SLt b a) (hi : ys[i]? = some x) (ha : Ord acc) (hm : ∀ z, z ∈ acc ↔ z ∈ ys.take i) (hx : x ∉ acc) : Ord (acc ++ [x]) := by
  refine List.pairwise_append.mpr ⟨ha, List.pairwise_singleton _ _, fun a hA b hb => ?_⟩
  have e : b = x := by simpa using hb
  subst e
  obtain ⟨hl, rfl⟩ := List.getElem?_eq_some_iff.mp hi
  obtain ⟨j, hj, e⟩ := List.getElem_of_mem ((hm a).mp hA)
  rw [List.length_take] at hj
  have hj2 : j < i := by omega
  have e2 : ys[j]'(by omega) = a := by rw [← e, List.getElem_take]
  have q := List.pairwise_iff_getElem.mp hs j i (by omega) hl hj2
  rw [e2] at q
  by_cases g : SLt a ys[i]
  · exact g
  · have := SLt.tri g q
    subst this
    exact absurd hA hx
/-! literals in order -/
def flat (zs : List Str) (l : List Str) : List Str := l.flatMap fun n => [n, ("-" : Str) ++ n].filter fun z => decide (z ∈ zs)
theorem flat_len (zs : List Str) : ∀ l : List Str, (flat zs l).length ≤ 2 * l.length
  | [] => by simp [flat]
  | x :: r => by
    have ih := flat_len zs r
    unfold flat at ih ⊢
    rw [List.flatMap_cons, List.length_append, List.length_cons]
    have := List.length_filter_le (fun z => decide (z ∈ zs)) [x, ("-" : Str) ++ x]
    simp only [List.length_cons, List.length_nil] at this
    omega
theorem flat_more (zs l : List Str) (n : Str) : flat zs (l ++ [n]) = flat zs l ++ [n, ("-" : Str) ++ n].filter fun z => decide (z ∈ zs) := by
  unfold flat
  rw [List.flatMap_append]
  simp
def litO (ls : List Str) : List Str := flat ls (srt (ls.map bare))
theorem litO_congr {a b : List Str} (h : ∀ x, x ∈ a ↔ x ∈ b) : litO a = litO b := by
  unfold litO flat
  rw [srt_congr (a := a.map bare) (b := b.map bare) fun x => by simp [h]]
  congr 1
  funext n
  congr 1
  funext z
  rw [Bool.eq_iff_iff]
  simp [h]
/-- the first name that stands in both signs -/
def twice (os : List Str) : Option Str := os.find? fun z => !dash z && decide (("-" : Str) ++ z ∈ os)
def badOf (zs : List Str) : Option Str := zs.find? fun z => !isLit z
/-! names, literals -/
theorem dash_app (z : Str) : dash (("-" : Str) ++ z) = true := (dash_iff _).mpr ⟨z.cps.toList, by rw [app_toList]; rfl⟩
theorem tail_app (z : Str) : cutS (("-" : Str) ++ z) (some 1) none = z := str_ext (by rw [cut_tail, app_toList]; rfl)
theorem bare_app (z : Str) : bare (("-" : Str) ++ z) = z := by
  unfold bare
  rw [if_pos (dash_app z), tail_app]
theorem nm_first {z : Str} (h : isNm z = true) : ∃ c r, z.cps.toList = c :: r ∧ c ∈ lettersL ∧ (∀ x ∈ z.cps.toList, x ∈ signsL) ∧ 1 ≤ z.length ∧ z.length ≤ 8 := by
  unfold isNm at h
  rw [Bool.and_eq_true, Bool.and_eq_true, Bool.and_eq_true] at h
  obtain ⟨h1, h2, h3, h4⟩ := h
  have h1 : ¬ (z.length : Int) < 1 := by simpa using h1
  have h2 : ¬ (8 : Int) < (z.length : Int) := by simpa using h2
  cases e : z.cps.toList with
  | nil => rw [e] at h3; cases h3
  | cons c r =>
    rw [e] at h3 h4
    refine ⟨c, r, rfl, of_decide_eq_true h3, fun x hx => ?_, by omega, by omega⟩
    exact of_decide_eq_true (List.all_eq_true.mp h4 x hx)
theorem dash45 : (45 : Nat) ∉ lettersL := by decide +kernel
theorem nm_nodash {z : Str} (h : isNm z = true) : dash z = false := by
  obtain ⟨c, r, e, hc, _⟩ := nm_first h
  cases hd : dash z with
  | false => rfl
  | true =>
    obtain ⟨r2, e2⟩ := (dash_iff z).mp hd
    rw [e] at e2
    have : c = 45 := (List.cons.inj e2).1
    subst this
    exact absurd hc dash45
theorem nm_bare {z : Str} (h : isNm z = true) : bare z = z := by
  unfold bare
  rw [nm_nodash h, if_neg Bool.false_ne_true]
theorem nm_lit {z : Str} (h : isNm z = true) : isLit z = true := by unfold isLit; rw [nm_bare h]; exact h
theorem neg_lit {z : Str} (h : isNm z = true) : isLit (("-" : Str) ++ z) = true := by unfold isLit; rw [bare_app]; exact h
theorem bare_eq {z : Str} (h : dash z = true) : ("-" : Str) ++ bare z = z := by
  obtain ⟨r, e⟩ := (dash_iff z).mp h
  apply str_ext
  rw [app_toList]
  unfold bare
  rw [if_pos h, cut_tail, e]
  rfl
theorem lit_cases {z : Str} (h : isLit z = true) : z = bare z ∨ z = ("-" : Str) ++ bare z := by
  cases hd : dash z with
  | false => left; unfold bare; rw [hd, if_neg Bool.false_ne_true]
  | true => right; exact (bare_eq hd).symm
theorem lit_len {z : Str} (h : isLit z = true) : z.length ≤ 9 := by
  obtain ⟨_, _, _, _, _, _, h8⟩ := nm_first (show isNm (bare z) = true from h)
  rcases lit_cases h with e | e
  · rw [e]; omega
  · rw [e, app_len]; show 1 + _ ≤ 9; omega
theorem flip_lit {z : Str} (h : isLit z = true) : isLit (flip z) = true := by
  unfold flip
  cases hd : dash z with
  | true =>
    rw [if_pos rfl]
    have e : bare z = cutS z (some 1) none := by unfold bare; rw [if_pos hd]
    rw [← e]
    exact nm_lit h
  | false =>
    rw [if_neg Bool.false_ne_true]
    have e : bare z = z := by unfold bare; rw [hd, if_neg Bool.false_ne_true]
    have h2 : isNm (bare z) = true := h
    rw [e] at h2
    exact neg_lit h2
/-- strings that are no literals -/
theorem nodash_of {z : Str} {c : Nat} {r : List Nat} (e : z.cps.toList = c :: r) (h : c ≠ 45) : dash z = false := by
  cases hd : dash z with
  | false => rfl
  | true =>
    obtain ⟨r2, e2⟩ := (dash_iff z).mp hd
    rw [e] at e2
    exact absurd (List.cons.inj e2).1 h
theorem bad_sign {z : Str} {c : Nat} (h : c ∈ z.cps.toList) (h1 : c ∉ signsL) (h2 : c ≠ 45) : isLit z = false := by
  cases hl : isLit z with
  | false => rfl
  | true =>
    obtain ⟨_, _, _, _, hs, _⟩ := nm_first (show isNm (bare z) = true from hl)
    rcases lit_cases hl with e | e
    · rw [e] at h; exact absurd (hs c h) h1
    · rw [e, app_toList] at h
      rcases List.mem_append.mp h with h | h
      · have : c = 45 := by simpa using (show c ∈ [45] from h)
        exact absurd this h2
      · exact absurd (hs c h) h1
theorem bad_first {z : Str} {c : Nat} {r : List Nat} (e : z.cps.toList = c :: r) (h : c ≠ 45) (h1 : c ∉ lettersL) : isLit z = false := by
  cases hl : isLit z with
  | false => rfl
  | true =>
    have hb : bare z = z := by unfold bare; rw [nodash_of e h, if_neg Bool.false_ne_true]
    obtain ⟨c2, r2, e2, hc, _⟩ := nm_first (show isNm (bare z) = true from hl)
    rw [hb, e] at e2
    rw [(List.cons.inj e2).1] at h1
    exact absurd hc h1
theorem bad_long {z : Str} {c : Nat} {r : List Nat} (e : z.cps.toList = c :: r) (h : c ≠ 45) (h1 : 8 < z.length) : isLit z = false := by
  cases hl : isLit z with
  | false => rfl
  | true =>
    have hb : bare z = z := by unfold bare; rw [nodash_of e h, if_neg Bool.false_ne_true]
    obtain ⟨_, _, _, _, _, _, h8⟩ := nm_first (show isNm (bare z) = true from hl)
    rw [hb] at h8
    omega
theorem letter_ne {c : Nat} (h : c ∈ lettersL) : c ≠ 45 := fun e => by rw [e] at h; exact dash45 h
/-! cuts -/
theorem cut_to (z : Str) (k : Nat) : (cutS z none (some (k : Int))).cps.toList = z.cps.toList.take k := by
  unfold cutS
  have e : HT.sIx z.length z.length (some (k : Int)) = min k z.length := HT.sIx_nat z.length z.length k
  rw [e, HT.sIx_none]
  show List.take (min k z.length - 0) (List.drop 0 z.cps.toList) = _
  rw [List.drop_zero, Nat.sub_zero, ← len_toList]
  rcases Nat.le_total k z.cps.toList.length with h | h
  · rw [Nat.min_eq_left h]
  · rw [Nat.min_eq_right h, List.take_of_length_le (Nat.le_refl _), List.take_of_length_le h]
theorem cut_from (z : Str) (k : Nat) : (cutS z (some (k : Int)) none).cps.toList = z.cps.toList.drop k := by
  unfold cutS
  have e : HT.sIx z.length 0 (some (k : Int)) = min k z.length := HT.sIx_nat z.length 0 k
  rw [e, HT.sIx_none]
  show List.take (z.length - min k z.length) (List.drop (min k z.length) z.cps.toList) = _
  rw [← len_toList]
  rcases Nat.le_total k z.cps.toList.length with h | h
  · rw [Nat.min_eq_left h, List.take_of_length_le (by rw [List.length_drop]; omega)]
  · rw [Nat.min_eq_right h, List.drop_of_length_le (Nat.le_refl _), List.drop_of_length_le h, List.take_nil]
theorem cut_mid {z : Str} {lo hi : Option Int} {x : Nat} (h : x ∈ (cutS z lo hi).cps.toList) : x ∈ z.cps.toList := by
  unfold cutS at h
  exact List.mem_of_mem_drop (List.mem_of_mem_take (by simpa using h))
theorem wrd_put {a b : Str} {c : Nat} (ha : a.cps.toList = [] ∨ Wrd a) (hc : c ∈ lettersL) (hb : ∀ x ∈ b.cps.toList, x ∈ signsL) : Wrd (a ++ ⟨#[c]⟩ ++ b) := by
  have e : (a ++ ⟨#[c]⟩ ++ b).cps.toList = a.cps.toList ++ (c :: b.cps.toList) := by
    rw [app_toList, app_toList, List.append_assoc]
    rfl
  rcases ha with ha | ⟨d, r, e1, h1, h2⟩
  · exact ⟨c, b.cps.toList, by rw [e, ha]; rfl, hc, hb⟩
  · refine ⟨d, r ++ (c :: b.cps.toList), by rw [e, e1]; rfl, h1, fun x hx => ?_⟩
    rcases List.mem_append.mp hx with hx | hx
    · exact h2 x hx
    · rcases List.mem_cons.mp hx with rfl | hx
      · exact letters_signs hc
      · exact hb x hx
theorem wrd_to {z : Str} (h : Wrd z) (k : Nat) : (cutS z none (some (k : Int))).cps.toList = [] ∨ Wrd (cutS z none (some (k : Int))) := by
  obtain ⟨c, r, e, h1, h2⟩ := h
  cases k with
  | zero => left; rw [cut_to]; rfl
  | succ k => right; exact ⟨c, r.take k, by rw [cut_to, e]; rfl, h1, fun x hx => h2 x (List.mem_of_mem_take hx)⟩
theorem wrd_signs {z : Str} (h : Wrd z) : ∀ x ∈ z.cps.toList, x ∈ signsL := by
  obtain ⟨c, r, e, h1, h2⟩ := h
  intro x hx
  rw [e] at hx
  rcases List.mem_cons.mp hx with rfl | hx
  · exact letters_signs h1
  · exact h2 x hx
theorem cutS_lenle (z : Str) (k : Int) (h : 0 ≤ k) : ((cutS z none (some k)).length : Int) ≤ k := by
  have e : (cutS z none (some k)).cps.toList = z.cps.toList.take k.toNat := by
    have := cut_to z k.toNat
    rw [Int.toNat_of_nonneg h] at this
    exact this
  have l := len_toList (cutS z none (some k))
  rw [e, List.length_take] at l
  omega
/-! searching -/
theorem find_at {α : Type} {p : α → Bool} {x : α} (hx : p x = true) : ∀ {l : List α} {i : Nat}, l[i]? = some x → (∀ y ∈ l.take i, p y = false) → l.find? p = some x
  | [], i, h, _ => by cases i <;> cases h
  | y :: r, 0, h, _ => by
    have e : y = x := Option.some.inj h
    subst e
    rw [List.find?_cons, hx]
  | y :: r, i + 1, h, hb => by
    rw [List.find?_cons, hb y List.mem_cons_self]
    exact find_at hx (l := r) (i := i) (by simpa using h) fun z hz => hb z (List.mem_cons_of_mem _ hz)
theorem find_no {α : Type} {p : α → Bool} {l : List α} (hb : ∀ y ∈ l, p y = false) : l.find? p = none := List.find?_eq_none.mpr fun y hy => by rw [hb y hy]; exact Bool.false_ne_true
theorem at_strs {zs : List Str} {i : Nat} {y : V} (h : (zs.map V.str)[i]? = some y) : ∃ z, zs[i]? = some z ∧ y = .str z := by
  rw [List.getElem?_map] at h
  cases e : zs[i]? with
  | none => rw [e] at h; cases h
  | some z => rw [e] at h; exact ⟨z, rfl, (Option.some.inj h).symm⟩
theorem take_all {α : Type} {P : α → Prop} {l : List α} {i : Nat} {x : α} (hi : l[i]? = some x) (h : ∀ y ∈ l.take i, P y) (hx : P x) : ∀ y ∈ l.take (i + 1), P y := fun y hy => by
  rw [take_more hi] at hy
  rcases List.mem_append.mp hy with hy | hy
  · exact h y hy
  · have : y = x := by simpa using hy
    rw [this]; exact hx
def badN (zs : List Str) : Option Str := zs.find? fun z => !isNm z
theorem badN_none {zs : List Str} (h : ∀ z ∈ zs, isNm z = true) : badN zs = none := find_no fun z hz => by rw [h z hz]; rfl
theorem badOf_none {zs : List Str} (h : ∀ z ∈ zs, isLit z = true) : badOf zs = none := find_no fun z hz => by rw [h z hz]; rfl
theorem badOf_ok {zs : List Str} (h : badOf zs = none) : ∀ z ∈ zs, isLit z = true := fun z hz => by
  have := List.find?_eq_none.mp h z hz
  cases e : isLit z with
  | true => rfl
  | false => rw [e] at this; exact absurd rfl this
/-- the loop's accumulator -/
theorem nub_step {ys acc : List Str} {i : Nat} {x : Str} (hs : ys.Pairwise fun a b => ¬ SLt b a) (hi : ys[i]? = some x) (ha : Ord acc) (hm : ∀ z, z ∈ acc ↔ z ∈ ys.take i) : (x ∈ acc → ∀ z, z ∈ acc ↔ z ∈ ys.take (i + 1)) ∧ (x ∉ acc → Ord (acc ++ [x]) ∧ ∀ z, z ∈ acc ++ [x] ↔ z ∈ ys.take (i + 1)) := by
  refine ⟨fun hx z => ?_, fun hx => ⟨ord_more hs hi ha hm hx, fun z => ?_⟩⟩
  · rw [take_more hi, List.mem_append, ← hm z]
    constructor
    · exact .inl
    · rintro (h | h)
      · exact h
      · have : z = x := by simpa using h
        rw [this]; exact hx
  · rw [take_more hi, List.mem_append, List.mem_append, ← hm z]
theorem filt1 {zs : List Str} {z : Str} (h : z ∈ zs) : [z].filter (fun z => decide (z ∈ zs)) = [z] := by simp [h]
theorem filt0 {zs : List Str} {z : Str} (h : z ∉ zs) : [z].filter (fun z => decide (z ∈ zs)) = [] := by simp [h]
theorem map_snoc (l : List Str) (z : Str) : (l ++ [z]).map V.str = l.map V.str ++ [V.str z] := by simp
theorem at_str {l : List Str} {i : Int} (h0 : 0 ≤ i) (h1 : i < (l.length : Int)) : ∃ z, z ∈ l ∧ atI (l.map V.str) i = some (.str z) := by
  have hl : i.toNat < l.length := by omega
  refine ⟨l[i.toNat], List.getElem_mem hl, ?_⟩
  unfold atI ixN
  rw [if_pos h0, if_pos (by rw [List.length_map]; omega)]
  simp [hl]
theorem flip_bare {z : Str} (h : isLit z = true) : bare (flip z) = bare z := by
  unfold flip
  cases hd : dash z with
  | true =>
    rw [if_pos rfl]
    have e : bare z = cutS z (some 1) none := by unfold bare; rw [if_pos hd]
    rw [← e]
    exact nm_bare h
  | false =>
    rw [if_neg Bool.false_ne_true, bare_app]
    unfold bare
    rw [hd, if_neg Bool.false_ne_true]
theorem same_name {y z : Str} (hy : isLit y = true) (hz : isLit z = true) (e : bare y = bare z) : y = z ∨ y = flip z := by
  have hn : isNm (bare z) = true := hz
  rcases lit_cases hy with e1 | e1
  · rcases lit_cases hz with e2 | e2
    · left; rw [e1, e, ← e2]
    · right
      have hd : dash z = true := by rw [e2]; exact dash_app _
      unfold flip
      rw [if_pos hd, e2, tail_app, e1, e]
  · rcases lit_cases hz with e2 | e2
    · right
      have hd : dash z = false := by rw [e2]; exact nm_nodash hn
      unfold flip
      rw [hd, if_neg Bool.false_ne_true, e1, e, ← e2]
    · left; rw [e1, e, ← e2]
/-- the object at c is a clause with these literals -/
def IsCl (K : PySem.W.Frag) (H : Hp) (c : Addr) (ls : List Str) : Prop := ∃ dx q, H c = some (.ins (ga K "Clause") dx [("literals", .ref q)]) ∧ H q = some (.tup (ls.map V.str))
theorem IsCl.keep {K : PySem.W.Frag} {H H' : Hp} {c : Addr} {ls : List Str} (h : IsCl K H c ls) (s : Same H H') : IsCl K H' c ls := by
  obtain ⟨dx, q, h1, h2⟩ := h
  exact ⟨dx, q, s _ _ h1, s _ _ h2⟩
theorem DpAll.strs {K : PySem.W.Frag} {H : Hp} : ∀ l : List Str, DpAll K H (l.map V.str) (l.map PyData.str)
  | [] => .nil
  | x :: r => .cons (.str x) (DpAll.strs r)
theorem litO_mem {zs : List Str} {z : Str} (h : z ∈ litO zs) : z ∈ zs := by
  unfold litO flat at h
  obtain ⟨n, _, hz⟩ := List.mem_flatMap.mp h
  exact of_decide_eq_true (List.mem_filter.mp hz).2
theorem litO_iff {zs : List Str} (h : ∀ z ∈ zs, isLit z = true) {z : Str} : z ∈ litO zs ↔ z ∈ zs := by
  refine ⟨litO_mem, fun hz => ?_⟩
  unfold litO flat
  refine List.mem_flatMap.mpr ⟨bare z, mem_srt.mpr (List.mem_map_of_mem hz), ?_⟩
  refine List.mem_filter.mpr ⟨?_, decide_eq_true hz⟩
  rcases lit_cases (h z hz) with e | e
  · rw [← e]; exact List.mem_cons_self
  · rw [← e]; exact List.mem_cons_of_mem _ List.mem_cons_self
theorem flat_find {zs : List Str} : ∀ {l : List Str}, (∀ n ∈ l, isNm n = true) → (flat zs l).find? (fun z => !dash z && decide (("-" : Str) ++ z ∈ zs)) = l.find? fun n => decide (n ∈ zs) && decide (("-" : Str) ++ n ∈ zs)
  | [], _ => rfl
  | n :: r, h => by
    have ih := flat_find (zs := zs) (l := r) fun m hm => h m (List.mem_cons_of_mem _ hm)
    have hd := nm_nodash (h n List.mem_cons_self)
    have e : flat zs (n :: r) = ([n, ("-" : Str) ++ n].filter fun z => decide (z ∈ zs)) ++ flat zs r := by unfold flat; rw [List.flatMap_cons]
    have dd : dash (("-" : Str) ++ n) = true := dash_app n
    rw [e, List.find?_append, ih]
    by_cases h1 : n ∈ zs <;> by_cases h2 : ("-" : Str) ++ n ∈ zs <;> simp [h1, h2, hd, dd]
theorem twice_eq {zs : List Str} (h : ∀ z ∈ zs, isLit z = true) : (srt (zs.map bare)).find? (fun n => decide (n ∈ zs) && decide (("-" : Str) ++ n ∈ zs)) = twice (litO zs) := by
  unfold twice
  have e : (fun z => !dash z && decide (("-" : Str) ++ z ∈ litO zs)) = fun z => !dash z && decide (("-" : Str) ++ z ∈ zs) := by
    funext z
    congr 1
    rw [Bool.eq_iff_iff]
    simp only [decide_eq_true_eq]
    exact litO_iff h
  rw [e]
  refine (flat_find fun n hn => ?_).symm
  obtain ⟨y, hy, rfl⟩ := List.mem_map.mp (mem_srt.mp hn)
  exact h y hy
theorem three {H : Hp} {q : Addr} {x y z : V} {d e f : PyData} (h : H q = some (.tup [x, y, z])) (h1 : Is H x d) (h2 : Is H y e) (h3 : Is H z f) : Is H (.ref q) (.tuple [d, e, f]) := .tup h (.cons h1 (.cons h2 (.cons h3 .nil)))
/-! rows of literals of different names, as sets -/
theorem ins_len_new {x : Str} : ∀ {l : List Str}, x ∉ l → (ins x l).length = l.length + 1
  | [], _ => rfl
  | y :: r, h => by
    have h1 : ¬ x = y := fun e => h (e ▸ List.mem_cons_self)
    have h2 : x ∉ r := fun m => h (List.mem_cons_of_mem _ m)
    have ih := ins_len_new h2
    unfold ins
    rw [if_neg h1]
    split
    · rfl
    · rw [List.length_cons, ih]
      rfl
theorem srt_len_nd : ∀ {l : List Str}, l.Nodup → (srt l).length = l.length
  | [], _ => rfl
  | x :: r, h => by
    obtain ⟨h1, h2⟩ := List.nodup_cons.mp h
    show (ins x (srt r)).length = _
    rw [ins_len_new fun m => h1 (mem_srt.mp m), srt_len_nd h2]
    rfl
theorem inj_bare : ∀ {zs : List Str}, (zs.map bare).Nodup → ∀ x ∈ zs, ∀ y ∈ zs, bare x = bare y → x = y
  | [], _, x, hx, _, _, _ => by cases hx
  | z :: r, h, x, hx, y, hy, e => by
    obtain ⟨h1, h2⟩ := List.nodup_cons.mp (show (bare z :: r.map bare).Nodup from h)
    rcases List.mem_cons.mp hx with hx' | hx'
    · rcases List.mem_cons.mp hy with hy' | hy'
      · rw [hx', hy']
      · refine absurd ?_ h1
        rw [← hx', e]
        exact List.mem_map_of_mem hy'
    · rcases List.mem_cons.mp hy with hy' | hy'
      · refine absurd ?_ h1
        rw [← hy', ← e]
        exact List.mem_map_of_mem hx'
      · exact inj_bare h2 x hx' y hy' e
theorem neg_ne (n : Str) : n ≠ ("-" : Str) ++ n := fun e => by
  have := congrArg (fun z : Str => z.cps.toList.length) e
  simp only [app_toList, List.length_append] at this
  have h1 : (("-" : Str).cps.toList).length = 1 := rfl
  omega
/-- no name in both signs -/
theorem twice_no {zs : List Str} (h : ∀ z ∈ zs, isLit z = true) (hn : (zs.map bare).Nodup) : twice (litO zs) = none := by
  rw [← twice_eq h]
  refine find_no fun n _ => ?_
  by_cases h1 : n ∈ zs
  · by_cases h2 : ("-" : Str) ++ n ∈ zs
    · refine absurd (inj_bare hn n h1 _ h2 ?_) (neg_ne n)
      rw [bare_app]
      rcases lit_cases (h n h1) with e | e
      · exact e.symm
      · exfalso
        have h3 := h _ h2
        unfold isLit at h3
        rw [bare_app] at h3
        have := nm_nodash h3
        rw [e, dash_app] at this
        cases this
    · simp [h2]
  · simp [h1]
theorem flat_len_one {zs : List Str} : ∀ {l : List Str}, (∀ n ∈ l, (n ∈ zs ∨ ("-" : Str) ++ n ∈ zs) ∧ ¬ (n ∈ zs ∧ ("-" : Str) ++ n ∈ zs)) → (flat zs l).length = l.length
  | [], _ => rfl
  | n :: r, h => by
    have ih := flat_len_one (zs := zs) (l := r) fun m hm => h m (List.mem_cons_of_mem _ hm)
    have hn := h n List.mem_cons_self
    have e : flat zs (n :: r) = ([n, ("-" : Str) ++ n].filter fun z => decide (z ∈ zs)) ++ flat zs r := by unfold flat; rw [List.flatMap_cons]
    rw [e, List.length_append, ih, List.length_cons]
    by_cases h1 : n ∈ zs <;> by_cases h2 : ("-" : Str) ++ n ∈ zs <;> simp [h1, h2] at hn ⊢ <;> omega
theorem litO_len_nd {zs : List Str} (h : ∀ z ∈ zs, isLit z = true) (hn : (zs.map bare).Nodup) : (litO zs).length = zs.length := by
  have e := srt_len_nd hn
  rw [List.length_map] at e
  rw [← e]
  refine flat_len_one fun n hm => ?_
  obtain ⟨y, hy, rfl⟩ := List.mem_map.mp (mem_srt.mp hm)
  constructor
  · rcases lit_cases (h y hy) with e | e
    · left; rw [← e]; exact hy
    · right; rw [← e]; exact hy
  · rintro ⟨h1, h2⟩
    refine neg_ne (bare y) (inj_bare hn _ h1 _ h2 ?_)
    rw [bare_app, nm_bare (h y hy)]
theorem filt_nd {zs : List Str} (p : Str → Bool) (hn : (zs.map bare).Nodup) : ((zs.filter p).map bare).Nodup := hn.sublist ((List.filter_sublist (l := zs)).map bare)
/-- a row of at most six literals of different names -/
structure Row6 (zs : List Str) : Prop where
  len : zs.length ≤ 6
  lit : ∀ z ∈ zs, isLit z = true
  nd : (zs.map bare).Nodup
theorem Row6.filter {zs : List Str} (h : Row6 zs) (p : Str → Bool) : Row6 (zs.filter p) := ⟨by have := List.length_filter_le p zs; have := h.len; omega, fun z hz => h.lit z (List.mem_filter.mp hz).1, filt_nd p h.nd⟩
theorem Row6.reverse {zs : List Str} (h : Row6 zs) : Row6 zs.reverse := ⟨by rw [List.length_reverse]; exact h.len, fun z hz => h.lit z (List.mem_reverse.mp hz), by rw [List.map_reverse]; exact List.pairwise_reverse.mpr (h.nd.imp Ne.symm)⟩
theorem Row6.litO {zs : List Str} (h : Row6 zs) : (litO zs).length = zs.length := litO_len_nd h.lit h.nd
theorem Row6.mem {zs : List Str} (h : Row6 zs) {z : Str} : z ∈ Rd.litO zs ↔ z ∈ zs := litO_iff h.lit
theorem ord_nodup {l : List Str} (h : Ord l) : l.Nodup := List.Pairwise.imp (S := fun a b => a ≠ b) (fun {a b} (h : SLt a b) (e : a = b) => SLt.irr (by rw [e] at h; exact h)) h
/-! lists of texts: comprehensions, joining -/
def gS (g : Str → V) : V → V
  | .str z => g z
  | _ => .non
theorem map_gS (g : Str → V) (zs : List Str) : (zs.map V.str).map (gS g) = zs.map g := by rw [List.map_map]; rfl
theorem lcS_map {K : PySem.W.Frag} {H1 : Hp} {σ : L2.St} {Q : VK} {v : Nat} {te : TE} {x : V} {zs : List Str} (g : Str → V) (hx : Items K H1 x (zs.map V.str)) (hl : zs.length ≤ 1000000)
    (hf : ∀ z ∈ zs, ∀ H', Same H1 H' → ∀ Q' : VK, (∀ H'', Same H' H'' → Q' (g z) H'') → te (σ.set v (some (.str z))) H' Q')
    (hq : ∀ D H', H1 D = none → Same H1 H' → H' D = some (.lst (zs.map g)) → Q (.ref D) H') : LcBody K (gName v) tYes te [v] σ Q x H1 := by
  refine lcb_map (gS g) hx (by rw [List.length_map]; exact hl) ?_ ?_
  · intro x hx H' s Q' hQ
    obtain ⟨z, hz, rfl⟩ := List.mem_map.mp hx
    exact hf z hz H' s Q' hQ
  · intro D H' h0 s h
    rw [map_gS] at h
    exact hq D H' h0 s h
theorem lcS_str {K : PySem.W.Frag} {H1 : Hp} {σ : L2.St} {Q : VK} {v : Nat} {te : TE} {x : V} {zs : List Str} (f : Str → Str) (hx : Items K H1 x (zs.map V.str)) (hl : zs.length ≤ 1000000)
    (hf : ∀ z ∈ zs, ∀ H', Same H1 H' → ∀ Q' : VK, (∀ H'', Same H' H'' → Q' (.str (f z)) H'') → te (σ.set v (some (.str z))) H' Q')
    (hq : ∀ D H', H1 D = none → Same H1 H' → H' D = some (.lst ((zs.map f).map V.str)) → Q (.ref D) H') : LcBody K (gName v) tYes te [v] σ Q x H1 :=
  lcS_map (fun z => .str (f z)) hx hl hf fun D H' h0 s h => hq D H' h0 s (by rw [h, List.map_map]; rfl)
theorem same_un {H H' : Hp} {q : Addr} (s : Same H H') (h : H' q = none) : H q = none := by
  cases e : H q with
  | none => rfl
  | some o => rw [s _ _ e] at h; cases h
theorem same_put {H H' : Hp} {q : Addr} {o : HO} (s : Same H H') (h : H q = none) : Same H (upd H' q o) := fun b u e => by
  rw [upd_ne (ne_of_none e h)]
  exact s _ _ e
/-! [e for k in range(j)], e draws from the source -/
/-! turnings -/
def IsTu (K : PySem.W.Frag) (H : Hp) (c : Addr) (ns : List Str) : Prop := ∃ dx q, H c = some (.ins (ga K "Turning") dx [("turned", .ref q)]) ∧ H q = some (.tup (ns.map V.str))
theorem IsTu.keep {K : PySem.W.Frag} {H H' : Hp} {c : Addr} {ns : List Str} (h : IsTu K H c ns) (s : Same H H') : IsTu K H' c ns := by
  obtain ⟨dx, q, h1, h2⟩ := h
  exact ⟨dx, q, s _ _ h1, s _ _ h2⟩
/-- a turning of the names is made, or refused -/
structure ChT (K : PySem.W.Frag) (zs : List Str) (H : Hp) (E : XK) (ok : Prop) : Prop where
  bad : ∀ z, badN zs = some z → ∀ H' d, Same H H' → H' d = some (.xd [("text", .str z)]) → E (.ref (ga K "BadName")) (some d) H'
  many : badN zs = none → (12 : Int) < ((srt zs).length : Int) → ∀ H' d, Same H H' → H' d = some (.xd [("limit", .int 12)]) → E (.ref (ga K "TooMany")) (some d) H'
  fine : badN zs = none → ((srt zs).length : Int) ≤ 12 → ok
theorem ChT.keep {K : PySem.W.Frag} {zs : List Str} {H H1 : Hp} {E : XK} {ok ok' : Prop} (h : ChT K zs H E ok) (s : Same H H1) (f : ok → ok') : ChT K zs H1 E ok' :=
  ⟨fun z e H' d s' => h.bad z e H' d (s.trans s'), fun e e2 H' d s' => h.many e e2 H' d (s.trans s'), fun e e2 => f (h.fine e e2)⟩
abbrev CkT (K : PySem.W.Frag) (zs : List Str) (H : Hp) (Q : VK) (E : XK) : Prop := ChT K zs H E (∀ H' c, Same H H' → H c = none → IsTu K H' c (srt zs) → Q (.ref c) H')
theorem CkT.keep {K : PySem.W.Frag} {zs : List Str} {H H1 : Hp} {Q : VK} {E : XK} (h : CkT K zs H Q E) (s : Same H H1) : CkT K zs H1 Q E := ChT.keep h s fun ok H' c s2 hc => ok H' c (s.trans s2) (same_un s hc)
/-- names, in order, each once -/
structure Tn (ns : List Str) : Prop where
  nm : ∀ z ∈ ns, isNm z = true
  ord : Ord ns
  len : ns.length ≤ 12
theorem Tn.srt {ns : List Str} (h : Tn ns) : srt ns = ns := (srt_eq h.ord fun _ => Iff.rfl).symm
theorem Tn.of {zs : List Str} (hn : ∀ z ∈ zs, isNm z = true) (hl : (Rd.srt zs).length ≤ 12) : Tn (Rd.srt zs) := ⟨fun z h => hn z (mem_srt.mp h), ord_srt zs, hl⟩
theorem nm_short {z : Str} (h : isNm z = true) : z.length ≤ 8 := by obtain ⟨_, _, _, _, _, _, h8⟩ := nm_first h; exact h8
/-- a literal turned -/
def turnL (ns : List Str) (z : Str) : Str := if bare z ∈ ns then flip z else z
theorem turnL_lit {ns : List Str} {z : Str} (h : isLit z = true) : isLit (turnL ns z) = true := by
  unfold turnL
  split
  · exact flip_lit h
  · exact h
theorem turnL_bare {ns : List Str} {z : Str} (h : isLit z = true) : bare (turnL ns z) = bare z := by
  unfold turnL
  split
  · exact flip_bare h
  · rfl
/-- a turning of the ordered names is made, or refused -/
def MkT (K : PySem.W.Frag) (ns : List Str) (H : Hp) (Q : VK) (E : XK) : Prop := (ns.length ≤ 12 → ∀ H' c, Same H H' → H c = none → IsTu K H' c ns → Q (.ref c) H') ∧ (12 < ns.length → ∀ H' d, Same H H' → H' d = some (.xd [("limit", .int 12)]) → E (.ref (ga K "TooMany")) (some d) H')
theorem MkT.keep {K : PySem.W.Frag} {ns : List Str} {H H1 : Hp} {Q : VK} {E : XK} (h : MkT K ns H Q E) (s : Same H H1) : MkT K ns H1 Q E := ⟨fun l H' c s2 hc => h.1 l H' c (s.trans s2) (same_un s hc), fun l H' d s2 => h.2 l H' d (s.trans s2)⟩
theorem MkT.fine {K : PySem.W.Frag} {ns : List Str} {H : Hp} {Q : VK} {E : XK} (hl : ns.length ≤ 12) (h : ∀ H' c, Same H H' → H c = none → IsTu K H' c ns → Q (.ref c) H') : MkT K ns H Q E := ⟨fun _ => h, fun l => by omega⟩
theorem Row6.turn {zs : List Str} (h : Row6 zs) (ns : List Str) : Row6 (zs.map (turnL ns)) := ⟨by rw [List.length_map]; exact h.len, fun z hz => by
    obtain ⟨y, hy, rfl⟩ := List.mem_map.mp hz
    exact turnL_lit (h.lit y hy), by
    have e : (zs.map (turnL ns)).map bare = zs.map bare := by
      rw [List.map_map]
      exact List.map_congr_left fun z hz => turnL_bare (h.lit z hz)
    rw [e]
    exact h.nd⟩
theorem flip_flip {z : Str} (h : isLit z = true) : flip (flip z) = z := by
  rcases same_name (flip_lit (flip_lit h)) h (by rw [flip_bare (flip_lit h), flip_bare h]) with e | e
  · exact e
  · exfalso
    have key : ∀ w : Str, isLit w = true → flip w ≠ w := fun w hw e => by
      unfold flip at e
      cases hd : dash w with
      | true =>
        rw [hd, if_pos rfl] at e
        have := len_toList (cutS w (some 1) none)
        have h2 := len_toList w
        rw [cut_tail, List.length_drop, e] at this
        obtain ⟨r, hr⟩ := (dash_iff w).mp hd
        rw [hr] at this h2
        simp at this h2
        omega
      | false =>
        rw [hd, if_neg Bool.false_ne_true] at e
        exact neg_ne w e.symm
    exact key _ (flip_lit h) e
/-- a list of different names, at most 12 -/
structure Nms (zs : List Str) : Prop where
  len : zs.length ≤ 12
  nm : ∀ z ∈ zs, isNm z = true
  nd : zs.Nodup
theorem Row6.sub {zs ys : List Str} (h : Row6 zs) (s : ys.Sublist zs) : Row6 ys := ⟨Nat.le_trans s.length_le h.len, fun z hz => h.lit z (s.subset hz), h.nd.sublist (s.map bare)⟩
theorem IsTu.upd {K : PySem.W.Frag} {H : Hp} {c D : Addr} {ns : List Str} {zs ws : List V} (h : IsTu K H c ns) (hD : H D = some (.lst zs)) : IsTu K (L2.upd H D (.lst ws)) c ns := by
  obtain ⟨dx, q, h1, h2⟩ := h
  refine ⟨dx, q, ?_, ?_⟩
  · rw [upd_ne (fun e => by rw [e, hD] at h1; cases h1)]; exact h1
  · rw [upd_ne (fun e => by rw [e, hD] at h2; cases h2)]; exact h2
theorem Nms.sub {l zs : List Str} (hn : ∀ z ∈ l, isNm z = true) (hd : l.Nodup) (s : zs.Sublist l) (hl : zs.length ≤ 12) : Nms zs := ⟨hl, fun z h => hn z (s.subset h), hd.sublist s⟩
theorem Nms.rev {zs : List Str} (h : Nms zs) : Nms zs.reverse := ⟨by rw [List.length_reverse]; exact h.len, fun z hz => h.nm z (List.mem_reverse.mp hz), List.pairwise_reverse.mpr (h.nd.imp Ne.symm)⟩
/-- three lists of names -/
structure Rows3 (H : Hp) (r : Addr) (rs : List Addr) (zss : List (List Str)) : Prop where
  at_ : H r = some (.lst (rs.map V.ref))
  lr : rs.length = 3
  lz : zss.length = 3
  row : ∀ i, i < 3 → ∃ q z, rs[i]? = some q ∧ zss[i]? = some z ∧ H q = some (.lst (z.map V.str)) ∧ Nms z
theorem Rows3.keep {H H' : Hp} {r : Addr} {rs : List Addr} {zss : List (List Str)} (h : Rows3 H r rs zss) (s : Same H H') : Rows3 H' r rs zss := ⟨s _ _ h.at_, h.lr, h.lz, fun i hi => by
  obtain ⟨q, z, h1, h2, h3, h4⟩ := h.row i hi
  exact ⟨q, z, h1, h2, s _ _ h3, h4⟩⟩
theorem Rows3.of {H : Hp} {r q0 q1 q2 : Addr} {z0 z1 z2 : List Str} (h : H r = some (.lst [.ref q0, .ref q1, .ref q2])) (h0 : H q0 = some (.lst (z0.map V.str))) (h1 : H q1 = some (.lst (z1.map V.str))) (h2 : H q2 = some (.lst (z2.map V.str))) (n0 : Nms z0) (n1 : Nms z1) (n2 : Nms z2) : Rows3 H r [q0, q1, q2] [z0, z1, z2] := ⟨h, rfl, rfl, fun i hi => by
  match i, hi with
  | 0, _ => exact ⟨_, _, rfl, rfl, h0, n0⟩
  | 1, _ => exact ⟨_, _, rfl, rfl, h1, n1⟩
  | 2, _ => exact ⟨_, _, rfl, rfl, h2, n2⟩⟩
/-! books -/
/-- number, clause, its literals -/
abbrev BRow := Int × Addr × List Str
def kvB (rows : List BRow) : List (Key × V) := rows.map fun r => (Sum.inl r.1, V.ref r.2.1)
/-- the book at b, its dict at d -/
structure IsBk (K : PySem.W.Frag) (H : Hp) (b d : Addr) (rows : List BRow) (g : Int) : Prop where
  ob : ∃ dx, H b = some (.ins (ga K "Book") dx [("rows", .ref d), ("greatest", .int g)])
  di : H d = some (.dK (kvB rows))
  cl : ∀ r ∈ rows, IsCl K H r.2.1 r.2.2
theorem IsBk.keep {K : PySem.W.Frag} {H H' : Hp} {b d : Addr} {rows : List BRow} {g : Int} (h : IsBk K H b d rows g) (s : Same H H') : IsBk K H' b d rows g := by
  obtain ⟨dx, o⟩ := h.ob
  exact ⟨⟨dx, s _ _ o⟩, s _ _ h.di, fun r hr => (h.cl r hr).keep s⟩
/-- all but the two objects stands -/
def Chg (b d : Addr) (H H' : Hp) : Prop := ∀ a o, H a = some o → a ≠ b → a ≠ d → H' a = some o
theorem Chg.refl (b d : Addr) (H : Hp) : Chg b d H H := fun _ _ h _ _ => h
theorem Chg.trans {b d : Addr} {H H1 H2 : Hp} (x : Chg b d H H1) (y : Chg b d H1 H2) : Chg b d H H2 := fun a o h n m => y a o (x a o h n m) n m
theorem Same.chg {b d : Addr} {H H1 : Hp} (s : Same H H1) : Chg b d H H1 := fun a o h _ _ => s a o h
theorem chg_b {b d : Addr} {H : Hp} {o : HO} : Chg b d H (upd H b o) := fun a u h n _ => by rw [upd_ne n]; exact h
theorem chg_d {b d : Addr} {H : Hp} {o : HO} : Chg b d H (upd H d o) := fun a u h _ n => by rw [upd_ne n]; exact h
theorem ne_fs {H : Hp} {a b C C' dx dx' : Addr} {fs fs' : List (Str × V)} (h1 : H a = some (.ins C dx fs)) (h2 : H b = some (.ins C' dx' fs')) (hl : fs.length ≠ fs'.length) : a ≠ b := fun e => by
  rw [e, h2] at h1
  have h3 := Option.some.inj h1
  injection h3 with _ _ h4
  exact hl (by rw [h4])
theorem IsCl.chg {K : PySem.W.Frag} {H H' : Hp} {b d c : Addr} {rows : List BRow} {g : Int} {ls : List Str} (h : IsCl K H c ls) (B : IsBk K H b d rows g) (s : Chg b d H H') : IsCl K H' c ls := by
  obtain ⟨dx, q, h1, h2⟩ := h
  obtain ⟨dy, o⟩ := B.ob
  exact ⟨dx, q, s _ _ h1 (ne_fs h1 o (by simp)) (ne_of h1 B.di (fun z => by cases z)), s _ _ h2 (ne_of h2 o (fun z => by cases z)) (ne_of h2 B.di (fun z => by cases z))⟩
theorem IsBk.ne {K : PySem.W.Frag} {H : Hp} {b d : Addr} {rows : List BRow} {g : Int} (B : IsBk K H b d rows g) : b ≠ d := by
  obtain ⟨dx, o⟩ := B.ob
  exact ne_of o B.di (fun z => by cases z)
theorem map_str_inj : ∀ {a b : List Str}, a.map V.str = b.map V.str → a = b
  | [], [], _ => rfl
  | [], _ :: _, h => by cases h
  | _ :: _, [], h => by cases h
  | x :: a, y :: b, h => by
    injection h with h1 h2
    injection h1 with h1
    rw [h1, map_str_inj h2]
theorem IsCl.fn {K : PySem.W.Frag} {H : Hp} {c : Addr} {l1 l2 : List Str} (h1 : IsCl K H c l1) (h2 : IsCl K H c l2) : l1 = l2 := by
  obtain ⟨dx, q, a1, a2⟩ := h1
  obtain ⟨dy, q', b1, b2⟩ := h2
  rw [a1] at b1
  have e := Option.some.inj b1
  injection e with _ _ e
  injection e with e _
  injection e with _ e
  injection e with e
  subst e
  rw [a2] at b2
  have e := Option.some.inj b2
  injection e with e
  exact map_str_inj e
/-- names of some literals, in order -/
def nmsO (ls : List Str) : List Str := srt (ls.map bare)
/-- a book's rows are in order, its literals are literals, there aren't many -/
structure Bok (rows : List BRow) (g : Int) : Prop where
  asc : (rows.map (·.1)).Pairwise (· < ·)
  top : ∀ r ∈ rows, 1 ≤ r.1 ∧ r.1 ≤ g
  lit : ∀ r ∈ rows, ∀ z ∈ r.2.2, isLit z = true
  few : (rows.flatMap (·.2.2)).length ≤ 900
  len : rows.length ≤ 100
theorem valB (rows : List BRow) (n : Int) : valV (kvB rows) (Sum.inl n) = (rows.find? fun r => decide (r.1 = n)).map fun r => V.ref r.2.1 := by
  unfold valV kvB
  rw [List.find?_map, Option.map_map]
  have e : ((fun kv : Key × V => decide (kv.1 = Sum.inl n)) ∘ fun r : BRow => ((Sum.inl r.1 : Key), V.ref r.2.1)) = fun r => decide (r.1 = n) := by
    funext r
    show decide ((Sum.inl r.1 : Key) = Sum.inl n) = decide (r.1 = n)
    by_cases h : r.1 = n
    · rw [h]; simp
    · rw [decide_eq_false h, decide_eq_false (fun z => h (Sum.inl.inj z))]
  rw [e]
  rfl
theorem hasB (rows : List BRow) (n : Int) : (valV (kvB rows) (Sum.inl n)).isSome = decide (n ∈ rows.map (·.1)) := by
  rw [valB, Option.isSome_map, Bool.eq_iff_iff, List.find?_isSome, decide_eq_true_iff, List.mem_map]
  constructor
  · rintro ⟨r, hr, h⟩
    exact ⟨r, hr, of_decide_eq_true h⟩
  · rintro ⟨r, hr, h⟩
    exact ⟨r, hr, decide_eq_true h⟩
theorem putB_new {rows : List BRow} {n : Int} {c : Addr} (ls : List Str) (h : n ∉ rows.map (·.1)) : putK (kvB rows) (Sum.inl n) (V.ref c) = kvB (rows ++ [(n, c, ls)]) := by
  unfold putK
  rw [valV_any, hasB, decide_eq_false h, if_neg Bool.false_ne_true]
  unfold kvB
  rw [List.map_append]
  rfl
theorem dropB (rows : List BRow) (n : Int) : dropK (kvB rows) (Sum.inl n) = kvB (rows.filter fun r => decide (r.1 ≠ n)) := by
  unfold dropK kvB
  rw [List.filter_map]
  congr 1
  apply List.filter_congr
  intro r _
  show decide ((Sum.inl r.1 : Key) ≠ Sum.inl n) = decide (r.1 ≠ n)
  by_cases h : r.1 = n
  · simp [h]
  · have h2 : ¬ ((Sum.inl r.1 : Key) = Sum.inl n) := fun z => h (Sum.inl.inj z)
    simp [h, h2]
theorem kvB_len (rows : List BRow) : (kvB rows).length = rows.length := by unfold kvB; rw [List.length_map]
theorem kvB_vals (rows : List BRow) : (kvB rows).map Prod.snd = rows.map fun r => V.ref r.2.1 := by unfold kvB; rw [List.map_map]; rfl
/-- the row with a number -/
def rowAt (rows : List BRow) (n : Int) : Option BRow := rows.find? fun r => decide (r.1 = n)
theorem rowAt_mem {rows : List BRow} {n : Int} {r : BRow} (h : rowAt rows n = some r) : r ∈ rows ∧ r.1 = n := by
  have h' : rows.find? (fun r => decide (r.1 = n)) = some r := h
  exact ⟨List.mem_of_find?_eq_some h', by simpa using List.find?_some h'⟩
theorem rowAt_some {rows : List BRow} {n : Int} (h : n ∈ rows.map (·.1)) : ∃ r, rowAt rows n = some r := by
  unfold rowAt
  rw [← Option.isSome_iff_exists, List.find?_isSome]
  obtain ⟨r, hr, e⟩ := List.mem_map.mp h
  exact ⟨r, hr, decide_eq_true e⟩
theorem few_filter {rows : List BRow} {p : BRow → Bool} : ((rows.filter p).flatMap (·.2.2)).length ≤ (rows.flatMap (·.2.2)).length := by
  induction rows with
  | nil => exact Nat.le_refl _
  | cons r rs ih =>
    rw [List.filter_cons]
    split
    · rw [List.flatMap_cons, List.flatMap_cons, List.length_append, List.length_append]
      omega
    · rw [List.flatMap_cons, List.length_append]
      omega
theorem Bok.drop {rows : List BRow} {g : Int} (h : Bok rows g) (p : BRow → Bool) : Bok (rows.filter p) g :=
  ⟨(h.asc.sublist (List.filter_sublist.map _)), fun r hr => h.top r (List.mem_filter.mp hr).1, fun r hr => h.lit r (List.mem_filter.mp hr).1, Nat.le_trans few_filter h.few, Nat.le_trans (List.length_filter_le _ _) h.len⟩
theorem Bok.put {rows : List BRow} {g : Int} {c : Addr} {ls : List Str} (h : Bok rows g) (hg : 0 ≤ g) (hl : ∀ z ∈ ls, isLit z = true) (hf : (rows.flatMap (·.2.2)).length + ls.length ≤ 900) (hn : rows.length < 100) : Bok (rows ++ [(g + 1, c, ls)]) (g + 1) := by
  refine ⟨?_, fun r hr => ?_, fun r hr => ?_, ?_, ?_⟩
  · rw [List.map_append, List.pairwise_append]
    refine ⟨h.asc, List.pairwise_singleton _ _, fun a ha b hb => ?_⟩
    obtain ⟨r, hr, rfl⟩ := List.mem_map.mp ha
    have : b = g + 1 := by simpa using hb
    have := h.top r hr
    omega
  · rcases List.mem_append.mp hr with hr | hr
    · have := h.top r hr
      omega
    · have e : r = (g + 1, c, ls) := by simpa using hr
      subst e
      exact ⟨by show 1 ≤ g + 1; omega, by show g + 1 ≤ g + 1; omega⟩
  · rcases List.mem_append.mp hr with hr | hr
    · exact h.lit r hr
    · have e : r = (g + 1, c, ls) := by simpa using hr
      subst e
      exact hl
  · rw [List.flatMap_append, List.length_append]
    simp only [List.flatMap_cons, List.flatMap_nil, List.append_nil]
    exact hf
  · rw [List.length_append]
    show rows.length + 1 ≤ 100
    omega
theorem Bok.fresh {rows : List BRow} {g : Int} (h : Bok rows g) : g + 1 ∉ rows.map (·.1) := fun m => by
  obtain ⟨r, hr, e⟩ := List.mem_map.mp m
  have := h.top r hr
  omega
/-- TooMany is raised -/
def ErrM (K : PySem.W.Frag) (n : Int) (H : Hp) (E : XK) : Prop := ∀ H' d, Same H H' → H' d = some (.xd [("limit", .int n)]) → E (.ref (ga K "TooMany")) (some d) H'
theorem ErrM.keep {K : PySem.W.Frag} {n : Int} {H H1 : Hp} {E : XK} (h : ErrM K n H E) (s : Same H H1) : ErrM K n H1 E := fun H' d s' hd => h H' d (s.trans s') hd
/-- why a book has no room: too many clauses, too many names -/
def roomErr (rows : List BRow) (ls : List Str) : Option Int := if 24 ≤ rows.length then some 24 else if 12 < (nmsO (rows.flatMap (·.2.2) ++ ls)).length then some 12 else none
theorem rowsC {rows : List BRow} : (rows.map fun r => V.ref r.2.1) = (rows.map fun r => ((r.2.1, r.2.2) : Addr × List Str)).map fun r => V.ref r.1 := by rw [List.map_map]; rfl
theorem rowsF {rows : List BRow} : (rows.map fun r => ((r.2.1, r.2.2) : Addr × List Str)).flatMap (·.2) = rows.flatMap (·.2.2) := by rw [List.flatMap_map]
/-- NoClause is raised -/
def ErrN (K : PySem.W.Frag) (n : Int) (H : Hp) (E : XK) : Prop := ∀ H' d, Same H H' → H' d = some (.xd [("number", .int n)]) → E (.ref (ga K "NoClause")) (some d) H'
theorem s_inB {K : PySem.W.Frag} {H : Hp} {d : Addr} {rows : List BRow} {n : Int} {neg : Bool} {Q : VK} (hd : H d = some (.dK (kvB rows))) (h : Q (.bl (tgtIn neg (decide (n ∈ rows.map (·.1))))) H) : rInP K neg (.int n) (.ref d) H Q :=
  .inr ⟨_, DGet.k (k := Sum.inl n) hd, by rw [hasB]; exact h⟩
/-- a list of rows: addresses with their texts -/
structure IsRw (H : Hp) (p : Addr) (rs : List (Addr × List Str)) : Prop where
  li : H p = some (.lst (rs.map fun r => V.ref r.1))
  ro : ∀ r ∈ rs, H r.1 = some (.lst (r.2.map V.str))
theorem IsRw.keep {H H' : Hp} {p : Addr} {rs : List (Addr × List Str)} (h : IsRw H p rs) (s : Same H H') : IsRw H' p rs := ⟨s _ _ h.li, fun r hr => s _ _ (h.ro r hr)⟩
/-- number, clause, the row's list, the row -/
abbrev TRow := Int × Addr × Addr × List Str
def bkT (tb : List TRow) : List BRow := tb.map fun r => (r.1, r.2.1, litO r.2.2.2)
def rwT (tb : List TRow) : List (Addr × List Str) := tb.map fun r => (r.2.2.1, r.2.2.2)
def nuT (tb : List TRow) : List Int := tb.map (·.1)
theorem bkT_nums (tb : List TRow) : (bkT tb).map (·.1) = nuT tb := by unfold bkT nuT; rw [List.map_map]; rfl
theorem bkT_len (tb : List TRow) : (bkT tb).length = tb.length := by unfold bkT; rw [List.length_map]
theorem nmsT {tb : List TRow} (h : ∀ r ∈ tb, Row6 r.2.2.2) : nmsO ((bkT tb).flatMap (·.2.2)) = nmsO ((rwT tb).flatMap (·.2)) := by
  unfold nmsO
  refine srt_congr fun x => ?_
  unfold bkT rwT
  rw [List.flatMap_map, List.flatMap_map]
  simp only [List.mem_map, List.mem_flatMap]
  constructor
  · rintro ⟨z, ⟨r, hr, hz⟩, e⟩
    exact ⟨z, ⟨r, hr, litO_mem hz⟩, e⟩
  · rintro ⟨z, ⟨r, hr, hz⟩, e⟩
    exact ⟨z, ⟨r, hr, (litO_iff (h r hr).lit).mpr hz⟩, e⟩
/-- [e for k in range(j)]: the i-th value has P i, the heap only grows -/
theorem lcr_rel {H1 : Hp} {σ : L2.St} {Q : VK} {v : Nat} {te : TE} {j : Int} (P : Nat → V → Hp → Prop) (hk : ∀ i y H H', P i y H → Same H H' → P i y H') (hu : ∀ i y H D zs ws, P i y H → H D = some (.lst zs) → P i y (upd H D (.lst ws))) (h1 : j ≤ 1000000) (h0 : -1000000 ≤ j)
    (hf : ∀ i : Nat, (i : Int) < j → ∀ H', Same H1 H' → ∀ Q' : VK, (∀ H'' y, Same H' H'' → P i y H'' → Q' y H'') → te (σ.set v (some (.int i))) H' Q')
    (hq : ∀ D H' (ys : List V), H1 D = none → Same H1 H' → H' D = some (.lst ys) → ys.length = j.toNat → (∀ i y, ys[i]? = some y → P i y H') → Q (.ref D) H') : LcBodyR (gName v) tYes te [v] σ Q [.int j] H1 := by
  refine ⟨j, rfl, by omega, by omega, ?_⟩
  intro Dr hD
  have hxl : ((List.range j.toNat).map fun (i : Nat) => V.int (0 + (i : Int))).length = j.toNat := by rw [List.length_map, List.length_range]
  refine lc_y (xs := (List.range j.toNat).map fun (i : Nat) => V.int (0 + (i : Int))) (fun i H => Same H1 H ∧ ∃ ys : List V, ys.length = i ∧ H Dr = some (.lst ys) ∧ ∀ k y, ys[k]? = some y → P k y H)
    ⟨same_new hD, [], rfl, upd_same, fun k z h => by simp at h⟩ (fun i H _ _ => yields_range 0 j.toNat i H) ?_ ?_
  · rintro i x H hi ⟨sm, ys, hl', hz, hP⟩
    have hij : i < j.toNat := by have := (List.getElem?_eq_some_iff.mp hi).1; rw [hxl] at this; exact this
    have ex : x = .int (i : Int) := by
      rw [List.getElem?_map, List.getElem?_range hij] at hi
      have : V.int (0 + (i : Int)) = x := by simpa using hi
      rw [← this, Int.zero_add]
    subst ex
    have e1 : wipe σ [v] = σ.set v none := rfl
    rw [e1]
    have e2 : (σ.set v none).set v (some (.int (i : Int))) = σ.set v (some (.int (i : Int))) := by rw [List.set_set]
    have e3 : wipe (σ.set v (some (.int (i : Int)))) [v] = σ.set v none := by show (σ.set v (some _)).set v none = _; rw [List.set_set]
    unfold gName
    rw [e2]
    refine ⟨e3, ?_⟩
    unfold tYes
    dsimp only
    rw [if_pos rfl]
    refine hf i (by omega) H sm _ fun H'' y s2 hp => ?_
    have hz2 := s2 _ _ hz
    refine ⟨ys, hz2, by rw [hl', sizeLine_eq]; omega, fun b o e => ?_, ys ++ [y], by rw [List.length_append, hl']; rfl, upd_same, fun k u hk' => ?_⟩
    · rw [upd_ne (ne_of_none e hD)]
      exact s2 _ _ (sm _ _ e)
    · refine hu k u H'' Dr ys _ ?_ hz2
      by_cases hlt : k < ys.length
      · rw [List.getElem?_append_left hlt] at hk'
        exact hk k u H H'' (hP k u hk') s2
      · rw [List.getElem?_append_right (by omega)] at hk'
        have hk0 : k = ys.length := by
          have := (List.getElem?_eq_some_iff.mp hk').1
          simp at this
          omega
        subst hk0
        have : y = u := by simpa using hk'
        subst this
        rw [hl']
        exact hp
  · rintro H ⟨sm, ys, hl', hz, hP⟩
    rw [hxl] at hl'
    exact hq Dr H ys hD sm hz hl' hP
theorem pick {α β : Type} : ∀ {ys : List α} {P : Nat → α → β → Prop}, (∀ i y, ys[i]? = some y → ∃ b, P i y b) → ∃ bs : List β, bs.length = ys.length ∧ ∀ i y b, ys[i]? = some y → bs[i]? = some b → P i y b
  | [], P, _ => ⟨[], rfl, fun i y b h _ => by simp at h⟩
  | a :: l, P, h => by
    obtain ⟨b, hb⟩ := h 0 a rfl
    obtain ⟨bs, e, hbs⟩ := pick (ys := l) (P := fun i => P (i + 1)) fun i y hy => h (i + 1) y (by simpa using hy)
    refine ⟨b :: bs, by simp [e], fun i y c hy hc => ?_⟩
    cases i with
    | zero =>
      have e1 : a = y := by simpa using hy
      have e2 : b = c := by simpa using hc
      subst e1 e2
      exact hb
    | succ i => exact hbs i y c (by simpa using hy) (by simpa using hc)
/-! data and the heap: the law's source, clauses, rows -/
open Dx
def IsSrcD (c : D) : Prop := ∃ (cells : List Int) (i cur cnt mode : Int), c = .lst [.lst (cells.map .int), .int i, .int cur, .int cnt, .int mode] ∧ 0 ≤ i ∧ cells.length ≤ 100
def IsSrc (S : Sto) (n : Nat) : Prop := ∃ c, S[n]? = some c ∧ IsSrcD c
theorem IsSrc.lt {S : Sto} {n : Nat} (h : IsSrc S n) : n < S.length := by
  obtain ⟨c, e, _⟩ := h
  exact (List.getElem?_eq_some_iff.mp e).1
theorem IsSrc.app {S G : Sto} {n : Nat} (h : IsSrc S n) : IsSrc (S ++ G) n := by
  obtain ⟨c, e, i⟩ := h
  exact ⟨c, by rw [List.getElem?_append_left ((List.getElem?_eq_some_iff.mp e).1)]; exact e, i⟩
theorem IsSrc.set {S : Sto} {n : Nat} {c : D} (h : IsSrc S n) (i : IsSrcD c) : IsSrc (S.set n c) n := ⟨c, by rw [List.getElem?_set_self h.lt], i⟩
theorem IsSrcD.lt {c : D} (h : IsSrcD c) (b : Nat) : ltD b c := by
  obtain ⟨cells, i, cur, cnt, mode, rfl, _⟩ := h
  exact lt_lst (lt_cons (lt_lst (ltL_map fun _ => lt_int)) (lt_cons lt_int (lt_cons lt_int (lt_cons lt_int (lt_cons lt_int lt_nil)))))
theorem kept_src {S G : Sto} {n : Nat} {c : D} (hn : n < S.length) (i : IsSrcD c) : Kept S (S.set n c ++ G) := by
  refine ⟨by rw [List.length_append, List.length_set]; omega, fun m d hm e => ?_⟩
  rw [List.getElem?_append_left (by rw [List.length_set]; exact hm)] at e
  by_cases h : n = m
  · subst h
    rw [List.getElem?_set_self hn] at e
    cases e
    exact .inr (i.lt _)
  · rw [List.getElem?_set_ne h] at e
    exact .inl e
theorem take_src {S G : Sto} {n : Nat} {c : D} : (S.set n c ++ G).take S.length = S.set n c := by
  have := List.take_left (l₁ := S.set n c) (l₂ := G)
  rwa [List.length_set] at this
section
variable {K : PySem.W.Frag} {H H' : Hp} {A : Ads} {S : Sto} {n : Nat} {a : Addr} {v : V}
theorem int_of {i : Int} {v : V} (t : Dt K H A v (.int i)) : v = .int i := by cases t; rfl
theorem ints_at {ns : List Int} {v : V} (t : Dt K H A v (.lst (ns.map .int))) : ∃ a, v = .ref a ∧ H a = some (.lst (ns.map V.int)) ∧ Out A a := by
  cases t with
  | lst h o r => rw [r.intsV] at h; exact ⟨_, rfl, h, o⟩
theorem strs_at {ns : List Str} {v : V} (t : Dt K H A v (.lst (ns.map .str))) : ∃ a, v = .ref a ∧ H a = some (.lst (ns.map V.str)) ∧ Out A a := by
  cases t with
  | lst h o r => rw [r.strsV] at h; exact ⟨_, rfl, h, o⟩
theorem lsI {d : D} {ns : List Int} (C : Cells K H A S) (t : Dt K H A v d) (e : rs S d = .lst (ns.map .int)) : ∃ a, v = .ref a ∧ H a = some (.lst (ns.map V.int)) := by
  obtain ⟨a, xs, e1, h, r⟩ := ls_at C t e
  rw [r.intsV] at h
  exact ⟨a, e1, h⟩
theorem lsS {d : D} {ns : List Str} (C : Cells K H A S) (t : Dt K H A v d) (e : rs S d = .lst (ns.map .str)) : ∃ a, v = .ref a ∧ H a = some (.lst (ns.map V.str)) := by
  obtain ⟨a, xs, e1, h, r⟩ := ls_at C t e
  rw [r.strsV] at h
  exact ⟨a, e1, h⟩
theorem src_of (C : Cells K H A S) (h : IsSrc S n) (ha : A.c[n]? = some (some a)) : Src H a := by
  obtain ⟨c, e, cells, i, cur, cnt, mode, rfl, h1, h2⟩ := h
  obtain ⟨c', e', k⟩ := C.at_ n a ha
  rw [e] at e'
  cases e'
  obtain ⟨xs, hx, r⟩ := k
  cases r with | cons t0 r => cases r with | cons t1 r => cases r with | cons t2 r => cases r with | cons t3 r => cases r with | cons t4 r =>
    cases r
    obtain ⟨q, rfl, hq, _⟩ := ints_at t0
    rw [int_of t1, int_of t2, int_of t3, int_of t4] at hx
    exact ⟨q, cells, i, cur, cnt, mode, hx, hq, h1, h2⟩
/-- the source went on: its cell has another content -/
theorem src_back (C : Cells K H A S) (h : IsSrc S n) (ha : A.c[n]? = some (some a)) (m : Mov a H H') (s : Src H' a) : ∃ c, IsSrcD c ∧ Cells K H' A (S.set n c) ∧ Later H A H' A := by
  obtain ⟨c0, e, cells0, i0, cur0, cnt0, mode0, rfl, _, _⟩ := h
  obtain ⟨c', e', k⟩ := C.at_ n a ha
  rw [e] at e'
  cases e'
  obtain ⟨xs, hx, r⟩ := k
  obtain ⟨q', cells, i, cur, cnt, mode, hx', hq', h1, h2⟩ := s
  cases r with | cons t0 r =>
    obtain ⟨q, rfl, hq, oq⟩ := ints_at t0
    obtain ⟨ys, hy⟩ := m.cell q _ hx
    rw [hx'] at hy
    have hy := Option.some.inj hy
    injection hy with hy
    injection hy with e1 _
    injection e1 with e1
    subst e1
    have l : Later H A H' A := ⟨⟨fun b u eb ob => ⟨m.but _ _ eb (fun z => ob.c (by rw [z]; exact List.mem_iff_getElem?.mpr ⟨n, ha⟩)), ob⟩, fun _ _ e => e, Nat.le_refl _, fun _ _ _ e => e⟩, fun b mb => ⟨by
      obtain ⟨u, eb⟩ := C.xs b mb
      rw [eb, m.but _ _ eb (fun z => C.xo n a ha (by rw [← z]; exact mb))], mb⟩, fun b od u eb => m.but _ _ eb (fun z => by rw [z, hx] at eb; cases eb)⟩
    refine ⟨.lst [.lst (cells.map .int), .int i, .int cur, .int cnt, .int mode], ⟨cells, i, cur, cnt, mode, rfl, h1, h2⟩, ⟨by rw [List.length_set]; exact C.len, fun j b ej => ?_, C.inj, fun b mb => ?_, C.xo⟩, l⟩
    · by_cases hj : n = j
      · subst hj
        rw [ha] at ej
        cases ej
        exact ⟨.lst [.lst (cells.map .int), .int i, .int cur, .int cnt, .int mode], by rw [List.getElem?_set_self (by rw [← C.len]; exact (List.getElem?_eq_some_iff.mp ha).1)], _, hx', .cons (.lst hq' oq (Dts.ints _)) (.cons (.int _) (.cons (.int _) (.cons (.int _) (.cons (.int _) .nil))))⟩
      · obtain ⟨c', e1, k'⟩ := C.at_ j b ej
        obtain ⟨u, eb⟩ := k'.here
        exact ⟨c', by rw [List.getElem?_set_ne hj]; exact e1, k'.go l.toKp (by rw [eb]; exact m.but _ _ eb (fun z => hj (C.inj n j a ha (by rw [← z]; exact ej))))⟩
    · obtain ⟨u, eb⟩ := C.xs b mb
      exact ⟨u, by rw [(l.ex b mb).1]; exact eb⟩
/-! clauses, rows -/
/-- an exception with one text -/
theorem errT_go {K : PySem.W.Frag} {H : Hp} {A : Ads} {S : Sto} {E : XK} {ED : DX} {C f : Str} {z : Str} (c : Cells K H A S)
    (he : ∀ C gs fs d A' S' H', Later H A H' A' → Cells K H' A' S' → H' d = some (.xd fs) → Dtf K H' A' fs gs → ED C gs S' → E (.ref (He.ga K C)) (some d) H') (h : ED C [(f, .str z)] S) :
    ∀ H' d, Same H H' → H' d = some (.xd [(f, .str z)]) → E (.ref (ga K C)) (some d) H' := fun H' d s hd => by
  obtain ⟨c', l⟩ := c.same s
  exact he _ _ _ _ _ _ _ l c' hd (.cons (.str z) .nil) h
def clD (ls : List Str) : D := .obj "Clause" [("literals", .tup (ls.map .str))]
theorem cl_at {ls : List Str} {v : V} (t : Dt K H A v (clD ls)) : ∃ c, v = .ref c ∧ IsCl K H c ls := by
  cases t with
  | obj h o r =>
    cases r with
    | cons t r =>
      cases r
      cases t with
      | tup h2 o2 r2 =>
        rw [r2.strsV] at h2
        exact ⟨_, rfl, _, _, h, h2⟩
theorem tup_out {q : Addr} {xs : List V} (C : Cells K H A S) (s : Same H H') (h : H' q = some (.tup xs)) : Out A q := by
  refine ⟨fun m => ?_, fun m => ?_⟩
  · obtain ⟨n, e⟩ := List.mem_iff_getElem?.mp m
    obtain ⟨c, _, k⟩ := C.at_ n q e
    cases c <;> first
      | exact k.elim
      | (obtain ⟨xs, h2, _⟩ := k; rw [s _ _ h2] at h; cases h; done)
      | (obtain ⟨dx, fs, h2, _⟩ := k; rw [s _ _ h2] at h; cases h; done)
      | (obtain ⟨kvs, h2, _⟩ := k
         split at h2
         · obtain ⟨od, h2⟩ := h2; rw [s _ _ h2] at h; cases h
         · rw [s _ _ h2] at h; cases h)
  · obtain ⟨zs, e⟩ := C.xs q m
    rw [s _ _ e] at h
    cases h
def rowD (r : List Str) : D := .lst (r.map .str)
def rowsD (rows : List (List Str)) : D := .lst (rows.map rowD)
theorem lt_row {b : Nat} {r : List Str} : ltD b (rowD r) := lt_lst (ltL_map fun _ => lt_str)
theorem rows_ok : ∀ {rows : List (List Str)} {vs : List V}, Dts K H A vs (rows.map rowD) → ∃ rs : List (Addr × List Str), rs.map Prod.snd = rows ∧ vs = rs.map (fun r => V.ref r.1) ∧ ∀ r ∈ rs, H r.1 = some (.lst (r.2.map V.str))
  | [], _, .nil => ⟨[], rfl, rfl, fun _ h => by cases h⟩
  | r :: rows, _, .cons t ts => by
    obtain ⟨rs, e1, e2, h⟩ := rows_ok ts
    obtain ⟨a, rfl, ha, _⟩ := strs_at t
    refine ⟨(a, r) :: rs, by rw [List.map_cons, e1], by rw [List.map_cons, e2], fun x hx => ?_⟩
    rcases List.mem_cons.mp hx with e | hx
    · subst e; exact ha
    · exact h x hx
theorem rows_at {rows : List (List Str)} {d : D} (C : Cells K H A S) (t : Dt K H A v d) (e : rs S d = rowsD rows) : ∃ R rs, v = .ref R ∧ rs.map Prod.snd = rows ∧ IsRw H R rs := by
  obtain ⟨a, xs, rfl, h, r⟩ := ls_at C t e
  obtain ⟨rs, e1, e2, h2⟩ := rows_ok r
  rw [e2] at h
  exact ⟨a, rs, rfl, e1, h, h2⟩
theorem flat_snd {rs : List (Addr × List Str)} {rows : List (List Str)} (e : rs.map Prod.snd = rows) : rs.flatMap (·.2) = rows.flatten := by
  subst e
  rw [List.flatMap_def]
/-- a fresh list of texts or numbers is a tree -/
theorem new_strs {q : Addr} {zs : List Str} (C : Cells K H A S) (l : Later H A H' A) (hq : H q = none) (h : H' q = some (.lst (zs.map V.str))) : Dt K H' A (.ref q) (.lst (zs.map .str)) := .lst h (C.out hq) (Dts.strs _)
theorem new_ints {q : Addr} {zs : List Int} (C : Cells K H A S) (l : Later H A H' A) (hq : H q = none) (h : H' q = some (.lst (zs.map V.int))) : Dt K H' A (.ref q) (.lst (zs.map .int)) := .lst h (C.out hq) (Dts.ints _)
end
/-! data without objects -/
mutual
def plain : D → Bool
  | .non => true
  | .bl _ => true
  | .int _ => true
  | .str _ => true
  | .lst ds => plainL ds
  | .tup ds => plainL ds
  | .obj _ _ => false
  | .dic _ _ => false
  | .hdl _ => false
def plainL : List D → Bool
  | [] => true
  | d :: ds => plain d && plainL ds
end
mutual
def pyD : D → PyData
  | .non => .none
  | .bl b => .bool b
  | .int i => .int i
  | .str s => .str s
  | .lst ds => .list (pyL ds)
  | .tup ds => .tuple (pyL ds)
  | .obj _ _ => .none
  | .dic _ _ => .none
  | .hdl _ => .none
def pyL : List D → List PyData
  | [] => []
  | d :: ds => pyD d :: pyL ds
end
section
variable {K : PySem.W.Frag} {H : Hp} {A : Ads}
mutual
theorem dt_is : ∀ {v : V} {d : D}, Dt K H A v d → plain d = true → Is H v (pyD d)
  | _, _, .non, _ => by unfold pyD; exact .non
  | _, _, .bl _, _ => by unfold pyD; exact .bl _
  | _, _, .int _, _ => by unfold pyD; exact .int _
  | _, _, .str _, _ => by unfold pyD; exact .str _
  | _, _, .lst h _ r, p => by unfold pyD; unfold plain at p; exact .lst h (dts_is r p)
  | _, _, .tup h _ r, p => by unfold pyD; unfold plain at p; exact .tup h (dts_is r p)
  | _, _, .obj _ _ _, p => by unfold plain at p; cases p
  | _, _, .dic _ _ _, p => by unfold plain at p; cases p
  | _, _, .hdl _, p => by unfold plain at p; cases p
theorem dts_is : ∀ {v : List V} {d : List D}, Dts K H A v d → plainL d = true → IsAll H v (pyL d)
  | _, _, .nil, _ => by unfold pyL; exact .nil
  | _, _, .cons h r, p => by
    unfold pyL
    unfold plainL at p
    rw [Bool.and_eq_true] at p
    exact .cons (dt_is h p.1) (dts_is r p.2)
end
theorem is_rs {S : Sto} {v : V} {d : D} (C : Cells K H A S) (t : Dt K H A v d) (p : plain (rs S d) = true) : Is H v (pyD (rs S d)) := by
  cases d with
  | hdl n =>
    cases t with
    | hdl ha =>
      obtain ⟨c, hc, k⟩ := C.at_ _ _ ha
      rw [rs_h hc] at p ⊢
      cases c <;> first
        | exact k.elim
        | (unfold plain at p; cases p; done)
        | skip
      obtain ⟨xs, hx, r⟩ := k
      unfold plain at p
      unfold pyD
      exact .lst hx (dts_is r p)
  | _ => exact dt_is t p
end
theorem plain_bl {i : Bool} : plain (.bl i) = true := by unfold plain; rfl
theorem pyL_mem {p : PyData} : ∀ {l : List D}, p ∈ pyL l → ∃ d ∈ l, p = pyD d
  | [], h => by unfold pyL at h; cases h
  | d :: l, h => by
    unfold pyL at h
    rcases List.mem_cons.mp h with h | h
    · exact ⟨d, List.mem_cons_self, h⟩
    · obtain ⟨e, he, hp⟩ := pyL_mem h
      exact ⟨e, List.mem_cons_of_mem _ he, hp⟩
theorem pyL_len : ∀ {l : List D}, (pyL l).length = l.length
  | [] => by unfold pyL; rfl
  | d :: l => by unfold pyL; rw [List.length_cons, List.length_cons, pyL_len]
/-- depth at most n, no long lists -/
def FitD : Nat → D → Prop
  | 0, d => match d with
    | .lst _ => False
    | .tup _ => False
    | _ => True
  | n + 1, d => match d with
    | .lst ds => ds.length ≤ 1000000 ∧ ∀ e ∈ ds, FitD n e
    | .tup ds => ds.length ≤ 1000000 ∧ ∀ e ∈ ds, FitD n e
    | _ => True
theorem fit_py : ∀ {n : Nat} {d : D}, FitD n d → Fits n (pyD d)
  | 0, d, h => by
    cases d <;> first
      | exact h.elim
      | (unfold pyD; unfold Fits; trivial)
  | n + 1, d, h => by
    cases d <;> first
      | (unfold pyD; unfold Fits; trivial)
      | (obtain ⟨h1, h2⟩ := (show _ ∧ _ from h)
         unfold pyD
         unfold Fits
         refine ⟨by rw [pyL_len]; exact h1, fun p hp => ?_⟩
         obtain ⟨e, he, rfl⟩ := pyL_mem hp
         exact fit_py (h2 e he))
/-! the law as data: behind its first statement -/
theorem law_go {K : PySem.W.Frag} {W : WX} {tr : TS} {d : DS} {H : Hp} {s : Addr} {σ : L2.St} {m : Nat} {D : Ends} (sim : SimS K W (fun _ _ _ _ => False) tr d) (hs : Src H s) (hl : σ.length = m) (h1 : σ[1]? = some (some (.ref s))) (hq : ∀ H', D.rt (.bl true) H')
    (dp : ∀ c, IsSrcD c → d { nx := fun _ _ => False, rt := fun d _ => d = .bl true, b := 1 } ((List.replicate m none).set 1 (some (.hdl 0))) [c]) : tr D σ H := by
  obtain ⟨q, cells, i, cur, cnt, mode, hx, hq', h2, h3⟩ := hs
  have hqs : q ≠ s := fun z => by
    rw [z, hx] at hq'
    have h3 := Option.some.inj hq'
    injection h3 with h4
    cases cells with
    | nil => cases h4
    | cons u r => injection h4 with h5 _; cases h5
  have hm : 1 < m := by rw [← hl]; exact (List.getElem?_eq_some_iff.mp h1).1
  have C : Cells K H ⟨[some s], []⟩ [.lst [.lst (cells.map .int), .int i, .int cur, .int cnt, .int mode]] := by
    refine ⟨rfl, fun n a e => ?_, fun n m a e e' => ?_, fun a h => absurd h (by simp), fun _ _ _ h => absurd h (by simp)⟩
    · cases n with
      | zero =>
        cases e
        exact ⟨_, rfl, _, hx, .cons (.lst hq' ⟨fun h => hqs (by simpa using h), fun h => absurd h (by simp)⟩ (Dts.ints _)) (.cons (.int _) (.cons (.int _) (.cons (.int _) (.cons (.int _) .nil))))⟩
      | succ n => simp at e
    · cases n with
      | zero => cases m with
        | zero => rfl
        | succ m => simp at e'
      | succ n => simp at e
  refine sim H ⟨[some s], []⟩ (fun _ _ _ _ _ _ _ _ _ _ _ _ h => h.elim) σ _ _ _ H D { nx := fun _ _ => False, rt := fun d _ => d = .bl true, b := 1 } ⟨⟨?_, fun j d e => ?_⟩, C, Later.refl _ _⟩ ⟨fun _ _ _ _ _ _ h => h.elim, fun _ _ _ _ _ _ h => h.elim, fun _ _ _ _ _ _ h => h.elim, fun _ _ _ _ _ v d _ t e => ?_, rfl⟩ (dp _ ⟨cells, i, cur, cnt, mode, rfl, h2, h3⟩)
  · rw [List.length_set, List.length_replicate]
    exact hl
  · by_cases hj : 1 = j
    · subst hj
      rw [List.getElem?_set_self (by rw [List.length_replicate]; exact hm)] at e
      cases e
      exact ⟨_, h1, .hdl rfl⟩
    · rw [List.getElem?_set_ne hj, List.getElem?_replicate] at e
      split at e <;> cases e
  · have e : d = .bl true := e
    subst e
    rw [t.isb]
    exact hq _
def dsp_law_same : DSp := DSp2 fun x y S Q _ => plain (rs S x) = true ∧ plain (rs S y) = true ∧ FitD 4 (rs S x) ∧ Q (.bl (sameB (pyD (rs S x)) (pyD (rs S y)))) S
theorem ad_law_same {K : PySem.W.Frag} {vs : List V} {H : Hp} {Q : VK} {E : XK} (h : lift K dsp_law_same vs H Q E) : sp_law_same K vs H Q E := by
  obtain ⟨A, S, ds, QD, ED, C, ts, ⟨x, y, rfl, p1, p2, f, hq⟩, k, _⟩ := h
  cases ts with | cons t1 ts => cases ts with | cons t2 ts =>
    cases ts
    refine ⟨_, _, rfl, _, _, is_rs C t1 p1, is_rs C t2 p2, fit_py f, fun H' s => ?_⟩
    obtain ⟨C', l⟩ := C.same s
    exact k _ _ _ _ _ l C' (.bl _) hq
/-- the same data -/
theorem same_d {S : Sto} {x y d : D} {Q : DQ} {E : DX} (e1 : rs S x = d) (e2 : rs S y = d) (p : plain d = true) (f : FitD 4 d) (h : Q (.bl true) S) : dsp_law_same [x, y] S Q E := ⟨_, _, rfl, by rw [e1]; exact p, by rw [e2]; exact p, by rw [e1]; exact f, by rw [e1, e2, sameB_eq rfl]; exact h⟩
/-! books as data: an object's cell and its dict's cell -/
def bkO (m : Nat) (g : Int) : D := .obj "Book" [("rows", .hdl m), ("greatest", .int g)]
abbrev DRow := Int × List Str
def kvD (rows : List DRow) : List (Key × D) := rows.map fun r => ((Sum.inl r.1 : Key), clD r.2)
def IsBD (S : Sto) (n m : Nat) (rows : List DRow) (g : Int) : Prop := S[n]? = some (bkO m g) ∧ S[m]? = some (.dic false (kvD rows))
def dB (rows : List BRow) : List DRow := rows.map fun r => (r.1, r.2.2)
theorem dB_nums (rows : List BRow) : (dB rows).map (·.1) = rows.map (·.1) := by unfold dB; rw [List.map_map]; rfl
theorem dB_len (rows : List BRow) : (dB rows).length = rows.length := by unfold dB; rw [List.length_map]
theorem dB_flat (rows : List BRow) : (dB rows).flatMap (·.2) = rows.flatMap (·.2.2) := by unfold dB; rw [List.flatMap_map]
section
variable {K : PySem.W.Frag} {H H' : Hp} {A : Ads} {S : Sto} {n m : Nat} {b d : Addr} {rows rows' : List DRow} {g g' : Int}
theorem IsBD.ne (h : IsBD S n m rows g) : n ≠ m := fun e => by
  obtain ⟨h1, h2⟩ := h
  subst e
  rw [h1] at h2
  cases h2
theorem kv_rows : ∀ {rows : List DRow} {kvs : List (Key × V)}, Dtk K H A kvs (kvD rows) → ∃ rb : List BRow, dB rb = rows ∧ kvs = kvB rb ∧ ∀ r ∈ rb, Dt K H A (.ref r.2.1) (clD r.2.2)
  | [], _, .nil => ⟨[], rfl, rfl, fun _ h => by cases h⟩
  | r :: rows, _, .cons t ts => by
    obtain ⟨rb, e1, e2, h⟩ := kv_rows (rows := rows) ts
    obtain ⟨c, rfl, hc⟩ := cl_at t
    refine ⟨(r.1, c, r.2) :: rb, by unfold dB at e1 ⊢; rw [List.map_cons, e1], by rw [e2]; rfl, fun x hx => ?_⟩
    rcases List.mem_cons.mp hx with e | hx
    · subst e; exact t
    · exact h x hx
theorem rows_kv : ∀ {rb : List BRow}, (∀ r ∈ rb, Dt K H A (.ref r.2.1) (clD r.2.2)) → Dtk K H A (kvB rb) (kvD (dB rb))
  | [], _ => .nil
  | r :: rb, h => .cons (h r List.mem_cons_self) (rows_kv fun x hx => h x (List.mem_cons_of_mem _ hx))
/-- the book on the heap -/
structure BkAt (K : PySem.W.Frag) (H : Hp) (A : Ads) (m : Nat) (rows : List DRow) (g : Int) (b d : Addr) (rb : List BRow) : Prop where
  hd : A.c[m]? = some (some d)
  eq : dB rb = rows
  bk : IsBk K H b d rb g
  cl : ∀ r ∈ rb, Dt K H A (.ref r.2.1) (clD r.2.2)
theorem bk_at (C : Cells K H A S) (h : IsBD S n m rows g) (hb : A.c[n]? = some (some b)) : ∃ d rb, BkAt K H A m rows g b d rb := by
  obtain ⟨h1, h2⟩ := h
  obtain ⟨c, e1, k1⟩ := C.at_ n b hb
  rw [h1] at e1
  cases e1
  obtain ⟨dx, fs, hx, r, _⟩ := k1
  cases r with | cons t1 r => cases r with | cons t2 r =>
    cases r
    cases t1 with
    | hdl hd =>
      rename_i d
      obtain ⟨c, e2, k2⟩ := C.at_ m d hd
      rw [h2] at e2
      cases e2
      obtain ⟨kvs, hk, rk⟩ := k2
      obtain ⟨rb, er, ek, hc⟩ := kv_rows rk
      subst ek
      rw [int_of t2] at hx
      exact ⟨d, rb, hd, er, ⟨dx, hx⟩ |> fun o => ⟨o, hk, fun r hr => by
        obtain ⟨c, ec, hcl⟩ := cl_at (hc r hr)
        cases ec
        exact hcl⟩, hc⟩
/-- the book's dict may be locked -/
def IsBDr (S : Sto) (n m : Nat) (rows : List DRow) (g : Int) : Prop := S[n]? = some (bkO m g) ∧ ∃ lk, S[m]? = some (.dic lk (kvD rows))
theorem IsBD.r (h : IsBD S n m rows g) : IsBDr S n m rows g := ⟨h.1, _, h.2⟩
/-- the book changed -/
theorem bk_later (C : Cells K H A S) (h : IsBD S n m rows g) (hb : A.c[n]? = some (some b)) (hd : A.c[m]? = some (some d)) (k : Chg b d H H') : Later H A H' A := by
  have hin : ∀ {j : Nat} {a : Addr}, A.c[j]? = some (some a) → ∀ q, Out A q → q ≠ a := fun e q o z => o.c (by rw [z]; exact List.mem_iff_getElem?.mpr ⟨_, e⟩)
  exact ⟨⟨fun a u e o => ⟨k _ _ e (hin hb _ o) (hin hd _ o), o⟩, fun _ _ e => e, Nat.le_refl _, fun _ _ _ e => e⟩, fun a ma => ⟨by
    obtain ⟨zs, e⟩ := C.xs a ma
    rw [e, k _ _ e (fun z => C.xo n b hb (by rw [← z]; exact ma)) (fun z => C.xo m d hd (by rw [← z]; exact ma))], ma⟩, fun a od u e => by
    obtain ⟨d', rb, B⟩ := bk_at C h hb
    have hdd : d' = d := by have := B.hd; rw [hd] at this; cases this; rfl
    subst hdd
    obtain ⟨dx, o⟩ := B.bk.ob
    exact k _ _ e (ne_of e o (fun z => by cases z)) (ne_of e B.bk.di (fun z => by cases z))⟩
theorem bk_backN (C : Cells K H A S) (h : IsBD S n m rows g) (hb : A.c[n]? = some (some b)) (hd : A.c[m]? = some (some d)) (k : Chg b d H H') {rb' : List BRow} (B' : IsBk K H' b d rb' g') (hc : ∀ r ∈ rb', Dt K H' A (.ref r.2.1) (clD r.2.2)) :
    Cells K H' A ((S.set n (bkO m g')).set m (.dic false (kvD (dB rb')))) ∧ Later H A H' A := by
  have hnm := h.ne
  have ln : n < S.length := (List.getElem?_eq_some_iff.mp h.1).1
  have lm : m < S.length := (List.getElem?_eq_some_iff.mp h.2).1
  have l := bk_later C h hb hd k
  refine ⟨⟨by rw [List.length_set, List.length_set]; exact C.len, fun j a ej => ?_, C.inj, fun a ma => ?_, C.xo⟩, l⟩
  · by_cases hj : m = j
    · subst hj
      rw [hd] at ej
      cases ej
      refine ⟨.dic false (kvD (dB rb')), by rw [List.getElem?_set_self (by rw [List.length_set]; exact lm)], _, B'.di, rows_kv hc⟩
    · rw [List.getElem?_set_ne hj]
      by_cases hj2 : n = j
      · subst hj2
        rw [hb] at ej
        cases ej
        obtain ⟨dx, o⟩ := B'.ob
        exact ⟨bkO m g', by rw [List.getElem?_set_self ln], dx, _, o, .cons (.hdl hd) (.cons (.int _) .nil), rfl⟩
      · obtain ⟨c, e1, kc⟩ := C.at_ j a ej
        obtain ⟨u, e2⟩ := kc.here
        exact ⟨c, by rw [List.getElem?_set_ne hj2]; exact e1, kc.go l.toKp (by rw [e2]; exact k _ _ e2 (fun z => hj2 (C.inj n j a (by rw [z]; exact hb) ej)) (fun z => hj (C.inj m j a (by rw [z]; exact hd) ej)))⟩
  · obtain ⟨zs, e⟩ := C.xs a ma
    exact ⟨zs, by rw [(l.ex a ma).1]; exact e⟩
theorem bk_back (C : Cells K H A S) (h : IsBD S n m rows g) (hb : A.c[n]? = some (some b)) (hd : A.c[m]? = some (some d)) (k : Chg b d H H') {rb' : List BRow} (B' : IsBk K H' b d rb' g') (hc : ∀ r ∈ rb', Dt K H A (.ref r.2.1) (clD r.2.2)) :
    Cells K H' A ((S.set n (bkO m g')).set m (.dic false (kvD (dB rb')))) ∧ Later H A H' A := bk_backN C h hb hd k B' fun r hr => (hc r hr).later (bk_later C h hb hd k)
/-- a clause is no cell -/
theorem cl_out {c dx q : Addr} (C : Cells K H A S) (s : Same H H') (h1 : H' c = some (.ins (ga K "Clause") dx [("literals", .ref q)])) : Out A c := by
  refine ⟨fun m => ?_, fun m => ?_⟩
  · obtain ⟨n, e⟩ := List.mem_iff_getElem?.mp m
    obtain ⟨c0, _, k⟩ := C.at_ n c e
    cases c0 <;> first
      | exact k.elim
      | (obtain ⟨xs, h2, _⟩ := k; rw [s _ _ h2] at h1; cases h1; done)
      | (obtain ⟨dx, fs, h2, r, z⟩ := k
         rw [s _ _ h2] at h1
         have h1 := Option.some.inj h1
         injection h1 with _ _ h3
         have := r.miss z
         rw [h3] at this
         cases this)
      | (obtain ⟨kvs, h2, _⟩ := k
         split at h2
         · obtain ⟨od, h2⟩ := h2; rw [s _ _ h2] at h1; cases h1
         · rw [s _ _ h2] at h1; cases h1)
  · obtain ⟨zs, e⟩ := C.xs c m
    rw [s _ _ e] at h1
    cases h1
theorem cl_dt {c : Addr} {ls : List Str} (C : Cells K H A S) (s : Same H H') (h : IsCl K H' c ls) : Dt K H' A (.ref c) (clD ls) := by
  obtain ⟨dx, q, h1, h2⟩ := h
  exact .obj h1 (cl_out C s h1) (.cons (.tup h2 (tup_out C s h2) (Dts.strs _)) .nil)
/-- a new book: its dict's cell, then its own -/
theorem new_book {rb : List BRow} (C : Cells K H A S) (s : Same H H') (hb : H b = none) (hd : H d = none) (B : IsBk K H' b d rb g) : ∃ A', Later H A H' A' ∧ Cells K H' A' (S ++ [.dic false (kvD (dB rb)), bkO S.length g]) ∧ Dt K H' A' (.ref b) (.hdl (S.length + 1)) := by
  obtain ⟨dx, o⟩ := id B.ob
  have hbd := B.ne
  have hl : A.c.length = S.length := C.len
  -- the new heap without the two places
  let G : Hp := fun a => if a = b ∨ a = d then none else H' a
  have gb : G b = none := if_pos (.inl rfl)
  have gd : G d = none := if_pos (.inr rfl)
  have gs : Same H G := fun a u e => by
    show (if a = b ∨ a = d then none else H' a) = _
    rw [if_neg (fun h => h.elim (ne_of_none e hb) (ne_of_none e hd))]
    exact s _ _ e
  obtain ⟨CG, lG⟩ := C.same gs
  have clG : ∀ r ∈ rb, Dt K G A (.ref r.2.1) (clD r.2.2) := fun r hr => by
    obtain ⟨dy, q, h1, h2⟩ := B.cl r hr
    have n1 : r.2.1 ≠ b := ne_fs h1 o (by simp)
    have n2 : r.2.1 ≠ d := ne_of h1 B.di (fun z => by cases z)
    have n3 : q ≠ b := ne_of h2 o (fun z => by cases z)
    have n4 : q ≠ d := ne_of h2 B.di (fun z => by cases z)
    have g1 : G r.2.1 = some (.ins (ga K "Clause") dy [("literals", .ref q)]) := by
      show (if r.2.1 = b ∨ r.2.1 = d then none else H' r.2.1) = _
      rw [if_neg (fun h => h.elim n1 n2)]; exact h1
    have g2 : G q = some (.tup (r.2.2.map V.str)) := by
      show (if q = b ∨ q = d then none else H' q) = _
      rw [if_neg (fun h => h.elim n3 n4)]; exact h2
    exact cl_dt C gs ⟨dy, q, g1, g2⟩
  have l1 := Later.cell CG gd (o := .dK (kvB rb))
  have C1 := CG.cell gd (o := .dK (kvB rb)) (c := .dic false (kvD (dB rb))) ⟨kvB rb, upd_same, (rows_kv clG).later l1⟩
  have gb1 : upd G d (.dK (kvB rb)) b = none := by rw [upd_ne hbd]; exact gb
  have l2 := Later.cell C1 gb1 (o := .ins (ga K "Book") dx [("rows", .ref d), ("greatest", .int g)])
  have hA1 : (A.add d).c.length = S.length + 1 := by show (A.c ++ [some d]).length = _; rw [List.length_append, hl]; rfl
  have C2 := C1.cell gb1 (o := .ins (ga K "Book") dx [("rows", .ref d), ("greatest", .int g)]) (c := bkO S.length g) ⟨dx, _, upd_same, .cons (.hdl (by
    show ((A.c ++ [some d]) ++ [some b])[S.length]? = _
    rw [List.getElem?_append_left (by rw [List.length_append, hl]; simp), ← hl, List.getElem?_append_right (Nat.le_refl _), Nat.sub_self]
    rfl)) (.cons (.int _) .nil), rfl⟩
  have e2 : upd (upd G d (.dK (kvB rb))) b (.ins (ga K "Book") dx [("rows", .ref d), ("greatest", .int g)]) = H' := by
    funext a
    by_cases ha : a = b
    · subst ha; rw [upd_same]; exact o.symm
    · rw [upd_ne ha]
      by_cases hda : a = d
      · subst hda; rw [upd_same]; exact B.di.symm
      · rw [upd_ne hda]
        exact if_neg (fun h => h.elim ha hda)
  rw [e2] at l2 C2
  refine ⟨_, (lG.trans l1).trans l2, by rw [List.append_assoc] at C2; exact C2, .hdl ?_⟩
  show ((A.c ++ [some d]) ++ [some b])[S.length + 1]? = _
  rw [List.getElem?_append_right (by rw [List.length_append, hl]; exact Nat.le_refl _), List.length_append, hl]
  simp
end
/-- an exception with one number -/
theorem err1_go {K : PySem.W.Frag} {H : Hp} {A : Ads} {S : Sto} {E : XK} {ED : DX} {C f : Str} {n : Int} (c : Cells K H A S)
    (he : ∀ C gs fs d A' S' H', Later H A H' A' → Cells K H' A' S' → H' d = some (.xd fs) → Dtf K H' A' fs gs → ED C gs S' → E (.ref (He.ga K C)) (some d) H') (h : ED C [(f, .int n)] S) :
    ∀ H' d, Same H H' → H' d = some (.xd [(f, .int n)]) → E (.ref (ga K C)) (some d) H' := fun H' d s hd => by
  obtain ⟨c', l⟩ := c.same s
  exact he _ _ _ _ _ _ _ l c' hd (.cons (.int n) .nil) h
structure BDok (rows : List DRow) (g : Int) : Prop where
  asc : (rows.map (·.1)).Pairwise (· < ·)
  top : ∀ r ∈ rows, 1 ≤ r.1 ∧ r.1 ≤ g
  lit : ∀ r ∈ rows, ∀ z ∈ r.2, isLit z = true
  few : (rows.flatMap (·.2)).length ≤ 900
  len : rows.length ≤ 100
theorem Bok.bd {rb : List BRow} {g : Int} (h : Bok rb g) : BDok (dB rb) g := by
  refine ⟨by rw [dB_nums]; exact h.asc, fun r hr => ?_, fun r hr => ?_, by rw [dB_flat]; exact h.few, by rw [dB_len]; exact h.len⟩
  · obtain ⟨s, hs, rfl⟩ := List.mem_map.mp hr
    exact h.top s hs
  · obtain ⟨s, hs, rfl⟩ := List.mem_map.mp hr
    exact h.lit s hs
def putB' (S : Sto) (n m : Nat) (rows : List DRow) (g : Int) : Sto := (S.set n (bkO m g)).set m (.dic false (kvD rows))
theorem IsBD.put {S : Sto} {n m : Nat} {rows rows' : List DRow} {g g' : Int} (h : IsBD S n m rows g) : IsBD (putB' S n m rows' g') n m rows' g' := by
  have hnm := h.ne
  have ln : n < S.length := (List.getElem?_eq_some_iff.mp h.1).1
  have lm : m < S.length := (List.getElem?_eq_some_iff.mp h.2).1
  unfold putB'
  exact ⟨by rw [List.getElem?_set_ne (Ne.symm hnm), List.getElem?_set_self ln], by rw [List.getElem?_set_self (by rw [List.length_set]; exact lm)]⟩
def rowD? (rows : List DRow) (n : Int) : Option DRow := rows.find? fun r => decide (r.1 = n)
theorem rowD_at : ∀ (rb : List BRow) (n : Int), rowD? (dB rb) n = (rowAt rb n).map fun r => (r.1, r.2.2)
  | [], _ => rfl
  | r :: rb, n => by
    have ih := rowD_at rb n
    unfold rowD? rowAt dB at ih ⊢
    rw [List.map_cons, List.find?_cons, List.find?_cons]
    by_cases h : r.1 = n
    · simp [h]
    · simp only [h, decide_false]
      exact ih
theorem dB_filt (rb : List BRow) (n : Int) : dB (rb.filter fun r => decide (r.1 ≠ n)) = (dB rb).filter fun r => decide (r.1 ≠ n) := by unfold dB; rw [List.filter_map]; rfl
def newB (S : Sto) (rows : List DRow) (g : Int) : Sto := S ++ [.dic false (kvD rows), bkO S.length g]
theorem newB_is {S : Sto} {rows : List DRow} {g : Int} : IsBD (newB S rows g) (S.length + 1) S.length rows g := by
  unfold newB
  exact ⟨by rw [List.getElem?_append_right (by omega), show S.length + 1 - S.length = 1 by omega]; rfl, by rw [List.getElem?_append_right (Nat.le_refl _), Nat.sub_self]; rfl⟩
theorem IsBD.app {S G : Sto} {n m : Nat} {rows : List DRow} {g : Int} (h : IsBD S n m rows g) : IsBD (S ++ G) n m rows g := by
  have ln := (List.getElem?_eq_some_iff.mp h.1).1
  have lm := (List.getElem?_eq_some_iff.mp h.2).1
  exact ⟨by rw [List.getElem?_append_left ln]; exact h.1, by rw [List.getElem?_append_left lm]; exact h.2⟩
/-- numbers and rows as a table -/
def mkR (ns : List Int) (rows : List (List Str)) : List DRow := (ns.zip rows).map fun p => (p.1, litO p.2)
theorem mk_tb : ∀ tb : List TRow, dB (bkT tb) = mkR (nuT tb) ((rwT tb).map Prod.snd)
  | [] => rfl
  | r :: tb => by
    have ih := mk_tb tb
    unfold dB bkT mkR nuT rwT at ih ⊢
    simp only [List.map_cons, List.zip_cons_cons]
    rw [ih]
/-! turnings -/
end Rd
namespace Rd
open PySem PySem.Spec PyProof.Rows L2 He Px Dx
def sp_is_name (K : PySem.W.Frag) : Sp := Sp1 fun x H Q _ => ∃ z : Str, x = .str z ∧ z.length ≤ 1000000 ∧ ∀ H', Same H H' → Q (.bl (isNm z)) H'
def N_is_name : List PySem.Str := ["text", "sign"]
def t_is_name (K : PySem.W.Frag) (W : WX) : TS := (tCut (tIfS (tOr (tTest (tOp rLtP (tCB (rLenP K) (tCons (tVar 0) tNil)) (tC (.int 1)))) (tTest (tOp rGtP (tCB (rLenP K) (tCons (tVar 0) tNil)) (tC (.int 8))))) (tRet (tC (.bl false))) tNext)
    (tCut (tIfS (tTest (tOp (rInP K true) (tOp (rIxP K) (tVar 0) (tC (.int 0))) (tC (.str "abcdefghijklmnopqrstuvwxyz")))) (tRet (tC (.bl false))) tNext)
    (tRet (tCB (rAll K) (tCons (tLc (iAnyP K (tVar 0)) (gName 1) tYes (tOp (rInP K false) (tVar 1) (tC (.str "abcdefghijklmnopqrstuvwxyz0123456789"))) [1]) tNil)))))
theorem all_comp {l : List Nat} {p : Nat → Bool} : ((l.map p).all id) = l.all p := by rw [List.all_map]; rfl
theorem pure_is_name {K : PySem.W.Frag} {vs : List V} {H : Hp} {Q : VK} {E : XK} {W : WX} (h : sp_is_name K vs H Q E) : t_is_name K W { nx := fun _ H' => Q .non H', rt := Q } (start N_is_name vs) H := by
  obtain ⟨x, rfl, z, rfl, hz, hq⟩ := h
  show t_is_name K W _ [some (.str z), none] H
  unfold t_is_name
  have hs : z.length ≤ sizeLine := one_lt hz
  have no : isNm z = false → Q (.bl false) H := fun e => by have := hq H (Same.refl H); rw [e] at this; exact this
  refine s_nocut ?_
  walk_at "ss"
  refine s_lenS hs ?_
  walk_at "ss"
  refine s_itd (fun e1 => ?_) (fun e1 => ?_)
  · rw [if_pos rfl]
    walk_at "ss"
    exact no (by unfold isNm; rw [decide_eq_true e1]; rfl)
  · walk_at "ss"
    refine s_lenS hs ?_
    walk_at "ss"
    refine s_itd (fun e2 => ?_) (fun e2 => ?_)
    · walk_at "ss"
      exact no (by unfold isNm; rw [decide_eq_true e2, decide_eq_false e1]; rfl)
    · walk_at "ss"
      refine s_nocut ?_
      obtain ⟨c, r, hc, h0⟩ := at0 e1
      walk_at "ss"
      refine s_ixS hs h0 ?_
      walk_at "ss"
      rw [strIn_sign]
      show if (!decide (c ∈ lettersL)) = true then _ else _
      have en : isNm z = (decide (c ∈ lettersL) && z.cps.toList.all fun c => decide (c ∈ signsL)) := by
        unfold isNm
        rw [decide_eq_false e1, decide_eq_false e2, hc]
        rfl
      by_cases hm : c ∈ lettersL
      · rw [decide_eq_true hm] at en ⊢
        refine s_itF rfl ?_
        walk_at "ss"
        refine lcb_map (fun x => match x with | .str y => .bl (strIn y "abcdefghijklmnopqrstuvwxyz0123456789") | _ => .non) (show Items K H (.str z) _ from rfl) (by rw [List.length_map, len_toList]; exact hz) ?_ ?_
        · intro x hx H' s1 Q' hQ
          obtain ⟨d, _, rfl⟩ := List.mem_map.mp hx
          walk_at "ss"
          exact hQ _ (Same.refl _)
        · intro D H' hD s1 hl
          rw [List.map_map] at hl
          walk_at "ss"
          refine s_all (bs := z.cps.toList.map fun c => decide (c ∈ signsL)) (by
            rw [hl, List.map_map]
            congr 2
            apply List.map_congr_left
            intro c _
            show V.bl (strIn ⟨#[c]⟩ _) = _
            rw [strIn_sign]
            rfl) ?_
          rw [all_comp]
          have := hq H' s1
          rw [en] at this
          exact this
      · rw [decide_eq_false hm] at en ⊢
        refine s_itT rfl ?_
        walk_at "ss"
        exact no en
def sp_is_literal (K : PySem.W.Frag) : Sp := Sp1 fun x H Q _ => ∃ z : Str, x = .str z ∧ z.length ≤ 1000000 ∧ ∀ H', Same H H' → Q (.bl (isLit z)) H'
def N_is_literal : List PySem.Str := ["text"]
def t_is_literal (K : PySem.W.Frag) (W : WX) : TS := (tCut (tIfS (tTest (tOp (rEqP K) (tSl (rSlP K) (tVar 0) tNoPart (tPart (tC (.int 1)))) (tC (.str "-")))) (tRet (tCallS (sp_is_name K) (WE W) (tCons (tSl (rSlP K) (tVar 0) (tPart (tC (.int 1))) tNoPart) tNil))) tNext)
    (tRet (tCallS (sp_is_name K) (WE W) (tCons (tVar 0) tNil))))
theorem pure_is_literal {K : PySem.W.Frag} {vs : List V} {H : Hp} {Q : VK} {E : XK} {W : WX} (h : sp_is_literal K vs H Q E) : t_is_literal K W { nx := fun _ H' => Q .non H', rt := Q } (start N_is_literal vs) H := by
  obtain ⟨x, rfl, z, rfl, hz, hq⟩ := h
  show t_is_literal K W _ [some (.str z)] H
  unfold t_is_literal
  have hs : z.length ≤ sizeLine := one_lt hz
  unfold isLit bare dash at hq
  refine s_nocut ?_
  walk_at "ss"
  refine s_slS hs ?_
  walk_at "ss"
  refine s_itd (fun e1 => ?_) (fun e1 => ?_)
  · rw [decide_eq_true e1, if_pos rfl] at hq
    walk_at "ss"
    refine s_slS hs ?_
    walk_at "ss"
    exact ⟨_, rfl, _, rfl, Nat.le_trans (cutS_len _ _ _) hz, hq⟩
  · rw [decide_eq_false e1, if_neg Bool.false_ne_true] at hq
    walk_at "ss"
    exact ⟨_, rfl, _, rfl, hz, hq⟩
def dsp_is_literal : DSp := DSp1 fun x S Q _ => ∃ z : Str, x = .str z ∧ z.length ≤ 1000000 ∧ Q (.bl (isLit z)) S
theorem ad_is_literal {K : PySem.W.Frag} {vs : List V} {H : Hp} {Q : VK} {E : XK} (h : lift K dsp_is_literal vs H Q E) : sp_is_literal K vs H Q E := by
  obtain ⟨A, S, ds, QD, ED, C, ts, ⟨x, rfl, z, rfl, hl, hq⟩, k, he⟩ := h
  cases ts with | cons t1 ts =>
    cases ts
    cases t1
    refine ⟨_, rfl, z, rfl, hl, fun H' s => ?_⟩
    obtain ⟨C', l⟩ := C.same s
    exact k _ _ _ _ _ l C' (.bl _) hq
def sp_name_of (K : PySem.W.Frag) : Sp := Sp1 fun x H Q E => ∃ z : Str, x = .str z ∧ z.length ≤ 1000000 ∧ (isLit z = true → ∀ H', Same H H' → Q (.str (bare z)) H') ∧ (isLit z = false → ∀ H' d, Same H H' → H' d = some (.xd [("text", .str z)]) → E (.ref (ga K "BadLiteral")) (some d) H')
def N_name_of : List PySem.Str := ["literal"]
def t_name_of (K : PySem.W.Frag) (W : WX) : TS := (tCut (tIfS (tNot (tB (tCallS (sp_is_literal K) (WE W) (tCons (tVar 0) tNil)))) (tRaiseE (ga K "BadLiteral") "text" W (tCons (tVar 0) tNil)) tNext)
    (tCut (tIfS (tTest (tOp (rEqP K) (tSl (rSlP K) (tVar 0) tNoPart (tPart (tC (.int 1)))) (tC (.str "-")))) (tRet (tSl (rSlP K) (tVar 0) (tPart (tC (.int 1))) tNoPart)) tNext)
    (tRet (tVar 0))))
theorem pure_name_of {K : PySem.W.Frag} {vs : List V} {H : Hp} {Q : VK} {E : XK} (h : sp_name_of K vs H Q E) : t_name_of K (fun cls d _ H => E cls d H) { nx := fun _ H' => Q .non H', rt := Q } (start N_name_of vs) H := by
  obtain ⟨x, rfl, z, rfl, hz, hq, he⟩ := h
  show t_name_of K _ _ [some (.str z)] H
  unfold t_name_of
  have hs : z.length ≤ sizeLine := one_lt hz
  refine s_nocut ?_
  walk_at "ss"
  refine ⟨_, rfl, z, rfl, hz, fun H1 s1 => ?_⟩
  walk_at "ss"
  cases hl : isLit z with
  | false =>
    refine s_itT rfl ?_
    refine ⟨_, rfl, _, rfl, fun d hd => he hl _ d (s1.trans (same_new hd)) upd_same⟩
  | true =>
    refine s_itF rfl ?_
    have hq1 := hq hl
    unfold bare dash at hq1
    walk_at "ss"
    refine s_nocut ?_
    walk_at "ss"
    refine s_slS hs ?_
    walk_at "ss"
    refine s_itd (fun e1 => ?_) (fun e1 => ?_)
    · rw [decide_eq_true e1, if_pos rfl] at hq1
      walk_at "ss"
      refine s_slS hs ?_
      exact hq1 _ s1
    · rw [decide_eq_false e1, if_neg Bool.false_ne_true] at hq1
      walk_at "ss"
      exact hq1 _ s1
def sp_negated (K : PySem.W.Frag) : Sp := Sp1 fun x H Q E => ∃ z : Str, x = .str z ∧ z.length ≤ 1000000 ∧ (isLit z = true → ∀ H', Same H H' → Q (.str (flip z)) H') ∧ (isLit z = false → ∀ H' d, Same H H' → H' d = some (.xd [("text", .str z)]) → E (.ref (ga K "BadLiteral")) (some d) H')
def N_negated : List PySem.Str := ["literal"]
def t_negated (K : PySem.W.Frag) (W : WX) : TS := (tCut (tIfS (tNot (tB (tCallS (sp_is_literal K) (WE W) (tCons (tVar 0) tNil)))) (tRaiseE (ga K "BadLiteral") "text" W (tCons (tVar 0) tNil)) tNext)
    (tCut (tIfS (tTest (tOp (rEqP K) (tSl (rSlP K) (tVar 0) tNoPart (tPart (tC (.int 1)))) (tC (.str "-")))) (tRet (tSl (rSlP K) (tVar 0) (tPart (tC (.int 1))) tNoPart)) tNext)
    (tRet (tOp (rAddP K) (tC (.str "-")) (tVar 0)))))
theorem pure_negated {K : PySem.W.Frag} {vs : List V} {H : Hp} {Q : VK} {E : XK} (h : sp_negated K vs H Q E) : t_negated K (fun cls d _ H => E cls d H) { nx := fun _ H' => Q .non H', rt := Q } (start N_negated vs) H := by
  obtain ⟨x, rfl, z, rfl, hz, hq, he⟩ := h
  show t_negated K _ _ [some (.str z)] H
  unfold t_negated
  have hs : z.length ≤ sizeLine := one_lt hz
  refine s_nocut ?_
  walk_at "ss"
  refine ⟨_, rfl, z, rfl, hz, fun H1 s1 => ?_⟩
  walk_at "ss"
  cases hl : isLit z with
  | false =>
    refine s_itT rfl ?_
    refine ⟨_, rfl, _, rfl, fun d hd => he hl _ d (s1.trans (same_new hd)) upd_same⟩
  | true =>
    refine s_itF rfl ?_
    have hq1 := hq hl
    unfold flip dash at hq1
    walk_at "ss"
    refine s_nocut ?_
    walk_at "ss"
    refine s_slS hs ?_
    walk_at "ss"
    refine s_itd (fun e1 => ?_) (fun e1 => ?_)
    · rw [decide_eq_true e1, if_pos rfl] at hq1
      walk_at "ss"
      refine s_slS hs ?_
      exact hq1 _ s1
    · rw [decide_eq_false e1, if_neg Bool.false_ne_true] at hq1
      walk_at "ss"
      refine s_addS (by show 1 + z.length ≤ sizeLine; rw [sizeLine_eq]; omega) ?_
      exact hq1 _ s1
def dsp_negated : DSp := DSp1 fun x S Q E => ∃ z : Str, x = .str z ∧ z.length ≤ 1000000 ∧ (isLit z = true → Q (.str (flip z)) S) ∧ (isLit z = false → E "BadLiteral" [("text", .str z)] S)
theorem ad_negated {K : PySem.W.Frag} {vs : List V} {H : Hp} {Q : VK} {E : XK} (h : lift K dsp_negated vs H Q E) : sp_negated K vs H Q E := by
  obtain ⟨A, S, ds, QD, ED, C, ts, ⟨x, rfl, z, rfl, hl, q1, q2⟩, k, he⟩ := h
  cases ts with | cons t1 ts =>
    cases ts
    cases t1
    refine ⟨_, rfl, z, rfl, hl, fun hz H' s => ?_, fun hz => errT_go C he (q2 hz)⟩
    obtain ⟨C', l⟩ := C.same s
    exact k _ _ _ _ _ l C' (by first | exact .str _ | exact .bl _) (q1 hz)
def sp_law_source (K : PySem.W.Frag) : Sp := Sp1 fun x H Q _ => ∃ (a : Addr) (ns : List Int), x = .ref a ∧ SqL K H a (ns.map V.int) ∧ ns.length ≤ 100 ∧ ∀ H' p, Same H H' → H p = none → Src H' p → Q (.ref p) H'
def N_law_source : List PySem.Str := ["_law_script"]
def t_law_source (K : PySem.W.Frag) (W : WX) : TS := (tRet (tLst (tCons (tCB (rListP K) (tCons (tVar 0) tNil)) (tCons (tC (.int 0)) (tCons (tC (.int 0)) (tCons (tC (.int 0)) (tCons (tC (.int 0)) tNil)))))))
theorem pure_law_source {K : PySem.W.Frag} {vs : List V} {H : Hp} {Q : VK} {E : XK} {W : WX} (h : sp_law_source K vs H Q E) : t_law_source K W { nx := fun _ H' => Q .non H', rt := Q } (start N_law_source vs) H := by
  obtain ⟨x, rfl, a, ns, rfl, hS, hl, hq⟩ := h
  show t_law_source K W _ [some (.ref a)] H
  unfold t_law_source
  walk_at "ss"
  refine s_listL hS fun l hl0 => ?_
  walk_at "ss"
  refine ⟨by show 5 ≤ sizeLine; rw [sizeLine_eq]; decide, fun p hp => ?_⟩
  have s1 := same_new (o := .lst (ns.map V.int)) hl0
  refine hq _ p (s1.trans (same_new hp)) (s1.free hp) ⟨l, ns, 0, 0, 0, 0, upd_same, ?_, by decide, hl⟩
  rw [upd_ne (ne_of_none (H := upd H l (.lst (ns.map V.int))) upd_same hp)]
  exact upd_same
def sp_law_take (K : PySem.W.Frag) : Sp := Sp2 fun x y H Q _ => ∃ (a : Addr) (m : Int), x = .ref a ∧ y = .int m ∧ Src H a ∧ 0 < m ∧ m.natAbs.log2 < 9000 ∧ ∀ H' (r : Int), Src H' a → Mov a H H' → 0 ≤ r → r < m → Q (.int r) H'
def N_law_take : List PySem.Str := ["_law_source_here", "_law_many", "_law_mixed", "_law_cell", "_law_value"]
def t_law_take (K : PySem.W.Frag) (W : WX) : TS := (tCut (tIfS (tTest (tOp (rEqP K) (tOp (rIxP K) (tVar 0) (tC (.int 3))) (tC (.int 0)))) (tCut (tIfS (tTest (tOp rGeP (tOp (rIxP K) (tVar 0) (tC (.int 1))) (tCB (rLenP K) (tCons (tOp (rIxP K) (tVar 0) (tC (.int 0))) tNil)))) (tRet (tC (.int 0))) tNext)
    (tSeq (tAsg (tCB rIntP (tCons (tOp (rIxP K) (tOp (rIxP K) (tVar 0) (tC (.int 0))) (tOp (rIxP K) (tVar 0) (tC (.int 1)))) tNil)) (gName 3))
    (tSeq (tAsg (tOp (rAddP K) (tOp (rIxP K) (tVar 0) (tC (.int 1))) (tC (.int 1))) (gSub (tVar 0) (tC (.int 1)) rSetP))
    (tSeq (tAsg (tVar 3) (gSub (tVar 0) (tC (.int 2)) rSetP))
    (tSeq (tAsg (tC (.int 4)) (gSub (tVar 0) (tC (.int 3)) rSetP))
    (tSeq (tAsg (tC (.int 0)) (gSub (tVar 0) (tC (.int 4)) rSetP))
    (tIfS (tTest (tOp rGeP (tVar 3) (tOp rPowP (tC (.int 10)) (tC (.int 18))))) (tSeq (tAsg (tC (.int 60)) (gSub (tVar 0) (tC (.int 3)) rSetP))
    (tAsg (tC (.int 1)) (gSub (tVar 0) (tC (.int 4)) rSetP))) tNext))))))) tNext)
    (tSeq (tAsg (tOp rSubP (tOp (rIxP K) (tVar 0) (tC (.int 3))) (tC (.int 1))) (gSub (tVar 0) (tC (.int 3)) rSetP))
    (tCut (tIfS (tTest (tOp (rEqP K) (tOp (rIxP K) (tVar 0) (tC (.int 4))) (tC (.int 1)))) (tSeq (tAsg (tOp rModP (tCB rIntP (tCons (tOp (rIxP K) (tVar 0) (tC (.int 2))) tNil)) (tVar 1)) (gName 4))
    (tSeq (tAsg (tOp rFdivP (tOp (rIxP K) (tVar 0) (tC (.int 2))) (tVar 1)) (gSub (tVar 0) (tC (.int 2)) rSetP))
    (tCut (tIfS (tTest (tOp (rEqP K) (tOp (rIxP K) (tVar 0) (tC (.int 2))) (tC (.int 0)))) (tAsg (tC (.int 0)) (gSub (tVar 0) (tC (.int 3)) rSetP)) tNext)
    (tRet (tVar 4))))) tNext)
    (tSeq (tAsg (tOp rModP (tCB rIntP (tCons (tOp (rAddP K) (tOp (rAddP K) (tOp rMulP (tOp (rIxP K) (tVar 0) (tC (.int 2))) (tC (.int 48271))) (tOp rMulP (tOp (rIxP K) (tVar 0) (tC (.int 3))) (tC (.int 69621)))) (tC (.int 11))) tNil)) (tC (.int 2147483647))) (gName 2))
    (tSeq (tAsg (tOp rModP (tCB rIntP (tCons (tOp (rAddP K) (tOp (rAddP K) (tOp rMulP (tVar 2) (tC (.int 16807))) (tOp rMulP (tOp (rIxP K) (tVar 0) (tC (.int 3))) (tC (.int 7919)))) (tC (.int 5))) tNil)) (tC (.int 2147483629))) (gName 2))
    (tRet (tOp rModP (tCB rIntP (tCons (tVar 2) tNil)) (tVar 1))))))))
theorem pure_law_take {K : PySem.W.Frag} {vs : List V} {H : Hp} {Q : VK} {E : XK} {W : WX} (h : sp_law_take K vs H Q E) : t_law_take K W { nx := fun _ H' => Q .non H', rt := Q } (start N_law_take vs) H := by
  obtain ⟨x, y, rfl, a, m, rfl, rfl, ⟨c, cells, i, cur, cnt, mode, ha, hc, hi, hl⟩, hm, hm2, hq⟩ := h
  show t_law_take K W _ [some (.ref a), some (.int m), none, none, none] H
  unfold t_law_take
  have hca : c ≠ a := by
    intro e
    rw [e, ha] at hc
    have e2 := Option.some.inj hc
    injection e2 with e3
    have e4 := congrArg List.head? e3
    cases cells with
    | nil => cases e4
    | cons z r => cases e4
  refine s_cut (fun σ' H' => ∃ (i' cur' cnt' mode' : Int) (v3 : Option V), σ' = [some (.ref a), some (.int m), none, v3, none] ∧ H' a = some (.lst [.ref c, .int i', .int cur', .int cnt', .int mode']) ∧ But a H H' ∧ 0 ≤ i') ?_ ?_
  · walk_at "sl"
    refine s_itd (fun e0 => ?_) (fun e0 => ?_)
    · refine s_nocut ?_
      walk_at "sl"
      refine s_lenL hc ?_
      walk_at "sl"
      refine s_itd (fun e1 => ?_) (fun e1 => ?_)
      · walk_at "sl"
        exact hq H 0 ⟨c, cells, i, cur, cnt, mode, ha, hc, hi, hl⟩ (Mov.refl _ _) (by decide) hm
      · obtain ⟨z, hz⟩ := atI_cells hi e1
        walk_at "sl"
        refine s_ixL hc hz ?_
        walk_at "sl"
        refine s_in2 (by exact ⟨by decide, by decide, by decide⟩) ?_
        walk_at "sl"
        refine s_itd (fun e2 => ?_) (fun e2 => ?_)
        · walk_at "sl"
          exact ⟨_, _, _, _, _, rfl, upd_same, But.upd, by omega⟩
        · walk_at "sl"
          exact ⟨_, _, _, _, _, rfl, upd_same, But.upd, by omega⟩
    · walk_at "sl"
      exact ⟨_, _, _, _, _, rfl, ha, But.refl _ _, hi⟩
  · rintro σ' H' ⟨i', cur', cnt', mode', v3, rfl, ha', hb, hi'⟩
    have hc' := hb _ _ hc hca
    walk_at "sl"
    have fin : ∀ (i2 cur2 cnt2 mode2 r : Int), 0 ≤ i2 → 0 ≤ r → r < m → Q (.int r) (upd H' a (.lst [.ref c, .int i2, .int cur2, .int cnt2, .int mode2])) := fun i2 cur2 cnt2 mode2 r h2 h3 h4 =>
      hq _ r ⟨c, cells, i2, cur2, cnt2, mode2, upd_same, by rw [upd_ne hca]; exact hc', h2, hl⟩ (Mov.of (hb.trans But.upd) ha upd_same) h3 h4
    have hmod : ∀ z : Int, 0 ≤ z.fmod m ∧ z.fmod m < m := fun z => ⟨Int.fmod_nonneg_of_pos z hm, Int.fmod_lt_of_pos z hm⟩
    refine s_nocut ?_
    walk_at "sl"
    refine s_itd (fun e0 => ?_) (fun e0 => ?_)
    · walk_at "sl"
      refine s_in2 (by omega) ?_
      walk_at "sl"
      refine s_in2 ⟨by omega, hm2⟩ ?_
      walk_at "sl"
      refine s_nocut ?_
      walk_at "sl"
      refine s_itd (fun e1 => ?_) (fun e1 => ?_)
      · walk_at "sl"
        exact fin _ _ _ _ _ hi' (hmod _).1 (hmod _).2
      · walk_at "sl"
        exact fin _ _ _ _ _ hi' (hmod _).1 (hmod _).2
    · walk_at "sl"
      refine s_in2 (.inl (.inr ⟨by decide, by decide⟩)) ?_
      walk_at "sl"
      refine s_in2 (.inl (.inr ⟨by decide, by decide⟩)) ?_
      walk_at "sl"
      refine s_in2 (by decide) ?_
      walk_at "sl"
      refine s_in2 (.inl (.inr ⟨by decide, by decide⟩)) ?_
      walk_at "sl"
      refine s_in2 (.inl (.inr ⟨by decide, by decide⟩)) ?_
      walk_at "sl"
      refine s_in2 (by decide) ?_
      walk_at "sl"
      refine s_in2 (by omega) ?_
      exact fin _ _ _ _ _ hi' (hmod _).1 (hmod _).2
theorem take_ok {K : PySem.W.Frag} {a : Addr} {m : Int} {H : Hp} {Q : VK} {E : XK} (S : Src H a) (h0 : 0 < m) (h1 : m ≤ 1000000000000000) (hq : ∀ H' (r : Int), Src H' a → Mov a H H' → 0 ≤ r → r < m → Q (.int r) H') : sp_law_take K [.ref a, .int m] H Q E :=
  ⟨_, _, rfl, a, m, rfl, rfl, S, h0, lg h0 h1, hq⟩
def dsp_law_take : DSp := DSp2 fun x y S Q _ => ∃ (n : Nat) (m : Int), x = .hdl n ∧ y = .int m ∧ IsSrc S n ∧ 0 < m ∧ m.natAbs.log2 < 9000 ∧ ∀ c (k : Int), IsSrcD c → 0 ≤ k → k < m → Q (.int k) (S.set n c)
theorem ad_law_take {K : PySem.W.Frag} {vs : List V} {H : Hp} {Q : VK} {E : XK} (h : lift K dsp_law_take vs H Q E) : sp_law_take K vs H Q E := by
  obtain ⟨A, S, ds, QD, ED, C, ts, ⟨x, y, rfl, n, m, rfl, rfl, hs, h0, hm, hq⟩, k, _⟩ := h
  cases ts with | cons t1 ts => cases ts with | cons t2 ts =>
    cases ts
    cases t1 with
    | hdl ha =>
      rw [int_of t2]
      refine ⟨_, _, rfl, _, m, rfl, rfl, src_of C hs ha, h0, hm, fun H' r s mv r0 r1 => ?_⟩
      obtain ⟨c, ic, C', l⟩ := src_back C hs ha mv s
      exact k _ _ _ _ _ l C' (.int r) (hq c r ic r0 r1)
/-- a draw -/
theorem take_d {S : Sto} {n : Nat} {m : Int} {Q : DQ} {E : DX} (hs : IsSrc S n) (h0 : 0 < m) (h1 : m ≤ 1000000000000000) (h : ∀ c (k : Int), IsSrcD c → 0 ≤ k → k < m → Q (.int k) (S.set n c)) : dsp_law_take [.hdl n, .int m] S Q E := ⟨_, _, rfl, n, m, rfl, rfl, hs, h0, lg h0 h1, h⟩
def sp_law_word (K : PySem.W.Frag) : Sp := Sp2 fun x y H Q _ => ∃ (a : Addr) (n : Int), x = .ref a ∧ y = .int n ∧ Src H a ∧ 1 ≤ n ∧ n ≤ 1000 ∧ ∀ H' z, Src H' a → Mov a H H' → Wrd z → (z.length : Int) = n → Q (.str z) H'
def N_law_word : List PySem.Str := ["_law_source_here", "_law_size", "_law_letters", "_law_signs", "_law_word_here", "_law_number", "_law_k"]
def t_law_word (K : PySem.W.Frag) (W : WX) : TS := (tSeq (tAsg (tC (.str "abcdefghijklmnopqrstuvwxyz")) (gName 2))
    (tSeq (tAsg (tC (.str "0123456789abcdefghijklmnopqrstuvwxyz")) (gName 3))
    (tSeq (tAsg (tOp (rIxP K) (tVar 2) (tCallS (sp_law_take K) (WE W) (tCons (tVar 0) (tCons (tC (.int 26)) tNil)))) (gName 4))
    (tSeq (tAsg (tCallS (sp_law_take K) (WE W) (tCons (tVar 0) (tCons (tOp rPowP (tC (.int 36)) (tC (.int 7))) tNil))) (gName 5))
    (tCut (tFor (iRng1 (tCons (tOp rSubP (tVar 1) (tC (.int 1))) tNil)) (gName 6) (tSeq (tAsg (tOp (rAddP K) (tVar 4) (tOp (rIxP K) (tVar 3) (tOp rModP (tCB rIntP (tCons (tVar 5) tNil)) (tC (.int 36))))) (gName 4))
    (tAsg (tOp rFdivP (tVar 5) (tC (.int 36))) (gName 5))))
    (tRet (tVar 4)))))))
theorem pure_law_word {K : PySem.W.Frag} {vs : List V} {H : Hp} {Q : VK} {E : XK} {W : WX} (h : sp_law_word K vs H Q E) : t_law_word K W { nx := fun _ H' => Q .non H', rt := Q } (start N_law_word vs) H := by
  obtain ⟨x, y, rfl, a, n, rfl, rfl, hS, h1, h2, hq⟩ := h
  show t_law_word K W _ [some (.ref a), some (.int n), none, none, none, none, none] H
  unfold t_law_word
  walk_at "ss"
  refine ⟨_, _, rfl, a, 26, rfl, rfl, hS, by decide, by decide, fun H1 r S1 b1 r0 r1 => ?_⟩
  obtain ⟨c, hc, e⟩ := at_ex (l := lettersL) r0 (show r < ((lettersL.length : Nat) : Int) from r1)
  refine s_ixS (by decide +kernel) e ?_
  walk_at "ss"
  refine s_in2 ⟨by decide, by decide, by decide⟩ ?_
  walk_at "ss"
  refine ⟨_, _, rfl, a, _, rfl, rfl, S1, by decide +kernel, by decide +kernel, fun H2 num S2 b2 n0 n1 => ?_⟩
  walk_at "ss"
  refine s_nocut ?_
  walk_at "ss"
  refine forr_inv (by omega) (by omega) (fun i σ H' => ∃ (w : Str) (num : Int) (v : Option V), σ = [some (.ref a), some (.int n), some (.str "abcdefghijklmnopqrstuvwxyz"), some (.str "0123456789abcdefghijklmnopqrstuvwxyz"), some (.str w), some (.int num), v] ∧ Src H' a ∧ Mov a H H' ∧ Wrd w ∧ w.length = 1 + i ∧ 0 ≤ num)
    ⟨_, num, _, rfl, S2, b1.trans b2, Wrd.one hc, rfl, n0⟩ ?_ ?_
  · rintro i σ H' hi ⟨w, num', v, rfl, S3, b3, hw, hl, n3⟩
    walk_at "ss"
    refine s_in2 (by decide) ?_
    obtain ⟨f0, f1⟩ := fmod_b num' 36 (by decide)
    obtain ⟨d, hd, e2⟩ := at_ex (l := signs2L) f0 (show num'.fmod 36 < ((signs2L.length : Nat) : Int) from f1)
    refine s_ixS (by decide +kernel) e2 ?_
    refine s_addS (by rw [hl, sizeLine_eq]; show 1 + i + 1 ≤ _; omega) ?_
    walk_at "ss"
    refine s_in2 ⟨by decide, by decide⟩ ?_
    walk_at "ss"
    refine ⟨_, _, _, rfl, S3, b3, hw.add (signs2_in hd), by rw [app_len, hl]; rfl, ?_⟩
    rw [Int.fdiv_eq_ediv_of_nonneg _ (by decide)]
    exact Int.ediv_nonneg n3 (by decide)
  · rintro σ H' ⟨w, num', v, rfl, S3, b3, hw, hl, n3⟩
    walk_at "ss"
    exact hq H' w S3 b3 hw (by rw [hl]; omega)
theorem word_ok {K : PySem.W.Frag} {a : Addr} {n : Int} {H : Hp} {Q : VK} {E : XK} (S : Src H a) (h0 : 1 ≤ n) (h1 : n ≤ 1000) (hq : ∀ H' z, Src H' a → Mov a H H' → Wrd z → (z.length : Int) = n → Q (.str z) H') : sp_law_word K [.ref a, .int n] H Q E :=
  ⟨_, _, rfl, a, n, rfl, rfl, S, h0, h1, hq⟩
def sp_law_names (K : PySem.W.Frag) : Sp := Sp2 fun x y H Q _ => ∃ (a : Addr) (n : Int), x = .ref a ∧ y = .int n ∧ Src H a ∧ 0 ≤ n ∧ n ≤ 40 ∧ ∀ H' (p : Addr) (zs : List Str), Src H' a → Mov a H H' → H p = none → p ≠ a → H' p = some (.lst (zs.map V.str)) → (zs.length : Int) = n → (∀ z ∈ zs, isNm z = true) → (n ≤ 26 → zs.Nodup) → Q (.ref p) H'
def N_law_names : List PySem.Str := ["_law_source_here", "_law_many", "_law_letters", "_law_style", "_law_size", "_law_at", "_law_base", "_law_shift", "_law_pace", "_law_names_here", "_law_k", "_law_letter"]
def t_law_names (K : PySem.W.Frag) (W : WX) : TS := (tSeq (tAsg (tC (.str "abcdefghijklmnopqrstuvwxyz")) (gName 2))
    (tSeq (tAsg (tCallS (sp_law_take K) (WE W) (tCons (tVar 0) (tCons (tC (.int 3)) tNil))) (gName 3))
    (tSeq (tAsg (tOp (rAddP K) (tC (.int 1)) (tCallS (sp_law_take K) (WE W) (tCons (tVar 0) (tCons (tC (.int 8)) tNil)))) (gName 4))
    (tSeq (tAsg (tCallS (sp_law_take K) (WE W) (tCons (tVar 0) (tCons (tVar 4) tNil))) (gName 5))
    (tSeq (tAsg (tCallS (sp_law_word K) (WE W) (tCons (tVar 0) (tCons (tVar 4) tNil))) (gName 6))
    (tSeq (tAsg (tCallS (sp_law_take K) (WE W) (tCons (tVar 0) (tCons (tC (.int 26)) tNil))) (gName 7))
    (tSeq (tAsg (tOp (rIxP K) (tLst (tCons (tC (.int 1)) (tCons (tC (.int 5)) (tCons (tC (.int 7)) (tCons (tC (.int 25)) tNil))))) (tCallS (sp_law_take K) (WE W) (tCons (tVar 0) (tCons (tC (.int 4)) tNil)))) (gName 8))
    (tSeq (tAsg (tLst tNil) (gName 9))
    (tCut (tFor (iRng1 (tCons (tVar 1) tNil)) (gName 10) (tSeq (tAsg (tOp (rIxP K) (tVar 2) (tOp rModP (tCB rIntP (tCons (tOp (rAddP K) (tVar 7) (tOp rMulP (tVar 8) (tVar 10))) tNil)) (tC (.int 26)))) (gName 11))
    (tIfS (tTest (tOp (rEqP K) (tVar 3) (tC (.int 0)))) (tDrop (tBM K "list" rAppend (tVar 9) (tCons (tOp (rAddP K) (tOp (rAddP K) (tSl (rSlP K) (tVar 6) tNoPart (tPart (tVar 5))) (tVar 11)) (tSl (rSlP K) (tVar 6) (tPart (tOp (rAddP K) (tVar 5) (tC (.int 1)))) tNoPart)) tNil))) (tIfS (tTest (tOp (rEqP K) (tVar 3) (tC (.int 1)))) (tDrop (tBM K "list" rAppend (tVar 9) (tCons (tOp (rAddP K) (tVar 11) (tSl (rSlP K) (tVar 6) (tPart (tC (.int 1))) (tPart (tOp (rAddP K) (tC (.int 1)) (tCallS (sp_law_take K) (WE W) (tCons (tVar 0) (tCons (tC (.int 8)) tNil))))))) tNil))) (tDrop (tBM K "list" rAppend (tVar 9) (tCons (tOp (rAddP K) (tOp (rAddP K) (tSl (rSlP K) (tVar 6) tNoPart (tPart (tVar 5))) (tVar 11)) (tSl (rSlP K) (tCallS (sp_law_word K) (WE W) (tCons (tVar 0) (tCons (tOp rSubP (tC (.int 8)) (tVar 5)) tNil))) tNoPart (tPart (tCallS (sp_law_take K) (WE W) (tCons (tVar 0) (tCons (tOp rSubP (tC (.int 8)) (tVar 5)) tNil)))))) tNil)))))))
    (tRet (tVar 9)))))))))))
/-- the letter that tells the k-th name -/
def LtAt (pos : Nat) (shift pace : Int) (k : Nat) (z : Str) : Prop := z.cps.toList[pos]? = some (97 + ((shift + pace * k) % 26).toNat)
theorem letter_at {m : Int} {c : Nat} (h0 : 0 ≤ m) (h1 : m < 26) (h : atI lettersL m = some c) : c = 97 + m.toNat := by
  have key : ∀ k, k < 26 → lettersL[k]? = some (97 + k) := by decide +kernel
  have e := key m.toNat (by omega)
  unfold atI ixN at h
  rw [if_pos h0, if_pos (show m < ((lettersL.length : Nat) : Int) from h1)] at h
  have h2 : lettersL[m.toNat]? = some c := h
  rw [e] at h2
  simpa using h2.symm
theorem pace_inj {shift pace : Int} (hp : pace = 1 ∨ pace = 5 ∨ pace = 7 ∨ pace = 25) {i k : Nat} (hi : i < 26) (hk : k < 26) (e : (shift + pace * (i : Int)) % 26 = (shift + pace * (k : Int)) % 26) : i = k := by
  rcases hp with rfl | rfl | rfl | rfl <;> omega
theorem names_nodup {zs : List Str} {pos : Nat} {shift pace : Int} (hp : pace = 1 ∨ pace = 5 ∨ pace = 7 ∨ pace = 25) (hl : zs.length ≤ 26) (h : ∀ k z, zs[k]? = some z → LtAt pos shift pace k z) : zs.Nodup := by
  refine List.pairwise_iff_getElem.mpr fun i j hi hj hij e => ?_
  have h1 := h i zs[i] (by simp [hi])
  have h2 := h j zs[j] (by simp [hj])
  unfold LtAt at h1 h2
  rw [e] at h1
  rw [h1] at h2
  have h3 : (97 + ((shift + pace * (i : Int)) % 26).toNat) = 97 + ((shift + pace * (j : Int)) % 26).toNat := by simpa using h2
  have := pace_inj (shift := shift) hp (show i < 26 by omega) (show j < 26 by omega) (by omega)
  omega
theorem put_at (a b : Str) (c : Nat) : (a ++ ⟨#[c]⟩ ++ b).cps.toList[a.length]? = some c := by
  rw [app_toList, app_toList, List.append_assoc, List.getElem?_append_right (by rw [len_toList]; exact Nat.le_refl _), len_toList, Nat.sub_self]
  rfl
theorem pure_law_names {K : PySem.W.Frag} {vs : List V} {H : Hp} {Q : VK} {E : XK} {W : WX} (h : sp_law_names K vs H Q E) : t_law_names K W { nx := fun _ H' => Q .non H', rt := Q } (start N_law_names vs) H := by
  obtain ⟨x, y, rfl, a, n, rfl, rfl, hS, n0, n1, hq⟩ := h
  show t_law_names K W _ [some (.ref a), some (.int n), none, none, none, none, none, none, none, none, none, none] H
  unfold t_law_names
  walk_at "ss"
  refine take_ok hS (by decide) (by decide) fun H1 style S1 b1 st0 st1 => ?_
  walk_at "ss"
  refine take_ok S1 (by decide) (by decide) fun H2 sz S2 b2 z0 z1 => ?_
  walk_at "ss"
  refine take_ok S2 (by omega) (by omega) fun H3 at_ S3 b3 at0 at1 => ?_
  walk_at "ss"
  refine word_ok S3 (by omega) (by omega) fun H4 w S4 b4 hw hwl => ?_
  walk_at "ss"
  refine take_ok S4 (by decide) (by decide) fun H5 shift S5 b5 sh0 sh1 => ?_
  have B5 : Mov a H H5 := (((b1.trans b2).trans b3).trans b4).trans b5
  walk_at "ss"
  refine ⟨by show 4 ≤ sizeLine; rw [sizeLine_eq]; decide, fun p hp => ?_⟩
  have hpa := S5.ne hp
  walk_at "ss"
  refine take_ok (S5.keep (same_new hp)) (by decide) (by decide) fun H6 r S6 b6 r0 r1 => ?_
  have B6 : Mov a H H6 := (B5.trans (Mov.of_same (same_new hp))).trans b6
  obtain ⟨pace, hpc, pc0, pc1, pcs⟩ : ∃ pace : Int, atI [V.int 1, V.int 5, V.int 7, V.int 25] r = some (.int pace) ∧ 0 ≤ pace ∧ pace ≤ 25 ∧ (pace = 1 ∨ pace = 5 ∨ pace = 7 ∨ pace = 25) := by
    rcases (show r = 0 ∨ r = 1 ∨ r = 2 ∨ r = 3 by omega) with rfl | rfl | rfl | rfl
    · exact ⟨1, rfl, by decide, by decide, by simp⟩
    · exact ⟨5, rfl, by decide, by decide, by simp⟩
    · exact ⟨7, rfl, by decide, by decide, by simp⟩
    · exact ⟨25, rfl, by decide, by decide, by simp⟩
  refine s_ixL (b6 _ _ upd_same hpa) hpc ?_
  walk_at "ss"
  refine ⟨Nat.zero_le _, fun q hq0 => ?_⟩
  have hqa := S6.ne hq0
  have hqn := B6.un hqa hq0
  have hws : w.length ≤ sizeLine := by rw [sizeLine_eq]; omega
  walk_at "ss"
  refine s_cut (fun σ' H' => ∃ v u, σ' = [some (.ref a), some (.int n), some (.str "abcdefghijklmnopqrstuvwxyz"), some (.int style), some (.int (1 + sz)), some (.int at_), some (.str w), some (.int shift), some (.int pace), some (.ref q), v, u] ∧ Src H' a ∧ Mov a H H' ∧ ∃ zs : List Str, H' q = some (.lst (zs.map V.str)) ∧ (zs.length : Int) = n ∧ (∀ z ∈ zs, isNm z = true) ∧ ∀ k z, zs[k]? = some z → LtAt (if style = 1 then 0 else at_.toNat) shift pace k z) ?_ ?_
  · walk_at "ss"
    refine forr_inv (by omega) (by omega) (fun i σ' H' => ∃ v u, σ' = [some (.ref a), some (.int n), some (.str "abcdefghijklmnopqrstuvwxyz"), some (.int style), some (.int (1 + sz)), some (.int at_), some (.str w), some (.int shift), some (.int pace), some (.ref q), v, u] ∧ Src H' a ∧ Mov a H H' ∧ ∃ zs : List Str, H' q = some (.lst (zs.map V.str)) ∧ zs.length = i ∧ (∀ z ∈ zs, isNm z = true) ∧ ∀ k z, zs[k]? = some z → LtAt (if style = 1 then 0 else at_.toNat) shift pace k z)
      ⟨none, none, rfl, S6.keep (same_new hq0), B6.trans (Mov.of_same (same_new hq0)), [], upd_same, rfl, by simp, fun k z h => by simp at h⟩ ?_ ?_
    · rintro i σ' H' hi ⟨v, u, rfl, S7, B7, zs, hzs, hzl, hnm, hLt⟩
      walk_at "ss"
      refine s_in2 (.inl (by unfold CMul; omega)) ?_
      walk_at "ss"
      refine s_in2 (by decide) ?_
      walk_at "ss"
      obtain ⟨f0, f1⟩ := fmod_b (shift + pace * i) 26 (by decide)
      obtain ⟨c, hc, e2⟩ := at_ex (l := lettersL) f0 (show (shift + pace * i).fmod 26 < ((lettersL.length : Nat) : Int) from f1)
      have hcc : c = 97 + ((shift + pace * (i : Int)) % 26).toNat := by
        have := letter_at f0 f1 e2
        rw [Int.fmod_eq_emod_of_nonneg _ (by decide)] at this
        exact this
      refine s_ixS (by decide +kernel) e2 ?_
      walk_at "ss"
      have fin : ∀ (H8 : Hp) (z : Str), Src H8 a → Mov a H' H8 → Wrd z → z.length ≤ 8 → LtAt (if style = 1 then 0 else at_.toNat) shift pace i z → H8 q = some (.lst (zs.map V.str)) → rAppend (.ref q) [.str z] H8 fun _ H9 => ∃ v u, ([some (.ref a), some (.int n), some (.str "abcdefghijklmnopqrstuvwxyz"), some (.int style), some (.int (1 + sz)), some (.int at_), some (.str w), some (.int shift), some (.int pace), some (.ref q), some (.int i), some (.str ⟨#[c]⟩)] : L2.St) = [some (.ref a), some (.int n), some (.str "abcdefghijklmnopqrstuvwxyz"), some (.int style), some (.int (1 + sz)), some (.int at_), some (.str w), some (.int shift), some (.int pace), some (.ref q), v, u] ∧ Src H9 a ∧ Mov a H H9 ∧ ∃ zs : List Str, H9 q = some (.lst (zs.map V.str)) ∧ zs.length = i + 1 ∧ (∀ z ∈ zs, isNm z = true) ∧ ∀ k z, zs[k]? = some z → LtAt (if style = 1 then 0 else at_.toNat) shift pace k z := by
        intro H8 z S8 B8 hw8 hl8 hz8 hq8
        refine s_app hq8 (by rw [List.length_map]; omega) ?_
        refine ⟨_, _, rfl, ?_, ?_, zs ++ [z], by rw [upd_same, map_snoc], by rw [List.length_append, hzl]; rfl, fun y hy => ?_, fun k y hk => ?_⟩
        · exact hS.off hqn (B7.trans B8) S8
        · exact Mov.put hS hqn (B7.trans B8)
        · rcases List.mem_append.mp hy with hy | hy
          · exact hnm y hy
          · have : y = z := by simpa using hy
            rw [this]; exact hw8.nm hl8
        · by_cases hlt : k < zs.length
          · rw [List.getElem?_append_left hlt] at hk
            exact hLt k y hk
          · rw [List.getElem?_append_right (by omega)] at hk
            have hk0 : k = zs.length := by
              have := (List.getElem?_eq_some_iff.mp hk).1
              simp at this
              omega
            subst hk0
            have : z = y := by simpa using hk
            subst this
            rw [hzl]
            exact hz8
      refine s_itd (fun e => ?_) (fun e => ?_)
      · walk_at "ss"
        refine s_tyL hzs ?_
        walk_at "ss"
        refine s_slS hws ?_
        have ea : at_ = ((at_.toNat : Nat) : Int) := by omega
        have l1 := cutS_lenle w at_ at0
        have lcut : (cutS w none (some at_)).length = at_.toNat := by
          rw [← len_toList, ea, cut_to, List.length_take, len_toList]
          omega
        walk_at "ss"
        refine s_addS (by show _ + 1 ≤ sizeLine; rw [sizeLine_eq]; omega) ?_
        walk_at "ss"
        refine s_slS hws ?_
        have l2 := cutS_len w (some (at_ + 1)) none
        have l3 : (cutS w none (some at_) ++ (⟨#[c]⟩ : Str)).length = (cutS w none (some at_)).length + 1 := app_len _ _
        refine s_addS (by rw [sizeLine_eq]; omega) ?_
        walk_at "ss"
        refine fin H' _ S7 (Mov.refl a H') (wrd_put (by rw [ea]; exact wrd_to hw _) hc fun x hx => wrd_signs hw x (cut_mid hx)) ?_ (by
            unfold LtAt
            rw [if_neg (by omega), ← hcc, ← lcut]
            exact put_at _ _ _) hzs
        have l4 : ((cutS w (some (at_ + 1)) none).length : Int) ≤ 1 + sz - (at_ + 1) := by
          have e1 : at_ + 1 = (((at_ + 1).toNat : Nat) : Int) := by omega
          have e2 := len_toList (cutS w (some (at_ + 1)) none)
          rw [e1, cut_from, List.length_drop, len_toList, ← e1] at e2
          omega
        rw [app_len, l3]
        omega
      · walk_at "ss"
        refine s_itd (fun e2 => ?_) (fun e2 => ?_)
        · walk_at "ss"
          refine s_tyL hzs ?_
          walk_at "ss"
          refine take_ok S7 (by decide) (by decide) fun H8 k S8 b8 k0 k1 => ?_
          walk_at "ss"
          refine s_slS hws ?_
          have l1 := cutS_len w (some 1) (some (1 + k))
          refine s_addS (by show 1 + _ ≤ sizeLine; rw [sizeLine_eq]; omega) ?_
          walk_at "ss"
          have e0 : (⟨#[c]⟩ : Str) ++ cutS w (some 1) (some (1 + k)) = ("" : Str) ++ ⟨#[c]⟩ ++ cutS w (some 1) (some (1 + k)) := str_ext (by rw [app_toList, app_toList, app_toList]; rfl)
          have hl : (cutS w (some 1) (some (1 + k))).length ≤ 7 := by
            have := len_toList (cutS w (some 1) (some (1 + k)))
            have e1 : HT.sIx w.length 0 (some 1) = min 1 w.length := HT.sIx_nat w.length 0 1
            have e3 : HT.sIx w.length w.length (some (1 + k)) = min (1 + k.toNat) w.length := by
              have := HT.sIx_nat w.length w.length (1 + k.toNat)
              rw [← this]; congr 2; omega
            have e4 : (cutS w (some 1) (some (1 + k))).length = (List.take (min (1 + k.toNat) w.length - min 1 w.length) (List.drop (min 1 w.length) w.cps.toList)).length := by
              rw [← this]; unfold cutS; rw [e1, e3]
            rw [e4, List.length_take]
            omega
          refine fin H8 _ S8 b8 (by rw [e0]; exact wrd_put (.inl rfl) hc fun x hx => wrd_signs hw x (cut_mid hx)) ?_ (by
            unfold LtAt
            rw [if_pos e2, ← hcc, e0]
            exact put_at "" _ _) (b8 _ _ hzs hqa)
          rw [app_len]
          show 1 + _ ≤ 8
          omega
        · walk_at "ss"
          refine s_tyL hzs ?_
          walk_at "ss"
          refine s_slS hws ?_
          have ea : at_ = ((at_.toNat : Nat) : Int) := by omega
          have l1 := cutS_lenle w at_ at0
          have lcut : (cutS w none (some at_)).length = at_.toNat := by
            rw [← len_toList, ea, cut_to, List.length_take, len_toList]
            omega
          walk_at "ss"
          refine s_addS (by show _ + 1 ≤ sizeLine; rw [sizeLine_eq]; omega) ?_
          walk_at "ss"
          refine word_ok S7 (by omega) (by omega) fun H8 w2 S8 b8 hw2 hwl2 => ?_
          walk_at "ss"
          refine take_ok S8 (by omega) (by omega) fun H9 k S9 b9 k0 k1 => ?_
          walk_at "ss"
          refine s_slS (by rw [sizeLine_eq]; omega) ?_
          have l2 := cutS_lenle w2 k k0
          have l3 : (cutS w none (some at_) ++ (⟨#[c]⟩ : Str)).length = (cutS w none (some at_)).length + 1 := app_len _ _
          refine s_addS (by rw [sizeLine_eq]; omega) ?_
          walk_at "ss"
          refine fin H9 _ S9 (b8.trans b9) (wrd_put (by rw [ea]; exact wrd_to hw _) hc fun x hx => wrd_signs hw2 x (cut_mid hx)) ?_ (by
            unfold LtAt
            rw [if_neg e2, ← hcc, ← lcut]
            exact put_at _ _ _) (b9 _ _ (b8 _ _ hzs hqa) hqa)
          rw [app_len, l3]
          omega
    · rintro σ' H' ⟨v, u, rfl, S7, B7, zs, hzs, hzl, hnm, hLt⟩
      exact ⟨v, u, rfl, S7, B7, zs, hzs, by omega, hnm, hLt⟩
  · rintro σ' H' ⟨v, u, rfl, S7, B7, zs, hzs, hzl, hnm, hLt⟩
    walk_at "ss"
    exact hq H' q zs S7 B7 hqn hqa hzs hzl hnm fun hn => names_nodup pcs (by omega) hLt
def dsp_law_names : DSp := DSp2 fun x y S Q _ => ∃ (n : Nat) (m : Int), x = .hdl n ∧ y = .int m ∧ IsSrc S n ∧ 0 ≤ m ∧ m ≤ 40 ∧ ∀ c (zs : List Str), IsSrcD c → (zs.length : Int) = m → (∀ z ∈ zs, isNm z = true) → (m ≤ 26 → zs.Nodup) → Q (rowD zs) (S.set n c)
theorem ad_law_names {K : PySem.W.Frag} {vs : List V} {H : Hp} {Q : VK} {E : XK} (h : lift K dsp_law_names vs H Q E) : sp_law_names K vs H Q E := by
  obtain ⟨A, S, ds, QD, ED, C, ts, ⟨x, y, rfl, n, m, rfl, rfl, hs, h0, hm, hq⟩, k, _⟩ := h
  cases ts with | cons t1 ts => cases ts with | cons t2 ts =>
    cases ts
    cases t1 with
    | hdl ha =>
      rw [int_of t2]
      refine ⟨_, _, rfl, _, m, rfl, rfl, src_of C hs ha, h0, hm, fun H' p zs s mv hp _ hz hl hn hd => ?_⟩
      obtain ⟨c, ic, C', l⟩ := src_back C hs ha mv s
      exact k _ _ _ _ _ l C' (new_strs C l hp hz) (hq c zs ic hl hn hd)
def sp_law_flip (K : PySem.W.Frag) : Sp := Sp1 fun x H Q _ => ∃ z : Str, x = .str z ∧ z.length ≤ 1000000 ∧ Q (.str (flip z)) H
def N_law_flip : List PySem.Str := ["_law_literal"]
def t_law_flip (K : PySem.W.Frag) (W : WX) : TS := (tCut (tIfS (tTest (tOp (rEqP K) (tSl (rSlP K) (tVar 0) tNoPart (tPart (tC (.int 1)))) (tC (.str "-")))) (tRet (tSl (rSlP K) (tVar 0) (tPart (tC (.int 1))) tNoPart)) tNext)
    (tRet (tOp (rAddP K) (tC (.str "-")) (tVar 0))))
theorem pure_law_flip {K : PySem.W.Frag} {vs : List V} {H : Hp} {Q : VK} {E : XK} {W : WX} (h : sp_law_flip K vs H Q E) : t_law_flip K W { nx := fun _ H' => Q .non H', rt := Q } (start N_law_flip vs) H := by
  obtain ⟨x, rfl, z, rfl, hz, hq⟩ := h
  show t_law_flip K W _ [some (.str z)] H
  unfold t_law_flip
  have hs : z.length ≤ sizeLine := one_lt hz
  unfold flip dash at hq
  refine s_nocut ?_
  walk_at "ss"
  refine s_slS hs ?_
  walk_at "ss"
  refine s_itd (fun e1 => ?_) (fun e1 => ?_)
  · rw [decide_eq_true e1, if_pos rfl] at hq
    walk_at "ss"
    exact s_slS hs hq
  · rw [decide_eq_false e1, if_neg Bool.false_ne_true] at hq
    walk_at "ss"
    exact s_addS (by show 1 + z.length ≤ sizeLine; rw [sizeLine_eq]; omega) hq
def dsp_law_flip : DSp := DSp1 fun x S Q _ => ∃ z : Str, x = .str z ∧ z.length ≤ 1000000 ∧ Q (.str (flip z)) S
theorem ad_law_flip {K : PySem.W.Frag} {vs : List V} {H : Hp} {Q : VK} {E : XK} (h : lift K dsp_law_flip vs H Q E) : sp_law_flip K vs H Q E := by
  obtain ⟨A, S, ds, QD, ED, C, ts, ⟨x, rfl, z, rfl, hl, hq⟩, k, _⟩ := h
  cases ts with | cons t1 ts =>
    cases ts
    cases t1
    exact ⟨_, rfl, z, rfl, hl, k.now C (.str _) hq⟩
def sp_law_name (K : PySem.W.Frag) : Sp := Sp1 fun x H Q _ => ∃ z : Str, x = .str z ∧ z.length ≤ 1000000 ∧ Q (.str (bare z)) H
def N_law_name : List PySem.Str := ["_law_literal"]
def t_law_name (K : PySem.W.Frag) (W : WX) : TS := (tCut (tIfS (tTest (tOp (rEqP K) (tSl (rSlP K) (tVar 0) tNoPart (tPart (tC (.int 1)))) (tC (.str "-")))) (tRet (tSl (rSlP K) (tVar 0) (tPart (tC (.int 1))) tNoPart)) tNext)
    (tRet (tVar 0)))
theorem pure_law_name {K : PySem.W.Frag} {vs : List V} {H : Hp} {Q : VK} {E : XK} {W : WX} (h : sp_law_name K vs H Q E) : t_law_name K W { nx := fun _ H' => Q .non H', rt := Q } (start N_law_name vs) H := by
  obtain ⟨x, rfl, z, rfl, hz, hq⟩ := h
  show t_law_name K W _ [some (.str z)] H
  unfold t_law_name
  have hs : z.length ≤ sizeLine := one_lt hz
  unfold bare dash at hq
  refine s_nocut ?_
  walk_at "ss"
  refine s_slS hs ?_
  walk_at "ss"
  refine s_itd (fun e1 => ?_) (fun e1 => ?_)
  · rw [decide_eq_true e1, if_pos rfl] at hq
    walk_at "ss"
    exact s_slS hs hq
  · rw [decide_eq_false e1, if_neg Bool.false_ne_true] at hq
    walk_at "ss"
    exact hq
end Rd
namespace Rd
open PySem PySem.Spec PyProof.Rows L2 He Px Dx
def sp_ordered_names (K : PySem.W.Frag) : Sp := Sp1 fun x H Q E => ∃ (p : Addr) (zs : List Str), x = .ref p ∧ H p = some (.lst (zs.map V.str)) ∧ zs.length ≤ 1000 ∧ (∀ z ∈ zs, z.length ≤ 1000000) ∧ (∀ z, badN zs = some z → ∀ H' d, Same H H' → H' d = some (.xd [("text", .str z)]) → E (.ref (ga K "BadName")) (some d) H') ∧ (badN zs = none → ∀ H' q, Same H H' → H q = none → H' q = some (.lst ((srt zs).map V.str)) → Q (.ref q) H')
def N_ordered_names : List PySem.Str := ["names", "name", "result"]
def t_ordered_names (K : PySem.W.Frag) (W : WX) : TS := (tCut (tFor (iAnyP K (tVar 0)) (gName 1) (tIfS (tNot (tB (tCallS (sp_is_name K) (WE W) (tCons (tVar 1) tNil)))) (tRaiseE (ga K "BadName") "text" W (tCons (tVar 1) tNil)) tNext))
    (tSeq (tAsg (tLst tNil) (gName 2))
    (tCut (tFor (iAnyP K (tCB (rSortAny K) (tCons (tLc (iAnyP K (tVar 0)) (gName 1) tYes (tCB rStrP (tCons (tVar 1) tNil)) [1]) tNil))) (gName 1) (tIfS (tTest (tOp (rInP K true) (tVar 1) (tVar 2))) (tDrop (tBM K "list" rAppend (tVar 2) (tCons (tVar 1) tNil))) tNext))
    (tRet (tVar 2)))))
theorem pure_ordered_names {K : PySem.W.Frag} {vs : List V} {H : Hp} {Q : VK} {E : XK} (h : sp_ordered_names K vs H Q E) : t_ordered_names K (fun cls d _ H => E cls d H) { nx := fun _ H' => Q .non H', rt := Q } (start N_ordered_names vs) H := by
  obtain ⟨x, rfl, p, zs, rfl, hp, hl, hz, he, hq⟩ := h
  show t_ordered_names K _ _ [some (.ref p), none, none] H
  unfold t_ordered_names
  refine s_cut (fun σ' H' => ∃ v, σ' = [some (.ref p), v, none] ∧ Same H H' ∧ badN zs = none) ?_ ?_
  · walk_at "ss"
    refine forb_list (xs := zs.map V.str) (fun i σ' H' => ∃ v, σ' = [some (.ref p), v, none] ∧ Same H H' ∧ ∀ z ∈ zs.take i, isNm z = true) ⟨none, rfl, Same.refl H, by simp⟩ ?_ ?_ ?_
    · rintro i σ' H' hi ⟨v, rfl, s1, _⟩
      exact SqL.of (s1 _ _ hp)
    · rintro i y σ' H' hi ⟨v, rfl, s1, ha⟩
      obtain ⟨z, hj, rfl⟩ := at_strs hi; replace hi := hj
      walk_at "ss"
      refine ⟨_, rfl, z, rfl, hz z (List.mem_of_getElem? hi), fun H2 s2 => ?_⟩
      walk_at "ss"
      cases hn : isNm z with
      | false =>
        refine s_itT rfl ?_
        exact ⟨_, rfl, _, rfl, fun d hd => he z (find_at (by rw [hn]; rfl) hi fun y hy => by rw [ha y hy]; rfl) _ d ((s1.trans s2).trans (same_new hd)) upd_same⟩
      | true =>
        refine s_itF rfl ?_
        walk_at "ss"
        exact ⟨_, rfl, s1.trans s2, take_all hi ha hn⟩
    · rintro σ' H' ⟨v, rfl, s1, ha⟩
      refine ⟨v, rfl, s1, badN_none ?_⟩
      rw [List.length_map, List.take_length] at ha
      exact ha
  · rintro σ' H' ⟨v, rfl, s1, hb⟩
    have hq := hq hb
    walk_at "ss"
    refine ⟨Nat.zero_le _, fun q hq0 => ?_⟩
    have hqn : H q = none := by
      cases e : H q with
      | none => rfl
      | some o => rw [s1 _ _ e] at hq0; cases hq0
    have s2 : Same H (upd H' q (.lst [])) := s1.trans (same_new hq0)
    walk_at "ss"
    refine s_cut (fun σ2 H2 => ∃ v, σ2 = [some (.ref p), v, some (.ref q)] ∧ Same H H2 ∧ H2 q = some (.lst ((srt zs).map V.str))) ?_ ?_
    · walk_at "ss"
      refine lcb_map (fun x => x) (.inl (SqL.of (s2 _ _ hp))) (by rw [List.length_map]; omega) ?_ ?_
      · intro x hx H2 s3 Q' hQ
        obtain ⟨z, _, rfl⟩ := List.mem_map.mp hx
        walk_at "ss"
        exact hQ _ (Same.refl _)
      · intro D H2 hD s3 hl2
        rw [List.map_id'] at hl2
        walk_at "ss"
        refine s_sort hl2 (by omega) fun ys r hperm hsort hr => ?_
        have hs := sorted_pair hsort
        have s4 : Same H' (upd H2 r (.lst (ys.map V.str))) := ((same_new hq0).trans s3).trans (same_new hr)
        have hqr : q ≠ r := fun e => by rw [← e, s3 _ _ upd_same] at hr; cases hr
        refine forb_list (xs := ys.map V.str) (fun i σ' H' => ∃ v acc, σ' = [some (.ref p), v, some (.ref q)] ∧ Same H H' ∧ H' r = some (.lst (ys.map V.str)) ∧ H' q = some (.lst (acc.map V.str)) ∧ Ord acc ∧ (∀ z, z ∈ acc ↔ z ∈ ys.take i) ∧ acc.length ≤ i)
          ⟨v, [], rfl, s1.trans s4, upd_same, by rw [upd_ne hqr]; exact s3 _ _ upd_same, List.Pairwise.nil, by simp, Nat.le_refl _⟩ ?_ ?_ ?_
        · rintro i σ' H' hi ⟨v, acc, rfl, _, h2, _⟩
          exact SqL.of h2
        · rintro i y σ' H3 hi ⟨v, acc, rfl, h1, h2, h3, h4, h5, h6⟩
          have hil := (List.getElem?_eq_some_iff.mp hi).1
          rw [List.length_map, hperm.length_eq] at hil
          obtain ⟨z, hj, rfl⟩ := at_strs hi; replace hi := hj
          obtain ⟨n1, n2⟩ := nub_step hs hi h4 h5
          walk_at "ss"
          refine s_inSL h3 ?_
          show ∃ k, V.bl (!decide (z ∈ acc)) = .bl k ∧ _
          walk_at "ss"
          by_cases hm : z ∈ acc
          · rw [decide_eq_true hm]
            refine s_itF rfl ?_
            walk_at "ss"
            exact ⟨_, acc, rfl, h1, h2, h3, h4, n1 hm, by omega⟩
          · rw [decide_eq_false hm]
            refine s_itT rfl ?_
            walk_at "ss"
            refine s_tyL h3 ?_
            walk_at "ss"
            refine s_app h3 (by rw [List.length_map]; omega) ?_
            refine ⟨_, acc ++ [z], rfl, fun b o e => ?_, by rw [upd_ne hqr.symm]; exact h2, by rw [upd_same, List.map_append]; rfl, (n2 hm).1, (n2 hm).2, by rw [List.length_append]; simp; omega⟩
            rw [upd_ne (ne_of_none e hqn)]
            exact h1 _ _ e
        · rintro σ' H3 ⟨v, acc, rfl, h1, h2, h3, h4, h5, h6⟩
          rw [List.length_map, List.take_length] at h5
          have e : acc = srt zs := srt_eq h4 fun x => (h5 x).trans hperm.mem_iff
          rw [e] at h3
          exact ⟨v, rfl, h1, h3⟩
    · rintro σ2 H2 ⟨v, rfl, h1, h2⟩
      walk_at "ss"
      exact hq H2 q h1 hqn h2
def sp_in_order (K : PySem.W.Frag) : Sp := Sp1 fun x H Q E => ∃ (p : Addr) (zs : List Str), x = .ref p ∧ (H p = some (.lst (zs.map V.str)) ∨ H p = some (.tup (zs.map V.str))) ∧ zs.length ≤ 1000 ∧ (∀ z ∈ zs, z.length ≤ 1000000) ∧ (∀ z, badOf zs = some z → ∀ H' d, Same H H' → H' d = some (.xd [("text", .str z)]) → E (.ref (ga K "BadLiteral")) (some d) H') ∧ (badOf zs = none → ∀ H' q, Same H H' → H q = none → H' q = some (.lst ((litO zs).map V.str)) → Q (.ref q) H')
def N_in_order : List PySem.Str := ["literals", "taken", "literal", "result", "name"]
def t_in_order (K : PySem.W.Frag) (W : WX) : TS := (tSeq (tAsg tDNewK (gName 1))
    (tCut (tFor (iAnyP K (tVar 0)) (gName 2) (tCut (tIfS (tNot (tB (tCallS (sp_is_literal K) (WE W) (tCons (tVar 2) tNil)))) (tRaiseE (ga K "BadLiteral") "text" W (tCons (tVar 2) tNil)) tNext)
    (tAsg (tC (.bl true)) (gSub (tVar 1) (tVar 2) rSetP))))
    (tSeq (tAsg (tLst tNil) (gName 3))
    (tCut (tFor (iAnyP K (tCallS (sp_ordered_names K) (WE W) (tCons (tLockE (tLc (iKeys (tVar 1)) (gName 2) tYes (tCall (sp_name_of K) [] E0 (tCons (tVar 2) tNil)) [2])) tNil))) (gName 4) (tFor (iAnyP K (tTup (tCons (tVar 4) (tCons (tOp (rAddP K) (tC (.str "-")) (tVar 4)) tNil)))) (gName 2) (tIfS (tTest (tOp (rInP K false) (tVar 2) (tVar 1))) (tDrop (tBM K "list" rAppend (tVar 3) (tCons (tVar 2) tNil))) tNext)))
    (tRet (tVar 3))))))
theorem pure_in_order {K : PySem.W.Frag} {vs : List V} {H : Hp} {Q : VK} {E : XK} (h : sp_in_order K vs H Q E) : t_in_order K (fun cls d _ H => E cls d H) { nx := fun _ H' => Q .non H', rt := Q } (start N_in_order vs) H := by
  obtain ⟨x, rfl, p, zs, rfl, hp, hl, hz, he, hq⟩ := h
  show t_in_order K _ _ [some (.ref p), none, none, none, none] H
  unfold t_in_order
  walk_at "ss"
  refine s_dnew fun d hd => ?_
  walk_at "ss"
  refine s_cut (fun σ' H' => ∃ v ks, σ' = [some (.ref p), some (.ref d), v, none, none] ∧ Same H H' ∧ H' d = some (ksD ks) ∧ (∀ x, x ∈ ks ↔ x ∈ zs) ∧ ks.length ≤ 1000 ∧ badOf zs = none) ?_ ?_
  · walk_at "ss"
    refine Cl.forb_seq (xs := zs.map V.str) (fun i σ' H' => ∃ v ks, σ' = [some (.ref p), some (.ref d), v, none, none] ∧ Same H H' ∧ H' d = some (ksD ks) ∧ (∀ x, x ∈ ks ↔ x ∈ zs.take i) ∧ ks.length ≤ i ∧ ∀ z ∈ zs.take i, isLit z = true)
      ⟨none, [], rfl, same_new hd, upd_same, by simp, Nat.le_refl _, by simp⟩ ?_ ?_ ?_
    · rcases hp with hp | hp
      · refine .inl ?_
        rintro i σ' H' hi ⟨v, ks, rfl, s1, _⟩
        exact SqL.of (s1 _ _ hp)
      · refine .inr ?_
        rintro i σ' H' hi ⟨v, ks, rfl, s1, _⟩
        exact SqT.of (s1 _ _ hp)
    · rintro i y σ' H' hi ⟨v, ks, rfl, s1, h1, h2, h3, ha⟩
      have hil := (List.getElem?_eq_some_iff.mp hi).1
      rw [List.length_map] at hil
      obtain ⟨z, hj, rfl⟩ := at_strs hi
      walk_at "ss"
      refine s_nocut ?_
      walk_at "ss"
      refine ⟨_, rfl, z, rfl, hz z (List.mem_of_getElem? hj), fun H2 s2 => ?_⟩
      walk_at "ss"
      cases hn : isLit z with
      | false =>
        refine s_itT rfl ?_
        exact ⟨_, rfl, _, rfl, fun e he' => he z (find_at (by rw [hn]; rfl) hj fun y hy => by rw [ha y hy]; rfl) _ e ((s1.trans s2).trans (same_new he')) upd_same⟩
      | true =>
        refine s_itF rfl ?_
        walk_at "ss"
        refine s_putD (s2 _ _ h1) (by omega) ?_
        walk_at "ss"
        refine ⟨_, _, rfl, same_put (s1.trans s2) hd, upd_same, fun x => ?_, ?_, take_all hj ha hn⟩
        · rw [take_more hj, List.mem_append]
          by_cases hm : z ∈ ks
          · rw [if_pos hm, ← h2 x]
            constructor
            · exact .inl
            · rintro (h | h)
              · exact h
              · have : x = z := by simpa using h
                rw [this]; exact hm
          · rw [if_neg hm, List.mem_append, ← h2 x]
        · split
          · omega
          · rw [List.length_append]; simp; omega
    · rintro σ' H' ⟨v, ks, rfl, s1, h1, h2, h3, ha⟩
      rw [List.length_map] at h3 ha h2
      rw [List.take_length] at ha h2
      exact ⟨v, ks, rfl, s1, h1, h2, by omega, badOf_none ha⟩
  · rintro σ' H' ⟨v, ks, rfl, s1, h1, h2, h3, hb⟩
    have hq := hq hb
    have lit := badOf_ok hb
    walk_at "ss"
    refine ⟨Nat.zero_le _, fun q hq0 => ?_⟩
    have hqn := same_un s1 hq0
    have hqd : q ≠ d := fun e => by rw [e, h1] at hq0; cases hq0
    walk_at "ss"
    refine s_cut (fun σ2 H2 => ∃ v w, σ2 = [some (.ref p), some (.ref d), v, some (.ref q), w] ∧ Same H H2 ∧ H2 q = some (.lst ((litO zs).map V.str))) ?_ ?_
    · walk_at "ss"
      refine lc_keys (fun z => .str (bare z)) rfl (show _ = some (ksD ks) by rw [upd_ne hqd.symm]; exact h1) (by omega) ?_ ?_
      · intro z hzk H2 od _ _ Q' hQ
        walk_at "ss"
        have hm := (h2 z).mp hzk
        exact ⟨_, rfl, z, rfl, hz z hm, fun _ H3 s3 => hQ H3 s3, fun e => by rw [lit z hm] at e; cases e⟩
      · intro D H2 hD s2 hr
        walk_at "ss"
        have e1 : ks.map (fun z => V.str (bare z)) = (ks.map bare).map V.str := by rw [List.map_map]; rfl
        rw [e1] at hr
        refine ⟨_, rfl, D, ks.map bare, rfl, hr, by rw [List.length_map]; exact h3, fun z hzk => ?_, fun z e => ?_, fun _ H3 r s3 hrn h4 => ?_⟩
        · obtain ⟨y, hy, rfl⟩ := List.mem_map.mp hzk
          exact Nat.le_trans (bare_len y) (hz y ((h2 y).mp hy))
        · rw [badN_none (fun w hw => by obtain ⟨y, hy, rfl⟩ := List.mem_map.mp hw; exact lit y ((h2 y).mp hy))] at e
          cases e
        · rw [srt_congr (a := ks.map bare) (b := zs.map bare) fun x => by simp [h2]] at h4
          have sA : Same (upd H' q (.lst [])) H3 := s2.trans s3
          have hqr : q ≠ r := fun e => by rw [← e, s2 _ _ upd_same] at hrn; cases hrn
          have hdr : d ≠ r := fun e => by rw [← e, s2 _ _ (show _ = some (ksD ks) by rw [upd_ne hqd.symm]; exact h1)] at hrn; cases hrn
          have hos : (srt (zs.map bare)).length ≤ 1000 := by have := srt_len (zs.map bare); rw [List.length_map] at this; omega
          generalize hO : srt (zs.map bare) = os at h4 hos
          have hnm : ∀ n ∈ os, isNm n = true := fun n hn => by
            rw [← hO] at hn
            obtain ⟨y, hy, rfl⟩ := List.mem_map.mp (mem_srt.mp hn)
            exact lit y hy
          refine forb_list (xs := os.map V.str) (fun i σ' H' => ∃ v w, σ' = [some (.ref p), some (.ref d), v, some (.ref q), w] ∧ Same H H' ∧ H' r = some (.lst (os.map V.str)) ∧ H' d = some (ksD ks) ∧ H' q = some (.lst ((flat zs (os.take i)).map V.str)))
            ⟨_, _, rfl, (s1.trans (same_new hq0)).trans sA, h4, sA _ _ (by rw [upd_ne hqd.symm]; exact h1), sA _ _ upd_same⟩ ?_ ?_ ?_
          · rintro i σ' H' hi ⟨v, w, rfl, _, h5, _⟩
            exact SqL.of h5
          · rintro i y σ' H4 hi ⟨v, w, rfl, k1, k2, k3, k4⟩
            have hil := (List.getElem?_eq_some_iff.mp hi).1
            rw [List.length_map] at hil
            obtain ⟨n, hj, rfl⟩ := at_strs hi
            have hn8 : n.length ≤ 8 := by obtain ⟨_, _, _, _, _, _, h8⟩ := nm_first (hnm n (List.mem_of_getElem? hj)); exact h8
            have fl := flat_len zs (os.take i)
            rw [List.length_take] at fl
            walk_at "ss"
            refine s_addS (by show 1 + n.length ≤ sizeLine; rw [sizeLine_eq]; omega) ?_
            walk_at "ss"
            refine ⟨by show 2 ≤ sizeLine; rw [sizeLine_eq]; decide, fun u hu => ?_⟩
            have huq : q ≠ u := fun e => by rw [← e, k4] at hu; cases hu
            have hud : d ≠ u := fun e => by rw [← e, k3] at hu; cases hu
            have hur : r ≠ u := fun e => by rw [← e, k2] at hu; cases hu
            refine forb_tup (xs := [n, ("-" : Str) ++ n].map V.str) (fun j σ' H' => ∃ v, σ' = [some (.ref p), some (.ref d), v, some (.ref q), some (.str n)] ∧ Same H H' ∧ H' r = some (.lst (os.map V.str)) ∧ H' d = some (ksD ks) ∧ H' u = some (.tup ([n, ("-" : Str) ++ n].map V.str)) ∧ H' q = some (.lst ((flat zs (os.take i) ++ ([n, ("-" : Str) ++ n].take j).filter fun z => decide (z ∈ zs)).map V.str)))
              ⟨_, rfl, same_put k1 (same_un k1 hu), by rw [upd_ne hur]; exact k2, by rw [upd_ne hud]; exact k3, upd_same, by rw [upd_ne huq, k4]; simp⟩ ?_ ?_ ?_
            · rintro j σ' H' hj ⟨v, rfl, _, _, _, h5, _⟩
              exact SqT.of h5
            · rintro j y σ' H5 hj2 ⟨v, rfl, m1, m2, m3, m4, m5⟩
              obtain ⟨z, hz2, rfl⟩ := at_strs hj2
              have fl2 : ([n, ("-" : Str) ++ n].take j).length ≤ 2 := by rw [List.length_take]; simp; omega
              have fl3 := List.length_filter_le (fun z => decide (z ∈ zs)) ([n, ("-" : Str) ++ n].take j)
              walk_at "ss"
              refine s_inD m3 ?_
              show ∃ k, V.bl (decide (z ∈ ks)) = .bl k ∧ _
              walk_at "ss"
              rw [show decide (z ∈ ks) = decide (z ∈ zs) by rw [Bool.eq_iff_iff]; simp [h2]]
              by_cases hm : z ∈ zs
              · rw [decide_eq_true hm]
                refine s_itT rfl ?_
                walk_at "ss"
                refine s_tyL m5 ?_
                walk_at "ss"
                refine s_app m5 (by rw [List.length_map, List.length_append]; omega) ?_
                refine ⟨_, rfl, same_put m1 hqn, by rw [upd_ne hqr.symm]; exact m2, by rw [upd_ne hqd.symm]; exact m3, by rw [upd_ne huq.symm]; exact m4, ?_⟩
                rw [upd_same, take_more hz2, List.filter_append, filt1 hm, ← List.append_assoc, map_snoc]
              · rw [decide_eq_false hm]
                refine s_itF rfl ?_
                walk_at "ss"
                refine ⟨_, rfl, m1, m2, m3, m4, ?_⟩
                rw [m5, take_more hz2, List.filter_append, filt0 hm, List.append_nil]
            · rintro σ' H5 ⟨v, rfl, m1, m2, m3, m4, m5⟩
              refine ⟨_, _, rfl, m1, m2, m3, ?_⟩
              rw [take_more hj, flat_more, m5]
              rfl
          · rintro σ' H4 ⟨v, w, rfl, k1, k2, k3, k4⟩
            rw [List.length_map, List.take_length, ← hO] at k4
            exact ⟨v, w, rfl, k1, k4⟩
    · rintro σ2 H2 ⟨v, w, rfl, k1, k2⟩
      walk_at "ss"
      exact hq H2 q k1 hqn k2
def sp_twice_named (K : PySem.W.Frag) : Sp := Sp1 fun x H Q _ => ∃ (p : Addr) (os : List Str), x = .ref p ∧ H p = some (.lst (os.map V.str)) ∧ (∀ z ∈ os, z.length ≤ 1000) ∧ Q (match twice os with | some n => .str n | none => .non) H
def N_twice_named : List PySem.Str := ["literals", "literal"]
def t_twice_named (K : PySem.W.Frag) (W : WX) : TS := (tCut (tFor (iAnyP K (tVar 0)) (gName 1) (tIfS (tAnd (tTest (tOp (rNeP K) (tSl (rSlP K) (tVar 1) tNoPart (tPart (tC (.int 1)))) (tC (.str "-")))) (tTest (tOp (rInP K false) (tOp (rAddP K) (tC (.str "-")) (tVar 1)) (tVar 0)))) (tRet (tVar 1)) tNext))
    (tRet (tC .non)))
theorem pure_twice_named {K : PySem.W.Frag} {vs : List V} {H : Hp} {Q : VK} {E : XK} {W : WX} (h : sp_twice_named K vs H Q E) : t_twice_named K W { nx := fun _ H' => Q .non H', rt := Q } (start N_twice_named vs) H := by
  obtain ⟨x, rfl, p, os, rfl, hp, hz, hq⟩ := h
  show t_twice_named K W _ [some (.ref p), none] H
  unfold t_twice_named
  refine s_cut (fun σ' H' => H' = H ∧ twice os = none) ?_ ?_
  · walk_at "ss"
    refine forb_list (xs := os.map V.str) (fun i σ' H' => ∃ v, σ' = [some (.ref p), v] ∧ H' = H ∧ ∀ z ∈ os.take i, (!dash z && decide (("-" : Str) ++ z ∈ os)) = false) ⟨none, rfl, rfl, by simp⟩ ?_ ?_ ?_
    · rintro i σ' H' hi ⟨v, rfl, rfl, _⟩
      exact SqL.of hp
    · rintro i y σ' H' hi ⟨v, rfl, rfl, ha⟩
      obtain ⟨z, hj, rfl⟩ := at_strs hi
      have hzl := hz z (List.mem_of_getElem? hj)
      walk_at "ss"
      refine s_slS (by rw [sizeLine_eq]; omega) ?_
      walk_at "ss"
      show if (!dash z) = true then _ else _
      cases hd : dash z with
      | true =>
        refine s_itF rfl ?_
        refine s_itF rfl ?_
        walk_at "ss"
        exact ⟨_, rfl, rfl, take_all hj ha (by rw [hd]; rfl)⟩
      | false =>
        refine s_itT rfl ?_
        walk_at "ss"
        refine s_addS (by show 1 + z.length ≤ sizeLine; rw [sizeLine_eq]; omega) ?_
        walk_at "ss"
        refine s_inSL hp ?_
        show ∃ k, V.bl (decide (("-" : Str) ++ z ∈ os)) = .bl k ∧ _
        walk_at "ss"
        by_cases hm : ("-" : Str) ++ z ∈ os
        · rw [decide_eq_true hm]
          refine s_itT rfl ?_
          walk_at "ss"
          have e : twice os = some z := find_at (by rw [hd, decide_eq_true hm]; rfl) hj ha
          rw [e] at hq
          exact hq
        · rw [decide_eq_false hm]
          refine s_itF rfl ?_
          walk_at "ss"
          exact ⟨_, rfl, rfl, take_all hj ha (by rw [decide_eq_false hm, Bool.and_false])⟩
    · rintro σ' H' ⟨v, rfl, rfl, ha⟩
      rw [List.length_map, List.take_length] at ha
      exact ⟨rfl, find_no ha⟩
  · rintro σ' H' ⟨rfl, e⟩
    walk_at "ss"
    rw [e] at hq
    exact hq
/-- how a row of literals is refused, or told in order -/
structure Chk (K : PySem.W.Frag) (zs : List Str) (lim : Int) (H : Hp) (E : XK) (ok : Prop) : Prop where
  bad : ∀ z, badOf zs = some z → ∀ H' d, Same H H' → H' d = some (.xd [("text", .str z)]) → E (.ref (ga K "BadLiteral")) (some d) H'
  both : badOf zs = none → ∀ n, twice (litO zs) = some n → ∀ H' d, Same H H' → H' d = some (.xd [("name", .str n)]) → E (.ref (ga K "BothSigns")) (some d) H'
  many : badOf zs = none → twice (litO zs) = none → lim < ((litO zs).length : Int) → ∀ H' d, Same H H' → H' d = some (.xd [("limit", .int lim)]) → E (.ref (ga K "TooMany")) (some d) H'
  fine : badOf zs = none → twice (litO zs) = none → ((litO zs).length : Int) ≤ lim → ok
theorem Chk.keep {K : PySem.W.Frag} {zs : List Str} {lim : Int} {H H1 : Hp} {E : XK} {ok ok' : Prop} (h : Chk K zs lim H E ok) (s : Same H H1) (f : ok → ok') : Chk K zs lim H1 E ok' :=
  ⟨fun z e H' d s' => h.bad z e H' d (s.trans s'), fun e n e2 H' d s' => h.both e n e2 H' d (s.trans s'), fun e e2 e3 H' d s' => h.many e e2 e3 H' d (s.trans s'), fun e e2 e3 => f (h.fine e e2 e3)⟩
theorem chk_fine {K : PySem.W.Frag} {ws zs : List Str} {lim : Int} {H : Hp} {E : XK} {ok : Prop} (h : ∀ z ∈ zs, isLit z = true) (hn : (zs.map bare).Nodup) (m : ∀ x, x ∈ ws ↔ x ∈ zs) (hl : (zs.length : Int) ≤ lim) (o : ok) : Chk K ws lim H E ok := by
  have h1 : badOf ws = none := badOf_none fun z hz => h z ((m z).mp hz)
  have h2 : litO ws = litO zs := litO_congr m
  have h3 : twice (litO ws) = none := by rw [h2]; exact twice_no h hn
  have h4 : ((litO ws).length : Int) ≤ lim := by rw [h2, litO_len_nd h hn]; exact hl
  exact ⟨fun z e => by rw [h1] at e; (cases e), fun _ n e => by rw [h3] at e; (cases e), fun _ _ e => by omega, fun _ _ _ => o⟩
def sp_checked_facts (K : PySem.W.Frag) : Sp := Sp2 fun x y H Q E => ∃ (p : Addr) (zs : List Str) (lim : Int), x = .ref p ∧ y = .int lim ∧ H p = some (.lst (zs.map V.str)) ∧ zs.length ≤ 1000 ∧ (∀ z ∈ zs, z.length ≤ 1000000) ∧ Chk K zs lim H E (∀ H' q, Same H H' → H q = none → H' q = some (.lst ((litO zs).map V.str)) → Q (.ref q) H')
def N_checked_facts : List PySem.Str := ["literals", "limit", "facts", "name"]
def t_checked_facts (K : PySem.W.Frag) (W : WX) : TS := (tSeq (tAsg (tCallS (sp_in_order K) (WE W) (tCons (tVar 0) tNil)) (gName 2))
    (tSeq (tAsg (tCallS (sp_twice_named K) (WE W) (tCons (tVar 2) tNil)) (gName 3))
    (tCut (tIfS (tTest (tOp (rIsP true) (tVar 3) (tC .non))) (tRaiseE (ga K "BothSigns") "name" W (tCons (tVar 3) tNil)) tNext)
    (tCut (tIfS (tTest (tOp rGtP (tCB (rLenP K) (tCons (tVar 2) tNil)) (tVar 1))) (tRaiseE (ga K "TooMany") "limit" W (tCons (tVar 1) tNil)) tNext)
    (tRet (tVar 2))))))
theorem pure_checked_facts {K : PySem.W.Frag} {vs : List V} {H : Hp} {Q : VK} {E : XK} (h : sp_checked_facts K vs H Q E) : t_checked_facts K (fun cls d _ H => E cls d H) { nx := fun _ H' => Q .non H', rt := Q } (start N_checked_facts vs) H := by
  obtain ⟨x, y, rfl, p, zs, lim, rfl, rfl, hp, hl, hz, hc⟩ := h
  show t_checked_facts K _ _ [some (.ref p), some (.int lim), none, none] H
  unfold t_checked_facts
  walk_at "ss"
  refine ⟨_, rfl, p, zs, rfl, .inl hp, hl, hz, hc.bad, fun hb H1 q s1 hqn h1 => ?_⟩
  have lit := badOf_ok hb
  walk_at "ss"
  refine ⟨_, rfl, q, litO zs, rfl, h1, fun z hm => by have := lit_len (lit z (litO_mem hm)); omega, ?_⟩
  walk_at "ss"
  refine s_nocut ?_
  walk_at "ss"
  cases ht : twice (litO zs) with
  | some n =>
    dsimp only
    show if (!decide (V.str n = .non)) = true then _ else _
    refine s_itT (by simp) ?_
    exact ⟨_, rfl, _, rfl, fun d hd => hc.both hb n ht _ d (s1.trans (same_new hd)) upd_same⟩
  | none =>
    dsimp only
    refine s_itF (by simp [tgtIn]) ?_
    walk_at "ss"
    refine s_nocut ?_
    walk_at "ss"
    refine s_lenL h1 ?_
    walk_at "ss"
    rw [List.length_map]
    refine s_itd (fun e => ?_) (fun e => ?_)
    · exact ⟨_, rfl, _, rfl, fun d hd => hc.many hb ht e _ d (s1.trans (same_new hd)) upd_same⟩
    · walk_at "ss"
      exact hc.fine hb ht (by omega) H1 q s1 hqn h1
def sp_names_of (K : PySem.W.Frag) : Sp := Sp1 fun x H Q _ => ∃ (p : Addr) (zs : List Str), x = .ref p ∧ (SqL K H p (zs.map V.str) ∨ SqT K H p (zs.map V.str)) ∧ zs.length ≤ 1000 ∧ (∀ z ∈ zs, isLit z = true) ∧ ∀ H' r, Same H H' → H r = none → H' r = some (.lst ((srt (zs.map bare)).map V.str)) → Q (.ref r) H'
def N_names_of : List PySem.Str := ["literals", "literal"]
def t_names_of (K : PySem.W.Frag) (W : WX) : TS := (tRet (tCallS (sp_ordered_names K) (WE W) (tCons (tLc (iAnyP K (tVar 0)) (gName 1) tYes (tCall (sp_name_of K) [] E0 (tCons (tVar 1) tNil)) [1]) tNil)))
theorem pure_names_of {K : PySem.W.Frag} {vs : List V} {H : Hp} {Q : VK} {E : XK} {W : WX} (h : sp_names_of K vs H Q E) : t_names_of K W { nx := fun _ H' => Q .non H', rt := Q } (start N_names_of vs) H := by
  obtain ⟨x, rfl, p, zs, rfl, hp, hl, lit, hq⟩ := h
  show t_names_of K W _ [some (.ref p), none] H
  unfold t_names_of
  walk_at "ss"
  refine lcS_str bare hp (by omega) ?_ ?_
  · intro z hz H' s' Q' hQ
    walk_at "ss"
    exact ⟨_, rfl, z, rfl, by have := lit_len (lit z hz); omega, fun _ H2 s2 => hQ H2 s2, fun e => by rw [lit z hz] at e; cases e⟩
  intro l1 H1 _ s1 h1
  have hnm : ∀ z ∈ zs.map bare, isNm z = true := fun z h => by
    obtain ⟨y, hy, rfl⟩ := List.mem_map.mp h
    exact lit y hy
  walk_at "ss"
  exact ⟨_, rfl, l1, zs.map bare, rfl, h1, by rw [List.length_map]; omega, fun z h => by have := nm_short (hnm z h); omega, fun z e => by rw [badN_none hnm] at e; (cases e), fun _ H4 r s4 hr h4 => hq H4 r (s1.trans s4) (same_un s1 hr) h4⟩
def sp_Clause_init (K : PySem.W.Frag) : Sp := Sp2 fun x y H Q E => ∃ (c p dx : Addr) (zs : List Str), x = .ref c ∧ y = .ref p ∧ H c = some (.ins (ga K "Clause") dx []) ∧ H p = some (.tup (zs.map V.str)) ∧ zs.length ≤ 1000 ∧ (∀ z ∈ zs, z.length ≤ 1000000) ∧ Chk K zs 6 H E (∀ H' q, But c H H' → H q = none → H' q = some (.tup ((litO zs).map V.str)) → H' c = some (.ins (ga K "Clause") dx [("literals", .ref q)]) → Q .non H')
def N_Clause_init : List PySem.Str := ["self", "literals"]
def t_Clause_init (K : PySem.W.Frag) (W : WX) : TS := (Cl.sAtt [ga K "Clause"] (tVar 0) (tCB (rTupleP K) (tCons (tCallS (sp_checked_facts K) (WE W) (tCons (tCB (rListP K) (tCons (tVar 1) tNil)) (tCons (Cl.tAtt [(ga K "Clause", Cl.aCon "LIMIT" (.int 6)), (ga K "Turning", Cl.aCon "LIMIT" (.int 12)), (ga K "Book", Cl.aCon "LIMIT" (.int 24))] (tVar 0)) tNil))) tNil)) "literals")
def spV_Clause_init (K : PySem.W.Frag) : Sp := fun vs H Q E => ∃ ws rest, vs = ws ++ rest ∧ ws.length = 1 ∧ rest.length ≤ sizeLine ∧ ∀ p, H p = none → sp_Clause_init K (ws ++ [V.ref p]) (upd H p (.tup rest)) Q E
theorem pure_Clause_init {K : PySem.W.Frag} {vs : List V} {H : Hp} {Q : VK} {E : XK} (h : sp_Clause_init K vs H Q E) : t_Clause_init K (fun cls d _ H => E cls d H) { nx := fun _ H' => Q .non H', rt := Q } (start N_Clause_init vs) H := by
  obtain ⟨x, y, rfl, c, p, dx, zs, rfl, rfl, hc, hp, hl, hz, hk⟩ := h
  show t_Clause_init K _ _ [some (.ref c), some (.ref p)] H
  unfold t_Clause_init
  walk_at "ss"
  refine s_listT hp fun l hln => ?_
  have s1 : Same H (upd H l (.lst (zs.map V.str))) := same_new hln
  walk_at "ss"
  refine ⟨c, dx, [], 0, _, _, rfl, rfl, s1 _ _ hc, rfl, ?_⟩
  walk_at "ss"
  refine ⟨_, _, rfl, l, zs, 6, rfl, rfl, upd_same, hl, hz, hk.keep s1 fun ok H1 q s2 hq h1 => ?_⟩
  walk_at "ss"
  have hqn := same_un s1 hq
  refine s_tupL h1 fun r hr => ?_
  have s3 : Same H (upd H1 r (.tup ((litO zs).map V.str))) := (s1.trans s2).trans (same_new hr)
  have hcr : c ≠ r := fun e => by rw [← e, s2 _ _ (s1 _ _ hc)] at hr; cases hr
  walk_at "ss"
  refine ⟨c, _, dx, [], rfl, List.mem_singleton.mpr rfl, s3 _ _ hc, by decide, ?_⟩
  refine ok _ r (fun b o e n => ?_) (same_un (s1.trans s2) hr) ?_ ?_
  · rw [upd_ne n]
    exact s3 _ _ e
  · rw [upd_ne hcr.symm, upd_same]
  · rw [upd_same]
    rfl
/-- a clause of the row is made, or refused -/
abbrev CkC (K : PySem.W.Frag) (zs : List Str) (H : Hp) (Q : VK) (E : XK) : Prop := Chk K zs 6 H E (∀ H' c dx q, Same H H' → H c = none → H' c = some (.ins (ga K "Clause") dx [("literals", .ref q)]) → H' q = some (.tup ((litO zs).map V.str)) → Q (.ref c) H')
theorem clause_made {K : PySem.W.Frag} {zs : List Str} {H : Hp} {Q : VK} {E : XK} (hl : zs.length ≤ 1000) (hz : ∀ z ∈ zs, z.length ≤ 1000000) (hc : CkC K zs H Q E) : ∀ x dx, H x = none → H dx = none → dx ≠ x → spV_Clause_init K (V.ref x :: zs.map V.str) (upd (upd H dx (.own x)) x (.ins (ga K "Clause") dx [])) (fun v H2 => v = .non ∧ Q (.ref x) H2) E := by
  intro x dx hx hd hn
  have s1 : Same H (upd (upd H dx (.own x)) x (.ins (ga K "Clause") dx [])) := same_put (same_new hd) hx
  refine ⟨[.ref x], zs.map V.str, rfl, rfl, by rw [List.length_map, sizeLine_eq]; omega, fun p hp => ?_⟩
  have hpx : x ≠ p := fun e => by rw [← e, upd_same] at hp; cases hp
  have s2 := s1.trans (same_new (o := .tup (zs.map V.str)) hp)
  refine ⟨_, _, rfl, x, p, dx, zs, rfl, rfl, by rw [upd_ne hpx, upd_same], upd_same, hl, hz, hc.keep s2 fun ok H' q b hq h1 h2 => ⟨rfl, ?_⟩⟩
  refine ok H' x dx q (fun b' o e => ?_) hx h2 h1
  exact b b' o (s2 _ _ e) (ne_of_none e hx)
def ysOf (rs : List (Addr × List Str)) (v : V) : List V := match rs.find? (fun r => decide (V.ref r.1 = v)) with
  | some r => r.2.map V.str
  | none => []
theorem ysOf_at {K : PySem.W.Frag} {H : Hp} {rs : List (Addr × List Str)} (h : ∀ r ∈ rs, IsCl K H r.1 r.2) {r : Addr × List Str} (hr : r ∈ rs) : ysOf rs (.ref r.1) = r.2.map V.str := by
  unfold ysOf
  cases e : rs.find? (fun s => decide (V.ref s.1 = V.ref r.1)) with
  | none =>
    have := List.find?_eq_none.mp e r hr
    simp at this
  | some s =>
    have h1 := List.mem_of_find?_eq_some e
    have h2 : V.ref s.1 = V.ref r.1 := by simpa using List.find?_some e
    injection h2 with h2
    have h3 := h s h1
    rw [h2] at h3
    show s.2.map V.str = _
    rw [h3.fn (h r hr)]
theorem ysOf_all {K : PySem.W.Frag} {H : Hp} {rs : List (Addr × List Str)} (h : ∀ r ∈ rs, IsCl K H r.1 r.2) : (rs.map fun r => V.ref r.1).flatMap (ysOf rs) = (rs.flatMap (·.2)).map V.str := by
  rw [List.flatMap_map, List.map_flatMap, List.flatMap_def, List.flatMap_def]
  congr 1
  exact List.map_congr_left fun r hr => ysOf_at h hr
def sp_names_in (K : PySem.W.Frag) : Sp := Sp1 fun x H Q _ => ∃ (p : Addr) (rs : List (Addr × List Str)), x = .ref p ∧ (SqL K H p (rs.map fun r => V.ref r.1) ∨ SqT K H p (rs.map fun r => V.ref r.1)) ∧ (∀ r ∈ rs, IsCl K H r.1 r.2) ∧ (∀ r ∈ rs, ∀ z ∈ r.2, isLit z = true) ∧ (rs.flatMap (·.2)).length ≤ 1000 ∧ ∀ H' q, Same H H' → H q = none → H' q = some (.lst ((nmsO (rs.flatMap (·.2))).map V.str)) → Q (.ref q) H'
def N_names_in : List PySem.Str := ["clauses", "clause", "literal"]
def t_names_in (K : PySem.W.Frag) (W : WX) : TS := (tRet (tCallS (sp_names_of K) (WE W) (tCons (tLc2 (iAnyP K (tVar 0)) (gName 1) tYes (iAnyP K (Cl.tAtt [(ga K "Clause", Cl.aFld "literals")] (tVar 1))) (gName 2) tYes (tVar 2) [1, 2] [2]) tNil)))
theorem pure_names_in {K : PySem.W.Frag} {vs : List V} {H : Hp} {Q : VK} {E : XK} {W : WX} (h : sp_names_in K vs H Q E) : t_names_in K W { nx := fun _ H' => Q .non H', rt := Q } (start N_names_in vs) H := by
  obtain ⟨x, rfl, p, rs, rfl, hp, hc, lit, hl, hq⟩ := h
  show t_names_in K W _ [some (.ref p), none, none] H
  unfold t_names_in
  have eq := ysOf_all hc
  walk_at "ss"
  refine anyB_items hp fun J hy => ?_
  refine lc2_flat (ysOf rs) id (by decide) (by rw [eq, List.length_map]; omega) hy ?_ ?_ ?_
  · intro x hx H' s' R hR
    obtain ⟨r, hr, rfl⟩ := List.mem_map.mp hx
    obtain ⟨dx, q, c1, c2⟩ := hc r hr
    show iAnyP K _ [some (.ref p), some (.ref r.1), none] H' R
    walk_at "ss"
    refine fld_go "literals" (by walk_at "mem") (s' _ _ c1) rfl ?_
    refine anyB_old s' (xs := ysOf rs (.ref r.1)) (.inr (by rw [ysOf_at hc hr]; exact SqT.of c2)) fun J1 h1 => hR J1 h1
  · intro x hx y hy' H' s' Q' hQ
    show tVar 2 [some (.ref p), some x, some y] H' Q'
    walk_at "ss"
    exact hQ H' (Same.refl _)
  · intro D H' hD s' hl'
    rw [List.map_id, eq] at hl'
    walk_at "ss"
    exact ⟨_, rfl, D, rs.flatMap (fun r : Addr × List Str => r.2), rfl, .inl (SqL.of hl'), hl, fun z hz => by
      obtain ⟨r, hr, h⟩ := List.mem_flatMap.mp hz
      exact lit r hr z h, fun H2 q s2 hq2 h2 => hq H2 q (s'.trans s2) (same_un s' hq2) h2⟩
def szAt (rs : List (Addr × List Str)) (m mn : Int) (i : Nat) : Option Int := if m ≤ (i : Int) then some m else if mn < ((nmsO ((rs.take (i + 1)).flatMap (·.2))).length : Int) then some mn else none
/-- why putting the clauses one after another is refused -/
def szErr (rs : List (Addr × List Str)) (m mn : Int) : Option Int := (List.range rs.length).findSome? (szAt rs m mn)
theorem fs_range {f : Nat → Option Int} {i : Nat} {v : Int} (h : f i = some v) (hb : ∀ j, j < i → f j = none) : ∀ {n : Nat}, i < n → (List.range n).findSome? f = some v
  | 0, hi => absurd hi (Nat.not_lt_zero _)
  | n + 1, hi => by
    rw [List.range_succ, List.findSome?_append]
    by_cases h1 : i < n
    · rw [fs_range h hb h1]; rfl
    · have e : i = n := by omega
      subst e
      have : (List.range i).findSome? f = none := List.findSome?_eq_none_iff.mpr fun j hj => hb j (List.mem_range.mp hj)
      rw [this]
      simp [h]
theorem cut_take {rs : List (Addr × List Str)} {i : Nat} (hi : i < rs.length) : cutV (rs.map fun r => V.ref r.1) none (some ((i : Int) + 1)) = (rs.take (i + 1)).map fun r => V.ref r.1 := by
  unfold cutV
  rw [HT.sIx_none, show ((i : Int) + 1) = ((i + 1 : Nat) : Int) by omega, HT.sIx_nat, List.drop_zero, List.length_map, Nat.sub_zero, Nat.min_eq_left (by omega), List.map_take]
def sp_check_sizes (K : PySem.W.Frag) : Sp := Sp3 fun x y w H Q E => ∃ (p : Addr) (rs : List (Addr × List Str)) (m mn : Int), x = .ref p ∧ y = .int m ∧ w = .int mn ∧ H p = some (.tup (rs.map fun r => V.ref r.1)) ∧ (∀ r ∈ rs, IsCl K H r.1 r.2) ∧ (∀ r ∈ rs, ∀ z ∈ r.2, isLit z = true) ∧ (rs.flatMap (·.2)).length ≤ 900 ∧ rs.length ≤ 1000 ∧ (∀ n, szErr rs m mn = some n → ErrM K n H E) ∧ (szErr rs m mn = none → ∀ H', Same H H' → Q .non H')
def N_check_sizes : List PySem.Str := ["clauses", "most", "most_names", "at"]
def t_check_sizes (K : PySem.W.Frag) (W : WX) : TS := (tFor (iRng1 (tCons (tCB (rLenP K) (tCons (tVar 0) tNil)) tNil)) (gName 3) (tCut (tIfS (tTest (tOp rGeP (tVar 3) (tVar 1))) (tRaiseE (ga K "TooMany") "limit" W (tCons (tVar 1) tNil)) tNext)
    (tIfS (tTest (tOp rGtP (tCB (rLenP K) (tCons (tCallS (sp_names_in K) (WE W) (tCons (tSl (rSlP K) (tVar 0) tNoPart (tPart (tOp (rAddP K) (tVar 3) (tC (.int 1))))) tNil)) tNil)) (tVar 2))) (tRaiseE (ga K "TooMany") "limit" W (tCons (tVar 2) tNil)) tNext)))
theorem take_few {rs : List (Addr × List Str)} (i : Nat) : ((rs.take i).flatMap (·.2)).length ≤ (rs.flatMap (·.2)).length := by
  conv => rhs; rw [← List.take_append_drop i rs, List.flatMap_append, List.length_append]
  omega
theorem pure_check_sizes {K : PySem.W.Frag} {vs : List V} {H : Hp} {Q : VK} {E : XK} (h : sp_check_sizes K vs H Q E) : t_check_sizes K (fun cls d _ H => E cls d H) { nx := fun _ H' => Q .non H', rt := Q } (start N_check_sizes vs) H := by
  obtain ⟨x, y, w, rfl, p, rs, m, mn, rfl, rfl, rfl, hp, hc, lit, few, l1, he, hq⟩ := h
  show t_check_sizes K _ _ [some (.ref p), some (.int m), some (.int mn), none] H
  unfold t_check_sizes
  walk_at "ss"
  refine s_lenT hp ?_
  walk_at "ss"
  rw [List.length_map]
  refine forr_inv (by omega) (by omega) (fun i σ' H' => ∃ v, σ' = [some (.ref p), some (.int m), some (.int mn), v] ∧ Same H H' ∧ ∀ j, j < i → szAt rs m mn j = none) ⟨none, rfl, Same.refl _, fun j hj => absurd hj (Nat.not_lt_zero _)⟩ ?_ ?_
  · rintro i σ' H1 hi ⟨v, rfl, s1, hb⟩
    have hi' : i < rs.length := by omega
    refine s_nocut ?_
    walk_at "ss"
    refine s_itd (fun hm => ?_) (fun hm => ?_)
    · exact ⟨_, rfl, _, rfl, fun e he' => he m (fs_range (by unfold szAt; rw [if_pos hm]) hb hi') _ e (s1.trans (same_new he')) upd_same⟩
    have ha : szAt rs m mn i = if mn < ((nmsO ((rs.take (i + 1)).flatMap (·.2))).length : Int) then some mn else none := by unfold szAt; rw [if_neg hm]
    have hp1 := s1 _ _ hp
    have go : ∀ (H2 : Hp) (q : Addr) (R : VK), Same H1 H2 → H2 q = some (.tup ((rs.take (i + 1)).map fun r => V.ref r.1)) → (∀ H3 t, Same H1 H3 → H3 t = some (.lst ((nmsO ((rs.take (i + 1)).flatMap (·.2))).map V.str)) → R (.ref t) H3) → sp_names_in K [.ref q] H2 R (WE (fun cls d _ H => E cls d H) [some (.ref p), some (.int m), some (.int mn), some (.int i)]) := fun H2 q R s2 h2 hR =>
      ⟨_, rfl, q, rs.take (i + 1), rfl, .inr (SqT.of h2), fun r hr => (hc r (List.mem_of_mem_take hr)).keep (s1.trans s2), fun r hr => lit r (List.mem_of_mem_take hr), by have := take_few (rs := rs) (i + 1); omega, fun H3 t s3 _ h3 => hR H3 t (s2.trans s3) h3⟩
    have fin : ∀ (H3 : Hp) (t : Addr), Same H1 H3 → H3 t = some (.lst ((nmsO ((rs.take (i + 1)).flatMap (·.2))).map V.str)) → rLenP K [.ref t] H3 fun x H4 => tVar 2 [some (.ref p), some (.int m), some (.int mn), some (.int i)] H4 fun y H5 => rGtP x y H5 fun z H6 => ∃ k, z = .bl k ∧ if k = true then tRaiseE (ga K "TooMany") "limit" (fun cls d _ H => E cls d H) (tCons (tVar 2) tNil) { nx := fun σ' H' => ∃ v, σ' = [some (.ref p), some (.int m), some (.int mn), v] ∧ Same H H' ∧ ∀ j, j < i + 1 → szAt rs m mn j = none, ct := fun σ' H' => ∃ v, σ' = [some (.ref p), some (.int m), some (.int mn), v] ∧ Same H H' ∧ ∀ j, j < i + 1 → szAt rs m mn j = none, bk := fun _ H' => Q .non H', rt := Q } [some (.ref p), some (.int m), some (.int mn), some (.int i)] H6 else tNext { nx := fun σ' H' => ∃ v, σ' = [some (.ref p), some (.int m), some (.int mn), v] ∧ Same H H' ∧ ∀ j, j < i + 1 → szAt rs m mn j = none, ct := fun σ' H' => ∃ v, σ' = [some (.ref p), some (.int m), some (.int mn), v] ∧ Same H H' ∧ ∀ j, j < i + 1 → szAt rs m mn j = none, bk := fun _ H' => Q .non H', rt := Q } [some (.ref p), some (.int m), some (.int mn), some (.int i)] H6 := fun H3 t s3 h3 => by
      refine s_lenL h3 ?_
      walk_at "ss"
      rw [List.length_map]
      refine s_itd (fun hn => ?_) (fun hn => ?_)
      · exact ⟨_, rfl, _, rfl, fun e he' => he mn (fs_range (by rw [ha, if_pos hn]) hb hi') _ e ((s1.trans s3).trans (same_new he')) upd_same⟩
      · walk_at "ss"
        refine ⟨_, rfl, s1.trans s3, fun j hj => ?_⟩
        by_cases hj2 : j < i
        · exact hb j hj2
        · have e : j = i := by omega
          subst e
          rw [ha, if_neg hn]
    walk_at "ss"
    refine .inr ⟨p, _, rfl, SqT.of hp1, fun hw => ?_, fun hw q hqn => ?_⟩
    · have hlen : i + 1 = rs.length := by
        have h2 := hw.2
        rw [show ((i : Int) + 1) = ((i + 1 : Nat) : Int) by omega, HT.sIx_nat, List.length_map] at h2
        omega
      walk_at "ss"
      refine go H1 p _ (Same.refl _) (by rw [hlen, List.take_length]; exact hp1) fun H3 t s3 h3 => ?_
      walk_at "ss"
      exact fin H3 t s3 h3
    · have s2 := same_new (o := HO.tup (cutV (rs.map fun r => V.ref r.1) none (some ((i : Int) + 1)))) hqn
      walk_at "ss"
      refine go _ q _ s2 (by rw [upd_same, cut_take hi']) fun H3 t s3 h3 => ?_
      walk_at "ss"
      exact fin H3 t s3 h3
  · rintro σ' H' ⟨v, rfl, s1, hb⟩
    refine hq (List.findSome?_eq_none_iff.mpr fun j hj => hb j ?_) H' s1
    have := List.mem_range.mp hj
    omega
def sp_law_sorted (K : PySem.W.Frag) : Sp := Sp1 fun x H Q _ => ∃ (p : Addr) (zs : List Str), x = .ref p ∧ H p = some (.lst (zs.map V.str)) ∧ zs.length ≤ 1000 ∧ (∀ H' q, Same H H' → H q = none → H' q = some (.lst ((srt zs).map V.str)) → Q (.ref q) H')
def N_law_sorted : List PySem.Str := ["_law_names_here", "_law_result", "_law_name_here", "_law_each"]
def t_law_sorted (K : PySem.W.Frag) (W : WX) : TS := (tSeq (tAsg (tLst tNil) (gName 1))
    (tCut (tFor (iAnyP K (tCB (rSortAny K) (tCons (tLc (iAnyP K (tVar 0)) (gName 3) tYes (tCB rStrP (tCons (tVar 3) tNil)) [3]) tNil))) (gName 2) (tIfS (tTest (tOp (rInP K true) (tVar 2) (tVar 1))) (tDrop (tBM K "list" rAppend (tVar 1) (tCons (tVar 2) tNil))) tNext))
    (tRet (tVar 1))))
theorem pure_law_sorted {K : PySem.W.Frag} {vs : List V} {H : Hp} {Q : VK} {E : XK} {W : WX} (h : sp_law_sorted K vs H Q E) : t_law_sorted K W { nx := fun _ H' => Q .non H', rt := Q } (start N_law_sorted vs) H := by
  obtain ⟨x, rfl, p, zs, rfl, hp, hl, hq⟩ := h
  show t_law_sorted K W _ [some (.ref p), none, none, none] H
  unfold t_law_sorted
  walk_at "ss"
  refine ⟨Nat.zero_le _, fun q hqn => ?_⟩
  have s2 : Same H (upd H q (.lst [])) := same_new hqn
  walk_at "ss"
  refine s_cut (fun σ2 H2 => ∃ v, σ2 = [some (.ref p), some (.ref q), v, none] ∧ Same H H2 ∧ H2 q = some (.lst ((srt zs).map V.str))) ?_ ?_
  · walk_at "ss"
    refine lcb_map (fun x => x) (.inl (SqL.of (s2 _ _ hp))) (by rw [List.length_map]; omega) ?_ ?_
    · intro x hx H2 s3 Q' hQ
      obtain ⟨z, _, rfl⟩ := List.mem_map.mp hx
      walk_at "ss"
      exact hQ _ (Same.refl _)
    · intro D H2 hD s3 hl2
      rw [List.map_id'] at hl2
      walk_at "ss"
      refine s_sort hl2 (by omega) fun ys r hperm hsort hr => ?_
      have hs := sorted_pair hsort
      have s4 : Same H (upd H2 r (.lst (ys.map V.str))) := (s2.trans s3).trans (same_new hr)
      have hqr : q ≠ r := fun e => by rw [← e, s3 _ _ upd_same] at hr; cases hr
      refine forb_list (xs := ys.map V.str) (fun i σ' H' => ∃ v acc, σ' = [some (.ref p), some (.ref q), v, none] ∧ Same H H' ∧ H' r = some (.lst (ys.map V.str)) ∧ H' q = some (.lst (acc.map V.str)) ∧ Ord acc ∧ (∀ z, z ∈ acc ↔ z ∈ ys.take i) ∧ acc.length ≤ i)
        ⟨_, [], rfl, s4, upd_same, by rw [upd_ne hqr]; exact s3 _ _ upd_same, List.Pairwise.nil, by simp, Nat.le_refl _⟩ ?_ ?_ ?_
      · rintro i σ' H' hi ⟨v, acc, rfl, _, h2, _⟩
        exact SqL.of h2
      · rintro i y σ' H3 hi ⟨v, acc, rfl, h1, h2, h3, h4, h5, h6⟩
        have hil := (List.getElem?_eq_some_iff.mp hi).1
        rw [List.length_map, hperm.length_eq] at hil
        obtain ⟨z, hj, rfl⟩ := at_strs hi; replace hi := hj
        obtain ⟨n1, n2⟩ := nub_step hs hi h4 h5
        walk_at "ss"
        refine s_inSL h3 ?_
        show ∃ k, V.bl (!decide (z ∈ acc)) = .bl k ∧ _
        walk_at "ss"
        by_cases hm : z ∈ acc
        · rw [decide_eq_true hm]
          refine s_itF rfl ?_
          walk_at "ss"
          exact ⟨_, acc, rfl, h1, h2, h3, h4, n1 hm, by omega⟩
        · rw [decide_eq_false hm]
          refine s_itT rfl ?_
          walk_at "ss"
          refine s_tyL h3 ?_
          walk_at "ss"
          refine s_app h3 (by rw [List.length_map]; omega) ?_
          refine ⟨_, acc ++ [z], rfl, fun b o e => ?_, by rw [upd_ne hqr.symm]; exact h2, by rw [upd_same, List.map_append]; rfl, (n2 hm).1, (n2 hm).2, by rw [List.length_append]; simp; omega⟩
          rw [upd_ne (ne_of_none e hqn)]
          exact h1 _ _ e
      · rintro σ' H3 ⟨v, acc, rfl, h1, h2, h3, h4, h5, h6⟩
        rw [List.length_map, List.take_length] at h5
        have e : acc = srt zs := srt_eq h4 fun x => (h5 x).trans hperm.mem_iff
        rw [e] at h3
        exact ⟨v, rfl, h1, h3⟩
  · rintro σ2 H2 ⟨v, rfl, h1, h2⟩
    walk_at "ss"
    exact hq H2 q h1 hqn h2
def sp_law_ordered (K : PySem.W.Frag) : Sp := Sp1 fun x H Q _ => ∃ (p : Addr) (zs : List Str), x = .ref p ∧ H p = some (.lst (zs.map V.str)) ∧ zs.length ≤ 1000 ∧ (∀ z ∈ zs, z.length ≤ 100000) ∧ (∀ H' q, Same H H' → H q = none → H' q = some (.lst ((litO zs).map V.str)) → Q (.ref q) H')
def N_law_ordered : List PySem.Str := ["_law_literals", "_law_result", "_law_name_here", "_law_each"]
def t_law_ordered (K : PySem.W.Frag) (W : WX) : TS := (tSeq (tAsg (tLst tNil) (gName 1))
    (tCut (tFor (iAnyP K (tCallS (sp_law_sorted K) (WE W) (tCons (tLc (iAnyP K (tVar 0)) (gName 3) tYes (tCall (sp_law_name K) [] E0 (tCons (tVar 3) tNil)) [3]) tNil))) (gName 2) (tCut (tIfS (tTest (tOp (rInP K false) (tVar 2) (tVar 0))) (tDrop (tBM K "list" rAppend (tVar 1) (tCons (tVar 2) tNil))) tNext)
    (tIfS (tTest (tOp (rInP K false) (tOp (rAddP K) (tC (.str "-")) (tVar 2)) (tVar 0))) (tDrop (tBM K "list" rAppend (tVar 1) (tCons (tOp (rAddP K) (tC (.str "-")) (tVar 2)) tNil))) tNext)))
    (tRet (tVar 1))))
theorem pure_law_ordered {K : PySem.W.Frag} {vs : List V} {H : Hp} {Q : VK} {E : XK} {W : WX} (h : sp_law_ordered K vs H Q E) : t_law_ordered K W { nx := fun _ H' => Q .non H', rt := Q } (start N_law_ordered vs) H := by
  obtain ⟨x, rfl, p, zs, rfl, hp, hl, hz, hq⟩ := h
  show t_law_ordered K W _ [some (.ref p), none, none, none] H
  unfold t_law_ordered
  walk_at "ss"
  refine ⟨Nat.zero_le _, fun q hqn => ?_⟩
  have hqp : q ≠ p := fun e => by rw [e, hp] at hqn; cases hqn
  walk_at "ss"
  refine s_cut (fun σ2 H2 => ∃ w, σ2 = [some (.ref p), some (.ref q), w, none] ∧ Same H H2 ∧ H2 q = some (.lst ((litO zs).map V.str))) ?_ ?_
  · walk_at "ss"
    refine lcb_map (fun x => match x with | .str z => .str (bare z) | _ => .non) (.inl (SqL.of (same_new hqn _ _ hp))) (by rw [List.length_map]; omega) ?_ ?_
    · intro x hx H2 s3 Q' hQ
      obtain ⟨z, hzz, rfl⟩ := List.mem_map.mp hx
      walk_at "ss"
      exact ⟨_, rfl, z, rfl, by have := hz z hzz; omega, hQ _ (Same.refl _)⟩
    · intro D H2 hD s2 hr
      have e1 : (zs.map V.str).map (fun x => match x with | .str z => V.str (bare z) | _ => .non) = (zs.map bare).map V.str := by rw [List.map_map, List.map_map]; rfl
      rw [e1] at hr
      walk_at "ss"
      refine ⟨_, rfl, D, zs.map bare, rfl, hr, by rw [List.length_map]; exact hl, fun H3 r s3 hrn h4 => ?_⟩
      have sA : Same (upd H q (.lst [])) H3 := s2.trans s3
      have hqr : q ≠ r := fun e => by rw [← e, s2 _ _ upd_same] at hrn; cases hrn
      have hos : (srt (zs.map bare)).length ≤ 1000 := by have := srt_len (zs.map bare); rw [List.length_map] at this; omega
      generalize hO : srt (zs.map bare) = os at h4 hos
      have hnm : ∀ n ∈ os, n.length ≤ 100000 := fun n hn => by
        rw [← hO] at hn
        obtain ⟨y, hy, rfl⟩ := List.mem_map.mp (mem_srt.mp hn)
        exact Nat.le_trans (bare_len y) (hz y hy)
      refine forb_list (xs := os.map V.str) (fun i σ' H' => ∃ w, σ' = [some (.ref p), some (.ref q), w, none] ∧ Same H H' ∧ H' r = some (.lst (os.map V.str)) ∧ H' q = some (.lst ((flat zs (os.take i)).map V.str)))
        ⟨_, rfl, (same_new hqn).trans sA, h4, sA _ _ upd_same⟩ ?_ ?_ ?_
      · rintro i σ' H' hi ⟨w, rfl, _, h5, _⟩
        exact SqL.of h5
      · rintro i y σ' H4 hi ⟨w, rfl, k1, k2, k4⟩
        have hil := (List.getElem?_eq_some_iff.mp hi).1
        rw [List.length_map] at hil
        obtain ⟨n, hj, rfl⟩ := at_strs hi
        have hn8 : n.length ≤ 100000 := hnm n (List.mem_of_getElem? hj)
        have hns : 1 + n.length ≤ sizeLine := by rw [sizeLine_eq]; omega
        have fl := flat_len zs (os.take i)
        rw [List.length_take] at fl
        have fin : ∀ H5, Same H H5 → H5 r = some (.lst (os.map V.str)) → H5 q = some (.lst ((flat zs (os.take i) ++ [n, ("-" : Str) ++ n].filter fun z => decide (z ∈ zs)).map V.str)) → ∃ w, [some (.ref p), some (.ref q), some (.str n), none] = [some (V.ref p), some (.ref q), w, none] ∧ Same H H5 ∧ H5 r = some (.lst (os.map V.str)) ∧ H5 q = some (.lst ((flat zs (os.take (i + 1))).map V.str)) := fun H5 a1 a2 a3 => ⟨_, rfl, a1, a2, by rw [take_more hj, flat_more, a3]⟩
        walk_at "ss"
        refine s_cut (fun σ5 H5 => σ5 = [some (.ref p), some (.ref q), some (.str n), none] ∧ Same H H5 ∧ H5 r = some (.lst (os.map V.str)) ∧ H5 q = some (.lst ((flat zs (os.take i) ++ [n].filter fun z => decide (z ∈ zs)).map V.str))) ?_ ?_
        · walk_at "ss"
          refine s_inSL (k1 _ _ hp) ?_
          show ∃ k, V.bl (decide (n ∈ zs)) = .bl k ∧ _
          walk_at "ss"
          by_cases hm : n ∈ zs
          · rw [decide_eq_true hm]
            refine s_itT rfl ?_
            walk_at "ss"
            refine s_tyL k4 ?_
            walk_at "ss"
            refine s_app k4 (by rw [List.length_map]; omega) ?_
            refine ⟨rfl, same_put k1 hqn, by rw [upd_ne hqr.symm]; exact k2, ?_⟩
            rw [upd_same, filt1 hm, List.map_append]
            rfl
          · rw [decide_eq_false hm]
            refine s_itF rfl ?_
            walk_at "ss"
            refine ⟨rfl, k1, k2, ?_⟩
            rw [k4, filt0 hm, List.append_nil]
        · rintro σ5 H5 ⟨rfl, k1, k2, k4⟩
          have fl3 := List.length_filter_le (fun z => decide (z ∈ zs)) [n]
          simp only [List.length_cons, List.length_nil] at fl3
          have e2 : [n, ("-" : Str) ++ n].filter (fun z => decide (z ∈ zs)) = [n].filter (fun z => decide (z ∈ zs)) ++ [("-" : Str) ++ n].filter (fun z => decide (z ∈ zs)) := List.filter_append (l₁ := [n]) (l₂ := [("-" : Str) ++ n])
          walk_at "ss"
          refine s_addS hns ?_
          walk_at "ss"
          refine s_inSL (k1 _ _ hp) ?_
          show ∃ k, V.bl (decide (("-" : Str) ++ n ∈ zs)) = .bl k ∧ _
          walk_at "ss"
          by_cases hm : ("-" : Str) ++ n ∈ zs
          · rw [decide_eq_true hm]
            refine s_itT rfl ?_
            walk_at "ss"
            refine s_tyL k4 ?_
            walk_at "ss"
            refine s_addS hns ?_
            walk_at "ss"
            refine s_app k4 (by rw [List.length_map, List.length_append]; omega) ?_
            refine fin _ (same_put k1 hqn) (by rw [upd_ne hqr.symm]; exact k2) ?_
            rw [upd_same, e2, filt1 hm, ← List.append_assoc, List.map_append (l₂ := [("-" : Str) ++ n])]
            rfl
          · rw [decide_eq_false hm]
            refine s_itF rfl ?_
            walk_at "ss"
            refine fin _ k1 k2 ?_
            rw [k4, e2, filt0 hm, List.append_nil]
      · rintro σ' H4 ⟨w, rfl, k1, k2, k4⟩
        rw [List.length_map, List.take_length, ← hO] at k4
        exact ⟨w, rfl, k1, k4⟩
  · rintro σ2 H2 ⟨w, rfl, k1, k2⟩
    walk_at "ss"
    exact hq H2 q k1 hqn k2
def dsp_law_ordered : DSp := DSp1 fun x S Q _ => ∃ zs : List Str, rs S x = rowD zs ∧ zs.length ≤ 1000 ∧ (∀ z ∈ zs, z.length ≤ 100000) ∧ Q (rowD (litO zs)) S
theorem ad_law_ordered {K : PySem.W.Frag} {vs : List V} {H : Hp} {Q : VK} {E : XK} (h : lift K dsp_law_ordered vs H Q E) : sp_law_ordered K vs H Q E := by
  obtain ⟨A, S, ds, QD, ED, C, ts, ⟨x, rfl, zs, e, hl, hs, hq⟩, k, _⟩ := h
  cases ts with | cons t1 ts =>
    cases ts
    obtain ⟨p, rfl, hp⟩ := lsS C t1 e
    refine ⟨_, rfl, p, zs, rfl, hp, hl, hs, fun H' q s hq0 h' => ?_⟩
    obtain ⟨C', l⟩ := C.same s
    exact k _ _ _ _ _ l C' (new_strs C l hq0 h') hq
def nums1 (n : Nat) : List Int := (List.range n).map fun (i : Nat) => 1 + (i : Int)
def sp_Book_init (K : PySem.W.Frag) : Sp := Sp4 fun x y w u H Q E => ∃ (b dx p : Addr) (rs : List (Addr × List Str)), x = .ref b ∧ u = .ref p ∧ H b = some (.ins (ga K "Book") dx []) ∧ H p = some (.tup (rs.map fun r => V.ref r.1)) ∧ (∀ r ∈ rs, IsCl K H r.1 r.2) ∧ (∀ r ∈ rs, ∀ z ∈ r.2, isLit z = true) ∧ (rs.flatMap (·.2)).length ≤ 900 ∧ rs.length ≤ 1000 ∧
  ((y = .non ∧ w = .int 0 ∧ (∀ n, szErr rs 24 12 = some n → ErrM K n H E) ∧ (szErr rs 24 12 = none → ∀ H' d, But b H H' → H d = none → IsBk K H' b d ((nums1 rs.length).zip rs) rs.length → Q .non H')) ∨
   (∃ (q : Addr) (ns : List Int) (g : Int), y = .ref q ∧ w = .int g ∧ H q = some (.lst (ns.map V.int)) ∧ ns.length = rs.length ∧ ns.Nodup ∧ ∀ H' d, But b H H' → H d = none → IsBk K H' b d (ns.zip rs) g → Q .non H'))
def N_Book_init : List PySem.Str := ["self", "numbers", "greatest", "clauses", "number", "clause"]
def t_Book_init (K : PySem.W.Frag) (W : WX) : TS := (tCut (tIfS (tTest (tOp (rIsP false) (tVar 1) (tC .non))) (tSeq (tDrop (tCallS (sp_check_sizes K) (WE W) (tCons (tVar 3) (tCons (Cl.tAtt [(ga K "Clause", Cl.aCon "LIMIT" (.int 6)), (ga K "Turning", Cl.aCon "LIMIT" (.int 12)), (ga K "Book", Cl.aCon "LIMIT" (.int 24))] (tVar 0)) (tCons (Cl.tAtt [(ga K "Book", Cl.aCon "NAMES" (.int 12))] (tVar 0)) tNil)))))
    (tSeq (tAsg (tLstRg (tRg2 (tC (.int 1)) (tOp (rAddP K) (tCB (rLenP K) (tCons (tVar 3) tNil)) (tC (.int 1))))) (gName 1))
    (tAsg (tCB (rLenP K) (tCons (tVar 3) tNil)) (gName 2)))) tNext)
    (tSeq (Cl.sAtt [ga K "Book"] (tVar 0) (tDc (ZiX.iZipM K (tCons (tVar 1) (tCons (tVar 3) tNil))) (gTup K 2 (gCons (gName 4) (gCons (gName 5) gNil))) tYes (tVar 4) (tVar 5) [4, 5]) "rows")
    (Cl.sAtt [ga K "Book"] (tVar 0) (tVar 2) "greatest")))
def spV_Book_init (K : PySem.W.Frag) : Sp := fun vs H Q E => ∃ v rest, vs = v :: rest ∧ rest.length ≤ sizeLine ∧ ∀ p, H p = none → sp_Book_init K (v :: ([.non, .int 0] ++ [V.ref p])) (upd H p (.tup rest)) Q E
theorem nums1_len (n : Nat) : (nums1 n).length = n := by unfold nums1; rw [List.length_map, List.length_range]
theorem nums1_nodup (n : Nat) : (nums1 n).Nodup := by
  unfold nums1
  rw [List.nodup_iff_pairwise_ne, List.pairwise_map]
  exact (List.nodup_iff_pairwise_ne.mp List.nodup_range).imp fun h e => h (by omega)
theorem rg_nums (n : Nat) : rgV 1 ((n : Int) + 1) = (nums1 n).map V.int := by
  unfold rgV nums1
  rw [List.map_map, show ((n : Int) + 1 - 1).toNat = n by omega]
  rfl
/-- {n: c for n, c in zip(a list of numbers, a tuple)} -/
theorem dc_zip {K : PySem.W.Frag} {σ : L2.St} {Q : VK} {H1 : Hp} {a b : Addr} {v1 v2 : Nat} {ns : List Int} {rs : List (Addr × List Str)} (hv : v1 ≠ v2) (hs1 : v1 < σ.length) (hs2 : v2 < σ.length) (ha : H1 a = some (.lst (ns.map V.int))) (hb : H1 b = some (.tup (rs.map fun r => V.ref r.1))) (hl : ns.length = rs.length) (hn : ns.Nodup) (hm : rs.length ≤ 1000)
    (hq : ∀ D H', H1 D = none → Same H1 H' → H' D = some (.dK (kvB (ns.zip rs))) → Q (.ref D) H') :
    DcB (ZiX.ItM K a b) (gTup K 2 (gCons (gName v1) (gCons (gName v2) gNil))) tYes (tVar v1) (tVar v2) [v1, v2] σ Q H1 := by
  intro D hD
  refine ⟨fun i m H => m = ns.length - i ∧ i ≤ ns.length ∧ Same H1 H ∧ H D = some (.dK (kvB ((ns.zip rs).take i))), ⟨ns.length, by simp, Nat.zero_le _, same_new hD, by rw [upd_same]; rfl⟩, ?_⟩
  rintro i m H ⟨rfl, hi, sm, hd⟩
  have ha' := SqL.of (K := K) (sm _ _ ha)
  have hb' := SqT.of (K := K) (sm _ _ hb)
  by_cases hlt : i < ns.length
  · have hlt2 : i < rs.length := by omega
    have e1 : (ns.map V.int)[i]? = some (.int ns[i]) := by rw [List.getElem?_map, List.getElem?_eq_getElem hlt]; rfl
    have e2 : (rs.map fun r => V.ref r.1)[i]? = some (.ref rs[i].1) := by rw [List.getElem?_map, List.getElem?_eq_getElem hlt2]; rfl
    refine .inr ⟨⟨_, _, _, _, ha', hb', e1, e2⟩, fun H' => Same H1 H' ∧ H' D = some (.dK (kvB ((ns.zip rs).take (i + 1)))), fun H' p' => ⟨ns.length - (i + 1), by omega, rfl, hlt, p'.1, p'.2⟩, fun x H' y => ?_⟩
    obtain ⟨T, x', y', rfl, hT, rfl, f1, f2⟩ := y
    have g1 := f1 _ ha'
    have g2 := f2 _ hb'
    rw [e1] at g1
    rw [e2] at g2
    cases g1
    cases g2
    have hDT : D ≠ T := fun e => by rw [e, hT] at hd; cases hd
    have w0 : wipe σ [v1, v2] = (σ.set v2 none).set v1 none := rfl
    refine ⟨T, _, rfl, SqT.of upd_same, rfl, _, _, rfl, ?_⟩
    unfold gName
    refine ⟨_, _, rfl, ?_⟩
    refine ⟨rfl, ?_⟩
    have lset : ((σ.set v2 none).set v1 none).length = σ.length := by rw [List.length_set, List.length_set]
    have w1 : wipe ((((σ.set v2 none).set v1 none).set v1 (some (V.int ns[i]))).set v2 (some (V.ref rs[i].1))) [v1, v2] = (σ.set v2 none).set v1 none := by
      show ((((((σ.set v2 none).set v1 none).set v1 (some (V.int ns[i]))).set v2 (some (V.ref rs[i].1))).set v2 none)).set v1 none = _
      rw [List.set_set, List.set_set, List.set_comm _ _ hv, List.set_set, List.set_set]
    rw [w0]
    refine ⟨w1, ?_⟩
    unfold tYes
    dsimp only
    rw [if_pos rfl]
    refine ⟨.int ns[i], ?_, .ref rs[i].1, ?_, _, Sum.inl ns[i], rfl, by rw [upd_ne hDT]; exact hd, ?_, fun c o e => ?_, ?_⟩
    · rw [List.getElem?_set_ne (Ne.symm hv), List.getElem?_set_self (by rw [lset]; exact hs1)]
    · rw [List.getElem?_set_self (by rw [List.length_set, lset]; exact hs2)]
    · rw [kvB_len, List.length_take, sizeLine_eq]; omega
    · rw [upd_ne (ne_of_none e hD), upd_ne (ne_of_none (sm _ _ e) hT)]
      exact sm _ _ e
    · have hz : (ns.zip rs)[i]? = some (ns[i], rs[i]) := by rw [List.getElem?_eq_getElem (by rw [List.length_zip]; omega), List.getElem_zip]
      have e3 := putB_new (rows := (ns.zip rs).take i) (n := ns[i]) (c := rs[i].1) rs[i].2 (fun mem => by
        rw [List.map_take, List.map_fst_zip (by omega)] at mem
        obtain ⟨j, hj, ej⟩ := List.mem_iff_getElem.mp mem
        rw [List.length_take] at hj
        rw [List.getElem_take] at ej
        have := (List.getElem_inj (h₀ := by omega) (h₁ := hlt) hn).mp ej
        omega)
      rw [upd_same, e3, take_more hz]
  · have e : i = ns.length := by omega
    subst e
    refine .inl ⟨⟨_, _, ha', hb', .inl (by rw [List.length_map]; exact Nat.le_refl _)⟩, hq D H hD sm ?_⟩
    rw [hd, List.take_of_length_le (by rw [List.length_zip]; omega)]
theorem s_dcZ {K : PySem.W.Frag} {σ : L2.St} {H : Hp} {Q : VK} {ta : TA} {g : TG} {tt : TT} {tk tv : TE} {vs : List Nat} (h : ta σ H fun ws H1 => ∃ a b xs ys, ws = [.ref a, .ref b] ∧ SqL K H1 a xs ∧ SqT K H1 b ys ∧ DcB (ZiX.ItM K a b) g tt tk tv vs σ Q H1) : tDc (ZiX.iZipM K ta) g tt tk tv vs σ H Q := h
theorem pure_Book_init {K : PySem.W.Frag} {vs : List V} {H : Hp} {Q : VK} {E : XK} (h : sp_Book_init K vs H Q E) : t_Book_init K (fun cls d _ H => E cls d H) { nx := fun _ H' => Q .non H', rt := Q } (start N_Book_init vs) H := by
  obtain ⟨x, y, w, u, rfl, b, dx, p, rs, rfl, rfl, hb, hp, hc, lit, few, l1, hcase⟩ := h
  show t_Book_init K _ _ [some (.ref b), some y, some w, some (.ref p), none, none] H
  unfold t_Book_init
  -- the end: the dict, the two fields
  have fin : ∀ (H1 : Hp) (q : Addr) (ns : List Int) (g : Int), Same H H1 → H1 q = some (.lst (ns.map V.int)) → ns.length = rs.length → ns.Nodup → (∀ H' d, But b H H' → H d = none → IsBk K H' b d (ns.zip rs) g → Q .non H') →
      tSeq (Cl.sAtt [ga K "Book"] (tVar 0) (tDc (ZiX.iZipM K (tCons (tVar 1) (tCons (tVar 3) tNil))) (gTup K 2 (gCons (gName 4) (gCons (gName 5) gNil))) tYes (tVar 4) (tVar 5) [4, 5]) "rows") (Cl.sAtt [ga K "Book"] (tVar 0) (tVar 2) "greatest") { nx := fun _ H' => Q .non H', rt := Q } [some (.ref b), some (.ref q), some (.int g), some (.ref p), none, none] H1 := fun H1 q ns g s1 hq1 hl hn ok => by
    walk_at "ss"
    refine s_dcZ ?_
    walk_at "ss"
    refine ⟨q, p, _, _, rfl, SqL.of hq1, SqT.of (s1 _ _ hp), dc_zip (by decide) (by show 4 < 6; decide) (by show 5 < 6; decide) hq1 (s1 _ _ hp) hl hn l1 fun D H2 hD s2 hd => ?_⟩
    have S2 := s1.trans s2
    have hDb : D ≠ b := fun e => by rw [e, s1 _ _ hb] at hD; cases hD
    walk_at "ss"
    refine setA_go (by walk_at "mem") (S2 _ _ hb) (by decide) ?_
    walk_at "ss"
    refine setA_go (by walk_at "mem") upd_same (by show 1 < 1000; decide) ?_
    refine ok _ D (fun a o e n => ?_) (same_un s1 hD) ⟨⟨dx, upd_same⟩, ?_, fun r hr => ?_⟩
    · rw [upd_ne n, upd_ne n]
      exact S2 _ _ e
    · rw [upd_ne hDb, upd_ne hDb]
      exact hd
    · have hr2 : r.2 ∈ rs := List.of_mem_zip (show (r.1, r.2) ∈ ns.zip rs from hr) |>.2
      obtain ⟨dy, t, c1, c2⟩ := hc r.2 hr2
      have n1 : r.2.1 ≠ b := ne_fs c1 hb (by simp)
      have n2 : t ≠ b := ne_of c2 hb (fun z => by cases z)
      exact ⟨dy, t, by rw [upd_ne n1, upd_ne n1]; exact S2 _ _ c1, by rw [upd_ne n2, upd_ne n2]; exact S2 _ _ c2⟩
  rcases hcase with ⟨rfl, rfl, he, hq⟩ | ⟨q, ns, g, rfl, rfl, hq1, hl, hn, hq⟩
  · refine s_nocut ?_
    walk_at "ss"
    refine s_itT rfl ?_
    walk_at "ss"
    refine con_go "LIMIT" (.int 24) (by walk_at "mem") hb rfl ?_
    walk_at "ss"
    refine con_go "NAMES" (.int 12) (by walk_at "mem") hb rfl ?_
    walk_at "ss"
    refine ⟨_, _, _, rfl, p, rs, 24, 12, rfl, rfl, rfl, hp, hc, lit, few, l1, he, fun hz H1 s1 => ?_⟩
    walk_at "ss"
    refine s_lenT (s1 _ _ hp) ?_
    walk_at "ss"
    rw [List.length_map]
    refine ⟨_, _, rfl, rfl, RgOk.of_le (by decide) (by omega) (by decide) (by omega), fun q hqn => ?_⟩
    have s2 := same_new (o := HO.lst (rgV 1 ((rs.length : Int) + 1))) hqn
    have h2 := upd_same (H := H1) (a := q) (o := HO.lst (rgV 1 ((rs.length : Int) + 1)))
    generalize upd H1 q (HO.lst (rgV 1 ((rs.length : Int) + 1))) = H2 at s2 h2
    rw [rg_nums] at h2
    walk_at "ss"
    refine s_lenT (s2 _ _ (s1 _ _ hp)) ?_
    walk_at "ss"
    rw [List.length_map]
    exact fin H2 q _ _ (s1.trans s2) h2 (nums1_len _) (nums1_nodup _) (hq hz)
  · refine s_nocut ?_
    walk_at "ss"
    refine s_itF rfl ?_
    exact fin H q ns g (Same.refl _) hq1 hl hn hq
/-- Book(*clauses) -/
theorem book_new {K : PySem.W.Frag} {rs : List (Addr × List Str)} {H : Hp} {R : Addr → Hp → Prop} {E : XK} (hc : ∀ r ∈ rs, IsCl K H r.1 r.2) (lit : ∀ r ∈ rs, ∀ z ∈ r.2, isLit z = true) (few : (rs.flatMap (·.2)).length ≤ 900) (l1 : rs.length ≤ 1000) (he : ∀ n, szErr rs 24 12 = some n → ∀ H' d, Same H H' → H' d = some (.xd [("limit", .int n)]) → E (.ref (ga K "TooMany")) (some d) H')
    (ok : szErr rs 24 12 = none → ∀ H' b d, Same H H' → H b = none → H d = none → IsBk K H' b d ((nums1 rs.length).zip rs) rs.length → R b H') : ∀ x dx, H x = none → H dx = none → dx ≠ x → spV_Book_init K (V.ref x :: rs.map fun r => V.ref r.1) (upd (upd H dx (.own x)) x (.ins (ga K "Book") dx [])) (fun v H2 => v = .non ∧ R x H2) E := by
  intro x dx hx hd hn
  refine ⟨_, _, rfl, by rw [List.length_map, sizeLine_eq]; omega, fun p hp => ?_⟩
  have hpx : p ≠ x := fun e => by rw [e, upd_same] at hp; cases hp
  have hpd : p ≠ dx := fun e => by rw [e, upd_ne hn, upd_same] at hp; cases hp
  have hp0 : H p = none := by rw [upd_ne hpx, upd_ne hpd] at hp; exact hp
  have S : Same H (upd (upd (upd H dx (.own x)) x (.ins (ga K "Book") dx [])) p (.tup (rs.map fun r => V.ref r.1))) := fun a o e => by
    rw [upd_ne (ne_of_none e hp0), upd_ne (ne_of_none e hx), upd_ne (ne_of_none e hd)]
    exact e
  refine ⟨_, _, _, _, rfl, x, dx, p, rs, rfl, rfl, by rw [upd_ne (Ne.symm hpx), upd_same], upd_same, fun r hr => (hc r hr).keep S, lit, few, l1, .inl ⟨rfl, rfl, fun n hz H' e s' he' => he n hz H' e (S.trans s') he', fun hz H' d hB hdn hI => ⟨rfl, ok hz H' x d (fun a o e => hB a o (S a o e) (ne_of_none e hx)) hx (same_un S hdn) hI⟩⟩⟩
def sp_Book_need_room (K : PySem.W.Frag) : Sp := Sp2 fun x y H Q E => ∃ (b d c : Addr) (rows : List BRow) (g : Int) (ls : List Str), x = .ref b ∧ y = .ref c ∧ IsBk K H b d rows g ∧ Bok rows g ∧ IsCl K H c ls ∧ (∀ z ∈ ls, isLit z = true) ∧ ls.length ≤ 20 ∧ (∀ n, roomErr rows ls = some n → ErrM K n H E) ∧ (roomErr rows ls = none → ∀ H', Same H H' → Q .non H')
def N_Book_need_room : List PySem.Str := ["self", "clause"]
def t_Book_need_room (K : PySem.W.Frag) (W : WX) : TS := (tCut (tIfS (tTest (tOp rGeP (tCB (rLenP K) (tCons (Cl.tAtt [(ga K "Book", Cl.aFld "rows")] (tVar 0)) tNil)) (Cl.tAtt [(ga K "Clause", Cl.aCon "LIMIT" (.int 6)), (ga K "Turning", Cl.aCon "LIMIT" (.int 12)), (ga K "Book", Cl.aCon "LIMIT" (.int 24))] (tVar 0)))) (tRaiseE (ga K "TooMany") "limit" W (tCons (Cl.tAtt [(ga K "Clause", Cl.aCon "LIMIT" (.int 6)), (ga K "Turning", Cl.aCon "LIMIT" (.int 12)), (ga K "Book", Cl.aCon "LIMIT" (.int 24))] (tVar 0)) tNil)) tNext)
    (tIfS (tTest (tOp rGtP (tCB (rLenP K) (tCons (tCallS (sp_names_in K) (WE W) (tCons (tOp (rAddP K) (Cl.tListVals (Cl.tAtt [(ga K "Book", Cl.aFld "rows")] (tVar 0))) (tLst (tCons (tVar 1) tNil))) tNil)) tNil)) (Cl.tAtt [(ga K "Book", Cl.aCon "NAMES" (.int 12))] (tVar 0)))) (tRaiseE (ga K "TooMany") "limit" W (tCons (Cl.tAtt [(ga K "Book", Cl.aCon "NAMES" (.int 12))] (tVar 0)) tNil)) tNext))
theorem pure_Book_need_room {K : PySem.W.Frag} {vs : List V} {H : Hp} {Q : VK} {E : XK} (h : sp_Book_need_room K vs H Q E) : t_Book_need_room K (fun cls d _ H => E cls d H) { nx := fun _ H' => Q .non H', rt := Q } (start N_Book_need_room vs) H := by
  obtain ⟨x, y, rfl, b, d, c, rows, g, ls, rfl, rfl, B, ok, C, lit, l20, he, hq⟩ := h
  show t_Book_need_room K _ _ [some (.ref b), some (.ref c)] H
  unfold t_Book_need_room
  obtain ⟨dx, o⟩ := B.ob
  refine s_nocut ?_
  walk_at "ss"
  refine fld_go "rows" (by walk_at "mem") o rfl ?_
  walk_at "ss"
  refine .inr ⟨_, B.di, ?_⟩
  walk_at "ss"
  refine con_go "LIMIT" (.int 24) (by walk_at "mem") o rfl ?_
  walk_at "ss"
  rw [kvB_len]
  refine s_itd (fun h24 => ?_) (fun h24 => ?_)
  · refine s_raise ?_
    walk_at "ss"
    refine con_go "LIMIT" (.int 24) (by walk_at "mem") o rfl ?_
    exact ⟨_, rfl, fun e he' => he 24 (by unfold roomErr; rw [if_pos (by omega)]) _ e (same_new he') upd_same⟩
  have r0 : roomErr rows ls = if 12 < (nmsO (rows.flatMap (·.2.2) ++ ls)).length then some 12 else none := by unfold roomErr; rw [if_neg (by omega)]
  rw [r0] at he hq
  walk_at "ss"
  refine fld_go "rows" (by walk_at "mem") o rfl ?_
  refine ⟨d, _, rfl, B.di, fun l hl => ?_⟩
  have s1 := same_new (o := HO.lst ((kvB rows).map Prod.snd)) hl
  have h1 := upd_same (H := H) (a := l) (o := HO.lst ((kvB rows).map Prod.snd))
  generalize upd H l (HO.lst ((kvB rows).map Prod.snd)) = H1 at s1 h1
  walk_at "ss"
  refine ⟨by show 1 ≤ sizeLine; rw [sizeLine_eq]; decide, fun m hm => ?_⟩
  have s2 := same_new (o := HO.lst [.ref c]) hm
  have h2 := upd_same (H := H1) (a := m) (o := HO.lst [V.ref c])
  have h12 := s2 _ _ h1
  generalize upd H1 m (HO.lst [V.ref c]) = H2 at s2 h2 h12
  have lr := ok.len
  refine .inl ⟨_, _, _, _, rfl, rfl, h12, h2, ?_, fun q hq3 => ?_⟩
  · rw [kvB_vals, List.length_map, sizeLine_eq]; show rows.length + 1 ≤ _; omega
  have s3 := same_new (o := HO.lst ((kvB rows).map Prod.snd ++ [.ref c])) hq3
  have S3 := (s1.trans s2).trans s3
  walk_at "ss"
  have eF : (rows.map (fun r => ((r.2.1, r.2.2) : Addr × List Str)) ++ [(c, ls)]).flatMap (·.2) = rows.flatMap (·.2.2) ++ ls := by
    rw [List.flatMap_append, rowsF]
    simp
  refine ⟨_, rfl, q, (rows.map fun r => (r.2.1, r.2.2)) ++ [(c, ls)], rfl, .inl (by rw [List.map_append, ← rowsC, ← kvB_vals]; exact SqL.of upd_same), fun r hr => ?_, fun r hr => ?_, ?_, fun H4 t s4 ht4 h4 => ?_⟩
  · rcases List.mem_append.mp hr with hr | hr
    · obtain ⟨s, hs, rfl⟩ := List.mem_map.mp hr
      exact (B.cl s hs).keep S3
    · have e : r = (c, ls) := by simpa using hr
      subst e
      exact C.keep S3
  · rcases List.mem_append.mp hr with hr | hr
    · obtain ⟨s, hs, rfl⟩ := List.mem_map.mp hr
      exact ok.lit s hs
    · have e : r = (c, ls) := by simpa using hr
      subst e
      exact lit
  · rw [eF, List.length_append]
    have := ok.few
    omega
  rw [eF] at h4
  have S4 := S3.trans s4
  walk_at "ss"
  refine s_lenL h4 ?_
  walk_at "ss"
  refine con_go "NAMES" (.int 12) (by walk_at "mem") (S4 _ _ o) rfl ?_
  walk_at "ss"
  rw [List.length_map]
  refine s_itd (fun h12 => ?_) (fun h12 => ?_)
  · refine s_raise ?_
    walk_at "ss"
    refine con_go "NAMES" (.int 12) (by walk_at "mem") (S4 _ _ o) rfl ?_
    exact ⟨_, rfl, fun e he' => he 12 (by rw [if_pos (by omega)]) _ e (S4.trans (same_new he')) upd_same⟩
  · walk_at "ss"
    exact hq (by rw [if_neg (by omega)]) H4 S4
/-- BadNumber is raised -/
def ErrB (K : PySem.W.Frag) (n : Int) (H : Hp) (E : XK) : Prop := ∀ H' d, Same H H' → H' d = some (.xd [("number", .int n)]) → E (.ref (ga K "BadNumber")) (some d) H'
/-- why a numbered book isn't made: a bad number (false), too many (true) -/
def numErr : List BRow → Int → List BRow → Option (Bool × Int)
  | _, _, [] => none
  | rows, g, r :: rs => if r.1 ≤ g ∨ 999 < r.1 then some (false, r.1) else match roomErr rows r.2.2 with
    | some m => some (true, m)
    | none => numErr (rows ++ [r]) r.1 rs
/-- the last number -/
def lastB (rows : List BRow) : Int := match rows.getLast? with
  | some r => r.1
  | none => 0
def sp_Book_numbered (K : PySem.W.Frag) : Sp := Sp2 fun x y H Q E => ∃ (p : Addr) (ps : List (Addr × BRow)), x = .ref (ga K "Book") ∧ y = .ref p ∧ H p = some (.lst (ps.map fun t => V.ref t.1)) ∧ (∀ t ∈ ps, H t.1 = some (.tup [.int t.2.1, .ref t.2.2.1]) ∧ IsCl K H t.2.2.1 t.2.2.2 ∧ (∀ z ∈ t.2.2.2, isLit z = true) ∧ t.2.2.2.length ≤ 20) ∧ ps.length ≤ 1000 ∧ ((ps.map (·.2)).flatMap (·.2.2)).length ≤ 900 ∧
  (∀ n, numErr [] 0 (ps.map (·.2)) = some (false, n) → ErrB K n H E) ∧ (∀ n, numErr [] 0 (ps.map (·.2)) = some (true, n) → ErrM K n H E) ∧ (numErr [] 0 (ps.map (·.2)) = none → ∀ H' b d, Same H H' → H b = none → H d = none → IsBk K H' b d (ps.map (·.2)) (lastB (ps.map (·.2))) → Bok (ps.map (·.2)) (lastB (ps.map (·.2))) → Q (.ref b) H')
def N_Book_numbered : List PySem.Str := ["cls", "pairs", "book", "last", "number", "clause"]
def t_Book_numbered (K : PySem.W.Frag) (W : WX) : TS := (tSeq (tAsg (Cl.tMakeV (ga K "Book") (spV_Book_init K) (WE W) (tVar 0)) (gName 2))
    (tSeq (tAsg (tC (.int 0)) (gName 3))
    (tCut (tFor (iAnyP K (tVar 1)) (gTup K 2 (gCons (gName 4) (gCons (gName 5) gNil))) (tCut (tIfS (tOr (tTest (tOp rLeP (tVar 4) (tVar 3))) (tTest (tOp rGtP (tVar 4) (Cl.tClsV (ga K "Book") (.int 999) (tVar 0))))) (tRaiseE (ga K "BadNumber") "number" W (tCons (tVar 4) tNil)) tNext)
    (tSeq (tDrop (Cl.tMethO [(ga K "Book", sp_Book_need_room K)] "need_room" (WE W) (tVar 2) (tCons (tVar 5) tNil)))
    (tSeq (tAsg (tVar 5) (gSub (Cl.tAtt [(ga K "Book", Cl.aFld "rows")] (tVar 2)) (tVar 4) rSetP))
    (tSeq (Cl.sAtt [ga K "Book"] (tVar 2) (tVar 4) "greatest")
    (tAsg (tVar 4) (gName 3)))))))
    (tRet (tVar 2)))))
theorem Bok.at {rows : List BRow} {g n : Int} {c : Addr} {ls : List Str} (h : Bok rows g) (h1 : 1 ≤ n) (hg : g < n) (hl : ∀ z ∈ ls, isLit z = true) (hf : (rows.flatMap (·.2.2)).length + ls.length ≤ 900) (hn : rows.length < 100) : Bok (rows ++ [(n, c, ls)]) n := by
  have mem : ∀ {r : BRow}, r ∈ rows ++ [(n, c, ls)] → r ∈ rows ∨ r = (n, c, ls) := fun h => by
    rcases List.mem_append.mp h with h | h
    · exact .inl h
    · exact .inr (by simpa using h)
  refine ⟨?_, fun r hr => ?_, fun r hr => ?_, ?_, ?_⟩
  · rw [List.map_append, List.pairwise_append]
    refine ⟨h.asc, List.pairwise_singleton _ _, fun a ha b hb => ?_⟩
    obtain ⟨r, hr, rfl⟩ := List.mem_map.mp ha
    have : b = n := by simpa using hb
    have := h.top r hr
    omega
  · rcases mem hr with hr | rfl
    · have := h.top r hr
      omega
    · exact ⟨h1, Int.le_refl _⟩
  · rcases mem hr with hr | rfl
    · exact h.lit r hr
    · exact hl
  · rw [List.flatMap_append, List.length_append]
    simp only [List.flatMap_cons, List.flatMap_nil, List.append_nil]
    exact hf
  · rw [List.length_append]
    show rows.length + 1 ≤ 100
    omega
theorem lastB_snoc (rows : List BRow) (r : BRow) : lastB (rows ++ [r]) = r.1 := by unfold lastB; rw [List.getLast?_append]; rfl
theorem room_len {rows : List BRow} {ls : List Str} (h : roomErr rows ls = none) : rows.length < 24 := by
  unfold roomErr at h
  by_cases h1 : 24 ≤ rows.length
  · rw [if_pos h1] at h; cases h
  · omega
theorem pure_Book_numbered {K : PySem.W.Frag} {vs : List V} {H : Hp} {Q : VK} {E : XK} (h : sp_Book_numbered K vs H Q E) : t_Book_numbered K (fun cls d _ H => E cls d H) { nx := fun _ H' => Q .non H', rt := Q } (start N_Book_numbered vs) H := by
  obtain ⟨x, y, rfl, p, ps, rfl, rfl, hp, ht, hl, few, heB, heM, hq⟩ := h
  show t_Book_numbered K _ _ [some (.ref (ga K "Book")), some (.ref p), none, none, none, none] H
  unfold t_Book_numbered
  walk_at "ss"
  refine ⟨rfl, ?_⟩
  refine book_new (rs := []) (by simp) (by simp) (by simp) (by simp) (fun n h => by cases h) fun _ H1 b d s1 hb hd B1 => ?_
  walk_at "ss"
  have B1 : IsBk K H1 b d [] 0 := B1
  have ok1 : Bok [] 0 := ⟨List.Pairwise.nil, fun r hr => (by cases hr), fun r hr => (by cases hr), Nat.zero_le _, Nat.zero_le _⟩
  refine s_cut (fun σ2 H2 => ∃ g v4 v5, σ2 = [some (.ref (ga K "Book")), some (.ref p), some (.ref b), some (.int g), v4, v5] ∧ Same H H2 ∧ IsBk K H2 b d (ps.map (·.2)) g ∧ Bok (ps.map (·.2)) g ∧ g = lastB (ps.map (·.2)) ∧ numErr [] 0 (ps.map (·.2)) = none) ?_ ?_
  · walk_at "ss"
    refine forb_list (xs := ps.map fun t => V.ref t.1) (fun i σ2 H2 => ∃ g v4 v5, σ2 = [some (.ref (ga K "Book")), some (.ref p), some (.ref b), some (.int g), v4, v5] ∧ Same H H2 ∧ IsBk K H2 b d ((ps.take i).map (·.2)) g ∧ Bok ((ps.take i).map (·.2)) g ∧ g = lastB ((ps.take i).map (·.2)) ∧ 0 ≤ g ∧ numErr [] 0 (ps.map (·.2)) = numErr ((ps.take i).map (·.2)) g ((ps.drop i).map (·.2)))
      ⟨0, _, _, rfl, s1, B1, ok1, rfl, Int.le_refl _, rfl⟩ ?_ ?_ ?_
    · rintro i σ2 H2 _ ⟨g, v4, v5, rfl, s2, _⟩
      exact SqL.of (s2 _ _ hp)
    · rintro i y σ2 H2 hi ⟨g, v4, v5, rfl, s2, B2, ok2, hg, g0, he⟩
      rw [List.getElem?_map] at hi
      cases e : ps[i]? with
      | none => rw [e] at hi; cases hi
      | some t =>
      rw [e] at hi
      have e2 : V.ref t.1 = y := Option.some.inj hi
      subst e2
      obtain ⟨tt, n, c, ls⟩ := t
      have hil := (List.getElem?_eq_some_iff.mp e).1
      obtain ⟨t1, C, lit, l20⟩ := ht _ (List.mem_of_getElem? e)
      have t1 : H tt = some (.tup [.int n, .ref c]) := t1
      have C : IsCl K H c ls := C
      have lit : ∀ z ∈ ls, isLit z = true := lit
      have l20 : ls.length ≤ 20 := l20
      have eT : ps.take (i + 1) = ps.take i ++ [(tt, n, c, ls)] := take_more e
      have eT2 : (ps.take (i + 1)).map (·.2) = (ps.take i).map (·.2) ++ [(n, c, ls)] := by rw [eT, List.map_append]; rfl
      have eD : ps.drop i = (tt, n, c, ls) :: ps.drop (i + 1) := by
        rw [List.drop_eq_getElem_cons hil]
        congr 1
        exact (List.getElem?_eq_some_iff.mp e).2
      rw [eD, List.map_cons] at he
      have C2 := C.keep s2
      have fl : (((ps.take i).map (·.2)).flatMap (·.2.2)).length + ls.length ≤ 900 := by
        have : ((ps.map (·.2)).flatMap (·.2.2)).length = (((ps.take i).map (·.2)).flatMap (·.2.2)).length + (ls.length + (((ps.drop (i + 1)).map (·.2)).flatMap (·.2.2)).length) := by
          conv => lhs; rw [← List.take_append_drop i ps, eD]
          rw [List.map_append, List.flatMap_append, List.length_append, List.map_cons, List.flatMap_cons, List.length_append]
        omega
      refine ⟨tt, _, rfl, SqT.of (s2 _ _ t1), rfl, _, _, rfl, ?_⟩
      unfold gName
      refine ⟨_, _, rfl, ?_⟩
      refine ⟨rfl, ?_⟩
      refine s_nocut ?_
      refine s_ifor (decide (n ≤ g)) (decide (n > 999)) ?_ ?_ ?_ ?_
      · intro QB hQ
        walk_at "ss"
        exact hQ
      · intro QB hQ
        walk_at "ss"
        refine ⟨rfl, ?_⟩
        walk_at "ss"
        exact hQ
      · intro hA
        have hA : n ≤ g ∨ 999 < n := hA.imp of_decide_eq_true of_decide_eq_true
        refine s_raise ?_
        walk_at "ss"
        exact ⟨_, rfl, fun e he' => heB n (by rw [he]; unfold numErr; rw [if_pos hA]) _ e (s2.trans (same_new he')) upd_same⟩
      intro hA1 hA2
      have hA1 : ¬ n ≤ g := of_decide_eq_false hA1
      have hA2 : ¬ 999 < n := of_decide_eq_false hA2
      have he2 : numErr ((ps.take i).map (·.2)) g ((n, c, ls) :: (ps.drop (i + 1)).map (·.2)) = match roomErr ((ps.take i).map (·.2)) ls with
          | some m => some (true, m)
          | none => numErr ((ps.take i).map (·.2) ++ [(n, c, ls)]) n ((ps.drop (i + 1)).map (·.2)) := by
        conv => lhs; unfold numErr
        rw [if_neg (by show ¬ (n ≤ g ∨ 999 < n); omega)]
      rw [he2] at he
      obtain ⟨dx, o⟩ := id B2.ob
      walk_at "ss"
      refine meth_go (sp_Book_need_room K) (by walk_at "mem") o rfl ?_
      walk_at "ss"
      refine ⟨_, _, rfl, b, d, c, _, g, ls, rfl, rfl, B2, ok2, C2, lit, l20, fun m hm => (heM m (by rw [he, hm])).keep s2, fun hr H3 s3 => ?_⟩
      rw [hr] at he
      have he : numErr [] 0 (ps.map (·.2)) = numErr ((ps.take i).map (·.2) ++ [(n, c, ls)]) n ((ps.drop (i + 1)).map (·.2)) := he
      have len := room_len hr
      have B3 := B2.keep s3
      have o3 := s3 _ _ o
      have hne := B3.ne
      walk_at "ss"
      refine fld_go "rows" (by walk_at "mem") o3 rfl ?_
      walk_at "ss"
      refine .inr ⟨_, DPut.k (k := Sum.inl n) B3.di (by rw [kvB_len, sizeLine_eq]; omega), ?_⟩
      rw [putB_new ls (fun m => by
        obtain ⟨r, hr', e3⟩ := List.mem_map.mp m
        have := ok2.top r hr'
        omega)]
      have o4 : upd H3 d (.dK (kvB ((ps.take i).map (·.2) ++ [(n, c, ls)]))) b = some (.ins (ga K "Book") dx [("rows", .ref d), ("greatest", .int g)]) := by rw [upd_ne hne]; exact o3
      walk_at "ss"
      refine setA_go (by walk_at "mem") o4 (by show 2 < 1000; decide) ?_
      walk_at "ss"
      have S5 : Same H (upd (upd H3 d (.dK (kvB ((ps.take i).map (·.2) ++ [(n, c, ls)])))) b (.ins (ga K "Book") dx (putF "greatest" (.int n) [("rows", .ref d), ("greatest", .int g)]))) := fun a u ea => by
        rw [upd_ne (ne_of_none ea hb), upd_ne (ne_of_none ea hd)]
        exact (s2.trans s3) _ _ ea
      refine ⟨n, _, _, rfl, S5, ?_, ?_, ?_, by omega, ?_⟩
      · rw [eT2]
        refine ⟨⟨dx, upd_same⟩, by rw [upd_ne hne.symm, upd_same], fun r hr' => ?_⟩
        have K5 : Chg b d H3 (upd (upd H3 d (.dK (kvB ((ps.take i).map (·.2) ++ [(n, c, ls)])))) b (.ins (ga K "Book") dx (putF "greatest" (.int n) [("rows", .ref d), ("greatest", .int g)]))) := Chg.trans chg_d chg_b
        rcases List.mem_append.mp hr' with hr' | hr'
        · exact (B3.cl r hr').chg B3 K5
        · have e4 : r = (n, c, ls) := by simpa using hr'
          subst e4
          exact (C2.keep s3).chg B3 K5
      · rw [eT2]
        exact ok2.at (by omega) (by omega) lit fl (by omega)
      · rw [eT2]
        exact (lastB_snoc ((ps.take i).map (·.2)) (n, c, ls)).symm
      · rw [eT2]
        exact he
    · rintro σ2 H2 ⟨g, v4, v5, rfl, s2, B2, ok2, hg, g0, he⟩
      rw [List.length_map, List.take_length] at B2 ok2 hg he
      rw [List.drop_length] at he
      exact ⟨g, v4, v5, rfl, s2, B2, ok2, hg, he⟩
  · rintro σ2 H2 ⟨g, v4, v5, rfl, s2, B2, ok2, hg, he⟩
    walk_at "ss"
    subst hg
    exact hq he _ b d s2 hb hd B2 ok2
end Rd
namespace Rd
open PySem PySem.Spec PyProof.Rows L2 He Px Dx
def sp_Book_drop (K : PySem.W.Frag) : Sp := Sp2 fun x y H Q E => ∃ (b d : Addr) (rows : List BRow) (g n : Int), x = .ref b ∧ y = .int n ∧ IsBk K H b d rows g ∧ (n ∉ rows.map (·.1) → ErrN K n H E) ∧ (∀ r, rowAt rows n = some r → ∀ H', Chg b d H H' → IsBk K H' b d (rows.filter fun r => decide (r.1 ≠ n)) g → IsCl K H' r.2.1 r.2.2 → Q (.ref r.2.1) H')
def N_Book_drop : List PySem.Str := ["self", "number", "clause"]
def t_Book_drop (K : PySem.W.Frag) (W : WX) : TS := (tCut (tIfS (tTest (tOp (rInP K true) (tVar 1) (Cl.tAtt [(ga K "Book", Cl.aFld "rows")] (tVar 0)))) (tRaiseE (ga K "NoClause") "number" W (tCons (tVar 1) tNil)) tNext)
    (tSeq (tAsg (tDGet (Cl.tAtt [(ga K "Book", Cl.aFld "rows")] (tVar 0)) (tVar 1)) (gName 2))
    (tSeq (sDDel (Cl.tAtt [(ga K "Book", Cl.aFld "rows")] (tVar 0)) (tVar 1))
    (tRet (tVar 2)))))
theorem pure_Book_drop {K : PySem.W.Frag} {vs : List V} {H : Hp} {Q : VK} {E : XK} (h : sp_Book_drop K vs H Q E) : t_Book_drop K (fun cls d _ H => E cls d H) { nx := fun _ H' => Q .non H', rt := Q } (start N_Book_drop vs) H := by
  obtain ⟨x, y, rfl, b, d, rows, g, n, rfl, rfl, B, he, hq⟩ := h
  show t_Book_drop K _ _ [some (.ref b), some (.int n), none] H
  unfold t_Book_drop
  obtain ⟨dx, o⟩ := id B.ob
  refine s_nocut ?_
  walk_at "ss"
  refine fld_go "rows" (by walk_at "mem") o rfl ?_
  refine s_inB B.di ?_
  walk_at "ss"
  by_cases hn : n ∈ rows.map (·.1)
  · refine s_itF (by rw [decide_eq_true hn]; rfl) ?_
    obtain ⟨r, hr⟩ := rowAt_some hn
    walk_at "ss"
    refine fld_go "rows" (by walk_at "mem") o rfl ?_
    walk_at "ss"
    refine ⟨d, .ref r.2.1, rfl, by have h := DGet.k (k := Sum.inl n) B.di; rw [valB] at h; unfold rowAt at hr; rw [hr] at h; exact h, ?_⟩
    walk_at "ss"
    refine fld_go "rows" (by walk_at "mem") o rfl ?_
    walk_at "ss"
    refine ⟨d, _, Sum.inl n, rfl, B.di, rfl, by rw [hasB, decide_eq_true hn], ?_⟩
    rw [dropB]
    walk_at "ss"
    have k1 : Chg b d H (upd H d (.dK (kvB (rows.filter fun r => decide (r.1 ≠ n))))) := chg_d
    exact hq r hr _ k1 ⟨⟨dx, by rw [upd_ne B.ne]; exact o⟩, upd_same, fun s hs => (B.cl s (List.mem_filter.mp hs).1).chg B k1⟩ ((B.cl r (rowAt_mem hr).1).chg B k1)
  · refine s_itT (by rw [decide_eq_false hn]; rfl) ?_
    exact ⟨_, rfl, _, rfl, fun e he' => he hn _ e (same_new he') upd_same⟩
def dsp_Book_drop : DSp := DSp2 fun x y S Q E => ∃ (n m : Nat) (rows : List DRow) (g j : Int), x = .hdl n ∧ y = .int j ∧ IsBD S n m rows g ∧ (j ∉ rows.map (·.1) → E "NoClause" [("number", .int j)] S) ∧ (∀ r, rowD? rows j = some r → Q (clD r.2) (putB' S n m (rows.filter fun r => decide (r.1 ≠ j)) g))
theorem ad_Book_drop {K : PySem.W.Frag} {vs : List V} {H : Hp} {Q : VK} {E : XK} (h : lift K dsp_Book_drop vs H Q E) : sp_Book_drop K vs H Q E := by
  obtain ⟨A, S, ds, QD, ED, C, ts, ⟨x, y, rfl, n, m, rows, g, j, rfl, rfl, hB, e1, hq⟩, k, he⟩ := h
  cases ts with | cons t1 ts => cases ts with | cons t2 ts =>
    cases ts
    rw [int_of t2]
    cases t1 with
    | hdl ha =>
      rename_i b
      obtain ⟨d, rb, a⟩ := bk_at C hB ha
      have eq := a.eq
      subst eq
      refine ⟨_, _, rfl, b, d, rb, g, j, rfl, rfl, a.bk, fun hj => err1_go C he (e1 (by rw [dB_nums]; exact hj)), fun r hr H' ch B' _ => ?_⟩
      obtain ⟨C', l⟩ := bk_back C hB ha a.hd ch B' (fun r hr => a.cl r (List.mem_filter.mp hr).1)
      rw [dB_filt] at C'
      exact k _ _ _ _ _ l C' ((a.cl r (rowAt_mem hr).1).later l) (hq (r.1, r.2.2) (by rw [rowD_at, hr]; rfl))
end Rd
namespace Rd
open PySem PySem.Spec PyProof.Rows L2 He Px Dx
theorem dash_bare {n : Str} {r : Int} (hn : isNm n = true) (h0 : 0 ≤ r) (h1 : r < 2) : ∃ d : Str, atI [V.str "", V.str "-"] r = some (.str d) ∧ d.length ≤ 1 ∧ isLit (d ++ n) = true ∧ bare (d ++ n) = n := by
  rcases (show r = 0 ∨ r = 1 by omega) with rfl | rfl
  · have e : ("" : Str) ++ n = n := str_ext (by rw [app_toList]; rfl)
    exact ⟨"", rfl, by decide, by rw [e]; exact nm_lit hn, by rw [e]; exact nm_bare hn⟩
  · exact ⟨"-", rfl, by decide, neg_lit hn, bare_app n⟩
def sp_law_row (K : PySem.W.Frag) : Sp := Sp3 fun x y w H Q _ => ∃ (a p : Addr) (ns : List Str) (m : Int), x = .ref a ∧ y = .ref p ∧ w = .int m ∧ Src H a ∧ p ≠ a ∧ H p = some (.lst (ns.map V.str)) ∧ 1 ≤ ns.length ∧ ns.length ≤ 100 ∧ (∀ z ∈ ns, isNm z = true) ∧ 0 ≤ m ∧ m ≤ 40 ∧
  ∀ H' (q : Addr) (zs : List Str), Src H' a → Mov a H H' → H q = none → q ≠ a → H' q = some (.lst (zs.map V.str)) → (zs.length : Int) ≤ m → (∀ z ∈ zs, isLit z = true) → (zs.map bare).Nodup → (∀ z ∈ zs, bare z ∈ ns) → Q (.ref q) H'
def N_law_row : List PySem.Str := ["_law_source_here", "_law_names_here", "_law_most", "_law_row_here", "_law_k", "_law_name_here"]
def t_law_row (K : PySem.W.Frag) (W : WX) : TS := (tSeq (tAsg (tLst tNil) (gName 3))
    (tCut (tFor (iRng1 (tCons (tCallS (sp_law_take K) (WE W) (tCons (tVar 0) (tCons (tOp (rAddP K) (tVar 2) (tC (.int 1))) tNil))) tNil)) (gName 4) (tSeq (tAsg (tOp (rIxP K) (tVar 1) (tCallS (sp_law_take K) (WE W) (tCons (tVar 0) (tCons (tCB (rLenP K) (tCons (tVar 1) tNil)) tNil)))) (gName 5))
    (tIfS (tAnd (tTest (tOp (rInP K true) (tVar 5) (tVar 3))) (tTest (tOp (rInP K true) (tOp (rAddP K) (tC (.str "-")) (tVar 5)) (tVar 3)))) (tDrop (tBM K "list" rAppend (tVar 3) (tCons (tOp (rAddP K) (tOp (rIxP K) (tLst (tCons (tC (.str "")) (tCons (tC (.str "-")) tNil))) (tCallS (sp_law_take K) (WE W) (tCons (tVar 0) (tCons (tC (.int 2)) tNil)))) (tVar 5)) tNil))) tNext)))
    (tRet (tVar 3))))
theorem pure_law_row {K : PySem.W.Frag} {vs : List V} {H : Hp} {Q : VK} {E : XK} {W : WX} (h : sp_law_row K vs H Q E) : t_law_row K W { nx := fun _ H' => Q .non H', rt := Q } (start N_law_row vs) H := by
  obtain ⟨x, y, w, rfl, a, p, ns, m, rfl, rfl, rfl, hS, hpa, hp, hn1, hn2, hnm, m0, m1, hq⟩ := h
  show t_law_row K W _ [some (.ref a), some (.ref p), some (.int m), none, none, none] H
  unfold t_law_row
  walk_at "ss"
  refine ⟨Nat.zero_le _, fun q hqn => ?_⟩
  have hqa := hS.ne hqn
  have hqp : q ≠ p := fun e => by rw [e, hp] at hqn; cases hqn
  have S1 := hS.keep (same_new (o := HO.lst []) hqn)
  walk_at "ss"
  refine s_cut (fun σ' H' => ∃ v u, σ' = [some (.ref a), some (.ref p), some (.int m), some (.ref q), v, u] ∧ Src H' a ∧ Mov a H H' ∧ ∃ zs : List Str, H' q = some (.lst (zs.map V.str)) ∧ (zs.length : Int) ≤ m ∧ (∀ z ∈ zs, isLit z = true) ∧ (zs.map bare).Nodup ∧ ∀ z ∈ zs, bare z ∈ ns) ?_ ?_
  · walk_at "ss"
    refine take_ok S1 (by omega) (by omega) fun H2 k S2 b2 k0 k1 => ?_
    walk_at "ss"
    have B2 : Mov a H H2 := (Mov.of_same (same_new hqn)).trans b2
    refine forr_inv (by omega) (by omega) (fun i σ' H' => ∃ v u, σ' = [some (.ref a), some (.ref p), some (.int m), some (.ref q), v, u] ∧ Src H' a ∧ Mov a H H' ∧ ∃ zs : List Str, H' q = some (.lst (zs.map V.str)) ∧ zs.length ≤ i ∧ (∀ z ∈ zs, isLit z = true) ∧ (zs.map bare).Nodup ∧ ∀ z ∈ zs, bare z ∈ ns)
      ⟨_, _, rfl, S2, B2, [], b2 _ _ upd_same hqa, Nat.le_refl _, by simp, by simp, by simp⟩ ?_ ?_
    · rintro i σ' H' hi ⟨v, u, rfl, S3, B3, zs, hzs, hzl, hlit, hnd, hin⟩
      walk_at "ss"
      refine s_lenL (B3 _ _ hp hpa) ?_
      walk_at "ss"
      rw [List.length_map]
      refine take_ok S3 (by omega) (by omega) fun H4 r S4 b4 r0 r1 => ?_
      have B4 := B3.trans b4
      have hz4 := b4 _ _ hzs hqa
      obtain ⟨n, hnM, hn⟩ := at_str (l := ns) (i := r) r0 r1
      have hn8 : n.length ≤ 8 := by obtain ⟨_, _, _, _, _, _, h8⟩ := nm_first (hnm n hnM); exact h8
      refine s_ixL (B4 _ _ hp hpa) hn ?_
      walk_at "ss"
      have stay : ∃ v u, ([some (.ref a), some (.ref p), some (.int m), some (.ref q), some (.int i), some (.str n)] : L2.St) = [some (.ref a), some (.ref p), some (.int m), some (.ref q), v, u] ∧ Src H4 a ∧ Mov a H H4 ∧ ∃ zs : List Str, H4 q = some (.lst (zs.map V.str)) ∧ zs.length ≤ i + 1 ∧ (∀ z ∈ zs, isLit z = true) ∧ (zs.map bare).Nodup ∧ ∀ z ∈ zs, bare z ∈ ns := ⟨_, _, rfl, S4, B4, zs, hz4, by omega, hlit, hnd, hin⟩
      refine s_inSL hz4 ?_
      show ∃ k, V.bl (!decide (n ∈ zs)) = .bl k ∧ _
      walk_at "ss"
      by_cases h1 : n ∈ zs
      · rw [decide_eq_true h1]
        refine s_itF rfl ?_
        refine s_itF rfl ?_
        walk_at "ss"
        exact stay
      · rw [decide_eq_false h1]
        refine s_itT rfl ?_
        walk_at "ss"
        refine s_addS (by show 1 + n.length ≤ sizeLine; rw [sizeLine_eq]; omega) ?_
        walk_at "ss"
        refine s_inSL hz4 ?_
        show ∃ k, V.bl (!decide (("-" : Str) ++ n ∈ zs)) = .bl k ∧ _
        walk_at "ss"
        by_cases h2 : ("-" : Str) ++ n ∈ zs
        · rw [decide_eq_true h2]
          refine s_itF rfl ?_
          walk_at "ss"
          exact stay
        · rw [decide_eq_false h2]
          refine s_itT rfl ?_
          walk_at "ss"
          refine s_tyL hz4 ?_
          walk_at "ss"
          refine ⟨by show 2 ≤ sizeLine; rw [sizeLine_eq]; decide, fun l hl => ?_⟩
          have hla := S4.ne hl
          walk_at "ss"
          refine take_ok (S4.keep (same_new hl)) (by decide) (by decide) fun H7 r7 S7 b7 r70 r71 => ?_
          have B7 : Mov a H H7 := (B4.trans (Mov.of_same (same_new hl))).trans b7
          obtain ⟨d, hd, hdl, hL, hB⟩ := dash_bare (hnm n hnM) r70 r71
          refine s_ixL (b7 _ _ upd_same hla) hd ?_
          walk_at "ss"
          refine s_addS (by rw [sizeLine_eq]; omega) ?_
          walk_at "ss"
          have hz7 : H7 q = some (.lst (zs.map V.str)) := b7 _ _ (same_new hl _ _ hz4) hqa
          refine s_app hz7 (by rw [List.length_map]; omega) ?_
          refine ⟨_, _, rfl, hS.off hqn B7 S7, Mov.put hS hqn B7, zs ++ [d ++ n], by rw [upd_same, map_snoc], by rw [List.length_append]; simp; omega, fun y hy => ?_, ?_, fun y hy => ?_⟩
          · rcases List.mem_append.mp hy with hy | hy
            · exact hlit y hy
            · have : y = d ++ n := by simpa using hy
              rw [this]; exact hL
          · rw [List.map_append]
            refine List.nodup_append.mpr ⟨hnd, by simp, fun x hx y hy e => ?_⟩
            have ey : y = n := by
              have : y = bare (d ++ n) := by simpa using hy
              rw [this, hB]
            obtain ⟨z, hzM, rfl⟩ := List.mem_map.mp hx
            have e3 : bare z = n := e.trans ey
            rcases lit_cases (hlit z hzM) with e2 | e2
            · rw [e3] at e2
              rw [e2] at hzM
              exact h1 hzM
            · rw [e3] at e2
              rw [e2] at hzM
              exact h2 hzM
          · rcases List.mem_append.mp hy with hy | hy
            · exact hin y hy
            · have : y = d ++ n := by simpa using hy
              rw [this, hB]; exact hnM
    · rintro σ' H' ⟨v, u, rfl, S3, B3, zs, hzs, hzl, hlit, hnd, hin⟩
      exact ⟨v, u, rfl, S3, B3, zs, hzs, by omega, hlit, hnd, hin⟩
  · rintro σ' H' ⟨v, u, rfl, S3, B3, zs, hzs, hzl, hlit, hnd, hin⟩
    walk_at "ss"
    exact hq H' q zs S3 B3 hqn hqa hzs hzl hlit hnd hin
def dsp_law_row : DSp := DSp3 fun x y w S Q _ => ∃ (n : Nat) (ns : List Str) (m : Int), x = .hdl n ∧ rs S y = rowD ns ∧ w = .int m ∧ IsSrc S n ∧ 1 ≤ ns.length ∧ ns.length ≤ 100 ∧ (∀ z ∈ ns, isNm z = true) ∧ 0 ≤ m ∧ m ≤ 40 ∧
  ∀ c (zs : List Str), IsSrcD c → (zs.length : Int) ≤ m → (∀ z ∈ zs, isLit z = true) → (zs.map bare).Nodup → (∀ z ∈ zs, bare z ∈ ns) → Q (rowD zs) (S.set n c)
theorem ad_law_row {K : PySem.W.Frag} {vs : List V} {H : Hp} {Q : VK} {E : XK} (h : lift K dsp_law_row vs H Q E) : sp_law_row K vs H Q E := by
  obtain ⟨A, S, ds, QD, ED, C, ts, ⟨x, y, w, rfl, n, ns, m, rfl, hy, rfl, hs, l1, l2, hn, m0, m1, hq⟩, k, _⟩ := h
  cases ts with | cons t1 ts => cases ts with | cons t2 ts => cases ts with | cons t3 ts =>
    cases ts
    cases t1 with
    | hdl ha =>
      rename_i a
      rw [int_of t3]
      obtain ⟨p, rfl, hp⟩ := lsS C t2 hy
      have hpa : p ≠ a := fun e => by
        subst e
        obtain ⟨c, e1, cells, i, cur, cnt, mode, rfl, _⟩ := hs
        obtain ⟨c', e2, kc⟩ := C.at_ n p ha
        rw [e1] at e2
        cases e2
        obtain ⟨xs, hx, r⟩ := kc
        rw [hp] at hx
        have hx := Option.some.inj hx
        injection hx with hx
        subst hx
        cases ns with
        | nil => cases l1
        | cons z r' => cases r with | cons t r => cases t
      refine ⟨_, _, _, rfl, a, p, ns, m, rfl, rfl, rfl, src_of C hs ha, hpa, hp, l1, l2, hn, m0, m1, fun H' q zs s mv hq0 hqa hz hl hlit hnd hin => ?_⟩
      obtain ⟨c, ic, C', l⟩ := src_back C hs ha mv s
      exact k _ _ _ _ _ l C' (new_strs C l hq0 hz) (hq c zs ic hl hlit hnd hin)
def sp_law_clause (K : PySem.W.Frag) : Sp := Sp1 fun x H Q E => ∃ (p : Addr) (zs : List Str), x = .ref p ∧ H p = some (.lst (zs.map V.str)) ∧ zs.length ≤ 6 ∧ (∀ z ∈ zs, z.length ≤ 1000000) ∧ CkC K zs H Q E
def N_law_clause : List PySem.Str := ["_law_row_here"]
def t_law_clause (K : PySem.W.Frag) (W : WX) : TS := (tCut (tIfS (tTest (tOp (rEqP K) (tCB (rLenP K) (tCons (tVar 0) tNil)) (tC (.int 0)))) (tRet (Cl.tMakeS (ga K "Clause") (spV_Clause_init K) (WE W) tNil)) tNext)
    (tCut (tIfS (tTest (tOp (rEqP K) (tCB (rLenP K) (tCons (tVar 0) tNil)) (tC (.int 1)))) (tRet (Cl.tMakeS (ga K "Clause") (spV_Clause_init K) (WE W) (tCons (tOp (rIxP K) (tVar 0) (tC (.int 0))) tNil))) tNext)
    (tCut (tIfS (tTest (tOp (rEqP K) (tCB (rLenP K) (tCons (tVar 0) tNil)) (tC (.int 2)))) (tRet (Cl.tMakeS (ga K "Clause") (spV_Clause_init K) (WE W) (tCons (tOp (rIxP K) (tVar 0) (tC (.int 0))) (tCons (tOp (rIxP K) (tVar 0) (tC (.int 1))) tNil)))) tNext)
    (tCut (tIfS (tTest (tOp (rEqP K) (tCB (rLenP K) (tCons (tVar 0) tNil)) (tC (.int 3)))) (tRet (Cl.tMakeS (ga K "Clause") (spV_Clause_init K) (WE W) (tCons (tOp (rIxP K) (tVar 0) (tC (.int 0))) (tCons (tOp (rIxP K) (tVar 0) (tC (.int 1))) (tCons (tOp (rIxP K) (tVar 0) (tC (.int 2))) tNil))))) tNext)
    (tCut (tIfS (tTest (tOp (rEqP K) (tCB (rLenP K) (tCons (tVar 0) tNil)) (tC (.int 4)))) (tRet (Cl.tMakeS (ga K "Clause") (spV_Clause_init K) (WE W) (tCons (tOp (rIxP K) (tVar 0) (tC (.int 0))) (tCons (tOp (rIxP K) (tVar 0) (tC (.int 1))) (tCons (tOp (rIxP K) (tVar 0) (tC (.int 2))) (tCons (tOp (rIxP K) (tVar 0) (tC (.int 3))) tNil)))))) tNext)
    (tCut (tIfS (tTest (tOp (rEqP K) (tCB (rLenP K) (tCons (tVar 0) tNil)) (tC (.int 5)))) (tRet (Cl.tMakeS (ga K "Clause") (spV_Clause_init K) (WE W) (tCons (tOp (rIxP K) (tVar 0) (tC (.int 0))) (tCons (tOp (rIxP K) (tVar 0) (tC (.int 1))) (tCons (tOp (rIxP K) (tVar 0) (tC (.int 2))) (tCons (tOp (rIxP K) (tVar 0) (tC (.int 3))) (tCons (tOp (rIxP K) (tVar 0) (tC (.int 4))) tNil))))))) tNext)
    (tRet (Cl.tMakeS (ga K "Clause") (spV_Clause_init K) (WE W) (tCons (tOp (rIxP K) (tVar 0) (tC (.int 0))) (tCons (tOp (rIxP K) (tVar 0) (tC (.int 1))) (tCons (tOp (rIxP K) (tVar 0) (tC (.int 2))) (tCons (tOp (rIxP K) (tVar 0) (tC (.int 3))) (tCons (tOp (rIxP K) (tVar 0) (tC (.int 4))) (tCons (tOp (rIxP K) (tVar 0) (tC (.int 5))) tNil))))))))))))))
local macro_rules | `(tactic| walk_at "mk") => `(tactic| repeat (first | walk_at "s" | ((with_reducible refine' s_lenL ?kA ?_); (case kA => assumption)) | ((with_reducible refine' s_ixL ?kA ?kB ?_); (case kA => assumption); (case kB => rfl)) | (with_reducible refine s_nocut ?_) | (refine s_itF rfl ?_) | (refine s_itT rfl ?_)))
theorem pure_law_clause {K : PySem.W.Frag} {vs : List V} {H : Hp} {Q : VK} {E : XK} (h : sp_law_clause K vs H Q E) : t_law_clause K (fun cls d _ H => E cls d H) { nx := fun _ H' => Q .non H', rt := Q } (start N_law_clause vs) H := by
  obtain ⟨x, rfl, p, zs, rfl, hp, hl, hz, hc⟩ := h
  show t_law_clause K _ _ [some (.ref p)] H
  unfold t_law_clause
  have mk := clause_made (zs := zs) (by omega) hz hc
  match zs, hl, hp, mk with
  | [], _, hp, mk => walk_at "mk"; exact mk
  | [a], _, hp, mk => walk_at "mk"; exact mk
  | [a, b], _, hp, mk => walk_at "mk"; exact mk
  | [a, b, c], _, hp, mk => walk_at "mk"; exact mk
  | [a, b, c, d], _, hp, mk => walk_at "mk"; exact mk
  | [a, b, c, d, e], _, hp, mk => walk_at "mk"; exact mk
  | [a, b, c, d, e, f], _, hp, mk => walk_at "mk"; exact mk
def sp_law_numbers (K : PySem.W.Frag) : Sp := Sp2 fun x y H Q _ => ∃ (a : Addr) (m : Int), x = .ref a ∧ y = .int m ∧ Src H a ∧ 0 ≤ m ∧ m ≤ 100 ∧
  ∀ H' (q : Addr) (ns : List Int), Src H' a → Mov a H H' → H q = none → q ≠ a → H' q = some (.lst (ns.map V.int)) → (ns.length : Int) = m → ns.Pairwise (· < ·) → (∀ n ∈ ns, 1 ≤ n ∧ n ≤ 40 * m) → Q (.ref q) H'
def N_law_numbers : List PySem.Str := ["_law_source_here", "_law_many", "_law_gaps", "_law_numbers_here", "_law_last", "_law_k"]
def t_law_numbers (K : PySem.W.Frag) (W : WX) : TS := (tSeq (tAsg (tCallS (sp_law_take K) (WE W) (tCons (tVar 0) (tCons (tC (.int 2)) tNil))) (gName 2))
    (tSeq (tAsg (tLst tNil) (gName 3))
    (tSeq (tAsg (tC (.int 0)) (gName 4))
    (tCut (tFor (iRng1 (tCons (tVar 1) tNil)) (gName 5) (tSeq (tAsg (tOp (rAddP K) (tVar 4) (tC (.int 1))) (gName 4))
    (tCut (tIfS (tTest (tOp (rEqP K) (tVar 2) (tC (.int 1)))) (tAsg (tOp (rAddP K) (tVar 4) (tCallS (sp_law_take K) (WE W) (tCons (tVar 0) (tCons (tC (.int 40)) tNil)))) (gName 4)) tNext)
    (tDrop (tBM K "list" rAppend (tVar 3) (tCons (tVar 4) tNil))))))
    (tRet (tVar 3))))))
theorem pure_law_numbers {K : PySem.W.Frag} {vs : List V} {H : Hp} {Q : VK} {E : XK} {W : WX} (h : sp_law_numbers K vs H Q E) : t_law_numbers K W { nx := fun _ H' => Q .non H', rt := Q } (start N_law_numbers vs) H := by
  obtain ⟨x, y, rfl, a, m, rfl, rfl, hS, m0, m1, hq⟩ := h
  show t_law_numbers K W _ [some (.ref a), some (.int m), none, none, none, none] H
  unfold t_law_numbers
  walk_at "ss"
  refine take_ok hS (by decide) (by decide) fun H1 gp S1 b1 gp0 gp1 => ?_
  walk_at "ss"
  refine ⟨Nat.zero_le _, fun q hqn => ?_⟩
  have hqa := S1.ne hqn
  have S2 := S1.keep (same_new (o := HO.lst []) hqn)
  have B2 : Mov a H (upd H1 q (.lst [])) := b1.trans (Mov.of_same (same_new hqn))
  have hq0 : H q = none := b1.un hqa hqn
  walk_at "ss"
  refine s_cut (fun σ' H' => ∃ l v, σ' = [some (.ref a), some (.int m), some (.int gp), some (.ref q), some (.int l), v] ∧ Src H' a ∧ Mov a H H' ∧ ∃ ns : List Int, H' q = some (.lst (ns.map V.int)) ∧ (ns.length : Int) = m ∧ ns.Pairwise (· < ·) ∧ ∀ n ∈ ns, 1 ≤ n ∧ n ≤ 40 * m) ?_ ?_
  · walk_at "ss"
    refine forr_inv (by omega) (by omega) (fun i σ' H' => ∃ (l : Int) (v : Option V), σ' = [some (.ref a), some (.int m), some (.int gp), some (.ref q), some (.int l), v] ∧ Src H' a ∧ Mov a H H' ∧ 0 ≤ l ∧ l ≤ 40 * i ∧ ∃ ns : List Int, H' q = some (.lst (ns.map V.int)) ∧ ns.length = i ∧ ns.Pairwise (· < ·) ∧ ∀ n ∈ ns, 1 ≤ n ∧ n ≤ l)
      ⟨0, _, rfl, S2, B2, Int.le_refl _, by omega, [], upd_same, rfl, List.Pairwise.nil, fun n hn => by cases hn⟩ ?_ ?_
    · rintro i σ' H3 hi ⟨l, v, rfl, S3, B3, l0, l1, ns, hns, hln, asc, hb⟩
      walk_at "ss"
      refine s_cut (fun σ' H' => ∃ (l2 : Int), σ' = [some (.ref a), some (.int m), some (.int gp), some (.ref q), some (.int l2), some (.int i)] ∧ Src H' a ∧ Mov a H H' ∧ l < l2 ∧ l2 ≤ 40 * (i + 1) ∧ H' q = some (.lst (ns.map V.int))) ?_ ?_
      · walk_at "ss"
        refine s_itd (fun _ => ?_) (fun _ => ?_)
        · walk_at "ss"
          refine take_ok S3 (by decide) (by decide) fun H4 k S4 b4 k0 k1 => ?_
          walk_at "ss"
          exact ⟨_, rfl, S4, B3.trans b4, by omega, by omega, b4 _ _ hns hqa⟩
        · walk_at "ss"
          exact ⟨_, rfl, S3, B3, by omega, by omega, hns⟩
      · rintro σ' H4 ⟨l2, rfl, S4, B4, l20, l21, hns4⟩
        walk_at "ss"
        refine s_tyL hns4 ?_
        walk_at "ss"
        refine s_app hns4 (by rw [List.length_map]; omega) ?_
        refine ⟨l2, _, rfl, hS.off hq0 B4 S4, Mov.put hS hq0 B4, by omega, by push_cast; omega, ns ++ [l2], by rw [upd_same, List.map_append]; rfl, by rw [List.length_append, hln]; rfl, ?_, fun n hn => ?_⟩
        · rw [List.pairwise_append]
          refine ⟨asc, List.pairwise_singleton _ _, fun x hx y hy => ?_⟩
          have : y = l2 := by simpa using hy
          have := hb x hx
          omega
        · rcases List.mem_append.mp hn with hn | hn
          · have := hb n hn
            omega
          · have : n = l2 := by simpa using hn
            omega
    · rintro σ' H3 ⟨l, v, rfl, S3, B3, l0, l1, ns, hns, hln, asc, hb⟩
      exact ⟨l, v, rfl, S3, B3, ns, hns, by omega, asc, fun n hn => by have := hb n hn; omega⟩
  · rintro σ' H3 ⟨l, v, rfl, S3, B3, ns, hns, hln, asc, hb⟩
    walk_at "ss"
    exact hq H3 q ns S3 B3 hq0 hqa hns hln asc hb
def dsp_law_numbers : DSp := DSp2 fun x y S Q _ => ∃ (n : Nat) (m : Int), x = .hdl n ∧ y = .int m ∧ IsSrc S n ∧ 0 ≤ m ∧ m ≤ 100 ∧ ∀ c (ns : List Int), IsSrcD c → (ns.length : Int) = m → ns.Pairwise (· < ·) → (∀ n ∈ ns, 1 ≤ n ∧ n ≤ 40 * m) → Q (.lst (ns.map .int)) (S.set n c)
theorem ad_law_numbers {K : PySem.W.Frag} {vs : List V} {H : Hp} {Q : VK} {E : XK} (h : lift K dsp_law_numbers vs H Q E) : sp_law_numbers K vs H Q E := by
  obtain ⟨A, S, ds, QD, ED, C, ts, ⟨x, y, rfl, n, m, rfl, rfl, hs, h0, hm, hq⟩, k, _⟩ := h
  cases ts with | cons t1 ts => cases ts with | cons t2 ts =>
    cases ts
    cases t1 with
    | hdl ha =>
      rw [int_of t2]
      refine ⟨_, _, rfl, _, m, rfl, rfl, src_of C hs ha, h0, hm, fun H' p ns s mv hp _ hz hl hn hd => ?_⟩
      obtain ⟨c, ic, C', l⟩ := src_back C hs ha mv s
      exact k _ _ _ _ _ l C' (new_ints C l hp hz) (hq c ns ic hl hn hd)
/-- the good case: numbers in order, few clauses, few names -/
theorem num_fine : ∀ {rs rows : List BRow} {g : Int}, ((rs.map (·.1)).Pairwise (· < ·)) → (∀ r ∈ rs, g < r.1 ∧ r.1 ≤ 999) → rows.length + rs.length ≤ 24 → (nmsO (rows.flatMap (·.2.2) ++ rs.flatMap (·.2.2))).length ≤ 12 → numErr rows g rs = none
  | [], _, _, _, _, _, _ => rfl
  | r :: rs, rows, g, asc, hb, hl, hn => by
    rw [List.map_cons, List.pairwise_cons] at asc
    have h1 := hb r List.mem_cons_self
    rw [List.length_cons] at hl
    rw [List.flatMap_cons, ← List.append_assoc] at hn
    have room : roomErr rows r.2.2 = none := by
      unfold roomErr
      rw [if_neg (by omega), if_neg ?_]
      have := List.Nodup.length_le_of_subset (l₁ := nmsO (rows.flatMap (·.2.2) ++ r.2.2)) (l₂ := nmsO (rows.flatMap (·.2.2) ++ r.2.2 ++ rs.flatMap (·.2.2))) (ord_nodup (ord_srt _)) fun y hy => by
        unfold nmsO at hy ⊢
        rw [mem_srt] at hy ⊢
        rw [List.map_append]
        exact List.mem_append_left _ hy
      omega
    unfold numErr
    rw [if_neg (by omega), room]
    show numErr (rows ++ [r]) r.1 rs = none
    refine num_fine asc.2 (fun s hs => ⟨asc.1 _ (List.mem_map_of_mem (f := fun x : BRow => x.1) hs), (hb s (List.mem_cons_of_mem _ hs)).2⟩) (by rw [List.length_append]; simp; omega) ?_
    rw [List.flatMap_append]
    simp only [List.flatMap_cons, List.flatMap_nil, List.append_nil]
    exact hn
def sp_law_book (K : PySem.W.Frag) : Sp := Sp2 fun x y H Q _ => ∃ (p R : Addr) (ns : List Int) (rs : List (Addr × List Str)), x = .ref p ∧ y = .ref R ∧ H p = some (.lst (ns.map V.int)) ∧ IsRw H R rs ∧ ns.length = rs.length ∧ ns.Pairwise (· < ·) ∧ (∀ n ∈ ns, 1 ≤ n ∧ n ≤ 999) ∧ rs.length ≤ 24 ∧ (∀ r ∈ rs, Row6 r.2) ∧ (nmsO (rs.flatMap (·.2))).length ≤ 12 ∧
  ∀ H' b d (tb : List TRow), Same H H' → H b = none → H d = none → nuT tb = ns → rwT tb = rs → IsBk K H' b d (bkT tb) (lastB (bkT tb)) → Bok (bkT tb) (lastB (bkT tb)) → Q (.ref b) H'
def N_law_book : List PySem.Str := ["_law_numbers_here", "_law_rows", "_law_k"]
def t_law_book (K : PySem.W.Frag) (W : WX) : TS := (tRet (Cl.tCMethS (ga K "Book") (sp_Book_numbered K) (WE W) (tC (.ref (ga K "Book"))) (tCons (tLc (iRng1 (tCons (tCB (rLenP K) (tCons (tVar 1) tNil)) tNil)) (gName 2) tYes (tTup (tCons (tOp (rIxP K) (tVar 0) (tVar 2)) (tCons (tCall (sp_law_clause K) [] E0 (tCons (tOp (rIxP K) (tVar 1) (tVar 2)) tNil)) tNil))) [2]) tNil)))
def PB (K : PySem.W.Frag) (ns : List Int) (rs : List (Addr × List Str)) (i : Nat) (y : V) (H : Hp) : Prop := ∃ t c n r, ns[i]? = some n ∧ rs[i]? = some r ∧ y = .ref t ∧ H t = some (.tup [.int n, .ref c]) ∧ IsCl K H c (litO r.2)
theorem PB.keep {K : PySem.W.Frag} {ns : List Int} {rs : List (Addr × List Str)} (i : Nat) (y : V) (H H' : Hp) (h : PB K ns rs i y H) (s : Same H H') : PB K ns rs i y H' := by
  obtain ⟨t, c, n, r, h1, h2, h3, h4, h5⟩ := h
  exact ⟨t, c, n, r, h1, h2, h3, s _ _ h4, h5.keep s⟩
theorem PB.put {K : PySem.W.Frag} {ns : List Int} {rs : List (Addr × List Str)} (i : Nat) (y : V) (H : Hp) (D : Addr) (zs ws : List V) (h : PB K ns rs i y H) (hD : H D = some (.lst zs)) : PB K ns rs i y (upd H D (.lst ws)) := by
  obtain ⟨t, c, n, r, h1, h2, h3, h4, dx, q, h5, h6⟩ := h
  exact ⟨t, c, n, r, h1, h2, h3, by rw [upd_ne (ne_of h4 hD (fun z => by cases z))]; exact h4, dx, q, by rw [upd_ne (ne_of h5 hD (fun z => by cases z))]; exact h5, by rw [upd_ne (ne_of h6 hD (fun z => by cases z))]; exact h6⟩
theorem pure_law_book {K : PySem.W.Frag} {vs : List V} {H : Hp} {Q : VK} {E : XK} {W : WX} (h : sp_law_book K vs H Q E) : t_law_book K W { nx := fun _ H' => Q .non H', rt := Q } (start N_law_book vs) H := by
  obtain ⟨x, y, rfl, p, R, ns, rs, rfl, rfl, hp, hR, hln, asc, hb, h24, r6, h12, hq⟩ := h
  show t_law_book K W _ [some (.ref p), some (.ref R), none] H
  unfold t_law_book
  walk_at "ss"
  refine s_lenL hR.li ?_
  walk_at "ss"
  rw [List.length_map]
  refine lcr_rel (PB K ns rs) PB.keep PB.put (by omega) (by omega) ?_ ?_
  · intro i hi H1 s1 Q' hQ
    have hi1 : i < rs.length := by omega
    have hi2 : i < ns.length := by omega
    have e1 : ns[i]? = some ns[i] := List.getElem?_eq_getElem hi2
    have e2 : rs[i]? = some rs[i] := List.getElem?_eq_getElem hi1
    have R6 := r6 rs[i] (List.getElem_mem hi1)
    walk_at "ss"
    refine s_ixL (s1 _ _ hp) (atI_nat (v := .int ns[i]) (by rw [List.getElem?_map, e1]; rfl)) ?_
    walk_at "ss"
    refine s_ixL (s1 _ _ hR.li) (atI_nat (v := .ref rs[i].1) (by rw [List.getElem?_map, e2]; rfl)) ?_
    walk_at "ss"
    refine ⟨_, rfl, rs[i].1, rs[i].2, rfl, s1 _ _ (hR.ro rs[i] (List.getElem_mem hi1)), R6.len, fun z h => by have := lit_len (R6.lit z h); omega, chk_fine R6.lit R6.nd (fun _ => Iff.rfl) (by have := R6.len; omega) fun H2 c dc qc s2 _ c1 c2 => ?_⟩
    walk_at "ss"
    refine ⟨by show 2 ≤ sizeLine; rw [sizeLine_eq]; decide, fun t ht => ?_⟩
    exact hQ _ _ (s2.trans (same_new ht)) ⟨t, c, ns[i], rs[i], e1, e2, rfl, upd_same, IsCl.keep ⟨dc, qc, c1, c2⟩ (same_new ht)⟩
  · intro D H1 ys _ s1 hD hly hP
    obtain ⟨bs, hbl, hbs⟩ := pick (α := V) (β := Addr × Addr) (P := fun i y b => ∃ n r, ns[i]? = some n ∧ rs[i]? = some r ∧ y = V.ref b.1 ∧ H1 b.1 = some (.tup [.int n, .ref b.2]) ∧ IsCl K H1 b.2 (litO r.2)) fun i y hy => by
      obtain ⟨t, c, n, r, h1, h2, h3, h4, h5⟩ := hP i y hy
      exact ⟨(t, c), n, r, h1, h2, h3, h4, h5⟩
    have lb : bs.length = rs.length := by rw [hbl, hly]; omega
    let L : List ((Int × Addr × List Str) × (Addr × Addr)) := (ns.zip rs).zip bs
    let tb : List TRow := L.map fun l => (l.1.1, l.2.2, l.1.2.1, l.1.2.2)
    let ps : List (Addr × BRow) := L.map fun l => (l.2.1, l.1.1, l.2.2, litO l.1.2.2)
    have lz : (ns.zip rs).length = rs.length := by rw [List.length_zip]; omega
    have eps : ps.map (·.2) = bkT tb := by show (L.map _).map _ = (L.map _).map _; rw [List.map_map, List.map_map]; rfl
    have enu : nuT tb = ns := by
      show (L.map _).map _ = _
      rw [List.map_map]
      show L.map (fun l => l.1.1) = ns
      have : L.map (fun l => l.1.1) = (L.map (·.1)).map (·.1) := by rw [List.map_map]; rfl
      rw [this, List.map_fst_zip (by omega), List.map_fst_zip (by omega)]
    have erw : rwT tb = rs := by
      show (L.map _).map _ = _
      rw [List.map_map]
      show L.map (fun l => (l.1.2.1, l.1.2.2)) = rs
      have : L.map (fun l => (l.1.2.1, l.1.2.2)) = (L.map (·.1)).map (·.2) := by rw [List.map_map]; rfl
      rw [this, List.map_fst_zip (by omega), List.map_snd_zip (by omega)]
    have r6t : ∀ r ∈ tb, Row6 r.2.2.2 := fun r hr => r6 (r.2.2.1, r.2.2.2) (by rw [← erw]; exact List.mem_map_of_mem (f := fun r : TRow => (r.2.2.1, r.2.2.2)) hr)
    have eys : ys = ps.map fun t => V.ref t.1 := by
      apply List.ext_getElem?
      intro i
      show _ = ((L.map _).map _)[i]?
      rw [List.map_map, List.getElem?_map]
      by_cases hi : i < ys.length
      · have e1 : ys[i]? = some ys[i] := List.getElem?_eq_getElem hi
        have e2 : bs[i]? = some bs[i] := List.getElem?_eq_getElem (by omega)
        obtain ⟨n, r, h1, h2, h3, _⟩ := hbs i _ _ e1 e2
        have e3 : L[i]? = some ((ns.zip rs)[i]'(by omega), bs[i]) := by rw [List.getElem?_eq_getElem (by show i < ((ns.zip rs).zip bs).length; rw [List.length_zip]; omega)]; exact congrArg some List.getElem_zip
        rw [e1, e3, h3]
        rfl
      · rw [List.getElem?_eq_none (by omega), List.getElem?_eq_none (by show ((ns.zip rs).zip bs).length ≤ i; rw [List.length_zip]; omega)]
        rfl
    have hps : ∀ t ∈ ps, H1 t.1 = some (.tup [.int t.2.1, .ref t.2.2.1]) ∧ IsCl K H1 t.2.2.1 t.2.2.2 ∧ (∀ z ∈ t.2.2.2, isLit z = true) ∧ t.2.2.2.length ≤ 20 := fun t ht => by
      obtain ⟨l, hl, rfl⟩ := List.mem_map.mp ht
      obtain ⟨i, hi, e⟩ := List.mem_iff_getElem.mp hl
      have hi0 : i < ((ns.zip rs).zip bs).length := hi
      rw [List.length_zip, lz] at hi0
      have e1 : ys[i]? = some ys[i] := List.getElem?_eq_getElem (by omega)
      have e2 : bs[i]? = some bs[i] := List.getElem?_eq_getElem (by omega)
      obtain ⟨n, r, h1, h2, h3, h4, h5⟩ := hbs i _ _ e1 e2
      have el : l = ((n, r), bs[i]) := by
        rw [← e]
        show ((ns.zip rs).zip bs)[i] = _
        rw [List.getElem_zip, List.getElem_zip]
        rw [(List.getElem?_eq_some_iff.mp h1).2, (List.getElem?_eq_some_iff.mp h2).2]
      subst el
      have R6 := r6 r (List.mem_of_getElem? h2)
      exact ⟨h4, h5, fun z hz => R6.lit z (litO_mem hz), by show (litO r.2).length ≤ 20; have := R6.litO; have := R6.len; omega⟩
    rw [eys] at hD
    have ltb : tb.length = rs.length := (List.length_map (fun r : TRow => ((r.2.2.1, r.2.2.2) : Addr × List Str))).symm.trans (congrArg List.length erw)
    have fine : numErr [] 0 (bkT tb) = none := by
      refine num_fine (by rw [bkT_nums, enu]; exact asc) (fun r hr => ?_) (by rw [bkT_len]; simp; omega) (by rw [List.flatMap_nil, List.nil_append, nmsT r6t, erw]; exact h12)
      have : r.1 ∈ (bkT tb).map (·.1) := List.mem_map_of_mem (f := fun r : BRow => r.1) hr
      rw [bkT_nums, enu] at this
      have := hb _ this
      omega
    have few : ((bkT tb).flatMap (·.2.2)).length ≤ 900 := by
      have h6 : ∀ {l : List TRow}, (∀ r ∈ l, Row6 r.2.2.2) → ((bkT l).flatMap (·.2.2)).length ≤ 6 * l.length := by
        intro l
        induction l with
        | nil => intro _; exact Nat.le_refl _
        | cons a l ih =>
          intro h
          have h2 := ih fun r hr => h r (List.mem_cons_of_mem _ hr)
          have h3 := (h a List.mem_cons_self).litO
          have h4 := (h a List.mem_cons_self).len
          unfold bkT at h2 ⊢
          rw [List.map_cons, List.flatMap_cons, List.length_append, List.length_cons]
          show (litO a.2.2.2).length + _ ≤ _
          omega
      have := h6 r6t
      omega
    walk_at "ss"
    refine ⟨_, _, rfl, D, ps, rfl, rfl, hD, hps, by show (L.map _).length ≤ 1000; rw [List.length_map]; show ((ns.zip rs).zip bs).length ≤ 1000; rw [List.length_zip]; omega, by rw [eps]; exact few, fun n hn => (by rw [eps, fine] at hn; cases hn), fun n hn => (by rw [eps, fine] at hn; cases hn), fun _ H2 b d s2 hb' hd' B2 ok2 => ?_⟩
    rw [eps] at B2 ok2
    exact hq H2 b d tb (s1.trans s2) (same_un s1 hb') (same_un s1 hd') enu erw B2 ok2
def lastD (rows : List DRow) : Int := match rows.getLast? with
  | some r => r.1
  | none => 0
theorem last_d : ∀ rb : List BRow, lastB rb = lastD (dB rb) := fun rb => by
  unfold lastB lastD dB
  rw [List.getLast?_map]
  cases rb.getLast? <;> rfl
def dsp_law_book : DSp := DSp2 fun x y S Q _ => ∃ (ns : List Int) (rows : List (List Str)), rs S x = .lst (ns.map .int) ∧ rs S y = rowsD rows ∧ ns.length = rows.length ∧ ns.Pairwise (· < ·) ∧ (∀ n ∈ ns, 1 ≤ n ∧ n ≤ 999) ∧ rows.length ≤ 24 ∧ (∀ r ∈ rows, Row6 r) ∧ (nmsO rows.flatten).length ≤ 12 ∧
  (BDok (mkR ns rows) (lastD (mkR ns rows)) → Q (.hdl (S.length + 1)) (newB S (mkR ns rows) (lastD (mkR ns rows))))
theorem ad_law_book {K : PySem.W.Frag} {vs : List V} {H : Hp} {Q : VK} {E : XK} (h : lift K dsp_law_book vs H Q E) : sp_law_book K vs H Q E := by
  obtain ⟨A, S, ds, QD, ED, C, ts, ⟨x, y, rfl, ns, rows, e1, e2, hl, asc, hb, h24, h6, h12, hq⟩, k, he⟩ := h
  cases ts with | cons t1 ts => cases ts with | cons t2 ts =>
    cases ts
    obtain ⟨p, rfl, hp⟩ := lsI C t1 e1
    obtain ⟨R, rs, rfl, er, IR⟩ := rows_at C t2 e2
    have lrs : rs.length = rows.length := by rw [← er, List.length_map]
    refine ⟨_, _, rfl, p, R, ns, rs, rfl, rfl, hp, IR, by omega, asc, hb, by omega, fun r hr => h6 r.2 (by rw [← er]; exact List.mem_map_of_mem (f := Prod.snd) hr), by rw [flat_snd er]; exact h12, fun H' b d tb s hb hd en ew B ok => ?_⟩
    obtain ⟨A', l, C', t⟩ := new_book C s hb hd B
    have et : dB (bkT tb) = mkR ns rows := by rw [mk_tb, en, ew, er]
    rw [et, last_d, et] at C'
    exact k _ _ _ _ _ l C' t (hq (by have := ok.bd; rw [last_d, et] at this; exact this))
end Rd
namespace Rd
open PySem PySem.Spec PyProof.Rows L2 He Px
open Dx
structure StOk (ns : List Int) (rows : List (List Str)) (g : Int) : Prop where
  len : ns.length = rows.length
  bk : BDok (mkR ns rows) g
  r6 : ∀ r ∈ rows, Row6 r
  few : rows.length ≤ 100
theorem mkR_nums : ∀ {ns : List Int} {rows : List (List Str)}, ns.length = rows.length → (mkR ns rows).map (·.1) = ns
  | [], [], _ => rfl
  | n :: ns, r :: rows, h => by
    have := mkR_nums (ns := ns) (rows := rows) (by simpa using h)
    unfold mkR at this ⊢
    rw [List.zip_cons_cons, List.map_cons, List.map_cons, this]
theorem mkR_len {ns : List Int} {rows : List (List Str)} (h : ns.length = rows.length) : (mkR ns rows).length = ns.length := by unfold mkR; rw [List.length_map, List.length_zip, h, Nat.min_self]
theorem mkR_flat : ∀ {ns : List Int} {rows : List (List Str)}, ns.length = rows.length → (mkR ns rows).flatMap (·.2) = rows.flatMap litO
  | [], [], _ => rfl
  | n :: ns, r :: rows, h => by
    have := mkR_flat (ns := ns) (rows := rows) (by simpa using h)
    unfold mkR at this ⊢
    rw [List.zip_cons_cons, List.map_cons, List.flatMap_cons, List.flatMap_cons, this]
theorem rowD_mk : ∀ {ns : List Int} {rows : List (List Str)} {i : Nat} {j : Int} {r : List Str}, ns.Nodup → ns[i]? = some j → rows[i]? = some r → rowD? (mkR ns rows) j = some (j, litO r)
  | [], _, _, _, _, _, h, _ => by simp at h
  | n :: ns, [], _, _, _, _, _, h => by simp at h
  | n :: ns, r0 :: rows, 0, j, r, _, h1, h2 => by
    cases h1
    cases h2
    unfold rowD? mkR
    rw [List.zip_cons_cons, List.map_cons, List.find?_cons_of_pos (by simp)]
  | n :: ns, r0 :: rows, i + 1, j, r, nd, h1, h2 => by
    rw [List.nodup_cons] at nd
    have h1 : ns[i]? = some j := by simpa using h1
    have hne : n ≠ j := fun e => nd.1 (by rw [e]; exact List.mem_of_getElem? h1)
    have ih := rowD_mk (ns := ns) (rows := rows) nd.2 h1 (by simpa using h2)
    unfold rowD? mkR at ih ⊢
    rw [List.zip_cons_cons, List.map_cons, List.find?_cons_of_neg (by simpa using hne), ih]
theorem three_le : (3 : Nat) ≤ sizeLine := by rw [sizeLine_eq]; decide
theorem two_le : (2 : Nat) ≤ sizeLine := by rw [sizeLine_eq]; decide
theorem idxOf_ne {n j : Int} {ns : List Int} (e : ¬ n = j) : (n :: ns).idxOf j = ns.idxOf j + 1 := by rw [List.idxOf_cons, show (n == j) = false by simpa using e]; rfl
theorem idx_at : ∀ {ns : List Int} {j : Int}, j ∈ ns → ns[ns.idxOf j]? = some j ∧ ∀ m, m < ns.idxOf j → ns[m]? ≠ some j
  | n :: ns, j, h => by
    by_cases e : n = j
    · subst e
      rw [List.idxOf_cons_self]
      exact ⟨rfl, fun m hm => by omega⟩
    · have h' : j ∈ ns := by
        rcases List.mem_cons.mp h with h | h
        · exact absurd h.symm e
        · exact h
      obtain ⟨h1, h2⟩ := idx_at h'
      rw [idxOf_ne e]
      refine ⟨by simpa using h1, fun m hm => ?_⟩
      cases m with
      | zero => simpa using e
      | succ m => simpa using h2 m (by omega)
theorem idx_lt {ns : List Int} {j : Int} (h : j ∈ ns) : ns.idxOf j < ns.length := List.idxOf_lt_length_iff.mpr h
theorem row6_snoc {rows : List (List Str)} {r : List Str} (h : ∀ r ∈ rows, Row6 r) (h2 : Row6 r) : ∀ x ∈ rows ++ [r], Row6 x := fun x hx => by
  rcases List.mem_append.mp hx with hx | hx
  · exact h x hx
  · have e : x = r := by simpa using hx
    subst e; exact h2
theorem row6_set {rows : List (List Str)} {r : List Str} {n : Nat} (h : ∀ r ∈ rows, Row6 r) (h2 : Row6 r) : ∀ x ∈ rows.set n r, Row6 x := fun x hx => by
  rcases List.mem_or_eq_of_mem_set hx with hx | e
  · exact h x hx
  · subst e; exact h2
theorem one : (1 : Nat) ≤ sizeLine := by rw [sizeLine_eq]; decide
theorem app_at {S G : Sto} {n : Nat} {c : D} (h : S[n]? = some c) : (S ++ G)[n]? = some c := by rw [List.getElem?_append_left (List.getElem?_eq_some_iff.mp h).1]; exact h
/-! the table's changes -/
theorem filt_out : ∀ {ns : List Int} {rows : List (List Str)} {j : Int}, j ∉ ns → (mkR ns rows).filter (fun r => decide (r.1 ≠ j)) = mkR ns rows
  | [], _, _, _ => rfl
  | n :: ns, [], _, _ => rfl
  | n :: ns, r :: rows, j, h => by
    have ih := filt_out (rows := rows) (fun h2 => h (List.mem_cons_of_mem _ h2) : j ∉ ns)
    have hne : ¬ n = j := fun e => h (by rw [e]; exact List.mem_cons_self)
    unfold mkR at ih ⊢
    rw [List.zip_cons_cons, List.map_cons, List.filter_cons_of_pos (by simpa using hne), ih]
theorem filt_mk : ∀ {ns : List Int} {rows : List (List Str)} {j : Int}, ns.Nodup → ns.length = rows.length → j ∈ ns → (mkR ns rows).filter (fun r => decide (r.1 ≠ j)) = mkR (ns.eraseIdx (ns.idxOf j)) (rows.eraseIdx (ns.idxOf j))
  | n :: ns, [], _, _, h, _ => by simp at h
  | n :: ns, r0 :: rows, j, nd, hl, hj => by
    rw [List.nodup_cons] at nd
    by_cases e : n = j
    · subst e
      rw [List.idxOf_cons_self, List.eraseIdx_cons_zero, List.eraseIdx_cons_zero]
      have out := filt_out (rows := rows) nd.1
      unfold mkR at out ⊢
      rw [List.zip_cons_cons, List.map_cons, List.filter_cons_of_neg (by simp), out]
    · have hj2 : j ∈ ns := by
        rcases List.mem_cons.mp hj with h | h
        · exact absurd h.symm e
        · exact h
      have ih := filt_mk nd.2 (by simpa using hl : ns.length = rows.length) hj2
      rw [idxOf_ne e, List.eraseIdx_cons_succ, List.eraseIdx_cons_succ]
      unfold mkR at ih ⊢
      rw [List.zip_cons_cons, List.map_cons, List.filter_cons_of_pos (by simpa using e), ih, List.zip_cons_cons, List.map_cons]
def up {α : Type} (f : Nat → α) (j : Nat) (v : α) : Nat → α := fun k => if k = j then v else f k
theorem at_ne {S : Sto} {a k : Nat} {c d : D} (h : S[k]? = some d) (hne : a ≠ k) : (S.set a c)[k]? = some d := by rw [List.getElem?_set_ne hne]; exact h
/-- a side of the law at step i -/
structure Good (i : Nat) (ns : List Int) (rows : List (List Str)) (g : Int) : Prop where
  ok : StOk ns rows g
  l : rows.length ≤ 6 + i
  g0 : 0 ≤ g
  g1 : g ≤ 900 + i
theorem stok {ns : List Int} {rows : List (List Str)} {g : Int} (hl : ns.length = rows.length) (asc : ns.Pairwise (· < ·)) (top : ∀ n ∈ ns, 1 ≤ n ∧ n ≤ g) (r6 : ∀ r ∈ rows, Row6 r) (few : rows.length ≤ 100) : StOk ns rows g := by
  have nums := mkR_nums hl
  have lR := mkR_len hl
  refine ⟨hl, ⟨by rw [nums]; exact asc, fun r hr => top r.1 (by rw [← nums]; exact List.mem_map_of_mem (f := (·.1)) hr), fun r hr z hz => ?_, ?_, by omega⟩, r6, few⟩
  · unfold mkR at hr
    obtain ⟨⟨n, l⟩, hp, rfl⟩ := List.mem_map.mp hr
    exact (r6 l (List.of_mem_zip hp).2).lit z (litO_mem hz)
  · rw [mkR_flat hl]
    have : ∀ rows : List (List Str), (∀ r ∈ rows, Row6 r) → (rows.flatMap litO).length ≤ 6 * rows.length := fun rows => by
      induction rows with
      | nil => intro _; exact Nat.le_refl _
      | cons r rows ih =>
        intro h
        have h1 := (h r List.mem_cons_self)
        have h2 := ih fun x hx => h x (List.mem_cons_of_mem _ hx)
        have h3 := h1.litO
        have h4 := h1.len
        rw [List.flatMap_cons, List.length_append, List.length_cons]
        omega
    have := this rows r6
    omega
section
variable {ns : List Int} {rows : List (List Str)} {g j : Int} {r : List Str}
theorem StOk.asc (K : StOk ns rows g) : ns.Pairwise (· < ·) := by have := K.bk.asc; rw [mkR_nums K.len] at this; exact this
theorem StOk.top (K : StOk ns rows g) : ∀ n ∈ ns, 1 ≤ n ∧ n ≤ g := fun n hn => by
  have : n ∈ (mkR ns rows).map (·.1) := by rw [mkR_nums K.len]; exact hn
  obtain ⟨x, hx, rfl⟩ := List.mem_map.mp this
  exact K.bk.top x hx
theorem Good.more {i : Nat} (h : Good i ns rows g) : Good (i + 1) ns rows g := ⟨h.ok, by have := h.l; omega, h.g0, by have := h.g1; omega⟩
theorem Good.app {i : Nat} (h : Good i ns rows g) (hi : i < 90) (R : Row6 r) : Good (i + 1) (ns ++ [g + 1]) (rows ++ [r]) (g + 1) := by
  have l := h.l
  have g0 := h.g0
  refine ⟨stok (by rw [List.length_append, List.length_append, h.ok.len]; rfl) ?_ (fun n hn => ?_) (row6_snoc h.ok.r6 R) (by rw [List.length_append]; simp; omega), by rw [List.length_append]; simp; omega, by omega, by have := h.g1; omega⟩
  · rw [List.pairwise_append]
    refine ⟨h.ok.asc, List.pairwise_singleton _ _, fun a ha b hb => ?_⟩
    have e : b = g + 1 := by simpa using hb
    have := (h.ok.top a ha).2
    omega
  · rcases List.mem_append.mp hn with hn | hn
    · have := h.ok.top n hn
      omega
    · have e : n = g + 1 := by simpa using hn
      omega
theorem Good.drop {i k : Nat} (h : Good i ns rows g) (hk : k < ns.length) : Good (i + 1) (ns.eraseIdx k) (rows.eraseIdx k) g := by
  have hl := h.ok.len
  have l := h.l
  have f := h.ok.few
  have el : (rows.eraseIdx k).length = rows.length - 1 := List.length_eraseIdx_of_lt (by omega)
  refine ⟨stok (by rw [List.length_eraseIdx_of_lt hk, el, hl]) (h.ok.asc.sublist (List.eraseIdx_sublist _ _)) (fun n hn => h.ok.top n (List.mem_of_mem_eraseIdx hn)) (fun x hx => h.ok.r6 x (List.mem_of_mem_eraseIdx hx)) (by omega), by omega, h.g0, by have := h.g1; omega⟩
theorem Good.set {i k : Nat} (h : Good i ns rows g) (R : Row6 r) : Good (i + 1) ns (rows.set k r) g := by
  have l := h.l
  exact ⟨stok (by rw [List.length_set]; exact h.ok.len) h.ok.asc h.ok.top (row6_set h.ok.r6 R) (by rw [List.length_set]; exact h.ok.few), by rw [List.length_set]; omega, h.g0, by have := h.g1; omega⟩
end
theorem nms_le {l t : List Str} (h : ∀ z ∈ l, bare z ∈ t) : (nmsO l).length ≤ t.length := by
  have e : nmsO l = srt (t.filter fun x => decide (x ∈ l.map bare)) := by
    refine srt_congr fun x => ?_
    rw [List.mem_filter, decide_eq_true_eq]
    refine ⟨fun hx => ⟨?_, hx⟩, fun hx => hx.2⟩
    obtain ⟨z, hz, rfl⟩ := List.mem_map.mp hx
    exact h z hz
  rw [e]
  exact Nat.le_trans (srt_len _) (List.length_filter_le _ _)
theorem last_nums (R : List DRow) : lastD R = ((R.map (·.1)).getLast?).getD 0 := by
  unfold lastD
  rw [List.getLast?_map]
  cases R.getLast? <;> rfl
/-! StOk goes on -/
theorem StOk.app {ns : List Int} {rows : List (List Str)} {g : Int} {r : List Str} (K : StOk ns rows g) (h : rows.length < 100) (g0 : 0 ≤ g) (R : Row6 r) : StOk (ns ++ [g + 1]) (rows ++ [r]) (g + 1) := by
  refine stok (by rw [List.length_append, List.length_append, K.len]; rfl) ?_ (fun n hn => ?_) (row6_snoc K.r6 R) (by rw [List.length_append]; simp; omega)
  · rw [List.pairwise_append]
    refine ⟨K.asc, List.pairwise_singleton _ _, fun a ha b hb => ?_⟩
    have e : b = g + 1 := by simpa using hb
    have := (K.top a ha).2
    omega
  · rcases List.mem_append.mp hn with hn | hn
    · have := K.top n hn
      omega
    · have e : n = g + 1 := by simpa using hn
      omega
theorem StOk.drop {ns : List Int} {rows : List (List Str)} {g : Int} {k : Nat} (K : StOk ns rows g) (hk : k < ns.length) : StOk (ns.eraseIdx k) (rows.eraseIdx k) g := by
  have hl := K.len
  have f := K.few
  have el : (rows.eraseIdx k).length = rows.length - 1 := List.length_eraseIdx_of_lt (by omega)
  exact stok (by rw [List.length_eraseIdx_of_lt hk, el, hl]) (K.asc.sublist (List.eraseIdx_sublist _ _)) (fun n hn => K.top n (List.mem_of_mem_eraseIdx hn)) (fun x hx => K.r6 x (List.mem_of_mem_eraseIdx hx)) (by omega)
theorem StOk.put {ns : List Int} {rows : List (List Str)} {g : Int} {r : List Str} {k : Nat} (K : StOk ns rows g) (R : Row6 r) : StOk ns (rows.set k r) g :=
  stok (by rw [List.length_set]; exact K.len) K.asc K.top (row6_set K.r6 R) (by rw [List.length_set]; exact K.few)
theorem set_self {S : Sto} {n : Nat} {c : D} (h : S[n]? = some c) : S.set n c = S := by
  apply List.ext_getElem?
  intro i
  by_cases e : n = i
  · subst e
    rw [List.getElem?_set_self (List.getElem?_eq_some_iff.mp h).1, h]
  · rw [List.getElem?_set_ne e]
theorem cut_erase {α : Type} (l : List α) (k : Nat) : l.take k ++ l.drop (k + 1) = l.eraseIdx k := by rw [List.eraseIdx_eq_take_drop_succ]
theorem one_le : (1 : Nat) ≤ sizeLine := by rw [sizeLine_eq]; decide
theorem four_le : (4 : Nat) ≤ sizeLine := by rw [sizeLine_eq]; decide
/-! a source that went on, younger cells behind -/
theorem src_ne {S : Sto} {n k : Nat} {ds : List Str} (hs : IsSrc S n) (h : S[k]? = some (rowD ds)) : n ≠ k := fun e => by
  subst e
  obtain ⟨c, e1, cells, i, cur, cnt, mode, rfl, _⟩ := hs
  rw [e1] at h
  have h := Option.some.inj h
  injection h with h
  cases ds with
  | nil => cases h
  | cons z r => injection h with h1 _; cases h1
theorem rs_hd {S : Sto} {w : D} {c : D} (h : rs S w = c) (hc : c ≠ .non) : w = c ∨ ∃ k, w = .hdl k ∧ S[k]? = some c := by
  cases w <;> first
    | exact .inl h
    | (rename_i k
       have h : (S[k]?).getD .non = c := h
       cases e : S[k]? with
       | none => rw [e] at h; exact absurd h.symm hc
       | some d =>
         rw [e] at h
         have h : d = c := h
         subst h
         exact .inr ⟨k, rfl, e⟩)
theorem rs_row {S G : Sto} {n : Nat} {c w : D} {ts : List Str} (hs : IsSrc S n) (h : rs S w = rowD ts) : rs (S.set n c ++ G) w = rowD ts := by
  rcases rs_hd h (fun e => by cases e) with e | ⟨k, rfl, e⟩
  · subst e; rfl
  · exact rs_h (app_at (at_ne e (src_ne hs e)))
theorem rs_setR {S : Sto} {n : Nat} {c w : D} {ts : List Str} (hs : IsSrc S n) (h : rs S w = rowD ts) : rs (S.set n c) w = rowD ts := by
  have := rs_row (G := []) (c := c) hs h
  rwa [List.append_nil] at this
theorem atX {S G : Sto} {n : Nat} {c d : D} : (S.set n c ++ d :: G)[S.length]? = some d := by
  have := List.getElem?_append_right (l₁ := S.set n c) (l₂ := d :: G) (i := S.length) (by rw [List.length_set]; exact Nat.le_refl _)
  rw [this, List.length_set, Nat.sub_self]
  rfl
theorem setX {S G : Sto} {n : Nat} {c d e : D} : (S.set n c ++ d :: G).set S.length e = S.set n c ++ e :: G := by
  have h : S.length = (S.set n c).length := by rw [List.length_set]
  rw [h, List.set_append_right _ _ (Nat.le_refl _), Nat.sub_self]
  rfl
theorem srcX {S G : Sto} {n : Nat} {c c' : D} (h : n < S.length) : (S.set n c ++ G).set n c' = S.set n c' ++ G := by
  rw [List.set_append_left _ _ (by rw [List.length_set]; exact h), List.set_set]
theorem cutToA {l : List D} {n : Nat} : cutD l none (some (n : Int)) = l.take n := by
  unfold Dx.cutD
  rw [HT.sIx_none, HT.sIx_nat, List.drop_zero, Nat.sub_zero]
  by_cases h : n ≤ l.length
  · rw [Nat.min_eq_left h]
  · rw [Nat.min_eq_right (by omega), List.take_length, List.take_of_length_le (by omega)]
theorem cutFromA {l : List D} {n : Nat} : cutD l (some (n : Int)) none = l.drop n := by
  unfold Dx.cutD
  rw [HT.sIx_none, HT.sIx_nat]
  by_cases h : n ≤ l.length
  · rw [Nat.min_eq_left h, List.take_of_length_le (by rw [List.length_drop]; exact Nat.le_refl _)]
  · rw [Nat.min_eq_right (by omega), List.drop_length, List.drop_of_length_le (by omega), List.take_nil]
/-- a younger list leaves as a tree, the source went on -/
theorem rt_treeS {S G : Sto} {n k : Nat} {c : D} {Q : DQ} {ds : List D} (hn : n < S.length) (ic : IsSrcD c) (hk : S.length ≤ k) (e : (S.set n c ++ G)[k]? = some (.lst ds)) (lt : ltL S.length ds) (h : Q (.lst ds) (S.set n c)) : RtD S Q (.hdl k) (S.set n c ++ G) := ⟨_, _, .tree (kept_src hn ic) hk e lt, by rw [take_src]; exact h⟩
/-- a value leaves, the source went on -/
theorem rt_src {S G : Sto} {n : Nat} {c x : D} {Q : DQ} (hn : n < S.length) (ic : IsSrcD c) (lt : ltD S.length x) (h : Q x (S.set n c)) : RtD S Q x (S.set n c ++ G) := ⟨_, _, .val (kept_src hn ic) lt, by rw [take_src]; exact h⟩
theorem atI_neg {α : Type} {l : List α} {a : α} {i : Int} (k : Nat) (hi : i = -(k : Int)) (h1 : 1 ≤ k) (h2 : k ≤ l.length) (h : l[l.length - k]? = some a) : atI l i = some a := by
  subst hi
  unfold atI ixN
  rw [if_neg (by omega), if_pos (by omega)]
  show l[(-(k : Int) + (l.length : Int)).toNat]? = some a
  rw [show (-(k : Int) + (l.length : Int)).toNat = l.length - k by omega]
  exact h
theorem flip_le (z : Str) : (flip z).length ≤ z.length + 1 := by
  unfold flip
  split
  · have := cutS_len z (some 1) none; omega
  · rw [app_len]; show 1 + _ ≤ _; omega
theorem asc_nd {l : List Int} (h : l.Pairwise (· < ·)) : l.Nodup := h.imp fun h => by omega
/-! the rows of a book in a locked walk; rows over names -/
theorem getK_kv : ∀ {rows : List DRow} {j : Int}, getK (kvD rows) (.inl j) = (rowD? rows j).map fun r => clD r.2
  | [], _ => rfl
  | r :: rows, j => by
    have ih := getK_kv (rows := rows) (j := j)
    unfold getK kvD rowD? at ih ⊢
    rw [List.map_cons]
    by_cases h : r.1 = j
    · rw [List.find?_cons_of_pos (by simp [h]), List.find?_cons_of_pos (by simp [h])]
      rfl
    · rw [List.find?_cons_of_neg (by simp [h]), List.find?_cons_of_neg (by simp [h])]
      exact ih
def RowsIn (ns : List Str) (rows : List (List Str)) : Prop := ∀ r ∈ rows, Row6 r ∧ ∀ z ∈ r, bare z ∈ ns
theorem RowsIn.app {ns : List Str} {a b : List (List Str)} (h1 : RowsIn ns a) (h2 : RowsIn ns b) : RowsIn ns (a ++ b) := fun r hr => by
  rcases List.mem_append.mp hr with hr | hr
  · exact h1 r hr
  · exact h2 r hr
theorem RowsIn.one {ns r : List Str} (R : Row6 r) (h : ∀ z ∈ r, bare z ∈ ns) : RowsIn ns [r] := fun x hx => by
  rw [List.mem_singleton.mp hx]
  exact ⟨R, h⟩
/-! rows in order of names -/
/-! younger lists as trees -/
theorem rs_app {S G : Sto} {w c : D} (h : rs S w = c) (hc : c ≠ .non) : rs (S ++ G) w = c := by
  rcases rs_hd h hc with e | ⟨k, rfl, e⟩
  · subst e
    cases w <;> first | rfl | skip
    rename_i k
    have h : (S[k]?).getD .non = .hdl k := h
    cases e : S[k]? with
    | none => rw [e] at h; cases h
    | some d => exact rs_h (app_at e) |>.trans (by rw [e] at h; exact h)
  · exact rs_h (app_at e)
def pairsD (l : List (Int × Str)) : D := .lst (l.map fun p => .tup [.int p.1, .str p.2])
theorem lt_pairs {b : Nat} {l : List (Int × Str)} : ltL b (l.map fun p => .tup [.int p.1, .str p.2]) := ltL_map fun _ => lt_tup (lt_cons lt_int (lt_cons lt_str lt_nil))
theorem filt_snoc {l : List Str} {j : Nat} {o z : Str} {a : Int} (eo : l[j]? = some o) (ho : ¬ o = z) : ((l.take (j + 1)).filter fun o => decide (o ≠ z)).map (fun o => (a, flip o)) = ((l.take j).filter fun o => decide (o ≠ z)).map (fun o => (a, flip o)) ++ [(a, flip o)] := by
  rw [List.take_add_one, eo, List.filter_append, List.map_append]
  simp [ho]
theorem pairs_snoc {L F : List (Int × Str)} {a : Int} {o : Str} : D.lst (((L ++ F).map fun p => .tup [.int p.1, .str p.2]) ++ [.tup [.int a, .str o]]) = pairsD (L ++ (F ++ [(a, o)])) := by
  simp only [pairsD, List.map_append, List.map_cons, List.map_nil, List.append_assoc]
end Rd
namespace Rd
open PySem PySem.Spec PyProof.Rows L2 He Px Dx
/-- links: a literal, a number, a literal -/
abbrev Lk := Str × Int × Str
def lkD (l : Lk) : D := .tup [.str l.1, .int l.2.1, .str l.2.2]
def linkP (rows : List DRow) (l : Lk) : Bool := match rowD? rows l.2.1 with
  | some r => isLit l.2.2 && (decide (l.1 ∈ r.2) && (decide (flip l.2.2 ∈ r.2) && !decide (flip l.2.2 = l.1)))
  | none => false
def dsp_is_link : DSp := DSp4 fun x y w u S Q _ => ∃ (n m : Nat) (rows : List DRow) (g : Int) (l : Lk), x = .hdl n ∧ y = .str l.1 ∧ w = .int l.2.1 ∧ u = .str l.2.2 ∧ IsBD S n m rows g ∧ BDok rows g ∧ l.1.length ≤ 1000 ∧ l.2.2.length ≤ 1000 ∧ Q (.bl (linkP rows l)) S
abbrev sp_is_link (K : PySem.W.Frag) : Sp := lift K dsp_is_link
def N_is_link : List PySem.Str := ["book", "one", "number", "other", "literals"]
def t_is_link (K : PySem.W.Frag) (W : WX) : TS := (tCut (tIfS (tOr (tTest (tOp (rInP K true) (tVar 2) (Cl.tAtt [(ga K "Book", Cl.aFld "rows")] (tVar 0)))) (tNot (tB (tCallS (sp_is_literal K) (WE W) (tCons (tVar 3) tNil))))) (tRet (tC (.bl false))) tNext)
    (tSeq (tAsg (Cl.tAtt [(ga K "Clause", Cl.aFld "literals")] (tDGet (Cl.tAtt [(ga K "Book", Cl.aFld "rows")] (tVar 0)) (tVar 2))) (gName 4))
    (tRet (tAndV (tOp (rInP K false) (tVar 1) (tVar 4)) (tAndV (tOp (rInP K false) (tCallS (sp_negated K) (WE W) (tCons (tVar 3) tNil)) (tVar 4)) (tOp (rNeP K) (tCallS (sp_negated K) (WE W) (tCons (tVar 3) tNil)) (tVar 1)))))))
def d_is_link (WD : DW) : DS := (dCut (dIfS (dOr (dTest (dOp (dIn true) (dVar 2) (dAtt [("Book", .fld "rows")] (dVar 0)))) (dNot (dTest (dCall WD dsp_is_literal (dCons (dVar 3) dNil))))) (dRet (dC (.bl false))) dNext)
    (dSeq (dAsg (dAtt [("Clause", .fld "literals")] (dDGet (dAtt [("Book", .fld "rows")] (dVar 0)) (dVar 2))) (dgName 4))
    (dRet (dAndV (dOp (dIn false) (dVar 1) (dVar 4)) (dAndV (dOp (dIn false) (dCall WD dsp_negated (dCons (dVar 3) dNil)) (dVar 4)) (dOp dNe (dCall WD dsp_negated (dCons (dVar 3) dNil)) (dVar 1)))))))
theorem sim_is_link {K : PySem.W.Frag} (W : WX) (WD : DW) : SimS K W WD (t_is_link K W) (d_is_link WD) := by
  unfold t_is_link d_is_link
  exact (sim_cut (sim_ifS (sim_or (sim_test (sim_op op_in sim_var (sim_att (.cons (.fld "rows") .nil) sim_var))) (sim_not (sim_tB (sim_callS (fun _ _ _ _ h => ad_is_literal h) (sim_cons sim_var sim_nil))))) (sim_ret (sim_c fun _ _ => .bl _)) sim_next)
      (sim_seq (sim_asg (sim_att (.cons (.fld "literals") .nil) (sim_dget (sim_att (.cons (.fld "rows") .nil) sim_var) sim_var)) sim_gname)
      (sim_ret (sim_andV (sim_op op_in sim_var sim_var) (sim_andV (sim_op op_in (sim_callS (fun _ _ _ _ h => ad_negated h) (sim_cons sim_var sim_nil)) sim_var) (sim_op op_ne (sim_callS (fun _ _ _ _ h => ad_negated h) (sim_cons sim_var sim_nil)) sim_var))))))
theorem dpure_is_link {ds : List D} {S : Sto} {Q : DQ} {E : DX} (h : dsp_is_link ds S Q E) : d_is_link (ExD S E) { nx := fun _ S' => RtD S Q .non S', rt := RtD S Q, b := S.length } (startD N_is_link.length ds) S := by
  obtain ⟨x, y, w, u, rfl, n, m, rows, g, l, rfl, rfl, rfl, rfl, B, ok, l1, l2, hq⟩ := h
  show d_is_link _ _ [some (.hdl n), some (.str l.1), some (.int l.2.1), some (.str l.2.2), none] S
  unfold d_is_link
  have hk : (getK (kvD rows) (.inl l.2.1)) = (rowD? rows l.2.1).map fun r => clD r.2 := getK_kv
  unfold linkP at hq
  refine w_nocut ?_
  walk_at "dd"
  refine att_fld "rows" (by walk_at "mem") (rs_h B.1) rfl ?_
  refine .dint (rs_h B.2) ?_
  refine w_isb ?_
  rw [hk]
  cases e : rowD? rows l.2.1 with
  | none =>
    rw [e] at hq
    refine s_itT rfl ?_
    walk_at "dd"
    exact rt_same lt_bl hq
  | some r =>
    rw [e] at hq
    refine s_itF rfl ?_
    have hrm := List.mem_of_find?_eq_some e
    have few : r.2.length ≤ 900 := by
      have h1 := ok.few
      have h2 : r.2.length ≤ (rows.flatMap (·.2)).length := by
        have : r.2.Sublist (rows.flatMap (·.2)) := List.sublist_flatten_of_mem (List.mem_map_of_mem hrm)
        exact this.length_le
      omega
    walk_at "dd"
    refine ⟨_, rfl, l.2.2, rfl, by omega, ?_⟩
    walk_at "dd"
    have hq : Q (.bl (isLit l.2.2 && (decide (l.1 ∈ r.2) && (decide (flip l.2.2 ∈ r.2) && !decide (flip l.2.2 = l.1))))) S := hq
    cases el : isLit l.2.2 with
    | false =>
      rw [el] at hq
      refine s_itT rfl ?_
      walk_at "dd"
      exact rt_same lt_bl hq
    | true =>
      rw [el, Bool.true_and] at hq
      refine s_itF rfl ?_
      walk_at "dd"
      refine att_fld "rows" (by walk_at "mem") (rs_h B.1) rfl ?_
      walk_at "dd"
      refine ⟨false, kvD rows, .inl l.2.1, clD r.2, rs_h B.2, rfl, by rw [hk, e]; rfl, ?_⟩
      refine att_fld "literals" (by walk_at "mem") rfl rfl ?_
      walk_at "dd"
      refine .ss sq_t ?_
      cases e1 : decide (l.1 ∈ r.2) with
      | false =>
        rw [e1, Bool.false_and] at hq
        refine ⟨false, rfl, ?_⟩
        exact rt_same lt_bl hq
      | true =>
        rw [e1, Bool.true_and] at hq
        refine ⟨true, rfl, ?_⟩
        show if true = true then _ else _
        refine s_itT rfl ?_
        walk_at "dd"
        refine ⟨_, rfl, l.2.2, rfl, by omega, fun _ => ?_, fun h => (by rw [el] at h; cases h)⟩
        walk_at "dd"
        refine .ss sq_t ?_
        cases e2 : decide (flip l.2.2 ∈ r.2) with
        | false =>
          rw [e2, Bool.false_and] at hq
          refine ⟨false, rfl, ?_⟩
          exact rt_same lt_bl hq
        | true =>
          rw [e2, Bool.true_and] at hq
          refine ⟨true, rfl, ?_⟩
          show if true = true then _ else _
          refine s_itT rfl ?_
          walk_at "dd"
          refine ⟨_, rfl, l.2.2, rfl, by omega, fun _ => ?_, fun h => (by rw [el] at h; cases h)⟩
          walk_at "dd"
          exact rt_same lt_bl hq
theorem len_is_link {K : PySem.W.Frag} {vs : List V} {H : Hp} {Q : VK} {E : XK} (h : sp_is_link K vs H Q E) : vs.length = 4 := lift_len (fun _ _ _ _ h => DSp4.len h) h
theorem pure_is_link {K : PySem.W.Frag} {vs : List V} {H : Hp} {Q : VK} {E : XK} (h : sp_is_link K vs H Q E) : t_is_link K (fun cls d _ H => E cls d H) { nx := fun _ H' => Q .non H', rt := Q } (start N_is_link vs) H := lift_def (N := N_is_link) (fun W WD => sim_is_link W WD) (fun _ _ _ _ h => dpure_is_link h) _ _ _ _ h
def chP (rows : List DRow) (goal : Str) : Str → List Lk → Bool
  | place, [] => decide (place = goal)
  | place, l :: ls => decide (l.1 = place) && (linkP rows l && chP rows goal l.2.2 ls)
def dsp_is_chain : DSp := DSp4 fun x y w u S Q E => ∃ (n m : Nat) (rows : List DRow) (g : Int) (s goal : Str) (ls : List Lk), x = .hdl n ∧ y = .str s ∧ w = .str goal ∧ Sq S u (ls.map lkD) ∧ IsBD S n m rows g ∧ BDok rows g ∧ s.length ≤ 1000 ∧ goal.length ≤ 1000 ∧ ls.length ≤ 1000 ∧ (∀ l ∈ ls, l.1.length ≤ 1000 ∧ l.2.2.length ≤ 1000) ∧
  (isLit s = false → E "BadLiteral" [("text", .str s)] S) ∧ (isLit s = true → isLit goal = false → E "BadLiteral" [("text", .str goal)] S) ∧ (isLit s = true → isLit goal = true → Q (.bl (chP rows goal s ls)) S)
abbrev sp_is_chain (K : PySem.W.Frag) : Sp := lift K dsp_is_chain
def N_is_chain : List PySem.Str := ["book", "start", "goal", "links", "place", "one", "number", "other"]
def t_is_chain (K : PySem.W.Frag) (W : WX) : TS := (tSeq (tDrop (tCallS (sp_negated K) (WE W) (tCons (tVar 1) tNil)))
    (tSeq (tDrop (tCallS (sp_negated K) (WE W) (tCons (tVar 2) tNil)))
    (tSeq (tAsg (tVar 1) (gName 4))
    (tCut (tFor (iAnyP K (tVar 3)) (gTup K 3 (gCons (gName 5) (gCons (gName 6) (gCons (gName 7) gNil)))) (tCut (tIfS (tOr (tTest (tOp (rNeP K) (tVar 5) (tVar 4))) (tNot (tB (tCallS (sp_is_link K) (WE W) (tCons (tVar 0) (tCons (tVar 5) (tCons (tVar 6) (tCons (tVar 7) tNil)))))))) (tRet (tC (.bl false))) tNext)
    (tAsg (tVar 7) (gName 4))))
    (tRet (tOp (rEqP K) (tVar 4) (tVar 2)))))))
def d_is_chain (WD : DW) : DS := (dSeq (dDrop (dCall WD dsp_negated (dCons (dVar 1) dNil)))
    (dSeq (dDrop (dCall WD dsp_negated (dCons (dVar 2) dNil)))
    (dSeq (dAsg (dVar 1) (dgName 4))
    (dCut (dFor (dAny (dVar 3)) (dgTup 3 (dgCons (dgName 5) (dgCons (dgName 6) (dgCons (dgName 7) dgNil)))) (dCut (dIfS (dOr (dTest (dOp dNe (dVar 5) (dVar 4))) (dNot (dTest (dCall WD dsp_is_link (dCons (dVar 0) (dCons (dVar 5) (dCons (dVar 6) (dCons (dVar 7) dNil)))))))) (dRet (dC (.bl false))) dNext)
    (dAsg (dVar 7) (dgName 4))))
    (dRet (dOp dEq (dVar 4) (dVar 2)))))))
theorem sim_is_chain {K : PySem.W.Frag} (W : WX) (WD : DW) : SimS K W WD (t_is_chain K W) (d_is_chain WD) := by
  unfold t_is_chain d_is_chain
  exact (sim_seq (sim_drop (sim_callS (fun _ _ _ _ h => ad_negated h) (sim_cons sim_var sim_nil)))
      (sim_seq (sim_drop (sim_callS (fun _ _ _ _ h => ad_negated h) (sim_cons sim_var sim_nil)))
      (sim_seq (sim_asg sim_var sim_gname)
      (sim_cut (sim_for (sim_any sim_var) (sim_gtup (sim_gcons sim_gname (sim_gcons sim_gname (sim_gcons sim_gname sim_gnil)))) (sim_cut (sim_ifS (sim_or (sim_test (sim_op op_ne sim_var sim_var)) (sim_not (sim_tB (sim_callS (fun _ _ _ _ h => h) (sim_cons sim_var (sim_cons sim_var (sim_cons sim_var (sim_cons sim_var sim_nil)))))))) (sim_ret (sim_c fun _ _ => .bl _)) sim_next)
      (sim_asg sim_var sim_gname)))
      (sim_ret (sim_op op_eq sim_var sim_var))))))
theorem chP_at {rows : List DRow} {goal : Str} : ∀ {ls : List Lk} {i : Nat} {s p : Str} {l : Lk}, ls[i]? = some l → chP rows goal s ls = chP rows goal p (ls.drop i) → chP rows goal s ls = (decide (l.1 = p) && (linkP rows l && chP rows goal l.2.2 (ls.drop (i + 1)))) := fun {ls i s p l} h e => by
  have hi := (List.getElem?_eq_some_iff.mp h)
  rw [e, List.drop_eq_getElem_cons hi.1, hi.2]
  rfl
theorem dpure_is_chain {ds : List D} {S : Sto} {Q : DQ} {E : DX} (h : dsp_is_chain ds S Q E) : d_is_chain (ExD S E) { nx := fun _ S' => RtD S Q .non S', rt := RtD S Q, b := S.length } (startD N_is_chain.length ds) S := by
  obtain ⟨x, y, w, u, rfl, n, m, rows, g, s, goal, ls, rfl, rfl, rfl, eu, B, ok, l1, l2, ll, lz, e1, e2, hq⟩ := h
  show d_is_chain _ _ [some (.hdl n), some (.str s), some (.str goal), some u, none, none, none, none] S
  unfold d_is_chain
  walk_at "dd"
  refine ⟨_, rfl, s, rfl, by omega, fun hs => ?_, fun hs => ex_same lt_str (e1 hs)⟩
  walk_at "dd"
  refine ⟨_, rfl, goal, rfl, by omega, fun hg => ?_, fun hg => ex_same lt_str (e2 hs hg)⟩
  have hq := hq hs hg
  walk_at "dd"
  refine w_cut (fun ρ' S' => ∃ (p : Str) (v5 v6 v7 : Option D), ρ' = [some (.hdl n), some (.str s), some (.str goal), some u, some (.str p), v5, v6, v7] ∧ S = S' ∧ chP rows goal s ls = decide (p = goal)) ?_ ?_
  · walk_at "dd"
    refine .seq (ds := ls.map lkD) eu ?_
    refine ⟨fun i ρ' S' => ∃ (p : Str) (v5 v6 v7 : Option D), ρ' = [some (.hdl n), some (.str s), some (.str goal), some u, some (.str p), v5, v6, v7] ∧ S = S' ∧ chP rows goal s ls = chP rows goal p (ls.drop i), ⟨s, none, none, none, rfl, rfl, rfl⟩, fun i ρ' S' _ p => by obtain ⟨_, _, _, _, _, rfl, _⟩ := p; exact eu, ?_, ?_⟩
    · rintro i d ρ' S' hd ⟨p, v5, v6, v7, rfl, rfl, hc⟩
      have hd : (ls.map lkD)[i]? = some d := hd
      rw [List.getElem?_map] at hd
      cases el : ls[i]? with
      | none => rw [el] at hd; cases hd
      | some l =>
        rw [el] at hd
        cases hd
        obtain ⟨z1, z2⟩ := lz l (List.mem_of_getElem? el)
        have key := chP_at el hc
        refine ⟨_, rfl, rfl, ?_⟩
        walk_at "dd"
        refine w_cut (fun ρ' S' => ρ' = [some (.hdl n), some (.str s), some (.str goal), some u, some (.str p), some (.str l.1), some (.int l.2.1), some (.str l.2.2)] ∧ S = S' ∧ chP rows goal s ls = chP rows goal l.2.2 (ls.drop (i + 1))) ?_ ?_
        rotate_left
        · rintro ρ' S' ⟨rfl, rfl, hk⟩
          walk_at "dd"
          exact ⟨_, _, _, _, rfl, rfl, hk⟩
        walk_at "dd"
        by_cases h1 : l.1 = p
        · refine s_itF (by rw [decide_eq_true h1]; rfl) ?_
          walk_at "dd"
          refine ⟨_, _, _, _, rfl, n, m, rows, g, l, rfl, rfl, rfl, rfl, B, ok, z1, z2, ?_⟩
          walk_at "dd"
          rw [decide_eq_true h1, Bool.true_and] at key
          cases e : linkP rows l with
          | true =>
            rw [e, Bool.true_and] at key
            refine s_itF rfl ?_
            walk_at "dd"
            exact ⟨rfl, rfl, key⟩
          | false =>
            rw [e, Bool.false_and] at key
            refine s_itT rfl ?_
            walk_at "dd"
            rw [key] at hq
            exact rt_same lt_bl hq
        · refine s_itT (by rw [decide_eq_false h1]; rfl) ?_
          walk_at "dd"
          rw [decide_eq_false h1, Bool.false_and] at key
          rw [key] at hq
          exact rt_same lt_bl hq
    · rintro ρ' S' ⟨p, v5, v6, v7, rfl, rfl, hc⟩
      refine ⟨p, v5, v6, v7, rfl, rfl, ?_⟩
      have hc : chP rows goal s ls = chP rows goal p (ls.drop (ls.map lkD).length) := hc
      rw [List.length_map, List.drop_length] at hc
      exact hc
  rintro ρ' S' ⟨p, v5, v6, v7, rfl, rfl, hc⟩
  rw [hc] at hq
  walk_at "dd"
  exact rt_same lt_bl hq
theorem len_is_chain {K : PySem.W.Frag} {vs : List V} {H : Hp} {Q : VK} {E : XK} (h : sp_is_chain K vs H Q E) : vs.length = 4 := lift_len (fun _ _ _ _ h => DSp4.len h) h
theorem pure_is_chain {K : PySem.W.Frag} {vs : List V} {H : Hp} {Q : VK} {E : XK} (h : sp_is_chain K vs H Q E) : t_is_chain K (fun cls d _ H => E cls d H) { nx := fun _ H' => Q .non H', rt := Q } (start N_is_chain vs) H := lift_def (N := N_is_chain) (fun W WD => sim_is_chain W WD) (fun _ _ _ _ h => dpure_is_chain h) _ _ _ _ h
def linkR (rows : List DRow) (l : Lk) : Bool := match rowD? rows l.2.1 with
  | some r => decide (l.1 ∈ r.2) && (decide (flip l.2.2 ∈ r.2) && !decide (l.1 = flip l.2.2))
  | none => false
def dsp_law_is_link : DSp := DSp3 fun x y w S Q _ => ∃ (ns : List Int) (rows : List (List Str)) (l : Lk), rs S x = .lst (ns.map .int) ∧ rs S y = rowsD rows ∧ w = lkD l ∧ ns.length = rows.length ∧ ns.Nodup ∧ rows.length ≤ 100 ∧ (∀ r ∈ rows, Row6 r) ∧ l.1.length ≤ 1000 ∧ l.2.2.length ≤ 1000 ∧ Q (.bl (linkR (mkR ns rows) l)) S
abbrev sp_law_is_link (K : PySem.W.Frag) : Sp := lift K dsp_law_is_link
def N_law_is_link : List PySem.Str := ["_law_numbers_here", "_law_rows", "_law_link", "_law_row_here"]
def t_law_is_link (K : PySem.W.Frag) (W : WX) : TS := (tCut (tIfS (tOr (tNot (tB (tCB (rIsi K) (tCons (tVar 2) (tCons (tC (.ty "tuple")) tNil))))) (tOr (tTest (tOp (rNeP K) (tCB (rLenP K) (tCons (tVar 2) tNil)) (tC (.int 3)))) (tB (tCB (rIsi K) (tCons (tOp (rIxP K) (tVar 2) (tC (.int 1))) (tCons (tC (.ty "bool")) tNil)))))) (tRet (tC (.bl false))) tNext)
    (tCut (tIfS (tOr (tNot (tB (tCB (rIsi K) (tCons (tOp (rIxP K) (tVar 2) (tC (.int 0))) (tCons (tC (.ty "str")) tNil))))) (tOr (tNot (tB (tCB (rIsi K) (tCons (tOp (rIxP K) (tVar 2) (tC (.int 2))) (tCons (tC (.ty "str")) tNil))))) (tOr (tNot (tB (tCB (rIsi K) (tCons (tOp (rIxP K) (tVar 2) (tC (.int 1))) (tCons (tC (.ty "int")) tNil))))) (tTest (tOp (rInP K true) (tOp (rIxP K) (tVar 2) (tC (.int 1))) (tVar 0)))))) (tRet (tC (.bl false))) tNext)
    (tSeq (tAsg (tOp (rIxP K) (tVar 1) (tBM K "list" (rIndex K) (tVar 0) (tCons (tOp (rIxP K) (tVar 2) (tC (.int 1))) tNil))) (gName 3))
    (tRet (tAndV (tOp (rInP K false) (tOp (rIxP K) (tVar 2) (tC (.int 0))) (tVar 3)) (tAndV (tOp (rInP K false) (tCallS (sp_law_flip K) (WE W) (tCons (tOp (rIxP K) (tVar 2) (tC (.int 2))) tNil)) (tVar 3)) (tOp (rNeP K) (tOp (rIxP K) (tVar 2) (tC (.int 0))) (tCallS (sp_law_flip K) (WE W) (tCons (tOp (rIxP K) (tVar 2) (tC (.int 2))) tNil)))))))))
def d_law_is_link (WD : DW) : DS := (dCut (dIfS (dOr (dNot (dTest (dIsT "tuple" (dVar 2)))) (dOr (dTest (dOp dNe (dCB dLen (dCons (dVar 2) dNil)) (dC (.int 3)))) (dTest (dIsT "bool" (dOp dIx (dVar 2) (dC (.int 1))))))) (dRet (dC (.bl false))) dNext)
    (dCut (dIfS (dOr (dNot (dTest (dIsT "str" (dOp dIx (dVar 2) (dC (.int 0)))))) (dOr (dNot (dTest (dIsT "str" (dOp dIx (dVar 2) (dC (.int 2)))))) (dOr (dNot (dTest (dIsT "int" (dOp dIx (dVar 2) (dC (.int 1)))))) (dTest (dOp (dIn true) (dOp dIx (dVar 2) (dC (.int 1))) (dVar 0)))))) (dRet (dC (.bl false))) dNext)
    (dSeq (dAsg (dOp dIx (dVar 1) (dIndex (dVar 0) (dCons (dOp dIx (dVar 2) (dC (.int 1))) dNil))) (dgName 3))
    (dRet (dAndV (dOp (dIn false) (dOp dIx (dVar 2) (dC (.int 0))) (dVar 3)) (dAndV (dOp (dIn false) (dCall WD dsp_law_flip (dCons (dOp dIx (dVar 2) (dC (.int 2))) dNil)) (dVar 3)) (dOp dNe (dOp dIx (dVar 2) (dC (.int 0))) (dCall WD dsp_law_flip (dCons (dOp dIx (dVar 2) (dC (.int 2))) dNil)))))))))
theorem sim_law_is_link {K : PySem.W.Frag} (W : WX) (WD : DW) : SimS K W WD (t_law_is_link K W) (d_law_is_link WD) := by
  unfold t_law_is_link d_law_is_link
  exact (sim_cut (sim_ifS (sim_or (sim_not (sim_tB (sim_isT sim_var))) (sim_or (sim_test (sim_op op_ne (sim_cb cb_len (sim_cons sim_var sim_nil)) (sim_c fun _ _ => .int _))) (sim_tB (sim_isT (sim_op op_ix sim_var (sim_c fun _ _ => .int _)))))) (sim_ret (sim_c fun _ _ => .bl _)) sim_next)
      (sim_cut (sim_ifS (sim_or (sim_not (sim_tB (sim_isT (sim_op op_ix sim_var (sim_c fun _ _ => .int _))))) (sim_or (sim_not (sim_tB (sim_isT (sim_op op_ix sim_var (sim_c fun _ _ => .int _))))) (sim_or (sim_not (sim_tB (sim_isT (sim_op op_ix sim_var (sim_c fun _ _ => .int _))))) (sim_test (sim_op op_in (sim_op op_ix sim_var (sim_c fun _ _ => .int _)) sim_var))))) (sim_ret (sim_c fun _ _ => .bl _)) sim_next)
      (sim_seq (sim_asg (sim_op op_ix sim_var (sim_index sim_var (sim_cons (sim_op op_ix sim_var (sim_c fun _ _ => .int _)) sim_nil))) sim_gname)
      (sim_ret (sim_andV (sim_op op_in (sim_op op_ix sim_var (sim_c fun _ _ => .int _)) sim_var) (sim_andV (sim_op op_in (sim_callS (fun _ _ _ _ h => ad_law_flip h) (sim_cons (sim_op op_ix sim_var (sim_c fun _ _ => .int _)) sim_nil)) sim_var) (sim_op op_ne (sim_op op_ix sim_var (sim_c fun _ _ => .int _)) (sim_callS (fun _ _ _ _ h => ad_law_flip h) (sim_cons (sim_op op_ix sim_var (sim_c fun _ _ => .int _)) sim_nil)))))))))
theorem rowD_no {ns : List Int} {rows : List (List Str)} {j : Int} (hl : ns.length = rows.length) (h : j ∉ ns) : rowD? (mkR ns rows) j = none := by
  unfold rowD?
  refine List.find?_eq_none.mpr fun r hr => ?_
  have : r.1 ∈ (mkR ns rows).map (·.1) := List.mem_map_of_mem hr
  rw [mkR_nums hl] at this
  intro e
  exact h (by rw [← of_decide_eq_true e]; exact this)
theorem dpure_law_is_link {ds : List D} {S : Sto} {Q : DQ} {E : DX} (h : dsp_law_is_link ds S Q E) : d_law_is_link (ExD S E) { nx := fun _ S' => RtD S Q .non S', rt := RtD S Q, b := S.length } (startD N_law_is_link.length ds) S := by
  obtain ⟨x, y, w, rfl, ns, rows, l, ex, ey, rfl, hl, nd, few, h6, l1, l2, hq⟩ := h
  show d_law_is_link _ _ [some x, some y, some (lkD l), none] S
  unfold d_law_is_link
  unfold linkR at hq
  refine w_nocut ?_
  walk_at "dd"
  refine w_isT ?_
  walk_at "dd"
  refine ⟨"tuple", true, rfl, by decide +kernel, ?_⟩
  walk_at "dd"
  refine s_itF rfl ?_
  walk_at "dd"
  refine w_len (ds := [D.str l.1, .int l.2.1, .str l.2.2]) sq_t ?_
  walk_at "dd"
  refine s_itF rfl ?_
  walk_at "dd"
  refine w_isT ?_
  walk_at "dd"
  refine w_ix (y := .int l.2.1) sq_t rfl ?_
  refine ⟨"int", false, rfl, by decide +kernel, ?_⟩
  walk_at "dd"
  refine s_itF rfl ?_
  walk_at "dd"
  refine w_nocut ?_
  walk_at "dd"
  refine w_isT ?_
  walk_at "dd"
  refine w_ix (y := .str l.1) sq_t rfl ?_
  refine ⟨"str", true, rfl, by decide +kernel, ?_⟩
  walk_at "dd"
  refine s_itF rfl ?_
  walk_at "dd"
  refine w_isT ?_
  walk_at "dd"
  refine w_ix (y := .str l.2.2) sq_t rfl ?_
  refine ⟨"str", true, rfl, by decide +kernel, ?_⟩
  walk_at "dd"
  refine s_itF rfl ?_
  walk_at "dd"
  refine w_isT ?_
  walk_at "dd"
  refine w_ix (y := .int l.2.1) sq_t rfl ?_
  refine ⟨"int", true, rfl, by decide +kernel, ?_⟩
  walk_at "dd"
  refine s_itF rfl ?_
  walk_at "dd"
  refine w_ix (y := .int l.2.1) sq_t rfl ?_
  walk_at "dd"
  refine .is (.inl ex) ?_
  refine w_isb ?_
  by_cases hm : l.2.1 ∈ ns
  · refine s_itF (by rw [decide_eq_true hm]; rfl) ?_
    obtain ⟨h1, h2⟩ := idx_at hm
    have il := idx_lt hm
    obtain ⟨r, hr⟩ : ∃ r, rows[ns.idxOf l.2.1]? = some r := ⟨_, List.getElem?_eq_getElem (by omega)⟩
    have R := h6 r (List.mem_of_getElem? hr)
    have mem : ∀ z, z ∈ litO r ↔ z ∈ r := fun z => R.mem
    have hrow := rowD_mk nd h1 hr
    rw [hrow] at hq
    have hq : Q (.bl (decide (l.1 ∈ litO r) && (decide (flip l.2.2 ∈ litO r) && !decide (l.1 = flip l.2.2)))) S := hq
    rw [show decide (l.1 ∈ litO r) = decide (l.1 ∈ r) by rw [Bool.eq_iff_iff]; simp [mem], show decide (flip l.2.2 ∈ litO r) = decide (flip l.2.2 ∈ r) by rw [Bool.eq_iff_iff]; simp [mem]] at hq
    walk_at "dd"
    refine ⟨⟨_, ex⟩, ?_⟩
    walk_at "dd"
    refine w_ix (y := .int l.2.1) sq_t rfl ?_
    refine ⟨l.2.1, ns, ns.idxOf l.2.1, rfl, ex, h1, h2, ?_⟩
    refine w_ix (y := rowD r) (.inl ey) (atI_nat (by rw [List.getElem?_map, hr]; rfl)) ?_
    walk_at "dd"
    refine w_ix (y := .str l.1) sq_t rfl ?_
    walk_at "dd"
    refine .ss (.inl rfl) ?_
    cases e1 : decide (l.1 ∈ r) with
    | false =>
      rw [e1, Bool.false_and] at hq
      exact ⟨false, rfl, rt_same lt_bl hq⟩
    | true =>
      rw [e1, Bool.true_and] at hq
      refine ⟨true, rfl, ?_⟩
      show if true = true then _ else _
      refine s_itT rfl ?_
      walk_at "dd"
      refine w_ix (y := .str l.2.2) sq_t rfl ?_
      refine ⟨_, rfl, l.2.2, rfl, by omega, ?_⟩
      walk_at "dd"
      refine .ss (.inl rfl) ?_
      cases e2 : decide (flip l.2.2 ∈ r) with
      | false =>
        rw [e2, Bool.false_and] at hq
        exact ⟨false, rfl, rt_same lt_bl hq⟩
      | true =>
        rw [e2, Bool.true_and] at hq
        refine ⟨true, rfl, ?_⟩
        show if true = true then _ else _
        refine s_itT rfl ?_
        walk_at "dd"
        refine w_ix (y := .str l.1) sq_t rfl ?_
        walk_at "dd"
        refine w_ix (y := .str l.2.2) sq_t rfl ?_
        refine ⟨_, rfl, l.2.2, rfl, by omega, ?_⟩
        walk_at "dd"
        exact rt_same lt_bl hq
  · refine s_itT (by rw [decide_eq_false hm]; rfl) ?_
    walk_at "dd"
    rw [rowD_no hl hm] at hq
    exact rt_same lt_bl hq
theorem len_law_is_link {K : PySem.W.Frag} {vs : List V} {H : Hp} {Q : VK} {E : XK} (h : sp_law_is_link K vs H Q E) : vs.length = 3 := lift_len (fun _ _ _ _ h => DSp3.len h) h
theorem pure_law_is_link {K : PySem.W.Frag} {vs : List V} {H : Hp} {Q : VK} {E : XK} (h : sp_law_is_link K vs H Q E) : t_law_is_link K (fun cls d _ H => E cls d H) { nx := fun _ H' => Q .non H', rt := Q } (start N_law_is_link vs) H := lift_def (N := N_law_is_link) (fun W WD => sim_law_is_link W WD) (fun _ _ _ _ h => dpure_law_is_link h) _ _ _ _ h
def chR (rows : List DRow) (goal : Str) : Str → List Lk → Bool
  | place, [] => decide (place = goal)
  | place, l :: ls => linkR rows l && (decide (l.1 = place) && chR rows goal l.2.2 ls)
def lksD (ls : List Lk) : D := .lst (ls.map lkD)
def dsp_law_is_chain : DSp := DSp5 fun x y w u v S Q _ => ∃ (ns : List Int) (rows : List (List Str)) (s goal : Str) (ls : List Lk), rs S x = .lst (ns.map .int) ∧ rs S y = rowsD rows ∧ w = .str s ∧ u = .str goal ∧ rs S v = lksD ls ∧ ns.length = rows.length ∧ ns.Nodup ∧ rows.length ≤ 100 ∧ (∀ r ∈ rows, Row6 r) ∧ ls.length ≤ 1000 ∧ (∀ l ∈ ls, l.1.length ≤ 1000 ∧ l.2.2.length ≤ 1000) ∧ Q (.bl (chR (mkR ns rows) goal s ls)) S
abbrev sp_law_is_chain (K : PySem.W.Frag) : Sp := lift K dsp_law_is_chain
def N_law_is_chain : List PySem.Str := ["_law_numbers_here", "_law_rows", "_law_start_here", "_law_goal", "_law_links", "_law_place", "_law_link"]
def t_law_is_chain (K : PySem.W.Frag) (W : WX) : TS := (tSeq (tAsg (tVar 2) (gName 5))
    (tCut (tFor (iAnyP K (tVar 4)) (gName 6) (tCut (tIfS (tOr (tNot (tB (tCallS (sp_law_is_link K) (WE W) (tCons (tVar 0) (tCons (tVar 1) (tCons (tVar 6) tNil)))))) (tTest (tOp (rNeP K) (tOp (rIxP K) (tVar 6) (tC (.int 0))) (tVar 5)))) (tRet (tC (.bl false))) tNext)
    (tAsg (tOp (rIxP K) (tVar 6) (tC (.int 2))) (gName 5))))
    (tRet (tOp (rEqP K) (tVar 5) (tVar 3)))))
def d_law_is_chain (WD : DW) : DS := (dSeq (dAsg (dVar 2) (dgName 5))
    (dCut (dFor (dAny (dVar 4)) (dgName 6) (dCut (dIfS (dOr (dNot (dTest (dCall WD dsp_law_is_link (dCons (dVar 0) (dCons (dVar 1) (dCons (dVar 6) dNil)))))) (dTest (dOp dNe (dOp dIx (dVar 6) (dC (.int 0))) (dVar 5)))) (dRet (dC (.bl false))) dNext)
    (dAsg (dOp dIx (dVar 6) (dC (.int 2))) (dgName 5))))
    (dRet (dOp dEq (dVar 5) (dVar 3)))))
theorem sim_law_is_chain {K : PySem.W.Frag} (W : WX) (WD : DW) : SimS K W WD (t_law_is_chain K W) (d_law_is_chain WD) := by
  unfold t_law_is_chain d_law_is_chain
  exact (sim_seq (sim_asg sim_var sim_gname)
      (sim_cut (sim_for (sim_any sim_var) sim_gname (sim_cut (sim_ifS (sim_or (sim_not (sim_tB (sim_callS (fun _ _ _ _ h => h) (sim_cons sim_var (sim_cons sim_var (sim_cons sim_var sim_nil)))))) (sim_test (sim_op op_ne (sim_op op_ix sim_var (sim_c fun _ _ => .int _)) sim_var))) (sim_ret (sim_c fun _ _ => .bl _)) sim_next)
      (sim_asg (sim_op op_ix sim_var (sim_c fun _ _ => .int _)) sim_gname)))
      (sim_ret (sim_op op_eq sim_var sim_var))))
theorem lt_lk {b : Nat} {l : Lk} : ltD b (lkD l) := lt_tup (lt_cons lt_str (lt_cons lt_int (lt_cons lt_str lt_nil)))
theorem lt_lks {b : Nat} {ls : List Lk} : ltD b (lksD ls) := lt_lst (ltL_map fun _ => lt_lk)
theorem chR_at {rows : List DRow} {goal : Str} {ls : List Lk} {i : Nat} {s p : Str} {l : Lk} (h : ls[i]? = some l) (e : chR rows goal s ls = chR rows goal p (ls.drop i)) : chR rows goal s ls = (linkR rows l && (decide (l.1 = p) && chR rows goal l.2.2 (ls.drop (i + 1)))) := by
  have hi := (List.getElem?_eq_some_iff.mp h)
  rw [e, List.drop_eq_getElem_cons hi.1, hi.2]
  rfl
/-- the law's look and the program's agree where the goal is a literal -/
theorem link_lit {rows : List DRow} (lit : ∀ r ∈ rows, ∀ z ∈ r.2, isLit z = true) {l : Lk} (h : linkR rows l = true) : isLit l.1 = true := by
  unfold linkR at h
  cases e : rowD? rows l.2.1 with
  | none => rw [e] at h; cases h
  | some r =>
    rw [e] at h
    have h : (decide (l.1 ∈ r.2) && (decide (flip l.2.2 ∈ r.2) && !decide (l.1 = flip l.2.2))) = true := h
    rw [Bool.and_eq_true] at h
    exact lit r (List.mem_of_find?_eq_some e) _ (of_decide_eq_true h.1)
theorem link_eq {rows : List DRow} {l : Lk} (h : isLit l.2.2 = true) : linkR rows l = linkP rows l := by
  unfold linkR linkP
  cases rowD? rows l.2.1 with
  | none => rfl
  | some r =>
    show _ = (isLit l.2.2 && _)
    rw [h, Bool.true_and]
    rw [show decide (flip l.2.2 = l.1) = decide (l.1 = flip l.2.2) from decide_eq_decide.mpr ⟨Eq.symm, Eq.symm⟩]
theorem chR_eq {rows : List DRow} (lit : ∀ r ∈ rows, ∀ z ∈ r.2, isLit z = true) {goal : Str} (hg : isLit goal = true) : ∀ (ls : List Lk) (p : Str), chR rows goal p ls = chP rows goal p ls
  | [], _ => rfl
  | l :: ls, p => by
    have ih := chR_eq lit hg ls l.2.2
    show (linkR rows l && (decide (l.1 = p) && chR rows goal l.2.2 ls)) = (decide (l.1 = p) && (linkP rows l && chP rows goal l.2.2 ls))
    cases hl : isLit l.2.2 with
    | true =>
      rw [link_eq hl, ih]
      cases linkP rows l <;> cases decide (l.1 = p) <;> rfl
    | false =>
      have e1 : linkP rows l = false := by
        unfold linkP
        cases rowD? rows l.2.1 with
        | none => rfl
        | some r => show (isLit l.2.2 && _) = false; rw [hl]; rfl
      have e2 : chR rows goal l.2.2 ls = false := by
        cases ls with
        | nil =>
          refine decide_eq_false fun e => ?_
          rw [e, hg] at hl
          cases hl
        | cons k ls =>
          show (linkR rows k && (decide (k.1 = l.2.2) && _)) = false
          cases hk : linkR rows k with
          | false => rfl
          | true =>
            have := link_lit lit hk
            rw [decide_eq_false fun e => by rw [e, hl] at this; cases this]
            rfl
      rw [e1, e2]
      cases linkR rows l <;> cases decide (l.1 = p) <;> rfl
theorem dpure_law_is_chain {ds : List D} {S : Sto} {Q : DQ} {E : DX} (h : dsp_law_is_chain ds S Q E) : d_law_is_chain (ExD S E) { nx := fun _ S' => RtD S Q .non S', rt := RtD S Q, b := S.length } (startD N_law_is_chain.length ds) S := by
  obtain ⟨x, y, w, u, v, rfl, ns, rows, s, goal, ls, ex, ey, rfl, rfl, ev, hl, nd, few, h6, ll, lz, hq⟩ := h
  show d_law_is_chain _ _ [some x, some y, some (.str s), some (.str goal), some v, none, none] S
  unfold d_law_is_chain
  walk_at "dd"
  refine w_cut (fun ρ' S' => ∃ (p : Str) (v6 : Option D), ρ' = [some x, some y, some (.str s), some (.str goal), some v, some (.str p), v6] ∧ S = S' ∧ chR (mkR ns rows) goal s ls = decide (p = goal)) ?_ ?_
  · walk_at "dd"
    refine .seq (ds := ls.map lkD) (.inl ev) ?_
    refine ⟨fun i ρ' S' => ∃ (p : Str) (v6 : Option D), ρ' = [some x, some y, some (.str s), some (.str goal), some v, some (.str p), v6] ∧ S = S' ∧ chR (mkR ns rows) goal s ls = chR (mkR ns rows) goal p (ls.drop i), ⟨s, none, rfl, rfl, rfl⟩, fun i ρ' S' _ p => by obtain ⟨_, _, _, rfl, _⟩ := p; exact .inl ev, ?_, ?_⟩
    · rintro i d ρ' S' hd ⟨p, v6, rfl, rfl, hc⟩
      have hd : (ls.map lkD)[i]? = some d := hd
      rw [List.getElem?_map] at hd
      cases el : ls[i]? with
      | none => rw [el] at hd; cases hd
      | some l =>
        rw [el] at hd
        cases hd
        obtain ⟨z1, z2⟩ := lz l (List.mem_of_getElem? el)
        have key := chR_at el hc
        walk_at "dd"
        refine w_cut (fun ρ' S' => ρ' = [some x, some y, some (.str s), some (.str goal), some v, some (.str p), some (lkD l)] ∧ S = S' ∧ chR (mkR ns rows) goal s ls = chR (mkR ns rows) goal l.2.2 (ls.drop (i + 1))) ?_ ?_
        rotate_left
        · rintro ρ' S' ⟨rfl, rfl, hk⟩
          walk_at "dd"
          refine w_ix (y := .str l.2.2) sq_t rfl ?_
          exact ⟨_, _, rfl, rfl, hk⟩
        walk_at "dd"
        refine ⟨_, _, _, rfl, ns, rows, l, ex, ey, rfl, hl, nd, few, h6, z1, z2, ?_⟩
        walk_at "dd"
        cases e : linkR (mkR ns rows) l with
        | false =>
          rw [e, Bool.false_and] at key
          refine s_itT rfl ?_
          walk_at "dd"
          rw [key] at hq
          exact rt_same lt_bl hq
        | true =>
          rw [e, Bool.true_and] at key
          refine s_itF rfl ?_
          walk_at "dd"
          refine w_ix (y := .str l.1) sq_t rfl ?_
          walk_at "dd"
          by_cases h1 : l.1 = p
          · rw [decide_eq_true h1, Bool.true_and] at key
            refine s_itF (by rw [decide_eq_true h1]; rfl) ?_
            walk_at "dd"
            exact ⟨rfl, rfl, key⟩
          · rw [decide_eq_false h1, Bool.false_and] at key
            refine s_itT (by rw [decide_eq_false h1]; rfl) ?_
            walk_at "dd"
            rw [key] at hq
            exact rt_same lt_bl hq
    · rintro ρ' S' ⟨p, v6, rfl, rfl, hc⟩
      refine ⟨p, v6, rfl, rfl, ?_⟩
      have hc : chR (mkR ns rows) goal s ls = chR (mkR ns rows) goal p (ls.drop (ls.map lkD).length) := hc
      rw [List.length_map, List.drop_length] at hc
      exact hc
  rintro ρ' S' ⟨p, v6, rfl, rfl, hc⟩
  rw [hc] at hq
  walk_at "dd"
  exact rt_same lt_bl hq
theorem len_law_is_chain {K : PySem.W.Frag} {vs : List V} {H : Hp} {Q : VK} {E : XK} (h : sp_law_is_chain K vs H Q E) : vs.length = 5 := lift_len (fun _ _ _ _ h => DSp5.len h) h
theorem pure_law_is_chain {K : PySem.W.Frag} {vs : List V} {H : Hp} {Q : VK} {E : XK} (h : sp_law_is_chain K vs H Q E) : t_law_is_chain K (fun cls d _ H => E cls d H) { nx := fun _ H' => Q .non H', rt := Q } (start N_law_is_chain vs) H := lift_def (N := N_law_is_chain) (fun W WD => sim_law_is_chain W WD) (fun _ _ _ _ h => dpure_law_is_chain h) _ _ _ _ h
def needL (ns : List Int) (rows : List (List Str)) (z : Str) : List (Int × Str) := (ns.zip rows).flatMap fun p => if z ∈ p.2 then ((litO p.2).filter fun o => decide (o ≠ z)).map fun o => (p.1, flip o) else []
def dsp_law_needs : DSp := DSp3 fun x y w S Q _ => ∃ (ns : List Int) (rows : List (List Str)) (z : Str), rs S x = .lst (ns.map .int) ∧ rs S y = rowsD rows ∧ w = .str z ∧ ns.length = rows.length ∧ rows.length ≤ 100 ∧ (∀ r ∈ rows, Row6 r) ∧ Q (pairsD (needL ns rows z)) S
abbrev sp_law_needs (K : PySem.W.Frag) : Sp := lift K dsp_law_needs
def N_law_needs : List PySem.Str := ["_law_numbers_here", "_law_rows", "_law_literal", "_law_due", "_law_k", "_law_other"]
def t_law_needs (K : PySem.W.Frag) (W : WX) : TS := (tSeq (tAsg (tLst tNil) (gName 3))
    (tCut (tFor (iRng1 (tCons (tCB (rLenP K) (tCons (tVar 1) tNil)) tNil)) (gName 4) (tIfS (tTest (tOp (rInP K false) (tVar 2) (tOp (rIxP K) (tVar 1) (tVar 4)))) (tFor (iAnyP K (tCallS (sp_law_ordered K) (WE W) (tCons (tOp (rIxP K) (tVar 1) (tVar 4)) tNil))) (gName 5) (tIfS (tTest (tOp (rNeP K) (tVar 5) (tVar 2))) (tDrop (tBM K "list" rAppend (tVar 3) (tCons (tTup (tCons (tOp (rIxP K) (tVar 0) (tVar 4)) (tCons (tCallS (sp_law_flip K) (WE W) (tCons (tVar 5) tNil)) tNil))) tNil))) tNext)) tNext))
    (tRet (tVar 3))))
def d_law_needs (WD : DW) : DS := (dSeq (dAsg (dLst true dNil) (dgName 3))
    (dCut (dFor (dRng1 (dCons (dCB dLen (dCons (dVar 1) dNil)) dNil)) (dgName 4) (dIfS (dTest (dOp (dIn false) (dVar 2) (dOp dIx (dVar 1) (dVar 4)))) (dFor (dAny (dCall WD dsp_law_ordered (dCons (dOp dIx (dVar 1) (dVar 4)) dNil))) (dgName 5) (dIfS (dTest (dOp dNe (dVar 5) (dVar 2))) (dDrop (dApp (dVar 3) (dCons (dTup (dCons (dOp dIx (dVar 0) (dVar 4)) (dCons (dCall WD dsp_law_flip (dCons (dVar 5) dNil)) dNil))) dNil))) dNext)) dNext))
    (dRet (dVar 3))))
theorem sim_law_needs {K : PySem.W.Frag} (W : WX) (WD : DW) : SimS K W WD (t_law_needs K W) (d_law_needs WD) := by
  unfold t_law_needs d_law_needs
  exact (sim_seq (sim_asg (sim_lst sim_nil) sim_gname)
      (sim_cut (sim_for (sim_rng1 (sim_cons (sim_cb cb_len (sim_cons sim_var sim_nil)) sim_nil)) sim_gname (sim_ifS (sim_test (sim_op op_in sim_var (sim_op op_ix sim_var sim_var))) (sim_for (sim_any (sim_callS (fun _ _ _ _ h => ad_law_ordered h) (sim_cons (sim_op op_ix sim_var sim_var) sim_nil))) sim_gname (sim_ifS (sim_test (sim_op op_ne sim_var sim_var)) (sim_drop (sim_app sim_var (sim_cons (sim_tup (sim_cons (sim_op op_ix sim_var sim_var) (sim_cons (sim_callS (fun _ _ _ _ h => ad_law_flip h) (sim_cons sim_var sim_nil)) sim_nil))) sim_nil))) sim_next)) sim_next))
      (sim_ret sim_var)))
theorem need_lenL : ∀ (ns : List Int) (rows : List (List Str)) (z : Str), (∀ r ∈ rows, Row6 r) → (needL ns rows z).length ≤ 6 * rows.length
  | [], _, _, _ => Nat.zero_le _
  | _ :: _, [], _, _ => Nat.zero_le _
  | a :: ns, r :: rows, z, h => by
    have ih := need_lenL ns rows z fun x hx => h x (List.mem_cons_of_mem _ hx)
    have R := h r List.mem_cons_self
    unfold needL at ih ⊢
    rw [List.zip_cons_cons, List.flatMap_cons, List.length_append, List.length_cons]
    dsimp only at ih ⊢
    have : (if z ∈ r then ((litO r).filter fun o => decide (o ≠ z)).map fun o => (a, flip o) else []).length ≤ 6 := by
      split
      · rw [List.length_map]
        have h1 := List.length_filter_le (fun o => decide (o ≠ z)) (litO r)
        have h2 := R.litO
        have h3 := R.len
        omega
      · exact Nat.zero_le _
    omega
theorem zip_next {ns : List Int} {rows : List (List Str)} {i : Nat} {a : Int} {r : List Str} (h1 : ns[i]? = some a) (h2 : rows[i]? = some r) : (ns.zip rows).take (i + 1) = (ns.zip rows).take i ++ [(a, r)] := by
  rw [List.take_add_one]
  congr 1
  rw [(List.getElem?_zip_eq_some (z := (a, r))).mpr ⟨h1, h2⟩]
  rfl
theorem dpure_law_needs {ds : List D} {S : Sto} {Q : DQ} {E : DX} (h : dsp_law_needs ds S Q E) : d_law_needs (ExD S E) { nx := fun _ S' => RtD S Q .non S', rt := RtD S Q, b := S.length } (startD N_law_needs.length ds) S := by
  obtain ⟨x, y, w, rfl, ns, rows, z, ex, ey, rfl, hl, l1, r6, hq⟩ := h
  show d_law_needs _ _ [some x, some y, some (.str z), none, none, none] S
  unfold d_law_needs
  walk_at "dd"
  refine ⟨Nat.zero_le _, ?_⟩
  walk_at "dd"
  have ex' : ∀ {G : Sto}, rs (S ++ G) x = .lst (ns.map .int) := fun {G} => rs_app ex (fun e => by cases e)
  have ey' : ∀ {G : Sto}, rs (S ++ G) y = rowsD rows := fun {G} => rs_app ey (fun e => by cases e)
  refine w_cut (fun ρ' S' => ∃ v4 v5, ρ' = [some x, some y, some (.str z), some (.hdl S.length), v4, v5] ∧ S' = S ++ [pairsD (needL ns rows z)]) ?_ ?_
  rotate_left
  · rintro ρ' S' ⟨v4, v5, rfl, rfl⟩
    walk_at "dd"
    exact rt_tree (Nat.le_refl _) last_at lt_pairs hq
  walk_at "dd"
  refine w_len (.inl ey') ?_
  walk_at "dd"
  rw [List.length_map]
  refine ⟨(rows.length : Int), rfl, by omega, by omega, ?_⟩
  rw [Int.toNat_natCast]
  let V (i : Nat) : List (Int × Str) := ((ns.zip rows).take i).flatMap fun p => if z ∈ p.2 then ((litO p.2).filter fun o => decide (o ≠ z)).map fun o => (p.1, flip o) else []
  refine ⟨fun i ρ' S' => ∃ v4 v5, ρ' = [some x, some y, some (.str z), some (.hdl S.length), v4, v5] ∧ S' = S ++ [pairsD (V i)], ⟨none, none, rfl, rfl⟩, fun _ _ _ _ _ => trivial, ?_, ?_⟩
  · rintro i d ρ' S' hd ⟨v4, v5, rfl, rfl⟩
    obtain ⟨hi, hd2⟩ := rngD_at hd
    rw [Int.zero_add] at hd2
    subst hd2
    have hr : rows[i]? = some rows[i] := List.getElem?_eq_getElem hi
    obtain ⟨a, ha⟩ : ∃ a, ns[i]? = some a := ⟨_, List.getElem?_eq_getElem (by omega)⟩
    have R := r6 _ (List.mem_of_getElem? hr)
    have hz := zip_next ha hr
    have Vn : V (i + 1) = V i ++ (if z ∈ rows[i] then ((litO rows[i]).filter fun o => decide (o ≠ z)).map fun o => (a, flip o) else []) := by
      show List.flatMap _ _ = _
      rw [hz, List.flatMap_append]
      simp [V]
    have Vl : (V i).length ≤ 600 := by
      have h1 : V i = needL (ns.take i) (rows.take i) z := by
        show List.flatMap _ _ = List.flatMap _ _
        rw [List.zip_eq_zipWith, List.take_zipWith, ← List.zip_eq_zipWith]
      rw [h1]
      have := need_lenL (ns.take i) (rows.take i) z fun x hx => r6 x (List.mem_of_mem_take hx)
      rw [List.length_take] at this
      omega
    generalize hV : V i = Vi at Vn Vl ⊢
    generalize rows[i] = r at hr R hz Vn
    have lr := R.litO
    have l6 := R.len
    walk_at "dd"
    refine w_ix (y := rowD r) (ds := rows.map rowD) (.inl ey') (atI_nat (by rw [List.getElem?_map, hr]; rfl)) ?_
    refine .ss (l := r) (.inl rfl) ?_
    refine w_isb ?_
    show if decide (z ∈ r) = true then _ else _
    refine s_itd (fun hin => ?_) (fun hin => ?_)
    · walk_at "dd"
      refine w_ix (y := rowD r) (ds := rows.map rowD) (.inl ey') (atI_nat (by rw [List.getElem?_map, hr]; rfl)) ?_
      walk_at "dd"
      refine ⟨_, rfl, r, rfl, by omega, fun z hz => by have := lit_len (R.lit z hz); omega, ?_⟩
      refine .seq (ds := (litO r).map .str) (.inl rfl) ?_
      refine ⟨fun j ρ' S' => ∃ v5, ρ' = [some x, some y, some (.str z), some (.hdl S.length), some (.int (i : Int)), v5] ∧ S' = S ++ [pairsD (Vi ++ (((litO r).take j).filter fun o => decide (o ≠ z)).map fun o => (a, flip o))], ⟨v5, rfl, by rw [List.take_zero]; simp⟩, fun _ _ _ _ _ => .inl rfl, ?_, ?_⟩
      · rintro j d ρ' S' hd ⟨v5, rfl, rfl⟩
        have hd : ((litO r).map D.str)[j]? = some d := hd
        rw [List.getElem?_map] at hd
        cases eo : (litO r)[j]? with
        | none => rw [eo] at hd; cases hd
        | some o =>
          rw [eo] at hd
          cases hd
          have O := R.lit o (litO_mem (List.mem_of_getElem? eo))
          have o9 := lit_len O
          walk_at "dd"
          by_cases ho : o = z
          · refine s_itF (by rw [decide_eq_true ho]; rfl) ?_
            walk_at "dd"
            refine ⟨_, rfl, ?_⟩
            rw [List.take_add_one, eo, List.filter_append]
            simp [ho]
          · refine s_itT (by rw [decide_eq_false ho]; rfl) ?_
            walk_at "dd"
            refine ⟨_, rfl, ⟨_, last_at⟩, ?_⟩
            walk_at "dd"
            refine w_ix (y := .int a) (ds := ns.map .int) (.inl ex') (atI_nat (by rw [List.getElem?_map, ha]; rfl)) ?_
            walk_at "dd"
            refine ⟨_, rfl, o, rfl, by omega, ?_⟩
            walk_at "dd"
            refine ⟨two_le, ?_⟩
            walk_at "dd"
            refine ⟨_, _, rfl, last_at, ?_, ?_⟩
            · rw [List.length_map, List.length_append, List.length_map]
              have h1 := List.length_filter_le (fun o => decide (o ≠ z)) ((litO r).take j)
              rw [List.length_take] at h1
              omega
            rw [last_set]
            refine ⟨_, rfl, ?_⟩
            rw [filt_snoc eo ho, pairs_snoc]
      · rintro ρ' S' ⟨v5, rfl, rfl⟩
        refine ⟨_, v5, rfl, ?_⟩
        rw [Vn, if_pos hin, List.length_map, List.take_length]
    · walk_at "dd"
      refine ⟨_, v5, rfl, ?_⟩
      rw [Vn, if_neg hin, List.append_nil]
  · rintro ρ' S' ⟨v4, v5, rfl, rfl⟩
    refine ⟨v4, v5, rfl, ?_⟩
    rw [rngD_len]
    show S ++ [pairsD (V rows.length)] = _
    have e : (ns.zip rows).take rows.length = ns.zip rows := List.take_of_length_le (by rw [List.length_zip]; omega)
    show S ++ [pairsD (List.flatMap _ ((ns.zip rows).take rows.length))] = _
    rw [e]
    rfl
theorem len_law_needs {K : PySem.W.Frag} {vs : List V} {H : Hp} {Q : VK} {E : XK} (h : sp_law_needs K vs H Q E) : vs.length = 3 := lift_len (fun _ _ _ _ h => DSp3.len h) h
theorem pure_law_needs {K : PySem.W.Frag} {vs : List V} {H : Hp} {Q : VK} {E : XK} (h : sp_law_needs K vs H Q E) : t_law_needs K (fun cls d _ H => E cls d H) { nx := fun _ H' => Q .non H', rt := Q } (start N_law_needs vs) H := lift_def (N := N_law_needs) (fun W WD => sim_law_needs W WD) (fun _ _ _ _ h => dpure_law_needs h) _ _ _ _ h
def dsp_law_line : DSp := DSp2 fun x y S Q _ => ∃ (n : Nat) (ns : List Str), x = .hdl n ∧ rs S y = rowD ns ∧ IsSrc S n ∧ 1 ≤ ns.length ∧ ns.length ≤ 40 ∧ (∀ z ∈ ns, isNm z = true) ∧ ns.Nodup ∧
  ∀ c (rows : List (List Str)), IsSrcD c → rows.length ≤ ns.length + 2 → RowsIn ns rows → Q (rowsD rows) (S.set n c)
abbrev sp_law_line (K : PySem.W.Frag) : Sp := lift K dsp_law_line
def N_law_line : List PySem.Str := ["_law_source_here", "_law_names_here", "_law_literals", "_law_rows", "_law_k", "_law_name_here"]
def t_law_line (K : PySem.W.Frag) (W : WX) : TS := (tSeq (tAsg (tLc (iAnyP K (tVar 1)) (gName 5) tYes (tOp (rAddP K) (tOp (rIxP K) (tLst (tCons (tC (.str "")) (tCons (tC (.str "-")) tNil))) (tCall (sp_law_take K) [] E0 (tCons (tVar 0) (tCons (tC (.int 2)) tNil)))) (tVar 5)) [5]) (gName 2))
    (tSeq (tAsg (tLst tNil) (gName 3))
    (tCut (tFor (iRng1 (tCons (tOp rSubP (tCB (rLenP K) (tCons (tVar 1) tNil)) (tC (.int 1))) tNil)) (gName 4) (tDrop (tBM K "list" rAppend (tVar 3) (tCons (tLst (tCons (tOp (rIxP K) (tVar 2) (tVar 4)) (tCons (tCallS (sp_law_flip K) (WE W) (tCons (tOp (rIxP K) (tVar 2) (tOp (rAddP K) (tVar 4) (tC (.int 1)))) tNil)) tNil))) tNil))))
    (tCut (tIfS (tAnd (tTest (tOp rGtP (tCB (rLenP K) (tCons (tVar 1) tNil)) (tC (.int 1)))) (tTest (tOp (rEqP K) (tCallS (sp_law_take K) (WE W) (tCons (tVar 0) (tCons (tC (.int 2)) tNil))) (tC (.int 1))))) (tDrop (tBM K "list" rAppend (tVar 3) (tCons (tLst (tCons (tOp (rIxP K) (tVar 2) (tUn (rU fun i => .int (-i)) (tC (.int 1)))) (tCons (tOp (rIxP K) (tVar 2) (tUn (rU fun i => .int (-i)) (tC (.int 2)))) tNil))) tNil))) tNext)
    (tCut (tFor (iRng1 (tCons (tCallS (sp_law_take K) (WE W) (tCons (tVar 0) (tCons (tC (.int 3)) tNil))) tNil)) (gName 4) (tDrop (tBM K "list" rAppend (tVar 3) (tCons (tCallS (sp_law_row K) (WE W) (tCons (tVar 0) (tCons (tVar 1) (tCons (tC (.int 3)) tNil)))) tNil))))
    (tCut (tIfS (tTest (tOp (rEqP K) (tCallS (sp_law_take K) (WE W) (tCons (tVar 0) (tCons (tC (.int 2)) tNil))) (tC (.int 1)))) (tRet (tRevL K (tVar 3))) tNext)
    (tRet (tVar 3))))))))
def d_law_line (WD : DW) : DS := (dSeq (dAsg (dLc false (dAny (dVar 1)) (dgName 5) dYes (dOp (dAdd false) (dOp dIx (dLst false (dCons (dC (.str "")) (dCons (dC (.str "-")) dNil))) (dCall0 dsp_law_take (dCons (dVar 0) (dCons (dC (.int 2)) dNil)))) (dVar 5)) [5]) (dgName 2))
    (dSeq (dAsg (dLst true dNil) (dgName 3))
    (dCut (dFor (dRng1 (dCons (dOp dSub (dCB dLen (dCons (dVar 1) dNil)) (dC (.int 1))) dNil)) (dgName 4) (dDrop (dApp (dVar 3) (dCons (dLst false (dCons (dOp dIx (dVar 2) (dVar 4)) (dCons (dCall WD dsp_law_flip (dCons (dOp dIx (dVar 2) (dOp (dAdd false) (dVar 4) (dC (.int 1)))) dNil)) dNil))) dNil))))
    (dCut (dIfS (dAnd (dTest (dOp dGt (dCB dLen (dCons (dVar 1) dNil)) (dC (.int 1)))) (dTest (dOp dEq (dCall WD dsp_law_take (dCons (dVar 0) (dCons (dC (.int 2)) dNil))) (dC (.int 1))))) (dDrop (dApp (dVar 3) (dCons (dLst false (dCons (dOp dIx (dVar 2) (dUn dNeg (dC (.int 1)))) (dCons (dOp dIx (dVar 2) (dUn dNeg (dC (.int 2)))) dNil))) dNil))) dNext)
    (dCut (dFor (dRng1 (dCons (dCall WD dsp_law_take (dCons (dVar 0) (dCons (dC (.int 3)) dNil))) dNil)) (dgName 4) (dDrop (dApp (dVar 3) (dCons (dCall WD dsp_law_row (dCons (dVar 0) (dCons (dVar 1) (dCons (dC (.int 3)) dNil)))) dNil))))
    (dCut (dIfS (dTest (dOp dEq (dCall WD dsp_law_take (dCons (dVar 0) (dCons (dC (.int 2)) dNil))) (dC (.int 1)))) (dRet (dRev false (dVar 3))) dNext)
    (dRet (dVar 3))))))))
theorem sim_law_line {K : PySem.W.Frag} (W : WX) (WD : DW) : SimS K W WD (t_law_line K W) (d_law_line WD) := by
  unfold t_law_line d_law_line
  exact (sim_seq (sim_asg (sim_lc (sim_any sim_var) (simv_gname (by decide)) sim_yes (sim_op op_add (sim_op op_ix (sim_lst (sim_cons (sim_c fun _ _ => .str _) (sim_cons (sim_c fun _ _ => .str _) sim_nil))) (sim_call (fun _ _ _ _ h => ad_law_take h) (sim_cons sim_var (sim_cons (sim_c fun _ _ => .int _) sim_nil)))) sim_var)) sim_gname)
      (sim_seq (sim_asg (sim_lst sim_nil) sim_gname)
      (sim_cut (sim_for (sim_rng1 (sim_cons (sim_op op_sub (sim_cb cb_len (sim_cons sim_var sim_nil)) (sim_c fun _ _ => .int _)) sim_nil)) sim_gname (sim_drop (sim_app sim_var (sim_cons (sim_lst (sim_cons (sim_op op_ix sim_var sim_var) (sim_cons (sim_callS (fun _ _ _ _ h => ad_law_flip h) (sim_cons (sim_op op_ix sim_var (sim_op op_add sim_var (sim_c fun _ _ => .int _))) sim_nil)) sim_nil))) sim_nil))))
      (sim_cut (sim_ifS (sim_and (sim_test (sim_op op_gt (sim_cb cb_len (sim_cons sim_var sim_nil)) (sim_c fun _ _ => .int _))) (sim_test (sim_op op_eq (sim_callS (fun _ _ _ _ h => ad_law_take h) (sim_cons sim_var (sim_cons (sim_c fun _ _ => .int _) sim_nil))) (sim_c fun _ _ => .int _)))) (sim_drop (sim_app sim_var (sim_cons (sim_lst (sim_cons (sim_op op_ix sim_var (sim_neg (sim_c fun _ _ => .int _))) (sim_cons (sim_op op_ix sim_var (sim_neg (sim_c fun _ _ => .int _))) sim_nil))) sim_nil))) sim_next)
      (sim_cut (sim_for (sim_rng1 (sim_cons (sim_callS (fun _ _ _ _ h => ad_law_take h) (sim_cons sim_var (sim_cons (sim_c fun _ _ => .int _) sim_nil))) sim_nil)) sim_gname (sim_drop (sim_app sim_var (sim_cons (sim_callS (fun _ _ _ _ h => ad_law_row h) (sim_cons sim_var (sim_cons sim_var (sim_cons (sim_c fun _ _ => .int _) sim_nil)))) sim_nil))))
      (sim_cut (sim_ifS (sim_test (sim_op op_eq (sim_callS (fun _ _ _ _ h => ad_law_take h) (sim_cons sim_var (sim_cons (sim_c fun _ _ => .int _) sim_nil))) (sim_c fun _ _ => .int _))) (sim_ret (sim_rev sim_var)) sim_next)
      (sim_ret sim_var)))))))
theorem line_row {ns : List Str} {a b : Nat} {x y z w : Str} (nd : ns.Nodup) (hab : a ≠ b) (hn : ∀ z ∈ ns, isNm z = true) (ha : ns[a]? = some x) (hb : ns[b]? = some y) (ez : bare z = x) (ew : bare w = y) : RowsIn ns [[z, w]] := by
  have mem : ∀ q ∈ [z, w], q = z ∨ q = w := fun q hq => by
    rcases List.mem_cons.mp hq with e | hq
    · exact .inl e
    · exact .inr (List.mem_singleton.mp hq)
  have mx := List.mem_of_getElem? ha
  have my := List.mem_of_getElem? hb
  have lz : isLit z = true := by show isNm (bare z) = true; rw [ez]; exact hn x mx
  have lw : isLit w = true := by show isNm (bare w) = true; rw [ew]; exact hn y my
  refine .one ⟨by simp, fun q hq => by rcases mem q hq with rfl | rfl <;> assumption, ?_⟩ fun q hq => by rcases mem q hq with rfl | rfl; rw [ez]; exact mx; rw [ew]; exact my
  show [bare z, bare w].Nodup
  rw [ez, ew]
  refine List.nodup_cons.mpr ⟨fun h => ?_, List.pairwise_singleton _ _⟩
  have e := List.mem_singleton.mp h
  subst e
  have e1 := (List.getElem?_eq_some_iff.mp ha).2
  have e2 := (List.getElem?_eq_some_iff.mp hb).2
  exact hab ((List.getElem_inj nd).mp (e1.trans e2.symm))
theorem dash_three {nm : Str} {k : Int} (h0 : 0 ≤ k) (h1 : k < 2) : ∃ d : Str, atI [D.str "", D.str "-"] k = some (.str d) ∧ d.length ≤ 1 ∧ (isNm nm = true → bare (d ++ nm) = nm) := by
  have : k = 0 ∨ k = 1 := by omega
  rcases this with rfl | rfl
  · have e : (("" : Str) ++ nm) = nm := str_ext (by rw [app_toList]; rfl)
    exact ⟨"", rfl, by decide, fun h => by rw [e]; exact nm_bare h⟩
  · exact ⟨"-", rfl, by decide, fun _ => bare_app nm⟩
theorem dpure_law_line {ds : List D} {S : Sto} {Q : DQ} {E : DX} (h : dsp_law_line ds S Q E) : d_law_line (ExD S E) { nx := fun _ S' => RtD S Q .non S', rt := RtD S Q, b := S.length } (startD N_law_line.length ds) S := by
  obtain ⟨x, y, rfl, n, ns, rfl, ey, hs, l1, l2, hn, nd, hq⟩ := h
  show d_law_line _ _ [some (.hdl n), some y, none, none, none, none] S
  unfold d_law_line
  have nlt := hs.lt
  obtain ⟨c0, e0, ic0⟩ := (⟨_, hs.choose_spec.1, hs.choose_spec.2⟩ : ∃ c, S[n]? = some c ∧ IsSrcD c)
  have eS : S = S.set n c0 := (set_self e0).symm
  walk_at "dd"
  refine .seq (ds := ns.map .str) (.inl ey) ?_
  refine ⟨fun i acc S' => ∃ (c : D) (ls : List Str), IsSrcD c ∧ S' = S.set n c ∧ acc = ls.map .str ∧ ls.length = i ∧ ∀ (j : Nat) (l a : Str), ls[j]? = some l → ns[j]? = some a → bare l = a ∧ l.length ≤ 9, ⟨c0, [], ic0, eS, rfl, rfl, fun j l a h => (by cases h)⟩, fun i acc S' _ p => by obtain ⟨c, ls, ic, rfl, _⟩ := p; exact .inl (rs_setR hs ey), ?_, ?_⟩
  · rintro i d acc S' hd ⟨c, ls, ic, rfl, rfl, ll, hb⟩
    have hd : (ns.map D.str)[i]? = some d := hd
    rw [List.getElem?_map] at hd
    cases ez : ns[i]? with
    | none => rw [ez] at hd; cases hd
    | some z =>
      rw [ez] at hd
      cases hd
      have hil := (List.getElem?_eq_some_iff.mp ez).1
      have N := hn z (List.mem_of_getElem? ez)
      have n8 := nm_short N
      walk_at "dd"
      refine ⟨two_le, ?_⟩
      walk_at "dd"
      refine take_d (hs.set ic) (by decide) (by decide) fun c2 k ic2 k0 k2 => ?_
      rw [List.set_set]
      obtain ⟨d, ed, ld, bd⟩ := dash_three (nm := z) k0 k2
      refine w_ix sq_l ed ?_
      walk_at "dd"
      have l9 : (d ++ z).length ≤ 9 := by have : (d ++ z).length = d.length + z.length := app_len _ _; omega
      refine .str (by show d.length + z.length ≤ _; rw [sizeLine_eq]; omega) ?_
      refine ⟨by rw [List.length_map, ll, sizeLine_eq]; omega, c2, ls ++ [d ++ z], ic2, rfl, by rw [List.map_append]; rfl, by rw [List.length_append, ll]; rfl, fun j l a hl ha => ?_⟩
      by_cases hj : j < ls.length
      · rw [List.getElem?_append_left hj] at hl
        exact hb j l a hl ha
      · have hj2 := (List.getElem?_eq_some_iff.mp hl).1
        rw [List.length_append] at hj2
        have hj2 : j < ls.length + 1 := hj2
        have ej : j = ls.length := by omega
        subst ej
        rw [List.getElem?_append_right (Nat.le_refl _), Nat.sub_self] at hl
        cases hl
        rw [ll, ez] at ha
        cases ha
        exact ⟨bd N, l9⟩
  rintro acc S' ⟨c1, ls, ic1, rfl, rfl, ll, hb⟩
  have ll : ls.length = ns.length := by rw [ll]; exact List.length_map _
  have hb : ∀ j : Nat, j < ns.length → ∃ l a : Str, ls[j]? = some l ∧ ns[j]? = some a ∧ bare l = a ∧ l.length ≤ 9 := fun j hj => by
    obtain ⟨l, hl⟩ : ∃ z, ls[j]? = some z := ⟨_, List.getElem?_eq_getElem (by omega)⟩
    obtain ⟨a, ha⟩ : ∃ z, ns[j]? = some z := ⟨_, List.getElem?_eq_getElem hj⟩
    exact ⟨l, a, hl, ha, hb j l a hl ha⟩
  walk_at "dd"
  refine ⟨Nat.zero_le _, ?_⟩
  walk_at "dd"
  rw [show (S.set n c1).length = S.length from List.length_set]
  show dCut _ _ _ [some (.hdl n), some y, some (rowD ls), some (.hdl S.length), none, none] (S.set n c1 ++ [rowsD []])
  refine w_cut (fun ρ' S' => ∃ (v4 : Option D) (rows : List (List Str)), ρ' = [some (.hdl n), some y, some (rowD ls), some (.hdl S.length), v4, none] ∧ S' = S.set n c1 ++ [rowsD rows] ∧ rows.length ≤ ns.length - 1 ∧ RowsIn ns rows) ?_ ?_
  · walk_at "dd"
    refine w_len (.inl (rs_row hs ey)) ?_
    walk_at "dd"
    rw [List.length_map]
    refine ⟨(ns.length : Int) - 1, rfl, by omega, by omega, ?_⟩
    refine ⟨fun i ρ' S' => ∃ (v4 : Option D) (rows : List (List Str)), ρ' = [some (.hdl n), some y, some (rowD ls), some (.hdl S.length), v4, none] ∧ S' = S.set n c1 ++ [rowsD rows] ∧ rows.length ≤ i ∧ RowsIn ns rows, ⟨none, [], rfl, rfl, Nat.le_refl _, fun r h => (by cases h)⟩, fun _ _ _ _ _ => trivial, ?_, ?_⟩
    · rintro i d ρ' S' hd ⟨v4, rows, rfl, rfl, hr, hin⟩
      have hi2 : i < ns.length - 1 := by have := (List.getElem?_eq_some_iff.mp hd).1; rw [rngD_len] at this; omega
      obtain ⟨hi, hd2⟩ := rngD_at hd
      subst hd2
      obtain ⟨p, a, hp, ha, pa, p9⟩ := hb i (by omega)
      obtain ⟨q, b, hq', hb', qb, q9⟩ := hb (i + 1) (by omega)
      have qlit : isLit q = true := by show isNm (bare q) = true; rw [qb]; exact hn b (List.mem_of_getElem? hb')
      walk_at "dd"
      refine ⟨_, rfl, ⟨_, atX⟩, ?_⟩
      walk_at "dd"
      refine w_ix (y := .str p) (ds := ls.map .str) (.inl rfl) (by rw [Int.zero_add]; exact atI_nat (by rw [List.getElem?_map, hp]; rfl)) ?_
      walk_at "dd"
      refine w_ix (y := .str q) (ds := ls.map .str) (.inl rfl) (by rw [show (0 : Int) + (i : Int) + 1 = ((i + 1 : Nat) : Int) by omega]; exact atI_nat (by rw [List.getElem?_map, hq']; rfl)) ?_
      walk_at "dd"
      refine ⟨_, rfl, q, rfl, by omega, ?_⟩
      walk_at "dd"
      refine ⟨two_le, ?_⟩
      walk_at "dd"
      refine ⟨_, rows.map rowD, rfl, atX, by rw [List.length_map]; omega, ?_⟩
      rw [setX]
      refine ⟨_, rows ++ [[p, flip q]], rfl, by unfold rowsD; rw [List.map_append]; rfl, by rw [List.length_append]; show _ + 1 ≤ _; omega, hin.app (line_row nd (a := i) (b := i + 1) (by omega) hn ha hb' pa (by rw [flip_bare qlit]; exact qb))⟩
    · rintro ρ' S' ⟨v4, rows, rfl, rfl, hr, hin⟩
      have hr : rows.length ≤ (rngD 0 ((ns.length : Int) - 1).toNat).length := hr
      rw [rngD_len] at hr
      exact ⟨v4, rows, rfl, rfl, by omega, hin⟩
  rintro ρ' S' ⟨v4, rows, rfl, rfl, hr, hin⟩
  refine w_cut (fun ρ' S' => ∃ (c : D) (rows : List (List Str)), ρ' = [some (.hdl n), some y, some (rowD ls), some (.hdl S.length), v4, none] ∧ IsSrcD c ∧ S' = S.set n c ++ [rowsD rows] ∧ rows.length ≤ ns.length ∧ RowsIn ns rows) ?_ ?_
  · walk_at "dd"
    refine w_len (.inl (rs_row hs ey)) ?_
    walk_at "dd"
    rw [List.length_map]
    refine s_itd (fun h1 => ?_) (fun h1 => ?_)
    · have h1 : 1 < ns.length := by omega
      walk_at "dd"
      refine take_d (hs.set ic1).app (by decide) (by decide) fun c2 k ic2 k0 k2 => ?_
      rw [srcX nlt]
      walk_at "dd"
      refine s_itd (fun h2 => ?_) (fun h2 => ?_)
      · obtain ⟨p, a, hp, ha, pa, p9⟩ := hb (ns.length - 1) (by omega)
        obtain ⟨q, b, hq', hb', qb, q9⟩ := hb (ns.length - 2) (by omega)
        walk_at "dd"
        refine ⟨_, rfl, ⟨_, atX⟩, ?_⟩
        walk_at "dd"
        refine w_ix (y := .str p) (ds := ls.map .str) (.inl rfl) (atI_neg 1 rfl (by decide) (by rw [List.length_map]; omega) (by rw [List.length_map, List.getElem?_map, ll, hp]; rfl)) ?_
        walk_at "dd"
        refine w_ix (y := .str q) (ds := ls.map .str) (.inl rfl) (atI_neg 2 rfl (by decide) (by rw [List.length_map]; omega) (by rw [List.length_map, List.getElem?_map, ll, hq']; rfl)) ?_
        walk_at "dd"
        refine ⟨two_le, ?_⟩
        walk_at "dd"
        refine ⟨_, rows.map rowD, rfl, atX, by rw [List.length_map]; omega, ?_⟩
        rw [setX]
        exact ⟨c2, rows ++ [[p, q]], rfl, ic2, by unfold rowsD; rw [List.map_append]; rfl, by rw [List.length_append]; show _ + 1 ≤ _; omega, hin.app (line_row nd (a := ns.length - 1) (b := ns.length - 2) (by omega) hn ha hb' pa qb)⟩
      · walk_at "dd"
        exact ⟨c2, rows, rfl, ic2, rfl, by omega, hin⟩
    · refine s_itF rfl ?_
      walk_at "dd"
      exact ⟨c1, rows, rfl, ic1, rfl, by omega, hin⟩
  rintro ρ' S' ⟨c2, rows, rfl, ic2, rfl, hr, hin⟩
  refine w_cut (fun ρ' S' => ∃ (v4 : Option D) (c : D) (rows : List (List Str)), ρ' = [some (.hdl n), some y, some (rowD ls), some (.hdl S.length), v4, none] ∧ IsSrcD c ∧ S' = S.set n c ++ [rowsD rows] ∧ rows.length ≤ ns.length + 2 ∧ RowsIn ns rows) ?_ ?_
  · walk_at "dd"
    refine take_d (hs.set ic2).app (by decide) (by decide) fun c3 k ic3 k0 k3 => ?_
    rw [srcX nlt]
    refine ⟨k, rfl, by omega, by omega, ?_⟩
    refine ⟨fun i ρ' S' => ∃ (v4 : Option D) (c : D) (rows : List (List Str)), ρ' = [some (.hdl n), some y, some (rowD ls), some (.hdl S.length), v4, none] ∧ IsSrcD c ∧ S' = S.set n c ++ [rowsD rows] ∧ rows.length ≤ ns.length + i ∧ RowsIn ns rows, ⟨v4, c3, rows, rfl, ic3, rfl, by omega, hin⟩, fun _ _ _ _ _ => trivial, ?_, ?_⟩
    · rintro i d ρ' S' hd ⟨v4, c, rows, rfl, ic, rfl, hr, hin⟩
      have hi2 : i < 2 := by have := (List.getElem?_eq_some_iff.mp hd).1; rw [rngD_len] at this; omega
      obtain ⟨_, hd2⟩ := rngD_at hd
      walk_at "dd"
      refine ⟨_, rfl, ⟨_, atX⟩, ?_⟩
      walk_at "dd"
      refine ⟨_, _, _, rfl, n, ns, 3, rfl, rs_row hs ey, rfl, (hs.set ic).app, l1, by omega, hn, by decide, by decide, fun c4 zs ic4 zl zlit znd zin => ?_⟩
      rw [srcX nlt]
      refine ⟨_, rows.map rowD, rfl, atX, by rw [List.length_map]; omega, ?_⟩
      rw [setX]
      exact ⟨_, c4, rows ++ [zs], rfl, ic4, by unfold rowsD; rw [List.map_append]; rfl, by rw [List.length_append]; show _ + 1 ≤ _; omega, hin.app (.one ⟨by omega, zlit, znd⟩ zin)⟩
    · rintro ρ' S' ⟨v4, c, rows, rfl, ic, rfl, hr, hin⟩
      have hr : rows.length ≤ ns.length + (rngD 0 k.toNat).length := hr
      rw [rngD_len] at hr
      exact ⟨v4, c, rows, rfl, ic, rfl, by omega, hin⟩
  rintro ρ' S' ⟨v4, c3, rows, rfl, ic3, rfl, hr, hin⟩
  refine w_nocut ?_
  walk_at "dd"
  refine take_d (hs.set ic3).app (by decide) (by decide) fun c4 k ic4 k0 k2 => ?_
  rw [srcX nlt]
  walk_at "dd"
  refine s_itd (fun h2 => ?_) (fun h2 => ?_)
  · walk_at "dd"
    refine w_rev ?_
    walk_at "dd"
    refine ⟨rows.map rowD, rs_h atX, ?_⟩
    rw [← List.map_reverse]
    have lt : ltL S.length (rows.reverse.map rowD) := ltL_map fun _ => lt_row
    exact rt_src nlt ic4 (lt_lst lt) (hq c4 rows.reverse ic4 (by rw [List.length_reverse]; exact hr) fun r h => hin r (List.mem_reverse.mp h))
  · walk_at "dd"
    exact rt_treeS nlt ic4 (Nat.le_refl _) atX (ltL_map fun _ => lt_row) (hq c4 rows ic4 hr hin)
theorem len_law_line {K : PySem.W.Frag} {vs : List V} {H : Hp} {Q : VK} {E : XK} (h : sp_law_line K vs H Q E) : vs.length = 2 := lift_len (fun _ _ _ _ h => DSp2.len h) h
theorem pure_law_line {K : PySem.W.Frag} {vs : List V} {H : Hp} {Q : VK} {E : XK} (h : sp_law_line K vs H Q E) : t_law_line K (fun cls d _ H => E cls d H) { nx := fun _ H' => Q .non H', rt := Q } (start N_law_line vs) H := lift_def (N := N_law_line) (fun W WD => sim_law_line W WD) (fun _ _ _ _ h => dpure_law_line h) _ _ _ _ h
def dsp_law_bad : DSp := DSp2 fun x y S Q _ => ∃ (s : Nat) (n : Str), x = .hdl s ∧ y = .str n ∧ IsSrc S s ∧ isNm n = true ∧ ∀ c (z : Str), IsSrcD c → isLit z = false → z.length ≤ 100 → Q (.str z) (S.set s c)
abbrev sp_law_bad (K : PySem.W.Frag) : Sp := lift K dsp_law_bad
def N_law_bad : List PySem.Str := ["_law_source_here", "_law_name_here", "_law_signs", "_law_place", "_law_menu"]
def t_law_bad (K : PySem.W.Frag) (W : WX) : TS := (tSeq (tAsg (tC (.str " !\"#$&'()*+,./:;<=>?@ABCDEFGHIJKLMNOPQRSTUVWXYZ[\\]^_`{|}~\n")) (gName 2))
    (tSeq (tAsg (tCallS (sp_law_take K) (WE W) (tCons (tVar 0) (tCons (tOp (rAddP K) (tC (.int 1)) (tCB (rLenP K) (tCons (tVar 1) tNil))) tNil))) (gName 3))
    (tSeq (tAsg (tLst (tCons (tC (.str "")) (tCons (tC (.str "-")) (tCons (tOp (rAddP K) (tC (.str "--")) (tVar 1)) (tCons (tOp (rAddP K) (tVar 1) (tC (.str "-"))) (tCons (tOp (rAddP K) (tC (.str "7")) (tSl (rSlP K) (tVar 1) (tPart (tC (.int 1))) tNoPart)) (tCons (tSl (rSlP K) (tOp (rAddP K) (tVar 1) (tC (.str "12345678"))) tNoPart (tPart (tC (.int 9)))) tNil))))))) (gName 4))
    (tSeq (tDrop (tBM K "list" rAppend (tVar 4) (tCons (tOp (rAddP K) (tC (.str "-")) (tSl (rSlP K) (tOp (rAddP K) (tVar 1) (tC (.str "abcdefgh"))) tNoPart (tPart (tC (.int 9))))) tNil)))
    (tSeq (tDrop (tBM K "list" rAppend (tVar 4) (tCons (tOp (rAddP K) (tOp (rAddP K) (tSl (rSlP K) (tVar 1) tNoPart (tPart (tVar 3))) (tOp (rIxP K) (tVar 2) (tCallS (sp_law_take K) (WE W) (tCons (tVar 0) (tCons (tCB (rLenP K) (tCons (tVar 2) tNil)) tNil))))) (tSl (rSlP K) (tVar 1) (tPart (tVar 3)) tNoPart)) tNil)))
    (tRet (tOp (rIxP K) (tVar 4) (tCallS (sp_law_take K) (WE W) (tCons (tVar 0) (tCons (tCB (rLenP K) (tCons (tVar 4) tNil)) tNil))))))))))
def d_law_bad (WD : DW) : DS := (dSeq (dAsg (dC (.str " !\"#$&'()*+,./:;<=>?@ABCDEFGHIJKLMNOPQRSTUVWXYZ[\\]^_`{|}~\n")) (dgName 2))
    (dSeq (dAsg (dCall WD dsp_law_take (dCons (dVar 0) (dCons (dOp (dAdd false) (dC (.int 1)) (dCB dLen (dCons (dVar 1) dNil))) dNil))) (dgName 3))
    (dSeq (dAsg (dLst true (dCons (dC (.str "")) (dCons (dC (.str "-")) (dCons (dOp (dAdd false) (dC (.str "--")) (dVar 1)) (dCons (dOp (dAdd false) (dVar 1) (dC (.str "-"))) (dCons (dOp (dAdd false) (dC (.str "7")) (dSl false (dVar 1) (dPart (dC (.int 1))) dNoPart)) (dCons (dSl false (dOp (dAdd false) (dVar 1) (dC (.str "12345678"))) dNoPart (dPart (dC (.int 9)))) dNil))))))) (dgName 4))
    (dSeq (dDrop (dApp (dVar 4) (dCons (dOp (dAdd false) (dC (.str "-")) (dSl false (dOp (dAdd false) (dVar 1) (dC (.str "abcdefgh"))) dNoPart (dPart (dC (.int 9))))) dNil)))
    (dSeq (dDrop (dApp (dVar 4) (dCons (dOp (dAdd false) (dOp (dAdd false) (dSl false (dVar 1) dNoPart (dPart (dVar 3))) (dOp dIx (dVar 2) (dCall WD dsp_law_take (dCons (dVar 0) (dCons (dCB dLen (dCons (dVar 2) dNil)) dNil))))) (dSl false (dVar 1) (dPart (dVar 3)) dNoPart)) dNil)))
    (dRet (dOp dIx (dVar 4) (dCall WD dsp_law_take (dCons (dVar 0) (dCons (dCB dLen (dCons (dVar 4) dNil)) dNil))))))))))
theorem sim_law_bad {K : PySem.W.Frag} (W : WX) (WD : DW) : SimS K W WD (t_law_bad K W) (d_law_bad WD) := by
  unfold t_law_bad d_law_bad
  exact (sim_seq (sim_asg (sim_c fun _ _ => .str _) sim_gname)
      (sim_seq (sim_asg (sim_callS (fun _ _ _ _ h => ad_law_take h) (sim_cons sim_var (sim_cons (sim_op op_add (sim_c fun _ _ => .int _) (sim_cb cb_len (sim_cons sim_var sim_nil))) sim_nil))) sim_gname)
      (sim_seq (sim_asg (sim_lst (sim_cons (sim_c fun _ _ => .str _) (sim_cons (sim_c fun _ _ => .str _) (sim_cons (sim_op op_add (sim_c fun _ _ => .str _) sim_var) (sim_cons (sim_op op_add sim_var (sim_c fun _ _ => .str _)) (sim_cons (sim_op op_add (sim_c fun _ _ => .str _) (sim_sl sim_var (sim_part (sim_c fun _ _ => .int _)) sim_nopart)) (sim_cons (sim_sl (sim_op op_add sim_var (sim_c fun _ _ => .str _)) sim_nopart (sim_part (sim_c fun _ _ => .int _))) sim_nil))))))) sim_gname)
      (sim_seq (sim_drop (sim_app sim_var (sim_cons (sim_op op_add (sim_c fun _ _ => .str _) (sim_sl (sim_op op_add sim_var (sim_c fun _ _ => .str _)) sim_nopart (sim_part (sim_c fun _ _ => .int _)))) sim_nil)))
      (sim_seq (sim_drop (sim_app sim_var (sim_cons (sim_op op_add (sim_op op_add (sim_sl sim_var sim_nopart (sim_part sim_var)) (sim_op op_ix sim_var (sim_callS (fun _ _ _ _ h => ad_law_take h) (sim_cons sim_var (sim_cons (sim_cb cb_len (sim_cons sim_var sim_nil)) sim_nil))))) (sim_sl sim_var (sim_part sim_var) sim_nopart)) sim_nil)))
      (sim_ret (sim_op op_ix sim_var (sim_callS (fun _ _ _ _ h => ad_law_take h) (sim_cons sim_var (sim_cons (sim_cb cb_len (sim_cons sim_var sim_nil)) sim_nil))))))))))
theorem bad_dash {z : Str} {c : Nat} {r : List Nat} (e : z.cps.toList = c :: r) (hc : c ≠ 45) (h : 45 ∈ r) : isLit z = false := by
  cases hz : isLit z with
  | false => rfl
  | true =>
    exfalso
    have hz : isNm (bare z) = true := hz
    have nd : dash z = false := by
      cases hd : dash z with
      | false => rfl
      | true =>
        obtain ⟨q, hq⟩ := (dash_iff _).mp hd
        rw [e] at hq
        injection hq with h1 _
        exact absurd h1 hc
    have hb : bare z = z := by
      have := bare_self z
      rw [nd] at this
      exact of_decide_eq_true this.symm
    rw [hb] at hz
    obtain ⟨_, _, _, _, hs, _⟩ := nm_first hz
    have := hs 45 (by rw [e]; exact List.mem_cons_of_mem _ h)
    exact absurd this (by decide +kernel)
theorem bad_dlong {w : Str} (h : 8 < w.length) : isLit (("-" : Str) ++ w) = false := by
  show isNm (bare (("-" : Str) ++ w)) = false
  rw [bare_app]
  cases hz : isNm w with
  | false => rfl
  | true => have := nm_short hz; omega
theorem cut_len (z : Str) (k : Nat) : (cutS z none (some (k : Int))).length = min k z.length := by
  rw [← len_toList, cut_to, List.length_take, len_toList]
theorem bad_two {n : Str} : isLit (("--" : Str) ++ n) = false := by
  have e2 : ("--" : Str) ++ n = ("-" : Str) ++ (("-" : Str) ++ n) := str_ext (by rw [app_toList, app_toList, app_toList]; rfl)
  rw [e2]
  unfold isLit
  rw [bare_app]
  cases hb : isNm (("-" : Str) ++ n) with
  | false => rfl
  | true => have := nm_nodash hb; rw [dash_app] at this; cases this
theorem dpure_law_bad {ds : List D} {S : Sto} {Q : DQ} {E : DX} (h : dsp_law_bad ds S Q E) : d_law_bad (ExD S E) { nx := fun _ S' => RtD S Q .non S', rt := RtD S Q, b := S.length } (startD N_law_bad.length ds) S := by
  obtain ⟨x, y, rfl, s, n, rfl, rfl, hs, hn, hq⟩ := h
  obtain ⟨c, r, e, hc, hsg, l1, l8⟩ := nm_first hn
  have hns : n.length ≤ sizeLine := by rw [sizeLine_eq]; omega
  show d_law_bad _ _ [some (.hdl s), some (.str n), none, none, none] S
  unfold d_law_bad
  have slt := hs.lt
  have c45 := letter_ne hc
  walk_at "dd"
  refine w_lenS hns ?_
  walk_at "dd"
  refine take_d hs (by omega) (by omega) fun c1 p ic1 p0 pl => ?_
  walk_at "dd"
  refine .str (by show 2 + n.length ≤ _; rw [sizeLine_eq]; omega) ?_
  walk_at "dd"
  refine .str (by show n.length + 1 ≤ _; rw [sizeLine_eq]; omega) ?_
  walk_at "dd"
  refine .str hns ?_
  have lc := cutS_len n (some 1) none
  refine .str (by show 1 + _ ≤ _; rw [sizeLine_eq]; omega) ?_
  walk_at "dd"
  refine .str (by show n.length + 8 ≤ _; rw [sizeLine_eq]; omega) ?_
  walk_at "dd"
  have ln8 : (n ++ ("12345678" : Str)).length = n.length + 8 := app_len _ _
  refine .str (by rw [ln8, sizeLine_eq]; omega) ?_
  walk_at "dd"
  refine ⟨by rw [sizeLine_eq]; exact (show 6 ≤ 16777216 by decide), ?_⟩
  rw [show (S.set s c1).length = S.length from List.length_set]
  walk_at "dd"
  refine ⟨_, rfl, ⟨_, atX⟩, ?_⟩
  walk_at "dd"
  refine .str (by show n.length + 8 ≤ _; rw [sizeLine_eq]; omega) ?_
  walk_at "dd"
  have la8 : (n ++ ("abcdefgh" : Str)).length = n.length + 8 := app_len _ _
  refine .str (by rw [la8, sizeLine_eq]; omega) ?_
  have l9 : (cutS (n ++ ("abcdefgh" : Str)) none (some 9)).length = 9 := by
    have := cut_len (n ++ ("abcdefgh" : Str)) 9
    rw [la8] at this
    show (cutS (n ++ ("abcdefgh" : Str)) none (some ((9 : Nat) : Int))).length = 9
    omega
  have l9' : (cutS (n ++ ("12345678" : Str)) none (some 9)).length = 9 := by
    have := cut_len (n ++ ("12345678" : Str)) 9
    rw [ln8] at this
    show (cutS (n ++ ("12345678" : Str)) none (some ((9 : Nat) : Int))).length = 9
    omega
  refine .str (by rw [l9, sizeLine_eq]; decide) ?_
  walk_at "dd"
  refine ⟨_, _, rfl, atX, by show 6 ≤ 1000000; decide, ?_⟩
  rw [setX]
  walk_at "dd"
  refine ⟨_, rfl, ⟨_, atX⟩, ?_⟩
  walk_at "dd"
  refine .str hns ?_
  walk_at "dd"
  refine w_lenS (by decide +kernel) ?_
  walk_at "dd"
  refine take_d (hs.set ic1).app (by decide +kernel) (by decide +kernel) fun c2 k ic2 k0 k1 => ?_
  rw [srcX slt]
  have hL : (" !\"#$&'()*+,./:;<=>?@ABCDEFGHIJKLMNOPQRSTUVWXYZ[\\]^_`{|}~\n" : Str).cps.toList.length = 58 := by decide +kernel
  have hL2 : (" !\"#$&'()*+,./:;<=>?@ABCDEFGHIJKLMNOPQRSTUVWXYZ[\\]^_`{|}~\n" : Str).length = 58 := by decide +kernel
  rw [hL2] at k1
  obtain ⟨d, hd, e2⟩ := at_ex (l := (" !\"#$&'()*+,./:;<=>?@ABCDEFGHIJKLMNOPQRSTUVWXYZ[\\]^_`{|}~\n" : Str).cps.toList) k0 (by rw [hL]; exact k1)
  refine .str (by decide +kernel) e2 ?_
  have l2 := cutS_len n none (some p)
  have l3 := cutS_len n (some p) none
  have l4 : (cutS n none (some p) ++ (⟨#[d]⟩ : Str)).length = (cutS n none (some p)).length + 1 := app_len _ _
  refine .str (by show _ + 1 ≤ _; rw [sizeLine_eq]; omega) ?_
  walk_at "dd"
  refine .str hns ?_
  refine .str (by rw [l4, sizeLine_eq]; omega) ?_
  walk_at "dd"
  refine ⟨_, _, rfl, atX, by show 7 ≤ 1000000; decide, ?_⟩
  rw [setX]
  walk_at "dd"
  refine w_len (sq_h atX) ?_
  walk_at "dd"
  refine take_d (m := 8) (hs.set ic2).app (by decide) (by decide) fun c3 j ic3 j0 j8 => ?_
  rw [srcX slt]
  have fin : ∀ {z : Str} {G : Sto}, isLit z = false → z.length ≤ 100 → RtD S Q (.str z) (S.set s c3 ++ G) := fun hz hl => rt_src slt ic3 lt_str (hq c3 _ ic3 hz hl)
  have hj : j = 0 ∨ j = 1 ∨ j = 2 ∨ j = 3 ∨ j = 4 ∨ j = 5 ∨ j = 6 ∨ j = 7 := by omega
  have hno : ∀ x ∈ (" !\"#$&'()*+,./:;<=>?@ABCDEFGHIJKLMNOPQRSTUVWXYZ[\\]^_`{|}~\n" : Str).cps.toList, x ∉ signsL ∧ x ≠ 45 := by decide +kernel
  rcases hj with rfl | rfl | rfl | rfl | rfl | rfl | rfl | rfl
  · exact w_ix (sq_h atX) rfl (fin (by decide +kernel) (by decide))
  · exact w_ix (sq_h atX) rfl (fin (by decide +kernel) (by decide))
  · exact w_ix (sq_h atX) rfl (fin bad_two (by rw [app_len]; show 2 + _ ≤ 100; omega))
  · exact w_ix (sq_h atX) rfl (fin (bad_dash (c := c) (r := r ++ [45]) (by rw [app_toList, e]; rfl) c45 (by simp)) (by rw [app_len]; show _ + 1 ≤ 100; omega))
  · exact w_ix (sq_h atX) rfl (fin (bad_first (c := 55) (r := (cutS n (some 1) none).cps.toList) (by rw [app_toList]; rfl) (by decide) (by decide +kernel)) (by rw [app_len]; show 1 + _ ≤ 100; omega))
  · refine w_ix (sq_h atX) rfl (fin (bad_long (c := c) (r := (r ++ ("12345678" : Str).cps.toList).take 8) ?_ c45 (by omega)) (by omega))
    show (cutS (n ++ ("12345678" : Str)) none (some ((9 : Nat) : Int))).cps.toList = _
    rw [cut_to, app_toList, e]
    rfl
  · exact w_ix (sq_h atX) rfl (fin (bad_dlong (by omega)) (by rw [app_len]; show 1 + _ ≤ 100; omega))
  · refine w_ix (sq_h atX) rfl (fin (bad_sign (c := d) ?_ (hno d hd).1 (hno d hd).2) (by rw [app_len]; omega))
    rw [app_toList, app_toList]
    exact List.mem_append_left _ (List.mem_append_right _ List.mem_cons_self)
theorem len_law_bad {K : PySem.W.Frag} {vs : List V} {H : Hp} {Q : VK} {E : XK} (h : sp_law_bad K vs H Q E) : vs.length = 2 := lift_len (fun _ _ _ _ h => DSp2.len h) h
theorem pure_law_bad {K : PySem.W.Frag} {vs : List V} {H : Hp} {Q : VK} {E : XK} (h : sp_law_bad K vs H Q E) : t_law_bad K (fun cls d _ H => E cls d H) { nx := fun _ H' => Q .non H', rt := Q } (start N_law_bad vs) H := lift_def (N := N_law_bad) (fun W WD => sim_law_bad W WD) (fun _ _ _ _ h => dpure_law_bad h) _ _ _ _ h
def dsp_law_start : DSp := DSp3 fun x y w S Q _ => ∃ (n : Nat) (nm : List Str) (rows : List (List Str)), x = .hdl n ∧ rs S y = rowD nm ∧ rs S w = rowsD rows ∧ IsSrc S n ∧ 1 ≤ nm.length ∧ nm.length ≤ 100 ∧ (∀ z ∈ nm, isNm z = true) ∧ rows.length ≤ 100 ∧ (∀ r ∈ rows, Row6 r) ∧
  ∀ c (z : Str), IsSrcD c → isLit z = true → Q (.str z) (S.set n c)
abbrev sp_law_start (K : PySem.W.Frag) : Sp := lift K dsp_law_start
def N_law_start : List PySem.Str := ["_law_source_here", "_law_names_here", "_law_rows", "_law_literal", "_law_row_here"]
def t_law_start (K : PySem.W.Frag) (W : WX) : TS := (tSeq (tAsg (tOp (rAddP K) (tOp (rIxP K) (tLst (tCons (tC (.str "")) (tCons (tC (.str "-")) tNil))) (tCallS (sp_law_take K) (WE W) (tCons (tVar 0) (tCons (tC (.int 2)) tNil)))) (tOp (rIxP K) (tVar 1) (tCallS (sp_law_take K) (WE W) (tCons (tVar 0) (tCons (tCB (rLenP K) (tCons (tVar 1) tNil)) tNil))))) (gName 3))
    (tCut (tIfS (tTest (tOp rGtP (tCB (rLenP K) (tCons (tVar 2) tNil)) (tC (.int 0)))) (tSeq (tAsg (tOp (rIxP K) (tVar 2) (tCallS (sp_law_take K) (WE W) (tCons (tVar 0) (tCons (tCB (rLenP K) (tCons (tVar 2) tNil)) tNil)))) (gName 4))
    (tIfS (tTest (tOp rGtP (tCB (rLenP K) (tCons (tVar 4) tNil)) (tC (.int 1)))) (tRet (tOp (rIxP K) (tVar 4) (tCallS (sp_law_take K) (WE W) (tCons (tVar 0) (tCons (tCB (rLenP K) (tCons (tVar 4) tNil)) tNil))))) tNext)) tNext)
    (tRet (tVar 3))))
def d_law_start (WD : DW) : DS := (dSeq (dAsg (dOp (dAdd false) (dOp dIx (dLst false (dCons (dC (.str "")) (dCons (dC (.str "-")) dNil))) (dCall WD dsp_law_take (dCons (dVar 0) (dCons (dC (.int 2)) dNil)))) (dOp dIx (dVar 1) (dCall WD dsp_law_take (dCons (dVar 0) (dCons (dCB dLen (dCons (dVar 1) dNil)) dNil))))) (dgName 3))
    (dCut (dIfS (dTest (dOp dGt (dCB dLen (dCons (dVar 2) dNil)) (dC (.int 0)))) (dSeq (dAsg (dOp dIx (dVar 2) (dCall WD dsp_law_take (dCons (dVar 0) (dCons (dCB dLen (dCons (dVar 2) dNil)) dNil)))) (dgName 4))
    (dIfS (dTest (dOp dGt (dCB dLen (dCons (dVar 4) dNil)) (dC (.int 1)))) (dRet (dOp dIx (dVar 4) (dCall WD dsp_law_take (dCons (dVar 0) (dCons (dCB dLen (dCons (dVar 4) dNil)) dNil))))) dNext)) dNext)
    (dRet (dVar 3))))
theorem sim_law_start {K : PySem.W.Frag} (W : WX) (WD : DW) : SimS K W WD (t_law_start K W) (d_law_start WD) := by
  unfold t_law_start d_law_start
  exact (sim_seq (sim_asg (sim_op op_add (sim_op op_ix (sim_lst (sim_cons (sim_c fun _ _ => .str _) (sim_cons (sim_c fun _ _ => .str _) sim_nil))) (sim_callS (fun _ _ _ _ h => ad_law_take h) (sim_cons sim_var (sim_cons (sim_c fun _ _ => .int _) sim_nil)))) (sim_op op_ix sim_var (sim_callS (fun _ _ _ _ h => ad_law_take h) (sim_cons sim_var (sim_cons (sim_cb cb_len (sim_cons sim_var sim_nil)) sim_nil))))) sim_gname)
      (sim_cut (sim_ifS (sim_test (sim_op op_gt (sim_cb cb_len (sim_cons sim_var sim_nil)) (sim_c fun _ _ => .int _))) (sim_seq (sim_asg (sim_op op_ix sim_var (sim_callS (fun _ _ _ _ h => ad_law_take h) (sim_cons sim_var (sim_cons (sim_cb cb_len (sim_cons sim_var sim_nil)) sim_nil)))) sim_gname)
      (sim_ifS (sim_test (sim_op op_gt (sim_cb cb_len (sim_cons sim_var sim_nil)) (sim_c fun _ _ => .int _))) (sim_ret (sim_op op_ix sim_var (sim_callS (fun _ _ _ _ h => ad_law_take h) (sim_cons sim_var (sim_cons (sim_cb cb_len (sim_cons sim_var sim_nil)) sim_nil))))) sim_next)) sim_next)
      (sim_ret sim_var)))
theorem dash_two' {nm : Str} {k : Int} (hn : isNm nm = true) (h0 : 0 ≤ k) (h1 : k < 2) : ∃ d : Str, atI [D.str "", D.str "-"] k = some (.str d) ∧ d.length ≤ 1 ∧ isLit (d ++ nm) = true := by
  have : k = 0 ∨ k = 1 := by omega
  rcases this with rfl | rfl
  · have e : (("" : Str) ++ nm) = nm := str_ext (by rw [app_toList]; rfl)
    exact ⟨"", rfl, by decide, by rw [e]; exact nm_lit hn⟩
  · exact ⟨"-", rfl, by decide, neg_lit hn⟩
theorem dpure_law_start {ds : List D} {S : Sto} {Q : DQ} {E : DX} (h : dsp_law_start ds S Q E) : d_law_start (ExD S E) { nx := fun _ S' => RtD S Q .non S', rt := RtD S Q, b := S.length } (startD N_law_start.length ds) S := by
  obtain ⟨x, y, w, rfl, n, nm, rows, rfl, ey, ew, hs, n1, nl, hn, few, h6, hq⟩ := h
  show d_law_start _ _ [some (.hdl n), some y, some w, none, none] S
  unfold d_law_start
  have nlt := hs.lt
  have ew' : ∀ {c : D}, rs (S.set n c) w = rowsD rows := fun {c} => by
    rcases rs_hd ew (fun e => by cases e) with e | ⟨k, rfl, e⟩
    · subst e; rfl
    · refine rs_h (at_ne e fun h => ?_)
      subst h
      obtain ⟨c', e1, cells, i, cur, cnt, mode, rfl, _⟩ := hs
      rw [e1] at e
      have e := Option.some.inj e
      injection e with e
      cases rows with
      | nil => cases e
      | cons a r =>
        injection e with h1 h2
        cases r with
        | nil => cases h2
        | cons b r => injection h2 with h3 _; cases h3
  have fin : ∀ {c : D} {z : Str}, IsSrcD c → isLit z = true → RtD S Q (.str z) (S.set n c) := fun {c z} ic hz => by
    have := rt_src (G := []) nlt ic lt_str (hq c z ic hz)
    rwa [List.append_nil] at this
  walk_at "dd"
  refine ⟨two_le, ?_⟩
  walk_at "dd"
  refine take_d hs (by decide) (by decide) fun c1 k ic1 k0 k2 => ?_
  obtain ⟨_, _, _, _⟩ := (⟨trivial, trivial, trivial, trivial⟩ : True ∧ True ∧ True ∧ True)
  have pick : ∃ d : Str, atI [D.str "", D.str "-"] k = some (.str d) := by
    have : k = 0 ∨ k = 1 := by omega
    rcases this with rfl | rfl
    · exact ⟨"", rfl⟩
    · exact ⟨"-", rfl⟩
  obtain ⟨d0, e0⟩ := pick
  refine w_ix sq_l e0 ?_
  walk_at "dd"
  refine w_len (.inl (rs_setR hs ey)) ?_
  walk_at "dd"
  rw [List.length_map]
  refine take_d (hs.set ic1) (by omega) (by omega) fun c2 a ic2 a0 a1 => ?_
  rw [List.set_set]
  obtain ⟨a, rfl⟩ := Int.eq_ofNat_of_zero_le a0
  obtain ⟨z, hz⟩ : ∃ z, nm[a]? = some z := ⟨_, List.getElem?_eq_getElem (by omega)⟩
  have N := hn z (List.mem_of_getElem? hz)
  have n8 := nm_short N
  obtain ⟨d1, e1, e2, e3⟩ := dash_two' N k0 k2
  rw [e0] at e1
  cases e1
  refine w_ix (y := .str z) (ds := nm.map .str) (.inl (rs_setR hs ey)) (atI_nat (by rw [List.getElem?_map, hz]; rfl)) ?_
  walk_at "dd"
  refine .str (by show d0.length + z.length ≤ _; rw [sizeLine_eq]; omega) ?_
  walk_at "dd"
  refine w_cut (fun ρ' S' => ∃ v4, ρ' = [some (.hdl n), some y, some w, some (.str (d0 ++ z)), v4] ∧ ∃ c3, IsSrcD c3 ∧ S' = S.set n c3) ?_ ?_
  rotate_left
  · rintro ρ' S' ⟨v4, rfl, c3, ic3, rfl⟩
    walk_at "dd"
    exact fin ic3 e3
  walk_at "dd"
  refine w_len (.inl ew') ?_
  walk_at "dd"
  rw [List.length_map]
  refine s_itd (fun hp => ?_) (fun hp => ?_)
  rotate_left
  · walk_at "dd"
    exact ⟨_, rfl, c2, ic2, rfl⟩
  walk_at "dd"
  refine w_len (.inl ew') ?_
  walk_at "dd"
  rw [List.length_map]
  refine take_d (hs.set ic2) (by omega) (by omega) fun c3 b ic3 b0 b1 => ?_
  rw [List.set_set]
  obtain ⟨b, rfl⟩ := Int.eq_ofNat_of_zero_le b0
  obtain ⟨r, hr⟩ : ∃ r, rows[b]? = some r := ⟨_, List.getElem?_eq_getElem (by omega)⟩
  have R := h6 r (List.mem_of_getElem? hr)
  have l6 := R.len
  refine w_ix (y := rowD r) (.inl ew') (atI_nat (by rw [List.getElem?_map, hr]; rfl)) ?_
  walk_at "dd"
  refine w_len (ds := r.map .str) (.inl rfl) ?_
  walk_at "dd"
  rw [List.length_map]
  refine s_itd (fun hp => ?_) (fun hp => ?_)
  rotate_left
  · walk_at "dd"
    exact ⟨_, rfl, c3, ic3, rfl⟩
  walk_at "dd"
  refine w_len (ds := r.map .str) (.inl rfl) ?_
  walk_at "dd"
  rw [List.length_map]
  refine take_d (hs.set ic3) (by omega) (by omega) fun c4 q ic4 q0 q1 => ?_
  rw [List.set_set]
  obtain ⟨q, rfl⟩ := Int.eq_ofNat_of_zero_le q0
  obtain ⟨z', hz'⟩ : ∃ z, r[q]? = some z := ⟨_, List.getElem?_eq_getElem (by omega)⟩
  refine w_ix (y := .str z') (ds := r.map .str) (.inl rfl) (atI_nat (by rw [List.getElem?_map, hz']; rfl)) ?_
  exact fin ic4 (R.lit z' (List.mem_of_getElem? hz'))
theorem len_law_start {K : PySem.W.Frag} {vs : List V} {H : Hp} {Q : VK} {E : XK} (h : sp_law_start K vs H Q E) : vs.length = 3 := lift_len (fun _ _ _ _ h => DSp3.len h) h
theorem pure_law_start {K : PySem.W.Frag} {vs : List V} {H : Hp} {Q : VK} {E : XK} (h : sp_law_start K vs H Q E) : t_law_start K (fun cls d _ H => E cls d H) { nx := fun _ H' => Q .non H', rt := Q } (start N_law_start vs) H := lift_def (N := N_law_start) (fun W WD => sim_law_start W WD) (fun _ _ _ _ h => dpure_law_start h) _ _ _ _ h
def endL (s : Str) (ls : List Lk) : Str := (ls.getLast?.map (·.2.2)).getD s
def dsp_law_walk : DSp := DSp4 fun x y w u S Q _ => ∃ (n : Nat) (ns : List Int) (rows : List (List Str)) (s : Str), x = .hdl n ∧ y = .lst (ns.map .int) ∧ w = rowsD rows ∧ u = .str s ∧ IsSrc S n ∧ ns.length = rows.length ∧ ns.Nodup ∧ rows.length ≤ 100 ∧ (∀ r ∈ rows, Row6 r) ∧ isLit s = true ∧
  ∀ c (ls : List Lk), IsSrcD c → ls.length ≤ 10 → chP (mkR ns rows) (endL s ls) s ls = true → (∀ l ∈ ls, isLit l.1 = true ∧ isLit l.2.2 = true) → Q (lksD ls) (S.set n c)
abbrev sp_law_walk (K : PySem.W.Frag) : Sp := lift K dsp_law_walk
def N_law_walk : List PySem.Str := ["_law_source_here", "_law_numbers_here", "_law_rows", "_law_start_here", "_law_links", "_law_place", "_law_k", "_law_options", "_law_option"]
def t_law_walk (K : PySem.W.Frag) (W : WX) : TS := (tSeq (tAsg (tLst tNil) (gName 4))
    (tSeq (tAsg (tVar 3) (gName 5))
    (tCut (tFor (iRng1 (tCons (tCallS (sp_law_take K) (WE W) (tCons (tVar 0) (tCons (tC (.int 10)) tNil))) tNil)) (gName 6) (tSeq (tAsg (tCallS (sp_law_needs K) (WE W) (tCons (tVar 1) (tCons (tVar 2) (tCons (tVar 5) tNil)))) (gName 7))
    (tIfS (tTest (tOp rGtP (tCB (rLenP K) (tCons (tVar 7) tNil)) (tC (.int 0)))) (tSeq (tAsg (tOp (rIxP K) (tVar 7) (tCallS (sp_law_take K) (WE W) (tCons (tVar 0) (tCons (tCB (rLenP K) (tCons (tVar 7) tNil)) tNil)))) (gName 8))
    (tSeq (tDrop (tBM K "list" rAppend (tVar 4) (tCons (tTup (tCons (tVar 5) (tCons (tOp (rIxP K) (tVar 8) (tC (.int 0))) (tCons (tOp (rIxP K) (tVar 8) (tC (.int 1))) tNil)))) tNil)))
    (tAsg (tOp (rIxP K) (tVar 8) (tC (.int 1))) (gName 5)))) tNext)))
    (tRet (tVar 4)))))
def d_law_walk (WD : DW) : DS := (dSeq (dAsg (dLst true dNil) (dgName 4))
    (dSeq (dAsg (dVar 3) (dgName 5))
    (dCut (dFor (dRng1 (dCons (dCall WD dsp_law_take (dCons (dVar 0) (dCons (dC (.int 10)) dNil))) dNil)) (dgName 6) (dSeq (dAsg (dCall WD dsp_law_needs (dCons (dVar 1) (dCons (dVar 2) (dCons (dVar 5) dNil)))) (dgName 7))
    (dIfS (dTest (dOp dGt (dCB dLen (dCons (dVar 7) dNil)) (dC (.int 0)))) (dSeq (dAsg (dOp dIx (dVar 7) (dCall WD dsp_law_take (dCons (dVar 0) (dCons (dCB dLen (dCons (dVar 7) dNil)) dNil)))) (dgName 8))
    (dSeq (dDrop (dApp (dVar 4) (dCons (dTup (dCons (dVar 5) (dCons (dOp dIx (dVar 8) (dC (.int 0))) (dCons (dOp dIx (dVar 8) (dC (.int 1))) dNil)))) dNil)))
    (dAsg (dOp dIx (dVar 8) (dC (.int 1))) (dgName 5)))) dNext)))
    (dRet (dVar 4)))))
theorem sim_law_walk {K : PySem.W.Frag} (W : WX) (WD : DW) : SimS K W WD (t_law_walk K W) (d_law_walk WD) := by
  unfold t_law_walk d_law_walk
  exact (sim_seq (sim_asg (sim_lst sim_nil) sim_gname)
      (sim_seq (sim_asg sim_var sim_gname)
      (sim_cut (sim_for (sim_rng1 (sim_cons (sim_callS (fun _ _ _ _ h => ad_law_take h) (sim_cons sim_var (sim_cons (sim_c fun _ _ => .int _) sim_nil))) sim_nil)) sim_gname (sim_seq (sim_asg (sim_callS (fun _ _ _ _ h => h) (sim_cons sim_var (sim_cons sim_var (sim_cons sim_var sim_nil)))) sim_gname)
      (sim_ifS (sim_test (sim_op op_gt (sim_cb cb_len (sim_cons sim_var sim_nil)) (sim_c fun _ _ => .int _))) (sim_seq (sim_asg (sim_op op_ix sim_var (sim_callS (fun _ _ _ _ h => ad_law_take h) (sim_cons sim_var (sim_cons (sim_cb cb_len (sim_cons sim_var sim_nil)) sim_nil)))) sim_gname)
      (sim_seq (sim_drop (sim_app sim_var (sim_cons (sim_tup (sim_cons sim_var (sim_cons (sim_op op_ix sim_var (sim_c fun _ _ => .int _)) (sim_cons (sim_op op_ix sim_var (sim_c fun _ _ => .int _)) sim_nil)))) sim_nil)))
      (sim_asg (sim_op op_ix sim_var (sim_c fun _ _ => .int _)) sim_gname))) sim_next)))
      (sim_ret sim_var))))
theorem chP_snoc {rows : List DRow} {g : Str} : ∀ {ls : List Lk} {s : Str} {x : Lk}, chP rows g s (ls ++ [x]) = (chP rows x.1 s ls && (linkP rows x && decide (x.2.2 = g)))
  | [], s, x => by
    show (decide (x.1 = s) && (linkP rows x && decide (x.2.2 = g))) = (decide (s = x.1) && _)
    rw [show decide (x.1 = s) = decide (s = x.1) from decide_eq_decide.mpr ⟨Eq.symm, Eq.symm⟩]
  | l :: ls, s, x => by
    have ih := chP_snoc (rows := rows) (g := g) (ls := ls) (s := l.2.2) (x := x)
    show (decide (l.1 = s) && (linkP rows l && chP rows g l.2.2 (ls ++ [x]))) = ((decide (l.1 = s) && (linkP rows l && chP rows x.1 l.2.2 ls)) && _)
    rw [ih, Bool.and_assoc, Bool.and_assoc]
theorem need_link {ns : List Int} {rows : List (List Str)} (hl : ns.length = rows.length) (nd : ns.Nodup) (h6 : ∀ r ∈ rows, Row6 r) {z : Str} {o : Int × Str} (h : o ∈ needL ns rows z) : linkP (mkR ns rows) (z, o.1, o.2) = true ∧ isLit o.2 = true := by
  unfold needL at h
  obtain ⟨p, hp, ho⟩ := List.mem_flatMap.mp h
  obtain ⟨i, hi⟩ := List.mem_iff_getElem?.mp hp
  obtain ⟨hj, hr⟩ := List.getElem?_zip_eq_some.mp hi
  have R := h6 p.2 (List.mem_of_getElem? hr)
  split at ho
  · rename_i hz
    obtain ⟨q, hq, rfl⟩ := List.mem_map.mp ho
    obtain ⟨hq1, hq2⟩ := List.mem_filter.mp hq
    have Z := R.lit q (litO_mem hq1)
    refine ⟨?_, flip_lit Z⟩
    unfold linkP
    dsimp only
    rw [rowD_mk nd hj hr]
    show (isLit (flip q) && (decide (z ∈ litO p.2) && (decide (flip (flip q) ∈ litO p.2) && !decide (flip (flip q) = z)))) = true
    rw [flip_lit Z, flip_flip Z, decide_eq_true (R.mem.mpr hz), decide_eq_true hq1, decide_eq_false (by simpa using hq2)]
    rfl
  · cases ho
theorem dpure_law_walk {ds : List D} {S : Sto} {Q : DQ} {E : DX} (h : dsp_law_walk ds S Q E) : d_law_walk (ExD S E) { nx := fun _ S' => RtD S Q .non S', rt := RtD S Q, b := S.length } (startD N_law_walk.length ds) S := by
  obtain ⟨x, y, w, u, rfl, n, ns, rows, s, rfl, rfl, rfl, rfl, hs, hl, nd, few, h6, lit, hq⟩ := h
  show d_law_walk _ _ [some (.hdl n), some (.lst (ns.map .int)), some (rowsD rows), some (.str s), none, none, none, none, none] S
  unfold d_law_walk
  have nlt := hs.lt
  have hs' := hs
  obtain ⟨c0, e0, ic0⟩ := hs'
  walk_at "dd"
  refine ⟨Nat.zero_le _, ?_⟩
  walk_at "dd"
  have eS : S ++ [D.lst []] = S.set n c0 ++ [lksD []] := by rw [set_self e0]; rfl
  rw [eS]
  refine w_cut (fun ρ' S' => ∃ (v5 v6 v7 v8 : Option D) (c : D) (ls : List Lk), ρ' = [some (.hdl n), some (.lst (ns.map .int)), some (rowsD rows), some (.str s), some (.hdl S.length), v5, v6, v7, v8] ∧ IsSrcD c ∧ S' = S.set n c ++ [lksD ls] ∧ ls.length ≤ 10 ∧ chP (mkR ns rows) (endL s ls) s ls = true ∧ ∀ l ∈ ls, isLit l.1 = true ∧ isLit l.2.2 = true) ?_ ?_
  rotate_left
  · rintro ρ' S' ⟨v5, v6, v7, v8, c, ls, rfl, ic, rfl, ll, hc, hlit⟩
    walk_at "dd"
    exact rt_treeS nlt ic (Nat.le_refl _) atX (ltL_map fun _ => lt_lk) (hq c ls ic ll hc hlit)
  walk_at "dd"
  refine take_d (hs.set ic0).app (by decide) (by decide) fun c1 k ic1 k0 k10 => ?_
  rw [srcX nlt]
  refine ⟨k, rfl, by omega, by omega, ?_⟩
  refine ⟨fun i ρ' S' => ∃ (v6 v7 v8 : Option D) (c : D) (ls : List Lk), ρ' = [some (.hdl n), some (.lst (ns.map .int)), some (rowsD rows), some (.str s), some (.hdl S.length), some (.str (endL s ls)), v6, v7, v8] ∧ IsSrcD c ∧ S' = S.set n c ++ [lksD ls] ∧ ls.length ≤ i ∧ isLit (endL s ls) = true ∧ chP (mkR ns rows) (endL s ls) s ls = true ∧ ∀ l ∈ ls, isLit l.1 = true ∧ isLit l.2.2 = true, ⟨none, none, none, c1, [], rfl, ic1, rfl, Nat.le_refl _, lit, decide_eq_true rfl, fun l h => (by cases h)⟩, fun _ _ _ _ _ => trivial, ?_, ?_⟩
  · rintro i d ρ' S' hd ⟨v6, v7, v8, c, ls, rfl, ic, rfl, ll, el, hc, hlit⟩
    obtain ⟨hi, hd2⟩ := rngD_at hd
    subst hd2
    walk_at "dd"
    refine ⟨_, _, _, rfl, ns, rows, endL s ls, rfl, rfl, rfl, hl, few, h6, ?_⟩
    walk_at "dd"
    have nl := need_lenL ns rows (endL s ls) h6
    refine w_len (ds := (needL ns rows (endL s ls)).map fun p => .tup [.int p.1, .str p.2]) (.inl rfl) ?_
    walk_at "dd"
    rw [List.length_map]
    refine s_itd (fun hp => ?_) (fun hp => ?_)
    rotate_left
    · walk_at "dd"
      exact ⟨_, _, _, c, ls, rfl, ic, rfl, by omega, el, hc, hlit⟩
    walk_at "dd"
    refine w_len (ds := (needL ns rows (endL s ls)).map fun p => .tup [.int p.1, .str p.2]) (.inl rfl) ?_
    walk_at "dd"
    rw [List.length_map]
    refine take_d (hs.set ic).app (by omega) (by omega) fun c2 a ic2 a0 a1 => ?_
    rw [srcX nlt]
    obtain ⟨a, rfl⟩ := Int.eq_ofNat_of_zero_le a0
    obtain ⟨o, ho⟩ : ∃ o, (needL ns rows (endL s ls))[a]? = some o := ⟨_, List.getElem?_eq_getElem (by omega)⟩
    obtain ⟨lk, ol⟩ := need_link hl nd h6 (List.mem_of_getElem? ho)
    refine w_ix (y := .tup [.int o.1, .str o.2]) (ds := (needL ns rows (endL s ls)).map fun p => .tup [.int p.1, .str p.2]) (.inl rfl) (atI_nat (by rw [List.getElem?_map, ho]; rfl)) ?_
    walk_at "dd"
    refine ⟨_, rfl, ⟨_, atX⟩, ?_⟩
    walk_at "dd"
    refine w_ix (y := .int o.1) sq_t rfl ?_
    walk_at "dd"
    refine w_ix (y := .str o.2) sq_t rfl ?_
    walk_at "dd"
    refine ⟨three_le, ?_⟩
    walk_at "dd"
    refine ⟨_, ls.map lkD, rfl, atX, by rw [List.length_map]; omega, ?_⟩
    rw [setX]
    walk_at "dd"
    refine w_ix (y := .str o.2) sq_t rfl ?_
    have ee : endL s (ls ++ [(endL s ls, o.1, o.2)]) = o.2 := by unfold endL; rw [List.getLast?_concat]; rfl
    refine ⟨_, _, _, c2, ls ++ [(endL s ls, o.1, o.2)], by rw [ee]; rfl, ic2, by unfold lksD; rw [List.map_append]; rfl, by rw [List.length_append]; simp; omega, by rw [ee]; exact ol, ?_, fun l hl => ?_⟩
    · rw [ee, chP_snoc]
      show (chP (mkR ns rows) (endL s ls) s ls && (linkP (mkR ns rows) (endL s ls, o.1, o.2) && decide (o.2 = o.2))) = true
      rw [hc, lk, decide_eq_true rfl]
      rfl
    · rcases List.mem_append.mp hl with hl | hl
      · exact hlit l hl
      · rw [List.mem_singleton.mp hl]; exact ⟨el, ol⟩
  · rintro ρ' S' ⟨v6, v7, v8, c, ls, rfl, ic, rfl, ll, el, hc, hlit⟩
    have ll : ls.length ≤ (rngD 0 k.toNat).length := ll
    rw [show (rngD 0 k.toNat).length = k.toNat by unfold rngD; rw [List.length_map, List.length_range]] at ll
    exact ⟨_, v6, v7, v8, c, ls, rfl, ic, rfl, by omega, hc, hlit⟩
theorem len_law_walk {K : PySem.W.Frag} {vs : List V} {H : Hp} {Q : VK} {E : XK} (h : sp_law_walk K vs H Q E) : vs.length = 4 := lift_len (fun _ _ _ _ h => DSp4.len h) h
theorem pure_law_walk {K : PySem.W.Frag} {vs : List V} {H : Hp} {Q : VK} {E : XK} (h : sp_law_walk K vs H Q E) : t_law_walk K (fun cls d _ H => E cls d H) { nx := fun _ H' => Q .non H', rt := Q } (start N_law_walk vs) H := lift_def (N := N_law_walk) (fun W WD => sim_law_walk W WD) (fun _ _ _ _ h => dpure_law_walk h) _ _ _ _ h
def mirL (ls : List Lk) : List Lk := ls.reverse.map fun l => (flip l.2.2, l.2.1, flip l.1)
def dsp_law_mirror : DSp := DSp1 fun x S Q _ => ∃ ls : List Lk, rs S x = lksD ls ∧ ls.length ≤ 1000 ∧ (∀ l ∈ ls, l.1.length ≤ 900 ∧ l.2.2.length ≤ 900) ∧ Q (lksD (mirL ls)) S
abbrev sp_law_mirror (K : PySem.W.Frag) : Sp := lift K dsp_law_mirror
def N_law_mirror : List PySem.Str := ["_law_links", "_law_link"]
def t_law_mirror (K : PySem.W.Frag) (W : WX) : TS := (tRet (tLc (iAnyP K (tRevL K (tVar 0))) (gName 1) tYes (tTup (tCons (tCall (sp_law_flip K) [] E0 (tCons (tOp (rIxP K) (tVar 1) (tC (.int 2))) tNil)) (tCons (tOp (rIxP K) (tVar 1) (tC (.int 1))) (tCons (tCall (sp_law_flip K) [] E0 (tCons (tOp (rIxP K) (tVar 1) (tC (.int 0))) tNil)) tNil)))) [1]))
def d_law_mirror (WD : DW) : DS := (dRet (dLc false (dAny (dRev false (dVar 0))) (dgName 1) dYes (dTup (dCons (dCall0 dsp_law_flip (dCons (dOp dIx (dVar 1) (dC (.int 2))) dNil)) (dCons (dOp dIx (dVar 1) (dC (.int 1))) (dCons (dCall0 dsp_law_flip (dCons (dOp dIx (dVar 1) (dC (.int 0))) dNil)) dNil)))) [1]))
theorem sim_law_mirror {K : PySem.W.Frag} (W : WX) (WD : DW) : SimS K W WD (t_law_mirror K W) (d_law_mirror WD) := by
  unfold t_law_mirror d_law_mirror
  exact (sim_ret (sim_lc (sim_any (sim_rev sim_var)) (simv_gname (by decide)) sim_yes (sim_tup (sim_cons (sim_call (fun _ _ _ _ h => ad_law_flip h) (sim_cons (sim_op op_ix sim_var (sim_c fun _ _ => .int _)) sim_nil)) (sim_cons (sim_op op_ix sim_var (sim_c fun _ _ => .int _)) (sim_cons (sim_call (fun _ _ _ _ h => ad_law_flip h) (sim_cons (sim_op op_ix sim_var (sim_c fun _ _ => .int _)) sim_nil)) sim_nil))))))
theorem link_mir {rows : List DRow} {l : Lk} (h : linkP rows l = true) (h1 : isLit l.1 = true) (h2 : isLit l.2.2 = true) : linkP rows (flip l.2.2, l.2.1, flip l.1) = true := by
  unfold linkP at h ⊢
  dsimp only
  cases e : rowD? rows l.2.1 with
  | none => rw [e] at h; cases h
  | some r =>
    rw [e] at h
    have h : (isLit l.2.2 && (decide (l.1 ∈ r.2) && (decide (flip l.2.2 ∈ r.2) && !decide (flip l.2.2 = l.1)))) = true := h
    rw [Bool.and_eq_true, Bool.and_eq_true, Bool.and_eq_true] at h
    obtain ⟨_, a1, a2, a3⟩ := h
    show (isLit (flip l.1) && (decide (flip l.2.2 ∈ r.2) && (decide (flip (flip l.1) ∈ r.2) && !decide (flip (flip l.1) = flip l.2.2)))) = true
    rw [flip_flip h1, flip_lit h1, a2, a1, decide_eq_false fun e => (by rw [decide_eq_true e.symm] at a3; cases a3)]
    rfl
theorem mir_chain {rows : List DRow} {g : Str} : ∀ {ls : List Lk} {s : Str}, chP rows g s ls = true → (∀ l ∈ ls, isLit l.1 = true ∧ isLit l.2.2 = true) → chP rows (flip s) (flip g) (mirL ls) = true
  | [], s, h, _ => by
    have e : s = g := of_decide_eq_true h
    subst e
    exact decide_eq_true rfl
  | l :: ls, s, h, hl => by
    have h : (decide (l.1 = s) && (linkP rows l && chP rows g l.2.2 ls)) = true := h
    rw [Bool.and_eq_true, Bool.and_eq_true] at h
    obtain ⟨a1, a2, a3⟩ := h
    have ih := mir_chain a3 fun k hk => hl k (List.mem_cons_of_mem _ hk)
    obtain ⟨z1, z2⟩ := hl l List.mem_cons_self
    have e : mirL (l :: ls) = mirL ls ++ [(flip l.2.2, l.2.1, flip l.1)] := by unfold mirL; rw [List.reverse_cons, List.map_append]; rfl
    rw [e, chP_snoc]
    show (chP rows (flip l.2.2) (flip g) (mirL ls) && (linkP rows (flip l.2.2, l.2.1, flip l.1) && decide (flip l.1 = flip s))) = true
    rw [ih, link_mir a2 z1 z2, of_decide_eq_true a1, decide_eq_true rfl]
    rfl
theorem dpure_law_mirror {ds : List D} {S : Sto} {Q : DQ} {E : DX} (h : dsp_law_mirror ds S Q E) : d_law_mirror (ExD S E) { nx := fun _ S' => RtD S Q .non S', rt := RtD S Q, b := S.length } (startD N_law_mirror.length ds) S := by
  obtain ⟨x, rfl, ls, ex, ll, lz, hq⟩ := h
  show d_law_mirror _ _ [some x, none] S
  unfold d_law_mirror
  walk_at "dd"
  refine w_rev ?_
  walk_at "dd"
  refine ⟨ls.map lkD, ex, ?_⟩
  rw [← List.map_reverse]
  walk_at "dd"
  refine .seq (ds := ls.reverse.map lkD) (.inl rfl) ?_
  refine lcd_map ls.reverse lkD (fun l => lkD (flip l.2.2, l.2.1, flip l.1)) rfl (by rw [List.length_reverse]; omega) (.inl rfl) (fun l hl Q' q => ?_) ?_
  · obtain ⟨z1, z2⟩ := lz l (List.mem_reverse.mp hl)
    walk_at "dd"
    refine w_ix (y := .str l.2.2) sq_t rfl ?_
    refine ⟨_, rfl, l.2.2, rfl, by omega, ?_⟩
    walk_at "dd"
    refine w_ix (y := .int l.2.1) sq_t rfl ?_
    walk_at "dd"
    refine w_ix (y := .str l.1) sq_t rfl ?_
    refine ⟨_, rfl, l.1, rfl, by omega, ?_⟩
    walk_at "dd"
    exact ⟨three_le, q⟩
  have e : (ls.reverse.map fun l => lkD (flip l.2.2, l.2.1, flip l.1)) = (mirL ls).map lkD := by unfold mirL; rw [List.map_map]; rfl
  rw [e]
  exact rt_same lt_lks hq
theorem len_law_mirror {K : PySem.W.Frag} {vs : List V} {H : Hp} {Q : VK} {E : XK} (h : sp_law_mirror K vs H Q E) : vs.length = 1 := lift_len (fun _ _ _ _ h => DSp1.len h) h
theorem pure_law_mirror {K : PySem.W.Frag} {vs : List V} {H : Hp} {Q : VK} {E : XK} (h : sp_law_mirror K vs H Q E) : t_law_mirror K (fun cls d _ H => E cls d H) { nx := fun _ H' => Q .non H', rt := Q } (start N_law_mirror vs) H := lift_def (N := N_law_mirror) (fun W WD => sim_law_mirror W WD) (fun _ _ _ _ h => dpure_law_mirror h) _ _ _ _ h
def dsp_law_put_at : DSp := DSp3 fun x y w S Q _ => ∃ (ls : List Lk) (k : Nat) (l : Lk), rs S x = lksD ls ∧ y = .int k ∧ w = lkD l ∧ ls.length ≤ 1000 ∧ Q (lksD (ls.take k ++ [l] ++ ls.drop (k + 1))) S
abbrev sp_law_put_at (K : PySem.W.Frag) : Sp := lift K dsp_law_put_at
def N_law_put_at : List PySem.Str := ["_law_links", "_law_at", "_law_link"]
def t_law_put_at (K : PySem.W.Frag) (W : WX) : TS := (tRet (tOp (rAddP K) (tOp (rAddP K) (tSl (rSlP K) (tVar 0) tNoPart (tPart (tVar 1))) (tLst (tCons (tVar 2) tNil))) (tSl (rSlP K) (tVar 0) (tPart (tOp (rAddP K) (tVar 1) (tC (.int 1)))) tNoPart)))
def d_law_put_at (WD : DW) : DS := (dRet (dOp (dAdd false) (dOp (dAdd false) (dSl false (dVar 0) dNoPart (dPart (dVar 1))) (dLst false (dCons (dVar 2) dNil))) (dSl false (dVar 0) (dPart (dOp (dAdd false) (dVar 1) (dC (.int 1)))) dNoPart)))
theorem sim_law_put_at {K : PySem.W.Frag} (W : WX) (WD : DW) : SimS K W WD (t_law_put_at K W) (d_law_put_at WD) := by
  unfold t_law_put_at d_law_put_at
  exact (sim_ret (sim_op op_add (sim_op op_add (sim_sl sim_var sim_nopart (sim_part sim_var)) (sim_lst (sim_cons sim_var sim_nil))) (sim_sl sim_var (sim_part (sim_op op_add sim_var (sim_c fun _ _ => .int _))) sim_nopart)))
theorem dpure_law_put_at {ds : List D} {S : Sto} {Q : DQ} {E : DX} (h : dsp_law_put_at ds S Q E) : d_law_put_at (ExD S E) { nx := fun _ S' => RtD S Q .non S', rt := RtD S Q, b := S.length } (startD N_law_put_at.length ds) S := by
  obtain ⟨x, y, w, rfl, ls, k, l, ex, rfl, rfl, ll, hq⟩ := h
  show d_law_put_at _ _ [some x, some (.int k), some (lkD l)] S
  unfold d_law_put_at
  walk_at "dd"
  refine .lst (ds := ls.map lkD) ex ?_
  rw [cutToA, ← List.map_take]
  walk_at "dd"
  refine ⟨one_le, ?_⟩
  refine .lst rfl rfl (by rw [List.length_map, List.length_take, sizeLine_eq]; show _ + 1 ≤ _; omega) ?_
  walk_at "dd"
  refine .lst (ds := ls.map lkD) ex ?_
  rw [show ((k : Int) + 1) = ((k + 1 : Nat) : Int) by omega, cutFromA, ← List.map_drop]
  refine .lst rfl rfl (by rw [List.length_append, List.length_map, List.length_map, List.length_take, List.length_drop, sizeLine_eq]; show _ + 1 + _ ≤ _; omega) ?_
  have e : (ls.take k).map lkD ++ [lkD l] ++ (ls.drop (k + 1)).map lkD = (ls.take k ++ [l] ++ ls.drop (k + 1)).map lkD := by simp
  rw [e]
  exact rt_same lt_lks hq
theorem len_law_put_at {K : PySem.W.Frag} {vs : List V} {H : Hp} {Q : VK} {E : XK} (h : sp_law_put_at K vs H Q E) : vs.length = 3 := lift_len (fun _ _ _ _ h => DSp3.len h) h
theorem pure_law_put_at {K : PySem.W.Frag} {vs : List V} {H : Hp} {Q : VK} {E : XK} (h : sp_law_put_at K vs H Q E) : t_law_put_at K (fun cls d _ H => E cls d H) { nx := fun _ H' => Q .non H', rt := Q } (start N_law_put_at vs) H := lift_def (N := N_law_put_at) (fun W WD => sim_law_put_at W WD) (fun _ _ _ _ h => dpure_law_put_at h) _ _ _ _ h
def dsp_law_spoilt : DSp := DSp5 fun x y w u v S Q _ => ∃ (n : Nat) (nm : List Str) (ns : List Int) (ls : List Lk) (k : Int), x = .hdl n ∧ y = rowD nm ∧ w = .lst (ns.map .int) ∧ u = lksD ls ∧ v = .int k ∧ IsSrc S n ∧ 1 ≤ nm.length ∧ (∀ z ∈ nm, isNm z = true) ∧ 1 ≤ ns.length ∧ ns.length ≤ 100 ∧ 1 ≤ ls.length ∧ ls.length ≤ 10 ∧ (∀ l ∈ ls, isLit l.1 = true ∧ isLit l.2.2 = true) ∧
  ∀ c (ls' : List Lk), IsSrcD c → ls'.length ≤ 20 → (∀ l ∈ ls', l.1.length ≤ 100 ∧ l.2.2.length ≤ 100) → Q (lksD ls') (S.set n c)
abbrev sp_law_spoilt (K : PySem.W.Frag) : Sp := lift K dsp_law_spoilt
def N_law_spoilt : List PySem.Str := ["_law_source_here", "_law_names_here", "_law_numbers_here", "_law_links", "_law_style", "_law_at", "_law_link", "_law_other", "_law_absent"]
def t_law_spoilt (K : PySem.W.Frag) (W : WX) : TS := (tSeq (tAsg (tCallS (sp_law_take K) (WE W) (tCons (tVar 0) (tCons (tCB (rLenP K) (tCons (tVar 3) tNil)) tNil))) (gName 5))
    (tSeq (tAsg (tOp (rIxP K) (tVar 3) (tVar 5)) (gName 6))
    (tCut (tIfS (tTest (tOp (rEqP K) (tVar 4) (tC (.int 0)))) (tRet (tOp (rAddP K) (tSl (rSlP K) (tVar 3) tNoPart (tPart (tVar 5))) (tSl (rSlP K) (tVar 3) (tPart (tOp (rAddP K) (tVar 5) (tC (.int 1)))) tNoPart))) tNext)
    (tCut (tIfS (tTest (tOp (rEqP K) (tVar 4) (tC (.int 1)))) (tRet (tOp (rAddP K) (tSl (rSlP K) (tVar 3) tNoPart (tPart (tOp (rAddP K) (tVar 5) (tC (.int 1))))) (tSl (rSlP K) (tVar 3) (tPart (tVar 5)) tNoPart))) tNext)
    (tCut (tIfS (tTest (tOp (rEqP K) (tVar 4) (tC (.int 2)))) (tSeq (tAsg (tOp (rIxP K) (tVar 2) (tCallS (sp_law_take K) (WE W) (tCons (tVar 0) (tCons (tCB (rLenP K) (tCons (tVar 2) tNil)) tNil)))) (gName 7))
    (tRet (tCallS (sp_law_put_at K) (WE W) (tCons (tVar 3) (tCons (tVar 5) (tCons (tTup (tCons (tOp (rIxP K) (tVar 6) (tC (.int 0))) (tCons (tVar 7) (tCons (tOp (rIxP K) (tVar 6) (tC (.int 2))) tNil)))) tNil)))))) tNext)
    (tCut (tIfS (tTest (tOp (rEqP K) (tVar 4) (tC (.int 3)))) (tSeq (tAsg (tLst (tCons (tC (.int 0)) (tCons (tUn (rU fun i => .int (-i)) (tOp (rIxP K) (tVar 6) (tC (.int 1)))) (tCons (tC (.int 1000)) (tCons (tOp (rAddP K) (tOp (rIxP K) (tVar 2) (tUn (rU fun i => .int (-i)) (tC (.int 1)))) (tC (.int 1))) (tCons (tOp (rAddP K) (tOp rPowP (tC (.int 10)) (tC (.int 15))) (tOp (rIxP K) (tVar 6) (tC (.int 1)))) tNil)))))) (gName 8))
    (tRet (tCallS (sp_law_put_at K) (WE W) (tCons (tVar 3) (tCons (tVar 5) (tCons (tTup (tCons (tOp (rIxP K) (tVar 6) (tC (.int 0))) (tCons (tOp (rIxP K) (tVar 8) (tCallS (sp_law_take K) (WE W) (tCons (tVar 0) (tCons (tC (.int 5)) tNil)))) (tCons (tOp (rIxP K) (tVar 6) (tC (.int 2))) tNil)))) tNil)))))) tNext)
    (tCut (tIfS (tTest (tOp (rEqP K) (tVar 4) (tC (.int 4)))) (tRet (tCallS (sp_law_put_at K) (WE W) (tCons (tVar 3) (tCons (tVar 5) (tCons (tTup (tCons (tOp (rIxP K) (tVar 6) (tC (.int 0))) (tCons (tOp (rIxP K) (tVar 6) (tC (.int 1))) (tCons (tCallS (sp_law_flip K) (WE W) (tCons (tOp (rIxP K) (tVar 6) (tC (.int 2))) tNil)) tNil)))) tNil))))) tNext)
    (tCut (tIfS (tTest (tOp (rEqP K) (tVar 4) (tC (.int 5)))) (tRet (tCallS (sp_law_put_at K) (WE W) (tCons (tVar 3) (tCons (tVar 5) (tCons (tTup (tCons (tCallS (sp_law_flip K) (WE W) (tCons (tOp (rIxP K) (tVar 6) (tC (.int 0))) tNil)) (tCons (tOp (rIxP K) (tVar 6) (tC (.int 1))) (tCons (tOp (rIxP K) (tVar 6) (tC (.int 2))) tNil)))) tNil))))) tNext)
    (tCut (tIfS (tTest (tOp (rEqP K) (tVar 4) (tC (.int 6)))) (tRet (tCallS (sp_law_put_at K) (WE W) (tCons (tVar 3) (tCons (tVar 5) (tCons (tTup (tCons (tOp (rIxP K) (tVar 6) (tC (.int 0))) (tCons (tOp (rIxP K) (tVar 6) (tC (.int 1))) (tCons (tCallS (sp_law_bad K) (WE W) (tCons (tVar 0) (tCons (tOp (rIxP K) (tVar 1) (tC (.int 0))) tNil))) tNil)))) tNil))))) tNext)
    (tCut (tIfS (tTest (tOp (rEqP K) (tVar 4) (tC (.int 7)))) (tRet (tCallS (sp_law_put_at K) (WE W) (tCons (tVar 3) (tCons (tVar 5) (tCons (tTup (tCons (tCallS (sp_law_bad K) (WE W) (tCons (tVar 0) (tCons (tOp (rIxP K) (tVar 1) (tC (.int 0))) tNil))) (tCons (tOp (rIxP K) (tVar 6) (tC (.int 1))) (tCons (tOp (rIxP K) (tVar 6) (tC (.int 2))) tNil)))) tNil))))) tNext)
    (tCut (tIfS (tTest (tOp (rEqP K) (tVar 4) (tC (.int 8)))) (tRet (tOp (rAddP K) (tSl (rSlP K) (tVar 3) (tPart (tVar 5)) tNoPart) (tSl (rSlP K) (tVar 3) tNoPart (tPart (tVar 5))))) tNext)
    (tRet (tRevL K (tVar 3))))))))))))))
def d_law_spoilt (WD : DW) : DS := (dSeq (dAsg (dCall WD dsp_law_take (dCons (dVar 0) (dCons (dCB dLen (dCons (dVar 3) dNil)) dNil))) (dgName 5))
    (dSeq (dAsg (dOp dIx (dVar 3) (dVar 5)) (dgName 6))
    (dCut (dIfS (dTest (dOp dEq (dVar 4) (dC (.int 0)))) (dRet (dOp (dAdd false) (dSl false (dVar 3) dNoPart (dPart (dVar 5))) (dSl false (dVar 3) (dPart (dOp (dAdd false) (dVar 5) (dC (.int 1)))) dNoPart))) dNext)
    (dCut (dIfS (dTest (dOp dEq (dVar 4) (dC (.int 1)))) (dRet (dOp (dAdd false) (dSl false (dVar 3) dNoPart (dPart (dOp (dAdd false) (dVar 5) (dC (.int 1))))) (dSl false (dVar 3) (dPart (dVar 5)) dNoPart))) dNext)
    (dCut (dIfS (dTest (dOp dEq (dVar 4) (dC (.int 2)))) (dSeq (dAsg (dOp dIx (dVar 2) (dCall WD dsp_law_take (dCons (dVar 0) (dCons (dCB dLen (dCons (dVar 2) dNil)) dNil)))) (dgName 7))
    (dRet (dCall WD dsp_law_put_at (dCons (dVar 3) (dCons (dVar 5) (dCons (dTup (dCons (dOp dIx (dVar 6) (dC (.int 0))) (dCons (dVar 7) (dCons (dOp dIx (dVar 6) (dC (.int 2))) dNil)))) dNil)))))) dNext)
    (dCut (dIfS (dTest (dOp dEq (dVar 4) (dC (.int 3)))) (dSeq (dAsg (dLst false (dCons (dC (.int 0)) (dCons (dUn dNeg (dOp dIx (dVar 6) (dC (.int 1)))) (dCons (dC (.int 1000)) (dCons (dOp (dAdd false) (dOp dIx (dVar 2) (dUn dNeg (dC (.int 1)))) (dC (.int 1))) (dCons (dOp (dAdd false) (dOp dPow (dC (.int 10)) (dC (.int 15))) (dOp dIx (dVar 6) (dC (.int 1)))) dNil)))))) (dgName 8))
    (dRet (dCall WD dsp_law_put_at (dCons (dVar 3) (dCons (dVar 5) (dCons (dTup (dCons (dOp dIx (dVar 6) (dC (.int 0))) (dCons (dOp dIx (dVar 8) (dCall WD dsp_law_take (dCons (dVar 0) (dCons (dC (.int 5)) dNil)))) (dCons (dOp dIx (dVar 6) (dC (.int 2))) dNil)))) dNil)))))) dNext)
    (dCut (dIfS (dTest (dOp dEq (dVar 4) (dC (.int 4)))) (dRet (dCall WD dsp_law_put_at (dCons (dVar 3) (dCons (dVar 5) (dCons (dTup (dCons (dOp dIx (dVar 6) (dC (.int 0))) (dCons (dOp dIx (dVar 6) (dC (.int 1))) (dCons (dCall WD dsp_law_flip (dCons (dOp dIx (dVar 6) (dC (.int 2))) dNil)) dNil)))) dNil))))) dNext)
    (dCut (dIfS (dTest (dOp dEq (dVar 4) (dC (.int 5)))) (dRet (dCall WD dsp_law_put_at (dCons (dVar 3) (dCons (dVar 5) (dCons (dTup (dCons (dCall WD dsp_law_flip (dCons (dOp dIx (dVar 6) (dC (.int 0))) dNil)) (dCons (dOp dIx (dVar 6) (dC (.int 1))) (dCons (dOp dIx (dVar 6) (dC (.int 2))) dNil)))) dNil))))) dNext)
    (dCut (dIfS (dTest (dOp dEq (dVar 4) (dC (.int 6)))) (dRet (dCall WD dsp_law_put_at (dCons (dVar 3) (dCons (dVar 5) (dCons (dTup (dCons (dOp dIx (dVar 6) (dC (.int 0))) (dCons (dOp dIx (dVar 6) (dC (.int 1))) (dCons (dCall WD dsp_law_bad (dCons (dVar 0) (dCons (dOp dIx (dVar 1) (dC (.int 0))) dNil))) dNil)))) dNil))))) dNext)
    (dCut (dIfS (dTest (dOp dEq (dVar 4) (dC (.int 7)))) (dRet (dCall WD dsp_law_put_at (dCons (dVar 3) (dCons (dVar 5) (dCons (dTup (dCons (dCall WD dsp_law_bad (dCons (dVar 0) (dCons (dOp dIx (dVar 1) (dC (.int 0))) dNil))) (dCons (dOp dIx (dVar 6) (dC (.int 1))) (dCons (dOp dIx (dVar 6) (dC (.int 2))) dNil)))) dNil))))) dNext)
    (dCut (dIfS (dTest (dOp dEq (dVar 4) (dC (.int 8)))) (dRet (dOp (dAdd false) (dSl false (dVar 3) (dPart (dVar 5)) dNoPart) (dSl false (dVar 3) dNoPart (dPart (dVar 5))))) dNext)
    (dRet (dRev false (dVar 3))))))))))))))
theorem sim_law_spoilt {K : PySem.W.Frag} (W : WX) (WD : DW) : SimS K W WD (t_law_spoilt K W) (d_law_spoilt WD) := by
  unfold t_law_spoilt d_law_spoilt
  exact (sim_seq (sim_asg (sim_callS (fun _ _ _ _ h => ad_law_take h) (sim_cons sim_var (sim_cons (sim_cb cb_len (sim_cons sim_var sim_nil)) sim_nil))) sim_gname)
      (sim_seq (sim_asg (sim_op op_ix sim_var sim_var) sim_gname)
      (sim_cut (sim_ifS (sim_test (sim_op op_eq sim_var (sim_c fun _ _ => .int _))) (sim_ret (sim_op op_add (sim_sl sim_var sim_nopart (sim_part sim_var)) (sim_sl sim_var (sim_part (sim_op op_add sim_var (sim_c fun _ _ => .int _))) sim_nopart))) sim_next)
      (sim_cut (sim_ifS (sim_test (sim_op op_eq sim_var (sim_c fun _ _ => .int _))) (sim_ret (sim_op op_add (sim_sl sim_var sim_nopart (sim_part (sim_op op_add sim_var (sim_c fun _ _ => .int _)))) (sim_sl sim_var (sim_part sim_var) sim_nopart))) sim_next)
      (sim_cut (sim_ifS (sim_test (sim_op op_eq sim_var (sim_c fun _ _ => .int _))) (sim_seq (sim_asg (sim_op op_ix sim_var (sim_callS (fun _ _ _ _ h => ad_law_take h) (sim_cons sim_var (sim_cons (sim_cb cb_len (sim_cons sim_var sim_nil)) sim_nil)))) sim_gname)
      (sim_ret (sim_callS (fun _ _ _ _ h => h) (sim_cons sim_var (sim_cons sim_var (sim_cons (sim_tup (sim_cons (sim_op op_ix sim_var (sim_c fun _ _ => .int _)) (sim_cons sim_var (sim_cons (sim_op op_ix sim_var (sim_c fun _ _ => .int _)) sim_nil)))) sim_nil)))))) sim_next)
      (sim_cut (sim_ifS (sim_test (sim_op op_eq sim_var (sim_c fun _ _ => .int _))) (sim_seq (sim_asg (sim_lst (sim_cons (sim_c fun _ _ => .int _) (sim_cons (sim_neg (sim_op op_ix sim_var (sim_c fun _ _ => .int _))) (sim_cons (sim_c fun _ _ => .int _) (sim_cons (sim_op op_add (sim_op op_ix sim_var (sim_neg (sim_c fun _ _ => .int _))) (sim_c fun _ _ => .int _)) (sim_cons (sim_op op_add (sim_op op_pow (sim_c fun _ _ => .int _) (sim_c fun _ _ => .int _)) (sim_op op_ix sim_var (sim_c fun _ _ => .int _))) sim_nil)))))) sim_gname)
      (sim_ret (sim_callS (fun _ _ _ _ h => h) (sim_cons sim_var (sim_cons sim_var (sim_cons (sim_tup (sim_cons (sim_op op_ix sim_var (sim_c fun _ _ => .int _)) (sim_cons (sim_op op_ix sim_var (sim_callS (fun _ _ _ _ h => ad_law_take h) (sim_cons sim_var (sim_cons (sim_c fun _ _ => .int _) sim_nil)))) (sim_cons (sim_op op_ix sim_var (sim_c fun _ _ => .int _)) sim_nil)))) sim_nil)))))) sim_next)
      (sim_cut (sim_ifS (sim_test (sim_op op_eq sim_var (sim_c fun _ _ => .int _))) (sim_ret (sim_callS (fun _ _ _ _ h => h) (sim_cons sim_var (sim_cons sim_var (sim_cons (sim_tup (sim_cons (sim_op op_ix sim_var (sim_c fun _ _ => .int _)) (sim_cons (sim_op op_ix sim_var (sim_c fun _ _ => .int _)) (sim_cons (sim_callS (fun _ _ _ _ h => ad_law_flip h) (sim_cons (sim_op op_ix sim_var (sim_c fun _ _ => .int _)) sim_nil)) sim_nil)))) sim_nil))))) sim_next)
      (sim_cut (sim_ifS (sim_test (sim_op op_eq sim_var (sim_c fun _ _ => .int _))) (sim_ret (sim_callS (fun _ _ _ _ h => h) (sim_cons sim_var (sim_cons sim_var (sim_cons (sim_tup (sim_cons (sim_callS (fun _ _ _ _ h => ad_law_flip h) (sim_cons (sim_op op_ix sim_var (sim_c fun _ _ => .int _)) sim_nil)) (sim_cons (sim_op op_ix sim_var (sim_c fun _ _ => .int _)) (sim_cons (sim_op op_ix sim_var (sim_c fun _ _ => .int _)) sim_nil)))) sim_nil))))) sim_next)
      (sim_cut (sim_ifS (sim_test (sim_op op_eq sim_var (sim_c fun _ _ => .int _))) (sim_ret (sim_callS (fun _ _ _ _ h => h) (sim_cons sim_var (sim_cons sim_var (sim_cons (sim_tup (sim_cons (sim_op op_ix sim_var (sim_c fun _ _ => .int _)) (sim_cons (sim_op op_ix sim_var (sim_c fun _ _ => .int _)) (sim_cons (sim_callS (fun _ _ _ _ h => h) (sim_cons sim_var (sim_cons (sim_op op_ix sim_var (sim_c fun _ _ => .int _)) sim_nil))) sim_nil)))) sim_nil))))) sim_next)
      (sim_cut (sim_ifS (sim_test (sim_op op_eq sim_var (sim_c fun _ _ => .int _))) (sim_ret (sim_callS (fun _ _ _ _ h => h) (sim_cons sim_var (sim_cons sim_var (sim_cons (sim_tup (sim_cons (sim_callS (fun _ _ _ _ h => h) (sim_cons sim_var (sim_cons (sim_op op_ix sim_var (sim_c fun _ _ => .int _)) sim_nil))) (sim_cons (sim_op op_ix sim_var (sim_c fun _ _ => .int _)) (sim_cons (sim_op op_ix sim_var (sim_c fun _ _ => .int _)) sim_nil)))) sim_nil))))) sim_next)
      (sim_cut (sim_ifS (sim_test (sim_op op_eq sim_var (sim_c fun _ _ => .int _))) (sim_ret (sim_op op_add (sim_sl sim_var (sim_part sim_var) sim_nopart) (sim_sl sim_var sim_nopart (sim_part sim_var)))) sim_next)
      (sim_ret (sim_rev sim_var)))))))))))))
theorem dpure_law_spoilt {ds : List D} {S : Sto} {Q : DQ} {E : DX} (h : dsp_law_spoilt ds S Q E) : d_law_spoilt (ExD S E) { nx := fun _ S' => RtD S Q .non S', rt := RtD S Q, b := S.length } (startD N_law_spoilt.length ds) S := by
  obtain ⟨x, y, w, u, v, rfl, n, nm, ns, ls, sty, rfl, rfl, rfl, rfl, rfl, hs, m1, hn, n1, n2, l1, l2, lit, hq⟩ := h
  show d_law_spoilt _ _ [some (.hdl n), some (rowD nm), some (.lst (ns.map .int)), some (lksD ls), some (.int sty), none, none, none, none] S
  unfold d_law_spoilt
  have nlt := hs.lt
  obtain ⟨a0, ha0⟩ : ∃ z, nm[0]? = some z := ⟨_, List.getElem?_eq_getElem (by omega)⟩
  obtain ⟨j1, hj1⟩ : ∃ z, ns[ns.length - 1]? = some z := ⟨_, List.getElem?_eq_getElem (by omega)⟩
  have N0 := hn a0 (List.mem_of_getElem? ha0)
  have ls9 : ∀ l ∈ ls, l.1.length ≤ 100 ∧ l.2.2.length ≤ 100 := fun l hl => by
    obtain ⟨h1, h2⟩ := lit l hl
    have := lit_len h1
    have := lit_len h2
    omega
  walk_at "dd"
  refine w_len (ds := ls.map lkD) sq_l ?_
  walk_at "dd"
  rw [List.length_map]
  refine take_d hs (by omega) (by omega) fun c1 a ic1 a0' a1 => ?_
  obtain ⟨a, rfl⟩ := Int.eq_ofNat_of_zero_le a0'
  obtain ⟨l, hl⟩ : ∃ z, ls[a]? = some z := ⟨_, List.getElem?_eq_getElem (by omega)⟩
  have hlm := List.mem_of_getElem? hl
  obtain ⟨lit1, lit2⟩ := lit l hlm
  have le1 := lit_len lit1
  have le2 := lit_len lit2
  walk_at "dd"
  refine w_ix (y := lkD l) (ds := ls.map lkD) sq_l (atI_nat (by rw [List.getElem?_map, hl]; rfl)) ?_
  have hs1 := hs.set ic1
  have fin : ∀ {c : D} {ls' : List Lk}, IsSrcD c → ls'.length ≤ 20 → (∀ l ∈ ls', l.1.length ≤ 100 ∧ l.2.2.length ≤ 100) → RtD S Q (lksD ls') (S.set n c) := fun {c ls'} ic h1 h2 => by
    have := rt_src (G := []) nlt ic lt_lks (hq c ls' ic h1 h2)
    rwa [List.append_nil] at this
  have put : ∀ {c : D} {k : Lk}, IsSrcD c → k.1.length ≤ 100 → k.2.2.length ≤ 100 → RtD S Q (lksD (ls.take a ++ [k] ++ ls.drop (a + 1))) (S.set n c) := fun {c k} ic h1 h2 => fin ic (by rw [List.length_append, List.length_append, List.length_take, List.length_drop]; show _ + 1 + _ ≤ _; omega) fun q hq => by
    rcases List.mem_append.mp hq with hq | hq
    · rcases List.mem_append.mp hq with hq | hq
      · exact ls9 q (List.mem_of_mem_take hq)
      · rw [List.mem_singleton.mp hq]; exact ⟨h1, h2⟩
    · exact ls9 q (List.mem_of_mem_drop hq)
  have both : ∀ {c : D} {b d : Nat}, IsSrcD c → RtD S Q (lksD (ls.take b ++ ls.drop d)) (S.set n c) := fun {c b d} ic => fin ic (by rw [List.length_append, List.length_take, List.length_drop]; omega) fun q hq => by
    rcases List.mem_append.mp hq with hq | hq
    · exact ls9 q (List.mem_of_mem_take hq)
    · exact ls9 q (List.mem_of_mem_drop hq)
  refine w_nocut ?_
  walk_at "dd"
  refine s_itd (fun h => ?_) (fun _ => ?_)
  · walk_at "dd"
    refine .lst (ds := ls.map lkD) rfl ?_
    rw [cutToA, ← List.map_take]
    walk_at "dd"
    refine .lst (ds := ls.map lkD) rfl ?_
    rw [show ((a : Int) + 1) = ((a + 1 : Nat) : Int) by omega, cutFromA, ← List.map_drop]
    walk_at "dd"
    refine .lst rfl rfl (by rw [List.length_map, List.length_map, List.length_take, List.length_drop, sizeLine_eq]; omega) ?_
    rw [← List.map_append]
    exact both ic1
  walk_at "dd"
  refine w_nocut ?_
  walk_at "dd"
  refine s_itd (fun h => ?_) (fun _ => ?_)
  · walk_at "dd"
    refine .lst (ds := ls.map lkD) rfl ?_
    rw [show ((a : Int) + 1) = ((a + 1 : Nat) : Int) by omega, cutToA, ← List.map_take]
    walk_at "dd"
    refine .lst (ds := ls.map lkD) rfl ?_
    rw [cutFromA, ← List.map_drop]
    walk_at "dd"
    refine .lst rfl rfl (by rw [List.length_map, List.length_map, List.length_take, List.length_drop, sizeLine_eq]; omega) ?_
    rw [← List.map_append]
    exact both ic1
  walk_at "dd"
  refine w_nocut ?_
  walk_at "dd"
  refine s_itd (fun h => ?_) (fun _ => ?_)
  · walk_at "dd"
    refine w_len (ds := ns.map .int) sq_l ?_
    walk_at "dd"
    rw [List.length_map]
    refine take_d hs1 (by omega) (by omega) fun c2 b ic2 b0 b1 => ?_
    rw [List.set_set]
    obtain ⟨b, rfl⟩ := Int.eq_ofNat_of_zero_le b0
    obtain ⟨j, hj⟩ : ∃ z, ns[b]? = some z := ⟨_, List.getElem?_eq_getElem (by omega)⟩
    refine w_ix (y := .int j) (ds := ns.map .int) sq_l (atI_nat (by rw [List.getElem?_map, hj]; rfl)) ?_
    walk_at "dd"
    refine w_ix (y := .str l.1) sq_t rfl ?_
    walk_at "dd"
    refine w_ix (y := .str l.2.2) sq_t rfl ?_
    walk_at "dd"
    refine ⟨three_le, ?_⟩
    exact ⟨_, _, _, rfl, ls, a, (l.1, j, l.2.2), rfl, rfl, rfl, by omega, put ic2 (by show l.1.length ≤ _; omega) (by show l.2.2.length ≤ _; omega)⟩
  walk_at "dd"
  refine w_nocut ?_
  walk_at "dd"
  refine s_itd (fun h => ?_) (fun _ => ?_)
  · walk_at "dd"
    refine w_ix (y := .int l.2.1) sq_t rfl ?_
    walk_at "dd"
    refine w_ix (y := .int j1) (ds := ns.map .int) sq_l (atI_neg 1 rfl (by decide) (by rw [List.length_map]; omega) (by rw [List.length_map, List.getElem?_map, hj1]; rfl)) ?_
    walk_at "dd"
    refine ⟨10, 15, rfl, rfl, by unfold CPow; decide, ?_⟩
    walk_at "dd"
    refine w_ix (y := .int l.2.1) sq_t rfl ?_
    walk_at "dd"
    refine ⟨by rw [sizeLine_eq]; show 5 ≤ _; omega, ?_⟩
    walk_at "dd"
    refine w_ix (y := .str l.1) sq_t rfl ?_
    walk_at "dd"
    refine take_d (m := 5) hs1 (by decide) (by decide) fun c2 b ic2 b0 b1 => ?_
    rw [List.set_set]
    obtain ⟨i, hi⟩ : ∃ i : Int, atI [D.int 0, D.int (-l.2.1), D.int 1000, D.int (j1 + 1), D.int (10 ^ 15 + l.2.1)] b = some (.int i) := by
      have : b = 0 ∨ b = 1 ∨ b = 2 ∨ b = 3 ∨ b = 4 := by omega
      rcases this with rfl | rfl | rfl | rfl | rfl <;> exact ⟨_, rfl⟩
    refine w_ix (y := .int i) sq_l hi ?_
    walk_at "dd"
    refine w_ix (y := .str l.2.2) sq_t rfl ?_
    walk_at "dd"
    refine ⟨three_le, ?_⟩
    exact ⟨_, _, _, rfl, ls, a, (l.1, i, l.2.2), rfl, rfl, rfl, by omega, put ic2 (by show l.1.length ≤ _; omega) (by show l.2.2.length ≤ _; omega)⟩
  walk_at "dd"
  refine w_nocut ?_
  walk_at "dd"
  refine s_itd (fun h => ?_) (fun _ => ?_)
  · walk_at "dd"
    refine w_ix (y := .str l.1) sq_t rfl ?_
    walk_at "dd"
    refine w_ix (y := .int l.2.1) sq_t rfl ?_
    walk_at "dd"
    refine w_ix (y := .str l.2.2) sq_t rfl ?_
    walk_at "dd"
    refine ⟨_, rfl, l.2.2, rfl, by omega, ?_⟩
    walk_at "dd"
    refine ⟨three_le, ?_⟩
    have := flip_le l.2.2
    exact ⟨_, _, _, rfl, ls, a, (l.1, l.2.1, flip l.2.2), rfl, rfl, rfl, by omega, put ic1 (by show l.1.length ≤ _; omega) (by show (flip l.2.2).length ≤ _; omega)⟩
  walk_at "dd"
  refine w_nocut ?_
  walk_at "dd"
  refine s_itd (fun h => ?_) (fun _ => ?_)
  · walk_at "dd"
    refine w_ix (y := .str l.1) sq_t rfl ?_
    walk_at "dd"
    refine ⟨_, rfl, l.1, rfl, by omega, ?_⟩
    walk_at "dd"
    refine w_ix (y := .int l.2.1) sq_t rfl ?_
    walk_at "dd"
    refine w_ix (y := .str l.2.2) sq_t rfl ?_
    walk_at "dd"
    refine ⟨three_le, ?_⟩
    have := flip_le l.1
    exact ⟨_, _, _, rfl, ls, a, (flip l.1, l.2.1, l.2.2), rfl, rfl, rfl, by omega, put ic1 (by show (flip l.1).length ≤ _; omega) (by show l.2.2.length ≤ _; omega)⟩
  walk_at "dd"
  refine w_nocut ?_
  walk_at "dd"
  refine s_itd (fun h => ?_) (fun _ => ?_)
  · walk_at "dd"
    refine w_ix (y := .str l.1) sq_t rfl ?_
    walk_at "dd"
    refine w_ix (y := .int l.2.1) sq_t rfl ?_
    walk_at "dd"
    refine w_ix (y := .str a0) (ds := nm.map .str) (.inl rfl) (atI_nat (j := 0) (by rw [List.getElem?_map, ha0]; rfl)) ?_
    walk_at "dd"
    refine ⟨_, _, rfl, n, a0, rfl, rfl, hs1, N0, fun c2 z ic2 bz zl => ?_⟩
    rw [List.set_set]
    walk_at "dd"
    refine ⟨three_le, ?_⟩
    exact ⟨_, _, _, rfl, ls, a, (l.1, l.2.1, z), rfl, rfl, rfl, by omega, put ic2 (by show l.1.length ≤ _; omega) zl⟩
  walk_at "dd"
  refine w_nocut ?_
  walk_at "dd"
  refine s_itd (fun h => ?_) (fun _ => ?_)
  · walk_at "dd"
    refine w_ix (y := .str a0) (ds := nm.map .str) (.inl rfl) (atI_nat (j := 0) (by rw [List.getElem?_map, ha0]; rfl)) ?_
    walk_at "dd"
    refine ⟨_, _, rfl, n, a0, rfl, rfl, hs1, N0, fun c2 z ic2 bz zl => ?_⟩
    rw [List.set_set]
    walk_at "dd"
    refine w_ix (y := .int l.2.1) sq_t rfl ?_
    walk_at "dd"
    refine w_ix (y := .str l.2.2) sq_t rfl ?_
    walk_at "dd"
    refine ⟨three_le, ?_⟩
    exact ⟨_, _, _, rfl, ls, a, (z, l.2.1, l.2.2), rfl, rfl, rfl, by omega, put ic2 zl (by show l.2.2.length ≤ _; omega)⟩
  walk_at "dd"
  refine w_nocut ?_
  walk_at "dd"
  refine s_itd (fun h => ?_) (fun _ => ?_)
  · walk_at "dd"
    refine .lst (ds := ls.map lkD) rfl ?_
    rw [cutFromA, ← List.map_drop]
    walk_at "dd"
    refine .lst (ds := ls.map lkD) rfl ?_
    rw [cutToA, ← List.map_take]
    walk_at "dd"
    refine .lst rfl rfl (by rw [List.length_map, List.length_map, List.length_take, List.length_drop, sizeLine_eq]; omega) ?_
    rw [← List.map_append]
    exact fin ic1 (by rw [List.length_append, List.length_take, List.length_drop]; omega) fun q hq => by
      rcases List.mem_append.mp hq with hq | hq
      · exact ls9 q (List.mem_of_mem_drop hq)
      · exact ls9 q (List.mem_of_mem_take hq)
  walk_at "dd"
  refine w_rev ?_
  walk_at "dd"
  refine ⟨ls.map lkD, rfl, ?_⟩
  rw [← List.map_reverse]
  exact fin ic1 (by rw [List.length_reverse]; omega) fun q hq => ls9 q (List.mem_reverse.mp hq)
theorem len_law_spoilt {K : PySem.W.Frag} {vs : List V} {H : Hp} {Q : VK} {E : XK} (h : sp_law_spoilt K vs H Q E) : vs.length = 5 := lift_len (fun _ _ _ _ h => DSp5.len h) h
theorem pure_law_spoilt {K : PySem.W.Frag} {vs : List V} {H : Hp} {Q : VK} {E : XK} (h : sp_law_spoilt K vs H Q E) : t_law_spoilt K (fun cls d _ H => E cls d H) { nx := fun _ H' => Q .non H', rt := Q } (start N_law_spoilt vs) H := lift_def (N := N_law_spoilt) (fun W WD => sim_law_spoilt W WD) (fun _ _ _ _ h => dpure_law_spoilt h) _ _ _ _ h
structure Jd (S : Sto) (n m : Nat) (y w : D) (ns : List Int) (rows : List (List Str)) (g : Int) : Prop where
  nm : rs S y = .lst (ns.map .int)
  rw : rs S w = rowsD rows
  bd : IsBD S n m (mkR ns rows) g
  ok : StOk ns rows g
structure LsOk (ls : List Lk) : Prop where
  len : ls.length ≤ 900
  sh : ∀ l ∈ ls, l.1.length ≤ 900 ∧ l.2.2.length ≤ 900
def dsp_law_judged : DSp := DSp6 fun x y w u v p S Q _ => ∃ (n m : Nat) (ns : List Int) (rows : List (List Str)) (g : Int) (s goal : Str) (ls : List Lk), x = .hdl n ∧ u = .str s ∧ v = .str goal ∧ rs S p = lksD ls ∧ Jd S n m y w ns rows g ∧ isLit s = true ∧ isLit goal = true ∧ LsOk ls ∧ Q (.bl true) S
abbrev sp_law_judged (K : PySem.W.Frag) : Sp := lift K dsp_law_judged
def N_law_judged : List PySem.Str := ["_law_book_here", "_law_numbers_here", "_law_rows", "_law_start_here", "_law_goal", "_law_links", "_law_due"]
def t_law_judged (K : PySem.W.Frag) (W : WX) : TS := (tSeq (tAsg (tCallS (sp_law_is_chain K) (WE W) (tCons (tVar 1) (tCons (tVar 2) (tCons (tVar 3) (tCons (tVar 4) (tCons (tVar 5) tNil)))))) (gName 6))
    (tCut (tIfS (tNot (tB (tCallS (sp_law_same K) (WE W) (tCons (tCallS (sp_is_chain K) (WE W) (tCons (tVar 0) (tCons (tVar 3) (tCons (tVar 4) (tCons (tCB (rListP K) (tCons (tVar 5) tNil)) tNil))))) (tCons (tVar 6) tNil))))) (tRet (tC (.bl false))) tNext)
    (tRet (tCallS (sp_law_same K) (WE W) (tCons (tCallS (sp_is_chain K) (WE W) (tCons (tVar 0) (tCons (tVar 3) (tCons (tVar 4) (tCons (tCB (rTupleP K) (tCons (tVar 5) tNil)) tNil))))) (tCons (tVar 6) tNil))))))
def d_law_judged (WD : DW) : DS := (dSeq (dAsg (dCall WD dsp_law_is_chain (dCons (dVar 1) (dCons (dVar 2) (dCons (dVar 3) (dCons (dVar 4) (dCons (dVar 5) dNil)))))) (dgName 6))
    (dCut (dIfS (dNot (dTest (dCall WD dsp_law_same (dCons (dCall WD dsp_is_chain (dCons (dVar 0) (dCons (dVar 3) (dCons (dVar 4) (dCons (dCB (dList false) (dCons (dVar 5) dNil)) dNil))))) (dCons (dVar 6) dNil))))) (dRet (dC (.bl false))) dNext)
    (dRet (dCall WD dsp_law_same (dCons (dCall WD dsp_is_chain (dCons (dVar 0) (dCons (dVar 3) (dCons (dVar 4) (dCons (dCB dTuple (dCons (dVar 5) dNil)) dNil))))) (dCons (dVar 6) dNil))))))
theorem sim_law_judged {K : PySem.W.Frag} (W : WX) (WD : DW) : SimS K W WD (t_law_judged K W) (d_law_judged WD) := by
  unfold t_law_judged d_law_judged
  exact (sim_seq (sim_asg (sim_callS (fun _ _ _ _ h => h) (sim_cons sim_var (sim_cons sim_var (sim_cons sim_var (sim_cons sim_var (sim_cons sim_var sim_nil)))))) sim_gname)
      (sim_cut (sim_ifS (sim_not (sim_tB (sim_callS (fun _ _ _ _ h => ad_law_same h) (sim_cons (sim_callS (fun _ _ _ _ h => h) (sim_cons sim_var (sim_cons sim_var (sim_cons sim_var (sim_cons (sim_cb cb_list (sim_cons sim_var sim_nil)) sim_nil))))) (sim_cons sim_var sim_nil))))) (sim_ret (sim_c fun _ _ => .bl _)) sim_next)
      (sim_ret (sim_callS (fun _ _ _ _ h => ad_law_same h) (sim_cons (sim_callS (fun _ _ _ _ h => h) (sim_cons sim_var (sim_cons sim_var (sim_cons sim_var (sim_cons (sim_cb cb_tuple (sim_cons sim_var sim_nil)) sim_nil))))) (sim_cons sim_var sim_nil))))))
theorem jd_lit {S : Sto} {n m : Nat} {y w : D} {ns : List Int} {rows : List (List Str)} {g : Int} (J : Jd S n m y w ns rows g) : ∀ r ∈ mkR ns rows, ∀ z ∈ r.2, isLit z = true := J.ok.bk.lit
theorem dpure_law_judged {ds : List D} {S : Sto} {Q : DQ} {E : DX} (h : dsp_law_judged ds S Q E) : d_law_judged (ExD S E) { nx := fun _ S' => RtD S Q .non S', rt := RtD S Q, b := S.length } (startD N_law_judged.length ds) S := by
  obtain ⟨x, y, w, u, v, p, rfl, n, m, ns, rows, g, s, goal, ls, rfl, rfl, rfl, ep, J, hs, hg, L, hq⟩ := h
  show d_law_judged _ _ [some (.hdl n), some y, some w, some (.str s), some (.str goal), some p, none] S
  unfold d_law_judged
  have s9 := lit_len hs
  have g9 := lit_len hg
  have ll := L.len
  have sh : ∀ l ∈ ls, l.1.length ≤ 1000 ∧ l.2.2.length ≤ 1000 := fun l hl => by have := L.sh l hl; omega
  have key := chR_eq (jd_lit J) hg ls s
  have ask : ∀ {u : D} {Q : DQ} {E : DX}, Sq S u (ls.map lkD) → Q (.bl (chR (mkR ns rows) goal s ls)) S → dsp_is_chain [.hdl n, .str s, .str goal, u] S Q E := fun {u Q E} e q => ⟨_, _, _, _, rfl, n, m, _, g, s, goal, ls, rfl, rfl, rfl, e, J.bd, J.ok.bk, by omega, by omega, by omega, sh, fun h => (by rw [hs] at h; cases h), fun _ h => (by rw [hg] at h; cases h), fun _ _ => by rw [← key]; exact q⟩
  walk_at "dd"
  refine ⟨_, _, _, _, _, rfl, ns, rows, s, goal, ls, J.nm, J.rw, rfl, rfl, ep, J.ok.len, asc_nd J.ok.asc, J.ok.few, J.ok.r6, by omega, sh, ?_⟩
  walk_at "dd"
  refine w_nocut ?_
  walk_at "dd"
  refine .seq (ds := ls.map lkD) (.inl ep) ?_
  walk_at "dd"
  refine ask (u := .lst (ls.map lkD)) (.inl rfl) ?_
  walk_at "dd"
  refine same_d rfl rfl plain_bl trivial ?_
  walk_at "dd"
  refine s_itF rfl ?_
  walk_at "dd"
  refine .seq (ds := ls.map lkD) (.inl ep) ?_
  walk_at "dd"
  refine ask (u := .tup (ls.map lkD)) (.inr rfl) ?_
  walk_at "dd"
  refine same_d rfl rfl plain_bl trivial ?_
  exact rt_same lt_bl hq
theorem len_law_judged {K : PySem.W.Frag} {vs : List V} {H : Hp} {Q : VK} {E : XK} (h : sp_law_judged K vs H Q E) : vs.length = 6 := lift_len (fun _ _ _ _ h => DSp6.len h) h
theorem pure_law_judged {K : PySem.W.Frag} {vs : List V} {H : Hp} {Q : VK} {E : XK} (h : sp_law_judged K vs H Q E) : t_law_judged K (fun cls d _ H => E cls d H) { nx := fun _ H' => Q .non H', rt := Q } (start N_law_judged vs) H := lift_def (N := N_law_judged) (fun W WD => sim_law_judged W WD) (fun _ _ _ _ h => dpure_law_judged h) _ _ _ _ h
def dsp_law_both : DSp := DSp6 fun x y w u v p S Q _ => ∃ (n m : Nat) (ns : List Int) (rows : List (List Str)) (g : Int) (s goal : Str) (ls : List Lk), x = .hdl n ∧ u = .str s ∧ v = .str goal ∧ rs S p = lksD ls ∧ Jd S n m y w ns rows g ∧ isLit s = true ∧ isLit goal = true ∧ ls.length ≤ 900 ∧ (∀ l ∈ ls, l.1.length ≤ 800 ∧ l.2.2.length ≤ 800) ∧ Q (.bl true) S
abbrev sp_law_both (K : PySem.W.Frag) : Sp := lift K dsp_law_both
def N_law_both : List PySem.Str := ["_law_book_here", "_law_numbers_here", "_law_rows", "_law_start_here", "_law_goal", "_law_links"]
def t_law_both (K : PySem.W.Frag) (W : WX) : TS := (tCut (tIfS (tNot (tB (tCallS (sp_law_judged K) (WE W) (tCons (tVar 0) (tCons (tVar 1) (tCons (tVar 2) (tCons (tVar 3) (tCons (tVar 4) (tCons (tVar 5) tNil))))))))) (tRet (tC (.bl false))) tNext)
    (tRet (tCallS (sp_law_judged K) (WE W) (tCons (tVar 0) (tCons (tVar 1) (tCons (tVar 2) (tCons (tCallS (sp_law_flip K) (WE W) (tCons (tVar 4) tNil)) (tCons (tCallS (sp_law_flip K) (WE W) (tCons (tVar 3) tNil)) (tCons (tCallS (sp_law_mirror K) (WE W) (tCons (tVar 5) tNil)) tNil)))))))))
def d_law_both (WD : DW) : DS := (dCut (dIfS (dNot (dTest (dCall WD dsp_law_judged (dCons (dVar 0) (dCons (dVar 1) (dCons (dVar 2) (dCons (dVar 3) (dCons (dVar 4) (dCons (dVar 5) dNil))))))))) (dRet (dC (.bl false))) dNext)
    (dRet (dCall WD dsp_law_judged (dCons (dVar 0) (dCons (dVar 1) (dCons (dVar 2) (dCons (dCall WD dsp_law_flip (dCons (dVar 4) dNil)) (dCons (dCall WD dsp_law_flip (dCons (dVar 3) dNil)) (dCons (dCall WD dsp_law_mirror (dCons (dVar 5) dNil)) dNil)))))))))
theorem sim_law_both {K : PySem.W.Frag} (W : WX) (WD : DW) : SimS K W WD (t_law_both K W) (d_law_both WD) := by
  unfold t_law_both d_law_both
  exact (sim_cut (sim_ifS (sim_not (sim_tB (sim_callS (fun _ _ _ _ h => h) (sim_cons sim_var (sim_cons sim_var (sim_cons sim_var (sim_cons sim_var (sim_cons sim_var (sim_cons sim_var sim_nil))))))))) (sim_ret (sim_c fun _ _ => .bl _)) sim_next)
      (sim_ret (sim_callS (fun _ _ _ _ h => h) (sim_cons sim_var (sim_cons sim_var (sim_cons sim_var (sim_cons (sim_callS (fun _ _ _ _ h => ad_law_flip h) (sim_cons sim_var sim_nil)) (sim_cons (sim_callS (fun _ _ _ _ h => ad_law_flip h) (sim_cons sim_var sim_nil)) (sim_cons (sim_callS (fun _ _ _ _ h => h) (sim_cons sim_var sim_nil)) sim_nil)))))))))
theorem mir_ok {ls : List Lk} (ll : ls.length ≤ 900) (sh : ∀ l ∈ ls, l.1.length ≤ 800 ∧ l.2.2.length ≤ 800) : LsOk (mirL ls) := by
  refine ⟨by unfold mirL; rw [List.length_map, List.length_reverse]; exact ll, fun l hl => ?_⟩
  unfold mirL at hl
  obtain ⟨k, hk, rfl⟩ := List.mem_map.mp hl
  have := sh k (List.mem_reverse.mp hk)
  have h1 := flip_le k.1
  have h2 := flip_le k.2.2
  exact ⟨by show (flip k.2.2).length ≤ _; omega, by show (flip k.1).length ≤ _; omega⟩
theorem dpure_law_both {ds : List D} {S : Sto} {Q : DQ} {E : DX} (h : dsp_law_both ds S Q E) : d_law_both (ExD S E) { nx := fun _ S' => RtD S Q .non S', rt := RtD S Q, b := S.length } (startD N_law_both.length ds) S := by
  obtain ⟨x, y, w, u, v, p, rfl, n, m, ns, rows, g, s, goal, ls, rfl, rfl, rfl, ep, J, hs, hg, ll, sh, hq⟩ := h
  show d_law_both _ _ [some (.hdl n), some y, some w, some (.str s), some (.str goal), some p] S
  unfold d_law_both
  have s9 := lit_len hs
  have g9 := lit_len hg
  refine w_nocut ?_
  walk_at "dd"
  refine ⟨_, _, _, _, _, _, rfl, n, m, ns, rows, g, s, goal, ls, rfl, rfl, rfl, ep, J, hs, hg, ⟨ll, fun l hl => by have := sh l hl; omega⟩, ?_⟩
  walk_at "dd"
  refine s_itF rfl ?_
  walk_at "dd"
  refine ⟨_, rfl, goal, rfl, by omega, ?_⟩
  walk_at "dd"
  refine ⟨_, rfl, s, rfl, by omega, ?_⟩
  walk_at "dd"
  refine ⟨_, rfl, ls, ep, by omega, fun l hl => by have := sh l hl; omega, ?_⟩
  walk_at "dd"
  exact ⟨_, _, _, _, _, _, rfl, n, m, ns, rows, g, flip goal, flip s, mirL ls, rfl, rfl, rfl, rfl, J, flip_lit hg, flip_lit hs, mir_ok ll sh, rt_same lt_bl hq⟩
theorem len_law_both {K : PySem.W.Frag} {vs : List V} {H : Hp} {Q : VK} {E : XK} (h : sp_law_both K vs H Q E) : vs.length = 6 := lift_len (fun _ _ _ _ h => DSp6.len h) h
theorem pure_law_both {K : PySem.W.Frag} {vs : List V} {H : Hp} {Q : VK} {E : XK} (h : sp_law_both K vs H Q E) : t_law_both K (fun cls d _ H => E cls d H) { nx := fun _ H' => Q .non H', rt := Q } (start N_law_both vs) H := lift_def (N := N_law_both) (fun W WD => sim_law_both W WD) (fun _ _ _ _ h => dpure_law_both h) _ _ _ _ h
def dsp_law_single_links : DSp := DSp4 fun x y w u S Q _ => ∃ (n m : Nat) (ns : List Int) (rows : List (List Str)) (g : Int) (k : Nat), x = .hdl n ∧ u = .int k ∧ Jd S n m y w ns rows g ∧ k < ns.length ∧ Q (.bl true) S
abbrev sp_law_single_links (K : PySem.W.Frag) : Sp := lift K dsp_law_single_links
def N_law_single_links : List PySem.Str := ["_law_book_here", "_law_numbers_here", "_law_rows", "_law_at", "_law_literals", "_law_literal", "_law_one", "_law_two"]
def t_law_single_links (K : PySem.W.Frag) (W : WX) : TS := (tSeq (tAsg (tLst tNil) (gName 4))
    (tCut (tFor (iAnyP K (tOp (rIxP K) (tVar 2) (tVar 3))) (gName 5) (tAsg (tOp (rAddP K) (tVar 4) (tLst (tCons (tVar 5) (tCons (tCallS (sp_law_flip K) (WE W) (tCons (tVar 5) tNil)) tNil)))) (gName 4)))
    (tCut (tFor (iAnyP K (tVar 4)) (gName 6) (tFor (iAnyP K (tVar 4)) (gName 7) (tIfS (tNot (tB (tCallS (sp_law_judged K) (WE W) (tCons (tVar 0) (tCons (tVar 1) (tCons (tVar 2) (tCons (tVar 6) (tCons (tVar 7) (tCons (tLst (tCons (tTup (tCons (tVar 6) (tCons (tOp (rIxP K) (tVar 1) (tVar 3)) (tCons (tVar 7) tNil)))) tNil)) tNil))))))))) (tRet (tC (.bl false))) tNext)))
    (tRet (tC (.bl true))))))
def d_law_single_links (WD : DW) : DS := (dSeq (dAsg (dLst false dNil) (dgName 4))
    (dCut (dFor (dAny (dOp dIx (dVar 2) (dVar 3))) (dgName 5) (dAsg (dOp (dAdd false) (dVar 4) (dLst false (dCons (dVar 5) (dCons (dCall WD dsp_law_flip (dCons (dVar 5) dNil)) dNil)))) (dgName 4)))
    (dCut (dFor (dAny (dVar 4)) (dgName 6) (dFor (dAny (dVar 4)) (dgName 7) (dIfS (dNot (dTest (dCall WD dsp_law_judged (dCons (dVar 0) (dCons (dVar 1) (dCons (dVar 2) (dCons (dVar 6) (dCons (dVar 7) (dCons (dLst false (dCons (dTup (dCons (dVar 6) (dCons (dOp dIx (dVar 1) (dVar 3)) (dCons (dVar 7) dNil)))) dNil)) dNil))))))))) (dRet (dC (.bl false))) dNext)))
    (dRet (dC (.bl true))))))
theorem sim_law_single_links {K : PySem.W.Frag} (W : WX) (WD : DW) : SimS K W WD (t_law_single_links K W) (d_law_single_links WD) := by
  unfold t_law_single_links d_law_single_links
  exact (sim_seq (sim_asg (sim_lst sim_nil) sim_gname)
      (sim_cut (sim_for (sim_any (sim_op op_ix sim_var sim_var)) sim_gname (sim_asg (sim_op op_add sim_var (sim_lst (sim_cons sim_var (sim_cons (sim_callS (fun _ _ _ _ h => ad_law_flip h) (sim_cons sim_var sim_nil)) sim_nil)))) sim_gname))
      (sim_cut (sim_for (sim_any sim_var) sim_gname (sim_for (sim_any sim_var) sim_gname (sim_ifS (sim_not (sim_tB (sim_callS (fun _ _ _ _ h => h) (sim_cons sim_var (sim_cons sim_var (sim_cons sim_var (sim_cons sim_var (sim_cons sim_var (sim_cons (sim_lst (sim_cons (sim_tup (sim_cons sim_var (sim_cons (sim_op op_ix sim_var sim_var) (sim_cons sim_var sim_nil)))) sim_nil)) sim_nil))))))))) (sim_ret (sim_c fun _ _ => .bl _)) sim_next)))
      (sim_ret (sim_c fun _ _ => .bl _)))))
theorem dpure_law_single_links {ds : List D} {S : Sto} {Q : DQ} {E : DX} (h : dsp_law_single_links ds S Q E) : d_law_single_links (ExD S E) { nx := fun _ S' => RtD S Q .non S', rt := RtD S Q, b := S.length } (startD N_law_single_links.length ds) S := by
  obtain ⟨x, y, w, u, rfl, n, m, ns, rows, g, k, rfl, rfl, J, hk, hq⟩ := h
  show d_law_single_links _ _ [some (.hdl n), some y, some w, some (.int k), none, none, none, none] S
  unfold d_law_single_links
  have hl := J.ok.len
  obtain ⟨r, hr⟩ : ∃ r, rows[k]? = some r := ⟨_, List.getElem?_eq_getElem (by omega)⟩
  obtain ⟨j, hj⟩ : ∃ j, ns[k]? = some j := ⟨_, List.getElem?_eq_getElem hk⟩
  have R := J.ok.r6 r (List.mem_of_getElem? hr)
  have l6 := R.len
  walk_at "dd"
  refine ⟨Nat.zero_le _, ?_⟩
  walk_at "dd"
  refine w_cut (fun ρ' S' => ∃ (v5 : Option D) (zs : List Str), ρ' = [some (.hdl n), some y, some w, some (.int k), some (rowD zs), v5, none, none] ∧ S = S' ∧ zs.length ≤ 12 ∧ ∀ z ∈ zs, isLit z = true) ?_ ?_
  · walk_at "dd"
    refine w_ix (y := rowD r) (.inl J.rw) (atI_nat (by rw [List.getElem?_map, hr]; rfl)) ?_
    refine .seq (ds := r.map .str) (.inl rfl) ?_
    refine ⟨fun i ρ' S' => ∃ (v5 : Option D) (zs : List Str), ρ' = [some (.hdl n), some y, some w, some (.int k), some (rowD zs), v5, none, none] ∧ S = S' ∧ zs.length = 2 * i ∧ ∀ z ∈ zs, isLit z = true, ⟨none, [], rfl, rfl, rfl, fun z h => (by cases h)⟩, fun _ _ _ _ _ => .inl rfl, ?_, ?_⟩
    · rintro i d ρ' S' hd ⟨v5, zs, rfl, rfl, zl, zlit⟩
      have hd : (r.map D.str)[i]? = some d := hd
      rw [List.getElem?_map] at hd
      cases ez : r[i]? with
      | none => rw [ez] at hd; cases hd
      | some z =>
        rw [ez] at hd
        cases hd
        have il := (List.getElem?_eq_some_iff.mp ez).1
        have Z := R.lit z (List.mem_of_getElem? ez)
        have z9 := lit_len Z
        walk_at "dd"
        refine ⟨_, rfl, z, rfl, by omega, ?_⟩
        walk_at "dd"
        refine ⟨two_le, ?_⟩
        refine .lst (ds := zs.map .str) rfl rfl (by rw [List.length_map, sizeLine_eq]; show _ + 2 ≤ _; omega) ?_
        walk_at "dd"
        refine ⟨_, zs ++ [z, flip z], by rw [show zs.map D.str ++ [D.str z, .str (flip z)] = (zs ++ [z, flip z]).map .str by simp]; rfl, rfl, by rw [List.length_append]; simp; omega, fun a ha => ?_⟩
        rcases List.mem_append.mp ha with ha | ha
        · exact zlit a ha
        · rcases List.mem_cons.mp ha with e | ha
          · rw [e]; exact Z
          · rw [List.mem_singleton.mp ha]; exact flip_lit Z
    · rintro ρ' S' ⟨v5, zs, rfl, rfl, zl, zlit⟩
      have zl : zs.length = 2 * (r.map D.str).length := zl
      rw [List.length_map] at zl
      exact ⟨v5, zs, rfl, rfl, by omega, zlit⟩
  rintro ρ' S' ⟨v5, zs, rfl, rfl, zl, zlit⟩
  refine w_cut (fun ρ' S' => ∃ (v6 v7 : Option D), ρ' = [some (.hdl n), some y, some w, some (.int k), some (rowD zs), v5, v6, v7] ∧ S = S') ?_ ?_
  rotate_left
  · rintro ρ' S' ⟨v6, v7, rfl, rfl⟩
    walk_at "dd"
    exact rt_same lt_bl hq
  walk_at "dd"
  refine .seq (ds := zs.map .str) (.inl rfl) ?_
  refine ⟨fun i ρ' S' => ∃ (v6 v7 : Option D), ρ' = [some (.hdl n), some y, some w, some (.int k), some (rowD zs), v5, v6, v7] ∧ S = S', ⟨none, none, rfl, rfl⟩, fun _ _ _ _ _ => .inl rfl, ?_, fun ρ' S' p => p⟩
  rintro i d ρ' S' hd ⟨v6, v7, rfl, rfl⟩
  have hd : (zs.map D.str)[i]? = some d := hd
  rw [List.getElem?_map] at hd
  cases ea : zs[i]? with
  | none => rw [ea] at hd; cases hd
  | some a =>
    rw [ea] at hd
    cases hd
    have A := zlit a (List.mem_of_getElem? ea)
    have a9 := lit_len A
    walk_at "dd"
    refine .seq (ds := zs.map .str) (.inl rfl) ?_
    refine ⟨fun i ρ' S' => ∃ (v7 : Option D), ρ' = [some (.hdl n), some y, some w, some (.int k), some (rowD zs), v5, some (.str a), v7] ∧ S = S', ⟨v7, rfl, rfl⟩, fun _ _ _ _ _ => .inl rfl, ?_, fun ρ' S' p => by obtain ⟨v7, e⟩ := p; exact ⟨_, v7, e⟩⟩
    rintro i' d ρ' S' hd ⟨v7, rfl, rfl⟩
    have hd : (zs.map D.str)[i']? = some d := hd
    rw [List.getElem?_map] at hd
    cases eb : zs[i']? with
    | none => rw [eb] at hd; cases hd
    | some b =>
      rw [eb] at hd
      cases hd
      have B := zlit b (List.mem_of_getElem? eb)
      have b9 := lit_len B
      walk_at "dd"
      refine w_ix (y := .int j) (.inl J.nm) (atI_nat (by rw [List.getElem?_map, hj]; rfl)) ?_
      walk_at "dd"
      refine ⟨three_le, ?_⟩
      walk_at "dd"
      refine ⟨one_le, ?_⟩
      refine ⟨_, _, _, _, _, _, rfl, n, m, ns, rows, g, a, b, [(a, j, b)], rfl, rfl, rfl, rfl, J, A, B, ⟨(show 1 ≤ 900 by decide), fun l hl => by rw [List.mem_singleton.mp hl]; exact ⟨by show a.length ≤ 900; omega, by show b.length ≤ 900; omega⟩⟩, ?_⟩
      walk_at "dd"
      refine s_itF rfl ?_
      walk_at "dd"
      exact ⟨_, rfl, rfl⟩
theorem len_law_single_links {K : PySem.W.Frag} {vs : List V} {H : Hp} {Q : VK} {E : XK} (h : sp_law_single_links K vs H Q E) : vs.length = 4 := lift_len (fun _ _ _ _ h => DSp4.len h) h
theorem pure_law_single_links {K : PySem.W.Frag} {vs : List V} {H : Hp} {Q : VK} {E : XK} (h : sp_law_single_links K vs H Q E) : t_law_single_links K (fun cls d _ H => E cls d H) { nx := fun _ H' => Q .non H', rt := Q } (start N_law_single_links vs) H := lift_def (N := N_law_single_links) (fun W WD => sim_law_single_links W WD) (fun _ _ _ _ h => dpure_law_single_links h) _ _ _ _ h
def dsp_law_refused : DSp := DSp5 fun x y w u v S Q _ => ∃ (n m : Nat) (ns : List Int) (rows : List (List Str)) (g : Int) (s goal t : Str) (ls : List Lk), x = .hdl n ∧ y = .str s ∧ w = .str goal ∧ rs S u = lksD ls ∧ v = .str t ∧ IsBD S n m (mkR ns rows) g ∧ StOk ns rows g ∧ s.length ≤ 1000 ∧ goal.length ≤ 1000 ∧ LsOk ls ∧ ((isLit s = false ∧ t = s) ∨ (isLit s = true ∧ isLit goal = false ∧ t = goal)) ∧ Q (.bl true) S
abbrev sp_law_refused (K : PySem.W.Frag) : Sp := lift K dsp_law_refused
def N_law_refused : List PySem.Str := ["_law_book_here", "_law_start_here", "_law_goal", "_law_links", "_law_text", "e"]
def t_law_refused (K : PySem.W.Frag) (W : WX) : TS := (tCut (fun D σ H => (fun W1 => (tDrop (tCallS (sp_is_chain K) (WE W1) (tCons (tVar 0) (tCons (tVar 1) (tCons (tVar 2) (tCons (tCB (rListP K) (tCons (tVar 3) tNil)) tNil))))))) (wAs K (.ref (ga K "BadLiteral")) 5 (fun a_ cls_ d_ => (tRet (tAndV (tCB (rIsEE K a_ cls_ d_) (tCons (tVar 5) (tCons (tC (.ref (ga K "HornError"))) tNil))) (tAndV (tNotV (tCB (rIsEE K a_ cls_ d_) (tCons (tVar 5) (tCons (tC (.ref (ga K "BadName"))) tNil)))) (tCallS (spH_law_same K) (WE (fun _ _ _ _ => False)) (tCons (tErrF (ga K "BadLiteral") "text" a_ cls_ d_ (tVar 5)) (tCons (tVar 4) tNil))))))) W D) D σ H)
    (tRet (tC (.bl false))))
def ts_law_refused (K : PySem.W.Frag) (W : WX) : Addr → Value → Option Addr → TS := fun a_ cls_ d_ => (tRet (tAndV (tCB (rIsEE K a_ cls_ d_) (tCons (tVar 5) (tCons (tC (.ref (ga K "HornError"))) tNil))) (tAndV (tNotV (tCB (rIsEE K a_ cls_ d_) (tCons (tVar 5) (tCons (tC (.ref (ga K "BadName"))) tNil)))) (tCallS (spH_law_same K) (WE (fun _ _ _ _ => False)) (tCons (tErrF (ga K "BadLiteral") "text" a_ cls_ d_ (tVar 5)) (tCons (tVar 4) tNil))))))
structure FxR (K : PySem.W.Frag) : Prop where
  m : PySem.W.exmOne K (.ref (ga K "BadLiteral")) (.ref (ga K "BadLiteral")) = some true
  x : ExcC K (ga K "BadLiteral")
  h : PySem.W.kitOne K (.ref (ga K "BadLiteral")) (.ref (ga K "HornError")) = some true
  l : PySem.W.kitOne K (.ref (ga K "BadLiteral")) (.ref (ga K "BadName")) = some false
inductive hd_law_refused : Str → List (Str × D) → DS
  | bad {z : Str} {F : DEnds} {ρ : Rho} {S : Sto} : 5 < ρ.length → ρ[4]? = some (some (.str z)) → F.rt (.bl true) S → hd_law_refused "BadLiteral" [("text", .str z)] F ρ S
theorem hs_law_refused {K : PySem.W.Frag} (Fx : FxR K) (W : WX) (WD : DW) : HandAs K W WD (.ref (ga K "BadLiteral")) 5 (ts_law_refused K W) hd_law_refused := by
  intro H0 A0 hW E F e σ ρ A S H C gs fs d x hd tf h
  have hlen := x.r.len
  cases h with
  | bad h6 hz ok =>
    rename_i z
    cases tf with | cons t tf =>
      cases tf
      cases t
      refine ⟨true, Fx.m, fun _ a ha => ?_, fun e => by cases e⟩
      have e5 : (σ.set 5 (some (.ref a)))[5]? = some (some (V.ref a)) := List.getElem?_set_self (by omega)
      have e1 : (σ.set 5 (some (.ref a)))[4]? = some (some (V.str z)) := by
        rw [List.getElem?_set_ne (by decide)]
        obtain ⟨v, ev, tv⟩ := x.r.at_ 4 _ hz
        cases tv
        exact ev
      unfold ts_law_refused
      walk_at "ss"
      refine s_var e5 ?_
      walk_at "ss"
      refine ⟨_, _, _, true, rfl, Fx.x, .inr ⟨d, _, rfl, hd⟩, rfl, fun u r => r, Fx.h, ?_⟩
      walk_at "ss"
      refine s_itT rfl ?_
      walk_at "ss"
      refine s_var e5 ?_
      walk_at "ss"
      refine ⟨_, _, _, false, rfl, Fx.x, .inr ⟨d, _, rfl, hd⟩, rfl, fun u r => r, Fx.l, ?_⟩
      walk_at "ss"
      refine s_itT rfl ?_
      walk_at "ss"
      refine s_var e5 ?_
      refine ⟨rfl, rfl, d, _, rfl, hd, ?_⟩
      walk_at "ss"
      refine s_var e1 ?_
      walk_at "ss"
      refine ⟨_, _, rfl, .str z, .str z, .str z, .str z, trivial, trivial, ?_⟩
      rw [sameB_eq rfl]
      exact e.rt _ _ _ _ _ _ _ x (.bl true) ok
def d_law_refused (WD : DW) : DS := (dCut (dTry (fun WD1 => (dDrop (dCall WD1 dsp_is_chain (dCons (dVar 0) (dCons (dVar 1) (dCons (dVar 2) (dCons (dCB (dList false) (dCons (dVar 3) dNil)) dNil))))))) hd_law_refused)
    (dRet (dC (.bl false))))
theorem sim_law_refused {K : PySem.W.Frag} (F : FxR K) (W : WX) (WD : DW) : SimS K W WD (t_law_refused K W) (d_law_refused WD) := by
  unfold t_law_refused d_law_refused
  exact (sim_cut (sim_tryAs (fun W1 WD1 => (sim_drop (sim_callS (fun _ _ _ _ h => h) (sim_cons sim_var (sim_cons sim_var (sim_cons sim_var (sim_cons (sim_cb cb_list (sim_cons sim_var sim_nil)) sim_nil)))))))
      (hs_law_refused F W WD))
      (sim_ret (sim_c fun _ _ => .bl _)))
theorem dpure_law_refused {ds : List D} {S : Sto} {Q : DQ} {E : DX} (h : dsp_law_refused ds S Q E) : d_law_refused (ExD S E) { nx := fun _ S' => RtD S Q .non S', rt := RtD S Q, b := S.length } (startD N_law_refused.length ds) S := by
  obtain ⟨x, y, w, u, v, rfl, n, m, ns, rows, g, s, goal, t, ls, rfl, rfl, rfl, eu, rfl, B, K, sl, gl, L, ht, hq⟩ := h
  show d_law_refused _ _ [some (.hdl n), some (.str s), some (.str goal), some u, some (.str t), none] S
  unfold d_law_refused
  have ll := L.len
  refine w_nocut ?_
  refine w_try ?_
  walk_at "dd"
  refine .seq (ds := ls.map lkD) (.inl eu) ?_
  refine ⟨_, _, _, _, rfl, n, m, _, g, s, goal, ls, rfl, rfl, rfl, .inl rfl, B, K.bk, sl, gl, by omega, fun l hl => by have := L.sh l hl; omega, fun h => ?_, fun h1 h2 => ?_, fun h1 h2 => ?_⟩
  · rcases ht with ⟨_, rfl⟩ | ⟨h', _⟩
    · exact .bad (show 5 < 6 by decide) rfl (rt_same lt_bl hq)
    · rw [h] at h'; cases h'
  · rcases ht with ⟨h', _⟩ | ⟨_, _, rfl⟩
    · rw [h1] at h'; cases h'
    · exact .bad (show 5 < 6 by decide) rfl (rt_same lt_bl hq)
  · rcases ht with ⟨h', _⟩ | ⟨_, h', _⟩
    · rw [h1] at h'; cases h'
    · rw [h2] at h'; cases h'
theorem len_law_refused {K : PySem.W.Frag} {vs : List V} {H : Hp} {Q : VK} {E : XK} (h : sp_law_refused K vs H Q E) : vs.length = 5 := lift_len (fun _ _ _ _ h => DSp5.len h) h
theorem pure_law_refused {K : PySem.W.Frag} (F : FxR K) {vs : List V} {H : Hp} {Q : VK} {E : XK} (h : sp_law_refused K vs H Q E) : t_law_refused K (fun cls d _ H => E cls d H) { nx := fun _ H' => Q .non H', rt := Q } (start N_law_refused vs) H := lift_def (N := N_law_refused) (fun W WD => sim_law_refused F W WD) (fun _ _ _ _ h => dpure_law_refused h) _ _ _ _ h
def dsp_law_refusals : DSp := DSp6 fun x y w u v p S Q _ => ∃ (n b m : Nat) (nm : List Str) (ns : List Int) (rows : List (List Str)) (g : Int) (s goal : Str) (ls : List Lk), x = .hdl n ∧ y = .hdl b ∧ w = rowD nm ∧ u = .str s ∧ v = .str goal ∧ p = lksD ls ∧ IsSrc S n ∧ n ≠ b ∧ n ≠ m ∧ IsBD S b m (mkR ns rows) g ∧ StOk ns rows g ∧ 1 ≤ nm.length ∧ (∀ z ∈ nm, isNm z = true) ∧ isLit s = true ∧ isLit goal = true ∧ LsOk ls ∧ ∀ c, IsSrcD c → Q (.bl true) (S.set n c)
abbrev sp_law_refusals (K : PySem.W.Frag) : Sp := lift K dsp_law_refusals
def N_law_refusals : List PySem.Str := ["_law_source_here", "_law_book_here", "_law_names_here", "_law_start_here", "_law_goal", "_law_links", "_law_one", "_law_two", "_law_row_here"]
def t_law_refusals (K : PySem.W.Frag) (W : WX) : TS := (tSeq (tAsg (tCallS (sp_law_bad K) (WE W) (tCons (tVar 0) (tCons (tOp (rIxP K) (tVar 2) (tC (.int 0))) tNil))) (gName 6))
    (tSeq (tAsg (tCallS (sp_law_bad K) (WE W) (tCons (tVar 0) (tCons (tOp (rIxP K) (tVar 2) (tUn (rU fun i => .int (-i)) (tC (.int 1)))) tNil))) (gName 7))
    (tCut (tFor (iAnyP K (tLst (tCons (tLst tNil) (tCons (tVar 5) (tCons (tSl (rSlP K) (tVar 5) (tPart (tC (.int 1))) tNoPart) tNil))))) (gName 8) (tCut (tIfS (tOr (tNot (tB (tCallS (sp_law_refused K) (WE W) (tCons (tVar 1) (tCons (tVar 6) (tCons (tVar 7) (tCons (tVar 8) (tCons (tVar 6) tNil)))))))) (tNot (tB (tCallS (sp_law_refused K) (WE W) (tCons (tVar 1) (tCons (tVar 6) (tCons (tVar 4) (tCons (tVar 8) (tCons (tVar 6) tNil))))))))) (tRet (tC (.bl false))) tNext)
    (tIfS (tNot (tB (tCallS (sp_law_refused K) (WE W) (tCons (tVar 1) (tCons (tVar 3) (tCons (tVar 7) (tCons (tVar 8) (tCons (tVar 7) tNil)))))))) (tRet (tC (.bl false))) tNext)))
    (tRet (tC (.bl true))))))
def d_law_refusals (WD : DW) : DS := (dSeq (dAsg (dCall WD dsp_law_bad (dCons (dVar 0) (dCons (dOp dIx (dVar 2) (dC (.int 0))) dNil))) (dgName 6))
    (dSeq (dAsg (dCall WD dsp_law_bad (dCons (dVar 0) (dCons (dOp dIx (dVar 2) (dUn dNeg (dC (.int 1)))) dNil))) (dgName 7))
    (dCut (dFor (dAny (dLst false (dCons (dLst false dNil) (dCons (dVar 5) (dCons (dSl false (dVar 5) (dPart (dC (.int 1))) dNoPart) dNil))))) (dgName 8) (dCut (dIfS (dOr (dNot (dTest (dCall WD dsp_law_refused (dCons (dVar 1) (dCons (dVar 6) (dCons (dVar 7) (dCons (dVar 8) (dCons (dVar 6) dNil)))))))) (dNot (dTest (dCall WD dsp_law_refused (dCons (dVar 1) (dCons (dVar 6) (dCons (dVar 4) (dCons (dVar 8) (dCons (dVar 6) dNil))))))))) (dRet (dC (.bl false))) dNext)
    (dIfS (dNot (dTest (dCall WD dsp_law_refused (dCons (dVar 1) (dCons (dVar 3) (dCons (dVar 7) (dCons (dVar 8) (dCons (dVar 7) dNil)))))))) (dRet (dC (.bl false))) dNext)))
    (dRet (dC (.bl true))))))
theorem sim_law_refusals {K : PySem.W.Frag} (W : WX) (WD : DW) : SimS K W WD (t_law_refusals K W) (d_law_refusals WD) := by
  unfold t_law_refusals d_law_refusals
  exact (sim_seq (sim_asg (sim_callS (fun _ _ _ _ h => h) (sim_cons sim_var (sim_cons (sim_op op_ix sim_var (sim_c fun _ _ => .int _)) sim_nil))) sim_gname)
      (sim_seq (sim_asg (sim_callS (fun _ _ _ _ h => h) (sim_cons sim_var (sim_cons (sim_op op_ix sim_var (sim_neg (sim_c fun _ _ => .int _))) sim_nil))) sim_gname)
      (sim_cut (sim_for (sim_any (sim_lst (sim_cons (sim_lst sim_nil) (sim_cons sim_var (sim_cons (sim_sl sim_var (sim_part (sim_c fun _ _ => .int _)) sim_nopart) sim_nil))))) sim_gname (sim_cut (sim_ifS (sim_or (sim_not (sim_tB (sim_callS (fun _ _ _ _ h => h) (sim_cons sim_var (sim_cons sim_var (sim_cons sim_var (sim_cons sim_var (sim_cons sim_var sim_nil)))))))) (sim_not (sim_tB (sim_callS (fun _ _ _ _ h => h) (sim_cons sim_var (sim_cons sim_var (sim_cons sim_var (sim_cons sim_var (sim_cons sim_var sim_nil))))))))) (sim_ret (sim_c fun _ _ => .bl _)) sim_next)
      (sim_ifS (sim_not (sim_tB (sim_callS (fun _ _ _ _ h => h) (sim_cons sim_var (sim_cons sim_var (sim_cons sim_var (sim_cons sim_var (sim_cons sim_var sim_nil)))))))) (sim_ret (sim_c fun _ _ => .bl _)) sim_next)))
      (sim_ret (sim_c fun _ _ => .bl _)))))
theorem dpure_law_refusals {ds : List D} {S : Sto} {Q : DQ} {E : DX} (h : dsp_law_refusals ds S Q E) : d_law_refusals (ExD S E) { nx := fun _ S' => RtD S Q .non S', rt := RtD S Q, b := S.length } (startD N_law_refusals.length ds) S := by
  obtain ⟨x, y, w, u, v, p, rfl, n, b, m, nm, ns, rows, g, s, goal, ls, rfl, rfl, rfl, rfl, rfl, rfl, hs, nb, nmm, B, K, n1, hn, slit, glit, L, hq⟩ := h
  show d_law_refusals _ _ [some (.hdl n), some (.hdl b), some (rowD nm), some (.str s), some (.str goal), some (lksD ls), none, none, none] S
  unfold d_law_refusals
  have nlt := hs.lt
  have ll := L.len
  have s9 := lit_len slit
  have g9 := lit_len glit
  obtain ⟨a0, ha0⟩ : ∃ z, nm[0]? = some z := ⟨_, List.getElem?_eq_getElem (by omega)⟩
  obtain ⟨a1, ha1⟩ : ∃ z, nm[nm.length - 1]? = some z := ⟨_, List.getElem?_eq_getElem (by omega)⟩
  have lastE : atI (nm.map D.str) (-1) = some (.str a1) := by
    have hll : (nm.map D.str)[(nm.map D.str).length - 1]? = some (.str a1) := by rw [List.length_map, List.getElem?_map, ha1]; rfl
    unfold atI ixN
    rw [if_neg (by decide), if_pos (by rw [List.length_map]; omega)]
    show (nm.map D.str)[((-1 : Int) + ((nm.map D.str).length : Int)).toNat]? = _
    rw [show ((-1 : Int) + ((nm.map D.str).length : Int)).toNat = (nm.map D.str).length - 1 by rw [List.length_map]; omega]
    exact hll
  walk_at "dd"
  refine w_ix (y := .str a0) (ds := nm.map .str) (.inl rfl) (atI_nat (j := 0) (by rw [List.getElem?_map, ha0]; rfl)) ?_
  walk_at "dd"
  refine ⟨_, _, rfl, n, a0, rfl, rfl, hs, hn a0 (List.mem_of_getElem? ha0), fun c1 z1 ic1 b1 zl1 => ?_⟩
  walk_at "dd"
  refine w_ix (y := .str a1) (ds := nm.map .str) (.inl rfl) lastE ?_
  walk_at "dd"
  refine ⟨_, _, rfl, n, a1, rfl, rfl, hs.set ic1, hn a1 (List.mem_of_getElem? ha1), fun c2 z2 ic2 b2 zl2 => ?_⟩
  rw [List.set_set]
  have B2 : IsBD (S.set n c2) b m (mkR ns rows) g := ⟨at_ne B.1 nb, at_ne B.2 nmm⟩
  have fin : RtD S Q (.bl true) (S.set n c2) := by
    have := rt_src (G := []) nlt ic2 lt_bl (hq c2 ic2)
    rwa [List.append_nil] at this
  walk_at "dd"
  refine w_cut (fun ρ' S' => ∃ v8, ρ' = [some (.hdl n), some (.hdl b), some (rowD nm), some (.str s), some (.str goal), some (lksD ls), some (.str z1), some (.str z2), v8] ∧ S.set n c2 = S') ?_ ?_
  rotate_left
  · rintro ρ' S' ⟨v8, rfl, rfl⟩
    walk_at "dd"
    exact fin
  walk_at "dd"
  refine ⟨Nat.zero_le _, ?_⟩
  walk_at "dd"
  refine .lst (ds := ls.map lkD) rfl ?_
  rw [show (some (1 : Int)) = some ((1 : Nat) : Int) from rfl, cutFromA, ← List.map_drop]
  walk_at "dd"
  refine ⟨three_le, ?_⟩
  have eL : [D.lst [], lksD ls, D.lst ((ls.drop 1).map lkD)] = [[], ls, ls.drop 1].map lksD := rfl
  rw [eL]
  have all : ∀ k ∈ [[], ls, ls.drop 1], LsOk k := fun k hk => by
    simp only [List.mem_cons, List.not_mem_nil, or_false] at hk
    rcases hk with rfl | rfl | rfl
    · exact ⟨Nat.zero_le _, fun l h => (by cases h)⟩
    · exact L
    · exact ⟨by rw [List.length_drop]; omega, fun l h => L.sh l (List.mem_of_mem_drop h)⟩
  generalize [[], ls, ls.drop 1] = lists at all ⊢
  refine .seq (ds := lists.map lksD) sq_l ?_
  refine ⟨fun i ρ' S' => ∃ v8, ρ' = [some (.hdl n), some (.hdl b), some (rowD nm), some (.str s), some (.str goal), some (lksD ls), some (.str z1), some (.str z2), v8] ∧ S.set n c2 = S', ⟨none, rfl, rfl⟩, fun _ _ _ _ _ => .inl rfl, ?_, fun ρ' S' p => p⟩
  rintro i d ρ' S' hd ⟨v8, rfl, rfl⟩
  have hd : (lists.map lksD)[i]? = some d := hd
  rw [List.getElem?_map] at hd
  cases ek : lists[i]? with
  | none => rw [ek] at hd; cases hd
  | some k =>
    rw [ek] at hd
    cases hd
    have Lk' := all k (List.mem_of_getElem? ek)
    walk_at "dd"
    refine w_cut (fun ρ' S' => ρ' = [some (.hdl n), some (.hdl b), some (rowD nm), some (.str s), some (.str goal), some (lksD ls), some (.str z1), some (.str z2), some (lksD k)] ∧ S.set n c2 = S') ?_ ?_
    · walk_at "dd"
      refine ⟨_, _, _, _, _, rfl, b, m, ns, rows, g, z1, z2, z1, k, rfl, rfl, rfl, rfl, rfl, B2, K, by omega, by omega, Lk', .inl ⟨b1, rfl⟩, ?_⟩
      walk_at "dd"
      refine s_itF rfl ?_
      walk_at "dd"
      refine ⟨_, _, _, _, _, rfl, b, m, ns, rows, g, z1, goal, z1, k, rfl, rfl, rfl, rfl, rfl, B2, K, by omega, by omega, Lk', .inl ⟨b1, rfl⟩, ?_⟩
      walk_at "dd"
      refine s_itF rfl ?_
      walk_at "dd"
      exact ⟨rfl, rfl⟩
    rintro ρ' S' ⟨rfl, rfl⟩
    walk_at "dd"
    refine ⟨_, _, _, _, _, rfl, b, m, ns, rows, g, s, z2, z2, k, rfl, rfl, rfl, rfl, rfl, B2, K, by omega, by omega, Lk', .inr ⟨slit, b2, rfl⟩, ?_⟩
    walk_at "dd"
    refine s_itF rfl ?_
    walk_at "dd"
    exact ⟨_, rfl, rfl⟩
theorem len_law_refusals {K : PySem.W.Frag} {vs : List V} {H : Hp} {Q : VK} {E : XK} (h : sp_law_refusals K vs H Q E) : vs.length = 6 := lift_len (fun _ _ _ _ h => DSp6.len h) h
theorem pure_law_refusals {K : PySem.W.Frag} {vs : List V} {H : Hp} {Q : VK} {E : XK} (h : sp_law_refusals K vs H Q E) : t_law_refusals K (fun cls d _ H => E cls d H) { nx := fun _ H' => Q .non H', rt := Q } (start N_law_refusals vs) H := lift_def (N := N_law_refusals) (fun W WD => sim_law_refusals W WD) (fun _ _ _ _ h => dpure_law_refusals h) _ _ _ _ h
def sp_law (K : PySem.W.Frag) : Sp := Sp1 fun x H Q _ => ∃ (a : Addr) (ns : List Int), x = .ref a ∧ SqL K H a (ns.map V.int) ∧ ns.length ≤ 100 ∧ ∀ H', Q (.bl true) H'
def N_law : List PySem.Str := ["_law_script", "_law_source_here", "_law_names_here", "_law_numbers_here", "_law_book_here", "_law_start_here", "_law_links", "_law_goal", "_law_others", "_law_pair", "_law_rows", "_law_style", "_law_at", "_law_wrong", "_law_k"]
def t_law (K : PySem.W.Frag) (W : WX) : TS := (tSeq (tAsg (tCallS (sp_law_source K) (WE W) (tCons (tVar 0) tNil)) (gName 1))
    (tSeq (tAsg (tCallS (sp_law_names K) (WE W) (tCons (tVar 1) (tCons (tOp (rAddP K) (tC (.int 2)) (tCallS (sp_law_take K) (WE W) (tCons (tVar 1) (tCons (tC (.int 11)) tNil)))) tNil))) (gName 2))
    (tCut (tIfS (tTest (tOp (rEqP K) (tCallS (sp_law_take K) (WE W) (tCons (tVar 1) (tCons (tC (.int 2)) tNil))) (tC (.int 0)))) (tAsg (tLc (iRng1 (tCons (tCallS (sp_law_take K) (WE W) (tCons (tVar 1) (tCons (tC (.int 15)) tNil))) tNil)) (gName 14) tYes (tCall (sp_law_row K) [] E0 (tCons (tVar 1) (tCons (tVar 2) (tCons (tC (.int 6)) tNil)))) [14]) (gName 10)) (tAsg (tCallS (sp_law_line K) (WE W) (tCons (tVar 1) (tCons (tVar 2) tNil))) (gName 10)))
    (tSeq (tAsg (tCallS (sp_law_numbers K) (WE W) (tCons (tVar 1) (tCons (tCB (rLenP K) (tCons (tVar 10) tNil)) tNil))) (gName 3))
    (tSeq (tAsg (tCallS (sp_law_book K) (WE W) (tCons (tVar 3) (tCons (tVar 10) tNil))) (gName 4))
    (tSeq (tAsg (tCallS (sp_law_start K) (WE W) (tCons (tVar 1) (tCons (tVar 2) (tCons (tVar 10) tNil)))) (gName 5))
    (tSeq (tAsg (tCallS (sp_law_walk K) (WE W) (tCons (tVar 1) (tCons (tVar 3) (tCons (tVar 10) (tCons (tVar 5) tNil))))) (gName 6))
    (tSeq (tAsg (tVar 5) (gName 7))
    (tCut (tIfS (tTest (tOp rGtP (tCB (rLenP K) (tCons (tVar 6) tNil)) (tC (.int 0)))) (tAsg (tOp (rIxP K) (tOp (rIxP K) (tVar 6) (tUn (rU fun i => .int (-i)) (tC (.int 1)))) (tC (.int 2))) (gName 7)) tNext)
    (tCut (tIfS (tNot (tB (tCallS (sp_law_same K) (WE W) (tCons (tCallS (sp_is_chain K) (WE W) (tCons (tVar 4) (tCons (tVar 5) (tCons (tVar 7) (tCons (tCB (rListP K) (tCons (tVar 6) tNil)) tNil))))) (tCons (tC (.bl true)) tNil))))) (tRet (tC (.bl false))) tNext)
    (tCut (tIfS (tNot (tB (tCallS (sp_law_same K) (WE W) (tCons (tCallS (sp_is_chain K) (WE W) (tCons (tVar 4) (tCons (tCallS (sp_law_flip K) (WE W) (tCons (tVar 7) tNil)) (tCons (tCallS (sp_law_flip K) (WE W) (tCons (tVar 5) tNil)) (tCons (tCallS (sp_law_mirror K) (WE W) (tCons (tVar 6) tNil)) tNil))))) (tCons (tC (.bl true)) tNil))))) (tRet (tC (.bl false))) tNext)
    (tSeq (tAsg (tLst (tCons (tTup (tCons (tVar 5) (tCons (tCallS (sp_law_flip K) (WE W) (tCons (tVar 7) tNil)) tNil))) (tCons (tTup (tCons (tCallS (sp_law_flip K) (WE W) (tCons (tVar 5) tNil)) (tCons (tVar 7) tNil))) (tCons (tTup (tCons (tVar 7) (tCons (tVar 5) tNil))) (tCons (tTup (tCons (tVar 5) (tCons (tVar 5) tNil))) tNil))))) (gName 8))
    (tCut (tFor (iAnyP K (tVar 8)) (gName 9) (tCut (tIfS (tNot (tB (tCallS (sp_law_both K) (WE W) (tCons (tVar 4) (tCons (tVar 3) (tCons (tVar 10) (tCons (tOp (rIxP K) (tVar 9) (tC (.int 0))) (tCons (tOp (rIxP K) (tVar 9) (tC (.int 1))) (tCons (tVar 6) tNil))))))))) (tRet (tC (.bl false))) tNext)
    (tIfS (tNot (tB (tCallS (sp_law_both K) (WE W) (tCons (tVar 4) (tCons (tVar 3) (tCons (tVar 10) (tCons (tOp (rIxP K) (tVar 9) (tC (.int 0))) (tCons (tOp (rIxP K) (tVar 9) (tC (.int 1))) (tCons (tLst tNil) tNil))))))))) (tRet (tC (.bl false))) tNext)))
    (tCut (tIfS (tNot (tB (tCallS (sp_law_refusals K) (WE W) (tCons (tVar 1) (tCons (tVar 4) (tCons (tVar 2) (tCons (tVar 5) (tCons (tVar 7) (tCons (tVar 6) tNil))))))))) (tRet (tC (.bl false))) tNext)
    (tCut (tIfS (tTest (tOp rGtP (tCB (rLenP K) (tCons (tVar 6) tNil)) (tC (.int 0)))) (tCut (tFor (iRng1 (tCons (tC (.int 10)) tNil)) (gName 11) (tSeq (tAsg (tCallS (sp_law_spoilt K) (WE W) (tCons (tVar 1) (tCons (tVar 2) (tCons (tVar 3) (tCons (tVar 6) (tCons (tVar 11) tNil)))))) (gName 13))
    (tIfS (tNot (tB (tCallS (sp_law_both K) (WE W) (tCons (tVar 4) (tCons (tVar 3) (tCons (tVar 10) (tCons (tVar 5) (tCons (tVar 7) (tCons (tVar 13) tNil))))))))) (tRet (tC (.bl false))) tNext)))
    (tSeq (tAsg (tBM K "list" (rIndex K) (tVar 3) (tCons (tOp (rIxP K) (tOp (rIxP K) (tVar 6) (tCallS (sp_law_take K) (WE W) (tCons (tVar 1) (tCons (tCB (rLenP K) (tCons (tVar 6) tNil)) tNil)))) (tC (.int 1))) tNil)) (gName 12))
    (tCut (tIfS (tNot (tB (tCallS (sp_law_single_links K) (WE W) (tCons (tVar 4) (tCons (tVar 3) (tCons (tVar 10) (tCons (tVar 12) tNil))))))) (tRet (tC (.bl false))) tNext)
    (tSeq (tDrop (Cl.tMethO [(ga K "Book", sp_Book_drop K)] "drop" (WE W) (tVar 4) (tCons (tOp (rIxP K) (tVar 3) (tVar 12)) tNil)))
    (tSeq (tAsg (tOp (rAddP K) (tSl (rSlP K) (tVar 10) tNoPart (tPart (tVar 12))) (tSl (rSlP K) (tVar 10) (tPart (tOp (rAddP K) (tVar 12) (tC (.int 1)))) tNoPart)) (gName 10))
    (tSeq (tAsg (tOp (rAddP K) (tSl (rSlP K) (tVar 3) tNoPart (tPart (tVar 12))) (tSl (rSlP K) (tVar 3) (tPart (tOp (rAddP K) (tVar 12) (tC (.int 1)))) tNoPart)) (gName 3))
    (tRet (tCallS (sp_law_both K) (WE W) (tCons (tVar 4) (tCons (tVar 3) (tCons (tVar 10) (tCons (tVar 5) (tCons (tVar 7) (tCons (tVar 6) tNil)))))))))))))) tNext)
    (tRet (tC (.bl true))))))))))))))))))
def tr_law (K : PySem.W.Frag) (W : WX) : TS := (tSeq (tAsg (tCallS (sp_law_names K) (WE W) (tCons (tVar 1) (tCons (tOp (rAddP K) (tC (.int 2)) (tCallS (sp_law_take K) (WE W) (tCons (tVar 1) (tCons (tC (.int 11)) tNil)))) tNil))) (gName 2))
    (tCut (tIfS (tTest (tOp (rEqP K) (tCallS (sp_law_take K) (WE W) (tCons (tVar 1) (tCons (tC (.int 2)) tNil))) (tC (.int 0)))) (tAsg (tLc (iRng1 (tCons (tCallS (sp_law_take K) (WE W) (tCons (tVar 1) (tCons (tC (.int 15)) tNil))) tNil)) (gName 14) tYes (tCall (sp_law_row K) [] E0 (tCons (tVar 1) (tCons (tVar 2) (tCons (tC (.int 6)) tNil)))) [14]) (gName 10)) (tAsg (tCallS (sp_law_line K) (WE W) (tCons (tVar 1) (tCons (tVar 2) tNil))) (gName 10)))
    (tSeq (tAsg (tCallS (sp_law_numbers K) (WE W) (tCons (tVar 1) (tCons (tCB (rLenP K) (tCons (tVar 10) tNil)) tNil))) (gName 3))
    (tSeq (tAsg (tCallS (sp_law_book K) (WE W) (tCons (tVar 3) (tCons (tVar 10) tNil))) (gName 4))
    (tSeq (tAsg (tCallS (sp_law_start K) (WE W) (tCons (tVar 1) (tCons (tVar 2) (tCons (tVar 10) tNil)))) (gName 5))
    (tSeq (tAsg (tCallS (sp_law_walk K) (WE W) (tCons (tVar 1) (tCons (tVar 3) (tCons (tVar 10) (tCons (tVar 5) tNil))))) (gName 6))
    (tSeq (tAsg (tVar 5) (gName 7))
    (tCut (tIfS (tTest (tOp rGtP (tCB (rLenP K) (tCons (tVar 6) tNil)) (tC (.int 0)))) (tAsg (tOp (rIxP K) (tOp (rIxP K) (tVar 6) (tUn (rU fun i => .int (-i)) (tC (.int 1)))) (tC (.int 2))) (gName 7)) tNext)
    (tCut (tIfS (tNot (tB (tCallS (sp_law_same K) (WE W) (tCons (tCallS (sp_is_chain K) (WE W) (tCons (tVar 4) (tCons (tVar 5) (tCons (tVar 7) (tCons (tCB (rListP K) (tCons (tVar 6) tNil)) tNil))))) (tCons (tC (.bl true)) tNil))))) (tRet (tC (.bl false))) tNext)
    (tCut (tIfS (tNot (tB (tCallS (sp_law_same K) (WE W) (tCons (tCallS (sp_is_chain K) (WE W) (tCons (tVar 4) (tCons (tCallS (sp_law_flip K) (WE W) (tCons (tVar 7) tNil)) (tCons (tCallS (sp_law_flip K) (WE W) (tCons (tVar 5) tNil)) (tCons (tCallS (sp_law_mirror K) (WE W) (tCons (tVar 6) tNil)) tNil))))) (tCons (tC (.bl true)) tNil))))) (tRet (tC (.bl false))) tNext)
    (tSeq (tAsg (tLst (tCons (tTup (tCons (tVar 5) (tCons (tCallS (sp_law_flip K) (WE W) (tCons (tVar 7) tNil)) tNil))) (tCons (tTup (tCons (tCallS (sp_law_flip K) (WE W) (tCons (tVar 5) tNil)) (tCons (tVar 7) tNil))) (tCons (tTup (tCons (tVar 7) (tCons (tVar 5) tNil))) (tCons (tTup (tCons (tVar 5) (tCons (tVar 5) tNil))) tNil))))) (gName 8))
    (tCut (tFor (iAnyP K (tVar 8)) (gName 9) (tCut (tIfS (tNot (tB (tCallS (sp_law_both K) (WE W) (tCons (tVar 4) (tCons (tVar 3) (tCons (tVar 10) (tCons (tOp (rIxP K) (tVar 9) (tC (.int 0))) (tCons (tOp (rIxP K) (tVar 9) (tC (.int 1))) (tCons (tVar 6) tNil))))))))) (tRet (tC (.bl false))) tNext)
    (tIfS (tNot (tB (tCallS (sp_law_both K) (WE W) (tCons (tVar 4) (tCons (tVar 3) (tCons (tVar 10) (tCons (tOp (rIxP K) (tVar 9) (tC (.int 0))) (tCons (tOp (rIxP K) (tVar 9) (tC (.int 1))) (tCons (tLst tNil) tNil))))))))) (tRet (tC (.bl false))) tNext)))
    (tCut (tIfS (tNot (tB (tCallS (sp_law_refusals K) (WE W) (tCons (tVar 1) (tCons (tVar 4) (tCons (tVar 2) (tCons (tVar 5) (tCons (tVar 7) (tCons (tVar 6) tNil))))))))) (tRet (tC (.bl false))) tNext)
    (tCut (tIfS (tTest (tOp rGtP (tCB (rLenP K) (tCons (tVar 6) tNil)) (tC (.int 0)))) (tCut (tFor (iRng1 (tCons (tC (.int 10)) tNil)) (gName 11) (tSeq (tAsg (tCallS (sp_law_spoilt K) (WE W) (tCons (tVar 1) (tCons (tVar 2) (tCons (tVar 3) (tCons (tVar 6) (tCons (tVar 11) tNil)))))) (gName 13))
    (tIfS (tNot (tB (tCallS (sp_law_both K) (WE W) (tCons (tVar 4) (tCons (tVar 3) (tCons (tVar 10) (tCons (tVar 5) (tCons (tVar 7) (tCons (tVar 13) tNil))))))))) (tRet (tC (.bl false))) tNext)))
    (tSeq (tAsg (tBM K "list" (rIndex K) (tVar 3) (tCons (tOp (rIxP K) (tOp (rIxP K) (tVar 6) (tCallS (sp_law_take K) (WE W) (tCons (tVar 1) (tCons (tCB (rLenP K) (tCons (tVar 6) tNil)) tNil)))) (tC (.int 1))) tNil)) (gName 12))
    (tCut (tIfS (tNot (tB (tCallS (sp_law_single_links K) (WE W) (tCons (tVar 4) (tCons (tVar 3) (tCons (tVar 10) (tCons (tVar 12) tNil))))))) (tRet (tC (.bl false))) tNext)
    (tSeq (tDrop (Cl.tMethO [(ga K "Book", sp_Book_drop K)] "drop" (WE W) (tVar 4) (tCons (tOp (rIxP K) (tVar 3) (tVar 12)) tNil)))
    (tSeq (tAsg (tOp (rAddP K) (tSl (rSlP K) (tVar 10) tNoPart (tPart (tVar 12))) (tSl (rSlP K) (tVar 10) (tPart (tOp (rAddP K) (tVar 12) (tC (.int 1)))) tNoPart)) (gName 10))
    (tSeq (tAsg (tOp (rAddP K) (tSl (rSlP K) (tVar 3) tNoPart (tPart (tVar 12))) (tSl (rSlP K) (tVar 3) (tPart (tOp (rAddP K) (tVar 12) (tC (.int 1)))) tNoPart)) (gName 3))
    (tRet (tCallS (sp_law_both K) (WE W) (tCons (tVar 4) (tCons (tVar 3) (tCons (tVar 10) (tCons (tVar 5) (tCons (tVar 7) (tCons (tVar 6) tNil)))))))))))))) tNext)
    (tRet (tC (.bl true)))))))))))))))))
def d_law (WD : DW) : DS := (dSeq (dAsg (dCall WD dsp_law_names (dCons (dVar 1) (dCons (dOp (dAdd false) (dC (.int 2)) (dCall WD dsp_law_take (dCons (dVar 1) (dCons (dC (.int 11)) dNil)))) dNil))) (dgName 2))
    (dCut (dIfS (dTest (dOp dEq (dCall WD dsp_law_take (dCons (dVar 1) (dCons (dC (.int 2)) dNil))) (dC (.int 0)))) (dAsg (dLc false (dRng1 (dCons (dCall WD dsp_law_take (dCons (dVar 1) (dCons (dC (.int 15)) dNil))) dNil)) (dgName 14) dYes (dCall0 dsp_law_row (dCons (dVar 1) (dCons (dVar 2) (dCons (dC (.int 6)) dNil)))) [14]) (dgName 10)) (dAsg (dCall WD dsp_law_line (dCons (dVar 1) (dCons (dVar 2) dNil))) (dgName 10)))
    (dSeq (dAsg (dCall WD dsp_law_numbers (dCons (dVar 1) (dCons (dCB dLen (dCons (dVar 10) dNil)) dNil))) (dgName 3))
    (dSeq (dAsg (dCall WD dsp_law_book (dCons (dVar 3) (dCons (dVar 10) dNil))) (dgName 4))
    (dSeq (dAsg (dCall WD dsp_law_start (dCons (dVar 1) (dCons (dVar 2) (dCons (dVar 10) dNil)))) (dgName 5))
    (dSeq (dAsg (dCall WD dsp_law_walk (dCons (dVar 1) (dCons (dVar 3) (dCons (dVar 10) (dCons (dVar 5) dNil))))) (dgName 6))
    (dSeq (dAsg (dVar 5) (dgName 7))
    (dCut (dIfS (dTest (dOp dGt (dCB dLen (dCons (dVar 6) dNil)) (dC (.int 0)))) (dAsg (dOp dIx (dOp dIx (dVar 6) (dUn dNeg (dC (.int 1)))) (dC (.int 2))) (dgName 7)) dNext)
    (dCut (dIfS (dNot (dTest (dCall WD dsp_law_same (dCons (dCall WD dsp_is_chain (dCons (dVar 4) (dCons (dVar 5) (dCons (dVar 7) (dCons (dCB (dList false) (dCons (dVar 6) dNil)) dNil))))) (dCons (dC (.bl true)) dNil))))) (dRet (dC (.bl false))) dNext)
    (dCut (dIfS (dNot (dTest (dCall WD dsp_law_same (dCons (dCall WD dsp_is_chain (dCons (dVar 4) (dCons (dCall WD dsp_law_flip (dCons (dVar 7) dNil)) (dCons (dCall WD dsp_law_flip (dCons (dVar 5) dNil)) (dCons (dCall WD dsp_law_mirror (dCons (dVar 6) dNil)) dNil))))) (dCons (dC (.bl true)) dNil))))) (dRet (dC (.bl false))) dNext)
    (dSeq (dAsg (dLst false (dCons (dTup (dCons (dVar 5) (dCons (dCall WD dsp_law_flip (dCons (dVar 7) dNil)) dNil))) (dCons (dTup (dCons (dCall WD dsp_law_flip (dCons (dVar 5) dNil)) (dCons (dVar 7) dNil))) (dCons (dTup (dCons (dVar 7) (dCons (dVar 5) dNil))) (dCons (dTup (dCons (dVar 5) (dCons (dVar 5) dNil))) dNil))))) (dgName 8))
    (dCut (dFor (dAny (dVar 8)) (dgName 9) (dCut (dIfS (dNot (dTest (dCall WD dsp_law_both (dCons (dVar 4) (dCons (dVar 3) (dCons (dVar 10) (dCons (dOp dIx (dVar 9) (dC (.int 0))) (dCons (dOp dIx (dVar 9) (dC (.int 1))) (dCons (dVar 6) dNil))))))))) (dRet (dC (.bl false))) dNext)
    (dIfS (dNot (dTest (dCall WD dsp_law_both (dCons (dVar 4) (dCons (dVar 3) (dCons (dVar 10) (dCons (dOp dIx (dVar 9) (dC (.int 0))) (dCons (dOp dIx (dVar 9) (dC (.int 1))) (dCons (dLst false dNil) dNil))))))))) (dRet (dC (.bl false))) dNext)))
    (dCut (dIfS (dNot (dTest (dCall WD dsp_law_refusals (dCons (dVar 1) (dCons (dVar 4) (dCons (dVar 2) (dCons (dVar 5) (dCons (dVar 7) (dCons (dVar 6) dNil))))))))) (dRet (dC (.bl false))) dNext)
    (dCut (dIfS (dTest (dOp dGt (dCB dLen (dCons (dVar 6) dNil)) (dC (.int 0)))) (dCut (dFor (dRng1 (dCons (dC (.int 10)) dNil)) (dgName 11) (dSeq (dAsg (dCall WD dsp_law_spoilt (dCons (dVar 1) (dCons (dVar 2) (dCons (dVar 3) (dCons (dVar 6) (dCons (dVar 11) dNil)))))) (dgName 13))
    (dIfS (dNot (dTest (dCall WD dsp_law_both (dCons (dVar 4) (dCons (dVar 3) (dCons (dVar 10) (dCons (dVar 5) (dCons (dVar 7) (dCons (dVar 13) dNil))))))))) (dRet (dC (.bl false))) dNext)))
    (dSeq (dAsg (dIndex (dVar 3) (dCons (dOp dIx (dOp dIx (dVar 6) (dCall WD dsp_law_take (dCons (dVar 1) (dCons (dCB dLen (dCons (dVar 6) dNil)) dNil)))) (dC (.int 1))) dNil)) (dgName 12))
    (dCut (dIfS (dNot (dTest (dCall WD dsp_law_single_links (dCons (dVar 4) (dCons (dVar 3) (dCons (dVar 10) (dCons (dVar 12) dNil))))))) (dRet (dC (.bl false))) dNext)
    (dSeq (dDrop (dMethE (edW WD) [("Book", dsp_Book_drop)] "drop" (dVar 4) (dCons (dOp dIx (dVar 3) (dVar 12)) dNil)))
    (dSeq (dAsg (dOp (dAdd false) (dSl false (dVar 10) dNoPart (dPart (dVar 12))) (dSl false (dVar 10) (dPart (dOp (dAdd false) (dVar 12) (dC (.int 1)))) dNoPart)) (dgName 10))
    (dSeq (dAsg (dOp (dAdd false) (dSl false (dVar 3) dNoPart (dPart (dVar 12))) (dSl false (dVar 3) (dPart (dOp (dAdd false) (dVar 12) (dC (.int 1)))) dNoPart)) (dgName 3))
    (dRet (dCall WD dsp_law_both (dCons (dVar 4) (dCons (dVar 3) (dCons (dVar 10) (dCons (dVar 5) (dCons (dVar 7) (dCons (dVar 6) dNil)))))))))))))) dNext)
    (dRet (dC (.bl true)))))))))))))))))
theorem sim_law {K : PySem.W.Frag} (W : WX) (WD : DW) : SimS K W WD (tr_law K W) (d_law WD) := by
  unfold tr_law d_law
  exact (sim_seq (sim_asg (sim_callS (fun _ _ _ _ h => ad_law_names h) (sim_cons sim_var (sim_cons (sim_op op_add (sim_c fun _ _ => .int _) (sim_callS (fun _ _ _ _ h => ad_law_take h) (sim_cons sim_var (sim_cons (sim_c fun _ _ => .int _) sim_nil)))) sim_nil))) sim_gname)
      (sim_cut (sim_ifS (sim_test (sim_op op_eq (sim_callS (fun _ _ _ _ h => ad_law_take h) (sim_cons sim_var (sim_cons (sim_c fun _ _ => .int _) sim_nil))) (sim_c fun _ _ => .int _))) (sim_asg (sim_lc (sim_rng1 (sim_cons (sim_callS (fun _ _ _ _ h => ad_law_take h) (sim_cons sim_var (sim_cons (sim_c fun _ _ => .int _) sim_nil))) sim_nil)) (simv_gname (by decide)) sim_yes (sim_call (fun _ _ _ _ h => ad_law_row h) (sim_cons sim_var (sim_cons sim_var (sim_cons (sim_c fun _ _ => .int _) sim_nil))))) sim_gname) (sim_asg (sim_callS (fun _ _ _ _ h => h) (sim_cons sim_var (sim_cons sim_var sim_nil))) sim_gname))
      (sim_seq (sim_asg (sim_callS (fun _ _ _ _ h => ad_law_numbers h) (sim_cons sim_var (sim_cons (sim_cb cb_len (sim_cons sim_var sim_nil)) sim_nil))) sim_gname)
      (sim_seq (sim_asg (sim_callS (fun _ _ _ _ h => ad_law_book h) (sim_cons sim_var (sim_cons sim_var sim_nil))) sim_gname)
      (sim_seq (sim_asg (sim_callS (fun _ _ _ _ h => h) (sim_cons sim_var (sim_cons sim_var (sim_cons sim_var sim_nil)))) sim_gname)
      (sim_seq (sim_asg (sim_callS (fun _ _ _ _ h => h) (sim_cons sim_var (sim_cons sim_var (sim_cons sim_var (sim_cons sim_var sim_nil))))) sim_gname)
      (sim_seq (sim_asg sim_var sim_gname)
      (sim_cut (sim_ifS (sim_test (sim_op op_gt (sim_cb cb_len (sim_cons sim_var sim_nil)) (sim_c fun _ _ => .int _))) (sim_asg (sim_op op_ix (sim_op op_ix sim_var (sim_neg (sim_c fun _ _ => .int _))) (sim_c fun _ _ => .int _)) sim_gname) sim_next)
      (sim_cut (sim_ifS (sim_not (sim_tB (sim_callS (fun _ _ _ _ h => ad_law_same h) (sim_cons (sim_callS (fun _ _ _ _ h => h) (sim_cons sim_var (sim_cons sim_var (sim_cons sim_var (sim_cons (sim_cb cb_list (sim_cons sim_var sim_nil)) sim_nil))))) (sim_cons (sim_c fun _ _ => .bl _) sim_nil))))) (sim_ret (sim_c fun _ _ => .bl _)) sim_next)
      (sim_cut (sim_ifS (sim_not (sim_tB (sim_callS (fun _ _ _ _ h => ad_law_same h) (sim_cons (sim_callS (fun _ _ _ _ h => h) (sim_cons sim_var (sim_cons (sim_callS (fun _ _ _ _ h => ad_law_flip h) (sim_cons sim_var sim_nil)) (sim_cons (sim_callS (fun _ _ _ _ h => ad_law_flip h) (sim_cons sim_var sim_nil)) (sim_cons (sim_callS (fun _ _ _ _ h => h) (sim_cons sim_var sim_nil)) sim_nil))))) (sim_cons (sim_c fun _ _ => .bl _) sim_nil))))) (sim_ret (sim_c fun _ _ => .bl _)) sim_next)
      (sim_seq (sim_asg (sim_lst (sim_cons (sim_tup (sim_cons sim_var (sim_cons (sim_callS (fun _ _ _ _ h => ad_law_flip h) (sim_cons sim_var sim_nil)) sim_nil))) (sim_cons (sim_tup (sim_cons (sim_callS (fun _ _ _ _ h => ad_law_flip h) (sim_cons sim_var sim_nil)) (sim_cons sim_var sim_nil))) (sim_cons (sim_tup (sim_cons sim_var (sim_cons sim_var sim_nil))) (sim_cons (sim_tup (sim_cons sim_var (sim_cons sim_var sim_nil))) sim_nil))))) sim_gname)
      (sim_cut (sim_for (sim_any sim_var) sim_gname (sim_cut (sim_ifS (sim_not (sim_tB (sim_callS (fun _ _ _ _ h => h) (sim_cons sim_var (sim_cons sim_var (sim_cons sim_var (sim_cons (sim_op op_ix sim_var (sim_c fun _ _ => .int _)) (sim_cons (sim_op op_ix sim_var (sim_c fun _ _ => .int _)) (sim_cons sim_var sim_nil))))))))) (sim_ret (sim_c fun _ _ => .bl _)) sim_next)
      (sim_ifS (sim_not (sim_tB (sim_callS (fun _ _ _ _ h => h) (sim_cons sim_var (sim_cons sim_var (sim_cons sim_var (sim_cons (sim_op op_ix sim_var (sim_c fun _ _ => .int _)) (sim_cons (sim_op op_ix sim_var (sim_c fun _ _ => .int _)) (sim_cons (sim_lst sim_nil) sim_nil))))))))) (sim_ret (sim_c fun _ _ => .bl _)) sim_next)))
      (sim_cut (sim_ifS (sim_not (sim_tB (sim_callS (fun _ _ _ _ h => h) (sim_cons sim_var (sim_cons sim_var (sim_cons sim_var (sim_cons sim_var (sim_cons sim_var (sim_cons sim_var sim_nil))))))))) (sim_ret (sim_c fun _ _ => .bl _)) sim_next)
      (sim_cut (sim_ifS (sim_test (sim_op op_gt (sim_cb cb_len (sim_cons sim_var sim_nil)) (sim_c fun _ _ => .int _))) (sim_cut (sim_for (sim_rng1 (sim_cons (sim_c fun _ _ => .int _) sim_nil)) sim_gname (sim_seq (sim_asg (sim_callS (fun _ _ _ _ h => h) (sim_cons sim_var (sim_cons sim_var (sim_cons sim_var (sim_cons sim_var (sim_cons sim_var sim_nil)))))) sim_gname)
      (sim_ifS (sim_not (sim_tB (sim_callS (fun _ _ _ _ h => h) (sim_cons sim_var (sim_cons sim_var (sim_cons sim_var (sim_cons sim_var (sim_cons sim_var (sim_cons sim_var sim_nil))))))))) (sim_ret (sim_c fun _ _ => .bl _)) sim_next)))
      (sim_seq (sim_asg (sim_index sim_var (sim_cons (sim_op op_ix (sim_op op_ix sim_var (sim_callS (fun _ _ _ _ h => ad_law_take h) (sim_cons sim_var (sim_cons (sim_cb cb_len (sim_cons sim_var sim_nil)) sim_nil)))) (sim_c fun _ _ => .int _)) sim_nil)) sim_gname)
      (sim_cut (sim_ifS (sim_not (sim_tB (sim_callS (fun _ _ _ _ h => h) (sim_cons sim_var (sim_cons sim_var (sim_cons sim_var (sim_cons sim_var sim_nil))))))) (sim_ret (sim_c fun _ _ => .bl _)) sim_next)
      (sim_seq (sim_drop (sim_methE (.cons (fun _ _ _ _ h => ad_Book_drop h) .nil) eo_w sim_var (sim_cons (sim_op op_ix sim_var sim_var) sim_nil)))
      (sim_seq (sim_asg (sim_op op_add (sim_sl sim_var sim_nopart (sim_part sim_var)) (sim_sl sim_var (sim_part (sim_op op_add sim_var (sim_c fun _ _ => .int _))) sim_nopart)) sim_gname)
      (sim_seq (sim_asg (sim_op op_add (sim_sl sim_var sim_nopart (sim_part sim_var)) (sim_sl sim_var (sim_part (sim_op op_add sim_var (sim_c fun _ _ => .int _))) sim_nopart)) sim_gname)
      (sim_ret (sim_callS (fun _ _ _ _ h => h) (sim_cons sim_var (sim_cons sim_var (sim_cons sim_var (sim_cons sim_var (sim_cons sim_var (sim_cons sim_var sim_nil)))))))))))))) sim_next)
      (sim_ret (sim_c fun _ _ => .bl _))))))))))))))))
theorem rows_few {U : List Str} {rows : List (List Str)} (h : RowsIn U rows) : (nmsO rows.flatten).length ≤ U.length := nms_le fun z hz => by
  obtain ⟨r, hr, hz⟩ := List.mem_flatten.mp hz
  exact (h r hr).2 z hz
theorem ch_link {rows : List DRow} {g : Str} : ∀ {ls : List Lk} {s : Str}, chP rows g s ls = true → ∀ l ∈ ls, linkP rows l = true
  | [], _, _, l, hl => by cases hl
  | k :: ls, s, h, l, hl => by
    have h : (decide (k.1 = s) && (linkP rows k && chP rows g k.2.2 ls)) = true := h
    rw [Bool.and_eq_true, Bool.and_eq_true] at h
    rcases List.mem_cons.mp hl with e | hl
    · subst e; exact h.2.1
    · exact ch_link h.2.2 l hl
theorem link_num {rows : List DRow} {l : Lk} (h : linkP rows l = true) : l.2.1 ∈ rows.map (·.1) := by
  unfold linkP at h
  cases e : rowD? rows l.2.1 with
  | none => rw [e] at h; cases h
  | some r =>
    have h1 := List.mem_of_find?_eq_some e
    have h2 := List.find?_some e
    exact List.mem_map.mpr ⟨r, h1, of_decide_eq_true h2⟩
theorem end_lit {s : Str} (hs : isLit s = true) : ∀ {ls : List Lk}, (∀ l ∈ ls, isLit l.1 = true ∧ isLit l.2.2 = true) → isLit (endL s ls) = true := fun {ls} h => by
  unfold endL
  cases e : ls.getLast? with
  | none => exact hs
  | some l => exact (h l (List.mem_of_getLast? e)).2
structure Wk (S : Sto) (ns : List Int) (rows : List (List Str)) (g : Int) : Prop where
  src : IsSrc S 0
  bd : IsBD S 2 1 (mkR ns rows) g
  ok : StOk ns rows g
section
variable {S : Sto} {ns : List Int} {rows : List (List Str)} {g : Int}
theorem Wk.setSrc {c : D} (w : Wk S ns rows g) (i : IsSrcD c) : Wk (S.set 0 c) ns rows g := ⟨w.src.set i, ⟨at_ne w.bd.1 (by decide), at_ne w.bd.2 (by decide)⟩, w.ok⟩
theorem Wk.jd (w : Wk S ns rows g) : Jd S 2 1 (.lst (ns.map .int)) (rowsD rows) ns rows g := ⟨rfl, rfl, w.bd, w.ok⟩
theorem both_go {s goal : Str} {ls : List Lk} {Q : DQ} {E : DX} (w : Wk S ns rows g) (hs : isLit s = true) (hg : isLit goal = true) (ll : ls.length ≤ 900) (sh : ∀ l ∈ ls, l.1.length ≤ 800 ∧ l.2.2.length ≤ 800) (q : Q (.bl true) S) : dsp_law_both [.hdl 2, .lst (ns.map .int), rowsD rows, .str s, .str goal, lksD ls] S Q E :=
  ⟨_, _, _, _, _, _, rfl, 2, 1, ns, rows, g, s, goal, ls, rfl, rfl, rfl, rfl, w.jd, hs, hg, ll, sh, q⟩
theorem chain_go {s goal : Str} {ls : List Lk} {u : D} {Q : DQ} {E : DX} (w : Wk S ns rows g) (hs : isLit s = true) (hg : isLit goal = true) (e : Sq S u (ls.map lkD)) (ll : ls.length ≤ 900) (sh : ∀ l ∈ ls, l.1.length ≤ 800 ∧ l.2.2.length ≤ 800) (hc : chP (mkR ns rows) goal s ls = true) (q : Q (.bl true) S) : dsp_is_chain [.hdl 2, .str s, .str goal, u] S Q E :=
  ⟨_, _, _, _, rfl, 2, 1, _, g, s, goal, ls, rfl, rfl, rfl, e, w.bd, w.ok.bk, by have := lit_len hs; omega, by have := lit_len hg; omega, by omega, fun l hl => by have := sh l hl; omega, fun h => (by rw [hs] at h; cases h), fun _ h => (by rw [hg] at h; cases h), fun _ _ => by rw [hc]; exact q⟩
end
theorem mir_short {ls : List Lk} (sh : ∀ l ∈ ls, l.1.length ≤ 100 ∧ l.2.2.length ≤ 100) : ∀ l ∈ mirL ls, l.1.length ≤ 800 ∧ l.2.2.length ≤ 800 := fun l hl => by
  unfold mirL at hl
  obtain ⟨k, hk, rfl⟩ := List.mem_map.mp hl
  have := sh k (List.mem_reverse.mp hk)
  have h1 := flip_le k.1
  have h2 := flip_le k.2.2
  exact ⟨by show (flip k.2.2).length ≤ _; omega, by show (flip k.1).length ≤ _; omega⟩
theorem dpure_law {c : D} (ic : IsSrcD c) : d_law (fun _ _ _ _ => False) { nx := fun _ _ => False, rt := fun d _ => d = .bl true, b := 1 } ((List.replicate 15 none).set 1 (some (.hdl 0))) [c] := by
  show d_law _ _ [none, some (.hdl 0), none, none, none, none, none, none, none, none, none, none, none, none, none] [c]
  unfold d_law
  walk_at "dd"
  refine take_d ⟨c, rfl, ic⟩ (by decide) (by decide) fun c1 k ic1 k0 k11 => ?_
  walk_at "dd"
  refine ⟨_, _, rfl, 0, 2 + k, rfl, rfl, ⟨c1, rfl, ic1⟩, by omega, by omega, fun c2 nm ic2 lnm hn nd => ?_⟩
  have nd := nd (by omega)
  rw [List.set_set]
  show dgName 2 (rowD nm) _ [c2] _
  walk_at "dd"
  refine w_cut (fun ρ' S' => ∃ (v14 : Option D) (c3 : D) (rows : List (List Str)), ρ' = [none, some (.hdl 0), some (rowD nm), none, none, none, none, none, none, none, some (rowsD rows), none, none, none, v14] ∧ S' = [c3] ∧ IsSrcD c3 ∧ rows.length ≤ 14 ∧ RowsIn nm rows) ?_ ?_
  · walk_at "dd"
    refine take_d ⟨c2, rfl, ic2⟩ (by decide) (by decide) fun c3 t ic3 t0 t2 => ?_
    walk_at "dd"
    refine s_itd (fun h1 => ?_) (fun h1 => ?_)
    · walk_at "dd"
      refine take_d ⟨c3, rfl, ic3⟩ (by decide) (by decide) fun c4 m ic4 m0 m15 => ?_
      refine ⟨m, rfl, by omega, by omega, ?_⟩
      refine ⟨fun i acc S' => ∃ (c : D) (rows : List (List Str)), IsSrcD c ∧ S' = [c] ∧ acc = rows.map rowD ∧ rows.length = i ∧ RowsIn nm rows, ⟨c4, [], ic4, rfl, rfl, rfl, fun r h => (by cases h)⟩, fun _ _ _ _ _ => trivial, ?_, ?_⟩
      · rintro i d acc S' hd ⟨c, rows, ic, rfl, rfl, rl, rin⟩
        have hi2 : i < m.toNat := by have := (List.getElem?_eq_some_iff.mp hd).1; rw [rngD_len] at this; exact this
        obtain ⟨_, hd2⟩ := rngD_at hd
        walk_at "dd"
        refine s_itT rfl ?_
        walk_at "dd"
        refine ⟨_, _, _, rfl, 0, nm, 6, rfl, rfl, rfl, ⟨c, rfl, ic⟩, by omega, by omega, hn, by decide, by decide, fun c5 zs ic5 zl zlit znd zin => ?_⟩
        exact ⟨by rw [List.length_map, sizeLine_eq]; omega, c5, rows ++ [zs], ic5, rfl, by rw [List.map_append]; rfl, by rw [List.length_append, rl]; rfl, rin.app (.one ⟨by omega, zlit, znd⟩ zin)⟩
      · rintro acc S' ⟨c, rows, ic, rfl, rfl, rl, rin⟩
        have rl : rows.length = (rngD 0 m.toNat).length := rl
        rw [rngD_len] at rl
        walk_at "dd"
        exact ⟨_, c, rows, rfl, rfl, ic, by omega, rin⟩
    · walk_at "dd"
      refine ⟨_, _, rfl, 0, nm, rfl, rfl, ⟨c3, rfl, ic3⟩, by omega, by omega, hn, nd, fun c4 rows ic4 rl rin => ?_⟩
      exact ⟨_, c4, rows, rfl, rfl, ic4, by omega, rin⟩
  rintro ρ' S' ⟨v14, c3, rows, rfl, rfl, ic3, rl, rin⟩
  have h6 : ∀ r ∈ rows, Row6 r := fun r hr => (rin r hr).1
  walk_at "dd"
  refine w_len (ds := rows.map rowD) sq_l ?_
  walk_at "dd"
  rw [List.length_map]
  refine ⟨_, _, rfl, 0, _, rfl, rfl, ⟨c3, rfl, ic3⟩, by omega, by omega, fun c6 ns ic6 nl asc nb => ?_⟩
  walk_at "dd"
  have hlen : ns.length = rows.length := by omega
  have few := rows_few rin
  refine ⟨_, _, rfl, ns, rows, rfl, rfl, hlen, asc, fun n hn => by have := nb n hn; omega, by omega, h6, by omega, fun _ => ?_⟩
  have K0 : StOk ns rows (lastD (mkR ns rows)) := by
    rw [last_nums, mkR_nums hlen]
    cases e : ns.getLast? with
    | none =>
      have : ns = [] := List.getLast?_eq_none_iff.mp e
      subst this
      exact stok hlen asc (fun n h => by cases h) h6 (by omega)
    | some n =>
      obtain ⟨l, rfl⟩ : ∃ l, ns = l ++ [n] := by
        obtain ⟨l, h⟩ := List.getLast?_eq_some_iff.mp e
        exact ⟨l, h⟩
      refine stok hlen asc (fun x hx => ⟨(nb x hx).1, ?_⟩) h6 (by omega)
      show x ≤ n
      rcases List.mem_append.mp hx with hx | hx
      · have := (List.pairwise_append.mp asc).2.2 x hx n (by simp)
        omega
      · rw [List.mem_singleton.mp hx]; exact Int.le_refl _
  generalize lastD (mkR ns rows) = g at K0 ⊢
  have w0 : Wk (newB [c6] (mkR ns rows) g) ns rows g := ⟨⟨c6, rfl, ic6⟩, newB_is (S := [c6]), K0⟩
  show dgName 4 (.hdl 2) _ (newB [c6] (mkR ns rows) g) _
  generalize newB [c6] (mkR ns rows) g = S at w0 ⊢
  have ndn : ns.Nodup := asc_nd asc
  walk_at "dd"
  refine ⟨_, _, _, rfl, 0, nm, rows, rfl, rfl, rfl, w0.src, by omega, by omega, hn, by omega, h6, fun c7 s ic7 hs => ?_⟩
  have w0 := w0.setSrc ic7
  generalize S.set 0 c7 = S at w0 ⊢
  walk_at "dd"
  refine ⟨_, _, _, _, rfl, 0, ns, rows, s, rfl, rfl, rfl, rfl, w0.src, hlen, ndn, by omega, h6, hs, fun c8 ls ic8 ll hc lit => ?_⟩
  have w0 := w0.setSrc ic8
  generalize S.set 0 c8 = S at w0 ⊢
  have hg : isLit (endL s ls) = true := end_lit hs lit
  have sh1 : ∀ l ∈ ls, l.1.length ≤ 100 ∧ l.2.2.length ≤ 100 := fun l hl => by
    obtain ⟨h1, h2⟩ := lit l hl
    have := lit_len h1
    have := lit_len h2
    omega
  have sh : ∀ l ∈ ls, l.1.length ≤ 800 ∧ l.2.2.length ≤ 800 := fun l hl => by have := sh1 l hl; omega
  have hlk : ∀ l ∈ ls, l.2.1 ∈ ns := fun l hl => by
    have := link_num (ch_link hc l hl)
    rw [mkR_nums hlen] at this
    exact this
  have mc := mir_chain hc lit
  have el : ls.length = 0 ∨ ∃ l, ls[ls.length - 1]? = some l ∧ endL s ls = l.2.2 := by
    by_cases h : ls.length = 0
    · exact .inl h
    · refine .inr ⟨_, List.getElem?_eq_getElem (by omega), ?_⟩
      unfold endL
      rw [List.getLast?_eq_getElem?, List.getElem?_eq_getElem (by omega)]
      rfl
  have eg0 : ls.length = 0 → endL s ls = s := fun h => by
    have : ls = [] := List.length_eq_zero_iff.mp h
    subst this
    rfl
  walk_at "dd"
  refine w_cut (fun ρ' S' => ρ' = [none, some (.hdl 0), some (rowD nm), some (.lst (ns.map .int)), some (.hdl 2), some (.str s), some (lksD ls), some (.str (endL s ls)), none, none, some (rowsD rows), none, none, none, v14] ∧ S = S') ?_ ?_
  · walk_at "dd"
    refine w_len (ds := ls.map lkD) sq_l ?_
    walk_at "dd"
    rw [List.length_map]
    refine s_itd (fun hp => ?_) (fun hp => ?_)
    · have hp : 0 < ls.length := by omega
      obtain ⟨l, hl, eg⟩ := el.resolve_left (by omega)
      walk_at "dd"
      refine w_ix (y := lkD l) (ds := ls.map lkD) sq_l (atI_neg 1 rfl (by decide) (by rw [List.length_map]; omega) (by rw [List.length_map, List.getElem?_map, hl]; rfl)) ?_
      walk_at "dd"
      refine w_ix (y := .str l.2.2) sq_t rfl ?_
      rw [eg]
      exact ⟨rfl, rfl⟩
    · walk_at "dd"
      rw [eg0 (by omega)]
      exact ⟨rfl, rfl⟩
  rintro ρ' S' ⟨rfl, rfl⟩
  generalize endL s ls = goal at hc hg mc el eg0 ⊢
  refine w_nocut ?_
  walk_at "dd"
  refine .seq (ds := ls.map lkD) (.inl rfl) ?_
  walk_at "dd"
  refine chain_go w0 hs hg (.inl rfl) (by omega) sh hc ?_
  walk_at "dd"
  refine same_d rfl rfl plain_bl trivial ?_
  walk_at "dd"
  refine s_itF rfl ?_
  walk_at "dd"
  refine w_nocut ?_
  walk_at "dd"
  have gl := lit_len hg
  have sl := lit_len hs
  refine ⟨_, rfl, goal, rfl, by omega, ?_⟩
  walk_at "dd"
  refine ⟨_, rfl, s, rfl, by omega, ?_⟩
  walk_at "dd"
  refine ⟨_, rfl, ls, rfl, by omega, fun l hl => by have := sh l hl; omega, ?_⟩
  walk_at "dd"
  refine chain_go (ls := mirL ls) w0 (flip_lit hg) (flip_lit hs) (.inl rfl) (by unfold mirL; rw [List.length_map, List.length_reverse]; omega) (mir_short sh1) mc ?_
  walk_at "dd"
  refine same_d rfl rfl plain_bl trivial ?_
  walk_at "dd"
  refine s_itF rfl ?_
  walk_at "dd"
  refine ⟨_, rfl, goal, rfl, by omega, ?_⟩
  walk_at "dd"
  refine ⟨two_le, ?_⟩
  walk_at "dd"
  refine ⟨_, rfl, s, rfl, by omega, ?_⟩
  walk_at "dd"
  refine ⟨two_le, ?_⟩
  walk_at "dd"
  refine ⟨two_le, ?_⟩
  walk_at "dd"
  refine ⟨two_le, ?_⟩
  walk_at "dd"
  refine ⟨four_le, ?_⟩
  have eP : D.lst [.tup [.str s, .str (flip goal)], .tup [.str (flip s), .str goal], .tup [.str goal, .str s], .tup [.str s, .str s]] = .lst ([(s, flip goal), (flip s, goal), (goal, s), (s, s)].map fun p : Str × Str => D.tup [.str p.1, .str p.2]) := rfl
  rw [eP]
  have pl : ∀ p ∈ [(s, flip goal), (flip s, goal), (goal, s), (s, s)], isLit p.1 = true ∧ isLit p.2 = true := fun p hp => by
    simp only [List.mem_cons, List.not_mem_nil, or_false] at hp
    rcases hp with rfl | rfl | rfl | rfl
    · exact ⟨hs, flip_lit hg⟩
    · exact ⟨flip_lit hs, hg⟩
    · exact ⟨hg, hs⟩
    · exact ⟨hs, hs⟩
  generalize [(s, flip goal), (flip s, goal), (goal, s), (s, s)] = prs at pl ⊢
  generalize hoth : (D.lst (prs.map fun p : Str × Str => D.tup [.str p.1, .str p.2])) = oth
  walk_at "dd"
  refine w_cut (fun ρ' S' => ∃ v9, ρ' = [none, some (.hdl 0), some (rowD nm), some (.lst (ns.map .int)), some (.hdl 2), some (.str s), some (lksD ls), some (.str goal), some oth, v9, some (rowsD rows), none, none, none, v14] ∧ S = S') ?_ ?_
  · subst hoth
    walk_at "dd"
    refine .seq (ds := prs.map fun p : Str × Str => D.tup [.str p.1, .str p.2]) sq_l ?_
    refine ⟨fun i ρ' S' => ∃ v9, ρ' = [none, some (.hdl 0), some (rowD nm), some (.lst (ns.map .int)), some (.hdl 2), some (.str s), some (lksD ls), some (.str goal), some (D.lst (prs.map fun p : Str × Str => D.tup [.str p.1, .str p.2])), v9, some (rowsD rows), none, none, none, v14] ∧ S = S', ⟨none, rfl, rfl⟩, fun _ _ _ _ _ => .inl rfl, ?_, fun ρ' S' p => p⟩
    rintro i d ρ' S' hd ⟨v9, rfl, rfl⟩
    have hd : (prs.map fun p : Str × Str => D.tup [.str p.1, .str p.2])[i]? = some d := hd
    rw [List.getElem?_map] at hd
    cases ek : prs[i]? with
    | none => rw [ek] at hd; cases hd
    | some p =>
      rw [ek] at hd
      cases hd
      obtain ⟨p1, p2⟩ := pl p (List.mem_of_getElem? ek)
      walk_at "dd"
      refine w_nocut ?_
      walk_at "dd"
      refine w_ix (y := .str p.1) sq_t rfl ?_
      walk_at "dd"
      refine w_ix (y := .str p.2) sq_t rfl ?_
      walk_at "dd"
      refine both_go w0 p1 p2 (by omega) sh ?_
      walk_at "dd"
      refine s_itF rfl ?_
      walk_at "dd"
      refine w_ix (y := .str p.1) sq_t rfl ?_
      walk_at "dd"
      refine w_ix (y := .str p.2) sq_t rfl ?_
      walk_at "dd"
      refine ⟨Nat.zero_le _, ?_⟩
      walk_at "dd"
      refine both_go (ls := []) w0 p1 p2 (Nat.zero_le _) (fun l h => by cases h) ?_
      walk_at "dd"
      refine s_itF rfl ?_
      walk_at "dd"
      exact ⟨_, rfl, rfl⟩
  rintro ρ' S' ⟨v9, rfl, rfl⟩
  refine w_nocut ?_
  walk_at "dd"
  refine ⟨_, _, _, _, _, _, rfl, 0, 2, 1, nm, ns, rows, g, s, goal, ls, rfl, rfl, rfl, rfl, rfl, rfl, w0.src, by decide, by decide, w0.bd, w0.ok, by omega, hn, hs, hg, ⟨by omega, fun l hl => by have := sh l hl; omega⟩, fun c9 ic9 => ?_⟩
  have w0 := w0.setSrc ic9
  generalize S.set 0 c9 = S at w0 ⊢
  walk_at "dd"
  refine s_itF rfl ?_
  walk_at "dd"
  refine w_nocut ?_
  walk_at "dd"
  refine w_len (ds := ls.map lkD) sq_l ?_
  walk_at "dd"
  rw [List.length_map]
  refine s_itd (fun hp => ?_) (fun hp => ?_)
  rotate_left
  · walk_at "dd"
    rfl
  have hp : 0 < ls.length := by omega
  have n1 : 1 ≤ ns.length := by
    obtain ⟨l, hl, _⟩ := el.resolve_left (by omega)
    have := List.length_pos_of_mem (hlk l (List.mem_of_getElem? hl))
    omega
  walk_at "dd"
  refine w_cut (fun ρ' S' => ∃ v11 v13, ρ' = [none, some (.hdl 0), some (rowD nm), some (.lst (ns.map .int)), some (.hdl 2), some (.str s), some (lksD ls), some (.str goal), some oth, v9, some (rowsD rows), v11, none, v13, v14] ∧ Wk S' ns rows g) ?_ ?_
  · walk_at "dd"
    refine ⟨10, rfl, by omega, by omega, ?_⟩
    refine ⟨fun i ρ' S' => ∃ v11 v13, ρ' = [none, some (.hdl 0), some (rowD nm), some (.lst (ns.map .int)), some (.hdl 2), some (.str s), some (lksD ls), some (.str goal), some oth, v9, some (rowsD rows), v11, none, v13, v14] ∧ Wk S' ns rows g, ⟨none, none, rfl, w0⟩, fun _ _ _ _ _ => trivial, ?_, fun ρ' S' p => p⟩
    rintro i d ρ' S' hd ⟨v11, v13, rfl, w⟩
    obtain ⟨_, hd2⟩ := rngD_at hd
    subst hd2
    walk_at "dd"
    refine ⟨_, _, _, _, _, rfl, 0, nm, ns, ls, _, rfl, rfl, rfl, rfl, rfl, w.src, by omega, hn, n1, by omega, hp, ll, lit, fun c10 ls' ic10 ll' sh' => ?_⟩
    have w := w.setSrc ic10
    generalize S'.set 0 c10 = S' at w ⊢
    walk_at "dd"
    refine both_go w hs hg (by omega) (fun l hl => by have := sh' l hl; omega) ?_
    walk_at "dd"
    refine s_itF rfl ?_
    walk_at "dd"
    exact ⟨_, _, rfl, w⟩
  rintro ρ' S' ⟨v11, v13, rfl, w⟩
  clear w0
  generalize S' = S at w ⊢
  walk_at "dd"
  refine ⟨⟨_, rfl⟩, ?_⟩
  walk_at "dd"
  refine w_len (ds := ls.map lkD) sq_l ?_
  walk_at "dd"
  rw [List.length_map]
  refine take_d w.src (by omega) (by omega) fun c11 a ic11 a0 a1 => ?_
  obtain ⟨a, rfl⟩ := Int.eq_ofNat_of_zero_le a0
  have w := w.setSrc ic11
  generalize S.set 0 c11 = S at w ⊢
  obtain ⟨l, hl⟩ : ∃ z, ls[a]? = some z := ⟨_, List.getElem?_eq_getElem (by omega)⟩
  have hjm := hlk l (List.mem_of_getElem? hl)
  refine w_ix (y := lkD l) (ds := ls.map lkD) sq_l (atI_nat (by rw [List.getElem?_map, hl]; rfl)) ?_
  walk_at "dd"
  refine w_ix (y := .int l.2.1) sq_t rfl ?_
  obtain ⟨hb, hbf⟩ := idx_at hjm
  have ei : ns.idxOf l.2.1 = ns.idxOf l.2.1 := rfl
  generalize hbe : ns.idxOf l.2.1 = b at hb hbf ei
  have bl : b < ns.length := (List.getElem?_eq_some_iff.mp hb).1
  refine ⟨l.2.1, ns, b, rfl, rfl, hb, hbf, ?_⟩
  walk_at "dd"
  refine w_nocut ?_
  walk_at "dd"
  refine ⟨_, _, _, _, rfl, 2, 1, ns, rows, g, b, rfl, rfl, w.jd, bl, ?_⟩
  walk_at "dd"
  refine s_itF rfl ?_
  walk_at "dd"
  refine own_go dsp_Book_drop (by walk_at "mem") (rs_h w.bd.1) rfl ?_
  walk_at "dd"
  refine w_ix (y := .int l.2.1) (ds := ns.map .int) sq_l (atI_nat (by rw [List.getElem?_map, hb]; rfl)) ?_
  walk_at "dd"
  refine ⟨_, _, rfl, 2, 1, _, g, l.2.1, rfl, rfl, w.bd, fun hn => absurd (by rw [mkR_nums w.ok.len]; exact hjm) hn, fun r' hr' => ?_⟩
  rw [filt_mk ndn w.ok.len hjm, hbe]
  have K3 : StOk (ns.eraseIdx b) (rows.eraseIdx b) g := w.ok.drop bl
  have S3b : IsBD (putB' S 2 1 (mkR (ns.eraseIdx b) (rows.eraseIdx b)) g) 2 1 (mkR (ns.eraseIdx b) (rows.eraseIdx b)) g := w.bd.put
  have S3s : IsSrc (putB' S 2 1 (mkR (ns.eraseIdx b) (rows.eraseIdx b)) g) 0 := by
    obtain ⟨c, e, i⟩ := w.src
    exact ⟨c, by unfold putB'; rw [List.getElem?_set_ne (by decide), List.getElem?_set_ne (by decide)]; exact e, i⟩
  have w3 : Wk (putB' S 2 1 (mkR (ns.eraseIdx b) (rows.eraseIdx b)) g) (ns.eraseIdx b) (rows.eraseIdx b) g := ⟨S3s, S3b, K3⟩
  generalize putB' S 2 1 (mkR (ns.eraseIdx b) (rows.eraseIdx b)) g = S3 at w3
  walk_at "dd"
  refine .lst (ds := rows.map rowD) rfl ?_
  rw [cutToA, ← List.map_take]
  walk_at "dd"
  refine .lst (ds := rows.map rowD) rfl ?_
  rw [show ((b : Int) + 1) = ((b + 1 : Nat) : Int) by omega, cutFromA, ← List.map_drop]
  walk_at "dd"
  refine .lst rfl rfl (by rw [List.length_map, List.length_map, List.length_take, List.length_drop, sizeLine_eq]; omega) ?_
  rw [← List.map_append, cut_erase]
  walk_at "dd"
  refine .lst (ds := ns.map .int) rfl ?_
  rw [cutToA, ← List.map_take]
  walk_at "dd"
  refine .lst (ds := ns.map .int) rfl ?_
  rw [show ((b : Int) + 1) = ((b + 1 : Nat) : Int) by omega, cutFromA, ← List.map_drop]
  walk_at "dd"
  refine .lst rfl rfl (by rw [List.length_map, List.length_map, List.length_take, List.length_drop, sizeLine_eq]; omega) ?_
  rw [← List.map_append, cut_erase]
  walk_at "dd"
  refine both_go w3 hs hg (by omega) sh ?_
  rfl
theorem pure_law {K : PySem.W.Frag} {vs : List V} {H : Hp} {Q : VK} {E : XK} {W : WX} (h : sp_law K vs H Q E) : t_law K W { nx := fun _ H' => Q .non H', rt := Q } (start N_law vs) H := by
  obtain ⟨x, rfl, a, ns, rfl, hS, hl, hq⟩ := h
  show t_law K W _ [some (.ref a), none, none, none, none, none, none, none, none, none, none, none, none, none, none] H
  unfold t_law
  walk_at "ss"
  refine ⟨_, rfl, a, ns, rfl, hS, hl, fun H1 s s1 hs S1 => ?_⟩
  show tr_law K W { nx := fun _ H' => Q .non H', rt := Q } [some (.ref a), some (.ref s), none, none, none, none, none, none, none, none, none, none, none, none, none] H1
  exact law_go (m := 15) (sim_law W _) S1 rfl rfl hq fun c ic => dpure_law ic
end Rd
end
namespace Ok
open PySem PySem.Spec PyProof.Rows L2 He Hk Px Rd
structure Tx (w : World) (K : PySem.W.Frag) (mg : PySem.Str → Option Value) : Prop where
  c : SaysZ Hd.fa Hd.ex Hd.its K
  g : ∃ h : Heap, K.In h ∧ h.Ns mainGlobals mg
section
variable {w : World} {K : PySem.W.Frag} {mg : PySem.Str → Option Value}
theorem Tx.g_is_name (T : Tx w K mg) : mg "is_name" = some (.ref (ga K "is_name")) := by
  obtain ⟨h, X, G⟩ := T.g
  exact glo_ok X G (T.c.fact 0 (f := .glo "is_name") rfl)
theorem Tx.g_is_literal (T : Tx w K mg) : mg "is_literal" = some (.ref (ga K "is_literal")) := by
  obtain ⟨h, X, G⟩ := T.g
  exact glo_ok X G (T.c.fact 1 (f := .glo "is_literal") rfl)
theorem Tx.g_name_of (T : Tx w K mg) : mg "name_of" = some (.ref (ga K "name_of")) := by
  obtain ⟨h, X, G⟩ := T.g
  exact glo_ok X G (T.c.fact 2 (f := .glo "name_of") rfl)
theorem Tx.g_negated (T : Tx w K mg) : mg "negated" = some (.ref (ga K "negated")) := by
  obtain ⟨h, X, G⟩ := T.g
  exact glo_ok X G (T.c.fact 3 (f := .glo "negated") rfl)
theorem Tx.g_ordered_names (T : Tx w K mg) : mg "ordered_names" = some (.ref (ga K "ordered_names")) := by
  obtain ⟨h, X, G⟩ := T.g
  exact glo_ok X G (T.c.fact 4 (f := .glo "ordered_names") rfl)
theorem Tx.g_in_order (T : Tx w K mg) : mg "in_order" = some (.ref (ga K "in_order")) := by
  obtain ⟨h, X, G⟩ := T.g
  exact glo_ok X G (T.c.fact 5 (f := .glo "in_order") rfl)
theorem Tx.g_twice_named (T : Tx w K mg) : mg "twice_named" = some (.ref (ga K "twice_named")) := by
  obtain ⟨h, X, G⟩ := T.g
  exact glo_ok X G (T.c.fact 6 (f := .glo "twice_named") rfl)
theorem Tx.g_checked_facts (T : Tx w K mg) : mg "checked_facts" = some (.ref (ga K "checked_facts")) := by
  obtain ⟨h, X, G⟩ := T.g
  exact glo_ok X G (T.c.fact 7 (f := .glo "checked_facts") rfl)
theorem Tx.g_names_of (T : Tx w K mg) : mg "names_of" = some (.ref (ga K "names_of")) := by
  obtain ⟨h, X, G⟩ := T.g
  exact glo_ok X G (T.c.fact 8 (f := .glo "names_of") rfl)
theorem Tx.g_is_link (T : Tx w K mg) : mg "is_link" = some (.ref (ga K "is_link")) := by
  obtain ⟨h, X, G⟩ := T.g
  exact glo_ok X G (T.c.fact 9 (f := .glo "is_link") rfl)
theorem Tx.g_is_chain (T : Tx w K mg) : mg "is_chain" = some (.ref (ga K "is_chain")) := by
  obtain ⟨h, X, G⟩ := T.g
  exact glo_ok X G (T.c.fact 10 (f := .glo "is_chain") rfl)
theorem Tx.g_names_in (T : Tx w K mg) : mg "names_in" = some (.ref (ga K "names_in")) := by
  obtain ⟨h, X, G⟩ := T.g
  exact glo_ok X G (T.c.fact 13 (f := .glo "names_in") rfl)
theorem Tx.g_check_sizes (T : Tx w K mg) : mg "check_sizes" = some (.ref (ga K "check_sizes")) := by
  obtain ⟨h, X, G⟩ := T.g
  exact glo_ok X G (T.c.fact 14 (f := .glo "check_sizes") rfl)
theorem Tx.g_law_source (T : Tx w K mg) : mg "_law_source" = some (.ref (ga K "_law_source")) := by
  obtain ⟨h, X, G⟩ := T.g
  exact glo_ok X G (T.c.fact 15 (f := .glo "_law_source") rfl)
theorem Tx.g_law_take (T : Tx w K mg) : mg "_law_take" = some (.ref (ga K "_law_take")) := by
  obtain ⟨h, X, G⟩ := T.g
  exact glo_ok X G (T.c.fact 16 (f := .glo "_law_take") rfl)
theorem Tx.g_law_word (T : Tx w K mg) : mg "_law_word" = some (.ref (ga K "_law_word")) := by
  obtain ⟨h, X, G⟩ := T.g
  exact glo_ok X G (T.c.fact 17 (f := .glo "_law_word") rfl)
theorem Tx.g_law_names (T : Tx w K mg) : mg "_law_names" = some (.ref (ga K "_law_names")) := by
  obtain ⟨h, X, G⟩ := T.g
  exact glo_ok X G (T.c.fact 18 (f := .glo "_law_names") rfl)
theorem Tx.g_law_flip (T : Tx w K mg) : mg "_law_flip" = some (.ref (ga K "_law_flip")) := by
  obtain ⟨h, X, G⟩ := T.g
  exact glo_ok X G (T.c.fact 19 (f := .glo "_law_flip") rfl)
theorem Tx.g_law_name (T : Tx w K mg) : mg "_law_name" = some (.ref (ga K "_law_name")) := by
  obtain ⟨h, X, G⟩ := T.g
  exact glo_ok X G (T.c.fact 20 (f := .glo "_law_name") rfl)
theorem Tx.g_law_sorted (T : Tx w K mg) : mg "_law_sorted" = some (.ref (ga K "_law_sorted")) := by
  obtain ⟨h, X, G⟩ := T.g
  exact glo_ok X G (T.c.fact 21 (f := .glo "_law_sorted") rfl)
theorem Tx.g_law_ordered (T : Tx w K mg) : mg "_law_ordered" = some (.ref (ga K "_law_ordered")) := by
  obtain ⟨h, X, G⟩ := T.g
  exact glo_ok X G (T.c.fact 22 (f := .glo "_law_ordered") rfl)
theorem Tx.g_law_same (T : Tx w K mg) : mg "_law_same" = some (.ref (ga K "_law_same")) := by
  obtain ⟨h, X, G⟩ := T.g
  exact glo_ok X G (T.c.fact 23 (f := .glo "_law_same") rfl)
theorem Tx.g_law_row (T : Tx w K mg) : mg "_law_row" = some (.ref (ga K "_law_row")) := by
  obtain ⟨h, X, G⟩ := T.g
  exact glo_ok X G (T.c.fact 24 (f := .glo "_law_row") rfl)
theorem Tx.g_law_clause (T : Tx w K mg) : mg "_law_clause" = some (.ref (ga K "_law_clause")) := by
  obtain ⟨h, X, G⟩ := T.g
  exact glo_ok X G (T.c.fact 25 (f := .glo "_law_clause") rfl)
theorem Tx.g_law_numbers (T : Tx w K mg) : mg "_law_numbers" = some (.ref (ga K "_law_numbers")) := by
  obtain ⟨h, X, G⟩ := T.g
  exact glo_ok X G (T.c.fact 26 (f := .glo "_law_numbers") rfl)
theorem Tx.g_law_book (T : Tx w K mg) : mg "_law_book" = some (.ref (ga K "_law_book")) := by
  obtain ⟨h, X, G⟩ := T.g
  exact glo_ok X G (T.c.fact 27 (f := .glo "_law_book") rfl)
theorem Tx.g_law_is_link (T : Tx w K mg) : mg "_law_is_link" = some (.ref (ga K "_law_is_link")) := by
  obtain ⟨h, X, G⟩ := T.g
  exact glo_ok X G (T.c.fact 28 (f := .glo "_law_is_link") rfl)
theorem Tx.g_law_is_chain (T : Tx w K mg) : mg "_law_is_chain" = some (.ref (ga K "_law_is_chain")) := by
  obtain ⟨h, X, G⟩ := T.g
  exact glo_ok X G (T.c.fact 29 (f := .glo "_law_is_chain") rfl)
theorem Tx.g_law_needs (T : Tx w K mg) : mg "_law_needs" = some (.ref (ga K "_law_needs")) := by
  obtain ⟨h, X, G⟩ := T.g
  exact glo_ok X G (T.c.fact 30 (f := .glo "_law_needs") rfl)
theorem Tx.g_law_line (T : Tx w K mg) : mg "_law_line" = some (.ref (ga K "_law_line")) := by
  obtain ⟨h, X, G⟩ := T.g
  exact glo_ok X G (T.c.fact 31 (f := .glo "_law_line") rfl)
theorem Tx.g_law_bad (T : Tx w K mg) : mg "_law_bad" = some (.ref (ga K "_law_bad")) := by
  obtain ⟨h, X, G⟩ := T.g
  exact glo_ok X G (T.c.fact 32 (f := .glo "_law_bad") rfl)
theorem Tx.g_law_start (T : Tx w K mg) : mg "_law_start" = some (.ref (ga K "_law_start")) := by
  obtain ⟨h, X, G⟩ := T.g
  exact glo_ok X G (T.c.fact 33 (f := .glo "_law_start") rfl)
theorem Tx.g_law_walk (T : Tx w K mg) : mg "_law_walk" = some (.ref (ga K "_law_walk")) := by
  obtain ⟨h, X, G⟩ := T.g
  exact glo_ok X G (T.c.fact 34 (f := .glo "_law_walk") rfl)
theorem Tx.g_law_mirror (T : Tx w K mg) : mg "_law_mirror" = some (.ref (ga K "_law_mirror")) := by
  obtain ⟨h, X, G⟩ := T.g
  exact glo_ok X G (T.c.fact 35 (f := .glo "_law_mirror") rfl)
theorem Tx.g_law_put_at (T : Tx w K mg) : mg "_law_put_at" = some (.ref (ga K "_law_put_at")) := by
  obtain ⟨h, X, G⟩ := T.g
  exact glo_ok X G (T.c.fact 36 (f := .glo "_law_put_at") rfl)
theorem Tx.g_law_spoilt (T : Tx w K mg) : mg "_law_spoilt" = some (.ref (ga K "_law_spoilt")) := by
  obtain ⟨h, X, G⟩ := T.g
  exact glo_ok X G (T.c.fact 37 (f := .glo "_law_spoilt") rfl)
theorem Tx.g_law_judged (T : Tx w K mg) : mg "_law_judged" = some (.ref (ga K "_law_judged")) := by
  obtain ⟨h, X, G⟩ := T.g
  exact glo_ok X G (T.c.fact 38 (f := .glo "_law_judged") rfl)
theorem Tx.g_law_both (T : Tx w K mg) : mg "_law_both" = some (.ref (ga K "_law_both")) := by
  obtain ⟨h, X, G⟩ := T.g
  exact glo_ok X G (T.c.fact 39 (f := .glo "_law_both") rfl)
theorem Tx.g_law_single_links (T : Tx w K mg) : mg "_law_single_links" = some (.ref (ga K "_law_single_links")) := by
  obtain ⟨h, X, G⟩ := T.g
  exact glo_ok X G (T.c.fact 40 (f := .glo "_law_single_links") rfl)
theorem Tx.g_law_refused (T : Tx w K mg) : mg "_law_refused" = some (.ref (ga K "_law_refused")) := by
  obtain ⟨h, X, G⟩ := T.g
  exact glo_ok X G (T.c.fact 41 (f := .glo "_law_refused") rfl)
theorem Tx.g_law_refusals (T : Tx w K mg) : mg "_law_refusals" = some (.ref (ga K "_law_refusals")) := by
  obtain ⟨h, X, G⟩ := T.g
  exact glo_ok X G (T.c.fact 42 (f := .glo "_law_refusals") rfl)
theorem Tx.g_law (T : Tx w K mg) : mg "law" = some (.ref (ga K "law")) := by
  obtain ⟨h, X, G⟩ := T.g
  exact glo_ok X G (T.c.fact 43 (f := .glo "law") rfl)
theorem Tx.g_Clause (T : Tx w K mg) : mg "Clause" = some (.ref (ga K "Clause")) := by
  obtain ⟨h, X, G⟩ := T.g
  exact glo_ok X G (T.c.fact 44 (f := .glo "Clause") rfl)
theorem Tx.cls_Clause (T : Tx w K mg) : Cls K (ga K "Clause") := cls_ok (T.c.fact 45 (f := .cls "Clause") rfl)
theorem Tx.mk_Clause (T : Tx w K mg) : Mk K (ga K "Clause") (ma K (ga K "Clause") "__init__") := mkr_ok (T.c.fact 46 (f := .mkr "Clause") rfl)
theorem Tx.no_Clause_literals (T : Tx w K mg) : NoAttr K (ga K "Clause") "literals" := noat_ok (T.c.fact 47 (f := .noat "Clause" "literals") rfl)
theorem Tx.cls_Turning (T : Tx w K mg) : Cls K (ga K "Turning") := cls_ok (T.c.fact 49 (f := .cls "Turning") rfl)
theorem Tx.g_Book (T : Tx w K mg) : mg "Book" = some (.ref (ga K "Book")) := by
  obtain ⟨h, X, G⟩ := T.g
  exact glo_ok X G (T.c.fact 51 (f := .glo "Book") rfl)
theorem Tx.cls_Book (T : Tx w K mg) : Cls K (ga K "Book") := cls_ok (T.c.fact 52 (f := .cls "Book") rfl)
theorem Tx.mk_Book (T : Tx w K mg) : Mk K (ga K "Book") (ma K (ga K "Book") "__init__") := mkr_ok (T.c.fact 53 (f := .mkr "Book") rfl)
theorem Tx.no_Book_greatest (T : Tx w K mg) : NoAttr K (ga K "Book") "greatest" := noat_ok (T.c.fact 54 (f := .noat "Book" "greatest") rfl)
theorem Tx.no_Book_rows (T : Tx w K mg) : NoAttr K (ga K "Book") "rows" := noat_ok (T.c.fact 55 (f := .noat "Book" "rows") rfl)
theorem Tx.g_HornError (T : Tx w K mg) : mg "HornError" = some (.ref (ga K "HornError")) := by
  obtain ⟨h, X, G⟩ := T.g
  exact glo_ok X G (T.c.fact 56 (f := .glo "HornError") rfl)
theorem Tx.g_BadName (T : Tx w K mg) : mg "BadName" = some (.ref (ga K "BadName")) := by
  obtain ⟨h, X, G⟩ := T.g
  exact glo_ok X G (T.c.fact 57 (f := .glo "BadName") rfl)
theorem Tx.g_BadLiteral (T : Tx w K mg) : mg "BadLiteral" = some (.ref (ga K "BadLiteral")) := by
  obtain ⟨h, X, G⟩ := T.g
  exact glo_ok X G (T.c.fact 58 (f := .glo "BadLiteral") rfl)
theorem Tx.c_LETTERS (T : Tx w K mg) : ∃ t, mg "LETTERS" = some (.str "abcdefghijklmnopqrstuvwxyz" t) := by
  obtain ⟨h, X, G⟩ := T.g
  exact str_ok X G (T.c.fact 63 (f := .str "LETTERS" "abcdefghijklmnopqrstuvwxyz") rfl)
theorem Tx.c_SIGNS (T : Tx w K mg) : ∃ t, mg "SIGNS" = some (.str "abcdefghijklmnopqrstuvwxyz0123456789" t) := by
  obtain ⟨h, X, G⟩ := T.g
  exact str_ok X G (T.c.fact 64 (f := .str "SIGNS" "abcdefghijklmnopqrstuvwxyz0123456789") rfl)
theorem Tx.c_NAME_SIZE (T : Tx w K mg) : ∃ t, mg "NAME_SIZE" = some (.int 8 t) := by
  obtain ⟨h, X, G⟩ := T.g
  exact int_ok X G (T.c.fact 65 (f := .int "NAME_SIZE" 8) rfl)
theorem Tx.f_all (T : Tx w K mg) : mg "all" = none := by
  obtain ⟨h, X, G⟩ := T.g
  exact free_ok X G (T.c.fact 68 (f := .free "all") rfl)
theorem Tx.f_bool (T : Tx w K mg) : mg "bool" = none := by
  obtain ⟨h, X, G⟩ := T.g
  exact free_ok X G (T.c.fact 69 (f := .free "bool") rfl)
theorem Tx.f_int (T : Tx w K mg) : mg "int" = none := by
  obtain ⟨h, X, G⟩ := T.g
  exact free_ok X G (T.c.fact 71 (f := .free "int") rfl)
theorem Tx.f_isinstance (T : Tx w K mg) : mg "isinstance" = none := by
  obtain ⟨h, X, G⟩ := T.g
  exact free_ok X G (T.c.fact 72 (f := .free "isinstance") rfl)
theorem Tx.f_len (T : Tx w K mg) : mg "len" = none := by
  obtain ⟨h, X, G⟩ := T.g
  exact free_ok X G (T.c.fact 74 (f := .free "len") rfl)
theorem Tx.f_list (T : Tx w K mg) : mg "list" = none := by
  obtain ⟨h, X, G⟩ := T.g
  exact free_ok X G (T.c.fact 75 (f := .free "list") rfl)
theorem Tx.f_range (T : Tx w K mg) : mg "range" = none := by
  obtain ⟨h, X, G⟩ := T.g
  exact free_ok X G (T.c.fact 77 (f := .free "range") rfl)
theorem Tx.f_sorted (T : Tx w K mg) : mg "sorted" = none := by
  obtain ⟨h, X, G⟩ := T.g
  exact free_ok X G (T.c.fact 78 (f := .free "sorted") rfl)
theorem Tx.f_str (T : Tx w K mg) : mg "str" = none := by
  obtain ⟨h, X, G⟩ := T.g
  exact free_ok X G (T.c.fact 80 (f := .free "str") rfl)
theorem Tx.f_tuple (T : Tx w K mg) : mg "tuple" = none := by
  obtain ⟨h, X, G⟩ := T.g
  exact free_ok X G (T.c.fact 81 (f := .free "tuple") rfl)
theorem Tx.f_zip (T : Tx w K mg) : mg "zip" = none := by
  obtain ⟨h, X, G⟩ := T.g
  exact free_ok X G (T.c.fact 82 (f := .free "zip") rfl)
theorem Tx.exm_BadLiteral_BadLiteral (T : Tx w K mg) : PySem.W.exmOne K (.ref (ga K "BadLiteral")) (.ref (ga K "BadLiteral")) = some true := exm_ok (T.c.fact 84 (f := .exm "BadLiteral" "BadLiteral" true) rfl)
theorem Tx.own_Book_need_room (T : Tx w K mg) : Cl.OwnOp K (ga K "Book") "need_room" (ma K (ga K "Book") "need_room") := ownB_ok (T.c.more 5 (f := fun K => Hk.ownB K (ga K "Book") "need_room") rfl)
theorem Tx.own_Book_drop (T : Tx w K mg) : Cl.OwnOp K (ga K "Book") "drop" (ma K (ga K "Book") "drop") := ownB_ok (T.c.more 6 (f := fun K => Hk.ownB K (ga K "Book") "drop") rfl)
theorem Tx.cmet_Book_numbered (T : Tx w K mg) : ClX.CRead K (ga K "Book") (.type "type") ∧ ClX.CMet K (ga K "Book") (.type "type") "numbered" (ma K (ga K "Book") "numbered") (He5.wf K (ga K "Book") "classmethod" "numbered") := cmetB_ok (T.c.more 9 (f := fun K => Hk.cmetB K (ga K "Book") "numbered") rfl)
theorem Tx.con_Clause_LIMIT (T : Tx w K mg) : ∃ u, Con K (ga K "Clause") "LIMIT" (.int 6) u := conB_ok (T.c.more 16 (f := fun K => Hk.conB K (ga K "Clause") "LIMIT" 6) rfl) (by decide +kernel)
theorem Tx.con_Turning_LIMIT (T : Tx w K mg) : ∃ u, Con K (ga K "Turning") "LIMIT" (.int 12) u := conB_ok (T.c.more 23 (f := fun K => Hk.conB K (ga K "Turning") "LIMIT" 12) rfl) (by decide +kernel)
theorem Tx.con_Book_LIMIT (T : Tx w K mg) : ∃ u, Con K (ga K "Book") "LIMIT" (.int 24) u := conB_ok (T.c.more 30 (f := fun K => Hk.conB K (ga K "Book") "LIMIT" 24) rfl) (by decide +kernel)
theorem Tx.con_Book_NAMES (T : Tx w K mg) : ∃ u, Con K (ga K "Book") "NAMES" (.int 12) u := conB_ok (T.c.more 32 (f := fun K => Hk.conB K (ga K "Book") "NAMES" 12) rfl) (by decide +kernel)
theorem Tx.cv_Book_NUMBERS (T : Tx w K mg) : ClX.CRead K (ga K "Book") (.type "type") ∧ ∃ u, ClX.CVal K (ga K "Book") (.type "type") "NUMBERS" (.int 999) u := cvalB_ok (T.c.more 35 (f := fun K => Hk.cvalB K (ga K "Book") "NUMBERS" 999) rfl)
theorem Tx.excC_BadLiteral (T : Tx w K mg) : ExcC K (ga K "BadLiteral") := excCB_ok (T.c.more 36 (f := fun K => excCB K (ga K "BadLiteral")) rfl)
theorem Tx.kit_BadLiteral_HornError (T : Tx w K mg) : PySem.W.kitOne K (.ref (ga K "BadLiteral")) (.ref (ga K "HornError")) = some true := kitB_ok (T.c.more 37 (f := fun K => Hk.kitB K (.ref (ga K "BadLiteral")) (.ref (ga K "HornError")) true) rfl)
theorem Tx.kit_BadLiteral_BadName (T : Tx w K mg) : PySem.W.kitOne K (.ref (ga K "BadLiteral")) (.ref (ga K "BadName")) = some false := kitB_ok (T.c.more 38 (f := fun K => Hk.kitB K (.ref (ga K "BadLiteral")) (.ref (ga K "BadName")) false) rfl)
theorem Tx.fn_is_name (T : Tx w K mg) : FunD K Hd.d_is_name.name Hd.d_is_name.qual (defArgs Hd.s_is_name) (defBody Hd.s_is_name) (defScope Hd.s_is_name) [] [] (Hd.d_is_name.at_ K) (fdOf K (Hd.d_is_name.at_ K)) := T.c.fn 0 (d := Hd.d_is_name) rfl
theorem Tx.fn_is_literal (T : Tx w K mg) : FunD K Hd.d_is_literal.name Hd.d_is_literal.qual (defArgs Hd.s_is_literal) (defBody Hd.s_is_literal) (defScope Hd.s_is_literal) [] [] (Hd.d_is_literal.at_ K) (fdOf K (Hd.d_is_literal.at_ K)) := T.c.fn 1 (d := Hd.d_is_literal) rfl
theorem Tx.fn_name_of (T : Tx w K mg) : FunD K Hd.d_name_of.name Hd.d_name_of.qual (defArgs Hd.s_name_of) (defBody Hd.s_name_of) (defScope Hd.s_name_of) [] [] (Hd.d_name_of.at_ K) (fdOf K (Hd.d_name_of.at_ K)) := T.c.fn 2 (d := Hd.d_name_of) rfl
theorem Tx.fn_negated (T : Tx w K mg) : FunD K Hd.d_negated.name Hd.d_negated.qual (defArgs Hd.s_negated) (defBody Hd.s_negated) (defScope Hd.s_negated) [] [] (Hd.d_negated.at_ K) (fdOf K (Hd.d_negated.at_ K)) := T.c.fn 3 (d := Hd.d_negated) rfl
theorem Tx.fn_ordered_names (T : Tx w K mg) : FunD K Hd.d_ordered_names.name Hd.d_ordered_names.qual (defArgs Hd.s_ordered_names) (defBody Hd.s_ordered_names) (defScope Hd.s_ordered_names) [] [] (Hd.d_ordered_names.at_ K) (fdOf K (Hd.d_ordered_names.at_ K)) := T.c.fn 4 (d := Hd.d_ordered_names) rfl
theorem Tx.fn_in_order (T : Tx w K mg) : FunD K Hd.d_in_order.name Hd.d_in_order.qual (defArgs Hd.s_in_order) (defBody Hd.s_in_order) (defScope Hd.s_in_order) [] [] (Hd.d_in_order.at_ K) (fdOf K (Hd.d_in_order.at_ K)) := T.c.fn 5 (d := Hd.d_in_order) rfl
theorem Tx.fn_twice_named (T : Tx w K mg) : FunD K Hd.d_twice_named.name Hd.d_twice_named.qual (defArgs Hd.s_twice_named) (defBody Hd.s_twice_named) (defScope Hd.s_twice_named) [] [] (Hd.d_twice_named.at_ K) (fdOf K (Hd.d_twice_named.at_ K)) := T.c.fn 6 (d := Hd.d_twice_named) rfl
theorem Tx.fn_checked_facts (T : Tx w K mg) : FunD K Hd.d_checked_facts.name Hd.d_checked_facts.qual (defArgs Hd.s_checked_facts) (defBody Hd.s_checked_facts) (defScope Hd.s_checked_facts) [] [] (Hd.d_checked_facts.at_ K) (fdOf K (Hd.d_checked_facts.at_ K)) := T.c.fn 7 (d := Hd.d_checked_facts) rfl
theorem Tx.fn_names_of (T : Tx w K mg) : FunD K Hd.d_names_of.name Hd.d_names_of.qual (defArgs Hd.s_names_of) (defBody Hd.s_names_of) (defScope Hd.s_names_of) [] [] (Hd.d_names_of.at_ K) (fdOf K (Hd.d_names_of.at_ K)) := T.c.fn 8 (d := Hd.d_names_of) rfl
theorem Tx.fn_is_link (T : Tx w K mg) : FunD K Hd.d_is_link.name Hd.d_is_link.qual (defArgs Hd.s_is_link) (defBody Hd.s_is_link) (defScope Hd.s_is_link) [] [] (Hd.d_is_link.at_ K) (fdOf K (Hd.d_is_link.at_ K)) := T.c.fn 9 (d := Hd.d_is_link) rfl
theorem Tx.fn_is_chain (T : Tx w K mg) : FunD K Hd.d_is_chain.name Hd.d_is_chain.qual (defArgs Hd.s_is_chain) (defBody Hd.s_is_chain) (defScope Hd.s_is_chain) [] [] (Hd.d_is_chain.at_ K) (fdOf K (Hd.d_is_chain.at_ K)) := T.c.fn 10 (d := Hd.d_is_chain) rfl
theorem Tx.fn_names_in (T : Tx w K mg) : FunD K Hd.d_names_in.name Hd.d_names_in.qual (defArgs Hd.s_names_in) (defBody Hd.s_names_in) (defScope Hd.s_names_in) [] [] (Hd.d_names_in.at_ K) (fdOf K (Hd.d_names_in.at_ K)) := T.c.fn 13 (d := Hd.d_names_in) rfl
theorem Tx.fn_check_sizes (T : Tx w K mg) : FunD K Hd.d_check_sizes.name Hd.d_check_sizes.qual (defArgs Hd.s_check_sizes) (defBody Hd.s_check_sizes) (defScope Hd.s_check_sizes) [] [] (Hd.d_check_sizes.at_ K) (fdOf K (Hd.d_check_sizes.at_ K)) := T.c.fn 14 (d := Hd.d_check_sizes) rfl
theorem Tx.fn_law_source (T : Tx w K mg) : FunD K Hd.d_law_source.name Hd.d_law_source.qual (defArgs Hd.s_law_source) (defBody Hd.s_law_source) (defScope Hd.s_law_source) [] [] (Hd.d_law_source.at_ K) (fdOf K (Hd.d_law_source.at_ K)) := T.c.fn 15 (d := Hd.d_law_source) rfl
theorem Tx.fn_law_take (T : Tx w K mg) : FunD K Hd.d_law_take.name Hd.d_law_take.qual (defArgs Hd.s_law_take) (defBody Hd.s_law_take) (defScope Hd.s_law_take) [] [] (Hd.d_law_take.at_ K) (fdOf K (Hd.d_law_take.at_ K)) := T.c.fn 16 (d := Hd.d_law_take) rfl
theorem Tx.fn_law_word (T : Tx w K mg) : FunD K Hd.d_law_word.name Hd.d_law_word.qual (defArgs Hd.s_law_word) (defBody Hd.s_law_word) (defScope Hd.s_law_word) [] [] (Hd.d_law_word.at_ K) (fdOf K (Hd.d_law_word.at_ K)) := T.c.fn 17 (d := Hd.d_law_word) rfl
theorem Tx.fn_law_names (T : Tx w K mg) : FunD K Hd.d_law_names.name Hd.d_law_names.qual (defArgs Hd.s_law_names) (defBody Hd.s_law_names) (defScope Hd.s_law_names) [] [] (Hd.d_law_names.at_ K) (fdOf K (Hd.d_law_names.at_ K)) := T.c.fn 18 (d := Hd.d_law_names) rfl
theorem Tx.fn_law_flip (T : Tx w K mg) : FunD K Hd.d_law_flip.name Hd.d_law_flip.qual (defArgs Hd.s_law_flip) (defBody Hd.s_law_flip) (defScope Hd.s_law_flip) [] [] (Hd.d_law_flip.at_ K) (fdOf K (Hd.d_law_flip.at_ K)) := T.c.fn 19 (d := Hd.d_law_flip) rfl
theorem Tx.fn_law_name (T : Tx w K mg) : FunD K Hd.d_law_name.name Hd.d_law_name.qual (defArgs Hd.s_law_name) (defBody Hd.s_law_name) (defScope Hd.s_law_name) [] [] (Hd.d_law_name.at_ K) (fdOf K (Hd.d_law_name.at_ K)) := T.c.fn 20 (d := Hd.d_law_name) rfl
theorem Tx.fn_law_sorted (T : Tx w K mg) : FunD K Hd.d_law_sorted.name Hd.d_law_sorted.qual (defArgs Hd.s_law_sorted) (defBody Hd.s_law_sorted) (defScope Hd.s_law_sorted) [] [] (Hd.d_law_sorted.at_ K) (fdOf K (Hd.d_law_sorted.at_ K)) := T.c.fn 21 (d := Hd.d_law_sorted) rfl
theorem Tx.fn_law_ordered (T : Tx w K mg) : FunD K Hd.d_law_ordered.name Hd.d_law_ordered.qual (defArgs Hd.s_law_ordered) (defBody Hd.s_law_ordered) (defScope Hd.s_law_ordered) [] [] (Hd.d_law_ordered.at_ K) (fdOf K (Hd.d_law_ordered.at_ K)) := T.c.fn 22 (d := Hd.d_law_ordered) rfl
theorem Tx.fn_law_same (T : Tx w K mg) : FunD K Hd.d_law_same.name Hd.d_law_same.qual (defArgs Hd.s_law_same) (defBody Hd.s_law_same) (defScope Hd.s_law_same) [] [] (Hd.d_law_same.at_ K) (fdOf K (Hd.d_law_same.at_ K)) := T.c.fn 23 (d := Hd.d_law_same) rfl
theorem Tx.fn_law_row (T : Tx w K mg) : FunD K Hd.d_law_row.name Hd.d_law_row.qual (defArgs Hd.s_law_row) (defBody Hd.s_law_row) (defScope Hd.s_law_row) [] [] (Hd.d_law_row.at_ K) (fdOf K (Hd.d_law_row.at_ K)) := T.c.fn 24 (d := Hd.d_law_row) rfl
theorem Tx.fn_law_clause (T : Tx w K mg) : FunD K Hd.d_law_clause.name Hd.d_law_clause.qual (defArgs Hd.s_law_clause) (defBody Hd.s_law_clause) (defScope Hd.s_law_clause) [] [] (Hd.d_law_clause.at_ K) (fdOf K (Hd.d_law_clause.at_ K)) := T.c.fn 25 (d := Hd.d_law_clause) rfl
theorem Tx.fn_law_numbers (T : Tx w K mg) : FunD K Hd.d_law_numbers.name Hd.d_law_numbers.qual (defArgs Hd.s_law_numbers) (defBody Hd.s_law_numbers) (defScope Hd.s_law_numbers) [] [] (Hd.d_law_numbers.at_ K) (fdOf K (Hd.d_law_numbers.at_ K)) := T.c.fn 26 (d := Hd.d_law_numbers) rfl
theorem Tx.fn_law_book (T : Tx w K mg) : FunD K Hd.d_law_book.name Hd.d_law_book.qual (defArgs Hd.s_law_book) (defBody Hd.s_law_book) (defScope Hd.s_law_book) [] [] (Hd.d_law_book.at_ K) (fdOf K (Hd.d_law_book.at_ K)) := T.c.fn 27 (d := Hd.d_law_book) rfl
theorem Tx.fn_law_is_link (T : Tx w K mg) : FunD K Hd.d_law_is_link.name Hd.d_law_is_link.qual (defArgs Hd.s_law_is_link) (defBody Hd.s_law_is_link) (defScope Hd.s_law_is_link) [] [] (Hd.d_law_is_link.at_ K) (fdOf K (Hd.d_law_is_link.at_ K)) := T.c.fn 28 (d := Hd.d_law_is_link) rfl
theorem Tx.fn_law_is_chain (T : Tx w K mg) : FunD K Hd.d_law_is_chain.name Hd.d_law_is_chain.qual (defArgs Hd.s_law_is_chain) (defBody Hd.s_law_is_chain) (defScope Hd.s_law_is_chain) [] [] (Hd.d_law_is_chain.at_ K) (fdOf K (Hd.d_law_is_chain.at_ K)) := T.c.fn 29 (d := Hd.d_law_is_chain) rfl
theorem Tx.fn_law_needs (T : Tx w K mg) : FunD K Hd.d_law_needs.name Hd.d_law_needs.qual (defArgs Hd.s_law_needs) (defBody Hd.s_law_needs) (defScope Hd.s_law_needs) [] [] (Hd.d_law_needs.at_ K) (fdOf K (Hd.d_law_needs.at_ K)) := T.c.fn 30 (d := Hd.d_law_needs) rfl
theorem Tx.fn_law_line (T : Tx w K mg) : FunD K Hd.d_law_line.name Hd.d_law_line.qual (defArgs Hd.s_law_line) (defBody Hd.s_law_line) (defScope Hd.s_law_line) [] [] (Hd.d_law_line.at_ K) (fdOf K (Hd.d_law_line.at_ K)) := T.c.fn 31 (d := Hd.d_law_line) rfl
theorem Tx.fn_law_bad (T : Tx w K mg) : FunD K Hd.d_law_bad.name Hd.d_law_bad.qual (defArgs Hd.s_law_bad) (defBody Hd.s_law_bad) (defScope Hd.s_law_bad) [] [] (Hd.d_law_bad.at_ K) (fdOf K (Hd.d_law_bad.at_ K)) := T.c.fn 32 (d := Hd.d_law_bad) rfl
theorem Tx.fn_law_start (T : Tx w K mg) : FunD K Hd.d_law_start.name Hd.d_law_start.qual (defArgs Hd.s_law_start) (defBody Hd.s_law_start) (defScope Hd.s_law_start) [] [] (Hd.d_law_start.at_ K) (fdOf K (Hd.d_law_start.at_ K)) := T.c.fn 33 (d := Hd.d_law_start) rfl
theorem Tx.fn_law_walk (T : Tx w K mg) : FunD K Hd.d_law_walk.name Hd.d_law_walk.qual (defArgs Hd.s_law_walk) (defBody Hd.s_law_walk) (defScope Hd.s_law_walk) [] [] (Hd.d_law_walk.at_ K) (fdOf K (Hd.d_law_walk.at_ K)) := T.c.fn 34 (d := Hd.d_law_walk) rfl
theorem Tx.fn_law_mirror (T : Tx w K mg) : FunD K Hd.d_law_mirror.name Hd.d_law_mirror.qual (defArgs Hd.s_law_mirror) (defBody Hd.s_law_mirror) (defScope Hd.s_law_mirror) [] [] (Hd.d_law_mirror.at_ K) (fdOf K (Hd.d_law_mirror.at_ K)) := T.c.fn 35 (d := Hd.d_law_mirror) rfl
theorem Tx.fn_law_put_at (T : Tx w K mg) : FunD K Hd.d_law_put_at.name Hd.d_law_put_at.qual (defArgs Hd.s_law_put_at) (defBody Hd.s_law_put_at) (defScope Hd.s_law_put_at) [] [] (Hd.d_law_put_at.at_ K) (fdOf K (Hd.d_law_put_at.at_ K)) := T.c.fn 36 (d := Hd.d_law_put_at) rfl
theorem Tx.fn_law_spoilt (T : Tx w K mg) : FunD K Hd.d_law_spoilt.name Hd.d_law_spoilt.qual (defArgs Hd.s_law_spoilt) (defBody Hd.s_law_spoilt) (defScope Hd.s_law_spoilt) [] [] (Hd.d_law_spoilt.at_ K) (fdOf K (Hd.d_law_spoilt.at_ K)) := T.c.fn 37 (d := Hd.d_law_spoilt) rfl
theorem Tx.fn_law_judged (T : Tx w K mg) : FunD K Hd.d_law_judged.name Hd.d_law_judged.qual (defArgs Hd.s_law_judged) (defBody Hd.s_law_judged) (defScope Hd.s_law_judged) [] [] (Hd.d_law_judged.at_ K) (fdOf K (Hd.d_law_judged.at_ K)) := T.c.fn 38 (d := Hd.d_law_judged) rfl
theorem Tx.fn_law_both (T : Tx w K mg) : FunD K Hd.d_law_both.name Hd.d_law_both.qual (defArgs Hd.s_law_both) (defBody Hd.s_law_both) (defScope Hd.s_law_both) [] [] (Hd.d_law_both.at_ K) (fdOf K (Hd.d_law_both.at_ K)) := T.c.fn 39 (d := Hd.d_law_both) rfl
theorem Tx.fn_law_single_links (T : Tx w K mg) : FunD K Hd.d_law_single_links.name Hd.d_law_single_links.qual (defArgs Hd.s_law_single_links) (defBody Hd.s_law_single_links) (defScope Hd.s_law_single_links) [] [] (Hd.d_law_single_links.at_ K) (fdOf K (Hd.d_law_single_links.at_ K)) := T.c.fn 40 (d := Hd.d_law_single_links) rfl
theorem Tx.fn_law_refused (T : Tx w K mg) : FunD K Hd.d_law_refused.name Hd.d_law_refused.qual (defArgs Hd.s_law_refused) (defBody Hd.s_law_refused) (defScope Hd.s_law_refused) [] [] (Hd.d_law_refused.at_ K) (fdOf K (Hd.d_law_refused.at_ K)) := T.c.fn 41 (d := Hd.d_law_refused) rfl
theorem Tx.fn_law_refusals (T : Tx w K mg) : FunD K Hd.d_law_refusals.name Hd.d_law_refusals.qual (defArgs Hd.s_law_refusals) (defBody Hd.s_law_refusals) (defScope Hd.s_law_refusals) [] [] (Hd.d_law_refusals.at_ K) (fdOf K (Hd.d_law_refusals.at_ K)) := T.c.fn 42 (d := Hd.d_law_refusals) rfl
theorem Tx.fn_law (T : Tx w K mg) : FunD K Hd.d_law.name Hd.d_law.qual (defArgs Hd.s_law) (defBody Hd.s_law) (defScope Hd.s_law) [] [] (Hd.d_law.at_ K) (fdOf K (Hd.d_law.at_ K)) := T.c.fn 43 (d := Hd.d_law) rfl
theorem Tx.fn_Clause_init (T : Tx w K mg) : FunD K Hd.d_Clause_init.name Hd.d_Clause_init.qual (defArgs Hd.s_Clause_init) (defBody Hd.s_Clause_init) (defScope Hd.s_Clause_init) [] [] (Hd.d_Clause_init.at_ K) (fdOf K (Hd.d_Clause_init.at_ K)) := T.c.fn 44 (d := Hd.d_Clause_init) rfl
theorem Tx.fn_Book_init (T : Tx w K mg) : FunD K Hd.d_Book_init.name Hd.d_Book_init.qual (defArgs Hd.s_Book_init) (defBody Hd.s_Book_init) (defScope Hd.s_Book_init) [] [("numbers", .non), ("greatest", .int 0)] (Hd.d_Book_init.at_ K) (fdOf K (Hd.d_Book_init.at_ K)) := T.c.fn 50 (d := Hd.d_Book_init) rfl
theorem Tx.fn_Book_numbered (T : Tx w K mg) : FunD K Hd.d_Book_numbered.name Hd.d_Book_numbered.qual (defArgs Hd.s_Book_numbered) (defBody Hd.s_Book_numbered) (defScope Hd.s_Book_numbered) [] [] (Hd.d_Book_numbered.at_ K) (fdOf K (Hd.d_Book_numbered.at_ K)) := T.c.fn 51 (d := Hd.d_Book_numbered) rfl
theorem Tx.fn_Book_need_room (T : Tx w K mg) : FunD K Hd.d_Book_need_room.name Hd.d_Book_need_room.qual (defArgs Hd.s_Book_need_room) (defBody Hd.s_Book_need_room) (defScope Hd.s_Book_need_room) [] [] (Hd.d_Book_need_room.at_ K) (fdOf K (Hd.d_Book_need_room.at_ K)) := T.c.fn 52 (d := Hd.d_Book_need_room) rfl
theorem Tx.fn_Book_drop (T : Tx w K mg) : FunD K Hd.d_Book_drop.name Hd.d_Book_drop.qual (defArgs Hd.s_Book_drop) (defBody Hd.s_Book_drop) (defScope Hd.s_Book_drop) [] [] (Hd.d_Book_drop.at_ K) (fdOf K (Hd.d_Book_drop.at_ K)) := T.c.fn 53 (d := Hd.d_Book_drop) rfl
theorem Tx.sc_BadName : ScopeE PySem.Challenge.pw_renamedhorn_k26_chains_judged (defScope Hd.s_BadName_init) (defArgs Hd.s_BadName_init) := ⟨⟨_, rfl⟩, rfl, rfl, rfl, rfl, rfl, rfl, by decide +kernel, by decide +kernel⟩
theorem Tx.err_BadName (T : Tx w K mg) : Err1 PySem.Challenge.pw_renamedhorn_k26_chains_judged w K mg "BadName" "text" (ga K "BadName") := by
  obtain ⟨h, X, G⟩ := T.g
  obtain ⟨e, c⟩ := T.c.it 56 (d := Hd.d_BadName.it "/claim/cut.py") rfl
  exact err1_of X G c e rfl Tx.sc_BadName rfl (fun _ _ _ _ _ _ _ _ _ _ _ => rfl) rfl (by decide) (by decide)
theorem Tx.sc_BadLiteral : ScopeE PySem.Challenge.pw_renamedhorn_k26_chains_judged (defScope Hd.s_BadLiteral_init) (defArgs Hd.s_BadLiteral_init) := ⟨⟨_, rfl⟩, rfl, rfl, rfl, rfl, rfl, rfl, by decide +kernel, by decide +kernel⟩
theorem Tx.err_BadLiteral (T : Tx w K mg) : Err1 PySem.Challenge.pw_renamedhorn_k26_chains_judged w K mg "BadLiteral" "text" (ga K "BadLiteral") := by
  obtain ⟨h, X, G⟩ := T.g
  obtain ⟨e, c⟩ := T.c.it 57 (d := Hd.d_BadLiteral.it "/claim/cut.py") rfl
  exact err1_of X G c e rfl Tx.sc_BadLiteral rfl (fun _ _ _ _ _ _ _ _ _ _ _ => rfl) rfl (by decide) (by decide)
theorem Tx.sc_BothSigns : ScopeE PySem.Challenge.pw_renamedhorn_k26_chains_judged (defScope Hd.s_BothSigns_init) (defArgs Hd.s_BothSigns_init) := ⟨⟨_, rfl⟩, rfl, rfl, rfl, rfl, rfl, rfl, by decide +kernel, by decide +kernel⟩
theorem Tx.err_BothSigns (T : Tx w K mg) : Err1 PySem.Challenge.pw_renamedhorn_k26_chains_judged w K mg "BothSigns" "name" (ga K "BothSigns") := by
  obtain ⟨h, X, G⟩ := T.g
  obtain ⟨e, c⟩ := T.c.it 58 (d := Hd.d_BothSigns.it "/claim/cut.py") rfl
  exact err1_of X G c e rfl Tx.sc_BothSigns rfl (fun _ _ _ _ _ _ _ _ _ _ _ => rfl) rfl (by decide) (by decide)
theorem Tx.sc_TooMany : ScopeE PySem.Challenge.pw_renamedhorn_k26_chains_judged (defScope Hd.s_TooMany_init) (defArgs Hd.s_TooMany_init) := ⟨⟨_, rfl⟩, rfl, rfl, rfl, rfl, rfl, rfl, by decide +kernel, by decide +kernel⟩
theorem Tx.err_TooMany (T : Tx w K mg) : Err1 PySem.Challenge.pw_renamedhorn_k26_chains_judged w K mg "TooMany" "limit" (ga K "TooMany") := by
  obtain ⟨h, X, G⟩ := T.g
  obtain ⟨e, c⟩ := T.c.it 59 (d := Hd.d_TooMany.it "/claim/cut.py") rfl
  exact err1_of X G c e rfl Tx.sc_TooMany rfl (fun _ _ _ _ _ _ _ _ _ _ _ => rfl) rfl (by decide) (by decide)
theorem Tx.sc_NoClause : ScopeE PySem.Challenge.pw_renamedhorn_k26_chains_judged (defScope Hd.s_NoClause_init) (defArgs Hd.s_NoClause_init) := ⟨⟨_, rfl⟩, rfl, rfl, rfl, rfl, rfl, rfl, by decide +kernel, by decide +kernel⟩
theorem Tx.err_NoClause (T : Tx w K mg) : Err1 PySem.Challenge.pw_renamedhorn_k26_chains_judged w K mg "NoClause" "number" (ga K "NoClause") := by
  obtain ⟨h, X, G⟩ := T.g
  obtain ⟨e, c⟩ := T.c.it 60 (d := Hd.d_NoClause.it "/claim/cut.py") rfl
  exact err1_of X G c e rfl Tx.sc_NoClause rfl (fun _ _ _ _ _ _ _ _ _ _ _ => rfl) rfl (by decide) (by decide)
theorem Tx.sc_BadNumber : ScopeE PySem.Challenge.pw_renamedhorn_k26_chains_judged (defScope Hd.s_BadNumber_init) (defArgs Hd.s_BadNumber_init) := ⟨⟨_, rfl⟩, rfl, rfl, rfl, rfl, rfl, rfl, by decide +kernel, by decide +kernel⟩
theorem Tx.err_BadNumber (T : Tx w K mg) : Err1 PySem.Challenge.pw_renamedhorn_k26_chains_judged w K mg "BadNumber" "number" (ga K "BadNumber") := by
  obtain ⟨h, X, G⟩ := T.g
  obtain ⟨e, c⟩ := T.c.it 61 (d := Hd.d_BadNumber.it "/claim/cut.py") rfl
  exact err1_of X G c e rfl Tx.sc_BadNumber rfl (fun _ _ _ _ _ _ _ _ _ _ _ => rfl) rfl (by decide) (by decide)
end
end Ok
namespace Ok
open PySem PySem.Spec PyProof.Rows L2 He Hk Px Rd
section
variable {w : World} {K : PySem.W.Frag} {mg : PySem.Str → Option Value} {base : Heap}
theorem sc_is_name : FnScope N_is_name ["text"] (defScope Hd.s_is_name) := ⟨rfl, rfl, rfl, by decide +kernel, rfl, by decide +kernel, by decide +kernel⟩
theorem b_is_name (T : Tx w K mg) : Binds K (fdOf K (ga K "is_name")) ["text"] [] := T.fn_is_name.bindsN fun _ _ _ _ _ _ us hl => match us, hl with | [_], _ => rfl
theorem ok_is_name (T : Tx w K mg) : FnOk PySem.Challenge.pw_renamedhorn_k26_chains_judged w K mg base (L2N.CX PySem.Challenge.pw_renamedhorn_k26_chains_judged w) 1 (ga K "is_name") (fdOf K (ga K "is_name")) ["text"] (sp_is_name K) := by
  refine T.fn_is_name.ok sc_is_name (fun vs H Q E h => Sp1.len h) (fun cdv A outer s H vs Q E hr h => ⟨t_is_name K (fun cls d _ H => E cls d H), ?_, pure_is_name h⟩)
  · have tk := L2N.takes_of (X := cxOf (L2N.CX PySem.Challenge.pw_renamedhorn_k26_chains_judged w) PySem.Challenge.pw_renamedhorn_k26_chains_judged w K mg base N_is_name "is_name" (defScope Hd.s_is_name) (ga K "is_name") cdv A outer s H E) (E := E) rfl rfl rfl rfl
    obtain ⟨tk_LETTERS, m_LETTERS⟩ := T.c_LETTERS
    obtain ⟨tk_NAME_SIZE, m_NAME_SIZE⟩ := T.c_NAME_SIZE
    obtain ⟨tk_SIGNS, m_SIGNS⟩ := T.c_SIGNS
    exact (pss_cut (ps_if (PW.pt (pw_or (pt_cmpR op_ltP (pe_callB call_lenP (by rfl) T.f_len PyProof.Rows.Boot.«len» (pa_cons (pv 0) pa_nil)) pe_int (nomark _)) (pw_or1 (pt_cmpR op_gtP (pe_callB call_lenP (by rfl) T.f_len PyProof.Rows.Boot.«len» (pa_cons (pv 0) pa_nil)) (pe_glob rfl m_NAME_SIZE ⟨_, rfl⟩) (nomark _))))) (pss_one (ps_ret pe_bl)) pss_nil)
      (pss_cut (ps_if (pt_cmpR (op_ninP hr.units) (pe_ix ix_P (pv 0) pe_int (fun _ _ => rfl)) (pe_glob rfl m_LETTERS ⟨_, rfl⟩) (by rfl)) (pss_one (ps_ret pe_bl)) pss_nil)
      (pss_one (ps_ret (pe_callB (cr_all rfl) (by rfl) T.f_all PyProof.Rows.Boot.«all» (pa_cons (pe_lc (own := [("sign", 1)]) (g := (gName 1)) (tt := tYes) rfl sc_is_name.nd (pi_anyP (pv 0)) (blkOk_by (own := [("sign", 1)]) (N := N_is_name) (sc := defScope Hd.s_is_name) (by decide +kernel)) (fun _ _ _ _ _ => (pg_name (i := 1) sc_is_name.nd rfl (Or.inl rfl))) (fun _ _ _ _ _ => pts_nil) (fun _ _ _ _ _ => (pe_cmpR (op_inP hr.units) (pv 1) (pe_glob rfl m_SIGNS ⟨_, rfl⟩) (by rfl)))) pa_nil))))))
theorem sc_is_literal : FnScope N_is_literal ["text"] (defScope Hd.s_is_literal) := ⟨rfl, rfl, rfl, by decide +kernel, rfl, by decide +kernel, by decide +kernel⟩
theorem b_is_literal (T : Tx w K mg) : Binds K (fdOf K (ga K "is_literal")) ["text"] [] := T.fn_is_literal.bindsN fun _ _ _ _ _ _ us hl => match us, hl with | [_], _ => rfl
theorem ok_is_literal (T : Tx w K mg) : FnOk PySem.Challenge.pw_renamedhorn_k26_chains_judged w K mg base (L2N.CX PySem.Challenge.pw_renamedhorn_k26_chains_judged w) 2 (ga K "is_literal") (fdOf K (ga K "is_literal")) ["text"] (sp_is_literal K) := by
  refine T.fn_is_literal.ok sc_is_literal (fun vs H Q E h => Sp1.len h) (fun cdv A outer s H vs Q E hr h => ⟨t_is_literal K (fun cls d _ H => E cls d H), ?_, pure_is_literal h⟩)
  · have tk := L2N.takes_of (X := cxOf (L2N.CX PySem.Challenge.pw_renamedhorn_k26_chains_judged w) PySem.Challenge.pw_renamedhorn_k26_chains_judged w K mg base N_is_literal "is_literal" (defScope Hd.s_is_literal) (ga K "is_literal") cdv A outer s H E) (E := E) rfl rfl rfl rfl
    exact (pss_cut (ps_if (pt_cmpR (op_eqP hr.units) (pe_slice sl_P (pv 0) po_none (po_some pe_int)) pe_str (nomark _)) (pss_one (ps_ret (pe_callS (ok_is_name T) (hr.mono (by decide)) rfl T.g_is_name (T.fn_is_name).kp (b_is_name T) (fun σ => L2N.passAt tk σ) (pa_cons (pe_slice sl_P (pv 0) (po_some pe_int) po_none) pa_nil)))) pss_nil)
      (pss_one (ps_ret (pe_callS (ok_is_name T) (hr.mono (by decide)) rfl T.g_is_name (T.fn_is_name).kp (b_is_name T) (fun σ => L2N.passAt tk σ) (pa_cons (pv 0) pa_nil)))))
theorem sc_name_of : FnScope N_name_of ["literal"] (defScope Hd.s_name_of) := ⟨rfl, rfl, rfl, by decide +kernel, rfl, by decide +kernel, by decide +kernel⟩
theorem b_name_of (T : Tx w K mg) : Binds K (fdOf K (ga K "name_of")) ["literal"] [] := T.fn_name_of.bindsN fun _ _ _ _ _ _ us hl => match us, hl with | [_], _ => rfl
theorem ok_name_of (T : Tx w K mg) : FnOk PySem.Challenge.pw_renamedhorn_k26_chains_judged w K mg base (L2N.CX PySem.Challenge.pw_renamedhorn_k26_chains_judged w) 3 (ga K "name_of") (fdOf K (ga K "name_of")) ["literal"] (sp_name_of K) := by
  refine T.fn_name_of.ok sc_name_of (fun vs H Q E h => Sp1.len h) (fun cdv A outer s H vs Q E hr h => ⟨t_name_of K (fun cls d _ H => E cls d H), ?_, pure_name_of h⟩)
  · have tk := L2N.takes_of (X := cxOf (L2N.CX PySem.Challenge.pw_renamedhorn_k26_chains_judged w) PySem.Challenge.pw_renamedhorn_k26_chains_judged w K mg base N_name_of "name_of" (defScope Hd.s_name_of) (ga K "name_of") cdv A outer s H E) (E := E) rfl rfl rfl rfl
    exact (pss_cut (ps_if (pt_not (pt_val (pe_callS (ok_is_literal T) (hr.mono (by decide)) rfl T.g_is_literal (T.fn_is_literal).kp (b_is_literal T) (fun σ => L2N.passAt tk σ) (pa_cons (pv 0) pa_nil)))) (pss_one (ps_raiseE rfl T.err_BadLiteral hr tk (pa_cons (pv 0) pa_nil))) pss_nil)
      (pss_cut (ps_if (pt_cmpR (op_eqP hr.units) (pe_slice sl_P (pv 0) po_none (po_some pe_int)) pe_str (nomark _)) (pss_one (ps_ret (pe_slice sl_P (pv 0) (po_some pe_int) po_none))) pss_nil)
      (pss_one (ps_ret (pv 0)))))
theorem sc_negated : FnScope N_negated ["literal"] (defScope Hd.s_negated) := ⟨rfl, rfl, rfl, by decide +kernel, rfl, by decide +kernel, by decide +kernel⟩
theorem b_negated (T : Tx w K mg) : Binds K (fdOf K (ga K "negated")) ["literal"] [] := T.fn_negated.bindsN fun _ _ _ _ _ _ us hl => match us, hl with | [_], _ => rfl
theorem ok_negated (T : Tx w K mg) : FnOk PySem.Challenge.pw_renamedhorn_k26_chains_judged w K mg base (L2N.CX PySem.Challenge.pw_renamedhorn_k26_chains_judged w) 3 (ga K "negated") (fdOf K (ga K "negated")) ["literal"] (sp_negated K) := by
  refine T.fn_negated.ok sc_negated (fun vs H Q E h => Sp1.len h) (fun cdv A outer s H vs Q E hr h => ⟨t_negated K (fun cls d _ H => E cls d H), ?_, pure_negated h⟩)
  · have tk := L2N.takes_of (X := cxOf (L2N.CX PySem.Challenge.pw_renamedhorn_k26_chains_judged w) PySem.Challenge.pw_renamedhorn_k26_chains_judged w K mg base N_negated "negated" (defScope Hd.s_negated) (ga K "negated") cdv A outer s H E) (E := E) rfl rfl rfl rfl
    exact (pss_cut (ps_if (pt_not (pt_val (pe_callS (ok_is_literal T) (hr.mono (by decide)) rfl T.g_is_literal (T.fn_is_literal).kp (b_is_literal T) (fun σ => L2N.passAt tk σ) (pa_cons (pv 0) pa_nil)))) (pss_one (ps_raiseE rfl T.err_BadLiteral hr tk (pa_cons (pv 0) pa_nil))) pss_nil)
      (pss_cut (ps_if (pt_cmpR (op_eqP hr.units) (pe_slice sl_P (pv 0) po_none (po_some pe_int)) pe_str (nomark _)) (pss_one (ps_ret (pe_slice sl_P (pv 0) (po_some pe_int) po_none))) pss_nil)
      (pss_one (ps_ret (pe_op op_addP pe_str (pv 0))))))
theorem sc_ordered_names : FnScope N_ordered_names ["names"] (defScope Hd.s_ordered_names) := ⟨rfl, rfl, rfl, by decide +kernel, rfl, by decide +kernel, by decide +kernel⟩
theorem b_ordered_names (T : Tx w K mg) : Binds K (fdOf K (ga K "ordered_names")) ["names"] [] := T.fn_ordered_names.bindsN fun _ _ _ _ _ _ us hl => match us, hl with | [_], _ => rfl
theorem ok_ordered_names (T : Tx w K mg) : FnOk PySem.Challenge.pw_renamedhorn_k26_chains_judged w K mg base (L2N.CX PySem.Challenge.pw_renamedhorn_k26_chains_judged w) 3 (ga K "ordered_names") (fdOf K (ga K "ordered_names")) ["names"] (sp_ordered_names K) := by
  refine T.fn_ordered_names.ok sc_ordered_names (fun vs H Q E h => Sp1.len h) (fun cdv A outer s H vs Q E hr h => ⟨t_ordered_names K (fun cls d _ H => E cls d H), ?_, pure_ordered_names h⟩)
  · have tk := L2N.takes_of (X := cxOf (L2N.CX PySem.Challenge.pw_renamedhorn_k26_chains_judged w) PySem.Challenge.pw_renamedhorn_k26_chains_judged w K mg base N_ordered_names "ordered_names" (defScope Hd.s_ordered_names) (ga K "ordered_names") cdv A outer s H E) (E := E) rfl rfl rfl rfl
    exact (pss_cut (ps_for (passes_of rfl) rfl (pi_anyP (pv 0)) (pg_name (i := 1) sc_ordered_names.nd rfl (Or.inl rfl)) (pss_one (ps_if (pt_not (pt_val (pe_callS (ok_is_name T) (hr.mono (by decide)) rfl T.g_is_name (T.fn_is_name).kp (b_is_name T) (fun σ => L2N.passAt tk σ) (pa_cons (pv 1) pa_nil)))) (pss_one (ps_raiseE rfl T.err_BadName hr tk (pa_cons (pv 1) pa_nil))) pss_nil)))
      (pss_cons (ps_asg (pe_lst pa_nil) (pg_name (i := 2) sc_ordered_names.nd rfl (Or.inl rfl)))
      (pss_cut (ps_for (passes_of rfl) rfl (pi_anyP (pe_callB cr_sortedP2 (by rfl) T.f_sorted PyProof.Rows.Boot.«sorted» (pa_cons (pe_lc (own := [("name", 1)]) (g := (gName 1)) (tt := tYes) rfl sc_ordered_names.nd (pi_anyP (pv 0)) (blkOk_by (own := [("name", 1)]) (N := N_ordered_names) (sc := defScope Hd.s_ordered_names) (by decide +kernel)) (fun _ _ _ _ _ => (pg_name (i := 1) sc_ordered_names.nd rfl (Or.inl rfl))) (fun _ _ _ _ _ => pts_nil) (fun _ _ _ _ _ => (pe_callTy call_strP (by rfl) T.f_str PyProof.Rows.Boot.«str» (pa_cons (pv 1) pa_nil)))) pa_nil))) (pg_name (i := 1) sc_ordered_names.nd rfl (Or.inl rfl)) (pss_one (ps_if (pt_cmpR (op_ninP hr.units) (pv 1) (pv 2) (by rfl)) (pss_one (ps_expr (pe_bm PySem.F.plainAttrs_list PySem.F.slot_list_append PySem.F.type_list_append mt_append (pv 2) (pa_cons (pv 1) pa_nil)))) pss_nil)))
      (pss_one (ps_ret (pv 2))))))
theorem sc_in_order : FnScope N_in_order ["literals"] (defScope Hd.s_in_order) := ⟨rfl, rfl, rfl, by decide +kernel, rfl, by decide +kernel, by decide +kernel⟩
theorem b_in_order (T : Tx w K mg) : Binds K (fdOf K (ga K "in_order")) ["literals"] [] := T.fn_in_order.bindsN fun _ _ _ _ _ _ us hl => match us, hl with | [_], _ => rfl
theorem ok_in_order (T : Tx w K mg) : FnOk PySem.Challenge.pw_renamedhorn_k26_chains_judged w K mg base (L2N.CX PySem.Challenge.pw_renamedhorn_k26_chains_judged w) 4 (ga K "in_order") (fdOf K (ga K "in_order")) ["literals"] (sp_in_order K) := by
  refine T.fn_in_order.ok sc_in_order (fun vs H Q E h => Sp1.len h) (fun cdv A outer s H vs Q E hr h => ⟨t_in_order K (fun cls d _ H => E cls d H), ?_, pure_in_order h⟩)
  · have tk := L2N.takes_of (X := cxOf (L2N.CX PySem.Challenge.pw_renamedhorn_k26_chains_judged w) PySem.Challenge.pw_renamedhorn_k26_chains_judged w K mg base N_in_order "in_order" (defScope Hd.s_in_order) (ga K "in_order") cdv A outer s H E) (E := E) rfl rfl rfl rfl
    exact (pss_cons (ps_asg pe_dnewK (pg_name (i := 1) sc_in_order.nd rfl (Or.inl rfl)))
      (pss_cut (ps_for (passes_of rfl) rfl (pi_anyP (pv 0)) (pg_name (i := 2) sc_in_order.nd rfl (Or.inl rfl)) (pss_cut (ps_if (pt_not (pt_val (pe_callS (ok_is_literal T) (hr.mono (by decide)) rfl T.g_is_literal (T.fn_is_literal).kp (b_is_literal T) (fun σ => L2N.passAt tk σ) (pa_cons (pv 2) pa_nil)))) (pss_one (ps_raiseE rfl T.err_BadLiteral hr tk (pa_cons (pv 2) pa_nil))) pss_nil)
      (pss_one (ps_asg pe_bl (pg_sub (pv 1) (pv 2) (set_P hr.units))))))
      (pss_cons (ps_asg (pe_lst pa_nil) (pg_name (i := 3) sc_in_order.nd rfl (Or.inl rfl)))
      (pss_cut (ps_for (passes_of rfl) rfl (pi_anyP (pe_callS (ok_ordered_names T) (hr.mono (by decide)) rfl T.g_ordered_names (T.fn_ordered_names).kp (b_ordered_names T) (fun σ => L2N.passAt tk σ) (pa_cons (pe_lock (pe_lc (own := [("literal", 2)]) (g := (gName 2)) (tt := tYes) rfl sc_in_order.nd (pi_keys (pv 1)) (blkOk_by (own := [("literal", 2)]) (N := N_in_order) (sc := defScope Hd.s_in_order) (by decide +kernel)) (fun _ _ _ _ _ => (pg_name (i := 2) sc_in_order.nd rfl (Or.inl rfl))) (fun _ _ _ _ _ => pts_nil) (fun _ _ _ _ _ => (pe_call (ok_name_of T) (hr.mono (by decide)) rfl T.g_name_of (T.fn_name_of).kp (b_name_of T) .nil passN (pa_cons (pv 2) pa_nil))))) pa_nil))) (pg_name (i := 4) sc_in_order.nd rfl (Or.inl rfl)) (pss_one (ps_for (passes_of rfl) rfl (pi_anyP (pe_tup (pa_cons (pv 4) (pa_cons (pe_op op_addP pe_str (pv 4)) pa_nil)))) (pg_name (i := 2) sc_in_order.nd rfl (Or.inl rfl)) (pss_one (ps_if (pt_cmpR (op_inP hr.units) (pv 2) (pv 1) (by rfl)) (pss_one (ps_expr (pe_bm PySem.F.plainAttrs_list PySem.F.slot_list_append PySem.F.type_list_append mt_append (pv 3) (pa_cons (pv 2) pa_nil)))) pss_nil)))))
      (pss_one (ps_ret (pv 3)))))))
theorem sc_twice_named : FnScope N_twice_named ["literals"] (defScope Hd.s_twice_named) := ⟨rfl, rfl, rfl, by decide +kernel, rfl, by decide +kernel, by decide +kernel⟩
theorem b_twice_named (T : Tx w K mg) : Binds K (fdOf K (ga K "twice_named")) ["literals"] [] := T.fn_twice_named.bindsN fun _ _ _ _ _ _ us hl => match us, hl with | [_], _ => rfl
theorem ok_twice_named (T : Tx w K mg) : FnOk PySem.Challenge.pw_renamedhorn_k26_chains_judged w K mg base (L2N.CX PySem.Challenge.pw_renamedhorn_k26_chains_judged w) 1 (ga K "twice_named") (fdOf K (ga K "twice_named")) ["literals"] (sp_twice_named K) := by
  refine T.fn_twice_named.ok sc_twice_named (fun vs H Q E h => Sp1.len h) (fun cdv A outer s H vs Q E hr h => ⟨t_twice_named K (fun cls d _ H => E cls d H), ?_, pure_twice_named h⟩)
  · have tk := L2N.takes_of (X := cxOf (L2N.CX PySem.Challenge.pw_renamedhorn_k26_chains_judged w) PySem.Challenge.pw_renamedhorn_k26_chains_judged w K mg base N_twice_named "twice_named" (defScope Hd.s_twice_named) (ga K "twice_named") cdv A outer s H E) (E := E) rfl rfl rfl rfl
    exact (pss_cut (ps_for (passes_of rfl) rfl (pi_anyP (pv 0)) (pg_name (i := 1) sc_twice_named.nd rfl (Or.inl rfl)) (pss_one (ps_if (PW.pt (pw_and (pt_cmpR (op_neP hr.units) (pe_slice sl_P (pv 1) po_none (po_some pe_int)) pe_str (nomark _)) (pw_and1 (pt_cmpR (op_inP hr.units) (pe_op op_addP pe_str (pv 1)) (pv 0) (by rfl))))) (pss_one (ps_ret (pv 1))) pss_nil)))
      (pss_one (ps_ret pe_non)))
theorem sc_checked_facts : FnScope N_checked_facts ["literals", "limit"] (defScope Hd.s_checked_facts) := ⟨rfl, rfl, rfl, by decide +kernel, rfl, by decide +kernel, by decide +kernel⟩
theorem b_checked_facts (T : Tx w K mg) : Binds K (fdOf K (ga K "checked_facts")) ["literals", "limit"] [] := T.fn_checked_facts.bindsN fun _ _ _ _ _ _ us hl => match us, hl with | [_, _], _ => rfl
theorem ok_checked_facts (T : Tx w K mg) : FnOk PySem.Challenge.pw_renamedhorn_k26_chains_judged w K mg base (L2N.CX PySem.Challenge.pw_renamedhorn_k26_chains_judged w) 5 (ga K "checked_facts") (fdOf K (ga K "checked_facts")) ["literals", "limit"] (sp_checked_facts K) := by
  refine T.fn_checked_facts.ok sc_checked_facts (fun vs H Q E h => Sp2.len h) (fun cdv A outer s H vs Q E hr h => ⟨t_checked_facts K (fun cls d _ H => E cls d H), ?_, pure_checked_facts h⟩)
  · have tk := L2N.takes_of (X := cxOf (L2N.CX PySem.Challenge.pw_renamedhorn_k26_chains_judged w) PySem.Challenge.pw_renamedhorn_k26_chains_judged w K mg base N_checked_facts "checked_facts" (defScope Hd.s_checked_facts) (ga K "checked_facts") cdv A outer s H E) (E := E) rfl rfl rfl rfl
    exact (pss_cons (ps_asg (pe_callS (ok_in_order T) (hr.mono (by decide)) rfl T.g_in_order (T.fn_in_order).kp (b_in_order T) (fun σ => L2N.passAt tk σ) (pa_cons (pv 0) pa_nil)) (pg_name (i := 2) sc_checked_facts.nd rfl (Or.inl rfl)))
      (pss_cons (ps_asg (pe_callS (ok_twice_named T) (hr.mono (by decide)) rfl T.g_twice_named (T.fn_twice_named).kp (b_twice_named T) (fun σ => L2N.passAt tk σ) (pa_cons (pv 2) pa_nil)) (pg_name (i := 3) sc_checked_facts.nd rfl (Or.inl rfl)))
      (pss_cut (ps_if (pt_cmpR op_isnotP (pv 3) pe_non (nomark _)) (pss_one (ps_raiseE rfl T.err_BothSigns hr tk (pa_cons (pv 3) pa_nil))) pss_nil)
      (pss_cut (ps_if (pt_cmpR op_gtP (pe_callB call_lenP (by rfl) T.f_len PyProof.Rows.Boot.«len» (pa_cons (pv 2) pa_nil)) (pv 1) (nomark _)) (pss_one (ps_raiseE rfl T.err_TooMany hr tk (pa_cons (pv 1) pa_nil))) pss_nil)
      (pss_one (ps_ret (pv 2)))))))
theorem sc_names_of : FnScope N_names_of ["literals"] (defScope Hd.s_names_of) := ⟨rfl, rfl, rfl, by decide +kernel, rfl, by decide +kernel, by decide +kernel⟩
theorem b_names_of (T : Tx w K mg) : Binds K (fdOf K (ga K "names_of")) ["literals"] [] := T.fn_names_of.bindsN fun _ _ _ _ _ _ us hl => match us, hl with | [_], _ => rfl
theorem ok_names_of (T : Tx w K mg) : FnOk PySem.Challenge.pw_renamedhorn_k26_chains_judged w K mg base (L2N.CX PySem.Challenge.pw_renamedhorn_k26_chains_judged w) 4 (ga K "names_of") (fdOf K (ga K "names_of")) ["literals"] (sp_names_of K) := by
  refine T.fn_names_of.ok sc_names_of (fun vs H Q E h => Sp1.len h) (fun cdv A outer s H vs Q E hr h => ⟨t_names_of K (fun cls d _ H => E cls d H), ?_, pure_names_of h⟩)
  · have tk := L2N.takes_of (X := cxOf (L2N.CX PySem.Challenge.pw_renamedhorn_k26_chains_judged w) PySem.Challenge.pw_renamedhorn_k26_chains_judged w K mg base N_names_of "names_of" (defScope Hd.s_names_of) (ga K "names_of") cdv A outer s H E) (E := E) rfl rfl rfl rfl
    exact (pss_one (ps_ret (pe_callS (ok_ordered_names T) (hr.mono (by decide)) rfl T.g_ordered_names (T.fn_ordered_names).kp (b_ordered_names T) (fun σ => L2N.passAt tk σ) (pa_cons (pe_lc (own := [("literal", 1)]) (g := (gName 1)) (tt := tYes) rfl sc_names_of.nd (pi_anyP (pv 0)) (blkOk_by (own := [("literal", 1)]) (N := N_names_of) (sc := defScope Hd.s_names_of) (by decide +kernel)) (fun _ _ _ _ _ => (pg_name (i := 1) sc_names_of.nd rfl (Or.inl rfl))) (fun _ _ _ _ _ => pts_nil) (fun _ _ _ _ _ => (pe_call (ok_name_of T) (hr.mono (by decide)) rfl T.g_name_of (T.fn_name_of).kp (b_name_of T) .nil passN (pa_cons (pv 1) pa_nil)))) pa_nil))))
theorem sc_is_link : FnScope N_is_link ["book", "one", "number", "other"] (defScope Hd.s_is_link) := ⟨rfl, rfl, rfl, by decide +kernel, rfl, by decide +kernel, by decide +kernel⟩
theorem b_is_link (T : Tx w K mg) : Binds K (fdOf K (ga K "is_link")) ["book", "one", "number", "other"] [] := T.fn_is_link.bindsN fun _ _ _ _ _ _ us hl => match us, hl with | [_, _, _, _], _ => rfl
theorem ok_is_link (T : Tx w K mg) : FnOk PySem.Challenge.pw_renamedhorn_k26_chains_judged w K mg base (L2N.CX PySem.Challenge.pw_renamedhorn_k26_chains_judged w) 4 (ga K "is_link") (fdOf K (ga K "is_link")) ["book", "one", "number", "other"] (sp_is_link K) := by
  refine T.fn_is_link.ok sc_is_link (fun vs H Q E h => len_is_link h) (fun cdv A outer s H vs Q E hr h => ⟨t_is_link K (fun cls d _ H => E cls d H), ?_, pure_is_link h⟩)
  · have tk := L2N.takes_of (X := cxOf (L2N.CX PySem.Challenge.pw_renamedhorn_k26_chains_judged w) PySem.Challenge.pw_renamedhorn_k26_chains_judged w K mg base N_is_link "is_link" (defScope Hd.s_is_link) (ga K "is_link") cdv A outer s H E) (E := E) rfl rfl rfl rfl
    exact (pss_cut (ps_if (PW.pt (pw_or (pt_cmpR (op_ninP hr.units) (pv 2) (Cl.pe_att (.cons (Cl.alt_fld T.cls_Book T.no_Book_rows) .nil) (pv 0)) (by rfl)) (pw_or1 (pt_not (pt_val (pe_callS (ok_is_literal T) (hr.mono (by decide)) rfl T.g_is_literal (T.fn_is_literal).kp (b_is_literal T) (fun σ => L2N.passAt tk σ) (pa_cons (pv 3) pa_nil))))))) (pss_one (ps_ret pe_bl)) pss_nil)
      (pss_cons (ps_asg (Cl.pe_att (.cons (Cl.alt_fld T.cls_Clause T.no_Clause_literals) .nil) (pe_dget (Nat.lt_of_le_of_lt (Nat.add_le_add_left (by decide : 1 ≤ 64) _) hr.units) (Cl.pe_att (.cons (Cl.alt_fld T.cls_Book T.no_Book_rows) .nil) (pv 0)) (pv 2) (fun _ _ => rfl))) (pg_name (i := 4) sc_is_link.nd rfl (Or.inl rfl)))
      (pss_one (ps_ret (pe_and (pe_cmpR (op_inP hr.units) (pv 1) (pv 4) (by rfl)) (pe_and (pe_cmpR (op_inP hr.units) (pe_callS (ok_negated T) (hr.mono (by decide)) rfl T.g_negated (T.fn_negated).kp (b_negated T) (fun σ => L2N.passAt tk σ) (pa_cons (pv 3) pa_nil)) (pv 4) (by rfl)) (pe_one (pe_cmpR (op_neP hr.units) (pe_callS (ok_negated T) (hr.mono (by decide)) rfl T.g_negated (T.fn_negated).kp (b_negated T) (fun σ => L2N.passAt tk σ) (pa_cons (pv 3) pa_nil)) (pv 1) (nomark _)))))))))
theorem sc_is_chain : FnScope N_is_chain ["book", "start", "goal", "links"] (defScope Hd.s_is_chain) := ⟨rfl, rfl, rfl, by decide +kernel, rfl, by decide +kernel, by decide +kernel⟩
theorem b_is_chain (T : Tx w K mg) : Binds K (fdOf K (ga K "is_chain")) ["book", "start", "goal", "links"] [] := T.fn_is_chain.bindsN fun _ _ _ _ _ _ us hl => match us, hl with | [_, _, _, _], _ => rfl
theorem ok_is_chain (T : Tx w K mg) : FnOk PySem.Challenge.pw_renamedhorn_k26_chains_judged w K mg base (L2N.CX PySem.Challenge.pw_renamedhorn_k26_chains_judged w) 5 (ga K "is_chain") (fdOf K (ga K "is_chain")) ["book", "start", "goal", "links"] (sp_is_chain K) := by
  refine T.fn_is_chain.ok sc_is_chain (fun vs H Q E h => len_is_chain h) (fun cdv A outer s H vs Q E hr h => ⟨t_is_chain K (fun cls d _ H => E cls d H), ?_, pure_is_chain h⟩)
  · have tk := L2N.takes_of (X := cxOf (L2N.CX PySem.Challenge.pw_renamedhorn_k26_chains_judged w) PySem.Challenge.pw_renamedhorn_k26_chains_judged w K mg base N_is_chain "is_chain" (defScope Hd.s_is_chain) (ga K "is_chain") cdv A outer s H E) (E := E) rfl rfl rfl rfl
    exact (pss_cons (ps_expr (pe_callS (ok_negated T) (hr.mono (by decide)) rfl T.g_negated (T.fn_negated).kp (b_negated T) (fun σ => L2N.passAt tk σ) (pa_cons (pv 1) pa_nil)))
      (pss_cons (ps_expr (pe_callS (ok_negated T) (hr.mono (by decide)) rfl T.g_negated (T.fn_negated).kp (b_negated T) (fun σ => L2N.passAt tk σ) (pa_cons (pv 2) pa_nil)))
      (pss_cons (ps_asg (pv 1) (pg_name (i := 4) sc_is_chain.nd rfl (Or.inl rfl)))
      (pss_cut (ps_for (passes_of rfl) rfl (pi_anyP (pv 3)) (pg_tup rfl (pgs_cons (pg_name (i := 5) sc_is_chain.nd rfl (Or.inl rfl)) (pgs_cons (pg_name (i := 6) sc_is_chain.nd rfl (Or.inl rfl)) (pgs_cons (pg_name (i := 7) sc_is_chain.nd rfl (Or.inl rfl)) pgs_nil)))) (pss_cut (ps_if (PW.pt (pw_or (pt_cmpR (op_neP hr.units) (pv 5) (pv 4) (nomark _)) (pw_or1 (pt_not (pt_val (pe_callS (ok_is_link T) (hr.mono (by decide)) rfl T.g_is_link (T.fn_is_link).kp (b_is_link T) (fun σ => L2N.passAt tk σ) (pa_cons (pv 0) (pa_cons (pv 5) (pa_cons (pv 6) (pa_cons (pv 7) pa_nil)))))))))) (pss_one (ps_ret pe_bl)) pss_nil)
      (pss_one (ps_asg (pv 7) (pg_name (i := 4) sc_is_chain.nd rfl (Or.inl rfl))))))
      (pss_one (ps_ret (pe_cmpR (op_eqP hr.units) (pv 4) (pv 2) (nomark _))))))))
theorem sc_Clause_init : FnScope N_Clause_init ["self", "literals"] (defScope Hd.s_Clause_init) := ⟨rfl, rfl, rfl, by decide +kernel, rfl, by decide +kernel, by decide +kernel⟩
theorem fr_Clause_init (T : Tx w K mg) : FnR PySem.Challenge.pw_renamedhorn_k26_chains_judged w K mg base (L2N.CX PySem.Challenge.pw_renamedhorn_k26_chains_judged w) 6 (ma K (ga K "Clause") "__init__") (spV_Clause_init K) := by
  refine okStar (ps := ["self"]) (pv := "literals") T.fn_Clause_init sc_Clause_init (fun kV doc pm an cdv ct => StX.bind_star1 (B := fun us => bindArgs (PySem.W.fnOf Hd.d_Clause_init.name Hd.d_Clause_init.qual (defArgs Hd.s_Clause_init) (defBody Hd.s_Clause_init) (defScope Hd.s_Clause_init) .none kV doc pm an cdv ct) ⟨us, []⟩) (fun _ => rfl) (fun _ _ _ => rfl)) (fun cdv A outer s H vs Q E hr h => ⟨t_Clause_init K (fun cls d _ H => E cls d H), ?_, pure_Clause_init h⟩)
  · have tk := L2N.takes_of (X := cxOf (L2N.CX PySem.Challenge.pw_renamedhorn_k26_chains_judged w) PySem.Challenge.pw_renamedhorn_k26_chains_judged w K mg base N_Clause_init "Clause.__init__" (defScope Hd.s_Clause_init) (ma K (ga K "Clause") "__init__") cdv A outer s H E) (E := E) rfl rfl rfl rfl
    obtain ⟨u_Book_LIMIT, con_Book_LIMIT⟩ := T.con_Book_LIMIT
    obtain ⟨u_Clause_LIMIT, con_Clause_LIMIT⟩ := T.con_Clause_LIMIT
    obtain ⟨u_Turning_LIMIT, con_Turning_LIMIT⟩ := T.con_Turning_LIMIT
    exact (pss_one (Cl.ps_att (l := [ga K "Clause"]) (fun C h => by simp only [List.mem_cons, List.not_mem_nil, or_false] at h; rcases h with rfl <;> first | exact ⟨T.cls_Clause, T.no_Clause_literals⟩) (pv 0) (pe_callTy call_tupleP (by rfl) T.f_tuple PyProof.Rows.Boot.«tuple» (pa_cons (pe_callS (ok_checked_facts T) (hr.mono (by decide)) rfl T.g_checked_facts (T.fn_checked_facts).kp (b_checked_facts T) (fun σ => L2N.passAt tk σ) (pa_cons (pe_callTy call_listP (by rfl) T.f_list PyProof.Rows.Boot.«list» (pa_cons (pv 1) pa_nil)) (pa_cons (Cl.pe_att (.cons (Cl.alt_con T.cls_Clause con_Clause_LIMIT) (.cons (Cl.alt_con T.cls_Turning con_Turning_LIMIT) (.cons (Cl.alt_con T.cls_Book con_Book_LIMIT) .nil))) (pv 0)) pa_nil))) pa_nil))))
theorem sc_names_in : FnScope N_names_in ["clauses"] (defScope Hd.s_names_in) := ⟨rfl, rfl, rfl, by decide +kernel, rfl, by decide +kernel, by decide +kernel⟩
theorem b_names_in (T : Tx w K mg) : Binds K (fdOf K (ga K "names_in")) ["clauses"] [] := T.fn_names_in.bindsN fun _ _ _ _ _ _ us hl => match us, hl with | [_], _ => rfl
theorem ok_names_in (T : Tx w K mg) : FnOk PySem.Challenge.pw_renamedhorn_k26_chains_judged w K mg base (L2N.CX PySem.Challenge.pw_renamedhorn_k26_chains_judged w) 5 (ga K "names_in") (fdOf K (ga K "names_in")) ["clauses"] (sp_names_in K) := by
  refine T.fn_names_in.ok sc_names_in (fun vs H Q E h => Sp1.len h) (fun cdv A outer s H vs Q E hr h => ⟨t_names_in K (fun cls d _ H => E cls d H), ?_, pure_names_in h⟩)
  · have tk := L2N.takes_of (X := cxOf (L2N.CX PySem.Challenge.pw_renamedhorn_k26_chains_judged w) PySem.Challenge.pw_renamedhorn_k26_chains_judged w K mg base N_names_in "names_in" (defScope Hd.s_names_in) (ga K "names_in") cdv A outer s H E) (E := E) rfl rfl rfl rfl
    exact (pss_one (ps_ret (pe_callS (ok_names_of T) (hr.mono (by decide)) rfl T.g_names_of (T.fn_names_of).kp (b_names_of T) (fun σ => L2N.passAt tk σ) (pa_cons (pe_lc2 (own := [("clause", 1), ("literal", 2)]) (vs1 := [2]) (g := (gName 1)) (tt := tYes) (g1 := (gName 2)) (tt1 := tYes) rfl sc_names_in.nd (pi_anyP (pv 0)) (blkOk_by (own := [("clause", 1), ("literal", 2)]) (N := N_names_in) (sc := defScope Hd.s_names_in) (by decide +kernel)) (by decide) (fun _ _ _ _ _ => (pg_name (i := 1) sc_names_in.nd rfl (Or.inl rfl))) (fun _ _ _ _ _ => pts_nil) (fun _ _ _ _ _ => (pi_anyP (Cl.pe_att (.cons (Cl.alt_fld T.cls_Clause T.no_Clause_literals) .nil) (pv 1)))) (fun _ _ _ _ _ => (pg_name (i := 2) sc_names_in.nd rfl (Or.inl rfl))) (fun _ _ _ _ _ => pts_nil) (fun _ _ _ _ _ => (pv 2))) pa_nil))))
theorem sc_check_sizes : FnScope N_check_sizes ["clauses", "most", "most_names"] (defScope Hd.s_check_sizes) := ⟨rfl, rfl, rfl, by decide +kernel, rfl, by decide +kernel, by decide +kernel⟩
theorem b_check_sizes (T : Tx w K mg) : Binds K (fdOf K (ga K "check_sizes")) ["clauses", "most", "most_names"] [] := T.fn_check_sizes.bindsN fun _ _ _ _ _ _ us hl => match us, hl with | [_, _, _], _ => rfl
theorem ok_check_sizes (T : Tx w K mg) : FnOk PySem.Challenge.pw_renamedhorn_k26_chains_judged w K mg base (L2N.CX PySem.Challenge.pw_renamedhorn_k26_chains_judged w) 6 (ga K "check_sizes") (fdOf K (ga K "check_sizes")) ["clauses", "most", "most_names"] (sp_check_sizes K) := by
  refine T.fn_check_sizes.ok sc_check_sizes (fun vs H Q E h => Sp3.len h) (fun cdv A outer s H vs Q E hr h => ⟨t_check_sizes K (fun cls d _ H => E cls d H), ?_, pure_check_sizes h⟩)
  · have tk := L2N.takes_of (X := cxOf (L2N.CX PySem.Challenge.pw_renamedhorn_k26_chains_judged w) PySem.Challenge.pw_renamedhorn_k26_chains_judged w K mg base N_check_sizes "check_sizes" (defScope Hd.s_check_sizes) (ga K "check_sizes") cdv A outer s H E) (E := E) rfl rfl rfl rfl
    exact (pss_one (ps_for (passes_of rfl) rfl (pi_range1 (by rfl) T.f_range (pa_cons (pe_callB call_lenP (by rfl) T.f_len PyProof.Rows.Boot.«len» (pa_cons (pv 0) pa_nil)) pa_nil)) (pg_name (i := 3) sc_check_sizes.nd rfl (Or.inl rfl)) (pss_cut (ps_if (pt_cmpR op_geP (pv 3) (pv 1) (nomark _)) (pss_one (ps_raiseE rfl T.err_TooMany hr tk (pa_cons (pv 1) pa_nil))) pss_nil)
      (pss_one (ps_if (pt_cmpR op_gtP (pe_callB call_lenP (by rfl) T.f_len PyProof.Rows.Boot.«len» (pa_cons (pe_callS (ok_names_in T) (hr.mono (by decide)) rfl T.g_names_in (T.fn_names_in).kp (b_names_in T) (fun σ => L2N.passAt tk σ) (pa_cons (pe_slice sl_P (pv 0) po_none (po_some (pe_op op_addP (pv 3) pe_int))) pa_nil)) pa_nil)) (pv 2) (nomark _)) (pss_one (ps_raiseE rfl T.err_TooMany hr tk (pa_cons (pv 2) pa_nil))) pss_nil)))))
theorem sc_law_source : FnScope N_law_source ["_law_script"] (defScope Hd.s_law_source) := ⟨rfl, rfl, rfl, by decide +kernel, rfl, by decide +kernel, by decide +kernel⟩
theorem b_law_source (T : Tx w K mg) : Binds K (fdOf K (ga K "_law_source")) ["_law_script"] [] := T.fn_law_source.bindsN fun _ _ _ _ _ _ us hl => match us, hl with | [_], _ => rfl
theorem ok_law_source (T : Tx w K mg) : FnOk PySem.Challenge.pw_renamedhorn_k26_chains_judged w K mg base (L2N.CX PySem.Challenge.pw_renamedhorn_k26_chains_judged w) 1 (ga K "_law_source") (fdOf K (ga K "_law_source")) ["_law_script"] (sp_law_source K) := by
  refine T.fn_law_source.ok sc_law_source (fun vs H Q E h => Sp1.len h) (fun cdv A outer s H vs Q E hr h => ⟨t_law_source K (fun cls d _ H => E cls d H), ?_, pure_law_source h⟩)
  · have tk := L2N.takes_of (X := cxOf (L2N.CX PySem.Challenge.pw_renamedhorn_k26_chains_judged w) PySem.Challenge.pw_renamedhorn_k26_chains_judged w K mg base N_law_source "_law_source" (defScope Hd.s_law_source) (ga K "_law_source") cdv A outer s H E) (E := E) rfl rfl rfl rfl
    exact (pss_one (ps_ret (pe_lst (pa_cons (pe_callTy call_listP (by rfl) T.f_list PyProof.Rows.Boot.«list» (pa_cons (pv 0) pa_nil)) (pa_cons pe_int (pa_cons pe_int (pa_cons pe_int (pa_cons pe_int pa_nil))))))))
theorem sc_law_take : FnScope N_law_take ["_law_source_here", "_law_many"] (defScope Hd.s_law_take) := ⟨rfl, rfl, rfl, by decide +kernel, rfl, by decide +kernel, by decide +kernel⟩
theorem b_law_take (T : Tx w K mg) : Binds K (fdOf K (ga K "_law_take")) ["_law_source_here", "_law_many"] [] := T.fn_law_take.bindsN fun _ _ _ _ _ _ us hl => match us, hl with | [_, _], _ => rfl
theorem ok_law_take (T : Tx w K mg) : FnOk PySem.Challenge.pw_renamedhorn_k26_chains_judged w K mg base (L2N.CX PySem.Challenge.pw_renamedhorn_k26_chains_judged w) 1 (ga K "_law_take") (fdOf K (ga K "_law_take")) ["_law_source_here", "_law_many"] (sp_law_take K) := by
  refine T.fn_law_take.ok sc_law_take (fun vs H Q E h => Sp2.len h) (fun cdv A outer s H vs Q E hr h => ⟨t_law_take K (fun cls d _ H => E cls d H), ?_, pure_law_take h⟩)
  · have tk := L2N.takes_of (X := cxOf (L2N.CX PySem.Challenge.pw_renamedhorn_k26_chains_judged w) PySem.Challenge.pw_renamedhorn_k26_chains_judged w K mg base N_law_take "_law_take" (defScope Hd.s_law_take) (ga K "_law_take") cdv A outer s H E) (E := E) rfl rfl rfl rfl
    exact (pss_cut (ps_if (pt_cmpR (op_eqP hr.units) (pe_ix ix_P (pv 0) pe_int (fun _ _ => rfl)) pe_int (nomark _)) (pss_cut (ps_if (pt_cmpR op_geP (pe_ix ix_P (pv 0) pe_int (fun _ _ => rfl)) (pe_callB call_lenP (by rfl) T.f_len PyProof.Rows.Boot.«len» (pa_cons (pe_ix ix_P (pv 0) pe_int (fun _ _ => rfl)) pa_nil)) (nomark _)) (pss_one (ps_ret pe_int)) pss_nil)
      (pss_cons (ps_asg (pe_callTy call_intP (by rfl) T.f_int PyProof.Rows.Boot.«int» (pa_cons (pe_ix ix_P (pe_ix ix_P (pv 0) pe_int (fun _ _ => rfl)) (pe_ix ix_P (pv 0) pe_int (fun _ _ => rfl)) (fun _ _ => rfl)) pa_nil)) (pg_name (i := 3) sc_law_take.nd rfl (Or.inl rfl)))
      (pss_cons (ps_asg (pe_op op_addP (pe_ix ix_P (pv 0) pe_int (fun _ _ => rfl)) pe_int) (pg_sub (pv 0) pe_int (set_P hr.units)))
      (pss_cons (ps_asg (pv 3) (pg_sub (pv 0) pe_int (set_P hr.units)))
      (pss_cons (ps_asg pe_int (pg_sub (pv 0) pe_int (set_P hr.units)))
      (pss_cons (ps_asg pe_int (pg_sub (pv 0) pe_int (set_P hr.units)))
      (pss_one (ps_if (pt_cmpR op_geP (pv 3) (pe_op op_powP pe_int pe_int) (nomark _)) (pss_cons (ps_asg pe_int (pg_sub (pv 0) pe_int (set_P hr.units)))
      (pss_one (ps_asg pe_int (pg_sub (pv 0) pe_int (set_P hr.units))))) pss_nil)))))))) pss_nil)
      (pss_cons (ps_asg (pe_op op_subP (pe_ix ix_P (pv 0) pe_int (fun _ _ => rfl)) pe_int) (pg_sub (pv 0) pe_int (set_P hr.units)))
      (pss_cut (ps_if (pt_cmpR (op_eqP hr.units) (pe_ix ix_P (pv 0) pe_int (fun _ _ => rfl)) pe_int (nomark _)) (pss_cons (ps_asg (pe_op op_modP (pe_callTy call_intP (by rfl) T.f_int PyProof.Rows.Boot.«int» (pa_cons (pe_ix ix_P (pv 0) pe_int (fun _ _ => rfl)) pa_nil)) (pv 1)) (pg_name (i := 4) sc_law_take.nd rfl (Or.inl rfl)))
      (pss_cons (ps_asg (pe_op op_fdivP (pe_ix ix_P (pv 0) pe_int (fun _ _ => rfl)) (pv 1)) (pg_sub (pv 0) pe_int (set_P hr.units)))
      (pss_cut (ps_if (pt_cmpR (op_eqP hr.units) (pe_ix ix_P (pv 0) pe_int (fun _ _ => rfl)) pe_int (nomark _)) (pss_one (ps_asg pe_int (pg_sub (pv 0) pe_int (set_P hr.units)))) pss_nil)
      (pss_one (ps_ret (pv 4)))))) pss_nil)
      (pss_cons (ps_asg (pe_op op_modP (pe_callTy call_intP (by rfl) T.f_int PyProof.Rows.Boot.«int» (pa_cons (pe_op op_addP (pe_op op_addP (pe_op op_mulP (pe_ix ix_P (pv 0) pe_int (fun _ _ => rfl)) pe_int) (pe_op op_mulP (pe_ix ix_P (pv 0) pe_int (fun _ _ => rfl)) pe_int)) pe_int) pa_nil)) pe_int) (pg_name (i := 2) sc_law_take.nd rfl (Or.inl rfl)))
      (pss_cons (ps_asg (pe_op op_modP (pe_callTy call_intP (by rfl) T.f_int PyProof.Rows.Boot.«int» (pa_cons (pe_op op_addP (pe_op op_addP (pe_op op_mulP (pv 2) pe_int) (pe_op op_mulP (pe_ix ix_P (pv 0) pe_int (fun _ _ => rfl)) pe_int)) pe_int) pa_nil)) pe_int) (pg_name (i := 2) sc_law_take.nd rfl (Or.inl rfl)))
      (pss_one (ps_ret (pe_op op_modP (pe_callTy call_intP (by rfl) T.f_int PyProof.Rows.Boot.«int» (pa_cons (pv 2) pa_nil)) (pv 1)))))))))
theorem sc_law_word : FnScope N_law_word ["_law_source_here", "_law_size"] (defScope Hd.s_law_word) := ⟨rfl, rfl, rfl, by decide +kernel, rfl, by decide +kernel, by decide +kernel⟩
theorem b_law_word (T : Tx w K mg) : Binds K (fdOf K (ga K "_law_word")) ["_law_source_here", "_law_size"] [] := T.fn_law_word.bindsN fun _ _ _ _ _ _ us hl => match us, hl with | [_, _], _ => rfl
theorem ok_law_word (T : Tx w K mg) : FnOk PySem.Challenge.pw_renamedhorn_k26_chains_judged w K mg base (L2N.CX PySem.Challenge.pw_renamedhorn_k26_chains_judged w) 2 (ga K "_law_word") (fdOf K (ga K "_law_word")) ["_law_source_here", "_law_size"] (sp_law_word K) := by
  refine T.fn_law_word.ok sc_law_word (fun vs H Q E h => Sp2.len h) (fun cdv A outer s H vs Q E hr h => ⟨t_law_word K (fun cls d _ H => E cls d H), ?_, pure_law_word h⟩)
  · have tk := L2N.takes_of (X := cxOf (L2N.CX PySem.Challenge.pw_renamedhorn_k26_chains_judged w) PySem.Challenge.pw_renamedhorn_k26_chains_judged w K mg base N_law_word "_law_word" (defScope Hd.s_law_word) (ga K "_law_word") cdv A outer s H E) (E := E) rfl rfl rfl rfl
    exact (pss_cons (ps_asg pe_str (pg_name (i := 2) sc_law_word.nd rfl (Or.inl rfl)))
      (pss_cons (ps_asg pe_str (pg_name (i := 3) sc_law_word.nd rfl (Or.inl rfl)))
      (pss_cons (ps_asg (pe_ix ix_P (pv 2) (pe_callS (ok_law_take T) (hr.mono (by decide)) rfl T.g_law_take (T.fn_law_take).kp (b_law_take T) (fun σ => L2N.passAt tk σ) (pa_cons (pv 0) (pa_cons pe_int pa_nil))) (fun _ _ => rfl)) (pg_name (i := 4) sc_law_word.nd rfl (Or.inl rfl)))
      (pss_cons (ps_asg (pe_callS (ok_law_take T) (hr.mono (by decide)) rfl T.g_law_take (T.fn_law_take).kp (b_law_take T) (fun σ => L2N.passAt tk σ) (pa_cons (pv 0) (pa_cons (pe_op op_powP pe_int pe_int) pa_nil))) (pg_name (i := 5) sc_law_word.nd rfl (Or.inl rfl)))
      (pss_cut (ps_for (passes_of rfl) rfl (pi_range1 (by rfl) T.f_range (pa_cons (pe_op op_subP (pv 1) pe_int) pa_nil)) (pg_name (i := 6) sc_law_word.nd rfl (Or.inl rfl)) (pss_cons (ps_asg (pe_op op_addP (pv 4) (pe_ix ix_P (pv 3) (pe_op op_modP (pe_callTy call_intP (by rfl) T.f_int PyProof.Rows.Boot.«int» (pa_cons (pv 5) pa_nil)) pe_int) (fun _ _ => rfl))) (pg_name (i := 4) sc_law_word.nd rfl (Or.inl rfl)))
      (pss_one (ps_asg (pe_op op_fdivP (pv 5) pe_int) (pg_name (i := 5) sc_law_word.nd rfl (Or.inl rfl))))))
      (pss_one (ps_ret (pv 4))))))))
theorem sc_law_names : FnScope N_law_names ["_law_source_here", "_law_many"] (defScope Hd.s_law_names) := ⟨rfl, rfl, rfl, by decide +kernel, rfl, by decide +kernel, by decide +kernel⟩
theorem b_law_names (T : Tx w K mg) : Binds K (fdOf K (ga K "_law_names")) ["_law_source_here", "_law_many"] [] := T.fn_law_names.bindsN fun _ _ _ _ _ _ us hl => match us, hl with | [_, _], _ => rfl
theorem ok_law_names (T : Tx w K mg) : FnOk PySem.Challenge.pw_renamedhorn_k26_chains_judged w K mg base (L2N.CX PySem.Challenge.pw_renamedhorn_k26_chains_judged w) 3 (ga K "_law_names") (fdOf K (ga K "_law_names")) ["_law_source_here", "_law_many"] (sp_law_names K) := by
  refine T.fn_law_names.ok sc_law_names (fun vs H Q E h => Sp2.len h) (fun cdv A outer s H vs Q E hr h => ⟨t_law_names K (fun cls d _ H => E cls d H), ?_, pure_law_names h⟩)
  · have tk := L2N.takes_of (X := cxOf (L2N.CX PySem.Challenge.pw_renamedhorn_k26_chains_judged w) PySem.Challenge.pw_renamedhorn_k26_chains_judged w K mg base N_law_names "_law_names" (defScope Hd.s_law_names) (ga K "_law_names") cdv A outer s H E) (E := E) rfl rfl rfl rfl
    exact (pss_cons (ps_asg pe_str (pg_name (i := 2) sc_law_names.nd rfl (Or.inl rfl)))
      (pss_cons (ps_asg (pe_callS (ok_law_take T) (hr.mono (by decide)) rfl T.g_law_take (T.fn_law_take).kp (b_law_take T) (fun σ => L2N.passAt tk σ) (pa_cons (pv 0) (pa_cons pe_int pa_nil))) (pg_name (i := 3) sc_law_names.nd rfl (Or.inl rfl)))
      (pss_cons (ps_asg (pe_op op_addP pe_int (pe_callS (ok_law_take T) (hr.mono (by decide)) rfl T.g_law_take (T.fn_law_take).kp (b_law_take T) (fun σ => L2N.passAt tk σ) (pa_cons (pv 0) (pa_cons pe_int pa_nil)))) (pg_name (i := 4) sc_law_names.nd rfl (Or.inl rfl)))
      (pss_cons (ps_asg (pe_callS (ok_law_take T) (hr.mono (by decide)) rfl T.g_law_take (T.fn_law_take).kp (b_law_take T) (fun σ => L2N.passAt tk σ) (pa_cons (pv 0) (pa_cons (pv 4) pa_nil))) (pg_name (i := 5) sc_law_names.nd rfl (Or.inl rfl)))
      (pss_cons (ps_asg (pe_callS (ok_law_word T) (hr.mono (by decide)) rfl T.g_law_word (T.fn_law_word).kp (b_law_word T) (fun σ => L2N.passAt tk σ) (pa_cons (pv 0) (pa_cons (pv 4) pa_nil))) (pg_name (i := 6) sc_law_names.nd rfl (Or.inl rfl)))
      (pss_cons (ps_asg (pe_callS (ok_law_take T) (hr.mono (by decide)) rfl T.g_law_take (T.fn_law_take).kp (b_law_take T) (fun σ => L2N.passAt tk σ) (pa_cons (pv 0) (pa_cons pe_int pa_nil))) (pg_name (i := 7) sc_law_names.nd rfl (Or.inl rfl)))
      (pss_cons (ps_asg (pe_ix ix_P (pe_lst (pa_cons pe_int (pa_cons pe_int (pa_cons pe_int (pa_cons pe_int pa_nil))))) (pe_callS (ok_law_take T) (hr.mono (by decide)) rfl T.g_law_take (T.fn_law_take).kp (b_law_take T) (fun σ => L2N.passAt tk σ) (pa_cons (pv 0) (pa_cons pe_int pa_nil))) (fun _ _ => rfl)) (pg_name (i := 8) sc_law_names.nd rfl (Or.inl rfl)))
      (pss_cons (ps_asg (pe_lst pa_nil) (pg_name (i := 9) sc_law_names.nd rfl (Or.inl rfl)))
      (pss_cut (ps_for (passes_of rfl) rfl (pi_range1 (by rfl) T.f_range (pa_cons (pv 1) pa_nil)) (pg_name (i := 10) sc_law_names.nd rfl (Or.inl rfl)) (pss_cons (ps_asg (pe_ix ix_P (pv 2) (pe_op op_modP (pe_callTy call_intP (by rfl) T.f_int PyProof.Rows.Boot.«int» (pa_cons (pe_op op_addP (pv 7) (pe_op op_mulP (pv 8) (pv 10))) pa_nil)) pe_int) (fun _ _ => rfl)) (pg_name (i := 11) sc_law_names.nd rfl (Or.inl rfl)))
      (pss_one (ps_if (pt_cmpR (op_eqP hr.units) (pv 3) pe_int (nomark _)) (pss_one (ps_expr (pe_bm PySem.F.plainAttrs_list PySem.F.slot_list_append PySem.F.type_list_append mt_append (pv 9) (pa_cons (pe_op op_addP (pe_op op_addP (pe_slice sl_P (pv 6) po_none (po_some (pv 5))) (pv 11)) (pe_slice sl_P (pv 6) (po_some (pe_op op_addP (pv 5) pe_int)) po_none)) pa_nil)))) (pss_one (ps_if (pt_cmpR (op_eqP hr.units) (pv 3) pe_int (nomark _)) (pss_one (ps_expr (pe_bm PySem.F.plainAttrs_list PySem.F.slot_list_append PySem.F.type_list_append mt_append (pv 9) (pa_cons (pe_op op_addP (pv 11) (pe_slice sl_P (pv 6) (po_some pe_int) (po_some (pe_op op_addP pe_int (pe_callS (ok_law_take T) (hr.mono (by decide)) rfl T.g_law_take (T.fn_law_take).kp (b_law_take T) (fun σ => L2N.passAt tk σ) (pa_cons (pv 0) (pa_cons pe_int pa_nil))))))) pa_nil)))) (pss_one (ps_expr (pe_bm PySem.F.plainAttrs_list PySem.F.slot_list_append PySem.F.type_list_append mt_append (pv 9) (pa_cons (pe_op op_addP (pe_op op_addP (pe_slice sl_P (pv 6) po_none (po_some (pv 5))) (pv 11)) (pe_slice sl_P (pe_callS (ok_law_word T) (hr.mono (by decide)) rfl T.g_law_word (T.fn_law_word).kp (b_law_word T) (fun σ => L2N.passAt tk σ) (pa_cons (pv 0) (pa_cons (pe_op op_subP pe_int (pv 5)) pa_nil))) po_none (po_some (pe_callS (ok_law_take T) (hr.mono (by decide)) rfl T.g_law_take (T.fn_law_take).kp (b_law_take T) (fun σ => L2N.passAt tk σ) (pa_cons (pv 0) (pa_cons (pe_op op_subP pe_int (pv 5)) pa_nil)))))) pa_nil))))))))))
      (pss_one (ps_ret (pv 9))))))))))))
theorem sc_law_flip : FnScope N_law_flip ["_law_literal"] (defScope Hd.s_law_flip) := ⟨rfl, rfl, rfl, by decide +kernel, rfl, by decide +kernel, by decide +kernel⟩
theorem b_law_flip (T : Tx w K mg) : Binds K (fdOf K (ga K "_law_flip")) ["_law_literal"] [] := T.fn_law_flip.bindsN fun _ _ _ _ _ _ us hl => match us, hl with | [_], _ => rfl
theorem ok_law_flip (T : Tx w K mg) : FnOk PySem.Challenge.pw_renamedhorn_k26_chains_judged w K mg base (L2N.CX PySem.Challenge.pw_renamedhorn_k26_chains_judged w) 1 (ga K "_law_flip") (fdOf K (ga K "_law_flip")) ["_law_literal"] (sp_law_flip K) := by
  refine T.fn_law_flip.ok sc_law_flip (fun vs H Q E h => Sp1.len h) (fun cdv A outer s H vs Q E hr h => ⟨t_law_flip K (fun cls d _ H => E cls d H), ?_, pure_law_flip h⟩)
  · have tk := L2N.takes_of (X := cxOf (L2N.CX PySem.Challenge.pw_renamedhorn_k26_chains_judged w) PySem.Challenge.pw_renamedhorn_k26_chains_judged w K mg base N_law_flip "_law_flip" (defScope Hd.s_law_flip) (ga K "_law_flip") cdv A outer s H E) (E := E) rfl rfl rfl rfl
    exact (pss_cut (ps_if (pt_cmpR (op_eqP hr.units) (pe_slice sl_P (pv 0) po_none (po_some pe_int)) pe_str (nomark _)) (pss_one (ps_ret (pe_slice sl_P (pv 0) (po_some pe_int) po_none))) pss_nil)
      (pss_one (ps_ret (pe_op op_addP pe_str (pv 0)))))
theorem sc_law_name : FnScope N_law_name ["_law_literal"] (defScope Hd.s_law_name) := ⟨rfl, rfl, rfl, by decide +kernel, rfl, by decide +kernel, by decide +kernel⟩
theorem b_law_name (T : Tx w K mg) : Binds K (fdOf K (ga K "_law_name")) ["_law_literal"] [] := T.fn_law_name.bindsN fun _ _ _ _ _ _ us hl => match us, hl with | [_], _ => rfl
theorem ok_law_name (T : Tx w K mg) : FnOk PySem.Challenge.pw_renamedhorn_k26_chains_judged w K mg base (L2N.CX PySem.Challenge.pw_renamedhorn_k26_chains_judged w) 1 (ga K "_law_name") (fdOf K (ga K "_law_name")) ["_law_literal"] (sp_law_name K) := by
  refine T.fn_law_name.ok sc_law_name (fun vs H Q E h => Sp1.len h) (fun cdv A outer s H vs Q E hr h => ⟨t_law_name K (fun cls d _ H => E cls d H), ?_, pure_law_name h⟩)
  · have tk := L2N.takes_of (X := cxOf (L2N.CX PySem.Challenge.pw_renamedhorn_k26_chains_judged w) PySem.Challenge.pw_renamedhorn_k26_chains_judged w K mg base N_law_name "_law_name" (defScope Hd.s_law_name) (ga K "_law_name") cdv A outer s H E) (E := E) rfl rfl rfl rfl
    exact (pss_cut (ps_if (pt_cmpR (op_eqP hr.units) (pe_slice sl_P (pv 0) po_none (po_some pe_int)) pe_str (nomark _)) (pss_one (ps_ret (pe_slice sl_P (pv 0) (po_some pe_int) po_none))) pss_nil)
      (pss_one (ps_ret (pv 0))))
theorem sc_law_sorted : FnScope N_law_sorted ["_law_names_here"] (defScope Hd.s_law_sorted) := ⟨rfl, rfl, rfl, by decide +kernel, rfl, by decide +kernel, by decide +kernel⟩
theorem b_law_sorted (T : Tx w K mg) : Binds K (fdOf K (ga K "_law_sorted")) ["_law_names_here"] [] := T.fn_law_sorted.bindsN fun _ _ _ _ _ _ us hl => match us, hl with | [_], _ => rfl
theorem ok_law_sorted (T : Tx w K mg) : FnOk PySem.Challenge.pw_renamedhorn_k26_chains_judged w K mg base (L2N.CX PySem.Challenge.pw_renamedhorn_k26_chains_judged w) 1 (ga K "_law_sorted") (fdOf K (ga K "_law_sorted")) ["_law_names_here"] (sp_law_sorted K) := by
  refine T.fn_law_sorted.ok sc_law_sorted (fun vs H Q E h => Sp1.len h) (fun cdv A outer s H vs Q E hr h => ⟨t_law_sorted K (fun cls d _ H => E cls d H), ?_, pure_law_sorted h⟩)
  · have tk := L2N.takes_of (X := cxOf (L2N.CX PySem.Challenge.pw_renamedhorn_k26_chains_judged w) PySem.Challenge.pw_renamedhorn_k26_chains_judged w K mg base N_law_sorted "_law_sorted" (defScope Hd.s_law_sorted) (ga K "_law_sorted") cdv A outer s H E) (E := E) rfl rfl rfl rfl
    exact (pss_cons (ps_asg (pe_lst pa_nil) (pg_name (i := 1) sc_law_sorted.nd rfl (Or.inl rfl)))
      (pss_cut (ps_for (passes_of rfl) rfl (pi_anyP (pe_callB cr_sortedP2 (by rfl) T.f_sorted PyProof.Rows.Boot.«sorted» (pa_cons (pe_lc (own := [("_law_each", 3)]) (g := (gName 3)) (tt := tYes) rfl sc_law_sorted.nd (pi_anyP (pv 0)) (blkOk_by (own := [("_law_each", 3)]) (N := N_law_sorted) (sc := defScope Hd.s_law_sorted) (by decide +kernel)) (fun _ _ _ _ _ => (pg_name (i := 3) sc_law_sorted.nd rfl (Or.inl rfl))) (fun _ _ _ _ _ => pts_nil) (fun _ _ _ _ _ => (pe_callTy call_strP (by rfl) T.f_str PyProof.Rows.Boot.«str» (pa_cons (pv 3) pa_nil)))) pa_nil))) (pg_name (i := 2) sc_law_sorted.nd rfl (Or.inl rfl)) (pss_one (ps_if (pt_cmpR (op_ninP hr.units) (pv 2) (pv 1) (by rfl)) (pss_one (ps_expr (pe_bm PySem.F.plainAttrs_list PySem.F.slot_list_append PySem.F.type_list_append mt_append (pv 1) (pa_cons (pv 2) pa_nil)))) pss_nil)))
      (pss_one (ps_ret (pv 1)))))
theorem sc_law_ordered : FnScope N_law_ordered ["_law_literals"] (defScope Hd.s_law_ordered) := ⟨rfl, rfl, rfl, by decide +kernel, rfl, by decide +kernel, by decide +kernel⟩
theorem b_law_ordered (T : Tx w K mg) : Binds K (fdOf K (ga K "_law_ordered")) ["_law_literals"] [] := T.fn_law_ordered.bindsN fun _ _ _ _ _ _ us hl => match us, hl with | [_], _ => rfl
theorem ok_law_ordered (T : Tx w K mg) : FnOk PySem.Challenge.pw_renamedhorn_k26_chains_judged w K mg base (L2N.CX PySem.Challenge.pw_renamedhorn_k26_chains_judged w) 2 (ga K "_law_ordered") (fdOf K (ga K "_law_ordered")) ["_law_literals"] (sp_law_ordered K) := by
  refine T.fn_law_ordered.ok sc_law_ordered (fun vs H Q E h => Sp1.len h) (fun cdv A outer s H vs Q E hr h => ⟨t_law_ordered K (fun cls d _ H => E cls d H), ?_, pure_law_ordered h⟩)
  · have tk := L2N.takes_of (X := cxOf (L2N.CX PySem.Challenge.pw_renamedhorn_k26_chains_judged w) PySem.Challenge.pw_renamedhorn_k26_chains_judged w K mg base N_law_ordered "_law_ordered" (defScope Hd.s_law_ordered) (ga K "_law_ordered") cdv A outer s H E) (E := E) rfl rfl rfl rfl
    exact (pss_cons (ps_asg (pe_lst pa_nil) (pg_name (i := 1) sc_law_ordered.nd rfl (Or.inl rfl)))
      (pss_cut (ps_for (passes_of rfl) rfl (pi_anyP (pe_callS (ok_law_sorted T) (hr.mono (by decide)) rfl T.g_law_sorted (T.fn_law_sorted).kp (b_law_sorted T) (fun σ => L2N.passAt tk σ) (pa_cons (pe_lc (own := [("_law_each", 3)]) (g := (gName 3)) (tt := tYes) rfl sc_law_ordered.nd (pi_anyP (pv 0)) (blkOk_by (own := [("_law_each", 3)]) (N := N_law_ordered) (sc := defScope Hd.s_law_ordered) (by decide +kernel)) (fun _ _ _ _ _ => (pg_name (i := 3) sc_law_ordered.nd rfl (Or.inl rfl))) (fun _ _ _ _ _ => pts_nil) (fun _ _ _ _ _ => (pe_call (ok_law_name T) (hr.mono (by decide)) rfl T.g_law_name (T.fn_law_name).kp (b_law_name T) .nil passN (pa_cons (pv 3) pa_nil)))) pa_nil))) (pg_name (i := 2) sc_law_ordered.nd rfl (Or.inl rfl)) (pss_cut (ps_if (pt_cmpR (op_inP hr.units) (pv 2) (pv 0) (by rfl)) (pss_one (ps_expr (pe_bm PySem.F.plainAttrs_list PySem.F.slot_list_append PySem.F.type_list_append mt_append (pv 1) (pa_cons (pv 2) pa_nil)))) pss_nil)
      (pss_one (ps_if (pt_cmpR (op_inP hr.units) (pe_op op_addP pe_str (pv 2)) (pv 0) (by rfl)) (pss_one (ps_expr (pe_bm PySem.F.plainAttrs_list PySem.F.slot_list_append PySem.F.type_list_append mt_append (pv 1) (pa_cons (pe_op op_addP pe_str (pv 2)) pa_nil)))) pss_nil))))
      (pss_one (ps_ret (pv 1)))))
theorem sc_law_same : FnScope N_law_same ["_law_one", "_law_other"] (defScope Hd.s_law_same) := ⟨rfl, rfl, rfl, by decide +kernel, rfl, by decide +kernel, by decide +kernel⟩
theorem b_law_same (T : Tx w K mg) : Binds K (fdOf K (ga K "_law_same")) ["_law_one", "_law_other"] [] := T.fn_law_same.bindsN fun _ _ _ _ _ _ us hl => match us, hl with | [_, _], _ => rfl
theorem okn_law_same (T : Tx w K mg) (n : Nat) (okR : FnOk PySem.Challenge.pw_renamedhorn_k26_chains_judged w K mg base (L2N.CX PySem.Challenge.pw_renamedhorn_k26_chains_judged w) n (ga K "_law_same") (fdOf K (ga K "_law_same")) ["_law_one", "_law_other"] (spR_law_same K n)) : FnOk PySem.Challenge.pw_renamedhorn_k26_chains_judged w K mg base (L2N.CX PySem.Challenge.pw_renamedhorn_k26_chains_judged w) (n + 1) (ga K "_law_same") (fdOf K (ga K "_law_same")) ["_law_one", "_law_other"] (spn_law_same K n) := by
  refine T.fn_law_same.ok sc_law_same (fun vs H Q E h => Sp2.len h) (fun cdv A outer s H vs Q E hr h => ⟨t_law_same K (spR_law_same K n) (fun cls d _ H => E cls d H), ?_, pure_law_same h⟩)
  · have tk := L2N.takes_of (X := cxOf (L2N.CX PySem.Challenge.pw_renamedhorn_k26_chains_judged w) PySem.Challenge.pw_renamedhorn_k26_chains_judged w K mg base N_law_same "_law_same" (defScope Hd.s_law_same) (ga K "_law_same") cdv A outer s H E) (E := E) rfl rfl rfl rfl
    exact (pss_cut (ps_if (PW.pt (pw_or (pt_val (pe_callB call_isi (by rfl) T.f_isinstance PyProof.Rows.Boot.«isinstance» (pa_cons (pv 0) (pa_cons (pe_bltn (v := .ty "bool") rfl (T.f_bool) PyProof.Rows.Boot.«bool» rfl) pa_nil)))) (pw_or1 (pt_val (pe_callB call_isi (by rfl) T.f_isinstance PyProof.Rows.Boot.«isinstance» (pa_cons (pv 1) (pa_cons (pe_bltn (v := .ty "bool") rfl (T.f_bool) PyProof.Rows.Boot.«bool» rfl) pa_nil))))))) (pss_one (ps_ret (pe_and (pe_callB call_isi (by rfl) T.f_isinstance PyProof.Rows.Boot.«isinstance» (pa_cons (pv 0) (pa_cons (pe_bltn (v := .ty "bool") rfl (T.f_bool) PyProof.Rows.Boot.«bool» rfl) pa_nil))) (pe_and (pe_callB call_isi (by rfl) T.f_isinstance PyProof.Rows.Boot.«isinstance» (pa_cons (pv 1) (pa_cons (pe_bltn (v := .ty "bool") rfl (T.f_bool) PyProof.Rows.Boot.«bool» rfl) pa_nil))) (pe_one (pe_cmpR (op_eqP hr.units) (pv 0) (pv 1) (nomark _))))))) pss_nil)
      (pss_cut (ps_if (PW.pt (pw_or (pt_val (pe_callB call_isi (by rfl) T.f_isinstance PyProof.Rows.Boot.«isinstance» (pa_cons (pv 0) (pa_cons (pe_bltn (v := .ty "int") rfl (T.f_int) PyProof.Rows.Boot.«int» rfl) pa_nil)))) (pw_or1 (pt_val (pe_callB call_isi (by rfl) T.f_isinstance PyProof.Rows.Boot.«isinstance» (pa_cons (pv 1) (pa_cons (pe_bltn (v := .ty "int") rfl (T.f_int) PyProof.Rows.Boot.«int» rfl) pa_nil))))))) (pss_one (ps_ret (pe_and (pe_callB call_isi (by rfl) T.f_isinstance PyProof.Rows.Boot.«isinstance» (pa_cons (pv 0) (pa_cons (pe_bltn (v := .ty "int") rfl (T.f_int) PyProof.Rows.Boot.«int» rfl) pa_nil))) (pe_and (pe_callB call_isi (by rfl) T.f_isinstance PyProof.Rows.Boot.«isinstance» (pa_cons (pv 1) (pa_cons (pe_bltn (v := .ty "int") rfl (T.f_int) PyProof.Rows.Boot.«int» rfl) pa_nil))) (pe_one (pe_cmpR (op_eqP hr.units) (pv 0) (pv 1) (nomark _))))))) pss_nil)
      (pss_cut (ps_if (PW.pt (pw_or (pt_val (pe_callB call_isi (by rfl) T.f_isinstance PyProof.Rows.Boot.«isinstance» (pa_cons (pv 0) (pa_cons (pe_bltn (v := .ty "str") rfl (T.f_str) PyProof.Rows.Boot.«str» rfl) pa_nil)))) (pw_or1 (pt_val (pe_callB call_isi (by rfl) T.f_isinstance PyProof.Rows.Boot.«isinstance» (pa_cons (pv 1) (pa_cons (pe_bltn (v := .ty "str") rfl (T.f_str) PyProof.Rows.Boot.«str» rfl) pa_nil))))))) (pss_one (ps_ret (pe_and (pe_callB call_isi (by rfl) T.f_isinstance PyProof.Rows.Boot.«isinstance» (pa_cons (pv 0) (pa_cons (pe_bltn (v := .ty "str") rfl (T.f_str) PyProof.Rows.Boot.«str» rfl) pa_nil))) (pe_and (pe_callB call_isi (by rfl) T.f_isinstance PyProof.Rows.Boot.«isinstance» (pa_cons (pv 1) (pa_cons (pe_bltn (v := .ty "str") rfl (T.f_str) PyProof.Rows.Boot.«str» rfl) pa_nil))) (pe_one (pe_cmpR (op_eqP hr.units) (pv 0) (pv 1) (nomark _))))))) pss_nil)
      (pss_cons (ps_asg (pe_and (pe_callB call_isi (by rfl) T.f_isinstance PyProof.Rows.Boot.«isinstance» (pa_cons (pv 0) (pa_cons (pe_bltn (v := .ty "list") rfl (T.f_list) PyProof.Rows.Boot.«list» rfl) pa_nil))) (pe_one (pe_callB call_isi (by rfl) T.f_isinstance PyProof.Rows.Boot.«isinstance» (pa_cons (pv 1) (pa_cons (pe_bltn (v := .ty "list") rfl (T.f_list) PyProof.Rows.Boot.«list» rfl) pa_nil))))) (pg_name (i := 2) sc_law_same.nd rfl (Or.inl rfl)))
      (pss_cut (ps_if (PW.pt (pw_and (pt_not (pt_val (pv 2))) (pw_and1 (pt_not (PW.pt (pw_and (pt_val (pe_callB call_isi (by rfl) T.f_isinstance PyProof.Rows.Boot.«isinstance» (pa_cons (pv 0) (pa_cons (pe_bltn (v := .ty "tuple") rfl (T.f_tuple) PyProof.Rows.Boot.«tuple» rfl) pa_nil)))) (pw_and1 (pt_val (pe_callB call_isi (by rfl) T.f_isinstance PyProof.Rows.Boot.«isinstance» (pa_cons (pv 1) (pa_cons (pe_bltn (v := .ty "tuple") rfl (T.f_tuple) PyProof.Rows.Boot.«tuple» rfl) pa_nil))))))))))) (pss_one (ps_ret (pe_and (pe_cmpR op_isP (pv 0) pe_non (nomark _)) (pe_one (pe_cmpR op_isP (pv 1) pe_non (nomark _)))))) pss_nil)
      (pss_one (ps_ret (pe_and (pe_cmpR (op_eqP hr.units) (pe_callB call_lenP (by rfl) T.f_len PyProof.Rows.Boot.«len» (pa_cons (pv 0) pa_nil)) (pe_callB call_lenP (by rfl) T.f_len PyProof.Rows.Boot.«len» (pa_cons (pv 1) pa_nil)) (nomark _)) (pe_one (pe_callB (cr_all rfl) (by rfl) T.f_all PyProof.Rows.Boot.«all» (pa_cons (pe_lc (own := [("_law_k", 3)]) (g := (gName 3)) (tt := tYes) rfl sc_law_same.nd (pi_range1 (by rfl) T.f_range (pa_cons (pe_callB call_lenP (by rfl) T.f_len PyProof.Rows.Boot.«len» (pa_cons (pv 0) pa_nil)) pa_nil)) (blkOk_by (own := [("_law_k", 3)]) (N := N_law_same) (sc := defScope Hd.s_law_same) (by decide +kernel)) (fun _ _ _ _ _ => (pg_name (i := 3) sc_law_same.nd rfl (Or.inl rfl))) (fun _ _ _ _ _ => pts_nil) (fun _ _ _ _ _ => (pe_call okR (hr.mono (by omega)) rfl T.g_law_same (T.fn_law_same).kp (b_law_same T) .nil passN (pa_cons (pe_ix ix_P (pv 0) (pv 3) (fun _ _ => rfl)) (pa_cons (pe_ix ix_P (pv 1) (pv 3) (fun _ _ => rfl)) pa_nil))))) pa_nil)))))))))))
theorem oka_law_same (T : Tx w K mg) : ∀ n : Nat, FnOk PySem.Challenge.pw_renamedhorn_k26_chains_judged w K mg base (L2N.CX PySem.Challenge.pw_renamedhorn_k26_chains_judged w) (n + 1) (ga K "_law_same") (fdOf K (ga K "_law_same")) ["_law_one", "_law_other"] (spn_law_same K n)
  | 0 => okn_law_same T 0 ⟨fun _ _ _ _ h => h.elim, fun _ _ _ _ _ _ _ _ _ _ _ _ _ h => h.elim⟩
  | n + 1 => okn_law_same T (n + 1) (oka_law_same T n)
theorem ok_law_same (T : Tx w K mg) : FnOk PySem.Challenge.pw_renamedhorn_k26_chains_judged w K mg base (L2N.CX PySem.Challenge.pw_renamedhorn_k26_chains_judged w) 5 (ga K "_law_same") (fdOf K (ga K "_law_same")) ["_law_one", "_law_other"] (sp_law_same K) := oka_law_same T 4
theorem okH_law_same (T : Tx w K mg) : L2H.FnH PySem.Challenge.pw_renamedhorn_k26_chains_judged w K mg base (L2N.CX PySem.Challenge.pw_renamedhorn_k26_chains_judged w) 5 (ga K "_law_same") (fdOf K (ga K "_law_same")) ["_law_one", "_law_other"] (spH_law_same K) := by
  refine T.fn_law_same.okH sc_law_same (fun vs H Q E h => Sp2.len h) (fun cdv A outer s H vs Q E p hot hr h => ⟨tH_law_same K (fun cls d _ H => E cls d H), ?_, pureH_law_same h⟩)
  · have tk := L2N.takes_of (X := L2H.cxH (L2N.CX PySem.Challenge.pw_renamedhorn_k26_chains_judged w) PySem.Challenge.pw_renamedhorn_k26_chains_judged w K mg base N_law_same "_law_same" (defScope Hd.s_law_same) (ga K "_law_same") cdv A outer s H E p) (E := E) rfl rfl rfl rfl
    exact (pss_cut (ps_if (PW.pt (pw_or (pt_val (pe_callB call_isi (by rfl) T.f_isinstance PyProof.Rows.Boot.«isinstance» (pa_cons (pv 0) (pa_cons (pe_bltn (v := .ty "bool") rfl (T.f_bool) PyProof.Rows.Boot.«bool» rfl) pa_nil)))) (pw_or1 (pt_val (pe_callB call_isi (by rfl) T.f_isinstance PyProof.Rows.Boot.«isinstance» (pa_cons (pv 1) (pa_cons (pe_bltn (v := .ty "bool") rfl (T.f_bool) PyProof.Rows.Boot.«bool» rfl) pa_nil))))))) (pss_one (ps_ret (pe_and (pe_callB call_isi (by rfl) T.f_isinstance PyProof.Rows.Boot.«isinstance» (pa_cons (pv 0) (pa_cons (pe_bltn (v := .ty "bool") rfl (T.f_bool) PyProof.Rows.Boot.«bool» rfl) pa_nil))) (pe_and (pe_callB call_isi (by rfl) T.f_isinstance PyProof.Rows.Boot.«isinstance» (pa_cons (pv 1) (pa_cons (pe_bltn (v := .ty "bool") rfl (T.f_bool) PyProof.Rows.Boot.«bool» rfl) pa_nil))) (pe_one (pe_cmpR (op_eqP hr.units) (pv 0) (pv 1) (nomark _))))))) pss_nil)
      (pss_cut (ps_if (PW.pt (pw_or (pt_val (pe_callB call_isi (by rfl) T.f_isinstance PyProof.Rows.Boot.«isinstance» (pa_cons (pv 0) (pa_cons (pe_bltn (v := .ty "int") rfl (T.f_int) PyProof.Rows.Boot.«int» rfl) pa_nil)))) (pw_or1 (pt_val (pe_callB call_isi (by rfl) T.f_isinstance PyProof.Rows.Boot.«isinstance» (pa_cons (pv 1) (pa_cons (pe_bltn (v := .ty "int") rfl (T.f_int) PyProof.Rows.Boot.«int» rfl) pa_nil))))))) (pss_one (ps_ret (pe_and (pe_callB call_isi (by rfl) T.f_isinstance PyProof.Rows.Boot.«isinstance» (pa_cons (pv 0) (pa_cons (pe_bltn (v := .ty "int") rfl (T.f_int) PyProof.Rows.Boot.«int» rfl) pa_nil))) (pe_and (pe_callB call_isi (by rfl) T.f_isinstance PyProof.Rows.Boot.«isinstance» (pa_cons (pv 1) (pa_cons (pe_bltn (v := .ty "int") rfl (T.f_int) PyProof.Rows.Boot.«int» rfl) pa_nil))) (pe_one (pe_cmpR (op_eqP hr.units) (pv 0) (pv 1) (nomark _))))))) pss_nil)
      (pss_cut (ps_if (PW.pt (pw_or (pt_val (pe_callB call_isi (by rfl) T.f_isinstance PyProof.Rows.Boot.«isinstance» (pa_cons (pv 0) (pa_cons (pe_bltn (v := .ty "str") rfl (T.f_str) PyProof.Rows.Boot.«str» rfl) pa_nil)))) (pw_or1 (pt_val (pe_callB call_isi (by rfl) T.f_isinstance PyProof.Rows.Boot.«isinstance» (pa_cons (pv 1) (pa_cons (pe_bltn (v := .ty "str") rfl (T.f_str) PyProof.Rows.Boot.«str» rfl) pa_nil))))))) (pss_one (ps_ret (pe_and (pe_callB call_isi (by rfl) T.f_isinstance PyProof.Rows.Boot.«isinstance» (pa_cons (pv 0) (pa_cons (pe_bltn (v := .ty "str") rfl (T.f_str) PyProof.Rows.Boot.«str» rfl) pa_nil))) (pe_and (pe_callB call_isi (by rfl) T.f_isinstance PyProof.Rows.Boot.«isinstance» (pa_cons (pv 1) (pa_cons (pe_bltn (v := .ty "str") rfl (T.f_str) PyProof.Rows.Boot.«str» rfl) pa_nil))) (pe_one (pe_cmpR (op_eqP hr.units) (pv 0) (pv 1) (nomark _))))))) pss_nil)
      (pss_cons (ps_asg (pe_and (pe_callB call_isi (by rfl) T.f_isinstance PyProof.Rows.Boot.«isinstance» (pa_cons (pv 0) (pa_cons (pe_bltn (v := .ty "list") rfl (T.f_list) PyProof.Rows.Boot.«list» rfl) pa_nil))) (pe_one (pe_callB call_isi (by rfl) T.f_isinstance PyProof.Rows.Boot.«isinstance» (pa_cons (pv 1) (pa_cons (pe_bltn (v := .ty "list") rfl (T.f_list) PyProof.Rows.Boot.«list» rfl) pa_nil))))) (pg_name (i := 2) sc_law_same.nd rfl (Or.inl rfl)))
      (pss_cut (ps_if (PW.pt (pw_and (pt_not (pt_val (pv 2))) (pw_and1 (pt_not (PW.pt (pw_and (pt_val (pe_callB call_isi (by rfl) T.f_isinstance PyProof.Rows.Boot.«isinstance» (pa_cons (pv 0) (pa_cons (pe_bltn (v := .ty "tuple") rfl (T.f_tuple) PyProof.Rows.Boot.«tuple» rfl) pa_nil)))) (pw_and1 (pt_val (pe_callB call_isi (by rfl) T.f_isinstance PyProof.Rows.Boot.«isinstance» (pa_cons (pv 1) (pa_cons (pe_bltn (v := .ty "tuple") rfl (T.f_tuple) PyProof.Rows.Boot.«tuple» rfl) pa_nil))))))))))) (pss_one (ps_ret (pe_and (pe_cmpR op_isP (pv 0) pe_non (nomark _)) (pe_one (pe_cmpR op_isP (pv 1) pe_non (nomark _)))))) pss_nil)
      (pss_one ps_never))))))
theorem sc_law_row : FnScope N_law_row ["_law_source_here", "_law_names_here", "_law_most"] (defScope Hd.s_law_row) := ⟨rfl, rfl, rfl, by decide +kernel, rfl, by decide +kernel, by decide +kernel⟩
theorem b_law_row (T : Tx w K mg) : Binds K (fdOf K (ga K "_law_row")) ["_law_source_here", "_law_names_here", "_law_most"] [] := T.fn_law_row.bindsN fun _ _ _ _ _ _ us hl => match us, hl with | [_, _, _], _ => rfl
theorem ok_law_row (T : Tx w K mg) : FnOk PySem.Challenge.pw_renamedhorn_k26_chains_judged w K mg base (L2N.CX PySem.Challenge.pw_renamedhorn_k26_chains_judged w) 2 (ga K "_law_row") (fdOf K (ga K "_law_row")) ["_law_source_here", "_law_names_here", "_law_most"] (sp_law_row K) := by
  refine T.fn_law_row.ok sc_law_row (fun vs H Q E h => Sp3.len h) (fun cdv A outer s H vs Q E hr h => ⟨t_law_row K (fun cls d _ H => E cls d H), ?_, pure_law_row h⟩)
  · have tk := L2N.takes_of (X := cxOf (L2N.CX PySem.Challenge.pw_renamedhorn_k26_chains_judged w) PySem.Challenge.pw_renamedhorn_k26_chains_judged w K mg base N_law_row "_law_row" (defScope Hd.s_law_row) (ga K "_law_row") cdv A outer s H E) (E := E) rfl rfl rfl rfl
    exact (pss_cons (ps_asg (pe_lst pa_nil) (pg_name (i := 3) sc_law_row.nd rfl (Or.inl rfl)))
      (pss_cut (ps_for (passes_of rfl) rfl (pi_range1 (by rfl) T.f_range (pa_cons (pe_callS (ok_law_take T) (hr.mono (by decide)) rfl T.g_law_take (T.fn_law_take).kp (b_law_take T) (fun σ => L2N.passAt tk σ) (pa_cons (pv 0) (pa_cons (pe_op op_addP (pv 2) pe_int) pa_nil))) pa_nil)) (pg_name (i := 4) sc_law_row.nd rfl (Or.inl rfl)) (pss_cons (ps_asg (pe_ix ix_P (pv 1) (pe_callS (ok_law_take T) (hr.mono (by decide)) rfl T.g_law_take (T.fn_law_take).kp (b_law_take T) (fun σ => L2N.passAt tk σ) (pa_cons (pv 0) (pa_cons (pe_callB call_lenP (by rfl) T.f_len PyProof.Rows.Boot.«len» (pa_cons (pv 1) pa_nil)) pa_nil))) (fun _ _ => rfl)) (pg_name (i := 5) sc_law_row.nd rfl (Or.inl rfl)))
      (pss_one (ps_if (PW.pt (pw_and (pt_cmpR (op_ninP hr.units) (pv 5) (pv 3) (by rfl)) (pw_and1 (pt_cmpR (op_ninP hr.units) (pe_op op_addP pe_str (pv 5)) (pv 3) (by rfl))))) (pss_one (ps_expr (pe_bm PySem.F.plainAttrs_list PySem.F.slot_list_append PySem.F.type_list_append mt_append (pv 3) (pa_cons (pe_op op_addP (pe_ix ix_P (pe_lst (pa_cons pe_str (pa_cons pe_str pa_nil))) (pe_callS (ok_law_take T) (hr.mono (by decide)) rfl T.g_law_take (T.fn_law_take).kp (b_law_take T) (fun σ => L2N.passAt tk σ) (pa_cons (pv 0) (pa_cons pe_int pa_nil))) (fun _ _ => rfl)) (pv 5)) pa_nil)))) pss_nil))))
      (pss_one (ps_ret (pv 3)))))
theorem sc_law_clause : FnScope N_law_clause ["_law_row_here"] (defScope Hd.s_law_clause) := ⟨rfl, rfl, rfl, by decide +kernel, rfl, by decide +kernel, by decide +kernel⟩
theorem b_law_clause (T : Tx w K mg) : Binds K (fdOf K (ga K "_law_clause")) ["_law_row_here"] [] := T.fn_law_clause.bindsN fun _ _ _ _ _ _ us hl => match us, hl with | [_], _ => rfl
theorem ok_law_clause (T : Tx w K mg) : FnOk PySem.Challenge.pw_renamedhorn_k26_chains_judged w K mg base (L2N.CX PySem.Challenge.pw_renamedhorn_k26_chains_judged w) 10 (ga K "_law_clause") (fdOf K (ga K "_law_clause")) ["_law_row_here"] (sp_law_clause K) := by
  refine T.fn_law_clause.ok sc_law_clause (fun vs H Q E h => Sp1.len h) (fun cdv A outer s H vs Q E hr h => ⟨t_law_clause K (fun cls d _ H => E cls d H), ?_, pure_law_clause h⟩)
  · have tk := L2N.takes_of (X := cxOf (L2N.CX PySem.Challenge.pw_renamedhorn_k26_chains_judged w) PySem.Challenge.pw_renamedhorn_k26_chains_judged w K mg base N_law_clause "_law_clause" (defScope Hd.s_law_clause) (ga K "_law_clause") cdv A outer s H E) (E := E) rfl rfl rfl rfl
    exact (pss_cut (ps_if (pt_cmpR (op_eqP hr.units) (pe_callB call_lenP (by rfl) T.f_len PyProof.Rows.Boot.«len» (pa_cons (pv 0) pa_nil)) pe_int (nomark _)) (pss_one (ps_ret (Cl.pe_makeS0 T.mk_Clause (fr_Clause_init T) (hr.mono (by decide)) rfl T.g_Clause (fun σ => L2N.passAt tk σ)))) pss_nil)
      (pss_cut (ps_if (pt_cmpR (op_eqP hr.units) (pe_callB call_lenP (by rfl) T.f_len PyProof.Rows.Boot.«len» (pa_cons (pv 0) pa_nil)) pe_int (nomark _)) (pss_one (ps_ret (Cl.pe_makeS T.mk_Clause (fr_Clause_init T) (hr.mono (by decide)) rfl T.g_Clause (fun σ => L2N.passAt tk σ) (pa_cons (pe_ix ix_P (pv 0) pe_int (fun _ _ => rfl)) pa_nil)))) pss_nil)
      (pss_cut (ps_if (pt_cmpR (op_eqP hr.units) (pe_callB call_lenP (by rfl) T.f_len PyProof.Rows.Boot.«len» (pa_cons (pv 0) pa_nil)) pe_int (nomark _)) (pss_one (ps_ret (Cl.pe_makeS T.mk_Clause (fr_Clause_init T) (hr.mono (by decide)) rfl T.g_Clause (fun σ => L2N.passAt tk σ) (pa_cons (pe_ix ix_P (pv 0) pe_int (fun _ _ => rfl)) (pa_cons (pe_ix ix_P (pv 0) pe_int (fun _ _ => rfl)) pa_nil))))) pss_nil)
      (pss_cut (ps_if (pt_cmpR (op_eqP hr.units) (pe_callB call_lenP (by rfl) T.f_len PyProof.Rows.Boot.«len» (pa_cons (pv 0) pa_nil)) pe_int (nomark _)) (pss_one (ps_ret (Cl.pe_makeS T.mk_Clause (fr_Clause_init T) (hr.mono (by decide)) rfl T.g_Clause (fun σ => L2N.passAt tk σ) (pa_cons (pe_ix ix_P (pv 0) pe_int (fun _ _ => rfl)) (pa_cons (pe_ix ix_P (pv 0) pe_int (fun _ _ => rfl)) (pa_cons (pe_ix ix_P (pv 0) pe_int (fun _ _ => rfl)) pa_nil)))))) pss_nil)
      (pss_cut (ps_if (pt_cmpR (op_eqP hr.units) (pe_callB call_lenP (by rfl) T.f_len PyProof.Rows.Boot.«len» (pa_cons (pv 0) pa_nil)) pe_int (nomark _)) (pss_one (ps_ret (Cl.pe_makeS T.mk_Clause (fr_Clause_init T) (hr.mono (by decide)) rfl T.g_Clause (fun σ => L2N.passAt tk σ) (pa_cons (pe_ix ix_P (pv 0) pe_int (fun _ _ => rfl)) (pa_cons (pe_ix ix_P (pv 0) pe_int (fun _ _ => rfl)) (pa_cons (pe_ix ix_P (pv 0) pe_int (fun _ _ => rfl)) (pa_cons (pe_ix ix_P (pv 0) pe_int (fun _ _ => rfl)) pa_nil))))))) pss_nil)
      (pss_cut (ps_if (pt_cmpR (op_eqP hr.units) (pe_callB call_lenP (by rfl) T.f_len PyProof.Rows.Boot.«len» (pa_cons (pv 0) pa_nil)) pe_int (nomark _)) (pss_one (ps_ret (Cl.pe_makeS T.mk_Clause (fr_Clause_init T) (hr.mono (by decide)) rfl T.g_Clause (fun σ => L2N.passAt tk σ) (pa_cons (pe_ix ix_P (pv 0) pe_int (fun _ _ => rfl)) (pa_cons (pe_ix ix_P (pv 0) pe_int (fun _ _ => rfl)) (pa_cons (pe_ix ix_P (pv 0) pe_int (fun _ _ => rfl)) (pa_cons (pe_ix ix_P (pv 0) pe_int (fun _ _ => rfl)) (pa_cons (pe_ix ix_P (pv 0) pe_int (fun _ _ => rfl)) pa_nil)))))))) pss_nil)
      (pss_one (ps_ret (Cl.pe_makeS T.mk_Clause (fr_Clause_init T) (hr.mono (by decide)) rfl T.g_Clause (fun σ => L2N.passAt tk σ) (pa_cons (pe_ix ix_P (pv 0) pe_int (fun _ _ => rfl)) (pa_cons (pe_ix ix_P (pv 0) pe_int (fun _ _ => rfl)) (pa_cons (pe_ix ix_P (pv 0) pe_int (fun _ _ => rfl)) (pa_cons (pe_ix ix_P (pv 0) pe_int (fun _ _ => rfl)) (pa_cons (pe_ix ix_P (pv 0) pe_int (fun _ _ => rfl)) (pa_cons (pe_ix ix_P (pv 0) pe_int (fun _ _ => rfl)) pa_nil)))))))))))))))
theorem sc_law_numbers : FnScope N_law_numbers ["_law_source_here", "_law_many"] (defScope Hd.s_law_numbers) := ⟨rfl, rfl, rfl, by decide +kernel, rfl, by decide +kernel, by decide +kernel⟩
theorem b_law_numbers (T : Tx w K mg) : Binds K (fdOf K (ga K "_law_numbers")) ["_law_source_here", "_law_many"] [] := T.fn_law_numbers.bindsN fun _ _ _ _ _ _ us hl => match us, hl with | [_, _], _ => rfl
theorem ok_law_numbers (T : Tx w K mg) : FnOk PySem.Challenge.pw_renamedhorn_k26_chains_judged w K mg base (L2N.CX PySem.Challenge.pw_renamedhorn_k26_chains_judged w) 2 (ga K "_law_numbers") (fdOf K (ga K "_law_numbers")) ["_law_source_here", "_law_many"] (sp_law_numbers K) := by
  refine T.fn_law_numbers.ok sc_law_numbers (fun vs H Q E h => Sp2.len h) (fun cdv A outer s H vs Q E hr h => ⟨t_law_numbers K (fun cls d _ H => E cls d H), ?_, pure_law_numbers h⟩)
  · have tk := L2N.takes_of (X := cxOf (L2N.CX PySem.Challenge.pw_renamedhorn_k26_chains_judged w) PySem.Challenge.pw_renamedhorn_k26_chains_judged w K mg base N_law_numbers "_law_numbers" (defScope Hd.s_law_numbers) (ga K "_law_numbers") cdv A outer s H E) (E := E) rfl rfl rfl rfl
    exact (pss_cons (ps_asg (pe_callS (ok_law_take T) (hr.mono (by decide)) rfl T.g_law_take (T.fn_law_take).kp (b_law_take T) (fun σ => L2N.passAt tk σ) (pa_cons (pv 0) (pa_cons pe_int pa_nil))) (pg_name (i := 2) sc_law_numbers.nd rfl (Or.inl rfl)))
      (pss_cons (ps_asg (pe_lst pa_nil) (pg_name (i := 3) sc_law_numbers.nd rfl (Or.inl rfl)))
      (pss_cons (ps_asg pe_int (pg_name (i := 4) sc_law_numbers.nd rfl (Or.inl rfl)))
      (pss_cut (ps_for (passes_of rfl) rfl (pi_range1 (by rfl) T.f_range (pa_cons (pv 1) pa_nil)) (pg_name (i := 5) sc_law_numbers.nd rfl (Or.inl rfl)) (pss_cons (ps_asg (pe_op op_addP (pv 4) pe_int) (pg_name (i := 4) sc_law_numbers.nd rfl (Or.inl rfl)))
      (pss_cut (ps_if (pt_cmpR (op_eqP hr.units) (pv 2) pe_int (nomark _)) (pss_one (ps_asg (pe_op op_addP (pv 4) (pe_callS (ok_law_take T) (hr.mono (by decide)) rfl T.g_law_take (T.fn_law_take).kp (b_law_take T) (fun σ => L2N.passAt tk σ) (pa_cons (pv 0) (pa_cons pe_int pa_nil)))) (pg_name (i := 4) sc_law_numbers.nd rfl (Or.inl rfl)))) pss_nil)
      (pss_one (ps_expr (pe_bm PySem.F.plainAttrs_list PySem.F.slot_list_append PySem.F.type_list_append mt_append (pv 3) (pa_cons (pv 4) pa_nil)))))))
      (pss_one (ps_ret (pv 3)))))))
theorem sc_Book_init : FnScope N_Book_init ["self", "numbers", "greatest", "clauses"] (defScope Hd.s_Book_init) := ⟨rfl, rfl, rfl, by decide +kernel, rfl, by decide +kernel, by decide +kernel⟩
theorem fr_Book_init (T : Tx w K mg) : FnR PySem.Challenge.pw_renamedhorn_k26_chains_judged w K mg base (L2N.CX PySem.Challenge.pw_renamedhorn_k26_chains_judged w) 7 (ma K (ga K "Book") "__init__") (spV_Book_init K) := by
  refine Cl.okStarK (p1 := "self") (pv := "clauses") T.fn_Book_init (by simp) sc_Book_init (fun D doc pm an cdv ct u rest ds hl => match ds, hl, rest with | [_, _], _, [] => ⟨_, _, _, _, _, _, rfl, rfl, _, _, _, _, _, _, rfl, rfl, rfl⟩ | [_, _], _, _ :: _ => ⟨_, _, _, _, _, _, rfl, rfl, _, _, _, _, _, _, rfl, rfl, rfl⟩) (fun cdv A outer s H vs Q E hr h => ⟨t_Book_init K (fun cls d _ H => E cls d H), ?_, pure_Book_init h⟩)
  · have tk := L2N.takes_of (X := cxOf (L2N.CX PySem.Challenge.pw_renamedhorn_k26_chains_judged w) PySem.Challenge.pw_renamedhorn_k26_chains_judged w K mg base N_Book_init "Book.__init__" (defScope Hd.s_Book_init) (ma K (ga K "Book") "__init__") cdv A outer s H E) (E := E) rfl rfl rfl rfl
    obtain ⟨u_Book_LIMIT, con_Book_LIMIT⟩ := T.con_Book_LIMIT
    obtain ⟨u_Book_NAMES, con_Book_NAMES⟩ := T.con_Book_NAMES
    obtain ⟨u_Clause_LIMIT, con_Clause_LIMIT⟩ := T.con_Clause_LIMIT
    obtain ⟨u_Turning_LIMIT, con_Turning_LIMIT⟩ := T.con_Turning_LIMIT
    exact (pss_cut (ps_if (pt_cmpR op_isP (pv 1) pe_non (nomark _)) (pss_cons (ps_expr (pe_callS (ok_check_sizes T) (hr.mono (by decide)) rfl T.g_check_sizes (T.fn_check_sizes).kp (b_check_sizes T) (fun σ => L2N.passAt tk σ) (pa_cons (pv 3) (pa_cons (Cl.pe_att (.cons (Cl.alt_con T.cls_Clause con_Clause_LIMIT) (.cons (Cl.alt_con T.cls_Turning con_Turning_LIMIT) (.cons (Cl.alt_con T.cls_Book con_Book_LIMIT) .nil))) (pv 0)) (pa_cons (Cl.pe_att (.cons (Cl.alt_con T.cls_Book con_Book_NAMES) .nil) (pv 0)) pa_nil)))))
      (pss_cons (ps_asg (pe_listRg rfl (by rfl) T.f_list (prg_2 (by rfl) T.f_range pe_int (pe_op op_addP (pe_callB call_lenP (by rfl) T.f_len PyProof.Rows.Boot.«len» (pa_cons (pv 3) pa_nil)) pe_int))) (pg_name (i := 1) sc_Book_init.nd rfl (Or.inl rfl)))
      (pss_one (ps_asg (pe_callB call_lenP (by rfl) T.f_len PyProof.Rows.Boot.«len» (pa_cons (pv 3) pa_nil)) (pg_name (i := 2) sc_Book_init.nd rfl (Or.inl rfl)))))) pss_nil)
      (pss_cons (Cl.ps_att (l := [ga K "Book"]) (fun C h => by simp only [List.mem_cons, List.not_mem_nil, or_false] at h; rcases h with rfl <;> first | exact ⟨T.cls_Book, T.no_Book_rows⟩) (pv 0) (pe_dc (own := [("number", 4), ("clause", 5)]) (g := (gTup K 2 (gCons (gName 4) (gCons (gName 5) gNil)))) (tt := tYes) rfl sc_Book_init.nd (ZiX.pi_zipM (by rfl) T.f_zip (pa_cons (pv 1) (pa_cons (pv 3) pa_nil))) (blkOk_by (own := [("number", 4), ("clause", 5)]) (N := N_Book_init) (sc := defScope Hd.s_Book_init) (by decide +kernel)) (fun _ _ _ _ _ => (pg_tup rfl (pgs_cons (pg_name (i := 4) sc_Book_init.nd rfl (Or.inl rfl)) (pgs_cons (pg_name (i := 5) sc_Book_init.nd rfl (Or.inl rfl)) pgs_nil)))) (fun _ _ _ _ _ => pts_nil) (fun _ _ _ _ _ => (pv 4)) (fun _ _ _ _ _ => (pv 5))))
      (pss_one (Cl.ps_att (l := [ga K "Book"]) (fun C h => by simp only [List.mem_cons, List.not_mem_nil, or_false] at h; rcases h with rfl <;> first | exact ⟨T.cls_Book, T.no_Book_greatest⟩) (pv 0) (pv 2)))))
theorem sc_Book_need_room : FnScope N_Book_need_room ["self", "clause"] (defScope Hd.s_Book_need_room) := ⟨rfl, rfl, rfl, by decide +kernel, rfl, by decide +kernel, by decide +kernel⟩
theorem b_Book_need_room (T : Tx w K mg) : Binds K (fdOf K (ma K (ga K "Book") "need_room")) ["self", "clause"] [] := T.fn_Book_need_room.bindsN fun _ _ _ _ _ _ us hl => match us, hl with | [_, _], _ => rfl
theorem ok_Book_need_room (T : Tx w K mg) : FnOk PySem.Challenge.pw_renamedhorn_k26_chains_judged w K mg base (L2N.CX PySem.Challenge.pw_renamedhorn_k26_chains_judged w) 6 (ma K (ga K "Book") "need_room") (fdOf K (ma K (ga K "Book") "need_room")) ["self", "clause"] (sp_Book_need_room K) := by
  refine T.fn_Book_need_room.ok sc_Book_need_room (fun vs H Q E h => Sp2.len h) (fun cdv A outer s H vs Q E hr h => ⟨t_Book_need_room K (fun cls d _ H => E cls d H), ?_, pure_Book_need_room h⟩)
  · have tk := L2N.takes_of (X := cxOf (L2N.CX PySem.Challenge.pw_renamedhorn_k26_chains_judged w) PySem.Challenge.pw_renamedhorn_k26_chains_judged w K mg base N_Book_need_room "Book.need_room" (defScope Hd.s_Book_need_room) (ma K (ga K "Book") "need_room") cdv A outer s H E) (E := E) rfl rfl rfl rfl
    obtain ⟨u_Book_LIMIT, con_Book_LIMIT⟩ := T.con_Book_LIMIT
    obtain ⟨u_Book_NAMES, con_Book_NAMES⟩ := T.con_Book_NAMES
    obtain ⟨u_Clause_LIMIT, con_Clause_LIMIT⟩ := T.con_Clause_LIMIT
    obtain ⟨u_Turning_LIMIT, con_Turning_LIMIT⟩ := T.con_Turning_LIMIT
    exact (pss_cut (ps_if (pt_cmpR op_geP (pe_callB call_lenP (by rfl) T.f_len PyProof.Rows.Boot.«len» (pa_cons (Cl.pe_att (.cons (Cl.alt_fld T.cls_Book T.no_Book_rows) .nil) (pv 0)) pa_nil)) (Cl.pe_att (.cons (Cl.alt_con T.cls_Clause con_Clause_LIMIT) (.cons (Cl.alt_con T.cls_Turning con_Turning_LIMIT) (.cons (Cl.alt_con T.cls_Book con_Book_LIMIT) .nil))) (pv 0)) (nomark _)) (pss_one (ps_raiseE rfl T.err_TooMany hr tk (pa_cons (Cl.pe_att (.cons (Cl.alt_con T.cls_Clause con_Clause_LIMIT) (.cons (Cl.alt_con T.cls_Turning con_Turning_LIMIT) (.cons (Cl.alt_con T.cls_Book con_Book_LIMIT) .nil))) (pv 0)) pa_nil))) pss_nil)
      (pss_one (ps_if (pt_cmpR op_gtP (pe_callB call_lenP (by rfl) T.f_len PyProof.Rows.Boot.«len» (pa_cons (pe_callS (ok_names_in T) (hr.mono (by decide)) rfl T.g_names_in (T.fn_names_in).kp (b_names_in T) (fun σ => L2N.passAt tk σ) (pa_cons (pe_op op_addP (Cl.pe_listVals rfl (by rfl) T.f_list (Cl.pe_att (.cons (Cl.alt_fld T.cls_Book T.no_Book_rows) .nil) (pv 0))) (pe_lst (pa_cons (pv 1) pa_nil))) pa_nil)) pa_nil)) (Cl.pe_att (.cons (Cl.alt_con T.cls_Book con_Book_NAMES) .nil) (pv 0)) (nomark _)) (pss_one (ps_raiseE rfl T.err_TooMany hr tk (pa_cons (Cl.pe_att (.cons (Cl.alt_con T.cls_Book con_Book_NAMES) .nil) (pv 0)) pa_nil))) pss_nil)))
theorem sc_Book_numbered : FnScope N_Book_numbered ["cls", "pairs"] (defScope Hd.s_Book_numbered) := ⟨rfl, rfl, rfl, by decide +kernel, rfl, by decide +kernel, by decide +kernel⟩
theorem b_Book_numbered (T : Tx w K mg) : Binds K (fdOf K (He5.wf K (ga K "Book") "classmethod" "numbered")) ["cls", "pairs"] [] := T.fn_Book_numbered.bindsN fun _ _ _ _ _ _ us hl => match us, hl with | [_, _], _ => rfl
theorem ok_Book_numbered (T : Tx w K mg) : FnOk PySem.Challenge.pw_renamedhorn_k26_chains_judged w K mg base (L2N.CX PySem.Challenge.pw_renamedhorn_k26_chains_judged w) 15 (He5.wf K (ga K "Book") "classmethod" "numbered") (fdOf K (He5.wf K (ga K "Book") "classmethod" "numbered")) ["cls", "pairs"] (sp_Book_numbered K) := by
  refine T.fn_Book_numbered.ok sc_Book_numbered (fun vs H Q E h => Sp2.len h) (fun cdv A outer s H vs Q E hr h => ⟨t_Book_numbered K (fun cls d _ H => E cls d H), ?_, pure_Book_numbered h⟩)
  · have tk := L2N.takes_of (X := cxOf (L2N.CX PySem.Challenge.pw_renamedhorn_k26_chains_judged w) PySem.Challenge.pw_renamedhorn_k26_chains_judged w K mg base N_Book_numbered "Book.numbered" (defScope Hd.s_Book_numbered) (He5.wf K (ga K "Book") "classmethod" "numbered") cdv A outer s H E) (E := E) rfl rfl rfl rfl
    obtain ⟨cr_Book_NUMBERS, w_Book_NUMBERS, cv_Book_NUMBERS⟩ := T.cv_Book_NUMBERS
    exact (pss_cons (ps_asg (Cl.pe_makeV (E := (WE fun cls d _ H => E cls d H)) T.mk_Book (fr_Book_init T) (hr.mono (by decide)) (pv 0) (fun σ => L2N.passAt tk σ)) (pg_name (i := 2) sc_Book_numbered.nd rfl (Or.inl rfl)))
      (pss_cons (ps_asg pe_int (pg_name (i := 3) sc_Book_numbered.nd rfl (Or.inl rfl)))
      (pss_cut (ps_for (passes_of rfl) rfl (pi_anyP (pv 1)) (pg_tup rfl (pgs_cons (pg_name (i := 4) sc_Book_numbered.nd rfl (Or.inl rfl)) (pgs_cons (pg_name (i := 5) sc_Book_numbered.nd rfl (Or.inl rfl)) pgs_nil))) (pss_cut (ps_if (PW.pt (pw_or (pt_cmpR op_leP (pv 4) (pv 3) (nomark _)) (pw_or1 (pt_cmpR op_gtP (pv 4) (Cl.pe_clsV cr_Book_NUMBERS cv_Book_NUMBERS (pv 0)) (nomark _))))) (pss_one (ps_raiseE rfl T.err_BadNumber hr tk (pa_cons (pv 4) pa_nil))) pss_nil)
      (pss_cons (ps_expr (Cl.pe_methO (E := (WE fun cls d _ H => E cls d H)) (.cons (Cl.ownM_of T.cls_Book T.own_Book_need_room T.fn_Book_need_room (Cl.toR (ok_Book_need_room T) (b_Book_need_room T)) (hr.mono (by decide)) (fun σ => L2N.passAt tk σ)) .nil) (pv 2) (pa_cons (pv 5) pa_nil)))
      (pss_cons (ps_asg (pv 5) (pg_sub (Cl.pe_att (.cons (Cl.alt_fld T.cls_Book T.no_Book_rows) .nil) (pv 2)) (pv 4) (set_P hr.units)))
      (pss_cons (Cl.ps_att (l := [ga K "Book"]) (fun C h => by simp only [List.mem_cons, List.not_mem_nil, or_false] at h; rcases h with rfl <;> first | exact ⟨T.cls_Book, T.no_Book_greatest⟩) (pv 2) (pv 4))
      (pss_one (ps_asg (pv 4) (pg_name (i := 3) sc_Book_numbered.nd rfl (Or.inl rfl)))))))))
      (pss_one (ps_ret (pv 2))))))
theorem sc_law_book : FnScope N_law_book ["_law_numbers_here", "_law_rows"] (defScope Hd.s_law_book) := ⟨rfl, rfl, rfl, by decide +kernel, rfl, by decide +kernel, by decide +kernel⟩
theorem b_law_book (T : Tx w K mg) : Binds K (fdOf K (ga K "_law_book")) ["_law_numbers_here", "_law_rows"] [] := T.fn_law_book.bindsN fun _ _ _ _ _ _ us hl => match us, hl with | [_, _], _ => rfl
theorem ok_law_book (T : Tx w K mg) : FnOk PySem.Challenge.pw_renamedhorn_k26_chains_judged w K mg base (L2N.CX PySem.Challenge.pw_renamedhorn_k26_chains_judged w) 19 (ga K "_law_book") (fdOf K (ga K "_law_book")) ["_law_numbers_here", "_law_rows"] (sp_law_book K) := by
  refine T.fn_law_book.ok sc_law_book (fun vs H Q E h => Sp2.len h) (fun cdv A outer s H vs Q E hr h => ⟨t_law_book K (fun cls d _ H => E cls d H), ?_, pure_law_book h⟩)
  · have tk := L2N.takes_of (X := cxOf (L2N.CX PySem.Challenge.pw_renamedhorn_k26_chains_judged w) PySem.Challenge.pw_renamedhorn_k26_chains_judged w K mg base N_law_book "_law_book" (defScope Hd.s_law_book) (ga K "_law_book") cdv A outer s H E) (E := E) rfl rfl rfl rfl
    exact (pss_one (ps_ret (Cl.pe_cmethS (E := (WE fun cls d _ H => E cls d H)) (pe_glob (v := .ref (ga K "Book")) rfl (T.g_Book) rfl) T.cmet_Book_numbered.1 T.cmet_Book_numbered.2 (Cl.toR (ok_Book_numbered T) (b_Book_numbered T)) (hr.mono (by decide)) (fun σ => L2N.passAt tk σ) (pa_cons (pe_lc (own := [("_law_k", 2)]) (g := (gName 2)) (tt := tYes) rfl sc_law_book.nd (pi_range1 (by rfl) T.f_range (pa_cons (pe_callB call_lenP (by rfl) T.f_len PyProof.Rows.Boot.«len» (pa_cons (pv 1) pa_nil)) pa_nil)) (blkOk_by (own := [("_law_k", 2)]) (N := N_law_book) (sc := defScope Hd.s_law_book) (by decide +kernel)) (fun _ _ _ _ _ => (pg_name (i := 2) sc_law_book.nd rfl (Or.inl rfl))) (fun _ _ _ _ _ => pts_nil) (fun _ _ _ _ _ => (pe_tup (pa_cons (pe_ix ix_P (pv 0) (pv 2) (fun _ _ => rfl)) (pa_cons (pe_call (ok_law_clause T) (hr.mono (by decide)) rfl T.g_law_clause (T.fn_law_clause).kp (b_law_clause T) .nil passN (pa_cons (pe_ix ix_P (pv 1) (pv 2) (fun _ _ => rfl)) pa_nil)) pa_nil))))) pa_nil))))
theorem sc_law_is_link : FnScope N_law_is_link ["_law_numbers_here", "_law_rows", "_law_link"] (defScope Hd.s_law_is_link) := ⟨rfl, rfl, rfl, by decide +kernel, rfl, by decide +kernel, by decide +kernel⟩
theorem b_law_is_link (T : Tx w K mg) : Binds K (fdOf K (ga K "_law_is_link")) ["_law_numbers_here", "_law_rows", "_law_link"] [] := T.fn_law_is_link.bindsN fun _ _ _ _ _ _ us hl => match us, hl with | [_, _, _], _ => rfl
theorem ok_law_is_link (T : Tx w K mg) : FnOk PySem.Challenge.pw_renamedhorn_k26_chains_judged w K mg base (L2N.CX PySem.Challenge.pw_renamedhorn_k26_chains_judged w) 2 (ga K "_law_is_link") (fdOf K (ga K "_law_is_link")) ["_law_numbers_here", "_law_rows", "_law_link"] (sp_law_is_link K) := by
  refine T.fn_law_is_link.ok sc_law_is_link (fun vs H Q E h => len_law_is_link h) (fun cdv A outer s H vs Q E hr h => ⟨t_law_is_link K (fun cls d _ H => E cls d H), ?_, pure_law_is_link h⟩)
  · have tk := L2N.takes_of (X := cxOf (L2N.CX PySem.Challenge.pw_renamedhorn_k26_chains_judged w) PySem.Challenge.pw_renamedhorn_k26_chains_judged w K mg base N_law_is_link "_law_is_link" (defScope Hd.s_law_is_link) (ga K "_law_is_link") cdv A outer s H E) (E := E) rfl rfl rfl rfl
    exact (pss_cut (ps_if (PW.pt (pw_or (pt_not (pt_val (pe_callB call_isi (by rfl) T.f_isinstance PyProof.Rows.Boot.«isinstance» (pa_cons (pv 2) (pa_cons (pe_bltn (v := .ty "tuple") rfl (T.f_tuple) PyProof.Rows.Boot.«tuple» rfl) pa_nil))))) (pw_or (pt_cmpR (op_neP hr.units) (pe_callB call_lenP (by rfl) T.f_len PyProof.Rows.Boot.«len» (pa_cons (pv 2) pa_nil)) pe_int (nomark _)) (pw_or1 (pt_val (pe_callB call_isi (by rfl) T.f_isinstance PyProof.Rows.Boot.«isinstance» (pa_cons (pe_ix ix_P (pv 2) pe_int (fun _ _ => rfl)) (pa_cons (pe_bltn (v := .ty "bool") rfl (T.f_bool) PyProof.Rows.Boot.«bool» rfl) pa_nil)))))))) (pss_one (ps_ret pe_bl)) pss_nil)
      (pss_cut (ps_if (PW.pt (pw_or (pt_not (pt_val (pe_callB call_isi (by rfl) T.f_isinstance PyProof.Rows.Boot.«isinstance» (pa_cons (pe_ix ix_P (pv 2) pe_int (fun _ _ => rfl)) (pa_cons (pe_bltn (v := .ty "str") rfl (T.f_str) PyProof.Rows.Boot.«str» rfl) pa_nil))))) (pw_or (pt_not (pt_val (pe_callB call_isi (by rfl) T.f_isinstance PyProof.Rows.Boot.«isinstance» (pa_cons (pe_ix ix_P (pv 2) pe_int (fun _ _ => rfl)) (pa_cons (pe_bltn (v := .ty "str") rfl (T.f_str) PyProof.Rows.Boot.«str» rfl) pa_nil))))) (pw_or (pt_not (pt_val (pe_callB call_isi (by rfl) T.f_isinstance PyProof.Rows.Boot.«isinstance» (pa_cons (pe_ix ix_P (pv 2) pe_int (fun _ _ => rfl)) (pa_cons (pe_bltn (v := .ty "int") rfl (T.f_int) PyProof.Rows.Boot.«int» rfl) pa_nil))))) (pw_or1 (pt_cmpR (op_ninP hr.units) (pe_ix ix_P (pv 2) pe_int (fun _ _ => rfl)) (pv 0) (by rfl))))))) (pss_one (ps_ret pe_bl)) pss_nil)
      (pss_cons (ps_asg (pe_ix ix_P (pv 1) (pe_bm PySem.F.plainAttrs_list PySem.F.slot_list_index PySem.F.type_list_index mt_index (pv 0) (pa_cons (pe_ix ix_P (pv 2) pe_int (fun _ _ => rfl)) pa_nil)) (fun _ _ => rfl)) (pg_name (i := 3) sc_law_is_link.nd rfl (Or.inl rfl)))
      (pss_one (ps_ret (pe_and (pe_cmpR (op_inP hr.units) (pe_ix ix_P (pv 2) pe_int (fun _ _ => rfl)) (pv 3) (by rfl)) (pe_and (pe_cmpR (op_inP hr.units) (pe_callS (ok_law_flip T) (hr.mono (by decide)) rfl T.g_law_flip (T.fn_law_flip).kp (b_law_flip T) (fun σ => L2N.passAt tk σ) (pa_cons (pe_ix ix_P (pv 2) pe_int (fun _ _ => rfl)) pa_nil)) (pv 3) (by rfl)) (pe_one (pe_cmpR (op_neP hr.units) (pe_ix ix_P (pv 2) pe_int (fun _ _ => rfl)) (pe_callS (ok_law_flip T) (hr.mono (by decide)) rfl T.g_law_flip (T.fn_law_flip).kp (b_law_flip T) (fun σ => L2N.passAt tk σ) (pa_cons (pe_ix ix_P (pv 2) pe_int (fun _ _ => rfl)) pa_nil)) (nomark _))))))))))
theorem sc_law_is_chain : FnScope N_law_is_chain ["_law_numbers_here", "_law_rows", "_law_start_here", "_law_goal", "_law_links"] (defScope Hd.s_law_is_chain) := ⟨rfl, rfl, rfl, by decide +kernel, rfl, by decide +kernel, by decide +kernel⟩
theorem b_law_is_chain (T : Tx w K mg) : Binds K (fdOf K (ga K "_law_is_chain")) ["_law_numbers_here", "_law_rows", "_law_start_here", "_law_goal", "_law_links"] [] := T.fn_law_is_chain.bindsN fun _ _ _ _ _ _ us hl => match us, hl with | [_, _, _, _, _], _ => rfl
theorem ok_law_is_chain (T : Tx w K mg) : FnOk PySem.Challenge.pw_renamedhorn_k26_chains_judged w K mg base (L2N.CX PySem.Challenge.pw_renamedhorn_k26_chains_judged w) 3 (ga K "_law_is_chain") (fdOf K (ga K "_law_is_chain")) ["_law_numbers_here", "_law_rows", "_law_start_here", "_law_goal", "_law_links"] (sp_law_is_chain K) := by
  refine T.fn_law_is_chain.ok sc_law_is_chain (fun vs H Q E h => len_law_is_chain h) (fun cdv A outer s H vs Q E hr h => ⟨t_law_is_chain K (fun cls d _ H => E cls d H), ?_, pure_law_is_chain h⟩)
  · have tk := L2N.takes_of (X := cxOf (L2N.CX PySem.Challenge.pw_renamedhorn_k26_chains_judged w) PySem.Challenge.pw_renamedhorn_k26_chains_judged w K mg base N_law_is_chain "_law_is_chain" (defScope Hd.s_law_is_chain) (ga K "_law_is_chain") cdv A outer s H E) (E := E) rfl rfl rfl rfl
    exact (pss_cons (ps_asg (pv 2) (pg_name (i := 5) sc_law_is_chain.nd rfl (Or.inl rfl)))
      (pss_cut (ps_for (passes_of rfl) rfl (pi_anyP (pv 4)) (pg_name (i := 6) sc_law_is_chain.nd rfl (Or.inl rfl)) (pss_cut (ps_if (PW.pt (pw_or (pt_not (pt_val (pe_callS (ok_law_is_link T) (hr.mono (by decide)) rfl T.g_law_is_link (T.fn_law_is_link).kp (b_law_is_link T) (fun σ => L2N.passAt tk σ) (pa_cons (pv 0) (pa_cons (pv 1) (pa_cons (pv 6) pa_nil)))))) (pw_or1 (pt_cmpR (op_neP hr.units) (pe_ix ix_P (pv 6) pe_int (fun _ _ => rfl)) (pv 5) (nomark _))))) (pss_one (ps_ret pe_bl)) pss_nil)
      (pss_one (ps_asg (pe_ix ix_P (pv 6) pe_int (fun _ _ => rfl)) (pg_name (i := 5) sc_law_is_chain.nd rfl (Or.inl rfl))))))
      (pss_one (ps_ret (pe_cmpR (op_eqP hr.units) (pv 5) (pv 3) (nomark _))))))
theorem sc_law_needs : FnScope N_law_needs ["_law_numbers_here", "_law_rows", "_law_literal"] (defScope Hd.s_law_needs) := ⟨rfl, rfl, rfl, by decide +kernel, rfl, by decide +kernel, by decide +kernel⟩
theorem b_law_needs (T : Tx w K mg) : Binds K (fdOf K (ga K "_law_needs")) ["_law_numbers_here", "_law_rows", "_law_literal"] [] := T.fn_law_needs.bindsN fun _ _ _ _ _ _ us hl => match us, hl with | [_, _, _], _ => rfl
theorem ok_law_needs (T : Tx w K mg) : FnOk PySem.Challenge.pw_renamedhorn_k26_chains_judged w K mg base (L2N.CX PySem.Challenge.pw_renamedhorn_k26_chains_judged w) 3 (ga K "_law_needs") (fdOf K (ga K "_law_needs")) ["_law_numbers_here", "_law_rows", "_law_literal"] (sp_law_needs K) := by
  refine T.fn_law_needs.ok sc_law_needs (fun vs H Q E h => len_law_needs h) (fun cdv A outer s H vs Q E hr h => ⟨t_law_needs K (fun cls d _ H => E cls d H), ?_, pure_law_needs h⟩)
  · have tk := L2N.takes_of (X := cxOf (L2N.CX PySem.Challenge.pw_renamedhorn_k26_chains_judged w) PySem.Challenge.pw_renamedhorn_k26_chains_judged w K mg base N_law_needs "_law_needs" (defScope Hd.s_law_needs) (ga K "_law_needs") cdv A outer s H E) (E := E) rfl rfl rfl rfl
    exact (pss_cons (ps_asg (pe_lst pa_nil) (pg_name (i := 3) sc_law_needs.nd rfl (Or.inl rfl)))
      (pss_cut (ps_for (passes_of rfl) rfl (pi_range1 (by rfl) T.f_range (pa_cons (pe_callB call_lenP (by rfl) T.f_len PyProof.Rows.Boot.«len» (pa_cons (pv 1) pa_nil)) pa_nil)) (pg_name (i := 4) sc_law_needs.nd rfl (Or.inl rfl)) (pss_one (ps_if (pt_cmpR (op_inP hr.units) (pv 2) (pe_ix ix_P (pv 1) (pv 4) (fun _ _ => rfl)) (by rfl)) (pss_one (ps_for (passes_of rfl) rfl (pi_anyP (pe_callS (ok_law_ordered T) (hr.mono (by decide)) rfl T.g_law_ordered (T.fn_law_ordered).kp (b_law_ordered T) (fun σ => L2N.passAt tk σ) (pa_cons (pe_ix ix_P (pv 1) (pv 4) (fun _ _ => rfl)) pa_nil))) (pg_name (i := 5) sc_law_needs.nd rfl (Or.inl rfl)) (pss_one (ps_if (pt_cmpR (op_neP hr.units) (pv 5) (pv 2) (nomark _)) (pss_one (ps_expr (pe_bm PySem.F.plainAttrs_list PySem.F.slot_list_append PySem.F.type_list_append mt_append (pv 3) (pa_cons (pe_tup (pa_cons (pe_ix ix_P (pv 0) (pv 4) (fun _ _ => rfl)) (pa_cons (pe_callS (ok_law_flip T) (hr.mono (by decide)) rfl T.g_law_flip (T.fn_law_flip).kp (b_law_flip T) (fun σ => L2N.passAt tk σ) (pa_cons (pv 5) pa_nil)) pa_nil))) pa_nil)))) pss_nil)))) pss_nil)))
      (pss_one (ps_ret (pv 3)))))
theorem sc_law_line : FnScope N_law_line ["_law_source_here", "_law_names_here"] (defScope Hd.s_law_line) := ⟨rfl, rfl, rfl, by decide +kernel, rfl, by decide +kernel, by decide +kernel⟩
theorem b_law_line (T : Tx w K mg) : Binds K (fdOf K (ga K "_law_line")) ["_law_source_here", "_law_names_here"] [] := T.fn_law_line.bindsN fun _ _ _ _ _ _ us hl => match us, hl with | [_, _], _ => rfl
theorem ok_law_line (T : Tx w K mg) : FnOk PySem.Challenge.pw_renamedhorn_k26_chains_judged w K mg base (L2N.CX PySem.Challenge.pw_renamedhorn_k26_chains_judged w) 3 (ga K "_law_line") (fdOf K (ga K "_law_line")) ["_law_source_here", "_law_names_here"] (sp_law_line K) := by
  refine T.fn_law_line.ok sc_law_line (fun vs H Q E h => len_law_line h) (fun cdv A outer s H vs Q E hr h => ⟨t_law_line K (fun cls d _ H => E cls d H), ?_, pure_law_line h⟩)
  · have tk := L2N.takes_of (X := cxOf (L2N.CX PySem.Challenge.pw_renamedhorn_k26_chains_judged w) PySem.Challenge.pw_renamedhorn_k26_chains_judged w K mg base N_law_line "_law_line" (defScope Hd.s_law_line) (ga K "_law_line") cdv A outer s H E) (E := E) rfl rfl rfl rfl
    exact (pss_cons (ps_setLc (i := 2) (own := [("_law_name_here", 5)]) (g := (gName 5)) (tt := tYes) rfl sc_law_line.nd rfl rfl (sw_true rfl rfl rfl (by decide +kernel)) (pi_anyP (pv 1)) (blkOk_by (own := [("_law_name_here", 5)]) (N := N_law_line) (sc := defScope Hd.s_law_line) (by decide +kernel)) (fun _ _ _ _ _ => (pg_name (i := 5) sc_law_line.nd rfl (Or.inl rfl))) (fun _ _ _ _ _ => pts_nil) (fun _ _ _ _ _ => (pe_op op_addP (pe_ix ix_P (pe_lst (pa_cons pe_str (pa_cons pe_str pa_nil))) (pe_call (ok_law_take T) (hr.mono (by decide)) rfl T.g_law_take (T.fn_law_take).kp (b_law_take T) .nil passN (pa_cons (pv 0) (pa_cons pe_int pa_nil))) (fun _ _ => rfl)) (pv 5))))
      (pss_cons (ps_asg (pe_lst pa_nil) (pg_name (i := 3) sc_law_line.nd rfl (Or.inl rfl)))
      (pss_cut (ps_for (passes_of rfl) rfl (pi_range1 (by rfl) T.f_range (pa_cons (pe_op op_subP (pe_callB call_lenP (by rfl) T.f_len PyProof.Rows.Boot.«len» (pa_cons (pv 1) pa_nil)) pe_int) pa_nil)) (pg_name (i := 4) sc_law_line.nd rfl (Or.inl rfl)) (pss_one (ps_expr (pe_bm PySem.F.plainAttrs_list PySem.F.slot_list_append PySem.F.type_list_append mt_append (pv 3) (pa_cons (pe_lst (pa_cons (pe_ix ix_P (pv 2) (pv 4) (fun _ _ => rfl)) (pa_cons (pe_callS (ok_law_flip T) (hr.mono (by decide)) rfl T.g_law_flip (T.fn_law_flip).kp (b_law_flip T) (fun σ => L2N.passAt tk σ) (pa_cons (pe_ix ix_P (pv 2) (pe_op op_addP (pv 4) pe_int) (fun _ _ => rfl)) pa_nil)) pa_nil))) pa_nil)))))
      (pss_cut (ps_if (PW.pt (pw_and (pt_cmpR op_gtP (pe_callB call_lenP (by rfl) T.f_len PyProof.Rows.Boot.«len» (pa_cons (pv 1) pa_nil)) pe_int (nomark _)) (pw_and1 (pt_cmpR (op_eqP hr.units) (pe_callS (ok_law_take T) (hr.mono (by decide)) rfl T.g_law_take (T.fn_law_take).kp (b_law_take T) (fun σ => L2N.passAt tk σ) (pa_cons (pv 0) (pa_cons pe_int pa_nil))) pe_int (nomark _))))) (pss_one (ps_expr (pe_bm PySem.F.plainAttrs_list PySem.F.slot_list_append PySem.F.type_list_append mt_append (pv 3) (pa_cons (pe_lst (pa_cons (pe_ix ix_P (pv 2) (pe_un un_neg pe_int) (fun _ _ => rfl)) (pa_cons (pe_ix ix_P (pv 2) (pe_un un_neg pe_int) (fun _ _ => rfl)) pa_nil))) pa_nil)))) pss_nil)
      (pss_cut (ps_for (passes_of rfl) rfl (pi_range1 (by rfl) T.f_range (pa_cons (pe_callS (ok_law_take T) (hr.mono (by decide)) rfl T.g_law_take (T.fn_law_take).kp (b_law_take T) (fun σ => L2N.passAt tk σ) (pa_cons (pv 0) (pa_cons pe_int pa_nil))) pa_nil)) (pg_name (i := 4) sc_law_line.nd rfl (Or.inl rfl)) (pss_one (ps_expr (pe_bm PySem.F.plainAttrs_list PySem.F.slot_list_append PySem.F.type_list_append mt_append (pv 3) (pa_cons (pe_callS (ok_law_row T) (hr.mono (by decide)) rfl T.g_law_row (T.fn_law_row).kp (b_law_row T) (fun σ => L2N.passAt tk σ) (pa_cons (pv 0) (pa_cons (pv 1) (pa_cons pe_int pa_nil)))) pa_nil)))))
      (pss_cut (ps_if (pt_cmpR (op_eqP hr.units) (pe_callS (ok_law_take T) (hr.mono (by decide)) rfl T.g_law_take (T.fn_law_take).kp (b_law_take T) (fun σ => L2N.passAt tk σ) (pa_cons (pv 0) (pa_cons pe_int pa_nil))) pe_int (nomark _)) (pss_one (ps_ret (pe_revL (pv 3)))) pss_nil)
      (pss_one (ps_ret (pv 3)))))))))
theorem sc_law_bad : FnScope N_law_bad ["_law_source_here", "_law_name_here"] (defScope Hd.s_law_bad) := ⟨rfl, rfl, rfl, by decide +kernel, rfl, by decide +kernel, by decide +kernel⟩
theorem b_law_bad (T : Tx w K mg) : Binds K (fdOf K (ga K "_law_bad")) ["_law_source_here", "_law_name_here"] [] := T.fn_law_bad.bindsN fun _ _ _ _ _ _ us hl => match us, hl with | [_, _], _ => rfl
theorem ok_law_bad (T : Tx w K mg) : FnOk PySem.Challenge.pw_renamedhorn_k26_chains_judged w K mg base (L2N.CX PySem.Challenge.pw_renamedhorn_k26_chains_judged w) 2 (ga K "_law_bad") (fdOf K (ga K "_law_bad")) ["_law_source_here", "_law_name_here"] (sp_law_bad K) := by
  refine T.fn_law_bad.ok sc_law_bad (fun vs H Q E h => len_law_bad h) (fun cdv A outer s H vs Q E hr h => ⟨t_law_bad K (fun cls d _ H => E cls d H), ?_, pure_law_bad h⟩)
  · have tk := L2N.takes_of (X := cxOf (L2N.CX PySem.Challenge.pw_renamedhorn_k26_chains_judged w) PySem.Challenge.pw_renamedhorn_k26_chains_judged w K mg base N_law_bad "_law_bad" (defScope Hd.s_law_bad) (ga K "_law_bad") cdv A outer s H E) (E := E) rfl rfl rfl rfl
    exact (pss_cons (ps_asg pe_str (pg_name (i := 2) sc_law_bad.nd rfl (Or.inl rfl)))
      (pss_cons (ps_asg (pe_callS (ok_law_take T) (hr.mono (by decide)) rfl T.g_law_take (T.fn_law_take).kp (b_law_take T) (fun σ => L2N.passAt tk σ) (pa_cons (pv 0) (pa_cons (pe_op op_addP pe_int (pe_callB call_lenP (by rfl) T.f_len PyProof.Rows.Boot.«len» (pa_cons (pv 1) pa_nil))) pa_nil))) (pg_name (i := 3) sc_law_bad.nd rfl (Or.inl rfl)))
      (pss_cons (ps_asg (pe_lst (pa_cons pe_str (pa_cons pe_str (pa_cons (pe_op op_addP pe_str (pv 1)) (pa_cons (pe_op op_addP (pv 1) pe_str) (pa_cons (pe_op op_addP pe_str (pe_slice sl_P (pv 1) (po_some pe_int) po_none)) (pa_cons (pe_slice sl_P (pe_op op_addP (pv 1) pe_str) po_none (po_some pe_int)) pa_nil))))))) (pg_name (i := 4) sc_law_bad.nd rfl (Or.inl rfl)))
      (pss_cons (ps_expr (pe_bm PySem.F.plainAttrs_list PySem.F.slot_list_append PySem.F.type_list_append mt_append (pv 4) (pa_cons (pe_op op_addP pe_str (pe_slice sl_P (pe_op op_addP (pv 1) pe_str) po_none (po_some pe_int))) pa_nil)))
      (pss_cons (ps_expr (pe_bm PySem.F.plainAttrs_list PySem.F.slot_list_append PySem.F.type_list_append mt_append (pv 4) (pa_cons (pe_op op_addP (pe_op op_addP (pe_slice sl_P (pv 1) po_none (po_some (pv 3))) (pe_ix ix_P (pv 2) (pe_callS (ok_law_take T) (hr.mono (by decide)) rfl T.g_law_take (T.fn_law_take).kp (b_law_take T) (fun σ => L2N.passAt tk σ) (pa_cons (pv 0) (pa_cons (pe_callB call_lenP (by rfl) T.f_len PyProof.Rows.Boot.«len» (pa_cons (pv 2) pa_nil)) pa_nil))) (fun _ _ => rfl))) (pe_slice sl_P (pv 1) (po_some (pv 3)) po_none)) pa_nil)))
      (pss_one (ps_ret (pe_ix ix_P (pv 4) (pe_callS (ok_law_take T) (hr.mono (by decide)) rfl T.g_law_take (T.fn_law_take).kp (b_law_take T) (fun σ => L2N.passAt tk σ) (pa_cons (pv 0) (pa_cons (pe_callB call_lenP (by rfl) T.f_len PyProof.Rows.Boot.«len» (pa_cons (pv 4) pa_nil)) pa_nil))) (fun _ _ => rfl)))))))))
theorem sc_law_start : FnScope N_law_start ["_law_source_here", "_law_names_here", "_law_rows"] (defScope Hd.s_law_start) := ⟨rfl, rfl, rfl, by decide +kernel, rfl, by decide +kernel, by decide +kernel⟩
theorem b_law_start (T : Tx w K mg) : Binds K (fdOf K (ga K "_law_start")) ["_law_source_here", "_law_names_here", "_law_rows"] [] := T.fn_law_start.bindsN fun _ _ _ _ _ _ us hl => match us, hl with | [_, _, _], _ => rfl
theorem ok_law_start (T : Tx w K mg) : FnOk PySem.Challenge.pw_renamedhorn_k26_chains_judged w K mg base (L2N.CX PySem.Challenge.pw_renamedhorn_k26_chains_judged w) 2 (ga K "_law_start") (fdOf K (ga K "_law_start")) ["_law_source_here", "_law_names_here", "_law_rows"] (sp_law_start K) := by
  refine T.fn_law_start.ok sc_law_start (fun vs H Q E h => len_law_start h) (fun cdv A outer s H vs Q E hr h => ⟨t_law_start K (fun cls d _ H => E cls d H), ?_, pure_law_start h⟩)
  · have tk := L2N.takes_of (X := cxOf (L2N.CX PySem.Challenge.pw_renamedhorn_k26_chains_judged w) PySem.Challenge.pw_renamedhorn_k26_chains_judged w K mg base N_law_start "_law_start" (defScope Hd.s_law_start) (ga K "_law_start") cdv A outer s H E) (E := E) rfl rfl rfl rfl
    exact (pss_cons (ps_asg (pe_op op_addP (pe_ix ix_P (pe_lst (pa_cons pe_str (pa_cons pe_str pa_nil))) (pe_callS (ok_law_take T) (hr.mono (by decide)) rfl T.g_law_take (T.fn_law_take).kp (b_law_take T) (fun σ => L2N.passAt tk σ) (pa_cons (pv 0) (pa_cons pe_int pa_nil))) (fun _ _ => rfl)) (pe_ix ix_P (pv 1) (pe_callS (ok_law_take T) (hr.mono (by decide)) rfl T.g_law_take (T.fn_law_take).kp (b_law_take T) (fun σ => L2N.passAt tk σ) (pa_cons (pv 0) (pa_cons (pe_callB call_lenP (by rfl) T.f_len PyProof.Rows.Boot.«len» (pa_cons (pv 1) pa_nil)) pa_nil))) (fun _ _ => rfl))) (pg_name (i := 3) sc_law_start.nd rfl (Or.inl rfl)))
      (pss_cut (ps_if (pt_cmpR op_gtP (pe_callB call_lenP (by rfl) T.f_len PyProof.Rows.Boot.«len» (pa_cons (pv 2) pa_nil)) pe_int (nomark _)) (pss_cons (ps_asg (pe_ix ix_P (pv 2) (pe_callS (ok_law_take T) (hr.mono (by decide)) rfl T.g_law_take (T.fn_law_take).kp (b_law_take T) (fun σ => L2N.passAt tk σ) (pa_cons (pv 0) (pa_cons (pe_callB call_lenP (by rfl) T.f_len PyProof.Rows.Boot.«len» (pa_cons (pv 2) pa_nil)) pa_nil))) (fun _ _ => rfl)) (pg_name (i := 4) sc_law_start.nd rfl (Or.inl rfl)))
      (pss_one (ps_if (pt_cmpR op_gtP (pe_callB call_lenP (by rfl) T.f_len PyProof.Rows.Boot.«len» (pa_cons (pv 4) pa_nil)) pe_int (nomark _)) (pss_one (ps_ret (pe_ix ix_P (pv 4) (pe_callS (ok_law_take T) (hr.mono (by decide)) rfl T.g_law_take (T.fn_law_take).kp (b_law_take T) (fun σ => L2N.passAt tk σ) (pa_cons (pv 0) (pa_cons (pe_callB call_lenP (by rfl) T.f_len PyProof.Rows.Boot.«len» (pa_cons (pv 4) pa_nil)) pa_nil))) (fun _ _ => rfl)))) pss_nil))) pss_nil)
      (pss_one (ps_ret (pv 3)))))
theorem sc_law_walk : FnScope N_law_walk ["_law_source_here", "_law_numbers_here", "_law_rows", "_law_start_here"] (defScope Hd.s_law_walk) := ⟨rfl, rfl, rfl, by decide +kernel, rfl, by decide +kernel, by decide +kernel⟩
theorem b_law_walk (T : Tx w K mg) : Binds K (fdOf K (ga K "_law_walk")) ["_law_source_here", "_law_numbers_here", "_law_rows", "_law_start_here"] [] := T.fn_law_walk.bindsN fun _ _ _ _ _ _ us hl => match us, hl with | [_, _, _, _], _ => rfl
theorem ok_law_walk (T : Tx w K mg) : FnOk PySem.Challenge.pw_renamedhorn_k26_chains_judged w K mg base (L2N.CX PySem.Challenge.pw_renamedhorn_k26_chains_judged w) 4 (ga K "_law_walk") (fdOf K (ga K "_law_walk")) ["_law_source_here", "_law_numbers_here", "_law_rows", "_law_start_here"] (sp_law_walk K) := by
  refine T.fn_law_walk.ok sc_law_walk (fun vs H Q E h => len_law_walk h) (fun cdv A outer s H vs Q E hr h => ⟨t_law_walk K (fun cls d _ H => E cls d H), ?_, pure_law_walk h⟩)
  · have tk := L2N.takes_of (X := cxOf (L2N.CX PySem.Challenge.pw_renamedhorn_k26_chains_judged w) PySem.Challenge.pw_renamedhorn_k26_chains_judged w K mg base N_law_walk "_law_walk" (defScope Hd.s_law_walk) (ga K "_law_walk") cdv A outer s H E) (E := E) rfl rfl rfl rfl
    exact (pss_cons (ps_asg (pe_lst pa_nil) (pg_name (i := 4) sc_law_walk.nd rfl (Or.inl rfl)))
      (pss_cons (ps_asg (pv 3) (pg_name (i := 5) sc_law_walk.nd rfl (Or.inl rfl)))
      (pss_cut (ps_for (passes_of rfl) rfl (pi_range1 (by rfl) T.f_range (pa_cons (pe_callS (ok_law_take T) (hr.mono (by decide)) rfl T.g_law_take (T.fn_law_take).kp (b_law_take T) (fun σ => L2N.passAt tk σ) (pa_cons (pv 0) (pa_cons pe_int pa_nil))) pa_nil)) (pg_name (i := 6) sc_law_walk.nd rfl (Or.inl rfl)) (pss_cons (ps_asg (pe_callS (ok_law_needs T) (hr.mono (by decide)) rfl T.g_law_needs (T.fn_law_needs).kp (b_law_needs T) (fun σ => L2N.passAt tk σ) (pa_cons (pv 1) (pa_cons (pv 2) (pa_cons (pv 5) pa_nil)))) (pg_name (i := 7) sc_law_walk.nd rfl (Or.inl rfl)))
      (pss_one (ps_if (pt_cmpR op_gtP (pe_callB call_lenP (by rfl) T.f_len PyProof.Rows.Boot.«len» (pa_cons (pv 7) pa_nil)) pe_int (nomark _)) (pss_cons (ps_asg (pe_ix ix_P (pv 7) (pe_callS (ok_law_take T) (hr.mono (by decide)) rfl T.g_law_take (T.fn_law_take).kp (b_law_take T) (fun σ => L2N.passAt tk σ) (pa_cons (pv 0) (pa_cons (pe_callB call_lenP (by rfl) T.f_len PyProof.Rows.Boot.«len» (pa_cons (pv 7) pa_nil)) pa_nil))) (fun _ _ => rfl)) (pg_name (i := 8) sc_law_walk.nd rfl (Or.inl rfl)))
      (pss_cons (ps_expr (pe_bm PySem.F.plainAttrs_list PySem.F.slot_list_append PySem.F.type_list_append mt_append (pv 4) (pa_cons (pe_tup (pa_cons (pv 5) (pa_cons (pe_ix ix_P (pv 8) pe_int (fun _ _ => rfl)) (pa_cons (pe_ix ix_P (pv 8) pe_int (fun _ _ => rfl)) pa_nil)))) pa_nil)))
      (pss_one (ps_asg (pe_ix ix_P (pv 8) pe_int (fun _ _ => rfl)) (pg_name (i := 5) sc_law_walk.nd rfl (Or.inl rfl)))))) pss_nil))))
      (pss_one (ps_ret (pv 4))))))
theorem sc_law_mirror : FnScope N_law_mirror ["_law_links"] (defScope Hd.s_law_mirror) := ⟨rfl, rfl, rfl, by decide +kernel, rfl, by decide +kernel, by decide +kernel⟩
theorem b_law_mirror (T : Tx w K mg) : Binds K (fdOf K (ga K "_law_mirror")) ["_law_links"] [] := T.fn_law_mirror.bindsN fun _ _ _ _ _ _ us hl => match us, hl with | [_], _ => rfl
theorem ok_law_mirror (T : Tx w K mg) : FnOk PySem.Challenge.pw_renamedhorn_k26_chains_judged w K mg base (L2N.CX PySem.Challenge.pw_renamedhorn_k26_chains_judged w) 2 (ga K "_law_mirror") (fdOf K (ga K "_law_mirror")) ["_law_links"] (sp_law_mirror K) := by
  refine T.fn_law_mirror.ok sc_law_mirror (fun vs H Q E h => len_law_mirror h) (fun cdv A outer s H vs Q E hr h => ⟨t_law_mirror K (fun cls d _ H => E cls d H), ?_, pure_law_mirror h⟩)
  · have tk := L2N.takes_of (X := cxOf (L2N.CX PySem.Challenge.pw_renamedhorn_k26_chains_judged w) PySem.Challenge.pw_renamedhorn_k26_chains_judged w K mg base N_law_mirror "_law_mirror" (defScope Hd.s_law_mirror) (ga K "_law_mirror") cdv A outer s H E) (E := E) rfl rfl rfl rfl
    exact (pss_one (ps_ret (pe_lc (own := [("_law_link", 1)]) (g := (gName 1)) (tt := tYes) rfl sc_law_mirror.nd (pi_anyP (pe_revL (pv 0))) (blkOk_by (own := [("_law_link", 1)]) (N := N_law_mirror) (sc := defScope Hd.s_law_mirror) (by decide +kernel)) (fun _ _ _ _ _ => (pg_name (i := 1) sc_law_mirror.nd rfl (Or.inl rfl))) (fun _ _ _ _ _ => pts_nil) (fun _ _ _ _ _ => (pe_tup (pa_cons (pe_call (ok_law_flip T) (hr.mono (by decide)) rfl T.g_law_flip (T.fn_law_flip).kp (b_law_flip T) .nil passN (pa_cons (pe_ix ix_P (pv 1) pe_int (fun _ _ => rfl)) pa_nil)) (pa_cons (pe_ix ix_P (pv 1) pe_int (fun _ _ => rfl)) (pa_cons (pe_call (ok_law_flip T) (hr.mono (by decide)) rfl T.g_law_flip (T.fn_law_flip).kp (b_law_flip T) .nil passN (pa_cons (pe_ix ix_P (pv 1) pe_int (fun _ _ => rfl)) pa_nil)) pa_nil))))))))
theorem sc_law_put_at : FnScope N_law_put_at ["_law_links", "_law_at", "_law_link"] (defScope Hd.s_law_put_at) := ⟨rfl, rfl, rfl, by decide +kernel, rfl, by decide +kernel, by decide +kernel⟩
theorem b_law_put_at (T : Tx w K mg) : Binds K (fdOf K (ga K "_law_put_at")) ["_law_links", "_law_at", "_law_link"] [] := T.fn_law_put_at.bindsN fun _ _ _ _ _ _ us hl => match us, hl with | [_, _, _], _ => rfl
theorem ok_law_put_at (T : Tx w K mg) : FnOk PySem.Challenge.pw_renamedhorn_k26_chains_judged w K mg base (L2N.CX PySem.Challenge.pw_renamedhorn_k26_chains_judged w) 1 (ga K "_law_put_at") (fdOf K (ga K "_law_put_at")) ["_law_links", "_law_at", "_law_link"] (sp_law_put_at K) := by
  refine T.fn_law_put_at.ok sc_law_put_at (fun vs H Q E h => len_law_put_at h) (fun cdv A outer s H vs Q E hr h => ⟨t_law_put_at K (fun cls d _ H => E cls d H), ?_, pure_law_put_at h⟩)
  · have tk := L2N.takes_of (X := cxOf (L2N.CX PySem.Challenge.pw_renamedhorn_k26_chains_judged w) PySem.Challenge.pw_renamedhorn_k26_chains_judged w K mg base N_law_put_at "_law_put_at" (defScope Hd.s_law_put_at) (ga K "_law_put_at") cdv A outer s H E) (E := E) rfl rfl rfl rfl
    exact (pss_one (ps_ret (pe_op op_addP (pe_op op_addP (pe_slice sl_P (pv 0) po_none (po_some (pv 1))) (pe_lst (pa_cons (pv 2) pa_nil))) (pe_slice sl_P (pv 0) (po_some (pe_op op_addP (pv 1) pe_int)) po_none))))
theorem sc_law_spoilt : FnScope N_law_spoilt ["_law_source_here", "_law_names_here", "_law_numbers_here", "_law_links", "_law_style"] (defScope Hd.s_law_spoilt) := ⟨rfl, rfl, rfl, by decide +kernel, rfl, by decide +kernel, by decide +kernel⟩
theorem b_law_spoilt (T : Tx w K mg) : Binds K (fdOf K (ga K "_law_spoilt")) ["_law_source_here", "_law_names_here", "_law_numbers_here", "_law_links", "_law_style"] [] := T.fn_law_spoilt.bindsN fun _ _ _ _ _ _ us hl => match us, hl with | [_, _, _, _, _], _ => rfl
theorem ok_law_spoilt (T : Tx w K mg) : FnOk PySem.Challenge.pw_renamedhorn_k26_chains_judged w K mg base (L2N.CX PySem.Challenge.pw_renamedhorn_k26_chains_judged w) 3 (ga K "_law_spoilt") (fdOf K (ga K "_law_spoilt")) ["_law_source_here", "_law_names_here", "_law_numbers_here", "_law_links", "_law_style"] (sp_law_spoilt K) := by
  refine T.fn_law_spoilt.ok sc_law_spoilt (fun vs H Q E h => len_law_spoilt h) (fun cdv A outer s H vs Q E hr h => ⟨t_law_spoilt K (fun cls d _ H => E cls d H), ?_, pure_law_spoilt h⟩)
  · have tk := L2N.takes_of (X := cxOf (L2N.CX PySem.Challenge.pw_renamedhorn_k26_chains_judged w) PySem.Challenge.pw_renamedhorn_k26_chains_judged w K mg base N_law_spoilt "_law_spoilt" (defScope Hd.s_law_spoilt) (ga K "_law_spoilt") cdv A outer s H E) (E := E) rfl rfl rfl rfl
    exact (pss_cons (ps_asg (pe_callS (ok_law_take T) (hr.mono (by decide)) rfl T.g_law_take (T.fn_law_take).kp (b_law_take T) (fun σ => L2N.passAt tk σ) (pa_cons (pv 0) (pa_cons (pe_callB call_lenP (by rfl) T.f_len PyProof.Rows.Boot.«len» (pa_cons (pv 3) pa_nil)) pa_nil))) (pg_name (i := 5) sc_law_spoilt.nd rfl (Or.inl rfl)))
      (pss_cons (ps_asg (pe_ix ix_P (pv 3) (pv 5) (fun _ _ => rfl)) (pg_name (i := 6) sc_law_spoilt.nd rfl (Or.inl rfl)))
      (pss_cut (ps_if (pt_cmpR (op_eqP hr.units) (pv 4) pe_int (nomark _)) (pss_one (ps_ret (pe_op op_addP (pe_slice sl_P (pv 3) po_none (po_some (pv 5))) (pe_slice sl_P (pv 3) (po_some (pe_op op_addP (pv 5) pe_int)) po_none)))) pss_nil)
      (pss_cut (ps_if (pt_cmpR (op_eqP hr.units) (pv 4) pe_int (nomark _)) (pss_one (ps_ret (pe_op op_addP (pe_slice sl_P (pv 3) po_none (po_some (pe_op op_addP (pv 5) pe_int))) (pe_slice sl_P (pv 3) (po_some (pv 5)) po_none)))) pss_nil)
      (pss_cut (ps_if (pt_cmpR (op_eqP hr.units) (pv 4) pe_int (nomark _)) (pss_cons (ps_asg (pe_ix ix_P (pv 2) (pe_callS (ok_law_take T) (hr.mono (by decide)) rfl T.g_law_take (T.fn_law_take).kp (b_law_take T) (fun σ => L2N.passAt tk σ) (pa_cons (pv 0) (pa_cons (pe_callB call_lenP (by rfl) T.f_len PyProof.Rows.Boot.«len» (pa_cons (pv 2) pa_nil)) pa_nil))) (fun _ _ => rfl)) (pg_name (i := 7) sc_law_spoilt.nd rfl (Or.inl rfl)))
      (pss_one (ps_ret (pe_callS (ok_law_put_at T) (hr.mono (by decide)) rfl T.g_law_put_at (T.fn_law_put_at).kp (b_law_put_at T) (fun σ => L2N.passAt tk σ) (pa_cons (pv 3) (pa_cons (pv 5) (pa_cons (pe_tup (pa_cons (pe_ix ix_P (pv 6) pe_int (fun _ _ => rfl)) (pa_cons (pv 7) (pa_cons (pe_ix ix_P (pv 6) pe_int (fun _ _ => rfl)) pa_nil)))) pa_nil))))))) pss_nil)
      (pss_cut (ps_if (pt_cmpR (op_eqP hr.units) (pv 4) pe_int (nomark _)) (pss_cons (ps_asg (pe_lst (pa_cons pe_int (pa_cons (pe_un un_neg (pe_ix ix_P (pv 6) pe_int (fun _ _ => rfl))) (pa_cons pe_int (pa_cons (pe_op op_addP (pe_ix ix_P (pv 2) (pe_un un_neg pe_int) (fun _ _ => rfl)) pe_int) (pa_cons (pe_op op_addP (pe_op op_powP pe_int pe_int) (pe_ix ix_P (pv 6) pe_int (fun _ _ => rfl))) pa_nil)))))) (pg_name (i := 8) sc_law_spoilt.nd rfl (Or.inl rfl)))
      (pss_one (ps_ret (pe_callS (ok_law_put_at T) (hr.mono (by decide)) rfl T.g_law_put_at (T.fn_law_put_at).kp (b_law_put_at T) (fun σ => L2N.passAt tk σ) (pa_cons (pv 3) (pa_cons (pv 5) (pa_cons (pe_tup (pa_cons (pe_ix ix_P (pv 6) pe_int (fun _ _ => rfl)) (pa_cons (pe_ix ix_P (pv 8) (pe_callS (ok_law_take T) (hr.mono (by decide)) rfl T.g_law_take (T.fn_law_take).kp (b_law_take T) (fun σ => L2N.passAt tk σ) (pa_cons (pv 0) (pa_cons pe_int pa_nil))) (fun _ _ => rfl)) (pa_cons (pe_ix ix_P (pv 6) pe_int (fun _ _ => rfl)) pa_nil)))) pa_nil))))))) pss_nil)
      (pss_cut (ps_if (pt_cmpR (op_eqP hr.units) (pv 4) pe_int (nomark _)) (pss_one (ps_ret (pe_callS (ok_law_put_at T) (hr.mono (by decide)) rfl T.g_law_put_at (T.fn_law_put_at).kp (b_law_put_at T) (fun σ => L2N.passAt tk σ) (pa_cons (pv 3) (pa_cons (pv 5) (pa_cons (pe_tup (pa_cons (pe_ix ix_P (pv 6) pe_int (fun _ _ => rfl)) (pa_cons (pe_ix ix_P (pv 6) pe_int (fun _ _ => rfl)) (pa_cons (pe_callS (ok_law_flip T) (hr.mono (by decide)) rfl T.g_law_flip (T.fn_law_flip).kp (b_law_flip T) (fun σ => L2N.passAt tk σ) (pa_cons (pe_ix ix_P (pv 6) pe_int (fun _ _ => rfl)) pa_nil)) pa_nil)))) pa_nil)))))) pss_nil)
      (pss_cut (ps_if (pt_cmpR (op_eqP hr.units) (pv 4) pe_int (nomark _)) (pss_one (ps_ret (pe_callS (ok_law_put_at T) (hr.mono (by decide)) rfl T.g_law_put_at (T.fn_law_put_at).kp (b_law_put_at T) (fun σ => L2N.passAt tk σ) (pa_cons (pv 3) (pa_cons (pv 5) (pa_cons (pe_tup (pa_cons (pe_callS (ok_law_flip T) (hr.mono (by decide)) rfl T.g_law_flip (T.fn_law_flip).kp (b_law_flip T) (fun σ => L2N.passAt tk σ) (pa_cons (pe_ix ix_P (pv 6) pe_int (fun _ _ => rfl)) pa_nil)) (pa_cons (pe_ix ix_P (pv 6) pe_int (fun _ _ => rfl)) (pa_cons (pe_ix ix_P (pv 6) pe_int (fun _ _ => rfl)) pa_nil)))) pa_nil)))))) pss_nil)
      (pss_cut (ps_if (pt_cmpR (op_eqP hr.units) (pv 4) pe_int (nomark _)) (pss_one (ps_ret (pe_callS (ok_law_put_at T) (hr.mono (by decide)) rfl T.g_law_put_at (T.fn_law_put_at).kp (b_law_put_at T) (fun σ => L2N.passAt tk σ) (pa_cons (pv 3) (pa_cons (pv 5) (pa_cons (pe_tup (pa_cons (pe_ix ix_P (pv 6) pe_int (fun _ _ => rfl)) (pa_cons (pe_ix ix_P (pv 6) pe_int (fun _ _ => rfl)) (pa_cons (pe_callS (ok_law_bad T) (hr.mono (by decide)) rfl T.g_law_bad (T.fn_law_bad).kp (b_law_bad T) (fun σ => L2N.passAt tk σ) (pa_cons (pv 0) (pa_cons (pe_ix ix_P (pv 1) pe_int (fun _ _ => rfl)) pa_nil))) pa_nil)))) pa_nil)))))) pss_nil)
      (pss_cut (ps_if (pt_cmpR (op_eqP hr.units) (pv 4) pe_int (nomark _)) (pss_one (ps_ret (pe_callS (ok_law_put_at T) (hr.mono (by decide)) rfl T.g_law_put_at (T.fn_law_put_at).kp (b_law_put_at T) (fun σ => L2N.passAt tk σ) (pa_cons (pv 3) (pa_cons (pv 5) (pa_cons (pe_tup (pa_cons (pe_callS (ok_law_bad T) (hr.mono (by decide)) rfl T.g_law_bad (T.fn_law_bad).kp (b_law_bad T) (fun σ => L2N.passAt tk σ) (pa_cons (pv 0) (pa_cons (pe_ix ix_P (pv 1) pe_int (fun _ _ => rfl)) pa_nil))) (pa_cons (pe_ix ix_P (pv 6) pe_int (fun _ _ => rfl)) (pa_cons (pe_ix ix_P (pv 6) pe_int (fun _ _ => rfl)) pa_nil)))) pa_nil)))))) pss_nil)
      (pss_cut (ps_if (pt_cmpR (op_eqP hr.units) (pv 4) pe_int (nomark _)) (pss_one (ps_ret (pe_op op_addP (pe_slice sl_P (pv 3) (po_some (pv 5)) po_none) (pe_slice sl_P (pv 3) po_none (po_some (pv 5)))))) pss_nil)
      (pss_one (ps_ret (pe_revL (pv 3)))))))))))))))
theorem sc_law_judged : FnScope N_law_judged ["_law_book_here", "_law_numbers_here", "_law_rows", "_law_start_here", "_law_goal", "_law_links"] (defScope Hd.s_law_judged) := ⟨rfl, rfl, rfl, by decide +kernel, rfl, by decide +kernel, by decide +kernel⟩
theorem b_law_judged (T : Tx w K mg) : Binds K (fdOf K (ga K "_law_judged")) ["_law_book_here", "_law_numbers_here", "_law_rows", "_law_start_here", "_law_goal", "_law_links"] [] := T.fn_law_judged.bindsN fun _ _ _ _ _ _ us hl => match us, hl with | [_, _, _, _, _, _], _ => rfl
theorem ok_law_judged (T : Tx w K mg) : FnOk PySem.Challenge.pw_renamedhorn_k26_chains_judged w K mg base (L2N.CX PySem.Challenge.pw_renamedhorn_k26_chains_judged w) 6 (ga K "_law_judged") (fdOf K (ga K "_law_judged")) ["_law_book_here", "_law_numbers_here", "_law_rows", "_law_start_here", "_law_goal", "_law_links"] (sp_law_judged K) := by
  refine T.fn_law_judged.ok sc_law_judged (fun vs H Q E h => len_law_judged h) (fun cdv A outer s H vs Q E hr h => ⟨t_law_judged K (fun cls d _ H => E cls d H), ?_, pure_law_judged h⟩)
  · have tk := L2N.takes_of (X := cxOf (L2N.CX PySem.Challenge.pw_renamedhorn_k26_chains_judged w) PySem.Challenge.pw_renamedhorn_k26_chains_judged w K mg base N_law_judged "_law_judged" (defScope Hd.s_law_judged) (ga K "_law_judged") cdv A outer s H E) (E := E) rfl rfl rfl rfl
    exact (pss_cons (ps_asg (pe_callS (ok_law_is_chain T) (hr.mono (by decide)) rfl T.g_law_is_chain (T.fn_law_is_chain).kp (b_law_is_chain T) (fun σ => L2N.passAt tk σ) (pa_cons (pv 1) (pa_cons (pv 2) (pa_cons (pv 3) (pa_cons (pv 4) (pa_cons (pv 5) pa_nil)))))) (pg_name (i := 6) sc_law_judged.nd rfl (Or.inl rfl)))
      (pss_cut (ps_if (pt_not (pt_val (pe_callS (ok_law_same T) (hr.mono (by decide)) rfl T.g_law_same (T.fn_law_same).kp (b_law_same T) (fun σ => L2N.passAt tk σ) (pa_cons (pe_callS (ok_is_chain T) (hr.mono (by decide)) rfl T.g_is_chain (T.fn_is_chain).kp (b_is_chain T) (fun σ => L2N.passAt tk σ) (pa_cons (pv 0) (pa_cons (pv 3) (pa_cons (pv 4) (pa_cons (pe_callTy call_listP (by rfl) T.f_list PyProof.Rows.Boot.«list» (pa_cons (pv 5) pa_nil)) pa_nil))))) (pa_cons (pv 6) pa_nil))))) (pss_one (ps_ret pe_bl)) pss_nil)
      (pss_one (ps_ret (pe_callS (ok_law_same T) (hr.mono (by decide)) rfl T.g_law_same (T.fn_law_same).kp (b_law_same T) (fun σ => L2N.passAt tk σ) (pa_cons (pe_callS (ok_is_chain T) (hr.mono (by decide)) rfl T.g_is_chain (T.fn_is_chain).kp (b_is_chain T) (fun σ => L2N.passAt tk σ) (pa_cons (pv 0) (pa_cons (pv 3) (pa_cons (pv 4) (pa_cons (pe_callTy call_tupleP (by rfl) T.f_tuple PyProof.Rows.Boot.«tuple» (pa_cons (pv 5) pa_nil)) pa_nil))))) (pa_cons (pv 6) pa_nil)))))))
theorem sc_law_both : FnScope N_law_both ["_law_book_here", "_law_numbers_here", "_law_rows", "_law_start_here", "_law_goal", "_law_links"] (defScope Hd.s_law_both) := ⟨rfl, rfl, rfl, by decide +kernel, rfl, by decide +kernel, by decide +kernel⟩
theorem b_law_both (T : Tx w K mg) : Binds K (fdOf K (ga K "_law_both")) ["_law_book_here", "_law_numbers_here", "_law_rows", "_law_start_here", "_law_goal", "_law_links"] [] := T.fn_law_both.bindsN fun _ _ _ _ _ _ us hl => match us, hl with | [_, _, _, _, _, _], _ => rfl
theorem ok_law_both (T : Tx w K mg) : FnOk PySem.Challenge.pw_renamedhorn_k26_chains_judged w K mg base (L2N.CX PySem.Challenge.pw_renamedhorn_k26_chains_judged w) 7 (ga K "_law_both") (fdOf K (ga K "_law_both")) ["_law_book_here", "_law_numbers_here", "_law_rows", "_law_start_here", "_law_goal", "_law_links"] (sp_law_both K) := by
  refine T.fn_law_both.ok sc_law_both (fun vs H Q E h => len_law_both h) (fun cdv A outer s H vs Q E hr h => ⟨t_law_both K (fun cls d _ H => E cls d H), ?_, pure_law_both h⟩)
  · have tk := L2N.takes_of (X := cxOf (L2N.CX PySem.Challenge.pw_renamedhorn_k26_chains_judged w) PySem.Challenge.pw_renamedhorn_k26_chains_judged w K mg base N_law_both "_law_both" (defScope Hd.s_law_both) (ga K "_law_both") cdv A outer s H E) (E := E) rfl rfl rfl rfl
    exact (pss_cut (ps_if (pt_not (pt_val (pe_callS (ok_law_judged T) (hr.mono (by decide)) rfl T.g_law_judged (T.fn_law_judged).kp (b_law_judged T) (fun σ => L2N.passAt tk σ) (pa_cons (pv 0) (pa_cons (pv 1) (pa_cons (pv 2) (pa_cons (pv 3) (pa_cons (pv 4) (pa_cons (pv 5) pa_nil))))))))) (pss_one (ps_ret pe_bl)) pss_nil)
      (pss_one (ps_ret (pe_callS (ok_law_judged T) (hr.mono (by decide)) rfl T.g_law_judged (T.fn_law_judged).kp (b_law_judged T) (fun σ => L2N.passAt tk σ) (pa_cons (pv 0) (pa_cons (pv 1) (pa_cons (pv 2) (pa_cons (pe_callS (ok_law_flip T) (hr.mono (by decide)) rfl T.g_law_flip (T.fn_law_flip).kp (b_law_flip T) (fun σ => L2N.passAt tk σ) (pa_cons (pv 4) pa_nil)) (pa_cons (pe_callS (ok_law_flip T) (hr.mono (by decide)) rfl T.g_law_flip (T.fn_law_flip).kp (b_law_flip T) (fun σ => L2N.passAt tk σ) (pa_cons (pv 3) pa_nil)) (pa_cons (pe_callS (ok_law_mirror T) (hr.mono (by decide)) rfl T.g_law_mirror (T.fn_law_mirror).kp (b_law_mirror T) (fun σ => L2N.passAt tk σ) (pa_cons (pv 5) pa_nil)) pa_nil))))))))))
theorem sc_law_single_links : FnScope N_law_single_links ["_law_book_here", "_law_numbers_here", "_law_rows", "_law_at"] (defScope Hd.s_law_single_links) := ⟨rfl, rfl, rfl, by decide +kernel, rfl, by decide +kernel, by decide +kernel⟩
theorem b_law_single_links (T : Tx w K mg) : Binds K (fdOf K (ga K "_law_single_links")) ["_law_book_here", "_law_numbers_here", "_law_rows", "_law_at"] [] := T.fn_law_single_links.bindsN fun _ _ _ _ _ _ us hl => match us, hl with | [_, _, _, _], _ => rfl
theorem ok_law_single_links (T : Tx w K mg) : FnOk PySem.Challenge.pw_renamedhorn_k26_chains_judged w K mg base (L2N.CX PySem.Challenge.pw_renamedhorn_k26_chains_judged w) 7 (ga K "_law_single_links") (fdOf K (ga K "_law_single_links")) ["_law_book_here", "_law_numbers_here", "_law_rows", "_law_at"] (sp_law_single_links K) := by
  refine T.fn_law_single_links.ok sc_law_single_links (fun vs H Q E h => len_law_single_links h) (fun cdv A outer s H vs Q E hr h => ⟨t_law_single_links K (fun cls d _ H => E cls d H), ?_, pure_law_single_links h⟩)
  · have tk := L2N.takes_of (X := cxOf (L2N.CX PySem.Challenge.pw_renamedhorn_k26_chains_judged w) PySem.Challenge.pw_renamedhorn_k26_chains_judged w K mg base N_law_single_links "_law_single_links" (defScope Hd.s_law_single_links) (ga K "_law_single_links") cdv A outer s H E) (E := E) rfl rfl rfl rfl
    exact (pss_cons (ps_asg (pe_lst pa_nil) (pg_name (i := 4) sc_law_single_links.nd rfl (Or.inl rfl)))
      (pss_cut (ps_for (passes_of rfl) rfl (pi_anyP (pe_ix ix_P (pv 2) (pv 3) (fun _ _ => rfl))) (pg_name (i := 5) sc_law_single_links.nd rfl (Or.inl rfl)) (pss_one (ps_asg (pe_op op_addP (pv 4) (pe_lst (pa_cons (pv 5) (pa_cons (pe_callS (ok_law_flip T) (hr.mono (by decide)) rfl T.g_law_flip (T.fn_law_flip).kp (b_law_flip T) (fun σ => L2N.passAt tk σ) (pa_cons (pv 5) pa_nil)) pa_nil)))) (pg_name (i := 4) sc_law_single_links.nd rfl (Or.inl rfl)))))
      (pss_cut (ps_for (passes_of rfl) rfl (pi_anyP (pv 4)) (pg_name (i := 6) sc_law_single_links.nd rfl (Or.inl rfl)) (pss_one (ps_for (passes_of rfl) rfl (pi_anyP (pv 4)) (pg_name (i := 7) sc_law_single_links.nd rfl (Or.inl rfl)) (pss_one (ps_if (pt_not (pt_val (pe_callS (ok_law_judged T) (hr.mono (by decide)) rfl T.g_law_judged (T.fn_law_judged).kp (b_law_judged T) (fun σ => L2N.passAt tk σ) (pa_cons (pv 0) (pa_cons (pv 1) (pa_cons (pv 2) (pa_cons (pv 6) (pa_cons (pv 7) (pa_cons (pe_lst (pa_cons (pe_tup (pa_cons (pv 6) (pa_cons (pe_ix ix_P (pv 1) (pv 3) (fun _ _ => rfl)) (pa_cons (pv 7) pa_nil)))) pa_nil)) pa_nil))))))))) (pss_one (ps_ret pe_bl)) pss_nil)))))
      (pss_one (ps_ret pe_bl)))))
theorem sc_law_refused : FnScope N_law_refused ["_law_book_here", "_law_start_here", "_law_goal", "_law_links", "_law_text"] (defScope Hd.s_law_refused) := ⟨rfl, rfl, rfl, by decide +kernel, rfl, by decide +kernel, by decide +kernel⟩
theorem b_law_refused (T : Tx w K mg) : Binds K (fdOf K (ga K "_law_refused")) ["_law_book_here", "_law_start_here", "_law_goal", "_law_links", "_law_text"] [] := T.fn_law_refused.bindsN fun _ _ _ _ _ _ us hl => match us, hl with | [_, _, _, _, _], _ => rfl
theorem ok_law_refused (T : Tx w K mg) : FnOk PySem.Challenge.pw_renamedhorn_k26_chains_judged w K mg base (L2N.CX PySem.Challenge.pw_renamedhorn_k26_chains_judged w) 6 (ga K "_law_refused") (fdOf K (ga K "_law_refused")) ["_law_book_here", "_law_start_here", "_law_goal", "_law_links", "_law_text"] (sp_law_refused K) := by
  refine T.fn_law_refused.ok sc_law_refused (fun vs H Q E h => len_law_refused h) (fun cdv A outer s H vs Q E hr h => ⟨t_law_refused K (fun cls d _ H => E cls d H), ?_, pure_law_refused ⟨T.exm_BadLiteral_BadLiteral, T.excC_BadLiteral, T.kit_BadLiteral_HornError, T.kit_BadLiteral_BadName⟩ h⟩)
  · have tk := L2N.takes_of (X := cxOf (L2N.CX PySem.Challenge.pw_renamedhorn_k26_chains_judged w) PySem.Challenge.pw_renamedhorn_k26_chains_judged w K mg base N_law_refused "_law_refused" (defScope Hd.s_law_refused) (ga K "_law_refused") cdv A outer s H E) (E := E) rfl rfl rfl rfl
    exact (pss_cut (L2N.ps_try_as (i := 5) (tb := fun W1 => (tDrop (tCallS (sp_is_chain K) (WE W1) (tCons (tVar 0) (tCons (tVar 1) (tCons (tVar 2) (tCons (tCB (rListP K) (tCons (tVar 3) tNil)) tNil))))))) (ts := fun a_ cls_ d_ => (tRet (tAndV (tCB (rIsEE K a_ cls_ d_) (tCons (tVar 5) (tCons (tC (.ref (ga K "HornError"))) tNil))) (tAndV (tNotV (tCB (rIsEE K a_ cls_ d_) (tCons (tVar 5) (tCons (tC (.ref (ga K "BadName"))) tNil)))) (tCallS (spH_law_same K) (WE (fun _ _ _ _ => False)) (tCons (tErrF (ga K "BadLiteral") "text" a_ cls_ d_ (tVar 5)) (tCons (tVar 4) tNil))))))) rfl rfl sc_law_refused.nd rfl rfl ⟨rfl, by decide, Or.inl T.g_BadLiteral⟩ tk
      (fun W1 pn xe tk1 po_ => (pss_one (ps_expr (pe_callS (ok_is_chain T) (hr.mono (by decide)) rfl T.g_is_chain (T.fn_is_chain).kp (b_is_chain T) (fun σ => L2N.passAt tk1 σ) (pa_cons (pv 0) (pa_cons (pv 1) (pa_cons (pv 2) (pa_cons (pe_callTy call_listP (by rfl) T.f_list PyProof.Rows.Boot.«list» (pa_cons (pv 3) pa_nil)) pa_nil))))))))
      (fun a oe cls d pn hz hf => (pss_one (ps_ret (pe_and (pe_callB (call_isEE hz.zc hf) (by rfl) T.f_isinstance PyProof.Rows.Boot.«isinstance» (pa_cons (pv 5) (pa_cons (pe_glob (v := .ref (ga K "HornError")) rfl (T.g_HornError) rfl) pa_nil))) (pe_and (pe_not (pe_callB (call_isEE hz.zc hf) (by rfl) T.f_isinstance PyProof.Rows.Boot.«isinstance» (pa_cons (pv 5) (pa_cons (pe_glob (v := .ref (ga K "BadName")) rfl (T.g_BadName) rfl) pa_nil)))) (pe_one (L2H.pe_callH (okH_law_same T) ((L2H.roomH_mark hr _).mono (by decide)) (hotc hz hf) rfl T.g_law_same (T.fn_law_same).kp (b_law_same T) (fun σ => L2N.passAt takesN σ) (pa_cons (pe_errF T.err_BadLiteral hz.zc hf (pv 5)) (pa_cons (pv 4) pa_nil))))))))))
      (pss_one (ps_ret pe_bl)))
theorem sc_law_refusals : FnScope N_law_refusals ["_law_source_here", "_law_book_here", "_law_names_here", "_law_start_here", "_law_goal", "_law_links"] (defScope Hd.s_law_refusals) := ⟨rfl, rfl, rfl, by decide +kernel, rfl, by decide +kernel, by decide +kernel⟩
theorem b_law_refusals (T : Tx w K mg) : Binds K (fdOf K (ga K "_law_refusals")) ["_law_source_here", "_law_book_here", "_law_names_here", "_law_start_here", "_law_goal", "_law_links"] [] := T.fn_law_refusals.bindsN fun _ _ _ _ _ _ us hl => match us, hl with | [_, _, _, _, _, _], _ => rfl
theorem ok_law_refusals (T : Tx w K mg) : FnOk PySem.Challenge.pw_renamedhorn_k26_chains_judged w K mg base (L2N.CX PySem.Challenge.pw_renamedhorn_k26_chains_judged w) 7 (ga K "_law_refusals") (fdOf K (ga K "_law_refusals")) ["_law_source_here", "_law_book_here", "_law_names_here", "_law_start_here", "_law_goal", "_law_links"] (sp_law_refusals K) := by
  refine T.fn_law_refusals.ok sc_law_refusals (fun vs H Q E h => len_law_refusals h) (fun cdv A outer s H vs Q E hr h => ⟨t_law_refusals K (fun cls d _ H => E cls d H), ?_, pure_law_refusals h⟩)
  · have tk := L2N.takes_of (X := cxOf (L2N.CX PySem.Challenge.pw_renamedhorn_k26_chains_judged w) PySem.Challenge.pw_renamedhorn_k26_chains_judged w K mg base N_law_refusals "_law_refusals" (defScope Hd.s_law_refusals) (ga K "_law_refusals") cdv A outer s H E) (E := E) rfl rfl rfl rfl
    exact (pss_cons (ps_asg (pe_callS (ok_law_bad T) (hr.mono (by decide)) rfl T.g_law_bad (T.fn_law_bad).kp (b_law_bad T) (fun σ => L2N.passAt tk σ) (pa_cons (pv 0) (pa_cons (pe_ix ix_P (pv 2) pe_int (fun _ _ => rfl)) pa_nil))) (pg_name (i := 6) sc_law_refusals.nd rfl (Or.inl rfl)))
      (pss_cons (ps_asg (pe_callS (ok_law_bad T) (hr.mono (by decide)) rfl T.g_law_bad (T.fn_law_bad).kp (b_law_bad T) (fun σ => L2N.passAt tk σ) (pa_cons (pv 0) (pa_cons (pe_ix ix_P (pv 2) (pe_un un_neg pe_int) (fun _ _ => rfl)) pa_nil))) (pg_name (i := 7) sc_law_refusals.nd rfl (Or.inl rfl)))
      (pss_cut (ps_for (passes_of rfl) rfl (pi_anyP (pe_lst (pa_cons (pe_lst pa_nil) (pa_cons (pv 5) (pa_cons (pe_slice sl_P (pv 5) (po_some pe_int) po_none) pa_nil))))) (pg_name (i := 8) sc_law_refusals.nd rfl (Or.inl rfl)) (pss_cut (ps_if (PW.pt (pw_or (pt_not (pt_val (pe_callS (ok_law_refused T) (hr.mono (by decide)) rfl T.g_law_refused (T.fn_law_refused).kp (b_law_refused T) (fun σ => L2N.passAt tk σ) (pa_cons (pv 1) (pa_cons (pv 6) (pa_cons (pv 7) (pa_cons (pv 8) (pa_cons (pv 6) pa_nil)))))))) (pw_or1 (pt_not (pt_val (pe_callS (ok_law_refused T) (hr.mono (by decide)) rfl T.g_law_refused (T.fn_law_refused).kp (b_law_refused T) (fun σ => L2N.passAt tk σ) (pa_cons (pv 1) (pa_cons (pv 6) (pa_cons (pv 4) (pa_cons (pv 8) (pa_cons (pv 6) pa_nil))))))))))) (pss_one (ps_ret pe_bl)) pss_nil)
      (pss_one (ps_if (pt_not (pt_val (pe_callS (ok_law_refused T) (hr.mono (by decide)) rfl T.g_law_refused (T.fn_law_refused).kp (b_law_refused T) (fun σ => L2N.passAt tk σ) (pa_cons (pv 1) (pa_cons (pv 3) (pa_cons (pv 7) (pa_cons (pv 8) (pa_cons (pv 7) pa_nil)))))))) (pss_one (ps_ret pe_bl)) pss_nil))))
      (pss_one (ps_ret pe_bl)))))
theorem sc_Book_drop : FnScope N_Book_drop ["self", "number"] (defScope Hd.s_Book_drop) := ⟨rfl, rfl, rfl, by decide +kernel, rfl, by decide +kernel, by decide +kernel⟩
theorem b_Book_drop (T : Tx w K mg) : Binds K (fdOf K (ma K (ga K "Book") "drop")) ["self", "number"] [] := T.fn_Book_drop.bindsN fun _ _ _ _ _ _ us hl => match us, hl with | [_, _], _ => rfl
theorem ok_Book_drop (T : Tx w K mg) : FnOk PySem.Challenge.pw_renamedhorn_k26_chains_judged w K mg base (L2N.CX PySem.Challenge.pw_renamedhorn_k26_chains_judged w) 3 (ma K (ga K "Book") "drop") (fdOf K (ma K (ga K "Book") "drop")) ["self", "number"] (sp_Book_drop K) := by
  refine T.fn_Book_drop.ok sc_Book_drop (fun vs H Q E h => Sp2.len h) (fun cdv A outer s H vs Q E hr h => ⟨t_Book_drop K (fun cls d _ H => E cls d H), ?_, pure_Book_drop h⟩)
  · have tk := L2N.takes_of (X := cxOf (L2N.CX PySem.Challenge.pw_renamedhorn_k26_chains_judged w) PySem.Challenge.pw_renamedhorn_k26_chains_judged w K mg base N_Book_drop "Book.drop" (defScope Hd.s_Book_drop) (ma K (ga K "Book") "drop") cdv A outer s H E) (E := E) rfl rfl rfl rfl
    exact (pss_cut (ps_if (pt_cmpR (op_ninP hr.units) (pv 1) (Cl.pe_att (.cons (Cl.alt_fld T.cls_Book T.no_Book_rows) .nil) (pv 0)) (by rfl)) (pss_one (ps_raiseE rfl T.err_NoClause hr tk (pa_cons (pv 1) pa_nil))) pss_nil)
      (pss_cons (ps_asg (pe_dget (Nat.lt_of_le_of_lt (Nat.add_le_add_left (by decide : 1 ≤ 64) _) hr.units) (Cl.pe_att (.cons (Cl.alt_fld T.cls_Book T.no_Book_rows) .nil) (pv 0)) (pv 1) (fun _ _ => rfl)) (pg_name (i := 2) sc_Book_drop.nd rfl (Or.inl rfl)))
      (pss_cons (ps_ddel (Cl.pe_att (.cons (Cl.alt_fld T.cls_Book T.no_Book_rows) .nil) (pv 0)) (pv 1))
      (pss_one (ps_ret (pv 2))))))
theorem sc_law : FnScope N_law ["_law_script"] (defScope Hd.s_law) := ⟨rfl, rfl, rfl, by decide +kernel, rfl, by decide +kernel, by decide +kernel⟩
theorem ok_law (T : Tx w K mg) : FnOk PySem.Challenge.pw_renamedhorn_k26_chains_judged w K mg base (L2N.CX PySem.Challenge.pw_renamedhorn_k26_chains_judged w) 20 (ga K "law") (fdOf K (ga K "law")) ["_law_script"] (sp_law K) := by
  refine T.fn_law.ok sc_law (fun vs H Q E h => Sp1.len h) (fun cdv A outer s H vs Q E hr h => ⟨t_law K (fun cls d _ H => E cls d H), ?_, pure_law h⟩)
  · have tk := L2N.takes_of (X := cxOf (L2N.CX PySem.Challenge.pw_renamedhorn_k26_chains_judged w) PySem.Challenge.pw_renamedhorn_k26_chains_judged w K mg base N_law "law" (defScope Hd.s_law) (ga K "law") cdv A outer s H E) (E := E) rfl rfl rfl rfl
    exact (pss_cons (ps_asg (pe_callS (ok_law_source T) (hr.mono (by decide)) rfl T.g_law_source (T.fn_law_source).kp (b_law_source T) (fun σ => L2N.passAt tk σ) (pa_cons (pv 0) pa_nil)) (pg_name (i := 1) sc_law.nd rfl (Or.inr rfl)))
      (pss_cons (ps_asg (pe_callS (ok_law_names T) (hr.mono (by decide)) rfl T.g_law_names (T.fn_law_names).kp (b_law_names T) (fun σ => L2N.passAt tk σ) (pa_cons (pv 1) (pa_cons (pe_op op_addP pe_int (pe_callS (ok_law_take T) (hr.mono (by decide)) rfl T.g_law_take (T.fn_law_take).kp (b_law_take T) (fun σ => L2N.passAt tk σ) (pa_cons (pv 1) (pa_cons pe_int pa_nil)))) pa_nil))) (pg_name (i := 2) sc_law.nd rfl (Or.inr rfl)))
      (pss_cut (ps_if (pt_cmpR (op_eqP hr.units) (pe_callS (ok_law_take T) (hr.mono (by decide)) rfl T.g_law_take (T.fn_law_take).kp (b_law_take T) (fun σ => L2N.passAt tk σ) (pa_cons (pv 1) (pa_cons pe_int pa_nil))) pe_int (nomark _)) (pss_one (ps_setLc (i := 10) (own := [("_law_k", 14)]) (g := (gName 14)) (tt := tYes) rfl sc_law.nd rfl rfl (sw_true rfl rfl rfl (by decide +kernel)) (pi_range1 (by rfl) T.f_range (pa_cons (pe_callS (ok_law_take T) (hr.mono (by decide)) rfl T.g_law_take (T.fn_law_take).kp (b_law_take T) (fun σ => L2N.passAt tk σ) (pa_cons (pv 1) (pa_cons pe_int pa_nil))) pa_nil)) (blkOk_by (own := [("_law_k", 14)]) (N := N_law) (sc := defScope Hd.s_law) (by decide +kernel)) (fun _ _ _ _ _ => (pg_name (i := 14) sc_law.nd rfl (Or.inl rfl))) (fun _ _ _ _ _ => pts_nil) (fun _ _ _ _ _ => (pe_call (ok_law_row T) (hr.mono (by decide)) rfl T.g_law_row (T.fn_law_row).kp (b_law_row T) .nil passN (pa_cons (pv 1) (pa_cons (pv 2) (pa_cons pe_int pa_nil))))))) (pss_one (ps_asg (pe_callS (ok_law_line T) (hr.mono (by decide)) rfl T.g_law_line (T.fn_law_line).kp (b_law_line T) (fun σ => L2N.passAt tk σ) (pa_cons (pv 1) (pa_cons (pv 2) pa_nil))) (pg_name (i := 10) sc_law.nd rfl (Or.inl rfl)))))
      (pss_cons (ps_asg (pe_callS (ok_law_numbers T) (hr.mono (by decide)) rfl T.g_law_numbers (T.fn_law_numbers).kp (b_law_numbers T) (fun σ => L2N.passAt tk σ) (pa_cons (pv 1) (pa_cons (pe_callB call_lenP (by rfl) T.f_len PyProof.Rows.Boot.«len» (pa_cons (pv 10) pa_nil)) pa_nil))) (pg_name (i := 3) sc_law.nd rfl (Or.inl rfl)))
      (pss_cons (ps_asg (pe_callS (ok_law_book T) (hr.mono (by decide)) rfl T.g_law_book (T.fn_law_book).kp (b_law_book T) (fun σ => L2N.passAt tk σ) (pa_cons (pv 3) (pa_cons (pv 10) pa_nil))) (pg_name (i := 4) sc_law.nd rfl (Or.inl rfl)))
      (pss_cons (ps_asg (pe_callS (ok_law_start T) (hr.mono (by decide)) rfl T.g_law_start (T.fn_law_start).kp (b_law_start T) (fun σ => L2N.passAt tk σ) (pa_cons (pv 1) (pa_cons (pv 2) (pa_cons (pv 10) pa_nil)))) (pg_name (i := 5) sc_law.nd rfl (Or.inl rfl)))
      (pss_cons (ps_asg (pe_callS (ok_law_walk T) (hr.mono (by decide)) rfl T.g_law_walk (T.fn_law_walk).kp (b_law_walk T) (fun σ => L2N.passAt tk σ) (pa_cons (pv 1) (pa_cons (pv 3) (pa_cons (pv 10) (pa_cons (pv 5) pa_nil))))) (pg_name (i := 6) sc_law.nd rfl (Or.inl rfl)))
      (pss_cons (ps_asg (pv 5) (pg_name (i := 7) sc_law.nd rfl (Or.inl rfl)))
      (pss_cut (ps_if (pt_cmpR op_gtP (pe_callB call_lenP (by rfl) T.f_len PyProof.Rows.Boot.«len» (pa_cons (pv 6) pa_nil)) pe_int (nomark _)) (pss_one (ps_asg (pe_ix ix_P (pe_ix ix_P (pv 6) (pe_un un_neg pe_int) (fun _ _ => rfl)) pe_int (fun _ _ => rfl)) (pg_name (i := 7) sc_law.nd rfl (Or.inl rfl)))) pss_nil)
      (pss_cut (ps_if (pt_not (pt_val (pe_callS (ok_law_same T) (hr.mono (by decide)) rfl T.g_law_same (T.fn_law_same).kp (b_law_same T) (fun σ => L2N.passAt tk σ) (pa_cons (pe_callS (ok_is_chain T) (hr.mono (by decide)) rfl T.g_is_chain (T.fn_is_chain).kp (b_is_chain T) (fun σ => L2N.passAt tk σ) (pa_cons (pv 4) (pa_cons (pv 5) (pa_cons (pv 7) (pa_cons (pe_callTy call_listP (by rfl) T.f_list PyProof.Rows.Boot.«list» (pa_cons (pv 6) pa_nil)) pa_nil))))) (pa_cons pe_bl pa_nil))))) (pss_one (ps_ret pe_bl)) pss_nil)
      (pss_cut (ps_if (pt_not (pt_val (pe_callS (ok_law_same T) (hr.mono (by decide)) rfl T.g_law_same (T.fn_law_same).kp (b_law_same T) (fun σ => L2N.passAt tk σ) (pa_cons (pe_callS (ok_is_chain T) (hr.mono (by decide)) rfl T.g_is_chain (T.fn_is_chain).kp (b_is_chain T) (fun σ => L2N.passAt tk σ) (pa_cons (pv 4) (pa_cons (pe_callS (ok_law_flip T) (hr.mono (by decide)) rfl T.g_law_flip (T.fn_law_flip).kp (b_law_flip T) (fun σ => L2N.passAt tk σ) (pa_cons (pv 7) pa_nil)) (pa_cons (pe_callS (ok_law_flip T) (hr.mono (by decide)) rfl T.g_law_flip (T.fn_law_flip).kp (b_law_flip T) (fun σ => L2N.passAt tk σ) (pa_cons (pv 5) pa_nil)) (pa_cons (pe_callS (ok_law_mirror T) (hr.mono (by decide)) rfl T.g_law_mirror (T.fn_law_mirror).kp (b_law_mirror T) (fun σ => L2N.passAt tk σ) (pa_cons (pv 6) pa_nil)) pa_nil))))) (pa_cons pe_bl pa_nil))))) (pss_one (ps_ret pe_bl)) pss_nil)
      (pss_cons (ps_asg (pe_lst (pa_cons (pe_tup (pa_cons (pv 5) (pa_cons (pe_callS (ok_law_flip T) (hr.mono (by decide)) rfl T.g_law_flip (T.fn_law_flip).kp (b_law_flip T) (fun σ => L2N.passAt tk σ) (pa_cons (pv 7) pa_nil)) pa_nil))) (pa_cons (pe_tup (pa_cons (pe_callS (ok_law_flip T) (hr.mono (by decide)) rfl T.g_law_flip (T.fn_law_flip).kp (b_law_flip T) (fun σ => L2N.passAt tk σ) (pa_cons (pv 5) pa_nil)) (pa_cons (pv 7) pa_nil))) (pa_cons (pe_tup (pa_cons (pv 7) (pa_cons (pv 5) pa_nil))) (pa_cons (pe_tup (pa_cons (pv 5) (pa_cons (pv 5) pa_nil))) pa_nil))))) (pg_name (i := 8) sc_law.nd rfl (Or.inl rfl)))
      (pss_cut (ps_for (passes_of rfl) rfl (pi_anyP (pv 8)) (pg_name (i := 9) sc_law.nd rfl (Or.inl rfl)) (pss_cut (ps_if (pt_not (pt_val (pe_callS (ok_law_both T) (hr.mono (by decide)) rfl T.g_law_both (T.fn_law_both).kp (b_law_both T) (fun σ => L2N.passAt tk σ) (pa_cons (pv 4) (pa_cons (pv 3) (pa_cons (pv 10) (pa_cons (pe_ix ix_P (pv 9) pe_int (fun _ _ => rfl)) (pa_cons (pe_ix ix_P (pv 9) pe_int (fun _ _ => rfl)) (pa_cons (pv 6) pa_nil))))))))) (pss_one (ps_ret pe_bl)) pss_nil)
      (pss_one (ps_if (pt_not (pt_val (pe_callS (ok_law_both T) (hr.mono (by decide)) rfl T.g_law_both (T.fn_law_both).kp (b_law_both T) (fun σ => L2N.passAt tk σ) (pa_cons (pv 4) (pa_cons (pv 3) (pa_cons (pv 10) (pa_cons (pe_ix ix_P (pv 9) pe_int (fun _ _ => rfl)) (pa_cons (pe_ix ix_P (pv 9) pe_int (fun _ _ => rfl)) (pa_cons (pe_lst pa_nil) pa_nil))))))))) (pss_one (ps_ret pe_bl)) pss_nil))))
      (pss_cut (ps_if (pt_not (pt_val (pe_callS (ok_law_refusals T) (hr.mono (by decide)) rfl T.g_law_refusals (T.fn_law_refusals).kp (b_law_refusals T) (fun σ => L2N.passAt tk σ) (pa_cons (pv 1) (pa_cons (pv 4) (pa_cons (pv 2) (pa_cons (pv 5) (pa_cons (pv 7) (pa_cons (pv 6) pa_nil))))))))) (pss_one (ps_ret pe_bl)) pss_nil)
      (pss_cut (ps_if (pt_cmpR op_gtP (pe_callB call_lenP (by rfl) T.f_len PyProof.Rows.Boot.«len» (pa_cons (pv 6) pa_nil)) pe_int (nomark _)) (pss_cut (ps_for (passes_of rfl) rfl (pi_range1 (by rfl) T.f_range (pa_cons pe_int pa_nil)) (pg_name (i := 11) sc_law.nd rfl (Or.inl rfl)) (pss_cons (ps_asg (pe_callS (ok_law_spoilt T) (hr.mono (by decide)) rfl T.g_law_spoilt (T.fn_law_spoilt).kp (b_law_spoilt T) (fun σ => L2N.passAt tk σ) (pa_cons (pv 1) (pa_cons (pv 2) (pa_cons (pv 3) (pa_cons (pv 6) (pa_cons (pv 11) pa_nil)))))) (pg_name (i := 13) sc_law.nd rfl (Or.inl rfl)))
      (pss_one (ps_if (pt_not (pt_val (pe_callS (ok_law_both T) (hr.mono (by decide)) rfl T.g_law_both (T.fn_law_both).kp (b_law_both T) (fun σ => L2N.passAt tk σ) (pa_cons (pv 4) (pa_cons (pv 3) (pa_cons (pv 10) (pa_cons (pv 5) (pa_cons (pv 7) (pa_cons (pv 13) pa_nil))))))))) (pss_one (ps_ret pe_bl)) pss_nil))))
      (pss_cons (ps_asg (pe_bm PySem.F.plainAttrs_list PySem.F.slot_list_index PySem.F.type_list_index mt_index (pv 3) (pa_cons (pe_ix ix_P (pe_ix ix_P (pv 6) (pe_callS (ok_law_take T) (hr.mono (by decide)) rfl T.g_law_take (T.fn_law_take).kp (b_law_take T) (fun σ => L2N.passAt tk σ) (pa_cons (pv 1) (pa_cons (pe_callB call_lenP (by rfl) T.f_len PyProof.Rows.Boot.«len» (pa_cons (pv 6) pa_nil)) pa_nil))) (fun _ _ => rfl)) pe_int (fun _ _ => rfl)) pa_nil)) (pg_name (i := 12) sc_law.nd rfl (Or.inl rfl)))
      (pss_cut (ps_if (pt_not (pt_val (pe_callS (ok_law_single_links T) (hr.mono (by decide)) rfl T.g_law_single_links (T.fn_law_single_links).kp (b_law_single_links T) (fun σ => L2N.passAt tk σ) (pa_cons (pv 4) (pa_cons (pv 3) (pa_cons (pv 10) (pa_cons (pv 12) pa_nil))))))) (pss_one (ps_ret pe_bl)) pss_nil)
      (pss_cons (ps_expr (Cl.pe_methO (E := (WE fun cls d _ H => E cls d H)) (.cons (Cl.ownM_of T.cls_Book T.own_Book_drop T.fn_Book_drop (Cl.toR (ok_Book_drop T) (b_Book_drop T)) (hr.mono (by decide)) (fun σ => L2N.passAt tk σ)) .nil) (pv 4) (pa_cons (pe_ix ix_P (pv 3) (pv 12) (fun _ _ => rfl)) pa_nil)))
      (pss_cons (ps_asg (pe_op op_addP (pe_slice sl_P (pv 10) po_none (po_some (pv 12))) (pe_slice sl_P (pv 10) (po_some (pe_op op_addP (pv 12) pe_int)) po_none)) (pg_name (i := 10) sc_law.nd rfl (Or.inl rfl)))
      (pss_cons (ps_asg (pe_op op_addP (pe_slice sl_P (pv 3) po_none (po_some (pv 12))) (pe_slice sl_P (pv 3) (po_some (pe_op op_addP (pv 12) pe_int)) po_none)) (pg_name (i := 3) sc_law.nd rfl (Or.inl rfl)))
      (pss_one (ps_ret (pe_callS (ok_law_both T) (hr.mono (by decide)) rfl T.g_law_both (T.fn_law_both).kp (b_law_both T) (fun σ => L2N.passAt tk σ) (pa_cons (pv 4) (pa_cons (pv 3) (pa_cons (pv 10) (pa_cons (pv 5) (pa_cons (pv 7) (pa_cons (pv 6) pa_nil))))))))))))))) pss_nil)
      (pss_one (ps_ret pe_bl)))))))))))))))))
end
end Ok
open PySem PySem.W PySem.Calls PyProof.Rows
set_option maxRecDepth 100000 in
set_option maxHeartbeats 0 in
theorem PySem.Challenge.cw_renamedhorn_k26_chains_judged_holds : PySem.Challenge.rw_renamedhorn_k26_chains_judged.Holds := by
  w_on; o_law
  o_head Hd.hk
  case hw => w_witness2
  case hc =>
    refine Hk.walk_ofEB (l := PySem.Challenge.rw_renamedhorn_k26_chains_judged) (n := 63) (k := 20) (x := "_law_script") (CX := L2N.CX PySem.Challenge.pw_renamedhorn_k26_chains_judged) rfl (by decide) rfl ⟨rfl, by decide, by decide⟩ ?F (fun w H s e s' z => ?X)
    case X =>
      obtain ⟨_, _, _, _, _, _, _, _, _, _, _, _, z⟩ := z
      exact z
    case F =>
      intro w mg fa h Y G hmg
      obtain ⟨K, KX, c⟩ := Y
      have hmg : mg ("law" : PySem.Str) = some (.ref fa) := hmg
      have T : Ok.Tx w K mg := ⟨c, h, KX, G⟩
      have e := hmg.symm.trans T.g_law
      cases e
      have b := L2.FunD.bindsA (ps := ["_law_script"]) T.fn_law fun _ _ _ _ _ _ us hl => match us, hl with | [_], _ => rfl
      exact ⟨K, Hk.fdOf K (He.ga K "law"), Rd.sp_law K, KX, fun s v => b s [v] rfl, fun H a ns hl _ _ hS => ⟨_, rfl, a, ns, rfl, hS, by omega, fun _ => rfl⟩, fun base _ _ => Ok.ok_law T⟩
