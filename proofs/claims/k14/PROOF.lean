import PyProof.Rows.All
import Wide.All
import OpenK.AllK
import Wide.FinOn
import PyProof.EqAt
import PyProof.EqKinds
import PyProof.TupleCall
import KE.KStateDown
import KE.KExcSuper
import HandS.ForMost
import HandS.ForExc
import HandS.HeadWalk
import HandS.Defaults
import HandS.ExcIs
import HandS.ExcCtx
import HandS.HotCalls
import HandS.ExcInitHot
import HandS.IsInst
import KE.KExcIs
import HandS.EndBits
import HandS.Head0
import HandS.Head1
import HandS.Head2
import HandS.HeadEnd
import HandS.HeadHook1
import HandS.HeadHook2
import HandS.HeadHook3
import HandS.HeadNt
import HandS.Wide
import HandS.Flow
import HandS.StrMore
import HandS.Conv
import HandS.TupAny
import HandS.RaiseMore
import HandS.TupLe
import HandS.Star
import HandS.Property
import HandS.ClsMeth
import HandS.Style
import HandS.ExcOwn
import HandS.Iter
import HandS.Dict
import HandS.More
import HandS.SortInts
import PyProof.Rows.SortShellAny
import HandS.IterVal
import HandS.OwnIter
import KE.KOwnIter
import KE.KCallOwn
import HandS.Gcd
import HandS.FStr
import HandS.Head3
import KE.KOpsOwn
import KE.KDictList
import HandS.DictComp
import HandS.Zip
import PySem.Challenge.RW_renamedhorn_k14_book_numbers
set_option Elab.async false
set_option linter.all false
set_option maxRecDepth 100000
set_option maxHeartbeats 4000000
/-! own errors whose __init__ says super().__init__('..') and keeps one argument in a field, or none -/
namespace PySem
namespace ErrX
open PySem.W PySem.Calls PyProof.Rows PySem.HandSPX
theorem one_size (v : Value) : [v].length ≤ sizeLine := by
  rw [sizeLine_eq]
  exact (by decide : 1 ≤ 16777216)
theorem nil_size : ([] : List Value).length ≤ sizeLine := by
  rw [sizeLine_eq]
  exact (by decide : 0 ≤ 16777216)
/-- the first statement of such an __init__ -/
def supS (msg : Str) (a1 a2 a3 a4 a5 a6 : Pos) : Stmt := .Expr (.Call (.Attribute (.Call (.Name "super" a1) [] [] a2) "__init__" a3) [.Constant (.str msg) 0 a4] [] a5) a6
def fldS (f : Str) (b1 b2 b3 b4 : Pos) : Stmt := .Assign [.Attribute (.Name "self" b1) f b2] (.Name f b3) b4
/-- what the written part says of the class at C and of its __init__ at fI -/
structure ErrC (prog : Program) (K : Frag) (C fI : Addr) (body : List Stmt) (scope : Scope) (params : Arguments) : Prop where
  cls : ∃ nm q N bs bm sn sub ab col dd k0 k1 k2 k3 k5, K.lookup C = some (excClassObj nm q C N bs bm true sn sub ab col dd k0 k1 k2 k3 k5 "ValueError.__new__") ∧ refsVE bm = true
  sa : findIn K (.ref C) "__setattr__" = some (some (.builtin "object.__setattr__"))
  ga : findIn K (.ref C) "__getattribute__" = some (some (.builtin "BaseException.__getattribute__"))
  gg : findIn K (.ref C) "__getattr__" = some none
  iC : findIn K (.ref C) "__init__" = some (some (.ref fI))
  tC : typeIn K (.ref fI) = some (.type "function")
  kC : keepIn K (.ref C) = true
  exC : subIn K (.ref C) (.type "BaseException") = some true
  veC : subIn K (.ref C) (.type "ValueError") = some true
  tyC : typeIn K (.ref C) = some (.type "type")
  hdC : hasDictIn K C = true
  mroC : mroIn K C (.ref C) = some true
  supC : ks_superIn K C C "__init__" = some (some (.builtin "ValueError.__init__"))
  opq : nsIn K cStatics "thirdparty.any" = some none
  supG : nsIn K mainGlobals "super" = some none
  fn : ∃ (oc : Value) (od : Option Addr) (nm qual : Str) (kV doc pm : Value) (an : Option Addr) (cda cc : Addr) (ct : Value) (osl : Array (Option Value)) (ccl : Value) (cdd : Option Addr) (vs : Array Value) (ccs : Array (Option Value)) (file : Str) (tf : Tok) (cl : Value) (cld : Option Addr) (csl : Array (Option Value)),
    K.lookup fI = some ⟨oc, od, .func (ksFn nm qual params body scope .none kV doc pm an (.ref cda) ct cc), osl⟩ ∧ codeIn K (.ref cda) qual = true ∧
    K.lookup cda = some ⟨ccl, cdd, .fields vs, ccs⟩ ∧ vs[2]? = some (.str file tf) ∧ ((prog.main.file : Str) == file) = true ∧ K.lookup cc = some ⟨cl, cld, .cell (some (.ref C)), csl⟩
  ar : ∃ pp, (params.posonlyargs ++ params.args).head? = some ⟨"self", none, pp⟩
  hks : scope.names.lookup ("super" : Str) = some .globalImplicit
  hkc : scope.names.lookup ("__class__" : Str) = some .free
  hka : scope.names.lookup ("self" : Str) = some .local
  hk : scope.kind = .function
  hco : scope.isCoroutine = false
  hgen : scope.isGenerator = false
  hcell : ∀ x ∈ scope.names, x.2 ≠ .cell
  htop : (prog.main.scope.names.lookup ("super" : Str)).isSome = false
section
variable {prog : Program} {w : World} {M : Model} {A : Around} {E : Value → Shared → Prop} {h : Heap} {g : Array GenState} {d : Drawn} {t : Nat} {os : OsState}
variable {nm q : Str} {C N : Addr} {bs bm : List Value} {hdct : Bool} {sn : List Str} {sub : List Value} {ab : Bool} {col : Option Bool} {dd : Option Addr} {k0 k1 k2 k3 k5 : Option Value}
theorem call_vw {u e t0 : Addr} {rest : List Value} {Q : Value → Shared → Prop}
    (hC : h.get? C = some (excClassObj nm q C N bs bm hdct sn sub ab col dd k0 k1 k2 k3 k5 "ValueError.__new__")) (he : h.get? e = some (excO C t0)) (hu : h.get? u = some (kxs_mw "ValueError.__init__" e)) (hrest : rest.length ≤ sizeLine)
    (hq : ∀ h' t1, (∀ b o, b ≠ e → h.get? b = some o → h'.get? b = some o) → h'.get? e = some (excO C t1) → Q .none ⟨h', g, d, t, os⟩) :
    wpAny (model prog w) A (call (.ref u) rest) Q E ⟨h, g, d, t, os⟩ := by
  refine wpAny_call (codeAny_of_tree ?_)
  show wpAny _ A.in1 (callAny (.ref u) ⟨rest, []⟩) _ _ _
  simp only [callAny]
  refine wpAny_bind (wpAny_load hu ?_)
  simp only [kxs_mw, show (Value.type "method-wrapper" == Value.type "method" || Value.type "method-wrapper" == Value.type "builtin_function_or_method" || Value.type "method-wrapper" == Value.type "method-wrapper") = true by decide, if_true]
  refine W.KFB.if_so (by decide) ?_
  refine wpAny_bind (check_bound_init F.excBase_ValueError.toExcCallFacts hC he rfl ?_)
  refine wpAny_bind (wpAny_pure (wpAny_pure ?_))
  refine ⟨plainId_quiet F.excBase_ValueError.init.plain _, codeAny_builtin F.excBase_ValueError.initEntry ?_⟩
  rw [Around.under_plainId F.excBase_ValueError.init.plain _]
  wp_walk
  refine hq _ h.objs.size (fun b o hb ho => ?_) ?_
  · rw [Heap.get?_update_other _ _ (Ne.symm hb)]
    exact Heap.get?_push_of_some _ ho
  · rw [Heap.get?_update_self _ (Heap.get?_push_of_some _ he) rfl]
    rfl
end
section
variable {prog : Program} {w : World} {A : Around} {E : Value → Shared → Prop} {s : Shared} {K : Frag} {mg : Str → Option Value} {C fI : Addr} {body : List Stmt} {scope : Scope} {params : Arguments}
/-- super().__init__('..') in such an __init__ -/
theorem sup_stmt (T : ErrC prog K C fI body scope params) {L x t0 : Addr} {m : Str → Option Value} {msg : Str} {a1 a2 a3 a4 a5 a6 : Pos} {Q : Flow → Shared → Prop}
    {oc : Value} {od : Option Addr} {nm qual : Str} {kV doc pm : Value} {an : Option Addr} {cda cc : Addr} {ct : Value} {osl : Array (Option Value)} {ccl : Value} {cdd : Option Addr} {vs : Array Value} {ccs : Array (Option Value)} {file : Str} {tf : Tok} {cl : Value} {cld : Option Addr} {csl : Array (Option Value)}
    (hf : K.lookup fI = some ⟨oc, od, .func (ksFn nm qual params body scope .none kV doc pm an (.ref cda) ct cc), osl⟩)
    (hcode : K.lookup cda = some ⟨ccl, cdd, .fields vs, ccs⟩) (hvs : vs[2]? = some (.str file tf)) (hfile : ((prog.main.file : Str) == file) = true) (hcell : K.lookup cc = some ⟨cl, cld, .cell (some (.ref C)), csl⟩)
    (X : K.In s.heap) (hG : s.heap.Ns mainGlobals mg) (hB : ∃ mb, s.heap.Ns builtinsNs mb ∧ ∀ x : Str, x ≠ "__name__" → mb x = bootBuiltins x)
    (hline : (a3.endLine == a5.line) = true) (hn : s.heap.Ns L m) (hv : m "self" = some (.ref x)) (hx : s.heap.get? x = some (excO C t0)) (hnx : K.lookup x = none)
    (hq : ∀ h' tk t1, (∀ b o, b ≠ x → s.heap.get? b = some o → h'.get? b = some o) → h'.get? x = some (excO C t1) → Q .next { s with heap := h', toks := tk }) :
    _root_.PySem.wpAt (model prog w) A (.func body (ksEnv qual scope L fI (.ref cda) cc)) (exec (supS msg a1 a2 a3 a4 a5 a6) (ksEnv qual scope L fI (.ref cda) cc)) Q E s := by
  obtain ⟨cnm, cq, N, bs, bm, sn, sub, ab, col, dd, k0, k1, k2, k3, k5, hC, hbm⟩ := T.cls
  obtain ⟨pp, har⟩ := T.ar
  obtain ⟨mb, hb1, hb2⟩ := hB
  have hD : clsIn K C = some { name := cnm, bases := bs, mro := .ref C :: bm, ns := N, qualname := cq, hasDict := true, slotNames := sn, subclasses := sub, abstract := ab, collection := col, hasDel := false } := by unfold clsIn; rw [hC] <;> rfl
  have hxC : x ≠ C := fun z => by rw [z, hC] at hnx; cases hnx
  obtain ⟨hh, g, d, t, os⟩ := s
  refine ks_wpAt_Expr_any (ks_wpAt_MethodCall (pl := L2.plainOf (.Call (.Name "super" a1) [] [] a2) (ksEnv qual scope L fI (.ref cda) cc)) ?_ (by
      show (do
        let ov ← attributeBase (.Call (.Name "super" a1) [] [] a2) "__init__" (ksEnv qual scope L fI (.ref cda) cc) (eval (.Call (.Name "super" a1) [] [] a2) (ksEnv qual scope L fI (.ref cda) cc))
        standAt a3.atName
        methodCall (.Call (.Name "super" a1) [] [] a2) "__init__" a3 a5 (ksEnv qual scope L fI (.ref cda) cc) ov 1 (backTo a5 (starEach [.Constant (.str msg) 0 a4] (ksEnv qual scope L fI (.ref cda) cc))) []) = _
      simp only [L2.mcall_line (n := 1) (args := backTo a5 (starEach [.Constant (.str msg) 0 a4] (ksEnv qual scope L fI (.ref cda) cc))) (kws := []) rfl hline])) (by simp [interactive, T.hk])
  refine ks_wpAt_super_base (env := ksEnv qual scope L fI (.ref cda) cc) T.hks T.hkc (by decide) rfl (X _ _ hf) rfl har rfl (X _ _ hcode) rfl hvs hfile T.htop ?_
  refine ks_loadName_global T.hk T.hks (loadGlobal_builtin (env := ksEnv qual scope L fI (.ref cda) cc) hG (mg_none_of X hG T.supG) hb1 ((hb2 _ (by decide +kernel)).trans PyProof.Rows.Boot.«super») ⟨rfl, ?_⟩)
  refine wpAny_loadName_free T.hk T.hkc rfl ⟨_, X _ _ hcell, rfl⟩ ?_
  refine wpAny_loadName_local T.hk T.hka hn hv ?_
  refine ks_wpAny_isType_cls (X _ _ hC) rfl ⟨rfl, ?_⟩
  refine ks_wpAny_call_super (X _ _ hC) rfl hx rfl (fun c e => by cases e) (looks_mroIn X T.mroC) (fun h1 e1 up1 => ?_)
  have hx1 := up1 _ _ hx
  have X1 : K.In h1 := X.keeps up1
  have I1 : InstAt h1 x (excO C t0) C none := ⟨hx1, rfl, rfl, trivial⟩
  have hI : Looks (model prog w) h1 (isInstance (.ref x) (.type "ValueError")) true := I1.type.andThen (looks_subIn X1 T.veC)
  have hsup := T.supC
  unfold ks_superIn at hsup
  rw [hD] at hsup
  refine kxs_getMethod kxs_ValueError e1 (looks_opaque X1 T.opq) (l₀ := .ref C :: bm) (fun A Q E s k q => wpAny_bind ((looks_clsIn X1 hD) A _ E s k (wpAny_pure q))) rfl X1 hsup hI hxC (by decide) ?_
  have up2 : ∀ b o, h1.get? b = some o → (h1.push (kxs_mw "ValueError.__init__" x)).get? b = some o := fun b o e => Heap.get?_push_of_some _ e
  have hu2 : (h1.push (kxs_mw "ValueError.__init__" x)).get? h1.objs.size = some (kxs_mw "ValueError.__init__" x) := Heap.get?_push_at rfl rfl
  refine kxs_callWith (u := h1.objs.size) (i := "ValueError.__init__") (x := x) rfl (evalArgs_plain ?_)
  refine Calls.spliced_cons (x := eval (.Constant (.str msg) 0 a4) (ksEnv qual scope L fI (.ref cda) cc)) (Calls.Constant_str (k := 0) (pos := a4) (Calls.spliced_nil ?_))
  refine ⟨hu2, ?_⟩
  refine call_vw ((X1.keeps up2) _ _ hC) (up2 _ _ hx1) hu2 (one_size _) (fun h3 t1 k3 hx3 => ?_)
  exact hq h3 _ t1 (fun b o hb e => k3 b o hb (up2 _ _ (up1 _ _ e))) hx3
end
section
variable {prog : Program} {w : World} {A : Around} {E : Value → Shared → Prop} {R : Result → Shared → Prop} {s : Shared} {K : Frag} {mg : Str → Option Value} {C fI : Addr} {body : List Stmt} {scope : Scope} {params : Arguments}
/-- what __init__ leaves of a fresh exception at x: with a field; without -/
structure InitEnd (h h' : Heap) (x C dx : Addr) (f : Str) (v : Value) : Prop where
  keep : ∀ b o, b ≠ x → h.get? b = some o → h'.get? b = some o
  obj : ∃ t1 : Addr, h'.get? x = some { cls := .ref C, dict := some dx, data := .fields #[.ref t1, .none, .none, .none, .bool false, .none] }
  dbig : h.objs.size ≤ dx
  dne : dx ≠ x
  ns : h'.Ns1 dx (fun y => if y = f then some v else none)
structure InitEnd0 (h h' : Heap) (x C : Addr) : Prop where
  keep : ∀ b o, b ≠ x → h.get? b = some o → h'.get? b = some o
  obj : ∃ t1 : Addr, h'.get? x = some (excO C t1)
theorem init1 {f msg : Str} {a1 a2 a3 a4 a5 a6 b1 b2 b3 b4 : Pos} (T : ErrC prog K C fI [supS msg a1 a2 a3 a4 a5 a6, fldS f b1 b2 b3 b4] scope params) (hline : (a3.endLine == a5.line) = true)
    (hbind : ∀ (nm qual : Str) (kV doc pm : Value) (an : Option Addr) (cdv ct : Value) (cc : Addr) (x y : Value), bindArgs (ksFn nm qual params [supS msg a1 a2 a3 a4 a5 a6, fldS f b1 b2 b3 b4] scope .none kV doc pm an cdv ct cc) ⟨[x, y], []⟩ = pure [((("self" : Str)), x), (f, y)])
    (hkf : scope.names.lookup f = some .local) (hne : (("self" : Str) == f) = false) (hdf : (f == ("__debug__" : Str)) = false) (noN : findIn K (.ref C) f = some none)
    {x t0 : Addr} {v : Value} (X : K.In s.heap) (hlim : s.heap.NoLimit) (hG : s.heap.Ns mainGlobals mg) (hB : ∃ mb, s.heap.Ns builtinsNs mb ∧ ∀ x : Str, x ≠ "__name__" → mb x = bootBuiltins x)
    (hx : s.heap.get? x = some (excO C t0)) (hnx : K.lookup x = none) (hroom : A.depth < recursionLimit)
    (hq : ∀ h' tk dx, InitEnd s.heap h' x C dx f v → R (.ok (.ret .none)) { s with heap := h', toks := tk }) :
    codeAny (model prog w) A (.call (.ref fI) ⟨[.ref x, v], []⟩) R s := by
  obtain ⟨oc, od, nm, qual, kV, doc, pm, an, cda, cc, ct, osl, ccl, cdd, vs, ccs, file, tf, cl, cld, csl, hf, hcd, hcode, hvs, hfile, hcell⟩ := T.fn
  obtain ⟨cnm, cq, N, bs, bm, sn, sub, ab, col, dd, k0, k1, k2, k3, k5, hC, hbm⟩ := T.cls
  have hcl : clsIn K C = some { name := cnm, bases := bs, mro := .ref C :: bm, ns := N, qualname := cq, hasDict := true, slotNames := sn, subclasses := sub, abstract := ab, collection := col, hasDel := false } := by unfold clsIn; rw [hC] <;> rfl
  refine ks_codeAny_call_defAt (fd := ksFn nm qual params [supS msg a1 a2 a3 a4 a5 a6, fldS f b1 b2 b3 b4] scope .none kV doc pm an (.ref cda) ct cc) (body := [supS msg a1 a2 a3 a4 a5 a6, fldS f b1 b2 b3 b4]) (binds := [("self", .ref x), (f, v)]) hroom (X _ _ hf) rfl hlim (codeRec_of X hcd) rfl (BindsTo.of_eq (hbind _ _ _ _ _ _ _ _ _ _ _)) T.hcell ?_ (fun h1 hns hk1 => ?_) T.hco T.hgen T.hk
  · intro y hy
    rcases List.mem_cons.mp hy with rfl | hy
    · exact T.hka
    rcases List.mem_cons.mp hy with rfl | hy
    · exact hkf
    · cases hy
  · have hx1 := hk1 _ _ hx
    have X1 : K.In h1 := X.keeps hk1
    obtain ⟨mb, hb1, hb2⟩ := hB
    have lkf : ([(("self" : Str), Value.ref x), (f, v)] : List (Str × Value)).reverse.lookup f = some v := by simp [List.lookup]
    have lks : ([(("self" : Str), Value.ref x), (f, v)] : List (Str × Value)).reverse.lookup ("self" : Str) = some (.ref x) := by
      show (match (("self" : Str) == f) with | true => some v | false => List.lookup ("self" : Str) [(("self" : Str), Value.ref x)]) = _
      rw [hne]
      simp [List.lookup]
    refine ks_wpAt_execs_cons (sup_stmt (s := { s with heap := h1, toks := s.toks + 2 }) T hf hcode hvs hfile hcell X1 (hG.keeps hk1) ⟨mb, hb1.keeps hk1, hb2⟩ hline hns lks hx1 hnx (fun h2 tk2 t1 k2 hx2 => ?_))
    have X2 : K.In h2 := fun a o e => k2 a o (fun z => by rw [z, hnx] at e; cases e) (X1 a o e)
    have hxL : s.heap.objs.size ≠ x := Nat.ne_of_gt (Heap.lt_size hx)
    obtain ⟨oL, esL, epL, hoL, rL⟩ := id hns
    have hns2 : h2.Ns s.heap.objs.size (fun y => ([(("self" : Str), Value.ref x), (f, v)] : List (Str × Value)).reverse.lookup y) := ⟨oL, esL, epL, k2 _ _ hxL hoL, rL⟩
    refine wpAt_of_wpAny ?_
    refine wpAny_execs_cons (plainObj_wpAny_Assign_Attribute ?_)
    refine wpAny_Name (wpAny_loadName_local T.hk hkf hns2 lkf ?_) hdf
    refine wpAny_Name (wpAny_loadName_local T.hk T.hka hns2 lks ?_) (by decide)
    refine set_plain X2 (ox := excO C t1) (od := none) ⟨hx2, rfl, rfl, trivial⟩ T.sa ?_
    refine exc_osa X2 hx2 hcl (show refsVE (.ref C :: bm) = true from hbm) rfl noN (fun h3 tk3 dx k3 dn dne hx3 hn3 => ?_)
    have z : s.heap.objs.size < h2.objs.size := hns2.lt
    exact wpAny_execs_nil (hq h3 tk3 dx ⟨fun b o hb e => k3 b o hb (k2 b o hb (hk1 b o e)), ⟨t1, hx3⟩, Nat.le_of_lt (Nat.lt_of_lt_of_le z dn), dne, hn3⟩)
theorem init0 {msg : Str} {a1 a2 a3 a4 a5 a6 : Pos} (T : ErrC prog K C fI [supS msg a1 a2 a3 a4 a5 a6] scope params) (hline : (a3.endLine == a5.line) = true)
    (hbind : ∀ (nm qual : Str) (kV doc pm : Value) (an : Option Addr) (cdv ct : Value) (cc : Addr) (x : Value), bindArgs (ksFn nm qual params [supS msg a1 a2 a3 a4 a5 a6] scope .none kV doc pm an cdv ct cc) ⟨[x], []⟩ = pure [((("self" : Str)), x)])
    {x t0 : Addr} (X : K.In s.heap) (hlim : s.heap.NoLimit) (hG : s.heap.Ns mainGlobals mg) (hB : ∃ mb, s.heap.Ns builtinsNs mb ∧ ∀ x : Str, x ≠ "__name__" → mb x = bootBuiltins x)
    (hx : s.heap.get? x = some (excO C t0)) (hnx : K.lookup x = none) (hroom : A.depth < recursionLimit)
    (hq : ∀ h' tk, InitEnd0 s.heap h' x C → R (.ok (.ret .none)) { s with heap := h', toks := tk }) :
    codeAny (model prog w) A (.call (.ref fI) ⟨[.ref x], []⟩) R s := by
  obtain ⟨oc, od, nm, qual, kV, doc, pm, an, cda, cc, ct, osl, ccl, cdd, vs, ccs, file, tf, cl, cld, csl, hf, hcd, hcode, hvs, hfile, hcell⟩ := T.fn
  refine ks_codeAny_call_defAt (fd := ksFn nm qual params [supS msg a1 a2 a3 a4 a5 a6] scope .none kV doc pm an (.ref cda) ct cc) (body := [supS msg a1 a2 a3 a4 a5 a6]) (binds := [("self", .ref x)]) hroom (X _ _ hf) rfl hlim (codeRec_of X hcd) rfl (BindsTo.of_eq (hbind _ _ _ _ _ _ _ _ _ _)) T.hcell ?_ (fun h1 hns hk1 => ?_) T.hco T.hgen T.hk
  · intro y hy
    rcases List.mem_cons.mp hy with rfl | hy
    · exact T.hka
    · cases hy
  · have hx1 := hk1 _ _ hx
    have X1 : K.In h1 := X.keeps hk1
    obtain ⟨mb, hb1, hb2⟩ := hB
    refine ks_wpAt_execs_cons (sup_stmt (s := { s with heap := h1, toks := s.toks + 1 }) T hf hcode hvs hfile hcell X1 (hG.keeps hk1) ⟨mb, hb1.keeps hk1, hb2⟩ hline hns (by simp [List.lookup]) hx1 hnx (fun h2 tk2 t1 k2 hx2 => ?_))
    refine wpAt_of_wpAny ?_
    exact wpAny_execs_nil (hq h2 tk2 ⟨fun b o hb e => k2 b o hb (hk1 b o e), ⟨t1, hx2⟩⟩)
/-- a made error with a field; without -/
structure OwnMade (h h' : Heap) (e C d : Addr) (f : Str) (v : Value) : Prop where
  keep : ∀ b o, h.get? b = some o → h'.get? b = some o
  new : h.objs.size ≤ e
  obj : ∃ oe vs, h'.get? e = some oe ∧ oe.cls = .ref C ∧ oe.dict = some d ∧ oe.data = .fields vs ∧ vs[1]? = some .none ∧ vs[2]? = some .none
  dbig : h.objs.size ≤ d
  dne : d ≠ e
  ns : h'.Ns1 d (fun y => if y = f then some v else none)
structure OwnMade0 (h h' : Heap) (e C : Addr) : Prop where
  keep : ∀ b o, h.get? b = some o → h'.get? b = some o
  new : h.objs.size ≤ e
  obj : ∃ oe vs, h'.get? e = some oe ∧ oe.cls = .ref C ∧ oe.dict = none ∧ oe.data = .fields vs ∧ vs[1]? = some .none ∧ vs[2]? = some .none
theorem made1 {f msg : Str} {a1 a2 a3 a4 a5 a6 b1 b2 b3 b4 : Pos} (T : ErrC prog K C fI [supS msg a1 a2 a3 a4 a5 a6, fldS f b1 b2 b3 b4] scope params) (hline : (a3.endLine == a5.line) = true)
    (hbind : ∀ (nm qual : Str) (kV doc pm : Value) (an : Option Addr) (cdv ct : Value) (cc : Addr) (x y : Value), bindArgs (ksFn nm qual params [supS msg a1 a2 a3 a4 a5 a6, fldS f b1 b2 b3 b4] scope .none kV doc pm an cdv ct cc) ⟨[x, y], []⟩ = pure [((("self" : Str)), x), (f, y)])
    (hkf : scope.names.lookup f = some .local) (hne : (("self" : Str) == f) = false) (hdf : (f == ("__debug__" : Str)) = false) (noN : findIn K (.ref C) f = some none)
    {v : Value} (X : K.In s.heap) (hlim : s.heap.NoLimit) (hG : s.heap.Ns mainGlobals mg) (hB : ∃ mb, s.heap.Ns builtinsNs mb ∧ ∀ x : Str, x ≠ "__name__" → mb x = bootBuiltins x) (hroom : A.depth + 1 < recursionLimit)
    (hq : ∀ h' tk e d, OwnMade s.heap h' e C d f v → R (.ok (.ret (.ref e))) { s with heap := h', toks := tk }) :
    codeAny (model prog w) A (.call (.ref C) ⟨[v], []⟩) R s := by
  obtain ⟨nm, q, N, bs, bm, sn, sub, ab, col, dd, k0, k1, k2, k3, k5, hC, hbm⟩ := T.cls
  obtain ⟨mb, hb1, hb2⟩ := hB
  obtain ⟨hp, g, dr, tk, os⟩ := s
  have k : ∀ b o, hp.get? b = some o → ((hp.push (kdv_tup [v])).push (excO C hp.objs.size)).get? b = some o := fun b o e => Heap.get?_push_of_some _ (Heap.get?_push_of_some _ e)
  have hget : ((hp.push (kdv_tup [v])).push (excO C hp.objs.size)).get? (hp.objs.size + 1) = some (excO C hp.objs.size) := by heap_get
  have hnx : K.lookup (hp.objs.size + 1) = none := by
    cases e : K.lookup (hp.objs.size + 1) with
    | none => rfl
    | some o =>
      have z : hp.get? (hp.objs.size + 1) = some o := X _ _ e
      exact absurd (Nat.lt_of_succ_lt (Heap.lt_size z)) (Nat.lt_irrefl _)
  refine call_own F.excBase_ValueError (fun X => refsVE_contains X bm hbm) (X _ _ hC) (looks_findIn X T.iC) (fun self => bind_fn X self T.tC) (one_size v) ?_
  refine init1 (s := ⟨(hp.push (kdv_tup [v])).push (excO C hp.objs.size), g, dr, tk, os⟩) T hline hbind hkf hne hdf noN (X.keeps k) (hlim.keeps k) (hG.keeps k) ⟨mb, hb1.keeps k, hb2⟩ hget hnx ?_ fun h' tk' dx ⟨k', ⟨t1, hx⟩, dn, dne, hns⟩ => ?_
  · show A.depth + 1 < recursionLimit
    exact hroom
  · have old : ∀ b o, hp.get? b = some o → h'.get? b = some o := fun b o e => k' b o (Nat.ne_of_lt (Nat.lt_succ_of_lt (Heap.lt_size e))) (k b o e)
    have z : hp.objs.size + 1 + 1 ≤ dx := by
      first
        | (simpa only [Heap.size_push] using dn)
        | exact dn
        | (have q := dn; rw [Heap.size_push, Heap.size_push] at q; exact q)
    exact ⟨rfl, hq h' tk' (hp.objs.size + 1) dx ⟨old, Nat.le_succ _, ⟨_, _, hx, rfl, rfl, rfl, rfl, rfl⟩, Nat.le_trans (Nat.le_trans (Nat.le_succ _) (Nat.le_succ _)) z, dne, hns⟩⟩
theorem made0 {msg : Str} {a1 a2 a3 a4 a5 a6 : Pos} (T : ErrC prog K C fI [supS msg a1 a2 a3 a4 a5 a6] scope params) (hline : (a3.endLine == a5.line) = true)
    (hbind : ∀ (nm qual : Str) (kV doc pm : Value) (an : Option Addr) (cdv ct : Value) (cc : Addr) (x : Value), bindArgs (ksFn nm qual params [supS msg a1 a2 a3 a4 a5 a6] scope .none kV doc pm an cdv ct cc) ⟨[x], []⟩ = pure [((("self" : Str)), x)])
    (X : K.In s.heap) (hlim : s.heap.NoLimit) (hG : s.heap.Ns mainGlobals mg) (hB : ∃ mb, s.heap.Ns builtinsNs mb ∧ ∀ x : Str, x ≠ "__name__" → mb x = bootBuiltins x) (hroom : A.depth + 1 < recursionLimit)
    (hq : ∀ h' tk e, OwnMade0 s.heap h' e C → R (.ok (.ret (.ref e))) { s with heap := h', toks := tk }) :
    codeAny (model prog w) A (.call (.ref C) ⟨[], []⟩) R s := by
  obtain ⟨nm, q, N, bs, bm, sn, sub, ab, col, dd, k0, k1, k2, k3, k5, hC, hbm⟩ := T.cls
  obtain ⟨mb, hb1, hb2⟩ := hB
  obtain ⟨hp, g, dr, tk, os⟩ := s
  have k : ∀ b o, hp.get? b = some o → ((hp.push (kdv_tup [])).push (excO C hp.objs.size)).get? b = some o := fun b o e => Heap.get?_push_of_some _ (Heap.get?_push_of_some _ e)
  have hget : ((hp.push (kdv_tup [])).push (excO C hp.objs.size)).get? (hp.objs.size + 1) = some (excO C hp.objs.size) := by heap_get
  have hnx : K.lookup (hp.objs.size + 1) = none := by
    cases e : K.lookup (hp.objs.size + 1) with
    | none => rfl
    | some o =>
      have z : hp.get? (hp.objs.size + 1) = some o := X _ _ e
      exact absurd (Nat.lt_of_succ_lt (Heap.lt_size z)) (Nat.lt_irrefl _)
  refine call_own F.excBase_ValueError (fun X => refsVE_contains X bm hbm) (X _ _ hC) (looks_findIn X T.iC) (fun self => bind_fn X self T.tC) nil_size ?_
  refine init0 (s := ⟨(hp.push (kdv_tup [])).push (excO C hp.objs.size), g, dr, tk, os⟩) T hline hbind (X.keeps k) (hlim.keeps k) (hG.keeps k) ⟨mb, hb1.keeps k, hb2⟩ hget hnx ?_ fun h' tk' ⟨k', ⟨t1, hx⟩⟩ => ?_
  · show A.depth + 1 < recursionLimit
    exact hroom
  · have old : ∀ b o, hp.get? b = some o → h'.get? b = some o := fun b o e => k' b o (Nat.ne_of_lt (Nat.lt_succ_of_lt (Heap.lt_size e))) (k b o e)
    exact ⟨rfl, hq h' tk' (hp.objs.size + 1) ⟨old, Nat.le_succ _, ⟨_, _, hx, rfl, rfl, rfl, rfl, rfl⟩⟩⟩
end
end ErrX
end PySem
namespace L2
open PySem PySem.Spec PyProof.Rows PySem.W
/-- an error class with one field, as the rules use it -/
structure Err1 (prog : Program) (w : World) (K : Frag) (mg : Str → Option Value) (nm f : Str) (C : Addr) : Prop where
  gC : mg nm = some (.ref C)
  kC : keepIn K (.ref C) = true
  exC : subIn K (.ref C) (.type "BaseException") = some true
  tyC : typeIn K (.ref C) = some (.type "type")
  hdC : hasDictIn K C = true
  ga : findIn K (.ref C) "__getattribute__" = some (some (.builtin "BaseException.__getattribute__"))
  gg : findIn K (.ref C) "__getattr__" = some none
  noN : findIn K (.ref C) f = some none
  made : ∀ {A : Around} {R : Result → Shared → Prop} {s : Shared} {v : Value}, K.In s.heap → s.heap.NoLimit → s.heap.Ns mainGlobals mg → (∃ mb, s.heap.Ns builtinsNs mb ∧ ∀ x : Str, x ≠ "__name__" → mb x = bootBuiltins x) → A.depth + 1 < recursionLimit →
    (∀ h' tk e d, PySem.ErrX.OwnMade s.heap h' e C d f v → R (.ok (.ret (.ref e))) { s with heap := h', toks := tk }) → codeAny (model prog w) A (.call (.ref C) ⟨[v], []⟩) R s
structure Err0 (prog : Program) (w : World) (K : Frag) (mg : Str → Option Value) (nm : Str) (C : Addr) : Prop where
  gC : mg nm = some (.ref C)
  kC : keepIn K (.ref C) = true
  exC : subIn K (.ref C) (.type "BaseException") = some true
  tyC : typeIn K (.ref C) = some (.type "type")
  made : ∀ {A : Around} {R : Result → Shared → Prop} {s : Shared}, K.In s.heap → s.heap.NoLimit → s.heap.Ns mainGlobals mg → (∃ mb, s.heap.Ns builtinsNs mb ∧ ∀ x : Str, x ≠ "__name__" → mb x = bootBuiltins x) → A.depth + 1 < recursionLimit →
    (∀ h' tk e, PySem.ErrX.OwnMade0 s.heap h' e C → R (.ok (.ret (.ref e))) { s with heap := h', toks := tk }) → codeAny (model prog w) A (.call (.ref C) ⟨[], []⟩) R s
theorem relO_one {v : V} {v' : Value} {n : Str} (r : RelV v v') (f : Str) : RelO (List.lookup f [(n, v)]) (if f = n then some v' else none) := by
  by_cases hw : f = n
  · subst hw
    rw [if_pos rfl]
    have q : List.lookup f [(f, v)] = some v := by simp [List.lookup]
    rw [q]
    exact r
  · rw [if_neg hw]
    have qw : (f == n) = false := by simpa using hw
    have q2 : List.lookup f [(n, v)] = none := by simp [List.lookup, qw]
    rw [q2]
    trivial
section
variable {X : Cx} {C : Addr} {nm f : Str}
theorem Inv.blt {pins : List (Addr × Obj)} {σ : St} {H : Hp} {s : Shared} (I : Inv X pins σ H s) : ∃ mb, s.heap.Ns builtinsNs mb ∧ ∀ x : Str, x ≠ "__name__" → mb x = bootBuiltins x := by
  obtain ⟨mb, h1, h2⟩ := I.mod.blt
  exact ⟨mb, h1.keeps I.bk, h2⟩
/-- nm(e) -/
def tMkE (C : Addr) (f : Str) (ta : TA) : St → Hp → XK → Prop := fun σ H Q => ta σ H fun vs H1 => ∃ v, vs = [v] ∧ ∀ d, H1 d = none → Q (.ref C) (some d) (upd H1 d (.xd [(f, v)]))
theorem pmk_err {a : Expr} {ta : TA} {p pos : Pos} {k : Nat} (T : Err1 X.prog X.w X.K X.mg nm f C) (hr : Room k X.A) (ha : PA X [a] ta) (hg : Gl X nm := by rfl) (hdb : (nm == ("__debug__" : Str)) = false := by decide)
    (he : starEach (a :: []) X.env = (false, eval a X.env) :: starEach [] X.env := by rfl) (hpl : (backTo pos (starEach [] X.env)).any (·.1) = false := by rfl) :
    L2N.PMk X (.Call (.Name nm p) [a] [] pos) (tMkE C f ta) := by
  intro pins s σ H Q I h
  refine wpAny_Call_Name_kw (ld_glob I hg T.gC ?_ hdb)
  refine PySem.W.callWith_K (h₀ := X.base) I.ok.mod.kin T.kC (thn (ha.run pos pins s σ H _ I h) fun us s1 hh => ?_) he hpl
  obtain ⟨vs, H1, I1, r1, v, ev, q1⟩ := hh
  subst ev
  refine ⟨I1.kIn, ?_⟩
  cases r1 with
  | cons rv rn =>
    rename_i v' us'
    cases rn
    show wpAny _ _ (call (.ref C) [v']) _ _ _
    have hlim := I1.nolimit
    have hG := I1.mod.glob.keeps I1.bk
    have hB := I1.blt
    obtain ⟨hp, g, dr, tk, os⟩ := s1
    refine wpAny_call (T.made I1.kIn hlim hG hB (by have := hr.dp; omega) fun h' tk' e d M => ?_)
    show L2N.MkP X pins σ Q (.ref e) ⟨h', g, dr, tk', os⟩
    obtain ⟨oe, fv, hoe, hc, hd, hdat, h1, h2⟩ := M.obj
    have hns := M.ns
    obtain ⟨G', g1, g2⟩ := restrict h' fun b => decide (b ≠ e)
    have gk : ∀ b, b ≠ e → G'.get? b = h'.get? b := fun b hb => g1 b (decide_eq_true hb)
    have ge : G'.get? e = none := g2 e (by simp)
    have old : ∀ b o, hp.get? b = some o → G'.get? b = some o := fun b o q => (gk b (Nat.ne_of_lt (Nat.lt_of_lt_of_le (Heap.lt_size q) M.new))).trans (M.keep b o q)
    have ob : ObjOk X.prog X.w (upd H1 d (.xd [(f, v)])) G' d (.xd [(f, v)]) :=
      ⟨_, hns.at (fun o q => (gk d M.dne).trans q), fun g => relO_one rv g⟩
    have J : Inv X pins σ (upd H1 d (.xd [(f, v)])) ⟨G', g, dr, tk', os⟩ := I1.laid (t' := tk') old M.dbig ob
    refine ⟨e, oe, fv, ⟨G', g, dr, tk', os⟩, _, .ref C, some d, rfl, J, fun b o q => ?_, ge, hoe, ⟨hc, hd, fun vs e => by rw [hdat] at e; cases e; exact h2⟩, hdat, h1, ?_, rfl, I1.bare, raises_own T.exC T.tyC, q1 d (I1.hok.fresh M.dbig)⟩
    · by_cases hb : b = e
      · have q' : G'.get? b = some o := q
        rw [hb, ge] at q'; cases q'
      · exact (gk b hb).symm.trans q
    · rw [upd_ne (Ne.symm M.dne)]
      exact I1.hok.fresh M.new
/-- nm() -/
def tMkE0 (C : Addr) : St → Hp → XK → Prop := fun _ H Q => Q (.ref C) none H
theorem pmk_err0 {p pos : Pos} {k : Nat} (T : Err0 X.prog X.w X.K X.mg nm C) (hr : Room k X.A) (hg : Gl X nm := by rfl) (hdb : (nm == ("__debug__" : Str)) = false := by decide) :
    L2N.PMk X (.Call (.Name nm p) [] [] pos) (tMkE0 C) := by
  intro pins s σ H Q I h
  refine wpAny_Call_Name_kw (ld_glob I hg T.gC ?_ hdb)
  refine PySem.W.callWith_K0 I.kIn T.kC ?_
  show wpAny _ _ (call (.ref C) []) _ _ _
  have hlim := I.nolimit
  have hG := I.mod.glob.keeps I.bk
  have hB := I.blt
  obtain ⟨hp, g, dr, tk, os⟩ := s
  refine wpAny_call (T.made I.kIn hlim hG hB (by have := hr.dp; omega) fun h' tk' e M => ?_)
  show L2N.MkP X pins σ Q (.ref e) ⟨h', g, dr, tk', os⟩
  obtain ⟨oe, fv, hoe, hc, hd, hdat, h1, h2⟩ := M.obj
  obtain ⟨G', g1, g2⟩ := restrict h' fun b => decide (b ≠ e)
  have gk : ∀ b, b ≠ e → G'.get? b = h'.get? b := fun b hb => g1 b (decide_eq_true hb)
  have ge : G'.get? e = none := g2 e (by simp)
  have old : ∀ b o, hp.get? b = some o → G'.get? b = some o := fun b o q => (gk b (Nat.ne_of_lt (Nat.lt_of_lt_of_le (Heap.lt_size q) M.new))).trans (M.keep b o q)
  have J : Inv X pins σ H ⟨G', g, dr, tk', os⟩ := I.kept (t' := tk') old
  refine ⟨e, oe, fv, ⟨G', g, dr, tk', os⟩, _, .ref C, none, rfl, J, fun b o q => ?_, ge, hoe, ⟨hc, hd, fun vs e => by rw [hdat] at e; cases e; exact h2⟩, hdat, h1, ?_, rfl, I.bare, raises_own T.exC T.tyC, h⟩
  · by_cases hb : b = e
    · have q' : G'.get? b = some o := q
      rw [hb, ge] at q'; cases q'
    · exact (gk b hb).symm.trans q
  · exact I.hok.fresh M.new
/-- e.f, e the exception that the suite holds (at a; its class cls, its dict d) -/
def tErrF (C : Addr) (f : Str) (a : Addr) (cls : Value) (d : Option Addr) (te : TE) : TE := fun σ H Q => te σ H fun x H1 => x = .ref a ∧ cls = .ref C ∧ ∃ (dd : Addr) (v : V), d = some dd ∧ H1 dd = some (.xd [(f, v)]) ∧ Q v H1
theorem pe_errF {a : Addr} {oe : Obj} {cls : Value} {d : Option Addr} {pn : List (Addr × Obj)} {e : Expr} {te : TE} {pos : Pos} (T : Err1 X.prog X.w X.K X.mg nm f C) (hz : Zc cls d oe) (hf : ∃ vs, oe.data = .fields vs) (he : PE (X.suite a ((a, oe) :: pn)) e te)
    (hb : attributeBase e f X.env (eval e X.env) = eval e X.env := by rfl) :
    PE (X.suite a ((a, oe) :: pn)) (.Attribute e f pos) (tErrF C f a cls d te) := by
  refine ⟨fun pins s σ H Q I h => ?_⟩
  refine attr_of hb (thn (he.run pins s σ H _ I h) fun u s1 hh => ?_)
  obtain ⟨x, H1, I1, rx, ex, ec, dd, v, ed, ea, q⟩ := hh
  subst ex
  obtain rfl : u = Value.ref a := rx
  subst ec
  subst ed
  obtain ⟨ha, _⟩ := I1.pin (a, oe) (List.mem_append_left _ List.mem_cons_self)
  obtain ⟨vs, hd⟩ := hf
  have hx : ObjOk X.prog X.w H1 s1.heap dd (.xd [(f, v)]) := I1.hok dd _ ea
  obtain ⟨mA, hns, hr⟩ := hx
  obtain ⟨od, ho, hl⟩ := lookIn_ns hns
  have l : List.lookup f [(f, v)] = some v := by simp [List.lookup]
  obtain ⟨u, hu, ru⟩ := RelO.some_of (v := v) (o := mA f) (by rw [← l]; exact hr f)
  have J : PySem.W.InstAt s1.heap a oe C (some od) := ⟨ha, hz.1, by unfold PySem.W.notCls; rw [hd] <;> rfl, by rw [hz.2]; exact ho⟩
  exact HandSPX.exc_get I1.kIn J T.ga T.gg T.exC (PySem.W.findObj_own T.hdC T.noN rfl (by rw [hl, hu])) (handed_of ru) ⟨v, H1, I1.tok _, ru, q⟩
end
end L2
namespace L2
open PySem PySem.Spec PyProof.Rows
/-- isinstance(e, c), e the exception that the suite holds -/
def rIsEE (K : PySem.W.Frag) (a : Addr) (cls : Value) (d : Option Addr) : List V → Hp → VK → Prop := fun xs H Q => ∃ (D : Addr) (c : V) (cv : Value) (b : Bool), cls = .ref D ∧ ExcC K D ∧ (d = none ∨ ∃ dd fs, d = some dd ∧ H dd = some (.xd fs)) ∧ xs = [.ref a, c] ∧ (∀ u, RelV c u → u = cv) ∧ PySem.W.kitOne K (.ref D) cv = some b ∧ Q (.bl b) H
theorem call_isEE {X : Cx} {a : Addr} {cls : Value} {d : Option Addr} {oe : Obj} {pn : List (Addr × Obj)} (hz : Zc cls d oe) (hf : ∃ vs, oe.data = .fields vs) : CallR (X.suite a ((a, oe) :: pn)) (.builtin "isinstance") (rIsEE X.K a cls d) := by
  intro pins s σ H xs us Q I r h
  obtain ⟨D, c, cv, b, rfl, C, hd, rfl, hcv, e, q⟩ := h
  cases r with
  | cons rx rr =>
    cases rr with
    | cons rt rr =>
      cases rr
      cases rx
      have ec := hcv _ rt
      subst ec
      obtain ⟨hget, _⟩ := I.pin (a, oe) (List.mem_append.mpr (.inl List.mem_cons_self))
      obtain ⟨vs, hv⟩ := hf
      have hcl : (PySem.W.clsIn X.K D).isSome = true := by
        obtain ⟨cd, hc, _⟩ := PySem.W.any_some C.hd
        rw [hc]; rfl
      have J : ∃ od, PySem.W.InstAt s.heap a oe D od := by
        obtain ⟨oc, od, oda, osl⟩ := oe
        obtain ⟨h1, h2⟩ := hz
        dsimp only at h1 h2 hv
        subst h1 h2 hv
        rcases hd with rfl | ⟨dd, fs, rfl, hx⟩
        · exact ⟨none, hget, rfl, rfl, trivial⟩
        · have hx2 : ObjOk X.prog X.w H s.heap dd (.xd fs) := I.hok dd _ hx
          obtain ⟨mA, hns, hr⟩ := hx2
          obtain ⟨od, ho, hl⟩ := lookIn_ns hns
          exact ⟨some od, hget, rfl, rfl, ho⟩
      obtain ⟨od, J⟩ := J
      exact PySem.W.kia_one (PySem.W.kitx_exc hcl C.hg C.hk C.hs C.ha C.hn C.ht C.hm) I.kIn J e (fun z => nomatch z) fun tk => ⟨.bl b, H, I.kept (t' := tk) fun _ _ z => z, rfl, q⟩
/-- raise nm(e), raise nm() -/
def tRaiseE (C : Addr) (f : Str) (W : WX) (ta : TA) : TS := fun _ σ H => tMkE C f ta σ H fun cls d H' => W cls d σ H'
def tRaiseE0 (C : Addr) (W : WX) : TS := fun _ σ H => W (.ref C) none σ H
section
variable {X : Cx} {C : Addr} {nm f : Str}
theorem ps_raiseE {a : Expr} {ta : TA} {W : WX} {p pos pos2 : Pos} {k : Nat} (hc : X.calm = true) (T : Err1 X.prog X.w X.K X.mg nm f C) (hr : Room k X.A) (tk : L2N.Takes X W) (ha : PA X [a] ta) (hg : Gl X nm := by rfl) (hdb : (nm == ("__debug__" : Str)) = false := by decide)
    (he : starEach (a :: []) X.env = (false, eval a X.env) :: starEach [] X.env := by rfl) (hpl : (backTo pos (starEach [] X.env)).any (·.1) = false := by rfl) :
    PS X (.Raise (some (.Call (.Name nm p) [a] [] pos)) none pos2) (tRaiseE C f W ta) := L2N.ps_raise hc tk (pmk_err T hr ha hg hdb he hpl)
theorem ps_raiseE0 {W : WX} {p pos pos2 : Pos} {k : Nat} (hc : X.calm = true) (T : Err0 X.prog X.w X.K X.mg nm C) (hr : Room k X.A) (tk : L2N.Takes X W) (hg : Gl X nm := by rfl) (hdb : (nm == ("__debug__" : Str)) = false := by decide) :
    PS X (.Raise (some (.Call (.Name nm p) [] [] pos)) none pos2) (tRaiseE0 C W) := L2N.ps_raise hc tk (pmk_err0 T hr hg hdb)
theorem passN {X : Cx} : Passes (L2N.CX X.prog X.w) X E0 := fun _ _ _ _ _ _ _ h => by
  obtain ⟨_, _, _, _, _, _, _, _, _, _, _, _, z⟩ := h
  exact z.elim
theorem takesN {X : Cx} : L2N.Takes X (fun _ _ _ _ => False) := fun _ _ x => by
  obtain ⟨_, _, _, _, _, _, _, _, _, _, _, _, _, _, _, _, z⟩ := x
  exact z.elim
/-- the suite is hot -/
theorem hotc {X : Cx} {a : Addr} {oe : Obj} {cls : Value} {d : Option Addr} {pn : List (Addr × Obj)} (hz : L2N.Zn cls d oe) (hf : ∃ vs, oe.data = .fields vs) : L2H.HotC (X.suite a ((a, oe) :: pn)) := by
  obtain ⟨vs, h⟩ := hf
  exact ⟨(a, oe), ⟨rfl, vs, h, hz.2.2 vs h⟩, List.mem_cons_self⟩
theorem hotH {CX : CXT} {P : Program} {w : World} {K : PySem.W.Frag} {mg : Str → Option Value} {base : Heap} {N : List Str} {qual : Str} {scope : Scope} {f : Addr} {cd : Value} {A : Around} {outer : List Env} {s : Shared} {H : Hp} {E : XK} {p : Addr × Obj} (h : L2H.Hot1 A p) : L2H.HotC (L2H.cxH CX P w K mg base N qual scope f cd A outer s H E p) :=
  ⟨p, ⟨h.1, h.2⟩, List.mem_singleton.mpr rfl⟩
end
/-- as FunD.ok, within an except suite -/
theorem FunD.okH {P : Program} {w : World} {K : PySem.W.Frag} {mg : Str → Option Value} {base : Heap} {x qual : Str} {params : Arguments} {body : List Stmt} {scope : Scope} {dvs : List V} {kws : List (Str × V)} {f : Addr} {fd : FuncData} {CX : CXT} {N ps : List Str} {k : Nat} {sp : Sp} (F : FunD K x qual params body scope dvs kws f fd) (S : FnScope N ps scope) (len : ∀ vs H Q E, sp vs H Q E → vs.length = ps.length)
    (hbody : ∀ (cdv : Value) (A : Around) (outer : List Env) (s : Shared) (H : Hp) (vs : List V) (Q : VK) (E : XK) (p : Addr × Obj), L2H.Hot1 A p → L2H.RoomH k (A.deeper (envOfC qual scope s.heap.objs.size f cdv)) → sp vs H Q E →
      ∃ t, PSs (L2H.cxH CX P w K mg base N qual scope f cdv A outer s H E p) body t ∧ t { nx := fun _ H' => Q .non H', rt := Q } (start N vs) H) : L2H.FnH P w K mg base CX (k + 1) f fd ps sp := by
  obtain ⟨oc, od, dV, kV, doc, pm, an, cdv, ct, osl, rfl, lk, hcd, _, _⟩ := F.ex
  exact L2H.fn_ofH lk hcd S len fun A outer s H vs Q E p hot hr hsp => hbody cdv A outer s H vs Q E p hot hr hsp
end L2
theorem L2H.RoomH.units {k : Nat} {A : PySem.Around} (r : L2H.RoomH k A) : A.units + 64 < PySem.cLine := by have := r.un; omega
/-! the head's facts: defs, error classes, Bools -/
namespace Hk
open PySem PySem.W PySem.Spec PyProof.Rows L2 He
abbrev FnZ : Type := Option (PySem.Str × PySem.Str × Arguments × FuncBody × Scope)
def fnZ (K : Frag) (a : Addr) : FnZ := match K.lookup a with
  | some ⟨_, _, .func fd, _⟩ => some (fd.name, fd.qualname, fd.params, fd.body, fd.scope)
  | _ => none
structure It where
  at_ : Frag → Addr
  val : FnZ
  ok : Frag → Bool
structure DefX where
  at_ : Frag → Addr
  name : PySem.Str
  qual : PySem.Str
  params : Arguments
  body : List Stmt
  scope : Scope
  dfl : List Dv := []
  kwd : List (PySem.Str × Dv) := []
def DefX.val (d : DefX) : FnZ := some (d.name, d.qual, d.params, .stmts d.body, d.scope)
def DefX.dvs (K : Frag) (d : DefX) : List V := d.dfl.map (Dv.v K)
def DefX.kws (K : Frag) (d : DefX) : List (PySem.Str × V) := d.kwd.map fun q => (q.1, q.2.v K)
def defOk (K : Frag) (a : Addr) (qual : PySem.Str) (dvs : List V) (kws : List (PySem.Str × V)) : Bool := keepIn K (.ref a) && (match K.lookup a with
  | some ⟨_, _, .func fd, _⟩ => codeIn K fd.code qual && (decide (fd.globals = mainGlobals) && (decide (fd.builtins = builtinsNs) && (fd.closure.isEmpty && (dflB K fd.defaults dvs && kwdB K fd.kwdefaults kws))))
  | _ => false)
def DefX.it (d : DefX) : It := ⟨d.at_, d.val, fun K => defOk K (d.at_ K) d.qual (d.dvs K) (d.kws K)⟩
theorem DefX.funD {K : Frag} {d : DefX} (e : fnZ K (d.at_ K) = d.val) (c : d.it.ok K = true) : ∃ fd, FunD K d.name d.qual d.params d.body d.scope (d.dvs K) (d.kws K) (d.at_ K) fd := by
  obtain ⟨kp, c2⟩ := ba c
  unfold fnZ at e
  cases q : K.lookup (d.at_ K) with
  | none =>
    rw [q] at c2
    cases c2
  | some o =>
    obtain ⟨oc, od, dt, osl⟩ := o
    rw [q] at c2 e
    cases dt with
    | func fd =>
      obtain ⟨n1, n2, n3, n4, n5, n6, n7, n8, n9, n10, n11, n12, n13, n14, n15⟩ := fd
      have e2 : (some (n1, n2, n3, n4, n5) : FnZ) = some (d.name, d.qual, d.params, .stmts d.body, d.scope) := e
      simp only [Option.some.injEq, Prod.mk.injEq] at e2
      obtain ⟨h1, h2, h3, h4, h5⟩ := e2
      have c3 : (codeIn K n13 d.qual && (decide (n6 = mainGlobals) && (decide (n15 = builtinsNs) && (n7.isEmpty && (dflB K n8 (d.dvs K) && kwdB K n9 (d.kws K)))))) = true := c2
      obtain ⟨k1, k2⟩ := ba c3
      obtain ⟨k3, k4⟩ := ba k2
      obtain ⟨k5, k6⟩ := ba k4
      obtain ⟨k7, k8⟩ := ba k6
      obtain ⟨k9, k10⟩ := ba k8
      have h6 := of_decide_eq_true k3
      have h7 := of_decide_eq_true k5
      have h8 : n7 = [] := List.isEmpty_iff.mp k7
      subst h1 h2 h3 h4 h5 h6 h7 h8
      exact ⟨_, ⟨oc, od, n8, n9, n10, n11, n12, n13, n14, osl, rfl, q, k1, dflB_ok k9, kwdB_ok k10⟩, kp⟩
    | _ => cases c2
/-! ### error classes -/
def clsB (K : Frag) (C : Addr) : Bool := match K.lookup C with
  | some ⟨.type ty, _, .cls cd, sl⟩ => (match cd.mro, sl.toList with
    | .ref C' :: bm, [_, _, _, _, some (.builtin n), _] => decide (ty = "type") && (decide (C' = C) && (decide (n = "ValueError.__new__") && (!cd.hasDel && (cd.hasDict && HandSPX.refsVE bm))))
    | _, _ => false)
  | _ => false
theorem clsB_ok {K : Frag} {C : Addr} (q : clsB K C = true) : ∃ nm q N bs bm sn sub ab col dd k0 k1 k2 k3 k5, K.lookup C = some (excClassObj nm q C N bs bm true sn sub ab col dd k0 k1 k2 k3 k5 "ValueError.__new__") ∧ HandSPX.refsVE bm = true := by
  unfold clsB at q
  split at q
  · rename_i ty dd cd sl ho
    split at q
    · rename_i C' bm k0 k1 k2 k3 n k5 hm hs
      obtain ⟨q1, q⟩ := ba q
      obtain ⟨q2, q⟩ := ba q
      obtain ⟨q3, q⟩ := ba q
      obtain ⟨q4, q⟩ := ba q
      obtain ⟨q5, q6⟩ := ba q
      have e1 := of_decide_eq_true q1
      have e2 := of_decide_eq_true q2
      have e3 := of_decide_eq_true q3
      obtain ⟨nm, bs, mro, ns, qn, hd, sn, sub, ab, col, del⟩ := cd
      dsimp only at hm q4 q5
      have e4 : del = false := by simpa using q4
      have hsl : sl = #[k0, k1, k2, k3, some (.builtin n), k5] := by
        obtain ⟨l⟩ := sl
        simp only at hs
        rw [hs]
      subst e1 e2 e3 hm e4 q5 hsl
      exact ⟨nm, qn, ns, bs, bm, sn, sub, ab, col, dd, k0, k1, k2, k3, k5, ho, q6⟩
    · cases q
  · cases q
def initB (K : Frag) (C fI : Addr) (file : PySem.Str) : Bool := match K.lookup fI with
  | some ⟨_, _, .func fd, _⟩ => (match fd.code, fd.closure with
    | .ref cda, [(x, cc)] => decide (x = "__class__" ∧ fd.defaults = .none) && (codeIn K (.ref cda) fd.qualname && (decide (fd.globals = mainGlobals) && (decide (fd.builtins = builtinsNs) && ((match K.lookup cda with
        | some ⟨_, _, .fields vs, _⟩ => (match (vs[2]? : Option Value) with
          | some (Value.str fl _) => decide (fl = file)
          | _ => false)
        | _ => false) && (match K.lookup cc with
        | some ⟨_, _, .cell (some (.ref D)), _⟩ => decide (D = C)
        | _ => false)))))
    | _, _ => false)
  | _ => false
theorem initB_ok {K : Frag} {C fI : Addr} {file : PySem.Str} {prog : Program} {nm0 qual0 : PySem.Str} {params : Arguments} {body : List Stmt} {scope : Scope} (h : initB K C fI file = true) (e : fnZ K fI = some (nm0, qual0, params, .stmts body, scope)) (hfile : (prog.main.file : PySem.Str) = file) :
  ∃ (oc : Value) (od : Option Addr) (nm qual : PySem.Str) (kV doc pm : Value) (an : Option Addr) (cda cc : Addr) (ct : Value) (osl : Array (Option Value)) (ccl : Value) (cdd : Option Addr) (vs : Array Value) (ccs : Array (Option Value)) (file : PySem.Str) (tf : Tok) (cl : Value) (cld : Option Addr) (csl : Array (Option Value)),
    K.lookup fI = some ⟨oc, od, .func (ksFn nm qual params body scope .none kV doc pm an (.ref cda) ct cc), osl⟩ ∧ codeIn K (.ref cda) qual = true ∧
    K.lookup cda = some ⟨ccl, cdd, .fields vs, ccs⟩ ∧ vs[2]? = some (.str file tf) ∧ ((prog.main.file : PySem.Str) == file) = true ∧ K.lookup cc = some ⟨cl, cld, .cell (some (.ref C)), csl⟩ := by
  unfold initB at h
  unfold fnZ at e
  cases q : K.lookup fI with
  | none =>
    rw [q] at h
    cases h
  | some o =>
    obtain ⟨oc, od, dt, osl⟩ := o
    rw [q] at h e
    cases dt with
    | func fd =>
      obtain ⟨n1, n2, n3, n4, n5, n6, n7, n8, n9, n10, n11, n12, n13, n14, n15⟩ := fd
      have e2 : (some (n1, n2, n3, n4, n5) : FnZ) = some (nm0, qual0, params, .stmts body, scope) := e
      simp only [Option.some.injEq, Prod.mk.injEq] at e2
      obtain ⟨h1, h2, h3, h4, h5⟩ := e2
      dsimp only at h
      split at h
      · rename_i cda x cc
        obtain ⟨g1, h⟩ := ba h
        obtain ⟨g2, h⟩ := ba h
        obtain ⟨g3, h⟩ := ba h
        obtain ⟨g4, h⟩ := ba h
        obtain ⟨g5, g6⟩ := ba h
        obtain ⟨f1, f0⟩ := of_decide_eq_true g1
        have f3 := of_decide_eq_true g3
        have f4 := of_decide_eq_true g4
        split at g5
        · rename_i ccl cdd vs ccs hcode
          split at g5
          · rename_i fl tf hvs
            have f5 := of_decide_eq_true g5
            split at g6
            · rename_i cl cld D csl hcell
              have f6 := of_decide_eq_true g6
              subst h1 h2 h3 h4 h5 f1 f0 f3 f4 f5 f6
              exact ⟨oc, od, _, _, n9, n10, n11, n12, cda, cc, n14, osl, ccl, cdd, vs, ccs, _, tf, cl, cld, csl, rfl, g2, hcode, hvs, by rw [hfile]; exact beq_self_eq_true _, hcell⟩
            · cases g6
          · cases g5
        · cases g5
      · cases h
    | _ => cases h
def errB (K : Frag) (nm : PySem.Str) (fs : List PySem.Str) (file : PySem.Str) : Bool :=
  eqO (nsIn K mainGlobals nm) (some (some (.ref (ga K nm)))) && (clsB K (ga K nm) && (eqO (findIn K (.ref (ga K nm)) "__setattr__") (some (some (.builtin "object.__setattr__"))) &&
  (eqO (findIn K (.ref (ga K nm)) "__getattribute__") (some (some (.builtin "BaseException.__getattribute__"))) && (eqO (findIn K (.ref (ga K nm)) "__getattr__") (some none) &&
  (eqO (findIn K (.ref (ga K nm)) "__init__") (some (some (.ref (ma K (ga K nm) "__init__")))) && (decide (typeIn K (.ref (ma K (ga K nm) "__init__")) = some (.type "function")) && (keepIn K (.ref (ga K nm)) &&
  (decide (subIn K (.ref (ga K nm)) (.type "BaseException") = some true) && (decide (subIn K (.ref (ga K nm)) (.type "ValueError") = some true) && (decide (typeIn K (.ref (ga K nm)) = some (.type "type")) && (hasDictIn K (ga K nm) &&
  (decide (mroIn K (ga K nm) (.ref (ga K nm)) = some true) && (eqO (ks_superIn K (ga K nm) (ga K nm) "__init__") (some (some (.builtin "ValueError.__init__"))) && (eqO (nsIn K cStatics "thirdparty.any") (some none) &&
  (eqO (nsIn K mainGlobals "super") (some none) && (initB K (ga K nm) (ma K (ga K nm) "__init__") file && fs.all fun f => eqO (findIn K (.ref (ga K nm)) f) (some none)))))))))))))))))
structure ErrD where
  name : PySem.Str
  fs : List PySem.Str
  qual : PySem.Str
  params : Arguments
  body : List Stmt
  scope : Scope
def ErrD.it (file : PySem.Str) (d : ErrD) : It := ⟨fun K => ma K (ga K d.name) "__init__", some ("__init__", d.qual, d.params, .stmts d.body, d.scope), fun K => errB K d.name d.fs file⟩
/-- the scope's facts, by decide -/
structure ScopeE (prog : Program) (scope : Scope) (params : Arguments) : Prop where
  ar : ∃ pp, (params.posonlyargs ++ params.args).head? = some ⟨"self", none, pp⟩
  hks : scope.names.lookup ("super" : PySem.Str) = some .globalImplicit
  hkc : scope.names.lookup ("__class__" : PySem.Str) = some .free
  hka : scope.names.lookup ("self" : PySem.Str) = some .local
  hk : scope.kind = .function
  hco : scope.isCoroutine = false
  hgen : scope.isGenerator = false
  hcell : ∀ x ∈ scope.names, x.2 ≠ .cell
  htop : (prog.main.scope.names.lookup ("super" : PySem.Str)).isSome = false
theorem errC_of {prog : Program} {K : Frag} {nm qual0 nm0 file : PySem.Str} {fs : List PySem.Str} {params : Arguments} {body : List Stmt} {scope : Scope} (c : errB K nm fs file = true) (e : fnZ K (ma K (ga K nm) "__init__") = some (nm0, qual0, params, .stmts body, scope))
    (hfile : (prog.main.file : PySem.Str) = file) (S : ScopeE prog scope params) : PySem.ErrX.ErrC prog K (ga K nm) (ma K (ga K nm) "__init__") body scope params ∧ nsIn K mainGlobals nm = some (some (.ref (ga K nm))) ∧ ∀ f ∈ fs, findIn K (.ref (ga K nm)) f = some none := by
  unfold errB at c
  obtain ⟨c0, c⟩ := ba c
  obtain ⟨c1, c⟩ := ba c
  obtain ⟨c2, c⟩ := ba c
  obtain ⟨c3, c⟩ := ba c
  obtain ⟨c4, c⟩ := ba c
  obtain ⟨c5, c⟩ := ba c
  obtain ⟨c6, c⟩ := ba c
  obtain ⟨c7, c⟩ := ba c
  obtain ⟨c8, c⟩ := ba c
  obtain ⟨c9, c⟩ := ba c
  obtain ⟨c10, c⟩ := ba c
  obtain ⟨c11, c⟩ := ba c
  obtain ⟨c12, c⟩ := ba c
  obtain ⟨c13, c⟩ := ba c
  obtain ⟨c14, c⟩ := ba c
  obtain ⟨c15, c⟩ := ba c
  obtain ⟨c16, c17⟩ := ba c
  exact ⟨{ cls := clsB_ok c1, sa := eqO_ok c2, ga := eqO_ok c3, gg := eqO_ok c4, iC := eqO_ok c5, tC := of_decide_eq_true c6, kC := c7, exC := of_decide_eq_true c8, veC := of_decide_eq_true c9, tyC := of_decide_eq_true c10, hdC := c11, mroC := of_decide_eq_true c12,
           supC := eqO_ok c13, opq := eqO_ok c14, supG := eqO_ok c15, fn := initB_ok c16 e hfile, ar := S.ar, hks := S.hks, hkc := S.hkc, hka := S.hka, hk := S.hk, hco := S.hco, hgen := S.hgen, hcell := S.hcell, htop := S.htop }, eqO_ok c0, fun f hf => eqO_ok (List.all_eq_true.mp c17 f hf)⟩
section
variable {prog : Program} {w : World} {K : Frag} {h : Heap} {mg : PySem.Str → Option Value} {nm qual0 nm0 file f msg : PySem.Str} {params : Arguments} {scope : Scope} {a1 a2 a3 a4 a5 a6 b1 b2 b3 b4 : Pos}
theorem err1_of (X : K.In h) (G : h.Ns mainGlobals mg) (c : errB K nm [f] file = true) (e : fnZ K (ma K (ga K nm) "__init__") = some (nm0, qual0, params, .stmts [PySem.ErrX.supS msg a1 a2 a3 a4 a5 a6, PySem.ErrX.fldS f b1 b2 b3 b4], scope))
    (hfile : (prog.main.file : PySem.Str) = file) (S : ScopeE prog scope params) (hline : (a3.endLine == a5.line) = true)
    (hbind : ∀ (nm qual : PySem.Str) (kV doc pm : Value) (an : Option Addr) (cdv ct : Value) (cc : Addr) (x y : Value), bindArgs (ksFn nm qual params [PySem.ErrX.supS msg a1 a2 a3 a4 a5 a6, PySem.ErrX.fldS f b1 b2 b3 b4] scope .none kV doc pm an cdv ct cc) ⟨[x, y], []⟩ = pure [(("self" : PySem.Str), x), (f, y)])
    (hkf : scope.names.lookup f = some .local) (hne : (("self" : PySem.Str) == f) = false) (hdf : (f == ("__debug__" : PySem.Str)) = false) : Err1 prog w K mg nm f (ga K nm) := by
  obtain ⟨T, g, hf⟩ := errC_of c e hfile S
  have noN := hf f (List.mem_singleton.mpr rfl)
  exact { gC := mg_of X G g, kC := T.kC, exC := T.exC, tyC := T.tyC, hdC := T.hdC, ga := T.ga, gg := T.gg, noN := noN, made := fun X hl hG hB hr hq => PySem.ErrX.made1 T hline hbind hkf hne hdf noN X hl hG hB hr hq }
theorem err0_of (X : K.In h) (G : h.Ns mainGlobals mg) (c : errB K nm [] file = true) (e : fnZ K (ma K (ga K nm) "__init__") = some (nm0, qual0, params, .stmts [PySem.ErrX.supS msg a1 a2 a3 a4 a5 a6], scope))
    (hfile : (prog.main.file : PySem.Str) = file) (S : ScopeE prog scope params) (hline : (a3.endLine == a5.line) = true)
    (hbind : ∀ (nm qual : PySem.Str) (kV doc pm : Value) (an : Option Addr) (cdv ct : Value) (cc : Addr) (x : Value), bindArgs (ksFn nm qual params [PySem.ErrX.supS msg a1 a2 a3 a4 a5 a6] scope .none kV doc pm an cdv ct cc) ⟨[x], []⟩ = pure [(("self" : PySem.Str), x)]) : Err0 prog w K mg nm (ga K nm) := by
  obtain ⟨T, g, _⟩ := errC_of c e hfile S
  exact { gC := mg_of X G g, kC := T.kC, exC := T.exC, tyC := T.tyC, made := fun X hl hG hB hr hq => PySem.ErrX.made0 T hline hbind X hl hG hB hr hq }
end
/-- ExcC as a Bool -/
def excCB (K : Frag) (D : Addr) : Bool := eqO (findIn K (.ref D) "__getattribute__") (some (some (.builtin "BaseException.__getattribute__"))) && (eqO (findIn K (.ref D) "__getattr__") (some none) && (decide (subIn K (.ref D) (.type "BaseException") = some true) &&
  (hasDictIn K D && (eqO (findIn K (.ref D) "__class__") (some (some (.builtin "object.__class__"))) && (eqO (specialIn K (.builtin "object.__class__") "__get__") (some (some (.builtin "getset_descriptor.__get__"))) &&
  (decide (takesIn K (.builtin "object.__class__") = some true) && decide (mroIn K D (.type "object") = some true)))))))
theorem excCB_ok {K : Frag} {D : Addr} (c : excCB K D = true) : ExcC K D := by
  unfold excCB at c
  obtain ⟨c1, c⟩ := ba c
  obtain ⟨c2, c⟩ := ba c
  obtain ⟨c3, c⟩ := ba c
  obtain ⟨c4, c⟩ := ba c
  obtain ⟨c5, c⟩ := ba c
  obtain ⟨c6, c⟩ := ba c
  obtain ⟨c7, c8⟩ := ba c
  exact ⟨eqO_ok c1, eqO_ok c2, of_decide_eq_true c3, c4, eqO_ok c5, eqO_ok c6, of_decide_eq_true c7, of_decide_eq_true c8⟩
def kitB (K : Frag) (x y : Value) (b : Bool) : Bool := decide (kitOne K x y = some b)
theorem kitB_ok {K : Frag} {x y : Value} {b : Bool} (h : kitB K x y b = true) : kitOne K x y = some b := of_decide_eq_true h
/-- the function's data at a -/
def fdOf (K : Frag) (a : Addr) : FuncData := match K.lookup a with
  | some ⟨_, _, .func fd, _⟩ => fd
  | _ => fnOf "" "" ⟨[], [], none, [], [], none, []⟩ [] ⟨.function, [], false, false, []⟩ .none .none .none .none none .none .none
theorem fdOf_eq {K : Frag} {x qual : PySem.Str} {params : Arguments} {body : List Stmt} {scope : Scope} {dvs : List V} {kws : List (PySem.Str × V)} {f : Addr} {fd : FuncData} (F : FunD K x qual params body scope dvs kws f fd) : FunD K x qual params body scope dvs kws f (fdOf K f) := by
  obtain ⟨oc, od, dV, kV, doc, pm, an, cdv, ct, osl, e, lk, r⟩ := F.ex
  have e2 : fdOf K f = fd := by unfold fdOf; rw [lk]
  rw [e2]
  exact F
/-! ### the Hook -/
abbrev AlZ : Type := Bool × List FnZ
def obsZ (fa : List Fa) (ex : List (Frag → Bool)) (its : List It) (K : Frag) : AlZ := ((fa.all fun f => f.ok K) && ((ex.all fun f => f K) && its.all fun d => d.ok K), its.map fun d => fnZ K (d.at_ K))
def valZ (its : List It) : AlZ := (true, its.map It.val)
def SaysZ (fa : List Fa) (ex : List (Frag → Bool)) (its : List It) (K : Frag) : Prop := obsZ fa ex its K = valZ its
def obsZG (n : Nat) (fa : List Fa) (ex : List (Frag → Bool)) (its : List It) (g : Addr → Option Obj) : AlZ := obsZ fa ex its (frG g (He5.asA g n))
def hookZ (n : Nat) (fa : List Fa) (ex : List (Frag → Bool)) (its : List It) : PySem.W.Hook where
  α := AlZ
  obs := fun s => obsZG n fa ex its s.heap.get?
  val := fun _ => valZ its
  says := fun _ h => ∃ K : Frag, K.In h ∧ SaysZ fa ex its K
  of := fun _ _ e => ⟨_, frG_in, e⟩
  keeps := fun _ _ _ ⟨K, hK, c⟩ k => ⟨K, Frag.In.keeps hK k, c⟩
theorem obsZG_eq {n : Nat} {fa : List Fa} {ex : List (Frag → Bool)} {its : List It} {g : Addr → Option Obj} {s : Shared} (h : ∀ a, g a = s.heap.get? a) : obsZG n fa ex its g = (hookZ n fa ex its).obs s := by
  have e : g = s.heap.get? := funext h
  rw [e] <;> rfl
section
variable {fa : List Fa} {ex : List (Frag → Bool)} {its : List It} {K : Frag}
theorem SaysZ.fact (c : SaysZ fa ex its K) (i : Nat) {f : Fa} (h : fa[i]? = some f := by rfl) : f.ok K = true := by
  have c1 := (ba (show ((fa.all fun f => f.ok K) && ((ex.all fun f => f K) && its.all fun d => d.ok K)) = true from congrArg (fun z : AlZ => z.1) c)).1
  exact List.all_eq_true.mp c1 f (List.mem_of_getElem? h)
theorem SaysZ.more (c : SaysZ fa ex its K) (i : Nat) {f : Frag → Bool} (h : ex[i]? = some f := by rfl) : f K = true := by
  have c1 := (ba (ba (show ((fa.all fun f => f.ok K) && ((ex.all fun f => f K) && its.all fun d => d.ok K)) = true from congrArg (fun z : AlZ => z.1) c)).2).1
  exact List.all_eq_true.mp c1 f (List.mem_of_getElem? h)
theorem SaysZ.it (c : SaysZ fa ex its K) (i : Nat) {d : It} (h : its[i]? = some d := by rfl) : fnZ K (d.at_ K) = d.val ∧ d.ok K = true := by
  have c2 := (ba (ba (show ((fa.all fun f => f.ok K) && ((ex.all fun f => f K) && its.all fun d => d.ok K)) = true from congrArg (fun z : AlZ => z.1) c)).2).2
  have e : its.map (fun d => fnZ K (d.at_ K)) = its.map It.val := congrArg (fun z : AlZ => z.2) c
  have e2 : (its.map fun d => fnZ K (d.at_ K))[i]? = (its.map It.val)[i]? := by rw [e]
  rw [List.getElem?_map, List.getElem?_map, h] at e2
  exact ⟨Option.some.inj e2, List.all_eq_true.mp c2 d (List.mem_of_getElem? h)⟩
theorem SaysZ.def_ (c : SaysZ fa ex its K) (i : Nat) {d : DefX} (h : its[i]? = some d.it := by rfl) : ∃ fd, FunD K d.name d.qual d.params d.body d.scope (d.dvs K) (d.kws K) (d.at_ K) fd := by
  obtain ⟨e1, e2⟩ := c.it i h
  exact DefX.funD e1 e2
theorem SaysZ.fn (c : SaysZ fa ex its K) (i : Nat) {d : DefX} (h : its[i]? = some d.it := by rfl) : FunD K d.name d.qual d.params d.body d.scope (d.dvs K) (d.kws K) (d.at_ K) (fdOf K (d.at_ K)) := by
  obtain ⟨fd, F⟩ := c.def_ i h
  exact fdOf_eq F
end
/-- a law: as walk_ofE, with the script's bits -/
theorem walk_ofEB {l : PySem.W.OpenLaw} {n k : Nat} {q : Program} {loose : List PySem.Str} {XP : (PySem.Str → Option Value) → Heap → Prop} {YP : World → Heap → Prop} {d : DefRec} {CX : World → CXT} {x : PySem.Str}
    (hn : l.most = some n) (hn2 : n ≤ sizeLine) (hdf : d.params.defaults = []) (hr : Room k callerA)
    (F : ∀ (w : World) (mg : PySem.Str → Option Value) (fa : Addr) (h : Heap), YP w h → h.Ns mainGlobals mg → mg d.name = some (.ref fa) →
      ∃ (K : PySem.W.Frag) (fd : FuncData) (sp : Sp), K.In h ∧ (∀ (s : Shared) (u : Value), BindsTo s fd ⟨[u], []⟩ [(x, u)]) ∧
        (∀ (H : Hp) (a : Addr) (ns : List Int), ns.length ≤ n → (∀ k ∈ ns, Builtin.Int.intBits k ≤ 1048576) → Only H → SqL K H a (ns.map V.int) → sp [.ref a] H (fun v _ => v = .bl true) fun _ _ _ => False) ∧
        ∀ base : Heap, K.In base → base.Ns mainGlobals mg → FnOk l.prog w K mg base (CX w) k fa fd [x] sp)
    (hCX : ∀ (w : World) (H : Hp) (s : Shared) (e : Value) (s' : Shared), CX w [] H s (fun _ _ _ => False) e s' → False) :
    PySem.W.WalkO q loose XP YP l.row.toRowW d [] (fun f vs => PySem.call f vs) := by
  refine Att.attach_callB hn hdf fun w s₀ s₁ mg mb fa o pm cd doc a vs ns G Y ho hd hcd hmg hobj hints hlen hbits hg => ?_
  obtain ⟨K, fd, sp, KX, hb, hsp, hF⟩ := F w mg fa _ Y G.T.g hmg
  exact law_call KX G.T.g G.T.b G.T.builtins G.T.nolimit hg hobj hints (Nat.le_trans hlen hn2) hr hF hb (fun H hO hS => hsp H a ns hlen hbits hO hS) fun H e s' => hCX w H s₁ e s'
end Hk
/-! operators by the values' own kinds; steps -/
namespace Px
open PySem PySem.Spec PyProof.Rows L2
section
variable {X : Cx}
/-- + -/
def rAddP (K : PySem.W.Frag) : R2 := fun x y H Q => match x, y with
  | .int i, .int j => Q (.int (i + j)) H
  | .str i, .str j => i.length + j.length ≤ sizeLine ∧ Q (.str (i ++ j)) H
  | .ref a, .ref b => rCat (.ref a) (.ref b) H Q ∨ rCatA K (.ref a) (.ref b) H Q
  | _, _ => False
theorem op_addP : OpR X (binaryOp .Add) (rAddP X.K) := by
  intro pins s σ H x y v u Q I rx ry h
  cases x <;> cases y <;> first
    | exact False.elim h
    | exact op_add pins s σ H _ _ v u Q I rx ry ⟨_, _, rfl, rfl, h⟩
    | exact op_add_str pins s σ H _ _ v u Q I rx ry ⟨_, _, rfl, rfl, h.1, h.2⟩
    | (rcases h with h | h
       · exact op_cat pins s σ H _ _ v u Q I rx ry h
       · exact op_catA pins s σ H _ _ v u Q I rx ry h)
/-- ints -/
def rIn2 (C : Int → Int → Prop) (g : Int → Int → V) : R2 := fun x y H Q => match x, y with
  | .int i, .int j => C i j ∧ Q (g i j) H
  | _, _ => False
theorem OpR.in2 {f : Value → Value → Sem Value} {C : Int → Int → Prop} {g : Int → Int → V} (h : OpR X f (rI C g)) : OpR X f (rIn2 C g) := by
  intro pins s σ H x y v u Q I rx ry q
  cases x <;> cases y <;> first
    | exact False.elim q
    | exact h pins s σ H _ _ v u Q I rx ry ⟨_, _, rfl, rfl, q.1, q.2⟩
def rIn0 (g : Int → Int → V) : R2 := fun x y H Q => match x, y with
  | .int i, .int j => Q (g i j) H
  | _, _ => False
theorem OpR.in0 {f : Value → Value → Sem Value} {g : Int → Int → V} (h : OpR X f (rI0 g)) : OpR X f (rIn0 g) := by
  intro pins s σ H x y v u Q I rx ry q
  cases x <;> cases y <;> first
    | exact False.elim q
    | exact h pins s σ H _ _ v u Q I rx ry ⟨_, _, rfl, rfl, q⟩
abbrev rSubP : R2 := rIn0 fun i j => .int (i - j)
theorem op_subP : OpR X (binaryOp .Sub) rSubP := OpR.in0 op_sub
def CMulP (i j : Int) : Prop := CMul i j ∨ CMulW i j
abbrev rMulP : R2 := rIn2 CMulP fun i j => .int (i * j)
theorem op_mulP : OpR X (binaryOp .Mult) rMulP := OpR.in2 (opI fun _ _ _ _ _ _ _ hc q => mul_int q (hc.elim CMul.ok CMulW.ok))
def CDivP (_ j : Int) : Prop := j ≠ 0 ∧ j.natAbs.log2 < 9000
abbrev rFdivP : R2 := rIn2 CDivP fun i j => .int (i.fdiv j)
theorem op_fdivP : OpR X (binaryOp .FloorDiv) rFdivP := OpR.in2 (opI fun _ _ _ _ _ _ _ hc q => floordiv_int hc.1 q (.inl (PyProof.noPylong_of_log2 hc.2)))
abbrev rModP : R2 := rIn2 (fun _ j => j ≠ 0) fun i j => .int (i.fmod j)
theorem op_modP : OpR X (binaryOp .Mod) rModP := OpR.in2 op_modN
abbrev rPowP : R2 := rIn2 CPow fun i j => .int (i ^ j.toNat)
theorem op_powP : OpR X (binaryOp .Pow) rPowP := OpR.in2 op_pow
/-- ==, != -/
def rEqP (K : PySem.W.Frag) : R2 := fun x y H Q => match scal x y with
  | true => Q (.bl (decide (x = y))) H
  | false => rEqD K x y H Q
theorem op_eqP (hu : X.A.units + 64 < cLine) : OpR X (compareOp .Eq) (rEqP X.K) := by
  intro pins s σ H x y v u Q I rx ry h
  unfold rEqP at h
  cases e : scal x y with
  | true => rw [e] at h; exact op_eq pins s σ H _ _ v u Q I rx ry ⟨e, h⟩
  | false => rw [e] at h; exact op_eqD hu pins s σ H _ _ v u Q I rx ry h
def rNeP (K : PySem.W.Frag) : R2 := fun x y H Q => match scal x y with
  | true => Q (.bl (!decide (x = y))) H
  | false => rNeD K x y H Q
theorem op_neP (hu : X.A.units + 64 < cLine) : OpR X (compareOp .NotEq) (rNeP X.K) := by
  intro pins s σ H x y v u Q I rx ry h
  unfold rNeP at h
  cases e : scal x y with
  | true => rw [e] at h; exact op_ne pins s σ H _ _ v u Q I rx ry ⟨e, h⟩
  | false => rw [e] at h; exact op_neD hu pins s σ H _ _ v u Q I rx ry h
/-- <, <=, >, >= -/
def rLtP : R2 := fun x y H Q => match x, y with
  | .int i, .int j => Q (.bl (decide (i < j))) H
  | .str i, .str j => Q (.bl (decide (i.cps.toList < j.cps.toList))) H
  | _, _ => False
theorem op_ltP : OpR X (compareOp .Lt) rLtP := by
  intro pins s σ H x y v u Q I rx ry h
  cases x <;> cases y <;> first
    | exact False.elim h
    | exact op_lt pins s σ H _ _ v u Q I rx ry ⟨_, _, rfl, rfl, h⟩
    | exact op_lt_str pins s σ H _ _ v u Q I rx ry ⟨_, _, rfl, rfl, h⟩
abbrev rLeP : R2 := rIn0 fun i j => .bl (decide (i ≤ j))
theorem op_leP : OpR X (compareOp .LtE) rLeP := OpR.in0 op_le
abbrev rGtP : R2 := rIn0 fun i j => .bl (decide (j < i))
theorem op_gtP : OpR X (compareOp .Gt) rGtP := OpR.in0 op_gt
abbrev rGeP : R2 := rIn0 fun i j => .bl (decide (j ≤ i))
theorem op_geP : OpR X (compareOp .GtE) rGeP := OpR.in0 op_ge
/-- in, not in -/
def strIn (i j : Str) : Bool := !(Builtin.Str.occurrences j i 0 j.length 1).isEmpty
theorem strIn_sign (c : Nat) (z : Str) : strIn ⟨#[c]⟩ z = decide (c ∈ z.cps.toList) := PySem.StrLaws.found_one z c
def tgtIn (neg b : Bool) : Bool := if neg then !b else b
def rInP (K : PySem.W.Frag) (neg : Bool) : R2 := fun x y H Q => match y with
  | .str j => (match x with
    | .str i => Q (.bl (tgtIn neg (strIn i j))) H
    | _ => False)
  | .ref p => rIn K neg x (.ref p) H Q ∨ ∃ o, DGet H p x o ∧ Q (.bl (tgtIn neg o.isSome)) H
  | _ => False
theorem op_inP (hu : X.A.units + 64 < cLine) : OpR X (compareOp .In) (rInP X.K false) := by
  intro pins s σ H x y v u Q I rx ry h
  cases y <;> first
    | exact False.elim h
    | (cases x <;> first
       | exact False.elim h
       | exact op_in_str pins s σ H _ _ v u Q I rx ry ⟨_, _, rfl, rfl, h⟩)
    | (rcases h with h | ⟨o, g, q⟩
       · exact op_in_seq pins s σ H _ _ v u Q I rx ry h
       · obtain rfl : u = Value.ref _ := ry
         exact d_in (by omega) I g rx fun s3 I3 => ⟨.bl o.isSome, H, I3, rfl, q⟩)
theorem op_ninP (hu : X.A.units + 64 < cLine) : OpR X (compareOp .NotIn) (rInP X.K true) := by
  intro pins s σ H x y v u Q I rx ry h
  cases y <;> first
    | exact False.elim h
    | (cases x <;> first
       | exact False.elim h
       | exact op_notin_str pins s σ H _ _ v u Q I rx ry ⟨_, _, rfl, rfl, h⟩)
    | (rcases h with h | ⟨o, g, q⟩
       · exact op_notIn_seq pins s σ H _ _ v u Q I rx ry h
       · obtain rfl : u = Value.ref _ := ry
         exact d_notIn (by omega) I g rx fun s3 I3 => ⟨.bl (!o.isSome), H, I3, rfl, q⟩)
/-- is None -/
def rIsP (neg : Bool) : R2 := fun x y H Q => y = .non ∧ Q (.bl (tgtIn neg (decide (x = .non)))) H
theorem op_isP : OpR X (compareOp .Is) (rIsP false) := op_isN
theorem op_isnotP : OpR X (compareOp .IsNot) (rIsP true) := op_notN
/-- x[i] -/
def rIxP (K : PySem.W.Frag) : R2 := fun x y H Q => match x, y with
  | .str z, .int i => z.length ≤ sizeLine ∧ ∃ c, atI z.cps.toList i = some c ∧ Q (.str ⟨#[c]⟩) H
  | .ref p, .int i => ∃ xs v, (SqL K H p xs ∨ SqT K H p xs) ∧ atI xs i = some v ∧ Q v H
  | _, _ => False
theorem ix_P : IxR X (rIxP X.K) := by
  intro value slice pins s σ H x y v u Q I rx ry h hs
  cases x <;> cases y <;> first
    | exact False.elim h
    | (obtain ⟨hz, c, he, q⟩ := h
       exact ix_str value slice pins s σ H _ _ v u Q I rx ry ⟨_, _, c, rfl, rfl, hz, he, q⟩ hs)
    | (obtain ⟨xs, w, hq, he, q⟩ := h
       rcases hq with hq | hq
       · exact ix_list value slice pins s σ H _ _ v u Q I rx ry ⟨_, xs, _, w, rfl, rfl, hq, he, q⟩ hs
       · exact ix_tup value slice pins s σ H _ _ v u Q I rx ry ⟨_, xs, _, w, rfl, rfl, hq, he, q⟩ hs)
/-- x[a:b] -/
def rSlP (K : PySem.W.Frag) : V → Option Int → Option Int → Hp → VK → Prop := fun x lo hi H Q => match x with
  | .str z => z.length ≤ sizeLine ∧ Q (.str (cutS z lo hi)) H
  | .ref a => rSlL K (.ref a) lo hi H Q ∨ rSlA K (.ref a) lo hi H Q
  | _ => False
theorem sl_P : SlR X (rSlP X.K) := by
  intro pins s σ H x v vl vu lo hi sl Q I rx hs pl pu h
  cases x <;> first
    | exact False.elim h
    | exact sl_str pins s σ H _ v vl vu lo hi sl Q I rx hs pl pu ⟨_, rfl, h.1, h.2⟩
    | (rcases h with h | h
       · exact sl_list pins s σ H _ v vl vu lo hi sl Q I rx hs pl pu h
       · exact sl_tupA pins s σ H _ v vl vu lo hi sl Q I rx hs pl pu h)
/-- len -/
def rLenP (K : PySem.W.Frag) : List V → Hp → VK → Prop := fun vs H Q => match vs with
  | [.str z] => z.length ≤ sizeLine ∧ Q (.int z.length) H
  | [.ref p] => (∃ xs, (SqL K H p xs ∨ SqT K H p xs) ∧ Q (.int xs.length) H) ∨ ∃ kvs, H p = some (.dK kvs) ∧ Q (.int kvs.length) H
  | _ => False
theorem call_lenP : CallR X (.builtin "len") (rLenP X.K) := by
  intro pins s σ H vs us Q I r h
  match vs, h with
  | [.str z], h => exact call_len_str pins s σ H _ us Q I r ⟨z, rfl, h.1, h.2⟩
  | [.ref p], h =>
    rcases h with ⟨xs, hq, q⟩ | ⟨kvs, hd, q⟩
    · exact call_len_seq pins s σ H _ us Q I r ⟨p, xs, rfl, hq, q⟩
    · exact call_lenD pins s σ H _ us Q I r ⟨p, kvs, rfl, hd, q⟩
  | [], h => exact False.elim h
  | [.non], h => exact False.elim h
  | [.bl _], h => exact False.elim h
  | [.int _], h => exact False.elim h
  | [.byt _], h => exact False.elim h
  | [.flt _], h => exact False.elim h
  | [.ty _], h => exact False.elim h
  | x :: y :: z, h => exact False.elim (by cases x <;> exact h)
/-- for x in .. -/
def iAnyP (K : PySem.W.Frag) (te : TE) : TI := fun σ H R => te σ H fun x H1 => match x with
  | .str z => R (Its z) H1
  | .ref a => ((∃ xs, SqL K H1 a xs) ∧ R (Itl K a) H1) ∨ ((∃ xs, SqT K H1 a xs) ∧ R (Itt K a) H1)
  | _ => False
theorem pi_anyP {tg e : Expr} {te : TE} (he : PE X e te) : PI X tg e (iAnyP X.K te) := by
  refine ⟨fun pins s σ H R I h => ?_⟩
  refine thn (he.run pins s σ H _ I h) fun v s1 ⟨x, H1, I1, r1, q1⟩ => ?_
  cases x <;> first
    | exact False.elim q1
    | (rename_i x
       obtain ⟨t, rfl⟩ := r1
       cases ha : x.cps.all (· < 128)
       · exact wpAny_pyIter_wide ha (pi_one (tk := s1.toks) I1 _ (turn_str _ x t "str_iterator" (.inr rfl)) ⟨_, Heap.get?_push_size _ rfl, rfl, rfl⟩ q1)
       · exact wpAny_pyIter_ascii ha (pi_one (tk := s1.toks) I1 _ (turn_str _ x t "str_ascii_iterator" (.inl rfl)) ⟨_, Heap.get?_push_size _ rfl, rfl, rfl⟩ q1))
    | (rename_i a
       obtain rfl : v = Value.ref a := r1
       rcases q1 with ⟨⟨xs, hq⟩, q⟩ | ⟨⟨xs, hq⟩, q⟩
       · obtain ⟨its, rv, p, hz⟩ := I1.list hq
         refine wpAny_pyIter_list p.isList ?_
         refine ⟨s1.heap.objs.size, [s1.heap.objs.size], _, _, H1, rfl, I1.kept (t' := s1.toks) fun b o e => Heap.get?_push_of_some _ e, turn_list a _, ⟨_, Heap.get?_push_size _ rfl, rfl, rfl⟩, fun b hb => ?_, q⟩
         have e : b = s1.heap.objs.size := by simpa using hb
         subst e
         exact I1.fpOk (Nat.le_refl _) (I1.hok.fresh (Nat.le_refl _))
       · obtain ⟨its, rv, p, hz⟩ := I1.tuple hq
         refine wpAny_pyIter_tuple (show s1.heap.IsTuple a its.toArray from p) ?_
         refine ⟨s1.heap.objs.size, [s1.heap.objs.size], _, _, H1, rfl, I1.kept (t' := s1.toks) fun b o e => Heap.get?_push_of_some _ e, turn_tuple a _, ⟨_, Heap.get?_push_size _ rfl, rfl, rfl⟩, fun b hb => ?_, q⟩
         have e : b = s1.heap.objs.size := by simpa using hb
         subst e
         exact I1.fpOk (Nat.le_refl _) (I1.hok.fresh (Nat.le_refl _)))
/-- o[i] = v -/
def rSetP : V → V → V → Hp → (Hp → Prop) → Prop := fun o i v H Q => match o with
  | .ref p => rSetL (.ref p) i v H Q ∨ ∃ H', DPut H p i v H' ∧ Q H'
  | _ => False
theorem set_P (hu : X.A.units + 64 < cLine) : PSet X rSetP := by
  intro pins s σ H o i v ov iv u Q I ro ri rv h
  cases o <;> first
    | exact False.elim h
    | (rcases h with h | ⟨H', g, q⟩
       · exact set_list pins s σ H _ i v ov iv u Q I ro ri rv h
       · obtain rfl : ov = Value.ref _ := ro
         exact d_setItem (by omega) I g ri rv fun s4 I4 => ⟨H', I4, q⟩)
/-- int(x), list(x), tuple(x), abs(x) -/
def rIntP : List V → Hp → VK → Prop := fun vs H Q => match vs with
  | [.int i] => Q (.int i) H
  | [.bl b] => Q (.int (if b then 1 else 0)) H
  | [.str z] => ∃ n, PySem.intText? z = some n ∧ z.length ≤ 640 ∧ Q (.int n) H
  | _ => False
theorem call_intP : CallR X (.type "int") rIntP := by
  intro pins s σ H vs us Q I r h
  match vs, h with
  | [.int i], h => exact call_int1 pins s σ H _ us Q I r (.inl ⟨i, rfl, h⟩)
  | [.bl b], h => exact call_int1 pins s σ H _ us Q I r (.inr ⟨b, rfl, h⟩)
  | [.str z], ⟨n, e, l, q⟩ => exact call_int_str pins s σ H _ us Q I r ⟨z, n, rfl, e, l, q⟩
  | [], h => exact False.elim h
  | [.non], h => exact False.elim h
  | [.ref _], h => exact False.elim h
  | [.byt _], h => exact False.elim h
  | [.flt _], h => exact False.elim h
  | [.ty _], h => exact False.elim h
  | x :: y :: z, h => exact False.elim (by cases x <;> exact h)
def rListP (K : PySem.W.Frag) : List V → Hp → VK → Prop := fun xs H Q => ∃ p ys, xs = [.ref p] ∧ (SqL K H p ys ∨ SqT K H p ys) ∧ ∀ l, H l = none → Q (.ref l) (upd H l (.lst ys))
theorem call_listP : CallR X (.type "list") (rListP X.K) := call_list_of
def rTupleP (K : PySem.W.Frag) : List V → Hp → VK → Prop := fun xs H Q => ∃ p ys, xs = [.ref p] ∧ ((SqL K H p ys ∧ ∀ l, H l = none → Q (.ref l) (upd H l (.tup ys))) ∨ (SqT K H p ys ∧ Q (.ref p) H))
theorem call_tupleP : CallR X (.type "tuple") (rTupleP X.K) := call_tuple_of
def rAbsP : List V → Hp → VK → Prop := fun xs H Q => ∃ i, xs = [.int i] ∧ Q (.int (if i < 0 then -i else i)) H
theorem call_absP : CallR X (.builtin "abs") rAbsP := call_abs
def rStrP : List V → Hp → VK → Prop := fun vs H Q => match vs with
  | [.int i] => i.natAbs.log2 < 1920 ∧ Q (.str (toString i)) H
  | [.str z] => Q (.str z) H
  | _ => False
theorem call_strP : CallR X (.type "str") rStrP := by
  intro pins s σ H vs us Q I r h
  match vs, h with
  | [.int i], h => exact call_str_int pins s σ H _ us Q I r ⟨i, rfl, h.1, h.2⟩
  | [.str z], h => exact SkE.call_str_str pins s σ H _ us Q I r ⟨z, rfl, h⟩
  | [], h => exact False.elim h
  | [.non], h => exact False.elim h
  | [.bl _], h => exact False.elim h
  | [.ref _], h => exact False.elim h
  | [.byt _], h => exact False.elim h
  | [.flt _], h => exact False.elim h
  | [.ty _], h => exact False.elim h
  | x :: y :: z, h => exact False.elim (by cases x <;> exact h)
/-- a statement, then the rest, with a word between them -/
def tCut (t u : TS) : TS := fun D σ H => ∃ Mid : L2.St → Hp → Prop, t { D with nx := Mid } σ H ∧ ∀ σ' H', Mid σ' H' → u D σ' H'
theorem pss_cut {st : Stmt} {rest : List Stmt} {t u : TS} (h1 : PS X st t) (h2 : PSs X rest u) : PSs X (st :: rest) (tCut t u) := by
  refine ⟨fun pins s σ H D I h => ?_⟩
  obtain ⟨Mid, hm, hu⟩ := h
  refine wpAny_execs_cons (thn (h1.run pins s σ H { D with nx := Mid } I hm) fun f s1 q => ?_)
  cases f with
  | next =>
    obtain ⟨σ', H', I', q⟩ := q
    exact h2.run pins s1 σ' H' D I' (hu σ' H' q)
  | ret v => exact q
  | brk => exact q
  | cont => exact q
/-! promises by the number of arguments -/
def Sp1 (P : V → Hp → VK → XK → Prop) : Sp := fun vs H Q E => ∃ x, vs = [x] ∧ P x H Q E
def Sp2 (P : V → V → Hp → VK → XK → Prop) : Sp := fun vs H Q E => ∃ x y, vs = [x, y] ∧ P x y H Q E
def Sp3 (P : V → V → V → Hp → VK → XK → Prop) : Sp := fun vs H Q E => ∃ x y z, vs = [x, y, z] ∧ P x y z H Q E
def Sp4 (P : V → V → V → V → Hp → VK → XK → Prop) : Sp := fun vs H Q E => ∃ x y z u, vs = [x, y, z, u] ∧ P x y z u H Q E
theorem Sp1.len {P} {vs H Q E} (h : Sp1 P vs H Q E) : vs.length = 1 := by obtain ⟨_, rfl, _⟩ := h; rfl
theorem Sp2.len {P} {vs H Q E} (h : Sp2 P vs H Q E) : vs.length = 2 := by obtain ⟨_, _, rfl, _⟩ := h; rfl
theorem Sp3.len {P} {vs H Q E} (h : Sp3 P vs H Q E) : vs.length = 3 := by obtain ⟨_, _, _, rfl, _⟩ := h; rfl
theorem Sp4.len {P} {vs H Q E} (h : Sp4 P vs H Q E) : vs.length = 4 := by obtain ⟨_, _, _, _, rfl, _⟩ := h; rfl
end
end Px
/-! steps of readings -/
namespace Px
open PySem PySem.Spec PyProof.Rows L2
section
variable {K : PySem.W.Frag} {σ σ' : L2.St} {H : Hp} {D : Ends} {Q : VK} {QB : Bool → Hp → Prop} {QL : List V → Hp → Prop} {QO : Option Int → Hp → Prop} {QS : L2.St → Hp → Prop} {t u : TS} {te ta tb : TE} {tt tu : TT} {tl : TA} {v x y : V} {g : TG} {r : R2}
theorem s_seq (h : t { D with nx := u D } σ H) : tSeq t u D σ H := h
theorem s_asg (h : te σ H fun x H1 => g x σ H1 D.nx) : tAsg te g D σ H := h
theorem s_ret (h : te σ H D.rt) : tRet te D σ H := h
theorem s_retN (h : D.rt .non H) : tRetN D σ H := h
theorem s_drop (h : te σ H fun _ H1 => D.nx σ H1) : tDrop te D σ H := h
theorem s_ifS (h : tt σ H fun b H1 => if b = true then t D σ H1 else u D σ H1) : tIfS tt t u D σ H := h
theorem s_next (h : D.nx σ H) : tNext D σ H := h
theorem s_break (h : D.bk σ H) : tBreak D σ H := h
theorem s_cont (h : D.ct σ H) : tCont D σ H := h
theorem s_var {i : Nat} (e : σ[i]? = some (some v)) (h : Q v H) : tVar i σ H Q := ⟨v, e, h⟩
theorem s_c (h : Q v H) : tC v σ H Q := h
theorem s_op (h : ta σ H fun x H1 => tb σ H1 fun y H2 => r x y H2 Q) : tOp r ta tb σ H Q := h
theorem s_un {r : V → Hp → VK → Prop} (h : ta σ H fun x H1 => r x H1 Q) : tUn r ta σ H Q := h
theorem s_gname {i : Nat} (h : QS (σ.set i (some v)) H) : gName i v σ H QS := h
theorem s_gsub {to ti : TE} {ts : TSet} (h : to σ H fun o H1 => ti σ H1 fun i H2 => ts o i v H2 fun H3 => QS σ H3) : gSub to ti ts v σ H QS := h
theorem s_test (h : te σ H fun x H' => ∃ k, x = .bl k ∧ QB k H') : tTest te σ H QB := h
theorem s_tB (h : te σ H fun x H' => ∃ k, x = .bl k ∧ QB k H') : tB te σ H QB := h
theorem s_and (h : tt σ H fun c H1 => if c = true then tu σ H1 QB else QB false H1) : tAnd tt tu σ H QB := h
theorem s_or (h : tt σ H fun c H1 => if c = true then QB true H1 else tu σ H1 QB) : tOr tt tu σ H QB := h
theorem s_not (h : tt σ H fun c H1 => QB (!c) H1) : tNot tt σ H QB := h
theorem s_andV (h : ta σ H fun x H1 => ∃ c, x = .bl c ∧ if c = true then tb σ H1 Q else Q (.bl false) H1) : tAndV ta tb σ H Q := h
theorem s_orV (h : ta σ H fun x H1 => ∃ c, x = .bl c ∧ if c = true then Q (.bl true) H1 else tb σ H1 Q) : tOrV ta tb σ H Q := h
theorem s_notV (h : ta σ H fun x H1 => ∃ c, x = .bl c ∧ Q (.bl (!c)) H1) : tNotV ta σ H Q := h
theorem s_ifE (h : tt σ H fun c H1 => if c = true then ta σ H1 Q else tb σ H1 Q) : tIf tt ta tb σ H Q := h
theorem s_exb {b : Bool} {R : Bool → Prop} (h : R b) : ∃ k, (V.bl b = .bl k) ∧ R k := ⟨b, rfl, h⟩
theorem s_exi {b : Int} {R : Int → Prop} (h : R b) : ∃ k, (V.int b = .int k) ∧ R k := ⟨b, rfl, h⟩
theorem s_nil (h : QL [] H) : tNil σ H QL := h
theorem s_cons (h : ta σ H fun x H1 => tl σ H1 fun xs H2 => QL (x :: xs) H2) : tCons ta tl σ H QL := h
theorem s_cb {r : List V → Hp → VK → Prop} (h : tl σ H fun vs H1 => r vs H1 Q) : tCB r tl σ H Q := h
theorem s_call {sp : Sp} {dvs : List V} {E : XK} (h : tl σ H fun vs H1 => sp (vs ++ dvs) H1 Q E) : tCall sp dvs E tl σ H Q := h
theorem s_callS {sp : Sp} {E : L2.St → XK} (h : tl σ H fun vs H1 => sp vs H1 Q (E σ)) : tCallS sp E tl σ H Q := h
theorem s_lst (h : tl σ H fun xs H1 => xs.length ≤ sizeLine ∧ ∀ p, H1 p = none → Q (.ref p) (upd H1 p (.lst xs))) : tLst tl σ H Q := h
theorem s_tup (h : tl σ H fun xs H1 => xs.length ≤ sizeLine ∧ ∀ p, H1 p = none → Q (.ref p) (upd H1 p (.tup xs))) : tTup tl σ H Q := h
theorem s_sl {r : V → Option Int → Option Int → Hp → VK → Prop} {lo hi : TO} (h : te σ H fun x H1 => lo σ H1 fun l H2 => hi σ H2 fun u H3 => r x l u H3 Q) : tSl r te lo hi σ H Q := h
theorem s_nopart (h : QO none H) : tNoPart σ H QO := h
theorem s_part (h : te σ H fun x H1 => ∃ i, x = .int i ∧ QO (some i) H1) : tPart te σ H QO := h
theorem s_yes (h : QB true H) : tYes σ H QB := h
/-! values -/
theorem s_addI {i j : Int} (h : Q (.int (i + j)) H) : rAddP K (.int i) (.int j) H Q := h
theorem s_addS {i j : Str} (hl : i.length + j.length ≤ sizeLine) (h : Q (.str (i ++ j)) H) : rAddP K (.str i) (.str j) H Q := ⟨hl, h⟩
theorem s_in0 {g : Int → Int → V} {i j : Int} (h : Q (g i j) H) : rIn0 g (.int i) (.int j) H Q := h
theorem s_in2 {C : Int → Int → Prop} {g : Int → Int → V} {i j : Int} (hc : C i j) (h : Q (g i j) H) : rIn2 C g (.int i) (.int j) H Q := ⟨hc, h⟩
theorem s_eqI {i j : Int} (h : Q (.bl (decide (i = j))) H) : rEqP K (.int i) (.int j) H Q := by
  show Q (.bl (decide (V.int i = V.int j))) H
  rw [show decide (V.int i = V.int j) = decide (i = j) from by rw [Bool.eq_iff_iff]; simp]
  exact h
theorem s_eqS {i j : Str} (h : Q (.bl (decide (i = j))) H) : rEqP K (.str i) (.str j) H Q := by
  show Q (.bl (decide (V.str i = V.str j))) H
  rw [show decide (V.str i = V.str j) = decide (i = j) from by rw [Bool.eq_iff_iff]; simp]
  exact h
theorem s_eqB {i j : Bool} (h : Q (.bl (decide (i = j))) H) : rEqP K (.bl i) (.bl j) H Q := by
  show Q (.bl (decide (V.bl i = V.bl j))) H
  rw [show decide (V.bl i = V.bl j) = decide (i = j) from by rw [Bool.eq_iff_iff]; simp]
  exact h
theorem s_neI {i j : Int} (h : Q (.bl (!decide (i = j))) H) : rNeP K (.int i) (.int j) H Q := by
  show Q (.bl (!decide (V.int i = V.int j))) H
  rw [show decide (V.int i = V.int j) = decide (i = j) from by rw [Bool.eq_iff_iff]; simp]
  exact h
theorem s_neS {i j : Str} (h : Q (.bl (!decide (i = j))) H) : rNeP K (.str i) (.str j) H Q := by
  show Q (.bl (!decide (V.str i = V.str j))) H
  rw [show decide (V.str i = V.str j) = decide (i = j) from by rw [Bool.eq_iff_iff]; simp]
  exact h
theorem s_ltI {i j : Int} (h : Q (.bl (decide (i < j))) H) : rLtP (.int i) (.int j) H Q := h
theorem s_ltS {i j : Str} (h : Q (.bl (decide (i.cps.toList < j.cps.toList))) H) : rLtP (.str i) (.str j) H Q := h
theorem s_inS {i j : Str} {neg : Bool} (h : Q (.bl (tgtIn neg (strIn i j))) H) : rInP K neg (.str i) (.str j) H Q := h
theorem s_isN {neg : Bool} (h : Q (.bl (tgtIn neg (decide (x = .non)))) H) : rIsP neg x .non H Q := ⟨rfl, h⟩
theorem s_ixS {z : Str} {i : Int} {c : Nat} (hz : z.length ≤ sizeLine) (e : atI z.cps.toList i = some c) (h : Q (.str ⟨#[c]⟩) H) : rIxP K (.str z) (.int i) H Q := ⟨hz, c, e, h⟩
theorem s_ixL {p : Addr} {xs : List V} {i : Int} (hp : H p = some (.lst xs)) (e : atI xs i = some v) (h : Q v H) : rIxP K (.ref p) (.int i) H Q := ⟨xs, v, .inl (SqL.of hp), e, h⟩
theorem s_ixT {p : Addr} {xs : List V} {i : Int} (hp : H p = some (.tup xs)) (e : atI xs i = some v) (h : Q v H) : rIxP K (.ref p) (.int i) H Q := ⟨xs, v, .inr (SqT.of hp), e, h⟩
theorem s_slS {z : Str} {lo hi : Option Int} (hz : z.length ≤ sizeLine) (h : Q (.str (cutS z lo hi)) H) : rSlP K (.str z) lo hi H Q := ⟨hz, h⟩
theorem s_slL {a : Addr} {xs : List V} {lo hi : Option Int} (ha : H a = some (.lst xs)) (h : ∀ p, H p = none → Q (.ref p) (upd H p (.lst (cutV xs lo hi)))) : rSlP K (.ref a) lo hi H Q := .inl ⟨a, xs, rfl, SqL.of ha, h⟩
theorem s_lenS {z : Str} (hz : z.length ≤ sizeLine) (h : Q (.int z.length) H) : rLenP K [.str z] H Q := ⟨hz, h⟩
theorem s_lenL {p : Addr} {xs : List V} (hp : H p = some (.lst xs)) (h : Q (.int xs.length) H) : rLenP K [.ref p] H Q := .inl ⟨xs, .inl (SqL.of hp), h⟩
theorem s_lenT {p : Addr} {xs : List V} (hp : H p = some (.tup xs)) (h : Q (.int xs.length) H) : rLenP K [.ref p] H Q := .inl ⟨xs, .inr (SqT.of hp), h⟩
theorem s_setL {p : Addr} {xs : List V} {k : Int} {j : Nat} {QH : Hp → Prop} (hp : H p = some (.lst xs)) (e : ixN xs.length k = some j) (h : QH (upd H p (.lst (xs.set j v)))) : rSetP (.ref p) (.int k) v H QH := .inl ⟨p, xs, k, j, rfl, rfl, hp, e, h⟩
theorem s_neg {i : Int} {f : Int → V} (h : Q (f i) H) : rU f (.int i) H Q := ⟨i, rfl, h⟩
theorem s_ite {c : Bool} {A B : Prop} (h1 : c = true → A) (h2 : c = false → B) : if c = true then A else B := by
  cases c with
  | true => rw [if_pos rfl]; exact h1 rfl
  | false => rw [if_neg Bool.false_ne_true]; exact h2 rfl
theorem s_itd {p : Prop} [Decidable p] {A B : Prop} (h1 : p → A) (h2 : ¬p → B) : if decide p = true then A else B := by
  by_cases h : p
  · rw [if_pos (decide_eq_true h)]; exact h1 h
  · rw [if_neg (by rw [decide_eq_false h]; exact Bool.false_ne_true)]; exact h2 h
theorem s_itT {c : Bool} {A B : Prop} (hc : c = true) (h : A) : if c = true then A else B := by rw [if_pos hc]; exact h
theorem s_itF {c : Bool} {A B : Prop} (hc : c = false) (h : B) : if c = true then A else B := by rw [hc, if_neg Bool.false_ne_true]; exact h
theorem s_nocut (h : t { D with nx := u D } σ H) : tCut t u D σ H := ⟨u D, h, fun _ _ h => h⟩
theorem s_cut (Mid : L2.St → Hp → Prop) (h : t { D with nx := Mid } σ H) (h2 : ∀ σ' H', Mid σ' H' → u D σ' H') : tCut t u D σ H := ⟨Mid, h, h2⟩
theorem s_setU {p : Addr} {xs : List V} {k : Int} {j : Nat} {QH : Hp → Prop} (e : ixN xs.length k = some j) (h : QH (upd H p (.lst (xs.set j v)))) : rSetP (.ref p) (.int k) v (upd H p (.lst xs)) QH := by
  refine s_setL upd_same e ?_
  rw [upd_upd]
  exact h
theorem s_intI {i : Int} (h : Q (.int i) H) : rIntP [.int i] H Q := h
theorem s_listL {p : Addr} {ys : List V} (hp : SqL K H p ys) (h : ∀ l, H l = none → Q (.ref l) (upd H l (.lst ys))) : rListP K [.ref p] H Q := ⟨p, ys, rfl, .inl hp, h⟩
theorem s_isi {c : V} {t u : Value} {b : Bool} (hc : ClsV c u) (ht : TyX K H x t) (e : PySem.W.kitOne K t u = some b) (h : Q (.bl b) H) : rIsi K [x, c] H Q := ⟨x, c, t, u, b, rfl, hc, ht, e, h⟩
theorem s_rng1 {ta : TA} {R : L2.It → Hp → Prop} (h : ta σ H fun vs H1 => ∃ j : Int, vs = [.int j] ∧ -(2 ^ 62) ≤ j ∧ j < 2 ^ 62 ∧ R (Itr 0 j.toNat) H1) : iRng1 ta σ H R := h
theorem s_for {wi : TI} {g : TG} {tb : TS} (h : wi σ H fun J H1 => ∃ W : Nat → Nat → L2.St → Hp → Prop, (∃ m, W 0 m σ H1) ∧ ∀ i m σ H, W i m σ H →
  (J.stop i H ∧ D.nx σ H) ∨ (J.go i H ∧ ∃ N : L2.St → Hp → Prop, (∀ σ' H', N σ' H' → ∃ m', m' < m ∧ W (i + 1) m' σ' H') ∧ ∀ x H', J.yld i H x H' → g x σ H' fun σ2 H2 => tb { D with nx := N, ct := N, bk := D.nx } σ2 H2)) : tFor wi g tb D σ H := h
/-! heaps -/
theorem same_new {p : Addr} {o : HO} (h : H p = none) : Same H (upd H p o) := fun b u e => by
  rw [upd_ne (ne_of_none e h)]
  exact e
/-- one object may have changed -/
def But (a : Addr) (H H' : Hp) : Prop := ∀ b o, H b = some o → b ≠ a → H' b = some o
theorem But.refl (a : Addr) (H : Hp) : But a H H := fun _ _ h _ => h
theorem But.trans {a : Addr} {H H1 H2 : Hp} (h1 : But a H H1) (h2 : But a H1 H2) : But a H H2 := fun b o h n => h2 b o (h1 b o h n) n
theorem But.of_same {a : Addr} {H H1 : Hp} (h : Same H H1) : But a H H1 := fun b o e _ => h b o e
theorem But.upd {a : Addr} {H : Hp} {o : HO} : But a H (upd H a o) := fun b u h n => by rw [upd_ne n]; exact h
theorem But.put {a : Addr} {H H1 : Hp} {o : HO} (h : But a H H1) : But a H (L2.upd H1 a o) := h.trans But.upd
theorem one_lt {n : Nat} (h : n ≤ 1000000) : n ≤ sizeLine := by rw [sizeLine_eq]; omega
theorem mem_comp {a b : Nat} {xs : List Nat} : a ∈ (⟨xs.toArray⟩ : Str).cps.toList ↔ a ∈ xs := by simp
end
end Px
/-! loops and comprehensions over anything whose items are known -/
namespace Px
open PySem PySem.Spec PyProof.Rows L2
/-- at turn i, the heap H: the items are xs -/
def YieldsAt (J : L2.It) (xs : List V) (i : Nat) (H : Hp) : Prop := (∀ h : i < xs.length, J.go i H ∧ ∀ x H', J.yld i H x H' → H' = H ∧ xs[i]? = some x) ∧ (xs.length ≤ i → J.stop i H)
theorem yields_str (z : Str) (i : Nat) (H : Hp) : YieldsAt (Its z) (z.cps.toList.map fun c => V.str ⟨#[c]⟩) i H := by
  refine ⟨fun h => ⟨?_, fun x H' hy => ?_⟩, fun h => ?_⟩
  · show i < z.cps.size
    simpa using h
  · obtain ⟨e, c, hc, rfl⟩ := hy
    refine ⟨e, ?_⟩
    rw [List.getElem?_map]
    have : z.cps.toList[i]? = some c := by simpa using hc
    rw [this]
    rfl
  · show z.cps.size ≤ i
    simpa using h
theorem yields_range (lo : Int) (n i : Nat) (H : Hp) : YieldsAt (Itr lo n) ((List.range n).map fun (j : Nat) => V.int (lo + (j : Int))) i H := by
  refine ⟨fun h => ⟨?_, fun x H' hy => ?_⟩, fun h => ?_⟩
  · show i < n
    simpa using h
  · obtain ⟨e, rfl⟩ := hy
    refine ⟨e, ?_⟩
    have hi : i < n := by simpa using h
    rw [List.getElem?_map, List.getElem?_range hi]
    rfl
  · show n ≤ i
    simpa using h
theorem yields_list {K : PySem.W.Frag} {a : Addr} {xs : List V} {H : Hp} (h : SqL K H a xs) (i : Nat) : YieldsAt (Itl K a) xs i H := by
  refine ⟨fun hi => ⟨⟨xs, xs[i], h, by simp [hi]⟩, fun x H' hy => ⟨hy.1, hy.2 xs h⟩⟩, fun hi => ⟨xs, h, hi⟩⟩
theorem yields_tup {K : PySem.W.Frag} {a : Addr} {xs : List V} {H : Hp} (h : SqT K H a xs) (i : Nat) : YieldsAt (Itt K a) xs i H := by
  refine ⟨fun hi => ⟨⟨xs, xs[i], h, by simp [hi]⟩, fun x H' hy => ⟨hy.1, hy.2 xs h⟩⟩, fun hi => ⟨xs, h, hi⟩⟩
theorem Same.sqT {K : PySem.W.Frag} {H H' : Hp} {a : Addr} {xs : List V} (e : Same H H') (h : SqT K H a xs) : SqT K H' a xs := by
  rcases h with (h | ⟨o, h⟩) | h
  · exact .inl (.inl (e _ _ h))
  · exact .inl (.inr ⟨o, e _ _ h⟩)
  · exact .inr h
section
variable {K : PySem.W.Frag} {σ : L2.St} {H H1 : Hp} {D : Ends} {Q : VK} {J : L2.It} {xs : List V}
/-- a for over known items, by an invariant -/
theorem for_y {g : TG} {tb : TS} (Pv : Nat → L2.St → Hp → Prop) (h0 : Pv 0 σ H) (hy : ∀ i σ H, i ≤ xs.length → Pv i σ H → YieldsAt J xs i H)
    (hs : ∀ i x σ H, xs[i]? = some x → Pv i σ H → g x σ H fun σ2 H2 => tb { D with nx := Pv (i + 1), ct := Pv (i + 1), bk := D.nx } σ2 H2) (hd : ∀ σ H, Pv xs.length σ H → D.nx σ H) :
    ∃ W : Nat → Nat → L2.St → Hp → Prop, (∃ m, W 0 m σ H) ∧ ∀ i m σ H, W i m σ H →
      (J.stop i H ∧ D.nx σ H) ∨ (J.go i H ∧ ∃ N : L2.St → Hp → Prop, (∀ σ' H', N σ' H' → ∃ m', m' < m ∧ W (i + 1) m' σ' H') ∧ ∀ x H', J.yld i H x H' → g x σ H' fun σ2 H2 => tb { D with nx := N, ct := N, bk := D.nx } σ2 H2) := by
  refine ⟨fun i m σ H => m = xs.length - i ∧ i ≤ xs.length ∧ Pv i σ H, ⟨xs.length, by simp, Nat.zero_le _, h0⟩, ?_⟩
  rintro i m σ H ⟨rfl, hi, p⟩
  have q := hy i σ H hi p
  by_cases hlt : i < xs.length
  · refine .inr ⟨(q.1 hlt).1, Pv (i + 1), fun σ' H' p' => ⟨xs.length - (i + 1), by omega, rfl, hlt, p'⟩, fun x H' y => ?_⟩
    obtain ⟨e, hx⟩ := (q.1 hlt).2 x H' y
    subst e
    exact hs i x σ H' hx p
  · have e : i = xs.length := by omega
    subst e
    exact .inl ⟨q.2 (Nat.le_refl _), hd σ H p⟩
/-- a comprehension over known items, by an invariant -/
theorem lc_y {g : TG} {tt : TT} {te : TE} {vs : List Nat} {Dr : Addr} {Qd : Hp → Prop} (Pv : Nat → Hp → Prop) (h0 : Pv 0 (upd H1 Dr (.lst []))) (hy : ∀ i H, i ≤ xs.length → Pv i H → YieldsAt J xs i H)
    (hs : ∀ i x H, xs[i]? = some x → Pv i H → g x (wipe σ vs) H fun σ2 H2 => wipe σ2 vs = wipe σ vs ∧ tt σ2 H2 fun b H3 =>
      if b = true then te σ2 H3 fun y H4 => ∃ acc, H4 Dr = some (.lst acc) ∧ acc.length < sizeLine ∧ Pv (i + 1) (upd H4 Dr (.lst (acc ++ [y]))) else Pv (i + 1) H3) (hd : ∀ H, Pv xs.length H → Qd H) :
    ∃ W : Nat → Nat → Hp → Prop, (∃ m, W 0 m (upd H1 Dr (.lst []))) ∧ ∀ i m H, W i m H →
      (J.stop i H ∧ Qd H) ∨ (J.go i H ∧ ∃ Nx : Hp → Prop, (∀ H', Nx H' → ∃ m', m' < m ∧ W (i + 1) m' H') ∧ ∀ x H', J.yld i H x H' → g x (wipe σ vs) H' fun σ2 H2 => wipe σ2 vs = wipe σ vs ∧ tt σ2 H2 fun b H3 =>
        if b = true then te σ2 H3 fun y H4 => ∃ acc, H4 Dr = some (.lst acc) ∧ acc.length < sizeLine ∧ Nx (upd H4 Dr (.lst (acc ++ [y]))) else Nx H3) := by
  refine ⟨fun i m H => m = xs.length - i ∧ i ≤ xs.length ∧ Pv i H, ⟨xs.length, by simp, Nat.zero_le _, h0⟩, ?_⟩
  rintro i m H ⟨rfl, hi, p⟩
  have q := hy i H hi p
  by_cases hlt : i < xs.length
  · refine .inr ⟨(q.1 hlt).1, Pv (i + 1), fun H' p' => ⟨xs.length - (i + 1), by omega, rfl, hlt, p'⟩, fun x H' y => ?_⟩
    obtain ⟨e, hx⟩ := (q.1 hlt).2 x H' y
    subst e
    exact hs i x H' hx p
  · have e : i = xs.length := by omega
    subst e
    exact .inl ⟨q.2 (Nat.le_refl _), hd H p⟩
theorem take_more {α : Type} {l : List α} {i : Nat} {x : α} (h : l[i]? = some x) : l.take (i + 1) = l.take i ++ [x] := by
  obtain ⟨hi, rfl⟩ := List.getElem?_eq_some_iff.mp h
  rw [List.take_succ_eq_append_getElem hi]
/-- [e for x in ..]: each item's value is f x, the heap only grows -/
theorem lc_map {v : Nat} {te : TE} {f : V → V} (hx : xs.length ≤ 1000000) (hy : ∀ i H, Same H1 H → YieldsAt J xs i H)
    (hf : ∀ x ∈ xs, ∀ H', Same H1 H' → ∀ Q' : VK, (∀ H'', Same H' H'' → Q' (f x) H'') → te (σ.set v (some x)) H' Q')
    (hq : ∀ D H', H1 D = none → Same H1 H' → H' D = some (.lst (xs.map f)) → Q (.ref D) H') :
    ∀ Dr, H1 Dr = none → ∃ W : Nat → Nat → Hp → Prop, (∃ m, W 0 m (upd H1 Dr (.lst []))) ∧ ∀ i m H, W i m H →
      (J.stop i H ∧ Q (.ref Dr) H) ∨ (J.go i H ∧ ∃ Nx : Hp → Prop, (∀ H', Nx H' → ∃ m', m' < m ∧ W (i + 1) m' H') ∧ ∀ x H', J.yld i H x H' → gName v x (wipe σ [v]) H' fun σ2 H2 => wipe σ2 [v] = wipe σ [v] ∧ tYes σ2 H2 fun b H3 =>
        if b = true then te σ2 H3 fun y H4 => ∃ acc, H4 Dr = some (.lst acc) ∧ acc.length < sizeLine ∧ Nx (upd H4 Dr (.lst (acc ++ [y]))) else Nx H3) := by
  intro Dr hD
  refine lc_y (xs := xs) (fun i H => Same H1 H ∧ H Dr = some (.lst ((xs.take i).map f))) ⟨same_new hD, by simp [upd_same]⟩ (fun i H _ p => hy i H p.1) ?_ (fun H p => hq Dr H hD p.1 (by rw [p.2, List.take_length]))
  rintro i x H hi ⟨sm, hl⟩
  have e1 : wipe σ [v] = σ.set v none := rfl
  rw [e1]
  have e2 : (σ.set v none).set v (some x) = σ.set v (some x) := by rw [List.set_set]
  have e3 : wipe (σ.set v (some x)) [v] = σ.set v none := by show (σ.set v (some x)).set v none = _; rw [List.set_set]
  unfold gName
  rw [e2]
  refine ⟨e3, ?_⟩
  unfold tYes
  dsimp only
  rw [if_pos rfl]
  refine hf x (List.mem_of_getElem? hi) H sm _ fun H'' s2 => ?_
  refine ⟨_, s2 _ _ hl, ?_, fun b o e => ?_, ?_⟩
  · rw [List.length_map, List.length_take, sizeLine_eq]
    have := (List.getElem?_eq_some_iff.mp hi).1
    omega
  · rw [upd_ne (ne_of_none e hD)]
    exact s2 _ _ (sm _ _ e)
  · rw [upd_same, take_more hi, List.map_append]
    rfl
theorem s_lc {wi : TI} {g : TG} {tt : TT} {te : TE} {vs : List Nat} (h : wi σ H fun J H1 => ∀ D, H1 D = none → ∃ W : Nat → Nat → Hp → Prop, (∃ m, W 0 m (upd H1 D (.lst []))) ∧ ∀ i m H, W i m H →
  (J.stop i H ∧ Q (.ref D) H) ∨ (J.go i H ∧ ∃ Nx : Hp → Prop, (∀ H', Nx H' → ∃ m', m' < m ∧ W (i + 1) m' H') ∧ ∀ x H', J.yld i H x H' → g x (wipe σ vs) H' fun σ2 H2 => wipe σ2 vs = wipe σ vs ∧ tt σ2 H2 fun b H3 =>
    if b = true then te σ2 H3 fun y H4 => ∃ acc, H4 D = some (.lst acc) ∧ acc.length < sizeLine ∧ Nx (upd H4 D (.lst (acc ++ [y]))) else Nx H3)) : tLc wi g tt te vs σ H Q := h
theorem s_anyP {te : TE} {R : L2.It → Hp → Prop} (h : te σ H fun x H1 => match x with
  | .str z => R (Its z) H1
  | .ref a => ((∃ xs, SqL K H1 a xs) ∧ R (Itl K a) H1) ∨ ((∃ xs, SqT K H1 a xs) ∧ R (Itt K a) H1)
  | _ => False) : iAnyP K te σ H R := h
/-! with what follows kept whole -/
/-- the items of a value that is walked -/
def Items (K : PySem.W.Frag) (H : Hp) (x : V) (xs : List V) : Prop := match x with
  | .str z => xs = z.cps.toList.map fun c => V.str ⟨#[c]⟩
  | .ref a => SqL K H a xs ∨ SqT K H a xs
  | _ => False
theorem Items.keep {H' : Hp} {x : V} (h : Items K H x xs) (s : Same H H') : Items K H' x xs := by
  cases x <;> first
    | exact False.elim h
    | exact h
    | (rcases h with h | h
       · exact .inl (s.seq h)
       · exact .inr (Same.sqT s h))
def LcB (J : L2.It) (g : TG) (tt : TT) (te : TE) (vs : List Nat) (σ : L2.St) (Q : VK) (H1 : Hp) : Prop := ∀ D, H1 D = none → ∃ W : Nat → Nat → Hp → Prop, (∃ m, W 0 m (upd H1 D (.lst []))) ∧ ∀ i m H, W i m H →
  (J.stop i H ∧ Q (.ref D) H) ∨ (J.go i H ∧ ∃ Nx : Hp → Prop, (∀ H', Nx H' → ∃ m', m' < m ∧ W (i + 1) m' H') ∧ ∀ x H', J.yld i H x H' → g x (wipe σ vs) H' fun σ2 H2 => wipe σ2 vs = wipe σ vs ∧ tt σ2 H2 fun b H3 =>
    if b = true then te σ2 H3 fun y H4 => ∃ acc, H4 D = some (.lst acc) ∧ acc.length < sizeLine ∧ Nx (upd H4 D (.lst (acc ++ [y]))) else Nx H3)
def LcBody (K : PySem.W.Frag) (g : TG) (tt : TT) (te : TE) (vs : List Nat) (σ : L2.St) (Q : VK) (x : V) (H1 : Hp) : Prop := match x with
  | .str z => LcB (Its z) g tt te vs σ Q H1
  | .ref a => ((∃ xs, SqL K H1 a xs) ∧ LcB (Itl K a) g tt te vs σ Q H1) ∨ ((∃ xs, SqT K H1 a xs) ∧ LcB (Itt K a) g tt te vs σ Q H1)
  | _ => False
theorem s_lcA {te0 te : TE} {g : TG} {tt : TT} {vs : List Nat} (h : te0 σ H fun x H1 => LcBody K g tt te vs σ Q x H1) : tLc (iAnyP K te0) g tt te vs σ H Q := h
def LcBodyR (g : TG) (tt : TT) (te : TE) (vs : List Nat) (σ : L2.St) (Q : VK) (ws : List V) (H1 : Hp) : Prop := ∃ j : Int, ws = [.int j] ∧ -(2 ^ 62) ≤ j ∧ j < 2 ^ 62 ∧ LcB (Itr 0 j.toNat) g tt te vs σ Q H1
theorem s_lcR {ta : TA} {te : TE} {g : TG} {tt : TT} {vs : List Nat} (h : ta σ H fun ws H1 => LcBodyR g tt te vs σ Q ws H1) : tLc (iRng1 ta) g tt te vs σ H Q := h
theorem lcb_items {g : TG} {tt : TT} {te : TE} {vs : List Nat} {x : V} (hx : Items K H1 x xs) (h : ∀ J, (∀ i H, Same H1 H → YieldsAt J xs i H) → LcB J g tt te vs σ Q H1) : LcBody K g tt te vs σ Q x H1 := by
  cases x <;> first
    | exact False.elim hx
    | (have e : xs = _ := hx
       subst e
       exact h _ fun i H _ => yields_str _ i H)
    | (rcases hx with hx | hx
       · exact .inl ⟨⟨xs, hx⟩, h _ fun i H s => yields_list (s.seq hx) i⟩
       · exact .inr ⟨⟨xs, hx⟩, h _ fun i H s => yields_tup (Same.sqT s hx) i⟩)
/-- [e for x in y]: each item's value is f x, the heap only grows -/
theorem lcb_map {v : Nat} {te : TE} {x : V} (f : V → V) (hx : Items K H1 x xs) (hl : xs.length ≤ 1000000)
    (hf : ∀ x ∈ xs, ∀ H', Same H1 H' → ∀ Q' : VK, (∀ H'', Same H' H'' → Q' (f x) H'') → te (σ.set v (some x)) H' Q')
    (hq : ∀ D H', H1 D = none → Same H1 H' → H' D = some (.lst (xs.map f)) → Q (.ref D) H') : LcBody K (gName v) tYes te [v] σ Q x H1 :=
  lcb_items hx fun _ hy => lc_map hl hy hf hq
theorem lcr_map {v : Nat} {te : TE} {j : Int} (f : V → V) (h1 : j ≤ 1000000) (h0 : -1000000 ≤ j)
    (hf : ∀ i : Nat, (i : Int) < j → ∀ H', Same H1 H' → ∀ Q' : VK, (∀ H'', Same H' H'' → Q' (f (.int i)) H'') → te (σ.set v (some (.int i))) H' Q')
    (hq : ∀ D H', H1 D = none → Same H1 H' → H' D = some (.lst ((List.range j.toNat).map fun (i : Nat) => f (.int i))) → Q (.ref D) H') : LcBodyR (gName v) tYes te [v] σ Q [.int j] H1 := by
  refine ⟨j, rfl, by omega, by omega, ?_⟩
  refine lc_map (xs := (List.range j.toNat).map fun (i : Nat) => V.int (0 + (i : Int))) (f := f) (by rw [List.length_map, List.length_range]; omega) (fun i H _ => yields_range 0 j.toNat i H) ?_ ?_
  · intro x hx
    obtain ⟨i, hi, rfl⟩ := List.mem_map.mp hx
    have := List.mem_range.mp hi
    rw [Int.zero_add]
    exact hf i (by omega)
  · intro D H' hD s hl
    refine hq D H' hD s ?_
    rw [hl, List.map_map]
    congr 2
    apply List.map_congr_left
    intro i _
    show f (.int (0 + (i : Int))) = _
    rw [Int.zero_add]
def ForB (J : L2.It) (g : TG) (tb : TS) (D : Ends) (σ : L2.St) (H : Hp) : Prop := ∃ W : Nat → Nat → L2.St → Hp → Prop, (∃ m, W 0 m σ H) ∧ ∀ i m σ H, W i m σ H →
      (J.stop i H ∧ D.nx σ H) ∨ (J.go i H ∧ ∃ N : L2.St → Hp → Prop, (∀ σ' H', N σ' H' → ∃ m', m' < m ∧ W (i + 1) m' σ' H') ∧ ∀ x H', J.yld i H x H' → g x σ H' fun σ2 H2 => tb { D with nx := N, ct := N, bk := D.nx } σ2 H2)
def ForBody (K : PySem.W.Frag) (g : TG) (tb : TS) (D : Ends) (σ : L2.St) (x : V) (H1 : Hp) : Prop := match x with
  | .str z => ForB (Its z) g tb D σ H1
  | .ref a => ((∃ xs, SqL K H1 a xs) ∧ ForB (Itl K a) g tb D σ H1) ∨ ((∃ xs, SqT K H1 a xs) ∧ ForB (Itt K a) g tb D σ H1)
  | _ => False
theorem s_forA {te0 : TE} {g : TG} {tb : TS} (h : te0 σ H fun x H1 => ForBody K g tb D σ x H1) : tFor (iAnyP K te0) g tb D σ H := h
def ForBodyR (g : TG) (tb : TS) (D : Ends) (σ : L2.St) (ws : List V) (H1 : Hp) : Prop := ∃ j : Int, ws = [.int j] ∧ -(2 ^ 62) ≤ j ∧ j < 2 ^ 62 ∧ ForB (Itr 0 j.toNat) g tb D σ H1
theorem s_forR {ta : TA} {g : TG} {tb : TS} (h : ta σ H fun ws H1 => ForBodyR g tb D σ ws H1) : tFor (iRng1 ta) g tb D σ H := h
/-- for v in y: an invariant over the turn, the slots, the heap; y's items stand -/
theorem forb_list {g : TG} {tb : TS} {a : Addr} (Pv : Nat → L2.St → Hp → Prop) (h0 : Pv 0 σ H) (hy : ∀ i σ H, i ≤ xs.length → Pv i σ H → SqL K H a xs)
    (hs : ∀ i y σ H, xs[i]? = some y → Pv i σ H → g y σ H fun σ2 H2 => tb { D with nx := Pv (i + 1), ct := Pv (i + 1), bk := D.nx } σ2 H2) (hd : ∀ σ H, Pv xs.length σ H → D.nx σ H) : ForBody K g tb D σ (.ref a) H :=
  .inl ⟨⟨xs, hy 0 σ H (Nat.zero_le _) h0⟩, for_y Pv h0 (fun i σ H hi p => yields_list (hy i σ H hi p) i) hs hd⟩
theorem forb_tup {g : TG} {tb : TS} {a : Addr} (Pv : Nat → L2.St → Hp → Prop) (h0 : Pv 0 σ H) (hy : ∀ i σ H, i ≤ xs.length → Pv i σ H → SqT K H a xs)
    (hs : ∀ i y σ H, xs[i]? = some y → Pv i σ H → g y σ H fun σ2 H2 => tb { D with nx := Pv (i + 1), ct := Pv (i + 1), bk := D.nx } σ2 H2) (hd : ∀ σ H, Pv xs.length σ H → D.nx σ H) : ForBody K g tb D σ (.ref a) H :=
  .inr ⟨⟨xs, hy 0 σ H (Nat.zero_le _) h0⟩, for_y Pv h0 (fun i σ H hi p => yields_tup (hy i σ H hi p) i) hs hd⟩
theorem forb_str {g : TG} {tb : TS} {z : Str} (Pv : Nat → L2.St → Hp → Prop) (h0 : Pv 0 σ H)
    (hs : ∀ i c σ H, z.cps.toList[i]? = some c → Pv i σ H → g (.str ⟨#[c]⟩) σ H fun σ2 H2 => tb { D with nx := Pv (i + 1), ct := Pv (i + 1), bk := D.nx } σ2 H2) (hd : ∀ σ H, Pv z.cps.toList.length σ H → D.nx σ H) : ForBody K g tb D σ (.str z) H :=
  for_y (xs := z.cps.toList.map fun c => V.str ⟨#[c]⟩) Pv h0 (fun i σ H _ _ => yields_str z i H) (fun i y σ H hi p => by
    rw [List.getElem?_map] at hi
    cases e : z.cps.toList[i]? with
    | none => rw [e] at hi; cases hi
    | some c =>
      rw [e] at hi
      have e2 : V.str ⟨#[c]⟩ = y := Option.some.inj hi
      subst e2
      exact hs i c σ H e p) (fun σ H p => hd σ H (by rw [List.length_map] at p; exact p))
theorem forr_inv {g : TG} {tb : TS} {j : Int} (h0 : -1000000000 ≤ j) (h1 : j ≤ 1000000000) (Pv : Nat → L2.St → Hp → Prop) (hp : Pv 0 σ H)
    (hs : ∀ (i : Nat) σ H, (i : Int) < j → Pv i σ H → g (.int i) σ H fun σ2 H2 => tb { D with nx := Pv (i + 1), ct := Pv (i + 1), bk := D.nx } σ2 H2) (hd : ∀ σ H, Pv j.toNat σ H → D.nx σ H) : ForBodyR g tb D σ [.int j] H := by
  refine ⟨j, rfl, by omega, by omega, ?_⟩
  refine for_range (lo := 0) (n := j.toNat) Pv hp (fun i σ H hi p => ?_) hd
  rw [Int.zero_add]
  exact hs i σ H (by omega) p
theorem s_all {a : Addr} {bs : List Bool} (hp : H a = some (.lst (bs.map V.bl))) (h : Q (.bl (bs.all id)) H) : rAll K [.ref a] H Q := ⟨a, bs, rfl, SqL.of hp, h⟩
end
end Px
/-! try with several clauses 'except x as n' -/
namespace L2N
open PySem PySem.Spec PyProof.Rows L2
/-- one clause: its class, the slot of its name, its suite's reading -/
abbrev Cla := Value × Nat × (Addr → Value → Option Addr → TS)
def wList (K : PySem.W.Frag) (Wout : WX) (D : Ends) : List Cla → WX
  | [] => Wout
  | (c, i, ts) :: r => wAs K c i ts (wList K Wout D r) D
inductive Clas (X : Cx) : List ExceptHandler → List Cla → Prop
  | nil : Clas X [] []
  | cons {x n : Str} {c : Value} {i : Nat} {ts : Addr → Value → Option Addr → TS} {b1 : Stmt} {bs : List Stmt} {np p : Pos} {hds : List ExceptHandler} {l : List Cla} (hi : X.N[i]? = some n) (hln : X.env.kindOf n = some .local) (hc : Names X x c)
      (hsu : ∀ (a : Addr) (oe : Obj) (cls : Value) (d : Option Addr) (pn : List (Addr × Obj)), Zn cls d oe → (∃ vs, oe.data = .fields vs) → PSs (X.suite a ((a, oe) :: pn)) (b1 :: bs) (ts a cls d)) (r : Clas X hds l) :
      Clas X (.ExceptHandler (some (.Name x np)) (some n) (b1 :: bs) p :: hds) ((c, i, ts) :: l)
theorem ps_try_list {X : Cx} {body : List Stmt} {h1 : ExceptHandler} {hds : List ExceptHandler} {l : List Cla} {pos : Pos} {tb : WX → TS} {Wout : WX} (hs : X.stack = X.env :: X.outer) (hf : X.env.frame = some X.env.locals) (hN : X.N.Nodup) (tk : Takes X Wout)
    (hb : ∀ (W : WX) (pn : List (Addr × Obj)) (xe : Value → Shared → Prop), Takes (X.tr pn xe) W → PassesOwn (model X.prog X.w) X.A X.env xe → PSs (X.tr pn xe) body (tb W)) (hh : Clas X (h1 :: hds) l) :
    PS X (.Try body (h1 :: hds) [] [] pos) (fun D σ H => tb (wList X.K Wout D l) D σ H) := by
  refine ⟨fun pins s σ H D I h => ?_⟩
  have ok := I.ok
  have hfr : X.A.frames = some (X.env :: X.outer) := (ok.frames).trans (by rw [hs])
  refine wpAny_Try_except ?_
  refine wpAny_mono ((hb (wList X.K Wout D l) (X.pn ++ pins) (fun e s1 => wpAny (model X.prog X.w) X.A (noteFrame e X.env) (fun _ s2 => wpAny (model X.prog X.w) X.A (setFlight e none) (fun _ s3 => wpAny (model X.prog X.w) X.A (handleBy e X.env (h1 :: hds)) (SP X pins D) X.xe s3) X.xe s2) X.xe s1) (fun u s' xx => ?_) PassesOwn.looking).run [] s σ H D (I.toTry _) h) (fun f s1 hsp => ?_) (fun e s1 he => he)
  · obtain ⟨a, B, sI, pins', σ', H', cls, d, rfl, J', nb, up, sky, na, os, ag, w⟩ := xx
    have J : Inv X pins σ' H' sI := J'.ofTry ok
    have sky' : Sky B (X.env :: X.outer) a (Zn cls d) X.env.locals s'.heap := hs ▸ sky
    show wpAny (model X.prog X.w) X.A (noteFrame (.ref a) X.env) _ _ _
    refine Sky.land Zn.steady hfr hf sky' fun h3 fl3 up3 => ?_
    have J3 : Inv X pins σ' H' { s' with heap := h3 } := J.landed nb fl3.1 (up.trans up3) os ag
    obtain ⟨oe3, vs3, he3, hz3, hd3⟩ := fl3.there
    have nfr : a ∉ frs (X.env :: X.outer) := fun hm => by
      obtain ⟨_, o', e', hnf⟩ := fl3.2.2.1.mem hm
      have e4 := he3.symm.trans e'
      cases e4
      exact hnf _ hd3
    have nL : a ≠ X.env.locals := fun z => nfr (List.mem_filterMap.mpr ⟨X.env, List.mem_cons_self, by rw [hf, ← z]⟩)
    have nF : a ∉ X.fs := fun hm => by
      obtain ⟨e, he, q⟩ := List.mem_filterMap.mp hm
      exact nfr (List.mem_filterMap.mpr ⟨e, .tail _ he, q⟩)
    have S3 := J3.suite he3 hd3 na nL nF
    have each : ∀ {hs' : List ExceptHandler} {l' : List Cla}, Clas X hs' l' → wList X.K Wout D l' cls d σ' H' → wpAny (model X.prog X.w) X.A (handleBy (.ref a) X.env hs') (SP X pins D) X.xe { s' with heap := h3 } := by
      intro hs' l' hk
      induction hk with
      | nil =>
        intro w
        refine wpAny_handleBy_nil ?_
        obtain ⟨_, _, _, oe, vs, T, oT, ts', he, hz, hd, g1, hr⟩ := id fl3
        unfold PySem.passOn
        refine wpAny_bind (wpAny_field he hd g1 ?_)
        rw [if_neg (show ¬ ((Value.ref T == Value.none) = true) from nofun)]
        have fin : wpAny (model X.prog X.w) X.A (setFlight (.ref a) X.env.frame) (fun _ s4 => wpAny (model X.prog X.w) X.A (throw (.ref a) : Sem Flow) (SP X pins D) X.xe s4) X.xe { s' with heap := h3 } := by
          rw [hf]
          exact HandSPX.setFlight_upZ fl3 fun h4 hh4 up4 => wpAny_throw (tk _ _ ⟨a, B, sI, pins, σ', H', cls, d, rfl, J, nb, (up.trans up3).trans up4, .inr (.inr (by rw [hs]; exact hh4)), na, os, ag, w⟩)
        first
          | exact wpAny_bind (wpAny_pure (wpAny_bind fin))
          | exact wpAny_bind fin
      | @cons x n c i ts b1 bs np p hds2 l2 hi hln hc hsu r ih =>
        intro w
        obtain ⟨b, hb1, hyes, hno⟩ := w
        refine wpAny_handleBy_cons (codeAny_handlers_test ?_) nofun
        have LT : PySem.W.Looks (model X.prog X.w) h3 (typeOf (.ref a)) cls := fun A Q E s k q => wpAny_typeOf_ref (k _ _ he3) (hz3.1 ▸ q)
        have LM := PySem.W.exm_one (M := model X.prog X.w) J3.kIn LT hb1
        have test : ∀ {Q : Value → Shared → Prop} {E : Value → Shared → Prop}, Q c { s' with heap := h3 } → wpAny (model X.prog X.w) (X.A.mark (some (.ref a))) (eval (.Name x np) X.env) Q E { s' with heap := h3 } := fun {Q E} q => by
          obtain ⟨hg, hdbg, hm | ⟨hm, hv, hnn⟩⟩ := hc
          · exact ld_glob (X := X.suite a ((a, oe3) :: (X.pn ++ pins))) S3 hg hm q hdbg
          · exact ld_blt (X := X.suite a ((a, oe3) :: (X.pn ++ pins))) S3 hg hm hv q hnn hdbg
        refine test (LM.here ?_)
        cases b with
        | false =>
          show wpAny _ X.A (handleBy (.ref a) X.env hds2) _ _ _
          exact ih (hno rfl)
        | true =>
          refine codeAny_handlers_suite_as ?_
          refine HandSPX.lands_againZ fl3 fun h4 fl4 up4 => ?_
          have J4 : Inv X pins σ' H' { s' with heap := h4 } := J.landed nb fl4.1 ((up.trans up3).trans up4) os ag
          obtain ⟨oe4, vs4, he4, hz4, hd4⟩ := fl4.there
          refine store_ok (X := X.suite a ((a, oe4) :: (X.pn ++ pins))) (v := .ref a) (J4.suite he4 hd4 na nL nF) hN hi (.inl hln) rfl (fun s5 S5 => ?_) (.inr hln)
          refine wpAny_mono ((hsu a oe4 cls d (X.pn ++ pins) hz4 ⟨_, hd4⟩).run [] s5 _ H' _ S5 (hyes rfl a na)) (fun f s6 hsp => ?_) (fun _ _ z => z.elim)
          have end_ : ∀ {σ6 : St} {H6 : Hp} {Q : Shared → Prop}, Inv (X.suite a ((a, oe4) :: (X.pn ++ pins))) [] σ6 H6 s6 → (∀ s7, Inv X pins (σ6.set i none) H6 s7 → Q s7) →
              wpAny (model X.prog X.w) X.A (do bindName X.env n .none; unbindBehindTheSuite X.env n p) (fun _ s7 => Q s7) X.xe s6 := fun S6 hq => gone_ok (S6.unsuite ok) hN hi hln hq
          cases f with
          | next =>
            obtain ⟨_, _, S6, q6⟩ := hsp
            exact end_ S6 fun _ J7 => ⟨_, _, J7, q6⟩
          | brk =>
            obtain ⟨_, _, S6, q6⟩ := hsp
            exact end_ S6 fun _ J7 => ⟨_, _, J7, q6⟩
          | cont =>
            obtain ⟨_, _, S6, q6⟩ := hsp
            exact end_ S6 fun _ J7 => ⟨_, _, J7, q6⟩
          | ret u =>
            obtain ⟨_, _, _, S6, r6, q6⟩ := hsp
            exact end_ S6 fun _ J7 => ⟨_, _, _, J7, r6, q6⟩
    exact each hh w
  · cases f with
    | next =>
      obtain ⟨_, _, J', q⟩ := hsp
      exact wpAny_execs_nil ⟨_, _, J'.ofTry ok, q⟩
    | brk =>
      obtain ⟨_, _, J', q⟩ := hsp
      exact ⟨_, _, J'.ofTry ok, q⟩
    | cont =>
      obtain ⟨_, _, J', q⟩ := hsp
      exact ⟨_, _, J'.ofTry ok, q⟩
    | ret u =>
      obtain ⟨_, _, _, J', r, q⟩ := hsp
      exact ⟨_, _, _, J'.ofTry ok, r, q⟩
end L2N
/-! own classes: making, fields, constants -/
namespace Cl
open PySem PySem.Spec PyProof.Rows L2
theorem cxUpN {P : Program} {w : World} : StX.CXUp (L2N.CX P w) := by
  rintro outer s H s2 H2 E e s' un kp ho ⟨a, B, H', cls, d, ea, fl, hok, ub, na, os, ag, he⟩
  refine ⟨a, B, H', cls, d, ea, fl, hok, ?_, na, os.trans ho, ag, he⟩
  exact { keep := fun b o q n hb => ub.keep b o (kp b o q) (un.free b o q n (by simp)) hb
          slot := fun b o q hb => ub.slot b o (kp b o q) hb
          free := fun b o q n => ub.free b o (kp b o q) (un.free b o q n (by simp))
          there := fun b o q hb => ub.there b o (kp b o q) hb
          tups := fun b xs q => ub.tups b xs (un.tups b xs q)
          frzs := fun b o xs q => ub.frzs b o xs (un.frzs b o xs q)
          tbls := fun b ps q => by
            obtain ⟨m1, e1⟩ := un.tbls b ps q
            obtain ⟨m2, e2⟩ := ub.tbls b _ e1
            exact ⟨m1 ++ m2, by rw [e2, Array.append_assoc]⟩ }
theorem passNA {X : Cx} (σ : L2.St) : PassesAt (L2N.CX X.prog X.w) X σ E0 := fun _ _ _ _ _ _ h => by
  obtain ⟨_, _, _, _, _, _, _, _, _, _, _, _, z⟩ := h
  exact z.elim
section
variable {X : Cx} {CX : CXT} {k : Nat} {f C : Addr} {sp : Sp} {E : L2.St → XK} {x : Str} {e : Expr} {es : List Expr} {t : TA} {p pos : Pos}
/-- C(..): a new instance and its dict, then __init__ by its positional promise -/
def tMakeS (C : Addr) (sp : Sp) (E : L2.St → XK) (t : TA) : TE := fun σ H Q => t σ H fun vs H1 => ∀ x dx, H1 x = none → H1 dx = none → dx ≠ x →
  sp (V.ref x :: vs) (upd (upd H1 dx (.own x)) x (.ins C dx [])) (fun v H2 => v = .non ∧ Q (.ref x) H2) (E σ)
theorem run_makeS {pins : List (Addr × Obj)} {σ : L2.St} {H : Hp} {s : Shared} {Q : VK} {us : List Value} {vs : List V} (M : Mk X.K C f) (F : FnR X.prog X.w X.K X.mg X.base CX k f sp) (hr : Room (k + 1) X.A) (hx : PassesAt CX X σ (E σ)) (I : Inv X pins σ H s) (r : Vals vs us)
    (h : ∀ x dx, H x = none → H dx = none → dx ≠ x → sp (V.ref x :: vs) (upd (upd H dx (.own x)) x (.ins C dx [])) (fun v H2 => v = .non ∧ Q (.ref x) H2) (E σ)) :
    wpAny (model X.prog X.w) X.A (call (.ref C) us) (EP X pins σ Q) X.xe s := by
  have hq := h (s.heap.objs.size + 1) s.heap.objs.size (I.hok.fresh (Nat.le_succ _)) (I.hok.fresh (Nat.le_refl _)) (Nat.ne_of_lt (Nat.lt_succ_self _))
  have I2 := Inv.made (C := C) I
  refine wpAny_call (make_map (f := f) I.kIn M.makes M.init (beq_iff_eq.mp M.fn) (codeAny_mono (F _ X.stack _ _ (Value.ref (s.heap.objs.size + 1) :: us) _ _ (E σ) (hr.make C us []) (I2.env0.make C us []) (show Vals (V.ref (s.heap.objs.size + 1) :: vs) (Value.ref (s.heap.objs.size + 1) :: us) from .cons rfl r) hq) fun r s' hq' => ?_))
  cases r with
  | error e => exact hx pins _ _ e s' I2 hq'
  | ok fl =>
    cases fl with
    | ret u =>
      obtain ⟨v, H', I3, rv, ev, q3⟩ := I2.after hq'
      subst ev
      exact ⟨rv, V.ref (s.heap.objs.size + 1), H', I3, rfl, q3⟩
    | _ => exact hq'.elim
theorem pe_makeS (M : Mk X.K C f) (F : FnR X.prog X.w X.K X.mg X.base CX k f sp) (hr : Room (k + 1) X.A) (hg : Gl X x) (hm : X.mg x = some (.ref C)) (hx : ∀ σ, PassesAt CX X σ (E σ)) (ha : PA X (e :: es) t) (hdb : (x == ("__debug__" : Str)) = false := by decide)
    (he : starEach (e :: es) X.env = (false, eval e X.env) :: starEach es X.env := by rfl) (hpl : (backTo pos (starEach es X.env)).any (·.1) = false := by rfl) : PE X (.Call (.Name x p) (e :: es) [] pos) (tMakeS C sp E t) := by
  refine ⟨fun pins s σ H Q I h => wpAny_Call_Name_kw (ld_glob I hg hm ?_ hdb)⟩
  exact PySem.W.callWith_K (h₀ := X.base) I.ok.mod.kin M.kp (thn (ha.run pos pins s σ H _ I h) fun us s1 ⟨vs, H1, I1, r, q⟩ => ⟨I1.kIn, run_makeS M F hr (hx σ) I1 r q⟩) he hpl
theorem pe_makeS0 (M : Mk X.K C f) (F : FnR X.prog X.w X.K X.mg X.base CX k f sp) (hr : Room (k + 1) X.A) (hg : Gl X x) (hm : X.mg x = some (.ref C)) (hx : ∀ σ, PassesAt CX X σ (E σ)) (hdb : (x == ("__debug__" : Str)) = false := by decide) :
    PE X (.Call (.Name x p) [] [] pos) (tMakeS C sp E tNil) :=
  ⟨fun pins s σ H Q I h => wpAny_Call_Name_kw (ld_glob I hg hm (PySem.W.callWith_K0 I.kIn M.kp (run_makeS (us := []) M F hr (hx σ) I .nil h)) hdb)⟩
/-- C(*e) -/
theorem pe_makeSS {te : TE} {sp_ : Pos} (M : Mk X.K C f) (F : FnR X.prog X.w X.K X.mg X.base CX k f sp) (hr : Room (k + 1) X.A) (hg : Gl X x) (hm : X.mg x = some (.ref C)) (hx : ∀ σ, PassesAt CX X σ (E σ)) (he : PE X e te) (hdb : (x == ("__debug__" : Str)) = false := by decide)
    (hst : starEach [.Starred e sp_] X.env = [(true, eval e X.env)] := by rfl) : PE X (.Call (.Name x p) [.Starred e sp_] [] pos) (tMakeS C sp E (StX.tStar X.K te tNil)) := by
  refine ⟨fun pins s σ H Q I h => wpAny_Call_Name_kw (ld_glob I hg hm ?_ hdb)⟩
  refine PySem.W.callWith_S (h₀ := X.base) I.ok.mod.kin M.kp (thn (he.run pins s σ H _ I h) fun v s1 ⟨y, H1, I1, ry, a, xs, ey, hxs, q⟩ => ?_) hst
  subst ey
  obtain rfl : v = Value.ref a := ry
  refine StX.star_any I1 hxs fun us s2 I2 rv => ⟨I2.kIn, ?_⟩
  have q : ∀ x dx, H1 x = none → H1 dx = none → dx ≠ x → sp (V.ref x :: (xs ++ [])) (upd (upd H1 dx (.own x)) x (.ins C dx [])) (fun v H2 => v = .non ∧ Q (.ref x) H2) (E σ) := q
  rw [List.append_nil] at q
  exact run_makeS M F hr (hx σ) I2 rv q
end
theorem toR {P : Program} {w : World} {K : PySem.W.Frag} {mg : Str → Option Value} {base : Heap} {CX : CXT} {k : Nat} {f : Addr} {fd : FuncData} {ps : List Str} {sp : Sp} (F : FnOk P w K mg base CX k f fd ps sp) (hb : Binds K fd ps []) : FnR P w K mg base CX k f sp := by
  intro A outer s H us vs Q E hr e0 r h
  have hl : (us ++ []).length = ps.length := by rw [List.append_nil, ← r.length]; exact F.len _ _ _ _ h
  have z := hb s us (e0.mod.kin.keeps fun b o e => (e0.bs b o e).1) hl
  rw [List.append_nil] at z
  exact F.run A outer s H ⟨us, []⟩ us vs Q E hr e0 z r h
/-! attributes by the class of the object -/
abbrev Alt := Addr → List (Str × V) → L2.St → Hp → VK → Prop
def AltOk (X : Cx) (f : Str) (C : Addr) (r : Alt) : Prop := ∀ (pins : List (Addr × Obj)) (s : Shared) (σ : L2.St) (H : Hp) (a dx : Addr) (fs : List (Str × V)) (Q : VK), Inv X pins σ H s → H a = some (.ins C dx fs) → r a fs σ H Q →
  wpAny (model X.prog X.w) X.A (getAttr (.ref a) f true) (EP X pins σ Q) X.xe s
/-- e.f, by the alternatives of its object's class -/
def tAtt (l : List (Addr × Alt)) (te : TE) : TE := fun σ H Q => te σ H fun x H1 => ∃ (a dx : Addr) (fs : List (Str × V)) (i : Nat) (C : Addr) (r : Alt), x = .ref a ∧ l[i]? = some (C, r) ∧ H1 a = some (.ins C dx fs) ∧ r a fs σ H1 Q
def aFld (f : Str) : Alt := fun _ fs _ H Q => ∃ v, fs.lookup f = some v ∧ Q v H
def aCon (f : Str) (v : V) : Alt := fun _ fs _ H Q => fs.lookup f = none ∧ Q v H
def aProp (sp : Sp) : Alt := fun a _ _ H Q => sp [.ref a] H Q E0
section
variable {X : Cx} {f : Str} {C : Addr} {e : Expr} {te : TE} {pos : Pos}
theorem alt_fld (c : Cls X.K C) (n : NoAttr X.K C f) : AltOk X f C (aFld f) := fun pins s σ H a dx fs Q I ha ⟨v, l, q⟩ => getattr_ok I ha c n l fun u s' I' r => ⟨v, H, I', r, q⟩
theorem alt_con {v : V} {u : Value} (c : Cls X.K C) (n : Con X.K C f v u) : AltOk X f C (aCon f v) := fun pins s σ H a dx fs Q I ha ⟨l, q⟩ => getcon_ok I ha c n l fun s' I' => ⟨v, H, I', n.rel, q⟩
theorem alt_prop {CX : CXT} {k : Nat} {p g : Addr} {fd : FuncData} {ps : List Str} {sp : Sp} (c : Cls X.K C) (hp : PropOf X.K C f p g) (F : FnOk X.prog X.w X.K X.mg X.base CX k g fd ps sp) (hr : Room (k + 1) X.A) (hb : Binds X.K fd ps []) (hx : Passes CX X.nox E0) : AltOk X f C (aProp sp) :=
  fun pins s σ H a dx fs Q I ha q => getprop_ok I ha c hp F hr hb .nil hx q
inductive Alts (X : Cx) (f : Str) : List (Addr × Alt) → Prop
  | nil : Alts X f []
  | cons {C : Addr} {r : Alt} {l : List (Addr × Alt)} : AltOk X f C r → Alts X f l → Alts X f ((C, r) :: l)
theorem Alts.at {l : List (Addr × Alt)} (h : Alts X f l) : ∀ {i : Nat} {r : Alt}, l[i]? = some (C, r) → AltOk X f C r := by
  induction h with
  | nil => intro i r e; cases e
  | cons h _ ih =>
    intro i r e
    cases i with
    | zero => cases e; exact h
    | succ i => exact ih (by simpa using e)
theorem pe_att {l : List (Addr × Alt)} (h : Alts X f l) (he : PE X e te) (hb : attributeBase e f X.env (eval e X.env) = eval e X.env := by rfl) : PE X (.Attribute e f pos) (tAtt l te) := by
  refine ⟨fun pins s σ H Q I q => attr_of hb (thn (he.run pins s σ H _ I q) fun u s1 ⟨x, H1, I1, rx, a, dx, fs, i, C, r, ex, hl, ha, q1⟩ => ?_)⟩
  subst ex
  obtain rfl : u = Value.ref a := rx
  exact h.at hl pins s1 σ H1 a dx fs Q I1 ha q1
/-- e.f = v, by the class -/
def sAtt (l : List Addr) (ta tv : TE) (f : Str) : TS := fun D σ H => tv σ H fun y H1 => ta σ H1 fun x H2 => ∃ a C dx fs, x = .ref a ∧ C ∈ l ∧ H2 a = some (.ins C dx fs) ∧ fs.length < 1000 ∧ D.nx σ (upd H2 a (.ins C dx (putF f y fs)))
theorem ps_att {l : List Addr} {o value : Expr} {ta tv : TE} {pos' : Pos} (h : ∀ C ∈ l, Cls X.K C ∧ NoAttr X.K C f) (ha : PE X o ta) (hv : PE X value tv) (hs : swapsWith value (some (.Attribute o f pos')) pos.line X.env = pure false := by rfl) : PS X (.Assign [.Attribute o f pos'] value pos) (sAtt l ta tv f) := by
  refine ⟨fun pins s σ H D I q => plainObj_wpAny_Assign_Attribute (thn (hv.run pins s σ H _ I q) fun u s1 ⟨y, H1, I1, ry, q1⟩ => thn (ha.run pins s1 σ H1 _ I1 q1) fun ov s2 ⟨x, H2, I2, rx, a, C, dx, fs, ex, hC, ea, l1, q2⟩ => ?_) hs⟩
  subst ex
  obtain rfl : ov = Value.ref a := rx
  exact setattr_ok I2 ea (h C hC).1 (h C hC).2 l1 ry fun s3 I3 => ⟨σ, _, I3, q2⟩
/-- C.f, a constant read of the class itself -/
def tCls (v : V) : TE := fun _ H Q => Q v H
theorem pe_cls {mc : Value} {v : V} {u : Value} {x : Str} {p : Pos} (r : ClX.CRead X.K C mc) (k : ClX.CVal X.K C mc f v u) (hg : Gl X x) (hm : X.mg x = some (.ref C)) (hd : (x == ("__debug__" : Str)) = false := by decide) (hb : attributeBase (.Name x p) f X.env (eval (.Name x p) X.env) = eval (.Name x p) X.env := by rfl) : PE X (.Attribute (.Name x p) f pos) (tCls v) :=
  ⟨fun pins s σ H Q I q => attr_of hb (ld_glob I hg hm (ClX.getcval_ok I r k fun s2 I2 => ⟨v, H, I2, k.rel, q⟩) hd)⟩
end
end Cl
namespace L2
open PySem PySem.Spec PyProof.Rows
/-- isinstance(e, (c1, c2)), e the exception that the suite holds -/
def rIsET (K : PySem.W.Frag) (a : Addr) (cls : Value) (d : Option Addr) : List V → Hp → VK → Prop := fun xs H Q => ∃ (D tp : Addr) (cs : List V) (ws : List Value) (b : Bool), cls = .ref D ∧ ExcC K D ∧ (d = none ∨ ∃ dd fs, d = some dd ∧ H dd = some (.xd fs)) ∧ xs = [.ref a, .ref tp] ∧ H tp = some (.tup cs) ∧ Paired ClsV cs ws ∧ PySem.W.kitAny K (.ref D) ws = some b ∧ Q (.bl b) H
theorem call_isET {X : Cx} {a : Addr} {cls : Value} {d : Option Addr} {oe : Obj} {pn : List (Addr × Obj)} (hz : Zc cls d oe) (hf : ∃ vs, oe.data = .fields vs) : CallR (X.suite a ((a, oe) :: pn)) (.builtin "isinstance") (rIsET X.K a cls d) := by
  intro pins s σ H xs us Q I r h
  obtain ⟨D, tp, cs, ws, b, rfl, C, hd, rfl, hT, k, e, q⟩ := h
  cases r with
  | cons rx rr =>
    cases rr with
    | cons rt rr =>
      cases rr
      cases rx
      rename_i u2
      obtain rfl : u2 = Value.ref tp := rt
      obtain ⟨hget, _⟩ := I.pin (a, oe) (List.mem_append.mpr (.inl List.mem_cons_self))
      obtain ⟨vs, hv⟩ := hf
      have hcl : (PySem.W.clsIn X.K D).isSome = true := by
        obtain ⟨cd, hc, _⟩ := PySem.W.any_some C.hd
        rw [hc]; rfl
      obtain ⟨_, its, rv, o, h1, h2, n, h3⟩ := (show ObjOk X.prog X.w H s.heap tp (.tup cs) from I.hok tp _ hT)
      have e3 := ClsV.all k rv
      subst e3
      obtain ⟨oc0, od0, dt0, sl0⟩ := o
      simp only at h2 h3
      subst h2 h3
      have J : ∃ od, PySem.W.InstAt s.heap a oe D od := by
        obtain ⟨oc, od, oda, osl⟩ := oe
        obtain ⟨h1, h2⟩ := hz
        dsimp only at h1 h2 hv
        subst h1 h2 hv
        rcases hd with rfl | ⟨dd, fs, rfl, hx⟩
        · exact ⟨none, hget, rfl, rfl, trivial⟩
        · have hx2 : ObjOk X.prog X.w H s.heap dd (.xd fs) := I.hok dd _ hx
          obtain ⟨mA, hns, hr⟩ := hx2
          obtain ⟨od, ho, hl⟩ := lookIn_ns hns
          exact ⟨some od, hget, rfl, rfl, ho⟩
      obtain ⟨od, J⟩ := J
      exact PySem.W.kia_tup (PySem.W.kitx_exc hcl C.hg C.hk C.hs C.ha C.hn C.ht C.hm) I.kIn J h1 e (fun z => nomatch z) fun tk => ⟨.bl b, H, I.kept (t' := tk) fun _ _ z => z, rfl, q⟩
end L2
/-! the head's facts of classes -/
namespace Hk
open PySem PySem.W PySem.Spec PyProof.Rows L2 He
def intB (i : Int) : Option (Option Value) → Bool
  | some (some (.int j _)) => decide (j = i)
  | _ => false
def conB (K : Frag) (C : Addr) (f : PySem.Str) (i : Int) : Bool := match findIn K (.ref C) f with
  | some (some (.int j t)) => decide (j = i) && eqO (specialIn K (.int j t) "__get__") (some none)
  | _ => false
theorem conB_ok {K : Frag} {C : Addr} {f : PySem.Str} {i : Int} (h : conB K C f i = true) (cp : copiedNames.contains f = false) : ∃ u, Con K C f (.int i) u := by
  unfold conB at h
  split at h
  · rename_i j t e
    obtain ⟨h1, h2⟩ := ba h
    have e1 := of_decide_eq_true h1
    subst e1
    exact ⟨_, e, ⟨t, rfl⟩, eqO_ok h2, cp⟩
  · cases h
def cvalB (K : Frag) (C : Addr) (f : PySem.Str) (i : Int) : Bool := readsIn K C (.type "type") && (eqO (specialIn K (.ref C) "__getattribute__") (some (some (.builtin "type.__getattribute__"))) && (match findCls K (.ref C) (.type "type") f with
  | some (.val (.int j _)) => decide (j = i)
  | _ => false))
theorem cvalB_ok {K : Frag} {C : Addr} {f : PySem.Str} {i : Int} (h : cvalB K C f i = true) : ClX.CRead K C (.type "type") ∧ ∃ u, ClX.CVal K C (.type "type") f (.int i) u := by
  unfold cvalB at h
  obtain ⟨h1, h⟩ := ba h
  obtain ⟨h2, h3⟩ := ba h
  refine ⟨⟨h1, eqO_ok h2⟩, ?_⟩
  split at h3
  · rename_i j t e
    have e1 := of_decide_eq_true h3
    subst e1
    exact ⟨_, e, ⟨t, rfl⟩⟩
  · cases h3
/-- what isinstance asks of a class of instances -/
structure InsK (K : Frag) (C : Addr) : Prop where
  cl : Cls K C
  ha : findIn K (.ref C) "__class__" = some (some (.builtin "object.__class__"))
  hn : specialIn K (.builtin "object.__class__") "__get__" = some (some (.builtin "getset_descriptor.__get__"))
  ht : takesIn K (.builtin "object.__class__") = some true
  hm : mroIn K C (.type "object") = some true
theorem InsK.ty {K : Frag} {C a dx : Addr} {fs : List (PySem.Str × V)} {H : Hp} (k : InsK K C) (h : H a = some (.ins C dx fs)) : TyX K H (.ref a) (.ref C) := .base (.ins h k.cl k.ha k.hn k.ht k.hm)
def insKB (K : Frag) (C : Addr) : Bool := eqO (findIn K (.ref C) "__class__") (some (some (.builtin "object.__class__"))) && (eqO (specialIn K (.builtin "object.__class__") "__get__") (some (some (.builtin "getset_descriptor.__get__"))) && (decide (takesIn K (.builtin "object.__class__") = some true) && decide (mroIn K C (.type "object") = some true)))
theorem insKB_ok {K : Frag} {C : Addr} (c : Cls K C) (h : insKB K C = true) : InsK K C := by
  unfold insKB at h
  obtain ⟨h1, h⟩ := ba h
  obtain ⟨h2, h⟩ := ba h
  obtain ⟨h3, h4⟩ := ba h
  exact ⟨c, eqO_ok h1, eqO_ok h2, of_decide_eq_true h3, of_decide_eq_true h4⟩
/-- a def with *v: its positional promise -/
theorem okStar {P : Program} {w : World} {K : Frag} {mg : PySem.Str → Option Value} {base : Heap} {x qual pv : PySem.Str} {params : Arguments} {body : List Stmt} {scope : Scope} {kws : List (PySem.Str × V)} {f : Addr} {fd : FuncData} {N ps : List PySem.Str} {k : Nat} {sp : Sp} (F : FunD K x qual params body scope [] kws f fd) (S : FnScope N (ps ++ [pv]) scope)
    (hb : ∀ (kV doc pm : Value) (an : Option Addr) (cdv ct : Value) (us rest : List Value), us.length = ps.length → bindArgs (fnOf x qual params body scope .none kV doc pm an cdv ct) ⟨us ++ rest, []⟩ = (newTuple rest >>= fun t => pure (ps.zip us ++ [(pv, t)])))
    (hbody : ∀ (cdv : Value) (A : Around) (outer : List Env) (s : Shared) (H : Hp) (vs : List V) (Q : VK) (E : XK), Room k (A.deeper (envOfC qual scope s.heap.objs.size f cdv)) → sp vs H Q E →
      ∃ t, PSs (cxOf (L2N.CX P w) P w K mg base N qual scope f cdv A outer s H E) body t ∧ t { nx := fun _ H' => Q .non H', rt := Q } (start N vs) H) :
    FnR P w K mg base (L2N.CX P w) (k + 1) f (fun vs H Q E => ∃ ws rest, vs = ws ++ rest ∧ ws.length = ps.length ∧ rest.length ≤ sizeLine ∧ ∀ p, H p = none → sp (ws ++ [V.ref p]) (upd H p (.tup rest)) Q E) := by
  obtain ⟨oc, od, dV, kV, doc, pm, an, cdv, ct, osl, rfl, lk, hcd, hD, _⟩ := F.ex
  rcases hD with ⟨_, rfl⟩ | ⟨e, _⟩
  rotate_left
  · exact absurd rfl e
  exact StX.fn_star lk hcd S Cl.cxUpN (hb _ _ _ _ _ _) fun A outer s H vs Q E hr h => hbody cdv A outer s H vs Q E hr h
end Hk
/-! lists' methods, sorted, dicts with text keys, comprehensions with if; classes: steps -/
namespace Px
open PySem PySem.Spec PyProof.Rows L2
/-- sorted(xs): texts or ints, any number of them -/
def rSortedT (K : PySem.W.Frag) : List V → Hp → VK → Prop := fun vs H Q => ∃ (a : Addr) (xs : List Str), vs = [V.ref a] ∧ SqL K H a (xs.map V.str) ∧ ∀ (ys : List Str) (p : Addr), ys.Perm xs → sortedS ys = true → H p = none → Q (.ref p) (upd H p (.lst (ys.map V.str)))
def rSortAny (K : PySem.W.Frag) : List V → Hp → VK → Prop := fun vs H Q => rSortedT K vs H Q ∨ rSortedI K vs H Q
theorem cr_sortedP2 {X : Cx} : CallR X (.builtin "sorted") (rSortAny X.K) := by
  intro pins s σ H vs us Q I r h
  rcases h with ⟨a, xs, rfl, hs, q⟩ | h
  · obtain ⟨its, rv, hl, hz⟩ := I.list hs
    obtain ⟨u, rfl, ru⟩ := vals1 r
    cases ru
    refine PyProof.Rows.sorted_strsAny hl.isList rv.strs (by rw [← rv.length]; exact hz) fun out ys h1 h2 h3 => ?_
    obtain ⟨ep, he'⟩ := PyProof.Rows.sortedAll_at s.heap its out
    have hlen : (ys.map V.str).length ≤ sizeLine := by
      rw [List.length_map] at hz ⊢
      rw [h2.length_eq]
      exact hz
    exact ⟨.ref _, upd H (s.heap.objs.size + 1) (.lst (ys.map V.str)), I.laid (t' := s.toks) (fun _ _ => PyProof.Rows.sortedAll_old) (Nat.le_succ _) ⟨hlen, out.toList, ep, vals_of_strs h1, he'⟩, rfl, q ys _ h2 h3 (I.hok.fresh (Nat.le_succ _))⟩
  · exact cr_sortedI pins s σ H vs us Q I r h
section
variable {K : PySem.W.Frag} {σ : L2.St} {H H1 : Hp} {D : Ends} {Q : VK} {t : TA} {te to ta tv : TE} {v x y : V} {p : Addr} {xs : List V}
theorem s_bm {T : String} {r : V → List V → Hp → VK → Prop} (h : to σ H fun x H1 => tyV K T x H1 ∧ t σ H1 fun xs H2 => r x xs H2 Q) : tBM K T r to t σ H Q := h
theorem s_tyL {r : V → List V → Hp → VK → Prop} (hp : H p = some (.lst xs)) (h : t σ H fun xs H2 => r (.ref p) xs H2 Q) : tyV K "list" (.ref p) H ∧ t σ H fun xs H2 => r (.ref p) xs H2 Q := ⟨.inl ⟨rfl, _, SqL.of hp⟩, h⟩
theorem s_app (hp : H p = some (.lst xs)) (hl : xs.length ≤ 1000000) (h : Q .non (upd H p (.lst (xs ++ [y])))) : rAppend (.ref p) [y] H Q := ⟨p, xs, y, rfl, rfl, hp, by rw [sizeLine_eq]; omega, h⟩
theorem s_sort {ss : List Str} (hp : H p = some (.lst (ss.map V.str))) (hl : ss.length ≤ 1000000) (h : ∀ ys q, ys.Perm ss → sortedS ys = true → H q = none → Q (.ref q) (upd H q (.lst (ys.map V.str)))) : rSortAny K [.ref p] H Q := .inl ⟨p, ss, rfl, SqL.of hp, h⟩
theorem s_sortI {ns : List Int} (hp : H p = some (.lst (ns.map V.int))) (h : ∀ (ns' : List Int) (q : Addr), ns'.Perm ns → ns'.Pairwise (· ≤ ·) → H q = none → Q (.ref q) (upd H q (.lst (ns'.map V.int)))) : rSortAny K [.ref p] H Q := .inr ⟨p, ns, rfl, SqL.of hp, h⟩
theorem s_inL {neg : Bool} (hp : H p = some (.lst xs)) (fx : flatV x = true) (fs : xs.all flatV = true) (h : Q (.bl (tgtIn neg (inV x xs))) H) : rInP K neg x (.ref p) H Q := .inl ⟨p, xs, rfl, .inl (SqL.of hp), fx, fs, h⟩
theorem s_inT {neg : Bool} (hp : H p = some (.tup xs)) (fx : flatV x = true) (fs : xs.all flatV = true) (h : Q (.bl (tgtIn neg (inV x xs))) H) : rInP K neg x (.ref p) H Q := .inl ⟨p, xs, rfl, .inr (SqT.of hp), fx, fs, h⟩
theorem flat_strs (ss : List Str) : (ss.map V.str).all flatV = true := by rw [List.all_map]; exact List.all_eq_true.mpr fun _ _ => rfl
theorem flat_ints (ss : List Int) : (ss.map V.int).all flatV = true := by rw [List.all_map]; exact List.all_eq_true.mpr fun _ _ => rfl
theorem inV_strs (z : Str) (ss : List Str) : inV (.str z) (ss.map V.str) = decide (z ∈ ss) := by
  unfold inV
  rw [List.any_map, Bool.eq_iff_iff, List.any_eq_true, decide_eq_true_iff]
  constructor
  · rintro ⟨y, hy, e⟩
    have e2 : (y == z) = true := e
    rw [← eq_of_beq e2]
    exact hy
  · intro h
    exact ⟨z, h, show (z == z) = true from beq_self_eq_true z⟩
theorem inV_ints (z : Int) (ss : List Int) : inV (.int z) (ss.map V.int) = decide (z ∈ ss) := by
  unfold inV
  rw [List.any_map, Bool.eq_iff_iff, List.any_eq_true, decide_eq_true_iff]
  constructor
  · rintro ⟨y, hy, e⟩
    have e2 : (y == z) = true := e
    rw [← eq_of_beq e2]
    exact hy
  · intro h
    exact ⟨z, h, show (z == z) = true from beq_self_eq_true z⟩
theorem s_inSL {neg : Bool} {z : Str} {ss : List Str} (hp : H p = some (.lst (ss.map V.str))) (h : Q (.bl (tgtIn neg (decide (z ∈ ss)))) H) : rInP K neg (.str z) (.ref p) H Q :=
  s_inL hp rfl (flat_strs ss) (by rw [inV_strs]; exact h)
theorem s_inST {neg : Bool} {z : Str} {ss : List Str} (hp : H p = some (.tup (ss.map V.str))) (h : Q (.bl (tgtIn neg (decide (z ∈ ss)))) H) : rInP K neg (.str z) (.ref p) H Q :=
  s_inT hp rfl (flat_strs ss) (by rw [inV_strs]; exact h)
/-! dicts that keep True for texts -/
def ksD (ks : List Str) : HO := .dK (ks.map fun k => (Sum.inr k, V.bl true))
theorem s_dnew (h : ∀ p, H p = none → Q (.ref p) (upd H p (ksD []))) : tDNewK σ H Q := h
theorem val_ks (z : Str) (ks : List Str) : (valV (ks.map fun k => ((Sum.inr k : Key), V.bl true)) (Sum.inr z)).isSome = decide (z ∈ ks) := by
  rw [← valV_any, List.any_map, Bool.eq_iff_iff, List.any_eq_true, decide_eq_true_iff]
  constructor
  · rintro ⟨y, hy, e⟩
    have e2 : (Sum.inr y : Key) = Sum.inr z := of_decide_eq_true e
    cases e2
    exact hy
  · intro h
    exact ⟨z, h, decide_eq_true rfl⟩
theorem s_inD {neg : Bool} {z : Str} {ks : List Str} (hp : H p = some (ksD ks)) (h : Q (.bl (tgtIn neg (decide (z ∈ ks)))) H) : rInP K neg (.str z) (.ref p) H Q :=
  .inr ⟨_, DGet.k (k := Sum.inr z) hp, by rw [val_ks]; exact h⟩
theorem put_ks (z : Str) (ks : List Str) : putK (ks.map fun k => ((Sum.inr k : Key), V.bl true)) (Sum.inr z) (.bl true) = (if z ∈ ks then ks else ks ++ [z]).map fun k => ((Sum.inr k : Key), V.bl true) := by
  unfold putK
  rw [valV_any, val_ks]
  by_cases h : z ∈ ks
  · rw [if_pos (decide_eq_true h), if_pos h, List.map_map]
    apply List.map_congr_left
    intro k _
    show (if (Sum.inr k : Key) = Sum.inr z then _ else _) = _
    split <;> rfl
  · rw [if_neg (by rw [decide_eq_false h]; exact Bool.false_ne_true), if_neg h, List.map_append]
    rfl
theorem s_putD {z : Str} {ks : List Str} {QH : Hp → Prop} (hp : H p = some (ksD ks)) (hl : ks.length ≤ 1000000) (h : QH (upd H p (ksD (if z ∈ ks then ks else ks ++ [z])))) : rSetP (.ref p) (.str z) (.bl true) H QH := by
  refine .inr ⟨_, DPut.k (k := Sum.inr z) hp (by rw [List.length_map, sizeLine_eq]; omega), ?_⟩
  rw [put_ks]
  exact h
theorem upd_back {d : Addr} {u w : HO} (h : H d = some u) : upd (upd H d w) d u = H := by
  rw [upd_upd]
  funext b
  by_cases e : b = d
  · subst e; rw [upd_same, h]
  · rw [upd_ne e]
/-- [e for x in a dict of texts] -/
theorem lc_keys {i v : Nat} {te : TE} {d : Addr} {ks : List Str} (f : Str → V) (hv : σ[i]? = some (some (.ref d))) (hd : H d = some (ksD ks)) (hl : ks.length ≤ 1000000)
    (hf : ∀ z ∈ ks, ∀ H' od, H' d = some (.frz od (ksD ks)) → (∀ b o, H b = some o → b ≠ d → H' b = some o) → ∀ Q' : VK, (∀ H'', Same H' H'' → Q' (f z) H'') → te (σ.set v (some (.str z))) H' Q')
    (hq : ∀ D H', H D = none → Same H H' → H' D = some (.lst (ks.map f)) → Q (.ref D) H') : tLockE (tLc (iKeys (tVar i)) (gName v) tYes te [v]) σ H Q := by
  refine ⟨d, ksD ks, hd, trivial, fun od => ?_⟩
  refine ⟨_, hv, d, od, rfl, .inl ⟨_, upd_same, ?_⟩⟩
  have hy : ∀ j H', Same (upd H d (.frz od (ksD ks))) H' → YieldsAt (Itk d od (ks.map fun k => ((Sum.inr k : Key), V.bl true))) (ks.map V.str) j H' := by
    intro j H' sm
    have hd' := sm _ _ (upd_same (H := H) (a := d) (o := HO.frz od (ksD ks)))
    refine ⟨fun hj => ⟨⟨hd', by simpa using hj⟩, fun x H'' y => ?_⟩, fun hj => ⟨hd', by simpa using hj⟩⟩
    obtain ⟨e, k, w, hk, rfl⟩ := y
    refine ⟨e, ?_⟩
    rw [List.getElem?_map] at hk ⊢
    cases e2 : ks[j]? with
    | none => rw [e2] at hk; cases hk
    | some z =>
      rw [e2] at hk
      have hk2 : ((Sum.inr z : Key), V.bl true) = (k, w) := Option.some.inj hk
      cases hk2
      rfl
  have old : ∀ b o, H b = some o → b ≠ d → (upd H d (.frz od (ksD ks))) b = some o := fun b o e n => by rw [upd_ne n]; exact e
  show LcB (Itk d od (ks.map fun k => ((Sum.inr k : Key), V.bl true))) (gName v) tYes te [v] σ (fun v H' => H' d = some (.frz od (ksD ks)) ∧ Q v (upd H' d (ksD ks))) (upd H d (.frz od (ksD ks)))
  refine lc_map (Q := fun v H' => H' d = some (.frz od (ksD ks)) ∧ Q v (upd H' d (ksD ks))) (σ := σ) (v := v) (te := te) (f := fun x => match x with | .str z => f z | _ => .non) (by rw [List.length_map]; exact hl) hy ?_ ?_
  · intro x hx H' sm Q' hQ
    obtain ⟨z, hz, rfl⟩ := List.mem_map.mp hx
    exact hf z hz H' od (sm _ _ upd_same) (fun b o e n => sm _ _ (old b o e n)) Q' hQ
  · intro D H' hD sm hr
    have hDd : D ≠ d := fun e => by rw [e, upd_same] at hD; cases hD
    rw [upd_ne hDd] at hD
    refine ⟨sm _ _ upd_same, hq D _ hD (fun b o e => ?_) ?_⟩
    · by_cases n : b = d
      · subst n
        rw [upd_same, ← hd, e]
      · rw [upd_ne n]
        exact sm _ _ (old b o e n)
    · rw [upd_ne hDd, hr, List.map_map]
      rfl
/-- [e for x in y if c]: the heap only grows -/
theorem lc_filt {J : L2.It} {v : Nat} {tt : TT} {te : TE} {f : V → V} {c : V → Bool} (hx : xs.length ≤ 1000000) (hy : ∀ i H, Same H1 H → YieldsAt J xs i H)
    (hc : ∀ x ∈ xs, ∀ H', Same H1 H' → ∀ Q' : Bool → Hp → Prop, (∀ H'', Same H' H'' → Q' (c x) H'') → tt (σ.set v (some x)) H' Q')
    (hf : ∀ x ∈ xs, c x = true → ∀ H', Same H1 H' → ∀ Q' : VK, (∀ H'', Same H' H'' → Q' (f x) H'') → te (σ.set v (some x)) H' Q')
    (hq : ∀ D H', H1 D = none → Same H1 H' → H' D = some (.lst ((xs.filter c).map f)) → Q (.ref D) H') : LcB J (gName v) tt te [v] σ Q H1 := by
  intro Dr hD
  refine lc_y (xs := xs) (fun i H => Same H1 H ∧ H Dr = some (.lst (((xs.take i).filter c).map f))) ⟨same_new hD, by simp [upd_same]⟩ (fun i H _ p => hy i H p.1) ?_ (fun H p => hq Dr H hD p.1 (by rw [p.2, List.take_length]))
  rintro i x H hi ⟨sm, hl⟩
  have e1 : wipe σ [v] = σ.set v none := rfl
  rw [e1]
  have e2 : (σ.set v none).set v (some x) = σ.set v (some x) := by rw [List.set_set]
  have e3 : wipe (σ.set v (some x)) [v] = σ.set v none := by show (σ.set v (some x)).set v none = _; rw [List.set_set]
  unfold gName
  rw [e2]
  refine ⟨e3, ?_⟩
  have hm := List.mem_of_getElem? hi
  refine hc x hm H sm _ fun H2 s2 => ?_
  cases hcx : c x with
  | false =>
    rw [if_neg Bool.false_ne_true]
    refine ⟨sm.trans s2, ?_⟩
    rw [s2 _ _ hl, take_more hi, List.filter_append, List.filter_cons_of_neg (by rw [hcx]; exact Bool.false_ne_true), List.filter_nil, List.append_nil]
  | true =>
    rw [if_pos rfl]
    refine hf x hm hcx H2 (sm.trans s2) _ fun H3 s3 => ?_
    refine ⟨_, s3 _ _ (s2 _ _ hl), ?_, fun b o e => ?_, ?_⟩
    · rw [List.length_map, sizeLine_eq]
      have h1 := List.length_filter_le c (xs.take i)
      rw [List.length_take] at h1
      omega
    · rw [upd_ne (ne_of_none e hD)]
      exact s3 _ _ (s2 _ _ (sm _ _ e))
    · rw [upd_same, take_more hi, List.filter_append, List.filter_cons_of_pos hcx, List.filter_nil, List.map_append]
      rfl
theorem lcb_filt {v : Nat} {tt : TT} {te : TE} {x : V} (f : V → V) (c : V → Bool) (hx : Items K H1 x xs) (hl : xs.length ≤ 1000000)
    (hc : ∀ x ∈ xs, ∀ H', Same H1 H' → ∀ Q' : Bool → Hp → Prop, (∀ H'', Same H' H'' → Q' (c x) H'') → tt (σ.set v (some x)) H' Q')
    (hf : ∀ x ∈ xs, c x = true → ∀ H', Same H1 H' → ∀ Q' : VK, (∀ H'', Same H' H'' → Q' (f x) H'') → te (σ.set v (some x)) H' Q')
    (hq : ∀ D H', H1 D = none → Same H1 H' → H' D = some (.lst ((xs.filter c).map f)) → Q (.ref D) H') : LcBody K (gName v) tt te [v] σ Q x H1 :=
  lcb_items hx fun _ hy => lc_filt hl hy hc hf hq
theorem s_tupL (hp : H p = some (.lst xs)) (h : ∀ l, H l = none → Q (.ref l) (upd H l (.tup xs))) : rTupleP K [.ref p] H Q := ⟨p, xs, rfl, .inl ⟨SqL.of hp, h⟩⟩
theorem s_tupT (hp : H p = some (.tup xs)) (h : Q (.ref p) H) : rTupleP K [.ref p] H Q := ⟨p, xs, rfl, .inr ⟨SqT.of hp, h⟩⟩
theorem s_listT (hp : H p = some (.tup xs)) (h : ∀ l, H l = none → Q (.ref l) (upd H l (.lst xs))) : rListP K [.ref p] H Q := ⟨p, xs, rfl, .inr (SqT.of hp), h⟩
theorem s_listS (hp : H p = some (.lst xs)) (h : ∀ l, H l = none → Q (.ref l) (upd H l (.lst xs))) : rListP K [.ref p] H Q := ⟨p, xs, rfl, .inl (SqL.of hp), h⟩
theorem s_strS {z : Str} (h : Q (.str z) H) : rStrP [.str z] H Q := h
theorem s_strI {i : Int} (hl : i.natAbs.log2 < 1920) (h : Q (.str (toString i)) H) : rStrP [.int i] H Q := ⟨hl, h⟩
/-! classes -/
theorem s_make {C : Addr} {sp : Sp} {E : L2.St → XK} (h : t σ H fun vs H1 => ∀ x dx, H1 x = none → H1 dx = none → dx ≠ x → sp (V.ref x :: vs) (upd (upd H1 dx (.own x)) x (.ins C dx [])) (fun v H2 => v = .non ∧ Q (.ref x) H2) (E σ)) : Cl.tMakeS C sp E t σ H Q := h
theorem s_cls {v : V} (h : Q v H) : Cl.tCls v σ H Q := h
theorem s_att {l : List (Addr × Cl.Alt)} (h : te σ H fun x H1 => ∃ (a dx : Addr) (fs : List (Str × V)) (i : Nat) (C : Addr) (r : Cl.Alt), x = .ref a ∧ l[i]? = some (C, r) ∧ H1 a = some (.ins C dx fs) ∧ r a fs σ H1 Q) : Cl.tAtt l te σ H Q := h
theorem s_setA {l : List Addr} {f : Str} (h : tv σ H fun y H1 => ta σ H1 fun x H2 => ∃ a C dx fs, x = .ref a ∧ C ∈ l ∧ H2 a = some (.ins C dx fs) ∧ fs.length < 1000 ∧ D.nx σ (upd H2 a (.ins C dx (putF f y fs)))) : Cl.sAtt l ta tv f D σ H := h
end
end Px
/-! operators of own classes -/
namespace Cl
open PySem PySem.Spec PyProof.Rows L2
abbrev R2S := L2.St → R2
def OpS (X : Cx) (f : Value → Value → Sem Value) (r : R2S) : Prop := ∀ (pins : List (Addr × Obj)) (s : Shared) (σ : L2.St) (H : Hp) (x y : V) (v u : Value) (Q : VK), Inv X pins σ H s → RelV x v → RelV y u → r σ x y H Q → wpAny (model X.prog X.w) X.A (f v u) (EP X pins σ Q) X.xe s
def tOpS (r : R2S) (ta tb : TE) : TE := fun σ H Q => ta σ H fun x H1 => tb σ H1 fun y H2 => r σ x y H2 Q
section
variable {X : Cx} {CX : CXT} {k : Nat} {f C : Addr} {sp : Sp} {E : L2.St → XK} {a b : Expr} {ta tb : TE} {pos : Pos} {r : R2S}
theorem pe_opS {op : Operator} (ho : OpS X (binaryOp op) r) (ha : PE X a ta) (hb : PE X b tb) : PE X (.BinOp a op b pos) (tOpS r ta tb) :=
  ⟨fun pins s σ H Q I h => wpAny_BinOp (binT ha hb I h fun v u s2 x y H2 I2 rx ry q => ho pins s2 σ H2 x y v u Q I2 rx ry q)⟩
theorem pe_cmpS {op : CmpOp} (ho : OpS X (compareOp op) r) (ha : PE X a ta) (hb : PE X b tb) (hm : behindInMarks op b = false) : PE X (.Compare a [op] [b] pos) (tOpS r ta tb) :=
  ⟨fun pins s σ H Q I h => wpAny_Compare1 (binT ha hb I h fun v u s2 x y H2 I2 rx ry q => ho pins s2 σ H2 x y v u Q I2 rx ry q) hm⟩
theorem pt_cmpS {op : CmpOp} (ho : OpS X (compareOp op) r) (ha : PE X a ta) (hb : PE X b tb) (hm : behindInMarks op b = false) : PT X (.Compare a [op] [b] pos) (tTest (tOpS r ta tb)) := by
  refine ⟨fun pins s σ H Q I h => wpAny_isTrue_Compare1 (thn (ha.run pins s σ H _ I h) fun v s1 ⟨x, H1, I1, r1, q1⟩ => thn (hb.run pins s1 σ H1 _ I1 q1) fun u s2 ⟨y, H2, I2, r2, q2⟩ => thn (ho pins s2 σ H2 x y v u _ I2 r1 r2 q2) fun c s3 ⟨z, H3, I3, r3, k, e, q3⟩ => ?_) hm⟩
  subst e
  cases r3
  exact wpAny_truthy_bool ⟨H3, I3, q3⟩
/-- a def is run by its positional promise, its exceptions by the slots -/
theorem run_RS {pins : List (Addr × Obj)} {σ : L2.St} {H : Hp} {s : Shared} {Q : VK} {us : List Value} {vs : List V} (F : FnR X.prog X.w X.K X.mg X.base CX k f sp) (hr : Room k X.A) (hx : PassesAt CX X σ (E σ)) (I : Inv X pins σ H s) (rv : Vals vs us) (h : sp vs H Q (E σ)) :
    wpAny (model X.prog X.w) X.A (call (.ref f) us) (EP X pins σ Q) X.xe s := by
  refine wpAny_call (codeAny_mono (F X.A X.stack s H us vs Q (E σ) hr I.env0 rv h) fun r s' hq => ?_)
  cases r with
  | error e => exact hx pins H s e s' I hq
  | ok fl =>
    cases fl with
    | ret u => exact I.after hq
    | _ => exact hq.elim
theorem run_RS1 {pins : List (Addr × Obj)} {σ : L2.St} {H : Hp} {s : Shared} {Q : VK} {us : List Value} {vs : List V} (F : FnR X.prog X.w X.K X.mg X.base CX k f sp) (hr : Room (k + 1) X.A) (hx : PassesAt CX X σ (E σ)) (I : Inv X pins σ H s) (rv : Vals vs us) (h : sp vs H Q (E σ)) :
    wpAny (model X.prog X.w) X.A.in1 (call (.ref f) us) (EP X pins σ Q) X.xe s := by
  refine wpAny_call (codeAny_mono (F X.A.in1 X.stack s H us vs Q (E σ) hr.in1 I.env0.in1 rv h) fun r s' hq => ?_)
  cases r with
  | error e => exact hx pins H s e s' I hq
  | ok fl =>
    cases fl with
    | ret u => exact I.after hq
    | _ => exact hq.elim
theorem back_of {pins : List (Addr × Obj)} {σ : L2.St} {Q : VK} {v : Value} {s' : Shared} (h : EP X pins σ Q v s') : PySem.W.CmpBack (EP X pins σ Q) v s' := by
  obtain ⟨x, H', I, rv, q⟩ := id h
  unfold PySem.W.CmpBack
  cases v <;> first
    | exact h
    | (exfalso; cases x <;> first
        | (cases rv; done)
        | (obtain ⟨_, e⟩ := rv; cases e))
/-- alternatives by the class of the left object -/
def AltB (X : Cx) (f : Value → Value → Sem Value) (C : Addr) (sp : Sp) (E : L2.St → XK) : Prop := ∀ (pins : List (Addr × Obj)) (s : Shared) (σ : L2.St) (H : Hp) (a b dx dy : Addr) (fs gs : List (Str × V)) (Q : VK), Inv X pins σ H s → H a = some (.ins C dx fs) → H b = some (.ins C dy gs) → sp [.ref a, .ref b] H Q (E σ) →
  wpAny (model X.prog X.w) X.A (f (.ref a) (.ref b)) (EP X pins σ Q) X.xe s
structure OwnOp (K : PySem.W.Frag) (C : Addr) (m : Str) (f : Addr) : Prop where
  at_ : PySem.W.findIn K (.ref C) m = some (some (.ref f))
  fn : PySem.W.isFn K (.ref f) = true
  sf : PySem.W.selfFirst K C = true
theorem alt_bin {op : Operator} {md : Str} (e : PySem.dunder op.info.2 = md) (o : OwnOp X.K C md f) (F : FnR X.prog X.w X.K X.mg X.base CX k f sp) (hr : Room k X.A) (hx : ∀ σ, PassesAt CX X σ (E σ)) : AltB X (binaryOp op) C sp E := by
  subst e
  intro pins s σ H a b dx dy fs gs Q I ha hb h
  obtain ⟨mA, J, _⟩ := ins_get I.hok ha
  obtain ⟨mB, J', _⟩ := ins_get I.hok hb
  obtain ⟨od, J, _⟩ := J.look
  obtain ⟨od', J', _⟩ := J'.look
  obtain ⟨m, hF⟩ := I.fr
  exact PySem.W.binop_K hF I.ok.mod.kin J J'.type o.sf o.at_ o.fn (wpAny_mono (run_RS F hr (hx σ) I (show Vals [V.ref a, V.ref b] [Value.ref a, Value.ref b] from .cons rfl (.cons rfl .nil)) h) (fun _ _ z => back_of z) fun _ _ z => z)
theorem alt_cmp {op : CmpOp} {md : Str} (e : (cmpInfo op).2.1 = md) (o : OwnOp X.K C md f) (F : FnR X.prog X.w X.K X.mg X.base CX k f sp) (hr : Room k X.A) (hx : ∀ σ, PassesAt CX X σ (E σ)) (hop : ∀ x y, compareOp op x y = richCompare op x y := by intro x y; rfl) : AltB X (compareOp op) C sp E := by
  subst e
  intro pins s σ H a b dx dy fs gs Q I ha hb h
  obtain ⟨mA, J, _⟩ := ins_get I.hok ha
  obtain ⟨mB, J', _⟩ := ins_get I.hok hb
  obtain ⟨od, J, _⟩ := J.look
  obtain ⟨od', J', _⟩ := J'.look
  obtain ⟨m, hF⟩ := I.fr
  rw [hop]
  exact PySem.W.cmp_K (op := op) (tb := .ref C) hr.units0 hF I.ok.mod.kin J J'.type (by simp [PySem.W.notFirst]) o.at_ o.fn (wpAny_mono (run_RS F hr (hx σ) I (show Vals [V.ref a, V.ref b] [Value.ref a, Value.ref b] from .cons rfl (.cons rfl .nil)) h) (fun _ _ z => back_of z) fun _ _ z => z)
inductive AltBs (X : Cx) (f : Value → Value → Sem Value) (E : L2.St → XK) : List (Addr × Sp) → Prop
  | nil : AltBs X f E []
  | cons {C : Addr} {sp : Sp} {l : List (Addr × Sp)} : AltB X f C sp E → AltBs X f E l → AltBs X f E ((C, sp) :: l)
theorem AltBs.at {g : Value → Value → Sem Value} {l : List (Addr × Sp)} (h : AltBs X g E l) : ∀ {i : Nat}, l[i]? = some (C, sp) → AltB X g C sp E := by
  induction h with
  | nil => intro i e; cases e
  | cons h _ ih =>
    intro i e
    cases i with
    | zero => cases e; exact h
    | succ i => exact ih (by simpa using e)
/-- x op y: by the kinds of built-in values, or both of one own class -/
def rOwn2 (l : List (Addr × Sp)) (E : L2.St → XK) (base : R2) : R2S := fun σ x y H Q => base x y H Q ∨ ∃ (i : Nat) (C : Addr) (sp : Sp) (a b dx dy : Addr) (fs gs : List (Str × V)), l[i]? = some (C, sp) ∧ x = .ref a ∧ y = .ref b ∧ H a = some (.ins C dx fs) ∧ H b = some (.ins C dy gs) ∧ sp [.ref a, .ref b] H Q (E σ)
theorem op_own {g : Value → Value → Sem Value} {l : List (Addr × Sp)} {base : R2} (h : AltBs X g E l) (hb : OpR X g base) : OpS X g (rOwn2 l E base) := by
  intro pins s σ H x y v u Q I rx ry q
  rcases q with q | ⟨i, C, sp, a, b, dx, dy, fs, gs, hl, rfl, rfl, h1, h2, q⟩
  · exact hb pins s σ H x y v u Q I rx ry q
  · cases rx
    cases ry
    exact h.at hl pins s σ H a b dx dy fs gs Q I h1 h2 q
/-- no built-in kinds -/
def rNo : R2 := fun _ _ _ _ => False
theorem op_no {g : Value → Value → Sem Value} : OpR X g rNo := fun _ _ _ _ _ _ _ _ _ _ _ _ h => h.elim
/-! x in an own container -/
def AltI (X : Cx) (C : Addr) (sp : Sp) (E : L2.St → XK) : Prop := ∀ (neg : Bool) (pins : List (Addr × Obj)) (s : Shared) (σ : L2.St) (H : Hp) (x : V) (v : Value) (b dy : Addr) (gs : List (Str × V)) (Q : VK), Inv X pins σ H s → RelV x v → H b = some (.ins C dy gs) → sp [.ref b, x] H (fun z H' => ∃ c, z = .bl c ∧ Q (.bl (Px.tgtIn neg c)) H') (E σ) →
  wpAny (model X.prog X.w) X.A (compareOp (if neg then .NotIn else .In) v (.ref b)) (EP X pins σ Q) X.xe s
theorem alt_in (o : OwnOp X.K C "__contains__" f) (F : FnR X.prog X.w X.K X.mg X.base CX k f sp) (hr : Room k X.A) (hx : ∀ σ, PassesAt CX X σ (E σ)) : AltI X C sp E := by
  intro neg pins s σ H x v b dy gs Q I rx hb h
  obtain ⟨mB, J, _⟩ := ins_get I.hok hb
  obtain ⟨od, J, _⟩ := J.look
  obtain ⟨m, hF⟩ := I.fr
  have go := run_RS F hr (hx σ) I (.cons (show RelV (V.ref b) (Value.ref b) from rfl) (.cons rx .nil)) h
  cases neg with
  | false => exact PySem.W.in_K hF I.ok.mod.kin J o.at_ o.fn (wpAny_mono go (fun r s' ⟨z, H', I', rz, c, ez, q⟩ => by subst ez; cases rz; exact wpAny_truthy_bool ⟨.bl c, H', I', rfl, q⟩) fun _ _ z => z)
  | true => exact PySem.W.notIn_K hF I.ok.mod.kin J o.at_ o.fn (wpAny_mono go (fun r s' ⟨z, H', I', rz, c, ez, q⟩ => by subst ez; cases rz; exact wpAny_truthy_bool ⟨.bl (!c), H', I', rfl, q⟩) fun _ _ z => z)
inductive AltIs (X : Cx) (E : L2.St → XK) : List (Addr × Sp) → Prop
  | nil : AltIs X E []
  | cons {C : Addr} {sp : Sp} {l : List (Addr × Sp)} : AltI X C sp E → AltIs X E l → AltIs X E ((C, sp) :: l)
theorem AltIs.at {l : List (Addr × Sp)} (h : AltIs X E l) : ∀ {i : Nat}, l[i]? = some (C, sp) → AltI X C sp E := by
  induction h with
  | nil => intro i e; cases e
  | cons h _ ih =>
    intro i e
    cases i with
    | zero => cases e; exact h
    | succ i => exact ih (by simpa using e)
def rOwnI (l : List (Addr × Sp)) (E : L2.St → XK) (neg : Bool) (base : R2) : R2S := fun σ x y H Q => base x y H Q ∨ ∃ (i : Nat) (C : Addr) (sp : Sp) (b dy : Addr) (gs : List (Str × V)), l[i]? = some (C, sp) ∧ y = .ref b ∧ H b = some (.ins C dy gs) ∧ sp [.ref b, x] H (fun z H' => ∃ c, z = .bl c ∧ Q (.bl (Px.tgtIn neg c)) H') (E σ)
theorem op_ownI {l : List (Addr × Sp)} {base : R2} {neg : Bool} (h : AltIs X E l) (hb : OpR X (compareOp (if neg then .NotIn else .In)) base) : OpS X (compareOp (if neg then .NotIn else .In)) (rOwnI l E neg base) := by
  intro pins s σ H x y v u Q I rx ry q
  rcases q with q | ⟨i, C, sp, b, dy, gs, hl, rfl, h2, q⟩
  · exact hb pins s σ H x y v u Q I rx ry q
  · cases ry
    exact h.at hl neg pins s σ H x v b dy gs Q I rx h2 q
end
theorem dd_or : PySem.dunder Operator.BitOr.info.2 = ("__or__" : Str) := by decide +kernel
theorem dd_and : PySem.dunder Operator.BitAnd.info.2 = ("__and__" : Str) := by decide +kernel
theorem dd_xor : PySem.dunder Operator.BitXor.info.2 = ("__xor__" : Str) := by decide +kernel
theorem dd_sub : PySem.dunder Operator.Sub.info.2 = ("__sub__" : Str) := by decide +kernel
theorem dd_add : PySem.dunder Operator.Add.info.2 = ("__add__" : Str) := by decide +kernel
theorem dd_mul : PySem.dunder Operator.Mult.info.2 = ("__mul__" : Str) := by decide +kernel
theorem dd_eq : (cmpInfo CmpOp.Eq).2.1 = ("__eq__" : Str) := by decide +kernel
theorem dd_lt : (cmpInfo CmpOp.Lt).2.1 = ("__lt__" : Str) := by decide +kernel
theorem dd_le : (cmpInfo CmpOp.LtE).2.1 = ("__le__" : Str) := by decide +kernel
theorem dd_gt : (cmpInfo CmpOp.Gt).2.1 = ("__gt__" : Str) := by decide +kernel
theorem dd_ge : (cmpInfo CmpOp.GtE).2.1 = ("__ge__" : Str) := by decide +kernel
end Cl
/-! walking own objects: __iter__ says return iter(self.f), f a tuple -/
namespace Cl
open PySem PySem.Spec PyProof.Rows L2
/-- an iterator of the tuple at t, as it begins -/
def TiO (t it : Addr) : HO := .ext fun h => h.IsTupleIter it t 0
theorem tiO_ok {P : Program} {w : World} {H : Hp} {h : Heap} {t it : Addr} (e : h.IsTupleIter it t 0) : ObjOk P w H h it (TiO t it) := by
  refine ⟨e, ?_, fun h1 h2 q k => q.at k⟩
  obtain ⟨o, ho, _⟩ := e
  exact ⟨o, ho⟩
def rIterT (K : PySem.W.Frag) (n : Nat) : List V → Hp → VK → Prop := fun xs H Q => ∃ (t : Addr) (zs : List V), xs = [.ref t] ∧ SqT K H t zs ∧ ∀ it, H it = none → n ≤ it → Q (.ref it) (upd H it (TiO t it))
theorem call_iterT {X : Cx} : CallR X (.builtin "iter") (rIterT X.K X.s_0.heap.objs.size) := by
  intro pins s σ H xs us Q I r h
  obtain ⟨t, zs, rfl, hq, q⟩ := h
  obtain ⟨u, rfl, ru⟩ := vals1 r
  cases ru
  obtain ⟨its, rv, pl, hz⟩ := I.tuple hq
  refine Calls.call_function_entry (by decide +kernel) (by decide +kernel) PySem.W.kdk_entry_iter (PySem.W.kdk_args_iter _) ?_
  unfold Builtin.«iter»
  refine wpAny_bind (m := someArgs "iter" 1 2 _) (wpAny_of_eq (a := [Value.ref t]) (by first | rfl | kernel_rfl!) ?_)
  show wpAny _ _ (pyIter (.ref t) >>= _) _ _ _
  refine wpAny_bind (wpAny_pyIter_tuple (show s.heap.IsTuple t its.toArray from pl) (wpAny_pure ⟨_, rfl, ?_⟩))
  exact ⟨.ref s.heap.objs.size, _, I.laid (t' := s.toks) (fun b u e => Heap.get?_push_of_some _ e) (Nat.le_refl _) (tiO_ok ⟨_, Heap.get?_push_size _ rfl, rfl, rfl⟩), rfl, q _ (I.hok.fresh (Nat.le_refl _)) I.sz⟩
/-- a def of self alone is run at a state: what its body says may name that state -/
theorem run_self {P : Program} {w : World} {K : PySem.W.Frag} {mg : Str → Option Value} {base : Heap} {x qual : Str} {params : Arguments} {body : List Stmt} {scope : Scope} {kws : List (Str × V)} {f : Addr} {fd : FuncData} {N : List Str} {k : Nat} (F : FunD K x qual params body scope [] kws f fd) (S : FnScope N ["self"] scope) (hb : Binds K fd ["self"] [])
    {A : Around} {outer : List Env} {s : Shared} {H : Hp} {a : Addr} {Q : VK} {E : XK} (hr : Room (k + 1) A) (e0 : Env0 P w K mg base A outer s H)
    (hbody : ∀ cdv : Value, Room k (A.deeper (envOfC qual scope s.heap.objs.size f cdv)) → ∃ t, PSs (cxOf (L2N.CX P w) P w K mg base N qual scope f cdv A outer s H E) body t ∧ t { nx := fun _ H' => Q .non H', rt := Q } (start N [.ref a]) H) :
    codeAny (model P w) A (.call (.ref f) ⟨[.ref a], []⟩) (CR (L2N.CX P w) outer P w H s Q E) s := by
  obtain ⟨oc, od, dV, kV, doc, pm, an, cdv, ct, osl, rfl, lk, hcd, _, _⟩ := F.ex
  have KX : K.In s.heap := e0.mod.kin.keeps fun b o e => (e0.bs b o e).1
  have lim : s.heap.NoLimit := e0.mod.nolimit.keeps fun b o e => (e0.bs b o e).1
  have rv : Vals [V.ref a] [Value.ref a] := .cons rfl .nil
  have hz := hb s [.ref a] KX rfl
  have hkind : ∀ y ∈ (["self"] : List Str).zip [Value.ref a], scope.names.lookup y.1 = some .local ∨ (scope.names.lookup y.1 = some .cell ∧ ((cellsFrom (s.heap.objs.size + 1) scope.names []).lookup y.1).isSome = true) := fun y hy =>
    (S.par y.1 (List.of_mem_zip hy).1).imp id fun q => ⟨q, PySem.W.cellsFrom_some _ _ _ (.inl q)⟩
  refine codeAny_call_function hr.depth (KX _ _ lk) rfl S.co S.gen rfl (PySem.W.codeRec_of KX hcd) (hz _ _ _ _ ?_)
  refine wpAny_newFunctionEnv_cells S.kind hkind fun env he s1 x1 => ?_
  subst he
  refine ⟨lim.keeps x1.toInCall.keep, codeAny_func ?_⟩
  obtain ⟨t, ht, hq⟩ := hbody cdv (hr.deeper _)
  have I : Inv (cxOf (L2N.CX P w) P w K mg base N qual scope f cdv A outer s H E) [] (start N [.ref a]) H s1 := inv_start S hr.hd e0 rfl rv x1
  refine wpAny_mono (ht.run [] s1 _ H _ I hq) (fun fl s' hs => ?_) fun e s' hs => hs
  cases fl with
  | ret u =>
    obtain ⟨v, σ', H', J, rv, q⟩ := hs
    exact ⟨v, H', J.os, J.bare, J.base, J.hok, rv, q⟩
  | next =>
    obtain ⟨σ', H', J, q⟩ := hs
    exact ⟨V.non, H', J.os, J.bare, J.base, J.hok, rfl, q⟩
  | brk =>
    obtain ⟨_, _, _, q⟩ := hs
    exact q.elim
  | cont =>
    obtain ⟨_, _, _, q⟩ := hs
    exact q.elim
/-- what a class must have that its objects are walked by the tuple in the field f -/
structure IterF (P : Program) (w : World) (K : PySem.W.Frag) (mg : Str → Option Value) (base : Heap) (k : Nat) (C : Addr) (f : Str) : Prop where
  run : ∃ fi : Addr, PySem.W.findIn K (.ref C) "__iter__" = some (some (.ref fi)) ∧ PySem.W.isFn K (.ref fi) = true ∧
    ∀ (A : Around) (outer : List Env) (s : Shared) (H : Hp) (a dx t : Addr) (fs : List (Str × V)) (xs : List V), Room k A → Env0 P w K mg base A outer s H → H a = some (.ins C dx fs) → fs.lookup f = some (.ref t) → SqT K H t xs →
      codeAny (model P w) A (.call (.ref fi) ⟨[.ref a], []⟩) (CR (L2N.CX P w) outer P w H s (fun y H' => ∃ it, y = .ref it ∧ H it = none ∧ s.heap.objs.size ≤ it ∧ H' = upd H it (TiO t it)) E0) s
theorem iterF_of {P : Program} {w : World} {K : PySem.W.Frag} {mg : Str → Option Value} {base : Heap} {qual f : Str} {params : Arguments} {body : List Stmt} {scope : Scope} {kws : List (Str × V)} {C fi : Addr} {fd : FuncData} {N : List Str} {k : Nat} {p1 p2 p3 p4 p5 : Pos} (F : FunD K "__iter__" qual params body scope [] kws fi fd) (S : FnScope N ["self"] scope) (hb : Binds K fd ["self"] [])
    (hbo : body = [.Return (some (.Call (.Name "iter" p1) [.Attribute (.Name "self" p2) f p3] [] p4)) p5]) (hN : N[0]? = some ("self" : Str)) (hgl : scope.names.lookup ("iter" : Str) = some .globalImplicit) (hm : mg "iter" = none) (c : Cls K C) (n : NoAttr K C f) (o : OwnOp K C "__iter__" fi)
    (hg : ∀ (cdv : Value) (A : Around) (outer : List Env) (s : Shared) (H : Hp), Gl (cxOf (L2N.CX P w) P w K mg base N qual scope fi cdv A outer s H E0) "iter") (hab : ∀ (cdv : Value) (A : Around) (outer : List Env) (s : Shared) (H : Hp), attributeBase (.Name "self" p2) f (cxOf (L2N.CX P w) P w K mg base N qual scope fi cdv A outer s H E0).env (eval (.Name "self" p2) (cxOf (L2N.CX P w) P w K mg base N qual scope fi cdv A outer s H E0).env) = eval (.Name "self" p2) (cxOf (L2N.CX P w) P w K mg base N qual scope fi cdv A outer s H E0).env) :
    IterF P w K mg base (k + 1) C f := by
  refine ⟨fi, o.at_, o.fn, fun A outer s H a dx t fs xs hr e0 ha hl ht => ?_⟩
  refine run_self F S hb hr e0 fun cdv _ => ?_
  subst hbo
  refine ⟨_, pss_one (ps_ret (pe_callB (call_iterT (X := cxOf (L2N.CX P w) P w K mg base N qual scope fi cdv A outer s H E0)) (hg _ _ _ _ _) hm PyProof.Rows.Boot.«iter» (pa_cons (pe_att (l := [(C, aFld f)]) (.cons (alt_fld c n) .nil) (pe_var (i := 0) hN ((S.par "self" (List.Mem.head _)).elim (fun z => .inl z) (fun z => .inr (.inl z)))) (hab _ _ _ _ _)) pa_nil))), ?_⟩
  refine ⟨.ref a, by rfl, a, dx, fs, 0, C, _, rfl, rfl, ha, .ref t, hl, ?_⟩
  exact ⟨t, xs, rfl, ht, fun it h0 h1 => ⟨it, rfl, h0, h1, rfl⟩⟩
section
variable {X : Cx} {k : Nat} {C : Addr} {f : Str} {pins : List (Addr × Obj)} {σ : L2.St} {H : Hp} {s : Shared} {a dx t : Addr} {fs : List (Str × V)} {xs : List V}
/-- the walk begins -/
theorem iter_begin {A : Around} {Q : Value → Shared → Prop} {E' : Value → Shared → Prop} (W : IterF X.prog X.w X.K X.mg X.base k C f) (hr : Room k A) (hfr : A.frames = X.A.frames) (I : Inv X pins σ H s) (ha : H a = some (.ins C dx fs)) (hl : fs.lookup f = some (.ref t)) (ht : SqT X.K H t xs)
    (h : ∀ it s', H it = none → s.heap.objs.size ≤ it → s'.heap.IsTupleIter it t 0 → Inv X pins σ H s' → Q (.ref it) s') : wpAny (model X.prog X.w) A (pyIter (.ref a)) Q E' s := by
  obtain ⟨fi, hat, hfn, run⟩ := W.run
  obtain ⟨mA, J, _⟩ := ins_get I.hok ha
  obtain ⟨od, J, _⟩ := J.look
  obtain ⟨m, hF⟩ := I.fr
  have e0 : Env0 X.prog X.w X.K X.mg X.base A X.stack s H := by
    have e := I.env0
    exact ⟨hfr.trans e.frames, e.mod, e.bs, e.bsz, e.funs, e.frf, e.hok, e.bare⟩
  refine PySem.W.owit_iter hF I.ok.mod.kin J hat hfn (wpAny_call (codeAny_mono (run A X.stack s H a dx t fs xs hr e0 ha hl ht) fun r s' hq => ?_))
  cases r with
  | error e =>
    obtain ⟨_, _, _, _, _, _, _, _, _, _, _, _, z⟩ := hq
    exact z.elim
  | ok fl =>
    cases fl with
    | ret u =>
      obtain ⟨v, H', I3, rv, it, ev, h0, h1, eH⟩ := I.after hq
      subst ev eH
      obtain rfl : u = Value.ref it := rv
      have hit : s'.heap.IsTupleIter it t 0 := (I3.hok it _ upd_same).1
      have I4 := ItX.inv_drop I3 (show upd H it (TiO t it) it = some (TiO t it) from upd_same)
      rw [ItX.dropH_upd h0] at I4
      unfold PySem.W.OwitIt
      exact wpAny_specialOf hit.typeIs slot_tupleiter_next.lookup (h it s' h0 h1 hit I4)
    | _ => exact hq.elim
/-- list(..)'s own loop over a tuple's iterator -/
theorem list_loop {A1 : Around} {S it : Addr} {Rs : Result → Shared → Prop} (hh : A1.in1.handled = none) (hn : xs.length ≤ 1000000) (hSH : H S = none) (hSt : S ≠ t) (hit : H it = none) (hiS : it ≠ S) (hL : it ≠ X.env.locals) (h1 : it ∈ X.ex ∨ X.s_0.heap.objs.size ≤ it)
    (h2 : ∀ x c, X.env.cells.lookup x = some c → c ≠ it) (h3 : ∀ p ∈ X.pn ++ pins, p.1 ≠ it) (ht : SqT X.K H t xs) (hd : ∀ s', Inv X pins σ (upd H S (.lst xs)) s' → Rs (.ok (.ret .none)) s') :
    ∀ (j i : Nat) (s : Shared), xs.length - i = j → i ≤ xs.length → Inv X pins σ (upd H S (.lst (xs.take i))) s → s.heap.IsTupleIter it t i → codeAny (model X.prog X.w) A1 (.builtin "list.extend.loop" ⟨[.ref S, .ref it, .none], []⟩) Rs s := by
  have tupS : ∀ i, SqT X.K (upd H S (.lst (xs.take i))) t xs := fun i => by
    rcases ht with (h | ⟨o, h⟩) | h
    · exact .inl (.inl (by rw [upd_ne hSt.symm]; exact h))
    · exact .inl (.inr ⟨o, by rw [upd_ne hSt.symm]; exact h⟩)
    · exact .inr h
  have itS : ∀ i, upd H S (.lst (xs.take i)) it = none := fun i => by rw [upd_ne hiS]; exact hit
  intro j
  induction j with
  | zero =>
    intro i s hj hi I st
    have e : i = xs.length := by omega
    subst e
    obtain ⟨its, rv, pl, _⟩ := I.tuple (tupS _)
    have hl := rv.length
    refine codeAny_builtin PySem.F.entry_extend_loop ?_
    rw [Around.under_plainId PySem.F.plain_extend_loop _]
    show wpAny _ A1.in1 (pyNext (.ref it) >>= _) _ _ s
    refine wpAny_bind (wpAny_pyNext_tuple_end hh st (show s.heap.IsTuple t its.toArray from pl) (by first | omega | (rw [List.size_toArray]; omega) | (simp; omega)) fun h' eb => ?_)
    refine wpAny_pure (hd _ ?_)
    have I2 := I.turned (t' := s.toks) (fun b o hb e => eb b o hb e) (itS _) hL h1 h2 h3
    rw [List.take_length] at I2
    exact I2
  | succ j ih =>
    intro i s hj hi I st
    have hlt : i < xs.length := by omega
    obtain ⟨its, rv, pl, _⟩ := I.tuple (tupS _)
    obtain ⟨u, hu, ru⟩ := rv.get (List.getElem?_eq_getElem hlt)
    refine codeAny_builtin PySem.F.entry_extend_loop ?_
    rw [Around.under_plainId PySem.F.plain_extend_loop _]
    show wpAny _ A1.in1 (pyNext (.ref it) >>= _) _ _ s
    refine wpAny_bind (wpAny_pyNext_tuple_item st (show s.heap.IsTuple t its.toArray from pl) (x := u) (by simpa using hu) fun h' st' sb => ?_)
    have I1 : Inv X pins σ (upd H S (.lst (xs.take i))) { s with heap := h' } := I.turned (t' := s.toks) (fun b o hb e => (sb.2 b hb).trans e) (itS _) hL h1 h2 h3
    show wpAny _ A1.in1 (updateSeq S (·.push u) >>= _) _ _ _
    obtain ⟨z, its2, k2, r2, hl2, e2⟩ := I1.lstM upd_same
    have hlen : (xs.take i).length = i := by rw [List.length_take]; omega
    refine wpAny_bind (wpAny_updateSeq e2 rfl (wpAny_pure ⟨plainId_quiet PySem.F.plain_extend_loop _, ?_⟩) (by rw [List.size_toArray]; omega) (by show (its2.toArray.push u).size ≤ sizeLine + 1; rw [Array.size_push, List.size_toArray]; omega))
    have I2 := I1.lset (f := fun z => z.push u) (its' := its2 ++ [u]) (ys := xs.take i ++ [xs[i]]) (t' := s.toks) upd_same e2 (by simp) (r2.append (.cons ru .nil)) (by rw [List.length_append, hlen, sizeLine_eq]; show i + 1 ≤ _; omega)
    rw [upd_upd, ← List.take_succ_eq_append_getElem hlt] at I2
    refine ih (i + 1) _ (by omega) hlt I2 ?_
    obtain ⟨o, eo, c, d⟩ := st'
    exact ⟨o, (Heap.get?_update_other _ _ (Ne.symm hiS)).trans eo, c, d⟩
/-- len's promise: so many, all stands -/
def spLen (C : Addr) (f : Str) : Sp := fun vs H Q _ => ∃ a dx fs t xs, vs = [.ref a] ∧ H a = some (.ins C dx fs) ∧ fs.lookup f = some (.ref t) ∧ H t = some (.tup xs) ∧ xs.length ≤ 1000000 ∧ Q (.int xs.length) H
theorem call_lenO {n : Nat} {fl : Addr} (o : OwnOp X.K C "__len__" fl) (F : FnR X.prog X.w X.K X.mg X.base (L2N.CX X.prog X.w) n fl (spLen C f)) {A : Around} {E' : Value → Shared → Prop} {Q : Value → Shared → Prop} (hr : Room (n + 1) A) (hfr : A.frames = X.A.frames) (I : Inv X pins σ H s) (ha : H a = some (.ins C dx fs)) (hl : fs.lookup f = some (.ref t)) (ht : H t = some (.tup xs)) (hn : xs.length ≤ 1000000)
    (h : ∀ tk s', Inv X pins σ H s' → (∀ b o, s.heap.get? b = some o → H b = none → b ∉ frs X.stack → s'.heap.get? b = some o) → Q (.int xs.length tk) s') : wpAny (model X.prog X.w) A (call (.builtin "len") [.ref a]) Q E' s := by
  obtain ⟨mA, J, _⟩ := ins_get I.hok ha
  obtain ⟨od, J, _⟩ := J.look
  obtain ⟨m, hF⟩ := I.fr
  refine PySem.W.len_K hF I.ok.mod.kin J o.at_ o.fn ?_
  have e0 : Env0 X.prog X.w X.K X.mg X.base A.in1 X.stack s H := by
    have e := I.env0
    exact ⟨hfr.trans e.frames, e.mod, e.bs, e.bsz, e.funs, e.frf, e.hok, e.bare⟩
  refine wpAny_call (codeAny_mono (F A.in1 X.stack s H [.ref a] [.ref a] (fun y H' => y = .int xs.length ∧ H' = H) E0 hr.in1 e0 (.cons rfl .nil) ⟨a, dx, fs, t, xs, rfl, ha, hl, ht, hn, rfl, rfl⟩) fun r s' hq => ?_)
  cases r with
  | error e =>
    obtain ⟨_, _, _, _, _, _, _, _, _, _, _, _, z⟩ := hq
    exact z.elim
  | ok fl =>
    cases fl with
    | ret u =>
      have un : ∀ b o, s.heap.get? b = some o → H b = none → b ∉ frs X.stack → s'.heap.get? b = some o := by
        obtain ⟨_, _, _, _, un, _⟩ := id hq
        exact fun b o e n hb => un.keep b o e n hb (by simp)
      obtain ⟨v, H', I3, rv, ev, eH⟩ := I.after hq
      subst ev eH
      obtain ⟨tk, rfl⟩ := rv
      exact ⟨⟨by omega, by omega⟩, h _ _ (I3.tok _) un⟩
    | _ => exact hq.elim
/-- list(o) -/
theorem list_own {n fl : Nat} (W : IterF X.prog X.w X.K X.mg X.base n C f) (o : OwnOp X.K C "__len__" fl) (F : FnR X.prog X.w X.K X.mg X.base (L2N.CX X.prog X.w) n fl (spLen C f)) (hr : Room (n + 3) X.A) {Q : VK} (I : Inv X pins σ H s) (ha : H a = some (.ins C dx fs)) (hl : fs.lookup f = some (.ref t)) (ht : H t = some (.tup xs)) (hn : xs.length ≤ 1000000)
    (hq : ∀ q, H q = none → Q (.ref q) (upd H q (.lst xs))) : wpAny (model X.prog X.w) X.A (call (.type "list") [.ref a]) (EP X pins σ Q) X.xe s := by
  refine callType_codes (Q₁ := fun obj s₁ => obj = .ref s.heap.objs.size ∧ s₁ = { s with heap := s.heap.push { cls := .type "list", data := .seq #[] } }) PySem.F.called_list (PySem.F.typeCall_list_1 _) PySem.F.entry_list_init
    (code_list_new _ ⟨rfl, rfl⟩) fun obj s₁ h₁ => ?_
  obtain ⟨rfl, rfl⟩ := h₁
  have hS : (s.heap.push { cls := .type "list", data := .seq #[] }).get? s.heap.objs.size = some { cls := .type "list", data := .seq #[] } := Heap.get?_push_size _ rfl
  refine ⟨⟨_, hS, rfl⟩, PySem.F.args_list_init_2 _ _, ?_⟩
  have fr : H s.heap.objs.size = none := I.hok.fresh (Nat.le_refl _)
  have I1 : Inv X pins σ (upd H s.heap.objs.size (.lst [])) { s with heap := s.heap.push { cls := .type "list", data := .seq #[] } } := I.lnew (its := []) (t' := s.toks) .nil (Nat.zero_le _)
  show wpAny _ _ (do let old ← Builtin.List.listItems (.ref s.heap.objs.size); Builtin.List.listUpdate (.ref s.heap.objs.size) (fun _ => #[]); letGo old.toList.reverse; Builtin.List.listExtendWith (.ref s.heap.objs.size) (.ref a) .none) _ _ _
  refine wpAny_bind ?_
  unfold Builtin.List.listItems
  refine wpAny_bind (wpAny_seqItems hS rfl (wpAny_pure ?_))
  show wpAny _ _ (updateSeq s.heap.objs.size (fun _ => #[]) >>= fun _ => letGo (#[] : Array Value).toList.reverse >>= fun _ => Builtin.List.listExtendWith (.ref s.heap.objs.size) (.ref a) .none) _ _ _
  refine wpAny_bind (wpAny_updateSeq hS rfl ?_)
  have I2 := I1.lset (f := fun _ => #[]) (its := []) (its' := []) (ys := []) (t' := s.toks) upd_same hS rfl .nil (Nat.zero_le _)
  rw [upd_upd] at I2
  refine wpAny_bind (wpAny_letGo ?_)
  generalize hSe : s.heap.objs.size = S at *
  have haS : a ≠ S := ne_of_none ha fr
  have htS : t ≠ S := ne_of_none ht fr
  have ha2 : upd H S (.lst []) a = some (.ins C dx fs) := by rw [upd_ne haS]; exact ha
  have ht2 : upd H S (.lst []) t = some (.tup xs) := by rw [upd_ne htS]; exact ht
  obtain ⟨mA, J, _⟩ := ins_get I2.hok ha2
  obtain ⟨od, J, _⟩ := J.look
  unfold Builtin.List.listExtendWith
  refine wpAny_bind (J.type.here ?_)
  have h1 : Builtin.List.listSameRef (.ref S) (.ref a) = false := by simp [Builtin.List.listSameRef, haS.symm]
  have h2 : (Value.ref C == Value.type "list") = false := rfl
  have h3 : (Value.ref C == Value.type "tuple") = false := rfl
  simp only [h1, h2, h3, Bool.or_false, Bool.false_eq_true, if_false]
  have hr2 : Room (n + 1) X.A.in1.in1 := hr.in1.in1
  refine wpAny_bind (iter_begin W (hr2.mono (by omega)) rfl I2 ha2 hl (SqT.of ht2) fun it s' h0 hge hit I3 => ?_)
  refine wpAny_bind (wpAny_holding ?_)
  unfold Builtin.List.listLengthHint
  obtain ⟨mA3, J3, _⟩ := ins_get I3.hok ha2
  obtain ⟨od3, J3, _⟩ := J3.look
  refine wpAny_bind (wpAny_bind (J3.type.here ((PySem.W.looks_findIn I3.kIn o.at_).here ?_)))
  refine PySem.W.KFB.if_not rfl ?_
  refine PySem.W.KFB.if_so rfl ?_
  refine wpAny_bind (wpAny_rule ?_)
  refine wpAny_bind (wpAny_attempt (call_lenO o F hr2 rfl I3 ha2 hl ht2 hn fun tk s4 I4 un4 => ?_))
  have nfr : it ∉ frs X.stack := fun hm => by
    obtain ⟨_, ob, hob, _⟩ := I2.env0.funs.mem hm
    exact absurd (Heap.lt_size hob) (Nat.not_lt.mpr hge)
  have hit4 : s4.heap.IsTupleIter it t 0 := by
    obtain ⟨ob, hob, r⟩ := hit
    exact ⟨ob, un4 it ob hob h0 nfr, r⟩
  have hSit : it ≠ S := fun e => by rw [e, upd_same] at h0; cases h0
  have hitH : H it = none := by rw [upd_ne hSit] at h0; exact h0
  obtain ⟨_, q1, q2, q3, q4, q5⟩ := I2.fpOk (H' := upd H S (.lst [])) hge h0
  have loop : ∀ s5, Inv X pins σ (upd H S (.lst [])) s5 → s5.heap.IsTupleIter it t 0 → codeAny (model X.prog X.w) X.A.in1 (.builtin "list.extend.loop" ⟨[.ref S, .ref it, .none], []⟩) (wants (fun r s₂ => r = .none ∧ EP X pins σ Q (.ref S) s₂) X.xe) s5 := fun s5 I5 hit5 =>
    list_loop hr2.hd hn fr htS.symm hitH hSit q1 q3 q4 q5 (SqT.of ht) (fun s6 I6 => ⟨rfl, .ref S, _, I6, rfl, hq S fr⟩) xs.length 0 s5 rfl (Nat.zero_le _) I5 hit5
  dsimp only
  refine wpAny_bind (wpAny_of_eq (a := some (xs.length : Int)) (by first | rfl | kernel_rfl!) ?_)
  dsimp only
  have hlong : Builtin.List.listTooLong ((xs.length : Int)).toNat = false := notLongL (by rw [sizeLine_eq]; omega)
  rw [hlong, if_neg Bool.false_ne_true]
  refine wpAny_pure ?_
  refine wpAny_ite_split (fun _ => ?_) (fun _ => wpAny_pure ⟨plainId_quiet PySem.F.plain_extend_loop _, loop s4 I4 hit4⟩)
  refine wpAny_bind (wpAny_rule ?_)
  refine wpAny_bind ?_
  show wpAny _ _ (updateSeq S (·.push .none) >>= fun _ => updateSeq S (·.pop)) _ _ _
  obtain ⟨z, its, k3, r3, hl3, e3⟩ := I4.lstM upd_same
  cases r3
  refine wpAny_bind (wpAny_updateSeq e3 rfl ?_)
  have I5 := I4.lset (f := (·.push Value.none)) (its' := [Value.none]) (ys := [.non]) (t' := s4.toks) upd_same e3 (by simp) (.cons rfl .nil) (by rw [List.length_singleton, sizeLine_eq]; decide)
  rw [upd_upd] at I5
  obtain ⟨z4, its4, k4, r4, hl4, e4⟩ := I5.lstM upd_same
  obtain ⟨u4, rfl, ru4⟩ := r4.one
  refine wpAny_updateSeq e4 rfl ?_ (by show 1 ≤ sizeLine; rw [sizeLine_eq]; decide) (by show 0 ≤ sizeLine + 1; exact Nat.zero_le _)
  have I6 := I5.lset (f := (·.pop)) (its := [u4]) (its' := []) (ys := []) (t' := s4.toks) upd_same e4 (by rfl) .nil (Nat.zero_le _)
  rw [upd_upd] at I6
  refine wpAny_pure ⟨plainId_quiet PySem.F.plain_extend_loop _, loop _ I6 ?_⟩
  obtain ⟨ob, hob, rr⟩ := hit4
  exact ⟨ob, (Heap.get?_update_other _ _ (Ne.symm hSit)).trans ((Heap.get?_update_other _ _ (Ne.symm hSit)).trans hob), rr⟩
end
end Cl
namespace Cl
open PySem PySem.Spec PyProof.Rows L2 Px
/-- a class whose objects are walked and counted by the tuple in the field f -/
def WalkC (X : Cx) (C : Addr) (f : Str) : Prop := ∃ (n : Nat) (fl : Addr), IterF X.prog X.w X.K X.mg X.base n C f ∧ OwnOp X.K C "__len__" fl ∧ FnR X.prog X.w X.K X.mg X.base (L2N.CX X.prog X.w) n fl (spLen C f) ∧ Room (n + 3) X.A
inductive WalkCs (X : Cx) : List (Addr × Str) → Prop
  | nil : WalkCs X []
  | cons {C : Addr} {f : Str} {l : List (Addr × Str)} : WalkC X C f → WalkCs X l → WalkCs X ((C, f) :: l)
section
variable {X : Cx} {l : List (Addr × Str)}
theorem WalkCs.at (h : WalkCs X l) : ∀ {i : Nat} {C : Addr} {f : Str}, l[i]? = some (C, f) → WalkC X C f := by
  induction h with
  | nil => intro i C f e; cases e
  | cons h _ ih =>
    intro i C f e
    cases i with
    | zero => cases e; exact h
    | succ i => exact ih (by simpa using e)
/-- x is an object of one of the classes, its tuple holds xs -/
def OwnT (l : List (Addr × Str)) (x : V) (H : Hp) (t : Addr) (xs : List V) : Prop := ∃ (i : Nat) (C : Addr) (f : Str) (a dx : Addr) (fs : List (Str × V)), l[i]? = some (C, f) ∧ x = .ref a ∧ H a = some (.ins C dx fs) ∧ fs.lookup f = some (.ref t) ∧ H t = some (.tup xs) ∧ xs.length ≤ 1000000
def rLenO (K : PySem.W.Frag) (l : List (Addr × Str)) : List V → Hp → VK → Prop := fun vs H Q => rLenP K vs H Q ∨ ∃ x t xs, vs = [x] ∧ OwnT l x H t xs ∧ Q (.int xs.length) H
theorem call_lenQ (h : WalkCs X l) : CallR X (.builtin "len") (rLenO X.K l) := by
  intro pins s σ H vs us Q I r q
  rcases q with q | ⟨x, t, xs, rfl, ⟨i, C, f, a, dx, fs, hl, rfl, ha, hf, ht, hn⟩, q⟩
  · exact call_lenP pins s σ H vs us Q I r q
  · obtain ⟨u, rfl, ru⟩ := vals1 r
    cases ru
    obtain ⟨n, fl, W, o, F, hr⟩ := h.at hl
    exact call_lenO o F (hr.mono (by omega)) rfl I ha hf ht hn fun tk s' I' _ => ⟨.int xs.length, H, I', ⟨tk, rfl⟩, q⟩
def rListO (K : PySem.W.Frag) (l : List (Addr × Str)) : List V → Hp → VK → Prop := fun vs H Q => rListP K vs H Q ∨ ∃ x t xs, vs = [x] ∧ OwnT l x H t xs ∧ ∀ q, H q = none → Q (.ref q) (upd H q (.lst xs))
theorem call_listQ (h : WalkCs X l) : CallR X (.type "list") (rListO X.K l) := by
  intro pins s σ H vs us Q I r q
  rcases q with q | ⟨x, t, xs, rfl, ⟨i, C, f, a, dx, fs, hl, rfl, ha, hf, ht, hn⟩, q⟩
  · exact call_listP pins s σ H vs us Q I r q
  · obtain ⟨u, rfl, ru⟩ := vals1 r
    cases ru
    obtain ⟨n, fl, W, o, F, hr⟩ := h.at hl
    exact list_own W o F hr I ha hf ht hn q
/-- for .. in x -/
def AnyB (K : PySem.W.Frag) (x : V) (H1 : Hp) (R : L2.It → Hp → Prop) : Prop := match x with
  | .str z => R (Its z) H1
  | .ref a => ((∃ xs, SqL K H1 a xs) ∧ R (Itl K a) H1) ∨ ((∃ xs, SqT K H1 a xs) ∧ R (Itt K a) H1)
  | _ => False
def iAnyO (K : PySem.W.Frag) (l : List (Addr × Str)) (te : TE) : TI := fun σ H R => te σ H fun x H1 => AnyB K x H1 R ∨ ∃ t xs, OwnT l x H1 t xs ∧ R (Itt K t) H1
theorem pi_anyO {tg e : Expr} {te : TE} (h : WalkCs X l) (he : PE X e te) : PI X tg e (iAnyO X.K l te) := by
  refine ⟨fun pins s σ H R I hw => ?_⟩
  refine thn (he.run pins s σ H _ I hw) fun v s1 ⟨x, H1, I1, r1, q1⟩ => ?_
  rcases q1 with q1 | ⟨t, xs, ⟨i, C, f, a, dx, fs, hl, rfl, ha, hf, ht, hn⟩, q⟩
  · unfold AnyB at q1
    cases x <;> first
      | exact False.elim q1
      | (rename_i x
         obtain ⟨t, rfl⟩ := r1
         cases ha : x.cps.all (· < 128)
         · exact wpAny_pyIter_wide ha (pi_one (tk := s1.toks) I1 _ (turn_str _ x t "str_iterator" (.inr rfl)) ⟨_, Heap.get?_push_size _ rfl, rfl, rfl⟩ q1)
         · exact wpAny_pyIter_ascii ha (pi_one (tk := s1.toks) I1 _ (turn_str _ x t "str_ascii_iterator" (.inl rfl)) ⟨_, Heap.get?_push_size _ rfl, rfl, rfl⟩ q1))
      | (rename_i a
         obtain rfl : v = Value.ref a := r1
         rcases q1 with ⟨⟨xs, hq⟩, q⟩ | ⟨⟨xs, hq⟩, q⟩
         · obtain ⟨its, rv, p, hz⟩ := I1.list hq
           refine wpAny_pyIter_list p.isList ?_
           refine ⟨s1.heap.objs.size, [s1.heap.objs.size], _, _, H1, rfl, I1.kept (t' := s1.toks) fun b o e => Heap.get?_push_of_some _ e, turn_list a _, ⟨_, Heap.get?_push_size _ rfl, rfl, rfl⟩, fun b hb => ?_, q⟩
           have e : b = s1.heap.objs.size := by simpa using hb
           subst e
           exact I1.fpOk (Nat.le_refl _) (I1.hok.fresh (Nat.le_refl _))
         · obtain ⟨its, rv, p, hz⟩ := I1.tuple hq
           refine wpAny_pyIter_tuple (show s1.heap.IsTuple a its.toArray from p) ?_
           refine ⟨s1.heap.objs.size, [s1.heap.objs.size], _, _, H1, rfl, I1.kept (t' := s1.toks) fun b o e => Heap.get?_push_of_some _ e, turn_tuple a _, ⟨_, Heap.get?_push_size _ rfl, rfl, rfl⟩, fun b hb => ?_, q⟩
           have e : b = s1.heap.objs.size := by simpa using hb
           subst e
           exact I1.fpOk (Nat.le_refl _) (I1.hok.fresh (Nat.le_refl _)))
  · obtain rfl : v = Value.ref a := r1
    obtain ⟨n, fl, W, o, F, hr⟩ := h.at hl
    refine iter_begin W (hr.mono (by omega)) rfl I1 ha hf (SqT.of ht) fun it s' h0 hge hit I3 => ?_
    refine ⟨it, [it], _, _, H1, rfl, I3, turn_tuple t it, hit, fun b hb => ?_, q⟩
    have e : b = it := by simpa using hb
    subst e
    exact I1.fpOk hge h0
end
end Cl
namespace Hk
open PySem PySem.W PySem.Spec PyProof.Rows L2 He
def ownB (K : Frag) (C : Addr) (m : PySem.Str) : Bool := eqO (findIn K (.ref C) m) (some (some (.ref (ma K C m)))) && (isFn K (.ref (ma K C m)) && selfFirst K C)
theorem ownB_ok {K : Frag} {C : Addr} {m : PySem.Str} (h : ownB K C m = true) : Cl.OwnOp K C m (ma K C m) := by
  unfold ownB at h
  obtain ⟨h1, h⟩ := ba h
  obtain ⟨h2, h3⟩ := ba h
  exact ⟨eqO_ok h1, h2, h3⟩
end Hk
namespace Px
open PySem PySem.Spec PyProof.Rows L2
section
variable {K : PySem.W.Frag} {l : List (Addr × Str)} {σ : L2.St} {H : Hp} {D : Ends} {Q : VK} {te ta tb : TE}
theorem s_opS {r : Cl.R2S} (h : ta σ H fun x H1 => tb σ H1 fun y H2 => r σ x y H2 Q) : Cl.tOpS r ta tb σ H Q := h
def ForBodyO (K : PySem.W.Frag) (l : List (Addr × Str)) (g : TG) (tb : TS) (D : Ends) (σ : L2.St) (x : V) (H1 : Hp) : Prop := ForBody K g tb D σ x H1 ∨ ∃ t xs, Cl.OwnT l x H1 t xs ∧ ForB (Itt K t) g tb D σ H1
theorem s_forO {g : TG} {tb : TS} (h : te σ H fun x H1 => ForBodyO K l g tb D σ x H1) : tFor (Cl.iAnyO K l te) g tb D σ H := h
def LcBodyO (K : PySem.W.Frag) (l : List (Addr × Str)) (g : TG) (tt : TT) (te : TE) (vs : List Nat) (σ : L2.St) (Q : VK) (x : V) (H1 : Hp) : Prop := LcBody K g tt te vs σ Q x H1 ∨ ∃ t xs, Cl.OwnT l x H1 t xs ∧ LcB (Itt K t) g tt te vs σ Q H1
theorem s_lcO {g : TG} {tt : TT} {te0 : TE} {vs : List Nat} (h : te0 σ H fun x H1 => LcBodyO K l g tt te vs σ Q x H1) : tLc (Cl.iAnyO K l te0) g tt te vs σ H Q := h
theorem s_ownT {i : Nat} {C : Addr} {f : Str} {a dx t : Addr} {fs : List (Str × V)} {xs : List V} (hl : l[i]? = some (C, f)) (ha : H a = some (.ins C dx fs)) (hf : fs.lookup f = some (.ref t)) (ht : H t = some (.tup xs)) (hn : xs.length ≤ 1000000) : Cl.OwnT l (.ref a) H t xs := ⟨i, C, f, a, dx, fs, hl, rfl, ha, hf, ht, hn⟩
end
end Px
/-! methods of own objects: o.m(..), o(..), o[i], str(o); sep.join(..) -/
namespace Cl
open PySem PySem.Spec PySem.Calls PyProof.Rows L2 Px
theorem fnIn_of {K : PySem.W.Frag} {x qual : Str} {params : Arguments} {body : List Stmt} {scope : Scope} {dvs : List V} {kws : List (Str × V)} {f : Addr} {fd : FuncData} (F : FunD K x qual params body scope dvs kws f fd) : PySem.W.fnIn K f = true := by
  obtain ⟨oc, od, dV, kV, doc, pm, an, cdv, ct, osl, rfl, lk, _⟩ := F.ex
  unfold PySem.W.fnIn
  rw [lk]
/-- the class at C has the def m, which keeps the promise sp -/
structure OwnM (X : Cx) (m : Str) (E : L2.St → XK) (C : Addr) (sp : Sp) : Prop where
  cls : Cls X.K C
  ex : ∃ (CX : CXT) (k : Nat) (f : Addr), OwnOp X.K C m f ∧ PySem.W.keepIn X.K (.ref f) = true ∧ PySem.W.fnIn X.K f = true ∧ FnR X.prog X.w X.K X.mg X.base CX k f sp ∧ Room (k + 2) X.A ∧ ∀ σ, PassesAt CX X σ (E σ)
inductive OwnMs (X : Cx) (m : Str) (E : L2.St → XK) : List (Addr × Sp) → Prop
  | nil : OwnMs X m E []
  | cons {C : Addr} {sp : Sp} {l : List (Addr × Sp)} : OwnM X m E C sp → OwnMs X m E l → OwnMs X m E ((C, sp) :: l)
section
variable {X : Cx} {CX : CXT} {k : Nat} {f C : Addr} {sp : Sp} {E : L2.St → XK} {m : Str} {l : List (Addr × Sp)} {o e a b : Expr} {es : List Expr} {ta tb te : TE} {t : TA} {apos pos p : Pos} {x : Str}
theorem OwnMs.at (h : OwnMs X m E l) : ∀ {i : Nat} {C : Addr} {sp : Sp}, l[i]? = some (C, sp) → OwnM X m E C sp := by
  induction h with
  | nil => intro i C sp e; cases e
  | cons h _ ih =>
    intro i C sp e
    cases i with
    | zero => cases e; exact h
    | succ i => exact ih (by simpa using e)
theorem ownM_of {x qual : Str} {params : Arguments} {body : List Stmt} {scope : Scope} {dvs : List V} {kws : List (Str × V)} {fd : FuncData} (c : Cls X.K C) (o : OwnOp X.K C m f) (D : FunD X.K x qual params body scope dvs kws f fd) (F : FnR X.prog X.w X.K X.mg X.base CX k f sp) (hr : Room (k + 2) X.A) (hx : ∀ σ, PassesAt CX X σ (E σ)) : OwnM X m E C sp :=
  ⟨c, CX, k, f, o, D.kp, fnIn_of D, F, hr, hx⟩
/-- o.m(e, ..) -/
def tMethO (l : List (Addr × Sp)) (m : Str) (E : L2.St → XK) (ta : TE) (t : TA) : TE := fun σ H Q => ta σ H fun x H1 => ∃ (i : Nat) (C : Addr) (sp : Sp) (a dx : Addr) (fs : List (Str × V)), l[i]? = some (C, sp) ∧ x = .ref a ∧ H1 a = some (.ins C dx fs) ∧ fs.lookup m = none ∧ t σ H1 fun vs H2 => sp (.ref a :: vs) H2 Q (E σ)
theorem pe_methO {pl : Sem Bool} (h : OwnMs X m E l) (he : PE X o ta) (ha : PA X (e :: es) t)
    (hst : starEach (e :: es) X.env = (false, eval e X.env) :: starEach es X.env := by rfl) (hpl : (backTo pos (starEach es X.env)).any (·.1) = false := by rfl)
    (ht : eval (.Call (.Attribute o m apos) (e :: es) [] pos) X.env = (do
      let ov ← eval o X.env
      standAt apos.atName
      let (f, first) ← holding [ov] (getMethod ov m pl)
      callWith pos f first (backTo pos (starEach (e :: es) X.env)) (backToKw pos (keywordEach [] X.env))) := by rfl) :
    PE X (.Call (.Attribute o m apos) (e :: es) [] pos) (tMethO l m E ta t) := by
  refine ⟨fun pins s σ H Q I hh => ?_⟩
  refine PySem.W.methodCall_KW (pl := pl) (thn (he.run pins s σ H _ I hh) fun u s1 ⟨x, H1, I1, rx, i, C, sp, a, dx, fs, hl, ex, ea, lk, q⟩ => ?_) ht
  subst ex
  obtain rfl : u = Value.ref a := rx
  have M := h.at hl
  obtain ⟨CX, k, f, o, hk, hf, F, hr, hx⟩ := M.ex
  refine getmeth_ok I1 ea M.cls ⟨o.at_, o.fn, hk⟩ lk ?_
  refine PySem.W.callWith_K (first := [.ref a]) (h₀ := X.base) I.ok.mod.kin hk (thn (ha.run pos pins s1 σ H1 _ I1 q) fun us s2 ⟨vs, H2, I2, r, q2⟩ => ⟨I2.kIn, ?_⟩) hst hpl
  exact run_RS (us := .ref a :: us) (vs := .ref a :: vs) F (hr.mono (by omega)) (hx σ) I2 (.cons rfl r) q2
theorem pe_methO0 {pl : Sem Bool} (h : OwnMs X m E l) (he : PE X o ta)
    (ht : eval (.Call (.Attribute o m apos) [] [] pos) X.env = (do
      let ov ← eval o X.env
      standAt apos.atName
      let (f, first) ← holding [ov] (getMethod ov m pl)
      callWith pos f first (backTo pos (starEach [] X.env)) (backToKw pos (keywordEach [] X.env))) := by rfl) :
    PE X (.Call (.Attribute o m apos) [] [] pos) (tMethO l m E ta tNil) := by
  refine ⟨fun pins s σ H Q I hh => ?_⟩
  refine PySem.W.methodCall_KW (pl := pl) (thn (he.run pins s σ H _ I hh) fun u s1 ⟨x, H1, I1, rx, i, C, sp, a, dx, fs, hl, ex, ea, lk, q⟩ => ?_) ht
  subst ex
  obtain rfl : u = Value.ref a := rx
  have M := h.at hl
  obtain ⟨CX, k, f, o, hk, hf, F, hr, hx⟩ := M.ex
  refine getmeth_ok I1 ea M.cls ⟨o.at_, o.fn, hk⟩ lk ?_
  exact PySem.W.callWith_K0 (first := [.ref a]) I1.kIn hk (run_RS (us := [.ref a]) (vs := [.ref a]) F (hr.mono (by omega)) (hx σ) I1 (.cons rfl .nil) q)
/-- o(e, ..) -/
def tCallO (l : List (Addr × Sp)) (E : L2.St → XK) (ta : TE) (t : TA) : TE := fun σ H Q => ta σ H fun x H1 => ∃ a, x = .ref a ∧ t σ H1 fun vs H2 => ∃ (i : Nat) (C : Addr) (sp : Sp) (dx : Addr) (fs : List (Str × V)), l[i]? = some (C, sp) ∧ H2 a = some (.ins C dx fs) ∧ sp (.ref a :: vs) H2 Q (E σ)
theorem callWith_own {M : Model} {A : Around} {E : Value → Shared → Prop} {s : Shared} {Q : Value → Shared → Prop} {ad : Addr} {first : List Value} {args : List (Bool × Sem Value)} {keywords : List (Option Str × Sem Value)} (hplain : (args.any (·.1) || keywords.any (·.1.isNone)) = false)
    (h : wpAny M A (evalArgs (.ref ad) true args keywords) (fun a s₁ => (∃ ox C od, ox.data = .plain ∧ PySem.W.InstAt s₁.heap ad ox C od) ∧ wpAny M A (call (.ref ad) (first ++ a.pos) a.kw) Q E s₁) E s) : wpAny M A (callWith pos (.ref ad) first args keywords) Q E s := by
  unfold callWith
  refine wpAny_bind (wpAny_holding (thn h fun a s₁ ⟨⟨ox, C, od, hd, J⟩, hc⟩ => wpAny_bind (wpAny_standAt ?_)))
  simp only [hplain]
  refine wpAny_bind ((PySem.W.kco_keeper (M := M) J hd).here (wpAny_bind (thn (wpAny_operateT hc) fun r s₂ hr => ?_)))
  exact wpAny_bind (wpAny_holding (wpAny_point (wpAny_pure hr)))
theorem pe_callO (h : OwnMs X "__call__" E l) (he : PE X (.Name x p) ta) (ha : PA X (e :: es) t)
    (hst : starEach (e :: es) X.env = (false, eval e X.env) :: starEach es X.env := by rfl) (hpl : (backTo pos (starEach es X.env)).any (·.1) = false := by rfl) :
    PE X (.Call (.Name x p) (e :: es) [] pos) (tCallO l E ta t) := by
  refine ⟨fun pins s σ H Q I hh => ?_⟩
  refine wpAny_Call_Name_kw (thn (he.run pins s σ H _ I hh) fun u s1 ⟨v, H1, I1, rx, a, ex, q⟩ => ?_)
  subst ex
  obtain rfl : u = Value.ref a := rx
  have q' := ha.run pos pins s1 σ H1 _ I1 q
  rw [hst] at q' ⊢
  refine callWith_own (by show ((false || (backTo pos (starEach es X.env)).any (·.1)) || false) = false; rw [hpl]; rfl) (evalArgs_plain (thn q' fun us s2 ⟨vs, H2, I2, r, i, C, sp, dx, fs, hl, hA, q2⟩ => ?_))
  have M := h.at hl
  obtain ⟨CX, k, f, o, hk, hf, F, hr, hx⟩ := M.ex
  obtain ⟨mA, J, _⟩ := ins_get I2.hok hA
  obtain ⟨od, J, _⟩ := J.look
  refine ⟨⟨_, C, _, rfl, J⟩, ?_⟩
  refine wpAny_call (PySem.W.kco_code I2.kIn J rfl o.at_ o.fn hf (codeAny_mono (F X.A X.stack s2 H2 (.ref a :: us) (.ref a :: vs) Q (E σ) (hr.mono (by omega)) I2.env0 (.cons rfl r) q2) fun r s' hq => ?_))
  cases r with
  | error e => exact hx σ pins H2 s2 e s' I2 hq
  | ok fl =>
    cases fl with
    | ret u => exact I2.after hq
    | _ => exact hq.elim
/-- o[i] -/
def rIxO (l : List (Addr × Sp)) (E : L2.St → XK) (base : R2) : R2S := fun σ x y H Q => base x y H Q ∨ ∃ (i : Nat) (C : Addr) (sp : Sp) (a dx : Addr) (fs : List (Str × V)), l[i]? = some (C, sp) ∧ x = .ref a ∧ H a = some (.ins C dx fs) ∧ sp [.ref a, y] H Q (E σ)
theorem pe_ixO {r : R2} (h : OwnMs X "__getitem__" E l) (hr : IxR X r) (ha : PE X a ta) (hb : PE X b tb) (hs : PlainIx b) (hsl : ∀ o i, subscripted b true (.ref o) i = runValue (.builtin "lifetime.subscript" ⟨[.ref o, i], []⟩)) : PE X (.Subscript a b pos) (tOpS (rIxO l E r) ta tb) := by
  refine ⟨fun pins s σ H Q I hh => ?_⟩
  refine Subscript_ (binT ha hb I hh fun v u s2 x y H2 I2 rx ry q => ?_)
  rcases q with q | ⟨i, C, sp, ad, dx, fs, hl, rfl, hA, q⟩
  · exact hr a b pins s2 σ H2 x y v u Q I2 rx ry q (hs _ _)
  · cases rx
    have M := h.at hl
    obtain ⟨CX, k, f, o, hk, hf, F, hr, hx⟩ := M.ex
    obtain ⟨mA, J, _⟩ := ins_get I2.hok hA
    obtain ⟨od, J, _⟩ := J.look
    obtain ⟨m, hF⟩ := I2.fr
    exact PySem.W.sub_K hF I2.ok.mod.kin J o.at_ hf o.fn (run_RS1 (us := [.ref ad, u]) (vs := [.ref ad, y]) F (hr.mono (by omega)) (hx σ) I2 (.cons rfl (.cons ry .nil)) q) (hsl _ _)
/-- str(o) -/
def rStrO (l : List (Addr × Sp)) : List V → Hp → VK → Prop := fun vs H Q => rStrP vs H Q ∨ ∃ (i : Nat) (C : Addr) (sp : Sp) (a dx : Addr) (fs : List (Str × V)), l[i]? = some (C, sp) ∧ vs = [.ref a] ∧ H a = some (.ins C dx fs) ∧ sp [.ref a] H (fun v H' => ∃ z, v = .str z ∧ Q (.str z) H') E0
theorem call_strO (h : OwnMs X "__str__" (fun _ => E0) l) : CallR X (.type "str") (rStrO l) := by
  intro pins s σ H vs us Q I r q
  rcases q with q | ⟨i, C, sp, a, dx, fs, hl, rfl, hA, q⟩
  · exact call_strP pins s σ H vs us Q I r q
  · obtain ⟨u, rfl, ru⟩ := vals1 r
    cases ru
    have M := h.at hl
    obtain ⟨CX, k, f, o, hk, hf, F, hr, hx⟩ := M.ex
    obtain ⟨mA, J, _⟩ := ins_get I.hok hA
    obtain ⟨od, J, _⟩ := J.look
    refine PySem.W.kso_call hr.in1.in1.units0 I.kIn J o.at_ o.fn ?_
    refine wpAny_call (codeAny_mono (F X.A.in1.in1 X.stack s H [.ref a] [.ref a] _ E0 hr.in1.in1 I.env0.in1.in1 (.cons rfl .nil) q) fun r s' hq => ?_)
    cases r with
    | error e => exact hx σ pins H s e s' I hq
    | ok fl =>
      cases fl with
      | ret u =>
        obtain ⟨v, H', I3, rv, z, ev, q3⟩ := I.after hq
        subst ev
        obtain ⟨tk, rfl⟩ := rv
        exact ⟨.str z, H', I3, ⟨tk, rfl⟩, q3⟩
      | _ => exact hq.elim
/-- sep.join(e) -/
def rJoinP (K : PySem.W.Frag) : V → List V → Hp → VK → Prop := fun x xs H Q => ∃ a p, ∃ ys : List Str, x = .str a ∧ xs = [.ref p] ∧ (SqL K H p (ys.map V.str) ∨ SqT K H p (ys.map V.str)) ∧ (ys.map (·.length)).sum + ys.length * a.length ≤ 16777216 ∧ Q (.str (Txt.join a ys)) H
theorem pe_joinP (ho : PE X o ta) (he : PE X e te) (hs : starEach [e] X.env = [(false, eval e X.env)] := by rfl) (hbase : attributeBase o "join" X.env (eval o X.env) = eval o X.env := by rfl) (hline : (apos.endLine == pos.line) = true := by rfl) :
    PE X (.Call (.Attribute o "join" apos) [e] [] pos) (tM1 (rJoinP X.K) ta te) := pe_join ho he hs hbase hline
end
end Cl
namespace Hk
open PySem PySem.Spec PySem.W PyProof.Rows L2 He
def propB (K : Frag) (C : Addr) (f : PySem.Str) : Bool := eqO (findIn K (.ref C) f) (some (some (.ref (ma K C f)))) && (eqO (specialIn K (.ref (ma K C f)) "__get__") (some (some (.builtin "property.__get__"))) && (decide (takesIn K (.ref (ma K C f)) = some true) && (match recIn K (ma K C f) "property" with | some (.ref _ :: _) => true | _ => false)))
theorem propB_ok {K : Frag} {C : Addr} {f : PySem.Str} (h : propB K C f = true) : PropOf K C f (ma K C f) (He5.wf K C "property" f) := by
  unfold propB at h
  obtain ⟨h1, h⟩ := ba h
  obtain ⟨h2, h⟩ := ba h
  obtain ⟨h3, h4⟩ := ba h
  refine ⟨eqO_ok h1, eqO_ok h2, of_decide_eq_true h3, ?_⟩
  unfold He5.wf
  split at h4
  · rename_i g r e
    exact ⟨r, by rw [e]⟩
  · cases h4
end Hk
namespace Px
open PySem PySem.Spec PyProof.Rows L2
section
variable {K : PySem.W.Frag} {σ : L2.St} {H : Hp} {Q : VK} {ta te : TE} {t : TA}
theorem s_methO {l : List (Addr × Sp)} {m : Str} {E : L2.St → XK} (h : ta σ H fun x H1 => ∃ (i : Nat) (C : Addr) (sp : Sp) (a dx : Addr) (fs : List (Str × V)), l[i]? = some (C, sp) ∧ x = .ref a ∧ H1 a = some (.ins C dx fs) ∧ fs.lookup m = none ∧ t σ H1 fun vs H2 => sp (.ref a :: vs) H2 Q (E σ)) : Cl.tMethO l m E ta t σ H Q := h
theorem s_callO {l : List (Addr × Sp)} {E : L2.St → XK} (h : ta σ H fun x H1 => ∃ a, x = .ref a ∧ t σ H1 fun vs H2 => ∃ (i : Nat) (C : Addr) (sp : Sp) (dx : Addr) (fs : List (Str × V)), l[i]? = some (C, sp) ∧ H2 a = some (.ins C dx fs) ∧ sp (.ref a :: vs) H2 Q (E σ)) : Cl.tCallO l E ta t σ H Q := h
theorem s_exr {a : Addr} {R : Addr → Prop} (h : R a) : ∃ b, (V.ref a = .ref b) ∧ R b := ⟨a, rfl, h⟩
theorem s_m1 {r : V → List V → Hp → VK → Prop} {z : Str} (h : te σ H fun y H2 => r (.str z) [y] H2 Q) : tM1 r (tC (.str z)) te σ H Q := ⟨⟨z, rfl⟩, h⟩
end
end Px
/-! C.m(e, ..), m a staticmethod of the class C -/
namespace Cl
open PySem PySem.Spec PySem.Calls PyProof.Rows L2 Px
structure SMet (K : PySem.W.Frag) (C : Addr) (m : Str) (p g : Addr) : Prop where
  rd : ClX.CRead K C (.type "type")
  at_ : PySem.W.findCls K (.ref C) (.type "type") m = some (.get (.builtin "staticmethod.__get__") (.ref p) .none (.ref C))
  rc : ∃ rest, PySem.W.recIn K p "staticmethod" = some (.ref g :: rest)
def tSMeth (C : Addr) (sp : Sp) (E : L2.St → XK) (ta : TE) (t : TA) : TE := fun σ H Q => ta σ H fun x H1 => x = .ref C ∧ t σ H1 fun vs H2 => sp vs H2 Q (E σ)
section
variable {X : Cx} {CX : CXT} {k : Nat} {C p g : Addr} {sp : Sp} {E : L2.St → XK} {o e : Expr} {es : List Expr} {m : Str} {pos apos : Pos} {ta : TE} {t : TA} {pl : Sem Bool}
theorem pe_smeth (he : PE X o ta) (c : SMet X.K C m p g) (hk : PySem.W.keepIn X.K (.ref g) = true) (F : FnR X.prog X.w X.K X.mg X.base CX k g sp) (hr : Room k X.A) (hx : ∀ σ, PassesAt CX X σ (E σ)) (ha : PA X (e :: es) t)
    (hst : starEach (e :: es) X.env = (false, eval e X.env) :: starEach es X.env := by rfl) (hpl : (backTo pos (starEach es X.env)).any (·.1) = false := by rfl)
    (ht : eval (.Call (.Attribute o m apos) (e :: es) [] pos) X.env = (do
      let ov ← eval o X.env
      standAt apos.atName
      let (f, first) ← holding [ov] (getMethod ov m pl)
      callWith pos f first (backTo pos (starEach (e :: es) X.env)) (backToKw pos (keywordEach [] X.env))) := by rfl) :
    PE X (.Call (.Attribute o m apos) (e :: es) [] pos) (tSMeth C sp E ta t) := by
  refine ⟨fun pins s σ H Q I h => ?_⟩
  refine PySem.W.methodCall_KW (pl := pl) (thn (he.run pins s σ H _ I h) fun u s1 ⟨x, H1, I1, rx, ex, q⟩ => ?_) ht
  subst ex
  obtain rfl : u = Value.ref C := rx
  obtain ⟨rest, hp⟩ := c.rc
  refine PySem.W.method_cls I1.kIn c.rd.ga (PySem.W.cls_bind I1.kIn c.rd.rd c.at_ (wpAny_call (PySem.W.sm_get (s := { s1 with toks := s1.toks + 1 }) I1.kIn hp (PySem.W.handed_on rfl ?_))))
  have I2 := I1.tok (s1.toks + 1)
  refine PySem.W.callWith_K (first := []) (h₀ := X.base) I.ok.mod.kin hk (thn (ha.run pos pins _ σ H1 _ I2 q) fun us s2 ⟨vs, H2, I3, r, q2⟩ => ⟨I3.kIn, ?_⟩) hst hpl
  exact run_RS F hr (hx σ) I3 r q2
end
end Cl
namespace Hk
open PySem PySem.Spec PySem.W PyProof.Rows L2 He
def smetB (K : Frag) (C : Addr) (m : PySem.Str) : Bool := readsIn K C (.type "type") && (eqO (specialIn K (.ref C) "__getattribute__") (some (some (.builtin "type.__getattribute__"))) && He5.wrapB K C "staticmethod" "staticmethod.__get__" m)
theorem smetB_ok {K : Frag} {C : Addr} {m : PySem.Str} (h : smetB K C m = true) : Cl.SMet K C m (ma K C m) (He5.wf K C "staticmethod" m) := by
  unfold smetB at h
  obtain ⟨h1, h⟩ := ba h
  obtain ⟨h2, h3⟩ := ba h
  obtain ⟨h4, h5⟩ := He5.wrapB_ok h3
  exact ⟨⟨h1, eqO_ok h2⟩, h4, h5⟩
end Hk
namespace Px
open PySem PySem.Spec PyProof.Rows L2
theorem s_smeth {σ : L2.St} {H : Hp} {Q : VK} {C : Addr} {sp : Sp} {E : L2.St → XK} {t : TA} (h : t σ H fun vs H2 => sp vs H2 Q (E σ)) : Cl.tSMeth C sp E (tC (.ref C)) t σ H Q := ⟨rfl, h⟩
end Px
/-! defs called within an except suite, the handled exception one of their arguments -/
namespace L2H
open PySem PySem.Spec PyProof.Rows L2 HotX
/-- what such a def promises: a the exception's place, cls its class, d its dict -/
structure FnE (P : Program) (w : World) (K : PySem.W.Frag) (mg : Str → Option Value) (base : Heap) (CX : CXT) (k : Nat) (f : Addr) (fd : FuncData) (ps : List Str) (sp : Addr → Value → Option Addr → Sp) : Prop where
  len : ∀ a cls d vs H Q E, sp a cls d vs H Q E → vs.length = ps.length
  run : ∀ (A : Around) (outer : List Env) (s : Shared) (H : Hp) (args : Args) (us : List Value) (vs : List V) (Q : VK) (E : XK) (p : Addr × Obj) (cls : Value) (d : Option Addr), RoomH k A → Hot1 A p → Zc cls d p.2 → PinOk outer H s p → Env0 P w K mg base A outer s H → BindsTo s fd args (ps.zip us) → Vals vs us → sp p.1 cls d vs H Q E →
    codeAny (model P w) A (.call (.ref f) args) (CR CX outer P w H s Q E) s
/-- the plan of HotCalls' fn_ofH, the exception's class told -/
theorem okE {P : Program} {w : World} {K : PySem.W.Frag} {mg : Str → Option Value} {base : Heap} {x qual : Str} {params : Arguments} {body : List Stmt} {scope : Scope} {dvs : List V} {kws : List (Str × V)} {f : Addr} {fd : FuncData} {CX : CXT} {N ps : List Str} {k : Nat} {sp : Addr → Value → Option Addr → Sp} (F : FunD K x qual params body scope dvs kws f fd) (S : FnScope N ps scope) (len : ∀ a cls d vs H Q E, sp a cls d vs H Q E → vs.length = ps.length)
    (hbody : ∀ (cdv : Value) (A : Around) (outer : List Env) (s : Shared) (H : Hp) (vs : List V) (Q : VK) (E : XK) (p : Addr × Obj) (cls : Value) (d : Option Addr), Hot1 A p → Zc cls d p.2 → (∃ vs, p.2.data = .fields vs) → RoomH k (A.deeper (envOfC qual scope s.heap.objs.size f cdv)) → sp p.1 cls d vs H Q E →
      ∃ t, PSs (cxH CX P w K mg base N qual scope f cdv A outer s H E p) body t ∧ t { nx := fun _ H' => Q .non H', rt := Q } (L2.start N vs) H) : FnE P w K mg base CX (k + 1) f fd ps sp := by
  obtain ⟨oc, od, dV, kV, doc, pm, an, cdv, ct, osl, rfl, lk, hcd, _, _⟩ := F.ex
  refine ⟨len, fun A outer s H args us vs Q E p cls d hr hot hz hpin e0 hb r hsp => ?_⟩
  have hl := len _ _ _ _ _ _ _ hsp
  have up : ∀ b o, base.get? b = some o → s.heap.get? b = some o := fun b o e => (e0.bs b o e).1
  have KX : K.In s.heap := e0.mod.kin.keeps up
  have S2 := S.par
  have hkind : ∀ y ∈ ps.zip us, scope.names.lookup y.1 = some .local ∨ (scope.names.lookup y.1 = some .cell ∧ ((cellsFrom (s.heap.objs.size + 1) scope.names []).lookup y.1).isSome = true) := by
    rintro ⟨n, v⟩ hy
    exact (S2 n (List.of_mem_zip hy).1).imp id fun q => ⟨q, PySem.W.cellsFrom_some _ _ _ (.inl q)⟩
  refine codeAny_call_function hr.depth (KX _ _ lk) rfl S.co S.gen rfl (PySem.W.codeRec_of KX hcd) (hb _ _ _ _ (wpAny_newFunctionEnv_cells S.kind hkind fun env he s1 x => ?_))
  subst he
  refine ⟨(e0.mod.nolimit.keeps up).keeps x.toInCall.keep, codeAny_func ?_⟩
  obtain ⟨v1, e1, _⟩ := hot.2
  obtain ⟨t, ht, hq⟩ := hbody cdv A outer s H vs Q E p cls d hot hz ⟨v1, e1⟩ (hr.deeper _) hsp
  refine wpAny_mono (ht.run [] s1 (L2.start N vs) H _ (inv_startH S hpin e0 hl r x) hq) (fun fl s' hs => ?_) fun _ _ hs => hs
  cases fl with
  | ret u =>
    obtain ⟨v, σ', H', J, rv, q⟩ := hs
    exact ⟨v, H', J.os, J.bare, J.base, J.hok, rv, q⟩
  | next =>
    obtain ⟨σ', H', J, q⟩ := hs
    exact ⟨.non, H', J.os, J.bare, J.base, J.hok, rfl, q⟩
  | brk => exact hs.elim fun _ h => h.elim fun _ h => h.2.elim
  | cont => exact hs.elim fun _ h => h.elim fun _ h => h.2.elim
section
variable {X : Cx} {CX : CXT} {k : Nat} {f a : Addr} {fd : FuncData} {ps : List Str} {sp : Addr → Value → Option Addr → Sp} {E : St → XK} {x : Str} {q pos : Pos} {e : Expr} {es : List Expr} {t : TA} {oe : Obj} {cls : Value} {d : Option Addr} {pn : List (Addr × Obj)}
/-- f(.., e, ..) in the suite that holds e -/
theorem pe_callE (F : FnE X.prog X.w X.K X.mg X.base CX k f fd ps sp) (hr : RoomH k (X.suite a ((a, oe) :: pn)).A) (hz : L2N.Zn cls d oe) (hf : ∃ vs, oe.data = .fields vs) (hg : Gl (X.suite a ((a, oe) :: pn)) x) (hm : X.mg x = some (.ref f)) (hk : PySem.W.keepIn X.K (.ref f) = true) (hb : Binds X.K fd ps []) (hx : ∀ σ, PassesAt CX (X.suite a ((a, oe) :: pn)) σ (E σ))
    (ha : PA (X.suite a ((a, oe) :: pn)) (e :: es) t) (hdb : (x == ("__debug__" : Str)) = false := by decide) (he : starEach (e :: es) X.env = (false, eval e X.env) :: starEach es X.env := by rfl) (hpl : (backTo pos (starEach es X.env)).any (·.1) = false := by rfl) :
    PE (X.suite a ((a, oe) :: pn)) (.Call (.Name x q) (e :: es) [] pos) (tCallS (sp a cls d) E t) := by
  refine ⟨fun pins s σ H Q I h => ?_⟩
  refine wpAny_Call_Name_kw (ld_glob I hg hm ?_ hdb)
  refine PySem.W.callWith_K (h₀ := X.base) I.ok.mod.kin hk (thn (ha.run pos pins s σ H _ I h) fun us s1 ⟨vs, H1, I1, r, q⟩ => ⟨I1.kIn, ?_⟩) he hpl
  obtain ⟨v0, e0⟩ := hf
  have hot : Hot1 (X.suite a ((a, oe) :: pn)).A (a, oe) := ⟨rfl, v0, e0, hz.2.2 v0 e0⟩
  have hl : us.length = ps.length := by rw [← r.length]; exact F.len _ _ _ _ _ _ _ q
  have b := hb s1 us I1.kIn (by rw [List.append_nil]; exact hl)
  rw [List.append_nil] at b
  have P1 := I1.pin (a, oe) (List.mem_append_left _ List.mem_cons_self)
  have hpin : PinOk (X.suite a ((a, oe) :: pn)).stack H1 s1 (a, oe) := ⟨P1.1, P1.2.1, fun hm => (List.mem_cons.mp (I1.stkSub a hm)).elim P1.2.2.1 P1.2.2.2.1, P1.2.2.2.2⟩
  refine wpAny_call (codeAny_mono (F.run _ _ s1 H1 ⟨us, []⟩ us vs Q (E σ) (a, oe) cls d hr hot ⟨hz.1, hz.2.1⟩ hpin I1.env0 b r q) fun r s' hq => ?_)
  cases r with
  | error e => exact hx σ pins H1 s1 e s' I1 hq
  | ok fl =>
    cases fl with
    | ret u => exact I1.after hq
    | next => exact hq.elim
    | brk => exact hq.elim
    | cont => exact hq.elim
end
end L2H
namespace L2
open PySem PySem.Spec PyProof.Rows
/-- isinstance(e, c) where e is pinned -/
theorem call_isEP {X : Cx} {a : Addr} {cls : Value} {d : Option Addr} {oe : Obj} (hp : (a, oe) ∈ X.pn) (hz : Zc cls d oe) (hf : ∃ vs, oe.data = .fields vs) : CallR X (.builtin "isinstance") (rIsEE X.K a cls d) := by
  intro pins s σ H xs us Q I r h
  obtain ⟨D, c, cv, b, rfl, C, hd, rfl, hcv, e, q⟩ := h
  cases r with
  | cons rx rr =>
    cases rr with
    | cons rt rr =>
      cases rr
      cases rx
      have ec := hcv _ rt
      subst ec
      obtain ⟨hget, _⟩ := I.pin (a, oe) (List.mem_append.mpr (.inl hp))
      obtain ⟨vs, hv⟩ := hf
      have hcl : (PySem.W.clsIn X.K D).isSome = true := by
        obtain ⟨cd, hc, _⟩ := PySem.W.any_some C.hd
        rw [hc]; rfl
      have J : ∃ od, PySem.W.InstAt s.heap a oe D od := by
        obtain ⟨oc, od, oda, osl⟩ := oe
        obtain ⟨h1, h2⟩ := hz
        dsimp only at h1 h2 hv
        subst h1 h2 hv
        rcases hd with rfl | ⟨dd, fs, rfl, hx⟩
        · exact ⟨none, hget, rfl, rfl, trivial⟩
        · have hx2 : ObjOk X.prog X.w H s.heap dd (.xd fs) := I.hok dd _ hx
          obtain ⟨mA, hns, hr⟩ := hx2
          obtain ⟨od, ho, hl⟩ := lookIn_ns hns
          exact ⟨some od, hget, rfl, rfl, ho⟩
      obtain ⟨od, J⟩ := J
      exact PySem.W.kia_one (PySem.W.kitx_exc hcl C.hg C.hk C.hs C.ha C.hn C.ht C.hm) I.kIn J e (fun z => nomatch z) fun tk => ⟨.bl b, H, I.kept (t' := tk) fun _ _ z => z, rfl, q⟩
end L2
/-! defs with defaults, gcd, f-strings -/
namespace Cl
open PySem PySem.Spec PySem.Calls PyProof.Rows L2 Px
/-- a def with defaults: all are written, or the defaults fill up -/
def spD (dvs : List V) (sp : Sp) : Sp := fun vs H Q E => sp vs H Q E ∨ sp (vs ++ dvs) H Q E
theorem toRD {P : Program} {w : World} {K : PySem.W.Frag} {mg : Str → Option Value} {base : Heap} {CX : CXT} {k : Nat} {f : Addr} {fd : FuncData} {ps : List Str} {sp : Sp} {dvs : List V} (F : FnOk P w K mg base CX k f fd ps sp) (hb : Binds K fd ps []) (hd : ∃ ds, Vals dvs ds ∧ Binds K fd ps ds) : FnR P w K mg base CX k f (spD dvs sp) := by
  intro A outer s H us vs Q E hr e0 r h
  have kin := e0.mod.kin.keeps fun b o e => (e0.bs b o e).1
  rcases h with h | h
  · exact toR F hb A outer s H us vs Q E hr e0 r h
  · obtain ⟨ds, hv, hB⟩ := hd
    have r2 : Vals (vs ++ dvs) (us ++ ds) := r.append hv
    have hl : (us ++ ds).length = ps.length := by rw [← r2.length]; exact F.len _ _ _ _ h
    exact F.run A outer s H ⟨us, []⟩ (us ++ ds) (vs ++ dvs) Q E hr e0 (hB s us kin hl) r2 h
theorem binds_all {K : PySem.W.Frag} {x qual : Str} {params : Arguments} {body : List Stmt} {scope : Scope} {dvs : List V} {kws : List (Str × V)} {f : Addr} {fd : FuncData} {ps : List Str} (F : FunD K x qual params body scope dvs kws f fd) (hd : dvs ≠ [])
    (h : ∀ (T : Addr) (kV doc pm : Value) (an : Option Addr) (cdv ct : Value) (us its : List Value), us.length = ps.length → its.length = dvs.length →
      ∃ k, bindArgs (PySem.W.fnOf x qual params body scope (.ref T) kV doc pm an cdv ct) ⟨us, []⟩ = seqItems? (.ref T) >>= k ∧ k (some its.toArray) = pure (ps.zip (us ++ its.drop dvs.length))) : Binds K fd ps [] := by
  obtain ⟨ds, hv, hB⟩ := FunD.binds1 F ps.length dvs.length hd (by omega) h
  rw [List.drop_length] at hv
  cases hv
  exact hB
end Cl
namespace Hk
open PySem PySem.Spec PySem.W PyProof.Rows L2 He
def bltB (K : Frag) (x : PySem.Str) (id : String) : Bool := eqO (nsIn K mainGlobals x) (some (some (.builtin id)))
end Hk
namespace Px
open PySem PySem.Spec PyProof.Rows L2
section
variable {σ : L2.St} {H : Hp} {Q : VK} {te : TE}
theorem s_gcd {a b : Int} (h : Q (.int ((Nat.gcd a.natAbs b.natAbs : Nat) : Int)) H) : rGcd [.int a, .int b] H Q := ⟨a, b, rfl, h⟩
/-- f'..' -/
def tJoined (ts : List TE) : TE := fun σ H Q => tJs ts Str.empty σ H fun out H1 => Q (.str out) H1
end
end Px
/-! operators of an own object and an int, on either side -/
namespace Cl
open PySem PySem.Spec PySem.Calls PySem.W PyProof.Rows L2 Px
section
variable {prog : Program} {w : World} {M : Model} {A : Around} {E : Value → Shared → Prop} {s : Shared} {K : PySem.W.Frag} {y C L f g : Addr} {h₀ : Heap} {m : Str → Option Value} {oy : Obj} {od : Option Obj}
/-- an int's method by an own object: NotImplemented -/
theorem int_ref {name : String} {fn : Int → Int → Sem Fin} {i : Int} {tk : Tok} {Q : Value → Shared → Prop} (e : s.heap.get? y = some oy) (hd : oy.data = .plain) (h : Q .notImplemented s) :
    wpAny M A (Builtin.Int.intBinary name fn false ⟨[.int i tk, .ref y], []⟩) (fun fin s' => ∃ v, fin = .done (.ret v) ∧ Q v s') E s := by
  unfold Builtin.Int.intBinary
  refine wpAny_bind (wpAny_pure ?_)
  refine wpAny_bind (wpAny_pure ?_)
  refine wpAny_bind ?_
  show wpAny M A (asInt? (.ref y)) _ E s
  unfold asInt?
  refine wpAny_bind (wpAny_load e ?_)
  simp only [hd]
  refine wpAny_pure ?_
  dsimp only
  refine wpAny_bind (wpAny_rule ?_)
  exact wpAny_pure ⟨_, rfl, h⟩
/-- an int's method that says NotImplemented to an own object -/
def NoInt (B : Builtin) : Prop := ∀ (M : Model) (A : Around) (E : Value → Shared → Prop) (s : Shared) (y : Addr) (oy : Obj) (i : Int) (tk : Tok) (Q : Value → Shared → Prop), s.heap.get? y = some oy → oy.data = .plain → Q .notImplemented s → wpAny M A (B ⟨[.int i tk, .ref y], []⟩) (fun fin s' => ∃ v, fin = .done (.ret v) ∧ Q v s') E s
theorem noInt_bin (name : String) (fn : Int → Int → Sem Fin) : NoInt (Builtin.Int.intBinary name fn) := fun _ _ _ _ _ _ _ _ _ e hd h => int_ref e hd h
theorem noInt_fdiv : NoInt Builtin.«int.__floordiv__» := fun M A E s y oy i tk Q e hd h => by
  unfold Builtin.«int.__floordiv__»
  refine wpAny_bind ?_
  unfold Builtin.exactOperandsForPylong
  refine W.KFB.if_so rfl ?_
  refine wpAny_bind (wpAny_pure ?_)
  refine wpAny_bind ?_
  show wpAny M A (asInt? (.ref y)) _ E s
  unfold asInt?
  refine wpAny_bind (wpAny_load e ?_)
  simp only [hd]
  refine wpAny_pure ?_
  dsimp only
  refine wpAny_pure ?_
  exact int_ref e hd h
theorem try_int {name : Str} {id : String} {B : Builtin} {i : Int} {tk : Tok} {Q : Option Value → Shared → Prop} (hB : NoInt B) (e : s.heap.get? y = some oy) (hd : oy.data = .plain) (slot : Slot "int" name id) (entry : entryFor table id = some B) (args : argsOk id ⟨[.int i tk, .ref y], []⟩) (h : Q none s) :
    wpAny (model prog w) A (tryMethod (.int i tk) name (.ref y)) Q E s := by
  unfold tryMethod
  refine wpAny_bind (wpAny_callSpecial?_slot (typeIs_int s i tk) slot (wpAny_call_entry slot (typeIs_int s i tk) entry (hB _ _ _ _ _ _ _ _ (fun v s' => wpAny (model prog w) A (match some v with | some .notImplemented | none => pure none | some v => pure (some v)) Q E s') e hd ?_) args))
  exact wpAny_pure h
theorem rbin1 {op : Operator} {i : Int} {tk : Tok} {id : String} {B : Builtin} {Q : Value → Shared → Prop} (hB : NoInt B) (F : Fr h₀ L s.heap m) (X₀ : K.In h₀) (I : InstAt s.heap y oy C od) (hd : oy.data = .plain) (hc : selfFirst K C = true)
    (hs : findIn K (.ref C) (PySem.dunder op.info.2) = some (some (.ref f))) (hr : findIn K (.ref C) (dunderR op.info.2) = some (some (.ref g))) (hg : isFn K (.ref g) = true) (hsub : subIn K (.ref C) (.type "int") = some false)
    (fills : fillsNumberSlot (.type "int") op.info.2 = pure true) (slot : Slot "int" (PySem.dunder op.info.2) id) (entry : entryFor table id = some B) (args : argsOk id ⟨[.int i tk, .ref y], []⟩)
    (h : wpAny (model prog w) A (call (.ref g) [.ref y, .int i tk]) (PySem.W.CmpBack Q) E s) : wpAny (model prog w) A (binaryOp1 op.info.2 (.int i tk) (.ref y)) (fun r s' => ∃ v, r = some v ∧ Q v s') E s := by
  have X := X₀.keeps F.keep
  obtain ⟨cd, rest, hcd, hm⟩ := ksp_first hc
  rcases hi : op.info with ⟨sym, nm'⟩
  rw [hi] at hs hr fills slot
  dsimp only at hs hr fills slot ⊢
  have one := ksp_try X I hr hg h
  have e := I.at_
  have zero : ∀ {Q : Option Value → Shared → Prop}, Q none s → wpAny (model prog w) A (tryMethod (.int i tk) (PySem.dunder nm') (.ref y)) Q E s := fun h => try_int hB e hd slot entry args h
  obtain ⟨hh, g0, d, tt, os⟩ := s
  have L1 : Looks (model prog w) hh (typeOf (.ref y)) (.ref C) := I.type
  have L3 : Looks (model prog w) hh (fillsNumberSlot (.ref C) nm') true := fills_K X hcd hm hs
  have L4 : Looks (model prog w) hh (fillsNumberSlot (.type "int") nm') true := Looks.of_pure fills
  have L5 : Looks (model prog w) hh (isSubtype (.ref C) (.type "int")) false := looks_subIn X hsub
  have L7 : Looks (model prog w) hh (numberSlotInPython (.type "int") nm') false := Looks.of_pure rfl
  have hne : (Value.type "int" == Value.ref C) = false := Bool.eq_false_iff.mpr fun q => by cases beq_iff_eq.mp q
  unfold binaryOp1
  refine wpAny_bind (wpAny_pure ?_)
  refine wpAny_bind (L1.at (wpAny_bind (L4.at ?_)))
  simp only [hne, Bool.false_eq_true, if_false]
  ksp_lk
  refine zero ?_
  ksp_lk
  refine wpAny_mono one (fun r s' hr' => ?_) fun _ _ e => e
  obtain ⟨v, rfl, hq⟩ := hr'
  ksp_lk
  exact ⟨_, rfl, hq⟩
/-- own op own, own op int, below the operator's frame -/
theorem bin1C {op : Operator} {x : Addr} {ox : Obj} {b : Value} {Q : Value → Shared → Prop} (F : Fr h₀ L s.heap m) (X₀ : K.In h₀) (I : InstAt s.heap x ox C od) (hb : Looks (model prog w) s.heap (typeOf b) (.ref C)) (hc : selfFirst K C = true)
    (hs : findIn K (.ref C) (PySem.dunder op.info.2) = some (some (.ref f))) (hf : isFn K (.ref f) = true)
    (h : wpAny (model prog w) A (call (.ref f) [.ref x, b]) (PySem.W.CmpBack Q) E s) : wpAny (model prog w) A (binaryOp1 op.info.2 (.ref x) b) (fun r s' => ∃ v, r = some v ∧ Q v s') E s := by
  have X := X₀.keeps F.keep
  obtain ⟨cd, rest, hcd, hm⟩ := ksp_first hc
  rcases hi : op.info with ⟨sym, nm'⟩
  rw [hi] at hs
  dsimp only at hs ⊢
  have one := ksp_try X I hs hf h
  obtain ⟨hh, g0, d, tt, os⟩ := s
  have L1 : Looks (model prog w) hh (typeOf (.ref x)) (.ref C) := I.type
  have L2 : Looks (model prog w) hh (typeOf b) (.ref C) := hb
  have L3 : Looks (model prog w) hh (fillsNumberSlot (.ref C) nm') true := fills_K X hcd hm hs
  unfold binaryOp1
  refine wpAny_bind (L1.at (wpAny_bind (L2.at (wpAny_bind (L3.at ?_)))))
  simp only [beq_self_eq_true, if_true]
  ksp_lk
  refine wpAny_mono one (fun r s' hr' => ?_) fun _ _ e => e
  obtain ⟨v, rfl, hq⟩ := hr'
  ksp_lk
  exact ⟨_, rfl, hq⟩
theorem bin1T {op : Operator} {x : Addr} {ox : Obj} {T : String} {b : Value} {fo ro rc : Option Value} {Q : Value → Shared → Prop} (F : Fr h₀ L s.heap m) (X₀ : K.In h₀) (I : InstAt s.heap x ox C od) (hb : typeOf b = pure (.type T)) (hc : selfFirst K C = true)
    (hs : findIn K (.ref C) (PySem.dunder op.info.2) = some (some (.ref f))) (hf : isFn K (.ref f) = true) (hr : findIn K (.ref C) (dunderR op.info.2) = some rc) (hp : rc = none ∨ ∃ g : Addr, rc = some (.ref g))
    (h1 : findIn K (.type T) (PySem.dunder op.info.2) = some fo) (h2 : findIn K (.type T) (dunderR op.info.2) = some ro) (hsub : subIn K (.type T) (.ref C) = some false)
    (h : wpAny (model prog w) A (call (.ref f) [.ref x, b]) (PySem.W.CmpBack Q) E s) : wpAny (model prog w) A (binaryOp1 op.info.2 (.ref x) b) (fun r s' => ∃ v, r = some v ∧ Q v s') E s := by
  have X := X₀.keeps F.keep
  obtain ⟨cd, rest, hcd, hm⟩ := ksp_first hc
  rcases hi : op.info with ⟨sym, nm'⟩
  rw [hi] at hs hr h1 h2
  dsimp only at hs hr h1 h2 ⊢
  have one := ksp_try X I hs hf h
  obtain ⟨hh, g0, d, tt, os⟩ := s
  have L1 : Looks (model prog w) hh (typeOf (.ref x)) (.ref C) := I.type
  have L2 : Looks (model prog w) hh (typeOf b) (.type T) := Looks.of_pure hb
  have L3 : Looks (model prog w) hh (fillsNumberSlot (.ref C) nm') true := fills_K X hcd hm hs
  have L4 : Looks (model prog w) hh (fillsNumberSlot (.type T) nm') ((fo.isSome && !isSeqSlot fo) || (ro.isSome && !isSeqSlot ro)) := ksp_fillsT X h1 h2
  have L5 : Looks (model prog w) hh (isSubtype (.type T) (.ref C)) false := looks_subIn X hsub
  have L6 : Looks (model prog w) hh (numberSlotInPython (.ref C) nm') true := ksp_inPy X hs hr hp
  have L7 : Looks (model prog w) hh (numberSlotInPython (.type T) nm') false := Looks.of_pure rfl
  have L8 : Looks (model prog w) hh (typeLookup (.type T) (dunderR nm')) ro := looks_findIn X h2
  generalize ((fo.isSome && !isSeqSlot fo) || (ro.isSome && !isSeqSlot ro)) = right at L4
  have hne : (Value.ref C == Value.type T) = false := Bool.eq_false_iff.mpr fun q => by cases beq_iff_eq.mp q
  unfold binaryOp1
  refine wpAny_bind (L1.at (wpAny_bind (L2.at (wpAny_bind (L3.at ?_)))))
  simp only [hne, Bool.false_eq_true, if_false]
  cases right with
  | false =>
    ksp_lk
    refine wpAny_mono one (fun r s' hr' => ?_) fun _ _ e => e
    obtain ⟨v, rfl, hq⟩ := hr'
    ksp_lk
    exact ⟨_, rfl, hq⟩
  | true =>
    ksp_lk
    refine wpAny_mono one (fun r s' hr' => ?_) fun _ _ e => e
    obtain ⟨v, rfl, hq⟩ := hr'
    ksp_lk
    exact ⟨_, rfl, hq⟩
theorem bin_of1 {op : Operator} {a b : Value} {Q : Value → Shared → Prop} (h : wpAny (model prog w) A (binaryOp1 op.info.2 a b) (fun r s' => ∃ v, r = some v ∧ Q v s') E s) : wpAny (model prog w) A (binaryOp op a b) Q E s := by
  unfold binaryOp
  refine wpAny_holding (wpAny_bind (wpAny_mono h (fun r s' hr' => ?_) fun _ _ e => e))
  obtain ⟨v, rfl, hq⟩ := hr'
  exact wpAny_pure hq
/-- none of the list -/
theorem anyM_no {M : Model} {h : Heap} {p : Value → Sem Bool} : ∀ {l : List Value}, (∀ c ∈ l, Looks M h (p c) false) → Looks M h (l.anyM p) false
  | [], _ => .now
  | c :: r, hl => by
    rw [List.anyM_cons]
    exact (hl c List.mem_cons_self).andThen (anyM_no fun d hd => hl d (List.mem_cons_of_mem _ hd))
theorem noI_of {M : Model} {h : Heap} {nm : String} {add : Bool} {cd : ClassData} (X : K.In h) (hc : clsIn K C = some cd) (hno : ∀ c ∈ cd.mro, findIn K c (dunderI nm) = some none) : Looks M h (fillsInplaceSlot (.ref C) nm add) false := by
  intro A Q E s k q
  unfold fillsInplaceSlot
  refine wpAny_bind ((looks_clsIn X hc).andThen (f := fun cd => pure cd.mro) .now A _ E s k ?_)
  exact anyM_no (fun c hc => (looks_findIn X (hno c hc)).andThen .now) A _ E s k q
theorem in_of1 {op : Operator} {x : Addr} {ox : Obj} {b : Value} {cd : ClassData} {Q : Value → Shared → Prop} (X : K.In s.heap) (I : InstAt s.heap x ox C od) (hc : clsIn K C = some cd) (hno : ∀ c ∈ cd.mro, findIn K c (dunderI op.info.2) = some none)
    (h : wpAny (model prog w) A (binaryOp1 op.info.2 (.ref x) b) (fun r s' => ∃ v, r = some v ∧ Q v s') E s) : wpAny (model prog w) A (inplaceOp op (.ref x) b) Q E s := by
  have L2 : Looks (model prog w) s.heap (fillsInplaceSlot (.ref C) op.info.2 (op == .Add)) false := noI_of X hc hno
  unfold inplaceOp
  refine wpAny_holding ?_
  refine wpAny_bind (I.type.here (wpAny_bind (L2.here ?_)))
  simp only [Bool.false_eq_true, if_false]
  refine wpAny_bind (wpAny_mono h (fun r s' hr' => ?_) fun _ _ e => e)
  obtain ⟨v, rfl, hq⟩ := hr'
  exact wpAny_pure hq
end
end Cl
namespace Cl
open PySem PySem.Spec PySem.Calls PyProof.Rows L2 Px
structure MixOp (K : PySem.W.Frag) (C : Addr) (op : Operator) (f g : Addr) : Prop where
  at_ : PySem.W.findIn K (.ref C) (PySem.dunder op.info.2) = some (some (.ref f))
  fn : PySem.W.isFn K (.ref f) = true
  sf : PySem.W.selfFirst K C = true
  rat : PySem.W.findIn K (.ref C) (dunderR op.info.2) = some (some (.ref g))
  rfn : PySem.W.isFn K (.ref g) = true
  i1 : ∃ fo, PySem.W.findIn K (.type "int") (PySem.dunder op.info.2) = some fo
  i2 : ∃ ro, PySem.W.findIn K (.type "int") (dunderR op.info.2) = some ro
  s1 : PySem.W.subIn K (.type "int") (.ref C) = some false
  s2 : PySem.W.subIn K (.ref C) (.type "int") = some false
  ni : ∃ cd, PySem.W.clsIn K C = some cd ∧ ∀ c ∈ cd.mro, PySem.W.findIn K c (dunderI op.info.2) = some none
structure IntOp (op : Operator) : Prop where
  fills : fillsNumberSlot (.type "int") op.info.2 = pure true
  ex : ∃ (id : String) (B : Builtin), NoInt B ∧ Slot "int" (PySem.dunder op.info.2) id ∧ entryFor table id = some B ∧ ∀ a b : Value, argsOk id ⟨[a, b], []⟩
theorem int_add : IntOp .Add := ⟨PySem.F.fills_int_add, "int.__add__", _, noInt_bin _ _, PySem.F.slot_int_add, PySem.F.entry_int_add, PySem.F.args_int_add_2⟩
theorem int_sub : IntOp .Sub := ⟨PySem.F.fills_int_sub, "int.__sub__", _, noInt_bin _ _, PySem.F.slot_int_sub, PySem.F.entry_int_sub, PySem.F.args_int_sub_2⟩
theorem int_mul : IntOp .Mult := ⟨PySem.F.fills_int_mul, "int.__mul__", _, noInt_bin _ _, PySem.F.slot_int_mul, PySem.F.entry_int_mul, PySem.F.args_int_mul_2⟩
theorem int_floordiv : IntOp .FloorDiv := ⟨PySem.F.fills_int_floordiv, "int.__floordiv__", _, noInt_fdiv, PySem.F.slot_int_floordiv, PySem.F.entry_int_floordiv, PySem.F.args_int_floordiv_2⟩
theorem dd_floordiv : PySem.dunder Operator.FloorDiv.info.2 = ("__floordiv__" : Str) := by decide +kernel
/-- own op own, own op int; int op own -/
structure MixAt (X : Cx) (op : Operator) (E : L2.St → XK) (C : Addr) (sp spr : Sp) : Prop where
  fwd : ∀ (pins : List (Addr × Obj)) (s : Shared) (σ : L2.St) (H : Hp) (a dx : Addr) (fs : List (Str × V)) (y : V) (u : Value) (Q : VK), Inv X pins σ H s → H a = some (.ins C dx fs) → RelV y u → ((∃ b dy gs, y = .ref b ∧ H b = some (.ins C dy gs)) ∨ ∃ n, y = .int n) → sp [.ref a, y] H Q (E σ) →
    wpAny (model X.prog X.w) X.A (binaryOp1 op.info.2 (.ref a) u) (fun r s' => ∃ v, r = some v ∧ EP X pins σ Q v s') X.xe s
  bwd : ∀ (pins : List (Addr × Obj)) (s : Shared) (σ : L2.St) (H : Hp) (b dy : Addr) (gs : List (Str × V)) (n : Int) (tk : Tok) (Q : VK), Inv X pins σ H s → H b = some (.ins C dy gs) → spr [.ref b, .int n] H Q (E σ) →
    wpAny (model X.prog X.w) X.A (binaryOp1 op.info.2 (.int n tk) (.ref b)) (fun r s' => ∃ v, r = some v ∧ EP X pins σ Q v s') X.xe s
  ni : ∃ cd, PySem.W.clsIn X.K C = some cd ∧ ∀ c ∈ cd.mro, PySem.W.findIn X.K c (dunderI op.info.2) = some none
theorem mix_of {X : Cx} {CX CX' : CXT} {k k' : Nat} {op : Operator} {E : L2.St → XK} {C f g : Addr} {sp spr : Sp} (i : IntOp op) (o : MixOp X.K C op f g) (F : FnR X.prog X.w X.K X.mg X.base CX k f sp) (G : FnR X.prog X.w X.K X.mg X.base CX' k' g spr) (hr : Room k X.A) (hr' : Room k' X.A) (hx : ∀ σ, PassesAt CX X σ (E σ)) (hx' : ∀ σ, PassesAt CX' X σ (E σ)) : MixAt X op E C sp spr := by
  refine ⟨?_, ?_, o.ni⟩
  · intro pins s σ H a dx fs y u Q I ha ry hy h
    obtain ⟨mA, J, _⟩ := ins_get I.hok ha
    obtain ⟨od, J, _⟩ := J.look
    obtain ⟨m, hF⟩ := I.fr
    have go := wpAny_mono (run_RS F hr (hx σ) I (show Vals [V.ref a, y] [Value.ref a, u] from .cons rfl (.cons ry .nil)) h) (fun _ _ z => back_of z) fun _ _ z => z
    rcases hy with ⟨b, dy, gs, rfl, hb⟩ | ⟨n, rfl⟩
    · cases ry
      obtain ⟨mB, J', _⟩ := ins_get I.hok hb
      obtain ⟨od', J', _⟩ := J'.look
      exact bin1C hF I.ok.mod.kin J J'.type o.sf o.at_ o.fn go
    · obtain ⟨tk, rfl⟩ := ry
      obtain ⟨fo, h1⟩ := o.i1
      obtain ⟨ro, h2⟩ := o.i2
      exact bin1T (T := "int") hF I.ok.mod.kin J rfl o.sf o.at_ o.fn o.rat (.inr ⟨g, rfl⟩) h1 h2 o.s1 go
  · intro pins s σ H b dy gs n tk Q I hb h
    obtain ⟨mB, J, _⟩ := ins_get I.hok hb
    obtain ⟨od, J, _⟩ := J.look
    obtain ⟨m, hF⟩ := I.fr
    obtain ⟨id, B, hB, slot, entry, args⟩ := i.ex
    exact rbin1 hB hF I.ok.mod.kin J rfl o.sf o.at_ o.rat o.rfn o.s2 i.fills slot entry (args _ _) (wpAny_mono (run_RS G hr' (hx' σ) I (show Vals [V.ref b, V.int n] [Value.ref b, Value.int n tk] from .cons rfl (.cons ⟨tk, rfl⟩ .nil)) h) (fun _ _ z => back_of z) fun _ _ z => z)
inductive Mixes (X : Cx) (op : Operator) (E : L2.St → XK) : List (Addr × Sp × Sp) → Prop
  | nil : Mixes X op E []
  | cons {C : Addr} {sp spr : Sp} {l : List (Addr × Sp × Sp)} : MixAt X op E C sp spr → Mixes X op E l → Mixes X op E ((C, sp, spr) :: l)
theorem Mixes.at {X : Cx} {op : Operator} {E : L2.St → XK} {l : List (Addr × Sp × Sp)} (h : Mixes X op E l) : ∀ {i : Nat} {C : Addr} {sp spr : Sp}, l[i]? = some (C, sp, spr) → MixAt X op E C sp spr := by
  induction h with
  | nil => intro i C sp spr e; cases e
  | cons h _ ih =>
    intro i C sp spr e
    cases i with
    | zero => cases e; exact h
    | succ i => exact ih (by simpa using e)
def rMix (l : List (Addr × Sp × Sp)) (E : L2.St → XK) (base : R2) : R2S := fun σ x y H Q => base x y H Q ∨ ∃ (i : Nat) (C : Addr) (sp spr : Sp), l[i]? = some (C, sp, spr) ∧
  ((∃ a dx fs, x = .ref a ∧ H a = some (.ins C dx fs) ∧ ((∃ b dy gs, y = .ref b ∧ H b = some (.ins C dy gs)) ∨ ∃ n, y = .int n) ∧ sp [.ref a, y] H Q (E σ)) ∨
   ∃ n b dy gs, x = .int n ∧ y = .ref b ∧ H b = some (.ins C dy gs) ∧ spr [.ref b, .int n] H Q (E σ))
theorem op_mix {X : Cx} {op : Operator} {E : L2.St → XK} {l : List (Addr × Sp × Sp)} {base : R2} (h : Mixes X op E l) (hb : OpR X (binaryOp op) base) : OpS X (binaryOp op) (rMix l E base) := by
  intro pins s σ H x y v u Q I rx ry q
  rcases q with q | ⟨i, C, sp, spr, hl, ⟨a, dx, fs, rfl, ha, hy, q⟩ | ⟨n, b, dy, gs, rfl, rfl, hbb, q⟩⟩
  · exact hb pins s σ H x y v u Q I rx ry q
  · cases rx
    exact bin_of1 ((h.at hl).fwd pins s σ H a dx fs y u Q I ha ry hy q)
  · obtain ⟨tk, rfl⟩ := rx
    cases ry
    exact bin_of1 ((h.at hl).bwd pins s σ H b dy gs n tk Q I hbb q)
/-- name op= e, the name's value an own object -/
def rAug (l : List (Addr × Sp × Sp)) (E : L2.St → XK) (base : R2) : R2S := fun σ x y H Q => base x y H Q ∨ ∃ (i : Nat) (C : Addr) (sp spr : Sp) (a dx : Addr) (fs : List (Str × V)), l[i]? = some (C, sp, spr) ∧ x = .ref a ∧ H a = some (.ins C dx fs) ∧ ((∃ b dy gs, y = .ref b ∧ H b = some (.ins C dy gs)) ∨ ∃ n, y = .int n) ∧ sp [.ref a, y] H Q (E σ)
theorem iop_mix {X : Cx} {op : Operator} {E : L2.St → XK} {l : List (Addr × Sp × Sp)} {base : R2} (h : Mixes X op E l) (hb : OpR X (inplaceOp op) base) : OpS X (inplaceOp op) (rAug l E base) := by
  intro pins s σ H x y v u Q I rx ry q
  rcases q with q | ⟨i, C, sp, spr, a, dx, fs, hl, rfl, ha, hy, q⟩
  · exact hb pins s σ H x y v u Q I rx ry q
  · cases rx
    obtain ⟨mA, J, _⟩ := ins_get I.hok ha
    obtain ⟨od, J, _⟩ := J.look
    obtain ⟨cd, hc, hno⟩ := (h.at hl).ni
    exact in_of1 I.kIn J hc hno ((h.at hl).fwd pins s σ H a dx fs y u Q I ha ry hy q)
def tAugO (i : Nat) (te : TE) (r : R2S) : TS := fun D σ H => ∃ x, σ[i]? = some (some x) ∧ te σ H fun y H1 => r σ x y H1 fun z H2 => D.nx (σ.set i (some z)) H2
theorem ps_augO {X : Cx} {pos : Pos} {i : Nat} {x : Str} {e : Expr} {te : TE} {op : Operator} {r : R2S} {pos' : Pos} (hN : X.N.Nodup) (hi : X.N[i]? = some x) (hx : Loc X.env.scope x) (he : PE X e te) (ho : OpS X (inplaceOp op) r) (hf : X.fn x = true ∨ X.env.scope.names.lookup x = some .local := by first | exact .inl rfl | exact .inr rfl | assumption) :
    PS X (.AugAssign (.Name x pos') op e pos) (tAugO i te r) := by
  refine ⟨fun pins s σ H D I h => ?_⟩
  obtain ⟨v, e1, h⟩ := h
  obtain ⟨m, hn, hl⟩ := I.loc
  have vis : Vis X.env.scope x := hx.elim .inl fun k => .inr (.inl k)
  obtain ⟨u, rel, l⟩ := hl i x v hi e1 vis
  have go : wpAny (model X.prog X.w) X.A (eval e X.env) (fun w s₂ => wpAny (model X.prog X.w) X.A (inplaceOp op u w) (fun r s₃ => wpAny (model X.prog X.w) X.A (storeName X.env x r) (fun _ => SP X pins D .next) X.xe s₃) X.xe s₂) X.xe s :=
    thn (he.run pins s σ H _ I h) fun w s1 ⟨y, H1, I1, r1, q1⟩ => thn (ho pins s1 σ H1 v y u w _ I1 rel r1 q1) fun z s2 ⟨zv, H2, I2, r2, q2⟩ => store_ok I2 hN hi hx r2 (fun s3 I3 => ⟨_, H2, I3, q2⟩) hf
  refine wpAny_AugAssign_Name ?_
  rcases l with ⟨hk, hm⟩ | ⟨hk, c, hc, hcell⟩
  · exact wpAny_loadName_local I.ok.kind hk hn hm go
  · rcases hk with hk | hk
    · exact wpAny_loadName_cell I.ok.kind hk hc hcell go
    · have e2 : X.env.scope.names.lookup x = some .free := hk
      rcases hx with k | k <;> (rw [k] at e2; cases e2)
end Cl
namespace Hk
open PySem PySem.Spec PySem.W PyProof.Rows L2 He
def mixB (K : Frag) (C : Addr) (m r i : PySem.Str) : Bool := ownB K C m && (eqO (findIn K (.ref C) r) (some (some (.ref (ma K C r)))) && (isFn K (.ref (ma K C r)) && ((findIn K (.type "int") m).isSome && ((findIn K (.type "int") r).isSome && (decide (subIn K (.type "int") (.ref C) = some false) && (decide (subIn K (.ref C) (.type "int") = some false) && (match clsIn K C with
  | some cd => cd.mro.all fun c => eqO (findIn K c i) (some none)
  | none => false)))))))
theorem mixB_ok {K : Frag} {C : Addr} {m r i : PySem.Str} {op : Operator} (h : mixB K C m r i = true) (e1 : PySem.dunder op.info.2 = m) (e2 : dunderR op.info.2 = r) (e3 : dunderI op.info.2 = i) : Cl.MixOp K C op (ma K C m) (ma K C r) := by
  subst e1 e2 e3
  unfold mixB at h
  obtain ⟨h1, h⟩ := ba h
  obtain ⟨h2, h⟩ := ba h
  obtain ⟨h3, h⟩ := ba h
  obtain ⟨h4, h⟩ := ba h
  obtain ⟨h5, h⟩ := ba h
  obtain ⟨h6, h⟩ := ba h
  obtain ⟨h7, h8⟩ := ba h
  have o := ownB_ok h1
  refine ⟨o.at_, o.fn, o.sf, eqO_ok h2, h3, Option.isSome_iff_exists.mp h4, Option.isSome_iff_exists.mp h5, of_decide_eq_true h6, of_decide_eq_true h7, ?_⟩
  split at h8
  · rename_i cd e
    exact ⟨cd, e, fun c hc => eqO_ok (List.all_eq_true.mp h8 c hc)⟩
  · cases h8
theorem rd_add : dunderR Operator.Add.info.2 = ("__radd__" : PySem.Str) := by decide +kernel
theorem rd_sub : dunderR Operator.Sub.info.2 = ("__rsub__" : PySem.Str) := by decide +kernel
theorem rd_mul : dunderR Operator.Mult.info.2 = ("__rmul__" : PySem.Str) := by decide +kernel
theorem rd_floordiv : dunderR Operator.FloorDiv.info.2 = ("__rfloordiv__" : PySem.Str) := by decide +kernel
theorem di_floordiv : dunderI Operator.FloorDiv.info.2 = ("__ifloordiv__" : PySem.Str) := by decide +kernel
theorem di_add : dunderI Operator.Add.info.2 = ("__iadd__" : PySem.Str) := by decide +kernel
theorem di_sub : dunderI Operator.Sub.info.2 = ("__isub__" : PySem.Str) := by decide +kernel
theorem di_mul : dunderI Operator.Mult.info.2 = ("__imul__" : PySem.Str) := by decide +kernel
end Hk
namespace Px
open PySem PySem.Spec PyProof.Rows L2
theorem s_augO {i : Nat} {te : TE} {r : Cl.R2S} {D : Ends} {σ : L2.St} {H : Hp} {v : V} (e : σ[i]? = some (some v)) (h : te σ H fun y H1 => r σ v y H1 fun z H2 => D.nx (σ.set i (some z)) H2) : Cl.tAugO i te r D σ H := ⟨v, e, h⟩
end Px
/-! comparisons of an own object and any value, on either side; -o, abs(o), bool(o) -/
namespace Cl
open PySem PySem.Spec PySem.Calls PySem.W PyProof.Rows L2 Px
section
variable {prog : Program} {w : World} {M : Model} {A : Around} {E : Value → Shared → Prop} {s : Shared} {K : PySem.W.Frag} {y C L f g : Addr} {h₀ : Heap} {m : Str → Option Value} {oy : Obj} {od : Option Obj}
/-- a value's comparison says NotImplemented to an own object -/
def NoCmp (T : String) (op : CmpOp) (v : Value) : Prop := ∀ (prog : Program) (w : World) (A : Around) (E : Value → Shared → Prop) (s : Shared) (y : Addr) (oy : Obj) (Q : Option Value → Shared → Prop), s.heap.get? y = some oy → oy.data = .plain → Q none s → wpAny (model prog w) A (tryCompare v (cmpInfo op).2.1 (.ref y)) Q E s
theorem noCmp_int {op : CmpOp} {id : String} {B : Builtin} {i : Int} {tk : Tok} (hB : NoInt B) (slot : Slot "int" (cmpInfo op).2.1 id) (entry : entryFor table id = some B) (args : ∀ a b : Value, argsOk id ⟨[a, b], []⟩) : NoCmp "int" op (.int i tk) := by
  intro prog w A E s y oy Q e hd h
  unfold tryCompare
  refine wpAny_bind (wpAny_callSpecialIfBound?_slot (typeIs_int s i tk) slot (wpAny_call_entry slot (typeIs_int s i tk) entry (hB _ _ _ _ _ _ _ _ (fun v s' => wpAny (model prog w) A (match some v with | some .notImplemented | none => pure none | some v => pure (some v)) Q E s') e hd ?_) (args _ _)))
  exact wpAny_pure h
theorem str_ref {m : String} {fn : List Nat → List Nat → Bool} {z : Str} {tk : Tok} {Q : Value → Shared → Prop} (e : s.heap.get? y = some oy) (hd : oy.data = .plain) (h : Q .notImplemented s) :
    wpAny M A (Builtin.Str.strCompare m fn ⟨[.str z tk, .ref y], []⟩) (fun fin s' => ∃ v, fin = .done (.ret v) ∧ Q v s') E s := by
  unfold Builtin.Str.strCompare
  refine wpAny_bind (wpAny_pure ?_)
  refine wpAny_bind ?_
  show wpAny M A (asStr? (.ref y)) _ E s
  unfold asStr?
  refine wpAny_bind (wpAny_load e ?_)
  simp only [hd]
  refine wpAny_pure ?_
  dsimp only
  refine wpAny_bind (wpAny_rule ?_)
  exact wpAny_pure ⟨_, rfl, h⟩
theorem noCmp_streq {z : Str} {tk : Tok} : NoCmp "str" .Eq (.str z tk) := by
  intro prog w A E s y oy Q e hd h
  unfold tryCompare
  refine wpAny_bind (wpAny_callSpecialIfBound?_slot (typeIs_str s z tk) PySem.F.slot_str_eq (wpAny_call_entry PySem.F.slot_str_eq (typeIs_str s z tk) PySem.F.entry_str_eq (str_ref (Q := fun v s' => wpAny (model prog w) A (match some v with | some .notImplemented | none => pure none | some v => pure (some v)) Q E s') e hd ?_) (PySem.F.args_str_eq_2 _ _)))
  exact wpAny_pure h
theorem rcmp_K {op : CmpOp} {T : String} {v : Value} {Q : Value → Shared → Prop} (hu : A.units < cLine) (F : Fr h₀ L s.heap m) (X₀ : K.In h₀) (I : InstAt s.heap y oy C od) (hd : oy.data = .plain) (hT : typeOf v = pure (.type T)) (h1 : oneThing? op v (.ref y) = none) (hsub : subIn K (.ref C) (.type T) = some false)
    (hno : NoCmp T op v) (hr : findIn K (.ref C) (cmpInfo op).2.2 = some (some (.ref g))) (hg : isFn K (.ref g) = true)
    (h : wpAny (model prog w) A (call (.ref g) [.ref y, v]) (PySem.W.CmpBack Q) E s) : wpAny (model prog w) A (richCompare op v (.ref y)) Q E s := by
  have X := X₀.keeps F.keep
  have one : wpAny (model prog w) A (tryCompare (.ref y) (cmpInfo op).2.2 v) (fun r s' => ∃ v, r = some v ∧ Q v s') E s := by
    unfold tryCompare
    refine wpAny_bind (ifBound_K X I hr hg (wpAny_mono h (fun v s' hv => ?_) fun _ _ e => e))
    cases v <;> first | exact hv.elim | exact wpAny_pure ⟨_, rfl, hv⟩
  have hne : (Value.type T != Value.ref C) = true := by
    simp only [bne_iff_ne, ne_eq]
    intro q; cases q
  unfold richCompare
  simp only [h1]
  refine wpAny_holding (wpAny_bind (wpAny_cRoomFor hu ?_))
  refine wpAny_bind ((Looks.of_pure hT).here (wpAny_bind (I.type.here ?_)))
  rw [if_pos hne]
  refine wpAny_bind ((looks_subIn X hsub).here ?_)
  simp only [Bool.false_eq_true, if_false]
  refine wpAny_bind (hno _ _ _ _ _ _ _ _ I.at_ hd ?_)
  dsimp only
  simp only [Bool.not_false, if_true]
  refine wpAny_bind (wpAny_mono one (fun r s' z => ?_) fun _ _ e => e)
  obtain ⟨v, rfl, hq⟩ := z
  exact wpAny_pure hq
/-- abs(o) -/
theorem abs_own {Q : Value → Shared → Prop} (X : K.In s.heap) (I : InstAt s.heap y oy C od) (hs : findIn K (.ref C) "__abs__" = some (some (.ref f))) (hf : isFn K (.ref f) = true) (h : wpAny (model prog w) A.in1 (call (.ref f) [.ref y]) Q E s) :
    wpAny (model prog w) A (call (.builtin "abs") [.ref y]) Q E s := by
  refine Calls.call_function_entry (by decide +kernel) (by decide +kernel) entry_abs (args_abs _) ?_
  unfold Builtin.«abs»
  refine wpAny_bind (m := oneArg "abs" _) (wpAny_of_eq (a := Value.ref y) (by first | rfl | kernel_rfl!) ?_)
  refine wpAny_bind (m := callSpecial? (.ref y) (Str.ofString "__abs__")) (special_fn X I hs (beq_iff_eq.mp hf) (wpAny_mono h (fun r s' hr => ?_) fun _ _ y => y))
  exact wpAny_pure ⟨_, rfl, hr⟩
/-- bool(o) -/
theorem bool_own {Q : Value → Shared → Prop} (X : K.In s.heap) (I : InstAt s.heap y oy C od) (hs : findIn K (.ref C) "__bool__" = some (some (.ref f))) (hf : isFn K (.ref f) = true) (h : wpAny (model prog w) A.in1.in1 (call (.ref f) [.ref y]) (fun r s' => ∃ b, r = .bool b ∧ Q (.bool b) s') E s) :
    wpAny (model prog w) A (call (.type "bool") [.ref y]) Q E s := by
  refine callType_codes (T := "bool") (Bi := Builtin.«object.__init__») (Q₁ := fun r s₁ => ∃ b, r = .bool b ∧ Q r s₁) PySem.F.called_bool (PySem.F.typeCall_bool_1 _) PySem.F.entry_object_init ?_ ?_
  · refine codeAny_of_tree ?_
    show wpAny _ A.in1.in1 (do checkBuiltinCall "bool.__new__" ⟨[.type "bool", .ref y], []⟩; again (.builtin "bool.__new__" ⟨[.type "bool", .ref y], []⟩)) _ _ s
    refine wpAny_bind (wpAny_of_eq (PySem.F.newCall_bool_1 _) (wpAny_pure ⟨plainId_quiet (by decide +kernel) _, codeAny_builtin PySem.F.entry_bool_new ?_⟩))
    rw [Around.under_plainId (by decide +kernel) _]
    unfold Builtin.«bool.__new__»
    refine wpAny_bind (m := isType _) (wpAny_of_eq (a := true) rfl ?_)
    simp only [Bool.not_true, Bool.false_eq_true, if_false]
    refine wpAny_bind (wpAny_of_eq PySem.F.conv_sub_bool ?_)
    simp only [Bool.not_true, Bool.false_eq_true, if_false]
    refine wpAny_bind (m := someArgs "bool" 0 1 _) (wpAny_of_eq (a := [Value.ref y]) (by first | rfl | kernel_rfl!) ?_)
    refine wpAny_bind (m := truthy (.ref y)) ?_
    unfold truthy
    refine wpAny_bind (m := callSpecial? (.ref y) (Str.ofString "__bool__")) (special_fn X I hs (beq_iff_eq.mp hf) (wpAny_mono h (fun r s' hr => ?_) fun _ _ y => y))
    obtain ⟨b, rfl, hq⟩ := hr
    exact wpAny_pure (wpAny_pure ⟨b, rfl, hq⟩)
  · rintro obj s₁ ⟨b, rfl, hq⟩
    exact ⟨rfl, PySem.F.args_object_init_2 _ _, object_init_meets PySem.F.called_bool.init.lookup PySem.F.called_bool.made (by decide) prog w A.in1 _ s₁ ⟨rfl, rfl, hq⟩⟩
end
end Cl
namespace Cl
open PySem PySem.Spec PySem.Calls PyProof.Rows L2 Px
structure CmpK (K : PySem.W.Frag) (C : Addr) (op : CmpOp) (f g : Addr) : Prop where
  at_ : PySem.W.findIn K (.ref C) (cmpInfo op).2.1 = some (some (.ref f))
  fn : PySem.W.isFn K (.ref f) = true
  rat : PySem.W.findIn K (.ref C) (cmpInfo op).2.2 = some (some (.ref g))
  rfn : PySem.W.isFn K (.ref g) = true
  sub : ∀ T ∈ (["int", "str", "tuple", "list"] : List String), PySem.W.subIn K (.type T) (.ref C) = some false ∧ PySem.W.subIn K (.ref C) (.type T) = some false
/-- what may stand beside an own object of the class C -/
inductive Beside (H : Hp) (C : Addr) : V → Prop
  | own {b dy : Addr} {gs : List (Str × V)} : H b = some (.ins C dy gs) → Beside H C (.ref b)
  | int (n : Int) : Beside H C (.int n)
  | str (z : Str) : Beside H C (.str z)
  | tup {b : Addr} {xs : List V} : H b = some (.tup xs) → Beside H C (.ref b)
  | lst {b : Addr} {xs : List V} : H b = some (.lst xs) → Beside H C (.ref b)
/-- what may stand left of it -/
inductive LeftOk : CmpOp → V → Prop
  | int {op : CmpOp} (n : Int) : LeftOk op (.int n)
  | str (z : Str) : LeftOk .Eq (.str z)
structure IntCmp (op : CmpOp) : Prop where
  ex : ∃ (id : String) (B : Builtin), NoInt B ∧ Slot "int" (cmpInfo op).2.1 id ∧ entryFor table id = some B ∧ ∀ a b : Value, argsOk id ⟨[a, b], []⟩
  hop : ∀ x y, compareOp op x y = richCompare op x y
theorem int_eq : IntCmp .Eq := ⟨⟨"int.__eq__", _, noInt_bin _ _, PySem.F.slot_int_eq, PySem.F.entry_int_eq, PySem.F.args_int_eq_2⟩, fun _ _ => rfl⟩
theorem int_lt : IntCmp .Lt := ⟨⟨"int.__lt__", _, noInt_bin _ _, PySem.F.slot_int_lt, PySem.F.entry_int_lt, PySem.F.args_int_lt_2⟩, fun _ _ => rfl⟩
theorem int_le : IntCmp .LtE := ⟨⟨"int.__le__", _, noInt_bin _ _, PySem.F.slot_int_le, PySem.F.entry_int_le, PySem.F.args_int_le_2⟩, fun _ _ => rfl⟩
theorem int_gt : IntCmp .Gt := ⟨⟨"int.__gt__", _, noInt_bin _ _, PySem.F.slot_int_gt, PySem.F.entry_int_gt, PySem.F.args_int_gt_2⟩, fun _ _ => rfl⟩
theorem int_ge : IntCmp .GtE := ⟨⟨"int.__ge__", _, noInt_bin _ _, PySem.F.slot_int_ge, PySem.F.entry_int_ge, PySem.F.args_int_ge_2⟩, fun _ _ => rfl⟩
structure CmpAt (X : Cx) (op : CmpOp) (E : L2.St → XK) (C : Addr) (sp spr : Sp) : Prop where
  fwd : ∀ (pins : List (Addr × Obj)) (s : Shared) (σ : L2.St) (H : Hp) (a dx : Addr) (fs : List (Str × V)) (y : V) (u : Value) (Q : VK), Inv X pins σ H s → H a = some (.ins C dx fs) → RelV y u → Beside H C y → sp [.ref a, y] H Q (E σ) →
    wpAny (model X.prog X.w) X.A (compareOp op (.ref a) u) (EP X pins σ Q) X.xe s
  bwd : ∀ (pins : List (Addr × Obj)) (s : Shared) (σ : L2.St) (H : Hp) (b dy : Addr) (gs : List (Str × V)) (x : V) (u : Value) (Q : VK), Inv X pins σ H s → H b = some (.ins C dy gs) → RelV x u → LeftOk op x → spr [.ref b, x] H Q (E σ) →
    wpAny (model X.prog X.w) X.A (compareOp op u (.ref b)) (EP X pins σ Q) X.xe s
theorem cmp_of {X : Cx} {CX CX' : CXT} {k k' : Nat} {op : CmpOp} {E : L2.St → XK} {C f g : Addr} {sp spr : Sp} (i : IntCmp op) (o : CmpK X.K C op f g) (F : FnR X.prog X.w X.K X.mg X.base CX k f sp) (G : FnR X.prog X.w X.K X.mg X.base CX' k' g spr) (hr : Room k X.A) (hr' : Room k' X.A) (hx : ∀ σ, PassesAt CX X σ (E σ)) (hx' : ∀ σ, PassesAt CX' X σ (E σ)) : CmpAt X op E C sp spr := by
  refine ⟨?_, ?_⟩
  · intro pins s σ H a dx fs y u Q I ha ry hy h
    obtain ⟨mA, J, _⟩ := ins_get I.hok ha
    obtain ⟨od, J, _⟩ := J.look
    obtain ⟨m, hF⟩ := I.fr
    have go := wpAny_mono (run_RS F hr (hx σ) I (show Vals [V.ref a, y] [Value.ref a, u] from .cons rfl (.cons ry .nil)) h) (fun _ _ z => back_of z) fun _ _ z => z
    rw [i.hop]
    have key : ∀ T ∈ (["int", "str", "tuple", "list"] : List String), PySem.W.Looks (model X.prog X.w) s.heap (typeOf u) (.type T) → wpAny (model X.prog X.w) X.A (richCompare op (.ref a) u) (EP X pins σ Q) X.xe s := fun T hT hL =>
      PySem.W.cmp_K (op := op) (tb := .type T) hr.units0 hF I.ok.mod.kin J hL (by simp [PySem.W.notFirst, (o.sub T hT).1]) o.at_ o.fn go
    cases hy with
    | own hb =>
      cases ry
      obtain ⟨mB, J', _⟩ := ins_get I.hok hb
      obtain ⟨od', J', _⟩ := J'.look
      exact PySem.W.cmp_K (op := op) (tb := .ref C) hr.units0 hF I.ok.mod.kin J J'.type (by simp [PySem.W.notFirst]) o.at_ o.fn go
    | int n =>
      obtain ⟨tk, rfl⟩ := ry
      exact key "int" (by simp) (PySem.W.Looks.of_pure rfl)
    | str z =>
      obtain ⟨tk, rfl⟩ := ry
      exact key "str" (by simp) (PySem.W.Looks.of_pure rfl)
    | tup hb =>
      obtain ⟨P, kx, hp, _⟩ := kit_of I ry (.base (.tup hb))
      exact key "tuple" (by simp) (kx.ty _ _ I.kIn hp)
    | lst hb =>
      obtain ⟨P, kx, hp, _⟩ := kit_of I ry (.base (.lst hb))
      exact key "list" (by simp) (kx.ty _ _ I.kIn hp)
  · intro pins s σ H b dy gs x u Q I hb rx hl h
    obtain ⟨mB, J, _⟩ := ins_get I.hok hb
    obtain ⟨od, J, _⟩ := J.look
    obtain ⟨m, hF⟩ := I.fr
    have go := wpAny_mono (run_RS G hr' (hx' σ) I (show Vals [V.ref b, x] [Value.ref b, u] from .cons rfl (.cons rx .nil)) h) (fun _ _ z => back_of z) fun _ _ z => z
    rw [i.hop]
    cases hl with
    | int n =>
      obtain ⟨tk, rfl⟩ := rx
      obtain ⟨id, B, hB, slot, entry, args⟩ := i.ex
      exact rcmp_K (T := "int") hr.units0 hF I.ok.mod.kin J rfl rfl (by cases op <;> rfl) (o.sub "int" (by simp)).2 (noCmp_int hB slot entry args) o.rat o.rfn go
    | str z =>
      obtain ⟨tk, rfl⟩ := rx
      exact rcmp_K (T := "str") hr.units0 hF I.ok.mod.kin J rfl rfl rfl (o.sub "str" (by simp)).2 noCmp_streq o.rat o.rfn go
inductive CmpAts (X : Cx) (op : CmpOp) (E : L2.St → XK) : List (Addr × Sp × Sp) → Prop
  | nil : CmpAts X op E []
  | cons {C : Addr} {sp spr : Sp} {l : List (Addr × Sp × Sp)} : CmpAt X op E C sp spr → CmpAts X op E l → CmpAts X op E ((C, sp, spr) :: l)
theorem CmpAts.at {X : Cx} {op : CmpOp} {E : L2.St → XK} {l : List (Addr × Sp × Sp)} (h : CmpAts X op E l) : ∀ {i : Nat} {C : Addr} {sp spr : Sp}, l[i]? = some (C, sp, spr) → CmpAt X op E C sp spr := by
  induction h with
  | nil => intro i C sp spr e; cases e
  | cons h _ ih =>
    intro i C sp spr e
    cases i with
    | zero => cases e; exact h
    | succ i => exact ih (by simpa using e)
def rCmp (op : CmpOp) (l : List (Addr × Sp × Sp)) (E : L2.St → XK) (base : R2) : R2S := fun σ x y H Q => base x y H Q ∨ ∃ (i : Nat) (C : Addr) (sp spr : Sp), l[i]? = some (C, sp, spr) ∧
  ((∃ a dx fs, x = .ref a ∧ H a = some (.ins C dx fs) ∧ Beside H C y ∧ sp [.ref a, y] H Q (E σ)) ∨
   ∃ b dy gs, LeftOk op x ∧ y = .ref b ∧ H b = some (.ins C dy gs) ∧ spr [.ref b, x] H Q (E σ))
theorem op_cmpX {X : Cx} {op : CmpOp} {E : L2.St → XK} {l : List (Addr × Sp × Sp)} {base : R2} (h : CmpAts X op E l) (hb : OpR X (compareOp op) base) : OpS X (compareOp op) (rCmp op l E base) := by
  intro pins s σ H x y v u Q I rx ry q
  rcases q with q | ⟨i, C, sp, spr, hl, ⟨a, dx, fs, rfl, ha, hy, q⟩ | ⟨b, dy, gs, hx, rfl, hbb, q⟩⟩
  · exact hb pins s σ H x y v u Q I rx ry q
  · cases rx
    exact (h.at hl).fwd pins s σ H a dx fs y u Q I ha ry hy q
  · cases ry
    exact (h.at hl).bwd pins s σ H b dy gs x v Q I hbb rx hx q
/-- -o -/
def rNegO (l : List (Addr × Sp)) : V → Hp → VK → Prop := fun x H Q => (rU fun i => .int (-i)) x H Q ∨ ∃ (i : Nat) (C : Addr) (sp : Sp) (a dx : Addr) (fs : List (Str × V)), l[i]? = some (C, sp) ∧ x = .ref a ∧ H a = some (.ins C dx fs) ∧ sp [.ref a] H Q E0
section
variable {X : Cx} {l : List (Addr × Sp)}
theorem un_negO (h : OwnMs X "__neg__" (fun _ => E0) l) : UnR X (unaryOp .USub) (rNegO l) := by
  intro pins s σ H x v Q I rx q
  rcases q with q | ⟨i, C, sp, a, dx, fs, hl, rfl, hA, q⟩
  · exact un_neg pins s σ H x v Q I rx q
  · cases rx
    have M := h.at hl
    obtain ⟨CX, k, f, o, hk, hf, F, hr, hx⟩ := M.ex
    obtain ⟨mA, J, _⟩ := ins_get I.hok hA
    obtain ⟨od, J, _⟩ := J.look
    obtain ⟨m, hF⟩ := I.fr
    exact PySem.W.ksp_neg hF I.ok.mod.kin J o.at_ o.fn (run_RS (E := fun _ => E0) F (hr.mono (by omega)) (hx σ) I (show Vals [V.ref a] [Value.ref a] from .cons rfl .nil) q)
/-- abs(o) -/
def rAbsO (l : List (Addr × Sp)) : List V → Hp → VK → Prop := fun vs H Q => rAbsP vs H Q ∨ ∃ (i : Nat) (C : Addr) (sp : Sp) (a dx : Addr) (fs : List (Str × V)), l[i]? = some (C, sp) ∧ vs = [.ref a] ∧ H a = some (.ins C dx fs) ∧ sp [.ref a] H Q E0
theorem call_absO (h : OwnMs X "__abs__" (fun _ => E0) l) : CallR X (.builtin "abs") (rAbsO l) := by
  intro pins s σ H vs us Q I r q
  rcases q with q | ⟨i, C, sp, a, dx, fs, hl, rfl, hA, q⟩
  · exact call_absP pins s σ H vs us Q I r q
  · obtain ⟨u, rfl, ru⟩ := vals1 r
    cases ru
    have M := h.at hl
    obtain ⟨CX, k, f, o, hk, hf, F, hr, hx⟩ := M.ex
    obtain ⟨mA, J, _⟩ := ins_get I.hok hA
    obtain ⟨od, J, _⟩ := J.look
    exact abs_own I.kIn J o.at_ o.fn (run_RS1 (E := fun _ => E0) F (hr.mono (by omega)) (hx σ) I (show Vals [V.ref a] [Value.ref a] from .cons rfl .nil) q)
/-- bool(o) -/
def rBoolO (l : List (Addr × Sp)) : List V → Hp → VK → Prop := fun vs H Q => (match vs with | [.bl k] => Q (.bl k) H | [.int i] => Q (.bl (i != 0)) H | _ => False) ∨ ∃ (i : Nat) (C : Addr) (sp : Sp) (a dx : Addr) (fs : List (Str × V)), l[i]? = some (C, sp) ∧ vs = [.ref a] ∧ H a = some (.ins C dx fs) ∧ sp [.ref a] H (fun v H' => ∃ b, v = .bl b ∧ Q (.bl b) H') E0
theorem call_boolO (h : OwnMs X "__bool__" (fun _ => E0) l) : CallR X (.type "bool") (rBoolO l) := by
  intro pins s σ H vs us Q I r q
  rcases q with q | ⟨i, C, sp, a, dx, fs, hl, rfl, hA, q⟩
  · refine call_bool1 pins s σ H vs us Q I r ?_
    match vs, q with
    | [.bl k], q => exact .inr ⟨k, rfl, q⟩
    | [.int k], q => exact .inl ⟨k, rfl, q⟩
    | [], h => exact False.elim h
    | [.non], h => exact False.elim h
    | [.str _], h => exact False.elim h
    | [.ref _], h => exact False.elim h
    | [.byt _], h => exact False.elim h
    | [.flt _], h => exact False.elim h
    | [.ty _], h => exact False.elim h
    | x :: y :: z, h => exact False.elim (by cases x <;> exact h)
  · obtain ⟨u, rfl, ru⟩ := vals1 r
    cases ru
    have M := h.at hl
    obtain ⟨CX, k, f, o, hk, hf, F, hr, hx⟩ := M.ex
    obtain ⟨mA, J, _⟩ := ins_get I.hok hA
    obtain ⟨od, J, _⟩ := J.look
    refine bool_own I.kIn J o.at_ o.fn ?_
    refine wpAny_call (codeAny_mono (F X.A.in1.in1 X.stack s H [.ref a] [.ref a] _ E0 hr.in1.in1 I.env0.in1.in1 (.cons rfl .nil) q) fun r s' hq => ?_)
    cases r with
    | error e => exact hx σ pins H s e s' I hq
    | ok fl =>
      cases fl with
      | ret u =>
        obtain ⟨v, H', I3, rv, b, ev, q3⟩ := I.after hq
        subst ev
        cases rv
        exact ⟨b, rfl, .bl b, H', I3, rfl, q3⟩
      | _ => exact hq.elim
end
end Cl
namespace Hk
open PySem PySem.Spec PySem.W PyProof.Rows L2 He
def cmpKB (K : Frag) (C : Addr) (m r : PySem.Str) : Bool := ownB K C m && (eqO (findIn K (.ref C) r) (some (some (.ref (ma K C r)))) && (isFn K (.ref (ma K C r)) && ((["int", "str", "tuple", "list"] : List String).all fun T => decide (subIn K (.type T) (.ref C) = some false) && decide (subIn K (.ref C) (.type T) = some false))))
theorem cmpKB_ok {K : Frag} {C : Addr} {m r : PySem.Str} {op : CmpOp} (h : cmpKB K C m r = true) (e1 : (cmpInfo op).2.1 = m) (e2 : (cmpInfo op).2.2 = r) : Cl.CmpK K C op (ma K C m) (ma K C r) := by
  subst e1 e2
  unfold cmpKB at h
  obtain ⟨h1, h⟩ := ba h
  obtain ⟨h2, h⟩ := ba h
  obtain ⟨h3, h4⟩ := ba h
  have o := ownB_ok h1
  refine ⟨o.at_, o.fn, eqO_ok h2, h3, fun T hT => ?_⟩
  obtain ⟨h5, h6⟩ := ba (List.all_eq_true.mp h4 T hT)
  exact ⟨of_decide_eq_true h5, of_decide_eq_true h6⟩
theorem dr_eq : (cmpInfo CmpOp.Eq).2.2 = ("__eq__" : PySem.Str) := by decide +kernel
theorem dr_lt : (cmpInfo CmpOp.Lt).2.2 = ("__gt__" : PySem.Str) := by decide +kernel
theorem dr_le : (cmpInfo CmpOp.LtE).2.2 = ("__ge__" : PySem.Str) := by decide +kernel
theorem dr_gt : (cmpInfo CmpOp.Gt).2.2 = ("__lt__" : PySem.Str) := by decide +kernel
theorem dr_ge : (cmpInfo CmpOp.GtE).2.2 = ("__le__" : PySem.Str) := by decide +kernel
end Hk
/-! dicts with number keys: list(d.values()), walks under the lock, comprehensions with two fors -/
namespace Cl
open PySem PySem.Spec PyProof.Rows L2 Px
/-- list(e.values()) -/
def tListVals (te : TE) : TE := fun σ H Q => te σ H fun x H1 => ∃ d kvs, x = .ref d ∧ H1 d = some (.dK kvs) ∧ ∀ q, H1 q = none → Q (.ref q) (upd H1 q (.lst (kvs.map Prod.snd)))
theorem kv_vals : ∀ {kvs : List (Key × V)} {vs : List (Key × Value)}, KV kvs vs → Vals (kvs.map Prod.snd) (vs.map Prod.snd)
  | _, _, .nil => .nil
  | _, _, .cons h t => .cons h.2 (kv_vals t)
section
variable {X : Cx} {e : Expr} {te : TE} {p apos cpos pos : Pos}
theorem pe_listVals (hc : X.calm = true) (hg : Gl X "list") (hm : X.mg "list" = none) (he : PE X e te) (hbase : attributeBase e "values" X.env (eval e X.env) = eval e X.env := by rfl) (hline : (apos.endLine == cpos.line) = true := by rfl)
    (na : starEach [.Call (.Attribute e "values" apos) [] [] cpos] X.env = (false, eval (.Call (.Attribute e "values" apos) [] [] cpos) X.env) :: starEach [] X.env := by rfl) :
    PE X (.Call (.Name "list" p) [.Call (.Attribute e "values" apos) [] [] cpos] [] pos) (tListVals te) := by
  refine ⟨fun pins s σ H Q I h => Call_ (ld_blt I hg hm boot_list (PyProof.Rows.callWith_type1 (args_cons ?_ na) na))⟩
  refine wpAny_Call_method (id := "dict.values") (T := "dict") hbase rfl hline PySem.F.plainAttrs_dict PySem.F.slot_dict_values PySem.F.type_dict_values (thn (he.run pins s σ H _ I h) fun u s1 ⟨x, H1, I1, rx, d, kvs, ex, hd, q⟩ => ?_)
  subst ex
  obtain rfl : u = Value.ref d := rx
  obtain ⟨hz, lo, vs, rk, hdo⟩ := (show ObjOk X.prog X.w H1 s1.heap d (.dK kvs) from I1.hok d _ hd)
  obtain ⟨ep, hat⟩ := hdo.dictAt
  have hl : kvs.length = vs.length := Paired.length rk
  have I2 : Inv X pins σ H1 { s1 with heap := s1.heap.push { cls := .type "dict_values", data := .fields #[.ref d] } } := I1.kept (t' := s1.toks) fun b ob z => Heap.get?_push_of_some _ z
  refine ⟨hdo.typeIs, hdo.mapOf.noDict, ?_⟩
  show wpAny _ _ (callWith cpos (.builtin "dict.values") [.ref d] [] []) _ X.xe s1
  refine method_meetsIn PySem.F.slot_dict_values PySem.F.entry_dict_values rfl (PySem.evalArgs_none ⟨rfl, hdo.typeIs, PySem.F.args_dict_values_1 _, _, meets_dict_values (mixKind X.prog X.w) d lo, ⟨vs, hdo⟩, ?_⟩)
  refine args_nil ?_
  refine PySem.W.kdl_call (PySem.W.kdl_values (knd := mixKind X.prog X.w) (kvs := vs) (ep := ep) (d := d) (r := s1.heap.objs.size)) (I2.ok.hd hc) ⟨⟨_, Heap.get?_push_size _ rfl, rfl, rfl⟩, hat.push _⟩ (by rw [← hl]; exact hz) fun h' tk acc c' hk hS hacc => ?_
  refine ⟨.ref _, upd H1 _ (.lst (kvs.map Prod.snd)), I2.laid hk (Nat.le_refl _) (show ObjOk X.prog X.w _ _ _ (.lst (kvs.map Prod.snd)) from ⟨?_, acc.toList, c', ?_, ?_⟩), rfl, q _ (I2.hok.fresh (Nat.le_refl _))⟩
  · rw [List.length_map]; exact hz
  · have ev : acc.toList = vs.map Prod.snd := PySem.W.kdl_vals_eq acc.toList (by rw [Array.length_toList]; exact hacc.1) fun j v z => hacc.2 j v (by rw [← Array.getElem?_toList]; exact z)
    rw [ev]
    exact kv_vals rk
  · rw [Array.toArray_toList]; exact hS
end
end Cl
namespace Px
open PySem PySem.Spec PyProof.Rows L2
section
variable {K : PySem.W.Frag} {σ : L2.St} {H H1 : Hp} {D : Ends} {Q : VK} {te td : TE} {d : Addr} {kvs : List (Key × V)}
theorem s_listV (h : te σ H fun x H1 => ∃ d kvs, x = .ref d ∧ H1 d = some (.dK kvs) ∧ ∀ q, H1 q = none → Q (.ref q) (upd H1 q (.lst (kvs.map Prod.snd)))) : Cl.tListVals te σ H Q := h
theorem s_dget {ty : TE} (h : td σ H fun x H1 => ty σ H1 fun y H2 => ∃ a v, x = .ref a ∧ DGet H2 a y (some v) ∧ Q v H2) : tDGet td ty σ H Q := h
theorem yields_keys {od : Obj} (h : H d = some (.frz od (.dK kvs))) (i : Nat) : YieldsAt (Itk d od kvs) (kvs.map fun p => kV p.1) i H := by
  refine ⟨fun hi => ⟨⟨h, by simpa using hi⟩, fun x H' y => ?_⟩, fun hi => ⟨h, by simpa using hi⟩⟩
  obtain ⟨e, k, v, hk, rfl⟩ := y
  exact ⟨e, by rw [List.getElem?_map, hk]; rfl⟩
theorem yields_vals {od : Obj} (h : H d = some (.frz od (.dK kvs))) (i : Nat) : YieldsAt (Itd d od kvs) (kvs.map Prod.snd) i H := by
  refine ⟨fun hi => ⟨⟨h, by simpa using hi⟩, fun x H' y => ?_⟩, fun hi => ⟨h, by simpa using hi⟩⟩
  obtain ⟨e, k, hk⟩ := y
  exact ⟨e, by rw [List.getElem?_map, hk]; rfl⟩
/-- the heap while d is locked -/
@[reducible] def lk (H : Hp) (d : Addr) (od : Obj) (kvs : List (Key × V)) : Hp := upd H d (.frz od (.dK kvs))
/-- [.. for k in d]: what is walked under the lock -/
theorem s_lockK {g : TG} {tt : TT} {vs : List Nat} (hd : H d = some (.dK kvs)) (ht : ∀ od (R : VK), R (.ref d) (lk H d od kvs) → td σ (lk H d od kvs) R)
    (h : ∀ od, LcB (Itk d od kvs) g tt te vs σ (fun v H' => H' d = some (.frz od (.dK kvs)) ∧ Q v (upd H' d (.dK kvs))) (lk H d od kvs)) : tLockE (tLc (iKeys td) g tt te vs) σ H Q :=
  ⟨d, .dK kvs, hd, trivial, fun od => ht od _ ⟨d, od, rfl, .inl ⟨kvs, upd_same, h od⟩⟩⟩
theorem s_lockV {g : TG} {tt : TT} {vs : List Nat} (hd : H d = some (.dK kvs)) (ht : ∀ od (R : VK), R (.ref d) (lk H d od kvs) → td σ (lk H d od kvs) R)
    (h : ∀ od, LcB (Itd d od kvs) g tt te vs σ (fun v H' => H' d = some (.frz od (.dK kvs)) ∧ Q v (upd H' d (.dK kvs))) (lk H d od kvs)) : tLockE (tLc (iVals td) g tt te vs) σ H Q :=
  ⟨d, .dK kvs, hd, trivial, fun od => ht od _ ⟨d, od, kvs, rfl, upd_same, h od⟩⟩
/-- a for under the lock -/
theorem s_forK {g : TG} {tb : TS} (hd : H d = some (.dK kvs)) (ht : ∀ od (R : VK), R (.ref d) (lk H d od kvs) → td σ (lk H d od kvs) R)
    (h : ∀ od, ForB (Itk d od kvs) g tb ⟨fun σ' H' => H' d = some (.frz od (.dK kvs)) ∧ D.nx σ' (upd H' d (.dK kvs)), fun v H' => H' d = some (.frz od (.dK kvs)) ∧ D.rt v (upd H' d (.dK kvs)), fun σ' H' => H' d = some (.frz od (.dK kvs)) ∧ D.bk σ' (upd H' d (.dK kvs)), fun σ' H' => H' d = some (.frz od (.dK kvs)) ∧ D.ct σ' (upd H' d (.dK kvs))⟩ σ (lk H d od kvs)) : tLock (tFor (iKeys td) g tb) D σ H :=
  ⟨d, .dK kvs, hd, trivial, fun od => ht od _ ⟨d, od, rfl, .inl ⟨kvs, upd_same, h od⟩⟩⟩
theorem s_forV {g : TG} {tb : TS} (hd : H d = some (.dK kvs)) (ht : ∀ od (R : VK), R (.ref d) (lk H d od kvs) → td σ (lk H d od kvs) R)
    (h : ∀ od, ForB (Itd d od kvs) g tb ⟨fun σ' H' => H' d = some (.frz od (.dK kvs)) ∧ D.nx σ' (upd H' d (.dK kvs)), fun v H' => H' d = some (.frz od (.dK kvs)) ∧ D.rt v (upd H' d (.dK kvs)), fun σ' H' => H' d = some (.frz od (.dK kvs)) ∧ D.bk σ' (upd H' d (.dK kvs)), fun σ' H' => H' d = some (.frz od (.dK kvs)) ∧ D.ct σ' (upd H' d (.dK kvs))⟩ σ (lk H d od kvs)) : tLock (tFor (iVals td) g tb) D σ H :=
  ⟨d, .dK kvs, hd, trivial, fun od => ht od _ ⟨d, od, kvs, rfl, upd_same, h od⟩⟩
/-- the lock is off again: what grew under it is what grows without it -/
theorem lk_same {od : Obj} {H' : Hp} (hd : H d = some (.dK kvs)) (s : Same (lk H d od kvs) H') : H' d = some (.frz od (.dK kvs)) ∧ Same H (upd H' d (.dK kvs)) := by
  refine ⟨s _ _ upd_same, fun b o e => ?_⟩
  by_cases n : b = d
  · subst n
    rw [upd_same, ← hd, e]
  · rw [upd_ne n]
    exact s _ _ ((upd_ne n).trans e)
theorem lk_ne {od : Obj} {b : Addr} {o : HO} (h : H b = some o) (n : b ≠ d) : lk H d od kvs b = some o := (upd_ne n).trans h
theorem lk_new {od : Obj} {b : Addr} {H' : Hp} (hd : H d = some (.dK kvs)) (h : lk H d od kvs b = none) : H b = none ∧ b ≠ d := by
  have n : b ≠ d := fun e => by
    have h2 : upd H d (.frz od (.dK kvs)) b = none := h
    rw [e, upd_same] at h2
    cases h2
  have h2 : upd H d (.frz od (.dK kvs)) b = none := h
  rw [upd_ne n] at h2
  exact ⟨h2, n⟩
theorem dget_frz {od : Obj} {k : Key} (h : H d = some (.frz od (.dK kvs))) : DGet H d (kV k) (valV kvs k) := .inl ⟨kvs, k, .inr ⟨od, h⟩, rfl, rfl⟩
/-- [..] over two fors -/
def L2B (g : TG) (tt : TT) (wi1 : TI) (g1 : TG) (tt1 : TT) (te : TE) (vs vs1 : List Nat) (σ : L2.St) (Q : VK) : L2.It → Hp → Prop := fun J H1 => ∀ D, H1 D = none → ∃ W : Nat → Nat → Hp → Prop, (∃ m, W 0 m (upd H1 D (.lst []))) ∧ ∀ i m H, W i m H →
  (J.stop i H ∧ Q (.ref D) H) ∨ (J.go i H ∧ ∃ Nx : Hp → Prop, (∀ H', Nx H' → ∃ m', m' < m ∧ W (i + 1) m' H') ∧ ∀ x H', J.yld i H x H' → g x (wipe σ vs) H' fun σ2 H2 => wipe σ2 vs = wipe σ vs ∧ tt σ2 H2 fun b H3 =>
    if b = true then wi1 σ2 H3 fun J1 H4 => ∃ W1 : Nat → Nat → Hp → Prop, (∃ m, W1 0 m H4) ∧ ∀ j k H, W1 j k H →
      (J1.stop j H ∧ Nx H) ∨ (J1.go j H ∧ ∃ Nx1 : Hp → Prop, (∀ H', Nx1 H' → ∃ k', k' < k ∧ W1 (j + 1) k' H') ∧ ∀ x H', J1.yld j H x H' → g1 x (wipe σ2 vs1) H' fun σ3 H5 => wipe σ3 vs1 = wipe σ2 vs1 ∧ tt1 σ3 H5 fun b H6 =>
        if b = true then te σ3 H6 fun y H7 => ∃ acc, H7 D = some (.lst acc) ∧ acc.length < sizeLine ∧ Nx1 (upd H7 D (.lst (acc ++ [y]))) else Nx1 H6)
    else Nx H3)
/-- [e for x in xs for y in f x]: the heap only grows -/
theorem lc2_flat {wi1 : TI} {v1 v2 : Nat} {xs : List V} {J : L2.It} (ys : V → List V) (f : V → V) (hne : v1 ≠ v2) (hlen : (xs.flatMap ys).length ≤ 1000000) (hy : ∀ i H, Same H1 H → YieldsAt J xs i H)
    (hi : ∀ x ∈ xs, ∀ H', Same H1 H' → ∀ R : L2.It → Hp → Prop, (∀ J1, (∀ j H'', Same H1 H'' → YieldsAt J1 (ys x) j H'') → R J1 H') → wi1 ((σ.set v1 (some x)).set v2 none) H' R)
    (hf : ∀ x ∈ xs, ∀ y ∈ ys x, ∀ H', Same H1 H' → ∀ Q' : VK, (∀ H'', Same H' H'' → Q' (f y) H'') → te ((σ.set v1 (some x)).set v2 (some y)) H' Q')
    (hq : ∀ D H', H1 D = none → Same H1 H' → H' D = some (.lst ((xs.flatMap ys).map f)) → Q (.ref D) H') : L2B (gName v1) tYes wi1 (gName v2) tYes te [v1, v2] [v2] σ Q J H1 := by
  intro Dr hD
  let Pv : Nat → Hp → Prop := fun i H => Same H1 H ∧ H Dr = some (.lst (((xs.take i).flatMap ys).map f))
  refine ⟨fun i m H => m = xs.length - i ∧ i ≤ xs.length ∧ Pv i H, ⟨xs.length, by simp, Nat.zero_le _, same_new hD, by simp [upd_same]⟩, ?_⟩
  rintro i m H ⟨rfl, hil, sm, hL⟩
  have q := hy i H sm
  by_cases hlt : i < xs.length
  · refine .inr ⟨(q.1 hlt).1, Pv (i + 1), fun H' p' => ⟨xs.length - (i + 1), by omega, rfl, hlt, p'⟩, fun x H' y => ?_⟩
    obtain ⟨e, hx⟩ := (q.1 hlt).2 x H' y
    subst e
    have hm := List.mem_of_getElem? hx
    have e1 : (wipe σ [v1, v2]).set v1 (some x) = (σ.set v1 (some x)).set v2 none := by
      show ((σ.set v2 none).set v1 none).set v1 (some x) = _
      rw [List.set_set, List.set_comm _ _ (Ne.symm hne)]
    have e2 : wipe ((σ.set v1 (some x)).set v2 none) [v1, v2] = wipe σ [v1, v2] := by
      show (((σ.set v1 (some x)).set v2 none).set v2 none).set v1 none = (σ.set v2 none).set v1 none
      rw [List.set_set, List.set_comm _ _ hne, List.set_set]
    unfold gName
    rw [e1]
    refine ⟨e2, ?_⟩
    unfold tYes
    dsimp only
    rw [if_pos rfl]
    refine hi x hm H' sm _ fun J1 hy1 => ?_
    refine ⟨fun j k H => k = (ys x).length - j ∧ j ≤ (ys x).length ∧ Same H1 H ∧ H Dr = some (.lst (((xs.take i).flatMap ys ++ (ys x).take j).map f)), ⟨(ys x).length, by simp, Nat.zero_le _, sm, by simpa using hL⟩, ?_⟩
    rintro j k H2 ⟨rfl, hjl, sm2, hL2⟩
    have q1 := hy1 j H2 sm2
    have lenB : ((xs.take i).flatMap ys).length + (ys x).length ≤ 1000000 := by
      have : ((xs.take (i + 1)).flatMap ys).length ≤ (xs.flatMap ys).length := by
        conv => rhs; rw [← List.take_append_drop (i + 1) xs, List.flatMap_append, List.length_append]
        omega
      rw [take_more hx, List.flatMap_append, List.length_append] at this
      simp only [List.flatMap_cons, List.flatMap_nil, List.append_nil] at this
      omega
    by_cases hlt2 : j < (ys x).length
    · refine .inr ⟨(q1.1 hlt2).1, fun H3 => Same H1 H3 ∧ H3 Dr = some (.lst (((xs.take i).flatMap ys ++ (ys x).take (j + 1)).map f)), fun H3 p3 => ⟨(ys x).length - (j + 1), by omega, rfl, hlt2, p3.1, p3.2⟩, fun z H3 yz => ?_⟩
      obtain ⟨ez, hz⟩ := (q1.1 hlt2).2 z H3 yz
      subst ez
      have e3 : (wipe ((σ.set v1 (some x)).set v2 none) [v2]).set v2 (some z) = (σ.set v1 (some x)).set v2 (some z) := by
        show (((σ.set v1 (some x)).set v2 none).set v2 none).set v2 (some z) = _
        rw [List.set_set, List.set_set]
      have e4 : wipe ((σ.set v1 (some x)).set v2 (some z)) [v2] = wipe ((σ.set v1 (some x)).set v2 none) [v2] := by
        show ((σ.set v1 (some x)).set v2 (some z)).set v2 none = ((σ.set v1 (some x)).set v2 none).set v2 none
        rw [List.set_set, List.set_set]
      rw [e3]
      refine ⟨e4, ?_⟩
      rw [if_pos rfl]
      refine hf x hm z (List.mem_of_getElem? hz) H3 sm2 _ fun H4 s4 => ?_
      refine ⟨_, s4 _ _ hL2, ?_, fun b o e => ?_, ?_⟩
      · rw [List.length_map, List.length_append, List.length_take, sizeLine_eq]
        omega
      · rw [upd_ne (ne_of_none e hD)]
        exact s4 _ _ (sm2 _ _ e)
      · rw [upd_same, take_more hz, ← List.append_assoc, List.map_append, List.map_append, List.map_append]
        rfl
    · have ej : j = (ys x).length := by omega
      subst ej
      refine .inl ⟨q1.2 (Nat.le_refl _), sm2, ?_⟩
      rw [hL2, List.take_length, take_more hx, List.flatMap_append]
      simp
  · have e : i = xs.length := by omega
    subst e
    refine .inl ⟨q.2 (Nat.le_refl _), hq Dr H hD sm ?_⟩
    rw [hL, List.take_length]
/-- {k: v for ..} -/
def DcB (J : L2.It) (g : TG) (tt : TT) (tk tv : TE) (vs : List Nat) (σ : L2.St) (Q : VK) (H1 : Hp) : Prop := ∀ D, H1 D = none → ∃ W : Nat → Nat → Hp → Prop, (∃ m, W 0 m (upd H1 D (.dK []))) ∧ ∀ i m H, W i m H →
  (J.stop i H ∧ Q (.ref D) H) ∨ (J.go i H ∧ ∃ Nx : Hp → Prop, (∀ H', Nx H' → ∃ m', m' < m ∧ W (i + 1) m' H') ∧ ∀ x H', J.yld i H x H' → g x (wipe σ vs) H' fun σ2 H2 => wipe σ2 vs = wipe σ vs ∧ tt σ2 H2 fun b H3 =>
    if b = true then tk σ2 H3 fun y H4 => tv σ2 H4 fun z H5 => ∃ kvs k, y = kV k ∧ H5 D = some (.dK kvs) ∧ kvs.length < sizeLine ∧ Nx (upd H5 D (.dK (putK kvs k z))) else Nx H3)
end
end Px
/-! __init__(self, *v, k = d, ..): C(*e), C(*e, k = v, ..) -/
namespace Cl
open PySem PySem.Spec PySem.Calls PyProof.Rows L2 Px
section
variable {M : Model} {A : Around} {E : Value → Shared → Prop} {s : Shared} {K : PySem.W.Frag}
/-- *e ahead of keywords: e's value, the keywords' values, then e's items -/
theorem lone_kw {f : Value} {x : Sem Value} {pos : Pos} {kws : List (Option Str × Sem Value)} {Q : Args → Shared → Prop} (hall : kws.all (·.1.isSome) = true)
    (h : wpAny M A x (fun v s₁ => wpAny M A (evalAll (kws.map (·.2))) (fun ks s₂ => PySem.W.StarOf M A E v (fun vs s₃ => Q ⟨vs, (kws.filterMap (·.1)).zip ks⟩ s₃) s₂) E s₁) E s) :
    wpAny M A (evalArgs f true [(true, (do let v ← x; standAt pos; pure v))] kws) Q E s := by
  unfold evalArgs
  refine wpAny_bind (wpAny_bind (thn h fun v s₁ h₁ => wpAny_bind (wpAny_standAt (wpAny_pure ?_))))
  refine wpAny_bind (wpAny_pure ?_)
  refine wpAny_holding ?_
  rw [if_pos hall]
  refine wpAny_bind (thn h₁ fun ks s₂ h₂ => ?_)
  unfold PySem.W.StarOf at h₂
  refine wpAny_bind (wpAny_bind (thn h₂ fun b s₃ h₃ => ?_))
  obtain ⟨rfl, h₃⟩ := h₃
  have z := wpAny_holding (vs := ((kws.filterMap (·.1)).zip ks).map (·.2)) (thn h₃ fun vs s₄ h₄ => (wpAny_pure h₄ : wpAny M A (pure (⟨vs, (kws.filterMap (·.1)).zip ks⟩ : Args)) Q E s₄))
  simp only [Bool.false_eq_true, if_false]
  exact wpAny_holding (thn h₃ fun vs s₄ h₄ => wpAny_pure h₄)
theorem star_call {f : Value} {first : List Value} {pos : Pos} {Q : Value → Shared → Prop} {P : Heap → Prop} {args : List (Bool × Sem Value)} {kws : List (Option Str × Sem Value)} (hst : args.any (·.1) = true)
    (hk : ∀ h, P h → ∃ k, (k = Keeper.frame ∨ k = Keeper.machine ∨ k = Keeper.boundFrame) ∧ PySem.W.Looks M h (keeperOf f) k)
    (h : wpAny M A (evalArgs f true args kws) (fun a s₁ => P s₁.heap ∧ wpAny M A (call f (first ++ a.pos) a.kw) Q E s₁) E s) : wpAny M A (callWith pos f first args kws) Q E s := by
  unfold callWith
  refine wpAny_bind (wpAny_holding (thn h fun a s₁ h₁ => wpAny_bind (wpAny_standAt ?_)))
  obtain ⟨k, hk', L⟩ := hk _ h₁.1
  simp only [hst, Bool.true_or]
  refine wpAny_bind (L.here ?_)
  have tail : ∀ {t : Sem Value}, wpAny M A t Q E s₁ → wpAny M A (t >>= fun r => holding [r] point >>= fun _ => pure r) Q E s₁ := fun ht =>
    wpAny_bind (thn ht fun r s₂ hr => wpAny_bind (wpAny_holding (wpAny_point (wpAny_pure hr))))
  have mk1 (mk : Value) : wpAny M A (callMarked mk f (first ++ a.pos) a.kw) Q E s₁ := by unfold callMarked; exact Calls.wpAny_keep h₁.2
  rcases hk' with rfl | rfl | rfl <;> dsimp only <;> first | exact tail (mk1 _) | exact tail (wpAny_operating h₁.2)
/-- t looks names up in the dict at D, then goes on as r -/
def KwTo {α : Type} (D : Addr) : List (Str × Value) → Sem α → Sem α → Prop
  | [], t, r => t = r
  | q :: l, t, r => ∃ (β γ : Type) (k1 : Option Value → Sem β) (k2 : β → Sem γ) (k3 : γ → Sem α) (a : β), t = ((nsGet D q.1 >>= k1) >>= k2) >>= k3 ∧ k1 (some q.2) = pure a ∧ KwTo D l (k2 a >>= k3) r
theorem KwTo.run {α : Type} {D : Addr} {Q : α → Shared → Prop} {r : Sem α} (X : K.In s.heap) : ∀ {l : List (Str × Value)} {t : Sem α}, (∀ q ∈ l, PySem.W.nsIn K D q.1 = some (some q.2)) → KwTo D l t r → wpAny M A r Q E s → wpAny M A t Q E s
  | [], t, _, e, h => by rw [show t = r from e]; exact h
  | q :: l, t, hl, e, h => by
    obtain ⟨β, γ, k1, k2, k3, a, e1, e2, e3⟩ := e
    have l1 : PySem.W.Looks M s.heap (nsGet D q.1 >>= k1) a := (PySem.W.looks_nsIn X (hl q List.mem_cons_self)).andThen (PySem.W.Looks.of_pure e2)
    rw [e1, bind_assoc]
    exact wpAny_bind (l1.here (KwTo.run X (fun p hp => hl p (List.mem_cons_of_mem _ hp)) e3 h))
end
/-- a def's promise for n keywords: their values zs, then the others -/
def FnRK (P : Program) (w : World) (K : PySem.W.Frag) (mg : Str → Option Value) (base : Heap) (CX : CXT) (k : Nat) (f : Addr) (ks : List Str) (sp : List V → Sp) : Prop :=
  ∀ (A : Around) (outer : List Env) (s : Shared) (H : Hp) (us ws : List Value) (vs zs : List V) (Q : VK) (E : XK), Room k A → Env0 P w K mg base A outer s H → Vals vs us → Vals zs ws → zs.length = ks.length → sp zs vs H Q E →
    codeAny (model P w) A (.call (.ref f) ⟨us, ks.zip ws⟩) (CR CX outer P w H s Q E) s
section
variable {P : Program} {w : World} {K : PySem.W.Frag} {mg : Str → Option Value} {base : Heap} {x qual pv p1 : Str} {params : Arguments} {body : List Stmt} {scope : Scope} {kws : List (Str × V)} {f : Addr} {fd : FuncData} {N : List Str} {k : Nat} {sp : Sp}
/-- def f(a, *v, k1 = d1, ..): without keywords -/
theorem okStarK (F : FunD K x qual params body scope [] kws f fd) (hk : kws ≠ []) (S : FnScope N (p1 :: (kws.map (·.1) ++ [pv])) scope)
    (hb : ∀ (D : Addr) (doc pm : Value) (an : Option Addr) (cdv ct : Value) (u : Value) (rest ds : List Value), ds.length = kws.length →
      KwTo D ((kws.map (·.1)).zip ds) (bindArgs (PySem.W.fnOf x qual params body scope .none (.ref D) doc pm an cdv ct) ⟨u :: rest, []⟩) (newTuple rest >>= fun t => pure ((p1, u) :: ((kws.map (·.1)).zip ds ++ [(pv, t)]))))
    (hbody : ∀ (cdv : Value) (A : Around) (outer : List Env) (s : Shared) (H : Hp) (vs : List V) (Q : VK) (E : XK), Room k (A.deeper (envOfC qual scope s.heap.objs.size f cdv)) → sp vs H Q E →
      ∃ t, PSs (cxOf (L2N.CX P w) P w K mg base N qual scope f cdv A outer s H E) body t ∧ t { nx := fun _ H' => Q .non H', rt := Q } (start N vs) H) :
    FnR P w K mg base (L2N.CX P w) (k + 1) f (fun vs H Q E => ∃ v rest, vs = v :: rest ∧ rest.length ≤ sizeLine ∧ ∀ p, H p = none → sp (v :: (kws.map (·.2) ++ [V.ref p])) (upd H p (.tup rest)) Q E) := by
  obtain ⟨oc, od, dV, kV, doc, pm, an, cdv, ct, osl, rfl, lk, hcd, hD, hK⟩ := F.ex
  rcases hD with ⟨_, rfl⟩ | ⟨e, _⟩
  rotate_left
  · exact absurd rfl e
  rcases hK with e | ⟨D, rfl, hq⟩
  · exact absurd e hk
  obtain ⟨ds, hl, rk, hks⟩ := kwd_vals hq
  intro A outer s H us vs Q E hr e0 r hsp
  obtain ⟨v, rest, rfl, hz, hsp⟩ := hsp
  cases r with
  | @cons _ u _ ur r1 r2 =>
    have hn : H s.heap.objs.size = Option.none := e0.hok.fresh (Nat.le_refl _)
    have hl2 : ur.length ≤ sizeLine := by rw [← r2.length]; exact hz
    refine StX.run_bnd lk hcd S hr e0 (G := fun xs H2 => ∃ p, H p = Option.none ∧ xs = v :: (kws.map (·.2) ++ [V.ref p]) ∧ H2 = upd H p (.tup rest)) (fun A' Ex Q' h => ?_) fun s2 H2 xs ⟨p, hp, ex, eH⟩ hr' => ?_
    · refine KwTo.run (e0.mod.kin.keeps fun b o e => (e0.bs b o e).1) hks (hb D doc pm an cdv ct u ur ds hl) ?_
      refine wpAny_bind (wpAny_newTuple (wpAny_pure ?_) hl2)
      have new : ObjOk P w (upd H s.heap.objs.size (.tup rest)) (s.heap.push ({ cls := .type "tuple", data := .seq ur.toArray } : Obj)) s.heap.objs.size (.tup rest) := ⟨hz, ur, r2, ⟨_, Heap.get?_push_size _ rfl, rfl, _, rfl⟩⟩
      have un := StX.un_laid (fs := frs outer) (s := s) (o := ({ cls := .type "tuple", data := .seq ur.toArray } : Obj)) (u := .tup rest) hn
      have z := h _ _ (v :: (kws.map (·.2) ++ [V.ref s.heap.objs.size])) (u :: (ds ++ [Value.ref s.heap.objs.size])) (StX.env0_laid e0 new) un rfl (fun e s' => cxUpN outer s H _ _ E e s' un (fun b o q => Heap.get?_push_of_some _ q) rfl) (.cons r1 (rk.append (.cons rfl .nil)))
        (by simp) ⟨_, hn, rfl, rfl⟩
      rw [List.zip_cons_cons, List.zip_append (by rw [List.length_map, hl])] at z
      exact z
    · subst ex eH
      exact hbody cdv A outer s2 _ _ Q E hr' (hsp p hp)
/-- .. all keywords written, in the parameters' order -/
theorem okStarKW (F : FunD K x qual params body scope [] kws f fd) (ks : List Str) (S : FnScope N (p1 :: (ks ++ [pv])) scope)
    (hb : ∀ (kV doc pm : Value) (an : Option Addr) (cdv ct : Value) (u : Value) (rest ws : List Value), ws.length = ks.length →
      bindArgs (PySem.W.fnOf x qual params body scope .none kV doc pm an cdv ct) ⟨u :: rest, ks.zip ws⟩ = (newTuple rest >>= fun t => pure ((p1, u) :: (ks.zip ws ++ [(pv, t)]))))
    (hbody : ∀ (cdv : Value) (A : Around) (outer : List Env) (s : Shared) (H : Hp) (vs : List V) (Q : VK) (E : XK), Room k (A.deeper (envOfC qual scope s.heap.objs.size f cdv)) → sp vs H Q E →
      ∃ t, PSs (cxOf (L2N.CX P w) P w K mg base N qual scope f cdv A outer s H E) body t ∧ t { nx := fun _ H' => Q .non H', rt := Q } (start N vs) H) :
    FnRK P w K mg base (L2N.CX P w) (k + 1) f ks (fun zs vs H Q E => ∃ v rest, vs = v :: rest ∧ rest.length ≤ sizeLine ∧ ∀ p, H p = none → sp (v :: (zs ++ [V.ref p])) (upd H p (.tup rest)) Q E) := by
  obtain ⟨oc, od, dV, kV, doc, pm, an, cdv, ct, osl, rfl, lk, hcd, hD, hK⟩ := F.ex
  rcases hD with ⟨_, rfl⟩ | ⟨e, _⟩
  rotate_left
  · exact absurd rfl e
  intro A outer s H us ws vs zs Q E hr e0 r rz hlz hsp
  obtain ⟨v, rest, rfl, hz, hsp⟩ := hsp
  have hlw : ws.length = ks.length := by rw [← rz.length]; exact hlz
  cases r with
  | @cons _ u _ ur r1 r2 =>
    have hn : H s.heap.objs.size = Option.none := e0.hok.fresh (Nat.le_refl _)
    have hl2 : ur.length ≤ sizeLine := by rw [← r2.length]; exact hz
    refine StX.run_bnd lk hcd S hr e0 (G := fun xs H2 => ∃ p, H p = Option.none ∧ xs = v :: (zs ++ [V.ref p]) ∧ H2 = upd H p (.tup rest)) (fun A' Ex Q' h => ?_) fun s2 H2 xs ⟨p, hp, ex, eH⟩ hr' => ?_
    · rw [hb kV doc pm an cdv ct u ur ws hlw]
      refine wpAny_bind (wpAny_newTuple (wpAny_pure ?_) hl2)
      have new : ObjOk P w (upd H s.heap.objs.size (.tup rest)) (s.heap.push ({ cls := .type "tuple", data := .seq ur.toArray } : Obj)) s.heap.objs.size (.tup rest) := ⟨hz, ur, r2, ⟨_, Heap.get?_push_size _ rfl, rfl, _, rfl⟩⟩
      have un := StX.un_laid (fs := frs outer) (s := s) (o := ({ cls := .type "tuple", data := .seq ur.toArray } : Obj)) (u := .tup rest) hn
      have z := h _ _ (v :: (zs ++ [V.ref s.heap.objs.size])) (u :: (ws ++ [Value.ref s.heap.objs.size])) (StX.env0_laid e0 new) un rfl (fun e s' => cxUpN outer s H _ _ E e s' un (fun b o q => Heap.get?_push_of_some _ q) rfl) (.cons r1 (rz.append (.cons rfl .nil)))
        (by simp [hlz]) ⟨_, hn, rfl, rfl⟩
      rw [List.zip_cons_cons, List.zip_append hlw.symm] at z
      exact z
    · subst ex eH
      exact hbody cdv A outer s2 _ _ Q E hr' (hsp p hp)
end
section
variable {X : Cx} {CX : CXT} {k : Nat} {f C : Addr} {ks : List Str} {spK : List V → Sp} {E : L2.St → XK} {x : Str} {e : Expr} {te : TE} {tk : TA} {p pos sp_ : Pos} {kws : List Keyword}
/-- C(*e, k = v, ..) -/
def tMakeSK (K : PySem.W.Frag) (C : Addr) (m : Nat) (spK : List V → Sp) (E : L2.St → XK) (te : TE) (tk : TA) : TE := fun σ H Q => te σ H fun y H1 => tk σ H1 fun zs H2 => ∃ a xs, y = .ref a ∧ zs.length = m ∧ (SqT K H2 a xs ∨ SqL K H2 a xs) ∧ ∀ x dx, H2 x = none → H2 dx = none → dx ≠ x →
  spK zs (V.ref x :: xs) (upd (upd H2 dx (.own x)) x (.ins C dx [])) (fun v H3 => v = .non ∧ Q (.ref x) H3) (E σ)
theorem pe_makeSK (M : Mk X.K C f) (F : FnRK X.prog X.w X.K X.mg X.base CX k f ks spK) (hr : Room (k + 1) X.A) (hg : Gl X x) (hm : X.mg x = some (.ref C)) (hx : ∀ σ, PassesAt CX X σ (E σ)) (he : PE X e te) (hkw : PK X kws tk)
    (hall : (backToKw pos (keywordEach kws X.env)).all (·.1.isSome) = true := by rfl) (hks : (backToKw pos (keywordEach kws X.env)).filterMap (·.1) = ks := by rfl) (hdb : (x == ("__debug__" : Str)) = false := by decide)
    (hst : starEach [.Starred e sp_] X.env = [(true, eval e X.env)] := by rfl) : PE X (.Call (.Name x p) [.Starred e sp_] kws pos) (tMakeSK X.K C ks.length spK E te tk) := by
  refine ⟨fun pins s σ H Q I h => wpAny_Call_Name_kw (ld_glob I hg hm ?_ hdb)⟩
  rw [hst]
  refine star_call (P := fun h => X.K.In h) rfl (fun h hK => PySem.W.keeps_K M.kp h hK) ?_
  refine lone_kw hall (thn (he.run pins s σ H _ I h) fun v s1 ⟨y, H1, I1, ry, q⟩ => thn (hkw.run pos pins s1 σ H1 _ I1 q) fun ws s2 ⟨zs, H2, I2, rz, a, xs, ey, hlz, hxs, q2⟩ => ?_)
  subst ey
  obtain rfl : v = Value.ref a := ry
  refine StX.star_any I2 hxs fun us s3 I3 rv => ⟨I3.kIn, ?_⟩
  rw [hks]
  have hq := q2 (s3.heap.objs.size + 1) s3.heap.objs.size (I3.hok.fresh (Nat.le_succ _)) (I3.hok.fresh (Nat.le_refl _)) (Nat.ne_of_lt (Nat.lt_succ_self _))
  have I4 := Inv.made (C := C) I3
  refine wpAny_call (make_map (f := f) I3.kIn M.makes M.init (beq_iff_eq.mp M.fn) (codeAny_mono (F _ X.stack _ _ (Value.ref (s3.heap.objs.size + 1) :: us) ws _ _ _ (E σ) (hr.make C us (ks.zip ws)) (I4.env0.make C us (ks.zip ws)) (show Vals (V.ref (s3.heap.objs.size + 1) :: xs) (Value.ref (s3.heap.objs.size + 1) :: us) from .cons rfl rv) rz hlz hq) fun r s' hq' => ?_))
  cases r with
  | error e => exact hx σ pins _ _ e s' I4 hq'
  | ok fl =>
    cases fl with
    | ret u =>
      obtain ⟨v, H', I5, rv', ev, q3⟩ := I4.after hq'
      subst ev
      exact ⟨rv', V.ref (s3.heap.objs.size + 1), H', I5, rfl, q3⟩
    | _ => exact hq'.elim
end
end Cl
/-! own objects walked by the dict in a field: __iter__ says return iter(self.f) -/
namespace Cl
open PySem PySem.Spec PyProof.Rows L2 Px
/-- an iterator of the locked dict at d, as it begins -/
def KiO (d it : Addr) (n : Nat) (od : Obj) : HO := .ext fun h => ∃ es ep, od.data = .dict es ep ∧ h.IsKeyIter it d 0 n ep
theorem kiO_ok {P : Program} {w : World} {H : Hp} {h : Heap} {d it : Addr} {n ep : Nat} {od : Obj} {es : Array DictEntry} (e1 : od.data = .dict es ep) (e : h.IsKeyIter it d 0 n ep) : ObjOk P w H h it (KiO d it n od) := by
  refine ⟨⟨es, ep, e1, e⟩, ?_, fun h1 h2 ⟨es, ep, e1, q⟩ k => ⟨es, ep, e1, q.at k⟩⟩
  obtain ⟨o, ho, _⟩ := e
  exact ⟨o, ho⟩
def rIterK (n : Nat) : List V → Hp → VK → Prop := fun xs H Q => ∃ (d : Addr) (od : Obj) (kvs : List (Key × V)), xs = [.ref d] ∧ H d = some (.frz od (.dK kvs)) ∧ ∀ it, H it = none → n ≤ it → Q (.ref it) (upd H it (KiO d it kvs.length od))
theorem call_iterK {X : Cx} : CallR X (.builtin "iter") (rIterK X.s_0.heap.objs.size) := by
  intro pins s σ H xs us Q I r h
  obtain ⟨d, od, kvs, rfl, hd, q⟩ := h
  obtain ⟨u, rfl, ru⟩ := vals1 r
  cases ru
  obtain ⟨hs, hgd, hx, es, ep, vs, hdt, hsz, kv, hm⟩ := I.frzK hd
  refine Calls.call_function_entry (by decide +kernel) (by decide +kernel) PySem.W.kdk_entry_iter (PySem.W.kdk_args_iter _) ?_
  unfold Builtin.«iter»
  refine wpAny_bind (m := someArgs "iter" 1 2 _) (wpAny_of_eq (a := [Value.ref d]) (by first | rfl | kernel_rfl!) ?_)
  show wpAny _ _ (pyIter (.ref d) >>= _) _ _ _
  refine wpAny_bind (iter_keys hs hgd hx hdt (wpAny_pure ⟨_, rfl, ?_⟩))
  have hit : (s.heap.push { cls := .type "dict_keyiterator", data := .fields #[.ref d, .int 0 0, .int es.size 0, .int ep 0] }).IsKeyIter s.heap.objs.size d 0 kvs.length ep := ⟨_, Heap.get?_push_size _ rfl, rfl, by rw [hsz]; rfl⟩
  exact ⟨.ref s.heap.objs.size, _, I.laid (t' := s.toks) (fun b u e => Heap.get?_push_of_some _ e) (Nat.le_refl _) (kiO_ok hdt hit), rfl, q _ (I.hok.fresh (Nat.le_refl _)) I.sz⟩
/-- what a class must have that its objects are walked by the dict in the field f -/
structure IterK (P : Program) (w : World) (K : PySem.W.Frag) (mg : Str → Option Value) (base : Heap) (k : Nat) (C : Addr) (f : Str) : Prop where
  run : ∃ fi : Addr, PySem.W.findIn K (.ref C) "__iter__" = some (some (.ref fi)) ∧ PySem.W.isFn K (.ref fi) = true ∧
    ∀ (A : Around) (outer : List Env) (s : Shared) (H : Hp) (a dx d : Addr) (fs : List (Str × V)) (kvs : List (Key × V)) (od : Obj), Room k A → Env0 P w K mg base A outer s H → H a = some (.ins C dx fs) → fs.lookup f = some (.ref d) → H d = some (.frz od (.dK kvs)) →
      codeAny (model P w) A (.call (.ref fi) ⟨[.ref a], []⟩) (CR (L2N.CX P w) outer P w H s (fun y H' => ∃ it, y = .ref it ∧ H it = none ∧ s.heap.objs.size ≤ it ∧ H' = upd H it (KiO d it kvs.length od)) E0) s
theorem iterK_of {P : Program} {w : World} {K : PySem.W.Frag} {mg : Str → Option Value} {base : Heap} {qual f : Str} {params : Arguments} {body : List Stmt} {scope : Scope} {kws : List (Str × V)} {C fi : Addr} {fd : FuncData} {N : List Str} {k : Nat} {p1 p2 p3 p4 p5 : Pos} (F : FunD K "__iter__" qual params body scope [] kws fi fd) (S : FnScope N ["self"] scope) (hb : Binds K fd ["self"] [])
    (hbo : body = [.Return (some (.Call (.Name "iter" p1) [.Attribute (.Name "self" p2) f p3] [] p4)) p5]) (hN : N[0]? = some ("self" : Str)) (hgl : scope.names.lookup ("iter" : Str) = some .globalImplicit) (hm : mg "iter" = none) (c : Cls K C) (n : NoAttr K C f) (o : OwnOp K C "__iter__" fi)
    (hg : ∀ (cdv : Value) (A : Around) (outer : List Env) (s : Shared) (H : Hp), Gl (cxOf (L2N.CX P w) P w K mg base N qual scope fi cdv A outer s H E0) "iter") (hab : ∀ (cdv : Value) (A : Around) (outer : List Env) (s : Shared) (H : Hp), attributeBase (.Name "self" p2) f (cxOf (L2N.CX P w) P w K mg base N qual scope fi cdv A outer s H E0).env (eval (.Name "self" p2) (cxOf (L2N.CX P w) P w K mg base N qual scope fi cdv A outer s H E0).env) = eval (.Name "self" p2) (cxOf (L2N.CX P w) P w K mg base N qual scope fi cdv A outer s H E0).env) :
    IterK P w K mg base (k + 1) C f := by
  refine ⟨fi, o.at_, o.fn, fun A outer s H a dx d fs kvs od hr e0 ha hl ht => ?_⟩
  refine run_self F S hb hr e0 fun cdv _ => ?_
  subst hbo
  refine ⟨_, pss_one (ps_ret (pe_callB (call_iterK (X := cxOf (L2N.CX P w) P w K mg base N qual scope fi cdv A outer s H E0)) (hg _ _ _ _ _) hm PyProof.Rows.Boot.«iter» (pa_cons (pe_att (l := [(C, aFld f)]) (.cons (alt_fld c n) .nil) (pe_var (i := 0) hN ((S.par "self" (List.Mem.head _)).elim (fun z => .inl z) (fun z => .inr (.inl z)))) (hab _ _ _ _ _)) pa_nil))), ?_⟩
  refine ⟨.ref a, by rfl, a, dx, fs, 0, C, _, rfl, rfl, ha, .ref d, hl, ?_⟩
  exact ⟨d, od, kvs, rfl, ht, fun it h0 h1 => ⟨it, rfl, h0, h1, rfl⟩⟩
/-- len(d), d maybe locked -/
def rLenR (K : PySem.W.Frag) : List V → Hp → VK → Prop := fun vs H Q => rLenP K vs H Q ∨ ∃ p kvs, vs = [.ref p] ∧ Rd H p (.dK kvs) ∧ Q (.int kvs.length) H
theorem call_lenR {X : Cx} : CallR X (.builtin "len") (rLenR X.K) := by
  intro pins s σ H xs us Q I r h
  rcases h with h | ⟨a, kvs, rfl, ha, q⟩
  · exact call_lenP pins s σ H xs us Q I r h
  · obtain ⟨u, rfl, ru⟩ := vals1 r
    cases ru
    exact d_len I ha fun t s' I' => ⟨.int kvs.length, H, I', ⟨t, rfl⟩, q⟩
section
variable {X : Cx} {k : Nat} {C : Addr} {f : Str} {pins : List (Addr × Obj)} {σ : L2.St} {H : Hp} {s : Shared} {a dx d : Addr} {fs : List (Str × V)} {kvs : List (Key × V)} {od : Obj}
theorem iter_beginK {A : Around} {Q : Value → Shared → Prop} {E' : Value → Shared → Prop} (W : IterK X.prog X.w X.K X.mg X.base k C f) (hr : Room k A) (hfr : A.frames = X.A.frames) (I : Inv X pins σ H s) (ha : H a = some (.ins C dx fs)) (hl : fs.lookup f = some (.ref d)) (hd : H d = some (.frz od (.dK kvs)))
    (h : ∀ it s' es ep, H it = none → s.heap.objs.size ≤ it → od.data = .dict es ep → s'.heap.IsKeyIter it d 0 kvs.length ep → Inv X pins σ H s' → Q (.ref it) s') : wpAny (model X.prog X.w) A (pyIter (.ref a)) Q E' s := by
  obtain ⟨fi, hat, hfn, run⟩ := W.run
  obtain ⟨mA, J, _⟩ := ins_get I.hok ha
  obtain ⟨oo, J, _⟩ := J.look
  obtain ⟨m, hF⟩ := I.fr
  have e0 : Env0 X.prog X.w X.K X.mg X.base A X.stack s H := by
    have e := I.env0
    exact ⟨hfr.trans e.frames, e.mod, e.bs, e.bsz, e.funs, e.frf, e.hok, e.bare⟩
  refine PySem.W.owit_iter hF I.ok.mod.kin J hat hfn (wpAny_call (codeAny_mono (run A X.stack s H a dx d fs kvs od hr e0 ha hl hd) fun r s' hq => ?_))
  cases r with
  | error e =>
    obtain ⟨_, _, _, _, _, _, _, _, _, _, _, _, z⟩ := hq
    exact z.elim
  | ok fl =>
    cases fl with
    | ret u =>
      obtain ⟨v, H', I3, rv, it, ev, h0, h1, eH⟩ := I.after hq
      subst ev eH
      obtain rfl : u = Value.ref it := rv
      obtain ⟨es, ep, ed, hit⟩ := (I3.hok it _ upd_same).1
      have I4 := ItX.inv_drop I3 (show upd H it (KiO d it kvs.length od) it = some (KiO d it kvs.length od) from upd_same)
      rw [ItX.dropH_upd h0] at I4
      unfold PySem.W.OwitIt
      exact wpAny_specialOf hit.typeIs PySem.F.slot_dict_keyiterator_next.lookup (h it s' es ep h0 h1 ed hit I4)
    | _ => exact hq.elim
/-- list(..)'s own loop over a locked dict's iterator -/
theorem list_loopK {A1 : Around} {S it : Addr} {ep : Nat} {es : Array DictEntry} {Rs : Result → Shared → Prop} (hh : A1.in1.handled = none) (hn : kvs.length ≤ 1000000) (hSH : H S = none) (hSd : S ≠ d) (hit : H it = none) (hiS : it ≠ S) (hL : it ≠ X.env.locals) (h1 : it ∈ X.ex ∨ X.s_0.heap.objs.size ≤ it)
    (h2 : ∀ x c, X.env.cells.lookup x = some c → c ≠ it) (h3 : ∀ p ∈ X.pn ++ pins, p.1 ≠ it) (hd : H d = some (.frz od (.dK kvs))) (hep : od.data = .dict es ep) (hfin : ∀ s', Inv X pins σ (upd H S (.lst (kvs.map fun p => kV p.1))) s' → Rs (.ok (.ret .none)) s') :
    ∀ (j i : Nat) (s : Shared), kvs.length - i = j → i ≤ kvs.length → Inv X pins σ (upd H S (.lst ((kvs.take i).map fun p => kV p.1))) s → s.heap.IsKeyIter it d i kvs.length ep → codeAny (model X.prog X.w) A1 (.builtin "list.extend.loop" ⟨[.ref S, .ref it, .none], []⟩) Rs s := by
  have dS : ∀ i, upd H S (.lst ((kvs.take i).map fun p => kV p.1)) d = some (.frz od (.dK kvs)) := fun i => by rw [upd_ne hSd.symm]; exact hd
  have itS : ∀ i, upd H S (.lst ((kvs.take i).map fun p => kV p.1)) it = none := fun i => by rw [upd_ne hiS]; exact hit
  have at_ : ∀ (i : Nat) (s : Shared), Inv X pins σ (upd H S (.lst ((kvs.take i).map fun p => kV p.1))) s → ∃ vs : List (Key × Value), KV kvs vs ∧ vs.length = kvs.length ∧ s.heap.DictAt (mixKind X.prog X.w) d vs ep := fun i s I => by
    obtain ⟨_, _, _, es', ep', vs, hdt, _, kv, hm⟩ := I.frzK (dS i)
    obtain ⟨_, rfl⟩ := dict_ep hep hdt
    exact ⟨vs, kv, (Paired.length kv).symm, hm⟩
  intro j
  induction j with
  | zero =>
    intro i s hj hi I st
    have e : i = kvs.length := by omega
    subst e
    obtain ⟨vs, kv, hl, hm⟩ := at_ _ s I
    refine codeAny_builtin PySem.F.entry_extend_loop ?_
    rw [Around.under_plainId PySem.F.plain_extend_loop _]
    show wpAny _ A1.in1 (pyNext (.ref it) >>= _) _ _ s
    refine wpAny_bind (wpAny_pyNext_dict_end (knd := mixKind X.prog X.w) hh (by rw [hl]; exact st) hm (List.getElem?_eq_none (by omega)) fun h' eb => ?_)
    refine wpAny_pure (hfin _ ?_)
    have I2 := I.turned (t' := s.toks) (fun b o hb e => eb b o hb e) (itS _) hL h1 h2 h3
    rw [List.take_length] at I2
    exact I2
  | succ j ih =>
    intro i s hj hi I st
    have hlt : i < kvs.length := by omega
    obtain ⟨vs, kv, hl, hm⟩ := at_ _ s I
    have hlv : i < vs.length := by omega
    have hx : vs[i]? = some (vs[i].1, vs[i].2) := by rw [List.getElem?_eq_getElem hlv]
    have ek : kvs[i].1 = vs[i].1 := by
      have e1 := KV.keys kv
      have e2 : (kvs.map (·.1))[i]? = (vs.map (·.1))[i]? := by rw [e1]
      rw [List.getElem?_map, List.getElem?_map, List.getElem?_eq_getElem hlt, List.getElem?_eq_getElem hlv] at e2
      exact Option.some.inj e2
    refine codeAny_builtin PySem.F.entry_extend_loop ?_
    rw [Around.under_plainId PySem.F.plain_extend_loop _]
    show wpAny _ A1.in1 (pyNext (.ref it) >>= _) _ _ s
    refine wpAny_bind (wpAny_pyNext_dict_item (knd := mixKind X.prog X.w) (by rw [hl]; exact st) hm hx fun u h' hu st' sb => ?_)
    rw [hl] at st'
    have ru : RelV (kV kvs[i].1) u := by rw [ek]; exact keyIs_rel hu
    have I1 : Inv X pins σ (upd H S (.lst ((kvs.take i).map fun p => kV p.1))) { s with heap := h' } := I.turned (t' := s.toks) (fun b o hb e => (sb.2 b hb).trans e) (itS _) hL h1 h2 h3
    show wpAny _ A1.in1 (updateSeq S (·.push u) >>= _) _ _ _
    obtain ⟨z, its2, k2, r2, hl2, e2⟩ := I1.lstM upd_same
    have hlen : ((kvs.take i).map fun p => kV p.1).length = i := by rw [List.length_map, List.length_take]; omega
    refine wpAny_bind (wpAny_updateSeq e2 rfl (wpAny_pure ⟨plainId_quiet PySem.F.plain_extend_loop _, ?_⟩) (by rw [List.size_toArray]; omega) (by show (its2.toArray.push u).size ≤ sizeLine + 1; rw [Array.size_push, List.size_toArray]; omega))
    have I2 := I1.lset (f := fun z => z.push u) (its' := its2 ++ [u]) (ys := ((kvs.take i).map fun p => kV p.1) ++ [kV kvs[i].1]) (t' := s.toks) upd_same e2 (by simp) (r2.append (.cons ru .nil)) (by rw [List.length_append, hlen, sizeLine_eq]; show i + 1 ≤ _; omega)
    have et : ((kvs.take i).map fun p => kV p.1) ++ [kV kvs[i].1] = (kvs.take (i + 1)).map fun p => kV p.1 := by rw [List.take_succ_eq_append_getElem hlt, List.map_append]; rfl
    rw [upd_upd, et] at I2
    refine ih (i + 1) _ (by omega) hlt I2 ?_
    obtain ⟨o, eo, c, dd⟩ := st'
    exact ⟨o, (Heap.get?_update_other _ _ (Ne.symm hiS)).trans eo, c, dd⟩
/-- len's promise: so many, all stands -/
def spLenK (C : Addr) (f : Str) : Sp := fun vs H Q _ => ∃ a dx fs d kvs, vs = [.ref a] ∧ H a = some (.ins C dx fs) ∧ fs.lookup f = some (.ref d) ∧ Rd H d (.dK kvs) ∧ kvs.length ≤ 1000000 ∧ Q (.int kvs.length) H
theorem call_lenOK {n : Nat} {fl : Addr} (o : OwnOp X.K C "__len__" fl) (F : FnR X.prog X.w X.K X.mg X.base (L2N.CX X.prog X.w) n fl (spLenK C f)) {A : Around} {E' : Value → Shared → Prop} {Q : Value → Shared → Prop} (hr : Room (n + 1) A) (hfr : A.frames = X.A.frames) (I : Inv X pins σ H s) (ha : H a = some (.ins C dx fs)) (hl : fs.lookup f = some (.ref d)) (ht : Rd H d (.dK kvs)) (hn : kvs.length ≤ 1000000)
    (h : ∀ tk s', Inv X pins σ H s' → (∀ b o, s.heap.get? b = some o → H b = none → b ∉ frs X.stack → s'.heap.get? b = some o) → Q (.int kvs.length tk) s') : wpAny (model X.prog X.w) A (call (.builtin "len") [.ref a]) Q E' s := by
  obtain ⟨mA, J, _⟩ := ins_get I.hok ha
  obtain ⟨oo, J, _⟩ := J.look
  obtain ⟨m, hF⟩ := I.fr
  refine PySem.W.len_K hF I.ok.mod.kin J o.at_ o.fn ?_
  have e0 : Env0 X.prog X.w X.K X.mg X.base A.in1 X.stack s H := by
    have e := I.env0
    exact ⟨hfr.trans e.frames, e.mod, e.bs, e.bsz, e.funs, e.frf, e.hok, e.bare⟩
  refine wpAny_call (codeAny_mono (F A.in1 X.stack s H [.ref a] [.ref a] (fun y H' => y = .int kvs.length ∧ H' = H) E0 hr.in1 e0 (.cons rfl .nil) ⟨a, dx, fs, d, kvs, rfl, ha, hl, ht, hn, rfl, rfl⟩) fun r s' hq => ?_)
  cases r with
  | error e =>
    obtain ⟨_, _, _, _, _, _, _, _, _, _, _, _, z⟩ := hq
    exact z.elim
  | ok fl =>
    cases fl with
    | ret u =>
      have un : ∀ b o, s.heap.get? b = some o → H b = none → b ∉ frs X.stack → s'.heap.get? b = some o := by
        obtain ⟨_, _, _, _, un, _⟩ := id hq
        exact fun b o e n hb => un.keep b o e n hb (by simp)
      obtain ⟨v, H', I3, rv, ev, eH⟩ := I.after hq
      subst ev eH
      obtain ⟨tk, rfl⟩ := rv
      exact ⟨⟨by omega, by omega⟩, h _ _ (I3.tok _) un⟩
    | _ => exact hq.elim
/-- list(o) -/
theorem list_ownK {n fl : Nat} (W : IterK X.prog X.w X.K X.mg X.base n C f) (o : OwnOp X.K C "__len__" fl) (F : FnR X.prog X.w X.K X.mg X.base (L2N.CX X.prog X.w) n fl (spLenK C f)) (hr : Room (n + 3) X.A) {Q : VK} (I00 : Inv X pins σ H s) (ha0 : H a = some (.ins C dx fs)) (hl : fs.lookup f = some (.ref d)) (hd0 : H d = some (.dK kvs)) (hn : kvs.length ≤ 1000000)
    (hq : ∀ q, H q = none → Q (.ref q) (upd H q (.lst (kvs.map fun p => kV p.1)))) : wpAny (model X.prog X.w) X.A (call (.type "list") [.ref a]) (EP X pins σ Q) X.xe s := by
  obtain ⟨od, I⟩ := I00.lock hd0 trivial
  have nofr := I00.nofrz hd0 trivial
  have had : a ≠ d := ne_of ha0 hd0 (fun z => by cases z)
  have fr0 : H s.heap.objs.size = none := I00.hok.fresh (Nat.le_refl _)
  generalize hG : upd H d (.frz od (.dK kvs)) = G at I
  have ha : G a = some (.ins C dx fs) := by rw [← hG, upd_ne had]; exact ha0
  have hd : G d = some (.frz od (.dK kvs)) := by rw [← hG, upd_same]
  refine callType_codes (Q₁ := fun obj s₁ => obj = .ref s.heap.objs.size ∧ s₁ = { s with heap := s.heap.push { cls := .type "list", data := .seq #[] } }) PySem.F.called_list (PySem.F.typeCall_list_1 _) PySem.F.entry_list_init
    (code_list_new _ ⟨rfl, rfl⟩) fun obj s₁ h₁ => ?_
  obtain ⟨rfl, rfl⟩ := h₁
  have hS : (s.heap.push { cls := .type "list", data := .seq #[] }).get? s.heap.objs.size = some { cls := .type "list", data := .seq #[] } := Heap.get?_push_size _ rfl
  refine ⟨⟨_, hS, rfl⟩, PySem.F.args_list_init_2 _ _, ?_⟩
  have fr : G s.heap.objs.size = none := I.hok.fresh (Nat.le_refl _)
  have I1 : Inv X pins σ (upd G s.heap.objs.size (.lst [])) { s with heap := s.heap.push { cls := .type "list", data := .seq #[] } } := I.lnew (its := []) (t' := s.toks) .nil (Nat.zero_le _)
  show wpAny _ _ (do let old ← Builtin.List.listItems (.ref s.heap.objs.size); Builtin.List.listUpdate (.ref s.heap.objs.size) (fun _ => #[]); letGo old.toList.reverse; Builtin.List.listExtendWith (.ref s.heap.objs.size) (.ref a) .none) _ _ _
  refine wpAny_bind ?_
  unfold Builtin.List.listItems
  refine wpAny_bind (wpAny_seqItems hS rfl (wpAny_pure ?_))
  show wpAny _ _ (updateSeq s.heap.objs.size (fun _ => #[]) >>= fun _ => letGo (#[] : Array Value).toList.reverse >>= fun _ => Builtin.List.listExtendWith (.ref s.heap.objs.size) (.ref a) .none) _ _ _
  refine wpAny_bind (wpAny_updateSeq hS rfl ?_)
  have I2 := I1.lset (f := fun _ => #[]) (its := []) (its' := []) (ys := []) (t' := s.toks) upd_same hS rfl .nil (Nat.zero_le _)
  rw [upd_upd] at I2
  refine wpAny_bind (wpAny_letGo ?_)
  generalize hSe : s.heap.objs.size = S at *
  have haS : a ≠ S := ne_of_none ha fr
  have hdS : d ≠ S := ne_of_none hd fr
  have ha2 : upd G S (.lst []) a = some (.ins C dx fs) := by rw [upd_ne haS]; exact ha
  have hd2 : upd G S (.lst []) d = some (.frz od (.dK kvs)) := by rw [upd_ne hdS]; exact hd
  obtain ⟨mA, J, _⟩ := ins_get I2.hok ha2
  obtain ⟨oo, J, _⟩ := J.look
  unfold Builtin.List.listExtendWith
  refine wpAny_bind (J.type.here ?_)
  have h1 : Builtin.List.listSameRef (.ref S) (.ref a) = false := by simp [Builtin.List.listSameRef, haS.symm]
  have h2 : (Value.ref C == Value.type "list") = false := rfl
  have h3 : (Value.ref C == Value.type "tuple") = false := rfl
  simp only [h1, h2, h3, Bool.or_false, Bool.false_eq_true, if_false]
  have hr2 : Room (n + 1) X.A.in1.in1 := hr.in1.in1
  refine wpAny_bind (iter_beginK W (hr2.mono (by omega)) rfl I2 ha2 hl hd2 fun it s' es ep h0 hge hep hit I3 => ?_)
  refine wpAny_bind (wpAny_holding ?_)
  unfold Builtin.List.listLengthHint
  obtain ⟨mA3, J3, _⟩ := ins_get I3.hok ha2
  obtain ⟨od3, J3, _⟩ := J3.look
  refine wpAny_bind (wpAny_bind (J3.type.here ((PySem.W.looks_findIn I3.kIn o.at_).here ?_)))
  refine PySem.W.KFB.if_not rfl ?_
  refine PySem.W.KFB.if_so rfl ?_
  refine wpAny_bind (wpAny_rule ?_)
  refine wpAny_bind (wpAny_attempt (call_lenOK o F hr2 rfl I3 ha2 hl (.inr ⟨od, hd2⟩) hn fun tk s4 I4 un4 => ?_))
  have nfr : it ∉ frs X.stack := fun hm => by
    obtain ⟨_, ob, hob, _⟩ := I2.env0.funs.mem hm
    exact absurd (Heap.lt_size hob) (Nat.not_lt.mpr hge)
  have hit4 : s4.heap.IsKeyIter it d 0 kvs.length ep := by
    obtain ⟨ob, hob, r⟩ := hit
    exact ⟨ob, un4 it ob hob h0 nfr, r⟩
  have hSit : it ≠ S := fun e => by rw [e, upd_same] at h0; cases h0
  have hitH : G it = none := by rw [upd_ne hSit] at h0; exact h0
  obtain ⟨_, q1, q2, q3, q4, q5⟩ := I2.fpOk (H' := upd G S (.lst [])) hge h0
  have fin : ∀ s', Inv X pins σ (upd G S (.lst (kvs.map fun p => kV p.1))) s' → EP X pins σ Q (.ref S) s' := fun s' I6 => by
    have I7 := I6.unlock (d := d) (od := od) (u := .dK kvs) (by rw [upd_ne hdS]; exact hd) nofr
    have eH : upd (upd G S (.lst (kvs.map fun p => kV p.1))) d (.dK kvs) = upd H S (.lst (kvs.map fun p => kV p.1)) := by
      funext b
      by_cases hb : b = d
      · subst hb; rw [upd_same, upd_ne hdS, hd0]
      · by_cases hb2 : b = S
        · subst hb2; rw [upd_ne hb, upd_same, upd_same]
        · rw [upd_ne hb, upd_ne hb2, upd_ne hb2, ← hG, upd_ne hb]
    rw [eH] at I7
    exact ⟨.ref S, _, I7, rfl, hq S fr0⟩
  have loop : ∀ s5, Inv X pins σ (upd G S (.lst [])) s5 → s5.heap.IsKeyIter it d 0 kvs.length ep → codeAny (model X.prog X.w) X.A.in1 (.builtin "list.extend.loop" ⟨[.ref S, .ref it, .none], []⟩) (wants (fun r s₂ => r = .none ∧ EP X pins σ Q (.ref S) s₂) X.xe) s5 := fun s5 I5 hit5 =>
    list_loopK hr2.hd hn fr hdS.symm hitH hSit q1 q3 q4 q5 hd hep (fun s6 I6 => ⟨rfl, fin s6 I6⟩) kvs.length 0 s5 rfl (Nat.zero_le _) I5 hit5
  dsimp only
  refine wpAny_bind (wpAny_of_eq (a := some (kvs.length : Int)) (by first | rfl | kernel_rfl!) ?_)
  dsimp only
  have hlong : Builtin.List.listTooLong ((kvs.length : Int)).toNat = false := notLongL (by rw [sizeLine_eq]; omega)
  rw [hlong, if_neg Bool.false_ne_true]
  refine wpAny_pure ?_
  refine wpAny_ite_split (fun _ => ?_) (fun _ => wpAny_pure ⟨plainId_quiet PySem.F.plain_extend_loop _, loop s4 I4 hit4⟩)
  refine wpAny_bind (wpAny_rule ?_)
  refine wpAny_bind ?_
  show wpAny _ _ (updateSeq S (·.push .none) >>= fun _ => updateSeq S (·.pop)) _ _ _
  obtain ⟨z, its, k3, r3, hl3, e3⟩ := I4.lstM upd_same
  cases r3
  refine wpAny_bind (wpAny_updateSeq e3 rfl ?_)
  have I5 := I4.lset (f := (·.push Value.none)) (its' := [Value.none]) (ys := [.non]) (t' := s4.toks) upd_same e3 (by simp) (.cons rfl .nil) (by rw [List.length_singleton, sizeLine_eq]; decide)
  rw [upd_upd] at I5
  obtain ⟨z4, its4, k4, r4, hl4, e4⟩ := I5.lstM upd_same
  obtain ⟨u4, rfl, ru4⟩ := r4.one
  refine wpAny_updateSeq e4 rfl ?_ (by show 1 ≤ sizeLine; rw [sizeLine_eq]; decide) (by show 0 ≤ sizeLine + 1; exact Nat.zero_le _)
  have I6 := I5.lset (f := (·.pop)) (its := [u4]) (its' := []) (ys := []) (t' := s4.toks) upd_same e4 (by rfl) .nil (Nat.zero_le _)
  rw [upd_upd] at I6
  refine wpAny_pure ⟨plainId_quiet PySem.F.plain_extend_loop _, loop _ I6 ?_⟩
  obtain ⟨ob, hob, rr⟩ := hit4
  exact ⟨ob, (Heap.get?_update_other _ _ (Ne.symm hSit)).trans ((Heap.get?_update_other _ _ (Ne.symm hSit)).trans hob), rr⟩
end
/-- a class whose objects are walked and counted by the dict in the field f -/
def WalkK (X : Cx) (C : Addr) (f : Str) : Prop := ∃ (n : Nat) (fl : Addr), IterK X.prog X.w X.K X.mg X.base n C f ∧ OwnOp X.K C "__len__" fl ∧ FnR X.prog X.w X.K X.mg X.base (L2N.CX X.prog X.w) n fl (spLenK C f) ∧ Room (n + 3) X.A
inductive WalkKs (X : Cx) : List (Addr × Str) → Prop
  | nil : WalkKs X []
  | cons {C : Addr} {f : Str} {l : List (Addr × Str)} : WalkK X C f → WalkKs X l → WalkKs X ((C, f) :: l)
section
variable {X : Cx} {l : List (Addr × Str)}
theorem WalkKs.at (h : WalkKs X l) : ∀ {i : Nat} {C : Addr} {f : Str}, l[i]? = some (C, f) → WalkK X C f := by
  induction h with
  | nil => intro i C f e; cases e
  | cons h _ ih =>
    intro i C f e
    cases i with
    | zero => cases e; exact h
    | succ i => exact ih (by simpa using e)
/-- x is an object of one of the classes, its dict holds kvs -/
def OwnK (l : List (Addr × Str)) (x : V) (H : Hp) (kvs : List (Key × V)) : Prop := ∃ (i : Nat) (C : Addr) (f : Str) (a dx d : Addr) (fs : List (Str × V)), l[i]? = some (C, f) ∧ x = .ref a ∧ H a = some (.ins C dx fs) ∧ fs.lookup f = some (.ref d) ∧ H d = some (.dK kvs) ∧ kvs.length ≤ 1000000
def rLenK (K : PySem.W.Frag) (l : List (Addr × Str)) : List V → Hp → VK → Prop := fun vs H Q => rLenP K vs H Q ∨ ∃ x kvs, vs = [x] ∧ OwnK l x H kvs ∧ Q (.int kvs.length) H
theorem call_lenK (h : WalkKs X l) : CallR X (.builtin "len") (rLenK X.K l) := by
  intro pins s σ H vs us Q I r q
  rcases q with q | ⟨x, kvs, rfl, ⟨i, C, f, a, dx, d, fs, hl, rfl, ha, hf, ht, hn⟩, q⟩
  · exact call_lenP pins s σ H vs us Q I r q
  · obtain ⟨u, rfl, ru⟩ := vals1 r
    cases ru
    obtain ⟨n, fl, W, o, F, hr⟩ := h.at hl
    exact call_lenOK o F (hr.mono (by omega)) rfl I ha hf (.inl ht) hn fun tk s' I' _ => ⟨.int kvs.length, H, I', ⟨tk, rfl⟩, q⟩
def rListK (K : PySem.W.Frag) (l : List (Addr × Str)) : List V → Hp → VK → Prop := fun vs H Q => rListP K vs H Q ∨ ∃ x kvs, vs = [x] ∧ OwnK l x H kvs ∧ ∀ q, H q = none → Q (.ref q) (upd H q (.lst (kvs.map fun p => kV p.1)))
theorem call_listK (h : WalkKs X l) : CallR X (.type "list") (rListK X.K l) := by
  intro pins s σ H vs us Q I r q
  rcases q with q | ⟨x, kvs, rfl, ⟨i, C, f, a, dx, d, fs, hl, rfl, ha, hf, ht, hn⟩, q⟩
  · exact call_listP pins s σ H vs us Q I r q
  · obtain ⟨u, rfl, ru⟩ := vals1 r
    cases ru
    obtain ⟨n, fl, W, o, F, hr⟩ := h.at hl
    exact list_ownK W o F hr I ha hf ht hn q
end
end Cl
/-! zip(a list, a tuple) -/
namespace ZiX
open PySem
section
variable {prog : Program} {w : World}
/-- an iterator it over the object l: St i tells that it stands at the i-th of xs -/
structure Walk1 (prog : Program) (w : World) (it l : Addr) (xs : Array Value) (St : Nat → Heap → Prop) : Prop where
  item : ∀ (A : Around) (E : Value → Shared → Prop) (s : Shared) (i : Nat) (x : Value) (Q : Value → Shared → Prop), St i s.heap → xs[i]? = some x → (∀ h', St (i + 1) h' → Heap.SameBut it s.heap h' → Q x { s with heap := h' }) → wpAny (model prog w) A (Builtin.SmallTypes.nextOf (.ref it)) Q E s
  fin : ∀ (A : Around) (E : Value → Shared → Prop) (s : Shared) (i : Nat) (Q : Value → Shared → Prop), A.handled = none → St i s.heap → xs[i]? = none → (∀ h' e, Heap.ExtBut it s.heap h' → (∃ o, h'.get? e = some o ∧ o.cls = .type "StopIteration") → E (.ref e) { s with heap := h' }) → wpAny (model prog w) A (Builtin.SmallTypes.nextOf (.ref it)) Q E s
  keep : ∀ i h h', St i h → (∀ o, h.get? it = some o → h'.get? it = some o) → (∀ o, h.get? l = some o → h'.get? l = some o) → St i h'
theorem walk_list (it l : Addr) (hne : l ≠ it) (xs : Array Value) : Walk1 prog w it l xs fun i h => h.IsListIter it l i ∧ h.IsList l xs where
  item := fun A E s i x Q st hx hQ => wpAny_nextOf_list_item st.1 st.2 hx fun h' a b => hQ h' ⟨a, st.2.extBut b.extBut hne⟩ b
  fin := fun A E s i Q hh st hx hE => wpAny_nextOf_list_end hh st.1 st.2 hx hE
  keep := fun i h h' st k1 k2 => ⟨st.1.at k1, by obtain ⟨o, ho, r⟩ := st.2; exact ⟨o, k2 o ho, r⟩⟩
theorem walk_tup (it l : Addr) (hne : l ≠ it) (xs : Array Value) : Walk1 prog w it l xs fun i h => h.IsTupleIter it l i ∧ h.IsTuple l xs where
  item := fun A E s i x Q st hx hQ => RZ.nextOf_tuple_item st.1 st.2 hx fun h' a b => hQ h' ⟨a, st.2.extBut b.extBut hne⟩ b
  fin := fun A E s i Q hh st hx hE => RZ.nextOf_tuple_end hh st.1 st.2 hx hE
  keep := fun i h h' st k1 k2 => ⟨st.1.at k1, by obtain ⟨o, ho, r⟩ := st.2; exact ⟨o, k2 o ho, r⟩⟩
variable {A : Around} {E : Value → Shared → Prop} {s : Shared} {z TI TO i1 i2 l1 l2 : Addr} {xs ys : Array Value} {S1 S2 : Nat → Heap → Prop}
/-- the zip's next: both give an item -/
theorem next_item {k : Nat} {x y a b : Value} {Q : Value → Shared → Prop} (D : ZipApart z TI TO i1 i2 l1 l2) (W1 : Walk1 prog w i1 l1 xs S1) (W2 : Walk1 prog w i2 l2 ys S2)
    (hz : IsZip s.heap z TI TO .none) (hTI : IsPair s.heap TI (.ref i1) (.ref i2)) (hTO : IsPair s.heap TO a b) (hi1 : i1 < s.heap.objs.size) (hi2 : i2 < s.heap.objs.size) (h1 : S1 k s.heap) (h2 : S2 k s.heap) (hx : xs[k]? = some x) (hy : ys[k]? = some y)
    (hQ : ∀ h', IsZip h' z TI TO (rawInt s.heap.objs.size) → IsPair h' TO x y → S1 (k + 1) h' → S2 (k + 1) h' → IsPair h' s.heap.objs.size x y → (∀ c o, c ≠ z → c ≠ TO → c ≠ i1 → c ≠ i2 → s.heap.get? c = some o → h'.get? c = some o) → Q (.ref s.heap.objs.size) { s with heap := h' }) :
    wpAny (model prog w) A (Builtin.«zip.__next__» ⟨[.ref z], []⟩) (fun fin s' => ∃ v, fin = .done (.ret v) ∧ Q v s') E s := by
  show wpAny _ _ (field (.ref z) 2 >>= _) _ _ _; refine wpAny_bind (wpAny_field hz rfl (x := .bool false) rfl ?_)
  show wpAny _ _ (field (.ref z) 3 >>= _) _ _ _; refine wpAny_bind (wpAny_field hz rfl (x := .ref TI) rfl (wpAny_bind (wpAny_seqItems hTI rfl ?_)))
  show wpAny _ _ (Builtin.SmallTypes.ownedTupleIsFree (.ref z) >>= _) _ _ _; refine wpAny_bind ?_
  unfold Builtin.SmallTypes.ownedTupleIsFree; refine wpAny_bind (wpAny_field hz rfl (x := .none) rfl (wpAny_pure ?_)); simp only [if_true]
  refine wpAny_bind (wpAny_rule (wpAny_bind (wpAny_field hz rfl (x := .ref TO) rfl (wpAny_bind (wpAny_setField_rec hz (by simp) fun g1 z1 c1 => ?_)))))
  replace z1 : IsZip g1 z TI TO .ellipsis := z1; refine wpAny_bind ?_; simp only [List.zipIdx_cons, List.zipIdx_nil, List.forIn_cons, List.forIn_nil]
  refine wpAny_bind (wpAny_bind (wpAny_onRaise ?_)); show wpAny _ _ (Builtin.SmallTypes.nextOf (.ref i1) >>= _) _ _ _
  have p1 : S1 k g1 := W1.keep k _ _ h1 (fun o e => c1.extBut _ _ D.i1z e) fun o e => c1.extBut _ _ D.l1z e
  refine wpAny_bind (W1.item _ _ _ k x _ p1 hx fun g2 p2 c2 => wpAny_pure ?_)
  have t2 : IsPair g2 TO a b := c2.extBut _ _ D.TOi1 (c1.extBut _ _ D.TOz hTO)
  refine wpAny_bind (wpAny_seqItems t2 rfl (wpAny_bind (wpAny_updateSeq_pair t2 fun g3 t3 c3 => ?_)))
  replace t3 : IsPair g3 TO x b := t3; refine wpAny_bind (wpAny_letGo (wpAny_pure ?_))
  refine wpAny_bind (wpAny_bind (wpAny_onRaise ?_)); show wpAny _ _ (Builtin.SmallTypes.nextOf (.ref i2) >>= _) _ _ _
  have q3 : S2 k g3 := W2.keep k _ _ h2 (fun o e => c3.extBut _ _ D.TOi2.symm (c2.extBut _ _ D.i12.symm (c1.extBut _ _ D.i2z e))) fun o e => c3.extBut _ _ D.l2TO (c2.extBut _ _ D.l2i1 (c1.extBut _ _ D.l2z e))
  refine wpAny_bind (W2.item _ _ _ k y _ q3 hy fun g4 q4 c4 => wpAny_pure ?_)
  have t4 : IsPair g4 TO x b := c4.extBut _ _ D.TOi2 t3
  refine wpAny_bind (wpAny_seqItems t4 rfl (wpAny_bind (wpAny_updateSeq_pair t4 fun g5 t5 c5 => ?_)))
  replace t5 : IsPair g5 TO x y := t5; refine wpAny_bind (wpAny_letGo (wpAny_pure (wpAny_pure ?_)))
  refine wpAny_bind (wpAny_seqItems t5 rfl (wpAny_bind (wpAny_newTuple ?_)))
  have sz : g5.objs.size = s.heap.objs.size := by rw [c5.1, c4.1, c3.1, c2.1, c1.1]
  have z5 : IsZip g5 z TI TO .ellipsis := c5.extBut _ _ D.TOz.symm (c4.extBut _ _ D.i2z.symm (c3.extBut _ _ D.TOz.symm (c2.extBut _ _ D.i1z.symm z1)))
  have k5 : ∀ c o, c ≠ z → c ≠ TO → c ≠ i1 → c ≠ i2 → s.heap.get? c = some o → g5.get? c = some o := fun c o n1 n2 n3 n4 e => c5.extBut _ _ n2 (c4.extBut _ _ n4 (c3.extBut _ _ n2 (c2.extBut _ _ n3 (c1.extBut _ _ n1 e))))
  have zl : z < g5.objs.size := Heap.lt_size z5
  show wpAny _ _ (Builtin.SmallTypes.ownedTupleHandOut (.ref z) (.ref g5.objs.size) >>= _) _ _ _; refine wpAny_bind ?_
  unfold Builtin.SmallTypes.ownedTupleHandOut
  refine wpAny_bind (wpAny_setField_rec (show IsZip (g5.push { cls := .type "tuple", data := .seq #[x, y] }) z TI TO .ellipsis from Heap.get?_push_of_some _ z5) (by simp) fun g7 z7 c7 => ?_)
  replace z7 : IsZip g7 z TI TO (rawInt g5.objs.size) := z7
  refine wpAny_setField_rec z7 (by simp) fun g8 z8 c8 => ?_
  replace z8 : IsZip g8 z TI TO (rawInt g5.objs.size) := z8
  have up : ∀ c o, c ≠ z → g5.get? c = some o → g8.get? c = some o := fun c o n e => c8.extBut _ _ n (c7.extBut _ _ n (Heap.get?_push_of_some _ e))
  have t8 : IsPair g8 g5.objs.size x y := c8.extBut _ _ (Nat.ne_of_gt zl) (c7.extBut _ _ (Nat.ne_of_gt zl) (Heap.get?_push_size _ rfl))
  have p8 : S1 (k + 1) g8 := W1.keep _ _ _ p2 (fun o e => up _ _ D.i1z (c5.extBut _ _ D.TOi1.symm (c4.extBut _ _ D.i12 (c3.extBut _ _ D.TOi1.symm e)))) fun o e => up _ _ D.l1z (c5.extBut _ _ D.l1TO (c4.extBut _ _ D.l1i2 (c3.extBut _ _ D.l1TO e)))
  have q8 : S2 (k + 1) g8 := W2.keep _ _ _ q4 (fun o e => up _ _ D.i2z (c5.extBut _ _ D.TOi2.symm e)) fun o e => up _ _ D.l2z (c5.extBut _ _ D.l2TO e)
  rw [sz] at z8 t8
  refine wpAny_pure ⟨_, rfl, ?_⟩; show Q (.ref g5.objs.size) _; rw [sz]
  exact hQ g8 z8 (up _ _ D.TOz t5) p8 q8 t8 fun c o n1 n2 n3 n4 e => up c o n1 (k5 c o n1 n2 n3 n4 e)
/-- the zip's next: one of them ends -/
theorem next_end {k : Nat} {a b : Value} {Q : Fin → Shared → Prop} (hh : A.handled = none) (D : ZipApart z TI TO i1 i2 l1 l2) (W1 : Walk1 prog w i1 l1 xs S1) (W2 : Walk1 prog w i2 l2 ys S2)
    (hz : IsZip s.heap z TI TO .none) (hTI : IsPair s.heap TI (.ref i1) (.ref i2)) (hTO : IsPair s.heap TO a b) (h1 : S1 k s.heap) (h2 : S2 k s.heap) (hend : xs[k]? = none ∨ ys[k]? = none)
    (hE : ∀ h' e, (∀ c o, c ≠ z → c ≠ TO → c ≠ i1 → c ≠ i2 → s.heap.get? c = some o → h'.get? c = some o) → (∃ o, h'.get? e = some o ∧ o.cls = .type "StopIteration") → E (.ref e) { s with heap := h' }) :
    wpAny (model prog w) A (Builtin.«zip.__next__» ⟨[.ref z], []⟩) Q E s := by
  show wpAny _ _ (field (.ref z) 2 >>= _) _ _ _; refine wpAny_bind (wpAny_field hz rfl (x := .bool false) rfl ?_)
  show wpAny _ _ (field (.ref z) 3 >>= _) _ _ _; refine wpAny_bind (wpAny_field hz rfl (x := .ref TI) rfl (wpAny_bind (wpAny_seqItems hTI rfl ?_)))
  show wpAny _ _ (Builtin.SmallTypes.ownedTupleIsFree (.ref z) >>= _) _ _ _; refine wpAny_bind ?_
  unfold Builtin.SmallTypes.ownedTupleIsFree; refine wpAny_bind (wpAny_field hz rfl (x := .none) rfl (wpAny_pure ?_)); simp only [if_true]
  refine wpAny_bind (wpAny_rule (wpAny_bind (wpAny_field hz rfl (x := .ref TO) rfl (wpAny_bind (wpAny_setField_rec hz (by simp) fun g1 z1 c1 => ?_)))))
  replace z1 : IsZip g1 z TI TO .ellipsis := z1; refine wpAny_bind ?_; simp only [List.zipIdx_cons, List.zipIdx_nil, List.forIn_cons, List.forIn_nil]
  refine wpAny_bind (wpAny_bind (wpAny_onRaise ?_)); show wpAny _ _ (Builtin.SmallTypes.nextOf (.ref i1) >>= _) _ _ _
  have p1 : S1 k g1 := W1.keep k _ _ h1 (fun o e => c1.extBut _ _ D.i1z e) fun o e => c1.extBut _ _ D.l1z e
  cases hx : xs[k]? with
  | none =>
    refine wpAny_bind (W1.fin _ _ _ k _ hh p1 hx fun g2 e c2 ⟨oe, hoe, hce⟩ => ?_)
    have z2 : IsZip g2 z TI TO .ellipsis := c2 _ _ D.i1z.symm z1
    have hez : e ≠ z := fun q => by subst q; rw [z2] at hoe; cases hoe; simp at hce
    exact wpAny_setField_rec z2 (by simp) fun g3 _ c3 => hE g3 e (fun c o n1 _ n3 _ q => c3.extBut _ _ n1 (c2 _ _ n3 (c1.extBut _ _ n1 q))) ⟨oe, c3.extBut _ _ hez hoe, hce⟩
  | some x =>
    have hy : ys[k]? = none := hend.elim (fun q => by rw [hx] at q; cases q) id
    refine wpAny_bind (W1.item _ _ _ k x _ p1 hx fun g2 p2 c2 => wpAny_pure ?_)
    have t2 : IsPair g2 TO a b := c2.extBut _ _ D.TOi1 (c1.extBut _ _ D.TOz hTO)
    refine wpAny_bind (wpAny_seqItems t2 rfl (wpAny_bind (wpAny_updateSeq_pair t2 fun g3 t3 c3 => wpAny_bind (wpAny_letGo (wpAny_pure ?_)))))
    refine wpAny_bind (wpAny_bind (wpAny_onRaise ?_)); show wpAny _ _ (Builtin.SmallTypes.nextOf (.ref i2) >>= _) _ _ _
    have q3 : S2 k g3 := W2.keep k _ _ h2 (fun o e => c3.extBut _ _ D.TOi2.symm (c2.extBut _ _ D.i12.symm (c1.extBut _ _ D.i2z e))) fun o e => c3.extBut _ _ D.l2TO (c2.extBut _ _ D.l2i1 (c1.extBut _ _ D.l2z e))
    refine wpAny_bind (W2.fin _ _ _ k _ hh q3 hy fun g4 e c4 ⟨oe, hoe, hce⟩ => ?_)
    have z4 : IsZip g4 z TI TO .ellipsis := c4 _ _ D.i2z.symm (c3.extBut _ _ D.TOz.symm (c2.extBut _ _ D.i1z.symm z1))
    have hez : e ≠ z := fun q => by subst q; rw [z4] at hoe; cases hoe; simp at hce
    exact wpAny_setField_rec z4 (by simp) fun g5 _ c5 => hE g5 e (fun c o n1 n2 n3 n4 q => c5.extBut _ _ n1 (c4 _ _ n4 (c3.extBut _ _ n2 (c2.extBut _ _ n3 (c1.extBut _ _ n1 q))))) ⟨oe, c5.extBut _ _ hez hoe, hce⟩
theorem py_item {k : Nat} {x y a b : Value} {Q : Option Value → Shared → Prop} (D : ZipApart z TI TO i1 i2 l1 l2) (W1 : Walk1 prog w i1 l1 xs S1) (W2 : Walk1 prog w i2 l2 ys S2)
    (hz : IsZip s.heap z TI TO .none) (hTI : IsPair s.heap TI (.ref i1) (.ref i2)) (hTO : IsPair s.heap TO a b) (hi1 : i1 < s.heap.objs.size) (hi2 : i2 < s.heap.objs.size) (h1 : S1 k s.heap) (h2 : S2 k s.heap) (hx : xs[k]? = some x) (hy : ys[k]? = some y)
    (hQ : ∀ h', IsZip h' z TI TO (rawInt s.heap.objs.size) → IsPair h' TO x y → S1 (k + 1) h' → S2 (k + 1) h' → IsPair h' s.heap.objs.size x y → (∀ c o, c ≠ z → c ≠ TO → c ≠ i1 → c ≠ i2 → s.heap.get? c = some o → h'.get? c = some o) → Q (some (.ref s.heap.objs.size)) { s with heap := h' }) : wpAny (model prog w) A (pyNext (.ref z)) Q E s := by
  have hT : s.TypeIs (.ref z) "zip" := ⟨_, hz, rfl⟩
  unfold pyNext
  exact wpAny_bind (wpAny_attempt (wpAny_callSpecial?_slot (name := Str.ofString "__next__") hT F.slot_zip_next (wpAny_call_entry F.slot_zip_next hT F.entry_zip_next (next_item D W1 W2 hz hTI hTO hi1 hi2 h1 h2 hx hy fun h' a1 a2 a3 a4 a5 a6 => wpAny_pure (hQ h' a1 a2 a3 a4 a5 a6)) (F.args_zip_next_1 _))))
theorem py_end {k : Nat} {a b : Value} {Q : Option Value → Shared → Prop} (hh : A.handled = none) (D : ZipApart z TI TO i1 i2 l1 l2) (W1 : Walk1 prog w i1 l1 xs S1) (W2 : Walk1 prog w i2 l2 ys S2)
    (hz : IsZip s.heap z TI TO .none) (hTI : IsPair s.heap TI (.ref i1) (.ref i2)) (hTO : IsPair s.heap TO a b) (h1 : S1 k s.heap) (h2 : S2 k s.heap) (hend : xs[k]? = none ∨ ys[k]? = none)
    (hQ : ∀ h', (∀ c o, c ≠ z → c ≠ TO → c ≠ i1 → c ≠ i2 → s.heap.get? c = some o → h'.get? c = some o) → Q none { s with heap := h' }) : wpAny (model prog w) A (pyNext (.ref z)) Q E s := by
  have hT : s.TypeIs (.ref z) "zip" := ⟨_, hz, rfl⟩
  unfold pyNext
  refine wpAny_bind (wpAny_attempt (wpAny_callSpecial?_slot (name := Str.ofString "__next__") hT F.slot_zip_next (wpAny_call_entry F.slot_zip_next hT F.entry_zip_next (next_end hh D W1 W2 hz hTI hTO h1 h2 hend fun h' e hk ⟨o, ho, hc⟩ => ?_) (F.args_zip_next_1 _))))
  exact wpAny_bind (wpAny_isInstance (T := "StopIteration") (b := true) ⟨o, ho, hc⟩ isSubtype_stop (wpAny_pure (hQ _ hk)))
end
/-- the heaps that zip(a list, a tuple) goes through -/
def g1 (h : Heap) (l : Addr) : Heap := h.push { cls := .type "list_iterator", data := .fields #[.ref l, .int 0 0] }
def g2 (h : Heap) (l m : Addr) : Heap := (g1 h l).push { cls := .type "tuple_iterator", data := .fields #[.ref m, .int 0 0] }
def g3 (h : Heap) (l m : Addr) : Heap := (g2 h l m).push { cls := .type "tuple", data := .seq #[.ref h.objs.size, .ref (g1 h l).objs.size] }
def g4 (h : Heap) (l m : Addr) : Heap := (g3 h l m).push { cls := .type "tuple", data := .seq #[.none, .none] }
def g5 (h : Heap) (l m : Addr) : Heap := (g4 h l m).push { cls := .type "zip", data := .fields #[.none, .bool false, .bool false, .ref (g2 h l m).objs.size, .ref (g3 h l m).objs.size] }
theorem meets_new (l m : Addr) (xs ys : Array Value) : Meets (Builtin.«zip.__new__» ⟨[.type "zip", .ref l, .ref m], []⟩) (fun _ R s => s.heap.IsList l xs ∧ s.heap.IsTuple m ys ∧ R (.ok (.ret (.ref (g4 s.heap l m).objs.size))) { s with heap := g5 s.heap l m }) :=
  .of_wp fun prog w A R s h => by
    obtain ⟨hp, g, d, tk, os⟩ := s; obtain ⟨hl1, hl2, h⟩ := h
    have hsub := sub_zip
    have hL1 : Heap.IsList (Shared.heap ⟨hp, g, d, tk, os⟩) l xs := hl1
    have hL2 : Heap.IsTuple (Shared.heap ⟨hp.push { cls := .type "list_iterator", data := .fields #[.ref l, .int 0 0] }, g, d, tk, os⟩) m ys := Heap.IsTuple.push hl2 _
    unfold g5 g4 g3 g2 g1 at h
    wp_walk using wpAny_pyIter_list hL1, wpAny_pyIter_tuple hL2
    exact ⟨_, rfl, h⟩
end ZiX
namespace ZiX
open PySem PySem.Spec PyProof.Rows L2
section
variable {prog : Program} {w : World} {A : Around} {E : Value → Shared → Prop} {s : Shared}
theorem call_zipM {l m : Addr} {xs ys : Array Value} {Q : Value → Shared → Prop} (hl : s.heap.IsList l xs) (hm : s.heap.IsTuple m ys)
    (h : ∀ h', IsZip h' (s.heap.objs.size + 4) (s.heap.objs.size + 2) (s.heap.objs.size + 3) .none → PySem.IsPair h' (s.heap.objs.size + 2) (.ref s.heap.objs.size) (.ref (s.heap.objs.size + 1)) → PySem.IsPair h' (s.heap.objs.size + 3) .none .none → h'.IsListIter s.heap.objs.size l 0 → h'.IsTupleIter (s.heap.objs.size + 1) m 0 →
      (∀ c o, s.heap.get? c = some o → h'.get? c = some o) → Q (.ref (s.heap.objs.size + 4)) { s with heap := h' }) : wpAny (model prog w) A (call (.type "zip") [.ref l, .ref m]) Q E s := by
  refine callType_new F.called_zip (by decide) (F.typeCall_zip_2 _ _) (F.newCall_zip_2 _ _) (fun obj => F.args_object_init_3 obj _ _) F.entry_zip_new (meets_new l m xs ys) ⟨hl, hm, ?_⟩
  have s1 : (g1 s.heap l).objs.size = s.heap.objs.size + 1 := Heap.size_push ..
  have s2 : (g2 s.heap l m).objs.size = s.heap.objs.size + 2 := (Heap.size_push ..).trans (by rw [s1])
  have s3 : (g3 s.heap l m).objs.size = s.heap.objs.size + 3 := (Heap.size_push ..).trans (by rw [s2])
  have s4 : (g4 s.heap l m).objs.size = s.heap.objs.size + 4 := (Heap.size_push ..).trans (by rw [s3])
  have a5 : (g5 s.heap l m).get? (g4 s.heap l m).objs.size = some _ := Heap.get?_push_size _ rfl
  have a4 : (g5 s.heap l m).get? (g3 s.heap l m).objs.size = some _ := Heap.get?_push_of_some _ (Heap.get?_push_size (g3 s.heap l m) rfl)
  have a3 : (g5 s.heap l m).get? (g2 s.heap l m).objs.size = some _ := Heap.get?_push_of_some _ (Heap.get?_push_of_some _ (Heap.get?_push_size (g2 s.heap l m) rfl))
  have a2 : (g5 s.heap l m).get? (g1 s.heap l).objs.size = some _ := Heap.get?_push_of_some _ (Heap.get?_push_of_some _ (Heap.get?_push_of_some _ (Heap.get?_push_size (g1 s.heap l) rfl)))
  have a1 : (g5 s.heap l m).get? s.heap.objs.size = some _ := Heap.get?_push_of_some _ (Heap.get?_push_of_some _ (Heap.get?_push_of_some _ (Heap.get?_push_of_some _ (Heap.get?_push_size s.heap rfl))))
  show _ ∧ _
  rw [s2, s3, s4] at a5
  rw [s1, s2] at a3
  rw [s3] at a4
  rw [s1] at a2
  rw [s4]
  exact ⟨⟨_, a5, rfl⟩, h _ a5 a3 a4 ⟨_, a1, rfl, rfl⟩ ⟨_, a2, rfl, rfl⟩ fun c o x => Heap.get?_push_of_some _ (Heap.get?_push_of_some _ (Heap.get?_push_of_some _ (Heap.get?_push_of_some _ (Heap.get?_push_of_some _ x))))⟩
end
/-- the list at a and the tuple at b as they stand at each turn, the items in new pairs -/
def ItM (K : PySem.W.Frag) (a b : Addr) : It :=
  ⟨fun i H => ∃ (xs ys : List V) (x y : V), SqL K H a xs ∧ SqT K H b ys ∧ xs[i]? = some x ∧ ys[i]? = some y,
    fun i H v H' => ∃ T x y, v = .ref T ∧ H T = none ∧ H' = upd H T (.tup [x, y]) ∧ (∀ xs, SqL K H a xs → xs[i]? = some x) ∧ ∀ ys, SqT K H b ys → ys[i]? = some y,
    fun i H => ∃ xs ys : List V, SqL K H a xs ∧ SqT K H b ys ∧ (xs.length ≤ i ∨ ys.length ≤ i)⟩
theorem turn_zipM {P : Program} {w : World} {K : PySem.W.Frag} {elts : List Expr} {kk : Nat} {tpos : Pos} {a b z TI TO i1 i2 : Addr} (D : ZipApart z TI TO i1 i2 a b) :
    Turn P w K (.Tuple elts kk tpos) (ItM K a b) [z, TI, TO, i1, i2] z (fun i h => IsZip h z TI TO .none ∧ PySem.IsPair h TI (.ref i1) (.ref i2) ∧ (∃ x y, PySem.IsPair h TO x y) ∧ h.IsListIter i1 a i ∧ h.IsTupleIter i2 b i) where
  mem := List.mem_cons_self
  obj := fun i h ⟨hz, hTI, ⟨x, y, hTO⟩, ⟨o1, e1, _, d1⟩, ⟨o2, e2, _, d2⟩⟩ c hc => by
    simp only [List.mem_cons, List.not_mem_nil, or_false] at hc
    rcases hc with rfl | rfl | rfl | rfl | rfl
    · exact ⟨_, hz, fun v q => nomatch q⟩
    · exact ⟨_, hTI, fun v q => nomatch q⟩
    · exact ⟨_, hTO, fun v q => nomatch q⟩
    · exact ⟨o1, e1, fun v q => by rw [d1] at q; cases q⟩
    · exact ⟨o2, e2, fun v q => by rw [d2] at q; cases q⟩
  keep := fun i h h' ⟨hz, hTI, ⟨x, y, hTO⟩, h1, h2⟩ k => ⟨k z (by simp) _ hz, k TI (by simp) _ hTI, ⟨x, y, k TO (by simp) _ hTO⟩, h1.at fun o q => k i1 (by simp) o q, h2.at fun o q => k i2 (by simp) o q⟩
  item := by
    intro X hP hw hK hc i pins s σ H E I hf ⟨hz, hTI, ⟨x0, y0, hTO⟩, h1, h2⟩ ⟨xs, ys, x, y, hqx, hqy, hx, hy⟩
    subst hP hw hK
    obtain ⟨its, rv, p, _⟩ := I.list hqx
    obtain ⟨its2, rv2, p2, _⟩ := I.tuple hqy
    obtain ⟨u, hu, ru⟩ := rv.get hx
    obtain ⟨u2, hu2, ru2⟩ := rv2.get hy
    have lz : z < s.heap.objs.size := Heap.lt_size hz
    have l1 : i1 < s.heap.objs.size := by obtain ⟨_, e, _⟩ := h1; exact Heap.lt_size e
    have l2 : i2 < s.heap.objs.size := by obtain ⟨_, e, _⟩ := h2; exact Heap.lt_size e
    refine py_item D (walk_list i1 a D.l1i1 its.toArray) (walk_tup i2 b D.l2i2 its2.toArray) hz hTI hTO l1 l2 ⟨h1, p.isList⟩ ⟨h2, p2⟩ (x := u) (y := u2) (by simpa using hu) (by simpa using hu2) fun h' z' TO' p1' p2' hT hk => ?_
    refine ⟨_, rfl, wpAny_letOwnedTupleGo_zip (s := { s with heap := h' }) z' fun h'' z'' sb => ?_⟩
    have hT2 : h''.get? s.heap.objs.size = some { cls := .type "tuple", data := .seq #[u, u2] } := (sb.2 _ (Nat.ne_of_gt lz)).trans hT
    have new : ObjOk X.prog X.w (upd H s.heap.objs.size (.tup [x, y])) h'' s.heap.objs.size (.tup [x, y]) := ⟨by show 2 ≤ sizeLine; decide, [u, u2], .cons ru (.cons ru2 .nil), ⟨_, hT2, rfl, _, rfl⟩⟩
    have nin : ∀ c, c ∉ ([z, TI, TO, i1, i2] : List Addr) → c ≠ z ∧ c ≠ TO ∧ c ≠ i1 ∧ c ≠ i2 := fun c hc => by simp only [List.mem_cons, List.not_mem_nil, or_false, not_or] at hc; exact ⟨hc.1, hc.2.2.1, hc.2.2.2.1, hc.2.2.2.2⟩
    have I1 : Inv X pins σ (upd H s.heap.objs.size (.tup [x, y])) { s with heap := h'' } := I.turnedNew (t' := s.toks) (ch := [z, TI, TO, i1, i2]) (fun c o hb q => let n := nin c hb; (sb.2 c n.1).trans (hk c o n.1 n.2.1 n.2.2.1 n.2.2.2 q)) hf (Nat.le_refl _) new
    refine ⟨.ref s.heap.objs.size, _, I1, rfl, ⟨_, x, y, rfl, I.hok.fresh (Nat.le_refl _), rfl, fun l hl => by rw [I.list_inj hl hqx]; exact hx, fun l hl => by rw [I.tuple_inj hl hqy]; exact hy⟩, ⟨z'', ?_, ⟨u, u2, (sb.2 _ D.TOz).trans TO'⟩, p1'.1.at fun o q => (sb.2 _ D.i1z).trans q, p2'.1.at fun o q => (sb.2 _ D.i2z).trans q⟩, fun c hcm => ?_⟩
    · exact (sb.2 _ D.TIz).trans (hk _ _ D.TIz D.TITO D.TIi1 D.TIi2 hTI)
    · have lt : c < s.heap.objs.size := by
        simp only [List.mem_cons, List.not_mem_nil, or_false] at hcm
        rcases hcm with rfl | rfl | rfl | rfl | rfl
        · exact lz
        · exact Heap.lt_size hTI
        · exact Heap.lt_size hTO
        · exact l1
        · exact l2
      rw [upd_ne (Nat.ne_of_lt lt)]
      exact (hf c hcm).1
  done := by
    intro X hP hw hK hc i pins s σ H E I hf ⟨hz, hTI, ⟨x0, y0, hTO⟩, h1, h2⟩ ⟨xs, ys, hqx, hqy, hend⟩
    subst hP hw hK
    obtain ⟨its, rv, p, _⟩ := I.list hqx
    obtain ⟨its2, rv2, p2, _⟩ := I.tuple hqy
    have e1 := rv.length
    have e2 := rv2.length
    have he : its.toArray[i]? = none ∨ its2.toArray[i]? = none := hend.imp (fun q => by simp; omega) fun q => by simp; omega
    have nin : ∀ c, c ∉ ([z, TI, TO, i1, i2] : List Addr) → c ≠ z ∧ c ≠ TO ∧ c ≠ i1 ∧ c ≠ i2 := fun c hc => by simp only [List.mem_cons, List.not_mem_nil, or_false, not_or] at hc; exact ⟨hc.1, hc.2.2.1, hc.2.2.2.1, hc.2.2.2.2⟩
    exact py_end (I.ok.hd hc) D (walk_list i1 a D.l1i1 its.toArray) (walk_tup i2 b D.l2i2 its2.toArray) hz hTI hTO ⟨h1, p.isList⟩ ⟨h2, p2⟩ he fun h' hk => ⟨rfl, I.turnedL (t' := s.toks) (ch := [z, TI, TO, i1, i2]) (fun c o hb q => let n := nin c hb; hk c o n.1 n.2.1 n.2.2.1 n.2.2.2 q) hf⟩
  self := fun A i s Q E st h => wpAny_pyIter_zip st.1 h
def iZipM (K : PySem.W.Frag) (ta : TA) : TI := fun σ H R => ta σ H fun vs H1 => ∃ a b xs ys, vs = [.ref a, .ref b] ∧ SqL K H1 a xs ∧ SqT K H1 b ys ∧ R (ItM K a b) H1
theorem pi_zipM {X : Cx} {e e2 : Expr} {ta : TA} {p pos tpos : Pos} {elts : List Expr} {kk : Nat} (hg : Gl X "zip") (hm : X.mg "zip" = none) (ha : PA X [e, e2] ta)
    (hs : starEach [e, e2] X.env = (false, eval e X.env) :: starEach [e2] X.env := by rfl) (hpl : (backTo pos (starEach [e2] X.env)).any (·.1) = false := by rfl) :
    PI X (.Tuple elts kk tpos) (.Call (.Name "zip" p) [e, e2] [] pos) (iZipM X.K ta) := by
  refine ⟨fun pins s σ H R I h => Call_ (ld_blt I hg hm PyProof.Rows.boot_zip (PyProof.Rows.callWith_type1 (thn (ha.run pos pins s σ H _ I h) fun us s1 ⟨vs, H1, I1, r1, a, b, xs, ys, ex, hqx, hqy, q⟩ => ?_) hs hpl))⟩
  subst ex
  obtain ⟨u, u', rfl, ru, ru'⟩ := vals2 r1
  cases ru
  cases ru'
  obtain ⟨its, rv, p1, _⟩ := I1.list hqx
  obtain ⟨its2, rv2, p2, _⟩ := I1.tuple hqy
  obtain ⟨o2, ho2, _⟩ := id p2
  refine call_zipM p1.isList (show s1.heap.IsTuple b its2.toArray from p2) fun h' hz hTI hTO h1 h2 hk => wpAny_pyIter_zip hz ?_
  refine ⟨s1.heap.objs.size + 4, [s1.heap.objs.size + 4, s1.heap.objs.size + 2, s1.heap.objs.size + 3, s1.heap.objs.size, s1.heap.objs.size + 1], _, _, H1, rfl, I1.kept (t' := s1.toks) hk, turn_zipM (PySem.W.ktu_apart s1.heap.objs.size a b p1.lt (Heap.lt_size ho2)), ⟨hz, hTI, ⟨_, _, hTO⟩, h1, h2⟩, fun c hcm => ?_, q⟩
  have hle : s1.heap.objs.size ≤ c := by
    simp only [List.mem_cons, List.not_mem_nil, or_false] at hcm
    rcases hcm with rfl | rfl | rfl | rfl | rfl <;> first | exact Nat.le_add_right _ _ | exact Nat.le_refl _
  exact I1.fpOk hle (I1.hok.fresh hle)
end ZiX
/-! own in-place operators; o[i] = v by __setitem__; o.f op= e -/
namespace Cl
open PySem PySem.Spec PySem.Calls PyProof.Rows L2 Px
section
variable {X : Cx} {CX : CXT} {k : Nat} {f C : Addr} {sp : Sp} {E : L2.St → XK}
def AltN (X : Cx) (op : Operator) (C : Addr) (sp : Sp) (E : L2.St → XK) : Prop := ∀ (pins : List (Addr × Obj)) (s : Shared) (σ : L2.St) (H : Hp) (a dx : Addr) (fs : List (Str × V)) (y : V) (u : Value) (Q : VK), Inv X pins σ H s → H a = some (.ins C dx fs) → RelV y u → sp [.ref a, y] H Q (E σ) →
  wpAny (model X.prog X.w) X.A (inplaceOp op (.ref a) u) (EP X pins σ Q) X.xe s
theorem alt_inp {op : Operator} {md : Str} (e : dunderI op.info.2 = md) (o : OwnOp X.K C md f) (F : FnR X.prog X.w X.K X.mg X.base CX k f sp) (hr : Room k X.A) (hx : ∀ σ, PassesAt CX X σ (E σ)) : AltN X op C sp E := by
  subst e
  intro pins s σ H a dx fs y u Q I ha ry h
  obtain ⟨mA, J, _⟩ := ins_get I.hok ha
  obtain ⟨od, J, _⟩ := J.look
  obtain ⟨m, hF⟩ := I.fr
  exact PySem.W.ksp_inplace hF I.ok.mod.kin J o.sf o.at_ o.fn (wpAny_mono (run_RS F hr (hx σ) I (show Vals [V.ref a, y] [Value.ref a, u] from .cons rfl (.cons ry .nil)) h) (fun _ _ z => back_of z) fun _ _ z => z)
inductive AltNs (X : Cx) (op : Operator) (E : L2.St → XK) : List (Addr × Sp) → Prop
  | nil : AltNs X op E []
  | cons {C : Addr} {sp : Sp} {l : List (Addr × Sp)} : AltN X op C sp E → AltNs X op E l → AltNs X op E ((C, sp) :: l)
theorem AltNs.at {op : Operator} {l : List (Addr × Sp)} (h : AltNs X op E l) : ∀ {i : Nat} {C : Addr} {sp : Sp}, l[i]? = some (C, sp) → AltN X op C sp E := by
  induction h with
  | nil => intro i C sp e; cases e
  | cons h _ ih =>
    intro i C sp e
    cases i with
    | zero => cases e; exact h
    | succ i => exact ih (by simpa using e)
/-- x op= y: by the built-in kinds, or by x's own class -/
def rInp (l : List (Addr × Sp)) (E : L2.St → XK) (base : R2) : R2S := fun σ x y H Q => base x y H Q ∨ ∃ (i : Nat) (C : Addr) (sp : Sp) (a dx : Addr) (fs : List (Str × V)), l[i]? = some (C, sp) ∧ x = .ref a ∧ H a = some (.ins C dx fs) ∧ sp [.ref a, y] H Q (E σ)
theorem iop_own {op : Operator} {l : List (Addr × Sp)} {base : R2} (h : AltNs X op E l) (hb : OpR X (inplaceOp op) base) : OpS X (inplaceOp op) (rInp l E base) := by
  intro pins s σ H x y v u Q I rx ry q
  rcases q with q | ⟨i, C, sp, a, dx, fs, hl, rfl, ha, q⟩
  · exact hb pins s σ H x y v u Q I rx ry q
  · cases rx
    exact h.at hl pins s σ H a dx fs y u Q I ha ry q
/-- ints op= -/
theorem iop_addP : OpR X (inplaceOp .Add) (rIn0 fun i j => .int (i + j)) := OpR.in0 iop_add
theorem iop_subP : OpR X (inplaceOp .Sub) (rIn0 fun i j => .int (i - j)) := OpR.in0 iop_sub
/-- o[i] = v -/
def gSubO (to ti : TE) (ts : L2.St → TSet) : TG := fun v σ H Q => to σ H fun o H1 => ti σ H1 fun i H2 => ts σ o i v H2 fun H3 => Q σ H3
def PSetS (X : Cx) (t : L2.St → TSet) : Prop := ∀ (pins : List (Addr × Obj)) (s : Shared) (σ : L2.St) (H : Hp) (o i v : V) (ov iv u : Value) (Q : Hp → Prop), Inv X pins σ H s → RelV o ov → RelV i iv → RelV v u → t σ o i v H Q → wpAny (model X.prog X.w) X.A (setItem ov iv u) (fun _ s' => ∃ H', Inv X pins σ H' s' ∧ Q H') X.xe s
theorem pg_subO {o i : Expr} {to ti : TE} {t : L2.St → TSet} {pos : Pos} (ho : PE X o to) (hi : PE X i ti) (hs : PSetS X t)
    (ha : ∀ v, assign (.Subscript o i pos) X.env v = (do let ov ← holding [v] (eval o X.env); let iv ← holding [v, ov] (eval i X.env); standAt pos; holding [v, ov, iv] (setItem ov iv v); release [v, ov, iv] []) := by intro _; rfl) : PG X (.Subscript o i pos) (gSubO to ti t) := by
  refine ⟨fun pins s σ H v u Q I r h => ?_⟩
  rw [ha]
  refine wpAny_bind (wpAny_holding (thn (ho.run pins s σ H _ I h) fun ov s1 ⟨x, H1, I1, r1, q1⟩ => wpAny_bind (wpAny_holding (thn (hi.run pins s1 σ H1 _ I1 q1) fun iv s2 ⟨y, H2, I2, r2, q2⟩ => ?_))))
  refine wpAny_bind (wpAny_standAt (wpAny_bind (wpAny_holding (thn (hs pins s2 σ H2 x y v ov iv u _ I2 r1 r2 r q2) fun _ s3 ⟨H3, I3, q3⟩ => ?_))))
  exact wpAny_release ⟨σ, H3, I3, q3⟩
def AltS (X : Cx) (C : Addr) (sp : Sp) (E : L2.St → XK) : Prop := ∀ (pins : List (Addr × Obj)) (s : Shared) (σ : L2.St) (H : Hp) (a dx : Addr) (fs : List (Str × V)) (y z : V) (u w : Value) (Q : Hp → Prop), Inv X pins σ H s → H a = some (.ins C dx fs) → RelV y u → RelV z w → sp [.ref a, y, z] H (fun _ H' => Q H') (E σ) →
  wpAny (model X.prog X.w) X.A (setItem (.ref a) u w) (fun _ s' => ∃ H', Inv X pins σ H' s' ∧ Q H') X.xe s
theorem alt_set (nq : PySem.W.noSeq X.K C = true) (o : OwnOp X.K C "__setitem__" f) (F : FnR X.prog X.w X.K X.mg X.base CX k f sp) (hr : Room k X.A) (hx : ∀ σ, PassesAt CX X σ (E σ)) : AltS X C sp E := by
  intro pins s σ H a dx fs y z u w Q I ha ry rz h
  obtain ⟨mA, J, _⟩ := ins_get I.hok ha
  obtain ⟨od, J, _⟩ := J.look
  obtain ⟨m, hF⟩ := I.fr
  exact PySem.W.ksp_setItem hF I.ok.mod.kin J nq o.at_ o.fn (wpAny_mono (run_RS F hr (hx σ) I (show Vals [V.ref a, y, z] [Value.ref a, u, w] from .cons rfl (.cons ry (.cons rz .nil))) h) (fun _ s' ⟨_, H', I', _, q⟩ => ⟨H', I', q⟩) fun _ _ z => z)
inductive AltSs (X : Cx) (E : L2.St → XK) : List (Addr × Sp) → Prop
  | nil : AltSs X E []
  | cons {C : Addr} {sp : Sp} {l : List (Addr × Sp)} : AltS X C sp E → AltSs X E l → AltSs X E ((C, sp) :: l)
theorem AltSs.at {l : List (Addr × Sp)} (h : AltSs X E l) : ∀ {i : Nat} {C : Addr} {sp : Sp}, l[i]? = some (C, sp) → AltS X C sp E := by
  induction h with
  | nil => intro i C sp e; cases e
  | cons h _ ih =>
    intro i C sp e
    cases i with
    | zero => cases e; exact h
    | succ i => exact ih (by simpa using e)
def rSetO (l : List (Addr × Sp)) (E : L2.St → XK) : L2.St → TSet := fun σ o i v H Q => rSetP o i v H Q ∨ ∃ (j : Nat) (C : Addr) (sp : Sp) (a dx : Addr) (fs : List (Str × V)), l[j]? = some (C, sp) ∧ o = .ref a ∧ H a = some (.ins C dx fs) ∧ sp [.ref a, i, v] H (fun _ H' => Q H') (E σ)
theorem set_own {l : List (Addr × Sp)} (hu : X.A.units + 64 < cLine) (h : AltSs X E l) : PSetS X (rSetO l E) := by
  intro pins s σ H o i v ov iv u Q I ro ri rv q
  rcases q with q | ⟨j, C, sp, a, dx, fs, hl, rfl, ha, q⟩
  · exact set_P hu pins s σ H o i v ov iv u Q I ro ri rv q
  · cases ro
    exact h.at hl pins s σ H a dx fs i v iv u Q I ha ri rv q
/-- o.f op= e, by o's class -/
def sAttA (l : List Addr) (ta tv : TE) (rd : R2) (f : Str) : TS := fun D σ H => ta σ H fun x H1 => ∃ a C dx fs v, x = .ref a ∧ C ∈ l ∧ H1 a = some (.ins C dx fs) ∧ fs.lookup f = some v ∧ tv σ H1 fun y H2 => rd v y H2 fun z H3 => ∃ dx' fs', H3 a = some (.ins C dx' fs') ∧ fs'.length < 1000 ∧ D.nx σ (upd H3 a (.ins C dx' (putF f z fs')))
theorem ps_attA {l : List Addr} {o value : Expr} {ta tv : TE} {fn : Str} {tpos pos : Pos} {op : Operator} {rd : R2} (h : ∀ C ∈ l, Cls X.K C ∧ NoAttr X.K C fn) (ha : PE X o ta) (hv : PE X value tv) (hop : OpR X (inplaceOp op) rd) : PS X (.AugAssign (.Attribute o fn tpos) op value pos) (sAttA l ta tv rd fn) := by
  refine ⟨fun pins s σ H D I q0 => wpAny_AugAssign_AttributeAny (thn (ha.run pins s σ H _ I q0) fun ov s1 ⟨x, H1, I1, rx, a, C, dx, fs, v, ex, hC, ea, l, q⟩ => ?_)⟩
  subst ex
  obtain rfl : ov = Value.ref a := rx
  have ⟨c, n⟩ := h C hC
  exact getattr_ok I1 ea c n l fun u s2 I2 ru => thn (hv.run pins s2 σ H1 _ I2 q) fun w3 s3 ⟨y, H2, I3, ry, q3⟩ => thn (hop pins s3 σ H2 v y u w3 _ I3 ru ry q3) fun w4 s4 ⟨z, H3, I4, rz, dx', fs', ea', l', q4⟩ => setattr_ok I4 ea' c n l' rz fun s5 I5 => ⟨σ, _, I5, q4⟩
end
end Cl
namespace Hk
open PySem PySem.Spec PySem.W PyProof.Rows L2 He
theorem di_xor : dunderI Operator.BitXor.info.2 = ("__ixor__" : PySem.Str) := by decide +kernel
theorem di_and : dunderI Operator.BitAnd.info.2 = ("__iand__" : PySem.Str) := by decide +kernel
theorem di_or : dunderI Operator.BitOr.info.2 = ("__ior__" : PySem.Str) := by decide +kernel
end Hk
namespace Px
open PySem PySem.Spec PyProof.Rows L2
section
variable {σ : L2.St} {H : Hp} {D : Ends} {v : V} {QS : L2.St → Hp → Prop} {ta tv td ty : TE}
theorem s_gsubO {to ti : TE} {ts : L2.St → TSet} (h : to σ H fun o H1 => ti σ H1 fun i H2 => ts σ o i v H2 fun H3 => QS σ H3) : Cl.gSubO to ti ts v σ H QS := h
theorem s_attA {l : List Addr} {rd : R2} {f : Str} (h : ta σ H fun x H1 => ∃ a C dx fs v, x = .ref a ∧ C ∈ l ∧ H1 a = some (.ins C dx fs) ∧ fs.lookup f = some v ∧ tv σ H1 fun y H2 => rd v y H2 fun z H3 => ∃ dx' fs', H3 a = some (.ins C dx' fs') ∧ fs'.length < 1000 ∧ D.nx σ (upd H3 a (.ins C dx' (putF f z fs')))) : Cl.sAttA l ta tv rd f D σ H := h
theorem s_ddel (h : td σ H fun x H1 => ty σ H1 fun y H2 => ∃ a kvs k, x = .ref a ∧ H2 a = some (.dK kvs) ∧ y = kV k ∧ (valV kvs k).isSome = true ∧ D.nx σ (upd H2 a (.dK (dropK kvs k)))) : sDDel td ty D σ H := h
end
end Px
/-! the alternatives by classes, answered by membership -/
namespace Px
open PySem PySem.Spec PyProof.Rows L2
section
variable {K : PySem.W.Frag} {σ : L2.St} {H : Hp} {Q : VK} {C a dx : Addr} {fs : List (Str × V)} {sp spr : Sp} {E : L2.St → XK} {y : V}
theorem ix_of {α : Type} {l : List α} {x : α} (h : x ∈ l) : ∃ i : Nat, l[i]? = some x := List.mem_iff_getElem?.mp h
theorem att_go {l : List (Addr × Cl.Alt)} {r : Cl.Alt} (hm : (C, r) ∈ l) (ha : H a = some (.ins C dx fs)) (h : r a fs σ H Q) : ∃ (a' dx : Addr) (fs : List (Str × V)) (i : Nat) (C : Addr) (r : Cl.Alt), V.ref a = .ref a' ∧ l[i]? = some (C, r) ∧ H a' = some (.ins C dx fs) ∧ r a' fs σ H Q := by
  obtain ⟨i, hi⟩ := ix_of hm
  exact ⟨a, dx, fs, i, C, r, rfl, hi, ha, h⟩
theorem s_raise {D : Ends} {W : WX} {f : Str} {ta : TA} (h : ta σ H fun vs H1 => ∃ v, vs = [v] ∧ ∀ d, H1 d = none → W (.ref C) (some d) σ (upd H1 d (.xd [(f, v)]))) : tRaiseE C f W ta D σ H := h
theorem fld_go (f : Str) {v : V} {l : List (Addr × Cl.Alt)} (hm : (C, Cl.aFld f) ∈ l) (ha : H a = some (.ins C dx fs)) (hl : fs.lookup f = some v) (h : Q v H) : ∃ (a' dx : Addr) (fs : List (Str × V)) (i : Nat) (C : Addr) (r : Cl.Alt), V.ref a = .ref a' ∧ l[i]? = some (C, r) ∧ H a' = some (.ins C dx fs) ∧ r a' fs σ H Q := att_go hm ha ⟨v, hl, h⟩
theorem con_go (f : Str) (v : V) {l : List (Addr × Cl.Alt)} (hm : (C, Cl.aCon f v) ∈ l) (ha : H a = some (.ins C dx fs)) (hl : fs.lookup f = none) (h : Q v H) : ∃ (a' dx : Addr) (fs : List (Str × V)) (i : Nat) (C : Addr) (r : Cl.Alt), V.ref a = .ref a' ∧ l[i]? = some (C, r) ∧ H a' = some (.ins C dx fs) ∧ r a' fs σ H Q := att_go hm ha ⟨hl, h⟩
theorem prop_go (sp : Sp) {l : List (Addr × Cl.Alt)} (hm : (C, Cl.aProp sp) ∈ l) (ha : H a = some (.ins C dx fs)) (h : sp [.ref a] H Q E0) : ∃ (a' dx : Addr) (fs : List (Str × V)) (i : Nat) (C : Addr) (r : Cl.Alt), V.ref a = .ref a' ∧ l[i]? = some (C, r) ∧ H a' = some (.ins C dx fs) ∧ r a' fs σ H Q := att_go hm ha h
theorem meth_go (sp : Sp) {l : List (Addr × Sp)} {m : Str} {t : TA} (hm : (C, sp) ∈ l) (ha : H a = some (.ins C dx fs)) (hn : fs.lookup m = none) (h : t σ H fun vs H2 => sp (.ref a :: vs) H2 Q (E σ)) : ∃ (i : Nat) (C : Addr) (sp : Sp) (a' dx : Addr) (fs : List (Str × V)), l[i]? = some (C, sp) ∧ V.ref a = .ref a' ∧ H a' = some (.ins C dx fs) ∧ fs.lookup m = none ∧ t σ H fun vs H2 => sp (.ref a' :: vs) H2 Q (E σ) := by
  obtain ⟨i, hi⟩ := ix_of hm
  exact ⟨i, C, sp, a, dx, fs, hi, rfl, ha, hn, h⟩
theorem ixO_go (sp : Sp) {l : List (Addr × Sp)} {base : R2} (hm : (C, sp) ∈ l) (ha : H a = some (.ins C dx fs)) (h : sp [.ref a, y] H Q (E σ)) : Cl.rIxO l E base σ (.ref a) y H Q := by
  obtain ⟨i, hi⟩ := ix_of hm
  exact .inr ⟨i, C, sp, a, dx, fs, hi, rfl, ha, h⟩
theorem inp_go (sp : Sp) {l : List (Addr × Sp)} {base : R2} (hm : (C, sp) ∈ l) (ha : H a = some (.ins C dx fs)) (h : sp [.ref a, y] H Q (E σ)) : Cl.rInp l E base σ (.ref a) y H Q := by
  obtain ⟨i, hi⟩ := ix_of hm
  exact .inr ⟨i, C, sp, a, dx, fs, hi, rfl, ha, h⟩
theorem set_go (sp : Sp) {l : List (Addr × Sp)} {k v : V} {QH : Hp → Prop} (hm : (C, sp) ∈ l) (ha : H a = some (.ins C dx fs)) (h : sp [.ref a, k, v] H (fun _ H' => QH H') (E σ)) : Cl.rSetO l E σ (.ref a) k v H QH := by
  obtain ⟨i, hi⟩ := ix_of hm
  exact .inr ⟨i, C, sp, a, dx, fs, hi, rfl, ha, h⟩
theorem in_go (sp : Sp) {l : List (Addr × Sp)} {base : R2} {neg : Bool} {x : V} (hm : (C, sp) ∈ l) (ha : H a = some (.ins C dx fs)) (h : sp [.ref a, x] H (fun z H' => ∃ c, z = .bl c ∧ Q (.bl (tgtIn neg c)) H') (E σ)) : Cl.rOwnI l E neg base σ x (.ref a) H Q := by
  obtain ⟨i, hi⟩ := ix_of hm
  exact .inr ⟨i, C, sp, a, dx, fs, hi, rfl, ha, h⟩
theorem own2_go (sp : Sp) {l : List (Addr × Sp)} {base : R2} {b dy : Addr} {gs : List (Str × V)} (hm : (C, sp) ∈ l) (ha : H a = some (.ins C dx fs)) (hb : H b = some (.ins C dy gs)) (h : sp [.ref a, .ref b] H Q (E σ)) : Cl.rOwn2 l E base σ (.ref a) (.ref b) H Q := by
  obtain ⟨i, hi⟩ := ix_of hm
  exact .inr ⟨i, C, sp, a, b, dx, dy, fs, gs, hi, rfl, rfl, ha, hb, h⟩
theorem ownK_go {l : List (Addr × Str)} {f : Str} {d : Addr} {kvs : List (Key × V)} (hm : (C, f) ∈ l) (ha : H a = some (.ins C dx fs)) (hf : fs.lookup f = some (.ref d)) (hd : H d = some (.dK kvs)) (hn : kvs.length ≤ 1000000) : Cl.OwnK l (.ref a) H kvs := by
  obtain ⟨i, hi⟩ := ix_of hm
  exact ⟨i, C, f, a, dx, d, fs, hi, rfl, ha, hf, hd, hn⟩
theorem listK_go {l : List (Addr × Str)} {kvs : List (Key × V)} (h : Cl.OwnK l (.ref a) H kvs) (hq : ∀ q, H q = none → Q (.ref q) (upd H q (.lst (kvs.map fun p => kV p.1)))) : Cl.rListK K l [.ref a] H Q := .inr ⟨_, kvs, rfl, h, hq⟩
theorem lenK_go {l : List (Addr × Str)} {kvs : List (Key × V)} (h : Cl.OwnK l (.ref a) H kvs) (hq : Q (.int kvs.length) H) : Cl.rLenK K l [.ref a] H Q := .inr ⟨_, kvs, rfl, h, hq⟩
theorem setA_go {l : List Addr} {D : Ends} {f : Str} {v : V} (hm : C ∈ l) (ha : H a = some (.ins C dx fs)) (hl : fs.length < 1000) (h : D.nx σ (upd H a (.ins C dx (putF f v fs)))) : ∃ a' C dx fs, V.ref a = .ref a' ∧ C ∈ l ∧ H a' = some (.ins C dx fs) ∧ fs.length < 1000 ∧ D.nx σ (upd H a' (.ins C dx (putF f v fs))) := ⟨a, C, dx, fs, rfl, hm, ha, hl, h⟩
theorem s_lstRg2 {ta tb : TE} (h : ta σ H fun x H1 => tb σ H1 fun y H2 => ∃ i j, x = .int i ∧ y = .int j ∧ RgOk i j ∧ ∀ q, H2 q = none → Q (.ref q) (upd H2 q (.lst (rgV i j)))) : tLstRg (tRg2 ta tb) σ H Q := h
theorem s_lstRg1 {ta : TE} (h : ta σ H fun x H1 => ∃ n, x = .int n ∧ RgOk 0 n ∧ ∀ q, H1 q = none → Q (.ref q) (upd H1 q (.lst (rgV 0 n)))) : tLstRg (tRg1 ta) σ H Q := h
theorem s_makeK {m : Nat} {spK : List V → Sp} {te : TE} {tk : TA} (h : te σ H fun y H1 => tk σ H1 fun zs H2 => ∃ a xs, y = .ref a ∧ zs.length = m ∧ (SqT K H2 a xs ∨ SqL K H2 a xs) ∧ ∀ x dx, H2 x = none → H2 dx = none → dx ≠ x → spK zs (V.ref x :: xs) (upd (upd H2 dx (.own x)) x (.ins C dx [])) (fun v H3 => v = .non ∧ Q (.ref x) H3) (E σ)) : Cl.tMakeSK K C m spK E te tk σ H Q := h
theorem s_lc2 {te0 te : TE} {g g1 : TG} {tt tt1 : TT} {wi1 : TI} {vs vs1 : List Nat} (h : te0 σ H fun x H1 => Cl.AnyB K x H1 (L2B g tt wi1 g1 tt1 te vs vs1 σ Q)) : tLc2 (iAnyP K te0) g tt wi1 g1 tt1 te vs vs1 σ H Q := h
theorem s_anyB {te0 : TE} {R : L2.It → Hp → Prop} (h : te0 σ H fun x H1 => Cl.AnyB K x H1 R) : iAnyP K te0 σ H R := h
theorem anyB_items {x : V} {xs : List V} {R : L2.It → Hp → Prop} (hx : Items K H x xs) (h : ∀ J, (∀ i H', Same H H' → YieldsAt J xs i H') → R J H) : Cl.AnyB K x H R := by
  unfold Cl.AnyB
  cases x <;> first
    | exact False.elim hx
    | (have e : xs = _ := hx
       subst e
       exact h _ fun i H _ => yields_str _ i H)
    | (rcases hx with hx | hx
       · exact .inl ⟨⟨xs, hx⟩, h _ fun i H s => yields_list (s.seq hx) i⟩
       · exact .inr ⟨⟨xs, hx⟩, h _ fun i H s => yields_tup (Same.sqT s hx) i⟩)
/-- .. the inner items stood there before -/
theorem anyB_old {H0 : Hp} {x : V} {xs : List V} {R : L2.It → Hp → Prop} (hs : Same H0 H) (hx : Items K H0 x xs) (h : ∀ J, (∀ i H', Same H0 H' → YieldsAt J xs i H') → R J H) : Cl.AnyB K x H R := by
  unfold Cl.AnyB
  cases x <;> first
    | exact False.elim hx
    | (have e : xs = _ := hx
       subst e
       exact h _ fun i H _ => yields_str _ i H)
    | (rcases hx with hx | hx
       · exact .inl ⟨⟨xs, hs.seq hx⟩, h _ fun i H s => yields_list (s.seq hx) i⟩
       · exact .inr ⟨⟨xs, Same.sqT hs hx⟩, h _ fun i H s => yields_tup (Same.sqT s hx) i⟩)
end
end Px
/-! classmethods: C.m(..); inside one: cls(), cls.f -/
namespace Cl
open PySem PySem.Spec PySem.Calls PyProof.Rows L2 Px
/-- C.m(e, ..), m a classmethod of the class at C -/
def tCMethS (C : Addr) (sp : Sp) (E : L2.St → XK) (ta : TE) (t : TA) : TE := fun σ H Q => ta σ H fun x H1 => x = .ref C ∧ t σ H1 fun vs H2 => sp (.ref C :: vs) H2 Q (E σ)
/-- v(), v the class at C -/
def tMakeV (C : Addr) (sp : Sp) (E : L2.St → XK) (ta : TE) : TE := fun σ H Q => ta σ H fun y H1 => y = .ref C ∧ ∀ x dx, H1 x = none → H1 dx = none → dx ≠ x → sp [V.ref x] (upd (upd H1 dx (.own x)) x (.ins C dx [])) (fun v H2 => v = .non ∧ Q (.ref x) H2) (E σ)
/-- v.f, v the class at C, f a constant of it -/
def tClsV (C : Addr) (v : V) (ta : TE) : TE := fun σ H Q => ta σ H fun y H1 => y = .ref C ∧ Q v H1
section
variable {X : Cx} {CX : CXT} {k : Nat} {C p g : Addr} {mc : Value} {sp : Sp} {E : L2.St → XK} {o e : Expr} {es : List Expr} {f m : Str} {pos apos : Pos} {ta : TE} {t : TA} {pl : Sem Bool}
theorem run_cmS {pins : List (Addr × Obj)} {σ : L2.St} {H : Hp} {s : Shared} {q : Addr} {Q : VK} {us : List Value} {vs : List V} (F : FnR X.prog X.w X.K X.mg X.base CX k g sp) (hr : Room k X.A) (hx : PassesAt CX X σ (E σ)) (I : Inv X ((q, PySem.W.methodObj (.ref g) (.ref C)) :: pins) σ H s)
    (r : Vals vs us) (h : sp (.ref C :: vs) H Q (E σ)) : wpAny (model X.prog X.w) X.A (call (.ref q) us) (EP X pins σ Q) X.xe s := by
  have z : wpAny (model X.prog X.w) X.A (call (.ref q) us) (EP X ((q, PySem.W.methodObj (.ref g) (.ref C)) :: pins) σ Q) X.xe s :=
    wpAny_call (PySem.W.method_call (ClX.pin_at I) (codeAny_mono (F X.A X.stack s H (.ref C :: us) (.ref C :: vs) Q (E σ) hr I.env0 (.cons rfl r) h) fun r s' hq => by
      cases r with
      | error e => exact hx _ H s e s' I hq
      | ok fl =>
        cases fl with
        | ret u => exact I.after hq
        | _ => exact hq.elim))
  exact thn z fun _ _ y => ClX.unpinE y
theorem pe_cmethS (he : PE X o ta) (r : ClX.CRead X.K C mc) (c : ClX.CMet X.K C mc m p g) (F : FnR X.prog X.w X.K X.mg X.base CX k g sp) (hr : Room k X.A) (hx : ∀ σ, PassesAt CX X σ (E σ)) (ha : PA X (e :: es) t)
    (hst : starEach (e :: es) X.env = (false, eval e X.env) :: starEach es X.env := by rfl) (hpl : (backTo pos (starEach es X.env)).any (·.1) = false := by rfl)
    (ht : eval (.Call (.Attribute o m apos) (e :: es) [] pos) X.env = (do
      let ov ← eval o X.env
      standAt apos.atName
      let (f, first) ← holding [ov] (getMethod ov m pl)
      callWith pos f first (backTo pos (starEach (e :: es) X.env)) (backToKw pos (keywordEach [] X.env))) := by rfl) :
    PE X (.Call (.Attribute o m apos) (e :: es) [] pos) (tCMethS C sp E ta t) := by
  refine ⟨fun pins s σ H Q I h => ?_⟩
  refine PySem.W.methodCall_KW (pl := pl) (thn (he.run pins s σ H _ I h) fun u s1 ⟨x, H1, I1, rx, ex, q⟩ => ?_) ht
  subst ex
  obtain rfl : u = Value.ref C := rx
  refine ClX.getmethcm_ok I1 r c fun s2 I2 => ?_
  refine ClX.callwith_cm I2 (ClX.base_none I1 (Nat.le_refl _)) c.fi (thn (ha.run pos _ s2 σ H1 _ I2 q) fun us s3 ⟨vs, H2, I3, rv, q2⟩ => ⟨⟨ClX.pin_at I3, I3.kIn⟩, ?_⟩) hst hpl
  exact run_cmS F hr (hx σ) I3 rv q2
theorem pe_makeV {x : Str} {p' : Pos} {f' : Addr} (M : Mk X.K C f') (F : FnR X.prog X.w X.K X.mg X.base CX k f' sp) (hr : Room (k + 1) X.A) (he : PE X (.Name x p') ta) (hx : ∀ σ, PassesAt CX X σ (E σ)) : PE X (.Call (.Name x p') [] [] pos) (tMakeV C sp E ta) := by
  refine ⟨fun pins s σ H Q I h => ?_⟩
  refine wpAny_Call_Name_kw (thn (he.run pins s σ H _ I h) fun u s1 ⟨v, H1, I1, rx, ex, q⟩ => ?_)
  subst ex
  obtain rfl : u = Value.ref C := rx
  exact PySem.W.callWith_K0 I1.kIn M.kp (run_makeS (us := []) M F hr (hx σ) I1 .nil q)
theorem pe_clsV {v : V} {u : Value} (r : ClX.CRead X.K C mc) (c : ClX.CVal X.K C mc f v u) (he : PE X e ta) (hb : attributeBase e f X.env (eval e X.env) = eval e X.env := by rfl) : PE X (.Attribute e f pos) (tClsV C v ta) := by
  refine ⟨fun pins s σ H Q I h => ?_⟩
  refine attr_of hb (thn (he.run pins s σ H _ I h) fun w s1 ⟨x, H1, I1, rx, ex, q⟩ => ?_)
  subst ex
  obtain rfl : w = Value.ref C := rx
  exact ClX.getcval_ok I1 r c fun s2 I2 => ⟨v, H1, I2, c.rel, q⟩
end
end Cl
namespace Hk
open PySem PySem.Spec PySem.W PyProof.Rows L2 He
def cmetB (K : Frag) (C : Addr) (m : PySem.Str) : Bool := readsIn K C (.type "type") && (eqO (specialIn K (.ref C) "__getattribute__") (some (some (.builtin "type.__getattribute__"))) && (He5.wrapB K C "classmethod" "classmethod.__get__" m && fnIn K (He5.wf K C "classmethod" m)))
theorem cmetB_ok {K : Frag} {C : Addr} {m : PySem.Str} (h : cmetB K C m = true) : ClX.CRead K C (.type "type") ∧ ClX.CMet K C (.type "type") m (ma K C m) (He5.wf K C "classmethod" m) := by
  unfold cmetB at h
  obtain ⟨h1, h⟩ := ba h
  obtain ⟨h2, h⟩ := ba h
  obtain ⟨h3, h4⟩ := ba h
  exact ⟨⟨h1, eqO_ok h2⟩, He5.cmet_of h3 h4⟩
end Hk
namespace Px
open PySem PySem.Spec PyProof.Rows L2
theorem s_ifor {t1 t2 : TT} {ta tb : TS} {D : Ends} {σ : L2.St} {H : Hp} (c1 c2 : Bool) (h1 : ∀ QB : Bool → Hp → Prop, QB c1 H → t1 σ H QB) (h2 : ∀ QB : Bool → Hp → Prop, QB c2 H → t2 σ H QB) (hA : c1 = true ∨ c2 = true → ta D σ H) (hB : c1 = false → c2 = false → tb D σ H) : tIfS (tOr t1 t2) ta tb D σ H := by
  refine h1 _ ?_
  cases c1 with
  | true => exact hA (.inl rfl)
  | false =>
    refine h2 _ ?_
    cases c2 with
    | true => exact hA (.inr rfl)
    | false => exact hB rfl rfl
theorem s_cmeth {σ : L2.St} {H : Hp} {Q : VK} {C : Addr} {sp : Sp} {E : L2.St → XK} {t : TA} (h : t σ H fun vs H2 => sp (.ref C :: vs) H2 Q (E σ)) : Cl.tCMethS C sp E (tC (.ref C)) t σ H Q := ⟨rfl, h⟩
theorem s_makeV {σ : L2.St} {H : Hp} {Q : VK} {C : Addr} {sp : Sp} {E : L2.St → XK} {ta : TE} (h : ta σ H fun y H1 => y = .ref C ∧ ∀ x dx, H1 x = none → H1 dx = none → dx ≠ x → sp [V.ref x] (upd (upd H1 dx (.own x)) x (.ins C dx [])) (fun v H2 => v = .non ∧ Q (.ref x) H2) (E σ)) : Cl.tMakeV C sp E ta σ H Q := h
theorem s_clsV {σ : L2.St} {H : Hp} {Q : VK} {C : Addr} {v : V} {ta : TE} (h : ta σ H fun y H1 => y = .ref C ∧ Q v H1) : Cl.tClsV C v ta σ H Q := h
end Px
/-! HeadX: the Hook whose look goes over a tree of the heap: for a head that o_head runs in pieces -/
namespace Hk
open PySem PySem.W He He5
def obsT (n : Nat) (fa : List Fa) (ex : List (Frag → Bool)) (its : List It) (s : Shared) : AlZ := match HandSHeadRun.treeOf s with
  | some t => HandSHeadRun.frS t fun t => obsZG n fa ex its (HandSHeadRun.getT t)
  | none => (false, [])
theorem obsT_eq {n : Nat} {fa : List Fa} {ex : List (Frag → Bool)} {its : List It} {s : Shared} (h : obsT n fa ex its s = valZ its) : obsZG n fa ex its s.heap.get? = valZ its := by
  unfold obsT at h
  cases e : HandSHeadRun.treeOf s with
  | none =>
    rw [e] at h
    have h1 : false = true := congrArg (fun z : AlZ => z.1) h
    cases h1
  | some t =>
    rw [e] at h
    have h1 : (HandSHeadRun.frS t fun t => obsZG n fa ex its (HandSHeadRun.getT t)) = valZ its := h
    rw [HandSHeadRun.frS_eq] at h1
    have e2 : HandSHeadRun.getT t = s.heap.get? := funext fun a => by rw [HandSHeadRun.getT_eq, (HandSHeadRun.treeOf_eq e).1]
    rw [e2] at h1
    exact h1
def hookT (n : Nat) (fa : List Fa) (ex : List (Frag → Bool)) (its : List It) : PySem.W.Hook where
  α := AlZ
  obs := obsT n fa ex its
  val := fun _ => valZ its
  says := fun _ h => ∃ K : Frag, K.In h ∧ SaysZ fa ex its K
  of := fun _ _ e => ⟨_, frG_in, obsT_eq e⟩
  keeps := fun _ _ _ ⟨K, hK, c⟩ k => ⟨K, Frag.In.keeps hK k, c⟩
/-- what the names reach in n steps: as asD, each address once, by a tree -/
inductive MT where
  | nil
  | node (m : Bool) (l r : MT)
def MT.get : MT → Nat → Bool
  | .nil, _ => false
  | .node m l r, i => match Nat.beq i 0 with
    | true => m
    | false => match Nat.beq (i % 2) 1 with
      | true => l.get (i / 2)
      | false => r.get (i / 2 - 1)
def MT.add : Nat → MT → Nat → MT
  | 0, t, _ => t
  | f + 1, .nil, i => (match Nat.beq i 0 with
    | true => .node true .nil .nil
    | false => match Nat.beq (i % 2) 1 with
      | true => .node false (MT.add f .nil (i / 2)) .nil
      | false => .node false .nil (MT.add f .nil (i / 2 - 1)))
  | f + 1, .node m l r, i => match Nat.beq i 0 with
    | true => .node true l r
    | false => match Nat.beq (i % 2) 1 with
      | true => .node m (MT.add f l (i / 2)) r
      | false => .node m l (MT.add f r (i / 2 - 1))
def newT : List Addr → MT → List Addr → MT × List Addr
  | [], t, out => (t, out)
  | a :: r, t, out => match t.get a with
    | true => newT r t out
    | false => newT r (MT.add 40 t a) (a :: out)
def goU (g : Addr → Option Obj) : Nat → List Addr → MT → List Addr
  | 0, _, _ => []
  | n + 1, fr, t => match newT (fr.flatMap fun a => match g a with
      | some o => refsD o
      | none => []) t [] with
    | (t', out) => out ++ goU g n out t'
def asU (g : Addr → Option Obj) (n : Nat) : List Addr := mainGlobals :: goU g n [mainGlobals] (MT.add 40 .nil mainGlobals) ++ [cStatics]
def obsU (n : Nat) (fa : List Fa) (ex : List (Frag → Bool)) (its : List It) (s : Shared) : AlZ := match HandSHeadRun.treeOf s with
  | some t => HandSHeadRun.frS t fun t => obsZ fa ex its (frG (HandSHeadRun.getT t) (asU (HandSHeadRun.getT t) n))
  | none => (false, [])
theorem obsU_eq {n : Nat} {fa : List Fa} {ex : List (Frag → Bool)} {its : List It} {s : Shared} (h : obsU n fa ex its s = valZ its) : SaysZ fa ex its (frG s.heap.get? (asU s.heap.get? n)) := by
  unfold obsU at h
  cases e : HandSHeadRun.treeOf s with
  | none =>
    rw [e] at h
    have h1 : false = true := congrArg (fun z : AlZ => z.1) h
    cases h1
  | some t =>
    rw [e] at h
    have h1 : (HandSHeadRun.frS t fun t => obsZ fa ex its (frG (HandSHeadRun.getT t) (asU (HandSHeadRun.getT t) n))) = valZ its := h
    rw [HandSHeadRun.frS_eq] at h1
    have e2 : HandSHeadRun.getT t = s.heap.get? := funext fun a => by rw [HandSHeadRun.getT_eq, (HandSHeadRun.treeOf_eq e).1]
    rw [e2] at h1
    exact h1
def hookU (n : Nat) (fa : List Fa) (ex : List (Frag → Bool)) (its : List It) : PySem.W.Hook where
  α := AlZ
  obs := obsU n fa ex its
  val := fun _ => valZ its
  says := fun _ h => ∃ K : Frag, K.In h ∧ SaysZ fa ex its K
  of := fun _ _ e => ⟨_, frG_in, obsU_eq e⟩
  keeps := fun _ _ _ ⟨K, hK, c⟩ k => ⟨K, Frag.In.keeps hK k, c⟩
end Hk
namespace Hd
open PySem PySem.Spec PyProof.Rows L2 He Hk
def top (i : Nat) : Stmt := PySem.Challenge.pw_renamedhorn_k14_book_numbers.main.body.getD i (.Pass ⟨0, 0, 0, 0⟩)
abbrev s_is_name : Stmt := top 13
def d_is_name : DefX := ⟨fun K => ga K "is_name", "is_name", "is_name", defArgs s_is_name, defBody s_is_name, defScope s_is_name, [], []⟩
abbrev s_is_literal : Stmt := top 14
def d_is_literal : DefX := ⟨fun K => ga K "is_literal", "is_literal", "is_literal", defArgs s_is_literal, defBody s_is_literal, defScope s_is_literal, [], []⟩
abbrev s_name_of : Stmt := top 15
def d_name_of : DefX := ⟨fun K => ga K "name_of", "name_of", "name_of", defArgs s_name_of, defBody s_name_of, defScope s_name_of, [], []⟩
abbrev s_ordered_names : Stmt := top 17
def d_ordered_names : DefX := ⟨fun K => ga K "ordered_names", "ordered_names", "ordered_names", defArgs s_ordered_names, defBody s_ordered_names, defScope s_ordered_names, [], []⟩
abbrev s_in_order : Stmt := top 18
def d_in_order : DefX := ⟨fun K => ga K "in_order", "in_order", "in_order", defArgs s_in_order, defBody s_in_order, defScope s_in_order, [], []⟩
abbrev s_twice_named : Stmt := top 19
def d_twice_named : DefX := ⟨fun K => ga K "twice_named", "twice_named", "twice_named", defArgs s_twice_named, defBody s_twice_named, defScope s_twice_named, [], []⟩
abbrev s_checked_facts : Stmt := top 20
def d_checked_facts : DefX := ⟨fun K => ga K "checked_facts", "checked_facts", "checked_facts", defArgs s_checked_facts, defBody s_checked_facts, defScope s_checked_facts, [], []⟩
abbrev s_names_of : Stmt := top 21
def d_names_of : DefX := ⟨fun K => ga K "names_of", "names_of", "names_of", defArgs s_names_of, defBody s_names_of, defScope s_names_of, [], []⟩
abbrev s_names_in : Stmt := top 31
def d_names_in : DefX := ⟨fun K => ga K "names_in", "names_in", "names_in", defArgs s_names_in, defBody s_names_in, defScope s_names_in, [], []⟩
abbrev s_check_sizes : Stmt := top 32
def d_check_sizes : DefX := ⟨fun K => ga K "check_sizes", "check_sizes", "check_sizes", defArgs s_check_sizes, defBody s_check_sizes, defScope s_check_sizes, [], []⟩
abbrev s_law_source : Stmt := top 35
def d_law_source : DefX := ⟨fun K => ga K "_law_source", "_law_source", "_law_source", defArgs s_law_source, defBody s_law_source, defScope s_law_source, [], []⟩
abbrev s_law_take : Stmt := top 36
def d_law_take : DefX := ⟨fun K => ga K "_law_take", "_law_take", "_law_take", defArgs s_law_take, defBody s_law_take, defScope s_law_take, [], []⟩
abbrev s_law_word : Stmt := top 37
def d_law_word : DefX := ⟨fun K => ga K "_law_word", "_law_word", "_law_word", defArgs s_law_word, defBody s_law_word, defScope s_law_word, [], []⟩
abbrev s_law_names : Stmt := top 38
def d_law_names : DefX := ⟨fun K => ga K "_law_names", "_law_names", "_law_names", defArgs s_law_names, defBody s_law_names, defScope s_law_names, [], []⟩
abbrev s_law_name : Stmt := top 39
def d_law_name : DefX := ⟨fun K => ga K "_law_name", "_law_name", "_law_name", defArgs s_law_name, defBody s_law_name, defScope s_law_name, [], []⟩
abbrev s_law_sorted : Stmt := top 40
def d_law_sorted : DefX := ⟨fun K => ga K "_law_sorted", "_law_sorted", "_law_sorted", defArgs s_law_sorted, defBody s_law_sorted, defScope s_law_sorted, [], []⟩
abbrev s_law_ordered : Stmt := top 41
def d_law_ordered : DefX := ⟨fun K => ga K "_law_ordered", "_law_ordered", "_law_ordered", defArgs s_law_ordered, defBody s_law_ordered, defScope s_law_ordered, [], []⟩
abbrev s_law_same : Stmt := top 42
def d_law_same : DefX := ⟨fun K => ga K "_law_same", "_law_same", "_law_same", defArgs s_law_same, defBody s_law_same, defScope s_law_same, [], []⟩
abbrev s_law_row : Stmt := top 43
def d_law_row : DefX := ⟨fun K => ga K "_law_row", "_law_row", "_law_row", defArgs s_law_row, defBody s_law_row, defScope s_law_row, [], []⟩
abbrev s_law_clause : Stmt := top 44
def d_law_clause : DefX := ⟨fun K => ga K "_law_clause", "_law_clause", "_law_clause", defArgs s_law_clause, defBody s_law_clause, defScope s_law_clause, [], []⟩
abbrev s_law_names_in : Stmt := top 45
def d_law_names_in : DefX := ⟨fun K => ga K "_law_names_in", "_law_names_in", "_law_names_in", defArgs s_law_names_in, defBody s_law_names_in, defScope s_law_names_in, [], []⟩
abbrev s_law_state : Stmt := top 46
def d_law_state : DefX := ⟨fun K => ga K "_law_state", "_law_state", "_law_state", defArgs s_law_state, defBody s_law_state, defScope s_law_state, [], []⟩
abbrev s_law_absent : Stmt := top 47
def d_law_absent : DefX := ⟨fun K => ga K "_law_absent", "_law_absent", "_law_absent", defArgs s_law_absent, defBody s_law_absent, defScope s_law_absent, [], []⟩
abbrev s_law : Stmt := top 48
def d_law : DefX := ⟨fun K => ga K "law", "law", "law", defArgs s_law, defBody s_law, defScope s_law, [], []⟩
abbrev s_Clause_init : Stmt := inClass (top 23) 1
def d_Clause_init : DefX := ⟨fun K => (ma K (ga K "Clause") "__init__"), "__init__", "Clause.__init__", defArgs s_Clause_init, defBody s_Clause_init, defScope s_Clause_init, [], []⟩
abbrev s_Clause_names : Stmt := inClass (top 23) 2
def d_Clause_names : DefX := ⟨fun K => (He5.wf K (ga K "Clause") "property" "names"), "names", "Clause.names", defArgs s_Clause_names, defBody s_Clause_names, defScope s_Clause_names, [], []⟩
abbrev s_Clause_iter : Stmt := inClass (top 23) 4
def d_Clause_iter : DefX := ⟨fun K => (ma K (ga K "Clause") "__iter__"), "__iter__", "Clause.__iter__", defArgs s_Clause_iter, defBody s_Clause_iter, defScope s_Clause_iter, [], []⟩
abbrev s_Clause_len : Stmt := inClass (top 23) 5
def d_Clause_len : DefX := ⟨fun K => (ma K (ga K "Clause") "__len__"), "__len__", "Clause.__len__", defArgs s_Clause_len, defBody s_Clause_len, defScope s_Clause_len, [], []⟩
abbrev s_Clause_contains : Stmt := inClass (top 23) 6
def d_Clause_contains : DefX := ⟨fun K => (ma K (ga K "Clause") "__contains__"), "__contains__", "Clause.__contains__", defArgs s_Clause_contains, defBody s_Clause_contains, defScope s_Clause_contains, [], []⟩
abbrev s_Turning_iter : Stmt := inClass (top 29) 7
def d_Turning_iter : DefX := ⟨fun K => (ma K (ga K "Turning") "__iter__"), "__iter__", "Turning.__iter__", defArgs s_Turning_iter, defBody s_Turning_iter, defScope s_Turning_iter, [], []⟩
abbrev s_Turning_len : Stmt := inClass (top 29) 8
def d_Turning_len : DefX := ⟨fun K => (ma K (ga K "Turning") "__len__"), "__len__", "Turning.__len__", defArgs s_Turning_len, defBody s_Turning_len, defScope s_Turning_len, [], []⟩
abbrev s_Turning_contains : Stmt := inClass (top 29) 9
def d_Turning_contains : DefX := ⟨fun K => (ma K (ga K "Turning") "__contains__"), "__contains__", "Turning.__contains__", defArgs s_Turning_contains, defBody s_Turning_contains, defScope s_Turning_contains, [], []⟩
abbrev s_Turning_getitem : Stmt := inClass (top 29) 10
def d_Turning_getitem : DefX := ⟨fun K => (ma K (ga K "Turning") "__getitem__"), "__getitem__", "Turning.__getitem__", defArgs s_Turning_getitem, defBody s_Turning_getitem, defScope s_Turning_getitem, [], []⟩
abbrev s_Book_init : Stmt := inClass (top 33) 3
def d_Book_init : DefX := ⟨fun K => (ma K (ga K "Book") "__init__"), "__init__", "Book.__init__", defArgs s_Book_init, defBody s_Book_init, defScope s_Book_init, [], [("numbers", .non), ("greatest", .int 0)]⟩
abbrev s_Book_names : Stmt := inClass (top 33) 5
def d_Book_names : DefX := ⟨fun K => (He5.wf K (ga K "Book") "property" "names"), "names", "Book.names", defArgs s_Book_names, defBody s_Book_names, defScope s_Book_names, [], []⟩
abbrev s_Book_next_number : Stmt := inClass (top 33) 6
def d_Book_next_number : DefX := ⟨fun K => (He5.wf K (ga K "Book") "property" "next_number"), "next_number", "Book.next_number", defArgs s_Book_next_number, defBody s_Book_next_number, defScope s_Book_next_number, [], []⟩
abbrev s_Book_need_room : Stmt := inClass (top 33) 7
def d_Book_need_room : DefX := ⟨fun K => (ma K (ga K "Book") "need_room"), "need_room", "Book.need_room", defArgs s_Book_need_room, defBody s_Book_need_room, defScope s_Book_need_room, [], []⟩
abbrev s_Book_put : Stmt := inClass (top 33) 8
def d_Book_put : DefX := ⟨fun K => (ma K (ga K "Book") "put"), "put", "Book.put", defArgs s_Book_put, defBody s_Book_put, defScope s_Book_put, [], []⟩
abbrev s_Book_drop : Stmt := inClass (top 33) 9
def d_Book_drop : DefX := ⟨fun K => (ma K (ga K "Book") "drop"), "drop", "Book.drop", defArgs s_Book_drop, defBody s_Book_drop, defScope s_Book_drop, [], []⟩
abbrev s_Book_iter : Stmt := inClass (top 33) 11
def d_Book_iter : DefX := ⟨fun K => (ma K (ga K "Book") "__iter__"), "__iter__", "Book.__iter__", defArgs s_Book_iter, defBody s_Book_iter, defScope s_Book_iter, [], []⟩
abbrev s_Book_len : Stmt := inClass (top 33) 12
def d_Book_len : DefX := ⟨fun K => (ma K (ga K "Book") "__len__"), "__len__", "Book.__len__", defArgs s_Book_len, defBody s_Book_len, defScope s_Book_len, [], []⟩
abbrev s_Book_contains : Stmt := inClass (top 33) 13
def d_Book_contains : DefX := ⟨fun K => (ma K (ga K "Book") "__contains__"), "__contains__", "Book.__contains__", defArgs s_Book_contains, defBody s_Book_contains, defScope s_Book_contains, [], []⟩
abbrev s_Book_getitem : Stmt := inClass (top 33) 14
def d_Book_getitem : DefX := ⟨fun K => (ma K (ga K "Book") "__getitem__"), "__getitem__", "Book.__getitem__", defArgs s_Book_getitem, defBody s_Book_getitem, defScope s_Book_getitem, [], []⟩
abbrev s_Book_iadd : Stmt := inClass (top 33) 17
def d_Book_iadd : DefX := ⟨fun K => (ma K (ga K "Book") "__iadd__"), "__iadd__", "Book.__iadd__", defArgs s_Book_iadd, defBody s_Book_iadd, defScope s_Book_iadd, [], []⟩
abbrev s_Book_isub : Stmt := inClass (top 33) 18
def d_Book_isub : DefX := ⟨fun K => (ma K (ga K "Book") "__isub__"), "__isub__", "Book.__isub__", defArgs s_Book_isub, defBody s_Book_isub, defScope s_Book_isub, [], []⟩
abbrev s_BadName_init : Stmt := inClass (top 3) 0
def d_BadName : ErrD := ⟨"BadName", ["text"], "BadName.__init__", defArgs s_BadName_init, defBody s_BadName_init, defScope s_BadName_init⟩
abbrev s_BadLiteral_init : Stmt := inClass (top 4) 0
def d_BadLiteral : ErrD := ⟨"BadLiteral", ["text"], "BadLiteral.__init__", defArgs s_BadLiteral_init, defBody s_BadLiteral_init, defScope s_BadLiteral_init⟩
abbrev s_BothSigns_init : Stmt := inClass (top 5) 0
def d_BothSigns : ErrD := ⟨"BothSigns", ["name"], "BothSigns.__init__", defArgs s_BothSigns_init, defBody s_BothSigns_init, defScope s_BothSigns_init⟩
abbrev s_TooMany_init : Stmt := inClass (top 6) 0
def d_TooMany : ErrD := ⟨"TooMany", ["limit"], "TooMany.__init__", defArgs s_TooMany_init, defBody s_TooMany_init, defScope s_TooMany_init⟩
abbrev s_NoClause_init : Stmt := inClass (top 7) 0
def d_NoClause : ErrD := ⟨"NoClause", ["number"], "NoClause.__init__", defArgs s_NoClause_init, defBody s_NoClause_init, defScope s_NoClause_init⟩
abbrev s_BadNumber_init : Stmt := inClass (top 8) 0
def d_BadNumber : ErrD := ⟨"BadNumber", ["number"], "BadNumber.__init__", defArgs s_BadNumber_init, defBody s_BadNumber_init, defScope s_BadNumber_init⟩
def its : List Hk.It := [d_is_name.it, d_is_literal.it, d_name_of.it, d_ordered_names.it, d_in_order.it, d_twice_named.it, d_checked_facts.it, d_names_of.it, d_names_in.it, d_check_sizes.it, d_law_source.it, d_law_take.it, d_law_word.it, d_law_names.it, d_law_name.it, d_law_sorted.it, d_law_ordered.it, d_law_same.it, d_law_row.it, d_law_clause.it, d_law_names_in.it, d_law_state.it, d_law_absent.it, d_law.it, d_Clause_init.it, d_Clause_names.it, d_Clause_iter.it, d_Clause_len.it, d_Clause_contains.it, d_Turning_iter.it, d_Turning_len.it, d_Turning_contains.it, d_Turning_getitem.it, d_Book_init.it, d_Book_names.it, d_Book_next_number.it, d_Book_need_room.it, d_Book_put.it, d_Book_drop.it, d_Book_iter.it, d_Book_len.it, d_Book_contains.it, d_Book_getitem.it, d_Book_iadd.it, d_Book_isub.it, d_BadName.it "/claim/cut.py", d_BadLiteral.it "/claim/cut.py", d_BothSigns.it "/claim/cut.py", d_TooMany.it "/claim/cut.py", d_NoClause.it "/claim/cut.py", d_BadNumber.it "/claim/cut.py"]
def fa : List Fa := [.glo "is_name", .glo "is_literal", .glo "name_of", .glo "ordered_names", .glo "in_order", .glo "twice_named", .glo "checked_facts", .glo "names_of", .glo "names_in", .glo "check_sizes", .glo "_law_source", .glo "_law_take", .glo "_law_word", .glo "_law_names", .glo "_law_name", .glo "_law_sorted", .glo "_law_ordered", .glo "_law_same", .glo "_law_row", .glo "_law_clause", .glo "_law_names_in", .glo "_law_state", .glo "_law_absent", .glo "law", .glo "Clause", .cls "Clause", .mkr "Clause", .noat "Clause" "literals", .glo "Turning", .cls "Turning", .noat "Turning" "turned", .glo "Book", .cls "Book", .mkr "Book", .noat "Book" "greatest", .noat "Book" "rows", .glo "HornError", .glo "BadName", .glo "BadLiteral", .glo "BothSigns", .glo "TooMany", .glo "NoClause", .glo "BadNumber", .str "LETTERS" "abcdefghijklmnopqrstuvwxyz", .str "SIGNS" "abcdefghijklmnopqrstuvwxyz0123456789", .int "NAME_SIZE" 8, .free "NotImplemented", .free "ValueError", .free "all", .free "bool", .free "classmethod", .free "int", .free "isinstance", .free "iter", .free "len", .free "list", .free "property", .free "range", .free "sorted", .free "staticmethod", .free "str", .free "tuple", .free "zip", .exm "BadName" "NoClause" false, .exm "BadLiteral" "NoClause" false, .exm "BothSigns" "NoClause" false, .exm "TooMany" "NoClause" false, .exm "NoClause" "NoClause" true, .exm "BadNumber" "NoClause" false]
def ex : List (PySem.W.Frag → Bool) := [fun K => Hk.ownB K (ga K "Clause") "__iter__", fun K => Hk.ownB K (ga K "Clause") "__len__", fun K => Hk.ownB K (ga K "Clause") "__contains__", fun K => Hk.ownB K (ga K "Turning") "__iter__", fun K => Hk.ownB K (ga K "Turning") "__len__", fun K => Hk.ownB K (ga K "Turning") "__contains__", fun K => Hk.ownB K (ga K "Turning") "__getitem__", fun K => Hk.ownB K (ga K "Book") "need_room", fun K => Hk.ownB K (ga K "Book") "put", fun K => Hk.ownB K (ga K "Book") "drop", fun K => Hk.ownB K (ga K "Book") "__iter__", fun K => Hk.ownB K (ga K "Book") "__len__", fun K => Hk.ownB K (ga K "Book") "__contains__", fun K => Hk.ownB K (ga K "Book") "__getitem__", fun K => Hk.ownB K (ga K "Book") "__iadd__", fun K => Hk.ownB K (ga K "Book") "__isub__", fun K => Hk.propB K (ga K "Clause") "names", fun K => Hk.propB K (ga K "Book") "names", fun K => Hk.propB K (ga K "Book") "next_number", fun K => Hk.insKB K (ga K "Clause"), fun K => Hk.kitB K (.type "str") (.type "str") true, fun K => Hk.kitB K (.type "str") (.ref (ga K "Clause")) false, fun K => Hk.kitB K (.ref (ga K "Clause")) (.ref (ga K "Clause")) true, fun K => Hk.kitB K (.ref (ga K "Clause")) (.ref (ga K "Turning")) false, fun K => Hk.kitB K (.ref (ga K "Clause")) (.ref (ga K "Book")) false, fun K => Hk.conB K (ga K "Clause") "LIMIT" 6, fun K => Hk.cvalB K (ga K "Clause") "LIMIT" 6, fun K => Hk.insKB K (ga K "Turning"), fun K => Hk.kitB K (.type "str") (.ref (ga K "Turning")) false, fun K => Hk.kitB K (.ref (ga K "Turning")) (.ref (ga K "Clause")) false, fun K => Hk.kitB K (.ref (ga K "Turning")) (.ref (ga K "Turning")) true, fun K => Hk.kitB K (.ref (ga K "Turning")) (.ref (ga K "Book")) false, fun K => Hk.conB K (ga K "Turning") "LIMIT" 12, fun K => Hk.cvalB K (ga K "Turning") "LIMIT" 12, fun K => Hk.insKB K (ga K "Book"), fun K => Hk.kitB K (.type "str") (.ref (ga K "Book")) false, fun K => Hk.kitB K (.ref (ga K "Book")) (.ref (ga K "Clause")) false, fun K => Hk.kitB K (.ref (ga K "Book")) (.ref (ga K "Turning")) false, fun K => Hk.kitB K (.ref (ga K "Book")) (.ref (ga K "Book")) true, fun K => Hk.conB K (ga K "Book") "LIMIT" 24, fun K => Hk.cvalB K (ga K "Book") "LIMIT" 24, fun K => Hk.conB K (ga K "Book") "NAMES" 12, fun K => Hk.cvalB K (ga K "Book") "NAMES" 12, fun K => Hk.conB K (ga K "Book") "NUMBERS" 999, fun K => Hk.cvalB K (ga K "Book") "NUMBERS" 999, fun K => excCB K (ga K "NoClause"), fun K => Hk.kitB K (.ref (ga K "NoClause")) (.ref (ga K "HornError")) true, fun K => Hk.kitB K (.ref (ga K "NoClause")) (.type "ValueError") true, fun K => Hk.kitB K (.ref (ga K "NoClause")) (.ref (ga K "BadNumber")) false]
def loose : List PySem.Str := (["_wall", "HornError", "BadName", "BadLiteral", "BothSigns", "TooMany", "NoClause", "BadNumber", "LETTERS", "SIGNS", "NAME_SIZE", "is_name"] : List PySem.Str) ++ (["is_literal", "name_of", "negated", "ordered_names", "in_order", "twice_named", "checked_facts", "names_of", "Clause", "turned_literal", "turned_clause", "differing"] : List PySem.Str) ++ (["comes_before", "Turning", "names_in", "check_sizes", "Book", "_law_source", "_law_take", "_law_word", "_law_names", "_law_name", "_law_sorted", "_law_ordered"] : List PySem.Str) ++ (["_law_same", "_law_row", "_law_clause", "_law_names_in", "_law_state", "_law_absent"] : List PySem.Str)
abbrev hk : PySem.W.Hook := hookU 6 fa ex its
end Hd
section
open PySem PySem.Spec PyProof.Rows L2 Px
local macro_rules | `(tactic| walk_at "s") => `(tactic| first
  | with_reducible refine s_var rfl ?_
  | with_reducible (first
  | refine s_c ?_ | refine s_seq ?_ | refine s_asg ?_ | refine s_op ?_ | refine s_gname ?_ | refine s_cons ?_ | refine s_nil ?_ | refine s_cb ?_ | refine s_ifS ?_ | refine s_test ?_ | refine s_exb ?_ | refine s_ret ?_
  | refine s_eqI ?_ | refine s_addI ?_ | refine s_in0 ?_ | refine s_ltI ?_ | refine s_eqS ?_ | refine s_gsub ?_ | refine s_and ?_ | refine s_or ?_ | refine s_not ?_ | refine s_andV ?_ | refine s_orV ?_ | refine s_notV ?_ | refine s_sl ?_ | refine s_nopart ?_ | refine s_part ?_ | refine s_exi ?_
  | refine s_callS ?_ | refine s_call ?_ | refine s_drop ?_ | refine s_next ?_ | refine s_tB ?_ | refine s_lst ?_ | refine s_tup ?_ | refine s_inS ?_ | refine s_isN ?_ | refine s_yes ?_ | refine s_un ?_ | refine s_neg ?_ | refine s_ifE ?_ | refine s_retN ?_ | refine s_neS ?_ | refine s_neI ?_ | refine s_eqB ?_ | refine s_ltS ?_ | refine s_intI ?_ | refine s_rng1 ?_ | refine s_cont ?_ | refine s_break ?_ | refine s_forR ?_ | refine s_forA ?_ | refine s_lcA ?_ | refine s_lcR ?_ | refine s_bm ?_ | refine s_make ?_ | refine s_att ?_ | refine s_cls ?_ | refine s_setA ?_ | refine s_strS ?_ | refine s_opS ?_ | refine s_forO ?_ | refine s_lcO ?_ | refine s_methO ?_ | refine s_callO ?_ | refine s_exr ?_ | refine s_m1 ?_ | refine s_smeth ?_ | refine s_cmeth ?_ | refine s_makeV ?_ | refine s_clsV ?_ | refine s_listV ?_ | refine s_dget ?_ | refine s_lc2 ?_ | refine s_anyB ?_ | refine s_gsubO ?_ | refine s_attA ?_ | refine s_ddel ?_ | refine s_lstRg2 ?_ | refine s_lstRg1 ?_ | refine s_makeK ?_ | refine s_augO rfl ?_))
local macro_rules | `(tactic| walk_at "mem") => `(tactic| repeat (first | exact List.mem_cons_self | apply List.mem_cons_of_mem))
local macro_rules | `(tactic| walk_at "ss") => `(tactic| repeat walk_at "s")
local macro_rules | `(tactic| walk_at "sl") => `(tactic| repeat (first | walk_at "s" | ((with_reducible refine' s_ixL ?kA ?kB ?_); (case kA => first | assumption | exact upd_same); (case kB => rfl)) | ((with_reducible refine' s_setU ?kA ?_); (case kA => rfl)) | ((with_reducible refine' s_setL ?kA ?kB ?_); (case kA => assumption); (case kB => rfl))))
namespace Rd
open PySem PySem.Spec PyProof.Rows L2 He Px
/-- the law's source of numbers: the cells, the next cell, the number at hand, how often, which way -/
def Src (H : Hp) (a : Addr) : Prop := ∃ (c : Addr) (cells : List Int) (i cur cnt mode : Int), H a = some (.lst [.ref c, .int i, .int cur, .int cnt, .int mode]) ∧ H c = some (.lst (cells.map V.int)) ∧ 0 ≤ i ∧ cells.length ≤ 100
theorem Src.keep {H H' : Hp} {a : Addr} (h : Src H a) (s : Same H H') : Src H' a := by
  obtain ⟨c, cells, i, cur, cnt, mode, h1, h2, h3, h4⟩ := h
  exact ⟨c, cells, i, cur, cnt, mode, s _ _ h1, s _ _ h2, h3, h4⟩
theorem Src.but {H H' : Hp} {a b : Addr} {o : HO} (h : Src H a) (s : But b H H') (hb : H b = some o) (hn : ∀ xs, o ≠ .lst xs) : Src H' a := by
  obtain ⟨c, cells, i, cur, cnt, mode, h1, h2, h3, h4⟩ := h
  exact ⟨c, cells, i, cur, cnt, mode, s _ _ h1 (ne_of h1 hb fun e => hn _ e.symm), s _ _ h2 (ne_of h2 hb fun e => hn _ e.symm), h3, h4⟩
theorem atI_cells {cells : List Int} {i : Int} (h0 : 0 ≤ i) (h1 : ¬ ((cells.map V.int).length : Int) ≤ i) : ∃ z : Int, atI (cells.map V.int) i = some (.int z) := by
  rw [List.length_map] at h1
  have hl : i.toNat < cells.length := by omega
  refine ⟨cells[i.toNat], ?_⟩
  unfold atI ixN
  rw [if_pos h0, if_pos (by rw [List.length_map]; omega)]
  simp [hl]
theorem lg {m : Int} (h0 : 0 < m) (h1 : m ≤ 1000000000000000) : m.natAbs.log2 < 9000 := by
  have : m.natAbs ≠ 0 := by omega
  refine (Nat.log2_lt this).mpr (Nat.lt_of_lt_of_le (m := 2 ^ 60) (by omega) (Nat.pow_le_pow_right (by decide) (by decide)))
/-- the source at a went on; all else stands -/
structure Mov (a : Addr) (H H' : Hp) : Prop where
  but : But a H H'
  cell : ∀ c xs, H a = some (.lst (.ref c :: xs)) → ∃ ys, H' a = some (.lst (.ref c :: ys))
instance {a : Addr} {H H' : Hp} : CoeFun (Mov a H H') (fun _ => ∀ b o, H b = some o → b ≠ a → H' b = some o) := ⟨Mov.but⟩
theorem Mov.refl (a : Addr) (H : Hp) : Mov a H H := ⟨But.refl a H, fun _ xs h => ⟨xs, h⟩⟩
theorem Mov.trans {a : Addr} {H H1 H2 : Hp} (h1 : Mov a H H1) (h2 : Mov a H1 H2) : Mov a H H2 := ⟨h1.but.trans h2.but, fun c xs h => by
  obtain ⟨ys, h⟩ := h1.cell c xs h
  exact h2.cell c ys h⟩
theorem Mov.of_same {a : Addr} {H H1 : Hp} (h : Same H H1) : Mov a H H1 := ⟨But.of_same h, fun _ xs e => ⟨xs, h _ _ e⟩⟩
theorem Mov.of {a c : Addr} {H H1 : Hp} {xs ys : List V} (h : But a H H1) (h0 : H a = some (.lst (.ref c :: xs))) (h1 : H1 a = some (.lst (.ref c :: ys))) : Mov a H H1 := ⟨h, fun d zs e => by
  rw [h0] at e
  have e := Option.some.inj e
  injection e with e
  injection e with e _
  injection e with e
  subst e
  exact ⟨ys, h1⟩⟩
theorem Mov.un {a : Addr} {H H' : Hp} {p : Addr} (b : Mov a H H') (hn : p ≠ a) (h : H' p = none) : H p = none := by
  cases e : H p with
  | none => rfl
  | some o => rw [b _ _ e hn] at h; cases h
theorem Src.ne {H : Hp} {a p : Addr} (h : Src H a) (hp : H p = none) : p ≠ a := by
  obtain ⟨c, cells, i, cur, cnt, mode, h1, _⟩ := h
  exact fun e => by rw [e, h1] at hp; cases hp
/-- an object that is younger than the source changes -/
theorem Src.off {H H' : Hp} {a q : Addr} {o : HO} (h : Src H a) (hq : H q = none) (m : Mov a H H') (h' : Src H' a) : Src (L2.upd H' q o) a := by
  have hqa := h.ne hq
  obtain ⟨c, cells, i, cur, cnt, mode, h1, h2, _⟩ := h
  obtain ⟨c', cells', i', cur', cnt', mode', k1, k2, k3, k4⟩ := h'
  obtain ⟨ys, e⟩ := m.cell c _ h1
  rw [k1] at e
  have e := Option.some.inj e
  injection e with e
  injection e with e _
  injection e with e
  subst e
  have hc : c' ≠ q := fun z => by rw [z, hq] at h2; cases h2
  exact ⟨c', cells', i', cur', cnt', mode', by rw [upd_ne hqa.symm]; exact k1, by rw [upd_ne hc]; exact k2, k3, k4⟩
theorem Mov.put {H H' : Hp} {a q : Addr} {o : HO} (hS : Src H a) (hq : H q = none) (m : Mov a H H') : Mov a H (L2.upd H' q o) := by
  have hqa := hS.ne hq
  refine ⟨fun b u e n => ?_, fun c xs e => ?_⟩
  · rw [upd_ne (ne_of_none e hq)]
    exact m _ _ e n
  · rw [upd_ne hqa.symm]
    exact m.cell c xs e
/-- texts: a minus first, the name of a literal, its negation; names, literals -/
def dash (z : Str) : Bool := decide (cutS z none (some 1) = ("-" : Str))
def bare (z : Str) : Str := if dash z = true then cutS z (some 1) none else z
def flip (z : Str) : Str := if dash z = true then cutS z (some 1) none else ("-" : Str) ++ z
def lettersL : List Nat := ("abcdefghijklmnopqrstuvwxyz" : Str).cps.toList
def signsL : List Nat := ("abcdefghijklmnopqrstuvwxyz0123456789" : Str).cps.toList
def digitsL : List Nat := ("0123456789" : Str).cps.toList
def isNm (z : Str) : Bool := !decide (((z.length : Int) < 1)) && (!decide ((8 : Int) < (z.length : Int)) && ((match z.cps.toList with | c :: _ => decide (c ∈ lettersL) | [] => false) && z.cps.toList.all fun c => decide (c ∈ signsL)))
def isLit (z : Str) : Bool := isNm (bare z)
theorem cutS_len (z : Str) (lo hi : Option Int) : (cutS z lo hi).length ≤ z.length := by
  unfold cutS Str.length
  simp only [List.size_toArray, List.length_take, List.length_drop, Array.length_toList]
  omega
theorem bare_len (z : Str) : (bare z).length ≤ z.length := by
  unfold bare
  split
  · exact cutS_len _ _ _
  · exact Nat.le_refl _
theorem len_toList (z : Str) : z.cps.toList.length = z.length := by simp [Str.length]
theorem app_len (a b : Str) : (a ++ b).length = a.length + b.length := by
  show (a.cps ++ b.cps).size = a.cps.size + b.cps.size
  simp
theorem at0 {z : Str} (h : ¬ ((z.length : Int) < 1)) : ∃ c r, z.cps.toList = c :: r ∧ atI z.cps.toList 0 = some c := by
  have hl := len_toList z
  cases e : z.cps.toList with
  | nil => rw [e] at hl; simp at hl; omega
  | cons c r =>
    refine ⟨c, r, rfl, ?_⟩
    unfold atI ixN
    rw [if_pos (by decide), if_pos (by simp)]
    rfl
theorem signs_split (c : Nat) : decide (c ∈ signsL) = (decide (c ∈ lettersL) || decide (c ∈ digitsL)) := by
  have e : signsL = lettersL ++ digitsL := by decide +kernel
  rw [e, Bool.eq_iff_iff]
  simp
theorem at_ex {l : List Nat} {r : Int} (h0 : 0 ≤ r) (h1 : r < (l.length : Int)) : ∃ c, c ∈ l ∧ atI l r = some c := by
  have hl : r.toNat < l.length := by omega
  refine ⟨l[r.toNat], List.getElem_mem hl, ?_⟩
  unfold atI ixN
  rw [if_pos h0, if_pos h1]
  simp [hl]
theorem app_toList (a b : Str) : (a ++ b).cps.toList = a.cps.toList ++ b.cps.toList := by
  show (a.cps ++ b.cps).toList = _
  simp
/-- a letter, then letters and digits -/
def Wrd (z : Str) : Prop := ∃ c r, z.cps.toList = c :: r ∧ c ∈ lettersL ∧ ∀ x ∈ r, x ∈ signsL
theorem letters_signs {c : Nat} (h : c ∈ lettersL) : c ∈ signsL := by
  have e : signsL = lettersL ++ digitsL := by decide +kernel
  rw [e]
  exact List.mem_append_left _ h
theorem Wrd.nm {z : Str} (h : Wrd z) (hl : z.length ≤ 8) : isNm z = true := by
  obtain ⟨c, r, e, h1, h2⟩ := h
  have hn := len_toList z
  rw [e] at hn
  unfold isNm
  rw [decide_eq_false (by simp at hn; omega), decide_eq_false (by omega), e]
  show (true && (true && (decide (c ∈ lettersL) && (c :: r).all fun c => decide (c ∈ signsL)))) = true
  rw [decide_eq_true h1]
  simp only [Bool.true_and, List.all_eq_true, decide_eq_true_eq]
  intro x hx
  rcases List.mem_cons.mp hx with rfl | hx
  · exact letters_signs h1
  · exact h2 x hx
theorem Wrd.add {z : Str} {c : Nat} (h : Wrd z) (hc : c ∈ signsL) : Wrd (z ++ ⟨#[c]⟩) := by
  obtain ⟨d, r, e, h1, h2⟩ := h
  refine ⟨d, r ++ [c], ?_, h1, fun x hx => ?_⟩
  · rw [app_toList, e]
    rfl
  · rcases List.mem_append.mp hx with hx | hx
    · exact h2 x hx
    · have : x = c := by simpa using hx
      rw [this]; exact hc
theorem Wrd.one {c : Nat} (h : c ∈ lettersL) : Wrd ⟨#[c]⟩ := ⟨c, [], rfl, h, fun _ hx => nomatch hx⟩
def signs2L : List Nat := ("0123456789abcdefghijklmnopqrstuvwxyz" : Str).cps.toList
theorem signs2_in {c : Nat} (h : c ∈ signs2L) : c ∈ signsL := by
  have e : signs2L = digitsL ++ lettersL := by decide +kernel
  rw [e] at h
  have e2 : signsL = lettersL ++ digitsL := by decide +kernel
  rw [e2]
  rcases List.mem_append.mp h with h | h
  · exact List.mem_append_right _ h
  · exact List.mem_append_left _ h
theorem fmod_b (z m : Int) (hm : 0 < m) : 0 ≤ z.fmod m ∧ z.fmod m < m := ⟨Int.fmod_nonneg_of_pos z hm, Int.fmod_lt_of_pos z hm⟩
theorem cut_tail (z : Str) : (cutS z (some 1) none).cps.toList = z.cps.toList.drop 1 := by
  unfold cutS
  have e : HT.sIx z.length 0 (some 1) = min 1 z.length := HT.sIx_nat z.length 0 1
  rw [e, HT.sIx_none]
  have hl := len_toList z
  show List.take (z.length - min 1 z.length) (List.drop (min 1 z.length) z.cps.toList) = _
  cases hz : z.cps.toList with
  | nil => simp
  | cons c r =>
    rw [hz] at hl
    have : min 1 z.length = 1 := by rw [← hl]; simp
    rw [this, List.take_of_length_le (by simp at hl ⊢; omega)]
theorem cut_head (z : Str) : (cutS z none (some 1)).cps.toList = z.cps.toList.take 1 := by
  unfold cutS
  have e : HT.sIx z.length z.length (some 1) = min 1 z.length := HT.sIx_nat z.length z.length 1
  rw [e, HT.sIx_none]
  show List.take (min 1 z.length - 0) (List.drop 0 z.cps.toList) = _
  have hl := len_toList z
  cases hz : z.cps.toList with
  | nil => simp
  | cons c r =>
    rw [hz] at hl
    have : min 1 z.length = 1 := by rw [← hl]; simp
    rw [this]
    rfl
theorem str_ext {a b : Str} (h : a.cps.toList = b.cps.toList) : a = b := by
  obtain ⟨x⟩ := a
  obtain ⟨y⟩ := b
  have : x = y := by
    obtain ⟨l⟩ := x
    obtain ⟨m⟩ := y
    simp at h
    rw [h]
  rw [this]
theorem dash_iff (z : Str) : dash z = true ↔ ∃ r, z.cps.toList = 45 :: r := by
  have h45 : ("-" : Str).cps.toList = [45] := by decide +kernel
  unfold dash
  rw [decide_eq_true_iff]
  constructor
  · intro h
    have e := cut_head z
    rw [h, h45] at e
    cases hz : z.cps.toList with
    | nil => rw [hz] at e; cases e
    | cons c r =>
      rw [hz] at e
      have : c = 45 := by simpa using e.symm
      exact ⟨r, by rw [this]⟩
  · rintro ⟨r, h⟩
    apply str_ext
    rw [cut_head, h, h45]
    rfl
theorem bare_self (z : Str) : (!dash z) = decide (bare z = z) := by
  unfold bare
  cases hd : dash z with
  | false => simp
  | true =>
    rw [if_pos rfl]
    obtain ⟨r, h⟩ := (dash_iff z).mp hd
    have : cutS z (some 1) none ≠ z := by
      intro e
      have e2 := congrArg (fun s : Str => s.cps.toList.length) e
      simp only [cut_tail, h] at e2
      simp at e2
    rw [decide_eq_false this]
    rfl
/-! data as a whole -/
mutual
inductive Is (H : Hp) : V → PyData → Prop
  | non : Is H .non .none
  | bl (b : Bool) : Is H (.bl b) (.bool b)
  | int (i : Int) : Is H (.int i) (.int i)
  | str (x : Str) : Is H (.str x) (.str x)
  | lst {a : Addr} {xs : List V} {ds : List PyData} : H a = some (.lst xs) → IsAll H xs ds → Is H (.ref a) (.list ds)
  | tup {a : Addr} {xs : List V} {ds : List PyData} : H a = some (.tup xs) → IsAll H xs ds → Is H (.ref a) (.tuple ds)
inductive IsAll (H : Hp) : List V → List PyData → Prop
  | nil : IsAll H [] []
  | cons {v : V} {vs : List V} {d : PyData} {ds : List PyData} : Is H v d → IsAll H vs ds → IsAll H (v :: vs) (d :: ds)
end
mutual
theorem Is.keep {H H' : Hp} (s : Same H H') : ∀ {v : V} {d : PyData}, Is H v d → Is H' v d
  | _, _, .non => .non
  | _, _, .bl b => .bl b
  | _, _, .int i => .int i
  | _, _, .str x => .str x
  | _, _, .lst h r => .lst (s _ _ h) (IsAll.keep s r)
  | _, _, .tup h r => .tup (s _ _ h) (IsAll.keep s r)
theorem IsAll.keep {H H' : Hp} (s : Same H H') : ∀ {vs : List V} {ds : List PyData}, IsAll H vs ds → IsAll H' vs ds
  | _, _, .nil => .nil
  | _, _, .cons h r => .cons (Is.keep s h) (IsAll.keep s r)
end
theorem IsAll.len {H : Hp} : ∀ {vs : List V} {ds : List PyData}, IsAll H vs ds → vs.length = ds.length
  | _, _, .nil => rfl
  | _, _, .cons _ r => congrArg (· + 1) r.len
theorem IsAll.at {H : Hp} : ∀ {vs : List V} {ds : List PyData} {i : Nat}, IsAll H vs ds → i < ds.length → ∃ v d, vs[i]? = some v ∧ ds[i]? = some d ∧ Is H v d
  | _, _, i, .nil, h => absurd h (by simp)
  | v :: vs, d :: ds, 0, .cons h _, _ => ⟨v, d, rfl, rfl, h⟩
  | v :: vs, d :: ds, i + 1, .cons _ r, h => by
    obtain ⟨v', d', h1, h2, h3⟩ := r.at (i := i) (by simpa using h)
    exact ⟨v', d', by simpa using h1, by simpa using h2, h3⟩
theorem IsAll.strs {H : Hp} : ∀ l : List Str, IsAll H (l.map V.str) (l.map PyData.str)
  | [] => .nil
  | x :: r => .cons (.str x) (IsAll.strs r)
theorem IsAll.ints {H : Hp} : ∀ l : List Int, IsAll H (l.map V.int) (l.map PyData.int)
  | [] => .nil
  | x :: r => .cons (.int x) (IsAll.ints r)
/-- depth at most n, no list longer than a million -/
def Fits : Nat → PyData → Prop
  | _, .none => True
  | _, .bool _ => True
  | _, .int _ => True
  | _, .str _ => True
  | 0, .list _ => False
  | 0, .tuple _ => False
  | n + 1, .list ds => ds.length ≤ 1000000 ∧ ∀ d ∈ ds, Fits n d
  | n + 1, .tuple ds => ds.length ≤ 1000000 ∧ ∀ d ∈ ds, Fits n d
  | _, .dict _ => False
noncomputable def sameB (d e : PyData) : Bool := @decide (d = e) (Classical.propDecidable _)
theorem sameB_eq {d e : PyData} (h : d = e) : sameB d e = true := by unfold sameB; simp [h]
theorem sameB_ne {d e : PyData} (h : d ≠ e) : sameB d e = false := by unfold sameB; simp [h]
theorem sameB_bool (a b : Bool) : sameB (.bool a) (.bool b) = decide (a = b) := by
  by_cases h : a = b
  · rw [sameB_eq (by rw [h]), decide_eq_true h]
  · rw [sameB_ne (by simpa using h), decide_eq_false h]
theorem sameB_int (a b : Int) : sameB (.int a) (.int b) = decide (a = b) := by
  by_cases h : a = b
  · rw [sameB_eq (by rw [h]), decide_eq_true h]
  · rw [sameB_ne (by simpa using h), decide_eq_false h]
theorem sameB_str (a b : Str) : sameB (.str a) (.str b) = decide (a = b) := by
  by_cases h : a = b
  · rw [sameB_eq (by rw [h]), decide_eq_true h]
  · rw [sameB_ne (by simpa using h), decide_eq_false h]
theorem same_all : ∀ {xs ys : List PyData}, xs.length = ys.length → ((List.range xs.length).all fun i => sameB (xs.getD i .none) (ys.getD i .none)) = @decide (xs = ys) (Classical.propDecidable _) := by
  intro xs ys hl
  by_cases h : xs = ys
  · subst h
    simp only [decide_true, List.all_eq_true, List.mem_range]
    exact fun i _ => sameB_eq rfl
  · rw [show @decide (xs = ys) (Classical.propDecidable _) = false by simp [h]]
    rw [Bool.eq_false_iff]
    intro ha
    apply h
    simp only [List.all_eq_true, List.mem_range] at ha
    refine List.ext_getElem hl fun i h1 h2 => ?_
    have := ha i h1
    by_cases hi : xs.getD i .none = ys.getD i .none
    · simpa [List.getD, h1, h2] using hi
    · rw [sameB_ne hi] at this
      cases this
theorem sameB_list {xs ys : List PyData} (hl : xs.length = ys.length) : sameB (.list xs) (.list ys) = ((List.range xs.length).all fun i => sameB (xs.getD i .none) (ys.getD i .none)) := by
  rw [same_all hl]
  by_cases h : xs = ys
  · rw [sameB_eq (by rw [h])]; simp [h]
  · rw [sameB_ne (by simpa using h)]; simp [h]
theorem sameB_tuple {xs ys : List PyData} (hl : xs.length = ys.length) : sameB (.tuple xs) (.tuple ys) = ((List.range xs.length).all fun i => sameB (xs.getD i .none) (ys.getD i .none)) := by
  rw [same_all hl]
  by_cases h : xs = ys
  · rw [sameB_eq (by rw [h])]; simp [h]
  · rw [sameB_ne (by simpa using h)]; simp [h]
/-- isinstance of data -/
def isBoolD : PyData → Bool
  | .none => false
  | .bool _ => true
  | .int _ => false
  | .str _ => false
  | .list _ => false
  | .tuple _ => false
  | .dict _ => false
theorem isi_bool {K : PySem.W.Frag} {H : Hp} {Q : VK} {x : V} {d : PyData} (h : Is H x d) (q : Q (.bl (isBoolD d)) H) : rIsi K [x, .ty "bool"] H Q := by
  cases h with
  | non => exact ⟨_, .ty "bool", _, _, false, rfl, .ty _, .base (.non), kit_ty (show kitB "NoneType" "bool" = some false by decide +kernel), q⟩
  | bl b => exact ⟨_, .ty "bool", _, _, true, rfl, .ty _, .base (.bl b), kit_ty (show kitB "bool" "bool" = some true by decide +kernel), q⟩
  | int i => exact ⟨_, .ty "bool", _, _, false, rfl, .ty _, .base (.int i), kit_ty (show kitB "int" "bool" = some false by decide +kernel), q⟩
  | str z => exact ⟨_, .ty "bool", _, _, false, rfl, .ty _, .base (.str z), kit_ty (show kitB "str" "bool" = some false by decide +kernel), q⟩
  | lst e r => exact ⟨_, .ty "bool", _, _, false, rfl, .ty _, .base (.lst e), kit_ty (show kitB "list" "bool" = some false by decide +kernel), q⟩
  | tup e r => exact ⟨_, .ty "bool", _, _, false, rfl, .ty _, .base (.tup e), kit_ty (show kitB "tuple" "bool" = some false by decide +kernel), q⟩
def isIntD : PyData → Bool
  | .none => false
  | .bool _ => true
  | .int _ => true
  | .str _ => false
  | .list _ => false
  | .tuple _ => false
  | .dict _ => false
theorem isi_int {K : PySem.W.Frag} {H : Hp} {Q : VK} {x : V} {d : PyData} (h : Is H x d) (q : Q (.bl (isIntD d)) H) : rIsi K [x, .ty "int"] H Q := by
  cases h with
  | non => exact ⟨_, .ty "int", _, _, false, rfl, .ty _, .base (.non), kit_ty (show kitB "NoneType" "int" = some false by decide +kernel), q⟩
  | bl b => exact ⟨_, .ty "int", _, _, true, rfl, .ty _, .base (.bl b), kit_ty (show kitB "bool" "int" = some true by decide +kernel), q⟩
  | int i => exact ⟨_, .ty "int", _, _, true, rfl, .ty _, .base (.int i), kit_ty (show kitB "int" "int" = some true by decide +kernel), q⟩
  | str z => exact ⟨_, .ty "int", _, _, false, rfl, .ty _, .base (.str z), kit_ty (show kitB "str" "int" = some false by decide +kernel), q⟩
  | lst e r => exact ⟨_, .ty "int", _, _, false, rfl, .ty _, .base (.lst e), kit_ty (show kitB "list" "int" = some false by decide +kernel), q⟩
  | tup e r => exact ⟨_, .ty "int", _, _, false, rfl, .ty _, .base (.tup e), kit_ty (show kitB "tuple" "int" = some false by decide +kernel), q⟩
def isStrD : PyData → Bool
  | .none => false
  | .bool _ => false
  | .int _ => false
  | .str _ => true
  | .list _ => false
  | .tuple _ => false
  | .dict _ => false
theorem isi_str {K : PySem.W.Frag} {H : Hp} {Q : VK} {x : V} {d : PyData} (h : Is H x d) (q : Q (.bl (isStrD d)) H) : rIsi K [x, .ty "str"] H Q := by
  cases h with
  | non => exact ⟨_, .ty "str", _, _, false, rfl, .ty _, .base (.non), kit_ty (show kitB "NoneType" "str" = some false by decide +kernel), q⟩
  | bl b => exact ⟨_, .ty "str", _, _, false, rfl, .ty _, .base (.bl b), kit_ty (show kitB "bool" "str" = some false by decide +kernel), q⟩
  | int i => exact ⟨_, .ty "str", _, _, false, rfl, .ty _, .base (.int i), kit_ty (show kitB "int" "str" = some false by decide +kernel), q⟩
  | str z => exact ⟨_, .ty "str", _, _, true, rfl, .ty _, .base (.str z), kit_ty (show kitB "str" "str" = some true by decide +kernel), q⟩
  | lst e r => exact ⟨_, .ty "str", _, _, false, rfl, .ty _, .base (.lst e), kit_ty (show kitB "list" "str" = some false by decide +kernel), q⟩
  | tup e r => exact ⟨_, .ty "str", _, _, false, rfl, .ty _, .base (.tup e), kit_ty (show kitB "tuple" "str" = some false by decide +kernel), q⟩
def isListD : PyData → Bool
  | .none => false
  | .bool _ => false
  | .int _ => false
  | .str _ => false
  | .list _ => true
  | .tuple _ => false
  | .dict _ => false
theorem isi_list {K : PySem.W.Frag} {H : Hp} {Q : VK} {x : V} {d : PyData} (h : Is H x d) (q : Q (.bl (isListD d)) H) : rIsi K [x, .ty "list"] H Q := by
  cases h with
  | non => exact ⟨_, .ty "list", _, _, false, rfl, .ty _, .base (.non), kit_ty (show kitB "NoneType" "list" = some false by decide +kernel), q⟩
  | bl b => exact ⟨_, .ty "list", _, _, false, rfl, .ty _, .base (.bl b), kit_ty (show kitB "bool" "list" = some false by decide +kernel), q⟩
  | int i => exact ⟨_, .ty "list", _, _, false, rfl, .ty _, .base (.int i), kit_ty (show kitB "int" "list" = some false by decide +kernel), q⟩
  | str z => exact ⟨_, .ty "list", _, _, false, rfl, .ty _, .base (.str z), kit_ty (show kitB "str" "list" = some false by decide +kernel), q⟩
  | lst e r => exact ⟨_, .ty "list", _, _, true, rfl, .ty _, .base (.lst e), kit_ty (show kitB "list" "list" = some true by decide +kernel), q⟩
  | tup e r => exact ⟨_, .ty "list", _, _, false, rfl, .ty _, .base (.tup e), kit_ty (show kitB "tuple" "list" = some false by decide +kernel), q⟩
def isTupleD : PyData → Bool
  | .none => false
  | .bool _ => false
  | .int _ => false
  | .str _ => false
  | .list _ => false
  | .tuple _ => true
  | .dict _ => false
theorem isi_tuple {K : PySem.W.Frag} {H : Hp} {Q : VK} {x : V} {d : PyData} (h : Is H x d) (q : Q (.bl (isTupleD d)) H) : rIsi K [x, .ty "tuple"] H Q := by
  cases h with
  | non => exact ⟨_, .ty "tuple", _, _, false, rfl, .ty _, .base (.non), kit_ty (show kitB "NoneType" "tuple" = some false by decide +kernel), q⟩
  | bl b => exact ⟨_, .ty "tuple", _, _, false, rfl, .ty _, .base (.bl b), kit_ty (show kitB "bool" "tuple" = some false by decide +kernel), q⟩
  | int i => exact ⟨_, .ty "tuple", _, _, false, rfl, .ty _, .base (.int i), kit_ty (show kitB "int" "tuple" = some false by decide +kernel), q⟩
  | str z => exact ⟨_, .ty "tuple", _, _, false, rfl, .ty _, .base (.str z), kit_ty (show kitB "str" "tuple" = some false by decide +kernel), q⟩
  | lst e r => exact ⟨_, .ty "tuple", _, _, false, rfl, .ty _, .base (.lst e), kit_ty (show kitB "list" "tuple" = some false by decide +kernel), q⟩
  | tup e r => exact ⟨_, .ty "tuple", _, _, true, rfl, .ty _, .base (.tup e), kit_ty (show kitB "tuple" "tuple" = some true by decide +kernel), q⟩
end Rd
namespace Rd
open PySem PySem.Spec PyProof.Rows L2 He Px
def spn_law_same (K : PySem.W.Frag) (n : Nat) : Sp := Sp2 fun x y H Q _ => ∃ d e : PyData, Is H x d ∧ Is H y e ∧ Fits n d ∧ ∀ H', Same H H' → Q (.bl (sameB d e)) H'
def sp_law_same (K : PySem.W.Frag) : Sp := spn_law_same K 4
def spR_law_same (K : PySem.W.Frag) : Nat → Sp
  | 0 => fun _ _ _ _ => False
  | n + 1 => spn_law_same K n
def N_law_same : List PySem.Str := ["_law_one", "_law_other", "_law_lists", "_law_k"]
def t_law_same (K : PySem.W.Frag) (R : Sp) (W : WX) : TS := (tCut (tIfS (tOr (tB (tCB (rIsi K) (tCons (tVar 0) (tCons (tC (.ty "bool")) tNil)))) (tB (tCB (rIsi K) (tCons (tVar 1) (tCons (tC (.ty "bool")) tNil))))) (tRet (tAndV (tCB (rIsi K) (tCons (tVar 0) (tCons (tC (.ty "bool")) tNil))) (tAndV (tCB (rIsi K) (tCons (tVar 1) (tCons (tC (.ty "bool")) tNil))) (tOp (rEqP K) (tVar 0) (tVar 1))))) tNext)
    (tCut (tIfS (tOr (tB (tCB (rIsi K) (tCons (tVar 0) (tCons (tC (.ty "int")) tNil)))) (tB (tCB (rIsi K) (tCons (tVar 1) (tCons (tC (.ty "int")) tNil))))) (tRet (tAndV (tCB (rIsi K) (tCons (tVar 0) (tCons (tC (.ty "int")) tNil))) (tAndV (tCB (rIsi K) (tCons (tVar 1) (tCons (tC (.ty "int")) tNil))) (tOp (rEqP K) (tVar 0) (tVar 1))))) tNext)
    (tCut (tIfS (tOr (tB (tCB (rIsi K) (tCons (tVar 0) (tCons (tC (.ty "str")) tNil)))) (tB (tCB (rIsi K) (tCons (tVar 1) (tCons (tC (.ty "str")) tNil))))) (tRet (tAndV (tCB (rIsi K) (tCons (tVar 0) (tCons (tC (.ty "str")) tNil))) (tAndV (tCB (rIsi K) (tCons (tVar 1) (tCons (tC (.ty "str")) tNil))) (tOp (rEqP K) (tVar 0) (tVar 1))))) tNext)
    (tSeq (tAsg (tAndV (tCB (rIsi K) (tCons (tVar 0) (tCons (tC (.ty "list")) tNil))) (tCB (rIsi K) (tCons (tVar 1) (tCons (tC (.ty "list")) tNil)))) (gName 2))
    (tCut (tIfS (tAnd (tNot (tB (tVar 2))) (tNot (tAnd (tB (tCB (rIsi K) (tCons (tVar 0) (tCons (tC (.ty "tuple")) tNil)))) (tB (tCB (rIsi K) (tCons (tVar 1) (tCons (tC (.ty "tuple")) tNil))))))) (tRet (tAndV (tOp (rIsP false) (tVar 0) (tC .non)) (tOp (rIsP false) (tVar 1) (tC .non)))) tNext)
    (tRet (tAndV (tOp (rEqP K) (tCB (rLenP K) (tCons (tVar 0) tNil)) (tCB (rLenP K) (tCons (tVar 1) tNil))) (tCB (rAll K) (tCons (tLc (iRng1 (tCons (tCB (rLenP K) (tCons (tVar 0) tNil)) tNil)) (gName 3) tYes (tCall R [] E0 (tCons (tOp (rIxP K) (tVar 0) (tVar 3)) (tCons (tOp (rIxP K) (tVar 1) (tVar 3)) tNil))) [3]) tNil)))))))))
local macro_rules | `(tactic| walk_at "same") => `(tactic| repeat (first | walk_at "s" | (with_reducible refine isi_bool (by assumption) ?_) | (with_reducible refine isi_int (by assumption) ?_) | (with_reducible refine isi_str (by assumption) ?_) | (with_reducible refine isi_list (by assumption) ?_) | (with_reducible refine isi_tuple (by assumption) ?_) | (refine s_itF rfl ?_) | (refine s_itT rfl ?_) | (with_reducible refine s_nocut ?_)))
theorem pure_law_same {K : PySem.W.Frag} {n : Nat} {vs : List V} {H : Hp} {Q : VK} {E : XK} {W : WX} (h : spn_law_same K n vs H Q E) : t_law_same K (spR_law_same K n) W { nx := fun _ H' => Q .non H', rt := Q } (start N_law_same vs) H := by
  obtain ⟨x, y, rfl, d, e, hd, he, hf, hq⟩ := h
  show t_law_same K _ W _ [some x, some y, none, none] H
  unfold t_law_same
  have q0 := hq H (Same.refl H)
  have no : d ≠ e → Q (.bl false) H := fun e1 => by rw [sameB_ne e1] at q0; exact q0
  have hy : ∀ {z : V} {f : PyData}, Is H z f → match f with
    | .none => z = .non
    | .bool b => z = .bl b
    | .int i => z = .int i
    | .str s => z = .str s
    | .list ds => ∃ a xs, z = .ref a ∧ H a = some (.lst xs) ∧ IsAll H xs ds
    | .tuple ds => ∃ a xs, z = .ref a ∧ H a = some (.tup xs) ∧ IsAll H xs ds
    | .dict _ => False := by
    intro z f h
    cases h with
    | lst h1 h2 => exact ⟨_, _, rfl, h1, h2⟩
    | tup h1 h2 => exact ⟨_, _, rfl, h1, h2⟩
    | _ => rfl
  have hX := hy hd
  have hY := hy he
  cases d with
  | none =>
    cases e with
    | none =>
      have hX : x = .non := hX
      have hY : y = .non := hY
      subst hX hY
      walk_at "same"
      rw [sameB_eq rfl] at q0
      exact q0
    | list es =>
      obtain ⟨b, ys, rfl, hb, hys⟩ := hY
      have hX : x = .non := hX
      subst hX
      walk_at "same"
      exact no (fun h => by cases h)
    | tuple es =>
      obtain ⟨b, ys, rfl, hb, hys⟩ := hY
      have hX : x = .non := hX
      subst hX
      walk_at "same"
      exact no (fun h => by cases h)
    | dict _ => exact False.elim hY
    | _ =>
      walk_at "same"
      exact no (fun h => by cases h)
  | bool a =>
    cases e with
    | bool b =>
      have hX : x = .bl a := hX
      have hY : y = .bl b := hY
      subst hX hY
      walk_at "same"
      rw [sameB_bool] at q0
      exact q0
    | dict _ => exact False.elim hY
    | _ =>
      walk_at "same"
      exact no (fun h => by cases h)
  | int a =>
    cases e with
    | int b =>
      have hX : x = .int a := hX
      have hY : y = .int b := hY
      subst hX hY
      walk_at "same"
      rw [sameB_int] at q0
      exact q0
    | dict _ => exact False.elim hY
    | _ =>
      walk_at "same"
      exact no (fun h => by cases h)
  | str a =>
    cases e with
    | str b =>
      have hX : x = .str a := hX
      have hY : y = .str b := hY
      subst hX hY
      walk_at "same"
      rw [sameB_str] at q0
      exact q0
    | dict _ => exact False.elim hY
    | _ =>
      walk_at "same"
      exact no (fun h => by cases h)
  | list ds =>
    obtain ⟨a, xs, rfl, ha, hxs⟩ := hX
    cases n with
    | zero => exact False.elim hf
    | succ n =>
    cases e with
    | list es =>
      obtain ⟨b, ys, rfl, hb, hys⟩ := hY
      walk_at "same"
      have e1 := hxs.len
      have e2 := hys.len
      have fin : ∀ H', Same H H' → Q (.bl (@decide (ds = es) (Classical.propDecidable _))) H' := fun H' s => by
        have w := hq H' s
        have e1 : sameB (.list ds) (.list es) = @decide (ds = es) (Classical.propDecidable _) := by
          by_cases h : ds = es
          · rw [sameB_eq (by rw [h])]; simp [h]
          · rw [sameB_ne (by simpa using h)]; simp [h]
        rw [e1] at w
        exact w
      have hL := hf.1
      refine s_lenL ha ?_
      walk_at "ss"
      refine s_lenL hb ?_
      walk_at "ss"
      refine s_itd (fun e => ?_) (fun e => ?_)
      · have hl : ds.length = es.length := by omega
        walk_at "ss"
        refine s_lenL ha ?_
        walk_at "ss"
        refine lcr_map (fun x => match x with | .int i => .bl (sameB (ds.getD i.toNat .none) (es.getD i.toNat .none)) | _ => .non) (by omega) (by omega) ?_ ?_
        · intro i hi H' s1 Q' hQ
          obtain ⟨v, d, h1, h2, h3⟩ := hxs.at (i := i) (by omega)
          obtain ⟨w, e', g1, g2, g3⟩ := hys.at (i := i) (by omega)
          walk_at "ss"
          refine s_ixL (s1 _ _ ha) (v := v) (atI_nat h1) ?_
          walk_at "ss"
          refine s_ixL (s1 _ _ hb) (v := w) (atI_nat g1) ?_
          walk_at "ss"
          refine ⟨_, _, rfl, d, e', h3.keep s1, g3.keep s1, hf.2 d (List.mem_of_getElem? h2), fun H2 s2 => ?_⟩
          have k1 : ds.getD i .none = d := by simp [List.getD, h2]
          have k2 : es.getD i .none = e' := by simp [List.getD, g2]
          have k3 : Q' (.bl (sameB (ds.getD i .none) (es.getD i .none))) H2 := hQ H2 s2
          rw [k1, k2] at k3
          exact k3
        · intro D H' hD s1 hl'
          walk_at "ss"
          refine s_all (bs := (List.range ds.length).map fun i => sameB (ds.getD i .none) (es.getD i .none)) ?_ ?_
          · rw [hl', List.map_map, ← e1]
            rfl
          · have := fin H' s1
            rw [← same_all hl] at this
            rw [List.all_map]
            exact this
      · have := fin H (Same.refl H)
        rw [show @decide (ds = es) (Classical.propDecidable _) = false by simp; intro h; apply e; rw [e1, e2, h]] at this
        exact this
    | dict _ => exact False.elim hY
    | _ =>
      walk_at "same"
      exact no (fun h => by cases h)
  | tuple ds =>
    obtain ⟨a, xs, rfl, ha, hxs⟩ := hX
    cases n with
    | zero => exact False.elim hf
    | succ n =>
    cases e with
    | tuple es =>
      obtain ⟨b, ys, rfl, hb, hys⟩ := hY
      walk_at "same"
      have e1 := hxs.len
      have e2 := hys.len
      have fin : ∀ H', Same H H' → Q (.bl (@decide (ds = es) (Classical.propDecidable _))) H' := fun H' s => by
        have w := hq H' s
        have e1 : sameB (.tuple ds) (.tuple es) = @decide (ds = es) (Classical.propDecidable _) := by
          by_cases h : ds = es
          · rw [sameB_eq (by rw [h])]; simp [h]
          · rw [sameB_ne (by simpa using h)]; simp [h]
        rw [e1] at w
        exact w
      have hL := hf.1
      refine s_lenT ha ?_
      walk_at "ss"
      refine s_lenT hb ?_
      walk_at "ss"
      refine s_itd (fun e => ?_) (fun e => ?_)
      · have hl : ds.length = es.length := by omega
        walk_at "ss"
        refine s_lenT ha ?_
        walk_at "ss"
        refine lcr_map (fun x => match x with | .int i => .bl (sameB (ds.getD i.toNat .none) (es.getD i.toNat .none)) | _ => .non) (by omega) (by omega) ?_ ?_
        · intro i hi H' s1 Q' hQ
          obtain ⟨v, d, h1, h2, h3⟩ := hxs.at (i := i) (by omega)
          obtain ⟨w, e', g1, g2, g3⟩ := hys.at (i := i) (by omega)
          walk_at "ss"
          refine s_ixT (s1 _ _ ha) (v := v) (atI_nat h1) ?_
          walk_at "ss"
          refine s_ixT (s1 _ _ hb) (v := w) (atI_nat g1) ?_
          walk_at "ss"
          refine ⟨_, _, rfl, d, e', h3.keep s1, g3.keep s1, hf.2 d (List.mem_of_getElem? h2), fun H2 s2 => ?_⟩
          have k1 : ds.getD i .none = d := by simp [List.getD, h2]
          have k2 : es.getD i .none = e' := by simp [List.getD, g2]
          have k3 : Q' (.bl (sameB (ds.getD i .none) (es.getD i .none))) H2 := hQ H2 s2
          rw [k1, k2] at k3
          exact k3
        · intro D H' hD s1 hl'
          walk_at "ss"
          refine s_all (bs := (List.range ds.length).map fun i => sameB (ds.getD i .none) (es.getD i .none)) ?_ ?_
          · rw [hl', List.map_map, ← e1]
            rfl
          · have := fin H' s1
            rw [← same_all hl] at this
            rw [List.all_map]
            exact this
      · have := fin H (Same.refl H)
        rw [show @decide (ds = es) (Classical.propDecidable _) = false by simp; intro h; apply e; rw [e1, e2, h]] at this
        exact this
    | dict _ => exact False.elim hY
    | _ =>
      walk_at "same"
      exact no (fun h => by cases h)
  | dict _ => exact False.elim hX
theorem same_ok {K : PySem.W.Frag} {x y : V} {d : PyData} {H : Hp} {Q : VK} {E : XK} (hx : Is H x d) (hy : Is H y d) (hf : Fits 4 d) (hq : ∀ H', Same H H' → Q (.bl true) H') : sp_law_same K [x, y] H Q E :=
  ⟨_, _, rfl, d, d, hx, hy, hf, fun H' s => by rw [sameB_eq rfl]; exact hq H' s⟩
def tH_law_same (K : PySem.W.Frag) (W : WX) : TS := (tCut (tIfS (tOr (tB (tCB (rIsi K) (tCons (tVar 0) (tCons (tC (.ty "bool")) tNil)))) (tB (tCB (rIsi K) (tCons (tVar 1) (tCons (tC (.ty "bool")) tNil))))) (tRet (tAndV (tCB (rIsi K) (tCons (tVar 0) (tCons (tC (.ty "bool")) tNil))) (tAndV (tCB (rIsi K) (tCons (tVar 1) (tCons (tC (.ty "bool")) tNil))) (tOp (rEqP K) (tVar 0) (tVar 1))))) tNext)
    (tCut (tIfS (tOr (tB (tCB (rIsi K) (tCons (tVar 0) (tCons (tC (.ty "int")) tNil)))) (tB (tCB (rIsi K) (tCons (tVar 1) (tCons (tC (.ty "int")) tNil))))) (tRet (tAndV (tCB (rIsi K) (tCons (tVar 0) (tCons (tC (.ty "int")) tNil))) (tAndV (tCB (rIsi K) (tCons (tVar 1) (tCons (tC (.ty "int")) tNil))) (tOp (rEqP K) (tVar 0) (tVar 1))))) tNext)
    (tCut (tIfS (tOr (tB (tCB (rIsi K) (tCons (tVar 0) (tCons (tC (.ty "str")) tNil)))) (tB (tCB (rIsi K) (tCons (tVar 1) (tCons (tC (.ty "str")) tNil))))) (tRet (tAndV (tCB (rIsi K) (tCons (tVar 0) (tCons (tC (.ty "str")) tNil))) (tAndV (tCB (rIsi K) (tCons (tVar 1) (tCons (tC (.ty "str")) tNil))) (tOp (rEqP K) (tVar 0) (tVar 1))))) tNext)
    (tSeq (tAsg (tAndV (tCB (rIsi K) (tCons (tVar 0) (tCons (tC (.ty "list")) tNil))) (tCB (rIsi K) (tCons (tVar 1) (tCons (tC (.ty "list")) tNil)))) (gName 2))
    (tCut (tIfS (tAnd (tNot (tB (tVar 2))) (tNot (tAnd (tB (tCB (rIsi K) (tCons (tVar 0) (tCons (tC (.ty "tuple")) tNil)))) (tB (tCB (rIsi K) (tCons (tVar 1) (tCons (tC (.ty "tuple")) tNil))))))) (tRet (tAndV (tOp (rIsP false) (tVar 0) (tC .non)) (tOp (rIsP false) (tVar 1) (tC .non)))) tNext)
    tNever)))))
def spH_law_same (K : PySem.W.Frag) : Sp := Sp2 fun x y H Q _ => ∃ d e : PyData, Is H x d ∧ Is H y e ∧ Fits 0 d ∧ Fits 0 e ∧ Q (.bl (sameB d e)) H
theorem pureH_law_same {K : PySem.W.Frag} {vs : List V} {H : Hp} {Q : VK} {E : XK} {W : WX} (h : spH_law_same K vs H Q E) : tH_law_same K W { nx := fun _ H' => Q .non H', rt := Q } (start N_law_same vs) H := by
  obtain ⟨x, y, rfl, d, e, hd, he, hf, hf2, q0⟩ := h
  show tH_law_same K W _ [some x, some y, none, none] H
  unfold tH_law_same
  have no : d ≠ e → Q (.bl false) H := fun e1 => by rw [sameB_ne e1] at q0; exact q0
  cases d with
  | none =>
    have hX : x = .non := by cases hd; rfl
    subst hX
    cases e with
    | none =>
      have hY : y = .non := by cases he; rfl
      subst hY
      walk_at "same"
      rw [sameB_eq rfl] at q0
      exact q0
    | list es => exact False.elim hf2
    | tuple es => exact False.elim hf2
    | dict _ => exact False.elim hf2
    | _ =>
      walk_at "same"
      exact no (fun h => by cases h)
  | bool a =>
    have hX : x = .bl a := by cases hd; rfl
    subst hX
    cases e with
    | bool b =>
      have hY : y = .bl b := by cases he; rfl
      subst hY
      walk_at "same"
      rw [sameB_bool] at q0
      exact q0
    | list es => exact False.elim hf2
    | tuple es => exact False.elim hf2
    | dict _ => exact False.elim hf2
    | _ =>
      walk_at "same"
      exact no (fun h => by cases h)
  | int a =>
    have hX : x = .int a := by cases hd; rfl
    subst hX
    cases e with
    | int b =>
      have hY : y = .int b := by cases he; rfl
      subst hY
      walk_at "same"
      rw [sameB_int] at q0
      exact q0
    | list es => exact False.elim hf2
    | tuple es => exact False.elim hf2
    | dict _ => exact False.elim hf2
    | _ =>
      walk_at "same"
      exact no (fun h => by cases h)
  | str a =>
    have hX : x = .str a := by cases hd; rfl
    subst hX
    cases e with
    | str b =>
      have hY : y = .str b := by cases he; rfl
      subst hY
      walk_at "same"
      rw [sameB_str] at q0
      exact q0
    | list es => exact False.elim hf2
    | tuple es => exact False.elim hf2
    | dict _ => exact False.elim hf2
    | _ =>
      walk_at "same"
      exact no (fun h => by cases h)
  | list ds => exact False.elim hf
  | tuple ds => exact False.elim hf
  | dict _ => cases hd
end Rd
namespace Rd
open PySem PySem.Spec PyProof.Rows L2 He Px
/-! texts in order -/
def SLt (a b : Str) : Prop := a.cps.toList < b.cps.toList
instance : DecidableRel SLt := fun a b => inferInstanceAs (Decidable (a.cps.toList < b.cps.toList))
theorem SLt.irr {a : Str} : ¬ SLt a a := List.lt_irrefl _
theorem SLt.tr {a b c : Str} (h : SLt a b) (g : SLt b c) : SLt a c := List.lt_trans h g
theorem SLt.tri {a b : Str} (h : ¬ SLt a b) (g : ¬ SLt b a) : a = b := str_ext (List.le_antisymm (List.not_lt.mp g) (List.not_lt.mp h))
def Ord (l : List Str) : Prop := l.Pairwise SLt
theorem Ord.uniq : ∀ {a b : List Str}, Ord a → Ord b → (∀ x, x ∈ a ↔ x ∈ b) → a = b
  | [], [], _, _, _ => rfl
  | [], y :: b, _, _, h => absurd ((h y).mpr List.mem_cons_self) List.not_mem_nil
  | x :: a, [], _, _, h => absurd ((h x).mp List.mem_cons_self) List.not_mem_nil
  | x :: a, y :: b, ha, hb, h => by
    have ha' := List.pairwise_cons.mp ha
    have hb' := List.pairwise_cons.mp hb
    have e : x = y := by
      rcases List.mem_cons.mp ((h x).mp List.mem_cons_self) with e | e
      · exact e
      · rcases List.mem_cons.mp ((h y).mpr List.mem_cons_self) with e2 | e2
        · exact e2.symm
        · exact absurd (SLt.tr (hb'.1 x e) (ha'.1 y e2)) SLt.irr
    subst e
    rw [Ord.uniq ha'.2 hb'.2 fun z => ⟨fun hz => ?_, fun hz => ?_⟩]
    · rcases List.mem_cons.mp ((h z).mp (List.mem_cons_of_mem _ hz)) with e | e
      · subst e; exact absurd (ha'.1 z hz) SLt.irr
      · exact e
    · rcases List.mem_cons.mp ((h z).mpr (List.mem_cons_of_mem _ hz)) with e | e
      · subst e; exact absurd (hb'.1 z hz) SLt.irr
      · exact e
def ins (x : Str) : List Str → List Str
  | [] => [x]
  | y :: r => if x = y then y :: r else if SLt x y then x :: y :: r else y :: ins x r
theorem mem_ins {x z : Str} : ∀ {l : List Str}, z ∈ ins x l ↔ z = x ∨ z ∈ l
  | [] => by simp [ins]
  | y :: r => by
    unfold ins
    by_cases e : x = y
    · rw [if_pos e]; subst e; simp
    · rw [if_neg e]
      by_cases g : SLt x y
      · rw [if_pos g]; simp
      · rw [if_neg g, List.mem_cons, mem_ins, List.mem_cons]
        constructor
        · rintro (h | h | h)
          · exact .inr (.inl h)
          · exact .inl h
          · exact .inr (.inr h)
        · rintro (h | h | h)
          · exact .inr (.inl h)
          · exact .inl h
          · exact .inr (.inr h)
theorem ord_ins {x : Str} : ∀ {l : List Str}, Ord l → Ord (ins x l)
  | [], _ => List.pairwise_singleton _ _
  | y :: r, h => by
    unfold ins
    have h' := List.pairwise_cons.mp h
    by_cases e : x = y
    · rw [if_pos e]; exact h
    · rw [if_neg e]
      by_cases g : SLt x y
      · rw [if_pos g]
        refine List.pairwise_cons.mpr ⟨fun z hz => ?_, h⟩
        rcases List.mem_cons.mp hz with rfl | hz
        · exact g
        · exact g.tr (h'.1 z hz)
      · rw [if_neg g]
        refine List.pairwise_cons.mpr ⟨fun z hz => ?_, ord_ins h'.2⟩
        rcases mem_ins.mp hz with rfl | hz
        · by_cases g2 : SLt y z
          · exact g2
          · exact absurd (SLt.tri g g2) e
        · exact h'.1 z hz
/-- the different texts of a list, in order -/
def srt : List Str → List Str
  | [] => []
  | x :: r => ins x (srt r)
theorem mem_srt {z : Str} : ∀ {l : List Str}, z ∈ srt l ↔ z ∈ l
  | [] => Iff.rfl
  | x :: r => by rw [srt, mem_ins, mem_srt, List.mem_cons]
theorem ord_srt : ∀ l : List Str, Ord (srt l)
  | [] => List.Pairwise.nil
  | x :: r => ord_ins (ord_srt r)
theorem srt_eq {l a : List Str} (h : Ord a) (m : ∀ x, x ∈ a ↔ x ∈ l) : a = srt l := Ord.uniq h (ord_srt l) fun x => (m x).trans mem_srt.symm
theorem srt_congr {a b : List Str} (h : ∀ x, x ∈ a ↔ x ∈ b) : srt a = srt b := srt_eq (ord_srt a) fun x => mem_srt.trans (h x)
theorem ins_len (x : Str) : ∀ l : List Str, (ins x l).length ≤ l.length + 1
  | [] => by simp [ins]
  | y :: r => by
    unfold ins
    split
    · simp
    · split
      · simp
      · have := ins_len x r
        simp only [List.length_cons]
        omega
theorem srt_len : ∀ l : List Str, (srt l).length ≤ l.length
  | [] => Nat.le_refl _
  | x :: r => Nat.le_trans (ins_len x _) (Nat.succ_le_succ (srt_len r))
/-- what sorted says -/
theorem rising_ge {p : Str} : ∀ {l : List Str}, risingS p l = true → ∀ x ∈ l, ¬ SLt x p
  | [], _, x, hx => nomatch hx
  | y :: r, h, x, hx => by
    have h2 : (!ltCps y.cps.toList p.cps.toList && risingS y r) = true := h
    rw [Bool.and_eq_true, ltCps_eq] at h2
    have hy : ¬ SLt y p := by
      intro g
      have g' : y.cps.toList < p.cps.toList := g
      rw [decide_eq_true g'] at h2
      cases h2.1
    rcases List.mem_cons.mp hx with rfl | hx
    · exact hy
    · intro g
      have := rising_ge h2.2 x hx
      by_cases e : SLt p y
      · exact this (g.tr e)
      · have e2 := SLt.tri hy e
        subst e2
        exact this g
theorem sorted_pair : ∀ {l : List Str}, sortedS l = true → l.Pairwise fun a b => ¬ SLt b a
  | [], _ => List.Pairwise.nil
  | x :: r, h => by
    have h : risingS x r = true := h
    refine List.pairwise_cons.mpr ⟨fun y hy => rising_ge h y hy, ?_⟩
    cases r with
    | nil => exact List.Pairwise.nil
    | cons y r =>
      have h2 : (!ltCps y.cps.toList x.cps.toList && risingS y r) = true := h
      rw [Bool.and_eq_true] at h2
      exact sorted_pair (l := y :: r) h2.2
/-- a further text of a sorted list -/
theorem ord_more {ys acc : List Str} {i : Nat} {x : Str} (hs : ys.Pairwise fun a b => ¬ SLt b a) (hi : ys[i]? = some x) (ha : Ord acc) (hm : ∀ z, z ∈ acc ↔ z ∈ ys.take i) (hx : x ∉ acc) : Ord (acc ++ [x]) := by
  refine List.pairwise_append.mpr ⟨ha, List.pairwise_singleton _ _, fun a hA b hb => ?_⟩
  have e : b = x := by simpa using hb
  subst e
  obtain ⟨hl, rfl⟩ := List.getElem?_eq_some_iff.mp hi
  obtain ⟨j, hj, e⟩ := List.getElem_of_mem ((hm a).mp hA)
  rw [List.length_take] at hj
  have hj2 : j < i := by omega
  have e2 : ys[j]'(by omega) = a := by rw [← e, List.getElem_take]
  have q := List.pairwise_iff_getElem.mp hs j i (by omega) hl hj2
  rw [e2] at q
  by_cases g : SLt a ys[i]
  · exact g
  · have := SLt.tri g q
    subst this
    exact absurd hA hx
/-! literals in order -/
def flat (zs : List Str) (l : List Str) : List Str := l.flatMap fun n => [n, ("-" : Str) ++ n].filter fun z => decide (z ∈ zs)
theorem flat_len (zs : List Str) : ∀ l : List Str, (flat zs l).length ≤ 2 * l.length
  | [] => by simp [flat]
  | x :: r => by
    have ih := flat_len zs r
    unfold flat at ih ⊢
    rw [List.flatMap_cons, List.length_append, List.length_cons]
    have := List.length_filter_le (fun z => decide (z ∈ zs)) [x, ("-" : Str) ++ x]
    simp only [List.length_cons, List.length_nil] at this
    omega
theorem flat_more (zs l : List Str) (n : Str) : flat zs (l ++ [n]) = flat zs l ++ [n, ("-" : Str) ++ n].filter fun z => decide (z ∈ zs) := by
  unfold flat
  rw [List.flatMap_append]
  simp
def litO (ls : List Str) : List Str := flat ls (srt (ls.map bare))
theorem litO_congr {a b : List Str} (h : ∀ x, x ∈ a ↔ x ∈ b) : litO a = litO b := by
  unfold litO flat
  rw [srt_congr (a := a.map bare) (b := b.map bare) fun x => by simp [h]]
  congr 1
  funext n
  congr 1
  funext z
  rw [Bool.eq_iff_iff]
  simp [h]
theorem litO_len (ls : List Str) : (litO ls).length ≤ 2 * ls.length := by
  have h := flat_len ls (srt (ls.map bare))
  have h2 := srt_len (ls.map bare)
  rw [List.length_map] at h2
  unfold litO
  omega
/-- the first name that stands in both signs -/
def twice (os : List Str) : Option Str := os.find? fun z => !dash z && decide (("-" : Str) ++ z ∈ os)
def badOf (zs : List Str) : Option Str := zs.find? fun z => !isLit z
/-! names, literals -/
theorem dash_app (z : Str) : dash (("-" : Str) ++ z) = true := (dash_iff _).mpr ⟨z.cps.toList, by rw [app_toList]; rfl⟩
theorem tail_app (z : Str) : cutS (("-" : Str) ++ z) (some 1) none = z := str_ext (by rw [cut_tail, app_toList]; rfl)
theorem bare_app (z : Str) : bare (("-" : Str) ++ z) = z := by
  unfold bare
  rw [if_pos (dash_app z), tail_app]
theorem nm_first {z : Str} (h : isNm z = true) : ∃ c r, z.cps.toList = c :: r ∧ c ∈ lettersL ∧ (∀ x ∈ z.cps.toList, x ∈ signsL) ∧ 1 ≤ z.length ∧ z.length ≤ 8 := by
  unfold isNm at h
  rw [Bool.and_eq_true, Bool.and_eq_true, Bool.and_eq_true] at h
  obtain ⟨h1, h2, h3, h4⟩ := h
  have h1 : ¬ (z.length : Int) < 1 := by simpa using h1
  have h2 : ¬ (8 : Int) < (z.length : Int) := by simpa using h2
  cases e : z.cps.toList with
  | nil => rw [e] at h3; cases h3
  | cons c r =>
    rw [e] at h3 h4
    refine ⟨c, r, rfl, of_decide_eq_true h3, fun x hx => ?_, by omega, by omega⟩
    exact of_decide_eq_true (List.all_eq_true.mp h4 x hx)
theorem dash45 : (45 : Nat) ∉ lettersL := by decide +kernel
theorem nm_nodash {z : Str} (h : isNm z = true) : dash z = false := by
  obtain ⟨c, r, e, hc, _⟩ := nm_first h
  cases hd : dash z with
  | false => rfl
  | true =>
    obtain ⟨r2, e2⟩ := (dash_iff z).mp hd
    rw [e] at e2
    have : c = 45 := (List.cons.inj e2).1
    subst this
    exact absurd hc dash45
theorem nm_bare {z : Str} (h : isNm z = true) : bare z = z := by
  unfold bare
  rw [nm_nodash h, if_neg Bool.false_ne_true]
theorem nm_lit {z : Str} (h : isNm z = true) : isLit z = true := by unfold isLit; rw [nm_bare h]; exact h
theorem neg_lit {z : Str} (h : isNm z = true) : isLit (("-" : Str) ++ z) = true := by unfold isLit; rw [bare_app]; exact h
theorem bare_eq {z : Str} (h : dash z = true) : ("-" : Str) ++ bare z = z := by
  obtain ⟨r, e⟩ := (dash_iff z).mp h
  apply str_ext
  rw [app_toList]
  unfold bare
  rw [if_pos h, cut_tail, e]
  rfl
theorem lit_cases {z : Str} (h : isLit z = true) : z = bare z ∨ z = ("-" : Str) ++ bare z := by
  cases hd : dash z with
  | false => left; unfold bare; rw [hd, if_neg Bool.false_ne_true]
  | true => right; exact (bare_eq hd).symm
theorem lit_len {z : Str} (h : isLit z = true) : z.length ≤ 9 := by
  obtain ⟨_, _, _, _, _, _, h8⟩ := nm_first (show isNm (bare z) = true from h)
  rcases lit_cases h with e | e
  · rw [e]; omega
  · rw [e, app_len]; show 1 + _ ≤ 9; omega
theorem flip_lit {z : Str} (h : isLit z = true) : isLit (flip z) = true := by
  unfold flip
  cases hd : dash z with
  | true =>
    rw [if_pos rfl]
    have e : bare z = cutS z (some 1) none := by unfold bare; rw [if_pos hd]
    rw [← e]
    exact nm_lit h
  | false =>
    rw [if_neg Bool.false_ne_true]
    have e : bare z = z := by unfold bare; rw [hd, if_neg Bool.false_ne_true]
    have h2 : isNm (bare z) = true := h
    rw [e] at h2
    exact neg_lit h2
/-- strings that are no literals -/
theorem nodash_of {z : Str} {c : Nat} {r : List Nat} (e : z.cps.toList = c :: r) (h : c ≠ 45) : dash z = false := by
  cases hd : dash z with
  | false => rfl
  | true =>
    obtain ⟨r2, e2⟩ := (dash_iff z).mp hd
    rw [e] at e2
    exact absurd (List.cons.inj e2).1 h
theorem bad_sign {z : Str} {c : Nat} (h : c ∈ z.cps.toList) (h1 : c ∉ signsL) (h2 : c ≠ 45) : isLit z = false := by
  cases hl : isLit z with
  | false => rfl
  | true =>
    obtain ⟨_, _, _, _, hs, _⟩ := nm_first (show isNm (bare z) = true from hl)
    rcases lit_cases hl with e | e
    · rw [e] at h; exact absurd (hs c h) h1
    · rw [e, app_toList] at h
      rcases List.mem_append.mp h with h | h
      · have : c = 45 := by simpa using (show c ∈ [45] from h)
        exact absurd this h2
      · exact absurd (hs c h) h1
theorem bad_first {z : Str} {c : Nat} {r : List Nat} (e : z.cps.toList = c :: r) (h : c ≠ 45) (h1 : c ∉ lettersL) : isLit z = false := by
  cases hl : isLit z with
  | false => rfl
  | true =>
    have hb : bare z = z := by unfold bare; rw [nodash_of e h, if_neg Bool.false_ne_true]
    obtain ⟨c2, r2, e2, hc, _⟩ := nm_first (show isNm (bare z) = true from hl)
    rw [hb, e] at e2
    rw [(List.cons.inj e2).1] at h1
    exact absurd hc h1
theorem bad_long {z : Str} {c : Nat} {r : List Nat} (e : z.cps.toList = c :: r) (h : c ≠ 45) (h1 : 8 < z.length) : isLit z = false := by
  cases hl : isLit z with
  | false => rfl
  | true =>
    have hb : bare z = z := by unfold bare; rw [nodash_of e h, if_neg Bool.false_ne_true]
    obtain ⟨_, _, _, _, _, _, h8⟩ := nm_first (show isNm (bare z) = true from hl)
    rw [hb] at h8
    omega
theorem letter_ne {c : Nat} (h : c ∈ lettersL) : c ≠ 45 := fun e => by rw [e] at h; exact dash45 h
/-! cuts -/
theorem cut_to (z : Str) (k : Nat) : (cutS z none (some (k : Int))).cps.toList = z.cps.toList.take k := by
  unfold cutS
  have e : HT.sIx z.length z.length (some (k : Int)) = min k z.length := HT.sIx_nat z.length z.length k
  rw [e, HT.sIx_none]
  show List.take (min k z.length - 0) (List.drop 0 z.cps.toList) = _
  rw [List.drop_zero, Nat.sub_zero, ← len_toList]
  rcases Nat.le_total k z.cps.toList.length with h | h
  · rw [Nat.min_eq_left h]
  · rw [Nat.min_eq_right h, List.take_of_length_le (Nat.le_refl _), List.take_of_length_le h]
theorem cut_from (z : Str) (k : Nat) : (cutS z (some (k : Int)) none).cps.toList = z.cps.toList.drop k := by
  unfold cutS
  have e : HT.sIx z.length 0 (some (k : Int)) = min k z.length := HT.sIx_nat z.length 0 k
  rw [e, HT.sIx_none]
  show List.take (z.length - min k z.length) (List.drop (min k z.length) z.cps.toList) = _
  rw [← len_toList]
  rcases Nat.le_total k z.cps.toList.length with h | h
  · rw [Nat.min_eq_left h, List.take_of_length_le (by rw [List.length_drop]; omega)]
  · rw [Nat.min_eq_right h, List.drop_of_length_le (Nat.le_refl _), List.drop_of_length_le h, List.take_nil]
theorem cut_mid {z : Str} {lo hi : Option Int} {x : Nat} (h : x ∈ (cutS z lo hi).cps.toList) : x ∈ z.cps.toList := by
  unfold cutS at h
  exact List.mem_of_mem_drop (List.mem_of_mem_take (by simpa using h))
theorem wrd_put {a b : Str} {c : Nat} (ha : a.cps.toList = [] ∨ Wrd a) (hc : c ∈ lettersL) (hb : ∀ x ∈ b.cps.toList, x ∈ signsL) : Wrd (a ++ ⟨#[c]⟩ ++ b) := by
  have e : (a ++ ⟨#[c]⟩ ++ b).cps.toList = a.cps.toList ++ (c :: b.cps.toList) := by
    rw [app_toList, app_toList, List.append_assoc]
    rfl
  rcases ha with ha | ⟨d, r, e1, h1, h2⟩
  · exact ⟨c, b.cps.toList, by rw [e, ha]; rfl, hc, hb⟩
  · refine ⟨d, r ++ (c :: b.cps.toList), by rw [e, e1]; rfl, h1, fun x hx => ?_⟩
    rcases List.mem_append.mp hx with hx | hx
    · exact h2 x hx
    · rcases List.mem_cons.mp hx with rfl | hx
      · exact letters_signs hc
      · exact hb x hx
theorem wrd_to {z : Str} (h : Wrd z) (k : Nat) : (cutS z none (some (k : Int))).cps.toList = [] ∨ Wrd (cutS z none (some (k : Int))) := by
  obtain ⟨c, r, e, h1, h2⟩ := h
  cases k with
  | zero => left; rw [cut_to]; rfl
  | succ k => right; exact ⟨c, r.take k, by rw [cut_to, e]; rfl, h1, fun x hx => h2 x (List.mem_of_mem_take hx)⟩
theorem wrd_signs {z : Str} (h : Wrd z) : ∀ x ∈ z.cps.toList, x ∈ signsL := by
  obtain ⟨c, r, e, h1, h2⟩ := h
  intro x hx
  rw [e] at hx
  rcases List.mem_cons.mp hx with rfl | hx
  · exact letters_signs h1
  · exact h2 x hx
theorem cutS_lenle (z : Str) (k : Int) (h : 0 ≤ k) : ((cutS z none (some k)).length : Int) ≤ k := by
  have e : (cutS z none (some k)).cps.toList = z.cps.toList.take k.toNat := by
    have := cut_to z k.toNat
    rw [Int.toNat_of_nonneg h] at this
    exact this
  have l := len_toList (cutS z none (some k))
  rw [e, List.length_take] at l
  omega
/-! searching -/
theorem find_at {α : Type} {p : α → Bool} {x : α} (hx : p x = true) : ∀ {l : List α} {i : Nat}, l[i]? = some x → (∀ y ∈ l.take i, p y = false) → l.find? p = some x
  | [], i, h, _ => by cases i <;> cases h
  | y :: r, 0, h, _ => by
    have e : y = x := Option.some.inj h
    subst e
    rw [List.find?_cons, hx]
  | y :: r, i + 1, h, hb => by
    rw [List.find?_cons, hb y List.mem_cons_self]
    exact find_at hx (l := r) (i := i) (by simpa using h) fun z hz => hb z (List.mem_cons_of_mem _ hz)
theorem find_no {α : Type} {p : α → Bool} {l : List α} (hb : ∀ y ∈ l, p y = false) : l.find? p = none := List.find?_eq_none.mpr fun y hy => by rw [hb y hy]; exact Bool.false_ne_true
theorem at_strs {zs : List Str} {i : Nat} {y : V} (h : (zs.map V.str)[i]? = some y) : ∃ z, zs[i]? = some z ∧ y = .str z := by
  rw [List.getElem?_map] at h
  cases e : zs[i]? with
  | none => rw [e] at h; cases h
  | some z => rw [e] at h; exact ⟨z, rfl, (Option.some.inj h).symm⟩
theorem take_all {α : Type} {P : α → Prop} {l : List α} {i : Nat} {x : α} (hi : l[i]? = some x) (h : ∀ y ∈ l.take i, P y) (hx : P x) : ∀ y ∈ l.take (i + 1), P y := fun y hy => by
  rw [take_more hi] at hy
  rcases List.mem_append.mp hy with hy | hy
  · exact h y hy
  · have : y = x := by simpa using hy
    rw [this]; exact hx
def badN (zs : List Str) : Option Str := zs.find? fun z => !isNm z
theorem badN_none {zs : List Str} (h : ∀ z ∈ zs, isNm z = true) : badN zs = none := find_no fun z hz => by rw [h z hz]; rfl
theorem badOf_none {zs : List Str} (h : ∀ z ∈ zs, isLit z = true) : badOf zs = none := find_no fun z hz => by rw [h z hz]; rfl
theorem badOf_ok {zs : List Str} (h : badOf zs = none) : ∀ z ∈ zs, isLit z = true := fun z hz => by
  have := List.find?_eq_none.mp h z hz
  cases e : isLit z with
  | true => rfl
  | false => rw [e] at this; exact absurd rfl this
/-- the loop's accumulator -/
theorem nub_step {ys acc : List Str} {i : Nat} {x : Str} (hs : ys.Pairwise fun a b => ¬ SLt b a) (hi : ys[i]? = some x) (ha : Ord acc) (hm : ∀ z, z ∈ acc ↔ z ∈ ys.take i) : (x ∈ acc → ∀ z, z ∈ acc ↔ z ∈ ys.take (i + 1)) ∧ (x ∉ acc → Ord (acc ++ [x]) ∧ ∀ z, z ∈ acc ++ [x] ↔ z ∈ ys.take (i + 1)) := by
  refine ⟨fun hx z => ?_, fun hx => ⟨ord_more hs hi ha hm hx, fun z => ?_⟩⟩
  · rw [take_more hi, List.mem_append, ← hm z]
    constructor
    · exact .inl
    · rintro (h | h)
      · exact h
      · have : z = x := by simpa using h
        rw [this]; exact hx
  · rw [take_more hi, List.mem_append, List.mem_append, ← hm z]
theorem filt1 {zs : List Str} {z : Str} (h : z ∈ zs) : [z].filter (fun z => decide (z ∈ zs)) = [z] := by simp [h]
theorem filt0 {zs : List Str} {z : Str} (h : z ∉ zs) : [z].filter (fun z => decide (z ∈ zs)) = [] := by simp [h]
theorem map_snoc (l : List Str) (z : Str) : (l ++ [z]).map V.str = l.map V.str ++ [V.str z] := by simp
theorem at_str {l : List Str} {i : Int} (h0 : 0 ≤ i) (h1 : i < (l.length : Int)) : ∃ z, z ∈ l ∧ atI (l.map V.str) i = some (.str z) := by
  have hl : i.toNat < l.length := by omega
  refine ⟨l[i.toNat], List.getElem_mem hl, ?_⟩
  unfold atI ixN
  rw [if_pos h0, if_pos (by rw [List.length_map]; omega)]
  simp [hl]
theorem dash_lit {n : Str} {r : Int} (hn : isNm n = true) (h0 : 0 ≤ r) (h1 : r < 2) : ∃ d : Str, atI [V.str "", V.str "-"] r = some (.str d) ∧ d.length ≤ 1 ∧ isLit (d ++ n) = true := by
  rcases (show r = 0 ∨ r = 1 by omega) with rfl | rfl
  · refine ⟨"", rfl, by decide, ?_⟩
    rw [show ("" : Str) ++ n = n from str_ext (by rw [app_toList]; rfl)]
    exact nm_lit hn
  · exact ⟨"-", rfl, by decide, neg_lit hn⟩
theorem flip_bare {z : Str} (h : isLit z = true) : bare (flip z) = bare z := by
  unfold flip
  cases hd : dash z with
  | true =>
    rw [if_pos rfl]
    have e : bare z = cutS z (some 1) none := by unfold bare; rw [if_pos hd]
    rw [← e]
    exact nm_bare h
  | false =>
    rw [if_neg Bool.false_ne_true, bare_app]
    unfold bare
    rw [hd, if_neg Bool.false_ne_true]
theorem same_name {y z : Str} (hy : isLit y = true) (hz : isLit z = true) (e : bare y = bare z) : y = z ∨ y = flip z := by
  have hn : isNm (bare z) = true := hz
  rcases lit_cases hy with e1 | e1
  · rcases lit_cases hz with e2 | e2
    · left; rw [e1, e, ← e2]
    · right
      have hd : dash z = true := by rw [e2]; exact dash_app _
      unfold flip
      rw [if_pos hd, e2, tail_app, e1, e]
  · rcases lit_cases hz with e2 | e2
    · right
      have hd : dash z = false := by rw [e2]; exact nm_nodash hn
      unfold flip
      rw [hd, if_neg Bool.false_ne_true, e1, e, ← e2]
    · left; rw [e1, e, ← e2]
/-- the object at c is a clause with these literals -/
def IsCl (K : PySem.W.Frag) (H : Hp) (c : Addr) (ls : List Str) : Prop := ∃ dx q, H c = some (.ins (ga K "Clause") dx [("literals", .ref q)]) ∧ H q = some (.tup (ls.map V.str))
theorem IsCl.keep {K : PySem.W.Frag} {H H' : Hp} {c : Addr} {ls : List Str} (h : IsCl K H c ls) (s : Same H H') : IsCl K H' c ls := by
  obtain ⟨dx, q, h1, h2⟩ := h
  exact ⟨dx, q, s _ _ h1, s _ _ h2⟩
theorem DpAll.strs {K : PySem.W.Frag} {H : Hp} : ∀ l : List Str, DpAll K H (l.map V.str) (l.map PyData.str)
  | [] => .nil
  | x :: r => .cons (.str x) (DpAll.strs r)
theorem eqvAll_strs : ∀ a b : List Str, PyData.eqvAll (a.map .str) (b.map .str) = decide (a = b)
  | [], [] => by simp [PyData.eqvAll]
  | [], _ :: _ => by simp [PyData.eqvAll]
  | _ :: _, [] => by simp [PyData.eqvAll]
  | x :: a, y :: b => by
    show (PyData.eqv (.str x) (.str y) && PyData.eqvAll (a.map .str) (b.map .str)) = _
    rw [eqvAll_strs a b]
    show ((x == y) && decide (a = b)) = _
    rw [Bool.eq_iff_iff]
    simp
theorem canLayAll_strs : ∀ l : List Str, (∀ z ∈ l, PyData.strOk z = true) → PyData.canLayAll0 (l.map .str) = true
  | [], _ => by simp [PyData.canLayAll0]
  | x :: r, h => by
    have ih := canLayAll_strs r fun z hz => h z (List.mem_cons_of_mem _ hz)
    have hx := h x List.mem_cons_self
    simp [PyData.canLayAll0, PyData.canLay0, ih, hx]
theorem depthAll_strs : ∀ l : List Str, PyData.depthAll (l.map .str) = 0
  | [] => by simp [PyData.depthAll]
  | x :: r => by
    have ih := depthAll_strs r
    simp [PyData.depthAll, PyData.depth, ih]
theorem shaped_strs (l : List Str) (h : ∀ z ∈ l, PyData.strOk z = true) : SeqAt.shaped (.tuple (l.map .str)) = true := by
  unfold SeqAt.shaped
  have h1 : (PyData.tuple (l.map .str)).canLay0 = true := by
    have := canLayAll_strs l h
    simp [PyData.canLay0, this]
  have h2 : (PyData.tuple (l.map .str)).depth = 1 := by
    have := depthAll_strs l
    simp [PyData.depth, this]
  rw [h1, h2]
  rfl
theorem litO_mem {zs : List Str} {z : Str} (h : z ∈ litO zs) : z ∈ zs := by
  unfold litO flat at h
  obtain ⟨n, _, hz⟩ := List.mem_flatMap.mp h
  exact of_decide_eq_true (List.mem_filter.mp hz).2
theorem litO_iff {zs : List Str} (h : ∀ z ∈ zs, isLit z = true) {z : Str} : z ∈ litO zs ↔ z ∈ zs := by
  refine ⟨litO_mem, fun hz => ?_⟩
  unfold litO flat
  refine List.mem_flatMap.mpr ⟨bare z, mem_srt.mpr (List.mem_map_of_mem hz), ?_⟩
  refine List.mem_filter.mpr ⟨?_, decide_eq_true hz⟩
  rcases lit_cases (h z hz) with e | e
  · rw [← e]; exact List.mem_cons_self
  · rw [← e]; exact List.mem_cons_of_mem _ List.mem_cons_self
theorem flat_find {zs : List Str} : ∀ {l : List Str}, (∀ n ∈ l, isNm n = true) → (flat zs l).find? (fun z => !dash z && decide (("-" : Str) ++ z ∈ zs)) = l.find? fun n => decide (n ∈ zs) && decide (("-" : Str) ++ n ∈ zs)
  | [], _ => rfl
  | n :: r, h => by
    have ih := flat_find (zs := zs) (l := r) fun m hm => h m (List.mem_cons_of_mem _ hm)
    have hd := nm_nodash (h n List.mem_cons_self)
    have e : flat zs (n :: r) = ([n, ("-" : Str) ++ n].filter fun z => decide (z ∈ zs)) ++ flat zs r := by unfold flat; rw [List.flatMap_cons]
    have dd : dash (("-" : Str) ++ n) = true := dash_app n
    rw [e, List.find?_append, ih]
    by_cases h1 : n ∈ zs <;> by_cases h2 : ("-" : Str) ++ n ∈ zs <;> simp [h1, h2, hd, dd]
theorem twice_eq {zs : List Str} (h : ∀ z ∈ zs, isLit z = true) : (srt (zs.map bare)).find? (fun n => decide (n ∈ zs) && decide (("-" : Str) ++ n ∈ zs)) = twice (litO zs) := by
  unfold twice
  have e : (fun z => !dash z && decide (("-" : Str) ++ z ∈ litO zs)) = fun z => !dash z && decide (("-" : Str) ++ z ∈ zs) := by
    funext z
    congr 1
    rw [Bool.eq_iff_iff]
    simp only [decide_eq_true_eq]
    exact litO_iff h
  rw [e]
  refine (flat_find fun n hn => ?_).symm
  obtain ⟨y, hy, rfl⟩ := List.mem_map.mp (mem_srt.mp hn)
  exact h y hy
/-- what is due for a row -/
def dueD (zs : List Str) : PyData := match badOf zs with
  | some z => .tuple [.str "literal", .str z, .bool true]
  | none => match twice (litO zs) with
    | some n => .tuple [.str "signs", .str n, .bool true]
    | none => if (6 : Int) < ((litO zs).length : Int) then .tuple [.str "many", .int 6, .bool true] else .tuple [.str "clause", .tuple ((litO zs).map .str), .bool true]
theorem due_bad {zs : List Str} {z : Str} (h : badOf zs = some z) : dueD zs = .tuple [.str "literal", .str z, .bool true] := by unfold dueD; rw [h]
theorem due_both {zs : List Str} {n : Str} (h : badOf zs = none) (h2 : twice (litO zs) = some n) : dueD zs = .tuple [.str "signs", .str n, .bool true] := by unfold dueD; rw [h]; dsimp only; rw [h2]
theorem due_many {zs : List Str} (h : badOf zs = none) (h2 : twice (litO zs) = none) (h3 : (6 : Int) < ((litO zs).length : Int)) : dueD zs = .tuple [.str "many", .int 6, .bool true] := by unfold dueD; rw [h]; dsimp only; rw [h2]; dsimp only; rw [if_pos h3]
theorem due_ok {zs : List Str} (h : badOf zs = none) (h2 : twice (litO zs) = none) (h3 : ¬ (6 : Int) < ((litO zs).length : Int)) : dueD zs = .tuple [.str "clause", .tuple ((litO zs).map .str), .bool true] := by unfold dueD; rw [h]; dsimp only; rw [h2]; dsimp only; rw [if_neg h3]
theorem three {H : Hp} {q : Addr} {x y z : V} {d e f : PyData} (h : H q = some (.tup [x, y, z])) (h1 : Is H x d) (h2 : Is H y e) (h3 : Is H z f) : Is H (.ref q) (.tuple [d, e, f]) := .tup h (.cons h1 (.cons h2 (.cons h3 .nil)))
theorem len3 {x y z : V} : [x, y, z].length ≤ sizeLine := by show 3 ≤ sizeLine; rw [sizeLine_eq]; decide
theorem fits3 {d e f : PyData} (h1 : Fits 3 d) (h2 : Fits 3 e) (h3 : Fits 3 f) : Fits 4 (.tuple [d, e, f]) := by
  refine ⟨by show 3 ≤ 1000000; decide, fun x hx => ?_⟩
  rcases List.mem_cons.mp hx with rfl | hx
  · exact h1
  rcases List.mem_cons.mp hx with rfl | hx
  · exact h2
  rcases List.mem_cons.mp hx with rfl | hx
  · exact h3
  · cases hx
theorem due_fits {zs : List Str} (hl : zs.length ≤ 8) : Fits 4 (dueD zs) := by
  have h8 := litO_len zs
  unfold dueD
  split
  · exact fits3 trivial trivial trivial
  · split
    · exact fits3 trivial trivial trivial
    · split
      · exact fits3 trivial trivial trivial
      · refine fits3 trivial ⟨by rw [List.length_map]; omega, fun x hx => ?_⟩ trivial
        obtain ⟨z, _, rfl⟩ := List.mem_map.mp hx
        trivial
/-! rows of literals of different names, as sets -/
theorem ins_len_new {x : Str} : ∀ {l : List Str}, x ∉ l → (ins x l).length = l.length + 1
  | [], _ => rfl
  | y :: r, h => by
    have h1 : ¬ x = y := fun e => h (e ▸ List.mem_cons_self)
    have h2 : x ∉ r := fun m => h (List.mem_cons_of_mem _ m)
    have ih := ins_len_new h2
    unfold ins
    rw [if_neg h1]
    split
    · rfl
    · rw [List.length_cons, ih]
      rfl
theorem srt_len_nd : ∀ {l : List Str}, l.Nodup → (srt l).length = l.length
  | [], _ => rfl
  | x :: r, h => by
    obtain ⟨h1, h2⟩ := List.nodup_cons.mp h
    show (ins x (srt r)).length = _
    rw [ins_len_new fun m => h1 (mem_srt.mp m), srt_len_nd h2]
    rfl
theorem inj_bare : ∀ {zs : List Str}, (zs.map bare).Nodup → ∀ x ∈ zs, ∀ y ∈ zs, bare x = bare y → x = y
  | [], _, x, hx, _, _, _ => by cases hx
  | z :: r, h, x, hx, y, hy, e => by
    obtain ⟨h1, h2⟩ := List.nodup_cons.mp (show (bare z :: r.map bare).Nodup from h)
    rcases List.mem_cons.mp hx with hx' | hx'
    · rcases List.mem_cons.mp hy with hy' | hy'
      · rw [hx', hy']
      · refine absurd ?_ h1
        rw [← hx', e]
        exact List.mem_map_of_mem hy'
    · rcases List.mem_cons.mp hy with hy' | hy'
      · refine absurd ?_ h1
        rw [← hy', ← e]
        exact List.mem_map_of_mem hx'
      · exact inj_bare h2 x hx' y hy' e
theorem neg_ne (n : Str) : n ≠ ("-" : Str) ++ n := fun e => by
  have := congrArg (fun z : Str => z.cps.toList.length) e
  simp only [app_toList, List.length_append] at this
  have h1 : (("-" : Str).cps.toList).length = 1 := rfl
  omega
/-- no name in both signs -/
theorem twice_no {zs : List Str} (h : ∀ z ∈ zs, isLit z = true) (hn : (zs.map bare).Nodup) : twice (litO zs) = none := by
  rw [← twice_eq h]
  refine find_no fun n _ => ?_
  by_cases h1 : n ∈ zs
  · by_cases h2 : ("-" : Str) ++ n ∈ zs
    · refine absurd (inj_bare hn n h1 _ h2 ?_) (neg_ne n)
      rw [bare_app]
      rcases lit_cases (h n h1) with e | e
      · exact e.symm
      · exfalso
        have h3 := h _ h2
        unfold isLit at h3
        rw [bare_app] at h3
        have := nm_nodash h3
        rw [e, dash_app] at this
        cases this
    · simp [h2]
  · simp [h1]
theorem flat_len_one {zs : List Str} : ∀ {l : List Str}, (∀ n ∈ l, (n ∈ zs ∨ ("-" : Str) ++ n ∈ zs) ∧ ¬ (n ∈ zs ∧ ("-" : Str) ++ n ∈ zs)) → (flat zs l).length = l.length
  | [], _ => rfl
  | n :: r, h => by
    have ih := flat_len_one (zs := zs) (l := r) fun m hm => h m (List.mem_cons_of_mem _ hm)
    have hn := h n List.mem_cons_self
    have e : flat zs (n :: r) = ([n, ("-" : Str) ++ n].filter fun z => decide (z ∈ zs)) ++ flat zs r := by unfold flat; rw [List.flatMap_cons]
    rw [e, List.length_append, ih, List.length_cons]
    by_cases h1 : n ∈ zs <;> by_cases h2 : ("-" : Str) ++ n ∈ zs <;> simp [h1, h2] at hn ⊢ <;> omega
theorem litO_len_nd {zs : List Str} (h : ∀ z ∈ zs, isLit z = true) (hn : (zs.map bare).Nodup) : (litO zs).length = zs.length := by
  have e := srt_len_nd hn
  rw [List.length_map] at e
  rw [← e]
  refine flat_len_one fun n hm => ?_
  obtain ⟨y, hy, rfl⟩ := List.mem_map.mp (mem_srt.mp hm)
  constructor
  · rcases lit_cases (h y hy) with e | e
    · left; rw [← e]; exact hy
    · right; rw [← e]; exact hy
  · rintro ⟨h1, h2⟩
    refine neg_ne (bare y) (inj_bare hn _ h1 _ h2 ?_)
    rw [bare_app, nm_bare (h y hy)]
theorem filt_nd {zs : List Str} (p : Str → Bool) (hn : (zs.map bare).Nodup) : ((zs.filter p).map bare).Nodup := hn.sublist ((List.filter_sublist (l := zs)).map bare)
theorem nd_of_bare {zs : List Str} (hn : (zs.map bare).Nodup) : zs.Nodup := (List.pairwise_map.mp hn).imp fun h e => h (congrArg bare e)
theorem due_congr {a b : List Str} (ha : ∀ z ∈ a, isLit z = true) (h : ∀ x, x ∈ a ↔ x ∈ b) : dueD a = dueD b := by
  unfold dueD
  rw [badOf_none ha, badOf_none fun z hz => ha z ((h z).mpr hz), litO_congr h]
theorem sub_back {a b : List Str} (hn : a.Nodup) (hs : ∀ z ∈ a, z ∈ b) (hl : a.length = b.length) : ∀ z ∈ b, z ∈ a := fun z hz => Classical.byContradiction fun h => by
  have h1 : (z :: a).Nodup := List.nodup_cons.mpr ⟨h, hn⟩
  have := List.Nodup.length_le_of_subset (l₂ := b) h1 fun y hy => by
    rcases List.mem_cons.mp hy with rfl | hy
    · exact hz
    · exact hs y hy
  rw [List.length_cons] at this
  omega
theorem litO_eq_iff {zs ys : List Str} (hz : ∀ z ∈ zs, isLit z = true) (hy : ∀ z ∈ ys, isLit z = true) (nz : (zs.map bare).Nodup) (ny : (ys.map bare).Nodup) : litO zs = litO ys ↔ (∀ z ∈ zs, z ∈ ys) ∧ zs.length = ys.length := by
  constructor
  · intro e
    refine ⟨fun z h => ?_, by rw [← litO_len_nd hz nz, e, litO_len_nd hy ny]⟩
    have := (litO_iff hz).mpr h
    rw [e] at this
    exact litO_mem this
  · rintro ⟨h1, h2⟩
    exact litO_congr fun x => ⟨h1 x, sub_back (nd_of_bare nz) h1 h2 x⟩
theorem sign_ok : ∀ c ∈ signsL, c < 0x110000 := by decide +kernel
theorem lit_ok {z : Str} (h : isLit z = true) : PyData.strOk z = true := by
  have key : ∀ w : Str, (∀ c ∈ w.cps.toList, c < 0x110000) → PyData.strOk w = true := fun w hw => by
    unfold PyData.strOk
    rw [← Array.all_toList]
    exact List.all_eq_true.mpr fun c hc => decide_eq_true (hw c hc)
  obtain ⟨_, _, _, _, hs, _⟩ := nm_first (show isNm (bare z) = true from h)
  rcases lit_cases h with e | e
  · rw [e]; exact key _ fun c hc => sign_ok c (hs c hc)
  · rw [e]
    refine key _ fun c hc => ?_
    rw [app_toList] at hc
    rcases List.mem_append.mp hc with hc | hc
    · have : c = 45 := List.mem_singleton.mp (show c ∈ [45] from hc)
      omega
    · exact sign_ok c (hs c hc)
theorem litO_ok {zs : List Str} (h : ∀ z ∈ zs, isLit z = true) : ∀ z ∈ litO zs, PyData.strOk z = true := fun z hz => lit_ok (h z (litO_mem hz))
theorem due_fitsN {zs : List Str} (hl : zs.length ≤ 1000) : Fits 4 (dueD zs) := by
  have h8 := litO_len zs
  unfold dueD
  split
  · exact fits3 trivial trivial trivial
  · split
    · exact fits3 trivial trivial trivial
    · split
      · exact fits3 trivial trivial trivial
      · refine fits3 trivial ⟨by rw [List.length_map]; omega, fun x hx => ?_⟩ trivial
        obtain ⟨z, _, rfl⟩ := List.mem_map.mp hx
        trivial
/-- a row of at most six literals of different names -/
structure Row6 (zs : List Str) : Prop where
  len : zs.length ≤ 6
  lit : ∀ z ∈ zs, isLit z = true
  nd : (zs.map bare).Nodup
theorem Row6.filter {zs : List Str} (h : Row6 zs) (p : Str → Bool) : Row6 (zs.filter p) := ⟨by have := List.length_filter_le p zs; have := h.len; omega, fun z hz => h.lit z (List.mem_filter.mp hz).1, filt_nd p h.nd⟩
theorem Row6.reverse {zs : List Str} (h : Row6 zs) : Row6 zs.reverse := ⟨by rw [List.length_reverse]; exact h.len, fun z hz => h.lit z (List.mem_reverse.mp hz), by rw [List.map_reverse]; exact List.pairwise_reverse.mpr (h.nd.imp Ne.symm)⟩
theorem Row6.litO {zs : List Str} (h : Row6 zs) : (litO zs).length = zs.length := litO_len_nd h.lit h.nd
theorem Row6.mem {zs : List Str} (h : Row6 zs) {z : Str} : z ∈ Rd.litO zs ↔ z ∈ zs := litO_iff h.lit
theorem Row6.short {zs : List Str} (h : Row6 zs) : ∀ z ∈ zs, z.length ≤ 1000 := fun z hz => by have := lit_len (h.lit z hz); omega
theorem at_strN {l : List Str} {i : Int} (h0 : 0 ≤ i) (h1 : i < (l.length : Int)) : ∃ z, l[i.toNat]? = some z ∧ atI (l.map V.str) i = some (.str z) ∧ ixN (l.map V.str).length i = some i.toNat := by
  have hl : i.toNat < l.length := by omega
  refine ⟨l[i.toNat], by simp [hl], ?_, ?_⟩
  · unfold atI ixN
    rw [if_pos h0, if_pos (by rw [List.length_map]; omega)]
    simp [hl]
  · unfold ixN
    rw [if_pos h0, if_pos (by rw [List.length_map]; omega)]
theorem set_bare {l : List Str} {i : Nat} {z y : Str} (h : l[i]? = some z) (e : bare y = bare z) : (l.set i y).map bare = l.map bare := by
  rw [List.map_set, e]
  obtain ⟨hi, rfl⟩ := List.getElem?_eq_some_iff.mp h
  have hi' : i < (l.map bare).length := by rw [List.length_map]; exact hi
  have := List.set_getElem_self (as := l.map bare) (i := i) hi'
  rw [List.getElem_map] at this
  exact this
/-- the text of a clause -/
def textC (ls : List Str) : Str := if ls.length = 0 then "0" else Txt.join " | " ls
theorem ord_nodup {l : List Str} (h : Ord l) : l.Nodup := List.Pairwise.imp (S := fun a b => a ≠ b) (fun {a b} (h : SLt a b) (e : a = b) => SLt.irr (by rw [e] at h; exact h)) h
theorem flat_bare {zs : List Str} {l : List Str} (hl : ∀ n ∈ l, isNm n = true) : ∀ z ∈ flat zs l, bare z ∈ l := fun z hz => by
  unfold flat at hz
  obtain ⟨n, hn, h⟩ := List.mem_flatMap.mp hz
  have h1 := (List.mem_filter.mp h).1
  rcases List.mem_cons.mp h1 with e | h1
  · rw [e, nm_bare (hl n hn)]; exact hn
  rcases List.mem_cons.mp h1 with e | h1
  · rw [e, bare_app]; exact hn
  · cases h1
theorem flat_nodup {zs : List Str} : ∀ {l : List Str}, l.Nodup → (∀ n ∈ l, isNm n = true) → (flat zs l).Nodup
  | [], _, _ => List.Pairwise.nil
  | n :: r, hd, hl => by
    obtain ⟨h1, h2⟩ := List.nodup_cons.mp hd
    have hr : ∀ m ∈ r, isNm m = true := fun m hm => hl m (List.mem_cons_of_mem _ hm)
    have ih := flat_nodup (zs := zs) h2 hr
    have e : flat zs (n :: r) = ([n, ("-" : Str) ++ n].filter fun z => decide (z ∈ zs)) ++ flat zs r := by unfold flat; rw [List.flatMap_cons]
    rw [e]
    have hn2 : ([n, ("-" : Str) ++ n]).Nodup := List.nodup_cons.mpr ⟨fun h => neg_ne n (by simpa using h), List.nodup_cons.mpr ⟨by simp, List.Pairwise.nil⟩⟩
    refine List.nodup_append.mpr ⟨List.Pairwise.filter _ hn2, ih, fun x hx y hy exy => ?_⟩
    have hb := flat_bare hr y hy
    have hx1 := (List.mem_filter.mp hx).1
    have e2 : bare x = n := by
      rcases List.mem_cons.mp hx1 with e | hx1
      · rw [e]; exact nm_bare (hl n List.mem_cons_self)
      rcases List.mem_cons.mp hx1 with e | hx1
      · rw [e, bare_app]
      · cases hx1
    rw [← exy, e2] at hb
    exact h1 hb
theorem litO_nodup {zs : List Str} (h : ∀ z ∈ zs, isLit z = true) : (litO zs).Nodup := flat_nodup (ord_nodup (ord_srt _)) fun n hn => by
  obtain ⟨y, hy, rfl⟩ := List.mem_map.mp (mem_srt.mp hn)
  exact h y hy
theorem same_len {a b : List Str} (ha : a.Nodup) (hb : b.Nodup) (h : ∀ x, x ∈ a ↔ x ∈ b) : a.length = b.length :=
  Nat.le_antisymm (List.Nodup.length_le_of_subset ha fun x hx => (h x).mp hx) (List.Nodup.length_le_of_subset hb fun x hx => (h x).mpr hx)
theorem litO_filt {zs : List Str} (h : Row6 zs) (p : Str → Bool) : ((litO zs).filter p).length = (zs.filter p).length :=
  same_len (List.Pairwise.filter p (litO_nodup h.lit)) (List.Pairwise.filter p (nd_of_bare h.nd)) fun x => by simp [List.mem_filter, h.mem]
theorem litO_litO {zs : List Str} (h : ∀ z ∈ zs, isLit z = true) : litO (litO zs) = litO zs := litO_congr fun _ => litO_iff h
theorem nd_bare {ws : List Str} (hn : ws.Nodup) (h : ∀ z ∈ ws, isLit z = true) (hf : ∀ z ∈ ws, flip z ∉ ws) : (ws.map bare).Nodup := by
  refine List.pairwise_map.mpr (List.Pairwise.imp_of_mem (R := fun a b => a ≠ b) ?_ hn)
  intro a b ha hb hne e
  rcases same_name (h a ha) (h b hb) e with e | e
  · exact hne e
  · exact hf b hb (e ▸ ha)
/-! lists of texts: comprehensions, joining -/
theorem s_catS {K : PySem.W.Frag} {H : Hp} {Q : VK} {a b : Addr} {xs ys : List Str} (ha : H a = some (.lst (xs.map V.str))) (hb : H b = some (.lst (ys.map V.str))) (hl : xs.length + ys.length ≤ 1000000) (h : ∀ l H', Same H H' → H l = none → H' l = some (.lst ((xs ++ ys).map V.str)) → Q (.ref l) H') : rAddP K (.ref a) (.ref b) H Q :=
  .inl ⟨_, _, _, _, rfl, rfl, ha, hb, by rw [List.length_map, List.length_map, sizeLine_eq]; omega, fun l hl0 => h l _ (same_new hl0) hl0 (by rw [upd_same, List.map_append])⟩
def gS (g : Str → V) : V → V
  | .str z => g z
  | _ => .non
def cS (c : Str → Bool) : V → Bool
  | .str z => c z
  | _ => false
theorem map_gS (g : Str → V) (zs : List Str) : (zs.map V.str).map (gS g) = zs.map g := by rw [List.map_map]; rfl
theorem filter_cS (c : Str → Bool) (zs : List Str) : (zs.map V.str).filter (cS c) = (zs.filter c).map V.str := by rw [List.filter_map]; rfl
theorem lcS_map {K : PySem.W.Frag} {H1 : Hp} {σ : L2.St} {Q : VK} {v : Nat} {te : TE} {x : V} {zs : List Str} (g : Str → V) (hx : Items K H1 x (zs.map V.str)) (hl : zs.length ≤ 1000000)
    (hf : ∀ z ∈ zs, ∀ H', Same H1 H' → ∀ Q' : VK, (∀ H'', Same H' H'' → Q' (g z) H'') → te (σ.set v (some (.str z))) H' Q')
    (hq : ∀ D H', H1 D = none → Same H1 H' → H' D = some (.lst (zs.map g)) → Q (.ref D) H') : LcBody K (gName v) tYes te [v] σ Q x H1 := by
  refine lcb_map (gS g) hx (by rw [List.length_map]; exact hl) ?_ ?_
  · intro x hx H' s Q' hQ
    obtain ⟨z, hz, rfl⟩ := List.mem_map.mp hx
    exact hf z hz H' s Q' hQ
  · intro D H' h0 s h
    rw [map_gS] at h
    exact hq D H' h0 s h
theorem lcS_str {K : PySem.W.Frag} {H1 : Hp} {σ : L2.St} {Q : VK} {v : Nat} {te : TE} {x : V} {zs : List Str} (f : Str → Str) (hx : Items K H1 x (zs.map V.str)) (hl : zs.length ≤ 1000000)
    (hf : ∀ z ∈ zs, ∀ H', Same H1 H' → ∀ Q' : VK, (∀ H'', Same H' H'' → Q' (.str (f z)) H'') → te (σ.set v (some (.str z))) H' Q')
    (hq : ∀ D H', H1 D = none → Same H1 H' → H' D = some (.lst ((zs.map f).map V.str)) → Q (.ref D) H') : LcBody K (gName v) tYes te [v] σ Q x H1 :=
  lcS_map (fun z => .str (f z)) hx hl hf fun D H' h0 s h => hq D H' h0 s (by rw [h, List.map_map]; rfl)
theorem lcS_bl {K : PySem.W.Frag} {H1 : Hp} {σ : L2.St} {Q : VK} {v : Nat} {te : TE} {x : V} {zs : List Str} (f : Str → Bool) (hx : Items K H1 x (zs.map V.str)) (hl : zs.length ≤ 1000000)
    (hf : ∀ z ∈ zs, ∀ H', Same H1 H' → ∀ Q' : VK, (∀ H'', Same H' H'' → Q' (.bl (f z)) H'') → te (σ.set v (some (.str z))) H' Q')
    (hq : ∀ D H', H1 D = none → Same H1 H' → H' D = some (.lst ((zs.map f).map V.bl)) → Q (.ref D) H') : LcBody K (gName v) tYes te [v] σ Q x H1 :=
  lcS_map (fun z => .bl (f z)) hx hl hf fun D H' h0 s h => hq D H' h0 s (by rw [h, List.map_map]; rfl)
theorem lcS_filt {K : PySem.W.Frag} {H1 : Hp} {σ : L2.St} {Q : VK} {v : Nat} {tt : TT} {te : TE} {x : V} {zs : List Str} (f : Str → Str) (c : Str → Bool) (hx : Items K H1 x (zs.map V.str)) (hl : zs.length ≤ 1000000)
    (hc : ∀ z ∈ zs, ∀ H', Same H1 H' → ∀ Q' : Bool → Hp → Prop, (∀ H'', Same H' H'' → Q' (c z) H'') → tt (σ.set v (some (.str z))) H' Q')
    (hf : ∀ z ∈ zs, c z = true → ∀ H', Same H1 H' → ∀ Q' : VK, (∀ H'', Same H' H'' → Q' (.str (f z)) H'') → te (σ.set v (some (.str z))) H' Q')
    (hq : ∀ D H', H1 D = none → Same H1 H' → H' D = some (.lst (((zs.filter c).map f).map V.str)) → Q (.ref D) H') : LcBody K (gName v) tt te [v] σ Q x H1 := by
  refine lcb_filt (gS fun z => .str (f z)) (cS c) hx (by rw [List.length_map]; exact hl) ?_ ?_ ?_
  · intro x hx H' s Q' hQ
    obtain ⟨z, hz, rfl⟩ := List.mem_map.mp hx
    exact hc z hz H' s Q' hQ
  · intro x hx hcx H' s Q' hQ
    obtain ⟨z, hz, rfl⟩ := List.mem_map.mp hx
    exact hf z hz hcx H' s Q' hQ
  · intro D H' h0 s h
    rw [filter_cS, map_gS] at h
    exact hq D H' h0 s (by rw [h, List.map_map]; rfl)
theorem IsAll.bls {H : Hp} : ∀ l : List Bool, IsAll H (l.map V.bl) (l.map PyData.bool)
  | [] => .nil
  | b :: r => .cons (.bl b) (IsAll.bls r)
theorem fits_bls {l : List Bool} (h : l.length ≤ 1000000) : Fits 4 (.list (l.map .bool)) := ⟨by rw [List.length_map]; exact h, fun d hd => by
  obtain ⟨z, _, rfl⟩ := List.mem_map.mp hd
  trivial⟩
theorem len1 {x : V} : [x].length ≤ sizeLine := by show 1 ≤ sizeLine; rw [sizeLine_eq]; decide
theorem len2 {x y : V} : [x, y].length ≤ sizeLine := by show 2 ≤ sizeLine; rw [sizeLine_eq]; decide
theorem len4 {x y z u : V} : [x, y, z, u].length ≤ sizeLine := by show 4 ≤ sizeLine; rw [sizeLine_eq]; decide
theorem len5 {x y z u w : V} : [x, y, z, u, w].length ≤ sizeLine := by show 5 ≤ sizeLine; rw [sizeLine_eq]; decide
theorem len6 {x y z u w r : V} : [x, y, z, u, w, r].length ≤ sizeLine := by show 6 ≤ sizeLine; rw [sizeLine_eq]; decide
theorem sum_le {ys : List Str} {m : Nat} (hz : ∀ z ∈ ys, z.length ≤ m) : (ys.map (·.length)).sum ≤ ys.length * m := by
  induction ys with
  | nil => simp
  | cons z r ih =>
    have h1 := ih fun y hy => hz y (List.mem_cons_of_mem _ hy)
    have h2 := hz z List.mem_cons_self
    rw [List.map_cons, List.sum_cons, List.length_cons, Nat.add_mul]
    omega
theorem join_fits {ys : List Str} {a : Str} (hl : ys.length ≤ 1000) (hz : ∀ z ∈ ys, z.length ≤ 1000) (ha : a.length ≤ 100) : (ys.map (·.length)).sum + ys.length * a.length ≤ 16777216 := by
  have h1 := sum_le hz
  have h2 : ys.length * 1000 ≤ 1000 * 1000 := Nat.mul_le_mul_right _ hl
  have h3 : ys.length * a.length ≤ 1000 * 100 := Nat.mul_le_mul hl ha
  omega
theorem fits_strs {l : List Str} (h : l.length ≤ 1000000) : Fits 4 (.tuple (l.map .str)) ∧ Fits 4 (.list (l.map .str)) := by
  have a : ∀ d ∈ l.map PyData.str, Fits 3 d := fun d hd => by
    obtain ⟨z, _, rfl⟩ := List.mem_map.mp hd
    trivial
  exact ⟨⟨by rw [List.length_map]; exact h, a⟩, ⟨by rw [List.length_map]; exact h, a⟩⟩
theorem same_un {H H' : Hp} {q : Addr} (s : Same H H') (h : H' q = none) : H q = none := by
  cases e : H q with
  | none => rfl
  | some o => rw [s _ _ e] at h; cases h
theorem same_put {H H' : Hp} {q : Addr} {o : HO} (s : Same H H') (h : H q = none) : Same H (upd H' q o) := fun b u e => by
  rw [upd_ne (ne_of_none e h)]
  exact s _ _ e
theorem s_lenO {K : PySem.W.Frag} {l : List (Addr × Str)} {H : Hp} {Q : VK} {p : Addr} {xs : List V} (hp : H p = some (.lst xs)) (h : Q (.int xs.length) H) : Cl.rLenO K l [.ref p] H Q := .inl (s_lenL hp h)
theorem s_intB {b : Bool} {H : Hp} {Q : VK} (h : Q (.int (if b then 1 else 0)) H) : rIntP [.bl b] H Q := h
/-! [e for k in range(j)], e draws from the source -/
theorem lcr_src {H1 : Hp} {σ : L2.St} {Q : VK} {v : Nat} {te : TE} {j : Int} {a : Addr} (P : Nat → Str → Prop) (h1 : j ≤ 1000000) (h0 : -1000000 ≤ j) (hS : Src H1 a)
    (hf : ∀ i : Nat, (i : Int) < j → ∀ H', Src H' a → Mov a H1 H' → ∀ Q' : VK, (∀ H'' z, Src H'' a → Mov a H' H'' → P i z → Q' (.str z) H'') → te (σ.set v (some (.int i))) H' Q')
    (hq : ∀ D H' (zs : List Str), H1 D = none → D ≠ a → Src H' a → Mov a H1 H' → H' D = some (.lst (zs.map V.str)) → zs.length = j.toNat → (∀ i z, zs[i]? = some z → P i z) → Q (.ref D) H') : LcBodyR (gName v) tYes te [v] σ Q [.int j] H1 := by
  refine ⟨j, rfl, by omega, by omega, ?_⟩
  intro Dr hD
  have hDa : Dr ≠ a := hS.ne hD
  have hxl : ((List.range j.toNat).map fun (i : Nat) => V.int (0 + (i : Int))).length = j.toNat := by rw [List.length_map, List.length_range]
  refine lc_y (xs := (List.range j.toNat).map fun (i : Nat) => V.int (0 + (i : Int))) (fun i H => Src H a ∧ Mov a H1 H ∧ ∃ zs : List Str, zs.length = i ∧ H Dr = some (.lst (zs.map V.str)) ∧ ∀ k z, zs[k]? = some z → P k z)
    ⟨hS.keep (same_new hD), Mov.of_same (same_new hD), [], rfl, upd_same, fun k z h => by simp at h⟩ (fun i H _ _ => yields_range 0 j.toNat i H) ?_ ?_
  · rintro i x H hi ⟨S, B, zs, hl, hz, hP⟩
    have hij : i < j.toNat := by have := (List.getElem?_eq_some_iff.mp hi).1; rw [hxl] at this; exact this
    have ex : x = .int (i : Int) := by
      rw [List.getElem?_map, List.getElem?_range hij] at hi
      have : V.int (0 + (i : Int)) = x := by simpa using hi
      rw [← this, Int.zero_add]
    subst ex
    have e1 : wipe σ [v] = σ.set v none := rfl
    rw [e1]
    have e2 : (σ.set v none).set v (some (.int (i : Int))) = σ.set v (some (.int (i : Int))) := by rw [List.set_set]
    have e3 : wipe (σ.set v (some (.int (i : Int)))) [v] = σ.set v none := by show (σ.set v (some _)).set v none = _; rw [List.set_set]
    unfold gName
    rw [e2]
    refine ⟨e3, ?_⟩
    unfold tYes
    dsimp only
    rw [if_pos rfl]
    refine hf i (by omega) H S B _ fun H'' z S2 b2 hp => ?_
    have B2 := B.trans b2
    refine ⟨zs.map V.str, b2 _ _ hz hDa, by rw [List.length_map, hl, sizeLine_eq]; omega, hS.off hD B2 S2, Mov.put hS hD B2, zs ++ [z], by rw [List.length_append, hl]; rfl, by rw [upd_same, map_snoc], fun k y hk => ?_⟩
    by_cases hlt : k < zs.length
    · rw [List.getElem?_append_left hlt] at hk
      exact hP k y hk
    · rw [List.getElem?_append_right (by omega)] at hk
      have hk0 : k = zs.length := by
        have := (List.getElem?_eq_some_iff.mp hk).1
        simp at this
        omega
      subst hk0
      have : z = y := by simpa using hk
      subst this
      rw [hl]
      exact hp
  · rintro H ⟨S, B, zs, hl, hz, hP⟩
    rw [hxl] at hl
    exact hq Dr H zs hD hDa S B hz hl hP
/-- [e for x in y]: the i-th value has P i, the heap only grows -/
theorem lcb_rel {K : PySem.W.Frag} {H1 : Hp} {σ : L2.St} {Q : VK} {v : Nat} {te : TE} {x : V} {xs : List V} (P : Nat → V → Hp → Prop) (hk : ∀ i y H H', P i y H → Same H H' → P i y H') (hu : ∀ i y H D zs ws, P i y H → H D = some (.lst zs) → P i y (upd H D (.lst ws))) (hx : Items K H1 x xs) (hl : xs.length ≤ 1000000)
    (hf : ∀ i x, xs[i]? = some x → ∀ H', Same H1 H' → ∀ Q' : VK, (∀ H'' y, Same H' H'' → P i y H'' → Q' y H'') → te (σ.set v (some x)) H' Q')
    (hq : ∀ D H' (ys : List V), H1 D = none → Same H1 H' → H' D = some (.lst ys) → ys.length = xs.length → (∀ i y, ys[i]? = some y → P i y H') → Q (.ref D) H') : LcBody K (gName v) tYes te [v] σ Q x H1 := by
  refine lcb_items hx fun J hy => ?_
  intro Dr hD
  refine lc_y (xs := xs) (fun i H => Same H1 H ∧ ∃ ys : List V, ys.length = i ∧ H Dr = some (.lst ys) ∧ ∀ k y, ys[k]? = some y → P k y H)
    ⟨same_new hD, [], rfl, upd_same, fun k z h => by simp at h⟩ (fun i H _ p => hy i H p.1) ?_ ?_
  · rintro i x H hi ⟨sm, ys, hl', hz, hP⟩
    have e1 : wipe σ [v] = σ.set v none := rfl
    rw [e1]
    have e2 : (σ.set v none).set v (some x) = σ.set v (some x) := by rw [List.set_set]
    have e3 : wipe (σ.set v (some x)) [v] = σ.set v none := by show (σ.set v (some _)).set v none = _; rw [List.set_set]
    unfold gName
    rw [e2]
    refine ⟨e3, ?_⟩
    unfold tYes
    dsimp only
    rw [if_pos rfl]
    refine hf i x hi H sm _ fun H'' y s2 hp => ?_
    have hil := (List.getElem?_eq_some_iff.mp hi).1
    have hz2 := s2 _ _ hz
    refine ⟨ys, hz2, by rw [hl', sizeLine_eq]; omega, fun b o e => ?_, ys ++ [y], by rw [List.length_append, hl']; rfl, upd_same, fun k u hk' => ?_⟩
    · rw [upd_ne (ne_of_none e hD)]
      exact s2 _ _ (sm _ _ e)
    · refine hu k u H'' Dr ys _ ?_ hz2
      by_cases hlt : k < ys.length
      · rw [List.getElem?_append_left hlt] at hk'
        exact hk k u H H'' (hP k u hk') s2
      · rw [List.getElem?_append_right (by omega)] at hk'
        have hk0 : k = ys.length := by
          have := (List.getElem?_eq_some_iff.mp hk').1
          simp at this
          omega
        subst hk0
        have : y = u := by simpa using hk'
        subst this
        rw [hl']
        exact hp
  · rintro H ⟨sm, ys, hl', hz, hP⟩
    exact hq Dr H ys hD sm hz hl' hP
theorem IsAll.ofIdx {H : Hp} : ∀ {ys : List V} {ds : List PyData}, ys.length = ds.length → (∀ (i : Nat) y d, ys[i]? = some y → ds[i]? = some d → Is H y d) → IsAll H ys ds
  | [], [], _, _ => .nil
  | [], _ :: _, h, _ => by simp at h
  | _ :: _, [], h, _ => by simp at h
  | y :: ys, d :: ds, h, f => .cons (f 0 y d rfl rfl) (IsAll.ofIdx (by simpa using h) fun i y d h1 h2 => f (i + 1) y d (by simpa using h1) (by simpa using h2))
/-! turnings -/
def IsTu (K : PySem.W.Frag) (H : Hp) (c : Addr) (ns : List Str) : Prop := ∃ dx q, H c = some (.ins (ga K "Turning") dx [("turned", .ref q)]) ∧ H q = some (.tup (ns.map V.str))
theorem IsTu.keep {K : PySem.W.Frag} {H H' : Hp} {c : Addr} {ns : List Str} (h : IsTu K H c ns) (s : Same H H') : IsTu K H' c ns := by
  obtain ⟨dx, q, h1, h2⟩ := h
  exact ⟨dx, q, s _ _ h1, s _ _ h2⟩
/-- a turning of the names is made, or refused -/
structure ChT (K : PySem.W.Frag) (zs : List Str) (H : Hp) (E : XK) (ok : Prop) : Prop where
  bad : ∀ z, badN zs = some z → ∀ H' d, Same H H' → H' d = some (.xd [("text", .str z)]) → E (.ref (ga K "BadName")) (some d) H'
  many : badN zs = none → (12 : Int) < ((srt zs).length : Int) → ∀ H' d, Same H H' → H' d = some (.xd [("limit", .int 12)]) → E (.ref (ga K "TooMany")) (some d) H'
  fine : badN zs = none → ((srt zs).length : Int) ≤ 12 → ok
theorem ChT.keep {K : PySem.W.Frag} {zs : List Str} {H H1 : Hp} {E : XK} {ok ok' : Prop} (h : ChT K zs H E ok) (s : Same H H1) (f : ok → ok') : ChT K zs H1 E ok' :=
  ⟨fun z e H' d s' => h.bad z e H' d (s.trans s'), fun e e2 H' d s' => h.many e e2 H' d (s.trans s'), fun e e2 => f (h.fine e e2)⟩
abbrev CkT (K : PySem.W.Frag) (zs : List Str) (H : Hp) (Q : VK) (E : XK) : Prop := ChT K zs H E (∀ H' c, Same H H' → H c = none → IsTu K H' c (srt zs) → Q (.ref c) H')
theorem CkT.keep {K : PySem.W.Frag} {zs : List Str} {H H1 : Hp} {Q : VK} {E : XK} (h : CkT K zs H Q E) (s : Same H H1) : CkT K zs H1 Q E := ChT.keep h s fun ok H' c s2 hc => ok H' c (s.trans s2) (same_un s hc)
theorem ckT_ok {K : PySem.W.Frag} {zs : List Str} {H : Hp} {Q : VK} {E : XK} (hn : ∀ z ∈ zs, isNm z = true) (hl : (srt zs).length ≤ 12) (h : ∀ H' c, Same H H' → H c = none → IsTu K H' c (srt zs) → Q (.ref c) H') : CkT K zs H Q E :=
  ⟨fun z e => by rw [badN_none hn] at e; (cases e), fun _ e => by omega, fun _ _ => h⟩
/-- names, in order, each once -/
structure Tn (ns : List Str) : Prop where
  nm : ∀ z ∈ ns, isNm z = true
  ord : Ord ns
  len : ns.length ≤ 12
theorem Tn.srt {ns : List Str} (h : Tn ns) : srt ns = ns := (srt_eq h.ord fun _ => Iff.rfl).symm
theorem Tn.of {zs : List Str} (hn : ∀ z ∈ zs, isNm z = true) (hl : (Rd.srt zs).length ≤ 12) : Tn (Rd.srt zs) := ⟨fun z h => hn z (mem_srt.mp h), ord_srt zs, hl⟩
theorem nm_short {z : Str} (h : isNm z = true) : z.length ≤ 8 := by obtain ⟨_, _, _, _, _, _, h8⟩ := nm_first h; exact h8
/-- the names that exactly one of the two has -/
def apartS (a b : List Str) : List Str := a.filter (fun z => !decide (z ∈ b)) ++ b.filter (fun z => !decide (z ∈ a))
theorem mem_apartS {a b : List Str} {z : Str} : z ∈ apartS a b ↔ (z ∈ a ∧ z ∉ b) ∨ (z ∈ b ∧ z ∉ a) := by simp [apartS, List.mem_filter]
theorem apartS_len (a b : List Str) : (apartS a b).length ≤ a.length + b.length := by
  unfold apartS
  rw [List.length_append]
  have h1 := List.length_filter_le (fun z => !decide (z ∈ b)) a
  have h2 := List.length_filter_le (fun z => !decide (z ∈ a)) b
  omega
/-- a literal turned -/
def turnL (ns : List Str) (z : Str) : Str := if bare z ∈ ns then flip z else z
theorem turnL_lit {ns : List Str} {z : Str} (h : isLit z = true) : isLit (turnL ns z) = true := by
  unfold turnL
  split
  · exact flip_lit h
  · exact h
theorem turnL_bare {ns : List Str} {z : Str} (h : isLit z = true) : bare (turnL ns z) = bare z := by
  unfold turnL
  split
  · exact flip_bare h
  · rfl
/-- a turning of the ordered names is made, or refused -/
def MkT (K : PySem.W.Frag) (ns : List Str) (H : Hp) (Q : VK) (E : XK) : Prop := (ns.length ≤ 12 → ∀ H' c, Same H H' → H c = none → IsTu K H' c ns → Q (.ref c) H') ∧ (12 < ns.length → ∀ H' d, Same H H' → H' d = some (.xd [("limit", .int 12)]) → E (.ref (ga K "TooMany")) (some d) H')
theorem MkT.keep {K : PySem.W.Frag} {ns : List Str} {H H1 : Hp} {Q : VK} {E : XK} (h : MkT K ns H Q E) (s : Same H H1) : MkT K ns H1 Q E := ⟨fun l H' c s2 hc => h.1 l H' c (s.trans s2) (same_un s hc), fun l H' d s2 => h.2 l H' d (s.trans s2)⟩
theorem MkT.ck {K : PySem.W.Frag} {zs : List Str} {H : Hp} {Q : VK} {E : XK} (hn : ∀ z ∈ zs, isNm z = true) (h : MkT K (srt zs) H Q E) : CkT K zs H Q E :=
  ⟨fun z e => by rw [badN_none hn] at e; (cases e), fun _ e => h.2 (by omega), fun _ e => h.1 (by omega)⟩
theorem MkT.fine {K : PySem.W.Frag} {ns : List Str} {H : Hp} {Q : VK} {E : XK} (hl : ns.length ≤ 12) (h : ∀ H' c, Same H H' → H c = none → IsTu K H' c ns → Q (.ref c) H') : MkT K ns H Q E := ⟨fun _ => h, fun l => by omega⟩
theorem srt_srt (zs : List Str) : srt (srt zs) = srt zs := srt_congr fun _ => mem_srt
theorem ord_filter {ns : List Str} (h : Ord ns) (p : Str → Bool) : Ord (ns.filter p) := List.Pairwise.filter p h
theorem srt_ord {ns : List Str} (h : Ord ns) : srt ns = ns := (srt_eq h fun _ => Iff.rfl).symm
theorem nm_ok {z : Str} (h : isNm z = true) : PyData.strOk z = true := lit_ok (nm_lit h)
/-- the text of a turning -/
def textT (ns : List Str) : Str := if ns.length = 0 then "0" else Txt.join " " ns
theorem cutV_from (l : List Str) (k : Nat) : cutV (l.map V.str) (some (k : Int)) none = (l.drop k).map V.str := by
  unfold cutV
  rw [HT.sIx_nat, HT.sIx_none, List.length_map, ← List.map_drop, ← List.map_take]
  congr 1
  by_cases h : k ≤ l.length
  · rw [Nat.min_eq_left h, List.take_of_length_le (by rw [List.length_drop]; exact Nat.le_refl _)]
  · rw [Nat.min_eq_right (by omega), List.drop_length, List.drop_of_length_le (by omega), List.take_nil]
theorem cutV_to (l : List Str) (k : Nat) : cutV (l.map V.str) none (some (k : Int)) = (l.take k).map V.str := by
  unfold cutV
  rw [HT.sIx_nat, HT.sIx_none, List.length_map, ← List.map_drop, ← List.map_take]
  congr 1
  rw [Nat.sub_zero, List.drop_zero]
  by_cases h : k ≤ l.length
  · rw [Nat.min_eq_left h]
  · rw [Nat.min_eq_right (by omega), List.take_length, List.take_of_length_le (by omega)]
theorem s_fromL {K : PySem.W.Frag} {H : Hp} {Q : VK} {a : Addr} {l : List Str} {i : Int} (ha : H a = some (.lst (l.map V.str))) (h0 : 0 ≤ i) (h : ∀ p H', Same H H' → H p = none → H' p = some (.lst ((l.drop i.toNat).map V.str)) → Q (.ref p) H') : rSlP K (.ref a) (some i) none H Q :=
  s_slL ha fun p hp => h p _ (same_new hp) hp (by
    rw [upd_same, ← cutV_from]
    congr 4
    omega)
theorem s_toL {K : PySem.W.Frag} {H : Hp} {Q : VK} {a : Addr} {l : List Str} {i : Int} (ha : H a = some (.lst (l.map V.str))) (h0 : 0 ≤ i) (h : ∀ p H', Same H H' → H p = none → H' p = some (.lst ((l.take i.toNat).map V.str)) → Q (.ref p) H') : rSlP K (.ref a) none (some i) H Q :=
  s_slL ha fun p hp => h p _ (same_new hp) hp (by
    rw [upd_same, ← cutV_to]
    congr 4
    omega)
theorem lst_data {K : PySem.W.Frag} {H : Hp} {q : Addr} {l : List Str} (h : H q = some (.lst (l.map V.str))) : Dp K H (.ref q) (.list (l.map .str)) := .lst (SqL.of h) (DpAll.strs l)
theorem eqv_lst (a b : List Str) : PyData.eqv (.list (a.map .str)) (.list (b.map .str)) = decide (a = b) := eqvAll_strs a b
theorem nm_not {z : Str} (h : isLit z = false) : isNm z = false := by
  cases e : isNm z with
  | false => rfl
  | true => rw [nm_lit e] at h; cases h
theorem neg_not {n : Str} : isNm (("-" : Str) ++ n) = false := by
  cases e : isNm (("-" : Str) ++ n) with
  | false => rfl
  | true =>
    have := nm_nodash e
    rw [dash_app] at this
    cases this
/-- what is due for a row of names -/
def dueT (zs : List Str) : PyData := match badN zs with
  | some z => .tuple [.str "name", .str z, .bool true]
  | none => if (12 : Int) < ((srt zs).length : Int) then .tuple [.str "many", .int 12, .bool true] else .tuple [.str "turning", .tuple ((srt zs).map .str), .bool true]
theorem dueT_bad {zs : List Str} {z : Str} (h : badN zs = some z) : dueT zs = .tuple [.str "name", .str z, .bool true] := by unfold dueT; rw [h]
theorem dueT_many {zs : List Str} (h : badN zs = none) (h3 : (12 : Int) < ((srt zs).length : Int)) : dueT zs = .tuple [.str "many", .int 12, .bool true] := by unfold dueT; rw [h]; dsimp only; rw [if_pos h3]
theorem dueT_ok {zs : List Str} (h : badN zs = none) (h3 : ¬ (12 : Int) < ((srt zs).length : Int)) : dueT zs = .tuple [.str "turning", .tuple ((srt zs).map .str), .bool true] := by unfold dueT; rw [h]; dsimp only; rw [if_neg h3]
theorem dueT_fits {zs : List Str} (hl : zs.length ≤ 1000) : Fits 4 (dueT zs) := by
  have h8 := srt_len zs
  unfold dueT
  split
  · exact fits3 trivial trivial trivial
  · split
    · exact fits3 trivial trivial trivial
    · refine fits3 trivial ⟨by rw [List.length_map]; omega, fun x hx => ?_⟩ trivial
      obtain ⟨z, _, rfl⟩ := List.mem_map.mp hx
      trivial
theorem is3 {H : Hp} {y : V} {t : Str} {d e : PyData} (h : Is H y (.tuple [.str t, d, e])) : ∃ q x2 x3, y = .ref q ∧ H q = some (.tup [.str t, x2, x3]) := by
  cases h with
  | tup h r =>
    cases r with
    | cons h1 r =>
      cases h1
      cases r with
      | cons h2 r =>
        cases r with
        | cons h3 r =>
          cases r
          exact ⟨_, _, _, rfl, h⟩
theorem badN_ok {zs : List Str} (h : badN zs = none) : ∀ z ∈ zs, isNm z = true := fun z hz => by
  have := List.find?_eq_none.mp h z hz
  cases e : isNm z with
  | true => rfl
  | false => rw [e] at this; exact absurd rfl this
theorem shaped_lst (l : List Str) (h : ∀ z ∈ l, PyData.strOk z = true) : SeqAt.shaped (.list (l.map .str)) = true := by
  unfold SeqAt.shaped
  have h1 : (PyData.list (l.map .str)).canLay0 = true := by
    have := canLayAll_strs l h
    simp [PyData.canLay0, this]
  have h2 : (PyData.list (l.map .str)).depth = 1 := by
    have := depthAll_strs l
    simp [PyData.depth, this]
  rw [h1, h2]
  rfl
theorem Row6.turn {zs : List Str} (h : Row6 zs) (ns : List Str) : Row6 (zs.map (turnL ns)) := ⟨by rw [List.length_map]; exact h.len, fun z hz => by
    obtain ⟨y, hy, rfl⟩ := List.mem_map.mp hz
    exact turnL_lit (h.lit y hy), by
    have e : (zs.map (turnL ns)).map bare = zs.map bare := by
      rw [List.map_map]
      exact List.map_congr_left fun z hz => turnL_bare (h.lit z hz)
    rw [e]
    exact h.nd⟩
theorem s_neB {K : PySem.W.Frag} {H : Hp} {Q : VK} {i j : Bool} (h : Q (.bl (!decide (i = j))) H) : rNeP K (.bl i) (.bl j) H Q := by
  show Q (.bl (!decide (V.bl i = V.bl j))) H
  rw [show decide (V.bl i = V.bl j) = decide (i = j) from by rw [Bool.eq_iff_iff]; simp]
  exact h
theorem flip_flip {z : Str} (h : isLit z = true) : flip (flip z) = z := by
  rcases same_name (flip_lit (flip_lit h)) h (by rw [flip_bare (flip_lit h), flip_bare h]) with e | e
  · exact e
  · exfalso
    have key : ∀ w : Str, isLit w = true → flip w ≠ w := fun w hw e => by
      unfold flip at e
      cases hd : dash w with
      | true =>
        rw [hd, if_pos rfl] at e
        have := len_toList (cutS w (some 1) none)
        have h2 := len_toList w
        rw [cut_tail, List.length_drop, e] at this
        obtain ⟨r, hr⟩ := (dash_iff w).mp hd
        rw [hr] at this h2
        simp at this h2
        omega
      | false =>
        rw [hd, if_neg Bool.false_ne_true] at e
        exact neg_ne w e.symm
    exact key _ (flip_lit h) e
theorem turnL_congr {a b : List Str} (h : ∀ x, x ∈ a ↔ x ∈ b) (z : Str) : turnL a z = turnL b z := by
  unfold turnL
  by_cases hb : bare z ∈ b
  · rw [if_pos ((h _).mpr hb), if_pos hb]
  · rw [if_neg (fun e => hb ((h _).mp e)), if_neg hb]
theorem turnL_twice {ns : List Str} {z : Str} (h : isLit z = true) : turnL ns (turnL ns z) = z := by
  have hb := turnL_bare (ns := ns) h
  by_cases e : bare z ∈ ns
  · have e1 : turnL ns z = flip z := if_pos e
    have e2 : turnL ns (turnL ns z) = flip (turnL ns z) := if_pos (by rw [hb]; exact e)
    rw [e2, e1, flip_flip h]
  · have e1 : turnL ns z = z := if_neg e
    rw [e1, e1]
theorem turnL_apart {a b : List Str} {z : Str} (h : isLit z = true) : turnL (apartS a b) z = turnL a (turnL b z) := by
  have hb := turnL_bare (ns := b) h
  have m := mem_apartS (a := a) (b := b) (z := bare z)
  by_cases e1 : bare z ∈ b
  · have h1 : turnL b z = flip z := if_pos e1
    by_cases e2 : bare z ∈ a
    · have h2 : turnL a (turnL b z) = flip (turnL b z) := if_pos (by rw [hb]; exact e2)
      rw [h2, h1, flip_flip h]
      exact if_neg (by rw [m]; rintro (⟨_, h⟩ | ⟨_, h⟩); exact h e1; exact h e2)
    · have h2 : turnL a (turnL b z) = turnL b z := if_neg (by rw [hb]; exact e2)
      rw [h2, h1]
      exact if_pos (m.mpr (.inr ⟨e1, e2⟩))
  · have h1 : turnL b z = z := if_neg e1
    rw [h1]
    by_cases e2 : bare z ∈ a
    · have h2 : turnL a z = flip z := if_pos e2
      rw [h2]
      exact if_pos (m.mpr (.inl ⟨e2, e1⟩))
    · have h2 : turnL a z = z := if_neg e2
      rw [h2]
      exact if_neg (by rw [m]; rintro (⟨h, _⟩ | ⟨h, _⟩); exact e2 h; exact e1 h)
theorem dueT_congr {a b : List Str} (ha : ∀ z ∈ a, isNm z = true) (h : ∀ x, x ∈ a ↔ x ∈ b) : dueT a = dueT b := by
  unfold dueT
  rw [badN_none ha, badN_none fun z hz => ha z ((h z).mpr hz), srt_congr h]
theorem srt_filter (zs : List Str) (p : Str → Bool) : (srt zs).filter p = srt (zs.filter p) := srt_eq (ord_filter (ord_srt zs) p) fun x => by simp [List.mem_filter, mem_srt]
theorem apartS_nodup {a b : List Str} (ha : a.Nodup) (hb : b.Nodup) : (apartS a b).Nodup := by
  unfold apartS
  refine List.nodup_append.mpr ⟨List.Pairwise.filter _ ha, List.Pairwise.filter _ hb, fun x hx y hy e => ?_⟩
  have h1 := (List.mem_filter.mp hx).1
  have h2 := (List.mem_filter.mp hy).2
  rw [← e] at h2
  simp [h1] at h2
theorem apartS_nm {a b : List Str} (ha : ∀ z ∈ a, isNm z = true) (hb : ∀ z ∈ b, isNm z = true) : ∀ z ∈ apartS a b, isNm z = true := fun z h => by
  rcases mem_apartS.mp h with ⟨h, _⟩ | ⟨h, _⟩
  · exact ha z h
  · exact hb z h
theorem apartS_congr {a b a' b' : List Str} (h1 : ∀ x, x ∈ a ↔ x ∈ a') (h2 : ∀ x, x ∈ b ↔ x ∈ b') : ∀ x, x ∈ apartS a b ↔ x ∈ apartS a' b' := fun x => by rw [mem_apartS, mem_apartS, h1, h2]
theorem neg_bad {z : Str} (h : isLit z = false) : isLit (("-" : Str) ++ z) = false := by
  show isNm (bare (("-" : Str) ++ z)) = false
  rw [bare_app]
  exact nm_not h
/-- a list of different names, at most 12 -/
structure Nms (zs : List Str) : Prop where
  len : zs.length ≤ 12
  nm : ∀ z ∈ zs, isNm z = true
  nd : zs.Nodup
theorem Nms.tn {zs : List Str} (h : Nms zs) : Tn (Rd.srt zs) := Tn.of h.nm (by have := srt_len zs; have := h.len; omega)
/-- a literal is a yes under the turning -/
def yesB (ns : List Str) (z : Str) : Bool := !decide ((!dash z) = decide (bare z ∈ ns))
theorem yesB_congr {a b : List Str} (h : ∀ x, x ∈ a ↔ x ∈ b) (z : Str) : yesB a z = yesB b z := by
  unfold yesB
  have : decide (bare z ∈ a) = decide (bare z ∈ b) := by rw [Bool.eq_iff_iff]; simp [h]
  rw [this]
theorem dash_flip {z : Str} (h : isLit z = true) : dash (flip z) = !dash z := by
  unfold flip
  cases hd : dash z with
  | true =>
    rw [if_pos rfl]
    have e : bare z = cutS z (some 1) none := by unfold bare; rw [if_pos hd]
    rw [← e]
    exact nm_nodash h
  | false =>
    rw [if_neg Bool.false_ne_true]
    exact dash_app z
theorem dash_turn {ns : List Str} {z : Str} (h : isLit z = true) : (!dash (turnL ns z)) = yesB ns z := by
  unfold turnL yesB
  by_cases e : bare z ∈ ns
  · rw [if_pos e, dash_flip h, decide_eq_true e]
    cases dash z <;> rfl
  · rw [if_neg e, decide_eq_false e]
    cases dash z <;> rfl
theorem Row6.sub {zs ys : List Str} (h : Row6 zs) (s : ys.Sublist zs) : Row6 ys := ⟨Nat.le_trans s.length_le h.len, fun z hz => h.lit z (s.subset hz), h.nd.sublist (s.map bare)⟩
theorem less_sub (zs : List Str) (k : Nat) : (zs.take k ++ zs.drop (k + 1)).Sublist zs := by
  have := List.Sublist.append (List.Sublist.refl (zs.take k)) (List.drop_sublist_drop_left zs (Nat.le_succ k))
  rw [List.take_append_drop] at this
  exact this
theorem IsTu.upd {K : PySem.W.Frag} {H : Hp} {c D : Addr} {ns : List Str} {zs ws : List V} (h : IsTu K H c ns) (hD : H D = some (.lst zs)) : IsTu K (L2.upd H D (.lst ws)) c ns := by
  obtain ⟨dx, q, h1, h2⟩ := h
  refine ⟨dx, q, ?_, ?_⟩
  · rw [upd_ne (fun e => by rw [e, hD] at h1; cases h1)]; exact h1
  · rw [upd_ne (fun e => by rw [e, hD] at h2; cases h2)]; exact h2
/-- the first name that exactly one has is in the second -/
def befB (a b : List Str) : Bool := match (srt (apartS a b)).head? with
  | some n => decide (n ∈ b)
  | none => false
theorem befB_congr {a b a' b' : List Str} (h1 : ∀ x, x ∈ a ↔ x ∈ a') (h2 : ∀ x, x ∈ b ↔ x ∈ b') : befB a b = befB a' b' := by
  unfold befB
  rw [srt_congr (apartS_congr h1 h2)]
  cases (srt (apartS a' b')).head? with
  | none => rfl
  | some n => dsimp only; rw [Bool.eq_iff_iff]; simp [h2]
theorem apartS_comm (a b : List Str) : ∀ x, x ∈ apartS a b ↔ x ∈ apartS b a := fun x => by rw [mem_apartS, mem_apartS]; exact Or.comm
theorem befB_tri (a b : List Str) : (!befB b a) = (befB a b || decide (srt a = srt b)) := by
  unfold befB
  rw [srt_congr (apartS_comm b a)]
  cases e : srt (apartS a b) with
  | nil =>
    have : srt a = srt b := srt_congr fun x => by
      have h : x ∉ apartS a b := fun h => by rw [← mem_srt, e] at h; cases h
      rw [mem_apartS] at h
      by_cases h1 : x ∈ a <;> by_cases h2 : x ∈ b <;> simp [h1, h2] at h ⊢
    simp [this]
  | cons n r =>
    have hn : n ∈ apartS a b := by rw [← mem_srt, e]; exact List.mem_cons_self
    have hne : srt a ≠ srt b := fun h => by
      have h1 : ∀ x, x ∈ a ↔ x ∈ b := fun x => by rw [← mem_srt, h, mem_srt]
      rcases mem_apartS.mp hn with ⟨h2, h3⟩ | ⟨h2, h3⟩
      · exact h3 ((h1 n).mp h2)
      · exact h3 ((h1 n).mpr h2)
    rcases mem_apartS.mp hn with ⟨h2, h3⟩ | ⟨h2, h3⟩ <;> simp [h2, h3, hne]
/-- the names that two at least turn -/
def medS (a b c : List Str) : List Str := (a.filter fun z => decide (z ∈ b) || decide (z ∈ c)) ++ b.filter fun z => decide (z ∈ c)
theorem mem_medS {a b c : List Str} {z : Str} : z ∈ medS a b c ↔ (z ∈ a ∧ (z ∈ b ∨ z ∈ c)) ∨ (z ∈ b ∧ z ∈ c) := by simp [medS, List.mem_filter]
theorem cutV_mid (l : List Str) (i j : Nat) : cutV (l.map V.str) (some (i : Int)) (some (j : Int)) = ((l.drop (min i l.length)).take (min j l.length - min i l.length)).map V.str := by
  unfold cutV
  rw [HT.sIx_nat, HT.sIx_nat, List.length_map, ← List.map_drop, ← List.map_take]
theorem s_midL {K : PySem.W.Frag} {H : Hp} {Q : VK} {a : Addr} {l : List Str} {i j : Int} (ha : H a = some (.lst (l.map V.str))) (h0 : 0 ≤ i) (h1 : 0 ≤ j) (h : ∀ p H', Same H H' → H p = none → H' p = some (.lst (((l.drop (min i.toNat l.length)).take (min j.toNat l.length - min i.toNat l.length)).map V.str)) → Q (.ref p) H') : rSlP K (.ref a) (some i) (some j) H Q :=
  s_slL ha fun p hp => h p _ (same_new hp) hp (by
    rw [upd_same, ← cutV_mid]
    congr 4 <;> omega)
theorem Nms.sub {l zs : List Str} (hn : ∀ z ∈ l, isNm z = true) (hd : l.Nodup) (s : zs.Sublist l) (hl : zs.length ≤ 12) : Nms zs := ⟨hl, fun z h => hn z (s.subset h), hd.sublist s⟩
theorem Nms.rev {zs : List Str} (h : Nms zs) : Nms zs.reverse := ⟨by rw [List.length_reverse]; exact h.len, fun z hz => h.nm z (List.mem_reverse.mp hz), List.pairwise_reverse.mpr (h.nd.imp Ne.symm)⟩
/-- three lists of names -/
structure Rows3 (H : Hp) (r : Addr) (rs : List Addr) (zss : List (List Str)) : Prop where
  at_ : H r = some (.lst (rs.map V.ref))
  lr : rs.length = 3
  lz : zss.length = 3
  row : ∀ i, i < 3 → ∃ q z, rs[i]? = some q ∧ zss[i]? = some z ∧ H q = some (.lst (z.map V.str)) ∧ Nms z
theorem Rows3.keep {H H' : Hp} {r : Addr} {rs : List Addr} {zss : List (List Str)} (h : Rows3 H r rs zss) (s : Same H H') : Rows3 H' r rs zss := ⟨s _ _ h.at_, h.lr, h.lz, fun i hi => by
  obtain ⟨q, z, h1, h2, h3, h4⟩ := h.row i hi
  exact ⟨q, z, h1, h2, s _ _ h3, h4⟩⟩
theorem Rows3.of {H : Hp} {r q0 q1 q2 : Addr} {z0 z1 z2 : List Str} (h : H r = some (.lst [.ref q0, .ref q1, .ref q2])) (h0 : H q0 = some (.lst (z0.map V.str))) (h1 : H q1 = some (.lst (z1.map V.str))) (h2 : H q2 = some (.lst (z2.map V.str))) (n0 : Nms z0) (n1 : Nms z1) (n2 : Nms z2) : Rows3 H r [q0, q1, q2] [z0, z1, z2] := ⟨h, rfl, rfl, fun i hi => by
  match i, hi with
  | 0, _ => exact ⟨_, _, rfl, rfl, h0, n0⟩
  | 1, _ => exact ⟨_, _, rfl, rfl, h1, n1⟩
  | 2, _ => exact ⟨_, _, rfl, rfl, h2, n2⟩⟩
/-! books -/
/-- number, clause, its literals -/
abbrev BRow := Int × Addr × List Str
def kvB (rows : List BRow) : List (Key × V) := rows.map fun r => (Sum.inl r.1, V.ref r.2.1)
/-- the book at b, its dict at d -/
structure IsBk (K : PySem.W.Frag) (H : Hp) (b d : Addr) (rows : List BRow) (g : Int) : Prop where
  ob : ∃ dx, H b = some (.ins (ga K "Book") dx [("rows", .ref d), ("greatest", .int g)])
  di : H d = some (.dK (kvB rows))
  cl : ∀ r ∈ rows, IsCl K H r.2.1 r.2.2
theorem IsBk.keep {K : PySem.W.Frag} {H H' : Hp} {b d : Addr} {rows : List BRow} {g : Int} (h : IsBk K H b d rows g) (s : Same H H') : IsBk K H' b d rows g := by
  obtain ⟨dx, o⟩ := h.ob
  exact ⟨⟨dx, s _ _ o⟩, s _ _ h.di, fun r hr => (h.cl r hr).keep s⟩
/-- all but the two objects stands -/
def Chg (b d : Addr) (H H' : Hp) : Prop := ∀ a o, H a = some o → a ≠ b → a ≠ d → H' a = some o
theorem Chg.refl (b d : Addr) (H : Hp) : Chg b d H H := fun _ _ h _ _ => h
theorem Chg.trans {b d : Addr} {H H1 H2 : Hp} (x : Chg b d H H1) (y : Chg b d H1 H2) : Chg b d H H2 := fun a o h n m => y a o (x a o h n m) n m
theorem Same.chg {b d : Addr} {H H1 : Hp} (s : Same H H1) : Chg b d H H1 := fun a o h _ _ => s a o h
theorem chg_b {b d : Addr} {H : Hp} {o : HO} : Chg b d H (upd H b o) := fun a u h n _ => by rw [upd_ne n]; exact h
theorem chg_d {b d : Addr} {H : Hp} {o : HO} : Chg b d H (upd H d o) := fun a u h _ n => by rw [upd_ne n]; exact h
theorem ne_fs {H : Hp} {a b C C' dx dx' : Addr} {fs fs' : List (Str × V)} (h1 : H a = some (.ins C dx fs)) (h2 : H b = some (.ins C' dx' fs')) (hl : fs.length ≠ fs'.length) : a ≠ b := fun e => by
  rw [e, h2] at h1
  have h3 := Option.some.inj h1
  injection h3 with _ _ h4
  exact hl (by rw [h4])
theorem IsCl.chg {K : PySem.W.Frag} {H H' : Hp} {b d c : Addr} {rows : List BRow} {g : Int} {ls : List Str} (h : IsCl K H c ls) (B : IsBk K H b d rows g) (s : Chg b d H H') : IsCl K H' c ls := by
  obtain ⟨dx, q, h1, h2⟩ := h
  obtain ⟨dy, o⟩ := B.ob
  exact ⟨dx, q, s _ _ h1 (ne_fs h1 o (by simp)) (ne_of h1 B.di (fun z => by cases z)), s _ _ h2 (ne_of h2 o (fun z => by cases z)) (ne_of h2 B.di (fun z => by cases z))⟩
theorem IsBk.ne {K : PySem.W.Frag} {H : Hp} {b d : Addr} {rows : List BRow} {g : Int} (B : IsBk K H b d rows g) : b ≠ d := by
  obtain ⟨dx, o⟩ := B.ob
  exact ne_of o B.di (fun z => by cases z)
theorem map_str_inj : ∀ {a b : List Str}, a.map V.str = b.map V.str → a = b
  | [], [], _ => rfl
  | [], _ :: _, h => by cases h
  | _ :: _, [], h => by cases h
  | x :: a, y :: b, h => by
    injection h with h1 h2
    injection h1 with h1
    rw [h1, map_str_inj h2]
theorem IsCl.fn {K : PySem.W.Frag} {H : Hp} {c : Addr} {l1 l2 : List Str} (h1 : IsCl K H c l1) (h2 : IsCl K H c l2) : l1 = l2 := by
  obtain ⟨dx, q, a1, a2⟩ := h1
  obtain ⟨dy, q', b1, b2⟩ := h2
  rw [a1] at b1
  have e := Option.some.inj b1
  injection e with _ _ e
  injection e with e _
  injection e with _ e
  injection e with e
  subst e
  rw [a2] at b2
  have e := Option.some.inj b2
  injection e with e
  exact map_str_inj e
/-- names of some literals, in order -/
def nmsO (ls : List Str) : List Str := srt (ls.map bare)
/-- a book's rows are in order, its literals are literals, there aren't many -/
structure Bok (rows : List BRow) (g : Int) : Prop where
  asc : (rows.map (·.1)).Pairwise (· < ·)
  top : ∀ r ∈ rows, 1 ≤ r.1 ∧ r.1 ≤ g
  lit : ∀ r ∈ rows, ∀ z ∈ r.2.2, isLit z = true
  few : (rows.flatMap (·.2.2)).length ≤ 900
  len : rows.length ≤ 100
theorem valB (rows : List BRow) (n : Int) : valV (kvB rows) (Sum.inl n) = (rows.find? fun r => decide (r.1 = n)).map fun r => V.ref r.2.1 := by
  unfold valV kvB
  rw [List.find?_map, Option.map_map]
  have e : ((fun kv : Key × V => decide (kv.1 = Sum.inl n)) ∘ fun r : BRow => ((Sum.inl r.1 : Key), V.ref r.2.1)) = fun r => decide (r.1 = n) := by
    funext r
    show decide ((Sum.inl r.1 : Key) = Sum.inl n) = decide (r.1 = n)
    by_cases h : r.1 = n
    · rw [h]; simp
    · rw [decide_eq_false h, decide_eq_false (fun z => h (Sum.inl.inj z))]
  rw [e]
  rfl
theorem hasB (rows : List BRow) (n : Int) : (valV (kvB rows) (Sum.inl n)).isSome = decide (n ∈ rows.map (·.1)) := by
  rw [valB, Option.isSome_map, Bool.eq_iff_iff, List.find?_isSome, decide_eq_true_iff, List.mem_map]
  constructor
  · rintro ⟨r, hr, h⟩
    exact ⟨r, hr, of_decide_eq_true h⟩
  · rintro ⟨r, hr, h⟩
    exact ⟨r, hr, decide_eq_true h⟩
theorem putB_new {rows : List BRow} {n : Int} {c : Addr} (ls : List Str) (h : n ∉ rows.map (·.1)) : putK (kvB rows) (Sum.inl n) (V.ref c) = kvB (rows ++ [(n, c, ls)]) := by
  unfold putK
  rw [valV_any, hasB, decide_eq_false h, if_neg Bool.false_ne_true]
  unfold kvB
  rw [List.map_append]
  rfl
theorem putB_old {rows : List BRow} {n : Int} {c : Addr} (ls : List Str) (h : n ∈ rows.map (·.1)) : putK (kvB rows) (Sum.inl n) (V.ref c) = kvB (rows.map fun r => if r.1 = n then (n, c, ls) else r) := by
  unfold putK
  rw [valV_any, hasB, decide_eq_true h, if_pos rfl]
  unfold kvB
  rw [List.map_map, List.map_map]
  apply List.map_congr_left
  intro r _
  show (if (Sum.inl r.1 : Key) = Sum.inl n then ((Sum.inl r.1 : Key), V.ref c) else (Sum.inl r.1, V.ref r.2.1)) = _
  by_cases h : r.1 = n
  · rw [if_pos (by rw [h])]
    show _ = ((Sum.inl (if r.1 = n then (n, c, ls) else r).1 : Key), V.ref (if r.1 = n then (n, c, ls) else r).2.1)
    rw [if_pos h, h]
  · rw [if_neg (fun z => h (Sum.inl.inj z))]
    show _ = ((Sum.inl (if r.1 = n then (n, c, ls) else r).1 : Key), V.ref (if r.1 = n then (n, c, ls) else r).2.1)
    rw [if_neg h]
theorem dropB (rows : List BRow) (n : Int) : dropK (kvB rows) (Sum.inl n) = kvB (rows.filter fun r => decide (r.1 ≠ n)) := by
  unfold dropK kvB
  rw [List.filter_map]
  congr 1
  apply List.filter_congr
  intro r _
  show decide ((Sum.inl r.1 : Key) ≠ Sum.inl n) = decide (r.1 ≠ n)
  by_cases h : r.1 = n
  · simp [h]
  · have h2 : ¬ ((Sum.inl r.1 : Key) = Sum.inl n) := fun z => h (Sum.inl.inj z)
    simp [h, h2]
theorem kvB_len (rows : List BRow) : (kvB rows).length = rows.length := by unfold kvB; rw [List.length_map]
theorem kvB_vals (rows : List BRow) : (kvB rows).map Prod.snd = rows.map fun r => V.ref r.2.1 := by unfold kvB; rw [List.map_map]; rfl
theorem kvB_keys (rows : List BRow) : ((kvB rows).map fun p => kV p.1) = (rows.map (·.1)).map V.int := by unfold kvB; rw [List.map_map, List.map_map]; rfl
/-- the row with a number -/
def rowAt (rows : List BRow) (n : Int) : Option BRow := rows.find? fun r => decide (r.1 = n)
theorem rowAt_mem {rows : List BRow} {n : Int} {r : BRow} (h : rowAt rows n = some r) : r ∈ rows ∧ r.1 = n := by
  have h' : rows.find? (fun r => decide (r.1 = n)) = some r := h
  exact ⟨List.mem_of_find?_eq_some h', by simpa using List.find?_some h'⟩
theorem rowAt_some {rows : List BRow} {n : Int} (h : n ∈ rows.map (·.1)) : ∃ r, rowAt rows n = some r := by
  unfold rowAt
  rw [← Option.isSome_iff_exists, List.find?_isSome]
  obtain ⟨r, hr, e⟩ := List.mem_map.mp h
  exact ⟨r, hr, decide_eq_true e⟩
theorem few_filter {rows : List BRow} {p : BRow → Bool} : ((rows.filter p).flatMap (·.2.2)).length ≤ (rows.flatMap (·.2.2)).length := by
  induction rows with
  | nil => exact Nat.le_refl _
  | cons r rs ih =>
    rw [List.filter_cons]
    split
    · rw [List.flatMap_cons, List.flatMap_cons, List.length_append, List.length_append]
      omega
    · rw [List.flatMap_cons, List.length_append]
      omega
theorem Bok.drop {rows : List BRow} {g : Int} (h : Bok rows g) (p : BRow → Bool) : Bok (rows.filter p) g :=
  ⟨(h.asc.sublist (List.filter_sublist.map _)), fun r hr => h.top r (List.mem_filter.mp hr).1, fun r hr => h.lit r (List.mem_filter.mp hr).1, Nat.le_trans few_filter h.few, Nat.le_trans (List.length_filter_le _ _) h.len⟩
theorem Bok.put {rows : List BRow} {g : Int} {c : Addr} {ls : List Str} (h : Bok rows g) (hg : 0 ≤ g) (hl : ∀ z ∈ ls, isLit z = true) (hf : (rows.flatMap (·.2.2)).length + ls.length ≤ 900) (hn : rows.length < 100) : Bok (rows ++ [(g + 1, c, ls)]) (g + 1) := by
  refine ⟨?_, fun r hr => ?_, fun r hr => ?_, ?_, ?_⟩
  · rw [List.map_append, List.pairwise_append]
    refine ⟨h.asc, List.pairwise_singleton _ _, fun a ha b hb => ?_⟩
    obtain ⟨r, hr, rfl⟩ := List.mem_map.mp ha
    have : b = g + 1 := by simpa using hb
    have := h.top r hr
    omega
  · rcases List.mem_append.mp hr with hr | hr
    · have := h.top r hr
      omega
    · have e : r = (g + 1, c, ls) := by simpa using hr
      subst e
      exact ⟨by show 1 ≤ g + 1; omega, by show g + 1 ≤ g + 1; omega⟩
  · rcases List.mem_append.mp hr with hr | hr
    · exact h.lit r hr
    · have e : r = (g + 1, c, ls) := by simpa using hr
      subst e
      exact hl
  · rw [List.flatMap_append, List.length_append]
    simp only [List.flatMap_cons, List.flatMap_nil, List.append_nil]
    exact hf
  · rw [List.length_append]
    show rows.length + 1 ≤ 100
    omega
theorem Bok.fresh {rows : List BRow} {g : Int} (h : Bok rows g) : g + 1 ∉ rows.map (·.1) := fun m => by
  obtain ⟨r, hr, e⟩ := List.mem_map.mp m
  have := h.top r hr
  omega
/-- TooMany is raised -/
def ErrM (K : PySem.W.Frag) (n : Int) (H : Hp) (E : XK) : Prop := ∀ H' d, Same H H' → H' d = some (.xd [("limit", .int n)]) → E (.ref (ga K "TooMany")) (some d) H'
theorem ErrM.keep {K : PySem.W.Frag} {n : Int} {H H1 : Hp} {E : XK} (h : ErrM K n H E) (s : Same H H1) : ErrM K n H1 E := fun H' d s' hd => h H' d (s.trans s') hd
/-- why a book has no room: too many clauses, too many names -/
def roomErr (rows : List BRow) (ls : List Str) : Option Int := if 24 ≤ rows.length then some 24 else if 12 < (nmsO (rows.flatMap (·.2.2) ++ ls)).length then some 12 else none
theorem rowsC {rows : List BRow} : (rows.map fun r => V.ref r.2.1) = (rows.map fun r => ((r.2.1, r.2.2) : Addr × List Str)).map fun r => V.ref r.1 := by rw [List.map_map]; rfl
theorem rowsF {rows : List BRow} : (rows.map fun r => ((r.2.1, r.2.2) : Addr × List Str)).flatMap (·.2) = rows.flatMap (·.2.2) := by rw [List.flatMap_map]
/-- NoClause is raised -/
def ErrN (K : PySem.W.Frag) (n : Int) (H : Hp) (E : XK) : Prop := ∀ H' d, Same H H' → H' d = some (.xd [("number", .int n)]) → E (.ref (ga K "NoClause")) (some d) H'
theorem s_inB {K : PySem.W.Frag} {H : Hp} {d : Addr} {rows : List BRow} {n : Int} {neg : Bool} {Q : VK} (hd : H d = some (.dK (kvB rows))) (h : Q (.bl (tgtIn neg (decide (n ∈ rows.map (·.1))))) H) : rInP K neg (.int n) (.ref d) H Q :=
  .inr ⟨_, DGet.k (k := Sum.inl n) hd, by rw [hasB]; exact h⟩
/-- a list of rows: addresses with their texts -/
structure IsRw (H : Hp) (p : Addr) (rs : List (Addr × List Str)) : Prop where
  li : H p = some (.lst (rs.map fun r => V.ref r.1))
  ro : ∀ r ∈ rs, H r.1 = some (.lst (r.2.map V.str))
theorem IsRw.keep {H H' : Hp} {p : Addr} {rs : List (Addr × List Str)} (h : IsRw H p rs) (s : Same H H') : IsRw H' p rs := ⟨s _ _ h.li, fun r hr => s _ _ (h.ro r hr)⟩
/-- number, clause, the row's list, the row -/
abbrev TRow := Int × Addr × Addr × List Str
def bkT (tb : List TRow) : List BRow := tb.map fun r => (r.1, r.2.1, litO r.2.2.2)
def rwT (tb : List TRow) : List (Addr × List Str) := tb.map fun r => (r.2.2.1, r.2.2.2)
def nuT (tb : List TRow) : List Int := tb.map (·.1)
theorem bkT_nums (tb : List TRow) : (bkT tb).map (·.1) = nuT tb := by unfold bkT nuT; rw [List.map_map]; rfl
theorem bkT_len (tb : List TRow) : (bkT tb).length = tb.length := by unfold bkT; rw [List.length_map]
theorem nuT_len (tb : List TRow) : (nuT tb).length = tb.length := by unfold nuT; rw [List.length_map]
theorem row_inj : ∀ {rows : List BRow}, (rows.map (·.1)).Pairwise (· < ·) → ∀ {r s : BRow}, r ∈ rows → s ∈ rows → r.1 = s.1 → r = s
  | [], _, _, _, hr, _, _ => by cases hr
  | a :: l, asc, r, s, hr, hs, e => by
    rw [List.map_cons, List.pairwise_cons] at asc
    rcases List.mem_cons.mp hr with e1 | h1
    · rcases List.mem_cons.mp hs with e2 | h2
      · rw [e1, e2]
      · have := asc.1 _ (List.mem_map_of_mem (f := fun x : BRow => x.1) h2)
        rw [e1] at e
        omega
    · rcases List.mem_cons.mp hs with e2 | h2
      · have := asc.1 _ (List.mem_map_of_mem (f := fun x : BRow => x.1) h1)
        rw [e2] at e
        omega
      · exact row_inj asc.2 h1 h2 e
theorem rowAt_of {rows : List BRow} (asc : (rows.map (·.1)).Pairwise (· < ·)) {r : BRow} (hr : r ∈ rows) : rowAt rows r.1 = some r := by
  obtain ⟨s, hs⟩ := rowAt_some (List.mem_map_of_mem (f := fun x : BRow => x.1) hr)
  obtain ⟨h1, h2⟩ := rowAt_mem hs
  rw [hs, row_inj asc h1 hr h2]
theorem nmsT {tb : List TRow} (h : ∀ r ∈ tb, Row6 r.2.2.2) : nmsO ((bkT tb).flatMap (·.2.2)) = nmsO ((rwT tb).flatMap (·.2)) := by
  unfold nmsO
  refine srt_congr fun x => ?_
  unfold bkT rwT
  rw [List.flatMap_map, List.flatMap_map]
  simp only [List.mem_map, List.mem_flatMap]
  constructor
  · rintro ⟨z, ⟨r, hr, hz⟩, e⟩
    exact ⟨z, ⟨r, hr, litO_mem hz⟩, e⟩
  · rintro ⟨z, ⟨r, hr, hz⟩, e⟩
    exact ⟨z, ⟨r, hr, (litO_iff (h r hr).lit).mpr hz⟩, e⟩
/-- [e for k in range(j)]: the i-th value has P i, the heap only grows -/
theorem lcr_rel {H1 : Hp} {σ : L2.St} {Q : VK} {v : Nat} {te : TE} {j : Int} (P : Nat → V → Hp → Prop) (hk : ∀ i y H H', P i y H → Same H H' → P i y H') (hu : ∀ i y H D zs ws, P i y H → H D = some (.lst zs) → P i y (upd H D (.lst ws))) (h1 : j ≤ 1000000) (h0 : -1000000 ≤ j)
    (hf : ∀ i : Nat, (i : Int) < j → ∀ H', Same H1 H' → ∀ Q' : VK, (∀ H'' y, Same H' H'' → P i y H'' → Q' y H'') → te (σ.set v (some (.int i))) H' Q')
    (hq : ∀ D H' (ys : List V), H1 D = none → Same H1 H' → H' D = some (.lst ys) → ys.length = j.toNat → (∀ i y, ys[i]? = some y → P i y H') → Q (.ref D) H') : LcBodyR (gName v) tYes te [v] σ Q [.int j] H1 := by
  refine ⟨j, rfl, by omega, by omega, ?_⟩
  intro Dr hD
  have hxl : ((List.range j.toNat).map fun (i : Nat) => V.int (0 + (i : Int))).length = j.toNat := by rw [List.length_map, List.length_range]
  refine lc_y (xs := (List.range j.toNat).map fun (i : Nat) => V.int (0 + (i : Int))) (fun i H => Same H1 H ∧ ∃ ys : List V, ys.length = i ∧ H Dr = some (.lst ys) ∧ ∀ k y, ys[k]? = some y → P k y H)
    ⟨same_new hD, [], rfl, upd_same, fun k z h => by simp at h⟩ (fun i H _ _ => yields_range 0 j.toNat i H) ?_ ?_
  · rintro i x H hi ⟨sm, ys, hl', hz, hP⟩
    have hij : i < j.toNat := by have := (List.getElem?_eq_some_iff.mp hi).1; rw [hxl] at this; exact this
    have ex : x = .int (i : Int) := by
      rw [List.getElem?_map, List.getElem?_range hij] at hi
      have : V.int (0 + (i : Int)) = x := by simpa using hi
      rw [← this, Int.zero_add]
    subst ex
    have e1 : wipe σ [v] = σ.set v none := rfl
    rw [e1]
    have e2 : (σ.set v none).set v (some (.int (i : Int))) = σ.set v (some (.int (i : Int))) := by rw [List.set_set]
    have e3 : wipe (σ.set v (some (.int (i : Int)))) [v] = σ.set v none := by show (σ.set v (some _)).set v none = _; rw [List.set_set]
    unfold gName
    rw [e2]
    refine ⟨e3, ?_⟩
    unfold tYes
    dsimp only
    rw [if_pos rfl]
    refine hf i (by omega) H sm _ fun H'' y s2 hp => ?_
    have hz2 := s2 _ _ hz
    refine ⟨ys, hz2, by rw [hl', sizeLine_eq]; omega, fun b o e => ?_, ys ++ [y], by rw [List.length_append, hl']; rfl, upd_same, fun k u hk' => ?_⟩
    · rw [upd_ne (ne_of_none e hD)]
      exact s2 _ _ (sm _ _ e)
    · refine hu k u H'' Dr ys _ ?_ hz2
      by_cases hlt : k < ys.length
      · rw [List.getElem?_append_left hlt] at hk'
        exact hk k u H H'' (hP k u hk') s2
      · rw [List.getElem?_append_right (by omega)] at hk'
        have hk0 : k = ys.length := by
          have := (List.getElem?_eq_some_iff.mp hk').1
          simp at this
          omega
        subst hk0
        have : y = u := by simpa using hk'
        subst this
        rw [hl']
        exact hp
  · rintro H ⟨sm, ys, hl', hz, hP⟩
    rw [hxl] at hl'
    exact hq Dr H ys hD sm hz hl' hP
theorem pick {α β : Type} : ∀ {ys : List α} {P : Nat → α → β → Prop}, (∀ i y, ys[i]? = some y → ∃ b, P i y b) → ∃ bs : List β, bs.length = ys.length ∧ ∀ i y b, ys[i]? = some y → bs[i]? = some b → P i y b
  | [], P, _ => ⟨[], rfl, fun i y b h _ => by simp at h⟩
  | a :: l, P, h => by
    obtain ⟨b, hb⟩ := h 0 a rfl
    obtain ⟨bs, e, hbs⟩ := pick (ys := l) (P := fun i => P (i + 1)) fun i y hy => h (i + 1) y (by simpa using hy)
    refine ⟨b :: bs, by simp [e], fun i y c hy hc => ?_⟩
    cases i with
    | zero =>
      have e1 : a = y := by simpa using hy
      have e2 : b = c := by simpa using hc
      subst e1 e2
      exact hb
    | succ i => exact hbs i y c (by simpa using hy) (by simpa using hc)
/-- for v in range(lo, .., c) -/
theorem forc_inv {g : TG} {tb : TS} {D : Ends} {σ : L2.St} {H : Hp} {lo c : Int} {n : Nat} (Pv : Nat → L2.St → Hp → Prop) (hp : Pv 0 σ H)
    (hs : ∀ (i : Nat) σ H, i < n → Pv i σ H → g (.int (lo + (i : Nat) * c)) σ H fun σ2 H2 => tb { D with nx := Pv (i + 1), ct := Pv (i + 1), bk := D.nx } σ2 H2) (hd : ∀ σ H, Pv n σ H → D.nx σ H) : ForB (Itc lo c n) g tb D σ H := by
  refine ⟨fun i m σ H => Pv i σ H ∧ m = n - i ∧ i ≤ n, ⟨n, hp, rfl, Nat.zero_le _⟩, ?_⟩
  rintro i m σ H ⟨h, rfl, hi⟩
  by_cases hlt : i < n
  · refine .inr ⟨hlt, Pv (i + 1), fun σ' H' h' => ⟨n - (i + 1), by omega, h', rfl, hlt⟩, fun x H' y => ?_⟩
    obtain ⟨rfl, rfl⟩ := y
    exact hs i σ _ hlt h
  · have e : i = n := by omega
    subst e
    exact .inl ⟨Nat.le_refl _, hd σ H h⟩
end Rd
namespace Rd
open PySem PySem.Spec PyProof.Rows L2 He Px
def sp_is_name (K : PySem.W.Frag) : Sp := Sp1 fun x H Q _ => ∃ z : Str, x = .str z ∧ z.length ≤ 1000000 ∧ ∀ H', Same H H' → Q (.bl (isNm z)) H'
def N_is_name : List PySem.Str := ["text", "sign"]
def t_is_name (K : PySem.W.Frag) (W : WX) : TS := (tCut (tIfS (tOr (tTest (tOp rLtP (tCB (rLenP K) (tCons (tVar 0) tNil)) (tC (.int 1)))) (tTest (tOp rGtP (tCB (rLenP K) (tCons (tVar 0) tNil)) (tC (.int 8))))) (tRet (tC (.bl false))) tNext)
    (tCut (tIfS (tTest (tOp (rInP K true) (tOp (rIxP K) (tVar 0) (tC (.int 0))) (tC (.str "abcdefghijklmnopqrstuvwxyz")))) (tRet (tC (.bl false))) tNext)
    (tRet (tCB (rAll K) (tCons (tLc (iAnyP K (tVar 0)) (gName 1) tYes (tOp (rInP K false) (tVar 1) (tC (.str "abcdefghijklmnopqrstuvwxyz0123456789"))) [1]) tNil)))))
theorem all_comp {l : List Nat} {p : Nat → Bool} : ((l.map p).all id) = l.all p := by rw [List.all_map]; rfl
theorem pure_is_name {K : PySem.W.Frag} {vs : List V} {H : Hp} {Q : VK} {E : XK} {W : WX} (h : sp_is_name K vs H Q E) : t_is_name K W { nx := fun _ H' => Q .non H', rt := Q } (start N_is_name vs) H := by
  obtain ⟨x, rfl, z, rfl, hz, hq⟩ := h
  show t_is_name K W _ [some (.str z), none] H
  unfold t_is_name
  have hs : z.length ≤ sizeLine := one_lt hz
  have no : isNm z = false → Q (.bl false) H := fun e => by have := hq H (Same.refl H); rw [e] at this; exact this
  refine s_nocut ?_
  walk_at "ss"
  refine s_lenS hs ?_
  walk_at "ss"
  refine s_itd (fun e1 => ?_) (fun e1 => ?_)
  · rw [if_pos rfl]
    walk_at "ss"
    exact no (by unfold isNm; rw [decide_eq_true e1]; rfl)
  · walk_at "ss"
    refine s_lenS hs ?_
    walk_at "ss"
    refine s_itd (fun e2 => ?_) (fun e2 => ?_)
    · walk_at "ss"
      exact no (by unfold isNm; rw [decide_eq_true e2, decide_eq_false e1]; rfl)
    · walk_at "ss"
      refine s_nocut ?_
      obtain ⟨c, r, hc, h0⟩ := at0 e1
      walk_at "ss"
      refine s_ixS hs h0 ?_
      walk_at "ss"
      rw [strIn_sign]
      show if (!decide (c ∈ lettersL)) = true then _ else _
      have en : isNm z = (decide (c ∈ lettersL) && z.cps.toList.all fun c => decide (c ∈ signsL)) := by
        unfold isNm
        rw [decide_eq_false e1, decide_eq_false e2, hc]
        rfl
      by_cases hm : c ∈ lettersL
      · rw [decide_eq_true hm] at en ⊢
        refine s_itF rfl ?_
        walk_at "ss"
        refine lcb_map (fun x => match x with | .str y => .bl (strIn y "abcdefghijklmnopqrstuvwxyz0123456789") | _ => .non) (show Items K H (.str z) _ from rfl) (by rw [List.length_map, len_toList]; exact hz) ?_ ?_
        · intro x hx H' s1 Q' hQ
          obtain ⟨d, _, rfl⟩ := List.mem_map.mp hx
          walk_at "ss"
          exact hQ _ (Same.refl _)
        · intro D H' hD s1 hl
          rw [List.map_map] at hl
          walk_at "ss"
          refine s_all (bs := z.cps.toList.map fun c => decide (c ∈ signsL)) (by
            rw [hl, List.map_map]
            congr 2
            apply List.map_congr_left
            intro c _
            show V.bl (strIn ⟨#[c]⟩ _) = _
            rw [strIn_sign]
            rfl) ?_
          rw [all_comp]
          have := hq H' s1
          rw [en] at this
          exact this
      · rw [decide_eq_false hm] at en ⊢
        refine s_itT rfl ?_
        walk_at "ss"
        exact no en
def sp_is_literal (K : PySem.W.Frag) : Sp := Sp1 fun x H Q _ => ∃ z : Str, x = .str z ∧ z.length ≤ 1000000 ∧ ∀ H', Same H H' → Q (.bl (isLit z)) H'
def N_is_literal : List PySem.Str := ["text"]
def t_is_literal (K : PySem.W.Frag) (W : WX) : TS := (tCut (tIfS (tTest (tOp (rEqP K) (tSl (rSlP K) (tVar 0) tNoPart (tPart (tC (.int 1)))) (tC (.str "-")))) (tRet (tCallS (sp_is_name K) (WE W) (tCons (tSl (rSlP K) (tVar 0) (tPart (tC (.int 1))) tNoPart) tNil))) tNext)
    (tRet (tCallS (sp_is_name K) (WE W) (tCons (tVar 0) tNil))))
theorem pure_is_literal {K : PySem.W.Frag} {vs : List V} {H : Hp} {Q : VK} {E : XK} {W : WX} (h : sp_is_literal K vs H Q E) : t_is_literal K W { nx := fun _ H' => Q .non H', rt := Q } (start N_is_literal vs) H := by
  obtain ⟨x, rfl, z, rfl, hz, hq⟩ := h
  show t_is_literal K W _ [some (.str z)] H
  unfold t_is_literal
  have hs : z.length ≤ sizeLine := one_lt hz
  unfold isLit bare dash at hq
  refine s_nocut ?_
  walk_at "ss"
  refine s_slS hs ?_
  walk_at "ss"
  refine s_itd (fun e1 => ?_) (fun e1 => ?_)
  · rw [decide_eq_true e1, if_pos rfl] at hq
    walk_at "ss"
    refine s_slS hs ?_
    walk_at "ss"
    exact ⟨_, rfl, _, rfl, Nat.le_trans (cutS_len _ _ _) hz, hq⟩
  · rw [decide_eq_false e1, if_neg Bool.false_ne_true] at hq
    walk_at "ss"
    exact ⟨_, rfl, _, rfl, hz, hq⟩
def sp_name_of (K : PySem.W.Frag) : Sp := Sp1 fun x H Q E => ∃ z : Str, x = .str z ∧ z.length ≤ 1000000 ∧ (isLit z = true → ∀ H', Same H H' → Q (.str (bare z)) H') ∧ (isLit z = false → ∀ H' d, Same H H' → H' d = some (.xd [("text", .str z)]) → E (.ref (ga K "BadLiteral")) (some d) H')
def N_name_of : List PySem.Str := ["literal"]
def t_name_of (K : PySem.W.Frag) (W : WX) : TS := (tCut (tIfS (tNot (tB (tCallS (sp_is_literal K) (WE W) (tCons (tVar 0) tNil)))) (tRaiseE (ga K "BadLiteral") "text" W (tCons (tVar 0) tNil)) tNext)
    (tCut (tIfS (tTest (tOp (rEqP K) (tSl (rSlP K) (tVar 0) tNoPart (tPart (tC (.int 1)))) (tC (.str "-")))) (tRet (tSl (rSlP K) (tVar 0) (tPart (tC (.int 1))) tNoPart)) tNext)
    (tRet (tVar 0))))
theorem pure_name_of {K : PySem.W.Frag} {vs : List V} {H : Hp} {Q : VK} {E : XK} (h : sp_name_of K vs H Q E) : t_name_of K (fun cls d _ H => E cls d H) { nx := fun _ H' => Q .non H', rt := Q } (start N_name_of vs) H := by
  obtain ⟨x, rfl, z, rfl, hz, hq, he⟩ := h
  show t_name_of K _ _ [some (.str z)] H
  unfold t_name_of
  have hs : z.length ≤ sizeLine := one_lt hz
  refine s_nocut ?_
  walk_at "ss"
  refine ⟨_, rfl, z, rfl, hz, fun H1 s1 => ?_⟩
  walk_at "ss"
  cases hl : isLit z with
  | false =>
    refine s_itT rfl ?_
    refine ⟨_, rfl, _, rfl, fun d hd => he hl _ d (s1.trans (same_new hd)) upd_same⟩
  | true =>
    refine s_itF rfl ?_
    have hq1 := hq hl
    unfold bare dash at hq1
    walk_at "ss"
    refine s_nocut ?_
    walk_at "ss"
    refine s_slS hs ?_
    walk_at "ss"
    refine s_itd (fun e1 => ?_) (fun e1 => ?_)
    · rw [decide_eq_true e1, if_pos rfl] at hq1
      walk_at "ss"
      refine s_slS hs ?_
      exact hq1 _ s1
    · rw [decide_eq_false e1, if_neg Bool.false_ne_true] at hq1
      walk_at "ss"
      exact hq1 _ s1
def sp_law_source (K : PySem.W.Frag) : Sp := Sp1 fun x H Q _ => ∃ (a : Addr) (ns : List Int), x = .ref a ∧ SqL K H a (ns.map V.int) ∧ ns.length ≤ 100 ∧ ∀ H' p, Same H H' → H p = none → Src H' p → Q (.ref p) H'
def N_law_source : List PySem.Str := ["_law_script"]
def t_law_source (K : PySem.W.Frag) (W : WX) : TS := (tRet (tLst (tCons (tCB (rListP K) (tCons (tVar 0) tNil)) (tCons (tC (.int 0)) (tCons (tC (.int 0)) (tCons (tC (.int 0)) (tCons (tC (.int 0)) tNil)))))))
theorem pure_law_source {K : PySem.W.Frag} {vs : List V} {H : Hp} {Q : VK} {E : XK} {W : WX} (h : sp_law_source K vs H Q E) : t_law_source K W { nx := fun _ H' => Q .non H', rt := Q } (start N_law_source vs) H := by
  obtain ⟨x, rfl, a, ns, rfl, hS, hl, hq⟩ := h
  show t_law_source K W _ [some (.ref a)] H
  unfold t_law_source
  walk_at "ss"
  refine s_listL hS fun l hl0 => ?_
  walk_at "ss"
  refine ⟨by show 5 ≤ sizeLine; rw [sizeLine_eq]; decide, fun p hp => ?_⟩
  have s1 := same_new (o := .lst (ns.map V.int)) hl0
  refine hq _ p (s1.trans (same_new hp)) (s1.free hp) ⟨l, ns, 0, 0, 0, 0, upd_same, ?_, by decide, hl⟩
  rw [upd_ne (ne_of_none (H := upd H l (.lst (ns.map V.int))) upd_same hp)]
  exact upd_same
def sp_law_take (K : PySem.W.Frag) : Sp := Sp2 fun x y H Q _ => ∃ (a : Addr) (m : Int), x = .ref a ∧ y = .int m ∧ Src H a ∧ 0 < m ∧ m.natAbs.log2 < 9000 ∧ ∀ H' (r : Int), Src H' a → Mov a H H' → 0 ≤ r → r < m → Q (.int r) H'
def N_law_take : List PySem.Str := ["_law_source_here", "_law_many", "_law_mixed", "_law_cell", "_law_value"]
def t_law_take (K : PySem.W.Frag) (W : WX) : TS := (tCut (tIfS (tTest (tOp (rEqP K) (tOp (rIxP K) (tVar 0) (tC (.int 3))) (tC (.int 0)))) (tCut (tIfS (tTest (tOp rGeP (tOp (rIxP K) (tVar 0) (tC (.int 1))) (tCB (rLenP K) (tCons (tOp (rIxP K) (tVar 0) (tC (.int 0))) tNil)))) (tRet (tC (.int 0))) tNext)
    (tSeq (tAsg (tCB rIntP (tCons (tOp (rIxP K) (tOp (rIxP K) (tVar 0) (tC (.int 0))) (tOp (rIxP K) (tVar 0) (tC (.int 1)))) tNil)) (gName 3))
    (tSeq (tAsg (tOp (rAddP K) (tOp (rIxP K) (tVar 0) (tC (.int 1))) (tC (.int 1))) (gSub (tVar 0) (tC (.int 1)) rSetP))
    (tSeq (tAsg (tVar 3) (gSub (tVar 0) (tC (.int 2)) rSetP))
    (tSeq (tAsg (tC (.int 4)) (gSub (tVar 0) (tC (.int 3)) rSetP))
    (tSeq (tAsg (tC (.int 0)) (gSub (tVar 0) (tC (.int 4)) rSetP))
    (tIfS (tTest (tOp rGeP (tVar 3) (tOp rPowP (tC (.int 10)) (tC (.int 18))))) (tSeq (tAsg (tC (.int 60)) (gSub (tVar 0) (tC (.int 3)) rSetP))
    (tAsg (tC (.int 1)) (gSub (tVar 0) (tC (.int 4)) rSetP))) tNext))))))) tNext)
    (tSeq (tAsg (tOp rSubP (tOp (rIxP K) (tVar 0) (tC (.int 3))) (tC (.int 1))) (gSub (tVar 0) (tC (.int 3)) rSetP))
    (tCut (tIfS (tTest (tOp (rEqP K) (tOp (rIxP K) (tVar 0) (tC (.int 4))) (tC (.int 1)))) (tSeq (tAsg (tOp rModP (tCB rIntP (tCons (tOp (rIxP K) (tVar 0) (tC (.int 2))) tNil)) (tVar 1)) (gName 4))
    (tSeq (tAsg (tOp rFdivP (tOp (rIxP K) (tVar 0) (tC (.int 2))) (tVar 1)) (gSub (tVar 0) (tC (.int 2)) rSetP))
    (tCut (tIfS (tTest (tOp (rEqP K) (tOp (rIxP K) (tVar 0) (tC (.int 2))) (tC (.int 0)))) (tAsg (tC (.int 0)) (gSub (tVar 0) (tC (.int 3)) rSetP)) tNext)
    (tRet (tVar 4))))) tNext)
    (tSeq (tAsg (tOp rModP (tCB rIntP (tCons (tOp (rAddP K) (tOp (rAddP K) (tOp rMulP (tOp (rIxP K) (tVar 0) (tC (.int 2))) (tC (.int 48271))) (tOp rMulP (tOp (rIxP K) (tVar 0) (tC (.int 3))) (tC (.int 69621)))) (tC (.int 11))) tNil)) (tC (.int 2147483647))) (gName 2))
    (tSeq (tAsg (tOp rModP (tCB rIntP (tCons (tOp (rAddP K) (tOp (rAddP K) (tOp rMulP (tVar 2) (tC (.int 16807))) (tOp rMulP (tOp (rIxP K) (tVar 0) (tC (.int 3))) (tC (.int 7919)))) (tC (.int 5))) tNil)) (tC (.int 2147483629))) (gName 2))
    (tRet (tOp rModP (tCB rIntP (tCons (tVar 2) tNil)) (tVar 1))))))))
theorem pure_law_take {K : PySem.W.Frag} {vs : List V} {H : Hp} {Q : VK} {E : XK} {W : WX} (h : sp_law_take K vs H Q E) : t_law_take K W { nx := fun _ H' => Q .non H', rt := Q } (start N_law_take vs) H := by
  obtain ⟨x, y, rfl, a, m, rfl, rfl, ⟨c, cells, i, cur, cnt, mode, ha, hc, hi, hl⟩, hm, hm2, hq⟩ := h
  show t_law_take K W _ [some (.ref a), some (.int m), none, none, none] H
  unfold t_law_take
  have hca : c ≠ a := by
    intro e
    rw [e, ha] at hc
    have e2 := Option.some.inj hc
    injection e2 with e3
    have e4 := congrArg List.head? e3
    cases cells with
    | nil => cases e4
    | cons z r => cases e4
  refine s_cut (fun σ' H' => ∃ (i' cur' cnt' mode' : Int) (v3 : Option V), σ' = [some (.ref a), some (.int m), none, v3, none] ∧ H' a = some (.lst [.ref c, .int i', .int cur', .int cnt', .int mode']) ∧ But a H H' ∧ 0 ≤ i') ?_ ?_
  · walk_at "sl"
    refine s_itd (fun e0 => ?_) (fun e0 => ?_)
    · refine s_nocut ?_
      walk_at "sl"
      refine s_lenL hc ?_
      walk_at "sl"
      refine s_itd (fun e1 => ?_) (fun e1 => ?_)
      · walk_at "sl"
        exact hq H 0 ⟨c, cells, i, cur, cnt, mode, ha, hc, hi, hl⟩ (Mov.refl _ _) (by decide) hm
      · obtain ⟨z, hz⟩ := atI_cells hi e1
        walk_at "sl"
        refine s_ixL hc hz ?_
        walk_at "sl"
        refine s_in2 (by exact ⟨by decide, by decide, by decide⟩) ?_
        walk_at "sl"
        refine s_itd (fun e2 => ?_) (fun e2 => ?_)
        · walk_at "sl"
          exact ⟨_, _, _, _, _, rfl, upd_same, But.upd, by omega⟩
        · walk_at "sl"
          exact ⟨_, _, _, _, _, rfl, upd_same, But.upd, by omega⟩
    · walk_at "sl"
      exact ⟨_, _, _, _, _, rfl, ha, But.refl _ _, hi⟩
  · rintro σ' H' ⟨i', cur', cnt', mode', v3, rfl, ha', hb, hi'⟩
    have hc' := hb _ _ hc hca
    walk_at "sl"
    have fin : ∀ (i2 cur2 cnt2 mode2 r : Int), 0 ≤ i2 → 0 ≤ r → r < m → Q (.int r) (upd H' a (.lst [.ref c, .int i2, .int cur2, .int cnt2, .int mode2])) := fun i2 cur2 cnt2 mode2 r h2 h3 h4 =>
      hq _ r ⟨c, cells, i2, cur2, cnt2, mode2, upd_same, by rw [upd_ne hca]; exact hc', h2, hl⟩ (Mov.of (hb.trans But.upd) ha upd_same) h3 h4
    have hmod : ∀ z : Int, 0 ≤ z.fmod m ∧ z.fmod m < m := fun z => ⟨Int.fmod_nonneg_of_pos z hm, Int.fmod_lt_of_pos z hm⟩
    refine s_nocut ?_
    walk_at "sl"
    refine s_itd (fun e0 => ?_) (fun e0 => ?_)
    · walk_at "sl"
      refine s_in2 (by omega) ?_
      walk_at "sl"
      refine s_in2 ⟨by omega, hm2⟩ ?_
      walk_at "sl"
      refine s_nocut ?_
      walk_at "sl"
      refine s_itd (fun e1 => ?_) (fun e1 => ?_)
      · walk_at "sl"
        exact fin _ _ _ _ _ hi' (hmod _).1 (hmod _).2
      · walk_at "sl"
        exact fin _ _ _ _ _ hi' (hmod _).1 (hmod _).2
    · walk_at "sl"
      refine s_in2 (.inl (.inr ⟨by decide, by decide⟩)) ?_
      walk_at "sl"
      refine s_in2 (.inl (.inr ⟨by decide, by decide⟩)) ?_
      walk_at "sl"
      refine s_in2 (by decide) ?_
      walk_at "sl"
      refine s_in2 (.inl (.inr ⟨by decide, by decide⟩)) ?_
      walk_at "sl"
      refine s_in2 (.inl (.inr ⟨by decide, by decide⟩)) ?_
      walk_at "sl"
      refine s_in2 (by decide) ?_
      walk_at "sl"
      refine s_in2 (by omega) ?_
      exact fin _ _ _ _ _ hi' (hmod _).1 (hmod _).2
theorem take_ok {K : PySem.W.Frag} {a : Addr} {m : Int} {H : Hp} {Q : VK} {E : XK} (S : Src H a) (h0 : 0 < m) (h1 : m ≤ 1000000000000000) (hq : ∀ H' (r : Int), Src H' a → Mov a H H' → 0 ≤ r → r < m → Q (.int r) H') : sp_law_take K [.ref a, .int m] H Q E :=
  ⟨_, _, rfl, a, m, rfl, rfl, S, h0, lg h0 h1, hq⟩
def sp_law_word (K : PySem.W.Frag) : Sp := Sp2 fun x y H Q _ => ∃ (a : Addr) (n : Int), x = .ref a ∧ y = .int n ∧ Src H a ∧ 1 ≤ n ∧ n ≤ 1000 ∧ ∀ H' z, Src H' a → Mov a H H' → Wrd z → (z.length : Int) = n → Q (.str z) H'
def N_law_word : List PySem.Str := ["_law_source_here", "_law_size", "_law_letters", "_law_signs", "_law_word_here", "_law_number", "_law_k"]
def t_law_word (K : PySem.W.Frag) (W : WX) : TS := (tSeq (tAsg (tC (.str "abcdefghijklmnopqrstuvwxyz")) (gName 2))
    (tSeq (tAsg (tC (.str "0123456789abcdefghijklmnopqrstuvwxyz")) (gName 3))
    (tSeq (tAsg (tOp (rIxP K) (tVar 2) (tCallS (sp_law_take K) (WE W) (tCons (tVar 0) (tCons (tC (.int 26)) tNil)))) (gName 4))
    (tSeq (tAsg (tCallS (sp_law_take K) (WE W) (tCons (tVar 0) (tCons (tOp rPowP (tC (.int 36)) (tC (.int 7))) tNil))) (gName 5))
    (tCut (tFor (iRng1 (tCons (tOp rSubP (tVar 1) (tC (.int 1))) tNil)) (gName 6) (tSeq (tAsg (tOp (rAddP K) (tVar 4) (tOp (rIxP K) (tVar 3) (tOp rModP (tCB rIntP (tCons (tVar 5) tNil)) (tC (.int 36))))) (gName 4))
    (tAsg (tOp rFdivP (tVar 5) (tC (.int 36))) (gName 5))))
    (tRet (tVar 4)))))))
theorem pure_law_word {K : PySem.W.Frag} {vs : List V} {H : Hp} {Q : VK} {E : XK} {W : WX} (h : sp_law_word K vs H Q E) : t_law_word K W { nx := fun _ H' => Q .non H', rt := Q } (start N_law_word vs) H := by
  obtain ⟨x, y, rfl, a, n, rfl, rfl, hS, h1, h2, hq⟩ := h
  show t_law_word K W _ [some (.ref a), some (.int n), none, none, none, none, none] H
  unfold t_law_word
  walk_at "ss"
  refine ⟨_, _, rfl, a, 26, rfl, rfl, hS, by decide, by decide, fun H1 r S1 b1 r0 r1 => ?_⟩
  obtain ⟨c, hc, e⟩ := at_ex (l := lettersL) r0 (show r < ((lettersL.length : Nat) : Int) from r1)
  refine s_ixS (by decide +kernel) e ?_
  walk_at "ss"
  refine s_in2 ⟨by decide, by decide, by decide⟩ ?_
  walk_at "ss"
  refine ⟨_, _, rfl, a, _, rfl, rfl, S1, by decide +kernel, by decide +kernel, fun H2 num S2 b2 n0 n1 => ?_⟩
  walk_at "ss"
  refine s_nocut ?_
  walk_at "ss"
  refine forr_inv (by omega) (by omega) (fun i σ H' => ∃ (w : Str) (num : Int) (v : Option V), σ = [some (.ref a), some (.int n), some (.str "abcdefghijklmnopqrstuvwxyz"), some (.str "0123456789abcdefghijklmnopqrstuvwxyz"), some (.str w), some (.int num), v] ∧ Src H' a ∧ Mov a H H' ∧ Wrd w ∧ w.length = 1 + i ∧ 0 ≤ num)
    ⟨_, num, _, rfl, S2, b1.trans b2, Wrd.one hc, rfl, n0⟩ ?_ ?_
  · rintro i σ H' hi ⟨w, num', v, rfl, S3, b3, hw, hl, n3⟩
    walk_at "ss"
    refine s_in2 (by decide) ?_
    obtain ⟨f0, f1⟩ := fmod_b num' 36 (by decide)
    obtain ⟨d, hd, e2⟩ := at_ex (l := signs2L) f0 (show num'.fmod 36 < ((signs2L.length : Nat) : Int) from f1)
    refine s_ixS (by decide +kernel) e2 ?_
    refine s_addS (by rw [hl, sizeLine_eq]; show 1 + i + 1 ≤ _; omega) ?_
    walk_at "ss"
    refine s_in2 ⟨by decide, by decide⟩ ?_
    walk_at "ss"
    refine ⟨_, _, _, rfl, S3, b3, hw.add (signs2_in hd), by rw [app_len, hl]; rfl, ?_⟩
    rw [Int.fdiv_eq_ediv_of_nonneg _ (by decide)]
    exact Int.ediv_nonneg n3 (by decide)
  · rintro σ H' ⟨w, num', v, rfl, S3, b3, hw, hl, n3⟩
    walk_at "ss"
    exact hq H' w S3 b3 hw (by rw [hl]; omega)
theorem word_ok {K : PySem.W.Frag} {a : Addr} {n : Int} {H : Hp} {Q : VK} {E : XK} (S : Src H a) (h0 : 1 ≤ n) (h1 : n ≤ 1000) (hq : ∀ H' z, Src H' a → Mov a H H' → Wrd z → (z.length : Int) = n → Q (.str z) H') : sp_law_word K [.ref a, .int n] H Q E :=
  ⟨_, _, rfl, a, n, rfl, rfl, S, h0, h1, hq⟩
def sp_law_names (K : PySem.W.Frag) : Sp := Sp2 fun x y H Q _ => ∃ (a : Addr) (n : Int), x = .ref a ∧ y = .int n ∧ Src H a ∧ 0 ≤ n ∧ n ≤ 40 ∧ ∀ H' (p : Addr) (zs : List Str), Src H' a → Mov a H H' → H p = none → p ≠ a → H' p = some (.lst (zs.map V.str)) → (zs.length : Int) = n → (∀ z ∈ zs, isNm z = true) → (n ≤ 26 → zs.Nodup) → Q (.ref p) H'
def N_law_names : List PySem.Str := ["_law_source_here", "_law_many", "_law_letters", "_law_style", "_law_size", "_law_at", "_law_base", "_law_shift", "_law_pace", "_law_names_here", "_law_k", "_law_letter"]
def t_law_names (K : PySem.W.Frag) (W : WX) : TS := (tSeq (tAsg (tC (.str "abcdefghijklmnopqrstuvwxyz")) (gName 2))
    (tSeq (tAsg (tCallS (sp_law_take K) (WE W) (tCons (tVar 0) (tCons (tC (.int 3)) tNil))) (gName 3))
    (tSeq (tAsg (tOp (rAddP K) (tC (.int 1)) (tCallS (sp_law_take K) (WE W) (tCons (tVar 0) (tCons (tC (.int 8)) tNil)))) (gName 4))
    (tSeq (tAsg (tCallS (sp_law_take K) (WE W) (tCons (tVar 0) (tCons (tVar 4) tNil))) (gName 5))
    (tSeq (tAsg (tCallS (sp_law_word K) (WE W) (tCons (tVar 0) (tCons (tVar 4) tNil))) (gName 6))
    (tSeq (tAsg (tCallS (sp_law_take K) (WE W) (tCons (tVar 0) (tCons (tC (.int 26)) tNil))) (gName 7))
    (tSeq (tAsg (tOp (rIxP K) (tLst (tCons (tC (.int 1)) (tCons (tC (.int 5)) (tCons (tC (.int 7)) (tCons (tC (.int 25)) tNil))))) (tCallS (sp_law_take K) (WE W) (tCons (tVar 0) (tCons (tC (.int 4)) tNil)))) (gName 8))
    (tSeq (tAsg (tLst tNil) (gName 9))
    (tCut (tFor (iRng1 (tCons (tVar 1) tNil)) (gName 10) (tSeq (tAsg (tOp (rIxP K) (tVar 2) (tOp rModP (tCB rIntP (tCons (tOp (rAddP K) (tVar 7) (tOp rMulP (tVar 8) (tVar 10))) tNil)) (tC (.int 26)))) (gName 11))
    (tIfS (tTest (tOp (rEqP K) (tVar 3) (tC (.int 0)))) (tDrop (tBM K "list" rAppend (tVar 9) (tCons (tOp (rAddP K) (tOp (rAddP K) (tSl (rSlP K) (tVar 6) tNoPart (tPart (tVar 5))) (tVar 11)) (tSl (rSlP K) (tVar 6) (tPart (tOp (rAddP K) (tVar 5) (tC (.int 1)))) tNoPart)) tNil))) (tIfS (tTest (tOp (rEqP K) (tVar 3) (tC (.int 1)))) (tDrop (tBM K "list" rAppend (tVar 9) (tCons (tOp (rAddP K) (tVar 11) (tSl (rSlP K) (tVar 6) (tPart (tC (.int 1))) (tPart (tOp (rAddP K) (tC (.int 1)) (tCallS (sp_law_take K) (WE W) (tCons (tVar 0) (tCons (tC (.int 8)) tNil))))))) tNil))) (tDrop (tBM K "list" rAppend (tVar 9) (tCons (tOp (rAddP K) (tOp (rAddP K) (tSl (rSlP K) (tVar 6) tNoPart (tPart (tVar 5))) (tVar 11)) (tSl (rSlP K) (tCallS (sp_law_word K) (WE W) (tCons (tVar 0) (tCons (tOp rSubP (tC (.int 8)) (tVar 5)) tNil))) tNoPart (tPart (tCallS (sp_law_take K) (WE W) (tCons (tVar 0) (tCons (tOp rSubP (tC (.int 8)) (tVar 5)) tNil)))))) tNil)))))))
    (tRet (tVar 9)))))))))))
/-- the letter that tells the k-th name -/
def LtAt (pos : Nat) (shift pace : Int) (k : Nat) (z : Str) : Prop := z.cps.toList[pos]? = some (97 + ((shift + pace * k) % 26).toNat)
theorem letter_at {m : Int} {c : Nat} (h0 : 0 ≤ m) (h1 : m < 26) (h : atI lettersL m = some c) : c = 97 + m.toNat := by
  have key : ∀ k, k < 26 → lettersL[k]? = some (97 + k) := by decide +kernel
  have e := key m.toNat (by omega)
  unfold atI ixN at h
  rw [if_pos h0, if_pos (show m < ((lettersL.length : Nat) : Int) from h1)] at h
  have h2 : lettersL[m.toNat]? = some c := h
  rw [e] at h2
  simpa using h2.symm
theorem pace_inj {shift pace : Int} (hp : pace = 1 ∨ pace = 5 ∨ pace = 7 ∨ pace = 25) {i k : Nat} (hi : i < 26) (hk : k < 26) (e : (shift + pace * (i : Int)) % 26 = (shift + pace * (k : Int)) % 26) : i = k := by
  rcases hp with rfl | rfl | rfl | rfl <;> omega
theorem names_nodup {zs : List Str} {pos : Nat} {shift pace : Int} (hp : pace = 1 ∨ pace = 5 ∨ pace = 7 ∨ pace = 25) (hl : zs.length ≤ 26) (h : ∀ k z, zs[k]? = some z → LtAt pos shift pace k z) : zs.Nodup := by
  refine List.pairwise_iff_getElem.mpr fun i j hi hj hij e => ?_
  have h1 := h i zs[i] (by simp [hi])
  have h2 := h j zs[j] (by simp [hj])
  unfold LtAt at h1 h2
  rw [e] at h1
  rw [h1] at h2
  have h3 : (97 + ((shift + pace * (i : Int)) % 26).toNat) = 97 + ((shift + pace * (j : Int)) % 26).toNat := by simpa using h2
  have := pace_inj (shift := shift) hp (show i < 26 by omega) (show j < 26 by omega) (by omega)
  omega
theorem put_at (a b : Str) (c : Nat) : (a ++ ⟨#[c]⟩ ++ b).cps.toList[a.length]? = some c := by
  rw [app_toList, app_toList, List.append_assoc, List.getElem?_append_right (by rw [len_toList]; exact Nat.le_refl _), len_toList, Nat.sub_self]
  rfl
theorem pure_law_names {K : PySem.W.Frag} {vs : List V} {H : Hp} {Q : VK} {E : XK} {W : WX} (h : sp_law_names K vs H Q E) : t_law_names K W { nx := fun _ H' => Q .non H', rt := Q } (start N_law_names vs) H := by
  obtain ⟨x, y, rfl, a, n, rfl, rfl, hS, n0, n1, hq⟩ := h
  show t_law_names K W _ [some (.ref a), some (.int n), none, none, none, none, none, none, none, none, none, none] H
  unfold t_law_names
  walk_at "ss"
  refine take_ok hS (by decide) (by decide) fun H1 style S1 b1 st0 st1 => ?_
  walk_at "ss"
  refine take_ok S1 (by decide) (by decide) fun H2 sz S2 b2 z0 z1 => ?_
  walk_at "ss"
  refine take_ok S2 (by omega) (by omega) fun H3 at_ S3 b3 at0 at1 => ?_
  walk_at "ss"
  refine word_ok S3 (by omega) (by omega) fun H4 w S4 b4 hw hwl => ?_
  walk_at "ss"
  refine take_ok S4 (by decide) (by decide) fun H5 shift S5 b5 sh0 sh1 => ?_
  have B5 : Mov a H H5 := (((b1.trans b2).trans b3).trans b4).trans b5
  walk_at "ss"
  refine ⟨by show 4 ≤ sizeLine; rw [sizeLine_eq]; decide, fun p hp => ?_⟩
  have hpa := S5.ne hp
  walk_at "ss"
  refine take_ok (S5.keep (same_new hp)) (by decide) (by decide) fun H6 r S6 b6 r0 r1 => ?_
  have B6 : Mov a H H6 := (B5.trans (Mov.of_same (same_new hp))).trans b6
  obtain ⟨pace, hpc, pc0, pc1, pcs⟩ : ∃ pace : Int, atI [V.int 1, V.int 5, V.int 7, V.int 25] r = some (.int pace) ∧ 0 ≤ pace ∧ pace ≤ 25 ∧ (pace = 1 ∨ pace = 5 ∨ pace = 7 ∨ pace = 25) := by
    rcases (show r = 0 ∨ r = 1 ∨ r = 2 ∨ r = 3 by omega) with rfl | rfl | rfl | rfl
    · exact ⟨1, rfl, by decide, by decide, by simp⟩
    · exact ⟨5, rfl, by decide, by decide, by simp⟩
    · exact ⟨7, rfl, by decide, by decide, by simp⟩
    · exact ⟨25, rfl, by decide, by decide, by simp⟩
  refine s_ixL (b6 _ _ upd_same hpa) hpc ?_
  walk_at "ss"
  refine ⟨Nat.zero_le _, fun q hq0 => ?_⟩
  have hqa := S6.ne hq0
  have hqn := B6.un hqa hq0
  have hws : w.length ≤ sizeLine := by rw [sizeLine_eq]; omega
  walk_at "ss"
  refine s_cut (fun σ' H' => ∃ v u, σ' = [some (.ref a), some (.int n), some (.str "abcdefghijklmnopqrstuvwxyz"), some (.int style), some (.int (1 + sz)), some (.int at_), some (.str w), some (.int shift), some (.int pace), some (.ref q), v, u] ∧ Src H' a ∧ Mov a H H' ∧ ∃ zs : List Str, H' q = some (.lst (zs.map V.str)) ∧ (zs.length : Int) = n ∧ (∀ z ∈ zs, isNm z = true) ∧ ∀ k z, zs[k]? = some z → LtAt (if style = 1 then 0 else at_.toNat) shift pace k z) ?_ ?_
  · walk_at "ss"
    refine forr_inv (by omega) (by omega) (fun i σ' H' => ∃ v u, σ' = [some (.ref a), some (.int n), some (.str "abcdefghijklmnopqrstuvwxyz"), some (.int style), some (.int (1 + sz)), some (.int at_), some (.str w), some (.int shift), some (.int pace), some (.ref q), v, u] ∧ Src H' a ∧ Mov a H H' ∧ ∃ zs : List Str, H' q = some (.lst (zs.map V.str)) ∧ zs.length = i ∧ (∀ z ∈ zs, isNm z = true) ∧ ∀ k z, zs[k]? = some z → LtAt (if style = 1 then 0 else at_.toNat) shift pace k z)
      ⟨none, none, rfl, S6.keep (same_new hq0), B6.trans (Mov.of_same (same_new hq0)), [], upd_same, rfl, by simp, fun k z h => by simp at h⟩ ?_ ?_
    · rintro i σ' H' hi ⟨v, u, rfl, S7, B7, zs, hzs, hzl, hnm, hLt⟩
      walk_at "ss"
      refine s_in2 (.inl (by unfold CMul; omega)) ?_
      walk_at "ss"
      refine s_in2 (by decide) ?_
      walk_at "ss"
      obtain ⟨f0, f1⟩ := fmod_b (shift + pace * i) 26 (by decide)
      obtain ⟨c, hc, e2⟩ := at_ex (l := lettersL) f0 (show (shift + pace * i).fmod 26 < ((lettersL.length : Nat) : Int) from f1)
      have hcc : c = 97 + ((shift + pace * (i : Int)) % 26).toNat := by
        have := letter_at f0 f1 e2
        rw [Int.fmod_eq_emod_of_nonneg _ (by decide)] at this
        exact this
      refine s_ixS (by decide +kernel) e2 ?_
      walk_at "ss"
      have fin : ∀ (H8 : Hp) (z : Str), Src H8 a → Mov a H' H8 → Wrd z → z.length ≤ 8 → LtAt (if style = 1 then 0 else at_.toNat) shift pace i z → H8 q = some (.lst (zs.map V.str)) → rAppend (.ref q) [.str z] H8 fun _ H9 => ∃ v u, ([some (.ref a), some (.int n), some (.str "abcdefghijklmnopqrstuvwxyz"), some (.int style), some (.int (1 + sz)), some (.int at_), some (.str w), some (.int shift), some (.int pace), some (.ref q), some (.int i), some (.str ⟨#[c]⟩)] : L2.St) = [some (.ref a), some (.int n), some (.str "abcdefghijklmnopqrstuvwxyz"), some (.int style), some (.int (1 + sz)), some (.int at_), some (.str w), some (.int shift), some (.int pace), some (.ref q), v, u] ∧ Src H9 a ∧ Mov a H H9 ∧ ∃ zs : List Str, H9 q = some (.lst (zs.map V.str)) ∧ zs.length = i + 1 ∧ (∀ z ∈ zs, isNm z = true) ∧ ∀ k z, zs[k]? = some z → LtAt (if style = 1 then 0 else at_.toNat) shift pace k z := by
        intro H8 z S8 B8 hw8 hl8 hz8 hq8
        refine s_app hq8 (by rw [List.length_map]; omega) ?_
        refine ⟨_, _, rfl, ?_, ?_, zs ++ [z], by rw [upd_same, map_snoc], by rw [List.length_append, hzl]; rfl, fun y hy => ?_, fun k y hk => ?_⟩
        · exact hS.off hqn (B7.trans B8) S8
        · exact Mov.put hS hqn (B7.trans B8)
        · rcases List.mem_append.mp hy with hy | hy
          · exact hnm y hy
          · have : y = z := by simpa using hy
            rw [this]; exact hw8.nm hl8
        · by_cases hlt : k < zs.length
          · rw [List.getElem?_append_left hlt] at hk
            exact hLt k y hk
          · rw [List.getElem?_append_right (by omega)] at hk
            have hk0 : k = zs.length := by
              have := (List.getElem?_eq_some_iff.mp hk).1
              simp at this
              omega
            subst hk0
            have : z = y := by simpa using hk
            subst this
            rw [hzl]
            exact hz8
      refine s_itd (fun e => ?_) (fun e => ?_)
      · walk_at "ss"
        refine s_tyL hzs ?_
        walk_at "ss"
        refine s_slS hws ?_
        have ea : at_ = ((at_.toNat : Nat) : Int) := by omega
        have l1 := cutS_lenle w at_ at0
        have lcut : (cutS w none (some at_)).length = at_.toNat := by
          rw [← len_toList, ea, cut_to, List.length_take, len_toList]
          omega
        walk_at "ss"
        refine s_addS (by show _ + 1 ≤ sizeLine; rw [sizeLine_eq]; omega) ?_
        walk_at "ss"
        refine s_slS hws ?_
        have l2 := cutS_len w (some (at_ + 1)) none
        have l3 : (cutS w none (some at_) ++ (⟨#[c]⟩ : Str)).length = (cutS w none (some at_)).length + 1 := app_len _ _
        refine s_addS (by rw [sizeLine_eq]; omega) ?_
        walk_at "ss"
        refine fin H' _ S7 (Mov.refl a H') (wrd_put (by rw [ea]; exact wrd_to hw _) hc fun x hx => wrd_signs hw x (cut_mid hx)) ?_ (by
            unfold LtAt
            rw [if_neg (by omega), ← hcc, ← lcut]
            exact put_at _ _ _) hzs
        have l4 : ((cutS w (some (at_ + 1)) none).length : Int) ≤ 1 + sz - (at_ + 1) := by
          have e1 : at_ + 1 = (((at_ + 1).toNat : Nat) : Int) := by omega
          have e2 := len_toList (cutS w (some (at_ + 1)) none)
          rw [e1, cut_from, List.length_drop, len_toList, ← e1] at e2
          omega
        rw [app_len, l3]
        omega
      · walk_at "ss"
        refine s_itd (fun e2 => ?_) (fun e2 => ?_)
        · walk_at "ss"
          refine s_tyL hzs ?_
          walk_at "ss"
          refine take_ok S7 (by decide) (by decide) fun H8 k S8 b8 k0 k1 => ?_
          walk_at "ss"
          refine s_slS hws ?_
          have l1 := cutS_len w (some 1) (some (1 + k))
          refine s_addS (by show 1 + _ ≤ sizeLine; rw [sizeLine_eq]; omega) ?_
          walk_at "ss"
          have e0 : (⟨#[c]⟩ : Str) ++ cutS w (some 1) (some (1 + k)) = ("" : Str) ++ ⟨#[c]⟩ ++ cutS w (some 1) (some (1 + k)) := str_ext (by rw [app_toList, app_toList, app_toList]; rfl)
          have hl : (cutS w (some 1) (some (1 + k))).length ≤ 7 := by
            have := len_toList (cutS w (some 1) (some (1 + k)))
            have e1 : HT.sIx w.length 0 (some 1) = min 1 w.length := HT.sIx_nat w.length 0 1
            have e3 : HT.sIx w.length w.length (some (1 + k)) = min (1 + k.toNat) w.length := by
              have := HT.sIx_nat w.length w.length (1 + k.toNat)
              rw [← this]; congr 2; omega
            have e4 : (cutS w (some 1) (some (1 + k))).length = (List.take (min (1 + k.toNat) w.length - min 1 w.length) (List.drop (min 1 w.length) w.cps.toList)).length := by
              rw [← this]; unfold cutS; rw [e1, e3]
            rw [e4, List.length_take]
            omega
          refine fin H8 _ S8 b8 (by rw [e0]; exact wrd_put (.inl rfl) hc fun x hx => wrd_signs hw x (cut_mid hx)) ?_ (by
            unfold LtAt
            rw [if_pos e2, ← hcc, e0]
            exact put_at "" _ _) (b8 _ _ hzs hqa)
          rw [app_len]
          show 1 + _ ≤ 8
          omega
        · walk_at "ss"
          refine s_tyL hzs ?_
          walk_at "ss"
          refine s_slS hws ?_
          have ea : at_ = ((at_.toNat : Nat) : Int) := by omega
          have l1 := cutS_lenle w at_ at0
          have lcut : (cutS w none (some at_)).length = at_.toNat := by
            rw [← len_toList, ea, cut_to, List.length_take, len_toList]
            omega
          walk_at "ss"
          refine s_addS (by show _ + 1 ≤ sizeLine; rw [sizeLine_eq]; omega) ?_
          walk_at "ss"
          refine word_ok S7 (by omega) (by omega) fun H8 w2 S8 b8 hw2 hwl2 => ?_
          walk_at "ss"
          refine take_ok S8 (by omega) (by omega) fun H9 k S9 b9 k0 k1 => ?_
          walk_at "ss"
          refine s_slS (by rw [sizeLine_eq]; omega) ?_
          have l2 := cutS_lenle w2 k k0
          have l3 : (cutS w none (some at_) ++ (⟨#[c]⟩ : Str)).length = (cutS w none (some at_)).length + 1 := app_len _ _
          refine s_addS (by rw [sizeLine_eq]; omega) ?_
          walk_at "ss"
          refine fin H9 _ S9 (b8.trans b9) (wrd_put (by rw [ea]; exact wrd_to hw _) hc fun x hx => wrd_signs hw2 x (cut_mid hx)) ?_ (by
            unfold LtAt
            rw [if_neg e2, ← hcc, ← lcut]
            exact put_at _ _ _) (b9 _ _ (b8 _ _ hzs hqa) hqa)
          rw [app_len, l3]
          omega
    · rintro σ' H' ⟨v, u, rfl, S7, B7, zs, hzs, hzl, hnm, hLt⟩
      exact ⟨v, u, rfl, S7, B7, zs, hzs, by omega, hnm, hLt⟩
  · rintro σ' H' ⟨v, u, rfl, S7, B7, zs, hzs, hzl, hnm, hLt⟩
    walk_at "ss"
    exact hq H' q zs S7 B7 hqn hqa hzs hzl hnm fun hn => names_nodup pcs (by omega) hLt
def sp_law_name (K : PySem.W.Frag) : Sp := Sp1 fun x H Q _ => ∃ z : Str, x = .str z ∧ z.length ≤ 1000000 ∧ Q (.str (bare z)) H
def N_law_name : List PySem.Str := ["_law_literal"]
def t_law_name (K : PySem.W.Frag) (W : WX) : TS := (tCut (tIfS (tTest (tOp (rEqP K) (tSl (rSlP K) (tVar 0) tNoPart (tPart (tC (.int 1)))) (tC (.str "-")))) (tRet (tSl (rSlP K) (tVar 0) (tPart (tC (.int 1))) tNoPart)) tNext)
    (tRet (tVar 0)))
theorem pure_law_name {K : PySem.W.Frag} {vs : List V} {H : Hp} {Q : VK} {E : XK} {W : WX} (h : sp_law_name K vs H Q E) : t_law_name K W { nx := fun _ H' => Q .non H', rt := Q } (start N_law_name vs) H := by
  obtain ⟨x, rfl, z, rfl, hz, hq⟩ := h
  show t_law_name K W _ [some (.str z)] H
  unfold t_law_name
  have hs : z.length ≤ sizeLine := one_lt hz
  unfold bare dash at hq
  refine s_nocut ?_
  walk_at "ss"
  refine s_slS hs ?_
  walk_at "ss"
  refine s_itd (fun e1 => ?_) (fun e1 => ?_)
  · rw [decide_eq_true e1, if_pos rfl] at hq
    walk_at "ss"
    exact s_slS hs hq
  · rw [decide_eq_false e1, if_neg Bool.false_ne_true] at hq
    walk_at "ss"
    exact hq
end Rd
namespace Rd
open PySem PySem.Spec PyProof.Rows L2 He Px
def sp_ordered_names (K : PySem.W.Frag) : Sp := Sp1 fun x H Q E => ∃ (p : Addr) (zs : List Str), x = .ref p ∧ H p = some (.lst (zs.map V.str)) ∧ zs.length ≤ 1000 ∧ (∀ z ∈ zs, z.length ≤ 1000000) ∧ (∀ z, badN zs = some z → ∀ H' d, Same H H' → H' d = some (.xd [("text", .str z)]) → E (.ref (ga K "BadName")) (some d) H') ∧ (badN zs = none → ∀ H' q, Same H H' → H q = none → H' q = some (.lst ((srt zs).map V.str)) → Q (.ref q) H')
def N_ordered_names : List PySem.Str := ["names", "name", "result"]
def t_ordered_names (K : PySem.W.Frag) (W : WX) : TS := (tCut (tFor (iAnyP K (tVar 0)) (gName 1) (tIfS (tNot (tB (tCallS (sp_is_name K) (WE W) (tCons (tVar 1) tNil)))) (tRaiseE (ga K "BadName") "text" W (tCons (tVar 1) tNil)) tNext))
    (tSeq (tAsg (tLst tNil) (gName 2))
    (tCut (tFor (iAnyP K (tCB (rSortAny K) (tCons (tLc (iAnyP K (tVar 0)) (gName 1) tYes (tCB rStrP (tCons (tVar 1) tNil)) [1]) tNil))) (gName 1) (tIfS (tTest (tOp (rInP K true) (tVar 1) (tVar 2))) (tDrop (tBM K "list" rAppend (tVar 2) (tCons (tVar 1) tNil))) tNext))
    (tRet (tVar 2)))))
theorem pure_ordered_names {K : PySem.W.Frag} {vs : List V} {H : Hp} {Q : VK} {E : XK} (h : sp_ordered_names K vs H Q E) : t_ordered_names K (fun cls d _ H => E cls d H) { nx := fun _ H' => Q .non H', rt := Q } (start N_ordered_names vs) H := by
  obtain ⟨x, rfl, p, zs, rfl, hp, hl, hz, he, hq⟩ := h
  show t_ordered_names K _ _ [some (.ref p), none, none] H
  unfold t_ordered_names
  refine s_cut (fun σ' H' => ∃ v, σ' = [some (.ref p), v, none] ∧ Same H H' ∧ badN zs = none) ?_ ?_
  · walk_at "ss"
    refine forb_list (xs := zs.map V.str) (fun i σ' H' => ∃ v, σ' = [some (.ref p), v, none] ∧ Same H H' ∧ ∀ z ∈ zs.take i, isNm z = true) ⟨none, rfl, Same.refl H, by simp⟩ ?_ ?_ ?_
    · rintro i σ' H' hi ⟨v, rfl, s1, _⟩
      exact SqL.of (s1 _ _ hp)
    · rintro i y σ' H' hi ⟨v, rfl, s1, ha⟩
      obtain ⟨z, hj, rfl⟩ := at_strs hi; replace hi := hj
      walk_at "ss"
      refine ⟨_, rfl, z, rfl, hz z (List.mem_of_getElem? hi), fun H2 s2 => ?_⟩
      walk_at "ss"
      cases hn : isNm z with
      | false =>
        refine s_itT rfl ?_
        exact ⟨_, rfl, _, rfl, fun d hd => he z (find_at (by rw [hn]; rfl) hi fun y hy => by rw [ha y hy]; rfl) _ d ((s1.trans s2).trans (same_new hd)) upd_same⟩
      | true =>
        refine s_itF rfl ?_
        walk_at "ss"
        exact ⟨_, rfl, s1.trans s2, take_all hi ha hn⟩
    · rintro σ' H' ⟨v, rfl, s1, ha⟩
      refine ⟨v, rfl, s1, badN_none ?_⟩
      rw [List.length_map, List.take_length] at ha
      exact ha
  · rintro σ' H' ⟨v, rfl, s1, hb⟩
    have hq := hq hb
    walk_at "ss"
    refine ⟨Nat.zero_le _, fun q hq0 => ?_⟩
    have hqn : H q = none := by
      cases e : H q with
      | none => rfl
      | some o => rw [s1 _ _ e] at hq0; cases hq0
    have s2 : Same H (upd H' q (.lst [])) := s1.trans (same_new hq0)
    walk_at "ss"
    refine s_cut (fun σ2 H2 => ∃ v, σ2 = [some (.ref p), v, some (.ref q)] ∧ Same H H2 ∧ H2 q = some (.lst ((srt zs).map V.str))) ?_ ?_
    · walk_at "ss"
      refine lcb_map (fun x => x) (.inl (SqL.of (s2 _ _ hp))) (by rw [List.length_map]; omega) ?_ ?_
      · intro x hx H2 s3 Q' hQ
        obtain ⟨z, _, rfl⟩ := List.mem_map.mp hx
        walk_at "ss"
        exact hQ _ (Same.refl _)
      · intro D H2 hD s3 hl2
        rw [List.map_id'] at hl2
        walk_at "ss"
        refine s_sort hl2 (by omega) fun ys r hperm hsort hr => ?_
        have hs := sorted_pair hsort
        have s4 : Same H' (upd H2 r (.lst (ys.map V.str))) := ((same_new hq0).trans s3).trans (same_new hr)
        have hqr : q ≠ r := fun e => by rw [← e, s3 _ _ upd_same] at hr; cases hr
        refine forb_list (xs := ys.map V.str) (fun i σ' H' => ∃ v acc, σ' = [some (.ref p), v, some (.ref q)] ∧ Same H H' ∧ H' r = some (.lst (ys.map V.str)) ∧ H' q = some (.lst (acc.map V.str)) ∧ Ord acc ∧ (∀ z, z ∈ acc ↔ z ∈ ys.take i) ∧ acc.length ≤ i)
          ⟨v, [], rfl, s1.trans s4, upd_same, by rw [upd_ne hqr]; exact s3 _ _ upd_same, List.Pairwise.nil, by simp, Nat.le_refl _⟩ ?_ ?_ ?_
        · rintro i σ' H' hi ⟨v, acc, rfl, _, h2, _⟩
          exact SqL.of h2
        · rintro i y σ' H3 hi ⟨v, acc, rfl, h1, h2, h3, h4, h5, h6⟩
          have hil := (List.getElem?_eq_some_iff.mp hi).1
          rw [List.length_map, hperm.length_eq] at hil
          obtain ⟨z, hj, rfl⟩ := at_strs hi; replace hi := hj
          obtain ⟨n1, n2⟩ := nub_step hs hi h4 h5
          walk_at "ss"
          refine s_inSL h3 ?_
          show ∃ k, V.bl (!decide (z ∈ acc)) = .bl k ∧ _
          walk_at "ss"
          by_cases hm : z ∈ acc
          · rw [decide_eq_true hm]
            refine s_itF rfl ?_
            walk_at "ss"
            exact ⟨_, acc, rfl, h1, h2, h3, h4, n1 hm, by omega⟩
          · rw [decide_eq_false hm]
            refine s_itT rfl ?_
            walk_at "ss"
            refine s_tyL h3 ?_
            walk_at "ss"
            refine s_app h3 (by rw [List.length_map]; omega) ?_
            refine ⟨_, acc ++ [z], rfl, fun b o e => ?_, by rw [upd_ne hqr.symm]; exact h2, by rw [upd_same, List.map_append]; rfl, (n2 hm).1, (n2 hm).2, by rw [List.length_append]; simp; omega⟩
            rw [upd_ne (ne_of_none e hqn)]
            exact h1 _ _ e
        · rintro σ' H3 ⟨v, acc, rfl, h1, h2, h3, h4, h5, h6⟩
          rw [List.length_map, List.take_length] at h5
          have e : acc = srt zs := srt_eq h4 fun x => (h5 x).trans hperm.mem_iff
          rw [e] at h3
          exact ⟨v, rfl, h1, h3⟩
    · rintro σ2 H2 ⟨v, rfl, h1, h2⟩
      walk_at "ss"
      exact hq H2 q h1 hqn h2
def sp_in_order (K : PySem.W.Frag) : Sp := Sp1 fun x H Q E => ∃ (p : Addr) (zs : List Str), x = .ref p ∧ H p = some (.lst (zs.map V.str)) ∧ zs.length ≤ 1000 ∧ (∀ z ∈ zs, z.length ≤ 1000000) ∧ (∀ z, badOf zs = some z → ∀ H' d, Same H H' → H' d = some (.xd [("text", .str z)]) → E (.ref (ga K "BadLiteral")) (some d) H') ∧ (badOf zs = none → ∀ H' q, Same H H' → H q = none → H' q = some (.lst ((litO zs).map V.str)) → Q (.ref q) H')
def N_in_order : List PySem.Str := ["literals", "taken", "literal", "result", "name"]
def t_in_order (K : PySem.W.Frag) (W : WX) : TS := (tSeq (tAsg tDNewK (gName 1))
    (tCut (tFor (iAnyP K (tVar 0)) (gName 2) (tCut (tIfS (tNot (tB (tCallS (sp_is_literal K) (WE W) (tCons (tVar 2) tNil)))) (tRaiseE (ga K "BadLiteral") "text" W (tCons (tVar 2) tNil)) tNext)
    (tAsg (tC (.bl true)) (gSub (tVar 1) (tVar 2) rSetP))))
    (tSeq (tAsg (tLst tNil) (gName 3))
    (tCut (tFor (iAnyP K (tCallS (sp_ordered_names K) (WE W) (tCons (tLockE (tLc (iKeys (tVar 1)) (gName 2) tYes (tCall (sp_name_of K) [] E0 (tCons (tVar 2) tNil)) [2])) tNil))) (gName 4) (tFor (iAnyP K (tTup (tCons (tVar 4) (tCons (tOp (rAddP K) (tC (.str "-")) (tVar 4)) tNil)))) (gName 2) (tIfS (tTest (tOp (rInP K false) (tVar 2) (tVar 1))) (tDrop (tBM K "list" rAppend (tVar 3) (tCons (tVar 2) tNil))) tNext)))
    (tRet (tVar 3))))))
theorem pure_in_order {K : PySem.W.Frag} {vs : List V} {H : Hp} {Q : VK} {E : XK} (h : sp_in_order K vs H Q E) : t_in_order K (fun cls d _ H => E cls d H) { nx := fun _ H' => Q .non H', rt := Q } (start N_in_order vs) H := by
  obtain ⟨x, rfl, p, zs, rfl, hp, hl, hz, he, hq⟩ := h
  show t_in_order K _ _ [some (.ref p), none, none, none, none] H
  unfold t_in_order
  walk_at "ss"
  refine s_dnew fun d hd => ?_
  walk_at "ss"
  refine s_cut (fun σ' H' => ∃ v ks, σ' = [some (.ref p), some (.ref d), v, none, none] ∧ Same H H' ∧ H' d = some (ksD ks) ∧ (∀ x, x ∈ ks ↔ x ∈ zs) ∧ ks.length ≤ 1000 ∧ badOf zs = none) ?_ ?_
  · walk_at "ss"
    refine forb_list (xs := zs.map V.str) (fun i σ' H' => ∃ v ks, σ' = [some (.ref p), some (.ref d), v, none, none] ∧ Same H H' ∧ H' d = some (ksD ks) ∧ (∀ x, x ∈ ks ↔ x ∈ zs.take i) ∧ ks.length ≤ i ∧ ∀ z ∈ zs.take i, isLit z = true)
      ⟨none, [], rfl, same_new hd, upd_same, by simp, Nat.le_refl _, by simp⟩ ?_ ?_ ?_
    · rintro i σ' H' hi ⟨v, ks, rfl, s1, _⟩
      exact SqL.of (s1 _ _ hp)
    · rintro i y σ' H' hi ⟨v, ks, rfl, s1, h1, h2, h3, ha⟩
      have hil := (List.getElem?_eq_some_iff.mp hi).1
      rw [List.length_map] at hil
      obtain ⟨z, hj, rfl⟩ := at_strs hi
      walk_at "ss"
      refine s_nocut ?_
      walk_at "ss"
      refine ⟨_, rfl, z, rfl, hz z (List.mem_of_getElem? hj), fun H2 s2 => ?_⟩
      walk_at "ss"
      cases hn : isLit z with
      | false =>
        refine s_itT rfl ?_
        exact ⟨_, rfl, _, rfl, fun e he' => he z (find_at (by rw [hn]; rfl) hj fun y hy => by rw [ha y hy]; rfl) _ e ((s1.trans s2).trans (same_new he')) upd_same⟩
      | true =>
        refine s_itF rfl ?_
        walk_at "ss"
        refine s_putD (s2 _ _ h1) (by omega) ?_
        walk_at "ss"
        refine ⟨_, _, rfl, same_put (s1.trans s2) hd, upd_same, fun x => ?_, ?_, take_all hj ha hn⟩
        · rw [take_more hj, List.mem_append]
          by_cases hm : z ∈ ks
          · rw [if_pos hm, ← h2 x]
            constructor
            · exact .inl
            · rintro (h | h)
              · exact h
              · have : x = z := by simpa using h
                rw [this]; exact hm
          · rw [if_neg hm, List.mem_append, ← h2 x]
        · split
          · omega
          · rw [List.length_append]; simp; omega
    · rintro σ' H' ⟨v, ks, rfl, s1, h1, h2, h3, ha⟩
      rw [List.length_map] at h3 ha h2
      rw [List.take_length] at ha h2
      exact ⟨v, ks, rfl, s1, h1, h2, by omega, badOf_none ha⟩
  · rintro σ' H' ⟨v, ks, rfl, s1, h1, h2, h3, hb⟩
    have hq := hq hb
    have lit := badOf_ok hb
    walk_at "ss"
    refine ⟨Nat.zero_le _, fun q hq0 => ?_⟩
    have hqn := same_un s1 hq0
    have hqd : q ≠ d := fun e => by rw [e, h1] at hq0; cases hq0
    walk_at "ss"
    refine s_cut (fun σ2 H2 => ∃ v w, σ2 = [some (.ref p), some (.ref d), v, some (.ref q), w] ∧ Same H H2 ∧ H2 q = some (.lst ((litO zs).map V.str))) ?_ ?_
    · walk_at "ss"
      refine lc_keys (fun z => .str (bare z)) rfl (show _ = some (ksD ks) by rw [upd_ne hqd.symm]; exact h1) (by omega) ?_ ?_
      · intro z hzk H2 od _ _ Q' hQ
        walk_at "ss"
        have hm := (h2 z).mp hzk
        exact ⟨_, rfl, z, rfl, hz z hm, fun _ H3 s3 => hQ H3 s3, fun e => by rw [lit z hm] at e; cases e⟩
      · intro D H2 hD s2 hr
        walk_at "ss"
        have e1 : ks.map (fun z => V.str (bare z)) = (ks.map bare).map V.str := by rw [List.map_map]; rfl
        rw [e1] at hr
        refine ⟨_, rfl, D, ks.map bare, rfl, hr, by rw [List.length_map]; exact h3, fun z hzk => ?_, fun z e => ?_, fun _ H3 r s3 hrn h4 => ?_⟩
        · obtain ⟨y, hy, rfl⟩ := List.mem_map.mp hzk
          exact Nat.le_trans (bare_len y) (hz y ((h2 y).mp hy))
        · rw [badN_none (fun w hw => by obtain ⟨y, hy, rfl⟩ := List.mem_map.mp hw; exact lit y ((h2 y).mp hy))] at e
          cases e
        · rw [srt_congr (a := ks.map bare) (b := zs.map bare) fun x => by simp [h2]] at h4
          have sA : Same (upd H' q (.lst [])) H3 := s2.trans s3
          have hqr : q ≠ r := fun e => by rw [← e, s2 _ _ upd_same] at hrn; cases hrn
          have hdr : d ≠ r := fun e => by rw [← e, s2 _ _ (show _ = some (ksD ks) by rw [upd_ne hqd.symm]; exact h1)] at hrn; cases hrn
          have hos : (srt (zs.map bare)).length ≤ 1000 := by have := srt_len (zs.map bare); rw [List.length_map] at this; omega
          generalize hO : srt (zs.map bare) = os at h4 hos
          have hnm : ∀ n ∈ os, isNm n = true := fun n hn => by
            rw [← hO] at hn
            obtain ⟨y, hy, rfl⟩ := List.mem_map.mp (mem_srt.mp hn)
            exact lit y hy
          refine forb_list (xs := os.map V.str) (fun i σ' H' => ∃ v w, σ' = [some (.ref p), some (.ref d), v, some (.ref q), w] ∧ Same H H' ∧ H' r = some (.lst (os.map V.str)) ∧ H' d = some (ksD ks) ∧ H' q = some (.lst ((flat zs (os.take i)).map V.str)))
            ⟨_, _, rfl, (s1.trans (same_new hq0)).trans sA, h4, sA _ _ (by rw [upd_ne hqd.symm]; exact h1), sA _ _ upd_same⟩ ?_ ?_ ?_
          · rintro i σ' H' hi ⟨v, w, rfl, _, h5, _⟩
            exact SqL.of h5
          · rintro i y σ' H4 hi ⟨v, w, rfl, k1, k2, k3, k4⟩
            have hil := (List.getElem?_eq_some_iff.mp hi).1
            rw [List.length_map] at hil
            obtain ⟨n, hj, rfl⟩ := at_strs hi
            have hn8 : n.length ≤ 8 := by obtain ⟨_, _, _, _, _, _, h8⟩ := nm_first (hnm n (List.mem_of_getElem? hj)); exact h8
            have fl := flat_len zs (os.take i)
            rw [List.length_take] at fl
            walk_at "ss"
            refine s_addS (by show 1 + n.length ≤ sizeLine; rw [sizeLine_eq]; omega) ?_
            walk_at "ss"
            refine ⟨by show 2 ≤ sizeLine; rw [sizeLine_eq]; decide, fun u hu => ?_⟩
            have huq : q ≠ u := fun e => by rw [← e, k4] at hu; cases hu
            have hud : d ≠ u := fun e => by rw [← e, k3] at hu; cases hu
            have hur : r ≠ u := fun e => by rw [← e, k2] at hu; cases hu
            refine forb_tup (xs := [n, ("-" : Str) ++ n].map V.str) (fun j σ' H' => ∃ v, σ' = [some (.ref p), some (.ref d), v, some (.ref q), some (.str n)] ∧ Same H H' ∧ H' r = some (.lst (os.map V.str)) ∧ H' d = some (ksD ks) ∧ H' u = some (.tup ([n, ("-" : Str) ++ n].map V.str)) ∧ H' q = some (.lst ((flat zs (os.take i) ++ ([n, ("-" : Str) ++ n].take j).filter fun z => decide (z ∈ zs)).map V.str)))
              ⟨_, rfl, same_put k1 (same_un k1 hu), by rw [upd_ne hur]; exact k2, by rw [upd_ne hud]; exact k3, upd_same, by rw [upd_ne huq, k4]; simp⟩ ?_ ?_ ?_
            · rintro j σ' H' hj ⟨v, rfl, _, _, _, h5, _⟩
              exact SqT.of h5
            · rintro j y σ' H5 hj2 ⟨v, rfl, m1, m2, m3, m4, m5⟩
              obtain ⟨z, hz2, rfl⟩ := at_strs hj2
              have fl2 : ([n, ("-" : Str) ++ n].take j).length ≤ 2 := by rw [List.length_take]; simp; omega
              have fl3 := List.length_filter_le (fun z => decide (z ∈ zs)) ([n, ("-" : Str) ++ n].take j)
              walk_at "ss"
              refine s_inD m3 ?_
              show ∃ k, V.bl (decide (z ∈ ks)) = .bl k ∧ _
              walk_at "ss"
              rw [show decide (z ∈ ks) = decide (z ∈ zs) by rw [Bool.eq_iff_iff]; simp [h2]]
              by_cases hm : z ∈ zs
              · rw [decide_eq_true hm]
                refine s_itT rfl ?_
                walk_at "ss"
                refine s_tyL m5 ?_
                walk_at "ss"
                refine s_app m5 (by rw [List.length_map, List.length_append]; omega) ?_
                refine ⟨_, rfl, same_put m1 hqn, by rw [upd_ne hqr.symm]; exact m2, by rw [upd_ne hqd.symm]; exact m3, by rw [upd_ne huq.symm]; exact m4, ?_⟩
                rw [upd_same, take_more hz2, List.filter_append, filt1 hm, ← List.append_assoc, map_snoc]
              · rw [decide_eq_false hm]
                refine s_itF rfl ?_
                walk_at "ss"
                refine ⟨_, rfl, m1, m2, m3, m4, ?_⟩
                rw [m5, take_more hz2, List.filter_append, filt0 hm, List.append_nil]
            · rintro σ' H5 ⟨v, rfl, m1, m2, m3, m4, m5⟩
              refine ⟨_, _, rfl, m1, m2, m3, ?_⟩
              rw [take_more hj, flat_more, m5]
              rfl
          · rintro σ' H4 ⟨v, w, rfl, k1, k2, k3, k4⟩
            rw [List.length_map, List.take_length, ← hO] at k4
            exact ⟨v, w, rfl, k1, k4⟩
    · rintro σ2 H2 ⟨v, w, rfl, k1, k2⟩
      walk_at "ss"
      exact hq H2 q k1 hqn k2
def sp_twice_named (K : PySem.W.Frag) : Sp := Sp1 fun x H Q _ => ∃ (p : Addr) (os : List Str), x = .ref p ∧ H p = some (.lst (os.map V.str)) ∧ (∀ z ∈ os, z.length ≤ 1000) ∧ Q (match twice os with | some n => .str n | none => .non) H
def N_twice_named : List PySem.Str := ["literals", "literal"]
def t_twice_named (K : PySem.W.Frag) (W : WX) : TS := (tCut (tFor (iAnyP K (tVar 0)) (gName 1) (tIfS (tAnd (tTest (tOp (rNeP K) (tSl (rSlP K) (tVar 1) tNoPart (tPart (tC (.int 1)))) (tC (.str "-")))) (tTest (tOp (rInP K false) (tOp (rAddP K) (tC (.str "-")) (tVar 1)) (tVar 0)))) (tRet (tVar 1)) tNext))
    (tRet (tC .non)))
theorem pure_twice_named {K : PySem.W.Frag} {vs : List V} {H : Hp} {Q : VK} {E : XK} {W : WX} (h : sp_twice_named K vs H Q E) : t_twice_named K W { nx := fun _ H' => Q .non H', rt := Q } (start N_twice_named vs) H := by
  obtain ⟨x, rfl, p, os, rfl, hp, hz, hq⟩ := h
  show t_twice_named K W _ [some (.ref p), none] H
  unfold t_twice_named
  refine s_cut (fun σ' H' => H' = H ∧ twice os = none) ?_ ?_
  · walk_at "ss"
    refine forb_list (xs := os.map V.str) (fun i σ' H' => ∃ v, σ' = [some (.ref p), v] ∧ H' = H ∧ ∀ z ∈ os.take i, (!dash z && decide (("-" : Str) ++ z ∈ os)) = false) ⟨none, rfl, rfl, by simp⟩ ?_ ?_ ?_
    · rintro i σ' H' hi ⟨v, rfl, rfl, _⟩
      exact SqL.of hp
    · rintro i y σ' H' hi ⟨v, rfl, rfl, ha⟩
      obtain ⟨z, hj, rfl⟩ := at_strs hi
      have hzl := hz z (List.mem_of_getElem? hj)
      walk_at "ss"
      refine s_slS (by rw [sizeLine_eq]; omega) ?_
      walk_at "ss"
      show if (!dash z) = true then _ else _
      cases hd : dash z with
      | true =>
        refine s_itF rfl ?_
        refine s_itF rfl ?_
        walk_at "ss"
        exact ⟨_, rfl, rfl, take_all hj ha (by rw [hd]; rfl)⟩
      | false =>
        refine s_itT rfl ?_
        walk_at "ss"
        refine s_addS (by show 1 + z.length ≤ sizeLine; rw [sizeLine_eq]; omega) ?_
        walk_at "ss"
        refine s_inSL hp ?_
        show ∃ k, V.bl (decide (("-" : Str) ++ z ∈ os)) = .bl k ∧ _
        walk_at "ss"
        by_cases hm : ("-" : Str) ++ z ∈ os
        · rw [decide_eq_true hm]
          refine s_itT rfl ?_
          walk_at "ss"
          have e : twice os = some z := find_at (by rw [hd, decide_eq_true hm]; rfl) hj ha
          rw [e] at hq
          exact hq
        · rw [decide_eq_false hm]
          refine s_itF rfl ?_
          walk_at "ss"
          exact ⟨_, rfl, rfl, take_all hj ha (by rw [decide_eq_false hm, Bool.and_false])⟩
    · rintro σ' H' ⟨v, rfl, rfl, ha⟩
      rw [List.length_map, List.take_length] at ha
      exact ⟨rfl, find_no ha⟩
  · rintro σ' H' ⟨rfl, e⟩
    walk_at "ss"
    rw [e] at hq
    exact hq
/-- how a row of literals is refused, or told in order -/
structure Chk (K : PySem.W.Frag) (zs : List Str) (lim : Int) (H : Hp) (E : XK) (ok : Prop) : Prop where
  bad : ∀ z, badOf zs = some z → ∀ H' d, Same H H' → H' d = some (.xd [("text", .str z)]) → E (.ref (ga K "BadLiteral")) (some d) H'
  both : badOf zs = none → ∀ n, twice (litO zs) = some n → ∀ H' d, Same H H' → H' d = some (.xd [("name", .str n)]) → E (.ref (ga K "BothSigns")) (some d) H'
  many : badOf zs = none → twice (litO zs) = none → lim < ((litO zs).length : Int) → ∀ H' d, Same H H' → H' d = some (.xd [("limit", .int lim)]) → E (.ref (ga K "TooMany")) (some d) H'
  fine : badOf zs = none → twice (litO zs) = none → ((litO zs).length : Int) ≤ lim → ok
theorem Chk.keep {K : PySem.W.Frag} {zs : List Str} {lim : Int} {H H1 : Hp} {E : XK} {ok ok' : Prop} (h : Chk K zs lim H E ok) (s : Same H H1) (f : ok → ok') : Chk K zs lim H1 E ok' :=
  ⟨fun z e H' d s' => h.bad z e H' d (s.trans s'), fun e n e2 H' d s' => h.both e n e2 H' d (s.trans s'), fun e e2 e3 H' d s' => h.many e e2 e3 H' d (s.trans s'), fun e e2 e3 => f (h.fine e e2 e3)⟩
theorem chk_fine {K : PySem.W.Frag} {ws zs : List Str} {lim : Int} {H : Hp} {E : XK} {ok : Prop} (h : ∀ z ∈ zs, isLit z = true) (hn : (zs.map bare).Nodup) (m : ∀ x, x ∈ ws ↔ x ∈ zs) (hl : (zs.length : Int) ≤ lim) (o : ok) : Chk K ws lim H E ok := by
  have h1 : badOf ws = none := badOf_none fun z hz => h z ((m z).mp hz)
  have h2 : litO ws = litO zs := litO_congr m
  have h3 : twice (litO ws) = none := by rw [h2]; exact twice_no h hn
  have h4 : ((litO ws).length : Int) ≤ lim := by rw [h2, litO_len_nd h hn]; exact hl
  exact ⟨fun z e => by rw [h1] at e; (cases e), fun _ n e => by rw [h3] at e; (cases e), fun _ _ e => by omega, fun _ _ _ => o⟩
def sp_checked_facts (K : PySem.W.Frag) : Sp := Sp2 fun x y H Q E => ∃ (p : Addr) (zs : List Str) (lim : Int), x = .ref p ∧ y = .int lim ∧ H p = some (.lst (zs.map V.str)) ∧ zs.length ≤ 1000 ∧ (∀ z ∈ zs, z.length ≤ 1000000) ∧ Chk K zs lim H E (∀ H' q, Same H H' → H q = none → H' q = some (.lst ((litO zs).map V.str)) → Q (.ref q) H')
def N_checked_facts : List PySem.Str := ["literals", "limit", "facts", "name"]
def t_checked_facts (K : PySem.W.Frag) (W : WX) : TS := (tSeq (tAsg (tCallS (sp_in_order K) (WE W) (tCons (tVar 0) tNil)) (gName 2))
    (tSeq (tAsg (tCallS (sp_twice_named K) (WE W) (tCons (tVar 2) tNil)) (gName 3))
    (tCut (tIfS (tTest (tOp (rIsP true) (tVar 3) (tC .non))) (tRaiseE (ga K "BothSigns") "name" W (tCons (tVar 3) tNil)) tNext)
    (tCut (tIfS (tTest (tOp rGtP (tCB (rLenP K) (tCons (tVar 2) tNil)) (tVar 1))) (tRaiseE (ga K "TooMany") "limit" W (tCons (tVar 1) tNil)) tNext)
    (tRet (tVar 2))))))
theorem pure_checked_facts {K : PySem.W.Frag} {vs : List V} {H : Hp} {Q : VK} {E : XK} (h : sp_checked_facts K vs H Q E) : t_checked_facts K (fun cls d _ H => E cls d H) { nx := fun _ H' => Q .non H', rt := Q } (start N_checked_facts vs) H := by
  obtain ⟨x, y, rfl, p, zs, lim, rfl, rfl, hp, hl, hz, hc⟩ := h
  show t_checked_facts K _ _ [some (.ref p), some (.int lim), none, none] H
  unfold t_checked_facts
  walk_at "ss"
  refine ⟨_, rfl, p, zs, rfl, hp, hl, hz, hc.bad, fun hb H1 q s1 hqn h1 => ?_⟩
  have lit := badOf_ok hb
  walk_at "ss"
  refine ⟨_, rfl, q, litO zs, rfl, h1, fun z hm => by have := lit_len (lit z (litO_mem hm)); omega, ?_⟩
  walk_at "ss"
  refine s_nocut ?_
  walk_at "ss"
  cases ht : twice (litO zs) with
  | some n =>
    dsimp only
    show if (!decide (V.str n = .non)) = true then _ else _
    refine s_itT (by simp) ?_
    exact ⟨_, rfl, _, rfl, fun d hd => hc.both hb n ht _ d (s1.trans (same_new hd)) upd_same⟩
  | none =>
    dsimp only
    refine s_itF (by simp [tgtIn]) ?_
    walk_at "ss"
    refine s_nocut ?_
    walk_at "ss"
    refine s_lenL h1 ?_
    walk_at "ss"
    rw [List.length_map]
    refine s_itd (fun e => ?_) (fun e => ?_)
    · exact ⟨_, rfl, _, rfl, fun d hd => hc.many hb ht e _ d (s1.trans (same_new hd)) upd_same⟩
    · walk_at "ss"
      exact hc.fine hb ht (by omega) H1 q s1 hqn h1
def sp_names_of (K : PySem.W.Frag) : Sp := Sp1 fun x H Q _ => ∃ (p : Addr) (zs : List Str), x = .ref p ∧ (SqL K H p (zs.map V.str) ∨ SqT K H p (zs.map V.str)) ∧ zs.length ≤ 1000 ∧ (∀ z ∈ zs, isLit z = true) ∧ ∀ H' r, Same H H' → H r = none → H' r = some (.lst ((srt (zs.map bare)).map V.str)) → Q (.ref r) H'
def N_names_of : List PySem.Str := ["literals", "literal"]
def t_names_of (K : PySem.W.Frag) (W : WX) : TS := (tRet (tCallS (sp_ordered_names K) (WE W) (tCons (tLc (iAnyP K (tVar 0)) (gName 1) tYes (tCall (sp_name_of K) [] E0 (tCons (tVar 1) tNil)) [1]) tNil)))
theorem pure_names_of {K : PySem.W.Frag} {vs : List V} {H : Hp} {Q : VK} {E : XK} {W : WX} (h : sp_names_of K vs H Q E) : t_names_of K W { nx := fun _ H' => Q .non H', rt := Q } (start N_names_of vs) H := by
  obtain ⟨x, rfl, p, zs, rfl, hp, hl, lit, hq⟩ := h
  show t_names_of K W _ [some (.ref p), none] H
  unfold t_names_of
  walk_at "ss"
  refine lcS_str bare hp (by omega) ?_ ?_
  · intro z hz H' s' Q' hQ
    walk_at "ss"
    exact ⟨_, rfl, z, rfl, by have := lit_len (lit z hz); omega, fun _ H2 s2 => hQ H2 s2, fun e => by rw [lit z hz] at e; cases e⟩
  intro l1 H1 _ s1 h1
  have hnm : ∀ z ∈ zs.map bare, isNm z = true := fun z h => by
    obtain ⟨y, hy, rfl⟩ := List.mem_map.mp h
    exact lit y hy
  walk_at "ss"
  exact ⟨_, rfl, l1, zs.map bare, rfl, h1, by rw [List.length_map]; omega, fun z h => by have := nm_short (hnm z h); omega, fun z e => by rw [badN_none hnm] at e; (cases e), fun _ H4 r s4 hr h4 => hq H4 r (s1.trans s4) (same_un s1 hr) h4⟩
def ysOf (rs : List (Addr × List Str)) (v : V) : List V := match rs.find? (fun r => decide (V.ref r.1 = v)) with
  | some r => r.2.map V.str
  | none => []
theorem ysOf_at {K : PySem.W.Frag} {H : Hp} {rs : List (Addr × List Str)} (h : ∀ r ∈ rs, IsCl K H r.1 r.2) {r : Addr × List Str} (hr : r ∈ rs) : ysOf rs (.ref r.1) = r.2.map V.str := by
  unfold ysOf
  cases e : rs.find? (fun s => decide (V.ref s.1 = V.ref r.1)) with
  | none =>
    have := List.find?_eq_none.mp e r hr
    simp at this
  | some s =>
    have h1 := List.mem_of_find?_eq_some e
    have h2 : V.ref s.1 = V.ref r.1 := by simpa using List.find?_some e
    injection h2 with h2
    have h3 := h s h1
    rw [h2] at h3
    show s.2.map V.str = _
    rw [h3.fn (h r hr)]
theorem ysOf_all {K : PySem.W.Frag} {H : Hp} {rs : List (Addr × List Str)} (h : ∀ r ∈ rs, IsCl K H r.1 r.2) : (rs.map fun r => V.ref r.1).flatMap (ysOf rs) = (rs.flatMap (·.2)).map V.str := by
  rw [List.flatMap_map, List.map_flatMap, List.flatMap_def, List.flatMap_def]
  congr 1
  exact List.map_congr_left fun r hr => ysOf_at h hr
def sp_names_in (K : PySem.W.Frag) : Sp := Sp1 fun x H Q _ => ∃ (p : Addr) (rs : List (Addr × List Str)), x = .ref p ∧ (SqL K H p (rs.map fun r => V.ref r.1) ∨ SqT K H p (rs.map fun r => V.ref r.1)) ∧ (∀ r ∈ rs, IsCl K H r.1 r.2) ∧ (∀ r ∈ rs, ∀ z ∈ r.2, isLit z = true) ∧ (rs.flatMap (·.2)).length ≤ 1000 ∧ ∀ H' q, Same H H' → H q = none → H' q = some (.lst ((nmsO (rs.flatMap (·.2))).map V.str)) → Q (.ref q) H'
def N_names_in : List PySem.Str := ["clauses", "clause", "literal"]
def t_names_in (K : PySem.W.Frag) (W : WX) : TS := (tRet (tCallS (sp_names_of K) (WE W) (tCons (tLc2 (iAnyP K (tVar 0)) (gName 1) tYes (iAnyP K (Cl.tAtt [(ga K "Clause", Cl.aFld "literals")] (tVar 1))) (gName 2) tYes (tVar 2) [1, 2] [2]) tNil)))
theorem pure_names_in {K : PySem.W.Frag} {vs : List V} {H : Hp} {Q : VK} {E : XK} {W : WX} (h : sp_names_in K vs H Q E) : t_names_in K W { nx := fun _ H' => Q .non H', rt := Q } (start N_names_in vs) H := by
  obtain ⟨x, rfl, p, rs, rfl, hp, hc, lit, hl, hq⟩ := h
  show t_names_in K W _ [some (.ref p), none, none] H
  unfold t_names_in
  have eq := ysOf_all hc
  walk_at "ss"
  refine anyB_items hp fun J hy => ?_
  refine lc2_flat (ysOf rs) id (by decide) (by rw [eq, List.length_map]; omega) hy ?_ ?_ ?_
  · intro x hx H' s' R hR
    obtain ⟨r, hr, rfl⟩ := List.mem_map.mp hx
    obtain ⟨dx, q, c1, c2⟩ := hc r hr
    show iAnyP K _ [some (.ref p), some (.ref r.1), none] H' R
    walk_at "ss"
    refine fld_go "literals" (by walk_at "mem") (s' _ _ c1) rfl ?_
    refine anyB_old s' (xs := ysOf rs (.ref r.1)) (.inr (by rw [ysOf_at hc hr]; exact SqT.of c2)) fun J1 h1 => hR J1 h1
  · intro x hx y hy' H' s' Q' hQ
    show tVar 2 [some (.ref p), some x, some y] H' Q'
    walk_at "ss"
    exact hQ H' (Same.refl _)
  · intro D H' hD s' hl'
    rw [List.map_id, eq] at hl'
    walk_at "ss"
    exact ⟨_, rfl, D, rs.flatMap (fun r : Addr × List Str => r.2), rfl, .inl (SqL.of hl'), hl, fun z hz => by
      obtain ⟨r, hr, h⟩ := List.mem_flatMap.mp hz
      exact lit r hr z h, fun H2 q s2 hq2 h2 => hq H2 q (s'.trans s2) (same_un s' hq2) h2⟩
def szAt (rs : List (Addr × List Str)) (m mn : Int) (i : Nat) : Option Int := if m ≤ (i : Int) then some m else if mn < ((nmsO ((rs.take (i + 1)).flatMap (·.2))).length : Int) then some mn else none
/-- why putting the clauses one after another is refused -/
def szErr (rs : List (Addr × List Str)) (m mn : Int) : Option Int := (List.range rs.length).findSome? (szAt rs m mn)
theorem fs_range {f : Nat → Option Int} {i : Nat} {v : Int} (h : f i = some v) (hb : ∀ j, j < i → f j = none) : ∀ {n : Nat}, i < n → (List.range n).findSome? f = some v
  | 0, hi => absurd hi (Nat.not_lt_zero _)
  | n + 1, hi => by
    rw [List.range_succ, List.findSome?_append]
    by_cases h1 : i < n
    · rw [fs_range h hb h1]; rfl
    · have e : i = n := by omega
      subst e
      have : (List.range i).findSome? f = none := List.findSome?_eq_none_iff.mpr fun j hj => hb j (List.mem_range.mp hj)
      rw [this]
      simp [h]
theorem cut_take {rs : List (Addr × List Str)} {i : Nat} (hi : i < rs.length) : cutV (rs.map fun r => V.ref r.1) none (some ((i : Int) + 1)) = (rs.take (i + 1)).map fun r => V.ref r.1 := by
  unfold cutV
  rw [HT.sIx_none, show ((i : Int) + 1) = ((i + 1 : Nat) : Int) by omega, HT.sIx_nat, List.drop_zero, List.length_map, Nat.sub_zero, Nat.min_eq_left (by omega), List.map_take]
def sp_check_sizes (K : PySem.W.Frag) : Sp := Sp3 fun x y w H Q E => ∃ (p : Addr) (rs : List (Addr × List Str)) (m mn : Int), x = .ref p ∧ y = .int m ∧ w = .int mn ∧ H p = some (.tup (rs.map fun r => V.ref r.1)) ∧ (∀ r ∈ rs, IsCl K H r.1 r.2) ∧ (∀ r ∈ rs, ∀ z ∈ r.2, isLit z = true) ∧ (rs.flatMap (·.2)).length ≤ 900 ∧ rs.length ≤ 1000 ∧ (∀ n, szErr rs m mn = some n → ErrM K n H E) ∧ (szErr rs m mn = none → ∀ H', Same H H' → Q .non H')
def N_check_sizes : List PySem.Str := ["clauses", "most", "most_names", "at"]
def t_check_sizes (K : PySem.W.Frag) (W : WX) : TS := (tFor (iRng1 (tCons (tCB (rLenP K) (tCons (tVar 0) tNil)) tNil)) (gName 3) (tCut (tIfS (tTest (tOp rGeP (tVar 3) (tVar 1))) (tRaiseE (ga K "TooMany") "limit" W (tCons (tVar 1) tNil)) tNext)
    (tIfS (tTest (tOp rGtP (tCB (rLenP K) (tCons (tCallS (sp_names_in K) (WE W) (tCons (tSl (rSlP K) (tVar 0) tNoPart (tPart (tOp (rAddP K) (tVar 3) (tC (.int 1))))) tNil)) tNil)) (tVar 2))) (tRaiseE (ga K "TooMany") "limit" W (tCons (tVar 2) tNil)) tNext)))
theorem take_few {rs : List (Addr × List Str)} (i : Nat) : ((rs.take i).flatMap (·.2)).length ≤ (rs.flatMap (·.2)).length := by
  conv => rhs; rw [← List.take_append_drop i rs, List.flatMap_append, List.length_append]
  omega
theorem pure_check_sizes {K : PySem.W.Frag} {vs : List V} {H : Hp} {Q : VK} {E : XK} (h : sp_check_sizes K vs H Q E) : t_check_sizes K (fun cls d _ H => E cls d H) { nx := fun _ H' => Q .non H', rt := Q } (start N_check_sizes vs) H := by
  obtain ⟨x, y, w, rfl, p, rs, m, mn, rfl, rfl, rfl, hp, hc, lit, few, l1, he, hq⟩ := h
  show t_check_sizes K _ _ [some (.ref p), some (.int m), some (.int mn), none] H
  unfold t_check_sizes
  walk_at "ss"
  refine s_lenT hp ?_
  walk_at "ss"
  rw [List.length_map]
  refine forr_inv (by omega) (by omega) (fun i σ' H' => ∃ v, σ' = [some (.ref p), some (.int m), some (.int mn), v] ∧ Same H H' ∧ ∀ j, j < i → szAt rs m mn j = none) ⟨none, rfl, Same.refl _, fun j hj => absurd hj (Nat.not_lt_zero _)⟩ ?_ ?_
  · rintro i σ' H1 hi ⟨v, rfl, s1, hb⟩
    have hi' : i < rs.length := by omega
    refine s_nocut ?_
    walk_at "ss"
    refine s_itd (fun hm => ?_) (fun hm => ?_)
    · exact ⟨_, rfl, _, rfl, fun e he' => he m (fs_range (by unfold szAt; rw [if_pos hm]) hb hi') _ e (s1.trans (same_new he')) upd_same⟩
    have ha : szAt rs m mn i = if mn < ((nmsO ((rs.take (i + 1)).flatMap (·.2))).length : Int) then some mn else none := by unfold szAt; rw [if_neg hm]
    have hp1 := s1 _ _ hp
    have go : ∀ (H2 : Hp) (q : Addr) (R : VK), Same H1 H2 → H2 q = some (.tup ((rs.take (i + 1)).map fun r => V.ref r.1)) → (∀ H3 t, Same H1 H3 → H3 t = some (.lst ((nmsO ((rs.take (i + 1)).flatMap (·.2))).map V.str)) → R (.ref t) H3) → sp_names_in K [.ref q] H2 R (WE (fun cls d _ H => E cls d H) [some (.ref p), some (.int m), some (.int mn), some (.int i)]) := fun H2 q R s2 h2 hR =>
      ⟨_, rfl, q, rs.take (i + 1), rfl, .inr (SqT.of h2), fun r hr => (hc r (List.mem_of_mem_take hr)).keep (s1.trans s2), fun r hr => lit r (List.mem_of_mem_take hr), by have := take_few (rs := rs) (i + 1); omega, fun H3 t s3 _ h3 => hR H3 t (s2.trans s3) h3⟩
    have fin : ∀ (H3 : Hp) (t : Addr), Same H1 H3 → H3 t = some (.lst ((nmsO ((rs.take (i + 1)).flatMap (·.2))).map V.str)) → rLenP K [.ref t] H3 fun x H4 => tVar 2 [some (.ref p), some (.int m), some (.int mn), some (.int i)] H4 fun y H5 => rGtP x y H5 fun z H6 => ∃ k, z = .bl k ∧ if k = true then tRaiseE (ga K "TooMany") "limit" (fun cls d _ H => E cls d H) (tCons (tVar 2) tNil) { nx := fun σ' H' => ∃ v, σ' = [some (.ref p), some (.int m), some (.int mn), v] ∧ Same H H' ∧ ∀ j, j < i + 1 → szAt rs m mn j = none, ct := fun σ' H' => ∃ v, σ' = [some (.ref p), some (.int m), some (.int mn), v] ∧ Same H H' ∧ ∀ j, j < i + 1 → szAt rs m mn j = none, bk := fun _ H' => Q .non H', rt := Q } [some (.ref p), some (.int m), some (.int mn), some (.int i)] H6 else tNext { nx := fun σ' H' => ∃ v, σ' = [some (.ref p), some (.int m), some (.int mn), v] ∧ Same H H' ∧ ∀ j, j < i + 1 → szAt rs m mn j = none, ct := fun σ' H' => ∃ v, σ' = [some (.ref p), some (.int m), some (.int mn), v] ∧ Same H H' ∧ ∀ j, j < i + 1 → szAt rs m mn j = none, bk := fun _ H' => Q .non H', rt := Q } [some (.ref p), some (.int m), some (.int mn), some (.int i)] H6 := fun H3 t s3 h3 => by
      refine s_lenL h3 ?_
      walk_at "ss"
      rw [List.length_map]
      refine s_itd (fun hn => ?_) (fun hn => ?_)
      · exact ⟨_, rfl, _, rfl, fun e he' => he mn (fs_range (by rw [ha, if_pos hn]) hb hi') _ e ((s1.trans s3).trans (same_new he')) upd_same⟩
      · walk_at "ss"
        refine ⟨_, rfl, s1.trans s3, fun j hj => ?_⟩
        by_cases hj2 : j < i
        · exact hb j hj2
        · have e : j = i := by omega
          subst e
          rw [ha, if_neg hn]
    walk_at "ss"
    refine .inr ⟨p, _, rfl, SqT.of hp1, fun hw => ?_, fun hw q hqn => ?_⟩
    · have hlen : i + 1 = rs.length := by
        have h2 := hw.2
        rw [show ((i : Int) + 1) = ((i + 1 : Nat) : Int) by omega, HT.sIx_nat, List.length_map] at h2
        omega
      walk_at "ss"
      refine go H1 p _ (Same.refl _) (by rw [hlen, List.take_length]; exact hp1) fun H3 t s3 h3 => ?_
      walk_at "ss"
      exact fin H3 t s3 h3
    · have s2 := same_new (o := HO.tup (cutV (rs.map fun r => V.ref r.1) none (some ((i : Int) + 1)))) hqn
      walk_at "ss"
      refine go _ q _ s2 (by rw [upd_same, cut_take hi']) fun H3 t s3 h3 => ?_
      walk_at "ss"
      exact fin H3 t s3 h3
  · rintro σ' H' ⟨v, rfl, s1, hb⟩
    refine hq (List.findSome?_eq_none_iff.mpr fun j hj => hb j ?_) H' s1
    have := List.mem_range.mp hj
    omega
def sp_law_sorted (K : PySem.W.Frag) : Sp := Sp1 fun x H Q _ => ∃ (p : Addr) (zs : List Str), x = .ref p ∧ H p = some (.lst (zs.map V.str)) ∧ zs.length ≤ 1000 ∧ (∀ H' q, Same H H' → H q = none → H' q = some (.lst ((srt zs).map V.str)) → Q (.ref q) H')
def N_law_sorted : List PySem.Str := ["_law_names_here", "_law_result", "_law_name_here", "_law_each"]
def t_law_sorted (K : PySem.W.Frag) (W : WX) : TS := (tSeq (tAsg (tLst tNil) (gName 1))
    (tCut (tFor (iAnyP K (tCB (rSortAny K) (tCons (tLc (iAnyP K (tVar 0)) (gName 3) tYes (tCB rStrP (tCons (tVar 3) tNil)) [3]) tNil))) (gName 2) (tIfS (tTest (tOp (rInP K true) (tVar 2) (tVar 1))) (tDrop (tBM K "list" rAppend (tVar 1) (tCons (tVar 2) tNil))) tNext))
    (tRet (tVar 1))))
theorem pure_law_sorted {K : PySem.W.Frag} {vs : List V} {H : Hp} {Q : VK} {E : XK} {W : WX} (h : sp_law_sorted K vs H Q E) : t_law_sorted K W { nx := fun _ H' => Q .non H', rt := Q } (start N_law_sorted vs) H := by
  obtain ⟨x, rfl, p, zs, rfl, hp, hl, hq⟩ := h
  show t_law_sorted K W _ [some (.ref p), none, none, none] H
  unfold t_law_sorted
  walk_at "ss"
  refine ⟨Nat.zero_le _, fun q hqn => ?_⟩
  have s2 : Same H (upd H q (.lst [])) := same_new hqn
  walk_at "ss"
  refine s_cut (fun σ2 H2 => ∃ v, σ2 = [some (.ref p), some (.ref q), v, none] ∧ Same H H2 ∧ H2 q = some (.lst ((srt zs).map V.str))) ?_ ?_
  · walk_at "ss"
    refine lcb_map (fun x => x) (.inl (SqL.of (s2 _ _ hp))) (by rw [List.length_map]; omega) ?_ ?_
    · intro x hx H2 s3 Q' hQ
      obtain ⟨z, _, rfl⟩ := List.mem_map.mp hx
      walk_at "ss"
      exact hQ _ (Same.refl _)
    · intro D H2 hD s3 hl2
      rw [List.map_id'] at hl2
      walk_at "ss"
      refine s_sort hl2 (by omega) fun ys r hperm hsort hr => ?_
      have hs := sorted_pair hsort
      have s4 : Same H (upd H2 r (.lst (ys.map V.str))) := (s2.trans s3).trans (same_new hr)
      have hqr : q ≠ r := fun e => by rw [← e, s3 _ _ upd_same] at hr; cases hr
      refine forb_list (xs := ys.map V.str) (fun i σ' H' => ∃ v acc, σ' = [some (.ref p), some (.ref q), v, none] ∧ Same H H' ∧ H' r = some (.lst (ys.map V.str)) ∧ H' q = some (.lst (acc.map V.str)) ∧ Ord acc ∧ (∀ z, z ∈ acc ↔ z ∈ ys.take i) ∧ acc.length ≤ i)
        ⟨_, [], rfl, s4, upd_same, by rw [upd_ne hqr]; exact s3 _ _ upd_same, List.Pairwise.nil, by simp, Nat.le_refl _⟩ ?_ ?_ ?_
      · rintro i σ' H' hi ⟨v, acc, rfl, _, h2, _⟩
        exact SqL.of h2
      · rintro i y σ' H3 hi ⟨v, acc, rfl, h1, h2, h3, h4, h5, h6⟩
        have hil := (List.getElem?_eq_some_iff.mp hi).1
        rw [List.length_map, hperm.length_eq] at hil
        obtain ⟨z, hj, rfl⟩ := at_strs hi; replace hi := hj
        obtain ⟨n1, n2⟩ := nub_step hs hi h4 h5
        walk_at "ss"
        refine s_inSL h3 ?_
        show ∃ k, V.bl (!decide (z ∈ acc)) = .bl k ∧ _
        walk_at "ss"
        by_cases hm : z ∈ acc
        · rw [decide_eq_true hm]
          refine s_itF rfl ?_
          walk_at "ss"
          exact ⟨_, acc, rfl, h1, h2, h3, h4, n1 hm, by omega⟩
        · rw [decide_eq_false hm]
          refine s_itT rfl ?_
          walk_at "ss"
          refine s_tyL h3 ?_
          walk_at "ss"
          refine s_app h3 (by rw [List.length_map]; omega) ?_
          refine ⟨_, acc ++ [z], rfl, fun b o e => ?_, by rw [upd_ne hqr.symm]; exact h2, by rw [upd_same, List.map_append]; rfl, (n2 hm).1, (n2 hm).2, by rw [List.length_append]; simp; omega⟩
          rw [upd_ne (ne_of_none e hqn)]
          exact h1 _ _ e
      · rintro σ' H3 ⟨v, acc, rfl, h1, h2, h3, h4, h5, h6⟩
        rw [List.length_map, List.take_length] at h5
        have e : acc = srt zs := srt_eq h4 fun x => (h5 x).trans hperm.mem_iff
        rw [e] at h3
        exact ⟨v, rfl, h1, h3⟩
  · rintro σ2 H2 ⟨v, rfl, h1, h2⟩
    walk_at "ss"
    exact hq H2 q h1 hqn h2
def sp_law_ordered (K : PySem.W.Frag) : Sp := Sp1 fun x H Q _ => ∃ (p : Addr) (zs : List Str), x = .ref p ∧ H p = some (.lst (zs.map V.str)) ∧ zs.length ≤ 1000 ∧ (∀ z ∈ zs, z.length ≤ 100000) ∧ (∀ H' q, Same H H' → H q = none → H' q = some (.lst ((litO zs).map V.str)) → Q (.ref q) H')
def N_law_ordered : List PySem.Str := ["_law_literals", "_law_result", "_law_name_here", "_law_each"]
def t_law_ordered (K : PySem.W.Frag) (W : WX) : TS := (tSeq (tAsg (tLst tNil) (gName 1))
    (tCut (tFor (iAnyP K (tCallS (sp_law_sorted K) (WE W) (tCons (tLc (iAnyP K (tVar 0)) (gName 3) tYes (tCall (sp_law_name K) [] E0 (tCons (tVar 3) tNil)) [3]) tNil))) (gName 2) (tCut (tIfS (tTest (tOp (rInP K false) (tVar 2) (tVar 0))) (tDrop (tBM K "list" rAppend (tVar 1) (tCons (tVar 2) tNil))) tNext)
    (tIfS (tTest (tOp (rInP K false) (tOp (rAddP K) (tC (.str "-")) (tVar 2)) (tVar 0))) (tDrop (tBM K "list" rAppend (tVar 1) (tCons (tOp (rAddP K) (tC (.str "-")) (tVar 2)) tNil))) tNext)))
    (tRet (tVar 1))))
theorem pure_law_ordered {K : PySem.W.Frag} {vs : List V} {H : Hp} {Q : VK} {E : XK} {W : WX} (h : sp_law_ordered K vs H Q E) : t_law_ordered K W { nx := fun _ H' => Q .non H', rt := Q } (start N_law_ordered vs) H := by
  obtain ⟨x, rfl, p, zs, rfl, hp, hl, hz, hq⟩ := h
  show t_law_ordered K W _ [some (.ref p), none, none, none] H
  unfold t_law_ordered
  walk_at "ss"
  refine ⟨Nat.zero_le _, fun q hqn => ?_⟩
  have hqp : q ≠ p := fun e => by rw [e, hp] at hqn; cases hqn
  walk_at "ss"
  refine s_cut (fun σ2 H2 => ∃ w, σ2 = [some (.ref p), some (.ref q), w, none] ∧ Same H H2 ∧ H2 q = some (.lst ((litO zs).map V.str))) ?_ ?_
  · walk_at "ss"
    refine lcb_map (fun x => match x with | .str z => .str (bare z) | _ => .non) (.inl (SqL.of (same_new hqn _ _ hp))) (by rw [List.length_map]; omega) ?_ ?_
    · intro x hx H2 s3 Q' hQ
      obtain ⟨z, hzz, rfl⟩ := List.mem_map.mp hx
      walk_at "ss"
      exact ⟨_, rfl, z, rfl, by have := hz z hzz; omega, hQ _ (Same.refl _)⟩
    · intro D H2 hD s2 hr
      have e1 : (zs.map V.str).map (fun x => match x with | .str z => V.str (bare z) | _ => .non) = (zs.map bare).map V.str := by rw [List.map_map, List.map_map]; rfl
      rw [e1] at hr
      walk_at "ss"
      refine ⟨_, rfl, D, zs.map bare, rfl, hr, by rw [List.length_map]; exact hl, fun H3 r s3 hrn h4 => ?_⟩
      have sA : Same (upd H q (.lst [])) H3 := s2.trans s3
      have hqr : q ≠ r := fun e => by rw [← e, s2 _ _ upd_same] at hrn; cases hrn
      have hos : (srt (zs.map bare)).length ≤ 1000 := by have := srt_len (zs.map bare); rw [List.length_map] at this; omega
      generalize hO : srt (zs.map bare) = os at h4 hos
      have hnm : ∀ n ∈ os, n.length ≤ 100000 := fun n hn => by
        rw [← hO] at hn
        obtain ⟨y, hy, rfl⟩ := List.mem_map.mp (mem_srt.mp hn)
        exact Nat.le_trans (bare_len y) (hz y hy)
      refine forb_list (xs := os.map V.str) (fun i σ' H' => ∃ w, σ' = [some (.ref p), some (.ref q), w, none] ∧ Same H H' ∧ H' r = some (.lst (os.map V.str)) ∧ H' q = some (.lst ((flat zs (os.take i)).map V.str)))
        ⟨_, rfl, (same_new hqn).trans sA, h4, sA _ _ upd_same⟩ ?_ ?_ ?_
      · rintro i σ' H' hi ⟨w, rfl, _, h5, _⟩
        exact SqL.of h5
      · rintro i y σ' H4 hi ⟨w, rfl, k1, k2, k4⟩
        have hil := (List.getElem?_eq_some_iff.mp hi).1
        rw [List.length_map] at hil
        obtain ⟨n, hj, rfl⟩ := at_strs hi
        have hn8 : n.length ≤ 100000 := hnm n (List.mem_of_getElem? hj)
        have hns : 1 + n.length ≤ sizeLine := by rw [sizeLine_eq]; omega
        have fl := flat_len zs (os.take i)
        rw [List.length_take] at fl
        have fin : ∀ H5, Same H H5 → H5 r = some (.lst (os.map V.str)) → H5 q = some (.lst ((flat zs (os.take i) ++ [n, ("-" : Str) ++ n].filter fun z => decide (z ∈ zs)).map V.str)) → ∃ w, [some (.ref p), some (.ref q), some (.str n), none] = [some (V.ref p), some (.ref q), w, none] ∧ Same H H5 ∧ H5 r = some (.lst (os.map V.str)) ∧ H5 q = some (.lst ((flat zs (os.take (i + 1))).map V.str)) := fun H5 a1 a2 a3 => ⟨_, rfl, a1, a2, by rw [take_more hj, flat_more, a3]⟩
        walk_at "ss"
        refine s_cut (fun σ5 H5 => σ5 = [some (.ref p), some (.ref q), some (.str n), none] ∧ Same H H5 ∧ H5 r = some (.lst (os.map V.str)) ∧ H5 q = some (.lst ((flat zs (os.take i) ++ [n].filter fun z => decide (z ∈ zs)).map V.str))) ?_ ?_
        · walk_at "ss"
          refine s_inSL (k1 _ _ hp) ?_
          show ∃ k, V.bl (decide (n ∈ zs)) = .bl k ∧ _
          walk_at "ss"
          by_cases hm : n ∈ zs
          · rw [decide_eq_true hm]
            refine s_itT rfl ?_
            walk_at "ss"
            refine s_tyL k4 ?_
            walk_at "ss"
            refine s_app k4 (by rw [List.length_map]; omega) ?_
            refine ⟨rfl, same_put k1 hqn, by rw [upd_ne hqr.symm]; exact k2, ?_⟩
            rw [upd_same, filt1 hm, List.map_append]
            rfl
          · rw [decide_eq_false hm]
            refine s_itF rfl ?_
            walk_at "ss"
            refine ⟨rfl, k1, k2, ?_⟩
            rw [k4, filt0 hm, List.append_nil]
        · rintro σ5 H5 ⟨rfl, k1, k2, k4⟩
          have fl3 := List.length_filter_le (fun z => decide (z ∈ zs)) [n]
          simp only [List.length_cons, List.length_nil] at fl3
          have e2 : [n, ("-" : Str) ++ n].filter (fun z => decide (z ∈ zs)) = [n].filter (fun z => decide (z ∈ zs)) ++ [("-" : Str) ++ n].filter (fun z => decide (z ∈ zs)) := List.filter_append (l₁ := [n]) (l₂ := [("-" : Str) ++ n])
          walk_at "ss"
          refine s_addS hns ?_
          walk_at "ss"
          refine s_inSL (k1 _ _ hp) ?_
          show ∃ k, V.bl (decide (("-" : Str) ++ n ∈ zs)) = .bl k ∧ _
          walk_at "ss"
          by_cases hm : ("-" : Str) ++ n ∈ zs
          · rw [decide_eq_true hm]
            refine s_itT rfl ?_
            walk_at "ss"
            refine s_tyL k4 ?_
            walk_at "ss"
            refine s_addS hns ?_
            walk_at "ss"
            refine s_app k4 (by rw [List.length_map, List.length_append]; omega) ?_
            refine fin _ (same_put k1 hqn) (by rw [upd_ne hqr.symm]; exact k2) ?_
            rw [upd_same, e2, filt1 hm, ← List.append_assoc, List.map_append (l₂ := [("-" : Str) ++ n])]
            rfl
          · rw [decide_eq_false hm]
            refine s_itF rfl ?_
            walk_at "ss"
            refine fin _ k1 k2 ?_
            rw [k4, e2, filt0 hm, List.append_nil]
      · rintro σ' H4 ⟨w, rfl, k1, k2, k4⟩
        rw [List.length_map, List.take_length, ← hO] at k4
        exact ⟨w, rfl, k1, k4⟩
  · rintro σ2 H2 ⟨w, rfl, k1, k2⟩
    walk_at "ss"
    exact hq H2 q k1 hqn k2
def sp_Clause_init (K : PySem.W.Frag) : Sp := Sp2 fun x y H Q E => ∃ (c p dx : Addr) (zs : List Str), x = .ref c ∧ y = .ref p ∧ H c = some (.ins (ga K "Clause") dx []) ∧ H p = some (.tup (zs.map V.str)) ∧ zs.length ≤ 1000 ∧ (∀ z ∈ zs, z.length ≤ 1000000) ∧ Chk K zs 6 H E (∀ H' q, But c H H' → H q = none → H' q = some (.tup ((litO zs).map V.str)) → H' c = some (.ins (ga K "Clause") dx [("literals", .ref q)]) → Q .non H')
def N_Clause_init : List PySem.Str := ["self", "literals"]
def t_Clause_init (K : PySem.W.Frag) (W : WX) : TS := (Cl.sAtt [ga K "Clause"] (tVar 0) (tCB (rTupleP K) (tCons (tCallS (sp_checked_facts K) (WE W) (tCons (tCB (rListP K) (tCons (tVar 1) tNil)) (tCons (Cl.tAtt [(ga K "Clause", Cl.aCon "LIMIT" (.int 6)), (ga K "Turning", Cl.aCon "LIMIT" (.int 12)), (ga K "Book", Cl.aCon "LIMIT" (.int 24))] (tVar 0)) tNil))) tNil)) "literals")
def spV_Clause_init (K : PySem.W.Frag) : Sp := fun vs H Q E => ∃ ws rest, vs = ws ++ rest ∧ ws.length = 1 ∧ rest.length ≤ sizeLine ∧ ∀ p, H p = none → sp_Clause_init K (ws ++ [V.ref p]) (upd H p (.tup rest)) Q E
theorem pure_Clause_init {K : PySem.W.Frag} {vs : List V} {H : Hp} {Q : VK} {E : XK} (h : sp_Clause_init K vs H Q E) : t_Clause_init K (fun cls d _ H => E cls d H) { nx := fun _ H' => Q .non H', rt := Q } (start N_Clause_init vs) H := by
  obtain ⟨x, y, rfl, c, p, dx, zs, rfl, rfl, hc, hp, hl, hz, hk⟩ := h
  show t_Clause_init K _ _ [some (.ref c), some (.ref p)] H
  unfold t_Clause_init
  walk_at "ss"
  refine s_listT hp fun l hln => ?_
  have s1 : Same H (upd H l (.lst (zs.map V.str))) := same_new hln
  walk_at "ss"
  refine ⟨c, dx, [], 0, _, _, rfl, rfl, s1 _ _ hc, rfl, ?_⟩
  walk_at "ss"
  refine ⟨_, _, rfl, l, zs, 6, rfl, rfl, upd_same, hl, hz, hk.keep s1 fun ok H1 q s2 hq h1 => ?_⟩
  walk_at "ss"
  have hqn := same_un s1 hq
  refine s_tupL h1 fun r hr => ?_
  have s3 : Same H (upd H1 r (.tup ((litO zs).map V.str))) := (s1.trans s2).trans (same_new hr)
  have hcr : c ≠ r := fun e => by rw [← e, s2 _ _ (s1 _ _ hc)] at hr; cases hr
  walk_at "ss"
  refine ⟨c, _, dx, [], rfl, List.mem_singleton.mpr rfl, s3 _ _ hc, by decide, ?_⟩
  refine ok _ r (fun b o e n => ?_) (same_un (s1.trans s2) hr) ?_ ?_
  · rw [upd_ne n]
    exact s3 _ _ e
  · rw [upd_ne hcr.symm, upd_same]
  · rw [upd_same]
    rfl
/-- a clause of the row is made, or refused -/
abbrev CkC (K : PySem.W.Frag) (zs : List Str) (H : Hp) (Q : VK) (E : XK) : Prop := Chk K zs 6 H E (∀ H' c dx q, Same H H' → H c = none → H' c = some (.ins (ga K "Clause") dx [("literals", .ref q)]) → H' q = some (.tup ((litO zs).map V.str)) → Q (.ref c) H')
theorem clause_made {K : PySem.W.Frag} {zs : List Str} {H : Hp} {Q : VK} {E : XK} (hl : zs.length ≤ 1000) (hz : ∀ z ∈ zs, z.length ≤ 1000000) (hc : CkC K zs H Q E) : ∀ x dx, H x = none → H dx = none → dx ≠ x → spV_Clause_init K (V.ref x :: zs.map V.str) (upd (upd H dx (.own x)) x (.ins (ga K "Clause") dx [])) (fun v H2 => v = .non ∧ Q (.ref x) H2) E := by
  intro x dx hx hd hn
  have s1 : Same H (upd (upd H dx (.own x)) x (.ins (ga K "Clause") dx [])) := same_put (same_new hd) hx
  refine ⟨[.ref x], zs.map V.str, rfl, rfl, by rw [List.length_map, sizeLine_eq]; omega, fun p hp => ?_⟩
  have hpx : x ≠ p := fun e => by rw [← e, upd_same] at hp; cases hp
  have s2 := s1.trans (same_new (o := .tup (zs.map V.str)) hp)
  refine ⟨_, _, rfl, x, p, dx, zs, rfl, rfl, by rw [upd_ne hpx, upd_same], upd_same, hl, hz, hc.keep s2 fun ok H' q b hq h1 h2 => ⟨rfl, ?_⟩⟩
  refine ok H' x dx q (fun b' o e => ?_) hx h2 h1
  exact b b' o (s2 _ _ e) (ne_of_none e hx)
theorem clause_new {K : PySem.W.Frag} {zs : List Str} {H : Hp} {R : Addr → Hp → Prop} {E : XK} (r : Row6 zs) (ok : ∀ H' c, Same H H' → H c = none → IsCl K H' c (litO zs) → R c H') : ∀ x dx, H x = none → H dx = none → dx ≠ x → spV_Clause_init K (V.ref x :: zs.map V.str) (upd (upd H dx (.own x)) x (.ins (ga K "Clause") dx [])) (fun v H2 => v = .non ∧ R x H2) E := by
  intro x dx hx hd hn
  have l6 := r.len
  have := clause_made (Q := fun v H' => ∃ c, v = .ref c ∧ R c H') (E := E) (zs := zs) (by omega) (fun z h => by have := r.short z h; omega) (chk_fine r.lit r.nd (fun _ => Iff.rfl) (by omega) fun H' c dx q s hc h1 h2 => ⟨c, rfl, ok H' c s hc ⟨dx, q, h1, h2⟩⟩) x dx hx hd hn
  have e : (fun (v : V) (H2 : Hp) => v = .non ∧ ∃ c, V.ref x = .ref c ∧ R c H2) = fun v H2 => v = .non ∧ R x H2 := by
    funext v H2
    apply propext
    constructor
    · rintro ⟨h, c, e, hr⟩; cases e; exact ⟨h, hr⟩
    · rintro ⟨h, hr⟩; exact ⟨h, x, rfl, hr⟩
  rw [e] at this
  exact this
def nums1 (n : Nat) : List Int := (List.range n).map fun (i : Nat) => 1 + (i : Int)
def sp_Book_init (K : PySem.W.Frag) : Sp := Sp4 fun x y w u H Q E => ∃ (b dx p : Addr) (rs : List (Addr × List Str)), x = .ref b ∧ u = .ref p ∧ H b = some (.ins (ga K "Book") dx []) ∧ H p = some (.tup (rs.map fun r => V.ref r.1)) ∧ (∀ r ∈ rs, IsCl K H r.1 r.2) ∧ (∀ r ∈ rs, ∀ z ∈ r.2, isLit z = true) ∧ (rs.flatMap (·.2)).length ≤ 900 ∧ rs.length ≤ 1000 ∧
  ((y = .non ∧ w = .int 0 ∧ (∀ n, szErr rs 24 12 = some n → ErrM K n H E) ∧ (szErr rs 24 12 = none → ∀ H' d, But b H H' → H d = none → IsBk K H' b d ((nums1 rs.length).zip rs) rs.length → Q .non H')) ∨
   (∃ (q : Addr) (ns : List Int) (g : Int), y = .ref q ∧ w = .int g ∧ H q = some (.lst (ns.map V.int)) ∧ ns.length = rs.length ∧ ns.Nodup ∧ ∀ H' d, But b H H' → H d = none → IsBk K H' b d (ns.zip rs) g → Q .non H'))
def N_Book_init : List PySem.Str := ["self", "numbers", "greatest", "clauses", "number", "clause"]
def t_Book_init (K : PySem.W.Frag) (W : WX) : TS := (tCut (tIfS (tTest (tOp (rIsP false) (tVar 1) (tC .non))) (tSeq (tDrop (tCallS (sp_check_sizes K) (WE W) (tCons (tVar 3) (tCons (Cl.tAtt [(ga K "Clause", Cl.aCon "LIMIT" (.int 6)), (ga K "Turning", Cl.aCon "LIMIT" (.int 12)), (ga K "Book", Cl.aCon "LIMIT" (.int 24))] (tVar 0)) (tCons (Cl.tAtt [(ga K "Book", Cl.aCon "NAMES" (.int 12))] (tVar 0)) tNil)))))
    (tSeq (tAsg (tLstRg (tRg2 (tC (.int 1)) (tOp (rAddP K) (tCB (rLenP K) (tCons (tVar 3) tNil)) (tC (.int 1))))) (gName 1))
    (tAsg (tCB (rLenP K) (tCons (tVar 3) tNil)) (gName 2)))) tNext)
    (tSeq (Cl.sAtt [ga K "Book"] (tVar 0) (tDc (ZiX.iZipM K (tCons (tVar 1) (tCons (tVar 3) tNil))) (gTup K 2 (gCons (gName 4) (gCons (gName 5) gNil))) tYes (tVar 4) (tVar 5) [4, 5]) "rows")
    (Cl.sAtt [ga K "Book"] (tVar 0) (tVar 2) "greatest")))
def spV_Book_init (K : PySem.W.Frag) : Sp := fun vs H Q E => ∃ v rest, vs = v :: rest ∧ rest.length ≤ sizeLine ∧ ∀ p, H p = none → sp_Book_init K (v :: ([.non, .int 0] ++ [V.ref p])) (upd H p (.tup rest)) Q E
def spK_Book_init (K : PySem.W.Frag) : List V → Sp := fun zs vs H Q E => ∃ v rest, vs = v :: rest ∧ rest.length ≤ sizeLine ∧ ∀ p, H p = none → sp_Book_init K (v :: (zs ++ [V.ref p])) (upd H p (.tup rest)) Q E
theorem nums1_len (n : Nat) : (nums1 n).length = n := by unfold nums1; rw [List.length_map, List.length_range]
theorem nums1_nodup (n : Nat) : (nums1 n).Nodup := by
  unfold nums1
  rw [List.nodup_iff_pairwise_ne, List.pairwise_map]
  exact (List.nodup_iff_pairwise_ne.mp List.nodup_range).imp fun h e => h (by omega)
theorem rg_nums (n : Nat) : rgV 1 ((n : Int) + 1) = (nums1 n).map V.int := by
  unfold rgV nums1
  rw [List.map_map, show ((n : Int) + 1 - 1).toNat = n by omega]
  rfl
/-- {n: c for n, c in zip(a list of numbers, a tuple)} -/
theorem dc_zip {K : PySem.W.Frag} {σ : L2.St} {Q : VK} {H1 : Hp} {a b : Addr} {v1 v2 : Nat} {ns : List Int} {rs : List (Addr × List Str)} (hv : v1 ≠ v2) (hs1 : v1 < σ.length) (hs2 : v2 < σ.length) (ha : H1 a = some (.lst (ns.map V.int))) (hb : H1 b = some (.tup (rs.map fun r => V.ref r.1))) (hl : ns.length = rs.length) (hn : ns.Nodup) (hm : rs.length ≤ 1000)
    (hq : ∀ D H', H1 D = none → Same H1 H' → H' D = some (.dK (kvB (ns.zip rs))) → Q (.ref D) H') :
    DcB (ZiX.ItM K a b) (gTup K 2 (gCons (gName v1) (gCons (gName v2) gNil))) tYes (tVar v1) (tVar v2) [v1, v2] σ Q H1 := by
  intro D hD
  refine ⟨fun i m H => m = ns.length - i ∧ i ≤ ns.length ∧ Same H1 H ∧ H D = some (.dK (kvB ((ns.zip rs).take i))), ⟨ns.length, by simp, Nat.zero_le _, same_new hD, by rw [upd_same]; rfl⟩, ?_⟩
  rintro i m H ⟨rfl, hi, sm, hd⟩
  have ha' := SqL.of (K := K) (sm _ _ ha)
  have hb' := SqT.of (K := K) (sm _ _ hb)
  by_cases hlt : i < ns.length
  · have hlt2 : i < rs.length := by omega
    have e1 : (ns.map V.int)[i]? = some (.int ns[i]) := by rw [List.getElem?_map, List.getElem?_eq_getElem hlt]; rfl
    have e2 : (rs.map fun r => V.ref r.1)[i]? = some (.ref rs[i].1) := by rw [List.getElem?_map, List.getElem?_eq_getElem hlt2]; rfl
    refine .inr ⟨⟨_, _, _, _, ha', hb', e1, e2⟩, fun H' => Same H1 H' ∧ H' D = some (.dK (kvB ((ns.zip rs).take (i + 1)))), fun H' p' => ⟨ns.length - (i + 1), by omega, rfl, hlt, p'.1, p'.2⟩, fun x H' y => ?_⟩
    obtain ⟨T, x', y', rfl, hT, rfl, f1, f2⟩ := y
    have g1 := f1 _ ha'
    have g2 := f2 _ hb'
    rw [e1] at g1
    rw [e2] at g2
    cases g1
    cases g2
    have hDT : D ≠ T := fun e => by rw [e, hT] at hd; cases hd
    have w0 : wipe σ [v1, v2] = (σ.set v2 none).set v1 none := rfl
    refine ⟨T, _, rfl, SqT.of upd_same, rfl, _, _, rfl, ?_⟩
    unfold gName
    refine ⟨_, _, rfl, ?_⟩
    refine ⟨rfl, ?_⟩
    have lset : ((σ.set v2 none).set v1 none).length = σ.length := by rw [List.length_set, List.length_set]
    have w1 : wipe ((((σ.set v2 none).set v1 none).set v1 (some (V.int ns[i]))).set v2 (some (V.ref rs[i].1))) [v1, v2] = (σ.set v2 none).set v1 none := by
      show ((((((σ.set v2 none).set v1 none).set v1 (some (V.int ns[i]))).set v2 (some (V.ref rs[i].1))).set v2 none)).set v1 none = _
      rw [List.set_set, List.set_set, List.set_comm _ _ hv, List.set_set, List.set_set]
    rw [w0]
    refine ⟨w1, ?_⟩
    unfold tYes
    dsimp only
    rw [if_pos rfl]
    refine ⟨.int ns[i], ?_, .ref rs[i].1, ?_, _, Sum.inl ns[i], rfl, by rw [upd_ne hDT]; exact hd, ?_, fun c o e => ?_, ?_⟩
    · rw [List.getElem?_set_ne (Ne.symm hv), List.getElem?_set_self (by rw [lset]; exact hs1)]
    · rw [List.getElem?_set_self (by rw [List.length_set, lset]; exact hs2)]
    · rw [kvB_len, List.length_take, sizeLine_eq]; omega
    · rw [upd_ne (ne_of_none e hD), upd_ne (ne_of_none (sm _ _ e) hT)]
      exact sm _ _ e
    · have hz : (ns.zip rs)[i]? = some (ns[i], rs[i]) := by rw [List.getElem?_eq_getElem (by rw [List.length_zip]; omega), List.getElem_zip]
      have e3 := putB_new (rows := (ns.zip rs).take i) (n := ns[i]) (c := rs[i].1) rs[i].2 (fun mem => by
        rw [List.map_take, List.map_fst_zip (by omega)] at mem
        obtain ⟨j, hj, ej⟩ := List.mem_iff_getElem.mp mem
        rw [List.length_take] at hj
        rw [List.getElem_take] at ej
        have := (List.getElem_inj (h₀ := by omega) (h₁ := hlt) hn).mp ej
        omega)
      rw [upd_same, e3, take_more hz]
  · have e : i = ns.length := by omega
    subst e
    refine .inl ⟨⟨_, _, ha', hb', .inl (by rw [List.length_map]; exact Nat.le_refl _)⟩, hq D H hD sm ?_⟩
    rw [hd, List.take_of_length_le (by rw [List.length_zip]; omega)]
theorem s_dcZ {K : PySem.W.Frag} {σ : L2.St} {H : Hp} {Q : VK} {ta : TA} {g : TG} {tt : TT} {tk tv : TE} {vs : List Nat} (h : ta σ H fun ws H1 => ∃ a b xs ys, ws = [.ref a, .ref b] ∧ SqL K H1 a xs ∧ SqT K H1 b ys ∧ DcB (ZiX.ItM K a b) g tt tk tv vs σ Q H1) : tDc (ZiX.iZipM K ta) g tt tk tv vs σ H Q := h
theorem pure_Book_init {K : PySem.W.Frag} {vs : List V} {H : Hp} {Q : VK} {E : XK} (h : sp_Book_init K vs H Q E) : t_Book_init K (fun cls d _ H => E cls d H) { nx := fun _ H' => Q .non H', rt := Q } (start N_Book_init vs) H := by
  obtain ⟨x, y, w, u, rfl, b, dx, p, rs, rfl, rfl, hb, hp, hc, lit, few, l1, hcase⟩ := h
  show t_Book_init K _ _ [some (.ref b), some y, some w, some (.ref p), none, none] H
  unfold t_Book_init
  -- the end: the dict, the two fields
  have fin : ∀ (H1 : Hp) (q : Addr) (ns : List Int) (g : Int), Same H H1 → H1 q = some (.lst (ns.map V.int)) → ns.length = rs.length → ns.Nodup → (∀ H' d, But b H H' → H d = none → IsBk K H' b d (ns.zip rs) g → Q .non H') →
      tSeq (Cl.sAtt [ga K "Book"] (tVar 0) (tDc (ZiX.iZipM K (tCons (tVar 1) (tCons (tVar 3) tNil))) (gTup K 2 (gCons (gName 4) (gCons (gName 5) gNil))) tYes (tVar 4) (tVar 5) [4, 5]) "rows") (Cl.sAtt [ga K "Book"] (tVar 0) (tVar 2) "greatest") { nx := fun _ H' => Q .non H', rt := Q } [some (.ref b), some (.ref q), some (.int g), some (.ref p), none, none] H1 := fun H1 q ns g s1 hq1 hl hn ok => by
    walk_at "ss"
    refine s_dcZ ?_
    walk_at "ss"
    refine ⟨q, p, _, _, rfl, SqL.of hq1, SqT.of (s1 _ _ hp), dc_zip (by decide) (by show 4 < 6; decide) (by show 5 < 6; decide) hq1 (s1 _ _ hp) hl hn l1 fun D H2 hD s2 hd => ?_⟩
    have S2 := s1.trans s2
    have hDb : D ≠ b := fun e => by rw [e, s1 _ _ hb] at hD; cases hD
    walk_at "ss"
    refine setA_go (by walk_at "mem") (S2 _ _ hb) (by decide) ?_
    walk_at "ss"
    refine setA_go (by walk_at "mem") upd_same (by show 1 < 1000; decide) ?_
    refine ok _ D (fun a o e n => ?_) (same_un s1 hD) ⟨⟨dx, upd_same⟩, ?_, fun r hr => ?_⟩
    · rw [upd_ne n, upd_ne n]
      exact S2 _ _ e
    · rw [upd_ne hDb, upd_ne hDb]
      exact hd
    · have hr2 : r.2 ∈ rs := List.of_mem_zip (show (r.1, r.2) ∈ ns.zip rs from hr) |>.2
      obtain ⟨dy, t, c1, c2⟩ := hc r.2 hr2
      have n1 : r.2.1 ≠ b := ne_fs c1 hb (by simp)
      have n2 : t ≠ b := ne_of c2 hb (fun z => by cases z)
      exact ⟨dy, t, by rw [upd_ne n1, upd_ne n1]; exact S2 _ _ c1, by rw [upd_ne n2, upd_ne n2]; exact S2 _ _ c2⟩
  rcases hcase with ⟨rfl, rfl, he, hq⟩ | ⟨q, ns, g, rfl, rfl, hq1, hl, hn, hq⟩
  · refine s_nocut ?_
    walk_at "ss"
    refine s_itT rfl ?_
    walk_at "ss"
    refine con_go "LIMIT" (.int 24) (by walk_at "mem") hb rfl ?_
    walk_at "ss"
    refine con_go "NAMES" (.int 12) (by walk_at "mem") hb rfl ?_
    walk_at "ss"
    refine ⟨_, _, _, rfl, p, rs, 24, 12, rfl, rfl, rfl, hp, hc, lit, few, l1, he, fun hz H1 s1 => ?_⟩
    walk_at "ss"
    refine s_lenT (s1 _ _ hp) ?_
    walk_at "ss"
    rw [List.length_map]
    refine ⟨_, _, rfl, rfl, RgOk.of_le (by decide) (by omega) (by decide) (by omega), fun q hqn => ?_⟩
    have s2 := same_new (o := HO.lst (rgV 1 ((rs.length : Int) + 1))) hqn
    have h2 := upd_same (H := H1) (a := q) (o := HO.lst (rgV 1 ((rs.length : Int) + 1)))
    generalize upd H1 q (HO.lst (rgV 1 ((rs.length : Int) + 1))) = H2 at s2 h2
    rw [rg_nums] at h2
    walk_at "ss"
    refine s_lenT (s2 _ _ (s1 _ _ hp)) ?_
    walk_at "ss"
    rw [List.length_map]
    exact fin H2 q _ _ (s1.trans s2) h2 (nums1_len _) (nums1_nodup _) (hq hz)
  · refine s_nocut ?_
    walk_at "ss"
    refine s_itF rfl ?_
    exact fin H q ns g (Same.refl _) hq1 hl hn hq
/-- Book(*clauses) -/
theorem book_new {K : PySem.W.Frag} {rs : List (Addr × List Str)} {H : Hp} {R : Addr → Hp → Prop} {E : XK} (hc : ∀ r ∈ rs, IsCl K H r.1 r.2) (lit : ∀ r ∈ rs, ∀ z ∈ r.2, isLit z = true) (few : (rs.flatMap (·.2)).length ≤ 900) (l1 : rs.length ≤ 1000) (he : ∀ n, szErr rs 24 12 = some n → ∀ H' d, Same H H' → H' d = some (.xd [("limit", .int n)]) → E (.ref (ga K "TooMany")) (some d) H')
    (ok : szErr rs 24 12 = none → ∀ H' b d, Same H H' → H b = none → H d = none → IsBk K H' b d ((nums1 rs.length).zip rs) rs.length → R b H') : ∀ x dx, H x = none → H dx = none → dx ≠ x → spV_Book_init K (V.ref x :: rs.map fun r => V.ref r.1) (upd (upd H dx (.own x)) x (.ins (ga K "Book") dx [])) (fun v H2 => v = .non ∧ R x H2) E := by
  intro x dx hx hd hn
  refine ⟨_, _, rfl, by rw [List.length_map, sizeLine_eq]; omega, fun p hp => ?_⟩
  have hpx : p ≠ x := fun e => by rw [e, upd_same] at hp; cases hp
  have hpd : p ≠ dx := fun e => by rw [e, upd_ne hn, upd_same] at hp; cases hp
  have hp0 : H p = none := by rw [upd_ne hpx, upd_ne hpd] at hp; exact hp
  have S : Same H (upd (upd (upd H dx (.own x)) x (.ins (ga K "Book") dx [])) p (.tup (rs.map fun r => V.ref r.1))) := fun a o e => by
    rw [upd_ne (ne_of_none e hp0), upd_ne (ne_of_none e hx), upd_ne (ne_of_none e hd)]
    exact e
  refine ⟨_, _, _, _, rfl, x, dx, p, rs, rfl, rfl, by rw [upd_ne (Ne.symm hpx), upd_same], upd_same, fun r hr => (hc r hr).keep S, lit, few, l1, .inl ⟨rfl, rfl, fun n hz H' e s' he' => he n hz H' e (S.trans s') he', fun hz H' d hB hdn hI => ⟨rfl, ok hz H' x d (fun a o e => hB a o (S a o e) (ne_of_none e hx)) hx (same_un S hdn) hI⟩⟩⟩
end Rd
namespace Rd
open PySem PySem.Spec PyProof.Rows L2 He Px
def sp_Book_next_number (K : PySem.W.Frag) : Sp := Sp1 fun x H Q _ => ∃ (b d : Addr) (rows : List BRow) (g : Int), x = .ref b ∧ IsBk K H b d rows g ∧ Q (.int (g + 1)) H
def N_Book_next_number : List PySem.Str := ["self"]
def t_Book_next_number (K : PySem.W.Frag) (W : WX) : TS := (tRet (tOp (rAddP K) (Cl.tAtt [(ga K "Book", Cl.aFld "greatest")] (tVar 0)) (tC (.int 1))))
theorem pure_Book_next_number {K : PySem.W.Frag} {vs : List V} {H : Hp} {Q : VK} {E : XK} {W : WX} (h : sp_Book_next_number K vs H Q E) : t_Book_next_number K W { nx := fun _ H' => Q .non H', rt := Q } (start N_Book_next_number vs) H := by
  obtain ⟨x, rfl, b, d, rows, g, rfl, B, hq⟩ := h
  show t_Book_next_number K W _ [some (.ref b)] H
  unfold t_Book_next_number
  obtain ⟨dx, o⟩ := B.ob
  walk_at "ss"
  refine fld_go "greatest" (by walk_at "mem") o rfl ?_
  walk_at "ss"
  exact hq
def sp_Clause_names (K : PySem.W.Frag) : Sp := Sp1 fun x H Q _ => ∃ (a : Addr) (ls : List Str), x = .ref a ∧ IsCl K H a ls ∧ ls.length ≤ 1000 ∧ (∀ z ∈ ls, isLit z = true) ∧ ∀ H' r, Same H H' → H r = none → H' r = some (.tup ((srt (ls.map bare)).map V.str)) → Q (.ref r) H'
def N_Clause_names : List PySem.Str := ["self"]
def t_Clause_names (K : PySem.W.Frag) (W : WX) : TS := (tRet (tCB (rTupleP K) (tCons (tCallS (sp_names_of K) (WE W) (tCons (Cl.tAtt [(ga K "Clause", Cl.aFld "literals")] (tVar 0)) tNil)) tNil)))
theorem pure_Clause_names {K : PySem.W.Frag} {vs : List V} {H : Hp} {Q : VK} {E : XK} {W : WX} (h : sp_Clause_names K vs H Q E) : t_Clause_names K W { nx := fun _ H' => Q .non H', rt := Q } (start N_Clause_names vs) H := by
  obtain ⟨x, rfl, a, ls, rfl, ⟨da, qa, a1, a2⟩, hl, lit, hq⟩ := h
  show t_Clause_names K W _ [some (.ref a)] H
  unfold t_Clause_names
  walk_at "ss"
  refine ⟨a, da, _, 0, _, _, rfl, rfl, a1, _, rfl, ?_⟩
  walk_at "ss"
  refine ⟨_, rfl, qa, ls, rfl, .inr (SqT.of a2), hl, lit, fun H1 r s1 hr h1 => ?_⟩
  walk_at "ss"
  exact s_tupL h1 fun t ht => hq _ t (s1.trans (same_new ht)) (same_un s1 ht) upd_same
def sp_Book_names (K : PySem.W.Frag) : Sp := Sp1 fun x H Q _ => ∃ (b d : Addr) (rows : List BRow) (g : Int), x = .ref b ∧ IsBk K H b d rows g ∧ Bok rows g ∧ ∀ H' q, Same H H' → H' q = some (.tup ((nmsO (rows.flatMap (·.2.2))).map V.str)) → Q (.ref q) H'
def N_Book_names : List PySem.Str := ["self"]
def t_Book_names (K : PySem.W.Frag) (W : WX) : TS := (tRet (tCB (rTupleP K) (tCons (tCallS (sp_names_in K) (WE W) (tCons (Cl.tListVals (Cl.tAtt [(ga K "Book", Cl.aFld "rows")] (tVar 0))) tNil)) tNil)))
theorem pure_Book_names {K : PySem.W.Frag} {vs : List V} {H : Hp} {Q : VK} {E : XK} {W : WX} (h : sp_Book_names K vs H Q E) : t_Book_names K W { nx := fun _ H' => Q .non H', rt := Q } (start N_Book_names vs) H := by
  obtain ⟨x, rfl, b, d, rows, g, rfl, B, ok, hq⟩ := h
  show t_Book_names K W _ [some (.ref b)] H
  unfold t_Book_names
  obtain ⟨dx, o⟩ := B.ob
  walk_at "ss"
  refine fld_go "rows" (by walk_at "mem") o rfl ?_
  refine ⟨d, _, rfl, B.di, fun l hl => ?_⟩
  have s1 := same_new (o := HO.lst ((kvB rows).map Prod.snd)) hl
  walk_at "ss"
  refine ⟨_, rfl, l, rows.map fun r => (r.2.1, r.2.2), rfl, .inl (by rw [← rowsC, ← kvB_vals]; exact SqL.of upd_same), fun r hr => ?_, fun r hr => ?_, by rw [rowsF]; have := ok.few; omega, fun H2 q s2 hq2 h2 => ?_⟩
  · obtain ⟨s, hs, rfl⟩ := List.mem_map.mp hr
    exact (B.cl s hs).keep s1
  · obtain ⟨s, hs, rfl⟩ := List.mem_map.mp hr
    exact ok.lit s hs
  · rw [rowsF] at h2
    walk_at "ss"
    exact s_tupL h2 fun t ht => hq _ t ((s1.trans s2).trans (same_new ht)) upd_same
def sp_Clause_len (K : PySem.W.Frag) : Sp := Sp1 fun x H Q _ => ∃ (a dx : Addr) (fs : List (Str × V)) (t : Addr) (xs : List V), x = .ref a ∧ H a = some (.ins (ga K "Clause") dx fs) ∧ fs.lookup ("literals" : Str) = some (V.ref t) ∧ H t = some (.tup xs) ∧ xs.length ≤ 1000000 ∧ Q (.int xs.length) H
def N_Clause_len : List PySem.Str := ["self"]
def t_Clause_len (K : PySem.W.Frag) (W : WX) : TS := (tRet (tCB (rLenP K) (tCons (Cl.tAtt [(ga K "Clause", Cl.aFld "literals")] (tVar 0)) tNil)))
theorem pure_Clause_len {K : PySem.W.Frag} {vs : List V} {H : Hp} {Q : VK} {E : XK} {W : WX} (h : sp_Clause_len K vs H Q E) : t_Clause_len K W { nx := fun _ H' => Q .non H', rt := Q } (start N_Clause_len vs) H := by
  obtain ⟨x, rfl, a, dx, fs, t, xs, rfl, ha, hf, ht, hn, hq⟩ := h
  show t_Clause_len K W _ [some (.ref a)] H
  unfold t_Clause_len
  walk_at "ss"
  refine ⟨a, dx, fs, 0, _, _, rfl, rfl, ha, _, hf, ?_⟩
  walk_at "ss"
  exact s_lenT ht hq
def sp_Clause_contains (K : PySem.W.Frag) : Sp := Sp2 fun x y H Q _ => ∃ (c : Addr) (ls : List Str) (z : Str), x = .ref c ∧ y = .str z ∧ IsCl K H c ls ∧ Q (.bl (decide (z ∈ ls))) H
def N_Clause_contains : List PySem.Str := ["self", "literal"]
def t_Clause_contains (K : PySem.W.Frag) (W : WX) : TS := (tRet (tOp (rInP K false) (tVar 1) (Cl.tAtt [(ga K "Clause", Cl.aFld "literals")] (tVar 0))))
theorem pure_Clause_contains {K : PySem.W.Frag} {vs : List V} {H : Hp} {Q : VK} {E : XK} {W : WX} (h : sp_Clause_contains K vs H Q E) : t_Clause_contains K W { nx := fun _ H' => Q .non H', rt := Q } (start N_Clause_contains vs) H := by
  obtain ⟨x, y, rfl, c, ls, z, rfl, rfl, ⟨dx, q, h1, h2⟩, hq⟩ := h
  show t_Clause_contains K W _ [some (.ref c), some (.str z)] H
  unfold t_Clause_contains
  walk_at "ss"
  refine ⟨c, dx, _, 0, _, _, rfl, rfl, h1, _, rfl, ?_⟩
  exact s_inST h2 hq
def sp_Turning_len (K : PySem.W.Frag) : Sp := Sp1 fun x H Q _ => ∃ (a dx : Addr) (fs : List (Str × V)) (t : Addr) (xs : List V), x = .ref a ∧ H a = some (.ins (ga K "Turning") dx fs) ∧ fs.lookup ("turned" : Str) = some (V.ref t) ∧ H t = some (.tup xs) ∧ xs.length ≤ 1000000 ∧ Q (.int xs.length) H
def N_Turning_len : List PySem.Str := ["self"]
def t_Turning_len (K : PySem.W.Frag) (W : WX) : TS := (tRet (tCB (rLenP K) (tCons (Cl.tAtt [(ga K "Turning", Cl.aFld "turned")] (tVar 0)) tNil)))
theorem pure_Turning_len {K : PySem.W.Frag} {vs : List V} {H : Hp} {Q : VK} {E : XK} {W : WX} (h : sp_Turning_len K vs H Q E) : t_Turning_len K W { nx := fun _ H' => Q .non H', rt := Q } (start N_Turning_len vs) H := by
  obtain ⟨x, rfl, a, dx, fs, t, xs, rfl, ha, hf, ht, hn, hq⟩ := h
  show t_Turning_len K W _ [some (.ref a)] H
  unfold t_Turning_len
  walk_at "ss"
  refine ⟨a, dx, fs, 0, _, _, rfl, rfl, ha, _, hf, ?_⟩
  walk_at "ss"
  exact s_lenT ht hq
def sp_Turning_contains (K : PySem.W.Frag) : Sp := Sp2 fun x y H Q _ => ∃ (c : Addr) (ls : List Str) (z : Str), x = .ref c ∧ y = .str z ∧ IsTu K H c ls ∧ Q (.bl (decide (z ∈ ls))) H
def N_Turning_contains : List PySem.Str := ["self", "name"]
def t_Turning_contains (K : PySem.W.Frag) (W : WX) : TS := (tRet (tOp (rInP K false) (tVar 1) (Cl.tAtt [(ga K "Turning", Cl.aFld "turned")] (tVar 0))))
theorem pure_Turning_contains {K : PySem.W.Frag} {vs : List V} {H : Hp} {Q : VK} {E : XK} {W : WX} (h : sp_Turning_contains K vs H Q E) : t_Turning_contains K W { nx := fun _ H' => Q .non H', rt := Q } (start N_Turning_contains vs) H := by
  obtain ⟨x, y, rfl, c, ls, z, rfl, rfl, ⟨dx, q, h1, h2⟩, hq⟩ := h
  show t_Turning_contains K W _ [some (.ref c), some (.str z)] H
  unfold t_Turning_contains
  walk_at "ss"
  refine ⟨c, dx, _, 0, _, _, rfl, rfl, h1, _, rfl, ?_⟩
  exact s_inST h2 hq
def sp_Turning_getitem (K : PySem.W.Frag) : Sp := Sp2 fun x y H Q E => ∃ (a : Addr) (ns : List Str) (z : Str), x = .ref a ∧ y = .str z ∧ IsTu K H a ns ∧ z.length ≤ 1000000 ∧ (isNm z = true → ∀ H', Same H H' → Q (.bl (decide (z ∈ ns))) H') ∧ (isNm z = false → ∀ H' d, Same H H' → H' d = some (.xd [("text", .str z)]) → E (.ref (ga K "BadName")) (some d) H')
def N_Turning_getitem : List PySem.Str := ["self", "name"]
def t_Turning_getitem (K : PySem.W.Frag) (W : WX) : TS := (tCut (tIfS (tNot (tB (tCallS (sp_is_name K) (WE W) (tCons (tVar 1) tNil)))) (tRaiseE (ga K "BadName") "text" W (tCons (tVar 1) tNil)) tNext)
    (tRet (tOp (rInP K false) (tVar 1) (Cl.tAtt [(ga K "Turning", Cl.aFld "turned")] (tVar 0)))))
theorem pure_Turning_getitem {K : PySem.W.Frag} {vs : List V} {H : Hp} {Q : VK} {E : XK} (h : sp_Turning_getitem K vs H Q E) : t_Turning_getitem K (fun cls d _ H => E cls d H) { nx := fun _ H' => Q .non H', rt := Q } (start N_Turning_getitem vs) H := by
  obtain ⟨x, y, rfl, a, ns, z, rfl, rfl, ⟨da, qa, a1, a2⟩, hz, hq, he⟩ := h
  show t_Turning_getitem K _ _ [some (.ref a), some (.str z)] H
  unfold t_Turning_getitem
  refine s_nocut ?_
  walk_at "ss"
  refine ⟨_, rfl, z, rfl, hz, fun H1 s1 => ?_⟩
  walk_at "ss"
  cases hl : isNm z with
  | false =>
    refine s_itT rfl ?_
    exact ⟨_, rfl, _, rfl, fun d hd => he hl _ d (s1.trans (same_new hd)) upd_same⟩
  | true =>
    refine s_itF rfl ?_
    walk_at "ss"
    refine ⟨a, da, _, 0, _, _, rfl, rfl, s1 _ _ a1, _, rfl, ?_⟩
    exact s_inST (s1 _ _ a2) (hq hl H1 s1)
def sp_Book_len (K : PySem.W.Frag) : Sp := Sp1 fun x H Q _ => ∃ (a dx : Addr) (fs : List (Str × V)) (d : Addr) (kvs : List (Key × V)), x = .ref a ∧ H a = some (.ins (ga K "Book") dx fs) ∧ fs.lookup ("rows" : Str) = some (.ref d) ∧ Rd H d (.dK kvs) ∧ kvs.length ≤ 1000000 ∧ Q (.int kvs.length) H
def N_Book_len : List PySem.Str := ["self"]
def t_Book_len (K : PySem.W.Frag) (W : WX) : TS := (tRet (tCB (Cl.rLenR K) (tCons (Cl.tAtt [(ga K "Book", Cl.aFld "rows")] (tVar 0)) tNil)))
theorem pure_Book_len {K : PySem.W.Frag} {vs : List V} {H : Hp} {Q : VK} {E : XK} {W : WX} (h : sp_Book_len K vs H Q E) : t_Book_len K W { nx := fun _ H' => Q .non H', rt := Q } (start N_Book_len vs) H := by
  obtain ⟨x, rfl, a, dx, fs, d, kvs, rfl, ha, hf, hd, _, hq⟩ := h
  show t_Book_len K W _ [some (.ref a)] H
  unfold t_Book_len
  walk_at "ss"
  refine fld_go "rows" (by walk_at "mem") ha hf ?_
  walk_at "ss"
  exact .inr ⟨d, kvs, rfl, hd, hq⟩
def sp_Book_contains (K : PySem.W.Frag) : Sp := Sp2 fun x y H Q _ => ∃ (b d : Addr) (rows : List BRow) (g n : Int), x = .ref b ∧ y = .int n ∧ IsBk K H b d rows g ∧ Q (.bl (decide (n ∈ rows.map (·.1)))) H
def N_Book_contains : List PySem.Str := ["self", "number"]
def t_Book_contains (K : PySem.W.Frag) (W : WX) : TS := (tRet (tOp (rInP K false) (tVar 1) (Cl.tAtt [(ga K "Book", Cl.aFld "rows")] (tVar 0))))
theorem pure_Book_contains {K : PySem.W.Frag} {vs : List V} {H : Hp} {Q : VK} {E : XK} {W : WX} (h : sp_Book_contains K vs H Q E) : t_Book_contains K W { nx := fun _ H' => Q .non H', rt := Q } (start N_Book_contains vs) H := by
  obtain ⟨x, y, rfl, b, d, rows, g, n, rfl, rfl, B, hq⟩ := h
  show t_Book_contains K _ _ [some (.ref b), some (.int n)] H
  unfold t_Book_contains
  obtain ⟨dx, o⟩ := id B.ob
  walk_at "ss"
  refine fld_go "rows" (by walk_at "mem") o rfl ?_
  exact s_inB B.di hq
def sp_Book_getitem (K : PySem.W.Frag) : Sp := Sp2 fun x y H Q E => ∃ (b d : Addr) (rows : List BRow) (g n : Int), x = .ref b ∧ y = .int n ∧ IsBk K H b d rows g ∧ (n ∉ rows.map (·.1) → ErrN K n H E) ∧ (∀ r, rowAt rows n = some r → Q (.ref r.2.1) H)
def N_Book_getitem : List PySem.Str := ["self", "number"]
def t_Book_getitem (K : PySem.W.Frag) (W : WX) : TS := (tCut (tIfS (tTest (tOp (rInP K true) (tVar 1) (Cl.tAtt [(ga K "Book", Cl.aFld "rows")] (tVar 0)))) (tRaiseE (ga K "NoClause") "number" W (tCons (tVar 1) tNil)) tNext)
    (tRet (tDGet (Cl.tAtt [(ga K "Book", Cl.aFld "rows")] (tVar 0)) (tVar 1))))
theorem pure_Book_getitem {K : PySem.W.Frag} {vs : List V} {H : Hp} {Q : VK} {E : XK} (h : sp_Book_getitem K vs H Q E) : t_Book_getitem K (fun cls d _ H => E cls d H) { nx := fun _ H' => Q .non H', rt := Q } (start N_Book_getitem vs) H := by
  obtain ⟨x, y, rfl, b, d, rows, g, n, rfl, rfl, B, he, hq⟩ := h
  show t_Book_getitem K _ _ [some (.ref b), some (.int n)] H
  unfold t_Book_getitem
  obtain ⟨dx, o⟩ := id B.ob
  refine s_nocut ?_
  walk_at "ss"
  refine fld_go "rows" (by walk_at "mem") o rfl ?_
  refine s_inB B.di ?_
  walk_at "ss"
  by_cases hn : n ∈ rows.map (·.1)
  · refine s_itF (by rw [decide_eq_true hn]; rfl) ?_
    obtain ⟨r, hr⟩ := rowAt_some hn
    walk_at "ss"
    refine fld_go "rows" (by walk_at "mem") o rfl ?_
    walk_at "ss"
    exact ⟨d, .ref r.2.1, rfl, by have h := DGet.k (k := Sum.inl n) B.di; rw [valB] at h; unfold rowAt at hr; rw [hr] at h; exact h, hq r hr⟩
  · refine s_itT (by rw [decide_eq_false hn]; rfl) ?_
    exact ⟨_, rfl, _, rfl, fun e he' => he hn _ e (same_new he') upd_same⟩
def sp_Book_drop (K : PySem.W.Frag) : Sp := Sp2 fun x y H Q E => ∃ (b d : Addr) (rows : List BRow) (g n : Int), x = .ref b ∧ y = .int n ∧ IsBk K H b d rows g ∧ (n ∉ rows.map (·.1) → ErrN K n H E) ∧ (∀ r, rowAt rows n = some r → ∀ H', Chg b d H H' → IsBk K H' b d (rows.filter fun r => decide (r.1 ≠ n)) g → IsCl K H' r.2.1 r.2.2 → Q (.ref r.2.1) H')
def N_Book_drop : List PySem.Str := ["self", "number", "clause"]
def t_Book_drop (K : PySem.W.Frag) (W : WX) : TS := (tCut (tIfS (tTest (tOp (rInP K true) (tVar 1) (Cl.tAtt [(ga K "Book", Cl.aFld "rows")] (tVar 0)))) (tRaiseE (ga K "NoClause") "number" W (tCons (tVar 1) tNil)) tNext)
    (tSeq (tAsg (tDGet (Cl.tAtt [(ga K "Book", Cl.aFld "rows")] (tVar 0)) (tVar 1)) (gName 2))
    (tSeq (sDDel (Cl.tAtt [(ga K "Book", Cl.aFld "rows")] (tVar 0)) (tVar 1))
    (tRet (tVar 2)))))
theorem pure_Book_drop {K : PySem.W.Frag} {vs : List V} {H : Hp} {Q : VK} {E : XK} (h : sp_Book_drop K vs H Q E) : t_Book_drop K (fun cls d _ H => E cls d H) { nx := fun _ H' => Q .non H', rt := Q } (start N_Book_drop vs) H := by
  obtain ⟨x, y, rfl, b, d, rows, g, n, rfl, rfl, B, he, hq⟩ := h
  show t_Book_drop K _ _ [some (.ref b), some (.int n), none] H
  unfold t_Book_drop
  obtain ⟨dx, o⟩ := id B.ob
  refine s_nocut ?_
  walk_at "ss"
  refine fld_go "rows" (by walk_at "mem") o rfl ?_
  refine s_inB B.di ?_
  walk_at "ss"
  by_cases hn : n ∈ rows.map (·.1)
  · refine s_itF (by rw [decide_eq_true hn]; rfl) ?_
    obtain ⟨r, hr⟩ := rowAt_some hn
    walk_at "ss"
    refine fld_go "rows" (by walk_at "mem") o rfl ?_
    walk_at "ss"
    refine ⟨d, .ref r.2.1, rfl, by have h := DGet.k (k := Sum.inl n) B.di; rw [valB] at h; unfold rowAt at hr; rw [hr] at h; exact h, ?_⟩
    walk_at "ss"
    refine fld_go "rows" (by walk_at "mem") o rfl ?_
    walk_at "ss"
    refine ⟨d, _, Sum.inl n, rfl, B.di, rfl, by rw [hasB, decide_eq_true hn], ?_⟩
    rw [dropB]
    walk_at "ss"
    have k1 : Chg b d H (upd H d (.dK (kvB (rows.filter fun r => decide (r.1 ≠ n))))) := chg_d
    exact hq r hr _ k1 ⟨⟨dx, by rw [upd_ne B.ne]; exact o⟩, upd_same, fun s hs => (B.cl s (List.mem_filter.mp hs).1).chg B k1⟩ ((B.cl r (rowAt_mem hr).1).chg B k1)
  · refine s_itT (by rw [decide_eq_false hn]; rfl) ?_
    exact ⟨_, rfl, _, rfl, fun e he' => he hn _ e (same_new he') upd_same⟩
def sp_Book_isub (K : PySem.W.Frag) : Sp := Sp2 fun x y H Q E => ∃ (b d : Addr) (rows : List BRow) (g n : Int), x = .ref b ∧ y = .int n ∧ IsBk K H b d rows g ∧ (n ∉ rows.map (·.1) → ErrN K n H E) ∧ (n ∈ rows.map (·.1) → ∀ H', Chg b d H H' → IsBk K H' b d (rows.filter fun r => decide (r.1 ≠ n)) g → Q (.ref b) H')
def N_Book_isub : List PySem.Str := ["self", "number"]
def t_Book_isub (K : PySem.W.Frag) (W : WX) : TS := (tSeq (tDrop (Cl.tMethO [(ga K "Book", sp_Book_drop K)] "drop" (WE W) (tVar 0) (tCons (tVar 1) tNil)))
    (tRet (tVar 0)))
theorem pure_Book_isub {K : PySem.W.Frag} {vs : List V} {H : Hp} {Q : VK} {E : XK} (h : sp_Book_isub K vs H Q E) : t_Book_isub K (fun cls d _ H => E cls d H) { nx := fun _ H' => Q .non H', rt := Q } (start N_Book_isub vs) H := by
  obtain ⟨x, y, rfl, b, d, rows, g, n, rfl, rfl, B, he, hq⟩ := h
  show t_Book_isub K _ _ [some (.ref b), some (.int n)] H
  unfold t_Book_isub
  obtain ⟨dx, o⟩ := id B.ob
  walk_at "ss"
  refine meth_go (sp_Book_drop K) (by walk_at "mem") o rfl ?_
  walk_at "ss"
  refine ⟨_, _, rfl, b, d, rows, g, n, rfl, rfl, B, he, fun r hr H1 k1 B1 _ => ?_⟩
  walk_at "ss"
  exact hq (by obtain ⟨h1, h2⟩ := rowAt_mem hr; exact List.mem_map.mpr ⟨r, h1, h2⟩) H1 k1 B1
def sp_Book_need_room (K : PySem.W.Frag) : Sp := Sp2 fun x y H Q E => ∃ (b d c : Addr) (rows : List BRow) (g : Int) (ls : List Str), x = .ref b ∧ y = .ref c ∧ IsBk K H b d rows g ∧ Bok rows g ∧ IsCl K H c ls ∧ (∀ z ∈ ls, isLit z = true) ∧ ls.length ≤ 20 ∧ (∀ n, roomErr rows ls = some n → ErrM K n H E) ∧ (roomErr rows ls = none → ∀ H', Same H H' → Q .non H')
def N_Book_need_room : List PySem.Str := ["self", "clause"]
def t_Book_need_room (K : PySem.W.Frag) (W : WX) : TS := (tCut (tIfS (tTest (tOp rGeP (tCB (rLenP K) (tCons (Cl.tAtt [(ga K "Book", Cl.aFld "rows")] (tVar 0)) tNil)) (Cl.tAtt [(ga K "Clause", Cl.aCon "LIMIT" (.int 6)), (ga K "Turning", Cl.aCon "LIMIT" (.int 12)), (ga K "Book", Cl.aCon "LIMIT" (.int 24))] (tVar 0)))) (tRaiseE (ga K "TooMany") "limit" W (tCons (Cl.tAtt [(ga K "Clause", Cl.aCon "LIMIT" (.int 6)), (ga K "Turning", Cl.aCon "LIMIT" (.int 12)), (ga K "Book", Cl.aCon "LIMIT" (.int 24))] (tVar 0)) tNil)) tNext)
    (tIfS (tTest (tOp rGtP (tCB (rLenP K) (tCons (tCallS (sp_names_in K) (WE W) (tCons (tOp (rAddP K) (Cl.tListVals (Cl.tAtt [(ga K "Book", Cl.aFld "rows")] (tVar 0))) (tLst (tCons (tVar 1) tNil))) tNil)) tNil)) (Cl.tAtt [(ga K "Book", Cl.aCon "NAMES" (.int 12))] (tVar 0)))) (tRaiseE (ga K "TooMany") "limit" W (tCons (Cl.tAtt [(ga K "Book", Cl.aCon "NAMES" (.int 12))] (tVar 0)) tNil)) tNext))
theorem pure_Book_need_room {K : PySem.W.Frag} {vs : List V} {H : Hp} {Q : VK} {E : XK} (h : sp_Book_need_room K vs H Q E) : t_Book_need_room K (fun cls d _ H => E cls d H) { nx := fun _ H' => Q .non H', rt := Q } (start N_Book_need_room vs) H := by
  obtain ⟨x, y, rfl, b, d, c, rows, g, ls, rfl, rfl, B, ok, C, lit, l20, he, hq⟩ := h
  show t_Book_need_room K _ _ [some (.ref b), some (.ref c)] H
  unfold t_Book_need_room
  obtain ⟨dx, o⟩ := B.ob
  refine s_nocut ?_
  walk_at "ss"
  refine fld_go "rows" (by walk_at "mem") o rfl ?_
  walk_at "ss"
  refine .inr ⟨_, B.di, ?_⟩
  walk_at "ss"
  refine con_go "LIMIT" (.int 24) (by walk_at "mem") o rfl ?_
  walk_at "ss"
  rw [kvB_len]
  refine s_itd (fun h24 => ?_) (fun h24 => ?_)
  · refine s_raise ?_
    walk_at "ss"
    refine con_go "LIMIT" (.int 24) (by walk_at "mem") o rfl ?_
    exact ⟨_, rfl, fun e he' => he 24 (by unfold roomErr; rw [if_pos (by omega)]) _ e (same_new he') upd_same⟩
  have r0 : roomErr rows ls = if 12 < (nmsO (rows.flatMap (·.2.2) ++ ls)).length then some 12 else none := by unfold roomErr; rw [if_neg (by omega)]
  rw [r0] at he hq
  walk_at "ss"
  refine fld_go "rows" (by walk_at "mem") o rfl ?_
  refine ⟨d, _, rfl, B.di, fun l hl => ?_⟩
  have s1 := same_new (o := HO.lst ((kvB rows).map Prod.snd)) hl
  have h1 := upd_same (H := H) (a := l) (o := HO.lst ((kvB rows).map Prod.snd))
  generalize upd H l (HO.lst ((kvB rows).map Prod.snd)) = H1 at s1 h1
  walk_at "ss"
  refine ⟨by show 1 ≤ sizeLine; rw [sizeLine_eq]; decide, fun m hm => ?_⟩
  have s2 := same_new (o := HO.lst [.ref c]) hm
  have h2 := upd_same (H := H1) (a := m) (o := HO.lst [V.ref c])
  have h12 := s2 _ _ h1
  generalize upd H1 m (HO.lst [V.ref c]) = H2 at s2 h2 h12
  have lr := ok.len
  refine .inl ⟨_, _, _, _, rfl, rfl, h12, h2, ?_, fun q hq3 => ?_⟩
  · rw [kvB_vals, List.length_map, sizeLine_eq]; show rows.length + 1 ≤ _; omega
  have s3 := same_new (o := HO.lst ((kvB rows).map Prod.snd ++ [.ref c])) hq3
  have S3 := (s1.trans s2).trans s3
  walk_at "ss"
  have eF : (rows.map (fun r => ((r.2.1, r.2.2) : Addr × List Str)) ++ [(c, ls)]).flatMap (·.2) = rows.flatMap (·.2.2) ++ ls := by
    rw [List.flatMap_append, rowsF]
    simp
  refine ⟨_, rfl, q, (rows.map fun r => (r.2.1, r.2.2)) ++ [(c, ls)], rfl, .inl (by rw [List.map_append, ← rowsC, ← kvB_vals]; exact SqL.of upd_same), fun r hr => ?_, fun r hr => ?_, ?_, fun H4 t s4 ht4 h4 => ?_⟩
  · rcases List.mem_append.mp hr with hr | hr
    · obtain ⟨s, hs, rfl⟩ := List.mem_map.mp hr
      exact (B.cl s hs).keep S3
    · have e : r = (c, ls) := by simpa using hr
      subst e
      exact C.keep S3
  · rcases List.mem_append.mp hr with hr | hr
    · obtain ⟨s, hs, rfl⟩ := List.mem_map.mp hr
      exact ok.lit s hs
    · have e : r = (c, ls) := by simpa using hr
      subst e
      exact lit
  · rw [eF, List.length_append]
    have := ok.few
    omega
  rw [eF] at h4
  have S4 := S3.trans s4
  walk_at "ss"
  refine s_lenL h4 ?_
  walk_at "ss"
  refine con_go "NAMES" (.int 12) (by walk_at "mem") (S4 _ _ o) rfl ?_
  walk_at "ss"
  rw [List.length_map]
  refine s_itd (fun h12 => ?_) (fun h12 => ?_)
  · refine s_raise ?_
    walk_at "ss"
    refine con_go "NAMES" (.int 12) (by walk_at "mem") (S4 _ _ o) rfl ?_
    exact ⟨_, rfl, fun e he' => he 12 (by rw [if_pos (by omega)]) _ e (S4.trans (same_new he')) upd_same⟩
  · walk_at "ss"
    exact hq (by rw [if_neg (by omega)]) H4 S4
def sp_Book_put (K : PySem.W.Frag) : Sp := Sp2 fun x y H Q E => ∃ (b d c : Addr) (rows : List BRow) (g : Int) (ls : List Str), x = .ref b ∧ y = .ref c ∧ IsBk K H b d rows g ∧ Bok rows g ∧ IsCl K H c ls ∧ (∀ z ∈ ls, isLit z = true) ∧ ls.length ≤ 20 ∧ (∀ n, roomErr rows ls = some n → ErrM K n H E) ∧ (roomErr rows ls = none → 999 ≤ g → ErrM K 999 H E) ∧ (roomErr rows ls = none → g < 999 → ∀ H', Chg b d H H' → IsBk K H' b d (rows ++ [(g + 1, c, ls)]) (g + 1) → Q (.int (g + 1)) H')
def N_Book_put : List PySem.Str := ["self", "clause"]
def t_Book_put (K : PySem.W.Frag) (W : WX) : TS := (tSeq (tDrop (Cl.tMethO [(ga K "Book", sp_Book_need_room K)] "need_room" (WE W) (tVar 0) (tCons (tVar 1) tNil)))
    (tCut (tIfS (tTest (tOp rGeP (Cl.tAtt [(ga K "Book", Cl.aFld "greatest")] (tVar 0)) (Cl.tAtt [(ga K "Book", Cl.aCon "NUMBERS" (.int 999))] (tVar 0)))) (tRaiseE (ga K "TooMany") "limit" W (tCons (Cl.tAtt [(ga K "Book", Cl.aCon "NUMBERS" (.int 999))] (tVar 0)) tNil)) tNext)
    (tSeq (Cl.sAttA [ga K "Book"] (tVar 0) (tC (.int 1)) (rIn0 fun i j => .int (i + j)) "greatest")
    (tSeq (tAsg (tVar 1) (gSub (Cl.tAtt [(ga K "Book", Cl.aFld "rows")] (tVar 0)) (Cl.tAtt [(ga K "Book", Cl.aFld "greatest")] (tVar 0)) rSetP))
    (tRet (Cl.tAtt [(ga K "Book", Cl.aFld "greatest")] (tVar 0)))))))
theorem pure_Book_put {K : PySem.W.Frag} {vs : List V} {H : Hp} {Q : VK} {E : XK} (h : sp_Book_put K vs H Q E) : t_Book_put K (fun cls d _ H => E cls d H) { nx := fun _ H' => Q .non H', rt := Q } (start N_Book_put vs) H := by
  obtain ⟨x, y, rfl, b, d, c, rows, g, ls, rfl, rfl, B, ok, C, lit, l20, he, he9, hq⟩ := h
  show t_Book_put K _ _ [some (.ref b), some (.ref c)] H
  unfold t_Book_put
  obtain ⟨dx, o⟩ := id B.ob
  walk_at "ss"
  refine meth_go (sp_Book_need_room K) (by walk_at "mem") o rfl ?_
  walk_at "ss"
  refine ⟨_, _, rfl, b, d, c, rows, g, ls, rfl, rfl, B, ok, C, lit, l20, he, fun hr H1 s1 => ?_⟩
  have B1 := B.keep s1
  have o1 := s1 _ _ o
  walk_at "ss"
  refine s_nocut ?_
  walk_at "ss"
  refine fld_go "greatest" (by walk_at "mem") o1 rfl ?_
  walk_at "ss"
  refine con_go "NUMBERS" (.int 999) (by walk_at "mem") o1 rfl ?_
  walk_at "ss"
  refine s_itd (fun h9 => ?_) (fun h9 => ?_)
  · refine s_raise ?_
    walk_at "ss"
    refine con_go "NUMBERS" (.int 999) (by walk_at "mem") o1 rfl ?_
    exact ⟨_, rfl, fun e he' => he9 hr h9 _ e (s1.trans (same_new he')) upd_same⟩
  walk_at "ss"
  refine ⟨b, _, dx, _, .int g, rfl, List.mem_singleton.mpr rfl, o1, rfl, ?_⟩
  walk_at "ss"
  refine ⟨dx, _, o1, by show 2 < 1000; decide, ?_⟩
  have hne := B.ne
  have di1 : upd H1 b (.ins (ga K "Book") dx (putF "greatest" (.int (g + 1)) [("rows", .ref d), ("greatest", .int g)])) d = some (.dK (kvB rows)) := by rw [upd_ne hne.symm]; exact B1.di
  have o2 : upd H1 b (.ins (ga K "Book") dx (putF "greatest" (.int (g + 1)) [("rows", .ref d), ("greatest", .int g)])) b = some (.ins (ga K "Book") dx [("rows", .ref d), ("greatest", .int (g + 1))]) := upd_same
  have k2 : Chg b d H1 (upd H1 b (.ins (ga K "Book") dx (putF "greatest" (.int (g + 1)) [("rows", .ref d), ("greatest", .int g)]))) := chg_b
  generalize upd H1 b (.ins (ga K "Book") dx (putF "greatest" (.int (g + 1)) [("rows", .ref d), ("greatest", .int g)])) = H2 at di1 o2 k2
  walk_at "ss"
  refine fld_go "rows" (by walk_at "mem") o2 rfl ?_
  walk_at "ss"
  refine fld_go "greatest" (by walk_at "mem") o2 rfl ?_
  refine .inr ⟨_, DPut.k (k := Sum.inl (g + 1)) di1 (by rw [kvB_len, sizeLine_eq]; have := ok.len; omega), ?_⟩
  rw [putB_new ls ok.fresh]
  have K3 : Chg b d H (upd H2 d (.dK (kvB (rows ++ [(g + 1, c, ls)])))) := (Same.chg s1).trans (k2.trans chg_d)
  have o3 : upd H2 d (.dK (kvB (rows ++ [(g + 1, c, ls)]))) b = some (.ins (ga K "Book") dx [("rows", .ref d), ("greatest", .int (g + 1))]) := by rw [upd_ne hne]; exact o2
  walk_at "ss"
  refine fld_go "greatest" (by walk_at "mem") o3 rfl ?_
  refine hq hr (by omega) _ K3 ⟨⟨dx, o3⟩, upd_same, fun r hr => ?_⟩
  rcases List.mem_append.mp hr with hr | hr
  · exact (B.cl r hr).chg B K3
  · have e : r = (g + 1, c, ls) := by simpa using hr
    subst e
    exact C.chg B K3
def sp_Book_iadd (K : PySem.W.Frag) : Sp := Sp2 fun x y H Q E => ∃ (b d c : Addr) (rows : List BRow) (g : Int) (ls : List Str), x = .ref b ∧ y = .ref c ∧ IsBk K H b d rows g ∧ Bok rows g ∧ IsCl K H c ls ∧ (∀ z ∈ ls, isLit z = true) ∧ ls.length ≤ 20 ∧ (∀ n, roomErr rows ls = some n → ErrM K n H E) ∧ (roomErr rows ls = none → 999 ≤ g → ErrM K 999 H E) ∧ (roomErr rows ls = none → g < 999 → ∀ H', Chg b d H H' → IsBk K H' b d (rows ++ [(g + 1, c, ls)]) (g + 1) → Q (.ref b) H')
def N_Book_iadd : List PySem.Str := ["self", "clause"]
def t_Book_iadd (K : PySem.W.Frag) (W : WX) : TS := (tSeq (tDrop (Cl.tMethO [(ga K "Book", sp_Book_put K)] "put" (WE W) (tVar 0) (tCons (tVar 1) tNil)))
    (tRet (tVar 0)))
theorem pure_Book_iadd {K : PySem.W.Frag} {vs : List V} {H : Hp} {Q : VK} {E : XK} (h : sp_Book_iadd K vs H Q E) : t_Book_iadd K (fun cls d _ H => E cls d H) { nx := fun _ H' => Q .non H', rt := Q } (start N_Book_iadd vs) H := by
  obtain ⟨x, y, rfl, b, d, c, rows, g, ls, rfl, rfl, B, ok, C, lit, l20, he, he9, hq⟩ := h
  show t_Book_iadd K _ _ [some (.ref b), some (.ref c)] H
  unfold t_Book_iadd
  obtain ⟨dx, o⟩ := id B.ob
  walk_at "ss"
  refine meth_go (sp_Book_put K) (by walk_at "mem") o rfl ?_
  walk_at "ss"
  refine ⟨_, _, rfl, b, d, c, rows, g, ls, rfl, rfl, B, ok, C, lit, l20, he, he9, fun h1 h2 H1 k1 B1 => ?_⟩
  walk_at "ss"
  exact hq h1 h2 H1 k1 B1
end Rd
namespace Rd
open PySem PySem.Spec PyProof.Rows L2 He Px
theorem dash_bare {n : Str} {r : Int} (hn : isNm n = true) (h0 : 0 ≤ r) (h1 : r < 2) : ∃ d : Str, atI [V.str "", V.str "-"] r = some (.str d) ∧ d.length ≤ 1 ∧ isLit (d ++ n) = true ∧ bare (d ++ n) = n := by
  rcases (show r = 0 ∨ r = 1 by omega) with rfl | rfl
  · have e : ("" : Str) ++ n = n := str_ext (by rw [app_toList]; rfl)
    exact ⟨"", rfl, by decide, by rw [e]; exact nm_lit hn, by rw [e]; exact nm_bare hn⟩
  · exact ⟨"-", rfl, by decide, neg_lit hn, bare_app n⟩
def sp_law_row (K : PySem.W.Frag) : Sp := Sp3 fun x y w H Q _ => ∃ (a p : Addr) (ns : List Str) (m : Int), x = .ref a ∧ y = .ref p ∧ w = .int m ∧ Src H a ∧ p ≠ a ∧ H p = some (.lst (ns.map V.str)) ∧ 1 ≤ ns.length ∧ ns.length ≤ 100 ∧ (∀ z ∈ ns, isNm z = true) ∧ 0 ≤ m ∧ m ≤ 40 ∧
  ∀ H' (q : Addr) (zs : List Str), Src H' a → Mov a H H' → H q = none → q ≠ a → H' q = some (.lst (zs.map V.str)) → (zs.length : Int) ≤ m → (∀ z ∈ zs, isLit z = true) → (zs.map bare).Nodup → (∀ z ∈ zs, bare z ∈ ns) → Q (.ref q) H'
def N_law_row : List PySem.Str := ["_law_source_here", "_law_names_here", "_law_most", "_law_row_here", "_law_k", "_law_name_here"]
def t_law_row (K : PySem.W.Frag) (W : WX) : TS := (tSeq (tAsg (tLst tNil) (gName 3))
    (tCut (tFor (iRng1 (tCons (tCallS (sp_law_take K) (WE W) (tCons (tVar 0) (tCons (tOp (rAddP K) (tVar 2) (tC (.int 1))) tNil))) tNil)) (gName 4) (tSeq (tAsg (tOp (rIxP K) (tVar 1) (tCallS (sp_law_take K) (WE W) (tCons (tVar 0) (tCons (tCB (rLenP K) (tCons (tVar 1) tNil)) tNil)))) (gName 5))
    (tIfS (tAnd (tTest (tOp (rInP K true) (tVar 5) (tVar 3))) (tTest (tOp (rInP K true) (tOp (rAddP K) (tC (.str "-")) (tVar 5)) (tVar 3)))) (tDrop (tBM K "list" rAppend (tVar 3) (tCons (tOp (rAddP K) (tOp (rIxP K) (tLst (tCons (tC (.str "")) (tCons (tC (.str "-")) tNil))) (tCallS (sp_law_take K) (WE W) (tCons (tVar 0) (tCons (tC (.int 2)) tNil)))) (tVar 5)) tNil))) tNext)))
    (tRet (tVar 3))))
theorem pure_law_row {K : PySem.W.Frag} {vs : List V} {H : Hp} {Q : VK} {E : XK} {W : WX} (h : sp_law_row K vs H Q E) : t_law_row K W { nx := fun _ H' => Q .non H', rt := Q } (start N_law_row vs) H := by
  obtain ⟨x, y, w, rfl, a, p, ns, m, rfl, rfl, rfl, hS, hpa, hp, hn1, hn2, hnm, m0, m1, hq⟩ := h
  show t_law_row K W _ [some (.ref a), some (.ref p), some (.int m), none, none, none] H
  unfold t_law_row
  walk_at "ss"
  refine ⟨Nat.zero_le _, fun q hqn => ?_⟩
  have hqa := hS.ne hqn
  have hqp : q ≠ p := fun e => by rw [e, hp] at hqn; cases hqn
  have S1 := hS.keep (same_new (o := HO.lst []) hqn)
  walk_at "ss"
  refine s_cut (fun σ' H' => ∃ v u, σ' = [some (.ref a), some (.ref p), some (.int m), some (.ref q), v, u] ∧ Src H' a ∧ Mov a H H' ∧ ∃ zs : List Str, H' q = some (.lst (zs.map V.str)) ∧ (zs.length : Int) ≤ m ∧ (∀ z ∈ zs, isLit z = true) ∧ (zs.map bare).Nodup ∧ ∀ z ∈ zs, bare z ∈ ns) ?_ ?_
  · walk_at "ss"
    refine take_ok S1 (by omega) (by omega) fun H2 k S2 b2 k0 k1 => ?_
    walk_at "ss"
    have B2 : Mov a H H2 := (Mov.of_same (same_new hqn)).trans b2
    refine forr_inv (by omega) (by omega) (fun i σ' H' => ∃ v u, σ' = [some (.ref a), some (.ref p), some (.int m), some (.ref q), v, u] ∧ Src H' a ∧ Mov a H H' ∧ ∃ zs : List Str, H' q = some (.lst (zs.map V.str)) ∧ zs.length ≤ i ∧ (∀ z ∈ zs, isLit z = true) ∧ (zs.map bare).Nodup ∧ ∀ z ∈ zs, bare z ∈ ns)
      ⟨_, _, rfl, S2, B2, [], b2 _ _ upd_same hqa, Nat.le_refl _, by simp, by simp, by simp⟩ ?_ ?_
    · rintro i σ' H' hi ⟨v, u, rfl, S3, B3, zs, hzs, hzl, hlit, hnd, hin⟩
      walk_at "ss"
      refine s_lenL (B3 _ _ hp hpa) ?_
      walk_at "ss"
      rw [List.length_map]
      refine take_ok S3 (by omega) (by omega) fun H4 r S4 b4 r0 r1 => ?_
      have B4 := B3.trans b4
      have hz4 := b4 _ _ hzs hqa
      obtain ⟨n, hnM, hn⟩ := at_str (l := ns) (i := r) r0 r1
      have hn8 : n.length ≤ 8 := by obtain ⟨_, _, _, _, _, _, h8⟩ := nm_first (hnm n hnM); exact h8
      refine s_ixL (B4 _ _ hp hpa) hn ?_
      walk_at "ss"
      have stay : ∃ v u, ([some (.ref a), some (.ref p), some (.int m), some (.ref q), some (.int i), some (.str n)] : L2.St) = [some (.ref a), some (.ref p), some (.int m), some (.ref q), v, u] ∧ Src H4 a ∧ Mov a H H4 ∧ ∃ zs : List Str, H4 q = some (.lst (zs.map V.str)) ∧ zs.length ≤ i + 1 ∧ (∀ z ∈ zs, isLit z = true) ∧ (zs.map bare).Nodup ∧ ∀ z ∈ zs, bare z ∈ ns := ⟨_, _, rfl, S4, B4, zs, hz4, by omega, hlit, hnd, hin⟩
      refine s_inSL hz4 ?_
      show ∃ k, V.bl (!decide (n ∈ zs)) = .bl k ∧ _
      walk_at "ss"
      by_cases h1 : n ∈ zs
      · rw [decide_eq_true h1]
        refine s_itF rfl ?_
        refine s_itF rfl ?_
        walk_at "ss"
        exact stay
      · rw [decide_eq_false h1]
        refine s_itT rfl ?_
        walk_at "ss"
        refine s_addS (by show 1 + n.length ≤ sizeLine; rw [sizeLine_eq]; omega) ?_
        walk_at "ss"
        refine s_inSL hz4 ?_
        show ∃ k, V.bl (!decide (("-" : Str) ++ n ∈ zs)) = .bl k ∧ _
        walk_at "ss"
        by_cases h2 : ("-" : Str) ++ n ∈ zs
        · rw [decide_eq_true h2]
          refine s_itF rfl ?_
          walk_at "ss"
          exact stay
        · rw [decide_eq_false h2]
          refine s_itT rfl ?_
          walk_at "ss"
          refine s_tyL hz4 ?_
          walk_at "ss"
          refine ⟨by show 2 ≤ sizeLine; rw [sizeLine_eq]; decide, fun l hl => ?_⟩
          have hla := S4.ne hl
          walk_at "ss"
          refine take_ok (S4.keep (same_new hl)) (by decide) (by decide) fun H7 r7 S7 b7 r70 r71 => ?_
          have B7 : Mov a H H7 := (B4.trans (Mov.of_same (same_new hl))).trans b7
          obtain ⟨d, hd, hdl, hL, hB⟩ := dash_bare (hnm n hnM) r70 r71
          refine s_ixL (b7 _ _ upd_same hla) hd ?_
          walk_at "ss"
          refine s_addS (by rw [sizeLine_eq]; omega) ?_
          walk_at "ss"
          have hz7 : H7 q = some (.lst (zs.map V.str)) := b7 _ _ (same_new hl _ _ hz4) hqa
          refine s_app hz7 (by rw [List.length_map]; omega) ?_
          refine ⟨_, _, rfl, hS.off hqn B7 S7, Mov.put hS hqn B7, zs ++ [d ++ n], by rw [upd_same, map_snoc], by rw [List.length_append]; simp; omega, fun y hy => ?_, ?_, fun y hy => ?_⟩
          · rcases List.mem_append.mp hy with hy | hy
            · exact hlit y hy
            · have : y = d ++ n := by simpa using hy
              rw [this]; exact hL
          · rw [List.map_append]
            refine List.nodup_append.mpr ⟨hnd, by simp, fun x hx y hy e => ?_⟩
            have ey : y = n := by
              have : y = bare (d ++ n) := by simpa using hy
              rw [this, hB]
            obtain ⟨z, hzM, rfl⟩ := List.mem_map.mp hx
            have e3 : bare z = n := e.trans ey
            rcases lit_cases (hlit z hzM) with e2 | e2
            · rw [e3] at e2
              rw [e2] at hzM
              exact h1 hzM
            · rw [e3] at e2
              rw [e2] at hzM
              exact h2 hzM
          · rcases List.mem_append.mp hy with hy | hy
            · exact hin y hy
            · have : y = d ++ n := by simpa using hy
              rw [this, hB]; exact hnM
    · rintro σ' H' ⟨v, u, rfl, S3, B3, zs, hzs, hzl, hlit, hnd, hin⟩
      exact ⟨v, u, rfl, S3, B3, zs, hzs, by omega, hlit, hnd, hin⟩
  · rintro σ' H' ⟨v, u, rfl, S3, B3, zs, hzs, hzl, hlit, hnd, hin⟩
    walk_at "ss"
    exact hq H' q zs S3 B3 hqn hqa hzs hzl hlit hnd hin
def sp_law_clause (K : PySem.W.Frag) : Sp := Sp1 fun x H Q E => ∃ (p : Addr) (zs : List Str), x = .ref p ∧ H p = some (.lst (zs.map V.str)) ∧ zs.length ≤ 6 ∧ (∀ z ∈ zs, z.length ≤ 1000000) ∧ CkC K zs H Q E
def N_law_clause : List PySem.Str := ["_law_row_here"]
def t_law_clause (K : PySem.W.Frag) (W : WX) : TS := (tCut (tIfS (tTest (tOp (rEqP K) (tCB (rLenP K) (tCons (tVar 0) tNil)) (tC (.int 0)))) (tRet (Cl.tMakeS (ga K "Clause") (spV_Clause_init K) (WE W) tNil)) tNext)
    (tCut (tIfS (tTest (tOp (rEqP K) (tCB (rLenP K) (tCons (tVar 0) tNil)) (tC (.int 1)))) (tRet (Cl.tMakeS (ga K "Clause") (spV_Clause_init K) (WE W) (tCons (tOp (rIxP K) (tVar 0) (tC (.int 0))) tNil))) tNext)
    (tCut (tIfS (tTest (tOp (rEqP K) (tCB (rLenP K) (tCons (tVar 0) tNil)) (tC (.int 2)))) (tRet (Cl.tMakeS (ga K "Clause") (spV_Clause_init K) (WE W) (tCons (tOp (rIxP K) (tVar 0) (tC (.int 0))) (tCons (tOp (rIxP K) (tVar 0) (tC (.int 1))) tNil)))) tNext)
    (tCut (tIfS (tTest (tOp (rEqP K) (tCB (rLenP K) (tCons (tVar 0) tNil)) (tC (.int 3)))) (tRet (Cl.tMakeS (ga K "Clause") (spV_Clause_init K) (WE W) (tCons (tOp (rIxP K) (tVar 0) (tC (.int 0))) (tCons (tOp (rIxP K) (tVar 0) (tC (.int 1))) (tCons (tOp (rIxP K) (tVar 0) (tC (.int 2))) tNil))))) tNext)
    (tCut (tIfS (tTest (tOp (rEqP K) (tCB (rLenP K) (tCons (tVar 0) tNil)) (tC (.int 4)))) (tRet (Cl.tMakeS (ga K "Clause") (spV_Clause_init K) (WE W) (tCons (tOp (rIxP K) (tVar 0) (tC (.int 0))) (tCons (tOp (rIxP K) (tVar 0) (tC (.int 1))) (tCons (tOp (rIxP K) (tVar 0) (tC (.int 2))) (tCons (tOp (rIxP K) (tVar 0) (tC (.int 3))) tNil)))))) tNext)
    (tCut (tIfS (tTest (tOp (rEqP K) (tCB (rLenP K) (tCons (tVar 0) tNil)) (tC (.int 5)))) (tRet (Cl.tMakeS (ga K "Clause") (spV_Clause_init K) (WE W) (tCons (tOp (rIxP K) (tVar 0) (tC (.int 0))) (tCons (tOp (rIxP K) (tVar 0) (tC (.int 1))) (tCons (tOp (rIxP K) (tVar 0) (tC (.int 2))) (tCons (tOp (rIxP K) (tVar 0) (tC (.int 3))) (tCons (tOp (rIxP K) (tVar 0) (tC (.int 4))) tNil))))))) tNext)
    (tRet (Cl.tMakeS (ga K "Clause") (spV_Clause_init K) (WE W) (tCons (tOp (rIxP K) (tVar 0) (tC (.int 0))) (tCons (tOp (rIxP K) (tVar 0) (tC (.int 1))) (tCons (tOp (rIxP K) (tVar 0) (tC (.int 2))) (tCons (tOp (rIxP K) (tVar 0) (tC (.int 3))) (tCons (tOp (rIxP K) (tVar 0) (tC (.int 4))) (tCons (tOp (rIxP K) (tVar 0) (tC (.int 5))) tNil))))))))))))))
local macro_rules | `(tactic| walk_at "mk") => `(tactic| repeat (first | walk_at "s" | ((with_reducible refine' s_lenL ?kA ?_); (case kA => assumption)) | ((with_reducible refine' s_ixL ?kA ?kB ?_); (case kA => assumption); (case kB => rfl)) | (with_reducible refine s_nocut ?_) | (refine s_itF rfl ?_) | (refine s_itT rfl ?_)))
theorem pure_law_clause {K : PySem.W.Frag} {vs : List V} {H : Hp} {Q : VK} {E : XK} (h : sp_law_clause K vs H Q E) : t_law_clause K (fun cls d _ H => E cls d H) { nx := fun _ H' => Q .non H', rt := Q } (start N_law_clause vs) H := by
  obtain ⟨x, rfl, p, zs, rfl, hp, hl, hz, hc⟩ := h
  show t_law_clause K _ _ [some (.ref p)] H
  unfold t_law_clause
  have mk := clause_made (zs := zs) (by omega) hz hc
  match zs, hl, hp, mk with
  | [], _, hp, mk => walk_at "mk"; exact mk
  | [a], _, hp, mk => walk_at "mk"; exact mk
  | [a, b], _, hp, mk => walk_at "mk"; exact mk
  | [a, b, c], _, hp, mk => walk_at "mk"; exact mk
  | [a, b, c, d], _, hp, mk => walk_at "mk"; exact mk
  | [a, b, c, d, e], _, hp, mk => walk_at "mk"; exact mk
  | [a, b, c, d, e, f], _, hp, mk => walk_at "mk"; exact mk
def sp_law_names_in (K : PySem.W.Frag) : Sp := Sp1 fun x H Q _ => ∃ (p : Addr) (rs : List (Addr × List Str)), x = .ref p ∧ IsRw H p rs ∧ (rs.flatMap (·.2)).length ≤ 1000 ∧ (∀ r ∈ rs, ∀ z ∈ r.2, z.length ≤ 100000) ∧ ∀ H' q, Same H H' → H q = none → H' q = some (.lst ((nmsO (rs.flatMap (·.2))).map V.str)) → Q (.ref q) H'
def N_law_names_in : List PySem.Str := ["_law_rows", "_law_names_here", "_law_row_here", "_law_literal"]
def t_law_names_in (K : PySem.W.Frag) (W : WX) : TS := (tSeq (tAsg (tLst tNil) (gName 1))
    (tCut (tFor (iAnyP K (tVar 0)) (gName 2) (tAsg (tOp (rAddP K) (tVar 1) (tLc (iAnyP K (tVar 2)) (gName 3) tYes (tCall (sp_law_name K) [] E0 (tCons (tVar 3) tNil)) [3])) (gName 1)))
    (tRet (tCallS (sp_law_sorted K) (WE W) (tCons (tVar 1) tNil)))))
theorem take_flat {rs : List (Addr × List Str)} (i : Nat) : ((rs.take i).flatMap (·.2)).length ≤ (rs.flatMap (·.2)).length := by
  conv => rhs; rw [← List.take_append_drop i rs, List.flatMap_append, List.length_append]
  omega
theorem pure_law_names_in {K : PySem.W.Frag} {vs : List V} {H : Hp} {Q : VK} {E : XK} {W : WX} (h : sp_law_names_in K vs H Q E) : t_law_names_in K W { nx := fun _ H' => Q .non H', rt := Q } (start N_law_names_in vs) H := by
  obtain ⟨x, rfl, p, rs, rfl, hp, hl, hz, hq⟩ := h
  show t_law_names_in K W _ [some (.ref p), none, none, none] H
  unfold t_law_names_in
  walk_at "ss"
  refine ⟨Nat.zero_le _, fun q hqn => ?_⟩
  have s1 : Same H (upd H q (.lst [])) := same_new hqn
  walk_at "ss"
  refine s_cut (fun σ2 H2 => ∃ l v, σ2 = [some (.ref p), some (.ref l), v, none] ∧ Same H H2 ∧ H2 l = some (.lst (((rs.flatMap (·.2)).map bare).map V.str))) ?_ ?_
  · walk_at "ss"
    refine forb_list (xs := rs.map fun r => V.ref r.1) (fun i σ' H' => ∃ l v, σ' = [some (.ref p), some (.ref l), v, none] ∧ Same H H' ∧ H' l = some (.lst ((((rs.take i).flatMap (·.2)).map bare).map V.str)))
      ⟨_, _, rfl, s1, upd_same⟩ ?_ ?_ ?_
    · rintro i σ' H' hi ⟨l, v, rfl, s2, _⟩
      exact SqL.of (s2 _ _ hp.li)
    · rintro i y σ' H' hi ⟨l, v, rfl, s2, hl2⟩
      rw [List.getElem?_map] at hi
      cases e : rs[i]? with
      | none => rw [e] at hi; cases hi
      | some r =>
      rw [e] at hi
      have e2 : V.ref r.1 = y := Option.some.inj hi
      subst e2
      have hr : r ∈ rs := List.mem_of_getElem? e
      have t1 := take_flat (rs := rs) i
      have t2 := take_flat (rs := rs) (i + 1)
      rw [take_more e, List.flatMap_append, List.length_append] at t2
      simp only [List.flatMap_cons, List.flatMap_nil, List.append_nil] at t2
      walk_at "ss"
      refine lcS_str bare (.inl (SqL.of (s2 _ _ (hp.ro r hr)))) (by omega) ?_ ?_
      · intro z hzz H3 s3 Q' hQ
        walk_at "ss"
        exact ⟨_, rfl, z, rfl, by have := hz r hr z hzz; omega, hQ _ (Same.refl _)⟩
      · intro D H3 hD s3 hl3
        walk_at "ss"
        refine s_catS (s3 _ _ hl2) hl3 (by rw [List.length_map, List.length_map]; omega) fun l4 H4 s4 _ h4 => ?_
        walk_at "ss"
        refine ⟨_, _, rfl, (s2.trans s3).trans s4, ?_⟩
        rw [take_more e, List.flatMap_append, List.map_append]
        simp only [List.flatMap_cons, List.flatMap_nil, List.append_nil]
        exact h4
    · rintro σ' H' ⟨l, v, rfl, s2, h2⟩
      rw [List.length_map, List.take_length] at h2
      exact ⟨_, _, rfl, s2, h2⟩
  · rintro σ2 H2 ⟨l, v, rfl, s2, h2⟩
    walk_at "ss"
    exact ⟨_, rfl, l, _, rfl, h2, by rw [List.length_map]; exact hl, fun H3 q3 s3 hq3 h3 => hq H3 q3 (s2.trans s3) (same_un s2 hq3) h3⟩
end Rd
namespace Rd
open PySem PySem.Spec PyProof.Rows L2 He Px
def sp_law_state (K : PySem.W.Frag) : Sp := Sp4 fun x y w u H Q _ => ∃ (b d N R : Addr) (tb : List TRow) (g : Int), x = .ref b ∧ y = .ref N ∧ w = .ref R ∧ u = .int (g + 1) ∧ IsBk K H b d (bkT tb) g ∧ Bok (bkT tb) g ∧ H N = some (.lst ((nuT tb).map V.int)) ∧ IsRw H R (rwT tb) ∧ (∀ r ∈ tb, Row6 r.2.2.2) ∧ ((rwT tb).flatMap (·.2)).length ≤ 900 ∧ 0 ≤ g ∧ g ≤ 1000 ∧ ∀ H', Same H H' → Q (.bl true) H'
def N_law_state : List PySem.Str := ["_law_book", "_law_numbers", "_law_rows", "_law_coming", "_law_due", "_law_row_here", "_law_number", "_law_k"]
def t_law_state (K : PySem.W.Frag) (W : WX) : TS := (tCut (tIfS (tOr (tNot (tB (tCallS (sp_law_same K) (WE W) (tCons (tCB (Cl.rListK K [(ga K "Book", "rows")]) (tCons (tVar 0) tNil)) (tCons (tVar 1) tNil))))) (tNot (tB (tCallS (sp_law_same K) (WE W) (tCons (tCB (Cl.rLenK K [(ga K "Book", "rows")]) (tCons (tVar 0) tNil)) (tCons (tCB (Cl.rLenK K [(ga K "Book", "rows")]) (tCons (tVar 1) tNil)) tNil)))))) (tRet (tC (.bl false))) tNext)
    (tCut (tIfS (tOr (tNot (tB (tCallS (sp_law_same K) (WE W) (tCons (Cl.tAtt [(ga K "Book", Cl.aProp (sp_Book_next_number K))] (tVar 0)) (tCons (tVar 3) tNil))))) (tNot (tB (tCallS (sp_law_same K) (WE W) (tCons (Cl.tAtt [(ga K "Clause", Cl.aProp (sp_Clause_names K)), (ga K "Book", Cl.aProp (sp_Book_names K))] (tVar 0)) (tCons (tCB (rTupleP K) (tCons (tCallS (sp_law_names_in K) (WE W) (tCons (tVar 2) tNil)) tNil)) tNil)))))) (tRet (tC (.bl false))) tNext)
    (tCut (tIfS (tNot (tB (tCallS (sp_law_same K) (WE W) (tCons (tLc (iRng1 (tCons (tOp (rAddP K) (tVar 3) (tC (.int 2))) tNil)) (gName 7) tYes (Cl.tOpS (Cl.rOwnI [(ga K "Clause", sp_Clause_contains K), (ga K "Turning", sp_Turning_contains K), (ga K "Book", sp_Book_contains K)] (fun _ => E0) false (rInP K false)) (tVar 7) (tVar 0)) [7]) (tCons (tLc (iRng1 (tCons (tOp (rAddP K) (tVar 3) (tC (.int 2))) tNil)) (gName 7) tYes (Cl.tOpS (Cl.rOwnI [(ga K "Clause", sp_Clause_contains K), (ga K "Turning", sp_Turning_contains K), (ga K "Book", sp_Book_contains K)] (fun _ => E0) false (rInP K false)) (tVar 7) (tVar 1)) [7]) tNil))))) (tRet (tC (.bl false))) tNext)
    (tSeq (tAsg (tLc (iAnyP K (tVar 2)) (gName 5) tYes (tCB (rTupleP K) (tCons (tCall (sp_law_ordered K) [] E0 (tCons (tVar 5) tNil)) tNil)) [5]) (gName 4))
    (tRet (tCallS (sp_law_same K) (WE W) (tCons (tLc (iAnyP K (tVar 1)) (gName 6) tYes (Cl.tAtt [(ga K "Clause", Cl.aFld "literals")] (Cl.tOpS (Cl.rIxO [(ga K "Turning", sp_Turning_getitem K), (ga K "Book", sp_Book_getitem K)] (fun _ => E0) (rIxP K)) (tVar 0) (tVar 6))) [6]) (tCons (tVar 4) tNil))))))))
theorem fits_ints {l : List Int} (h : l.length ≤ 1000000) : Fits 4 (.list (l.map .int)) := ⟨by rw [List.length_map]; exact h, fun d hd => by
  obtain ⟨z, _, rfl⟩ := List.mem_map.mp hd
  trivial⟩
def PT (tb : List TRow) (i : Nat) (y : V) (H : Hp) : Prop := ∃ t r, tb[i]? = some r ∧ y = .ref t ∧ H t = some (.tup ((litO r.2.2.2).map V.str))
theorem PT.keep {tb : List TRow} (i : Nat) (y : V) (H H' : Hp) (h : PT tb i y H) (s : Same H H') : PT tb i y H' := by
  obtain ⟨t, r, h1, h2, h3⟩ := h
  exact ⟨t, r, h1, h2, s _ _ h3⟩
theorem PT.put {tb : List TRow} (i : Nat) (y : V) (H : Hp) (D : Addr) (zs ws : List V) (h : PT tb i y H) (hD : H D = some (.lst zs)) : PT tb i y (upd H D (.lst ws)) := by
  obtain ⟨t, r, h1, h2, h3⟩ := h
  exact ⟨t, r, h1, h2, by rw [upd_ne (ne_of h3 hD (fun z => by cases z))]; exact h3⟩
theorem PT.all {tb : List TRow} {H : Hp} {ys : List V} (hl : ys.length = tb.length) (h : ∀ i y, ys[i]? = some y → PT tb i y H) : IsAll H ys (tb.map fun r => .tuple ((litO r.2.2.2).map .str)) := by
  refine IsAll.ofIdx (by rw [List.length_map]; exact hl) fun i y d hy hd => ?_
  obtain ⟨t, r, h1, rfl, h3⟩ := h i y hy
  rw [List.getElem?_map, h1] at hd
  have e := Option.some.inj hd
  subst e
  exact .tup h3 (IsAll.strs _)
theorem pure_law_state {K : PySem.W.Frag} {vs : List V} {H : Hp} {Q : VK} {E : XK} {W : WX} (h : sp_law_state K vs H Q E) : t_law_state K W { nx := fun _ H' => Q .non H', rt := Q } (start N_law_state vs) H := by
  obtain ⟨x, y, w, u, rfl, b, d, N, R, tb, g, rfl, rfl, rfl, rfl, B, ok, hN, hR, r6, few, g0, g1, hq⟩ := h
  show t_law_state K W _ [some (.ref b), some (.ref N), some (.ref R), some (.int (g + 1)), none, none, none, none] H
  unfold t_law_state
  obtain ⟨dx, o⟩ := id B.ob
  have len := ok.len
  rw [bkT_len] at len
  have own : ∀ {H'}, Same H H' → Cl.OwnK [(ga K "Book", "rows")] (.ref b) H' (kvB (bkT tb)) := fun s => ownK_go List.mem_cons_self (s _ _ o) rfl (s _ _ B.di) (by rw [kvB_len, bkT_len]; omega)
  refine s_nocut ?_
  walk_at "ss"
  refine listK_go (own (Same.refl _)) fun q hqn => ?_
  rw [kvB_keys, bkT_nums]
  have s1 : Same H (upd H q (.lst ((nuT tb).map V.int))) := same_new hqn
  have hq1 : upd H q (.lst ((nuT tb).map V.int)) q = some (.lst ((nuT tb).map V.int)) := upd_same
  generalize upd H q (.lst ((nuT tb).map V.int)) = H1 at s1 hq1
  walk_at "ss"
  refine same_ok (.lst hq1 (IsAll.ints _)) (.lst (s1 _ _ hN) (IsAll.ints _)) (fits_ints (by rw [nuT_len]; omega)) fun H2 s2 => ?_
  have S2 := s1.trans s2
  walk_at "ss"
  refine s_itF rfl ?_
  walk_at "ss"
  refine lenK_go (own S2) ?_
  walk_at "ss"
  refine .inl (s_lenL (S2 _ _ hN) ?_)
  walk_at "ss"
  rw [kvB_len, bkT_len, List.length_map, nuT_len]
  refine same_ok (.int _) (.int _) trivial fun H3 s3 => ?_
  have S3 := S2.trans s3
  walk_at "ss"
  refine s_itF rfl ?_
  walk_at "ss"
  refine s_nocut ?_
  walk_at "ss"
  refine prop_go (sp_Book_next_number K) (by walk_at "mem") (S3 _ _ o) ⟨_, rfl, b, d, _, g, rfl, B.keep S3, ?_⟩
  walk_at "ss"
  refine same_ok (.int _) (.int _) trivial fun H4 s4 => ?_
  have S4 := S3.trans s4
  walk_at "ss"
  refine s_itF rfl ?_
  walk_at "ss"
  refine prop_go (sp_Book_names K) (by walk_at "mem") (S4 _ _ o) ⟨_, rfl, b, d, _, g, rfl, B.keep S4, ok, fun H5 q5 s5 h5 => ?_⟩
  have S5 := S4.trans s5
  rw [nmsT r6] at h5
  walk_at "ss"
  refine ⟨_, rfl, R, _, rfl, hR.keep S5, by omega, fun r hr z hz => ?_, fun H6 q6 s6 _ h6 => ?_⟩
  · unfold rwT at hr
    obtain ⟨r', hr', rfl⟩ := List.mem_map.mp hr
    exact Nat.le_trans (lit_len ((r6 r' hr').lit z hz)) (by decide)
  have S6 := S5.trans s6
  walk_at "ss"
  refine s_tupL h6 fun q7 hq7 => ?_
  have s7 := same_new (o := HO.tup ((nmsO ((rwT tb).flatMap (·.2))).map V.str)) hq7
  have h7 : upd H6 q7 (HO.tup ((nmsO ((rwT tb).flatMap (·.2))).map V.str)) q7 = _ := upd_same
  generalize upd H6 q7 (HO.tup ((nmsO ((rwT tb).flatMap (·.2))).map V.str)) = H7 at s7 h7
  have S7 := S6.trans s7
  walk_at "ss"
  refine same_ok (.tup ((s6.trans s7) _ _ h5) (IsAll.strs _)) (.tup h7 (IsAll.strs _)) (fits_strs (by have := srt_len (((rwT tb).flatMap (·.2)).map bare); rw [List.length_map] at this; unfold nmsO; omega)).1 fun H8 s8 => ?_
  have S8 := S7.trans s8
  walk_at "ss"
  refine s_itF rfl ?_
  walk_at "ss"
  refine s_nocut ?_
  walk_at "ss"
  refine lcr_map (fun x => match x with | .int i => .bl (decide (i ∈ nuT tb)) | _ => .non) (by omega) (by omega) ?_ ?_
  · intro i hi H9 s9 Q' hQ
    have S9 := S8.trans s9
    walk_at "ss"
    refine in_go (sp_Book_contains K) (by walk_at "mem") (S9 _ _ o) ⟨_, _, rfl, b, d, _, g, i, rfl, rfl, B.keep S9, _, rfl, ?_⟩
    rw [bkT_nums]
    exact hQ _ (Same.refl _)
  intro D9 H9 _ s9 h9
  have S9 := S8.trans s9
  walk_at "ss"
  refine lcr_map (fun x => match x with | .int i => .bl (decide (i ∈ nuT tb)) | _ => .non) (by omega) (by omega) ?_ ?_
  · intro i hi H10 s10 Q' hQ
    walk_at "ss"
    refine .inl (s_inL ((S9.trans s10) _ _ hN) rfl (by simp [flatV]) ?_)
    rw [inV_ints]
    exact hQ _ (Same.refl _)
  intro D10 H10 _ s10 h10
  have S10 := S9.trans s10
  walk_at "ss"
  have eB : ((List.range (g + 1 + 2).toNat).map fun (i : Nat) => V.bl (decide ((i : Int) ∈ nuT tb))) = ((List.range (g + 1 + 2).toNat).map fun (i : Nat) => decide ((i : Int) ∈ nuT tb)).map V.bl := by rw [List.map_map]; rfl
  refine same_ok (.lst (s10 _ _ (h9.trans (by rw [← eB]))) (IsAll.bls _)) (.lst (h10.trans (by rw [← eB])) (IsAll.bls _)) (fits_bls (by rw [List.length_map, List.length_range]; omega)) fun H11 s11 => ?_
  have S11 := S10.trans s11
  walk_at "ss"
  refine s_itF rfl ?_
  walk_at "ss"
  refine lcb_rel (PT tb) PT.keep PT.put (.inl (SqL.of (S11 _ _ hR.li))) (by rw [List.length_map]; unfold rwT; rw [List.length_map]; omega) ?_ ?_
  · intro i x hx H12 s12 Q' hQ
    have S12 := S11.trans s12
    unfold rwT at hx
    rw [List.map_map, List.getElem?_map] at hx
    cases e : tb[i]? with
    | none => rw [e] at hx; cases hx
    | some r =>
    rw [e] at hx
    have e2 : V.ref r.2.2.1 = x := Option.some.inj hx
    subst e2
    have hr := List.mem_of_getElem? e
    have h6 := r6 r hr
    walk_at "ss"
    refine ⟨_, rfl, r.2.2.1, r.2.2.2, rfl, S12 _ _ (hR.ro (r.2.2.1, r.2.2.2) (List.mem_map_of_mem (f := fun r : TRow => (r.2.2.1, r.2.2.2)) hr)), by have := h6.len; omega, fun z hz => Nat.le_trans (lit_len (h6.lit z hz)) (by decide), fun H13 q13 s13 _ h13 => ?_⟩
    walk_at "ss"
    refine s_tupL h13 fun t ht => ?_
    exact hQ _ _ (s13.trans (same_new ht)) ⟨t, r, e, rfl, upd_same⟩
  intro D12 H12 ys12 _ s12 h12 l12 p12
  have S12 := S11.trans s12
  walk_at "ss"
  refine lcb_rel (PT tb) PT.keep PT.put (.inl (SqL.of (S12 _ _ hN))) (by rw [List.length_map, nuT_len]; omega) ?_ ?_
  · intro i x hx H13 s13 Q' hQ
    have S13 := S12.trans s13
    unfold nuT at hx
    rw [List.map_map, List.getElem?_map] at hx
    cases e : tb[i]? with
    | none => rw [e] at hx; cases hx
    | some r =>
    rw [e] at hx
    have e2 : V.int r.1 = x := Option.some.inj hx
    subst e2
    have hr : ((r.1, r.2.1, litO r.2.2.2) : BRow) ∈ bkT tb := List.mem_map_of_mem (f := fun r : TRow => ((r.1, r.2.1, litO r.2.2.2) : BRow)) (List.mem_of_getElem? e)
    obtain ⟨dc, qc, c1, c2⟩ := (B.keep S13).cl _ hr
    walk_at "ss"
    refine ixO_go (sp_Book_getitem K) (by walk_at "mem") (S13 _ _ o) ⟨_, _, rfl, b, d, _, g, r.1, rfl, rfl, B.keep S13, fun hn => absurd (List.mem_map_of_mem (f := fun x : BRow => x.1) hr) hn, fun r' hr' => ?_⟩
    rw [rowAt_of ok.asc hr] at hr'
    have e3 := Option.some.inj hr'
    subst e3
    refine fld_go "literals" (by walk_at "mem") c1 rfl ?_
    exact hQ _ _ (Same.refl _) ⟨qc, r, e, rfl, c2⟩
  intro D13 H13 ys13 _ s13 h13 l13 p13
  walk_at "ss"
  have hlen : (rwT tb).length = tb.length := by unfold rwT; rw [List.length_map]
  refine same_ok (.lst h13 (PT.all (by rw [l13, List.length_map, nuT_len]) p13)) (.lst (s13 _ _ h12) (PT.all (by rw [l12, List.length_map, hlen]) fun i y hy => PT.keep i y _ _ (p12 i y hy) s13)) ⟨by rw [List.length_map]; omega, fun d hd => ?_⟩ fun H14 s14 => hq _ ((S12.trans s13).trans s14)
  obtain ⟨r, hr, rfl⟩ := List.mem_map.mp hd
  have h6 := r6 r hr
  refine ⟨by rw [List.length_map]; have := litO_len r.2.2.2; have := h6.len; omega, fun d hd => ?_⟩
  obtain ⟨z, _, rfl⟩ := List.mem_map.mp hd
  trivial
/-- the facts of the head -/
structure FxA (K : PySem.W.Frag) : Prop where
  m : PySem.W.exmOne K (.ref (ga K "NoClause")) (.ref (ga K "NoClause")) = some true
  x : ExcC K (ga K "NoClause")
  h : PySem.W.kitOne K (.ref (ga K "NoClause")) (.ref (ga K "HornError")) = some true
  v : PySem.W.kitOne K (.ref (ga K "NoClause")) (.type "ValueError") = some true
  n : PySem.W.kitOne K (.ref (ga K "NoClause")) (.ref (ga K "BadNumber")) = some false
def sp_law_absent (K : PySem.W.Frag) : Sp := Sp3 fun x y w H Q _ => ∃ (b d : Addr) (rows : List BRow) (g n k : Int), x = .ref b ∧ y = .int n ∧ w = .int k ∧ IsBk K H b d rows g ∧ n ∉ rows.map (·.1) ∧ ∀ H', Same H H' → Q (.bl true) H'
def N_law_absent : List PySem.Str := ["_law_book", "_law_number", "_law_way", "error", "_law_right", "_law_clause_here"]
def t_law_absent (K : PySem.W.Frag) (W : WX) : TS := (tCut (fun D σ H => (fun W1 => (tIfS (tTest (tOp (rEqP K) (tVar 2) (tC (.int 0)))) (tDrop (Cl.tMethO [(ga K "Book", sp_Book_drop K)] "drop" (WE W1) (tVar 0) (tCons (tVar 1) tNil))) (tIfS (tTest (tOp (rEqP K) (tVar 2) (tC (.int 1)))) (Cl.tAugO 0 (tVar 1) (Cl.rInp [(ga K "Book", sp_Book_isub K)] (WE W1) (rIn0 fun i j => .int (i - j)))) (tSeq (tAsg (Cl.tOpS (Cl.rIxO [(ga K "Turning", sp_Turning_getitem K), (ga K "Book", sp_Book_getitem K)] (WE W1) (rIxP K)) (tVar 0) (tVar 1)) (gName 5))
    (tRet (tAndV (tOp (rIsP false) (tVar 5) (tC .non)) (tC (.bl false)))))))) (wAs K (.ref (ga K "NoClause")) 3 (fun a_ cls_ d_ => (tSeq (tAsg (tAndV (tCB (rIsEE K a_ cls_ d_) (tCons (tVar 3) (tCons (tC (.ref (ga K "HornError"))) tNil))) (tAndV (tCB (rIsEE K a_ cls_ d_) (tCons (tVar 3) (tCons (tC (.ty "ValueError")) tNil))) (tNotV (tCB (rIsEE K a_ cls_ d_) (tCons (tVar 3) (tCons (tC (.ref (ga K "BadNumber"))) tNil)))))) (gName 4))
    (tRet (tAndV (tVar 4) (tCallS (spH_law_same K) (WE (fun _ _ _ _ => False)) (tCons (tErrF (ga K "NoClause") "number" a_ cls_ d_ (tVar 3)) (tCons (tVar 1) tNil))))))) W D) D σ H)
    (tRet (tC (.bl false))))
theorem rowAt_none {rows : List BRow} {n : Int} (h : n ∉ rows.map (·.1)) {r : BRow} (hr : rowAt rows n = some r) {P : Prop} : P := by
  obtain ⟨h1, h2⟩ := rowAt_mem hr
  exact absurd (List.mem_map.mpr ⟨r, h1, h2⟩) h
theorem pure_law_absent {K : PySem.W.Frag} (F : FxA K) {vs : List V} {H : Hp} {Q : VK} {E : XK} {W : WX} (h : sp_law_absent K vs H Q E) : t_law_absent K W { nx := fun _ H' => Q .non H', rt := Q } (start N_law_absent vs) H := by
  obtain ⟨x, y, w, rfl, b, d, rows, g, n, k, rfl, rfl, rfl, B, hn, hq⟩ := h
  show t_law_absent K W _ [some (.ref b), some (.int n), some (.int k), none, none, none] H
  unfold t_law_absent
  obtain ⟨dx, o⟩ := id B.ob
  refine s_nocut ?_
  dsimp only
  walk_at "ss"
  refine s_itd (fun _ => ?_) (fun _ => ?_)
  · walk_at "ss"
    refine meth_go (sp_Book_drop K) (by walk_at "mem") o rfl ?_
    walk_at "ss"
    refine ⟨_, _, rfl, b, d, rows, g, n, rfl, rfl, B, fun _ H1 e s1 hd => ?_, fun r hr => rowAt_none hn hr⟩
    refine ⟨true, F.m, fun _ a ha => ?_, fun e => by cases e⟩
    walk_at "ss"
    refine ⟨_, _, _, true, rfl, F.x, .inr ⟨e, _, rfl, hd⟩, rfl, fun u r => r, F.h, ?_⟩
    walk_at "ss"
    refine s_itT rfl ?_
    walk_at "ss"
    refine ⟨_, _, _, true, rfl, F.x, .inr ⟨e, _, rfl, hd⟩, rfl, fun u r => r, F.v, ?_⟩
    walk_at "ss"
    refine s_itT rfl ?_
    walk_at "ss"
    refine ⟨_, _, _, false, rfl, F.x, .inr ⟨e, _, rfl, hd⟩, rfl, fun u r => r, F.n, ?_⟩
    walk_at "ss"
    refine s_itT rfl ?_
    walk_at "ss"
    refine ⟨_, rfl, rfl, rfl, e, _, rfl, hd, ?_⟩
    walk_at "ss"
    refine ⟨_, _, rfl, .int n, .int n, .int n, .int n, trivial, trivial, ?_⟩
    rw [sameB_eq rfl]
    exact hq _ s1
  walk_at "ss"
  refine s_itd (fun _ => ?_) (fun _ => ?_)
  · walk_at "ss"
    refine inp_go (sp_Book_isub K) (by walk_at "mem") o ?_
    refine ⟨_, _, rfl, b, d, rows, g, n, rfl, rfl, B, fun _ H1 e s1 hd => ?_, fun h => absurd h hn⟩
    refine ⟨true, F.m, fun _ a ha => ?_, fun e => by cases e⟩
    walk_at "ss"
    refine ⟨_, _, _, true, rfl, F.x, .inr ⟨e, _, rfl, hd⟩, rfl, fun u r => r, F.h, ?_⟩
    walk_at "ss"
    refine s_itT rfl ?_
    walk_at "ss"
    refine ⟨_, _, _, true, rfl, F.x, .inr ⟨e, _, rfl, hd⟩, rfl, fun u r => r, F.v, ?_⟩
    walk_at "ss"
    refine s_itT rfl ?_
    walk_at "ss"
    refine ⟨_, _, _, false, rfl, F.x, .inr ⟨e, _, rfl, hd⟩, rfl, fun u r => r, F.n, ?_⟩
    walk_at "ss"
    refine s_itT rfl ?_
    walk_at "ss"
    refine ⟨_, rfl, rfl, rfl, e, _, rfl, hd, ?_⟩
    walk_at "ss"
    refine ⟨_, _, rfl, .int n, .int n, .int n, .int n, trivial, trivial, ?_⟩
    rw [sameB_eq rfl]
    exact hq _ s1
  · walk_at "ss"
    refine ixO_go (sp_Book_getitem K) (by walk_at "mem") o ?_
    refine ⟨_, _, rfl, b, d, rows, g, n, rfl, rfl, B, fun _ H1 e s1 hd => ?_, fun r hr => rowAt_none hn hr⟩
    refine ⟨true, F.m, fun _ a ha => ?_, fun e => by cases e⟩
    walk_at "ss"
    refine ⟨_, _, _, true, rfl, F.x, .inr ⟨e, _, rfl, hd⟩, rfl, fun u r => r, F.h, ?_⟩
    walk_at "ss"
    refine s_itT rfl ?_
    walk_at "ss"
    refine ⟨_, _, _, true, rfl, F.x, .inr ⟨e, _, rfl, hd⟩, rfl, fun u r => r, F.v, ?_⟩
    walk_at "ss"
    refine s_itT rfl ?_
    walk_at "ss"
    refine ⟨_, _, _, false, rfl, F.x, .inr ⟨e, _, rfl, hd⟩, rfl, fun u r => r, F.n, ?_⟩
    walk_at "ss"
    refine s_itT rfl ?_
    walk_at "ss"
    refine ⟨_, rfl, rfl, rfl, e, _, rfl, hd, ?_⟩
    walk_at "ss"
    refine ⟨_, _, rfl, .int n, .int n, .int n, .int n, trivial, trivial, ?_⟩
    rw [sameB_eq rfl]
    exact hq _ s1
def sp_law (K : PySem.W.Frag) : Sp := Sp1 fun x H Q _ => ∃ (a : Addr) (ns : List Int), x = .ref a ∧ SqL K H a (ns.map V.int) ∧ ns.length ≤ 100 ∧ ∀ H', Q (.bl true) H'
def N_law : List PySem.Str := ["_law_script", "_law_source_here", "_law_names_here", "_law_book", "_law_twin", "_law_numbers", "_law_rows", "_law_absent_here", "_law_coming", "_law_k", "_law_deed", "_law_number", "_law_row_here", "_law_at"]
def t_law (K : PySem.W.Frag) (W : WX) : TS := (tSeq (tAsg (tCallS (sp_law_source K) (WE W) (tCons (tVar 0) tNil)) (gName 1))
    (tSeq (tAsg (tCallS (sp_law_names K) (WE W) (tCons (tVar 1) (tCons (tC (.int 5)) tNil))) (gName 2))
    (tSeq (tAsg (Cl.tMakeS (ga K "Book") (spV_Book_init K) (WE W) tNil) (gName 3))
    (tSeq (tAsg (tVar 3) (gName 4))
    (tSeq (tAsg (tLst tNil) (gName 5))
    (tSeq (tAsg (tLst tNil) (gName 6))
    (tSeq (tAsg (tLst (tCons (tC (.int 0)) (tCons (tUn (rU fun i => .int (-i)) (tC (.int 1))) (tCons (tC (.int 1000)) tNil)))) (gName 7))
    (tSeq (tAsg (tC (.int 1)) (gName 8))
    (tCut (tFor (iRng1 (tCons (tC (.int 12)) tNil)) (gName 9) (tSeq (tAsg (tCallS (sp_law_take K) (WE W) (tCons (tVar 1) (tCons (tC (.int 6)) tNil))) (gName 10))
    (tCut (tIfS (tOr (tTest (tOp rLtP (tVar 10) (tC (.int 3)))) (tTest (tOp (rEqP K) (tCB (rLenP K) (tCons (tVar 5) tNil)) (tC (.int 0))))) (tSeq (tAsg (tCallS (sp_law_row K) (WE W) (tCons (tVar 1) (tCons (tVar 2) (tCons (tC (.int 3)) tNil)))) (gName 12))
    (tCut (tIfS (tTest (tOp (rEqP K) (tVar 10) (tC (.int 2)))) (Cl.tAugO 3 (tCallS (sp_law_clause K) (WE W) (tCons (tVar 12) tNil)) (Cl.rInp [(ga K "Book", sp_Book_iadd K)] (WE W) (rIn0 fun i j => .int (i + j)))) (tIfS (tNot (tB (tCallS (sp_law_same K) (WE W) (tCons (Cl.tMethO [(ga K "Book", sp_Book_put K)] "put" (WE W) (tVar 3) (tCons (tCallS (sp_law_clause K) (WE W) (tCons (tVar 12) tNil)) tNil)) (tCons (tVar 8) tNil))))) (tRet (tC (.bl false))) tNext))
    (tSeq (tDrop (tBM K "list" rAppend (tVar 5) (tCons (tVar 8) tNil)))
    (tSeq (tDrop (tBM K "list" rAppend (tVar 6) (tCons (tVar 12) tNil)))
    (tAsg (tOp (rAddP K) (tVar 8) (tC (.int 1))) (gName 8)))))) (tSeq (tAsg (tOp rSubP (tCB (rLenP K) (tCons (tVar 5) tNil)) (tC (.int 1))) (gName 13))
    (tCut (tIfS (tTest (tOp rGtP (tVar 10) (tC (.int 3)))) (tAsg (tCallS (sp_law_take K) (WE W) (tCons (tVar 1) (tCons (tCB (rLenP K) (tCons (tVar 5) tNil)) tNil))) (gName 13)) tNext)
    (tCut (tIfS (tTest (tOp (rEqP K) (tVar 10) (tC (.int 4)))) (Cl.tAugO 3 (tOp (rIxP K) (tVar 5) (tVar 13)) (Cl.rInp [(ga K "Book", sp_Book_isub K)] (WE W) (rIn0 fun i j => .int (i - j)))) (tIfS (tNot (tB (tCallS (sp_law_same K) (WE W) (tCons (Cl.tAtt [(ga K "Clause", Cl.aFld "literals")] (Cl.tMethO [(ga K "Book", sp_Book_drop K)] "drop" (WE W) (tVar 3) (tCons (tOp (rIxP K) (tVar 5) (tVar 13)) tNil))) (tCons (tCB (rTupleP K) (tCons (tCallS (sp_law_ordered K) (WE W) (tCons (tOp (rIxP K) (tVar 6) (tVar 13)) tNil)) tNil)) tNil))))) (tRet (tC (.bl false))) tNext))
    (tSeq (tDrop (tBM K "list" rAppend (tVar 7) (tCons (tBM K "list" rPopAt (tVar 5) (tCons (tVar 13) tNil)) tNil)))
    (tDrop (tBM K "list" rPopAt (tVar 6) (tCons (tVar 13) tNil))))))))
    (tCut (tIfS (tOr (tNot (tB (tCallS (sp_law_state K) (WE W) (tCons (tVar 3) (tCons (tVar 5) (tCons (tVar 6) (tCons (tVar 8) tNil))))))) (tNot (tB (tCallS (sp_law_state K) (WE W) (tCons (tVar 4) (tCons (tVar 5) (tCons (tVar 6) (tCons (tVar 8) tNil)))))))) (tRet (tC (.bl false))) tNext)
    (tCut (tFor (iAnyP K (tLst (tCons (tVar 8) (tCons (tOp (rIxP K) (tVar 7) (tOp rModP (tCB rIntP (tCons (tVar 9) tNil)) (tCB (rLenP K) (tCons (tVar 7) tNil)))) (tCons (tOp (rIxP K) (tVar 7) (tOp rSubP (tCB (rLenP K) (tCons (tVar 7) tNil)) (tC (.int 1)))) tNil))))) (gName 11) (tIfS (tNot (tB (tCallS (sp_law_absent K) (WE W) (tCons (tVar 3) (tCons (tVar 11) (tCons (tOp rModP (tCB rIntP (tCons (tVar 9) tNil)) (tC (.int 3))) tNil)))))) (tRet (tC (.bl false))) tNext))
    (tIfS (tNot (tB (tCallS (sp_law_state K) (WE W) (tCons (tVar 4) (tCons (tVar 5) (tCons (tVar 6) (tCons (tVar 8) tNil))))))) (tRet (tC (.bl false))) tNext))))))
    (tRet (tC (.bl true))))))))))))
/-- what never changes -/
structure CC (H2 : Hp) (s b d N R A : Addr) : Prop where
  S : Src H2 s
  b0 : H2 b = none
  d0 : H2 d = none
  n0 : H2 N = none
  r0 : H2 R = none
  a0 : H2 A = none
  nr : N ≠ R
  na : N ≠ A
  ra : R ≠ A
/-- the law's lists -/
structure LL (H2 : Hp) (s N R A : Addr) (ns : List Int) (rs : List (Addr × List Str)) (ab : List Int) (H : Hp) : Prop where
  src : Src H s
  mov : Mov s H2 H
  nu : H N = some (.lst (ns.map V.int))
  rw : IsRw H R rs
  ab : H A = some (.lst (ab.map V.int))
  off : ∀ r ∈ rs, r.1 ≠ s ∧ r.1 ≠ N ∧ r.1 ≠ R ∧ r.1 ≠ A
section
variable {K : PySem.W.Frag} {H2 H H' : Hp} {s b d N R A : Addr} {ns ns' : List Int} {rs rs' : List (Addr × List Str)} {ab ab' : List Int}
theorem LL.same (L : LL H2 s N R A ns rs ab H) (h : Same H H') : LL H2 s N R A ns rs ab H' := ⟨L.src.keep h, L.mov.trans (Mov.of_same h), h _ _ L.nu, L.rw.keep h, h _ _ L.ab, L.off⟩
theorem LL.go (C : CC H2 s b d N R A) (L : LL H2 s N R A ns rs ab H) (m : Mov s H H') (S : Src H' s) : LL H2 s N R A ns rs ab H' :=
  ⟨S, L.mov.trans m, m _ _ L.nu (C.S.ne C.n0), ⟨m _ _ L.rw.li (C.S.ne C.r0), fun r hr => m _ _ (L.rw.ro r hr) (L.off r hr).1⟩, m _ _ L.ab (C.S.ne C.a0), L.off⟩
theorem LL.chg (C : CC H2 s b d N R A) {rows : List BRow} {g : Int} (B : IsBk K H b d rows g) (L : LL H2 s N R A ns rs ab H) (k : Chg b d H H') : LL H2 s N R A ns rs ab H' := by
  obtain ⟨dx, o⟩ := B.ob
  have go : ∀ {a : Addr} {xs : List V}, H a = some (.lst xs) → H' a = some (.lst xs) := fun h => k _ _ h (ne_of h o (fun z => by cases z)) (ne_of h B.di (fun z => by cases z))
  refine ⟨?_, ⟨fun a u e n => k _ _ (L.mov _ _ e n) (ne_of_none e C.b0) (ne_of_none e C.d0), fun c xs e => ?_⟩, go L.nu, ⟨go L.rw.li, fun r hr => go (L.rw.ro r hr)⟩, go L.ab, L.off⟩
  · obtain ⟨c, cells, i, cur, cnt, mode, h1, h2, h3, h4⟩ := L.src
    exact ⟨c, cells, i, cur, cnt, mode, go h1, go h2, h3, h4⟩
  · obtain ⟨ys, h⟩ := L.mov.cell c xs e
    exact ⟨ys, go h⟩
theorem LL.putN (C : CC H2 s b d N R A) (L : LL H2 s N R A ns rs ab H) : LL H2 s N R A ns' rs ab (upd H N (.lst (ns'.map V.int))) :=
  ⟨C.S.off C.n0 L.mov L.src, Mov.put C.S C.n0 L.mov, upd_same, ⟨by rw [upd_ne C.nr.symm]; exact L.rw.li, fun r hr => by rw [upd_ne (L.off r hr).2.1]; exact L.rw.ro r hr⟩, by rw [upd_ne C.na.symm]; exact L.ab, L.off⟩
theorem LL.putA (C : CC H2 s b d N R A) (L : LL H2 s N R A ns rs ab H) : LL H2 s N R A ns rs ab' (upd H A (.lst (ab'.map V.int))) :=
  ⟨C.S.off C.a0 L.mov L.src, Mov.put C.S C.a0 L.mov, by rw [upd_ne C.na]; exact L.nu, ⟨by rw [upd_ne C.ra]; exact L.rw.li, fun r hr => by rw [upd_ne (L.off r hr).2.2.2]; exact L.rw.ro r hr⟩, upd_same, L.off⟩
theorem LL.putR (C : CC H2 s b d N R A) (L : LL H2 s N R A ns rs ab H) (h : ∀ r ∈ rs', H r.1 = some (.lst (r.2.map V.str)) ∧ r.1 ≠ s ∧ r.1 ≠ N ∧ r.1 ≠ R ∧ r.1 ≠ A) : LL H2 s N R A ns rs' ab (upd H R (.lst (rs'.map fun r => V.ref r.1))) :=
  ⟨C.S.off C.r0 L.mov L.src, Mov.put C.S C.r0 L.mov, by rw [upd_ne C.nr]; exact L.nu, ⟨upd_same, fun r hr => by rw [upd_ne (h r hr).2.2.2.1]; exact (h r hr).1⟩, by rw [upd_ne C.ra.symm]; exact L.ab, fun r hr => (h r hr).2⟩
theorem IsBk.go {rows : List BRow} {g : Int} (B : IsBk K H b d rows g) (S : Src H s) (m : Mov s H H') : IsBk K H' b d rows g := by
  obtain ⟨dx, o⟩ := B.ob
  obtain ⟨c, cells, i, cur, cnt, mode, h1, _⟩ := S
  refine ⟨⟨dx, m _ _ o (ne_of o h1 (fun z => by cases z))⟩, m _ _ B.di (ne_of B.di h1 (fun z => by cases z)), fun r hr => ?_⟩
  obtain ⟨dy, q, c1, c2⟩ := B.cl r hr
  exact ⟨dy, q, m _ _ c1 (ne_of c1 h1 (fun z => by cases z)), m _ _ c2 (ne_of c2 h1 (fun z => by cases z))⟩
theorem IsBk.lst {rows : List BRow} {g : Int} {N : Addr} {xs : List V} {o' : HO} (B : IsBk K H b d rows g) (h1 : H N = some (.lst xs)) : IsBk K (upd H N o') b d rows g := by
  obtain ⟨dx, o⟩ := B.ob
  refine ⟨⟨dx, by rw [upd_ne (ne_of o h1 (fun z => by cases z))]; exact o⟩, by rw [upd_ne (ne_of B.di h1 (fun z => by cases z))]; exact B.di, fun r hr => ?_⟩
  obtain ⟨dy, q, c1, c2⟩ := B.cl r hr
  exact ⟨dy, q, by rw [upd_ne (ne_of c1 h1 (fun z => by cases z))]; exact c1, by rw [upd_ne (ne_of c2 h1 (fun z => by cases z))]; exact c2⟩
end
/-- the law's table -/
structure TI (nm : List Str) (tb : List TRow) (ab : List Int) (g : Int) : Prop where
  ok : Bok (bkT tb) g
  r6 : ∀ r ∈ tb, Row6 r.2.2.2
  r3 : ∀ r ∈ tb, r.2.2.2.length ≤ 3
  ns : ∀ r ∈ tb, ∀ z ∈ r.2.2.2, bare z ∈ nm
  gone : ∀ n ∈ ab, n ∉ nuT tb ∧ (n ≤ g ∨ n = 1000)
  g0 : 0 ≤ g
theorem few_rw : ∀ {tb : List TRow}, (∀ r ∈ tb, r.2.2.2.length ≤ 3) → ((rwT tb).flatMap (·.2)).length ≤ 3 * tb.length
  | [], _ => Nat.le_refl _
  | a :: l, h => by
    have h1 := h a List.mem_cons_self
    have h2 := few_rw fun r hr => h r (List.mem_cons_of_mem _ hr)
    unfold rwT at h2 ⊢
    rw [List.map_cons, List.flatMap_cons, List.length_append, List.length_cons]
    show a.2.2.2.length + _ ≤ _
    omega
theorem few_bk : ∀ {tb : List TRow}, (∀ r ∈ tb, Row6 r.2.2.2) → (∀ r ∈ tb, r.2.2.2.length ≤ 3) → ((bkT tb).flatMap (·.2.2)).length ≤ 3 * tb.length
  | [], _, _ => Nat.le_refl _
  | a :: l, h6, h => by
    have h1 := h a List.mem_cons_self
    have h2 := few_bk (fun r hr => h6 r (List.mem_cons_of_mem _ hr)) fun r hr => h r (List.mem_cons_of_mem _ hr)
    have h3 := (h6 a List.mem_cons_self).litO
    unfold bkT at h2 ⊢
    rw [List.map_cons, List.flatMap_cons, List.length_append, List.length_cons]
    show (litO a.2.2.2).length + _ ≤ _
    omega
theorem TI.room {nm : List Str} {tb : List TRow} {ab : List Int} {g : Int} (T : TI nm tb ab g) {zs : List Str} (hz : ∀ z ∈ zs, bare z ∈ nm) (hn : nm.length ≤ 12) (hl : tb.length < 24) : roomErr (bkT tb) (litO zs) = none := by
  unfold roomErr
  rw [if_neg (by rw [bkT_len]; omega), if_neg ?_]
  have := List.Nodup.length_le_of_subset (l₁ := nmsO ((bkT tb).flatMap (·.2.2) ++ litO zs)) (l₂ := nm) (ord_nodup (ord_srt _)) fun y hy => by
    unfold nmsO at hy
    obtain ⟨z, hz', rfl⟩ := List.mem_map.mp (mem_srt.mp hy)
    rcases List.mem_append.mp hz' with h | h
    · obtain ⟨r, hr, h⟩ := List.mem_flatMap.mp h
      unfold bkT at hr
      obtain ⟨r', hr', rfl⟩ := List.mem_map.mp hr
      exact T.ns r' hr' z (litO_mem h)
    · exact hz z (litO_mem h)
  omega
theorem bkT_snoc (tb : List TRow) (r : TRow) : bkT (tb ++ [r]) = bkT tb ++ [(r.1, r.2.1, litO r.2.2.2)] := by unfold bkT; rw [List.map_append]; rfl
theorem nuT_snoc (tb : List TRow) (r : TRow) : nuT (tb ++ [r]) = nuT tb ++ [r.1] := by unfold nuT; rw [List.map_append]; rfl
theorem rwT_snoc (tb : List TRow) (r : TRow) : rwT (tb ++ [r]) = rwT tb ++ [(r.2.2.1, r.2.2.2)] := by unfold rwT; rw [List.map_append]; rfl
theorem TI.put {nm : List Str} {tb : List TRow} {ab : List Int} {g : Int} (T : TI nm tb ab g) {zs : List Str} {c q : Addr} (hz : ∀ z ∈ zs, bare z ∈ nm) (R6 : Row6 zs) (h3 : zs.length ≤ 3) (hl : tb.length < 24) (hg : g < 900) : TI nm (tb ++ [(g + 1, c, q, zs)]) ab (g + 1) := by
  have mem : ∀ {r : TRow}, r ∈ tb ++ [(g + 1, c, q, zs)] → r ∈ tb ∨ r = (g + 1, c, q, zs) := fun h => by
    rcases List.mem_append.mp h with h | h
    · exact .inl h
    · exact .inr (by simpa using h)
  have fb := few_bk T.r6 T.r3
  have l6 := R6.litO
  refine ⟨?_, fun r hr => ?_, fun r hr => ?_, fun r hr => ?_, fun n hn => ?_, ?_⟩
  · rw [bkT_snoc]
    exact T.ok.put T.g0 (fun z h => R6.lit z (litO_mem h)) (by show _ + (litO zs).length ≤ 900; omega) (by rw [bkT_len]; omega)
  · rcases mem hr with h | rfl
    · exact T.r6 r h
    · exact R6
  · rcases mem hr with h | rfl
    · exact T.r3 r h
    · exact h3
  · rcases mem hr with h | rfl
    · exact T.ns r h
    · exact hz
  · obtain ⟨h1, h2⟩ := T.gone n hn
    refine ⟨fun h => ?_, by omega⟩
    rw [nuT_snoc] at h
    rcases List.mem_append.mp h with h | h
    · exact h1 h
    · have : n = g + 1 := by simpa using h
      omega
  · have := T.g0
    omega
theorem filt_erase : ∀ {tb : List TRow} {k : Nat} {r : TRow}, (nuT tb).Pairwise (· < ·) → tb[k]? = some r → ((bkT tb).filter fun x => decide (x.1 ≠ r.1)) = bkT (tb.eraseIdx k)
  | [], _, _, _, h => by cases h
  | a :: l, 0, r, asc, h => by
    have e : a = r := Option.some.inj h
    subst e
    unfold nuT at asc
    rw [List.map_cons, List.pairwise_cons] at asc
    unfold bkT
    rw [List.map_cons, List.filter_cons_of_neg (by simp), List.eraseIdx_cons_zero, List.filter_eq_self]
    intro x hx
    obtain ⟨y, hy, rfl⟩ := List.mem_map.mp hx
    have := asc.1 _ (List.mem_map_of_mem (f := fun x : TRow => x.1) hy)
    exact decide_eq_true (by show y.1 ≠ a.1; omega)
  | a :: l, k + 1, r, asc, h => by
    have h' : l[k]? = some r := h
    unfold nuT at asc
    rw [List.map_cons, List.pairwise_cons] at asc
    have := asc.1 _ (List.mem_map_of_mem (f := fun x : TRow => x.1) (List.mem_of_getElem? h'))
    have ih := filt_erase (tb := l) asc.2 h'
    unfold bkT at ih ⊢
    rw [List.map_cons, List.filter_cons_of_pos (p := fun x : BRow => decide (x.1 ≠ r.1)) (decide_eq_true (by show a.1 ≠ r.1; omega)), ih, List.eraseIdx_cons_succ, List.map_cons]
theorem TI.drop {nm : List Str} {tb : List TRow} {ab : List Int} {g : Int} (T : TI nm tb ab g) {k : Nat} {r : TRow} (h : tb[k]? = some r) : TI nm (tb.eraseIdx k) (ab ++ [r.1]) g := by
  have asc := T.ok.asc
  rw [bkT_nums] at asc
  have e := filt_erase asc h
  have sub : ∀ {x : TRow}, x ∈ tb.eraseIdx k → x ∈ tb := fun hx => List.mem_of_mem_eraseIdx hx
  have hr : ((r.1, r.2.1, litO r.2.2.2) : BRow) ∈ bkT tb := List.mem_map_of_mem (f := fun r : TRow => ((r.1, r.2.1, litO r.2.2.2) : BRow)) (List.mem_of_getElem? h)
  refine ⟨by rw [← e]; exact T.ok.drop _, fun x hx => T.r6 x (sub hx), fun x hx => T.r3 x (sub hx), fun x hx => T.ns x (sub hx), fun n hn => ?_, T.g0⟩
  rcases List.mem_append.mp hn with hn | hn
  · obtain ⟨h1, h2⟩ := T.gone n hn
    refine ⟨fun m => h1 ?_, h2⟩
    obtain ⟨x, hx, rfl⟩ := List.mem_map.mp m
    exact List.mem_map_of_mem (f := fun x : TRow => x.1) (sub hx)
  · have en : n = r.1 := by simpa using hn
    subst en
    refine ⟨fun m => ?_, .inl (T.ok.top _ hr).2⟩
    rw [← bkT_nums, ← e] at m
    obtain ⟨x, hx, e2⟩ := List.mem_map.mp m
    have := of_decide_eq_true (List.mem_filter.mp hx).2
    exact this e2
theorem er_map {α β : Type} {f : α → β} : ∀ {l : List α} {k : Nat}, (l.map f).eraseIdx k = (l.eraseIdx k).map f
  | [], _ => rfl
  | _ :: _, 0 => rfl
  | a :: l, k + 1 => congrArg (f a :: ·) (er_map (l := l) (k := k))
theorem at_ints {l : List Int} {i : Int} (h0 : 0 ≤ i) (h1 : i < (l.length : Int)) : ∃ z, z ∈ l ∧ atI (l.map V.int) i = some (.int z) := by
  obtain ⟨k, rfl⟩ := Int.eq_ofNat_of_zero_le h0
  have hk : k < l.length := by omega
  exact ⟨l[k], List.getElem_mem hk, atI_nat (by rw [List.getElem?_map, List.getElem?_eq_getElem hk]; rfl)⟩
theorem s_popAt {l : Addr} {xs : List V} {k : Nat} {y : V} {H : Hp} {Q : VK} (hp : H l = some (.lst xs)) (hy : xs[k]? = some y) (hk : k < 1000) (h : Q y (upd H l (.lst (xs.eraseIdx k)))) : rPopAt (.ref l) [.int k] H Q := by
  have hl := (List.getElem?_eq_some_iff.mp hy).1
  refine ⟨l, xs, k, k, y, rfl, rfl, hp, by omega, by omega, ?_, hy, h⟩
  have n0 : ¬ ((k : Int) < 0) := by omega
  have n1 : (0 : Int) ≤ k := by omega
  have n2 : (k : Int) < xs.length := by omega
  simp [seqIndex?, n0, n1, n2]
theorem s_ifor {t1 t2 : TT} {ta tb : TS} {D : Ends} {σ : L2.St} {H : Hp} (c1 c2 : Bool) (h1 : ∀ QB : Bool → Hp → Prop, QB c1 H → t1 σ H QB) (h2 : ∀ QB : Bool → Hp → Prop, QB c2 H → t2 σ H QB) (hA : c1 = true ∨ c2 = true → ta D σ H) (hB : c1 = false → c2 = false → tb D σ H) : tIfS (tOr t1 t2) ta tb D σ H := by
  refine h1 _ ?_
  cases c1 with
  | true => exact hA (.inl rfl)
  | false =>
    refine h2 _ ?_
    cases c2 with
    | true => exact hA (.inr rfl)
    | false => exact hB rfl rfl
theorem pure_law {K : PySem.W.Frag} {vs : List V} {H : Hp} {Q : VK} {E : XK} {W : WX} (h : sp_law K vs H Q E) : t_law K W { nx := fun _ H' => Q .non H', rt := Q } (start N_law vs) H := by
  obtain ⟨x, rfl, a, ns, rfl, hS, hl, hq⟩ := h
  show t_law K W _ [some (.ref a), none, none, none, none, none, none, none, none, none, none, none, none, none] H
  unfold t_law
  walk_at "ss"
  refine ⟨_, rfl, a, ns, rfl, hS, hl, fun H1 s s1 hs S1 => ?_⟩
  walk_at "ss"
  refine ⟨_, _, rfl, s, 5, rfl, rfl, S1, by decide, by decide, fun H2 p nm S2 b2 hpn hpa hp hnl hnm _ => ?_⟩
  walk_at "ss"
  refine book_new (rs := []) (by simp) (by simp) (by simp) (by simp) (fun n h => by cases h) fun _ H3 b d s3 hb hd B3 => ?_
  walk_at "ss"
  refine ⟨Nat.zero_le _, fun N hN => ?_⟩
  have s4 := same_new (o := HO.lst []) hN
  have h4 : upd H3 N (.lst []) N = some (.lst []) := upd_same
  generalize upd H3 N (.lst []) = H4 at s4 h4
  walk_at "ss"
  refine ⟨Nat.zero_le _, fun R hR => ?_⟩
  have s5 := same_new (o := HO.lst []) hR
  have h5 : upd H4 R (.lst []) R = some (.lst []) := upd_same
  generalize upd H4 R (.lst []) = H5 at s5 h5
  walk_at "ss"
  refine ⟨by show 3 ≤ sizeLine; rw [sizeLine_eq]; decide, fun A hA => ?_⟩
  have s6 := same_new (o := HO.lst [.int 0, .int (-1), .int 1000]) hA
  have h6 : upd H5 A (.lst [.int 0, .int (-1), .int 1000]) A = some (.lst [.int 0, .int (-1), .int 1000]) := upd_same
  generalize upd H5 A (.lst [.int 0, .int (-1), .int 1000]) = H6 at s6 h6
  have C : CC H2 s b d N R A := ⟨S2, hb, hd, same_un s3 hN, same_un (s3.trans s4) hR, same_un ((s3.trans s4).trans s5) hA, ne_of_none h4 hR, ne_of_none (s5 _ _ h4) hA, ne_of_none h5 hA⟩
  have S36 : Same H2 H6 := ((s3.trans s4).trans s5).trans s6
  have L6 : LL H2 s N R A (nuT []) (rwT []) [0, -1, 1000] H6 := ⟨S2.keep S36, Mov.of_same S36, (s5.trans s6) _ _ h4, ⟨s6 _ _ h5, fun r hr => (by cases hr)⟩, h6, fun r hr => (by cases hr)⟩
  have B6 : IsBk K H6 b d (bkT []) 0 := B3.keep ((s4.trans s5).trans s6)
  have T6 : TI nm [] [0, -1, 1000] 0 := ⟨⟨List.Pairwise.nil, fun r hr => (by cases hr), fun r hr => (by cases hr), Nat.zero_le _, Nat.zero_le _⟩, fun r hr => (by cases hr), fun r hr => (by cases hr), fun r hr => (by cases hr), fun n hn => ⟨(fun h => by cases h), by
    simp only [List.mem_cons, List.not_mem_nil, or_false] at hn
    omega⟩, by decide⟩
  walk_at "ss"
  refine s_cut (fun _ _ => True) ?_ ?_
  rotate_left
  · rintro σ' H' _
    walk_at "ss"
    exact hq H'
  walk_at "ss"
  refine forr_inv (by decide) (by decide) (fun i σ' H' => ∃ (tb : List TRow) (ab : List Int) (g : Int) (v9 v10 v11 v12 v13 : Option V), σ' = [some (.ref a), some (.ref s), some (.ref p), some (.ref b), some (.ref b), some (.ref N), some (.ref R), some (.ref A), some (.int (g + 1)), v9, v10, v11, v12, v13] ∧ LL H2 s N R A (nuT tb) (rwT tb) ab H' ∧ IsBk K H' b d (bkT tb) g ∧ TI nm tb ab g ∧ tb.length ≤ i ∧ g ≤ i ∧ ab.length ≤ 3 + i ∧ 3 ≤ ab.length)
    ⟨[], [0, -1, 1000], 0, _, _, _, _, _, rfl, L6, B6, T6, Nat.le_refl _, Int.le_refl _, Nat.le_refl _, Nat.le_refl _⟩ ?_ (fun _ _ _ => trivial)
  rintro i σ' H7 hi ⟨tb, ab, g, v9, v10, v11, v12, v13, rfl, L7, B7, T7, l1, l2, l3, l4⟩
  walk_at "ss"
  refine take_ok L7.src (by decide) (by decide) fun H8 deed S8 b8 d0 d1 => ?_
  have L8 := L7.go C b8 S8
  have B8 := B7.go L7.src b8
  have g0 := T7.g0
  walk_at "ss"
  refine s_cut (fun σ' H' => ∃ (tb : List TRow) (ab : List Int) (g : Int) (v10 v11 v12 v13 : Option V), σ' = [some (.ref a), some (.ref s), some (.ref p), some (.ref b), some (.ref b), some (.ref N), some (.ref R), some (.ref A), some (.int (g + 1)), some (.int i), v10, v11, v12, v13] ∧ LL H2 s N R A (nuT tb) (rwT tb) ab H' ∧ IsBk K H' b d (bkT tb) g ∧ TI nm tb ab g ∧ tb.length ≤ i + 1 ∧ g ≤ i + 1 ∧ ab.length ≤ 3 + (i + 1) ∧ 3 ≤ ab.length) ?_ ?_
  · refine s_ifor (decide (deed < 3)) (decide (tb.length = 0)) ?_ ?_ ?_ ?_
    · intro QB hQ
      walk_at "ss"
      exact hQ
    · intro QB hQ
      walk_at "ss"
      refine s_lenL L8.nu ?_
      walk_at "ss"
      rw [List.length_map, nuT_len]
      have e : decide ((tb.length : Int) = 0) = decide (tb.length = 0) := by
        by_cases h : tb.length = 0
        · rw [decide_eq_true h, decide_eq_true (by omega)]
        · rw [decide_eq_false h, decide_eq_false (by omega)]
      rw [e]
      exact hQ
    · intro _
      walk_at "ss"
      refine ⟨_, _, _, rfl, s, p, nm, 3, rfl, rfl, rfl, S8, hpa, L8.mov _ _ hp hpa, by omega, by omega, hnm, by decide, by decide, fun H9 q zs S9 b9 hq0 hqs hqz hzl hlit hnd hin => ?_⟩
      have L9 := L8.go C b9 S9
      have B9 := B8.go L8.src b9
      have R6 : Row6 zs := ⟨by omega, hlit, hnd⟩
      have room := T7.room hin (by omega) (by omega)
      have lit9 : ∀ z ∈ litO zs, isLit z = true := fun z h => hlit z (litO_mem h)
      have len9 : (litO zs).length ≤ 20 := by have := R6.litO; omega
      have offq : q ≠ s ∧ q ≠ N ∧ q ≠ R ∧ q ≠ A := ⟨hqs, (ne_of_none L8.nu hq0).symm, (ne_of_none L8.rw.li hq0).symm, (ne_of_none L8.ab hq0).symm⟩
      walk_at "ss"
      refine s_cut (fun σ' H' => σ' = [some (.ref a), some (.ref s), some (.ref p), some (.ref b), some (.ref b), some (.ref N), some (.ref R), some (.ref A), some (.int (g + 1)), some (.int i), some (.int deed), v11, some (.ref q), v13] ∧ ∃ c, LL H2 s N R A (nuT tb) (rwT tb) ab H' ∧ IsBk K H' b d (bkT tb ++ [(g + 1, c, litO zs)]) (g + 1) ∧ H' q = some (.lst (zs.map V.str))) ?_ ?_
      · walk_at "ss"
        refine s_itd (fun _ => ?_) (fun _ => ?_)
        · walk_at "ss"
          refine ⟨_, rfl, q, zs, rfl, hqz, R6.len, fun z h => by have := lit_len (hlit z h); omega, chk_fine hlit hnd (fun _ => Iff.rfl) (by omega) fun H10 c dc qc s10 _ c1 c2 => ?_⟩
          have B10 := B9.keep s10
          obtain ⟨dx, o⟩ := id B10.ob
          refine inp_go (sp_Book_iadd K) (by walk_at "mem") o ⟨_, _, rfl, b, d, c, _, g, _, rfl, rfl, B10, T7.ok, ⟨dc, qc, c1, c2⟩, lit9, len9, fun n hn => (by rw [room] at hn; cases hn), fun _ h => (by omega), fun _ _ H11 k11 B11 => ?_⟩
          refine ⟨rfl, c, (L9.same s10).chg C B10 k11, B11, ?_⟩
          have h10 := s10 _ _ hqz
          exact k11 _ _ h10 (ne_of h10 o (fun z => by cases z)) (ne_of h10 B10.di (fun z => by cases z))
        · walk_at "ss"
          obtain ⟨dx0, o0⟩ := id B9.ob
          refine meth_go (sp_Book_put K) (by walk_at "mem") o0 rfl ?_
          walk_at "ss"
          refine ⟨_, rfl, q, zs, rfl, hqz, R6.len, fun z h => by have := lit_len (hlit z h); omega, chk_fine hlit hnd (fun _ => Iff.rfl) (by omega) fun H10 c dc qc s10 _ c1 c2 => ?_⟩
          have B10 := B9.keep s10
          obtain ⟨dx, o⟩ := id B10.ob
          walk_at "ss"
          refine ⟨_, _, rfl, b, d, c, _, g, _, rfl, rfl, B10, T7.ok, ⟨dc, qc, c1, c2⟩, lit9, len9, fun n hn => (by rw [room] at hn; cases hn), fun _ h => (by omega), fun _ _ H11 k11 B11 => ?_⟩
          walk_at "ss"
          refine same_ok (.int _) (.int _) trivial fun H12 s12 => ?_
          walk_at "ss"
          refine s_itF rfl ?_
          walk_at "ss"
          refine ⟨rfl, c, ((L9.same s10).chg C B10 k11).same s12, B11.keep s12, ?_⟩
          have h10 := s10 _ _ hqz
          exact s12 _ _ (k11 _ _ h10 (ne_of h10 o (fun z => by cases z)) (ne_of h10 B10.di (fun z => by cases z)))
      · rintro σ' H10 ⟨rfl, c, L10, B10, hq10⟩
        walk_at "ss"
        refine s_tyL L10.nu ?_
        walk_at "ss"
        refine s_app L10.nu (by rw [List.length_map, nuT_len]; omega) ?_
        have eN : (nuT tb).map V.int ++ [V.int (g + 1)] = (nuT (tb ++ [(g + 1, c, q, zs)])).map V.int := by rw [nuT_snoc, List.map_append]; rfl
        rw [eN]
        have L11 := L10.putN (ns' := nuT (tb ++ [(g + 1, c, q, zs)])) C
        have B11 := B10.lst (o' := .lst ((nuT (tb ++ [(g + 1, c, q, zs)])).map V.int)) L10.nu
        have hq11 : upd H10 N (.lst ((nuT (tb ++ [(g + 1, c, q, zs)])).map V.int)) q = some (.lst (zs.map V.str)) := by rw [upd_ne offq.2.1]; exact hq10
        generalize upd H10 N (.lst ((nuT (tb ++ [(g + 1, c, q, zs)])).map V.int)) = H11 at L11 B11 hq11
        walk_at "ss"
        refine s_tyL L11.rw.li ?_
        walk_at "ss"
        refine s_app L11.rw.li (by rw [List.length_map]; unfold rwT; rw [List.length_map]; omega) ?_
        have eR : (rwT tb).map (fun r => V.ref r.1) ++ [V.ref q] = (rwT (tb ++ [(g + 1, c, q, zs)])).map (fun r => V.ref r.1) := by rw [rwT_snoc, List.map_append]; rfl
        rw [eR]
        have L12 := L11.putR (rs' := rwT (tb ++ [(g + 1, c, q, zs)])) C fun r hr => by
          rw [rwT_snoc] at hr
          rcases List.mem_append.mp hr with hr | hr
          · exact ⟨L11.rw.ro r hr, L11.off r hr⟩
          · have e : r = (q, zs) := by simpa using hr
            subst e
            exact ⟨hq11, offq⟩
        have B12 := B11.lst (o' := .lst ((rwT (tb ++ [(g + 1, c, q, zs)])).map fun r => V.ref r.1)) L11.rw.li
        walk_at "ss"
        exact ⟨_, ab, g + 1, _, _, _, _, rfl, L12, by rw [bkT_snoc]; exact B12, T7.put hin R6 (by omega) (by omega) (by omega), by rw [List.length_append]; simp; omega, by omega, by omega, l4⟩
    · intro e1 e2
      have e1 := of_decide_eq_false e1
      have e2 := of_decide_eq_false e2
      walk_at "ss"
      refine s_lenL L8.nu ?_
      walk_at "ss"
      rw [List.length_map, nuT_len]
      refine s_cut (fun σ' H' => ∃ k : Nat, k < tb.length ∧ σ' = [some (.ref a), some (.ref s), some (.ref p), some (.ref b), some (.ref b), some (.ref N), some (.ref R), some (.ref A), some (.int (g + 1)), some (.int i), some (.int deed), v11, v12, some (.int k)] ∧ LL H2 s N R A (nuT tb) (rwT tb) ab H' ∧ IsBk K H' b d (bkT tb) g) ?_ ?_
      · walk_at "ss"
        refine s_itd (fun _ => ?_) (fun _ => ?_)
        · walk_at "ss"
          refine s_lenL L8.nu ?_
          walk_at "ss"
          rw [List.length_map, nuT_len]
          refine take_ok S8 (by omega) (by omega) fun H9 k S9 b9 k0 k1 => ?_
          obtain ⟨k, rfl⟩ := Int.eq_ofNat_of_zero_le k0
          exact ⟨k, by omega, rfl, L8.go C b9 S9, B8.go L8.src b9⟩
        · walk_at "ss"
          refine ⟨tb.length - 1, by omega, ?_, L8, B8⟩
          rw [show (((tb.length - 1 : Nat)) : Int) = (tb.length : Int) - 1 by omega]
          rfl
      rintro σ' H9 ⟨k, hk, rfl, L9, B9⟩
      obtain ⟨r, hr⟩ : ∃ r, tb[k]? = some r := ⟨tb[k], List.getElem?_eq_getElem hk⟩
      have hm := List.mem_of_getElem? hr
      have r6 := T7.r6 r hm
      have hN9 : ((nuT tb).map V.int)[k]? = some (.int r.1) := by unfold nuT; rw [List.getElem?_map, List.getElem?_map, hr]; rfl
      have hR9 : ((rwT tb).map fun r => V.ref r.1)[k]? = some (.ref r.2.2.1) := by unfold rwT; rw [List.getElem?_map, List.getElem?_map, hr]; rfl
      have hrow : ((r.1, r.2.1, litO r.2.2.2) : BRow) ∈ bkT tb := List.mem_map_of_mem (f := fun r : TRow => ((r.1, r.2.1, litO r.2.2.2) : BRow)) hm
      have asc := T7.ok.asc
      rw [bkT_nums] at asc
      have hin : r.1 ∈ (bkT tb).map (·.1) := List.mem_map_of_mem (f := fun r : BRow => r.1) hrow
      obtain ⟨dx, o⟩ := id B9.ob
      walk_at "ss"
      refine s_cut (fun σ' H' => σ' = [some (.ref a), some (.ref s), some (.ref p), some (.ref b), some (.ref b), some (.ref N), some (.ref R), some (.ref A), some (.int (g + 1)), some (.int i), some (.int deed), v11, v12, some (.int k)] ∧ LL H2 s N R A (nuT tb) (rwT tb) ab H' ∧ IsBk K H' b d (bkT (tb.eraseIdx k)) g) ?_ ?_
      · walk_at "ss"
        refine s_itd (fun _ => ?_) (fun _ => ?_)
        · walk_at "ss"
          refine s_ixL L9.nu (atI_nat hN9) ?_
          refine inp_go (sp_Book_isub K) (by walk_at "mem") o ⟨_, _, rfl, b, d, _, g, r.1, rfl, rfl, B9, fun h => absurd hin h, fun _ H10 k10 B10 => ?_⟩
          rw [filt_erase asc hr] at B10
          exact ⟨rfl, L9.chg C B9 k10, B10⟩
        · walk_at "ss"
          refine meth_go (sp_Book_drop K) (by walk_at "mem") o rfl ?_
          walk_at "ss"
          refine s_ixL L9.nu (atI_nat hN9) ?_
          walk_at "ss"
          refine ⟨_, _, rfl, b, d, _, g, r.1, rfl, rfl, B9, fun h => absurd hin h, fun r' hr' H10 k10 B10 C10 => ?_⟩
          rw [rowAt_of T7.ok.asc hrow] at hr'
          have e3 := Option.some.inj hr'
          subst e3
          rw [filt_erase asc hr] at B10
          have L10 := L9.chg C B9 k10
          obtain ⟨dc, qc, c1, c2⟩ := C10
          refine fld_go "literals" (by walk_at "mem") c1 rfl ?_
          walk_at "ss"
          refine s_ixL L10.rw.li (atI_nat hR9) ?_
          walk_at "ss"
          refine ⟨_, rfl, r.2.2.1, r.2.2.2, rfl, L10.rw.ro (r.2.2.1, r.2.2.2) (List.mem_map_of_mem (f := fun r : TRow => (r.2.2.1, r.2.2.2)) hm), by have := r6.len; omega, fun z hz => Nat.le_trans (lit_len (r6.lit z hz)) (by decide), fun H11 q11 s11 _ h11 => ?_⟩
          walk_at "ss"
          refine s_tupL h11 fun t ht => ?_
          have s12 := s11.trans (same_new (o := HO.tup ((litO r.2.2.2).map V.str)) ht)
          walk_at "ss"
          refine same_ok (.tup (s12 _ _ c2) (IsAll.strs _)) (.tup upd_same (IsAll.strs _)) (fits_strs (l := litO r.2.2.2) (by have := r6.litO; have := r6.len; omega)).1 fun H13 s13 => ?_
          walk_at "ss"
          refine s_itF rfl ?_
          walk_at "ss"
          exact ⟨rfl, L10.same (s12.trans s13), B10.keep (s12.trans s13)⟩
      rintro σ' H10 ⟨rfl, L10, B10⟩
      walk_at "ss"
      refine s_tyL L10.ab ?_
      walk_at "ss"
      refine s_tyL L10.nu ?_
      walk_at "ss"
      refine s_popAt L10.nu hN9 (by omega) ?_
      have eN : ((nuT tb).map V.int).eraseIdx k = (nuT (tb.eraseIdx k)).map V.int := by unfold nuT; rw [er_map, er_map]
      rw [eN]
      have L11 := L10.putN (ns' := nuT (tb.eraseIdx k)) C
      have B11 := B10.lst (o' := .lst ((nuT (tb.eraseIdx k)).map V.int)) L10.nu
      generalize upd H10 N (.lst ((nuT (tb.eraseIdx k)).map V.int)) = H11 at L11 B11
      walk_at "ss"
      refine s_app L11.ab (by rw [List.length_map]; omega) ?_
      have eA : ab.map V.int ++ [V.int r.1] = (ab ++ [r.1]).map V.int := by rw [List.map_append]; rfl
      rw [eA]
      have L12 := L11.putA (ab' := ab ++ [r.1]) C
      have B12 := B11.lst (o' := .lst ((ab ++ [r.1]).map V.int)) L11.ab
      generalize upd H11 A (.lst ((ab ++ [r.1]).map V.int)) = H12 at L12 B12
      walk_at "ss"
      refine s_tyL L12.rw.li ?_
      walk_at "ss"
      refine s_popAt L12.rw.li hR9 (by omega) ?_
      have eR : ((rwT tb).map fun r => V.ref r.1).eraseIdx k = (rwT (tb.eraseIdx k)).map fun r => V.ref r.1 := by unfold rwT; rw [er_map, er_map]
      rw [eR]
      have L13 := L12.putR (rs' := rwT (tb.eraseIdx k)) C fun x hx => by
        unfold rwT at hx
        obtain ⟨y, hy, rfl⟩ := List.mem_map.mp hx
        have hy' : ((y.2.2.1, y.2.2.2) : Addr × List Str) ∈ rwT tb := List.mem_map_of_mem (f := fun r : TRow => (r.2.2.1, r.2.2.2)) (List.mem_of_mem_eraseIdx hy)
        exact ⟨L12.rw.ro _ hy', L12.off _ hy'⟩
      have B13 := B12.lst (o' := .lst ((rwT (tb.eraseIdx k)).map fun r => V.ref r.1)) L12.rw.li
      have lE := List.length_eraseIdx_le tb k
      exact ⟨_, _, g, _, _, _, _, rfl, L13, B13, T7.drop hr, by omega, by omega, by rw [List.length_append]; simp; omega, by rw [List.length_append]; omega⟩
  clear L8 B8 L7 B7 T7 l1 l2 l3 l4 S8 b8 g0
  rintro σ' H9 ⟨tb, ab, g, v10, v11, v12, v13, rfl, L9, B9, T9, l1, l2, l3, l4⟩
  have g0 := T9.g0
  have few := few_rw T9.r3
  have st : ∀ {H' : Hp} {Q' : VK} {E' : XK}, LL H2 s N R A (nuT tb) (rwT tb) ab H' → IsBk K H' b d (bkT tb) g → (∀ H'', Same H' H'' → Q' (.bl true) H'') → sp_law_state K [.ref b, .ref N, .ref R, .int (g + 1)] H' Q' E' := fun L B h => ⟨_, _, _, _, rfl, b, d, N, R, tb, g, rfl, rfl, rfl, rfl, B, T9.ok, L.nu, L.rw, T9.r6, by omega, g0, by omega, h⟩
  refine s_nocut ?_
  walk_at "ss"
  refine st L9 B9 fun H10 s10 => ?_
  walk_at "ss"
  refine s_itF rfl ?_
  walk_at "ss"
  refine st (L9.same s10) (B9.keep s10) fun H11 s11 => ?_
  have S11 := s10.trans s11
  have L11 := L9.same S11
  have B11 := B9.keep S11
  walk_at "ss"
  refine s_itF rfl ?_
  walk_at "ss"
  refine s_cut (fun σ' H' => ∃ v11, σ' = [some (.ref a), some (.ref s), some (.ref p), some (.ref b), some (.ref b), some (.ref N), some (.ref R), some (.ref A), some (.int (g + 1)), some (.int i), v10, v11, v12, v13] ∧ Same H11 H') ?_ ?_
  · walk_at "ss"
    refine s_lenL L11.ab ?_
    walk_at "ss"
    rw [List.length_map]
    refine ⟨by omega, ?_⟩
    obtain ⟨n1, hn1, e1⟩ := at_ints (l := ab) (i := (i : Int).fmod ab.length) (Int.fmod_nonneg (by omega) (by omega)) (Int.fmod_lt_of_pos _ (by omega))
    refine s_ixL L11.ab e1 ?_
    walk_at "ss"
    refine s_lenL L11.ab ?_
    walk_at "ss"
    rw [List.length_map]
    obtain ⟨n2, hn2, e2⟩ := at_ints (l := ab) (i := (ab.length : Int) - 1) (by omega) (by omega)
    refine s_ixL L11.ab e2 ?_
    walk_at "ss"
    refine ⟨by show 3 ≤ sizeLine; rw [sizeLine_eq]; decide, fun l hl => ?_⟩
    have s12 := same_new (o := HO.lst [.int (g + 1), .int n1, .int n2]) hl
    have h12 : upd H11 l (HO.lst [.int (g + 1), .int n1, .int n2]) l = _ := upd_same
    generalize upd H11 l (HO.lst [.int (g + 1), .int n1, .int n2]) = H12 at s12 h12
    refine forb_list (xs := [.int (g + 1), .int n1, .int n2]) (fun _ σ' H' => ∃ v11, σ' = [some (.ref a), some (.ref s), some (.ref p), some (.ref b), some (.ref b), some (.ref N), some (.ref R), some (.ref A), some (.int (g + 1)), some (.int i), v10, v11, v12, v13] ∧ Same H12 H') ⟨_, rfl, Same.refl _⟩ ?_ ?_ ?_
    · rintro j σ' H' _ ⟨v, rfl, s13⟩
      exact SqL.of (s13 _ _ h12)
    · rintro j y σ' H13 hj ⟨v, rfl, s13⟩
      have hy : ∃ n : Int, y = .int n ∧ n ∉ nuT tb := by
        have hm := List.mem_of_getElem? hj
        simp only [List.mem_cons, List.not_mem_nil, or_false] at hm
        rcases hm with rfl | rfl | rfl
        · exact ⟨_, rfl, by rw [← bkT_nums]; exact T9.ok.fresh⟩
        · exact ⟨_, rfl, (T9.gone _ hn1).1⟩
        · exact ⟨_, rfl, (T9.gone _ hn2).1⟩
      obtain ⟨n, rfl, hn⟩ := hy
      walk_at "ss"
      refine ⟨by show (3 : Int) ≠ 0; decide, ?_⟩
      walk_at "ss"
      refine ⟨_, _, _, rfl, b, d, _, g, n, _, rfl, rfl, rfl, B11.keep (s12.trans s13), by rw [bkT_nums]; exact hn, fun H14 s14 => ?_⟩
      walk_at "ss"
      refine s_itF rfl ?_
      walk_at "ss"
      exact ⟨_, rfl, s13.trans s14⟩
    · rintro σ' H' ⟨v, rfl, s13⟩
      exact ⟨v, rfl, s12.trans s13⟩
  rintro σ' H14 ⟨v11', rfl, s14⟩
  walk_at "ss"
  refine st (L11.same s14) (B11.keep s14) fun H15 s15 => ?_
  walk_at "ss"
  refine s_itF rfl ?_
  walk_at "ss"
  exact ⟨tb, ab, g, _, _, _, _, _, rfl, L11.same (s14.trans s15), B11.keep (s14.trans s15), T9, l1, by omega, l3, l4⟩
end Rd
end
namespace Ok
open PySem PySem.Spec PyProof.Rows L2 He Hk Px Rd
structure Tx (w : World) (K : PySem.W.Frag) (mg : PySem.Str → Option Value) : Prop where
  c : SaysZ Hd.fa Hd.ex Hd.its K
  g : ∃ h : Heap, K.In h ∧ h.Ns mainGlobals mg
section
variable {w : World} {K : PySem.W.Frag} {mg : PySem.Str → Option Value}
theorem Tx.g_is_name (T : Tx w K mg) : mg "is_name" = some (.ref (ga K "is_name")) := by
  obtain ⟨h, X, G⟩ := T.g
  exact glo_ok X G (T.c.fact 0 (f := .glo "is_name") rfl)
theorem Tx.g_is_literal (T : Tx w K mg) : mg "is_literal" = some (.ref (ga K "is_literal")) := by
  obtain ⟨h, X, G⟩ := T.g
  exact glo_ok X G (T.c.fact 1 (f := .glo "is_literal") rfl)
theorem Tx.g_name_of (T : Tx w K mg) : mg "name_of" = some (.ref (ga K "name_of")) := by
  obtain ⟨h, X, G⟩ := T.g
  exact glo_ok X G (T.c.fact 2 (f := .glo "name_of") rfl)
theorem Tx.g_ordered_names (T : Tx w K mg) : mg "ordered_names" = some (.ref (ga K "ordered_names")) := by
  obtain ⟨h, X, G⟩ := T.g
  exact glo_ok X G (T.c.fact 3 (f := .glo "ordered_names") rfl)
theorem Tx.g_in_order (T : Tx w K mg) : mg "in_order" = some (.ref (ga K "in_order")) := by
  obtain ⟨h, X, G⟩ := T.g
  exact glo_ok X G (T.c.fact 4 (f := .glo "in_order") rfl)
theorem Tx.g_twice_named (T : Tx w K mg) : mg "twice_named" = some (.ref (ga K "twice_named")) := by
  obtain ⟨h, X, G⟩ := T.g
  exact glo_ok X G (T.c.fact 5 (f := .glo "twice_named") rfl)
theorem Tx.g_checked_facts (T : Tx w K mg) : mg "checked_facts" = some (.ref (ga K "checked_facts")) := by
  obtain ⟨h, X, G⟩ := T.g
  exact glo_ok X G (T.c.fact 6 (f := .glo "checked_facts") rfl)
theorem Tx.g_names_of (T : Tx w K mg) : mg "names_of" = some (.ref (ga K "names_of")) := by
  obtain ⟨h, X, G⟩ := T.g
  exact glo_ok X G (T.c.fact 7 (f := .glo "names_of") rfl)
theorem Tx.g_names_in (T : Tx w K mg) : mg "names_in" = some (.ref (ga K "names_in")) := by
  obtain ⟨h, X, G⟩ := T.g
  exact glo_ok X G (T.c.fact 8 (f := .glo "names_in") rfl)
theorem Tx.g_check_sizes (T : Tx w K mg) : mg "check_sizes" = some (.ref (ga K "check_sizes")) := by
  obtain ⟨h, X, G⟩ := T.g
  exact glo_ok X G (T.c.fact 9 (f := .glo "check_sizes") rfl)
theorem Tx.g_law_source (T : Tx w K mg) : mg "_law_source" = some (.ref (ga K "_law_source")) := by
  obtain ⟨h, X, G⟩ := T.g
  exact glo_ok X G (T.c.fact 10 (f := .glo "_law_source") rfl)
theorem Tx.g_law_take (T : Tx w K mg) : mg "_law_take" = some (.ref (ga K "_law_take")) := by
  obtain ⟨h, X, G⟩ := T.g
  exact glo_ok X G (T.c.fact 11 (f := .glo "_law_take") rfl)
theorem Tx.g_law_word (T : Tx w K mg) : mg "_law_word" = some (.ref (ga K "_law_word")) := by
  obtain ⟨h, X, G⟩ := T.g
  exact glo_ok X G (T.c.fact 12 (f := .glo "_law_word") rfl)
theorem Tx.g_law_names (T : Tx w K mg) : mg "_law_names" = some (.ref (ga K "_law_names")) := by
  obtain ⟨h, X, G⟩ := T.g
  exact glo_ok X G (T.c.fact 13 (f := .glo "_law_names") rfl)
theorem Tx.g_law_name (T : Tx w K mg) : mg "_law_name" = some (.ref (ga K "_law_name")) := by
  obtain ⟨h, X, G⟩ := T.g
  exact glo_ok X G (T.c.fact 14 (f := .glo "_law_name") rfl)
theorem Tx.g_law_sorted (T : Tx w K mg) : mg "_law_sorted" = some (.ref (ga K "_law_sorted")) := by
  obtain ⟨h, X, G⟩ := T.g
  exact glo_ok X G (T.c.fact 15 (f := .glo "_law_sorted") rfl)
theorem Tx.g_law_ordered (T : Tx w K mg) : mg "_law_ordered" = some (.ref (ga K "_law_ordered")) := by
  obtain ⟨h, X, G⟩ := T.g
  exact glo_ok X G (T.c.fact 16 (f := .glo "_law_ordered") rfl)
theorem Tx.g_law_same (T : Tx w K mg) : mg "_law_same" = some (.ref (ga K "_law_same")) := by
  obtain ⟨h, X, G⟩ := T.g
  exact glo_ok X G (T.c.fact 17 (f := .glo "_law_same") rfl)
theorem Tx.g_law_row (T : Tx w K mg) : mg "_law_row" = some (.ref (ga K "_law_row")) := by
  obtain ⟨h, X, G⟩ := T.g
  exact glo_ok X G (T.c.fact 18 (f := .glo "_law_row") rfl)
theorem Tx.g_law_clause (T : Tx w K mg) : mg "_law_clause" = some (.ref (ga K "_law_clause")) := by
  obtain ⟨h, X, G⟩ := T.g
  exact glo_ok X G (T.c.fact 19 (f := .glo "_law_clause") rfl)
theorem Tx.g_law_names_in (T : Tx w K mg) : mg "_law_names_in" = some (.ref (ga K "_law_names_in")) := by
  obtain ⟨h, X, G⟩ := T.g
  exact glo_ok X G (T.c.fact 20 (f := .glo "_law_names_in") rfl)
theorem Tx.g_law_state (T : Tx w K mg) : mg "_law_state" = some (.ref (ga K "_law_state")) := by
  obtain ⟨h, X, G⟩ := T.g
  exact glo_ok X G (T.c.fact 21 (f := .glo "_law_state") rfl)
theorem Tx.g_law_absent (T : Tx w K mg) : mg "_law_absent" = some (.ref (ga K "_law_absent")) := by
  obtain ⟨h, X, G⟩ := T.g
  exact glo_ok X G (T.c.fact 22 (f := .glo "_law_absent") rfl)
theorem Tx.g_law (T : Tx w K mg) : mg "law" = some (.ref (ga K "law")) := by
  obtain ⟨h, X, G⟩ := T.g
  exact glo_ok X G (T.c.fact 23 (f := .glo "law") rfl)
theorem Tx.g_Clause (T : Tx w K mg) : mg "Clause" = some (.ref (ga K "Clause")) := by
  obtain ⟨h, X, G⟩ := T.g
  exact glo_ok X G (T.c.fact 24 (f := .glo "Clause") rfl)
theorem Tx.cls_Clause (T : Tx w K mg) : Cls K (ga K "Clause") := cls_ok (T.c.fact 25 (f := .cls "Clause") rfl)
theorem Tx.mk_Clause (T : Tx w K mg) : Mk K (ga K "Clause") (ma K (ga K "Clause") "__init__") := mkr_ok (T.c.fact 26 (f := .mkr "Clause") rfl)
theorem Tx.no_Clause_literals (T : Tx w K mg) : NoAttr K (ga K "Clause") "literals" := noat_ok (T.c.fact 27 (f := .noat "Clause" "literals") rfl)
theorem Tx.g_Turning (T : Tx w K mg) : mg "Turning" = some (.ref (ga K "Turning")) := by
  obtain ⟨h, X, G⟩ := T.g
  exact glo_ok X G (T.c.fact 28 (f := .glo "Turning") rfl)
theorem Tx.cls_Turning (T : Tx w K mg) : Cls K (ga K "Turning") := cls_ok (T.c.fact 29 (f := .cls "Turning") rfl)
theorem Tx.no_Turning_turned (T : Tx w K mg) : NoAttr K (ga K "Turning") "turned" := noat_ok (T.c.fact 30 (f := .noat "Turning" "turned") rfl)
theorem Tx.g_Book (T : Tx w K mg) : mg "Book" = some (.ref (ga K "Book")) := by
  obtain ⟨h, X, G⟩ := T.g
  exact glo_ok X G (T.c.fact 31 (f := .glo "Book") rfl)
theorem Tx.cls_Book (T : Tx w K mg) : Cls K (ga K "Book") := cls_ok (T.c.fact 32 (f := .cls "Book") rfl)
theorem Tx.mk_Book (T : Tx w K mg) : Mk K (ga K "Book") (ma K (ga K "Book") "__init__") := mkr_ok (T.c.fact 33 (f := .mkr "Book") rfl)
theorem Tx.no_Book_greatest (T : Tx w K mg) : NoAttr K (ga K "Book") "greatest" := noat_ok (T.c.fact 34 (f := .noat "Book" "greatest") rfl)
theorem Tx.no_Book_rows (T : Tx w K mg) : NoAttr K (ga K "Book") "rows" := noat_ok (T.c.fact 35 (f := .noat "Book" "rows") rfl)
theorem Tx.g_HornError (T : Tx w K mg) : mg "HornError" = some (.ref (ga K "HornError")) := by
  obtain ⟨h, X, G⟩ := T.g
  exact glo_ok X G (T.c.fact 36 (f := .glo "HornError") rfl)
theorem Tx.g_BadName (T : Tx w K mg) : mg "BadName" = some (.ref (ga K "BadName")) := by
  obtain ⟨h, X, G⟩ := T.g
  exact glo_ok X G (T.c.fact 37 (f := .glo "BadName") rfl)
theorem Tx.g_BadLiteral (T : Tx w K mg) : mg "BadLiteral" = some (.ref (ga K "BadLiteral")) := by
  obtain ⟨h, X, G⟩ := T.g
  exact glo_ok X G (T.c.fact 38 (f := .glo "BadLiteral") rfl)
theorem Tx.g_BothSigns (T : Tx w K mg) : mg "BothSigns" = some (.ref (ga K "BothSigns")) := by
  obtain ⟨h, X, G⟩ := T.g
  exact glo_ok X G (T.c.fact 39 (f := .glo "BothSigns") rfl)
theorem Tx.g_TooMany (T : Tx w K mg) : mg "TooMany" = some (.ref (ga K "TooMany")) := by
  obtain ⟨h, X, G⟩ := T.g
  exact glo_ok X G (T.c.fact 40 (f := .glo "TooMany") rfl)
theorem Tx.g_NoClause (T : Tx w K mg) : mg "NoClause" = some (.ref (ga K "NoClause")) := by
  obtain ⟨h, X, G⟩ := T.g
  exact glo_ok X G (T.c.fact 41 (f := .glo "NoClause") rfl)
theorem Tx.g_BadNumber (T : Tx w K mg) : mg "BadNumber" = some (.ref (ga K "BadNumber")) := by
  obtain ⟨h, X, G⟩ := T.g
  exact glo_ok X G (T.c.fact 42 (f := .glo "BadNumber") rfl)
theorem Tx.c_LETTERS (T : Tx w K mg) : ∃ t, mg "LETTERS" = some (.str "abcdefghijklmnopqrstuvwxyz" t) := by
  obtain ⟨h, X, G⟩ := T.g
  exact str_ok X G (T.c.fact 43 (f := .str "LETTERS" "abcdefghijklmnopqrstuvwxyz") rfl)
theorem Tx.c_SIGNS (T : Tx w K mg) : ∃ t, mg "SIGNS" = some (.str "abcdefghijklmnopqrstuvwxyz0123456789" t) := by
  obtain ⟨h, X, G⟩ := T.g
  exact str_ok X G (T.c.fact 44 (f := .str "SIGNS" "abcdefghijklmnopqrstuvwxyz0123456789") rfl)
theorem Tx.c_NAME_SIZE (T : Tx w K mg) : ∃ t, mg "NAME_SIZE" = some (.int 8 t) := by
  obtain ⟨h, X, G⟩ := T.g
  exact int_ok X G (T.c.fact 45 (f := .int "NAME_SIZE" 8) rfl)
theorem Tx.f_NotImplemented (T : Tx w K mg) : mg "NotImplemented" = none := by
  obtain ⟨h, X, G⟩ := T.g
  exact free_ok X G (T.c.fact 46 (f := .free "NotImplemented") rfl)
theorem Tx.f_ValueError (T : Tx w K mg) : mg "ValueError" = none := by
  obtain ⟨h, X, G⟩ := T.g
  exact free_ok X G (T.c.fact 47 (f := .free "ValueError") rfl)
theorem Tx.f_all (T : Tx w K mg) : mg "all" = none := by
  obtain ⟨h, X, G⟩ := T.g
  exact free_ok X G (T.c.fact 48 (f := .free "all") rfl)
theorem Tx.f_bool (T : Tx w K mg) : mg "bool" = none := by
  obtain ⟨h, X, G⟩ := T.g
  exact free_ok X G (T.c.fact 49 (f := .free "bool") rfl)
theorem Tx.f_classmethod (T : Tx w K mg) : mg "classmethod" = none := by
  obtain ⟨h, X, G⟩ := T.g
  exact free_ok X G (T.c.fact 50 (f := .free "classmethod") rfl)
theorem Tx.f_int (T : Tx w K mg) : mg "int" = none := by
  obtain ⟨h, X, G⟩ := T.g
  exact free_ok X G (T.c.fact 51 (f := .free "int") rfl)
theorem Tx.f_isinstance (T : Tx w K mg) : mg "isinstance" = none := by
  obtain ⟨h, X, G⟩ := T.g
  exact free_ok X G (T.c.fact 52 (f := .free "isinstance") rfl)
theorem Tx.f_iter (T : Tx w K mg) : mg "iter" = none := by
  obtain ⟨h, X, G⟩ := T.g
  exact free_ok X G (T.c.fact 53 (f := .free "iter") rfl)
theorem Tx.f_len (T : Tx w K mg) : mg "len" = none := by
  obtain ⟨h, X, G⟩ := T.g
  exact free_ok X G (T.c.fact 54 (f := .free "len") rfl)
theorem Tx.f_list (T : Tx w K mg) : mg "list" = none := by
  obtain ⟨h, X, G⟩ := T.g
  exact free_ok X G (T.c.fact 55 (f := .free "list") rfl)
theorem Tx.f_property (T : Tx w K mg) : mg "property" = none := by
  obtain ⟨h, X, G⟩ := T.g
  exact free_ok X G (T.c.fact 56 (f := .free "property") rfl)
theorem Tx.f_range (T : Tx w K mg) : mg "range" = none := by
  obtain ⟨h, X, G⟩ := T.g
  exact free_ok X G (T.c.fact 57 (f := .free "range") rfl)
theorem Tx.f_sorted (T : Tx w K mg) : mg "sorted" = none := by
  obtain ⟨h, X, G⟩ := T.g
  exact free_ok X G (T.c.fact 58 (f := .free "sorted") rfl)
theorem Tx.f_staticmethod (T : Tx w K mg) : mg "staticmethod" = none := by
  obtain ⟨h, X, G⟩ := T.g
  exact free_ok X G (T.c.fact 59 (f := .free "staticmethod") rfl)
theorem Tx.f_str (T : Tx w K mg) : mg "str" = none := by
  obtain ⟨h, X, G⟩ := T.g
  exact free_ok X G (T.c.fact 60 (f := .free "str") rfl)
theorem Tx.f_tuple (T : Tx w K mg) : mg "tuple" = none := by
  obtain ⟨h, X, G⟩ := T.g
  exact free_ok X G (T.c.fact 61 (f := .free "tuple") rfl)
theorem Tx.f_zip (T : Tx w K mg) : mg "zip" = none := by
  obtain ⟨h, X, G⟩ := T.g
  exact free_ok X G (T.c.fact 62 (f := .free "zip") rfl)
theorem Tx.exm_BadName_NoClause (T : Tx w K mg) : PySem.W.exmOne K (.ref (ga K "BadName")) (.ref (ga K "NoClause")) = some false := exm_ok (T.c.fact 63 (f := .exm "BadName" "NoClause" false) rfl)
theorem Tx.exm_BadLiteral_NoClause (T : Tx w K mg) : PySem.W.exmOne K (.ref (ga K "BadLiteral")) (.ref (ga K "NoClause")) = some false := exm_ok (T.c.fact 64 (f := .exm "BadLiteral" "NoClause" false) rfl)
theorem Tx.exm_BothSigns_NoClause (T : Tx w K mg) : PySem.W.exmOne K (.ref (ga K "BothSigns")) (.ref (ga K "NoClause")) = some false := exm_ok (T.c.fact 65 (f := .exm "BothSigns" "NoClause" false) rfl)
theorem Tx.exm_TooMany_NoClause (T : Tx w K mg) : PySem.W.exmOne K (.ref (ga K "TooMany")) (.ref (ga K "NoClause")) = some false := exm_ok (T.c.fact 66 (f := .exm "TooMany" "NoClause" false) rfl)
theorem Tx.exm_NoClause_NoClause (T : Tx w K mg) : PySem.W.exmOne K (.ref (ga K "NoClause")) (.ref (ga K "NoClause")) = some true := exm_ok (T.c.fact 67 (f := .exm "NoClause" "NoClause" true) rfl)
theorem Tx.exm_BadNumber_NoClause (T : Tx w K mg) : PySem.W.exmOne K (.ref (ga K "BadNumber")) (.ref (ga K "NoClause")) = some false := exm_ok (T.c.fact 68 (f := .exm "BadNumber" "NoClause" false) rfl)
theorem Tx.own_Clause_iter (T : Tx w K mg) : Cl.OwnOp K (ga K "Clause") "__iter__" (ma K (ga K "Clause") "__iter__") := ownB_ok (T.c.more 0 (f := fun K => Hk.ownB K (ga K "Clause") "__iter__") rfl)
theorem Tx.own_Clause_len (T : Tx w K mg) : Cl.OwnOp K (ga K "Clause") "__len__" (ma K (ga K "Clause") "__len__") := ownB_ok (T.c.more 1 (f := fun K => Hk.ownB K (ga K "Clause") "__len__") rfl)
theorem Tx.own_Clause_contains (T : Tx w K mg) : Cl.OwnOp K (ga K "Clause") "__contains__" (ma K (ga K "Clause") "__contains__") := ownB_ok (T.c.more 2 (f := fun K => Hk.ownB K (ga K "Clause") "__contains__") rfl)
theorem Tx.own_Turning_iter (T : Tx w K mg) : Cl.OwnOp K (ga K "Turning") "__iter__" (ma K (ga K "Turning") "__iter__") := ownB_ok (T.c.more 3 (f := fun K => Hk.ownB K (ga K "Turning") "__iter__") rfl)
theorem Tx.own_Turning_len (T : Tx w K mg) : Cl.OwnOp K (ga K "Turning") "__len__" (ma K (ga K "Turning") "__len__") := ownB_ok (T.c.more 4 (f := fun K => Hk.ownB K (ga K "Turning") "__len__") rfl)
theorem Tx.own_Turning_contains (T : Tx w K mg) : Cl.OwnOp K (ga K "Turning") "__contains__" (ma K (ga K "Turning") "__contains__") := ownB_ok (T.c.more 5 (f := fun K => Hk.ownB K (ga K "Turning") "__contains__") rfl)
theorem Tx.own_Turning_getitem (T : Tx w K mg) : Cl.OwnOp K (ga K "Turning") "__getitem__" (ma K (ga K "Turning") "__getitem__") := ownB_ok (T.c.more 6 (f := fun K => Hk.ownB K (ga K "Turning") "__getitem__") rfl)
theorem Tx.own_Book_need_room (T : Tx w K mg) : Cl.OwnOp K (ga K "Book") "need_room" (ma K (ga K "Book") "need_room") := ownB_ok (T.c.more 7 (f := fun K => Hk.ownB K (ga K "Book") "need_room") rfl)
theorem Tx.own_Book_put (T : Tx w K mg) : Cl.OwnOp K (ga K "Book") "put" (ma K (ga K "Book") "put") := ownB_ok (T.c.more 8 (f := fun K => Hk.ownB K (ga K "Book") "put") rfl)
theorem Tx.own_Book_drop (T : Tx w K mg) : Cl.OwnOp K (ga K "Book") "drop" (ma K (ga K "Book") "drop") := ownB_ok (T.c.more 9 (f := fun K => Hk.ownB K (ga K "Book") "drop") rfl)
theorem Tx.own_Book_iter (T : Tx w K mg) : Cl.OwnOp K (ga K "Book") "__iter__" (ma K (ga K "Book") "__iter__") := ownB_ok (T.c.more 10 (f := fun K => Hk.ownB K (ga K "Book") "__iter__") rfl)
theorem Tx.own_Book_len (T : Tx w K mg) : Cl.OwnOp K (ga K "Book") "__len__" (ma K (ga K "Book") "__len__") := ownB_ok (T.c.more 11 (f := fun K => Hk.ownB K (ga K "Book") "__len__") rfl)
theorem Tx.own_Book_contains (T : Tx w K mg) : Cl.OwnOp K (ga K "Book") "__contains__" (ma K (ga K "Book") "__contains__") := ownB_ok (T.c.more 12 (f := fun K => Hk.ownB K (ga K "Book") "__contains__") rfl)
theorem Tx.own_Book_getitem (T : Tx w K mg) : Cl.OwnOp K (ga K "Book") "__getitem__" (ma K (ga K "Book") "__getitem__") := ownB_ok (T.c.more 13 (f := fun K => Hk.ownB K (ga K "Book") "__getitem__") rfl)
theorem Tx.own_Book_iadd (T : Tx w K mg) : Cl.OwnOp K (ga K "Book") "__iadd__" (ma K (ga K "Book") "__iadd__") := ownB_ok (T.c.more 14 (f := fun K => Hk.ownB K (ga K "Book") "__iadd__") rfl)
theorem Tx.own_Book_isub (T : Tx w K mg) : Cl.OwnOp K (ga K "Book") "__isub__" (ma K (ga K "Book") "__isub__") := ownB_ok (T.c.more 15 (f := fun K => Hk.ownB K (ga K "Book") "__isub__") rfl)
theorem Tx.prop_Clause_names (T : Tx w K mg) : PropOf K (ga K "Clause") "names" (ma K (ga K "Clause") "names") (He5.wf K (ga K "Clause") "property" "names") := propB_ok (T.c.more 16 (f := fun K => Hk.propB K (ga K "Clause") "names") rfl)
theorem Tx.prop_Book_names (T : Tx w K mg) : PropOf K (ga K "Book") "names" (ma K (ga K "Book") "names") (He5.wf K (ga K "Book") "property" "names") := propB_ok (T.c.more 17 (f := fun K => Hk.propB K (ga K "Book") "names") rfl)
theorem Tx.prop_Book_next_number (T : Tx w K mg) : PropOf K (ga K "Book") "next_number" (ma K (ga K "Book") "next_number") (He5.wf K (ga K "Book") "property" "next_number") := propB_ok (T.c.more 18 (f := fun K => Hk.propB K (ga K "Book") "next_number") rfl)
theorem Tx.ins_Clause (T : Tx w K mg) : InsK K (ga K "Clause") := insKB_ok T.cls_Clause (T.c.more 19 (f := fun K => Hk.insKB K (ga K "Clause")) rfl)
theorem Tx.kit_str_str (T : Tx w K mg) : PySem.W.kitOne K (.type "str") (.type "str") = some true := kitB_ok (T.c.more 20 (f := fun K => Hk.kitB K (.type "str") (.type "str") true) rfl)
theorem Tx.kit_str_Clause (T : Tx w K mg) : PySem.W.kitOne K (.type "str") (.ref (ga K "Clause")) = some false := kitB_ok (T.c.more 21 (f := fun K => Hk.kitB K (.type "str") (.ref (ga K "Clause")) false) rfl)
theorem Tx.kit_Clause_Clause (T : Tx w K mg) : PySem.W.kitOne K (.ref (ga K "Clause")) (.ref (ga K "Clause")) = some true := kitB_ok (T.c.more 22 (f := fun K => Hk.kitB K (.ref (ga K "Clause")) (.ref (ga K "Clause")) true) rfl)
theorem Tx.kit_Clause_Turning (T : Tx w K mg) : PySem.W.kitOne K (.ref (ga K "Clause")) (.ref (ga K "Turning")) = some false := kitB_ok (T.c.more 23 (f := fun K => Hk.kitB K (.ref (ga K "Clause")) (.ref (ga K "Turning")) false) rfl)
theorem Tx.kit_Clause_Book (T : Tx w K mg) : PySem.W.kitOne K (.ref (ga K "Clause")) (.ref (ga K "Book")) = some false := kitB_ok (T.c.more 24 (f := fun K => Hk.kitB K (.ref (ga K "Clause")) (.ref (ga K "Book")) false) rfl)
theorem Tx.con_Clause_LIMIT (T : Tx w K mg) : ∃ u, Con K (ga K "Clause") "LIMIT" (.int 6) u := conB_ok (T.c.more 25 (f := fun K => Hk.conB K (ga K "Clause") "LIMIT" 6) rfl) (by decide +kernel)
theorem Tx.cv_Clause_LIMIT (T : Tx w K mg) : ClX.CRead K (ga K "Clause") (.type "type") ∧ ∃ u, ClX.CVal K (ga K "Clause") (.type "type") "LIMIT" (.int 6) u := cvalB_ok (T.c.more 26 (f := fun K => Hk.cvalB K (ga K "Clause") "LIMIT" 6) rfl)
theorem Tx.ins_Turning (T : Tx w K mg) : InsK K (ga K "Turning") := insKB_ok T.cls_Turning (T.c.more 27 (f := fun K => Hk.insKB K (ga K "Turning")) rfl)
theorem Tx.kit_str_Turning (T : Tx w K mg) : PySem.W.kitOne K (.type "str") (.ref (ga K "Turning")) = some false := kitB_ok (T.c.more 28 (f := fun K => Hk.kitB K (.type "str") (.ref (ga K "Turning")) false) rfl)
theorem Tx.kit_Turning_Clause (T : Tx w K mg) : PySem.W.kitOne K (.ref (ga K "Turning")) (.ref (ga K "Clause")) = some false := kitB_ok (T.c.more 29 (f := fun K => Hk.kitB K (.ref (ga K "Turning")) (.ref (ga K "Clause")) false) rfl)
theorem Tx.kit_Turning_Turning (T : Tx w K mg) : PySem.W.kitOne K (.ref (ga K "Turning")) (.ref (ga K "Turning")) = some true := kitB_ok (T.c.more 30 (f := fun K => Hk.kitB K (.ref (ga K "Turning")) (.ref (ga K "Turning")) true) rfl)
theorem Tx.kit_Turning_Book (T : Tx w K mg) : PySem.W.kitOne K (.ref (ga K "Turning")) (.ref (ga K "Book")) = some false := kitB_ok (T.c.more 31 (f := fun K => Hk.kitB K (.ref (ga K "Turning")) (.ref (ga K "Book")) false) rfl)
theorem Tx.con_Turning_LIMIT (T : Tx w K mg) : ∃ u, Con K (ga K "Turning") "LIMIT" (.int 12) u := conB_ok (T.c.more 32 (f := fun K => Hk.conB K (ga K "Turning") "LIMIT" 12) rfl) (by decide +kernel)
theorem Tx.cv_Turning_LIMIT (T : Tx w K mg) : ClX.CRead K (ga K "Turning") (.type "type") ∧ ∃ u, ClX.CVal K (ga K "Turning") (.type "type") "LIMIT" (.int 12) u := cvalB_ok (T.c.more 33 (f := fun K => Hk.cvalB K (ga K "Turning") "LIMIT" 12) rfl)
theorem Tx.ins_Book (T : Tx w K mg) : InsK K (ga K "Book") := insKB_ok T.cls_Book (T.c.more 34 (f := fun K => Hk.insKB K (ga K "Book")) rfl)
theorem Tx.kit_str_Book (T : Tx w K mg) : PySem.W.kitOne K (.type "str") (.ref (ga K "Book")) = some false := kitB_ok (T.c.more 35 (f := fun K => Hk.kitB K (.type "str") (.ref (ga K "Book")) false) rfl)
theorem Tx.kit_Book_Clause (T : Tx w K mg) : PySem.W.kitOne K (.ref (ga K "Book")) (.ref (ga K "Clause")) = some false := kitB_ok (T.c.more 36 (f := fun K => Hk.kitB K (.ref (ga K "Book")) (.ref (ga K "Clause")) false) rfl)
theorem Tx.kit_Book_Turning (T : Tx w K mg) : PySem.W.kitOne K (.ref (ga K "Book")) (.ref (ga K "Turning")) = some false := kitB_ok (T.c.more 37 (f := fun K => Hk.kitB K (.ref (ga K "Book")) (.ref (ga K "Turning")) false) rfl)
theorem Tx.kit_Book_Book (T : Tx w K mg) : PySem.W.kitOne K (.ref (ga K "Book")) (.ref (ga K "Book")) = some true := kitB_ok (T.c.more 38 (f := fun K => Hk.kitB K (.ref (ga K "Book")) (.ref (ga K "Book")) true) rfl)
theorem Tx.con_Book_LIMIT (T : Tx w K mg) : ∃ u, Con K (ga K "Book") "LIMIT" (.int 24) u := conB_ok (T.c.more 39 (f := fun K => Hk.conB K (ga K "Book") "LIMIT" 24) rfl) (by decide +kernel)
theorem Tx.cv_Book_LIMIT (T : Tx w K mg) : ClX.CRead K (ga K "Book") (.type "type") ∧ ∃ u, ClX.CVal K (ga K "Book") (.type "type") "LIMIT" (.int 24) u := cvalB_ok (T.c.more 40 (f := fun K => Hk.cvalB K (ga K "Book") "LIMIT" 24) rfl)
theorem Tx.con_Book_NAMES (T : Tx w K mg) : ∃ u, Con K (ga K "Book") "NAMES" (.int 12) u := conB_ok (T.c.more 41 (f := fun K => Hk.conB K (ga K "Book") "NAMES" 12) rfl) (by decide +kernel)
theorem Tx.cv_Book_NAMES (T : Tx w K mg) : ClX.CRead K (ga K "Book") (.type "type") ∧ ∃ u, ClX.CVal K (ga K "Book") (.type "type") "NAMES" (.int 12) u := cvalB_ok (T.c.more 42 (f := fun K => Hk.cvalB K (ga K "Book") "NAMES" 12) rfl)
theorem Tx.con_Book_NUMBERS (T : Tx w K mg) : ∃ u, Con K (ga K "Book") "NUMBERS" (.int 999) u := conB_ok (T.c.more 43 (f := fun K => Hk.conB K (ga K "Book") "NUMBERS" 999) rfl) (by decide +kernel)
theorem Tx.cv_Book_NUMBERS (T : Tx w K mg) : ClX.CRead K (ga K "Book") (.type "type") ∧ ∃ u, ClX.CVal K (ga K "Book") (.type "type") "NUMBERS" (.int 999) u := cvalB_ok (T.c.more 44 (f := fun K => Hk.cvalB K (ga K "Book") "NUMBERS" 999) rfl)
theorem Tx.excC_NoClause (T : Tx w K mg) : ExcC K (ga K "NoClause") := excCB_ok (T.c.more 45 (f := fun K => excCB K (ga K "NoClause")) rfl)
theorem Tx.kit_NoClause_HornError (T : Tx w K mg) : PySem.W.kitOne K (.ref (ga K "NoClause")) (.ref (ga K "HornError")) = some true := kitB_ok (T.c.more 46 (f := fun K => Hk.kitB K (.ref (ga K "NoClause")) (.ref (ga K "HornError")) true) rfl)
theorem Tx.kit_NoClause_ValueError (T : Tx w K mg) : PySem.W.kitOne K (.ref (ga K "NoClause")) (.type "ValueError") = some true := kitB_ok (T.c.more 47 (f := fun K => Hk.kitB K (.ref (ga K "NoClause")) (.type "ValueError") true) rfl)
theorem Tx.kit_NoClause_BadNumber (T : Tx w K mg) : PySem.W.kitOne K (.ref (ga K "NoClause")) (.ref (ga K "BadNumber")) = some false := kitB_ok (T.c.more 48 (f := fun K => Hk.kitB K (.ref (ga K "NoClause")) (.ref (ga K "BadNumber")) false) rfl)
theorem Tx.fn_is_name (T : Tx w K mg) : FunD K Hd.d_is_name.name Hd.d_is_name.qual (defArgs Hd.s_is_name) (defBody Hd.s_is_name) (defScope Hd.s_is_name) [] [] (Hd.d_is_name.at_ K) (fdOf K (Hd.d_is_name.at_ K)) := T.c.fn 0 (d := Hd.d_is_name) rfl
theorem Tx.fn_is_literal (T : Tx w K mg) : FunD K Hd.d_is_literal.name Hd.d_is_literal.qual (defArgs Hd.s_is_literal) (defBody Hd.s_is_literal) (defScope Hd.s_is_literal) [] [] (Hd.d_is_literal.at_ K) (fdOf K (Hd.d_is_literal.at_ K)) := T.c.fn 1 (d := Hd.d_is_literal) rfl
theorem Tx.fn_name_of (T : Tx w K mg) : FunD K Hd.d_name_of.name Hd.d_name_of.qual (defArgs Hd.s_name_of) (defBody Hd.s_name_of) (defScope Hd.s_name_of) [] [] (Hd.d_name_of.at_ K) (fdOf K (Hd.d_name_of.at_ K)) := T.c.fn 2 (d := Hd.d_name_of) rfl
theorem Tx.fn_ordered_names (T : Tx w K mg) : FunD K Hd.d_ordered_names.name Hd.d_ordered_names.qual (defArgs Hd.s_ordered_names) (defBody Hd.s_ordered_names) (defScope Hd.s_ordered_names) [] [] (Hd.d_ordered_names.at_ K) (fdOf K (Hd.d_ordered_names.at_ K)) := T.c.fn 3 (d := Hd.d_ordered_names) rfl
theorem Tx.fn_in_order (T : Tx w K mg) : FunD K Hd.d_in_order.name Hd.d_in_order.qual (defArgs Hd.s_in_order) (defBody Hd.s_in_order) (defScope Hd.s_in_order) [] [] (Hd.d_in_order.at_ K) (fdOf K (Hd.d_in_order.at_ K)) := T.c.fn 4 (d := Hd.d_in_order) rfl
theorem Tx.fn_twice_named (T : Tx w K mg) : FunD K Hd.d_twice_named.name Hd.d_twice_named.qual (defArgs Hd.s_twice_named) (defBody Hd.s_twice_named) (defScope Hd.s_twice_named) [] [] (Hd.d_twice_named.at_ K) (fdOf K (Hd.d_twice_named.at_ K)) := T.c.fn 5 (d := Hd.d_twice_named) rfl
theorem Tx.fn_checked_facts (T : Tx w K mg) : FunD K Hd.d_checked_facts.name Hd.d_checked_facts.qual (defArgs Hd.s_checked_facts) (defBody Hd.s_checked_facts) (defScope Hd.s_checked_facts) [] [] (Hd.d_checked_facts.at_ K) (fdOf K (Hd.d_checked_facts.at_ K)) := T.c.fn 6 (d := Hd.d_checked_facts) rfl
theorem Tx.fn_names_of (T : Tx w K mg) : FunD K Hd.d_names_of.name Hd.d_names_of.qual (defArgs Hd.s_names_of) (defBody Hd.s_names_of) (defScope Hd.s_names_of) [] [] (Hd.d_names_of.at_ K) (fdOf K (Hd.d_names_of.at_ K)) := T.c.fn 7 (d := Hd.d_names_of) rfl
theorem Tx.fn_names_in (T : Tx w K mg) : FunD K Hd.d_names_in.name Hd.d_names_in.qual (defArgs Hd.s_names_in) (defBody Hd.s_names_in) (defScope Hd.s_names_in) [] [] (Hd.d_names_in.at_ K) (fdOf K (Hd.d_names_in.at_ K)) := T.c.fn 8 (d := Hd.d_names_in) rfl
theorem Tx.fn_check_sizes (T : Tx w K mg) : FunD K Hd.d_check_sizes.name Hd.d_check_sizes.qual (defArgs Hd.s_check_sizes) (defBody Hd.s_check_sizes) (defScope Hd.s_check_sizes) [] [] (Hd.d_check_sizes.at_ K) (fdOf K (Hd.d_check_sizes.at_ K)) := T.c.fn 9 (d := Hd.d_check_sizes) rfl
theorem Tx.fn_law_source (T : Tx w K mg) : FunD K Hd.d_law_source.name Hd.d_law_source.qual (defArgs Hd.s_law_source) (defBody Hd.s_law_source) (defScope Hd.s_law_source) [] [] (Hd.d_law_source.at_ K) (fdOf K (Hd.d_law_source.at_ K)) := T.c.fn 10 (d := Hd.d_law_source) rfl
theorem Tx.fn_law_take (T : Tx w K mg) : FunD K Hd.d_law_take.name Hd.d_law_take.qual (defArgs Hd.s_law_take) (defBody Hd.s_law_take) (defScope Hd.s_law_take) [] [] (Hd.d_law_take.at_ K) (fdOf K (Hd.d_law_take.at_ K)) := T.c.fn 11 (d := Hd.d_law_take) rfl
theorem Tx.fn_law_word (T : Tx w K mg) : FunD K Hd.d_law_word.name Hd.d_law_word.qual (defArgs Hd.s_law_word) (defBody Hd.s_law_word) (defScope Hd.s_law_word) [] [] (Hd.d_law_word.at_ K) (fdOf K (Hd.d_law_word.at_ K)) := T.c.fn 12 (d := Hd.d_law_word) rfl
theorem Tx.fn_law_names (T : Tx w K mg) : FunD K Hd.d_law_names.name Hd.d_law_names.qual (defArgs Hd.s_law_names) (defBody Hd.s_law_names) (defScope Hd.s_law_names) [] [] (Hd.d_law_names.at_ K) (fdOf K (Hd.d_law_names.at_ K)) := T.c.fn 13 (d := Hd.d_law_names) rfl
theorem Tx.fn_law_name (T : Tx w K mg) : FunD K Hd.d_law_name.name Hd.d_law_name.qual (defArgs Hd.s_law_name) (defBody Hd.s_law_name) (defScope Hd.s_law_name) [] [] (Hd.d_law_name.at_ K) (fdOf K (Hd.d_law_name.at_ K)) := T.c.fn 14 (d := Hd.d_law_name) rfl
theorem Tx.fn_law_sorted (T : Tx w K mg) : FunD K Hd.d_law_sorted.name Hd.d_law_sorted.qual (defArgs Hd.s_law_sorted) (defBody Hd.s_law_sorted) (defScope Hd.s_law_sorted) [] [] (Hd.d_law_sorted.at_ K) (fdOf K (Hd.d_law_sorted.at_ K)) := T.c.fn 15 (d := Hd.d_law_sorted) rfl
theorem Tx.fn_law_ordered (T : Tx w K mg) : FunD K Hd.d_law_ordered.name Hd.d_law_ordered.qual (defArgs Hd.s_law_ordered) (defBody Hd.s_law_ordered) (defScope Hd.s_law_ordered) [] [] (Hd.d_law_ordered.at_ K) (fdOf K (Hd.d_law_ordered.at_ K)) := T.c.fn 16 (d := Hd.d_law_ordered) rfl
theorem Tx.fn_law_same (T : Tx w K mg) : FunD K Hd.d_law_same.name Hd.d_law_same.qual (defArgs Hd.s_law_same) (defBody Hd.s_law_same) (defScope Hd.s_law_same) [] [] (Hd.d_law_same.at_ K) (fdOf K (Hd.d_law_same.at_ K)) := T.c.fn 17 (d := Hd.d_law_same) rfl
theorem Tx.fn_law_row (T : Tx w K mg) : FunD K Hd.d_law_row.name Hd.d_law_row.qual (defArgs Hd.s_law_row) (defBody Hd.s_law_row) (defScope Hd.s_law_row) [] [] (Hd.d_law_row.at_ K) (fdOf K (Hd.d_law_row.at_ K)) := T.c.fn 18 (d := Hd.d_law_row) rfl
theorem Tx.fn_law_clause (T : Tx w K mg) : FunD K Hd.d_law_clause.name Hd.d_law_clause.qual (defArgs Hd.s_law_clause) (defBody Hd.s_law_clause) (defScope Hd.s_law_clause) [] [] (Hd.d_law_clause.at_ K) (fdOf K (Hd.d_law_clause.at_ K)) := T.c.fn 19 (d := Hd.d_law_clause) rfl
theorem Tx.fn_law_names_in (T : Tx w K mg) : FunD K Hd.d_law_names_in.name Hd.d_law_names_in.qual (defArgs Hd.s_law_names_in) (defBody Hd.s_law_names_in) (defScope Hd.s_law_names_in) [] [] (Hd.d_law_names_in.at_ K) (fdOf K (Hd.d_law_names_in.at_ K)) := T.c.fn 20 (d := Hd.d_law_names_in) rfl
theorem Tx.fn_law_state (T : Tx w K mg) : FunD K Hd.d_law_state.name Hd.d_law_state.qual (defArgs Hd.s_law_state) (defBody Hd.s_law_state) (defScope Hd.s_law_state) [] [] (Hd.d_law_state.at_ K) (fdOf K (Hd.d_law_state.at_ K)) := T.c.fn 21 (d := Hd.d_law_state) rfl
theorem Tx.fn_law_absent (T : Tx w K mg) : FunD K Hd.d_law_absent.name Hd.d_law_absent.qual (defArgs Hd.s_law_absent) (defBody Hd.s_law_absent) (defScope Hd.s_law_absent) [] [] (Hd.d_law_absent.at_ K) (fdOf K (Hd.d_law_absent.at_ K)) := T.c.fn 22 (d := Hd.d_law_absent) rfl
theorem Tx.fn_law (T : Tx w K mg) : FunD K Hd.d_law.name Hd.d_law.qual (defArgs Hd.s_law) (defBody Hd.s_law) (defScope Hd.s_law) [] [] (Hd.d_law.at_ K) (fdOf K (Hd.d_law.at_ K)) := T.c.fn 23 (d := Hd.d_law) rfl
theorem Tx.fn_Clause_init (T : Tx w K mg) : FunD K Hd.d_Clause_init.name Hd.d_Clause_init.qual (defArgs Hd.s_Clause_init) (defBody Hd.s_Clause_init) (defScope Hd.s_Clause_init) [] [] (Hd.d_Clause_init.at_ K) (fdOf K (Hd.d_Clause_init.at_ K)) := T.c.fn 24 (d := Hd.d_Clause_init) rfl
theorem Tx.fn_Clause_names (T : Tx w K mg) : FunD K Hd.d_Clause_names.name Hd.d_Clause_names.qual (defArgs Hd.s_Clause_names) (defBody Hd.s_Clause_names) (defScope Hd.s_Clause_names) [] [] (Hd.d_Clause_names.at_ K) (fdOf K (Hd.d_Clause_names.at_ K)) := T.c.fn 25 (d := Hd.d_Clause_names) rfl
theorem Tx.fn_Clause_iter (T : Tx w K mg) : FunD K Hd.d_Clause_iter.name Hd.d_Clause_iter.qual (defArgs Hd.s_Clause_iter) (defBody Hd.s_Clause_iter) (defScope Hd.s_Clause_iter) [] [] (Hd.d_Clause_iter.at_ K) (fdOf K (Hd.d_Clause_iter.at_ K)) := T.c.fn 26 (d := Hd.d_Clause_iter) rfl
theorem Tx.fn_Clause_len (T : Tx w K mg) : FunD K Hd.d_Clause_len.name Hd.d_Clause_len.qual (defArgs Hd.s_Clause_len) (defBody Hd.s_Clause_len) (defScope Hd.s_Clause_len) [] [] (Hd.d_Clause_len.at_ K) (fdOf K (Hd.d_Clause_len.at_ K)) := T.c.fn 27 (d := Hd.d_Clause_len) rfl
theorem Tx.fn_Clause_contains (T : Tx w K mg) : FunD K Hd.d_Clause_contains.name Hd.d_Clause_contains.qual (defArgs Hd.s_Clause_contains) (defBody Hd.s_Clause_contains) (defScope Hd.s_Clause_contains) [] [] (Hd.d_Clause_contains.at_ K) (fdOf K (Hd.d_Clause_contains.at_ K)) := T.c.fn 28 (d := Hd.d_Clause_contains) rfl
theorem Tx.fn_Turning_iter (T : Tx w K mg) : FunD K Hd.d_Turning_iter.name Hd.d_Turning_iter.qual (defArgs Hd.s_Turning_iter) (defBody Hd.s_Turning_iter) (defScope Hd.s_Turning_iter) [] [] (Hd.d_Turning_iter.at_ K) (fdOf K (Hd.d_Turning_iter.at_ K)) := T.c.fn 29 (d := Hd.d_Turning_iter) rfl
theorem Tx.fn_Turning_len (T : Tx w K mg) : FunD K Hd.d_Turning_len.name Hd.d_Turning_len.qual (defArgs Hd.s_Turning_len) (defBody Hd.s_Turning_len) (defScope Hd.s_Turning_len) [] [] (Hd.d_Turning_len.at_ K) (fdOf K (Hd.d_Turning_len.at_ K)) := T.c.fn 30 (d := Hd.d_Turning_len) rfl
theorem Tx.fn_Turning_contains (T : Tx w K mg) : FunD K Hd.d_Turning_contains.name Hd.d_Turning_contains.qual (defArgs Hd.s_Turning_contains) (defBody Hd.s_Turning_contains) (defScope Hd.s_Turning_contains) [] [] (Hd.d_Turning_contains.at_ K) (fdOf K (Hd.d_Turning_contains.at_ K)) := T.c.fn 31 (d := Hd.d_Turning_contains) rfl
theorem Tx.fn_Turning_getitem (T : Tx w K mg) : FunD K Hd.d_Turning_getitem.name Hd.d_Turning_getitem.qual (defArgs Hd.s_Turning_getitem) (defBody Hd.s_Turning_getitem) (defScope Hd.s_Turning_getitem) [] [] (Hd.d_Turning_getitem.at_ K) (fdOf K (Hd.d_Turning_getitem.at_ K)) := T.c.fn 32 (d := Hd.d_Turning_getitem) rfl
theorem Tx.fn_Book_init (T : Tx w K mg) : FunD K Hd.d_Book_init.name Hd.d_Book_init.qual (defArgs Hd.s_Book_init) (defBody Hd.s_Book_init) (defScope Hd.s_Book_init) [] [("numbers", .non), ("greatest", .int 0)] (Hd.d_Book_init.at_ K) (fdOf K (Hd.d_Book_init.at_ K)) := T.c.fn 33 (d := Hd.d_Book_init) rfl
theorem Tx.fn_Book_names (T : Tx w K mg) : FunD K Hd.d_Book_names.name Hd.d_Book_names.qual (defArgs Hd.s_Book_names) (defBody Hd.s_Book_names) (defScope Hd.s_Book_names) [] [] (Hd.d_Book_names.at_ K) (fdOf K (Hd.d_Book_names.at_ K)) := T.c.fn 34 (d := Hd.d_Book_names) rfl
theorem Tx.fn_Book_next_number (T : Tx w K mg) : FunD K Hd.d_Book_next_number.name Hd.d_Book_next_number.qual (defArgs Hd.s_Book_next_number) (defBody Hd.s_Book_next_number) (defScope Hd.s_Book_next_number) [] [] (Hd.d_Book_next_number.at_ K) (fdOf K (Hd.d_Book_next_number.at_ K)) := T.c.fn 35 (d := Hd.d_Book_next_number) rfl
theorem Tx.fn_Book_need_room (T : Tx w K mg) : FunD K Hd.d_Book_need_room.name Hd.d_Book_need_room.qual (defArgs Hd.s_Book_need_room) (defBody Hd.s_Book_need_room) (defScope Hd.s_Book_need_room) [] [] (Hd.d_Book_need_room.at_ K) (fdOf K (Hd.d_Book_need_room.at_ K)) := T.c.fn 36 (d := Hd.d_Book_need_room) rfl
theorem Tx.fn_Book_put (T : Tx w K mg) : FunD K Hd.d_Book_put.name Hd.d_Book_put.qual (defArgs Hd.s_Book_put) (defBody Hd.s_Book_put) (defScope Hd.s_Book_put) [] [] (Hd.d_Book_put.at_ K) (fdOf K (Hd.d_Book_put.at_ K)) := T.c.fn 37 (d := Hd.d_Book_put) rfl
theorem Tx.fn_Book_drop (T : Tx w K mg) : FunD K Hd.d_Book_drop.name Hd.d_Book_drop.qual (defArgs Hd.s_Book_drop) (defBody Hd.s_Book_drop) (defScope Hd.s_Book_drop) [] [] (Hd.d_Book_drop.at_ K) (fdOf K (Hd.d_Book_drop.at_ K)) := T.c.fn 38 (d := Hd.d_Book_drop) rfl
theorem Tx.fn_Book_iter (T : Tx w K mg) : FunD K Hd.d_Book_iter.name Hd.d_Book_iter.qual (defArgs Hd.s_Book_iter) (defBody Hd.s_Book_iter) (defScope Hd.s_Book_iter) [] [] (Hd.d_Book_iter.at_ K) (fdOf K (Hd.d_Book_iter.at_ K)) := T.c.fn 39 (d := Hd.d_Book_iter) rfl
theorem Tx.fn_Book_len (T : Tx w K mg) : FunD K Hd.d_Book_len.name Hd.d_Book_len.qual (defArgs Hd.s_Book_len) (defBody Hd.s_Book_len) (defScope Hd.s_Book_len) [] [] (Hd.d_Book_len.at_ K) (fdOf K (Hd.d_Book_len.at_ K)) := T.c.fn 40 (d := Hd.d_Book_len) rfl
theorem Tx.fn_Book_contains (T : Tx w K mg) : FunD K Hd.d_Book_contains.name Hd.d_Book_contains.qual (defArgs Hd.s_Book_contains) (defBody Hd.s_Book_contains) (defScope Hd.s_Book_contains) [] [] (Hd.d_Book_contains.at_ K) (fdOf K (Hd.d_Book_contains.at_ K)) := T.c.fn 41 (d := Hd.d_Book_contains) rfl
theorem Tx.fn_Book_getitem (T : Tx w K mg) : FunD K Hd.d_Book_getitem.name Hd.d_Book_getitem.qual (defArgs Hd.s_Book_getitem) (defBody Hd.s_Book_getitem) (defScope Hd.s_Book_getitem) [] [] (Hd.d_Book_getitem.at_ K) (fdOf K (Hd.d_Book_getitem.at_ K)) := T.c.fn 42 (d := Hd.d_Book_getitem) rfl
theorem Tx.fn_Book_iadd (T : Tx w K mg) : FunD K Hd.d_Book_iadd.name Hd.d_Book_iadd.qual (defArgs Hd.s_Book_iadd) (defBody Hd.s_Book_iadd) (defScope Hd.s_Book_iadd) [] [] (Hd.d_Book_iadd.at_ K) (fdOf K (Hd.d_Book_iadd.at_ K)) := T.c.fn 43 (d := Hd.d_Book_iadd) rfl
theorem Tx.fn_Book_isub (T : Tx w K mg) : FunD K Hd.d_Book_isub.name Hd.d_Book_isub.qual (defArgs Hd.s_Book_isub) (defBody Hd.s_Book_isub) (defScope Hd.s_Book_isub) [] [] (Hd.d_Book_isub.at_ K) (fdOf K (Hd.d_Book_isub.at_ K)) := T.c.fn 44 (d := Hd.d_Book_isub) rfl
theorem Tx.sc_BadName : ScopeE PySem.Challenge.pw_renamedhorn_k14_book_numbers (defScope Hd.s_BadName_init) (defArgs Hd.s_BadName_init) := ⟨⟨_, rfl⟩, rfl, rfl, rfl, rfl, rfl, rfl, by decide +kernel, by decide +kernel⟩
theorem Tx.err_BadName (T : Tx w K mg) : Err1 PySem.Challenge.pw_renamedhorn_k14_book_numbers w K mg "BadName" "text" (ga K "BadName") := by
  obtain ⟨h, X, G⟩ := T.g
  obtain ⟨e, c⟩ := T.c.it 45 (d := Hd.d_BadName.it "/claim/cut.py") rfl
  exact err1_of X G c e rfl Tx.sc_BadName rfl (fun _ _ _ _ _ _ _ _ _ _ _ => rfl) rfl (by decide) (by decide)
theorem Tx.sc_BadLiteral : ScopeE PySem.Challenge.pw_renamedhorn_k14_book_numbers (defScope Hd.s_BadLiteral_init) (defArgs Hd.s_BadLiteral_init) := ⟨⟨_, rfl⟩, rfl, rfl, rfl, rfl, rfl, rfl, by decide +kernel, by decide +kernel⟩
theorem Tx.err_BadLiteral (T : Tx w K mg) : Err1 PySem.Challenge.pw_renamedhorn_k14_book_numbers w K mg "BadLiteral" "text" (ga K "BadLiteral") := by
  obtain ⟨h, X, G⟩ := T.g
  obtain ⟨e, c⟩ := T.c.it 46 (d := Hd.d_BadLiteral.it "/claim/cut.py") rfl
  exact err1_of X G c e rfl Tx.sc_BadLiteral rfl (fun _ _ _ _ _ _ _ _ _ _ _ => rfl) rfl (by decide) (by decide)
theorem Tx.sc_BothSigns : ScopeE PySem.Challenge.pw_renamedhorn_k14_book_numbers (defScope Hd.s_BothSigns_init) (defArgs Hd.s_BothSigns_init) := ⟨⟨_, rfl⟩, rfl, rfl, rfl, rfl, rfl, rfl, by decide +kernel, by decide +kernel⟩
theorem Tx.err_BothSigns (T : Tx w K mg) : Err1 PySem.Challenge.pw_renamedhorn_k14_book_numbers w K mg "BothSigns" "name" (ga K "BothSigns") := by
  obtain ⟨h, X, G⟩ := T.g
  obtain ⟨e, c⟩ := T.c.it 47 (d := Hd.d_BothSigns.it "/claim/cut.py") rfl
  exact err1_of X G c e rfl Tx.sc_BothSigns rfl (fun _ _ _ _ _ _ _ _ _ _ _ => rfl) rfl (by decide) (by decide)
theorem Tx.sc_TooMany : ScopeE PySem.Challenge.pw_renamedhorn_k14_book_numbers (defScope Hd.s_TooMany_init) (defArgs Hd.s_TooMany_init) := ⟨⟨_, rfl⟩, rfl, rfl, rfl, rfl, rfl, rfl, by decide +kernel, by decide +kernel⟩
theorem Tx.err_TooMany (T : Tx w K mg) : Err1 PySem.Challenge.pw_renamedhorn_k14_book_numbers w K mg "TooMany" "limit" (ga K "TooMany") := by
  obtain ⟨h, X, G⟩ := T.g
  obtain ⟨e, c⟩ := T.c.it 48 (d := Hd.d_TooMany.it "/claim/cut.py") rfl
  exact err1_of X G c e rfl Tx.sc_TooMany rfl (fun _ _ _ _ _ _ _ _ _ _ _ => rfl) rfl (by decide) (by decide)
theorem Tx.sc_NoClause : ScopeE PySem.Challenge.pw_renamedhorn_k14_book_numbers (defScope Hd.s_NoClause_init) (defArgs Hd.s_NoClause_init) := ⟨⟨_, rfl⟩, rfl, rfl, rfl, rfl, rfl, rfl, by decide +kernel, by decide +kernel⟩
theorem Tx.err_NoClause (T : Tx w K mg) : Err1 PySem.Challenge.pw_renamedhorn_k14_book_numbers w K mg "NoClause" "number" (ga K "NoClause") := by
  obtain ⟨h, X, G⟩ := T.g
  obtain ⟨e, c⟩ := T.c.it 49 (d := Hd.d_NoClause.it "/claim/cut.py") rfl
  exact err1_of X G c e rfl Tx.sc_NoClause rfl (fun _ _ _ _ _ _ _ _ _ _ _ => rfl) rfl (by decide) (by decide)
theorem Tx.sc_BadNumber : ScopeE PySem.Challenge.pw_renamedhorn_k14_book_numbers (defScope Hd.s_BadNumber_init) (defArgs Hd.s_BadNumber_init) := ⟨⟨_, rfl⟩, rfl, rfl, rfl, rfl, rfl, rfl, by decide +kernel, by decide +kernel⟩
theorem Tx.err_BadNumber (T : Tx w K mg) : Err1 PySem.Challenge.pw_renamedhorn_k14_book_numbers w K mg "BadNumber" "number" (ga K "BadNumber") := by
  obtain ⟨h, X, G⟩ := T.g
  obtain ⟨e, c⟩ := T.c.it 50 (d := Hd.d_BadNumber.it "/claim/cut.py") rfl
  exact err1_of X G c e rfl Tx.sc_BadNumber rfl (fun _ _ _ _ _ _ _ _ _ _ _ => rfl) rfl (by decide) (by decide)
end
end Ok
namespace Ok
open PySem PySem.Spec PyProof.Rows L2 He Hk Px Rd
section
variable {w : World} {K : PySem.W.Frag} {mg : PySem.Str → Option Value} {base : Heap}
def N_Clause_iter : List PySem.Str := ["self"]
theorem sc_Clause_iter : FnScope N_Clause_iter ["self"] (defScope Hd.s_Clause_iter) := ⟨rfl, rfl, rfl, by decide +kernel, rfl, by decide +kernel, by decide +kernel⟩
theorem b_Clause_iter (T : Tx w K mg) : Binds K (fdOf K (ma K (ga K "Clause") "__iter__")) ["self"] [] := T.fn_Clause_iter.bindsN fun _ _ _ _ _ _ us hl => match us, hl with | [_], _ => rfl
theorem it_Clause (T : Tx w K mg) : Cl.IterF PySem.Challenge.pw_renamedhorn_k14_book_numbers w K mg base 1 (ga K "Clause") "literals" := Cl.iterF_of (k := 0) T.fn_Clause_iter sc_Clause_iter (b_Clause_iter T) rfl rfl rfl T.f_iter T.cls_Clause T.no_Clause_literals T.own_Clause_iter (fun _ _ _ _ _ => rfl) (fun _ _ _ _ _ => rfl)
def N_Turning_iter : List PySem.Str := ["self"]
theorem sc_Turning_iter : FnScope N_Turning_iter ["self"] (defScope Hd.s_Turning_iter) := ⟨rfl, rfl, rfl, by decide +kernel, rfl, by decide +kernel, by decide +kernel⟩
theorem b_Turning_iter (T : Tx w K mg) : Binds K (fdOf K (ma K (ga K "Turning") "__iter__")) ["self"] [] := T.fn_Turning_iter.bindsN fun _ _ _ _ _ _ us hl => match us, hl with | [_], _ => rfl
theorem it_Turning (T : Tx w K mg) : Cl.IterF PySem.Challenge.pw_renamedhorn_k14_book_numbers w K mg base 1 (ga K "Turning") "turned" := Cl.iterF_of (k := 0) T.fn_Turning_iter sc_Turning_iter (b_Turning_iter T) rfl rfl rfl T.f_iter T.cls_Turning T.no_Turning_turned T.own_Turning_iter (fun _ _ _ _ _ => rfl) (fun _ _ _ _ _ => rfl)
def N_Book_iter : List PySem.Str := ["self"]
theorem sc_Book_iter : FnScope N_Book_iter ["self"] (defScope Hd.s_Book_iter) := ⟨rfl, rfl, rfl, by decide +kernel, rfl, by decide +kernel, by decide +kernel⟩
theorem b_Book_iter (T : Tx w K mg) : Binds K (fdOf K (ma K (ga K "Book") "__iter__")) ["self"] [] := T.fn_Book_iter.bindsN fun _ _ _ _ _ _ us hl => match us, hl with | [_], _ => rfl
theorem it_Book (T : Tx w K mg) : Cl.IterK PySem.Challenge.pw_renamedhorn_k14_book_numbers w K mg base 1 (ga K "Book") "rows" := Cl.iterK_of (k := 0) T.fn_Book_iter sc_Book_iter (b_Book_iter T) rfl rfl rfl T.f_iter T.cls_Book T.no_Book_rows T.own_Book_iter (fun _ _ _ _ _ => rfl) (fun _ _ _ _ _ => rfl)
theorem sc_is_name : FnScope N_is_name ["text"] (defScope Hd.s_is_name) := ⟨rfl, rfl, rfl, by decide +kernel, rfl, by decide +kernel, by decide +kernel⟩
theorem b_is_name (T : Tx w K mg) : Binds K (fdOf K (ga K "is_name")) ["text"] [] := T.fn_is_name.bindsN fun _ _ _ _ _ _ us hl => match us, hl with | [_], _ => rfl
theorem ok_is_name (T : Tx w K mg) : FnOk PySem.Challenge.pw_renamedhorn_k14_book_numbers w K mg base (L2N.CX PySem.Challenge.pw_renamedhorn_k14_book_numbers w) 1 (ga K "is_name") (fdOf K (ga K "is_name")) ["text"] (sp_is_name K) := by
  refine T.fn_is_name.ok sc_is_name (fun vs H Q E h => Sp1.len h) (fun cdv A outer s H vs Q E hr h => ⟨t_is_name K (fun cls d _ H => E cls d H), ?_, pure_is_name h⟩)
  · have tk := L2N.takes_of (X := cxOf (L2N.CX PySem.Challenge.pw_renamedhorn_k14_book_numbers w) PySem.Challenge.pw_renamedhorn_k14_book_numbers w K mg base N_is_name "is_name" (defScope Hd.s_is_name) (ga K "is_name") cdv A outer s H E) (E := E) rfl rfl rfl rfl
    obtain ⟨tk_LETTERS, m_LETTERS⟩ := T.c_LETTERS
    obtain ⟨tk_NAME_SIZE, m_NAME_SIZE⟩ := T.c_NAME_SIZE
    obtain ⟨tk_SIGNS, m_SIGNS⟩ := T.c_SIGNS
    exact (pss_cut (ps_if (PW.pt (pw_or (pt_cmpR op_ltP (pe_callB call_lenP (by rfl) T.f_len PyProof.Rows.Boot.«len» (pa_cons (pv 0) pa_nil)) pe_int (nomark _)) (pw_or1 (pt_cmpR op_gtP (pe_callB call_lenP (by rfl) T.f_len PyProof.Rows.Boot.«len» (pa_cons (pv 0) pa_nil)) (pe_glob rfl m_NAME_SIZE ⟨_, rfl⟩) (nomark _))))) (pss_one (ps_ret pe_bl)) pss_nil)
      (pss_cut (ps_if (pt_cmpR (op_ninP hr.units) (pe_ix ix_P (pv 0) pe_int (fun _ _ => rfl)) (pe_glob rfl m_LETTERS ⟨_, rfl⟩) (by rfl)) (pss_one (ps_ret pe_bl)) pss_nil)
      (pss_one (ps_ret (pe_callB (cr_all rfl) (by rfl) T.f_all PyProof.Rows.Boot.«all» (pa_cons (pe_lc (own := [("sign", 1)]) (g := (gName 1)) (tt := tYes) rfl sc_is_name.nd (pi_anyP (pv 0)) (blkOk_by (own := [("sign", 1)]) (N := N_is_name) (sc := defScope Hd.s_is_name) (by decide +kernel)) (fun _ _ _ _ _ => (pg_name (i := 1) sc_is_name.nd rfl (Or.inl rfl))) (fun _ _ _ _ _ => pts_nil) (fun _ _ _ _ _ => (pe_cmpR (op_inP hr.units) (pv 1) (pe_glob rfl m_SIGNS ⟨_, rfl⟩) (by rfl)))) pa_nil))))))
theorem sc_is_literal : FnScope N_is_literal ["text"] (defScope Hd.s_is_literal) := ⟨rfl, rfl, rfl, by decide +kernel, rfl, by decide +kernel, by decide +kernel⟩
theorem b_is_literal (T : Tx w K mg) : Binds K (fdOf K (ga K "is_literal")) ["text"] [] := T.fn_is_literal.bindsN fun _ _ _ _ _ _ us hl => match us, hl with | [_], _ => rfl
theorem ok_is_literal (T : Tx w K mg) : FnOk PySem.Challenge.pw_renamedhorn_k14_book_numbers w K mg base (L2N.CX PySem.Challenge.pw_renamedhorn_k14_book_numbers w) 2 (ga K "is_literal") (fdOf K (ga K "is_literal")) ["text"] (sp_is_literal K) := by
  refine T.fn_is_literal.ok sc_is_literal (fun vs H Q E h => Sp1.len h) (fun cdv A outer s H vs Q E hr h => ⟨t_is_literal K (fun cls d _ H => E cls d H), ?_, pure_is_literal h⟩)
  · have tk := L2N.takes_of (X := cxOf (L2N.CX PySem.Challenge.pw_renamedhorn_k14_book_numbers w) PySem.Challenge.pw_renamedhorn_k14_book_numbers w K mg base N_is_literal "is_literal" (defScope Hd.s_is_literal) (ga K "is_literal") cdv A outer s H E) (E := E) rfl rfl rfl rfl
    exact (pss_cut (ps_if (pt_cmpR (op_eqP hr.units) (pe_slice sl_P (pv 0) po_none (po_some pe_int)) pe_str (nomark _)) (pss_one (ps_ret (pe_callS (ok_is_name T) (hr.mono (by decide)) rfl T.g_is_name (T.fn_is_name).kp (b_is_name T) (fun σ => L2N.passAt tk σ) (pa_cons (pe_slice sl_P (pv 0) (po_some pe_int) po_none) pa_nil)))) pss_nil)
      (pss_one (ps_ret (pe_callS (ok_is_name T) (hr.mono (by decide)) rfl T.g_is_name (T.fn_is_name).kp (b_is_name T) (fun σ => L2N.passAt tk σ) (pa_cons (pv 0) pa_nil)))))
theorem sc_name_of : FnScope N_name_of ["literal"] (defScope Hd.s_name_of) := ⟨rfl, rfl, rfl, by decide +kernel, rfl, by decide +kernel, by decide +kernel⟩
theorem b_name_of (T : Tx w K mg) : Binds K (fdOf K (ga K "name_of")) ["literal"] [] := T.fn_name_of.bindsN fun _ _ _ _ _ _ us hl => match us, hl with | [_], _ => rfl
theorem ok_name_of (T : Tx w K mg) : FnOk PySem.Challenge.pw_renamedhorn_k14_book_numbers w K mg base (L2N.CX PySem.Challenge.pw_renamedhorn_k14_book_numbers w) 3 (ga K "name_of") (fdOf K (ga K "name_of")) ["literal"] (sp_name_of K) := by
  refine T.fn_name_of.ok sc_name_of (fun vs H Q E h => Sp1.len h) (fun cdv A outer s H vs Q E hr h => ⟨t_name_of K (fun cls d _ H => E cls d H), ?_, pure_name_of h⟩)
  · have tk := L2N.takes_of (X := cxOf (L2N.CX PySem.Challenge.pw_renamedhorn_k14_book_numbers w) PySem.Challenge.pw_renamedhorn_k14_book_numbers w K mg base N_name_of "name_of" (defScope Hd.s_name_of) (ga K "name_of") cdv A outer s H E) (E := E) rfl rfl rfl rfl
    exact (pss_cut (ps_if (pt_not (pt_val (pe_callS (ok_is_literal T) (hr.mono (by decide)) rfl T.g_is_literal (T.fn_is_literal).kp (b_is_literal T) (fun σ => L2N.passAt tk σ) (pa_cons (pv 0) pa_nil)))) (pss_one (ps_raiseE rfl T.err_BadLiteral hr tk (pa_cons (pv 0) pa_nil))) pss_nil)
      (pss_cut (ps_if (pt_cmpR (op_eqP hr.units) (pe_slice sl_P (pv 0) po_none (po_some pe_int)) pe_str (nomark _)) (pss_one (ps_ret (pe_slice sl_P (pv 0) (po_some pe_int) po_none))) pss_nil)
      (pss_one (ps_ret (pv 0)))))
theorem sc_ordered_names : FnScope N_ordered_names ["names"] (defScope Hd.s_ordered_names) := ⟨rfl, rfl, rfl, by decide +kernel, rfl, by decide +kernel, by decide +kernel⟩
theorem b_ordered_names (T : Tx w K mg) : Binds K (fdOf K (ga K "ordered_names")) ["names"] [] := T.fn_ordered_names.bindsN fun _ _ _ _ _ _ us hl => match us, hl with | [_], _ => rfl
theorem ok_ordered_names (T : Tx w K mg) : FnOk PySem.Challenge.pw_renamedhorn_k14_book_numbers w K mg base (L2N.CX PySem.Challenge.pw_renamedhorn_k14_book_numbers w) 3 (ga K "ordered_names") (fdOf K (ga K "ordered_names")) ["names"] (sp_ordered_names K) := by
  refine T.fn_ordered_names.ok sc_ordered_names (fun vs H Q E h => Sp1.len h) (fun cdv A outer s H vs Q E hr h => ⟨t_ordered_names K (fun cls d _ H => E cls d H), ?_, pure_ordered_names h⟩)
  · have tk := L2N.takes_of (X := cxOf (L2N.CX PySem.Challenge.pw_renamedhorn_k14_book_numbers w) PySem.Challenge.pw_renamedhorn_k14_book_numbers w K mg base N_ordered_names "ordered_names" (defScope Hd.s_ordered_names) (ga K "ordered_names") cdv A outer s H E) (E := E) rfl rfl rfl rfl
    exact (pss_cut (ps_for (passes_of rfl) rfl (pi_anyP (pv 0)) (pg_name (i := 1) sc_ordered_names.nd rfl (Or.inl rfl)) (pss_one (ps_if (pt_not (pt_val (pe_callS (ok_is_name T) (hr.mono (by decide)) rfl T.g_is_name (T.fn_is_name).kp (b_is_name T) (fun σ => L2N.passAt tk σ) (pa_cons (pv 1) pa_nil)))) (pss_one (ps_raiseE rfl T.err_BadName hr tk (pa_cons (pv 1) pa_nil))) pss_nil)))
      (pss_cons (ps_asg (pe_lst pa_nil) (pg_name (i := 2) sc_ordered_names.nd rfl (Or.inl rfl)))
      (pss_cut (ps_for (passes_of rfl) rfl (pi_anyP (pe_callB cr_sortedP2 (by rfl) T.f_sorted PyProof.Rows.Boot.«sorted» (pa_cons (pe_lc (own := [("name", 1)]) (g := (gName 1)) (tt := tYes) rfl sc_ordered_names.nd (pi_anyP (pv 0)) (blkOk_by (own := [("name", 1)]) (N := N_ordered_names) (sc := defScope Hd.s_ordered_names) (by decide +kernel)) (fun _ _ _ _ _ => (pg_name (i := 1) sc_ordered_names.nd rfl (Or.inl rfl))) (fun _ _ _ _ _ => pts_nil) (fun _ _ _ _ _ => (pe_callTy call_strP (by rfl) T.f_str PyProof.Rows.Boot.«str» (pa_cons (pv 1) pa_nil)))) pa_nil))) (pg_name (i := 1) sc_ordered_names.nd rfl (Or.inl rfl)) (pss_one (ps_if (pt_cmpR (op_ninP hr.units) (pv 1) (pv 2) (by rfl)) (pss_one (ps_expr (pe_bm PySem.F.plainAttrs_list PySem.F.slot_list_append PySem.F.type_list_append mt_append (pv 2) (pa_cons (pv 1) pa_nil)))) pss_nil)))
      (pss_one (ps_ret (pv 2))))))
theorem sc_in_order : FnScope N_in_order ["literals"] (defScope Hd.s_in_order) := ⟨rfl, rfl, rfl, by decide +kernel, rfl, by decide +kernel, by decide +kernel⟩
theorem b_in_order (T : Tx w K mg) : Binds K (fdOf K (ga K "in_order")) ["literals"] [] := T.fn_in_order.bindsN fun _ _ _ _ _ _ us hl => match us, hl with | [_], _ => rfl
theorem ok_in_order (T : Tx w K mg) : FnOk PySem.Challenge.pw_renamedhorn_k14_book_numbers w K mg base (L2N.CX PySem.Challenge.pw_renamedhorn_k14_book_numbers w) 4 (ga K "in_order") (fdOf K (ga K "in_order")) ["literals"] (sp_in_order K) := by
  refine T.fn_in_order.ok sc_in_order (fun vs H Q E h => Sp1.len h) (fun cdv A outer s H vs Q E hr h => ⟨t_in_order K (fun cls d _ H => E cls d H), ?_, pure_in_order h⟩)
  · have tk := L2N.takes_of (X := cxOf (L2N.CX PySem.Challenge.pw_renamedhorn_k14_book_numbers w) PySem.Challenge.pw_renamedhorn_k14_book_numbers w K mg base N_in_order "in_order" (defScope Hd.s_in_order) (ga K "in_order") cdv A outer s H E) (E := E) rfl rfl rfl rfl
    exact (pss_cons (ps_asg pe_dnewK (pg_name (i := 1) sc_in_order.nd rfl (Or.inl rfl)))
      (pss_cut (ps_for (passes_of rfl) rfl (pi_anyP (pv 0)) (pg_name (i := 2) sc_in_order.nd rfl (Or.inl rfl)) (pss_cut (ps_if (pt_not (pt_val (pe_callS (ok_is_literal T) (hr.mono (by decide)) rfl T.g_is_literal (T.fn_is_literal).kp (b_is_literal T) (fun σ => L2N.passAt tk σ) (pa_cons (pv 2) pa_nil)))) (pss_one (ps_raiseE rfl T.err_BadLiteral hr tk (pa_cons (pv 2) pa_nil))) pss_nil)
      (pss_one (ps_asg pe_bl (pg_sub (pv 1) (pv 2) (set_P hr.units))))))
      (pss_cons (ps_asg (pe_lst pa_nil) (pg_name (i := 3) sc_in_order.nd rfl (Or.inl rfl)))
      (pss_cut (ps_for (passes_of rfl) rfl (pi_anyP (pe_callS (ok_ordered_names T) (hr.mono (by decide)) rfl T.g_ordered_names (T.fn_ordered_names).kp (b_ordered_names T) (fun σ => L2N.passAt tk σ) (pa_cons (pe_lock (pe_lc (own := [("literal", 2)]) (g := (gName 2)) (tt := tYes) rfl sc_in_order.nd (pi_keys (pv 1)) (blkOk_by (own := [("literal", 2)]) (N := N_in_order) (sc := defScope Hd.s_in_order) (by decide +kernel)) (fun _ _ _ _ _ => (pg_name (i := 2) sc_in_order.nd rfl (Or.inl rfl))) (fun _ _ _ _ _ => pts_nil) (fun _ _ _ _ _ => (pe_call (ok_name_of T) (hr.mono (by decide)) rfl T.g_name_of (T.fn_name_of).kp (b_name_of T) .nil passN (pa_cons (pv 2) pa_nil))))) pa_nil))) (pg_name (i := 4) sc_in_order.nd rfl (Or.inl rfl)) (pss_one (ps_for (passes_of rfl) rfl (pi_anyP (pe_tup (pa_cons (pv 4) (pa_cons (pe_op op_addP pe_str (pv 4)) pa_nil)))) (pg_name (i := 2) sc_in_order.nd rfl (Or.inl rfl)) (pss_one (ps_if (pt_cmpR (op_inP hr.units) (pv 2) (pv 1) (by rfl)) (pss_one (ps_expr (pe_bm PySem.F.plainAttrs_list PySem.F.slot_list_append PySem.F.type_list_append mt_append (pv 3) (pa_cons (pv 2) pa_nil)))) pss_nil)))))
      (pss_one (ps_ret (pv 3)))))))
theorem sc_twice_named : FnScope N_twice_named ["literals"] (defScope Hd.s_twice_named) := ⟨rfl, rfl, rfl, by decide +kernel, rfl, by decide +kernel, by decide +kernel⟩
theorem b_twice_named (T : Tx w K mg) : Binds K (fdOf K (ga K "twice_named")) ["literals"] [] := T.fn_twice_named.bindsN fun _ _ _ _ _ _ us hl => match us, hl with | [_], _ => rfl
theorem ok_twice_named (T : Tx w K mg) : FnOk PySem.Challenge.pw_renamedhorn_k14_book_numbers w K mg base (L2N.CX PySem.Challenge.pw_renamedhorn_k14_book_numbers w) 1 (ga K "twice_named") (fdOf K (ga K "twice_named")) ["literals"] (sp_twice_named K) := by
  refine T.fn_twice_named.ok sc_twice_named (fun vs H Q E h => Sp1.len h) (fun cdv A outer s H vs Q E hr h => ⟨t_twice_named K (fun cls d _ H => E cls d H), ?_, pure_twice_named h⟩)
  · have tk := L2N.takes_of (X := cxOf (L2N.CX PySem.Challenge.pw_renamedhorn_k14_book_numbers w) PySem.Challenge.pw_renamedhorn_k14_book_numbers w K mg base N_twice_named "twice_named" (defScope Hd.s_twice_named) (ga K "twice_named") cdv A outer s H E) (E := E) rfl rfl rfl rfl
    exact (pss_cut (ps_for (passes_of rfl) rfl (pi_anyP (pv 0)) (pg_name (i := 1) sc_twice_named.nd rfl (Or.inl rfl)) (pss_one (ps_if (PW.pt (pw_and (pt_cmpR (op_neP hr.units) (pe_slice sl_P (pv 1) po_none (po_some pe_int)) pe_str (nomark _)) (pw_and1 (pt_cmpR (op_inP hr.units) (pe_op op_addP pe_str (pv 1)) (pv 0) (by rfl))))) (pss_one (ps_ret (pv 1))) pss_nil)))
      (pss_one (ps_ret pe_non)))
theorem sc_checked_facts : FnScope N_checked_facts ["literals", "limit"] (defScope Hd.s_checked_facts) := ⟨rfl, rfl, rfl, by decide +kernel, rfl, by decide +kernel, by decide +kernel⟩
theorem b_checked_facts (T : Tx w K mg) : Binds K (fdOf K (ga K "checked_facts")) ["literals", "limit"] [] := T.fn_checked_facts.bindsN fun _ _ _ _ _ _ us hl => match us, hl with | [_, _], _ => rfl
theorem ok_checked_facts (T : Tx w K mg) : FnOk PySem.Challenge.pw_renamedhorn_k14_book_numbers w K mg base (L2N.CX PySem.Challenge.pw_renamedhorn_k14_book_numbers w) 5 (ga K "checked_facts") (fdOf K (ga K "checked_facts")) ["literals", "limit"] (sp_checked_facts K) := by
  refine T.fn_checked_facts.ok sc_checked_facts (fun vs H Q E h => Sp2.len h) (fun cdv A outer s H vs Q E hr h => ⟨t_checked_facts K (fun cls d _ H => E cls d H), ?_, pure_checked_facts h⟩)
  · have tk := L2N.takes_of (X := cxOf (L2N.CX PySem.Challenge.pw_renamedhorn_k14_book_numbers w) PySem.Challenge.pw_renamedhorn_k14_book_numbers w K mg base N_checked_facts "checked_facts" (defScope Hd.s_checked_facts) (ga K "checked_facts") cdv A outer s H E) (E := E) rfl rfl rfl rfl
    exact (pss_cons (ps_asg (pe_callS (ok_in_order T) (hr.mono (by decide)) rfl T.g_in_order (T.fn_in_order).kp (b_in_order T) (fun σ => L2N.passAt tk σ) (pa_cons (pv 0) pa_nil)) (pg_name (i := 2) sc_checked_facts.nd rfl (Or.inl rfl)))
      (pss_cons (ps_asg (pe_callS (ok_twice_named T) (hr.mono (by decide)) rfl T.g_twice_named (T.fn_twice_named).kp (b_twice_named T) (fun σ => L2N.passAt tk σ) (pa_cons (pv 2) pa_nil)) (pg_name (i := 3) sc_checked_facts.nd rfl (Or.inl rfl)))
      (pss_cut (ps_if (pt_cmpR op_isnotP (pv 3) pe_non (nomark _)) (pss_one (ps_raiseE rfl T.err_BothSigns hr tk (pa_cons (pv 3) pa_nil))) pss_nil)
      (pss_cut (ps_if (pt_cmpR op_gtP (pe_callB call_lenP (by rfl) T.f_len PyProof.Rows.Boot.«len» (pa_cons (pv 2) pa_nil)) (pv 1) (nomark _)) (pss_one (ps_raiseE rfl T.err_TooMany hr tk (pa_cons (pv 1) pa_nil))) pss_nil)
      (pss_one (ps_ret (pv 2)))))))
theorem sc_names_of : FnScope N_names_of ["literals"] (defScope Hd.s_names_of) := ⟨rfl, rfl, rfl, by decide +kernel, rfl, by decide +kernel, by decide +kernel⟩
theorem b_names_of (T : Tx w K mg) : Binds K (fdOf K (ga K "names_of")) ["literals"] [] := T.fn_names_of.bindsN fun _ _ _ _ _ _ us hl => match us, hl with | [_], _ => rfl
theorem ok_names_of (T : Tx w K mg) : FnOk PySem.Challenge.pw_renamedhorn_k14_book_numbers w K mg base (L2N.CX PySem.Challenge.pw_renamedhorn_k14_book_numbers w) 4 (ga K "names_of") (fdOf K (ga K "names_of")) ["literals"] (sp_names_of K) := by
  refine T.fn_names_of.ok sc_names_of (fun vs H Q E h => Sp1.len h) (fun cdv A outer s H vs Q E hr h => ⟨t_names_of K (fun cls d _ H => E cls d H), ?_, pure_names_of h⟩)
  · have tk := L2N.takes_of (X := cxOf (L2N.CX PySem.Challenge.pw_renamedhorn_k14_book_numbers w) PySem.Challenge.pw_renamedhorn_k14_book_numbers w K mg base N_names_of "names_of" (defScope Hd.s_names_of) (ga K "names_of") cdv A outer s H E) (E := E) rfl rfl rfl rfl
    exact (pss_one (ps_ret (pe_callS (ok_ordered_names T) (hr.mono (by decide)) rfl T.g_ordered_names (T.fn_ordered_names).kp (b_ordered_names T) (fun σ => L2N.passAt tk σ) (pa_cons (pe_lc (own := [("literal", 1)]) (g := (gName 1)) (tt := tYes) rfl sc_names_of.nd (pi_anyP (pv 0)) (blkOk_by (own := [("literal", 1)]) (N := N_names_of) (sc := defScope Hd.s_names_of) (by decide +kernel)) (fun _ _ _ _ _ => (pg_name (i := 1) sc_names_of.nd rfl (Or.inl rfl))) (fun _ _ _ _ _ => pts_nil) (fun _ _ _ _ _ => (pe_call (ok_name_of T) (hr.mono (by decide)) rfl T.g_name_of (T.fn_name_of).kp (b_name_of T) .nil passN (pa_cons (pv 1) pa_nil)))) pa_nil))))
theorem sc_names_in : FnScope N_names_in ["clauses"] (defScope Hd.s_names_in) := ⟨rfl, rfl, rfl, by decide +kernel, rfl, by decide +kernel, by decide +kernel⟩
theorem b_names_in (T : Tx w K mg) : Binds K (fdOf K (ga K "names_in")) ["clauses"] [] := T.fn_names_in.bindsN fun _ _ _ _ _ _ us hl => match us, hl with | [_], _ => rfl
theorem ok_names_in (T : Tx w K mg) : FnOk PySem.Challenge.pw_renamedhorn_k14_book_numbers w K mg base (L2N.CX PySem.Challenge.pw_renamedhorn_k14_book_numbers w) 5 (ga K "names_in") (fdOf K (ga K "names_in")) ["clauses"] (sp_names_in K) := by
  refine T.fn_names_in.ok sc_names_in (fun vs H Q E h => Sp1.len h) (fun cdv A outer s H vs Q E hr h => ⟨t_names_in K (fun cls d _ H => E cls d H), ?_, pure_names_in h⟩)
  · have tk := L2N.takes_of (X := cxOf (L2N.CX PySem.Challenge.pw_renamedhorn_k14_book_numbers w) PySem.Challenge.pw_renamedhorn_k14_book_numbers w K mg base N_names_in "names_in" (defScope Hd.s_names_in) (ga K "names_in") cdv A outer s H E) (E := E) rfl rfl rfl rfl
    exact (pss_one (ps_ret (pe_callS (ok_names_of T) (hr.mono (by decide)) rfl T.g_names_of (T.fn_names_of).kp (b_names_of T) (fun σ => L2N.passAt tk σ) (pa_cons (pe_lc2 (own := [("clause", 1), ("literal", 2)]) (vs1 := [2]) (g := (gName 1)) (tt := tYes) (g1 := (gName 2)) (tt1 := tYes) rfl sc_names_in.nd (pi_anyP (pv 0)) (blkOk_by (own := [("clause", 1), ("literal", 2)]) (N := N_names_in) (sc := defScope Hd.s_names_in) (by decide +kernel)) (by decide) (fun _ _ _ _ _ => (pg_name (i := 1) sc_names_in.nd rfl (Or.inl rfl))) (fun _ _ _ _ _ => pts_nil) (fun _ _ _ _ _ => (pi_anyP (Cl.pe_att (.cons (Cl.alt_fld T.cls_Clause T.no_Clause_literals) .nil) (pv 1)))) (fun _ _ _ _ _ => (pg_name (i := 2) sc_names_in.nd rfl (Or.inl rfl))) (fun _ _ _ _ _ => pts_nil) (fun _ _ _ _ _ => (pv 2))) pa_nil))))
theorem sc_check_sizes : FnScope N_check_sizes ["clauses", "most", "most_names"] (defScope Hd.s_check_sizes) := ⟨rfl, rfl, rfl, by decide +kernel, rfl, by decide +kernel, by decide +kernel⟩
theorem b_check_sizes (T : Tx w K mg) : Binds K (fdOf K (ga K "check_sizes")) ["clauses", "most", "most_names"] [] := T.fn_check_sizes.bindsN fun _ _ _ _ _ _ us hl => match us, hl with | [_, _, _], _ => rfl
theorem ok_check_sizes (T : Tx w K mg) : FnOk PySem.Challenge.pw_renamedhorn_k14_book_numbers w K mg base (L2N.CX PySem.Challenge.pw_renamedhorn_k14_book_numbers w) 6 (ga K "check_sizes") (fdOf K (ga K "check_sizes")) ["clauses", "most", "most_names"] (sp_check_sizes K) := by
  refine T.fn_check_sizes.ok sc_check_sizes (fun vs H Q E h => Sp3.len h) (fun cdv A outer s H vs Q E hr h => ⟨t_check_sizes K (fun cls d _ H => E cls d H), ?_, pure_check_sizes h⟩)
  · have tk := L2N.takes_of (X := cxOf (L2N.CX PySem.Challenge.pw_renamedhorn_k14_book_numbers w) PySem.Challenge.pw_renamedhorn_k14_book_numbers w K mg base N_check_sizes "check_sizes" (defScope Hd.s_check_sizes) (ga K "check_sizes") cdv A outer s H E) (E := E) rfl rfl rfl rfl
    exact (pss_one (ps_for (passes_of rfl) rfl (pi_range1 (by rfl) T.f_range (pa_cons (pe_callB call_lenP (by rfl) T.f_len PyProof.Rows.Boot.«len» (pa_cons (pv 0) pa_nil)) pa_nil)) (pg_name (i := 3) sc_check_sizes.nd rfl (Or.inl rfl)) (pss_cut (ps_if (pt_cmpR op_geP (pv 3) (pv 1) (nomark _)) (pss_one (ps_raiseE rfl T.err_TooMany hr tk (pa_cons (pv 1) pa_nil))) pss_nil)
      (pss_one (ps_if (pt_cmpR op_gtP (pe_callB call_lenP (by rfl) T.f_len PyProof.Rows.Boot.«len» (pa_cons (pe_callS (ok_names_in T) (hr.mono (by decide)) rfl T.g_names_in (T.fn_names_in).kp (b_names_in T) (fun σ => L2N.passAt tk σ) (pa_cons (pe_slice sl_P (pv 0) po_none (po_some (pe_op op_addP (pv 3) pe_int))) pa_nil)) pa_nil)) (pv 2) (nomark _)) (pss_one (ps_raiseE rfl T.err_TooMany hr tk (pa_cons (pv 2) pa_nil))) pss_nil)))))
theorem sc_law_source : FnScope N_law_source ["_law_script"] (defScope Hd.s_law_source) := ⟨rfl, rfl, rfl, by decide +kernel, rfl, by decide +kernel, by decide +kernel⟩
theorem b_law_source (T : Tx w K mg) : Binds K (fdOf K (ga K "_law_source")) ["_law_script"] [] := T.fn_law_source.bindsN fun _ _ _ _ _ _ us hl => match us, hl with | [_], _ => rfl
theorem ok_law_source (T : Tx w K mg) : FnOk PySem.Challenge.pw_renamedhorn_k14_book_numbers w K mg base (L2N.CX PySem.Challenge.pw_renamedhorn_k14_book_numbers w) 1 (ga K "_law_source") (fdOf K (ga K "_law_source")) ["_law_script"] (sp_law_source K) := by
  refine T.fn_law_source.ok sc_law_source (fun vs H Q E h => Sp1.len h) (fun cdv A outer s H vs Q E hr h => ⟨t_law_source K (fun cls d _ H => E cls d H), ?_, pure_law_source h⟩)
  · have tk := L2N.takes_of (X := cxOf (L2N.CX PySem.Challenge.pw_renamedhorn_k14_book_numbers w) PySem.Challenge.pw_renamedhorn_k14_book_numbers w K mg base N_law_source "_law_source" (defScope Hd.s_law_source) (ga K "_law_source") cdv A outer s H E) (E := E) rfl rfl rfl rfl
    exact (pss_one (ps_ret (pe_lst (pa_cons (pe_callTy call_listP (by rfl) T.f_list PyProof.Rows.Boot.«list» (pa_cons (pv 0) pa_nil)) (pa_cons pe_int (pa_cons pe_int (pa_cons pe_int (pa_cons pe_int pa_nil))))))))
theorem sc_law_take : FnScope N_law_take ["_law_source_here", "_law_many"] (defScope Hd.s_law_take) := ⟨rfl, rfl, rfl, by decide +kernel, rfl, by decide +kernel, by decide +kernel⟩
theorem b_law_take (T : Tx w K mg) : Binds K (fdOf K (ga K "_law_take")) ["_law_source_here", "_law_many"] [] := T.fn_law_take.bindsN fun _ _ _ _ _ _ us hl => match us, hl with | [_, _], _ => rfl
theorem ok_law_take (T : Tx w K mg) : FnOk PySem.Challenge.pw_renamedhorn_k14_book_numbers w K mg base (L2N.CX PySem.Challenge.pw_renamedhorn_k14_book_numbers w) 1 (ga K "_law_take") (fdOf K (ga K "_law_take")) ["_law_source_here", "_law_many"] (sp_law_take K) := by
  refine T.fn_law_take.ok sc_law_take (fun vs H Q E h => Sp2.len h) (fun cdv A outer s H vs Q E hr h => ⟨t_law_take K (fun cls d _ H => E cls d H), ?_, pure_law_take h⟩)
  · have tk := L2N.takes_of (X := cxOf (L2N.CX PySem.Challenge.pw_renamedhorn_k14_book_numbers w) PySem.Challenge.pw_renamedhorn_k14_book_numbers w K mg base N_law_take "_law_take" (defScope Hd.s_law_take) (ga K "_law_take") cdv A outer s H E) (E := E) rfl rfl rfl rfl
    exact (pss_cut (ps_if (pt_cmpR (op_eqP hr.units) (pe_ix ix_P (pv 0) pe_int (fun _ _ => rfl)) pe_int (nomark _)) (pss_cut (ps_if (pt_cmpR op_geP (pe_ix ix_P (pv 0) pe_int (fun _ _ => rfl)) (pe_callB call_lenP (by rfl) T.f_len PyProof.Rows.Boot.«len» (pa_cons (pe_ix ix_P (pv 0) pe_int (fun _ _ => rfl)) pa_nil)) (nomark _)) (pss_one (ps_ret pe_int)) pss_nil)
      (pss_cons (ps_asg (pe_callTy call_intP (by rfl) T.f_int PyProof.Rows.Boot.«int» (pa_cons (pe_ix ix_P (pe_ix ix_P (pv 0) pe_int (fun _ _ => rfl)) (pe_ix ix_P (pv 0) pe_int (fun _ _ => rfl)) (fun _ _ => rfl)) pa_nil)) (pg_name (i := 3) sc_law_take.nd rfl (Or.inl rfl)))
      (pss_cons (ps_asg (pe_op op_addP (pe_ix ix_P (pv 0) pe_int (fun _ _ => rfl)) pe_int) (pg_sub (pv 0) pe_int (set_P hr.units)))
      (pss_cons (ps_asg (pv 3) (pg_sub (pv 0) pe_int (set_P hr.units)))
      (pss_cons (ps_asg pe_int (pg_sub (pv 0) pe_int (set_P hr.units)))
      (pss_cons (ps_asg pe_int (pg_sub (pv 0) pe_int (set_P hr.units)))
      (pss_one (ps_if (pt_cmpR op_geP (pv 3) (pe_op op_powP pe_int pe_int) (nomark _)) (pss_cons (ps_asg pe_int (pg_sub (pv 0) pe_int (set_P hr.units)))
      (pss_one (ps_asg pe_int (pg_sub (pv 0) pe_int (set_P hr.units))))) pss_nil)))))))) pss_nil)
      (pss_cons (ps_asg (pe_op op_subP (pe_ix ix_P (pv 0) pe_int (fun _ _ => rfl)) pe_int) (pg_sub (pv 0) pe_int (set_P hr.units)))
      (pss_cut (ps_if (pt_cmpR (op_eqP hr.units) (pe_ix ix_P (pv 0) pe_int (fun _ _ => rfl)) pe_int (nomark _)) (pss_cons (ps_asg (pe_op op_modP (pe_callTy call_intP (by rfl) T.f_int PyProof.Rows.Boot.«int» (pa_cons (pe_ix ix_P (pv 0) pe_int (fun _ _ => rfl)) pa_nil)) (pv 1)) (pg_name (i := 4) sc_law_take.nd rfl (Or.inl rfl)))
      (pss_cons (ps_asg (pe_op op_fdivP (pe_ix ix_P (pv 0) pe_int (fun _ _ => rfl)) (pv 1)) (pg_sub (pv 0) pe_int (set_P hr.units)))
      (pss_cut (ps_if (pt_cmpR (op_eqP hr.units) (pe_ix ix_P (pv 0) pe_int (fun _ _ => rfl)) pe_int (nomark _)) (pss_one (ps_asg pe_int (pg_sub (pv 0) pe_int (set_P hr.units)))) pss_nil)
      (pss_one (ps_ret (pv 4)))))) pss_nil)
      (pss_cons (ps_asg (pe_op op_modP (pe_callTy call_intP (by rfl) T.f_int PyProof.Rows.Boot.«int» (pa_cons (pe_op op_addP (pe_op op_addP (pe_op op_mulP (pe_ix ix_P (pv 0) pe_int (fun _ _ => rfl)) pe_int) (pe_op op_mulP (pe_ix ix_P (pv 0) pe_int (fun _ _ => rfl)) pe_int)) pe_int) pa_nil)) pe_int) (pg_name (i := 2) sc_law_take.nd rfl (Or.inl rfl)))
      (pss_cons (ps_asg (pe_op op_modP (pe_callTy call_intP (by rfl) T.f_int PyProof.Rows.Boot.«int» (pa_cons (pe_op op_addP (pe_op op_addP (pe_op op_mulP (pv 2) pe_int) (pe_op op_mulP (pe_ix ix_P (pv 0) pe_int (fun _ _ => rfl)) pe_int)) pe_int) pa_nil)) pe_int) (pg_name (i := 2) sc_law_take.nd rfl (Or.inl rfl)))
      (pss_one (ps_ret (pe_op op_modP (pe_callTy call_intP (by rfl) T.f_int PyProof.Rows.Boot.«int» (pa_cons (pv 2) pa_nil)) (pv 1)))))))))
theorem sc_law_word : FnScope N_law_word ["_law_source_here", "_law_size"] (defScope Hd.s_law_word) := ⟨rfl, rfl, rfl, by decide +kernel, rfl, by decide +kernel, by decide +kernel⟩
theorem b_law_word (T : Tx w K mg) : Binds K (fdOf K (ga K "_law_word")) ["_law_source_here", "_law_size"] [] := T.fn_law_word.bindsN fun _ _ _ _ _ _ us hl => match us, hl with | [_, _], _ => rfl
theorem ok_law_word (T : Tx w K mg) : FnOk PySem.Challenge.pw_renamedhorn_k14_book_numbers w K mg base (L2N.CX PySem.Challenge.pw_renamedhorn_k14_book_numbers w) 2 (ga K "_law_word") (fdOf K (ga K "_law_word")) ["_law_source_here", "_law_size"] (sp_law_word K) := by
  refine T.fn_law_word.ok sc_law_word (fun vs H Q E h => Sp2.len h) (fun cdv A outer s H vs Q E hr h => ⟨t_law_word K (fun cls d _ H => E cls d H), ?_, pure_law_word h⟩)
  · have tk := L2N.takes_of (X := cxOf (L2N.CX PySem.Challenge.pw_renamedhorn_k14_book_numbers w) PySem.Challenge.pw_renamedhorn_k14_book_numbers w K mg base N_law_word "_law_word" (defScope Hd.s_law_word) (ga K "_law_word") cdv A outer s H E) (E := E) rfl rfl rfl rfl
    exact (pss_cons (ps_asg pe_str (pg_name (i := 2) sc_law_word.nd rfl (Or.inl rfl)))
      (pss_cons (ps_asg pe_str (pg_name (i := 3) sc_law_word.nd rfl (Or.inl rfl)))
      (pss_cons (ps_asg (pe_ix ix_P (pv 2) (pe_callS (ok_law_take T) (hr.mono (by decide)) rfl T.g_law_take (T.fn_law_take).kp (b_law_take T) (fun σ => L2N.passAt tk σ) (pa_cons (pv 0) (pa_cons pe_int pa_nil))) (fun _ _ => rfl)) (pg_name (i := 4) sc_law_word.nd rfl (Or.inl rfl)))
      (pss_cons (ps_asg (pe_callS (ok_law_take T) (hr.mono (by decide)) rfl T.g_law_take (T.fn_law_take).kp (b_law_take T) (fun σ => L2N.passAt tk σ) (pa_cons (pv 0) (pa_cons (pe_op op_powP pe_int pe_int) pa_nil))) (pg_name (i := 5) sc_law_word.nd rfl (Or.inl rfl)))
      (pss_cut (ps_for (passes_of rfl) rfl (pi_range1 (by rfl) T.f_range (pa_cons (pe_op op_subP (pv 1) pe_int) pa_nil)) (pg_name (i := 6) sc_law_word.nd rfl (Or.inl rfl)) (pss_cons (ps_asg (pe_op op_addP (pv 4) (pe_ix ix_P (pv 3) (pe_op op_modP (pe_callTy call_intP (by rfl) T.f_int PyProof.Rows.Boot.«int» (pa_cons (pv 5) pa_nil)) pe_int) (fun _ _ => rfl))) (pg_name (i := 4) sc_law_word.nd rfl (Or.inl rfl)))
      (pss_one (ps_asg (pe_op op_fdivP (pv 5) pe_int) (pg_name (i := 5) sc_law_word.nd rfl (Or.inl rfl))))))
      (pss_one (ps_ret (pv 4))))))))
theorem sc_law_names : FnScope N_law_names ["_law_source_here", "_law_many"] (defScope Hd.s_law_names) := ⟨rfl, rfl, rfl, by decide +kernel, rfl, by decide +kernel, by decide +kernel⟩
theorem b_law_names (T : Tx w K mg) : Binds K (fdOf K (ga K "_law_names")) ["_law_source_here", "_law_many"] [] := T.fn_law_names.bindsN fun _ _ _ _ _ _ us hl => match us, hl with | [_, _], _ => rfl
theorem ok_law_names (T : Tx w K mg) : FnOk PySem.Challenge.pw_renamedhorn_k14_book_numbers w K mg base (L2N.CX PySem.Challenge.pw_renamedhorn_k14_book_numbers w) 3 (ga K "_law_names") (fdOf K (ga K "_law_names")) ["_law_source_here", "_law_many"] (sp_law_names K) := by
  refine T.fn_law_names.ok sc_law_names (fun vs H Q E h => Sp2.len h) (fun cdv A outer s H vs Q E hr h => ⟨t_law_names K (fun cls d _ H => E cls d H), ?_, pure_law_names h⟩)
  · have tk := L2N.takes_of (X := cxOf (L2N.CX PySem.Challenge.pw_renamedhorn_k14_book_numbers w) PySem.Challenge.pw_renamedhorn_k14_book_numbers w K mg base N_law_names "_law_names" (defScope Hd.s_law_names) (ga K "_law_names") cdv A outer s H E) (E := E) rfl rfl rfl rfl
    exact (pss_cons (ps_asg pe_str (pg_name (i := 2) sc_law_names.nd rfl (Or.inl rfl)))
      (pss_cons (ps_asg (pe_callS (ok_law_take T) (hr.mono (by decide)) rfl T.g_law_take (T.fn_law_take).kp (b_law_take T) (fun σ => L2N.passAt tk σ) (pa_cons (pv 0) (pa_cons pe_int pa_nil))) (pg_name (i := 3) sc_law_names.nd rfl (Or.inl rfl)))
      (pss_cons (ps_asg (pe_op op_addP pe_int (pe_callS (ok_law_take T) (hr.mono (by decide)) rfl T.g_law_take (T.fn_law_take).kp (b_law_take T) (fun σ => L2N.passAt tk σ) (pa_cons (pv 0) (pa_cons pe_int pa_nil)))) (pg_name (i := 4) sc_law_names.nd rfl (Or.inl rfl)))
      (pss_cons (ps_asg (pe_callS (ok_law_take T) (hr.mono (by decide)) rfl T.g_law_take (T.fn_law_take).kp (b_law_take T) (fun σ => L2N.passAt tk σ) (pa_cons (pv 0) (pa_cons (pv 4) pa_nil))) (pg_name (i := 5) sc_law_names.nd rfl (Or.inl rfl)))
      (pss_cons (ps_asg (pe_callS (ok_law_word T) (hr.mono (by decide)) rfl T.g_law_word (T.fn_law_word).kp (b_law_word T) (fun σ => L2N.passAt tk σ) (pa_cons (pv 0) (pa_cons (pv 4) pa_nil))) (pg_name (i := 6) sc_law_names.nd rfl (Or.inl rfl)))
      (pss_cons (ps_asg (pe_callS (ok_law_take T) (hr.mono (by decide)) rfl T.g_law_take (T.fn_law_take).kp (b_law_take T) (fun σ => L2N.passAt tk σ) (pa_cons (pv 0) (pa_cons pe_int pa_nil))) (pg_name (i := 7) sc_law_names.nd rfl (Or.inl rfl)))
      (pss_cons (ps_asg (pe_ix ix_P (pe_lst (pa_cons pe_int (pa_cons pe_int (pa_cons pe_int (pa_cons pe_int pa_nil))))) (pe_callS (ok_law_take T) (hr.mono (by decide)) rfl T.g_law_take (T.fn_law_take).kp (b_law_take T) (fun σ => L2N.passAt tk σ) (pa_cons (pv 0) (pa_cons pe_int pa_nil))) (fun _ _ => rfl)) (pg_name (i := 8) sc_law_names.nd rfl (Or.inl rfl)))
      (pss_cons (ps_asg (pe_lst pa_nil) (pg_name (i := 9) sc_law_names.nd rfl (Or.inl rfl)))
      (pss_cut (ps_for (passes_of rfl) rfl (pi_range1 (by rfl) T.f_range (pa_cons (pv 1) pa_nil)) (pg_name (i := 10) sc_law_names.nd rfl (Or.inl rfl)) (pss_cons (ps_asg (pe_ix ix_P (pv 2) (pe_op op_modP (pe_callTy call_intP (by rfl) T.f_int PyProof.Rows.Boot.«int» (pa_cons (pe_op op_addP (pv 7) (pe_op op_mulP (pv 8) (pv 10))) pa_nil)) pe_int) (fun _ _ => rfl)) (pg_name (i := 11) sc_law_names.nd rfl (Or.inl rfl)))
      (pss_one (ps_if (pt_cmpR (op_eqP hr.units) (pv 3) pe_int (nomark _)) (pss_one (ps_expr (pe_bm PySem.F.plainAttrs_list PySem.F.slot_list_append PySem.F.type_list_append mt_append (pv 9) (pa_cons (pe_op op_addP (pe_op op_addP (pe_slice sl_P (pv 6) po_none (po_some (pv 5))) (pv 11)) (pe_slice sl_P (pv 6) (po_some (pe_op op_addP (pv 5) pe_int)) po_none)) pa_nil)))) (pss_one (ps_if (pt_cmpR (op_eqP hr.units) (pv 3) pe_int (nomark _)) (pss_one (ps_expr (pe_bm PySem.F.plainAttrs_list PySem.F.slot_list_append PySem.F.type_list_append mt_append (pv 9) (pa_cons (pe_op op_addP (pv 11) (pe_slice sl_P (pv 6) (po_some pe_int) (po_some (pe_op op_addP pe_int (pe_callS (ok_law_take T) (hr.mono (by decide)) rfl T.g_law_take (T.fn_law_take).kp (b_law_take T) (fun σ => L2N.passAt tk σ) (pa_cons (pv 0) (pa_cons pe_int pa_nil))))))) pa_nil)))) (pss_one (ps_expr (pe_bm PySem.F.plainAttrs_list PySem.F.slot_list_append PySem.F.type_list_append mt_append (pv 9) (pa_cons (pe_op op_addP (pe_op op_addP (pe_slice sl_P (pv 6) po_none (po_some (pv 5))) (pv 11)) (pe_slice sl_P (pe_callS (ok_law_word T) (hr.mono (by decide)) rfl T.g_law_word (T.fn_law_word).kp (b_law_word T) (fun σ => L2N.passAt tk σ) (pa_cons (pv 0) (pa_cons (pe_op op_subP pe_int (pv 5)) pa_nil))) po_none (po_some (pe_callS (ok_law_take T) (hr.mono (by decide)) rfl T.g_law_take (T.fn_law_take).kp (b_law_take T) (fun σ => L2N.passAt tk σ) (pa_cons (pv 0) (pa_cons (pe_op op_subP pe_int (pv 5)) pa_nil)))))) pa_nil))))))))))
      (pss_one (ps_ret (pv 9))))))))))))
theorem sc_law_name : FnScope N_law_name ["_law_literal"] (defScope Hd.s_law_name) := ⟨rfl, rfl, rfl, by decide +kernel, rfl, by decide +kernel, by decide +kernel⟩
theorem b_law_name (T : Tx w K mg) : Binds K (fdOf K (ga K "_law_name")) ["_law_literal"] [] := T.fn_law_name.bindsN fun _ _ _ _ _ _ us hl => match us, hl with | [_], _ => rfl
theorem ok_law_name (T : Tx w K mg) : FnOk PySem.Challenge.pw_renamedhorn_k14_book_numbers w K mg base (L2N.CX PySem.Challenge.pw_renamedhorn_k14_book_numbers w) 1 (ga K "_law_name") (fdOf K (ga K "_law_name")) ["_law_literal"] (sp_law_name K) := by
  refine T.fn_law_name.ok sc_law_name (fun vs H Q E h => Sp1.len h) (fun cdv A outer s H vs Q E hr h => ⟨t_law_name K (fun cls d _ H => E cls d H), ?_, pure_law_name h⟩)
  · have tk := L2N.takes_of (X := cxOf (L2N.CX PySem.Challenge.pw_renamedhorn_k14_book_numbers w) PySem.Challenge.pw_renamedhorn_k14_book_numbers w K mg base N_law_name "_law_name" (defScope Hd.s_law_name) (ga K "_law_name") cdv A outer s H E) (E := E) rfl rfl rfl rfl
    exact (pss_cut (ps_if (pt_cmpR (op_eqP hr.units) (pe_slice sl_P (pv 0) po_none (po_some pe_int)) pe_str (nomark _)) (pss_one (ps_ret (pe_slice sl_P (pv 0) (po_some pe_int) po_none))) pss_nil)
      (pss_one (ps_ret (pv 0))))
theorem sc_law_sorted : FnScope N_law_sorted ["_law_names_here"] (defScope Hd.s_law_sorted) := ⟨rfl, rfl, rfl, by decide +kernel, rfl, by decide +kernel, by decide +kernel⟩
theorem b_law_sorted (T : Tx w K mg) : Binds K (fdOf K (ga K "_law_sorted")) ["_law_names_here"] [] := T.fn_law_sorted.bindsN fun _ _ _ _ _ _ us hl => match us, hl with | [_], _ => rfl
theorem ok_law_sorted (T : Tx w K mg) : FnOk PySem.Challenge.pw_renamedhorn_k14_book_numbers w K mg base (L2N.CX PySem.Challenge.pw_renamedhorn_k14_book_numbers w) 1 (ga K "_law_sorted") (fdOf K (ga K "_law_sorted")) ["_law_names_here"] (sp_law_sorted K) := by
  refine T.fn_law_sorted.ok sc_law_sorted (fun vs H Q E h => Sp1.len h) (fun cdv A outer s H vs Q E hr h => ⟨t_law_sorted K (fun cls d _ H => E cls d H), ?_, pure_law_sorted h⟩)
  · have tk := L2N.takes_of (X := cxOf (L2N.CX PySem.Challenge.pw_renamedhorn_k14_book_numbers w) PySem.Challenge.pw_renamedhorn_k14_book_numbers w K mg base N_law_sorted "_law_sorted" (defScope Hd.s_law_sorted) (ga K "_law_sorted") cdv A outer s H E) (E := E) rfl rfl rfl rfl
    exact (pss_cons (ps_asg (pe_lst pa_nil) (pg_name (i := 1) sc_law_sorted.nd rfl (Or.inl rfl)))
      (pss_cut (ps_for (passes_of rfl) rfl (pi_anyP (pe_callB cr_sortedP2 (by rfl) T.f_sorted PyProof.Rows.Boot.«sorted» (pa_cons (pe_lc (own := [("_law_each", 3)]) (g := (gName 3)) (tt := tYes) rfl sc_law_sorted.nd (pi_anyP (pv 0)) (blkOk_by (own := [("_law_each", 3)]) (N := N_law_sorted) (sc := defScope Hd.s_law_sorted) (by decide +kernel)) (fun _ _ _ _ _ => (pg_name (i := 3) sc_law_sorted.nd rfl (Or.inl rfl))) (fun _ _ _ _ _ => pts_nil) (fun _ _ _ _ _ => (pe_callTy call_strP (by rfl) T.f_str PyProof.Rows.Boot.«str» (pa_cons (pv 3) pa_nil)))) pa_nil))) (pg_name (i := 2) sc_law_sorted.nd rfl (Or.inl rfl)) (pss_one (ps_if (pt_cmpR (op_ninP hr.units) (pv 2) (pv 1) (by rfl)) (pss_one (ps_expr (pe_bm PySem.F.plainAttrs_list PySem.F.slot_list_append PySem.F.type_list_append mt_append (pv 1) (pa_cons (pv 2) pa_nil)))) pss_nil)))
      (pss_one (ps_ret (pv 1)))))
theorem sc_law_ordered : FnScope N_law_ordered ["_law_literals"] (defScope Hd.s_law_ordered) := ⟨rfl, rfl, rfl, by decide +kernel, rfl, by decide +kernel, by decide +kernel⟩
theorem b_law_ordered (T : Tx w K mg) : Binds K (fdOf K (ga K "_law_ordered")) ["_law_literals"] [] := T.fn_law_ordered.bindsN fun _ _ _ _ _ _ us hl => match us, hl with | [_], _ => rfl
theorem ok_law_ordered (T : Tx w K mg) : FnOk PySem.Challenge.pw_renamedhorn_k14_book_numbers w K mg base (L2N.CX PySem.Challenge.pw_renamedhorn_k14_book_numbers w) 2 (ga K "_law_ordered") (fdOf K (ga K "_law_ordered")) ["_law_literals"] (sp_law_ordered K) := by
  refine T.fn_law_ordered.ok sc_law_ordered (fun vs H Q E h => Sp1.len h) (fun cdv A outer s H vs Q E hr h => ⟨t_law_ordered K (fun cls d _ H => E cls d H), ?_, pure_law_ordered h⟩)
  · have tk := L2N.takes_of (X := cxOf (L2N.CX PySem.Challenge.pw_renamedhorn_k14_book_numbers w) PySem.Challenge.pw_renamedhorn_k14_book_numbers w K mg base N_law_ordered "_law_ordered" (defScope Hd.s_law_ordered) (ga K "_law_ordered") cdv A outer s H E) (E := E) rfl rfl rfl rfl
    exact (pss_cons (ps_asg (pe_lst pa_nil) (pg_name (i := 1) sc_law_ordered.nd rfl (Or.inl rfl)))
      (pss_cut (ps_for (passes_of rfl) rfl (pi_anyP (pe_callS (ok_law_sorted T) (hr.mono (by decide)) rfl T.g_law_sorted (T.fn_law_sorted).kp (b_law_sorted T) (fun σ => L2N.passAt tk σ) (pa_cons (pe_lc (own := [("_law_each", 3)]) (g := (gName 3)) (tt := tYes) rfl sc_law_ordered.nd (pi_anyP (pv 0)) (blkOk_by (own := [("_law_each", 3)]) (N := N_law_ordered) (sc := defScope Hd.s_law_ordered) (by decide +kernel)) (fun _ _ _ _ _ => (pg_name (i := 3) sc_law_ordered.nd rfl (Or.inl rfl))) (fun _ _ _ _ _ => pts_nil) (fun _ _ _ _ _ => (pe_call (ok_law_name T) (hr.mono (by decide)) rfl T.g_law_name (T.fn_law_name).kp (b_law_name T) .nil passN (pa_cons (pv 3) pa_nil)))) pa_nil))) (pg_name (i := 2) sc_law_ordered.nd rfl (Or.inl rfl)) (pss_cut (ps_if (pt_cmpR (op_inP hr.units) (pv 2) (pv 0) (by rfl)) (pss_one (ps_expr (pe_bm PySem.F.plainAttrs_list PySem.F.slot_list_append PySem.F.type_list_append mt_append (pv 1) (pa_cons (pv 2) pa_nil)))) pss_nil)
      (pss_one (ps_if (pt_cmpR (op_inP hr.units) (pe_op op_addP pe_str (pv 2)) (pv 0) (by rfl)) (pss_one (ps_expr (pe_bm PySem.F.plainAttrs_list PySem.F.slot_list_append PySem.F.type_list_append mt_append (pv 1) (pa_cons (pe_op op_addP pe_str (pv 2)) pa_nil)))) pss_nil))))
      (pss_one (ps_ret (pv 1)))))
theorem sc_law_same : FnScope N_law_same ["_law_one", "_law_other"] (defScope Hd.s_law_same) := ⟨rfl, rfl, rfl, by decide +kernel, rfl, by decide +kernel, by decide +kernel⟩
theorem b_law_same (T : Tx w K mg) : Binds K (fdOf K (ga K "_law_same")) ["_law_one", "_law_other"] [] := T.fn_law_same.bindsN fun _ _ _ _ _ _ us hl => match us, hl with | [_, _], _ => rfl
theorem okn_law_same (T : Tx w K mg) (n : Nat) (okR : FnOk PySem.Challenge.pw_renamedhorn_k14_book_numbers w K mg base (L2N.CX PySem.Challenge.pw_renamedhorn_k14_book_numbers w) n (ga K "_law_same") (fdOf K (ga K "_law_same")) ["_law_one", "_law_other"] (spR_law_same K n)) : FnOk PySem.Challenge.pw_renamedhorn_k14_book_numbers w K mg base (L2N.CX PySem.Challenge.pw_renamedhorn_k14_book_numbers w) (n + 1) (ga K "_law_same") (fdOf K (ga K "_law_same")) ["_law_one", "_law_other"] (spn_law_same K n) := by
  refine T.fn_law_same.ok sc_law_same (fun vs H Q E h => Sp2.len h) (fun cdv A outer s H vs Q E hr h => ⟨t_law_same K (spR_law_same K n) (fun cls d _ H => E cls d H), ?_, pure_law_same h⟩)
  · have tk := L2N.takes_of (X := cxOf (L2N.CX PySem.Challenge.pw_renamedhorn_k14_book_numbers w) PySem.Challenge.pw_renamedhorn_k14_book_numbers w K mg base N_law_same "_law_same" (defScope Hd.s_law_same) (ga K "_law_same") cdv A outer s H E) (E := E) rfl rfl rfl rfl
    exact (pss_cut (ps_if (PW.pt (pw_or (pt_val (pe_callB call_isi (by rfl) T.f_isinstance PyProof.Rows.Boot.«isinstance» (pa_cons (pv 0) (pa_cons (pe_bltn (v := .ty "bool") rfl (T.f_bool) PyProof.Rows.Boot.«bool» rfl) pa_nil)))) (pw_or1 (pt_val (pe_callB call_isi (by rfl) T.f_isinstance PyProof.Rows.Boot.«isinstance» (pa_cons (pv 1) (pa_cons (pe_bltn (v := .ty "bool") rfl (T.f_bool) PyProof.Rows.Boot.«bool» rfl) pa_nil))))))) (pss_one (ps_ret (pe_and (pe_callB call_isi (by rfl) T.f_isinstance PyProof.Rows.Boot.«isinstance» (pa_cons (pv 0) (pa_cons (pe_bltn (v := .ty "bool") rfl (T.f_bool) PyProof.Rows.Boot.«bool» rfl) pa_nil))) (pe_and (pe_callB call_isi (by rfl) T.f_isinstance PyProof.Rows.Boot.«isinstance» (pa_cons (pv 1) (pa_cons (pe_bltn (v := .ty "bool") rfl (T.f_bool) PyProof.Rows.Boot.«bool» rfl) pa_nil))) (pe_one (pe_cmpR (op_eqP hr.units) (pv 0) (pv 1) (nomark _))))))) pss_nil)
      (pss_cut (ps_if (PW.pt (pw_or (pt_val (pe_callB call_isi (by rfl) T.f_isinstance PyProof.Rows.Boot.«isinstance» (pa_cons (pv 0) (pa_cons (pe_bltn (v := .ty "int") rfl (T.f_int) PyProof.Rows.Boot.«int» rfl) pa_nil)))) (pw_or1 (pt_val (pe_callB call_isi (by rfl) T.f_isinstance PyProof.Rows.Boot.«isinstance» (pa_cons (pv 1) (pa_cons (pe_bltn (v := .ty "int") rfl (T.f_int) PyProof.Rows.Boot.«int» rfl) pa_nil))))))) (pss_one (ps_ret (pe_and (pe_callB call_isi (by rfl) T.f_isinstance PyProof.Rows.Boot.«isinstance» (pa_cons (pv 0) (pa_cons (pe_bltn (v := .ty "int") rfl (T.f_int) PyProof.Rows.Boot.«int» rfl) pa_nil))) (pe_and (pe_callB call_isi (by rfl) T.f_isinstance PyProof.Rows.Boot.«isinstance» (pa_cons (pv 1) (pa_cons (pe_bltn (v := .ty "int") rfl (T.f_int) PyProof.Rows.Boot.«int» rfl) pa_nil))) (pe_one (pe_cmpR (op_eqP hr.units) (pv 0) (pv 1) (nomark _))))))) pss_nil)
      (pss_cut (ps_if (PW.pt (pw_or (pt_val (pe_callB call_isi (by rfl) T.f_isinstance PyProof.Rows.Boot.«isinstance» (pa_cons (pv 0) (pa_cons (pe_bltn (v := .ty "str") rfl (T.f_str) PyProof.Rows.Boot.«str» rfl) pa_nil)))) (pw_or1 (pt_val (pe_callB call_isi (by rfl) T.f_isinstance PyProof.Rows.Boot.«isinstance» (pa_cons (pv 1) (pa_cons (pe_bltn (v := .ty "str") rfl (T.f_str) PyProof.Rows.Boot.«str» rfl) pa_nil))))))) (pss_one (ps_ret (pe_and (pe_callB call_isi (by rfl) T.f_isinstance PyProof.Rows.Boot.«isinstance» (pa_cons (pv 0) (pa_cons (pe_bltn (v := .ty "str") rfl (T.f_str) PyProof.Rows.Boot.«str» rfl) pa_nil))) (pe_and (pe_callB call_isi (by rfl) T.f_isinstance PyProof.Rows.Boot.«isinstance» (pa_cons (pv 1) (pa_cons (pe_bltn (v := .ty "str") rfl (T.f_str) PyProof.Rows.Boot.«str» rfl) pa_nil))) (pe_one (pe_cmpR (op_eqP hr.units) (pv 0) (pv 1) (nomark _))))))) pss_nil)
      (pss_cons (ps_asg (pe_and (pe_callB call_isi (by rfl) T.f_isinstance PyProof.Rows.Boot.«isinstance» (pa_cons (pv 0) (pa_cons (pe_bltn (v := .ty "list") rfl (T.f_list) PyProof.Rows.Boot.«list» rfl) pa_nil))) (pe_one (pe_callB call_isi (by rfl) T.f_isinstance PyProof.Rows.Boot.«isinstance» (pa_cons (pv 1) (pa_cons (pe_bltn (v := .ty "list") rfl (T.f_list) PyProof.Rows.Boot.«list» rfl) pa_nil))))) (pg_name (i := 2) sc_law_same.nd rfl (Or.inl rfl)))
      (pss_cut (ps_if (PW.pt (pw_and (pt_not (pt_val (pv 2))) (pw_and1 (pt_not (PW.pt (pw_and (pt_val (pe_callB call_isi (by rfl) T.f_isinstance PyProof.Rows.Boot.«isinstance» (pa_cons (pv 0) (pa_cons (pe_bltn (v := .ty "tuple") rfl (T.f_tuple) PyProof.Rows.Boot.«tuple» rfl) pa_nil)))) (pw_and1 (pt_val (pe_callB call_isi (by rfl) T.f_isinstance PyProof.Rows.Boot.«isinstance» (pa_cons (pv 1) (pa_cons (pe_bltn (v := .ty "tuple") rfl (T.f_tuple) PyProof.Rows.Boot.«tuple» rfl) pa_nil))))))))))) (pss_one (ps_ret (pe_and (pe_cmpR op_isP (pv 0) pe_non (nomark _)) (pe_one (pe_cmpR op_isP (pv 1) pe_non (nomark _)))))) pss_nil)
      (pss_one (ps_ret (pe_and (pe_cmpR (op_eqP hr.units) (pe_callB call_lenP (by rfl) T.f_len PyProof.Rows.Boot.«len» (pa_cons (pv 0) pa_nil)) (pe_callB call_lenP (by rfl) T.f_len PyProof.Rows.Boot.«len» (pa_cons (pv 1) pa_nil)) (nomark _)) (pe_one (pe_callB (cr_all rfl) (by rfl) T.f_all PyProof.Rows.Boot.«all» (pa_cons (pe_lc (own := [("_law_k", 3)]) (g := (gName 3)) (tt := tYes) rfl sc_law_same.nd (pi_range1 (by rfl) T.f_range (pa_cons (pe_callB call_lenP (by rfl) T.f_len PyProof.Rows.Boot.«len» (pa_cons (pv 0) pa_nil)) pa_nil)) (blkOk_by (own := [("_law_k", 3)]) (N := N_law_same) (sc := defScope Hd.s_law_same) (by decide +kernel)) (fun _ _ _ _ _ => (pg_name (i := 3) sc_law_same.nd rfl (Or.inl rfl))) (fun _ _ _ _ _ => pts_nil) (fun _ _ _ _ _ => (pe_call okR (hr.mono (by omega)) rfl T.g_law_same (T.fn_law_same).kp (b_law_same T) .nil passN (pa_cons (pe_ix ix_P (pv 0) (pv 3) (fun _ _ => rfl)) (pa_cons (pe_ix ix_P (pv 1) (pv 3) (fun _ _ => rfl)) pa_nil))))) pa_nil)))))))))))
theorem oka_law_same (T : Tx w K mg) : ∀ n : Nat, FnOk PySem.Challenge.pw_renamedhorn_k14_book_numbers w K mg base (L2N.CX PySem.Challenge.pw_renamedhorn_k14_book_numbers w) (n + 1) (ga K "_law_same") (fdOf K (ga K "_law_same")) ["_law_one", "_law_other"] (spn_law_same K n)
  | 0 => okn_law_same T 0 ⟨fun _ _ _ _ h => h.elim, fun _ _ _ _ _ _ _ _ _ _ _ _ _ h => h.elim⟩
  | n + 1 => okn_law_same T (n + 1) (oka_law_same T n)
theorem ok_law_same (T : Tx w K mg) : FnOk PySem.Challenge.pw_renamedhorn_k14_book_numbers w K mg base (L2N.CX PySem.Challenge.pw_renamedhorn_k14_book_numbers w) 5 (ga K "_law_same") (fdOf K (ga K "_law_same")) ["_law_one", "_law_other"] (sp_law_same K) := oka_law_same T 4
theorem okH_law_same (T : Tx w K mg) : L2H.FnH PySem.Challenge.pw_renamedhorn_k14_book_numbers w K mg base (L2N.CX PySem.Challenge.pw_renamedhorn_k14_book_numbers w) 5 (ga K "_law_same") (fdOf K (ga K "_law_same")) ["_law_one", "_law_other"] (spH_law_same K) := by
  refine T.fn_law_same.okH sc_law_same (fun vs H Q E h => Sp2.len h) (fun cdv A outer s H vs Q E p hot hr h => ⟨tH_law_same K (fun cls d _ H => E cls d H), ?_, pureH_law_same h⟩)
  · have tk := L2N.takes_of (X := L2H.cxH (L2N.CX PySem.Challenge.pw_renamedhorn_k14_book_numbers w) PySem.Challenge.pw_renamedhorn_k14_book_numbers w K mg base N_law_same "_law_same" (defScope Hd.s_law_same) (ga K "_law_same") cdv A outer s H E p) (E := E) rfl rfl rfl rfl
    exact (pss_cut (ps_if (PW.pt (pw_or (pt_val (pe_callB call_isi (by rfl) T.f_isinstance PyProof.Rows.Boot.«isinstance» (pa_cons (pv 0) (pa_cons (pe_bltn (v := .ty "bool") rfl (T.f_bool) PyProof.Rows.Boot.«bool» rfl) pa_nil)))) (pw_or1 (pt_val (pe_callB call_isi (by rfl) T.f_isinstance PyProof.Rows.Boot.«isinstance» (pa_cons (pv 1) (pa_cons (pe_bltn (v := .ty "bool") rfl (T.f_bool) PyProof.Rows.Boot.«bool» rfl) pa_nil))))))) (pss_one (ps_ret (pe_and (pe_callB call_isi (by rfl) T.f_isinstance PyProof.Rows.Boot.«isinstance» (pa_cons (pv 0) (pa_cons (pe_bltn (v := .ty "bool") rfl (T.f_bool) PyProof.Rows.Boot.«bool» rfl) pa_nil))) (pe_and (pe_callB call_isi (by rfl) T.f_isinstance PyProof.Rows.Boot.«isinstance» (pa_cons (pv 1) (pa_cons (pe_bltn (v := .ty "bool") rfl (T.f_bool) PyProof.Rows.Boot.«bool» rfl) pa_nil))) (pe_one (pe_cmpR (op_eqP hr.units) (pv 0) (pv 1) (nomark _))))))) pss_nil)
      (pss_cut (ps_if (PW.pt (pw_or (pt_val (pe_callB call_isi (by rfl) T.f_isinstance PyProof.Rows.Boot.«isinstance» (pa_cons (pv 0) (pa_cons (pe_bltn (v := .ty "int") rfl (T.f_int) PyProof.Rows.Boot.«int» rfl) pa_nil)))) (pw_or1 (pt_val (pe_callB call_isi (by rfl) T.f_isinstance PyProof.Rows.Boot.«isinstance» (pa_cons (pv 1) (pa_cons (pe_bltn (v := .ty "int") rfl (T.f_int) PyProof.Rows.Boot.«int» rfl) pa_nil))))))) (pss_one (ps_ret (pe_and (pe_callB call_isi (by rfl) T.f_isinstance PyProof.Rows.Boot.«isinstance» (pa_cons (pv 0) (pa_cons (pe_bltn (v := .ty "int") rfl (T.f_int) PyProof.Rows.Boot.«int» rfl) pa_nil))) (pe_and (pe_callB call_isi (by rfl) T.f_isinstance PyProof.Rows.Boot.«isinstance» (pa_cons (pv 1) (pa_cons (pe_bltn (v := .ty "int") rfl (T.f_int) PyProof.Rows.Boot.«int» rfl) pa_nil))) (pe_one (pe_cmpR (op_eqP hr.units) (pv 0) (pv 1) (nomark _))))))) pss_nil)
      (pss_cut (ps_if (PW.pt (pw_or (pt_val (pe_callB call_isi (by rfl) T.f_isinstance PyProof.Rows.Boot.«isinstance» (pa_cons (pv 0) (pa_cons (pe_bltn (v := .ty "str") rfl (T.f_str) PyProof.Rows.Boot.«str» rfl) pa_nil)))) (pw_or1 (pt_val (pe_callB call_isi (by rfl) T.f_isinstance PyProof.Rows.Boot.«isinstance» (pa_cons (pv 1) (pa_cons (pe_bltn (v := .ty "str") rfl (T.f_str) PyProof.Rows.Boot.«str» rfl) pa_nil))))))) (pss_one (ps_ret (pe_and (pe_callB call_isi (by rfl) T.f_isinstance PyProof.Rows.Boot.«isinstance» (pa_cons (pv 0) (pa_cons (pe_bltn (v := .ty "str") rfl (T.f_str) PyProof.Rows.Boot.«str» rfl) pa_nil))) (pe_and (pe_callB call_isi (by rfl) T.f_isinstance PyProof.Rows.Boot.«isinstance» (pa_cons (pv 1) (pa_cons (pe_bltn (v := .ty "str") rfl (T.f_str) PyProof.Rows.Boot.«str» rfl) pa_nil))) (pe_one (pe_cmpR (op_eqP hr.units) (pv 0) (pv 1) (nomark _))))))) pss_nil)
      (pss_cons (ps_asg (pe_and (pe_callB call_isi (by rfl) T.f_isinstance PyProof.Rows.Boot.«isinstance» (pa_cons (pv 0) (pa_cons (pe_bltn (v := .ty "list") rfl (T.f_list) PyProof.Rows.Boot.«list» rfl) pa_nil))) (pe_one (pe_callB call_isi (by rfl) T.f_isinstance PyProof.Rows.Boot.«isinstance» (pa_cons (pv 1) (pa_cons (pe_bltn (v := .ty "list") rfl (T.f_list) PyProof.Rows.Boot.«list» rfl) pa_nil))))) (pg_name (i := 2) sc_law_same.nd rfl (Or.inl rfl)))
      (pss_cut (ps_if (PW.pt (pw_and (pt_not (pt_val (pv 2))) (pw_and1 (pt_not (PW.pt (pw_and (pt_val (pe_callB call_isi (by rfl) T.f_isinstance PyProof.Rows.Boot.«isinstance» (pa_cons (pv 0) (pa_cons (pe_bltn (v := .ty "tuple") rfl (T.f_tuple) PyProof.Rows.Boot.«tuple» rfl) pa_nil)))) (pw_and1 (pt_val (pe_callB call_isi (by rfl) T.f_isinstance PyProof.Rows.Boot.«isinstance» (pa_cons (pv 1) (pa_cons (pe_bltn (v := .ty "tuple") rfl (T.f_tuple) PyProof.Rows.Boot.«tuple» rfl) pa_nil))))))))))) (pss_one (ps_ret (pe_and (pe_cmpR op_isP (pv 0) pe_non (nomark _)) (pe_one (pe_cmpR op_isP (pv 1) pe_non (nomark _)))))) pss_nil)
      (pss_one ps_never))))))
theorem sc_law_row : FnScope N_law_row ["_law_source_here", "_law_names_here", "_law_most"] (defScope Hd.s_law_row) := ⟨rfl, rfl, rfl, by decide +kernel, rfl, by decide +kernel, by decide +kernel⟩
theorem b_law_row (T : Tx w K mg) : Binds K (fdOf K (ga K "_law_row")) ["_law_source_here", "_law_names_here", "_law_most"] [] := T.fn_law_row.bindsN fun _ _ _ _ _ _ us hl => match us, hl with | [_, _, _], _ => rfl
theorem ok_law_row (T : Tx w K mg) : FnOk PySem.Challenge.pw_renamedhorn_k14_book_numbers w K mg base (L2N.CX PySem.Challenge.pw_renamedhorn_k14_book_numbers w) 2 (ga K "_law_row") (fdOf K (ga K "_law_row")) ["_law_source_here", "_law_names_here", "_law_most"] (sp_law_row K) := by
  refine T.fn_law_row.ok sc_law_row (fun vs H Q E h => Sp3.len h) (fun cdv A outer s H vs Q E hr h => ⟨t_law_row K (fun cls d _ H => E cls d H), ?_, pure_law_row h⟩)
  · have tk := L2N.takes_of (X := cxOf (L2N.CX PySem.Challenge.pw_renamedhorn_k14_book_numbers w) PySem.Challenge.pw_renamedhorn_k14_book_numbers w K mg base N_law_row "_law_row" (defScope Hd.s_law_row) (ga K "_law_row") cdv A outer s H E) (E := E) rfl rfl rfl rfl
    exact (pss_cons (ps_asg (pe_lst pa_nil) (pg_name (i := 3) sc_law_row.nd rfl (Or.inl rfl)))
      (pss_cut (ps_for (passes_of rfl) rfl (pi_range1 (by rfl) T.f_range (pa_cons (pe_callS (ok_law_take T) (hr.mono (by decide)) rfl T.g_law_take (T.fn_law_take).kp (b_law_take T) (fun σ => L2N.passAt tk σ) (pa_cons (pv 0) (pa_cons (pe_op op_addP (pv 2) pe_int) pa_nil))) pa_nil)) (pg_name (i := 4) sc_law_row.nd rfl (Or.inl rfl)) (pss_cons (ps_asg (pe_ix ix_P (pv 1) (pe_callS (ok_law_take T) (hr.mono (by decide)) rfl T.g_law_take (T.fn_law_take).kp (b_law_take T) (fun σ => L2N.passAt tk σ) (pa_cons (pv 0) (pa_cons (pe_callB call_lenP (by rfl) T.f_len PyProof.Rows.Boot.«len» (pa_cons (pv 1) pa_nil)) pa_nil))) (fun _ _ => rfl)) (pg_name (i := 5) sc_law_row.nd rfl (Or.inl rfl)))
      (pss_one (ps_if (PW.pt (pw_and (pt_cmpR (op_ninP hr.units) (pv 5) (pv 3) (by rfl)) (pw_and1 (pt_cmpR (op_ninP hr.units) (pe_op op_addP pe_str (pv 5)) (pv 3) (by rfl))))) (pss_one (ps_expr (pe_bm PySem.F.plainAttrs_list PySem.F.slot_list_append PySem.F.type_list_append mt_append (pv 3) (pa_cons (pe_op op_addP (pe_ix ix_P (pe_lst (pa_cons pe_str (pa_cons pe_str pa_nil))) (pe_callS (ok_law_take T) (hr.mono (by decide)) rfl T.g_law_take (T.fn_law_take).kp (b_law_take T) (fun σ => L2N.passAt tk σ) (pa_cons (pv 0) (pa_cons pe_int pa_nil))) (fun _ _ => rfl)) (pv 5)) pa_nil)))) pss_nil))))
      (pss_one (ps_ret (pv 3)))))
theorem sc_Clause_init : FnScope N_Clause_init ["self", "literals"] (defScope Hd.s_Clause_init) := ⟨rfl, rfl, rfl, by decide +kernel, rfl, by decide +kernel, by decide +kernel⟩
theorem fr_Clause_init (T : Tx w K mg) : FnR PySem.Challenge.pw_renamedhorn_k14_book_numbers w K mg base (L2N.CX PySem.Challenge.pw_renamedhorn_k14_book_numbers w) 6 (ma K (ga K "Clause") "__init__") (spV_Clause_init K) := by
  refine okStar (ps := ["self"]) (pv := "literals") T.fn_Clause_init sc_Clause_init (fun kV doc pm an cdv ct => StX.bind_star1 (B := fun us => bindArgs (PySem.W.fnOf Hd.d_Clause_init.name Hd.d_Clause_init.qual (defArgs Hd.s_Clause_init) (defBody Hd.s_Clause_init) (defScope Hd.s_Clause_init) .none kV doc pm an cdv ct) ⟨us, []⟩) (fun _ => rfl) (fun _ _ _ => rfl)) (fun cdv A outer s H vs Q E hr h => ⟨t_Clause_init K (fun cls d _ H => E cls d H), ?_, pure_Clause_init h⟩)
  · have tk := L2N.takes_of (X := cxOf (L2N.CX PySem.Challenge.pw_renamedhorn_k14_book_numbers w) PySem.Challenge.pw_renamedhorn_k14_book_numbers w K mg base N_Clause_init "Clause.__init__" (defScope Hd.s_Clause_init) (ma K (ga K "Clause") "__init__") cdv A outer s H E) (E := E) rfl rfl rfl rfl
    obtain ⟨u_Book_LIMIT, con_Book_LIMIT⟩ := T.con_Book_LIMIT
    obtain ⟨u_Clause_LIMIT, con_Clause_LIMIT⟩ := T.con_Clause_LIMIT
    obtain ⟨u_Turning_LIMIT, con_Turning_LIMIT⟩ := T.con_Turning_LIMIT
    exact (pss_one (Cl.ps_att (l := [ga K "Clause"]) (fun C h => by simp only [List.mem_cons, List.not_mem_nil, or_false] at h; rcases h with rfl <;> first | exact ⟨T.cls_Clause, T.no_Clause_literals⟩) (pv 0) (pe_callTy call_tupleP (by rfl) T.f_tuple PyProof.Rows.Boot.«tuple» (pa_cons (pe_callS (ok_checked_facts T) (hr.mono (by decide)) rfl T.g_checked_facts (T.fn_checked_facts).kp (b_checked_facts T) (fun σ => L2N.passAt tk σ) (pa_cons (pe_callTy call_listP (by rfl) T.f_list PyProof.Rows.Boot.«list» (pa_cons (pv 1) pa_nil)) (pa_cons (Cl.pe_att (.cons (Cl.alt_con T.cls_Clause con_Clause_LIMIT) (.cons (Cl.alt_con T.cls_Turning con_Turning_LIMIT) (.cons (Cl.alt_con T.cls_Book con_Book_LIMIT) .nil))) (pv 0)) pa_nil))) pa_nil))))
theorem sc_law_clause : FnScope N_law_clause ["_law_row_here"] (defScope Hd.s_law_clause) := ⟨rfl, rfl, rfl, by decide +kernel, rfl, by decide +kernel, by decide +kernel⟩
theorem b_law_clause (T : Tx w K mg) : Binds K (fdOf K (ga K "_law_clause")) ["_law_row_here"] [] := T.fn_law_clause.bindsN fun _ _ _ _ _ _ us hl => match us, hl with | [_], _ => rfl
theorem ok_law_clause (T : Tx w K mg) : FnOk PySem.Challenge.pw_renamedhorn_k14_book_numbers w K mg base (L2N.CX PySem.Challenge.pw_renamedhorn_k14_book_numbers w) 10 (ga K "_law_clause") (fdOf K (ga K "_law_clause")) ["_law_row_here"] (sp_law_clause K) := by
  refine T.fn_law_clause.ok sc_law_clause (fun vs H Q E h => Sp1.len h) (fun cdv A outer s H vs Q E hr h => ⟨t_law_clause K (fun cls d _ H => E cls d H), ?_, pure_law_clause h⟩)
  · have tk := L2N.takes_of (X := cxOf (L2N.CX PySem.Challenge.pw_renamedhorn_k14_book_numbers w) PySem.Challenge.pw_renamedhorn_k14_book_numbers w K mg base N_law_clause "_law_clause" (defScope Hd.s_law_clause) (ga K "_law_clause") cdv A outer s H E) (E := E) rfl rfl rfl rfl
    exact (pss_cut (ps_if (pt_cmpR (op_eqP hr.units) (pe_callB call_lenP (by rfl) T.f_len PyProof.Rows.Boot.«len» (pa_cons (pv 0) pa_nil)) pe_int (nomark _)) (pss_one (ps_ret (Cl.pe_makeS0 T.mk_Clause (fr_Clause_init T) (hr.mono (by decide)) rfl T.g_Clause (fun σ => L2N.passAt tk σ)))) pss_nil)
      (pss_cut (ps_if (pt_cmpR (op_eqP hr.units) (pe_callB call_lenP (by rfl) T.f_len PyProof.Rows.Boot.«len» (pa_cons (pv 0) pa_nil)) pe_int (nomark _)) (pss_one (ps_ret (Cl.pe_makeS T.mk_Clause (fr_Clause_init T) (hr.mono (by decide)) rfl T.g_Clause (fun σ => L2N.passAt tk σ) (pa_cons (pe_ix ix_P (pv 0) pe_int (fun _ _ => rfl)) pa_nil)))) pss_nil)
      (pss_cut (ps_if (pt_cmpR (op_eqP hr.units) (pe_callB call_lenP (by rfl) T.f_len PyProof.Rows.Boot.«len» (pa_cons (pv 0) pa_nil)) pe_int (nomark _)) (pss_one (ps_ret (Cl.pe_makeS T.mk_Clause (fr_Clause_init T) (hr.mono (by decide)) rfl T.g_Clause (fun σ => L2N.passAt tk σ) (pa_cons (pe_ix ix_P (pv 0) pe_int (fun _ _ => rfl)) (pa_cons (pe_ix ix_P (pv 0) pe_int (fun _ _ => rfl)) pa_nil))))) pss_nil)
      (pss_cut (ps_if (pt_cmpR (op_eqP hr.units) (pe_callB call_lenP (by rfl) T.f_len PyProof.Rows.Boot.«len» (pa_cons (pv 0) pa_nil)) pe_int (nomark _)) (pss_one (ps_ret (Cl.pe_makeS T.mk_Clause (fr_Clause_init T) (hr.mono (by decide)) rfl T.g_Clause (fun σ => L2N.passAt tk σ) (pa_cons (pe_ix ix_P (pv 0) pe_int (fun _ _ => rfl)) (pa_cons (pe_ix ix_P (pv 0) pe_int (fun _ _ => rfl)) (pa_cons (pe_ix ix_P (pv 0) pe_int (fun _ _ => rfl)) pa_nil)))))) pss_nil)
      (pss_cut (ps_if (pt_cmpR (op_eqP hr.units) (pe_callB call_lenP (by rfl) T.f_len PyProof.Rows.Boot.«len» (pa_cons (pv 0) pa_nil)) pe_int (nomark _)) (pss_one (ps_ret (Cl.pe_makeS T.mk_Clause (fr_Clause_init T) (hr.mono (by decide)) rfl T.g_Clause (fun σ => L2N.passAt tk σ) (pa_cons (pe_ix ix_P (pv 0) pe_int (fun _ _ => rfl)) (pa_cons (pe_ix ix_P (pv 0) pe_int (fun _ _ => rfl)) (pa_cons (pe_ix ix_P (pv 0) pe_int (fun _ _ => rfl)) (pa_cons (pe_ix ix_P (pv 0) pe_int (fun _ _ => rfl)) pa_nil))))))) pss_nil)
      (pss_cut (ps_if (pt_cmpR (op_eqP hr.units) (pe_callB call_lenP (by rfl) T.f_len PyProof.Rows.Boot.«len» (pa_cons (pv 0) pa_nil)) pe_int (nomark _)) (pss_one (ps_ret (Cl.pe_makeS T.mk_Clause (fr_Clause_init T) (hr.mono (by decide)) rfl T.g_Clause (fun σ => L2N.passAt tk σ) (pa_cons (pe_ix ix_P (pv 0) pe_int (fun _ _ => rfl)) (pa_cons (pe_ix ix_P (pv 0) pe_int (fun _ _ => rfl)) (pa_cons (pe_ix ix_P (pv 0) pe_int (fun _ _ => rfl)) (pa_cons (pe_ix ix_P (pv 0) pe_int (fun _ _ => rfl)) (pa_cons (pe_ix ix_P (pv 0) pe_int (fun _ _ => rfl)) pa_nil)))))))) pss_nil)
      (pss_one (ps_ret (Cl.pe_makeS T.mk_Clause (fr_Clause_init T) (hr.mono (by decide)) rfl T.g_Clause (fun σ => L2N.passAt tk σ) (pa_cons (pe_ix ix_P (pv 0) pe_int (fun _ _ => rfl)) (pa_cons (pe_ix ix_P (pv 0) pe_int (fun _ _ => rfl)) (pa_cons (pe_ix ix_P (pv 0) pe_int (fun _ _ => rfl)) (pa_cons (pe_ix ix_P (pv 0) pe_int (fun _ _ => rfl)) (pa_cons (pe_ix ix_P (pv 0) pe_int (fun _ _ => rfl)) (pa_cons (pe_ix ix_P (pv 0) pe_int (fun _ _ => rfl)) pa_nil)))))))))))))))
theorem sc_law_names_in : FnScope N_law_names_in ["_law_rows"] (defScope Hd.s_law_names_in) := ⟨rfl, rfl, rfl, by decide +kernel, rfl, by decide +kernel, by decide +kernel⟩
theorem b_law_names_in (T : Tx w K mg) : Binds K (fdOf K (ga K "_law_names_in")) ["_law_rows"] [] := T.fn_law_names_in.bindsN fun _ _ _ _ _ _ us hl => match us, hl with | [_], _ => rfl
theorem ok_law_names_in (T : Tx w K mg) : FnOk PySem.Challenge.pw_renamedhorn_k14_book_numbers w K mg base (L2N.CX PySem.Challenge.pw_renamedhorn_k14_book_numbers w) 2 (ga K "_law_names_in") (fdOf K (ga K "_law_names_in")) ["_law_rows"] (sp_law_names_in K) := by
  refine T.fn_law_names_in.ok sc_law_names_in (fun vs H Q E h => Sp1.len h) (fun cdv A outer s H vs Q E hr h => ⟨t_law_names_in K (fun cls d _ H => E cls d H), ?_, pure_law_names_in h⟩)
  · have tk := L2N.takes_of (X := cxOf (L2N.CX PySem.Challenge.pw_renamedhorn_k14_book_numbers w) PySem.Challenge.pw_renamedhorn_k14_book_numbers w K mg base N_law_names_in "_law_names_in" (defScope Hd.s_law_names_in) (ga K "_law_names_in") cdv A outer s H E) (E := E) rfl rfl rfl rfl
    exact (pss_cons (ps_asg (pe_lst pa_nil) (pg_name (i := 1) sc_law_names_in.nd rfl (Or.inl rfl)))
      (pss_cut (ps_for (passes_of rfl) rfl (pi_anyP (pv 0)) (pg_name (i := 2) sc_law_names_in.nd rfl (Or.inl rfl)) (pss_one (ps_asg (pe_op op_addP (pv 1) (pe_lc (own := [("_law_literal", 3)]) (g := (gName 3)) (tt := tYes) rfl sc_law_names_in.nd (pi_anyP (pv 2)) (blkOk_by (own := [("_law_literal", 3)]) (N := N_law_names_in) (sc := defScope Hd.s_law_names_in) (by decide +kernel)) (fun _ _ _ _ _ => (pg_name (i := 3) sc_law_names_in.nd rfl (Or.inl rfl))) (fun _ _ _ _ _ => pts_nil) (fun _ _ _ _ _ => (pe_call (ok_law_name T) (hr.mono (by decide)) rfl T.g_law_name (T.fn_law_name).kp (b_law_name T) .nil passN (pa_cons (pv 3) pa_nil))))) (pg_name (i := 1) sc_law_names_in.nd rfl (Or.inl rfl)))))
      (pss_one (ps_ret (pe_callS (ok_law_sorted T) (hr.mono (by decide)) rfl T.g_law_sorted (T.fn_law_sorted).kp (b_law_sorted T) (fun σ => L2N.passAt tk σ) (pa_cons (pv 1) pa_nil))))))
theorem sc_Book_next_number : FnScope N_Book_next_number ["self"] (defScope Hd.s_Book_next_number) := ⟨rfl, rfl, rfl, by decide +kernel, rfl, by decide +kernel, by decide +kernel⟩
theorem b_Book_next_number (T : Tx w K mg) : Binds K (fdOf K (He5.wf K (ga K "Book") "property" "next_number")) ["self"] [] := T.fn_Book_next_number.bindsN fun _ _ _ _ _ _ us hl => match us, hl with | [_], _ => rfl
theorem ok_Book_next_number (T : Tx w K mg) : FnOk PySem.Challenge.pw_renamedhorn_k14_book_numbers w K mg base (L2N.CX PySem.Challenge.pw_renamedhorn_k14_book_numbers w) 1 (He5.wf K (ga K "Book") "property" "next_number") (fdOf K (He5.wf K (ga K "Book") "property" "next_number")) ["self"] (sp_Book_next_number K) := by
  refine T.fn_Book_next_number.ok sc_Book_next_number (fun vs H Q E h => Sp1.len h) (fun cdv A outer s H vs Q E hr h => ⟨t_Book_next_number K (fun cls d _ H => E cls d H), ?_, pure_Book_next_number h⟩)
  · have tk := L2N.takes_of (X := cxOf (L2N.CX PySem.Challenge.pw_renamedhorn_k14_book_numbers w) PySem.Challenge.pw_renamedhorn_k14_book_numbers w K mg base N_Book_next_number "Book.next_number" (defScope Hd.s_Book_next_number) (He5.wf K (ga K "Book") "property" "next_number") cdv A outer s H E) (E := E) rfl rfl rfl rfl
    exact (pss_one (ps_ret (pe_op op_addP (Cl.pe_att (.cons (Cl.alt_fld T.cls_Book T.no_Book_greatest) .nil) (pv 0)) pe_int)))
theorem sc_Clause_names : FnScope N_Clause_names ["self"] (defScope Hd.s_Clause_names) := ⟨rfl, rfl, rfl, by decide +kernel, rfl, by decide +kernel, by decide +kernel⟩
theorem b_Clause_names (T : Tx w K mg) : Binds K (fdOf K (He5.wf K (ga K "Clause") "property" "names")) ["self"] [] := T.fn_Clause_names.bindsN fun _ _ _ _ _ _ us hl => match us, hl with | [_], _ => rfl
theorem ok_Clause_names (T : Tx w K mg) : FnOk PySem.Challenge.pw_renamedhorn_k14_book_numbers w K mg base (L2N.CX PySem.Challenge.pw_renamedhorn_k14_book_numbers w) 5 (He5.wf K (ga K "Clause") "property" "names") (fdOf K (He5.wf K (ga K "Clause") "property" "names")) ["self"] (sp_Clause_names K) := by
  refine T.fn_Clause_names.ok sc_Clause_names (fun vs H Q E h => Sp1.len h) (fun cdv A outer s H vs Q E hr h => ⟨t_Clause_names K (fun cls d _ H => E cls d H), ?_, pure_Clause_names h⟩)
  · have tk := L2N.takes_of (X := cxOf (L2N.CX PySem.Challenge.pw_renamedhorn_k14_book_numbers w) PySem.Challenge.pw_renamedhorn_k14_book_numbers w K mg base N_Clause_names "Clause.names" (defScope Hd.s_Clause_names) (He5.wf K (ga K "Clause") "property" "names") cdv A outer s H E) (E := E) rfl rfl rfl rfl
    exact (pss_one (ps_ret (pe_callTy call_tupleP (by rfl) T.f_tuple PyProof.Rows.Boot.«tuple» (pa_cons (pe_callS (ok_names_of T) (hr.mono (by decide)) rfl T.g_names_of (T.fn_names_of).kp (b_names_of T) (fun σ => L2N.passAt tk σ) (pa_cons (Cl.pe_att (.cons (Cl.alt_fld T.cls_Clause T.no_Clause_literals) .nil) (pv 0)) pa_nil)) pa_nil))))
theorem sc_Book_names : FnScope N_Book_names ["self"] (defScope Hd.s_Book_names) := ⟨rfl, rfl, rfl, by decide +kernel, rfl, by decide +kernel, by decide +kernel⟩
theorem b_Book_names (T : Tx w K mg) : Binds K (fdOf K (He5.wf K (ga K "Book") "property" "names")) ["self"] [] := T.fn_Book_names.bindsN fun _ _ _ _ _ _ us hl => match us, hl with | [_], _ => rfl
theorem ok_Book_names (T : Tx w K mg) : FnOk PySem.Challenge.pw_renamedhorn_k14_book_numbers w K mg base (L2N.CX PySem.Challenge.pw_renamedhorn_k14_book_numbers w) 6 (He5.wf K (ga K "Book") "property" "names") (fdOf K (He5.wf K (ga K "Book") "property" "names")) ["self"] (sp_Book_names K) := by
  refine T.fn_Book_names.ok sc_Book_names (fun vs H Q E h => Sp1.len h) (fun cdv A outer s H vs Q E hr h => ⟨t_Book_names K (fun cls d _ H => E cls d H), ?_, pure_Book_names h⟩)
  · have tk := L2N.takes_of (X := cxOf (L2N.CX PySem.Challenge.pw_renamedhorn_k14_book_numbers w) PySem.Challenge.pw_renamedhorn_k14_book_numbers w K mg base N_Book_names "Book.names" (defScope Hd.s_Book_names) (He5.wf K (ga K "Book") "property" "names") cdv A outer s H E) (E := E) rfl rfl rfl rfl
    exact (pss_one (ps_ret (pe_callTy call_tupleP (by rfl) T.f_tuple PyProof.Rows.Boot.«tuple» (pa_cons (pe_callS (ok_names_in T) (hr.mono (by decide)) rfl T.g_names_in (T.fn_names_in).kp (b_names_in T) (fun σ => L2N.passAt tk σ) (pa_cons (Cl.pe_listVals rfl (by rfl) T.f_list (Cl.pe_att (.cons (Cl.alt_fld T.cls_Book T.no_Book_rows) .nil) (pv 0))) pa_nil)) pa_nil))))
theorem sc_Clause_len : FnScope N_Clause_len ["self"] (defScope Hd.s_Clause_len) := ⟨rfl, rfl, rfl, by decide +kernel, rfl, by decide +kernel, by decide +kernel⟩
theorem b_Clause_len (T : Tx w K mg) : Binds K (fdOf K (ma K (ga K "Clause") "__len__")) ["self"] [] := T.fn_Clause_len.bindsN fun _ _ _ _ _ _ us hl => match us, hl with | [_], _ => rfl
theorem ok_Clause_len (T : Tx w K mg) : FnOk PySem.Challenge.pw_renamedhorn_k14_book_numbers w K mg base (L2N.CX PySem.Challenge.pw_renamedhorn_k14_book_numbers w) 1 (ma K (ga K "Clause") "__len__") (fdOf K (ma K (ga K "Clause") "__len__")) ["self"] (sp_Clause_len K) := by
  refine T.fn_Clause_len.ok sc_Clause_len (fun vs H Q E h => Sp1.len h) (fun cdv A outer s H vs Q E hr h => ⟨t_Clause_len K (fun cls d _ H => E cls d H), ?_, pure_Clause_len h⟩)
  · have tk := L2N.takes_of (X := cxOf (L2N.CX PySem.Challenge.pw_renamedhorn_k14_book_numbers w) PySem.Challenge.pw_renamedhorn_k14_book_numbers w K mg base N_Clause_len "Clause.__len__" (defScope Hd.s_Clause_len) (ma K (ga K "Clause") "__len__") cdv A outer s H E) (E := E) rfl rfl rfl rfl
    exact (pss_one (ps_ret (pe_callB call_lenP (by rfl) T.f_len PyProof.Rows.Boot.«len» (pa_cons (Cl.pe_att (.cons (Cl.alt_fld T.cls_Clause T.no_Clause_literals) .nil) (pv 0)) pa_nil))))
theorem sc_Clause_contains : FnScope N_Clause_contains ["self", "literal"] (defScope Hd.s_Clause_contains) := ⟨rfl, rfl, rfl, by decide +kernel, rfl, by decide +kernel, by decide +kernel⟩
theorem b_Clause_contains (T : Tx w K mg) : Binds K (fdOf K (ma K (ga K "Clause") "__contains__")) ["self", "literal"] [] := T.fn_Clause_contains.bindsN fun _ _ _ _ _ _ us hl => match us, hl with | [_, _], _ => rfl
theorem ok_Clause_contains (T : Tx w K mg) : FnOk PySem.Challenge.pw_renamedhorn_k14_book_numbers w K mg base (L2N.CX PySem.Challenge.pw_renamedhorn_k14_book_numbers w) 1 (ma K (ga K "Clause") "__contains__") (fdOf K (ma K (ga K "Clause") "__contains__")) ["self", "literal"] (sp_Clause_contains K) := by
  refine T.fn_Clause_contains.ok sc_Clause_contains (fun vs H Q E h => Sp2.len h) (fun cdv A outer s H vs Q E hr h => ⟨t_Clause_contains K (fun cls d _ H => E cls d H), ?_, pure_Clause_contains h⟩)
  · have tk := L2N.takes_of (X := cxOf (L2N.CX PySem.Challenge.pw_renamedhorn_k14_book_numbers w) PySem.Challenge.pw_renamedhorn_k14_book_numbers w K mg base N_Clause_contains "Clause.__contains__" (defScope Hd.s_Clause_contains) (ma K (ga K "Clause") "__contains__") cdv A outer s H E) (E := E) rfl rfl rfl rfl
    exact (pss_one (ps_ret (pe_cmpR (op_inP hr.units) (pv 1) (Cl.pe_att (.cons (Cl.alt_fld T.cls_Clause T.no_Clause_literals) .nil) (pv 0)) (by rfl))))
theorem sc_Turning_len : FnScope N_Turning_len ["self"] (defScope Hd.s_Turning_len) := ⟨rfl, rfl, rfl, by decide +kernel, rfl, by decide +kernel, by decide +kernel⟩
theorem b_Turning_len (T : Tx w K mg) : Binds K (fdOf K (ma K (ga K "Turning") "__len__")) ["self"] [] := T.fn_Turning_len.bindsN fun _ _ _ _ _ _ us hl => match us, hl with | [_], _ => rfl
theorem ok_Turning_len (T : Tx w K mg) : FnOk PySem.Challenge.pw_renamedhorn_k14_book_numbers w K mg base (L2N.CX PySem.Challenge.pw_renamedhorn_k14_book_numbers w) 1 (ma K (ga K "Turning") "__len__") (fdOf K (ma K (ga K "Turning") "__len__")) ["self"] (sp_Turning_len K) := by
  refine T.fn_Turning_len.ok sc_Turning_len (fun vs H Q E h => Sp1.len h) (fun cdv A outer s H vs Q E hr h => ⟨t_Turning_len K (fun cls d _ H => E cls d H), ?_, pure_Turning_len h⟩)
  · have tk := L2N.takes_of (X := cxOf (L2N.CX PySem.Challenge.pw_renamedhorn_k14_book_numbers w) PySem.Challenge.pw_renamedhorn_k14_book_numbers w K mg base N_Turning_len "Turning.__len__" (defScope Hd.s_Turning_len) (ma K (ga K "Turning") "__len__") cdv A outer s H E) (E := E) rfl rfl rfl rfl
    exact (pss_one (ps_ret (pe_callB call_lenP (by rfl) T.f_len PyProof.Rows.Boot.«len» (pa_cons (Cl.pe_att (.cons (Cl.alt_fld T.cls_Turning T.no_Turning_turned) .nil) (pv 0)) pa_nil))))
theorem sc_Turning_contains : FnScope N_Turning_contains ["self", "name"] (defScope Hd.s_Turning_contains) := ⟨rfl, rfl, rfl, by decide +kernel, rfl, by decide +kernel, by decide +kernel⟩
theorem b_Turning_contains (T : Tx w K mg) : Binds K (fdOf K (ma K (ga K "Turning") "__contains__")) ["self", "name"] [] := T.fn_Turning_contains.bindsN fun _ _ _ _ _ _ us hl => match us, hl with | [_, _], _ => rfl
theorem ok_Turning_contains (T : Tx w K mg) : FnOk PySem.Challenge.pw_renamedhorn_k14_book_numbers w K mg base (L2N.CX PySem.Challenge.pw_renamedhorn_k14_book_numbers w) 1 (ma K (ga K "Turning") "__contains__") (fdOf K (ma K (ga K "Turning") "__contains__")) ["self", "name"] (sp_Turning_contains K) := by
  refine T.fn_Turning_contains.ok sc_Turning_contains (fun vs H Q E h => Sp2.len h) (fun cdv A outer s H vs Q E hr h => ⟨t_Turning_contains K (fun cls d _ H => E cls d H), ?_, pure_Turning_contains h⟩)
  · have tk := L2N.takes_of (X := cxOf (L2N.CX PySem.Challenge.pw_renamedhorn_k14_book_numbers w) PySem.Challenge.pw_renamedhorn_k14_book_numbers w K mg base N_Turning_contains "Turning.__contains__" (defScope Hd.s_Turning_contains) (ma K (ga K "Turning") "__contains__") cdv A outer s H E) (E := E) rfl rfl rfl rfl
    exact (pss_one (ps_ret (pe_cmpR (op_inP hr.units) (pv 1) (Cl.pe_att (.cons (Cl.alt_fld T.cls_Turning T.no_Turning_turned) .nil) (pv 0)) (by rfl))))
theorem sc_Turning_getitem : FnScope N_Turning_getitem ["self", "name"] (defScope Hd.s_Turning_getitem) := ⟨rfl, rfl, rfl, by decide +kernel, rfl, by decide +kernel, by decide +kernel⟩
theorem b_Turning_getitem (T : Tx w K mg) : Binds K (fdOf K (ma K (ga K "Turning") "__getitem__")) ["self", "name"] [] := T.fn_Turning_getitem.bindsN fun _ _ _ _ _ _ us hl => match us, hl with | [_, _], _ => rfl
theorem ok_Turning_getitem (T : Tx w K mg) : FnOk PySem.Challenge.pw_renamedhorn_k14_book_numbers w K mg base (L2N.CX PySem.Challenge.pw_renamedhorn_k14_book_numbers w) 3 (ma K (ga K "Turning") "__getitem__") (fdOf K (ma K (ga K "Turning") "__getitem__")) ["self", "name"] (sp_Turning_getitem K) := by
  refine T.fn_Turning_getitem.ok sc_Turning_getitem (fun vs H Q E h => Sp2.len h) (fun cdv A outer s H vs Q E hr h => ⟨t_Turning_getitem K (fun cls d _ H => E cls d H), ?_, pure_Turning_getitem h⟩)
  · have tk := L2N.takes_of (X := cxOf (L2N.CX PySem.Challenge.pw_renamedhorn_k14_book_numbers w) PySem.Challenge.pw_renamedhorn_k14_book_numbers w K mg base N_Turning_getitem "Turning.__getitem__" (defScope Hd.s_Turning_getitem) (ma K (ga K "Turning") "__getitem__") cdv A outer s H E) (E := E) rfl rfl rfl rfl
    exact (pss_cut (ps_if (pt_not (pt_val (pe_callS (ok_is_name T) (hr.mono (by decide)) rfl T.g_is_name (T.fn_is_name).kp (b_is_name T) (fun σ => L2N.passAt tk σ) (pa_cons (pv 1) pa_nil)))) (pss_one (ps_raiseE rfl T.err_BadName hr tk (pa_cons (pv 1) pa_nil))) pss_nil)
      (pss_one (ps_ret (pe_cmpR (op_inP hr.units) (pv 1) (Cl.pe_att (.cons (Cl.alt_fld T.cls_Turning T.no_Turning_turned) .nil) (pv 0)) (by rfl)))))
theorem sc_Book_len : FnScope N_Book_len ["self"] (defScope Hd.s_Book_len) := ⟨rfl, rfl, rfl, by decide +kernel, rfl, by decide +kernel, by decide +kernel⟩
theorem b_Book_len (T : Tx w K mg) : Binds K (fdOf K (ma K (ga K "Book") "__len__")) ["self"] [] := T.fn_Book_len.bindsN fun _ _ _ _ _ _ us hl => match us, hl with | [_], _ => rfl
theorem ok_Book_len (T : Tx w K mg) : FnOk PySem.Challenge.pw_renamedhorn_k14_book_numbers w K mg base (L2N.CX PySem.Challenge.pw_renamedhorn_k14_book_numbers w) 1 (ma K (ga K "Book") "__len__") (fdOf K (ma K (ga K "Book") "__len__")) ["self"] (sp_Book_len K) := by
  refine T.fn_Book_len.ok sc_Book_len (fun vs H Q E h => Sp1.len h) (fun cdv A outer s H vs Q E hr h => ⟨t_Book_len K (fun cls d _ H => E cls d H), ?_, pure_Book_len h⟩)
  · have tk := L2N.takes_of (X := cxOf (L2N.CX PySem.Challenge.pw_renamedhorn_k14_book_numbers w) PySem.Challenge.pw_renamedhorn_k14_book_numbers w K mg base N_Book_len "Book.__len__" (defScope Hd.s_Book_len) (ma K (ga K "Book") "__len__") cdv A outer s H E) (E := E) rfl rfl rfl rfl
    exact (pss_one (ps_ret (pe_callB Cl.call_lenR (by rfl) T.f_len PyProof.Rows.Boot.«len» (pa_cons (Cl.pe_att (.cons (Cl.alt_fld T.cls_Book T.no_Book_rows) .nil) (pv 0)) pa_nil))))
theorem sc_Book_contains : FnScope N_Book_contains ["self", "number"] (defScope Hd.s_Book_contains) := ⟨rfl, rfl, rfl, by decide +kernel, rfl, by decide +kernel, by decide +kernel⟩
theorem b_Book_contains (T : Tx w K mg) : Binds K (fdOf K (ma K (ga K "Book") "__contains__")) ["self", "number"] [] := T.fn_Book_contains.bindsN fun _ _ _ _ _ _ us hl => match us, hl with | [_, _], _ => rfl
theorem ok_Book_contains (T : Tx w K mg) : FnOk PySem.Challenge.pw_renamedhorn_k14_book_numbers w K mg base (L2N.CX PySem.Challenge.pw_renamedhorn_k14_book_numbers w) 1 (ma K (ga K "Book") "__contains__") (fdOf K (ma K (ga K "Book") "__contains__")) ["self", "number"] (sp_Book_contains K) := by
  refine T.fn_Book_contains.ok sc_Book_contains (fun vs H Q E h => Sp2.len h) (fun cdv A outer s H vs Q E hr h => ⟨t_Book_contains K (fun cls d _ H => E cls d H), ?_, pure_Book_contains h⟩)
  · have tk := L2N.takes_of (X := cxOf (L2N.CX PySem.Challenge.pw_renamedhorn_k14_book_numbers w) PySem.Challenge.pw_renamedhorn_k14_book_numbers w K mg base N_Book_contains "Book.__contains__" (defScope Hd.s_Book_contains) (ma K (ga K "Book") "__contains__") cdv A outer s H E) (E := E) rfl rfl rfl rfl
    exact (pss_one (ps_ret (pe_cmpR (op_inP hr.units) (pv 1) (Cl.pe_att (.cons (Cl.alt_fld T.cls_Book T.no_Book_rows) .nil) (pv 0)) (by rfl))))
theorem sc_Book_getitem : FnScope N_Book_getitem ["self", "number"] (defScope Hd.s_Book_getitem) := ⟨rfl, rfl, rfl, by decide +kernel, rfl, by decide +kernel, by decide +kernel⟩
theorem b_Book_getitem (T : Tx w K mg) : Binds K (fdOf K (ma K (ga K "Book") "__getitem__")) ["self", "number"] [] := T.fn_Book_getitem.bindsN fun _ _ _ _ _ _ us hl => match us, hl with | [_, _], _ => rfl
theorem ok_Book_getitem (T : Tx w K mg) : FnOk PySem.Challenge.pw_renamedhorn_k14_book_numbers w K mg base (L2N.CX PySem.Challenge.pw_renamedhorn_k14_book_numbers w) 3 (ma K (ga K "Book") "__getitem__") (fdOf K (ma K (ga K "Book") "__getitem__")) ["self", "number"] (sp_Book_getitem K) := by
  refine T.fn_Book_getitem.ok sc_Book_getitem (fun vs H Q E h => Sp2.len h) (fun cdv A outer s H vs Q E hr h => ⟨t_Book_getitem K (fun cls d _ H => E cls d H), ?_, pure_Book_getitem h⟩)
  · have tk := L2N.takes_of (X := cxOf (L2N.CX PySem.Challenge.pw_renamedhorn_k14_book_numbers w) PySem.Challenge.pw_renamedhorn_k14_book_numbers w K mg base N_Book_getitem "Book.__getitem__" (defScope Hd.s_Book_getitem) (ma K (ga K "Book") "__getitem__") cdv A outer s H E) (E := E) rfl rfl rfl rfl
    exact (pss_cut (ps_if (pt_cmpR (op_ninP hr.units) (pv 1) (Cl.pe_att (.cons (Cl.alt_fld T.cls_Book T.no_Book_rows) .nil) (pv 0)) (by rfl)) (pss_one (ps_raiseE rfl T.err_NoClause hr tk (pa_cons (pv 1) pa_nil))) pss_nil)
      (pss_one (ps_ret (pe_dget (Nat.lt_of_le_of_lt (Nat.add_le_add_left (by decide : 1 ≤ 64) _) hr.units) (Cl.pe_att (.cons (Cl.alt_fld T.cls_Book T.no_Book_rows) .nil) (pv 0)) (pv 1) (fun _ _ => rfl)))))
theorem sc_law_state : FnScope N_law_state ["_law_book", "_law_numbers", "_law_rows", "_law_coming"] (defScope Hd.s_law_state) := ⟨rfl, rfl, rfl, by decide +kernel, rfl, by decide +kernel, by decide +kernel⟩
theorem b_law_state (T : Tx w K mg) : Binds K (fdOf K (ga K "_law_state")) ["_law_book", "_law_numbers", "_law_rows", "_law_coming"] [] := T.fn_law_state.bindsN fun _ _ _ _ _ _ us hl => match us, hl with | [_, _, _, _], _ => rfl
theorem ok_law_state (T : Tx w K mg) : FnOk PySem.Challenge.pw_renamedhorn_k14_book_numbers w K mg base (L2N.CX PySem.Challenge.pw_renamedhorn_k14_book_numbers w) 10 (ga K "_law_state") (fdOf K (ga K "_law_state")) ["_law_book", "_law_numbers", "_law_rows", "_law_coming"] (sp_law_state K) := by
  refine T.fn_law_state.ok sc_law_state (fun vs H Q E h => Sp4.len h) (fun cdv A outer s H vs Q E hr h => ⟨t_law_state K (fun cls d _ H => E cls d H), ?_, pure_law_state h⟩)
  · have tk := L2N.takes_of (X := cxOf (L2N.CX PySem.Challenge.pw_renamedhorn_k14_book_numbers w) PySem.Challenge.pw_renamedhorn_k14_book_numbers w K mg base N_law_state "_law_state" (defScope Hd.s_law_state) (ga K "_law_state") cdv A outer s H E) (E := E) rfl rfl rfl rfl
    exact (pss_cut (ps_if (PW.pt (pw_or (pt_not (pt_val (pe_callS (ok_law_same T) (hr.mono (by decide)) rfl T.g_law_same (T.fn_law_same).kp (b_law_same T) (fun σ => L2N.passAt tk σ) (pa_cons (pe_callTy (Cl.call_listK (.cons ⟨1, _, it_Book T, T.own_Book_len, (Cl.toR (ok_Book_len T) (b_Book_len T)).imp (fun _ _ _ _ ⟨a, dx, fs, d, kvs, e, r⟩ => ⟨.ref a, e, a, dx, fs, d, kvs, rfl, r⟩), hr.mono (by decide)⟩ .nil)) (by rfl) T.f_list PyProof.Rows.Boot.«list» (pa_cons (pv 0) pa_nil)) (pa_cons (pv 1) pa_nil))))) (pw_or1 (pt_not (pt_val (pe_callS (ok_law_same T) (hr.mono (by decide)) rfl T.g_law_same (T.fn_law_same).kp (b_law_same T) (fun σ => L2N.passAt tk σ) (pa_cons (pe_callB (Cl.call_lenK (.cons ⟨1, _, it_Book T, T.own_Book_len, (Cl.toR (ok_Book_len T) (b_Book_len T)).imp (fun _ _ _ _ ⟨a, dx, fs, d, kvs, e, r⟩ => ⟨.ref a, e, a, dx, fs, d, kvs, rfl, r⟩), hr.mono (by decide)⟩ .nil)) (by rfl) T.f_len PyProof.Rows.Boot.«len» (pa_cons (pv 0) pa_nil)) (pa_cons (pe_callB (Cl.call_lenK (.cons ⟨1, _, it_Book T, T.own_Book_len, (Cl.toR (ok_Book_len T) (b_Book_len T)).imp (fun _ _ _ _ ⟨a, dx, fs, d, kvs, e, r⟩ => ⟨.ref a, e, a, dx, fs, d, kvs, rfl, r⟩), hr.mono (by decide)⟩ .nil)) (by rfl) T.f_len PyProof.Rows.Boot.«len» (pa_cons (pv 1) pa_nil)) pa_nil)))))))) (pss_one (ps_ret pe_bl)) pss_nil)
      (pss_cut (ps_if (PW.pt (pw_or (pt_not (pt_val (pe_callS (ok_law_same T) (hr.mono (by decide)) rfl T.g_law_same (T.fn_law_same).kp (b_law_same T) (fun σ => L2N.passAt tk σ) (pa_cons (Cl.pe_att (.cons (Cl.alt_prop T.cls_Book T.prop_Book_next_number (ok_Book_next_number T) (hr.mono (by decide)) (b_Book_next_number T) passN) .nil) (pv 0)) (pa_cons (pv 3) pa_nil))))) (pw_or1 (pt_not (pt_val (pe_callS (ok_law_same T) (hr.mono (by decide)) rfl T.g_law_same (T.fn_law_same).kp (b_law_same T) (fun σ => L2N.passAt tk σ) (pa_cons (Cl.pe_att (.cons (Cl.alt_prop T.cls_Clause T.prop_Clause_names (ok_Clause_names T) (hr.mono (by decide)) (b_Clause_names T) passN) (.cons (Cl.alt_prop T.cls_Book T.prop_Book_names (ok_Book_names T) (hr.mono (by decide)) (b_Book_names T) passN) .nil)) (pv 0)) (pa_cons (pe_callTy call_tupleP (by rfl) T.f_tuple PyProof.Rows.Boot.«tuple» (pa_cons (pe_callS (ok_law_names_in T) (hr.mono (by decide)) rfl T.g_law_names_in (T.fn_law_names_in).kp (b_law_names_in T) (fun σ => L2N.passAt tk σ) (pa_cons (pv 2) pa_nil)) pa_nil)) pa_nil)))))))) (pss_one (ps_ret pe_bl)) pss_nil)
      (pss_cut (ps_if (pt_not (pt_val (pe_callS (ok_law_same T) (hr.mono (by decide)) rfl T.g_law_same (T.fn_law_same).kp (b_law_same T) (fun σ => L2N.passAt tk σ) (pa_cons (pe_lc (own := [("_law_k", 7)]) (g := (gName 7)) (tt := tYes) rfl sc_law_state.nd (pi_range1 (by rfl) T.f_range (pa_cons (pe_op op_addP (pv 3) pe_int) pa_nil)) (blkOk_by (own := [("_law_k", 7)]) (N := N_law_state) (sc := defScope Hd.s_law_state) (by decide +kernel)) (fun _ _ _ _ _ => (pg_name (i := 7) sc_law_state.nd rfl (Or.inl rfl))) (fun _ _ _ _ _ => pts_nil) (fun _ _ _ _ _ => (Cl.pe_cmpS (Cl.op_ownI (neg := false) (E := (fun _ => E0)) (.cons (Cl.alt_in T.own_Clause_contains (Cl.toR (ok_Clause_contains T) (b_Clause_contains T)) (hr.mono (by decide)) (fun σ => Cl.passNA σ)) (.cons (Cl.alt_in T.own_Turning_contains (Cl.toR (ok_Turning_contains T) (b_Turning_contains T)) (hr.mono (by decide)) (fun σ => Cl.passNA σ)) (.cons (Cl.alt_in T.own_Book_contains (Cl.toR (ok_Book_contains T) (b_Book_contains T)) (hr.mono (by decide)) (fun σ => Cl.passNA σ)) .nil))) (op_inP hr.units)) (pv 7) (pv 0) (by rfl)))) (pa_cons (pe_lc (own := [("_law_k", 7)]) (g := (gName 7)) (tt := tYes) rfl sc_law_state.nd (pi_range1 (by rfl) T.f_range (pa_cons (pe_op op_addP (pv 3) pe_int) pa_nil)) (blkOk_by (own := [("_law_k", 7)]) (N := N_law_state) (sc := defScope Hd.s_law_state) (by decide +kernel)) (fun _ _ _ _ _ => (pg_name (i := 7) sc_law_state.nd rfl (Or.inl rfl))) (fun _ _ _ _ _ => pts_nil) (fun _ _ _ _ _ => (Cl.pe_cmpS (Cl.op_ownI (neg := false) (E := (fun _ => E0)) (.cons (Cl.alt_in T.own_Clause_contains (Cl.toR (ok_Clause_contains T) (b_Clause_contains T)) (hr.mono (by decide)) (fun σ => Cl.passNA σ)) (.cons (Cl.alt_in T.own_Turning_contains (Cl.toR (ok_Turning_contains T) (b_Turning_contains T)) (hr.mono (by decide)) (fun σ => Cl.passNA σ)) (.cons (Cl.alt_in T.own_Book_contains (Cl.toR (ok_Book_contains T) (b_Book_contains T)) (hr.mono (by decide)) (fun σ => Cl.passNA σ)) .nil))) (op_inP hr.units)) (pv 7) (pv 1) (by rfl)))) pa_nil))))) (pss_one (ps_ret pe_bl)) pss_nil)
      (pss_cons (ps_setLc (i := 4) (own := [("_law_row_here", 5)]) (g := (gName 5)) (tt := tYes) rfl sc_law_state.nd rfl rfl (sw_true rfl rfl rfl (by decide +kernel)) (pi_anyP (pv 2)) (blkOk_by (own := [("_law_row_here", 5)]) (N := N_law_state) (sc := defScope Hd.s_law_state) (by decide +kernel)) (fun _ _ _ _ _ => (pg_name (i := 5) sc_law_state.nd rfl (Or.inl rfl))) (fun _ _ _ _ _ => pts_nil) (fun _ _ _ _ _ => (pe_callTy call_tupleP (by rfl) T.f_tuple PyProof.Rows.Boot.«tuple» (pa_cons (pe_call (ok_law_ordered T) (hr.mono (by decide)) rfl T.g_law_ordered (T.fn_law_ordered).kp (b_law_ordered T) .nil passN (pa_cons (pv 5) pa_nil)) pa_nil))))
      (pss_one (ps_ret (pe_callS (ok_law_same T) (hr.mono (by decide)) rfl T.g_law_same (T.fn_law_same).kp (b_law_same T) (fun σ => L2N.passAt tk σ) (pa_cons (pe_lc (own := [("_law_number", 6)]) (g := (gName 6)) (tt := tYes) rfl sc_law_state.nd (pi_anyP (pv 1)) (blkOk_by (own := [("_law_number", 6)]) (N := N_law_state) (sc := defScope Hd.s_law_state) (by decide +kernel)) (fun _ _ _ _ _ => (pg_name (i := 6) sc_law_state.nd rfl (Or.inl rfl))) (fun _ _ _ _ _ => pts_nil) (fun _ _ _ _ _ => (Cl.pe_att (.cons (Cl.alt_fld T.cls_Clause T.no_Clause_literals) .nil) (Cl.pe_ixO (E := (fun _ => E0)) (.cons (Cl.ownM_of T.cls_Turning T.own_Turning_getitem T.fn_Turning_getitem (Cl.toR (ok_Turning_getitem T) (b_Turning_getitem T)) (hr.mono (by decide)) (fun σ => Cl.passNA σ)) (.cons (Cl.ownM_of T.cls_Book T.own_Book_getitem T.fn_Book_getitem (Cl.toR (ok_Book_getitem T) (b_Book_getitem T)) (hr.mono (by decide)) (fun σ => Cl.passNA σ)) .nil)) ix_P (pv 0) (pv 6) (fun _ _ => rfl) (fun _ _ => by with_unfolding_all rfl))))) (pa_cons (pv 4) pa_nil)))))))))
theorem sc_Book_drop : FnScope N_Book_drop ["self", "number"] (defScope Hd.s_Book_drop) := ⟨rfl, rfl, rfl, by decide +kernel, rfl, by decide +kernel, by decide +kernel⟩
theorem b_Book_drop (T : Tx w K mg) : Binds K (fdOf K (ma K (ga K "Book") "drop")) ["self", "number"] [] := T.fn_Book_drop.bindsN fun _ _ _ _ _ _ us hl => match us, hl with | [_, _], _ => rfl
theorem ok_Book_drop (T : Tx w K mg) : FnOk PySem.Challenge.pw_renamedhorn_k14_book_numbers w K mg base (L2N.CX PySem.Challenge.pw_renamedhorn_k14_book_numbers w) 3 (ma K (ga K "Book") "drop") (fdOf K (ma K (ga K "Book") "drop")) ["self", "number"] (sp_Book_drop K) := by
  refine T.fn_Book_drop.ok sc_Book_drop (fun vs H Q E h => Sp2.len h) (fun cdv A outer s H vs Q E hr h => ⟨t_Book_drop K (fun cls d _ H => E cls d H), ?_, pure_Book_drop h⟩)
  · have tk := L2N.takes_of (X := cxOf (L2N.CX PySem.Challenge.pw_renamedhorn_k14_book_numbers w) PySem.Challenge.pw_renamedhorn_k14_book_numbers w K mg base N_Book_drop "Book.drop" (defScope Hd.s_Book_drop) (ma K (ga K "Book") "drop") cdv A outer s H E) (E := E) rfl rfl rfl rfl
    exact (pss_cut (ps_if (pt_cmpR (op_ninP hr.units) (pv 1) (Cl.pe_att (.cons (Cl.alt_fld T.cls_Book T.no_Book_rows) .nil) (pv 0)) (by rfl)) (pss_one (ps_raiseE rfl T.err_NoClause hr tk (pa_cons (pv 1) pa_nil))) pss_nil)
      (pss_cons (ps_asg (pe_dget (Nat.lt_of_le_of_lt (Nat.add_le_add_left (by decide : 1 ≤ 64) _) hr.units) (Cl.pe_att (.cons (Cl.alt_fld T.cls_Book T.no_Book_rows) .nil) (pv 0)) (pv 1) (fun _ _ => rfl)) (pg_name (i := 2) sc_Book_drop.nd rfl (Or.inl rfl)))
      (pss_cons (ps_ddel (Cl.pe_att (.cons (Cl.alt_fld T.cls_Book T.no_Book_rows) .nil) (pv 0)) (pv 1))
      (pss_one (ps_ret (pv 2))))))
theorem sc_Book_isub : FnScope N_Book_isub ["self", "number"] (defScope Hd.s_Book_isub) := ⟨rfl, rfl, rfl, by decide +kernel, rfl, by decide +kernel, by decide +kernel⟩
theorem b_Book_isub (T : Tx w K mg) : Binds K (fdOf K (ma K (ga K "Book") "__isub__")) ["self", "number"] [] := T.fn_Book_isub.bindsN fun _ _ _ _ _ _ us hl => match us, hl with | [_, _], _ => rfl
theorem ok_Book_isub (T : Tx w K mg) : FnOk PySem.Challenge.pw_renamedhorn_k14_book_numbers w K mg base (L2N.CX PySem.Challenge.pw_renamedhorn_k14_book_numbers w) 7 (ma K (ga K "Book") "__isub__") (fdOf K (ma K (ga K "Book") "__isub__")) ["self", "number"] (sp_Book_isub K) := by
  refine T.fn_Book_isub.ok sc_Book_isub (fun vs H Q E h => Sp2.len h) (fun cdv A outer s H vs Q E hr h => ⟨t_Book_isub K (fun cls d _ H => E cls d H), ?_, pure_Book_isub h⟩)
  · have tk := L2N.takes_of (X := cxOf (L2N.CX PySem.Challenge.pw_renamedhorn_k14_book_numbers w) PySem.Challenge.pw_renamedhorn_k14_book_numbers w K mg base N_Book_isub "Book.__isub__" (defScope Hd.s_Book_isub) (ma K (ga K "Book") "__isub__") cdv A outer s H E) (E := E) rfl rfl rfl rfl
    exact (pss_cons (ps_expr (Cl.pe_methO (E := (WE fun cls d _ H => E cls d H)) (.cons (Cl.ownM_of T.cls_Book T.own_Book_drop T.fn_Book_drop (Cl.toR (ok_Book_drop T) (b_Book_drop T)) (hr.mono (by decide)) (fun σ => L2N.passAt tk σ)) .nil) (pv 0) (pa_cons (pv 1) pa_nil)))
      (pss_one (ps_ret (pv 0))))
theorem sc_law_absent : FnScope N_law_absent ["_law_book", "_law_number", "_law_way"] (defScope Hd.s_law_absent) := ⟨rfl, rfl, rfl, by decide +kernel, rfl, by decide +kernel, by decide +kernel⟩
theorem b_law_absent (T : Tx w K mg) : Binds K (fdOf K (ga K "_law_absent")) ["_law_book", "_law_number", "_law_way"] [] := T.fn_law_absent.bindsN fun _ _ _ _ _ _ us hl => match us, hl with | [_, _, _], _ => rfl
theorem ok_law_absent (T : Tx w K mg) : FnOk PySem.Challenge.pw_renamedhorn_k14_book_numbers w K mg base (L2N.CX PySem.Challenge.pw_renamedhorn_k14_book_numbers w) 11 (ga K "_law_absent") (fdOf K (ga K "_law_absent")) ["_law_book", "_law_number", "_law_way"] (sp_law_absent K) := by
  refine T.fn_law_absent.ok sc_law_absent (fun vs H Q E h => Sp3.len h) (fun cdv A outer s H vs Q E hr h => ⟨t_law_absent K (fun cls d _ H => E cls d H), ?_, pure_law_absent ⟨T.exm_NoClause_NoClause, T.excC_NoClause, T.kit_NoClause_HornError, T.kit_NoClause_ValueError, T.kit_NoClause_BadNumber⟩ h⟩)
  · have tk := L2N.takes_of (X := cxOf (L2N.CX PySem.Challenge.pw_renamedhorn_k14_book_numbers w) PySem.Challenge.pw_renamedhorn_k14_book_numbers w K mg base N_law_absent "_law_absent" (defScope Hd.s_law_absent) (ga K "_law_absent") cdv A outer s H E) (E := E) rfl rfl rfl rfl
    exact (pss_cut (L2N.ps_try_as (i := 3) (tb := fun W1 => (tIfS (tTest (tOp (rEqP K) (tVar 2) (tC (.int 0)))) (tDrop (Cl.tMethO [(ga K "Book", sp_Book_drop K)] "drop" (WE W1) (tVar 0) (tCons (tVar 1) tNil))) (tIfS (tTest (tOp (rEqP K) (tVar 2) (tC (.int 1)))) (Cl.tAugO 0 (tVar 1) (Cl.rInp [(ga K "Book", sp_Book_isub K)] (WE W1) (rIn0 fun i j => .int (i - j)))) (tSeq (tAsg (Cl.tOpS (Cl.rIxO [(ga K "Turning", sp_Turning_getitem K), (ga K "Book", sp_Book_getitem K)] (WE W1) (rIxP K)) (tVar 0) (tVar 1)) (gName 5))
    (tRet (tAndV (tOp (rIsP false) (tVar 5) (tC .non)) (tC (.bl false)))))))) (ts := fun a_ cls_ d_ => (tSeq (tAsg (tAndV (tCB (rIsEE K a_ cls_ d_) (tCons (tVar 3) (tCons (tC (.ref (ga K "HornError"))) tNil))) (tAndV (tCB (rIsEE K a_ cls_ d_) (tCons (tVar 3) (tCons (tC (.ty "ValueError")) tNil))) (tNotV (tCB (rIsEE K a_ cls_ d_) (tCons (tVar 3) (tCons (tC (.ref (ga K "BadNumber"))) tNil)))))) (gName 4))
    (tRet (tAndV (tVar 4) (tCallS (spH_law_same K) (WE (fun _ _ _ _ => False)) (tCons (tErrF (ga K "NoClause") "number" a_ cls_ d_ (tVar 3)) (tCons (tVar 1) tNil))))))) rfl rfl sc_law_absent.nd rfl rfl ⟨rfl, by decide, Or.inl T.g_NoClause⟩ tk
      (fun W1 pn xe tk1 po_ => (pss_one (ps_if (pt_cmpR (op_eqP hr.units) (pv 2) pe_int (nomark _)) (pss_one (ps_expr (Cl.pe_methO (E := (WE W1)) (.cons (Cl.ownM_of T.cls_Book T.own_Book_drop T.fn_Book_drop (Cl.toR (ok_Book_drop T) (b_Book_drop T)) (hr.mono (by decide)) (fun σ => L2N.passAt tk1 σ)) .nil) (pv 0) (pa_cons (pv 1) pa_nil)))) (pss_one (ps_if (pt_cmpR (op_eqP hr.units) (pv 2) pe_int (nomark _)) (pss_one (Cl.ps_augO (i := 0) sc_law_absent.nd rfl (Or.inl rfl) (pv 1) (Cl.iop_own (E := (WE W1)) (.cons (Cl.alt_inp Hk.di_sub T.own_Book_isub (Cl.toR (ok_Book_isub T) (b_Book_isub T)) (hr.mono (by decide)) (fun σ => L2N.passAt tk1 σ)) .nil) Cl.iop_subP))) (pss_cons (ps_asg (Cl.pe_ixO (E := (WE W1)) (.cons (Cl.ownM_of T.cls_Turning T.own_Turning_getitem T.fn_Turning_getitem (Cl.toR (ok_Turning_getitem T) (b_Turning_getitem T)) (hr.mono (by decide)) (fun σ => L2N.passAt tk1 σ)) (.cons (Cl.ownM_of T.cls_Book T.own_Book_getitem T.fn_Book_getitem (Cl.toR (ok_Book_getitem T) (b_Book_getitem T)) (hr.mono (by decide)) (fun σ => L2N.passAt tk1 σ)) .nil)) ix_P (pv 0) (pv 1) (fun _ _ => rfl) (fun _ _ => by with_unfolding_all rfl)) (pg_name (i := 5) sc_law_absent.nd rfl (Or.inl rfl)))
      (pss_one (ps_ret (pe_and (pe_cmpR op_isP (pv 5) pe_non (nomark _)) (pe_one pe_bl))))))))))
      (fun a oe cls d pn hz hf => (pss_cons (ps_asg (pe_and (pe_callB (call_isEE hz.zc hf) (by rfl) T.f_isinstance PyProof.Rows.Boot.«isinstance» (pa_cons (pv 3) (pa_cons (pe_glob (v := .ref (ga K "HornError")) rfl (T.g_HornError) rfl) pa_nil))) (pe_and (pe_callB (call_isEE hz.zc hf) (by rfl) T.f_isinstance PyProof.Rows.Boot.«isinstance» (pa_cons (pv 3) (pa_cons (pe_bltn (v := .ty "ValueError") rfl (T.f_ValueError) PyProof.Rows.Boot.«ValueError» rfl) pa_nil))) (pe_one (pe_not (pe_callB (call_isEE hz.zc hf) (by rfl) T.f_isinstance PyProof.Rows.Boot.«isinstance» (pa_cons (pv 3) (pa_cons (pe_glob (v := .ref (ga K "BadNumber")) rfl (T.g_BadNumber) rfl) pa_nil))))))) (pg_name (i := 4) sc_law_absent.nd rfl (Or.inl rfl)))
      (pss_one (ps_ret (pe_and (pv 4) (pe_one (L2H.pe_callH (okH_law_same T) ((L2H.roomH_mark hr _).mono (by decide)) (hotc hz hf) rfl T.g_law_same (T.fn_law_same).kp (b_law_same T) (fun σ => L2N.passAt takesN σ) (pa_cons (pe_errF T.err_NoClause hz.zc hf (pv 3)) (pa_cons (pv 1) pa_nil))))))))))
      (pss_one (ps_ret pe_bl)))
theorem sc_Book_init : FnScope N_Book_init ["self", "numbers", "greatest", "clauses"] (defScope Hd.s_Book_init) := ⟨rfl, rfl, rfl, by decide +kernel, rfl, by decide +kernel, by decide +kernel⟩
theorem fr_Book_init (T : Tx w K mg) : FnR PySem.Challenge.pw_renamedhorn_k14_book_numbers w K mg base (L2N.CX PySem.Challenge.pw_renamedhorn_k14_book_numbers w) 7 (ma K (ga K "Book") "__init__") (spV_Book_init K) := by
  refine Cl.okStarK (p1 := "self") (pv := "clauses") T.fn_Book_init (by simp) sc_Book_init (fun D doc pm an cdv ct u rest ds hl => match ds, hl, rest with | [_, _], _, [] => ⟨_, _, _, _, _, _, rfl, rfl, _, _, _, _, _, _, rfl, rfl, rfl⟩ | [_, _], _, _ :: _ => ⟨_, _, _, _, _, _, rfl, rfl, _, _, _, _, _, _, rfl, rfl, rfl⟩) (fun cdv A outer s H vs Q E hr h => ⟨t_Book_init K (fun cls d _ H => E cls d H), ?_, pure_Book_init h⟩)
  · have tk := L2N.takes_of (X := cxOf (L2N.CX PySem.Challenge.pw_renamedhorn_k14_book_numbers w) PySem.Challenge.pw_renamedhorn_k14_book_numbers w K mg base N_Book_init "Book.__init__" (defScope Hd.s_Book_init) (ma K (ga K "Book") "__init__") cdv A outer s H E) (E := E) rfl rfl rfl rfl
    obtain ⟨u_Book_LIMIT, con_Book_LIMIT⟩ := T.con_Book_LIMIT
    obtain ⟨u_Book_NAMES, con_Book_NAMES⟩ := T.con_Book_NAMES
    obtain ⟨u_Clause_LIMIT, con_Clause_LIMIT⟩ := T.con_Clause_LIMIT
    obtain ⟨u_Turning_LIMIT, con_Turning_LIMIT⟩ := T.con_Turning_LIMIT
    exact (pss_cut (ps_if (pt_cmpR op_isP (pv 1) pe_non (nomark _)) (pss_cons (ps_expr (pe_callS (ok_check_sizes T) (hr.mono (by decide)) rfl T.g_check_sizes (T.fn_check_sizes).kp (b_check_sizes T) (fun σ => L2N.passAt tk σ) (pa_cons (pv 3) (pa_cons (Cl.pe_att (.cons (Cl.alt_con T.cls_Clause con_Clause_LIMIT) (.cons (Cl.alt_con T.cls_Turning con_Turning_LIMIT) (.cons (Cl.alt_con T.cls_Book con_Book_LIMIT) .nil))) (pv 0)) (pa_cons (Cl.pe_att (.cons (Cl.alt_con T.cls_Book con_Book_NAMES) .nil) (pv 0)) pa_nil)))))
      (pss_cons (ps_asg (pe_listRg rfl (by rfl) T.f_list (prg_2 (by rfl) T.f_range pe_int (pe_op op_addP (pe_callB call_lenP (by rfl) T.f_len PyProof.Rows.Boot.«len» (pa_cons (pv 3) pa_nil)) pe_int))) (pg_name (i := 1) sc_Book_init.nd rfl (Or.inl rfl)))
      (pss_one (ps_asg (pe_callB call_lenP (by rfl) T.f_len PyProof.Rows.Boot.«len» (pa_cons (pv 3) pa_nil)) (pg_name (i := 2) sc_Book_init.nd rfl (Or.inl rfl)))))) pss_nil)
      (pss_cons (Cl.ps_att (l := [ga K "Book"]) (fun C h => by simp only [List.mem_cons, List.not_mem_nil, or_false] at h; rcases h with rfl <;> first | exact ⟨T.cls_Book, T.no_Book_rows⟩) (pv 0) (pe_dc (own := [("number", 4), ("clause", 5)]) (g := (gTup K 2 (gCons (gName 4) (gCons (gName 5) gNil)))) (tt := tYes) rfl sc_Book_init.nd (ZiX.pi_zipM (by rfl) T.f_zip (pa_cons (pv 1) (pa_cons (pv 3) pa_nil))) (blkOk_by (own := [("number", 4), ("clause", 5)]) (N := N_Book_init) (sc := defScope Hd.s_Book_init) (by decide +kernel)) (fun _ _ _ _ _ => (pg_tup rfl (pgs_cons (pg_name (i := 4) sc_Book_init.nd rfl (Or.inl rfl)) (pgs_cons (pg_name (i := 5) sc_Book_init.nd rfl (Or.inl rfl)) pgs_nil)))) (fun _ _ _ _ _ => pts_nil) (fun _ _ _ _ _ => (pv 4)) (fun _ _ _ _ _ => (pv 5))))
      (pss_one (Cl.ps_att (l := [ga K "Book"]) (fun C h => by simp only [List.mem_cons, List.not_mem_nil, or_false] at h; rcases h with rfl <;> first | exact ⟨T.cls_Book, T.no_Book_greatest⟩) (pv 0) (pv 2)))))
theorem frK_Book_init (T : Tx w K mg) : Cl.FnRK PySem.Challenge.pw_renamedhorn_k14_book_numbers w K mg base (L2N.CX PySem.Challenge.pw_renamedhorn_k14_book_numbers w) 7 (ma K (ga K "Book") "__init__") ["numbers", "greatest"] (spK_Book_init K) := by
  refine Cl.okStarKW (p1 := "self") (pv := "clauses") T.fn_Book_init ["numbers", "greatest"] sc_Book_init (fun kV doc pm an cdv ct u rest ws hl => match ws, hl, rest with | [_, _], _, [] => rfl | [_, _], _, _ :: _ => rfl) (fun cdv A outer s H vs Q E hr h => ⟨t_Book_init K (fun cls d _ H => E cls d H), ?_, pure_Book_init h⟩)
  · have tk := L2N.takes_of (X := cxOf (L2N.CX PySem.Challenge.pw_renamedhorn_k14_book_numbers w) PySem.Challenge.pw_renamedhorn_k14_book_numbers w K mg base N_Book_init "Book.__init__" (defScope Hd.s_Book_init) (ma K (ga K "Book") "__init__") cdv A outer s H E) (E := E) rfl rfl rfl rfl
    obtain ⟨u_Book_LIMIT, con_Book_LIMIT⟩ := T.con_Book_LIMIT
    obtain ⟨u_Book_NAMES, con_Book_NAMES⟩ := T.con_Book_NAMES
    obtain ⟨u_Clause_LIMIT, con_Clause_LIMIT⟩ := T.con_Clause_LIMIT
    obtain ⟨u_Turning_LIMIT, con_Turning_LIMIT⟩ := T.con_Turning_LIMIT
    exact (pss_cut (ps_if (pt_cmpR op_isP (pv 1) pe_non (nomark _)) (pss_cons (ps_expr (pe_callS (ok_check_sizes T) (hr.mono (by decide)) rfl T.g_check_sizes (T.fn_check_sizes).kp (b_check_sizes T) (fun σ => L2N.passAt tk σ) (pa_cons (pv 3) (pa_cons (Cl.pe_att (.cons (Cl.alt_con T.cls_Clause con_Clause_LIMIT) (.cons (Cl.alt_con T.cls_Turning con_Turning_LIMIT) (.cons (Cl.alt_con T.cls_Book con_Book_LIMIT) .nil))) (pv 0)) (pa_cons (Cl.pe_att (.cons (Cl.alt_con T.cls_Book con_Book_NAMES) .nil) (pv 0)) pa_nil)))))
      (pss_cons (ps_asg (pe_listRg rfl (by rfl) T.f_list (prg_2 (by rfl) T.f_range pe_int (pe_op op_addP (pe_callB call_lenP (by rfl) T.f_len PyProof.Rows.Boot.«len» (pa_cons (pv 3) pa_nil)) pe_int))) (pg_name (i := 1) sc_Book_init.nd rfl (Or.inl rfl)))
      (pss_one (ps_asg (pe_callB call_lenP (by rfl) T.f_len PyProof.Rows.Boot.«len» (pa_cons (pv 3) pa_nil)) (pg_name (i := 2) sc_Book_init.nd rfl (Or.inl rfl)))))) pss_nil)
      (pss_cons (Cl.ps_att (l := [ga K "Book"]) (fun C h => by simp only [List.mem_cons, List.not_mem_nil, or_false] at h; rcases h with rfl <;> first | exact ⟨T.cls_Book, T.no_Book_rows⟩) (pv 0) (pe_dc (own := [("number", 4), ("clause", 5)]) (g := (gTup K 2 (gCons (gName 4) (gCons (gName 5) gNil)))) (tt := tYes) rfl sc_Book_init.nd (ZiX.pi_zipM (by rfl) T.f_zip (pa_cons (pv 1) (pa_cons (pv 3) pa_nil))) (blkOk_by (own := [("number", 4), ("clause", 5)]) (N := N_Book_init) (sc := defScope Hd.s_Book_init) (by decide +kernel)) (fun _ _ _ _ _ => (pg_tup rfl (pgs_cons (pg_name (i := 4) sc_Book_init.nd rfl (Or.inl rfl)) (pgs_cons (pg_name (i := 5) sc_Book_init.nd rfl (Or.inl rfl)) pgs_nil)))) (fun _ _ _ _ _ => pts_nil) (fun _ _ _ _ _ => (pv 4)) (fun _ _ _ _ _ => (pv 5))))
      (pss_one (Cl.ps_att (l := [ga K "Book"]) (fun C h => by simp only [List.mem_cons, List.not_mem_nil, or_false] at h; rcases h with rfl <;> first | exact ⟨T.cls_Book, T.no_Book_greatest⟩) (pv 0) (pv 2)))))
theorem sc_Book_need_room : FnScope N_Book_need_room ["self", "clause"] (defScope Hd.s_Book_need_room) := ⟨rfl, rfl, rfl, by decide +kernel, rfl, by decide +kernel, by decide +kernel⟩
theorem b_Book_need_room (T : Tx w K mg) : Binds K (fdOf K (ma K (ga K "Book") "need_room")) ["self", "clause"] [] := T.fn_Book_need_room.bindsN fun _ _ _ _ _ _ us hl => match us, hl with | [_, _], _ => rfl
theorem ok_Book_need_room (T : Tx w K mg) : FnOk PySem.Challenge.pw_renamedhorn_k14_book_numbers w K mg base (L2N.CX PySem.Challenge.pw_renamedhorn_k14_book_numbers w) 6 (ma K (ga K "Book") "need_room") (fdOf K (ma K (ga K "Book") "need_room")) ["self", "clause"] (sp_Book_need_room K) := by
  refine T.fn_Book_need_room.ok sc_Book_need_room (fun vs H Q E h => Sp2.len h) (fun cdv A outer s H vs Q E hr h => ⟨t_Book_need_room K (fun cls d _ H => E cls d H), ?_, pure_Book_need_room h⟩)
  · have tk := L2N.takes_of (X := cxOf (L2N.CX PySem.Challenge.pw_renamedhorn_k14_book_numbers w) PySem.Challenge.pw_renamedhorn_k14_book_numbers w K mg base N_Book_need_room "Book.need_room" (defScope Hd.s_Book_need_room) (ma K (ga K "Book") "need_room") cdv A outer s H E) (E := E) rfl rfl rfl rfl
    obtain ⟨u_Book_LIMIT, con_Book_LIMIT⟩ := T.con_Book_LIMIT
    obtain ⟨u_Book_NAMES, con_Book_NAMES⟩ := T.con_Book_NAMES
    obtain ⟨u_Clause_LIMIT, con_Clause_LIMIT⟩ := T.con_Clause_LIMIT
    obtain ⟨u_Turning_LIMIT, con_Turning_LIMIT⟩ := T.con_Turning_LIMIT
    exact (pss_cut (ps_if (pt_cmpR op_geP (pe_callB call_lenP (by rfl) T.f_len PyProof.Rows.Boot.«len» (pa_cons (Cl.pe_att (.cons (Cl.alt_fld T.cls_Book T.no_Book_rows) .nil) (pv 0)) pa_nil)) (Cl.pe_att (.cons (Cl.alt_con T.cls_Clause con_Clause_LIMIT) (.cons (Cl.alt_con T.cls_Turning con_Turning_LIMIT) (.cons (Cl.alt_con T.cls_Book con_Book_LIMIT) .nil))) (pv 0)) (nomark _)) (pss_one (ps_raiseE rfl T.err_TooMany hr tk (pa_cons (Cl.pe_att (.cons (Cl.alt_con T.cls_Clause con_Clause_LIMIT) (.cons (Cl.alt_con T.cls_Turning con_Turning_LIMIT) (.cons (Cl.alt_con T.cls_Book con_Book_LIMIT) .nil))) (pv 0)) pa_nil))) pss_nil)
      (pss_one (ps_if (pt_cmpR op_gtP (pe_callB call_lenP (by rfl) T.f_len PyProof.Rows.Boot.«len» (pa_cons (pe_callS (ok_names_in T) (hr.mono (by decide)) rfl T.g_names_in (T.fn_names_in).kp (b_names_in T) (fun σ => L2N.passAt tk σ) (pa_cons (pe_op op_addP (Cl.pe_listVals rfl (by rfl) T.f_list (Cl.pe_att (.cons (Cl.alt_fld T.cls_Book T.no_Book_rows) .nil) (pv 0))) (pe_lst (pa_cons (pv 1) pa_nil))) pa_nil)) pa_nil)) (Cl.pe_att (.cons (Cl.alt_con T.cls_Book con_Book_NAMES) .nil) (pv 0)) (nomark _)) (pss_one (ps_raiseE rfl T.err_TooMany hr tk (pa_cons (Cl.pe_att (.cons (Cl.alt_con T.cls_Book con_Book_NAMES) .nil) (pv 0)) pa_nil))) pss_nil)))
theorem sc_Book_put : FnScope N_Book_put ["self", "clause"] (defScope Hd.s_Book_put) := ⟨rfl, rfl, rfl, by decide +kernel, rfl, by decide +kernel, by decide +kernel⟩
theorem b_Book_put (T : Tx w K mg) : Binds K (fdOf K (ma K (ga K "Book") "put")) ["self", "clause"] [] := T.fn_Book_put.bindsN fun _ _ _ _ _ _ us hl => match us, hl with | [_, _], _ => rfl
theorem ok_Book_put (T : Tx w K mg) : FnOk PySem.Challenge.pw_renamedhorn_k14_book_numbers w K mg base (L2N.CX PySem.Challenge.pw_renamedhorn_k14_book_numbers w) 10 (ma K (ga K "Book") "put") (fdOf K (ma K (ga K "Book") "put")) ["self", "clause"] (sp_Book_put K) := by
  refine T.fn_Book_put.ok sc_Book_put (fun vs H Q E h => Sp2.len h) (fun cdv A outer s H vs Q E hr h => ⟨t_Book_put K (fun cls d _ H => E cls d H), ?_, pure_Book_put h⟩)
  · have tk := L2N.takes_of (X := cxOf (L2N.CX PySem.Challenge.pw_renamedhorn_k14_book_numbers w) PySem.Challenge.pw_renamedhorn_k14_book_numbers w K mg base N_Book_put "Book.put" (defScope Hd.s_Book_put) (ma K (ga K "Book") "put") cdv A outer s H E) (E := E) rfl rfl rfl rfl
    obtain ⟨u_Book_NUMBERS, con_Book_NUMBERS⟩ := T.con_Book_NUMBERS
    exact (pss_cons (ps_expr (Cl.pe_methO (E := (WE fun cls d _ H => E cls d H)) (.cons (Cl.ownM_of T.cls_Book T.own_Book_need_room T.fn_Book_need_room (Cl.toR (ok_Book_need_room T) (b_Book_need_room T)) (hr.mono (by decide)) (fun σ => L2N.passAt tk σ)) .nil) (pv 0) (pa_cons (pv 1) pa_nil)))
      (pss_cut (ps_if (pt_cmpR op_geP (Cl.pe_att (.cons (Cl.alt_fld T.cls_Book T.no_Book_greatest) .nil) (pv 0)) (Cl.pe_att (.cons (Cl.alt_con T.cls_Book con_Book_NUMBERS) .nil) (pv 0)) (nomark _)) (pss_one (ps_raiseE rfl T.err_TooMany hr tk (pa_cons (Cl.pe_att (.cons (Cl.alt_con T.cls_Book con_Book_NUMBERS) .nil) (pv 0)) pa_nil))) pss_nil)
      (pss_cons (Cl.ps_attA (l := [ga K "Book"]) (fun C h => by simp only [List.mem_cons, List.not_mem_nil, or_false] at h; rcases h with rfl <;> first | exact ⟨T.cls_Book, T.no_Book_greatest⟩) (pv 0) pe_int Cl.iop_addP)
      (pss_cons (ps_asg (pv 1) (pg_sub (Cl.pe_att (.cons (Cl.alt_fld T.cls_Book T.no_Book_rows) .nil) (pv 0)) (Cl.pe_att (.cons (Cl.alt_fld T.cls_Book T.no_Book_greatest) .nil) (pv 0)) (set_P hr.units)))
      (pss_one (ps_ret (Cl.pe_att (.cons (Cl.alt_fld T.cls_Book T.no_Book_greatest) .nil) (pv 0))))))))
theorem sc_Book_iadd : FnScope N_Book_iadd ["self", "clause"] (defScope Hd.s_Book_iadd) := ⟨rfl, rfl, rfl, by decide +kernel, rfl, by decide +kernel, by decide +kernel⟩
theorem b_Book_iadd (T : Tx w K mg) : Binds K (fdOf K (ma K (ga K "Book") "__iadd__")) ["self", "clause"] [] := T.fn_Book_iadd.bindsN fun _ _ _ _ _ _ us hl => match us, hl with | [_, _], _ => rfl
theorem ok_Book_iadd (T : Tx w K mg) : FnOk PySem.Challenge.pw_renamedhorn_k14_book_numbers w K mg base (L2N.CX PySem.Challenge.pw_renamedhorn_k14_book_numbers w) 14 (ma K (ga K "Book") "__iadd__") (fdOf K (ma K (ga K "Book") "__iadd__")) ["self", "clause"] (sp_Book_iadd K) := by
  refine T.fn_Book_iadd.ok sc_Book_iadd (fun vs H Q E h => Sp2.len h) (fun cdv A outer s H vs Q E hr h => ⟨t_Book_iadd K (fun cls d _ H => E cls d H), ?_, pure_Book_iadd h⟩)
  · have tk := L2N.takes_of (X := cxOf (L2N.CX PySem.Challenge.pw_renamedhorn_k14_book_numbers w) PySem.Challenge.pw_renamedhorn_k14_book_numbers w K mg base N_Book_iadd "Book.__iadd__" (defScope Hd.s_Book_iadd) (ma K (ga K "Book") "__iadd__") cdv A outer s H E) (E := E) rfl rfl rfl rfl
    exact (pss_cons (ps_expr (Cl.pe_methO (E := (WE fun cls d _ H => E cls d H)) (.cons (Cl.ownM_of T.cls_Book T.own_Book_put T.fn_Book_put (Cl.toR (ok_Book_put T) (b_Book_put T)) (hr.mono (by decide)) (fun σ => L2N.passAt tk σ)) .nil) (pv 0) (pa_cons (pv 1) pa_nil)))
      (pss_one (ps_ret (pv 0))))
theorem sc_law : FnScope N_law ["_law_script"] (defScope Hd.s_law) := ⟨rfl, rfl, rfl, by decide +kernel, rfl, by decide +kernel, by decide +kernel⟩
theorem b_law (T : Tx w K mg) : Binds K (fdOf K (ga K "law")) ["_law_script"] [] := T.fn_law.bindsN fun _ _ _ _ _ _ us hl => match us, hl with | [_], _ => rfl
theorem ok_law (T : Tx w K mg) : FnOk PySem.Challenge.pw_renamedhorn_k14_book_numbers w K mg base (L2N.CX PySem.Challenge.pw_renamedhorn_k14_book_numbers w) 18 (ga K "law") (fdOf K (ga K "law")) ["_law_script"] (sp_law K) := by
  refine T.fn_law.ok sc_law (fun vs H Q E h => Sp1.len h) (fun cdv A outer s H vs Q E hr h => ⟨t_law K (fun cls d _ H => E cls d H), ?_, pure_law h⟩)
  · have tk := L2N.takes_of (X := cxOf (L2N.CX PySem.Challenge.pw_renamedhorn_k14_book_numbers w) PySem.Challenge.pw_renamedhorn_k14_book_numbers w K mg base N_law "law" (defScope Hd.s_law) (ga K "law") cdv A outer s H E) (E := E) rfl rfl rfl rfl
    exact (pss_cons (ps_asg (pe_callS (ok_law_source T) (hr.mono (by decide)) rfl T.g_law_source (T.fn_law_source).kp (b_law_source T) (fun σ => L2N.passAt tk σ) (pa_cons (pv 0) pa_nil)) (pg_name (i := 1) sc_law.nd rfl (Or.inl rfl)))
      (pss_cons (ps_asg (pe_callS (ok_law_names T) (hr.mono (by decide)) rfl T.g_law_names (T.fn_law_names).kp (b_law_names T) (fun σ => L2N.passAt tk σ) (pa_cons (pv 1) (pa_cons pe_int pa_nil))) (pg_name (i := 2) sc_law.nd rfl (Or.inl rfl)))
      (pss_cons (ps_asg (Cl.pe_makeS0 T.mk_Book (fr_Book_init T) (hr.mono (by decide)) rfl T.g_Book (fun σ => L2N.passAt tk σ)) (pg_name (i := 3) sc_law.nd rfl (Or.inl rfl)))
      (pss_cons (ps_asg (pv 3) (pg_name (i := 4) sc_law.nd rfl (Or.inl rfl)))
      (pss_cons (ps_asg (pe_lst pa_nil) (pg_name (i := 5) sc_law.nd rfl (Or.inl rfl)))
      (pss_cons (ps_asg (pe_lst pa_nil) (pg_name (i := 6) sc_law.nd rfl (Or.inl rfl)))
      (pss_cons (ps_asg (pe_lst (pa_cons pe_int (pa_cons (pe_un un_neg pe_int) (pa_cons pe_int pa_nil)))) (pg_name (i := 7) sc_law.nd rfl (Or.inl rfl)))
      (pss_cons (ps_asg pe_int (pg_name (i := 8) sc_law.nd rfl (Or.inl rfl)))
      (pss_cut (ps_for (passes_of rfl) rfl (pi_range1 (by rfl) T.f_range (pa_cons pe_int pa_nil)) (pg_name (i := 9) sc_law.nd rfl (Or.inl rfl)) (pss_cons (ps_asg (pe_callS (ok_law_take T) (hr.mono (by decide)) rfl T.g_law_take (T.fn_law_take).kp (b_law_take T) (fun σ => L2N.passAt tk σ) (pa_cons (pv 1) (pa_cons pe_int pa_nil))) (pg_name (i := 10) sc_law.nd rfl (Or.inl rfl)))
      (pss_cut (ps_if (PW.pt (pw_or (pt_cmpR op_ltP (pv 10) pe_int (nomark _)) (pw_or1 (pt_cmpR (op_eqP hr.units) (pe_callB call_lenP (by rfl) T.f_len PyProof.Rows.Boot.«len» (pa_cons (pv 5) pa_nil)) pe_int (nomark _))))) (pss_cons (ps_asg (pe_callS (ok_law_row T) (hr.mono (by decide)) rfl T.g_law_row (T.fn_law_row).kp (b_law_row T) (fun σ => L2N.passAt tk σ) (pa_cons (pv 1) (pa_cons (pv 2) (pa_cons pe_int pa_nil)))) (pg_name (i := 12) sc_law.nd rfl (Or.inl rfl)))
      (pss_cut (ps_if (pt_cmpR (op_eqP hr.units) (pv 10) pe_int (nomark _)) (pss_one (Cl.ps_augO (i := 3) sc_law.nd rfl (Or.inl rfl) (pe_callS (ok_law_clause T) (hr.mono (by decide)) rfl T.g_law_clause (T.fn_law_clause).kp (b_law_clause T) (fun σ => L2N.passAt tk σ) (pa_cons (pv 12) pa_nil)) (Cl.iop_own (E := (WE fun cls d _ H => E cls d H)) (.cons (Cl.alt_inp Hk.di_add T.own_Book_iadd (Cl.toR (ok_Book_iadd T) (b_Book_iadd T)) (hr.mono (by decide)) (fun σ => L2N.passAt tk σ)) .nil) Cl.iop_addP))) (pss_one (ps_if (pt_not (pt_val (pe_callS (ok_law_same T) (hr.mono (by decide)) rfl T.g_law_same (T.fn_law_same).kp (b_law_same T) (fun σ => L2N.passAt tk σ) (pa_cons (Cl.pe_methO (E := (WE fun cls d _ H => E cls d H)) (.cons (Cl.ownM_of T.cls_Book T.own_Book_put T.fn_Book_put (Cl.toR (ok_Book_put T) (b_Book_put T)) (hr.mono (by decide)) (fun σ => L2N.passAt tk σ)) .nil) (pv 3) (pa_cons (pe_callS (ok_law_clause T) (hr.mono (by decide)) rfl T.g_law_clause (T.fn_law_clause).kp (b_law_clause T) (fun σ => L2N.passAt tk σ) (pa_cons (pv 12) pa_nil)) pa_nil)) (pa_cons (pv 8) pa_nil))))) (pss_one (ps_ret pe_bl)) pss_nil)))
      (pss_cons (ps_expr (pe_bm PySem.F.plainAttrs_list PySem.F.slot_list_append PySem.F.type_list_append mt_append (pv 5) (pa_cons (pv 8) pa_nil)))
      (pss_cons (ps_expr (pe_bm PySem.F.plainAttrs_list PySem.F.slot_list_append PySem.F.type_list_append mt_append (pv 6) (pa_cons (pv 12) pa_nil)))
      (pss_one (ps_asg (pe_op op_addP (pv 8) pe_int) (pg_name (i := 8) sc_law.nd rfl (Or.inl rfl)))))))) (pss_cons (ps_asg (pe_op op_subP (pe_callB call_lenP (by rfl) T.f_len PyProof.Rows.Boot.«len» (pa_cons (pv 5) pa_nil)) pe_int) (pg_name (i := 13) sc_law.nd rfl (Or.inl rfl)))
      (pss_cut (ps_if (pt_cmpR op_gtP (pv 10) pe_int (nomark _)) (pss_one (ps_asg (pe_callS (ok_law_take T) (hr.mono (by decide)) rfl T.g_law_take (T.fn_law_take).kp (b_law_take T) (fun σ => L2N.passAt tk σ) (pa_cons (pv 1) (pa_cons (pe_callB call_lenP (by rfl) T.f_len PyProof.Rows.Boot.«len» (pa_cons (pv 5) pa_nil)) pa_nil))) (pg_name (i := 13) sc_law.nd rfl (Or.inl rfl)))) pss_nil)
      (pss_cut (ps_if (pt_cmpR (op_eqP hr.units) (pv 10) pe_int (nomark _)) (pss_one (Cl.ps_augO (i := 3) sc_law.nd rfl (Or.inl rfl) (pe_ix ix_P (pv 5) (pv 13) (fun _ _ => rfl)) (Cl.iop_own (E := (WE fun cls d _ H => E cls d H)) (.cons (Cl.alt_inp Hk.di_sub T.own_Book_isub (Cl.toR (ok_Book_isub T) (b_Book_isub T)) (hr.mono (by decide)) (fun σ => L2N.passAt tk σ)) .nil) Cl.iop_subP))) (pss_one (ps_if (pt_not (pt_val (pe_callS (ok_law_same T) (hr.mono (by decide)) rfl T.g_law_same (T.fn_law_same).kp (b_law_same T) (fun σ => L2N.passAt tk σ) (pa_cons (Cl.pe_att (.cons (Cl.alt_fld T.cls_Clause T.no_Clause_literals) .nil) (Cl.pe_methO (E := (WE fun cls d _ H => E cls d H)) (.cons (Cl.ownM_of T.cls_Book T.own_Book_drop T.fn_Book_drop (Cl.toR (ok_Book_drop T) (b_Book_drop T)) (hr.mono (by decide)) (fun σ => L2N.passAt tk σ)) .nil) (pv 3) (pa_cons (pe_ix ix_P (pv 5) (pv 13) (fun _ _ => rfl)) pa_nil))) (pa_cons (pe_callTy call_tupleP (by rfl) T.f_tuple PyProof.Rows.Boot.«tuple» (pa_cons (pe_callS (ok_law_ordered T) (hr.mono (by decide)) rfl T.g_law_ordered (T.fn_law_ordered).kp (b_law_ordered T) (fun σ => L2N.passAt tk σ) (pa_cons (pe_ix ix_P (pv 6) (pv 13) (fun _ _ => rfl)) pa_nil)) pa_nil)) pa_nil))))) (pss_one (ps_ret pe_bl)) pss_nil)))
      (pss_cons (ps_expr (pe_bm PySem.F.plainAttrs_list PySem.F.slot_list_append PySem.F.type_list_append mt_append (pv 7) (pa_cons (pe_bm PySem.F.plainAttrs_list PySem.F.slot_list_pop PySem.F.type_list_pop mt_popAt (pv 5) (pa_cons (pv 13) pa_nil)) pa_nil)))
      (pss_one (ps_expr (pe_bm PySem.F.plainAttrs_list PySem.F.slot_list_pop PySem.F.type_list_pop mt_popAt (pv 6) (pa_cons (pv 13) pa_nil)))))))))
      (pss_cut (ps_if (PW.pt (pw_or (pt_not (pt_val (pe_callS (ok_law_state T) (hr.mono (by decide)) rfl T.g_law_state (T.fn_law_state).kp (b_law_state T) (fun σ => L2N.passAt tk σ) (pa_cons (pv 3) (pa_cons (pv 5) (pa_cons (pv 6) (pa_cons (pv 8) pa_nil))))))) (pw_or1 (pt_not (pt_val (pe_callS (ok_law_state T) (hr.mono (by decide)) rfl T.g_law_state (T.fn_law_state).kp (b_law_state T) (fun σ => L2N.passAt tk σ) (pa_cons (pv 4) (pa_cons (pv 5) (pa_cons (pv 6) (pa_cons (pv 8) pa_nil)))))))))) (pss_one (ps_ret pe_bl)) pss_nil)
      (pss_cut (ps_for (passes_of rfl) rfl (pi_anyP (pe_lst (pa_cons (pv 8) (pa_cons (pe_ix ix_P (pv 7) (pe_op op_modP (pe_callTy call_intP (by rfl) T.f_int PyProof.Rows.Boot.«int» (pa_cons (pv 9) pa_nil)) (pe_callB call_lenP (by rfl) T.f_len PyProof.Rows.Boot.«len» (pa_cons (pv 7) pa_nil))) (fun _ _ => rfl)) (pa_cons (pe_ix ix_P (pv 7) (pe_op op_subP (pe_callB call_lenP (by rfl) T.f_len PyProof.Rows.Boot.«len» (pa_cons (pv 7) pa_nil)) pe_int) (fun _ _ => rfl)) pa_nil))))) (pg_name (i := 11) sc_law.nd rfl (Or.inl rfl)) (pss_one (ps_if (pt_not (pt_val (pe_callS (ok_law_absent T) (hr.mono (by decide)) rfl T.g_law_absent (T.fn_law_absent).kp (b_law_absent T) (fun σ => L2N.passAt tk σ) (pa_cons (pv 3) (pa_cons (pv 11) (pa_cons (pe_op op_modP (pe_callTy call_intP (by rfl) T.f_int PyProof.Rows.Boot.«int» (pa_cons (pv 9) pa_nil)) pe_int) pa_nil)))))) (pss_one (ps_ret pe_bl)) pss_nil)))
      (pss_one (ps_if (pt_not (pt_val (pe_callS (ok_law_state T) (hr.mono (by decide)) rfl T.g_law_state (T.fn_law_state).kp (b_law_state T) (fun σ => L2N.passAt tk σ) (pa_cons (pv 4) (pa_cons (pv 5) (pa_cons (pv 6) (pa_cons (pv 8) pa_nil))))))) (pss_one (ps_ret pe_bl)) pss_nil)))))))
      (pss_one (ps_ret pe_bl)))))))))))
end
end Ok
open PySem PySem.W PySem.Calls PyProof.Rows
set_option maxRecDepth 100000 in
set_option maxHeartbeats 0 in
theorem PySem.Challenge.cw_renamedhorn_k14_book_numbers_holds : PySem.Challenge.rw_renamedhorn_k14_book_numbers.Holds := by
  w_on; o_law
  o_head Hd.hk
  case hw => w_witness2
  case hc =>
    refine Hk.walk_ofEB (l := PySem.Challenge.rw_renamedhorn_k14_book_numbers) (n := 63) (k := 18) (x := "_law_script") (CX := L2N.CX PySem.Challenge.pw_renamedhorn_k14_book_numbers) rfl (by decide) rfl ⟨rfl, by decide, by decide⟩ ?F (fun w H s e s' z => ?X)
    case X =>
      obtain ⟨_, _, _, _, _, _, _, _, _, _, _, _, z⟩ := z
      exact z
    case F =>
      intro w mg fa h Y G hmg
      obtain ⟨K, KX, c⟩ := Y
      have hmg : mg ("law" : PySem.Str) = some (.ref fa) := hmg
      have T : Ok.Tx w K mg := ⟨c, h, KX, G⟩
      have e := hmg.symm.trans T.g_law
      cases e
      have b := L2.FunD.bindsA (ps := ["_law_script"]) T.fn_law fun _ _ _ _ _ _ us hl => match us, hl with | [_], _ => rfl
      exact ⟨K, Hk.fdOf K (He.ga K "law"), Rd.sp_law K, KX, fun s v => b s [v] rfl, fun H a ns hl _ _ hS => ⟨_, rfl, a, ns, rfl, hS, by omega, fun _ => rfl⟩, fun base _ _ => Ok.ok_law T⟩
