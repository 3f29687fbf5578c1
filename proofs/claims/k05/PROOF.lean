import PyProof.Rows.All
import Wide.All
import OpenK.AllK
import Wide.FinOn
import PyProof.EqAt
import PyProof.EqKinds
import PyProof.TupleCall
import KE.KStateDown
import KE.KExcSuper
import HandS.ForMost
import HandS.ForExc
import HandS.HeadWalk
import HandS.Defaults
import HandS.ExcIs
import HandS.ExcCtx
import HandS.HotCalls
import HandS.ExcInitHot
import HandS.IsInst
import KE.KExcIs
import HandS.EndBits
import HandS.Head0
import HandS.Head1
import HandS.Head2
import HandS.HeadEnd
import HandS.HeadHook1
import HandS.HeadHook2
import HandS.HeadHook3
import HandS.HeadNt
import HandS.Wide
import HandS.Flow
import HandS.StrMore
import HandS.Conv
import HandS.TupAny
import HandS.RaiseMore
import HandS.TupLe
import HandS.Star
import HandS.Property
import HandS.ClsMeth
import HandS.Style
import HandS.ExcOwn
import HandS.Iter
import HandS.Dict
import HandS.More
import HandS.IterVal
import HandS.OwnIter
import KE.KOwnIter
import KE.KCallOwn
import HandS.Gcd
import HandS.FStr
import HandS.Head3
import KE.KOpsOwn
import PySem.Challenge.RW_renamedhorn_k05_whole_share_order
set_option Elab.async false
set_option linter.all false
set_option maxRecDepth 100000
set_option maxHeartbeats 4000000
/-! own errors whose __init__ says super().__init__('..') and keeps one argument in a field, or none -/
namespace PySem
namespace ErrX
open PySem.W PySem.Calls PyProof.Rows PySem.HandSPX
theorem one_size (v : Value) : [v].length ≤ sizeLine := by
  rw [sizeLine_eq]
  exact (by decide : 1 ≤ 16777216)
theorem nil_size : ([] : List Value).length ≤ sizeLine := by
  rw [sizeLine_eq]
  exact (by decide : 0 ≤ 16777216)
/-- the first statement of such an __init__ -/
def supS (msg : Str) (a1 a2 a3 a4 a5 a6 : Pos) : Stmt := .Expr (.Call (.Attribute (.Call (.Name "super" a1) [] [] a2) "__init__" a3) [.Constant (.str msg) 0 a4] [] a5) a6
def fldS (f : Str) (b1 b2 b3 b4 : Pos) : Stmt := .Assign [.Attribute (.Name "self" b1) f b2] (.Name f b3) b4
/-- what the written part says of the class at C and of its __init__ at fI -/
structure ErrC (prog : Program) (K : Frag) (C fI : Addr) (body : List Stmt) (scope : Scope) (params : Arguments) : Prop where
  cls : ∃ nm q N bs bm sn sub ab col dd k0 k1 k2 k3 k5, K.lookup C = some (excClassObj nm q C N bs bm true sn sub ab col dd k0 k1 k2 k3 k5 "ValueError.__new__") ∧ refsVE bm = true
  sa : findIn K (.ref C) "__setattr__" = some (some (.builtin "object.__setattr__"))
  ga : findIn K (.ref C) "__getattribute__" = some (some (.builtin "BaseException.__getattribute__"))
  gg : findIn K (.ref C) "__getattr__" = some none
  iC : findIn K (.ref C) "__init__" = some (some (.ref fI))
  tC : typeIn K (.ref fI) = some (.type "function")
  kC : keepIn K (.ref C) = true
  exC : subIn K (.ref C) (.type "BaseException") = some true
  veC : subIn K (.ref C) (.type "ValueError") = some true
  tyC : typeIn K (.ref C) = some (.type "type")
  hdC : hasDictIn K C = true
  mroC : mroIn K C (.ref C) = some true
  supC : ks_superIn K C C "__init__" = some (some (.builtin "ValueError.__init__"))
  opq : nsIn K cStatics "thirdparty.any" = some none
  supG : nsIn K mainGlobals "super" = some none
  fn : ∃ (oc : Value) (od : Option Addr) (nm qual : Str) (kV doc pm : Value) (an : Option Addr) (cda cc : Addr) (ct : Value) (osl : Array (Option Value)) (ccl : Value) (cdd : Option Addr) (vs : Array Value) (ccs : Array (Option Value)) (file : Str) (tf : Tok) (cl : Value) (cld : Option Addr) (csl : Array (Option Value)),
    K.lookup fI = some ⟨oc, od, .func (ksFn nm qual params body scope .none kV doc pm an (.ref cda) ct cc), osl⟩ ∧ codeIn K (.ref cda) qual = true ∧
    K.lookup cda = some ⟨ccl, cdd, .fields vs, ccs⟩ ∧ vs[2]? = some (.str file tf) ∧ ((prog.main.file : Str) == file) = true ∧ K.lookup cc = some ⟨cl, cld, .cell (some (.ref C)), csl⟩
  ar : ∃ pp, (params.posonlyargs ++ params.args).head? = some ⟨"self", none, pp⟩
  hks : scope.names.lookup ("super" : Str) = some .globalImplicit
  hkc : scope.names.lookup ("__class__" : Str) = some .free
  hka : scope.names.lookup ("self" : Str) = some .local
  hk : scope.kind = .function
  hco : scope.isCoroutine = false
  hgen : scope.isGenerator = false
  hcell : ∀ x ∈ scope.names, x.2 ≠ .cell
  htop : (prog.main.scope.names.lookup ("super" : Str)).isSome = false
section
variable {prog : Program} {w : World} {M : Model} {A : Around} {E : Value → Shared → Prop} {h : Heap} {g : Array GenState} {d : Drawn} {t : Nat} {os : OsState}
variable {nm q : Str} {C N : Addr} {bs bm : List Value} {hdct : Bool} {sn : List Str} {sub : List Value} {ab : Bool} {col : Option Bool} {dd : Option Addr} {k0 k1 k2 k3 k5 : Option Value}
theorem call_vw {u e t0 : Addr} {rest : List Value} {Q : Value → Shared → Prop}
    (hC : h.get? C = some (excClassObj nm q C N bs bm hdct sn sub ab col dd k0 k1 k2 k3 k5 "ValueError.__new__")) (he : h.get? e = some (excO C t0)) (hu : h.get? u = some (kxs_mw "ValueError.__init__" e)) (hrest : rest.length ≤ sizeLine)
    (hq : ∀ h' t1, (∀ b o, b ≠ e → h.get? b = some o → h'.get? b = some o) → h'.get? e = some (excO C t1) → Q .none ⟨h', g, d, t, os⟩) :
    wpAny (model prog w) A (call (.ref u) rest) Q E ⟨h, g, d, t, os⟩ := by
  refine wpAny_call (codeAny_of_tree ?_)
  show wpAny _ A.in1 (callAny (.ref u) ⟨rest, []⟩) _ _ _
  simp only [callAny]
  refine wpAny_bind (wpAny_load hu ?_)
  simp only [kxs_mw, show (Value.type "method-wrapper" == Value.type "method" || Value.type "method-wrapper" == Value.type "builtin_function_or_method" || Value.type "method-wrapper" == Value.type "method-wrapper") = true by decide, if_true]
  refine W.KFB.if_so (by decide) ?_
  refine wpAny_bind (check_bound_init F.excBase_ValueError.toExcCallFacts hC he rfl ?_)
  refine wpAny_bind (wpAny_pure (wpAny_pure ?_))
  refine ⟨plainId_quiet F.excBase_ValueError.init.plain _, codeAny_builtin F.excBase_ValueError.initEntry ?_⟩
  rw [Around.under_plainId F.excBase_ValueError.init.plain _]
  wp_walk
  refine hq _ h.objs.size (fun b o hb ho => ?_) ?_
  · rw [Heap.get?_update_other _ _ (Ne.symm hb)]
    exact Heap.get?_push_of_some _ ho
  · rw [Heap.get?_update_self _ (Heap.get?_push_of_some _ he) rfl]
    rfl
end
section
variable {prog : Program} {w : World} {A : Around} {E : Value → Shared → Prop} {s : Shared} {K : Frag} {mg : Str → Option Value} {C fI : Addr} {body : List Stmt} {scope : Scope} {params : Arguments}
/-- super().__init__('..') in such an __init__ -/
theorem sup_stmt (T : ErrC prog K C fI body scope params) {L x t0 : Addr} {m : Str → Option Value} {msg : Str} {a1 a2 a3 a4 a5 a6 : Pos} {Q : Flow → Shared → Prop}
    {oc : Value} {od : Option Addr} {nm qual : Str} {kV doc pm : Value} {an : Option Addr} {cda cc : Addr} {ct : Value} {osl : Array (Option Value)} {ccl : Value} {cdd : Option Addr} {vs : Array Value} {ccs : Array (Option Value)} {file : Str} {tf : Tok} {cl : Value} {cld : Option Addr} {csl : Array (Option Value)}
    (hf : K.lookup fI = some ⟨oc, od, .func (ksFn nm qual params body scope .none kV doc pm an (.ref cda) ct cc), osl⟩)
    (hcode : K.lookup cda = some ⟨ccl, cdd, .fields vs, ccs⟩) (hvs : vs[2]? = some (.str file tf)) (hfile : ((prog.main.file : Str) == file) = true) (hcell : K.lookup cc = some ⟨cl, cld, .cell (some (.ref C)), csl⟩)
    (X : K.In s.heap) (hG : s.heap.Ns mainGlobals mg) (hB : ∃ mb, s.heap.Ns builtinsNs mb ∧ ∀ x : Str, x ≠ "__name__" → mb x = bootBuiltins x)
    (hline : (a3.endLine == a5.line) = true) (hn : s.heap.Ns L m) (hv : m "self" = some (.ref x)) (hx : s.heap.get? x = some (excO C t0)) (hnx : K.lookup x = none)
    (hq : ∀ h' tk t1, (∀ b o, b ≠ x → s.heap.get? b = some o → h'.get? b = some o) → h'.get? x = some (excO C t1) → Q .next { s with heap := h', toks := tk }) :
    _root_.PySem.wpAt (model prog w) A (.func body (ksEnv qual scope L fI (.ref cda) cc)) (exec (supS msg a1 a2 a3 a4 a5 a6) (ksEnv qual scope L fI (.ref cda) cc)) Q E s := by
  obtain ⟨cnm, cq, N, bs, bm, sn, sub, ab, col, dd, k0, k1, k2, k3, k5, hC, hbm⟩ := T.cls
  obtain ⟨pp, har⟩ := T.ar
  obtain ⟨mb, hb1, hb2⟩ := hB
  have hD : clsIn K C = some { name := cnm, bases := bs, mro := .ref C :: bm, ns := N, qualname := cq, hasDict := true, slotNames := sn, subclasses := sub, abstract := ab, collection := col, hasDel := false } := by unfold clsIn; rw [hC] <;> rfl
  have hxC : x ≠ C := fun z => by rw [z, hC] at hnx; cases hnx
  obtain ⟨hh, g, d, t, os⟩ := s
  refine ks_wpAt_Expr_any (ks_wpAt_MethodCall (pl := L2.plainOf (.Call (.Name "super" a1) [] [] a2) (ksEnv qual scope L fI (.ref cda) cc)) ?_ (by
      show (do
        let ov ← attributeBase (.Call (.Name "super" a1) [] [] a2) "__init__" (ksEnv qual scope L fI (.ref cda) cc) (eval (.Call (.Name "super" a1) [] [] a2) (ksEnv qual scope L fI (.ref cda) cc))
        standAt a3.atName
        methodCall (.Call (.Name "super" a1) [] [] a2) "__init__" a3 a5 (ksEnv qual scope L fI (.ref cda) cc) ov 1 (backTo a5 (starEach [.Constant (.str msg) 0 a4] (ksEnv qual scope L fI (.ref cda) cc))) []) = _
      simp only [L2.mcall_line (n := 1) (args := backTo a5 (starEach [.Constant (.str msg) 0 a4] (ksEnv qual scope L fI (.ref cda) cc))) (kws := []) rfl hline])) (by simp [interactive, T.hk])
  refine ks_wpAt_super_base (env := ksEnv qual scope L fI (.ref cda) cc) T.hks T.hkc (by decide) rfl (X _ _ hf) rfl har rfl (X _ _ hcode) rfl hvs hfile T.htop ?_
  refine ks_loadName_global T.hk T.hks (loadGlobal_builtin (env := ksEnv qual scope L fI (.ref cda) cc) hG (mg_none_of X hG T.supG) hb1 ((hb2 _ (by decide +kernel)).trans PyProof.Rows.Boot.«super») ⟨rfl, ?_⟩)
  refine wpAny_loadName_free T.hk T.hkc rfl ⟨_, X _ _ hcell, rfl⟩ ?_
  refine wpAny_loadName_local T.hk T.hka hn hv ?_
  refine ks_wpAny_isType_cls (X _ _ hC) rfl ⟨rfl, ?_⟩
  refine ks_wpAny_call_super (X _ _ hC) rfl hx rfl (fun c e => by cases e) (looks_mroIn X T.mroC) (fun h1 e1 up1 => ?_)
  have hx1 := up1 _ _ hx
  have X1 : K.In h1 := X.keeps up1
  have I1 : InstAt h1 x (excO C t0) C none := ⟨hx1, rfl, rfl, trivial⟩
  have hI : Looks (model prog w) h1 (isInstance (.ref x) (.type "ValueError")) true := I1.type.andThen (looks_subIn X1 T.veC)
  have hsup := T.supC
  unfold ks_superIn at hsup
  rw [hD] at hsup
  refine kxs_getMethod kxs_ValueError e1 (looks_opaque X1 T.opq) (l₀ := .ref C :: bm) (fun A Q E s k q => wpAny_bind ((looks_clsIn X1 hD) A _ E s k (wpAny_pure q))) rfl X1 hsup hI hxC (by decide) ?_
  have up2 : ∀ b o, h1.get? b = some o → (h1.push (kxs_mw "ValueError.__init__" x)).get? b = some o := fun b o e => Heap.get?_push_of_some _ e
  have hu2 : (h1.push (kxs_mw "ValueError.__init__" x)).get? h1.objs.size = some (kxs_mw "ValueError.__init__" x) := Heap.get?_push_at rfl rfl
  refine kxs_callWith (u := h1.objs.size) (i := "ValueError.__init__") (x := x) rfl (evalArgs_plain ?_)
  refine Calls.spliced_cons (x := eval (.Constant (.str msg) 0 a4) (ksEnv qual scope L fI (.ref cda) cc)) (Calls.Constant_str (k := 0) (pos := a4) (Calls.spliced_nil ?_))
  refine ⟨hu2, ?_⟩
  refine call_vw ((X1.keeps up2) _ _ hC) (up2 _ _ hx1) hu2 (one_size _) (fun h3 t1 k3 hx3 => ?_)
  exact hq h3 _ t1 (fun b o hb e => k3 b o hb (up2 _ _ (up1 _ _ e))) hx3
end
section
variable {prog : Program} {w : World} {A : Around} {E : Value → Shared → Prop} {R : Result → Shared → Prop} {s : Shared} {K : Frag} {mg : Str → Option Value} {C fI : Addr} {body : List Stmt} {scope : Scope} {params : Arguments}
/-- what __init__ leaves of a fresh exception at x: with a field; without -/
structure InitEnd (h h' : Heap) (x C dx : Addr) (f : Str) (v : Value) : Prop where
  keep : ∀ b o, b ≠ x → h.get? b = some o → h'.get? b = some o
  obj : ∃ t1 : Addr, h'.get? x = some { cls := .ref C, dict := some dx, data := .fields #[.ref t1, .none, .none, .none, .bool false, .none] }
  dbig : h.objs.size ≤ dx
  dne : dx ≠ x
  ns : h'.Ns1 dx (fun y => if y = f then some v else none)
structure InitEnd0 (h h' : Heap) (x C : Addr) : Prop where
  keep : ∀ b o, b ≠ x → h.get? b = some o → h'.get? b = some o
  obj : ∃ t1 : Addr, h'.get? x = some (excO C t1)
theorem init1 {f msg : Str} {a1 a2 a3 a4 a5 a6 b1 b2 b3 b4 : Pos} (T : ErrC prog K C fI [supS msg a1 a2 a3 a4 a5 a6, fldS f b1 b2 b3 b4] scope params) (hline : (a3.endLine == a5.line) = true)
    (hbind : ∀ (nm qual : Str) (kV doc pm : Value) (an : Option Addr) (cdv ct : Value) (cc : Addr) (x y : Value), bindArgs (ksFn nm qual params [supS msg a1 a2 a3 a4 a5 a6, fldS f b1 b2 b3 b4] scope .none kV doc pm an cdv ct cc) ⟨[x, y], []⟩ = pure [((("self" : Str)), x), (f, y)])
    (hkf : scope.names.lookup f = some .local) (hne : (("self" : Str) == f) = false) (hdf : (f == ("__debug__" : Str)) = false) (noN : findIn K (.ref C) f = some none)
    {x t0 : Addr} {v : Value} (X : K.In s.heap) (hlim : s.heap.NoLimit) (hG : s.heap.Ns mainGlobals mg) (hB : ∃ mb, s.heap.Ns builtinsNs mb ∧ ∀ x : Str, x ≠ "__name__" → mb x = bootBuiltins x)
    (hx : s.heap.get? x = some (excO C t0)) (hnx : K.lookup x = none) (hroom : A.depth < recursionLimit)
    (hq : ∀ h' tk dx, InitEnd s.heap h' x C dx f v → R (.ok (.ret .none)) { s with heap := h', toks := tk }) :
    codeAny (model prog w) A (.call (.ref fI) ⟨[.ref x, v], []⟩) R s := by
  obtain ⟨oc, od, nm, qual, kV, doc, pm, an, cda, cc, ct, osl, ccl, cdd, vs, ccs, file, tf, cl, cld, csl, hf, hcd, hcode, hvs, hfile, hcell⟩ := T.fn
  obtain ⟨cnm, cq, N, bs, bm, sn, sub, ab, col, dd, k0, k1, k2, k3, k5, hC, hbm⟩ := T.cls
  have hcl : clsIn K C = some { name := cnm, bases := bs, mro := .ref C :: bm, ns := N, qualname := cq, hasDict := true, slotNames := sn, subclasses := sub, abstract := ab, collection := col, hasDel := false } := by unfold clsIn; rw [hC] <;> rfl
  refine ks_codeAny_call_defAt (fd := ksFn nm qual params [supS msg a1 a2 a3 a4 a5 a6, fldS f b1 b2 b3 b4] scope .none kV doc pm an (.ref cda) ct cc) (body := [supS msg a1 a2 a3 a4 a5 a6, fldS f b1 b2 b3 b4]) (binds := [("self", .ref x), (f, v)]) hroom (X _ _ hf) rfl hlim (codeRec_of X hcd) rfl (BindsTo.of_eq (hbind _ _ _ _ _ _ _ _ _ _ _)) T.hcell ?_ (fun h1 hns hk1 => ?_) T.hco T.hgen T.hk
  · intro y hy
    rcases List.mem_cons.mp hy with rfl | hy
    · exact T.hka
    rcases List.mem_cons.mp hy with rfl | hy
    · exact hkf
    · cases hy
  · have hx1 := hk1 _ _ hx
    have X1 : K.In h1 := X.keeps hk1
    obtain ⟨mb, hb1, hb2⟩ := hB
    have lkf : ([(("self" : Str), Value.ref x), (f, v)] : List (Str × Value)).reverse.lookup f = some v := by simp [List.lookup]
    have lks : ([(("self" : Str), Value.ref x), (f, v)] : List (Str × Value)).reverse.lookup ("self" : Str) = some (.ref x) := by
      show (match (("self" : Str) == f) with | true => some v | false => List.lookup ("self" : Str) [(("self" : Str), Value.ref x)]) = _
      rw [hne]
      simp [List.lookup]
    refine ks_wpAt_execs_cons (sup_stmt (s := { s with heap := h1, toks := s.toks + 2 }) T hf hcode hvs hfile hcell X1 (hG.keeps hk1) ⟨mb, hb1.keeps hk1, hb2⟩ hline hns lks hx1 hnx (fun h2 tk2 t1 k2 hx2 => ?_))
    have X2 : K.In h2 := fun a o e => k2 a o (fun z => by rw [z, hnx] at e; cases e) (X1 a o e)
    have hxL : s.heap.objs.size ≠ x := Nat.ne_of_gt (Heap.lt_size hx)
    obtain ⟨oL, esL, epL, hoL, rL⟩ := id hns
    have hns2 : h2.Ns s.heap.objs.size (fun y => ([(("self" : Str), Value.ref x), (f, v)] : List (Str × Value)).reverse.lookup y) := ⟨oL, esL, epL, k2 _ _ hxL hoL, rL⟩
    refine wpAt_of_wpAny ?_
    refine wpAny_execs_cons (plainObj_wpAny_Assign_Attribute ?_)
    refine wpAny_Name (wpAny_loadName_local T.hk hkf hns2 lkf ?_) hdf
    refine wpAny_Name (wpAny_loadName_local T.hk T.hka hns2 lks ?_) (by decide)
    refine set_plain X2 (ox := excO C t1) (od := none) ⟨hx2, rfl, rfl, trivial⟩ T.sa ?_
    refine exc_osa X2 hx2 hcl (show refsVE (.ref C :: bm) = true from hbm) rfl noN (fun h3 tk3 dx k3 dn dne hx3 hn3 => ?_)
    have z : s.heap.objs.size < h2.objs.size := hns2.lt
    exact wpAny_execs_nil (hq h3 tk3 dx ⟨fun b o hb e => k3 b o hb (k2 b o hb (hk1 b o e)), ⟨t1, hx3⟩, Nat.le_of_lt (Nat.lt_of_lt_of_le z dn), dne, hn3⟩)
theorem init0 {msg : Str} {a1 a2 a3 a4 a5 a6 : Pos} (T : ErrC prog K C fI [supS msg a1 a2 a3 a4 a5 a6] scope params) (hline : (a3.endLine == a5.line) = true)
    (hbind : ∀ (nm qual : Str) (kV doc pm : Value) (an : Option Addr) (cdv ct : Value) (cc : Addr) (x : Value), bindArgs (ksFn nm qual params [supS msg a1 a2 a3 a4 a5 a6] scope .none kV doc pm an cdv ct cc) ⟨[x], []⟩ = pure [((("self" : Str)), x)])
    {x t0 : Addr} (X : K.In s.heap) (hlim : s.heap.NoLimit) (hG : s.heap.Ns mainGlobals mg) (hB : ∃ mb, s.heap.Ns builtinsNs mb ∧ ∀ x : Str, x ≠ "__name__" → mb x = bootBuiltins x)
    (hx : s.heap.get? x = some (excO C t0)) (hnx : K.lookup x = none) (hroom : A.depth < recursionLimit)
    (hq : ∀ h' tk, InitEnd0 s.heap h' x C → R (.ok (.ret .none)) { s with heap := h', toks := tk }) :
    codeAny (model prog w) A (.call (.ref fI) ⟨[.ref x], []⟩) R s := by
  obtain ⟨oc, od, nm, qual, kV, doc, pm, an, cda, cc, ct, osl, ccl, cdd, vs, ccs, file, tf, cl, cld, csl, hf, hcd, hcode, hvs, hfile, hcell⟩ := T.fn
  refine ks_codeAny_call_defAt (fd := ksFn nm qual params [supS msg a1 a2 a3 a4 a5 a6] scope .none kV doc pm an (.ref cda) ct cc) (body := [supS msg a1 a2 a3 a4 a5 a6]) (binds := [("self", .ref x)]) hroom (X _ _ hf) rfl hlim (codeRec_of X hcd) rfl (BindsTo.of_eq (hbind _ _ _ _ _ _ _ _ _ _)) T.hcell ?_ (fun h1 hns hk1 => ?_) T.hco T.hgen T.hk
  · intro y hy
    rcases List.mem_cons.mp hy with rfl | hy
    · exact T.hka
    · cases hy
  · have hx1 := hk1 _ _ hx
    have X1 : K.In h1 := X.keeps hk1
    obtain ⟨mb, hb1, hb2⟩ := hB
    refine ks_wpAt_execs_cons (sup_stmt (s := { s with heap := h1, toks := s.toks + 1 }) T hf hcode hvs hfile hcell X1 (hG.keeps hk1) ⟨mb, hb1.keeps hk1, hb2⟩ hline hns (by simp [List.lookup]) hx1 hnx (fun h2 tk2 t1 k2 hx2 => ?_))
    refine wpAt_of_wpAny ?_
    exact wpAny_execs_nil (hq h2 tk2 ⟨fun b o hb e => k2 b o hb (hk1 b o e), ⟨t1, hx2⟩⟩)
/-- a made error with a field; without -/
structure OwnMade (h h' : Heap) (e C d : Addr) (f : Str) (v : Value) : Prop where
  keep : ∀ b o, h.get? b = some o → h'.get? b = some o
  new : h.objs.size ≤ e
  obj : ∃ oe vs, h'.get? e = some oe ∧ oe.cls = .ref C ∧ oe.dict = some d ∧ oe.data = .fields vs ∧ vs[1]? = some .none ∧ vs[2]? = some .none
  dbig : h.objs.size ≤ d
  dne : d ≠ e
  ns : h'.Ns1 d (fun y => if y = f then some v else none)
structure OwnMade0 (h h' : Heap) (e C : Addr) : Prop where
  keep : ∀ b o, h.get? b = some o → h'.get? b = some o
  new : h.objs.size ≤ e
  obj : ∃ oe vs, h'.get? e = some oe ∧ oe.cls = .ref C ∧ oe.dict = none ∧ oe.data = .fields vs ∧ vs[1]? = some .none ∧ vs[2]? = some .none
theorem made1 {f msg : Str} {a1 a2 a3 a4 a5 a6 b1 b2 b3 b4 : Pos} (T : ErrC prog K C fI [supS msg a1 a2 a3 a4 a5 a6, fldS f b1 b2 b3 b4] scope params) (hline : (a3.endLine == a5.line) = true)
    (hbind : ∀ (nm qual : Str) (kV doc pm : Value) (an : Option Addr) (cdv ct : Value) (cc : Addr) (x y : Value), bindArgs (ksFn nm qual params [supS msg a1 a2 a3 a4 a5 a6, fldS f b1 b2 b3 b4] scope .none kV doc pm an cdv ct cc) ⟨[x, y], []⟩ = pure [((("self" : Str)), x), (f, y)])
    (hkf : scope.names.lookup f = some .local) (hne : (("self" : Str) == f) = false) (hdf : (f == ("__debug__" : Str)) = false) (noN : findIn K (.ref C) f = some none)
    {v : Value} (X : K.In s.heap) (hlim : s.heap.NoLimit) (hG : s.heap.Ns mainGlobals mg) (hB : ∃ mb, s.heap.Ns builtinsNs mb ∧ ∀ x : Str, x ≠ "__name__" → mb x = bootBuiltins x) (hroom : A.depth + 1 < recursionLimit)
    (hq : ∀ h' tk e d, OwnMade s.heap h' e C d f v → R (.ok (.ret (.ref e))) { s with heap := h', toks := tk }) :
    codeAny (model prog w) A (.call (.ref C) ⟨[v], []⟩) R s := by
  obtain ⟨nm, q, N, bs, bm, sn, sub, ab, col, dd, k0, k1, k2, k3, k5, hC, hbm⟩ := T.cls
  obtain ⟨mb, hb1, hb2⟩ := hB
  obtain ⟨hp, g, dr, tk, os⟩ := s
  have k : ∀ b o, hp.get? b = some o → ((hp.push (kdv_tup [v])).push (excO C hp.objs.size)).get? b = some o := fun b o e => Heap.get?_push_of_some _ (Heap.get?_push_of_some _ e)
  have hget : ((hp.push (kdv_tup [v])).push (excO C hp.objs.size)).get? (hp.objs.size + 1) = some (excO C hp.objs.size) := by heap_get
  have hnx : K.lookup (hp.objs.size + 1) = none := by
    cases e : K.lookup (hp.objs.size + 1) with
    | none => rfl
    | some o =>
      have z : hp.get? (hp.objs.size + 1) = some o := X _ _ e
      exact absurd (Nat.lt_of_succ_lt (Heap.lt_size z)) (Nat.lt_irrefl _)
  refine call_own F.excBase_ValueError (fun X => refsVE_contains X bm hbm) (X _ _ hC) (looks_findIn X T.iC) (fun self => bind_fn X self T.tC) (one_size v) ?_
  refine init1 (s := ⟨(hp.push (kdv_tup [v])).push (excO C hp.objs.size), g, dr, tk, os⟩) T hline hbind hkf hne hdf noN (X.keeps k) (hlim.keeps k) (hG.keeps k) ⟨mb, hb1.keeps k, hb2⟩ hget hnx ?_ fun h' tk' dx ⟨k', ⟨t1, hx⟩, dn, dne, hns⟩ => ?_
  · show A.depth + 1 < recursionLimit
    exact hroom
  · have old : ∀ b o, hp.get? b = some o → h'.get? b = some o := fun b o e => k' b o (Nat.ne_of_lt (Nat.lt_succ_of_lt (Heap.lt_size e))) (k b o e)
    have z : hp.objs.size + 1 + 1 ≤ dx := by
      first
        | (simpa only [Heap.size_push] using dn)
        | exact dn
        | (have q := dn; rw [Heap.size_push, Heap.size_push] at q; exact q)
    exact ⟨rfl, hq h' tk' (hp.objs.size + 1) dx ⟨old, Nat.le_succ _, ⟨_, _, hx, rfl, rfl, rfl, rfl, rfl⟩, Nat.le_trans (Nat.le_trans (Nat.le_succ _) (Nat.le_succ _)) z, dne, hns⟩⟩
theorem made0 {msg : Str} {a1 a2 a3 a4 a5 a6 : Pos} (T : ErrC prog K C fI [supS msg a1 a2 a3 a4 a5 a6] scope params) (hline : (a3.endLine == a5.line) = true)
    (hbind : ∀ (nm qual : Str) (kV doc pm : Value) (an : Option Addr) (cdv ct : Value) (cc : Addr) (x : Value), bindArgs (ksFn nm qual params [supS msg a1 a2 a3 a4 a5 a6] scope .none kV doc pm an cdv ct cc) ⟨[x], []⟩ = pure [((("self" : Str)), x)])
    (X : K.In s.heap) (hlim : s.heap.NoLimit) (hG : s.heap.Ns mainGlobals mg) (hB : ∃ mb, s.heap.Ns builtinsNs mb ∧ ∀ x : Str, x ≠ "__name__" → mb x = bootBuiltins x) (hroom : A.depth + 1 < recursionLimit)
    (hq : ∀ h' tk e, OwnMade0 s.heap h' e C → R (.ok (.ret (.ref e))) { s with heap := h', toks := tk }) :
    codeAny (model prog w) A (.call (.ref C) ⟨[], []⟩) R s := by
  obtain ⟨nm, q, N, bs, bm, sn, sub, ab, col, dd, k0, k1, k2, k3, k5, hC, hbm⟩ := T.cls
  obtain ⟨mb, hb1, hb2⟩ := hB
  obtain ⟨hp, g, dr, tk, os⟩ := s
  have k : ∀ b o, hp.get? b = some o → ((hp.push (kdv_tup [])).push (excO C hp.objs.size)).get? b = some o := fun b o e => Heap.get?_push_of_some _ (Heap.get?_push_of_some _ e)
  have hget : ((hp.push (kdv_tup [])).push (excO C hp.objs.size)).get? (hp.objs.size + 1) = some (excO C hp.objs.size) := by heap_get
  have hnx : K.lookup (hp.objs.size + 1) = none := by
    cases e : K.lookup (hp.objs.size + 1) with
    | none => rfl
    | some o =>
      have z : hp.get? (hp.objs.size + 1) = some o := X _ _ e
      exact absurd (Nat.lt_of_succ_lt (Heap.lt_size z)) (Nat.lt_irrefl _)
  refine call_own F.excBase_ValueError (fun X => refsVE_contains X bm hbm) (X _ _ hC) (looks_findIn X T.iC) (fun self => bind_fn X self T.tC) nil_size ?_
  refine init0 (s := ⟨(hp.push (kdv_tup [])).push (excO C hp.objs.size), g, dr, tk, os⟩) T hline hbind (X.keeps k) (hlim.keeps k) (hG.keeps k) ⟨mb, hb1.keeps k, hb2⟩ hget hnx ?_ fun h' tk' ⟨k', ⟨t1, hx⟩⟩ => ?_
  · show A.depth + 1 < recursionLimit
    exact hroom
  · have old : ∀ b o, hp.get? b = some o → h'.get? b = some o := fun b o e => k' b o (Nat.ne_of_lt (Nat.lt_succ_of_lt (Heap.lt_size e))) (k b o e)
    exact ⟨rfl, hq h' tk' (hp.objs.size + 1) ⟨old, Nat.le_succ _, ⟨_, _, hx, rfl, rfl, rfl, rfl, rfl⟩⟩⟩
end
end ErrX
end PySem
namespace L2
open PySem PySem.Spec PyProof.Rows PySem.W
/-- an error class with one field, as the rules use it -/
structure Err1 (prog : Program) (w : World) (K : Frag) (mg : Str → Option Value) (nm f : Str) (C : Addr) : Prop where
  gC : mg nm = some (.ref C)
  kC : keepIn K (.ref C) = true
  exC : subIn K (.ref C) (.type "BaseException") = some true
  tyC : typeIn K (.ref C) = some (.type "type")
  hdC : hasDictIn K C = true
  ga : findIn K (.ref C) "__getattribute__" = some (some (.builtin "BaseException.__getattribute__"))
  gg : findIn K (.ref C) "__getattr__" = some none
  noN : findIn K (.ref C) f = some none
  made : ∀ {A : Around} {R : Result → Shared → Prop} {s : Shared} {v : Value}, K.In s.heap → s.heap.NoLimit → s.heap.Ns mainGlobals mg → (∃ mb, s.heap.Ns builtinsNs mb ∧ ∀ x : Str, x ≠ "__name__" → mb x = bootBuiltins x) → A.depth + 1 < recursionLimit →
    (∀ h' tk e d, PySem.ErrX.OwnMade s.heap h' e C d f v → R (.ok (.ret (.ref e))) { s with heap := h', toks := tk }) → codeAny (model prog w) A (.call (.ref C) ⟨[v], []⟩) R s
structure Err0 (prog : Program) (w : World) (K : Frag) (mg : Str → Option Value) (nm : Str) (C : Addr) : Prop where
  gC : mg nm = some (.ref C)
  kC : keepIn K (.ref C) = true
  exC : subIn K (.ref C) (.type "BaseException") = some true
  tyC : typeIn K (.ref C) = some (.type "type")
  made : ∀ {A : Around} {R : Result → Shared → Prop} {s : Shared}, K.In s.heap → s.heap.NoLimit → s.heap.Ns mainGlobals mg → (∃ mb, s.heap.Ns builtinsNs mb ∧ ∀ x : Str, x ≠ "__name__" → mb x = bootBuiltins x) → A.depth + 1 < recursionLimit →
    (∀ h' tk e, PySem.ErrX.OwnMade0 s.heap h' e C → R (.ok (.ret (.ref e))) { s with heap := h', toks := tk }) → codeAny (model prog w) A (.call (.ref C) ⟨[], []⟩) R s
theorem relO_one {v : V} {v' : Value} {n : Str} (r : RelV v v') (f : Str) : RelO (List.lookup f [(n, v)]) (if f = n then some v' else none) := by
  by_cases hw : f = n
  · subst hw
    rw [if_pos rfl]
    have q : List.lookup f [(f, v)] = some v := by simp [List.lookup]
    rw [q]
    exact r
  · rw [if_neg hw]
    have qw : (f == n) = false := by simpa using hw
    have q2 : List.lookup f [(n, v)] = none := by simp [List.lookup, qw]
    rw [q2]
    trivial
section
variable {X : Cx} {C : Addr} {nm f : Str}
theorem Inv.blt {pins : List (Addr × Obj)} {σ : St} {H : Hp} {s : Shared} (I : Inv X pins σ H s) : ∃ mb, s.heap.Ns builtinsNs mb ∧ ∀ x : Str, x ≠ "__name__" → mb x = bootBuiltins x := by
  obtain ⟨mb, h1, h2⟩ := I.mod.blt
  exact ⟨mb, h1.keeps I.bk, h2⟩
/-- nm(e) -/
def tMkE (C : Addr) (f : Str) (ta : TA) : St → Hp → XK → Prop := fun σ H Q => ta σ H fun vs H1 => ∃ v, vs = [v] ∧ ∀ d, H1 d = none → Q (.ref C) (some d) (upd H1 d (.xd [(f, v)]))
theorem pmk_err {a : Expr} {ta : TA} {p pos : Pos} {k : Nat} (T : Err1 X.prog X.w X.K X.mg nm f C) (hr : Room k X.A) (ha : PA X [a] ta) (hg : Gl X nm := by rfl) (hdb : (nm == ("__debug__" : Str)) = false := by decide)
    (he : starEach (a :: []) X.env = (false, eval a X.env) :: starEach [] X.env := by rfl) (hpl : (backTo pos (starEach [] X.env)).any (·.1) = false := by rfl) :
    L2N.PMk X (.Call (.Name nm p) [a] [] pos) (tMkE C f ta) := by
  intro pins s σ H Q I h
  refine wpAny_Call_Name_kw (ld_glob I hg T.gC ?_ hdb)
  refine PySem.W.callWith_K (h₀ := X.base) I.ok.mod.kin T.kC (thn (ha.run pos pins s σ H _ I h) fun us s1 hh => ?_) he hpl
  obtain ⟨vs, H1, I1, r1, v, ev, q1⟩ := hh
  subst ev
  refine ⟨I1.kIn, ?_⟩
  cases r1 with
  | cons rv rn =>
    rename_i v' us'
    cases rn
    show wpAny _ _ (call (.ref C) [v']) _ _ _
    have hlim := I1.nolimit
    have hG := I1.mod.glob.keeps I1.bk
    have hB := I1.blt
    obtain ⟨hp, g, dr, tk, os⟩ := s1
    refine wpAny_call (T.made I1.kIn hlim hG hB (by have := hr.dp; omega) fun h' tk' e d M => ?_)
    show L2N.MkP X pins σ Q (.ref e) ⟨h', g, dr, tk', os⟩
    obtain ⟨oe, fv, hoe, hc, hd, hdat, h1, h2⟩ := M.obj
    have hns := M.ns
    obtain ⟨G', g1, g2⟩ := restrict h' fun b => decide (b ≠ e)
    have gk : ∀ b, b ≠ e → G'.get? b = h'.get? b := fun b hb => g1 b (decide_eq_true hb)
    have ge : G'.get? e = none := g2 e (by simp)
    have old : ∀ b o, hp.get? b = some o → G'.get? b = some o := fun b o q => (gk b (Nat.ne_of_lt (Nat.lt_of_lt_of_le (Heap.lt_size q) M.new))).trans (M.keep b o q)
    have ob : ObjOk X.prog X.w (upd H1 d (.xd [(f, v)])) G' d (.xd [(f, v)]) :=
      ⟨_, hns.at (fun o q => (gk d M.dne).trans q), fun g => relO_one rv g⟩
    have J : Inv X pins σ (upd H1 d (.xd [(f, v)])) ⟨G', g, dr, tk', os⟩ := I1.laid (t' := tk') old M.dbig ob
    refine ⟨e, oe, fv, ⟨G', g, dr, tk', os⟩, _, .ref C, some d, rfl, J, fun b o q => ?_, ge, hoe, ⟨hc, hd, fun vs e => by rw [hdat] at e; cases e; exact h2⟩, hdat, h1, ?_, rfl, I1.bare, raises_own T.exC T.tyC, q1 d (I1.hok.fresh M.dbig)⟩
    · by_cases hb : b = e
      · have q' : G'.get? b = some o := q
        rw [hb, ge] at q'; cases q'
      · exact (gk b hb).symm.trans q
    · rw [upd_ne (Ne.symm M.dne)]
      exact I1.hok.fresh M.new
/-- nm() -/
def tMkE0 (C : Addr) : St → Hp → XK → Prop := fun _ H Q => Q (.ref C) none H
theorem pmk_err0 {p pos : Pos} {k : Nat} (T : Err0 X.prog X.w X.K X.mg nm C) (hr : Room k X.A) (hg : Gl X nm := by rfl) (hdb : (nm == ("__debug__" : Str)) = false := by decide) :
    L2N.PMk X (.Call (.Name nm p) [] [] pos) (tMkE0 C) := by
  intro pins s σ H Q I h
  refine wpAny_Call_Name_kw (ld_glob I hg T.gC ?_ hdb)
  refine PySem.W.callWith_K0 I.kIn T.kC ?_
  show wpAny _ _ (call (.ref C) []) _ _ _
  have hlim := I.nolimit
  have hG := I.mod.glob.keeps I.bk
  have hB := I.blt
  obtain ⟨hp, g, dr, tk, os⟩ := s
  refine wpAny_call (T.made I.kIn hlim hG hB (by have := hr.dp; omega) fun h' tk' e M => ?_)
  show L2N.MkP X pins σ Q (.ref e) ⟨h', g, dr, tk', os⟩
  obtain ⟨oe, fv, hoe, hc, hd, hdat, h1, h2⟩ := M.obj
  obtain ⟨G', g1, g2⟩ := restrict h' fun b => decide (b ≠ e)
  have gk : ∀ b, b ≠ e → G'.get? b = h'.get? b := fun b hb => g1 b (decide_eq_true hb)
  have ge : G'.get? e = none := g2 e (by simp)
  have old : ∀ b o, hp.get? b = some o → G'.get? b = some o := fun b o q => (gk b (Nat.ne_of_lt (Nat.lt_of_lt_of_le (Heap.lt_size q) M.new))).trans (M.keep b o q)
  have J : Inv X pins σ H ⟨G', g, dr, tk', os⟩ := I.kept (t' := tk') old
  refine ⟨e, oe, fv, ⟨G', g, dr, tk', os⟩, _, .ref C, none, rfl, J, fun b o q => ?_, ge, hoe, ⟨hc, hd, fun vs e => by rw [hdat] at e; cases e; exact h2⟩, hdat, h1, ?_, rfl, I.bare, raises_own T.exC T.tyC, h⟩
  · by_cases hb : b = e
    · have q' : G'.get? b = some o := q
      rw [hb, ge] at q'; cases q'
    · exact (gk b hb).symm.trans q
  · exact I.hok.fresh M.new
/-- e.f, e the exception that the suite holds (at a; its class cls, its dict d) -/
def tErrF (C : Addr) (f : Str) (a : Addr) (cls : Value) (d : Option Addr) (te : TE) : TE := fun σ H Q => te σ H fun x H1 => x = .ref a ∧ cls = .ref C ∧ ∃ (dd : Addr) (v : V), d = some dd ∧ H1 dd = some (.xd [(f, v)]) ∧ Q v H1
theorem pe_errF {a : Addr} {oe : Obj} {cls : Value} {d : Option Addr} {pn : List (Addr × Obj)} {e : Expr} {te : TE} {pos : Pos} (T : Err1 X.prog X.w X.K X.mg nm f C) (hz : Zc cls d oe) (hf : ∃ vs, oe.data = .fields vs) (he : PE (X.suite a ((a, oe) :: pn)) e te)
    (hb : attributeBase e f X.env (eval e X.env) = eval e X.env := by rfl) :
    PE (X.suite a ((a, oe) :: pn)) (.Attribute e f pos) (tErrF C f a cls d te) := by
  refine ⟨fun pins s σ H Q I h => ?_⟩
  refine attr_of hb (thn (he.run pins s σ H _ I h) fun u s1 hh => ?_)
  obtain ⟨x, H1, I1, rx, ex, ec, dd, v, ed, ea, q⟩ := hh
  subst ex
  obtain rfl : u = Value.ref a := rx
  subst ec
  subst ed
  obtain ⟨ha, _⟩ := I1.pin (a, oe) (List.mem_append_left _ List.mem_cons_self)
  obtain ⟨vs, hd⟩ := hf
  have hx : ObjOk X.prog X.w H1 s1.heap dd (.xd [(f, v)]) := I1.hok dd _ ea
  obtain ⟨mA, hns, hr⟩ := hx
  obtain ⟨od, ho, hl⟩ := lookIn_ns hns
  have l : List.lookup f [(f, v)] = some v := by simp [List.lookup]
  obtain ⟨u, hu, ru⟩ := RelO.some_of (v := v) (o := mA f) (by rw [← l]; exact hr f)
  have J : PySem.W.InstAt s1.heap a oe C (some od) := ⟨ha, hz.1, by unfold PySem.W.notCls; rw [hd] <;> rfl, by rw [hz.2]; exact ho⟩
  exact HandSPX.exc_get I1.kIn J T.ga T.gg T.exC (PySem.W.findObj_own T.hdC T.noN rfl (by rw [hl, hu])) (handed_of ru) ⟨v, H1, I1.tok _, ru, q⟩
end
end L2
namespace L2
open PySem PySem.Spec PyProof.Rows
/-- isinstance(e, c), e the exception that the suite holds -/
def rIsEE (K : PySem.W.Frag) (a : Addr) (cls : Value) (d : Option Addr) : List V → Hp → VK → Prop := fun xs H Q => ∃ (D : Addr) (c : V) (cv : Value) (b : Bool), cls = .ref D ∧ ExcC K D ∧ (d = none ∨ ∃ dd fs, d = some dd ∧ H dd = some (.xd fs)) ∧ xs = [.ref a, c] ∧ (∀ u, RelV c u → u = cv) ∧ PySem.W.kitOne K (.ref D) cv = some b ∧ Q (.bl b) H
theorem call_isEE {X : Cx} {a : Addr} {cls : Value} {d : Option Addr} {oe : Obj} {pn : List (Addr × Obj)} (hz : Zc cls d oe) (hf : ∃ vs, oe.data = .fields vs) : CallR (X.suite a ((a, oe) :: pn)) (.builtin "isinstance") (rIsEE X.K a cls d) := by
  intro pins s σ H xs us Q I r h
  obtain ⟨D, c, cv, b, rfl, C, hd, rfl, hcv, e, q⟩ := h
  cases r with
  | cons rx rr =>
    cases rr with
    | cons rt rr =>
      cases rr
      cases rx
      have ec := hcv _ rt
      subst ec
      obtain ⟨hget, _⟩ := I.pin (a, oe) (List.mem_append.mpr (.inl List.mem_cons_self))
      obtain ⟨vs, hv⟩ := hf
      have hcl : (PySem.W.clsIn X.K D).isSome = true := by
        obtain ⟨cd, hc, _⟩ := PySem.W.any_some C.hd
        rw [hc]; rfl
      have J : ∃ od, PySem.W.InstAt s.heap a oe D od := by
        obtain ⟨oc, od, oda, osl⟩ := oe
        obtain ⟨h1, h2⟩ := hz
        dsimp only at h1 h2 hv
        subst h1 h2 hv
        rcases hd with rfl | ⟨dd, fs, rfl, hx⟩
        · exact ⟨none, hget, rfl, rfl, trivial⟩
        · have hx2 : ObjOk X.prog X.w H s.heap dd (.xd fs) := I.hok dd _ hx
          obtain ⟨mA, hns, hr⟩ := hx2
          obtain ⟨od, ho, hl⟩ := lookIn_ns hns
          exact ⟨some od, hget, rfl, rfl, ho⟩
      obtain ⟨od, J⟩ := J
      exact PySem.W.kia_one (PySem.W.kitx_exc hcl C.hg C.hk C.hs C.ha C.hn C.ht C.hm) I.kIn J e (fun z => nomatch z) fun tk => ⟨.bl b, H, I.kept (t' := tk) fun _ _ z => z, rfl, q⟩
/-- raise nm(e), raise nm() -/
def tRaiseE (C : Addr) (f : Str) (W : WX) (ta : TA) : TS := fun _ σ H => tMkE C f ta σ H fun cls d H' => W cls d σ H'
def tRaiseE0 (C : Addr) (W : WX) : TS := fun _ σ H => W (.ref C) none σ H
section
variable {X : Cx} {C : Addr} {nm f : Str}
theorem ps_raiseE {a : Expr} {ta : TA} {W : WX} {p pos pos2 : Pos} {k : Nat} (hc : X.calm = true) (T : Err1 X.prog X.w X.K X.mg nm f C) (hr : Room k X.A) (tk : L2N.Takes X W) (ha : PA X [a] ta) (hg : Gl X nm := by rfl) (hdb : (nm == ("__debug__" : Str)) = false := by decide)
    (he : starEach (a :: []) X.env = (false, eval a X.env) :: starEach [] X.env := by rfl) (hpl : (backTo pos (starEach [] X.env)).any (·.1) = false := by rfl) :
    PS X (.Raise (some (.Call (.Name nm p) [a] [] pos)) none pos2) (tRaiseE C f W ta) := L2N.ps_raise hc tk (pmk_err T hr ha hg hdb he hpl)
theorem ps_raiseE0 {W : WX} {p pos pos2 : Pos} {k : Nat} (hc : X.calm = true) (T : Err0 X.prog X.w X.K X.mg nm C) (hr : Room k X.A) (tk : L2N.Takes X W) (hg : Gl X nm := by rfl) (hdb : (nm == ("__debug__" : Str)) = false := by decide) :
    PS X (.Raise (some (.Call (.Name nm p) [] [] pos)) none pos2) (tRaiseE0 C W) := L2N.ps_raise hc tk (pmk_err0 T hr hg hdb)
theorem passN {X : Cx} : Passes (L2N.CX X.prog X.w) X E0 := fun _ _ _ _ _ _ _ h => by
  obtain ⟨_, _, _, _, _, _, _, _, _, _, _, _, z⟩ := h
  exact z.elim
theorem takesN {X : Cx} : L2N.Takes X (fun _ _ _ _ => False) := fun _ _ x => by
  obtain ⟨_, _, _, _, _, _, _, _, _, _, _, _, _, _, _, _, z⟩ := x
  exact z.elim
/-- the suite is hot -/
theorem hotc {X : Cx} {a : Addr} {oe : Obj} {cls : Value} {d : Option Addr} {pn : List (Addr × Obj)} (hz : L2N.Zn cls d oe) (hf : ∃ vs, oe.data = .fields vs) : L2H.HotC (X.suite a ((a, oe) :: pn)) := by
  obtain ⟨vs, h⟩ := hf
  exact ⟨(a, oe), ⟨rfl, vs, h, hz.2.2 vs h⟩, List.mem_cons_self⟩
theorem hotH {CX : CXT} {P : Program} {w : World} {K : PySem.W.Frag} {mg : Str → Option Value} {base : Heap} {N : List Str} {qual : Str} {scope : Scope} {f : Addr} {cd : Value} {A : Around} {outer : List Env} {s : Shared} {H : Hp} {E : XK} {p : Addr × Obj} (h : L2H.Hot1 A p) : L2H.HotC (L2H.cxH CX P w K mg base N qual scope f cd A outer s H E p) :=
  ⟨p, ⟨h.1, h.2⟩, List.mem_singleton.mpr rfl⟩
end
/-- as FunD.ok, within an except suite -/
theorem FunD.okH {P : Program} {w : World} {K : PySem.W.Frag} {mg : Str → Option Value} {base : Heap} {x qual : Str} {params : Arguments} {body : List Stmt} {scope : Scope} {dvs : List V} {kws : List (Str × V)} {f : Addr} {fd : FuncData} {CX : CXT} {N ps : List Str} {k : Nat} {sp : Sp} (F : FunD K x qual params body scope dvs kws f fd) (S : FnScope N ps scope) (len : ∀ vs H Q E, sp vs H Q E → vs.length = ps.length)
    (hbody : ∀ (cdv : Value) (A : Around) (outer : List Env) (s : Shared) (H : Hp) (vs : List V) (Q : VK) (E : XK) (p : Addr × Obj), L2H.Hot1 A p → L2H.RoomH k (A.deeper (envOfC qual scope s.heap.objs.size f cdv)) → sp vs H Q E →
      ∃ t, PSs (L2H.cxH CX P w K mg base N qual scope f cdv A outer s H E p) body t ∧ t { nx := fun _ H' => Q .non H', rt := Q } (start N vs) H) : L2H.FnH P w K mg base CX (k + 1) f fd ps sp := by
  obtain ⟨oc, od, dV, kV, doc, pm, an, cdv, ct, osl, rfl, lk, hcd, _, _⟩ := F.ex
  exact L2H.fn_ofH lk hcd S len fun A outer s H vs Q E p hot hr hsp => hbody cdv A outer s H vs Q E p hot hr hsp
end L2
theorem L2H.RoomH.units {k : Nat} {A : PySem.Around} (r : L2H.RoomH k A) : A.units + 64 < PySem.cLine := by have := r.un; omega
/-! the head's facts: defs, error classes, Bools -/
namespace Hk
open PySem PySem.W PySem.Spec PyProof.Rows L2 He
abbrev FnZ : Type := Option (PySem.Str × PySem.Str × Arguments × FuncBody × Scope)
def fnZ (K : Frag) (a : Addr) : FnZ := match K.lookup a with
  | some ⟨_, _, .func fd, _⟩ => some (fd.name, fd.qualname, fd.params, fd.body, fd.scope)
  | _ => none
structure It where
  at_ : Frag → Addr
  val : FnZ
  ok : Frag → Bool
structure DefX where
  at_ : Frag → Addr
  name : PySem.Str
  qual : PySem.Str
  params : Arguments
  body : List Stmt
  scope : Scope
  dfl : List Dv := []
  kwd : List (PySem.Str × Dv) := []
def DefX.val (d : DefX) : FnZ := some (d.name, d.qual, d.params, .stmts d.body, d.scope)
def DefX.dvs (K : Frag) (d : DefX) : List V := d.dfl.map (Dv.v K)
def DefX.kws (K : Frag) (d : DefX) : List (PySem.Str × V) := d.kwd.map fun q => (q.1, q.2.v K)
def defOk (K : Frag) (a : Addr) (qual : PySem.Str) (dvs : List V) (kws : List (PySem.Str × V)) : Bool := keepIn K (.ref a) && (match K.lookup a with
  | some ⟨_, _, .func fd, _⟩ => codeIn K fd.code qual && (decide (fd.globals = mainGlobals) && (decide (fd.builtins = builtinsNs) && (fd.closure.isEmpty && (dflB K fd.defaults dvs && kwdB K fd.kwdefaults kws))))
  | _ => false)
def DefX.it (d : DefX) : It := ⟨d.at_, d.val, fun K => defOk K (d.at_ K) d.qual (d.dvs K) (d.kws K)⟩
theorem DefX.funD {K : Frag} {d : DefX} (e : fnZ K (d.at_ K) = d.val) (c : d.it.ok K = true) : ∃ fd, FunD K d.name d.qual d.params d.body d.scope (d.dvs K) (d.kws K) (d.at_ K) fd := by
  obtain ⟨kp, c2⟩ := ba c
  unfold fnZ at e
  cases q : K.lookup (d.at_ K) with
  | none =>
    rw [q] at c2
    cases c2
  | some o =>
    obtain ⟨oc, od, dt, osl⟩ := o
    rw [q] at c2 e
    cases dt with
    | func fd =>
      obtain ⟨n1, n2, n3, n4, n5, n6, n7, n8, n9, n10, n11, n12, n13, n14, n15⟩ := fd
      have e2 : (some (n1, n2, n3, n4, n5) : FnZ) = some (d.name, d.qual, d.params, .stmts d.body, d.scope) := e
      simp only [Option.some.injEq, Prod.mk.injEq] at e2
      obtain ⟨h1, h2, h3, h4, h5⟩ := e2
      have c3 : (codeIn K n13 d.qual && (decide (n6 = mainGlobals) && (decide (n15 = builtinsNs) && (n7.isEmpty && (dflB K n8 (d.dvs K) && kwdB K n9 (d.kws K)))))) = true := c2
      obtain ⟨k1, k2⟩ := ba c3
      obtain ⟨k3, k4⟩ := ba k2
      obtain ⟨k5, k6⟩ := ba k4
      obtain ⟨k7, k8⟩ := ba k6
      obtain ⟨k9, k10⟩ := ba k8
      have h6 := of_decide_eq_true k3
      have h7 := of_decide_eq_true k5
      have h8 : n7 = [] := List.isEmpty_iff.mp k7
      subst h1 h2 h3 h4 h5 h6 h7 h8
      exact ⟨_, ⟨oc, od, n8, n9, n10, n11, n12, n13, n14, osl, rfl, q, k1, dflB_ok k9, kwdB_ok k10⟩, kp⟩
    | _ => cases c2
/-! ### error classes -/
def clsB (K : Frag) (C : Addr) : Bool := match K.lookup C with
  | some ⟨.type ty, _, .cls cd, sl⟩ => (match cd.mro, sl.toList with
    | .ref C' :: bm, [_, _, _, _, some (.builtin n), _] => decide (ty = "type") && (decide (C' = C) && (decide (n = "ValueError.__new__") && (!cd.hasDel && (cd.hasDict && HandSPX.refsVE bm))))
    | _, _ => false)
  | _ => false
theorem clsB_ok {K : Frag} {C : Addr} (q : clsB K C = true) : ∃ nm q N bs bm sn sub ab col dd k0 k1 k2 k3 k5, K.lookup C = some (excClassObj nm q C N bs bm true sn sub ab col dd k0 k1 k2 k3 k5 "ValueError.__new__") ∧ HandSPX.refsVE bm = true := by
  unfold clsB at q
  split at q
  · rename_i ty dd cd sl ho
    split at q
    · rename_i C' bm k0 k1 k2 k3 n k5 hm hs
      obtain ⟨q1, q⟩ := ba q
      obtain ⟨q2, q⟩ := ba q
      obtain ⟨q3, q⟩ := ba q
      obtain ⟨q4, q⟩ := ba q
      obtain ⟨q5, q6⟩ := ba q
      have e1 := of_decide_eq_true q1
      have e2 := of_decide_eq_true q2
      have e3 := of_decide_eq_true q3
      obtain ⟨nm, bs, mro, ns, qn, hd, sn, sub, ab, col, del⟩ := cd
      dsimp only at hm q4 q5
      have e4 : del = false := by simpa using q4
      have hsl : sl = #[k0, k1, k2, k3, some (.builtin n), k5] := by
        obtain ⟨l⟩ := sl
        simp only at hs
        rw [hs]
      subst e1 e2 e3 hm e4 q5 hsl
      exact ⟨nm, qn, ns, bs, bm, sn, sub, ab, col, dd, k0, k1, k2, k3, k5, ho, q6⟩
    · cases q
  · cases q
def initB (K : Frag) (C fI : Addr) (file : PySem.Str) : Bool := match K.lookup fI with
  | some ⟨_, _, .func fd, _⟩ => (match fd.code, fd.closure with
    | .ref cda, [(x, cc)] => decide (x = "__class__" ∧ fd.defaults = .none) && (codeIn K (.ref cda) fd.qualname && (decide (fd.globals = mainGlobals) && (decide (fd.builtins = builtinsNs) && ((match K.lookup cda with
        | some ⟨_, _, .fields vs, _⟩ => (match (vs[2]? : Option Value) with
          | some (Value.str fl _) => decide (fl = file)
          | _ => false)
        | _ => false) && (match K.lookup cc with
        | some ⟨_, _, .cell (some (.ref D)), _⟩ => decide (D = C)
        | _ => false)))))
    | _, _ => false)
  | _ => false
theorem initB_ok {K : Frag} {C fI : Addr} {file : PySem.Str} {prog : Program} {nm0 qual0 : PySem.Str} {params : Arguments} {body : List Stmt} {scope : Scope} (h : initB K C fI file = true) (e : fnZ K fI = some (nm0, qual0, params, .stmts body, scope)) (hfile : (prog.main.file : PySem.Str) = file) :
  ∃ (oc : Value) (od : Option Addr) (nm qual : PySem.Str) (kV doc pm : Value) (an : Option Addr) (cda cc : Addr) (ct : Value) (osl : Array (Option Value)) (ccl : Value) (cdd : Option Addr) (vs : Array Value) (ccs : Array (Option Value)) (file : PySem.Str) (tf : Tok) (cl : Value) (cld : Option Addr) (csl : Array (Option Value)),
    K.lookup fI = some ⟨oc, od, .func (ksFn nm qual params body scope .none kV doc pm an (.ref cda) ct cc), osl⟩ ∧ codeIn K (.ref cda) qual = true ∧
    K.lookup cda = some ⟨ccl, cdd, .fields vs, ccs⟩ ∧ vs[2]? = some (.str file tf) ∧ ((prog.main.file : PySem.Str) == file) = true ∧ K.lookup cc = some ⟨cl, cld, .cell (some (.ref C)), csl⟩ := by
  unfold initB at h
  unfold fnZ at e
  cases q : K.lookup fI with
  | none =>
    rw [q] at h
    cases h
  | some o =>
    obtain ⟨oc, od, dt, osl⟩ := o
    rw [q] at h e
    cases dt with
    | func fd =>
      obtain ⟨n1, n2, n3, n4, n5, n6, n7, n8, n9, n10, n11, n12, n13, n14, n15⟩ := fd
      have e2 : (some (n1, n2, n3, n4, n5) : FnZ) = some (nm0, qual0, params, .stmts body, scope) := e
      simp only [Option.some.injEq, Prod.mk.injEq] at e2
      obtain ⟨h1, h2, h3, h4, h5⟩ := e2
      dsimp only at h
      split at h
      · rename_i cda x cc
        obtain ⟨g1, h⟩ := ba h
        obtain ⟨g2, h⟩ := ba h
        obtain ⟨g3, h⟩ := ba h
        obtain ⟨g4, h⟩ := ba h
        obtain ⟨g5, g6⟩ := ba h
        obtain ⟨f1, f0⟩ := of_decide_eq_true g1
        have f3 := of_decide_eq_true g3
        have f4 := of_decide_eq_true g4
        split at g5
        · rename_i ccl cdd vs ccs hcode
          split at g5
          · rename_i fl tf hvs
            have f5 := of_decide_eq_true g5
            split at g6
            · rename_i cl cld D csl hcell
              have f6 := of_decide_eq_true g6
              subst h1 h2 h3 h4 h5 f1 f0 f3 f4 f5 f6
              exact ⟨oc, od, _, _, n9, n10, n11, n12, cda, cc, n14, osl, ccl, cdd, vs, ccs, _, tf, cl, cld, csl, rfl, g2, hcode, hvs, by rw [hfile]; exact beq_self_eq_true _, hcell⟩
            · cases g6
          · cases g5
        · cases g5
      · cases h
    | _ => cases h
def errB (K : Frag) (nm : PySem.Str) (fs : List PySem.Str) (file : PySem.Str) : Bool :=
  eqO (nsIn K mainGlobals nm) (some (some (.ref (ga K nm)))) && (clsB K (ga K nm) && (eqO (findIn K (.ref (ga K nm)) "__setattr__") (some (some (.builtin "object.__setattr__"))) &&
  (eqO (findIn K (.ref (ga K nm)) "__getattribute__") (some (some (.builtin "BaseException.__getattribute__"))) && (eqO (findIn K (.ref (ga K nm)) "__getattr__") (some none) &&
  (eqO (findIn K (.ref (ga K nm)) "__init__") (some (some (.ref (ma K (ga K nm) "__init__")))) && (decide (typeIn K (.ref (ma K (ga K nm) "__init__")) = some (.type "function")) && (keepIn K (.ref (ga K nm)) &&
  (decide (subIn K (.ref (ga K nm)) (.type "BaseException") = some true) && (decide (subIn K (.ref (ga K nm)) (.type "ValueError") = some true) && (decide (typeIn K (.ref (ga K nm)) = some (.type "type")) && (hasDictIn K (ga K nm) &&
  (decide (mroIn K (ga K nm) (.ref (ga K nm)) = some true) && (eqO (ks_superIn K (ga K nm) (ga K nm) "__init__") (some (some (.builtin "ValueError.__init__"))) && (eqO (nsIn K cStatics "thirdparty.any") (some none) &&
  (eqO (nsIn K mainGlobals "super") (some none) && (initB K (ga K nm) (ma K (ga K nm) "__init__") file && fs.all fun f => eqO (findIn K (.ref (ga K nm)) f) (some none)))))))))))))))))
structure ErrD where
  name : PySem.Str
  fs : List PySem.Str
  qual : PySem.Str
  params : Arguments
  body : List Stmt
  scope : Scope
def ErrD.it (file : PySem.Str) (d : ErrD) : It := ⟨fun K => ma K (ga K d.name) "__init__", some ("__init__", d.qual, d.params, .stmts d.body, d.scope), fun K => errB K d.name d.fs file⟩
/-- the scope's facts, by decide -/
structure ScopeE (prog : Program) (scope : Scope) (params : Arguments) : Prop where
  ar : ∃ pp, (params.posonlyargs ++ params.args).head? = some ⟨"self", none, pp⟩
  hks : scope.names.lookup ("super" : PySem.Str) = some .globalImplicit
  hkc : scope.names.lookup ("__class__" : PySem.Str) = some .free
  hka : scope.names.lookup ("self" : PySem.Str) = some .local
  hk : scope.kind = .function
  hco : scope.isCoroutine = false
  hgen : scope.isGenerator = false
  hcell : ∀ x ∈ scope.names, x.2 ≠ .cell
  htop : (prog.main.scope.names.lookup ("super" : PySem.Str)).isSome = false
theorem errC_of {prog : Program} {K : Frag} {nm qual0 nm0 file : PySem.Str} {fs : List PySem.Str} {params : Arguments} {body : List Stmt} {scope : Scope} (c : errB K nm fs file = true) (e : fnZ K (ma K (ga K nm) "__init__") = some (nm0, qual0, params, .stmts body, scope))
    (hfile : (prog.main.file : PySem.Str) = file) (S : ScopeE prog scope params) : PySem.ErrX.ErrC prog K (ga K nm) (ma K (ga K nm) "__init__") body scope params ∧ nsIn K mainGlobals nm = some (some (.ref (ga K nm))) ∧ ∀ f ∈ fs, findIn K (.ref (ga K nm)) f = some none := by
  unfold errB at c
  obtain ⟨c0, c⟩ := ba c
  obtain ⟨c1, c⟩ := ba c
  obtain ⟨c2, c⟩ := ba c
  obtain ⟨c3, c⟩ := ba c
  obtain ⟨c4, c⟩ := ba c
  obtain ⟨c5, c⟩ := ba c
  obtain ⟨c6, c⟩ := ba c
  obtain ⟨c7, c⟩ := ba c
  obtain ⟨c8, c⟩ := ba c
  obtain ⟨c9, c⟩ := ba c
  obtain ⟨c10, c⟩ := ba c
  obtain ⟨c11, c⟩ := ba c
  obtain ⟨c12, c⟩ := ba c
  obtain ⟨c13, c⟩ := ba c
  obtain ⟨c14, c⟩ := ba c
  obtain ⟨c15, c⟩ := ba c
  obtain ⟨c16, c17⟩ := ba c
  exact ⟨{ cls := clsB_ok c1, sa := eqO_ok c2, ga := eqO_ok c3, gg := eqO_ok c4, iC := eqO_ok c5, tC := of_decide_eq_true c6, kC := c7, exC := of_decide_eq_true c8, veC := of_decide_eq_true c9, tyC := of_decide_eq_true c10, hdC := c11, mroC := of_decide_eq_true c12,
           supC := eqO_ok c13, opq := eqO_ok c14, supG := eqO_ok c15, fn := initB_ok c16 e hfile, ar := S.ar, hks := S.hks, hkc := S.hkc, hka := S.hka, hk := S.hk, hco := S.hco, hgen := S.hgen, hcell := S.hcell, htop := S.htop }, eqO_ok c0, fun f hf => eqO_ok (List.all_eq_true.mp c17 f hf)⟩
section
variable {prog : Program} {w : World} {K : Frag} {h : Heap} {mg : PySem.Str → Option Value} {nm qual0 nm0 file f msg : PySem.Str} {params : Arguments} {scope : Scope} {a1 a2 a3 a4 a5 a6 b1 b2 b3 b4 : Pos}
theorem err1_of (X : K.In h) (G : h.Ns mainGlobals mg) (c : errB K nm [f] file = true) (e : fnZ K (ma K (ga K nm) "__init__") = some (nm0, qual0, params, .stmts [PySem.ErrX.supS msg a1 a2 a3 a4 a5 a6, PySem.ErrX.fldS f b1 b2 b3 b4], scope))
    (hfile : (prog.main.file : PySem.Str) = file) (S : ScopeE prog scope params) (hline : (a3.endLine == a5.line) = true)
    (hbind : ∀ (nm qual : PySem.Str) (kV doc pm : Value) (an : Option Addr) (cdv ct : Value) (cc : Addr) (x y : Value), bindArgs (ksFn nm qual params [PySem.ErrX.supS msg a1 a2 a3 a4 a5 a6, PySem.ErrX.fldS f b1 b2 b3 b4] scope .none kV doc pm an cdv ct cc) ⟨[x, y], []⟩ = pure [(("self" : PySem.Str), x), (f, y)])
    (hkf : scope.names.lookup f = some .local) (hne : (("self" : PySem.Str) == f) = false) (hdf : (f == ("__debug__" : PySem.Str)) = false) : Err1 prog w K mg nm f (ga K nm) := by
  obtain ⟨T, g, hf⟩ := errC_of c e hfile S
  have noN := hf f (List.mem_singleton.mpr rfl)
  exact { gC := mg_of X G g, kC := T.kC, exC := T.exC, tyC := T.tyC, hdC := T.hdC, ga := T.ga, gg := T.gg, noN := noN, made := fun X hl hG hB hr hq => PySem.ErrX.made1 T hline hbind hkf hne hdf noN X hl hG hB hr hq }
theorem err0_of (X : K.In h) (G : h.Ns mainGlobals mg) (c : errB K nm [] file = true) (e : fnZ K (ma K (ga K nm) "__init__") = some (nm0, qual0, params, .stmts [PySem.ErrX.supS msg a1 a2 a3 a4 a5 a6], scope))
    (hfile : (prog.main.file : PySem.Str) = file) (S : ScopeE prog scope params) (hline : (a3.endLine == a5.line) = true)
    (hbind : ∀ (nm qual : PySem.Str) (kV doc pm : Value) (an : Option Addr) (cdv ct : Value) (cc : Addr) (x : Value), bindArgs (ksFn nm qual params [PySem.ErrX.supS msg a1 a2 a3 a4 a5 a6] scope .none kV doc pm an cdv ct cc) ⟨[x], []⟩ = pure [(("self" : PySem.Str), x)]) : Err0 prog w K mg nm (ga K nm) := by
  obtain ⟨T, g, _⟩ := errC_of c e hfile S
  exact { gC := mg_of X G g, kC := T.kC, exC := T.exC, tyC := T.tyC, made := fun X hl hG hB hr hq => PySem.ErrX.made0 T hline hbind X hl hG hB hr hq }
end
/-- ExcC as a Bool -/
def excCB (K : Frag) (D : Addr) : Bool := eqO (findIn K (.ref D) "__getattribute__") (some (some (.builtin "BaseException.__getattribute__"))) && (eqO (findIn K (.ref D) "__getattr__") (some none) && (decide (subIn K (.ref D) (.type "BaseException") = some true) &&
  (hasDictIn K D && (eqO (findIn K (.ref D) "__class__") (some (some (.builtin "object.__class__"))) && (eqO (specialIn K (.builtin "object.__class__") "__get__") (some (some (.builtin "getset_descriptor.__get__"))) &&
  (decide (takesIn K (.builtin "object.__class__") = some true) && decide (mroIn K D (.type "object") = some true)))))))
theorem excCB_ok {K : Frag} {D : Addr} (c : excCB K D = true) : ExcC K D := by
  unfold excCB at c
  obtain ⟨c1, c⟩ := ba c
  obtain ⟨c2, c⟩ := ba c
  obtain ⟨c3, c⟩ := ba c
  obtain ⟨c4, c⟩ := ba c
  obtain ⟨c5, c⟩ := ba c
  obtain ⟨c6, c⟩ := ba c
  obtain ⟨c7, c8⟩ := ba c
  exact ⟨eqO_ok c1, eqO_ok c2, of_decide_eq_true c3, c4, eqO_ok c5, eqO_ok c6, of_decide_eq_true c7, of_decide_eq_true c8⟩
def kitB (K : Frag) (x y : Value) (b : Bool) : Bool := decide (kitOne K x y = some b)
theorem kitB_ok {K : Frag} {x y : Value} {b : Bool} (h : kitB K x y b = true) : kitOne K x y = some b := of_decide_eq_true h
/-- the function's data at a -/
def fdOf (K : Frag) (a : Addr) : FuncData := match K.lookup a with
  | some ⟨_, _, .func fd, _⟩ => fd
  | _ => fnOf "" "" ⟨[], [], none, [], [], none, []⟩ [] ⟨.function, [], false, false, []⟩ .none .none .none .none none .none .none
theorem fdOf_eq {K : Frag} {x qual : PySem.Str} {params : Arguments} {body : List Stmt} {scope : Scope} {dvs : List V} {kws : List (PySem.Str × V)} {f : Addr} {fd : FuncData} (F : FunD K x qual params body scope dvs kws f fd) : FunD K x qual params body scope dvs kws f (fdOf K f) := by
  obtain ⟨oc, od, dV, kV, doc, pm, an, cdv, ct, osl, e, lk, r⟩ := F.ex
  have e2 : fdOf K f = fd := by unfold fdOf; rw [lk]
  rw [e2]
  exact F
/-! ### the Hook -/
abbrev AlZ : Type := Bool × List FnZ
def obsZ (fa : List Fa) (ex : List (Frag → Bool)) (its : List It) (K : Frag) : AlZ := ((fa.all fun f => f.ok K) && ((ex.all fun f => f K) && its.all fun d => d.ok K), its.map fun d => fnZ K (d.at_ K))
def valZ (its : List It) : AlZ := (true, its.map It.val)
def SaysZ (fa : List Fa) (ex : List (Frag → Bool)) (its : List It) (K : Frag) : Prop := obsZ fa ex its K = valZ its
def obsZG (n : Nat) (fa : List Fa) (ex : List (Frag → Bool)) (its : List It) (g : Addr → Option Obj) : AlZ := obsZ fa ex its (frG g (He5.asA g n))
def hookZ (n : Nat) (fa : List Fa) (ex : List (Frag → Bool)) (its : List It) : PySem.W.Hook where
  α := AlZ
  obs := fun s => obsZG n fa ex its s.heap.get?
  val := fun _ => valZ its
  says := fun _ h => ∃ K : Frag, K.In h ∧ SaysZ fa ex its K
  of := fun _ _ e => ⟨_, frG_in, e⟩
  keeps := fun _ _ _ ⟨K, hK, c⟩ k => ⟨K, Frag.In.keeps hK k, c⟩
theorem obsZG_eq {n : Nat} {fa : List Fa} {ex : List (Frag → Bool)} {its : List It} {g : Addr → Option Obj} {s : Shared} (h : ∀ a, g a = s.heap.get? a) : obsZG n fa ex its g = (hookZ n fa ex its).obs s := by
  have e : g = s.heap.get? := funext h
  rw [e] <;> rfl
section
variable {fa : List Fa} {ex : List (Frag → Bool)} {its : List It} {K : Frag}
theorem SaysZ.fact (c : SaysZ fa ex its K) (i : Nat) {f : Fa} (h : fa[i]? = some f := by rfl) : f.ok K = true := by
  have c1 := (ba (show ((fa.all fun f => f.ok K) && ((ex.all fun f => f K) && its.all fun d => d.ok K)) = true from congrArg (fun z : AlZ => z.1) c)).1
  exact List.all_eq_true.mp c1 f (List.mem_of_getElem? h)
theorem SaysZ.more (c : SaysZ fa ex its K) (i : Nat) {f : Frag → Bool} (h : ex[i]? = some f := by rfl) : f K = true := by
  have c1 := (ba (ba (show ((fa.all fun f => f.ok K) && ((ex.all fun f => f K) && its.all fun d => d.ok K)) = true from congrArg (fun z : AlZ => z.1) c)).2).1
  exact List.all_eq_true.mp c1 f (List.mem_of_getElem? h)
theorem SaysZ.it (c : SaysZ fa ex its K) (i : Nat) {d : It} (h : its[i]? = some d := by rfl) : fnZ K (d.at_ K) = d.val ∧ d.ok K = true := by
  have c2 := (ba (ba (show ((fa.all fun f => f.ok K) && ((ex.all fun f => f K) && its.all fun d => d.ok K)) = true from congrArg (fun z : AlZ => z.1) c)).2).2
  have e : its.map (fun d => fnZ K (d.at_ K)) = its.map It.val := congrArg (fun z : AlZ => z.2) c
  have e2 : (its.map fun d => fnZ K (d.at_ K))[i]? = (its.map It.val)[i]? := by rw [e]
  rw [List.getElem?_map, List.getElem?_map, h] at e2
  exact ⟨Option.some.inj e2, List.all_eq_true.mp c2 d (List.mem_of_getElem? h)⟩
theorem SaysZ.def_ (c : SaysZ fa ex its K) (i : Nat) {d : DefX} (h : its[i]? = some d.it := by rfl) : ∃ fd, FunD K d.name d.qual d.params d.body d.scope (d.dvs K) (d.kws K) (d.at_ K) fd := by
  obtain ⟨e1, e2⟩ := c.it i h
  exact DefX.funD e1 e2
theorem SaysZ.fn (c : SaysZ fa ex its K) (i : Nat) {d : DefX} (h : its[i]? = some d.it := by rfl) : FunD K d.name d.qual d.params d.body d.scope (d.dvs K) (d.kws K) (d.at_ K) (fdOf K (d.at_ K)) := by
  obtain ⟨fd, F⟩ := c.def_ i h
  exact fdOf_eq F
end
/-- a law: as walk_ofE, with the script's bits -/
theorem walk_ofEB {l : PySem.W.OpenLaw} {n k : Nat} {q : Program} {loose : List PySem.Str} {XP : (PySem.Str → Option Value) → Heap → Prop} {YP : World → Heap → Prop} {d : DefRec} {CX : World → CXT} {x : PySem.Str}
    (hn : l.most = some n) (hn2 : n ≤ sizeLine) (hdf : d.params.defaults = []) (hr : Room k callerA)
    (F : ∀ (w : World) (mg : PySem.Str → Option Value) (fa : Addr) (h : Heap), YP w h → h.Ns mainGlobals mg → mg d.name = some (.ref fa) →
      ∃ (K : PySem.W.Frag) (fd : FuncData) (sp : Sp), K.In h ∧ (∀ (s : Shared) (u : Value), BindsTo s fd ⟨[u], []⟩ [(x, u)]) ∧
        (∀ (H : Hp) (a : Addr) (ns : List Int), ns.length ≤ n → (∀ k ∈ ns, Builtin.Int.intBits k ≤ 1048576) → Only H → SqL K H a (ns.map V.int) → sp [.ref a] H (fun v _ => v = .bl true) fun _ _ _ => False) ∧
        ∀ base : Heap, K.In base → base.Ns mainGlobals mg → FnOk l.prog w K mg base (CX w) k fa fd [x] sp)
    (hCX : ∀ (w : World) (H : Hp) (s : Shared) (e : Value) (s' : Shared), CX w [] H s (fun _ _ _ => False) e s' → False) :
    PySem.W.WalkO q loose XP YP l.row.toRowW d [] (fun f vs => PySem.call f vs) := by
  refine Att.attach_callB hn hdf fun w s₀ s₁ mg mb fa o pm cd doc a vs ns G Y ho hd hcd hmg hobj hints hlen hbits hg => ?_
  obtain ⟨K, fd, sp, KX, hb, hsp, hF⟩ := F w mg fa _ Y G.T.g hmg
  exact law_call KX G.T.g G.T.b G.T.builtins G.T.nolimit hg hobj hints (Nat.le_trans hlen hn2) hr hF hb (fun H hO hS => hsp H a ns hlen hbits hO hS) fun H e s' => hCX w H s₁ e s'
end Hk
/-! operators by the values' own kinds; steps -/
namespace Px
open PySem PySem.Spec PyProof.Rows L2
section
variable {X : Cx}
/-- + -/
def rAddP (K : PySem.W.Frag) : R2 := fun x y H Q => match x, y with
  | .int i, .int j => Q (.int (i + j)) H
  | .str i, .str j => i.length + j.length ≤ sizeLine ∧ Q (.str (i ++ j)) H
  | .ref a, .ref b => rCat (.ref a) (.ref b) H Q ∨ rCatA K (.ref a) (.ref b) H Q
  | _, _ => False
theorem op_addP : OpR X (binaryOp .Add) (rAddP X.K) := by
  intro pins s σ H x y v u Q I rx ry h
  cases x <;> cases y <;> first
    | exact False.elim h
    | exact op_add pins s σ H _ _ v u Q I rx ry ⟨_, _, rfl, rfl, h⟩
    | exact op_add_str pins s σ H _ _ v u Q I rx ry ⟨_, _, rfl, rfl, h.1, h.2⟩
    | (rcases h with h | h
       · exact op_cat pins s σ H _ _ v u Q I rx ry h
       · exact op_catA pins s σ H _ _ v u Q I rx ry h)
/-- ints -/
def rIn2 (C : Int → Int → Prop) (g : Int → Int → V) : R2 := fun x y H Q => match x, y with
  | .int i, .int j => C i j ∧ Q (g i j) H
  | _, _ => False
theorem OpR.in2 {f : Value → Value → Sem Value} {C : Int → Int → Prop} {g : Int → Int → V} (h : OpR X f (rI C g)) : OpR X f (rIn2 C g) := by
  intro pins s σ H x y v u Q I rx ry q
  cases x <;> cases y <;> first
    | exact False.elim q
    | exact h pins s σ H _ _ v u Q I rx ry ⟨_, _, rfl, rfl, q.1, q.2⟩
def rIn0 (g : Int → Int → V) : R2 := fun x y H Q => match x, y with
  | .int i, .int j => Q (g i j) H
  | _, _ => False
theorem OpR.in0 {f : Value → Value → Sem Value} {g : Int → Int → V} (h : OpR X f (rI0 g)) : OpR X f (rIn0 g) := by
  intro pins s σ H x y v u Q I rx ry q
  cases x <;> cases y <;> first
    | exact False.elim q
    | exact h pins s σ H _ _ v u Q I rx ry ⟨_, _, rfl, rfl, q⟩
abbrev rSubP : R2 := rIn0 fun i j => .int (i - j)
theorem op_subP : OpR X (binaryOp .Sub) rSubP := OpR.in0 op_sub
def CMulP (i j : Int) : Prop := CMul i j ∨ CMulW i j
abbrev rMulP : R2 := rIn2 CMulP fun i j => .int (i * j)
theorem op_mulP : OpR X (binaryOp .Mult) rMulP := OpR.in2 (opI fun _ _ _ _ _ _ _ hc q => mul_int q (hc.elim CMul.ok CMulW.ok))
def CDivP (_ j : Int) : Prop := j ≠ 0 ∧ j.natAbs.log2 < 9000
abbrev rFdivP : R2 := rIn2 CDivP fun i j => .int (i.fdiv j)
theorem op_fdivP : OpR X (binaryOp .FloorDiv) rFdivP := OpR.in2 (opI fun _ _ _ _ _ _ _ hc q => floordiv_int hc.1 q (.inl (PyProof.noPylong_of_log2 hc.2)))
abbrev rModP : R2 := rIn2 (fun _ j => j ≠ 0) fun i j => .int (i.fmod j)
theorem op_modP : OpR X (binaryOp .Mod) rModP := OpR.in2 op_modN
abbrev rPowP : R2 := rIn2 CPow fun i j => .int (i ^ j.toNat)
theorem op_powP : OpR X (binaryOp .Pow) rPowP := OpR.in2 op_pow
/-- ==, != -/
def rEqP (K : PySem.W.Frag) : R2 := fun x y H Q => match scal x y with
  | true => Q (.bl (decide (x = y))) H
  | false => rEqD K x y H Q
theorem op_eqP (hu : X.A.units + 64 < cLine) : OpR X (compareOp .Eq) (rEqP X.K) := by
  intro pins s σ H x y v u Q I rx ry h
  unfold rEqP at h
  cases e : scal x y with
  | true => rw [e] at h; exact op_eq pins s σ H _ _ v u Q I rx ry ⟨e, h⟩
  | false => rw [e] at h; exact op_eqD hu pins s σ H _ _ v u Q I rx ry h
def rNeP (K : PySem.W.Frag) : R2 := fun x y H Q => match scal x y with
  | true => Q (.bl (!decide (x = y))) H
  | false => rNeD K x y H Q
theorem op_neP (hu : X.A.units + 64 < cLine) : OpR X (compareOp .NotEq) (rNeP X.K) := by
  intro pins s σ H x y v u Q I rx ry h
  unfold rNeP at h
  cases e : scal x y with
  | true => rw [e] at h; exact op_ne pins s σ H _ _ v u Q I rx ry ⟨e, h⟩
  | false => rw [e] at h; exact op_neD hu pins s σ H _ _ v u Q I rx ry h
/-- <, <=, >, >= -/
def rLtP : R2 := fun x y H Q => match x, y with
  | .int i, .int j => Q (.bl (decide (i < j))) H
  | .str i, .str j => Q (.bl (decide (i.cps.toList < j.cps.toList))) H
  | _, _ => False
theorem op_ltP : OpR X (compareOp .Lt) rLtP := by
  intro pins s σ H x y v u Q I rx ry h
  cases x <;> cases y <;> first
    | exact False.elim h
    | exact op_lt pins s σ H _ _ v u Q I rx ry ⟨_, _, rfl, rfl, h⟩
    | exact op_lt_str pins s σ H _ _ v u Q I rx ry ⟨_, _, rfl, rfl, h⟩
abbrev rLeP : R2 := rIn0 fun i j => .bl (decide (i ≤ j))
theorem op_leP : OpR X (compareOp .LtE) rLeP := OpR.in0 op_le
abbrev rGtP : R2 := rIn0 fun i j => .bl (decide (j < i))
theorem op_gtP : OpR X (compareOp .Gt) rGtP := OpR.in0 op_gt
abbrev rGeP : R2 := rIn0 fun i j => .bl (decide (j ≤ i))
theorem op_geP : OpR X (compareOp .GtE) rGeP := OpR.in0 op_ge
/-- in, not in -/
def strIn (i j : Str) : Bool := !(Builtin.Str.occurrences j i 0 j.length 1).isEmpty
theorem strIn_sign (c : Nat) (z : Str) : strIn ⟨#[c]⟩ z = decide (c ∈ z.cps.toList) := PySem.StrLaws.found_one z c
def tgtIn (neg b : Bool) : Bool := if neg then !b else b
def rInP (K : PySem.W.Frag) (neg : Bool) : R2 := fun x y H Q => match y with
  | .str j => (match x with
    | .str i => Q (.bl (tgtIn neg (strIn i j))) H
    | _ => False)
  | .ref p => rIn K neg x (.ref p) H Q ∨ ∃ o, DGet H p x o ∧ Q (.bl (tgtIn neg o.isSome)) H
  | _ => False
theorem op_inP (hu : X.A.units + 64 < cLine) : OpR X (compareOp .In) (rInP X.K false) := by
  intro pins s σ H x y v u Q I rx ry h
  cases y <;> first
    | exact False.elim h
    | (cases x <;> first
       | exact False.elim h
       | exact op_in_str pins s σ H _ _ v u Q I rx ry ⟨_, _, rfl, rfl, h⟩)
    | (rcases h with h | ⟨o, g, q⟩
       · exact op_in_seq pins s σ H _ _ v u Q I rx ry h
       · obtain rfl : u = Value.ref _ := ry
         exact d_in (by omega) I g rx fun s3 I3 => ⟨.bl o.isSome, H, I3, rfl, q⟩)
theorem op_ninP (hu : X.A.units + 64 < cLine) : OpR X (compareOp .NotIn) (rInP X.K true) := by
  intro pins s σ H x y v u Q I rx ry h
  cases y <;> first
    | exact False.elim h
    | (cases x <;> first
       | exact False.elim h
       | exact op_notin_str pins s σ H _ _ v u Q I rx ry ⟨_, _, rfl, rfl, h⟩)
    | (rcases h with h | ⟨o, g, q⟩
       · exact op_notIn_seq pins s σ H _ _ v u Q I rx ry h
       · obtain rfl : u = Value.ref _ := ry
         exact d_notIn (by omega) I g rx fun s3 I3 => ⟨.bl (!o.isSome), H, I3, rfl, q⟩)
/-- is None -/
def rIsP (neg : Bool) : R2 := fun x y H Q => y = .non ∧ Q (.bl (tgtIn neg (decide (x = .non)))) H
theorem op_isP : OpR X (compareOp .Is) (rIsP false) := op_isN
theorem op_isnotP : OpR X (compareOp .IsNot) (rIsP true) := op_notN
/-- x[i] -/
def rIxP (K : PySem.W.Frag) : R2 := fun x y H Q => match x, y with
  | .str z, .int i => z.length ≤ sizeLine ∧ ∃ c, atI z.cps.toList i = some c ∧ Q (.str ⟨#[c]⟩) H
  | .ref p, .int i => ∃ xs v, (SqL K H p xs ∨ SqT K H p xs) ∧ atI xs i = some v ∧ Q v H
  | _, _ => False
theorem ix_P : IxR X (rIxP X.K) := by
  intro value slice pins s σ H x y v u Q I rx ry h hs
  cases x <;> cases y <;> first
    | exact False.elim h
    | (obtain ⟨hz, c, he, q⟩ := h
       exact ix_str value slice pins s σ H _ _ v u Q I rx ry ⟨_, _, c, rfl, rfl, hz, he, q⟩ hs)
    | (obtain ⟨xs, w, hq, he, q⟩ := h
       rcases hq with hq | hq
       · exact ix_list value slice pins s σ H _ _ v u Q I rx ry ⟨_, xs, _, w, rfl, rfl, hq, he, q⟩ hs
       · exact ix_tup value slice pins s σ H _ _ v u Q I rx ry ⟨_, xs, _, w, rfl, rfl, hq, he, q⟩ hs)
/-- x[a:b] -/
def rSlP (K : PySem.W.Frag) : V → Option Int → Option Int → Hp → VK → Prop := fun x lo hi H Q => match x with
  | .str z => z.length ≤ sizeLine ∧ Q (.str (cutS z lo hi)) H
  | .ref a => rSlL K (.ref a) lo hi H Q ∨ rSlT K (.ref a) lo hi H Q
  | _ => False
theorem sl_P : SlR X (rSlP X.K) := by
  intro pins s σ H x v vl vu lo hi sl Q I rx hs pl pu h
  cases x <;> first
    | exact False.elim h
    | exact sl_str pins s σ H _ v vl vu lo hi sl Q I rx hs pl pu ⟨_, rfl, h.1, h.2⟩
    | (rcases h with h | h
       · exact sl_list pins s σ H _ v vl vu lo hi sl Q I rx hs pl pu h
       · exact sl_tup pins s σ H _ v vl vu lo hi sl Q I rx hs pl pu h)
/-- len -/
def rLenP (K : PySem.W.Frag) : List V → Hp → VK → Prop := fun vs H Q => match vs with
  | [.str z] => z.length ≤ sizeLine ∧ Q (.int z.length) H
  | [.ref p] => (∃ xs, (SqL K H p xs ∨ SqT K H p xs) ∧ Q (.int xs.length) H) ∨ ∃ kvs, H p = some (.dK kvs) ∧ Q (.int kvs.length) H
  | _ => False
theorem call_lenP : CallR X (.builtin "len") (rLenP X.K) := by
  intro pins s σ H vs us Q I r h
  match vs, h with
  | [.str z], h => exact call_len_str pins s σ H _ us Q I r ⟨z, rfl, h.1, h.2⟩
  | [.ref p], h =>
    rcases h with ⟨xs, hq, q⟩ | ⟨kvs, hd, q⟩
    · exact call_len_seq pins s σ H _ us Q I r ⟨p, xs, rfl, hq, q⟩
    · exact call_lenD pins s σ H _ us Q I r ⟨p, kvs, rfl, hd, q⟩
  | [], h => exact False.elim h
  | [.non], h => exact False.elim h
  | [.bl _], h => exact False.elim h
  | [.int _], h => exact False.elim h
  | [.byt _], h => exact False.elim h
  | [.flt _], h => exact False.elim h
  | [.ty _], h => exact False.elim h
  | x :: y :: z, h => exact False.elim (by cases x <;> exact h)
/-- for x in .. -/
def iAnyP (K : PySem.W.Frag) (te : TE) : TI := fun σ H R => te σ H fun x H1 => match x with
  | .str z => R (Its z) H1
  | .ref a => ((∃ xs, SqL K H1 a xs) ∧ R (Itl K a) H1) ∨ ((∃ xs, SqT K H1 a xs) ∧ R (Itt K a) H1)
  | _ => False
theorem pi_anyP {tg e : Expr} {te : TE} (he : PE X e te) : PI X tg e (iAnyP X.K te) := by
  refine ⟨fun pins s σ H R I h => ?_⟩
  refine thn (he.run pins s σ H _ I h) fun v s1 ⟨x, H1, I1, r1, q1⟩ => ?_
  cases x <;> first
    | exact False.elim q1
    | (rename_i x
       obtain ⟨t, rfl⟩ := r1
       cases ha : x.cps.all (· < 128)
       · exact wpAny_pyIter_wide ha (pi_one (tk := s1.toks) I1 _ (turn_str _ x t "str_iterator" (.inr rfl)) ⟨_, Heap.get?_push_size _ rfl, rfl, rfl⟩ q1)
       · exact wpAny_pyIter_ascii ha (pi_one (tk := s1.toks) I1 _ (turn_str _ x t "str_ascii_iterator" (.inl rfl)) ⟨_, Heap.get?_push_size _ rfl, rfl, rfl⟩ q1))
    | (rename_i a
       obtain rfl : v = Value.ref a := r1
       rcases q1 with ⟨⟨xs, hq⟩, q⟩ | ⟨⟨xs, hq⟩, q⟩
       · obtain ⟨its, rv, p, hz⟩ := I1.list hq
         refine wpAny_pyIter_list p.isList ?_
         refine ⟨s1.heap.objs.size, [s1.heap.objs.size], _, _, H1, rfl, I1.kept (t' := s1.toks) fun b o e => Heap.get?_push_of_some _ e, turn_list a _, ⟨_, Heap.get?_push_size _ rfl, rfl, rfl⟩, fun b hb => ?_, q⟩
         have e : b = s1.heap.objs.size := by simpa using hb
         subst e
         exact I1.fpOk (Nat.le_refl _) (I1.hok.fresh (Nat.le_refl _))
       · obtain ⟨its, rv, p, hz⟩ := I1.tuple hq
         refine wpAny_pyIter_tuple (show s1.heap.IsTuple a its.toArray from p) ?_
         refine ⟨s1.heap.objs.size, [s1.heap.objs.size], _, _, H1, rfl, I1.kept (t' := s1.toks) fun b o e => Heap.get?_push_of_some _ e, turn_tuple a _, ⟨_, Heap.get?_push_size _ rfl, rfl, rfl⟩, fun b hb => ?_, q⟩
         have e : b = s1.heap.objs.size := by simpa using hb
         subst e
         exact I1.fpOk (Nat.le_refl _) (I1.hok.fresh (Nat.le_refl _)))
/-- o[i] = v -/
def rSetP : V → V → V → Hp → (Hp → Prop) → Prop := fun o i v H Q => match o with
  | .ref p => rSetL (.ref p) i v H Q ∨ ∃ H', DPut H p i v H' ∧ Q H'
  | _ => False
theorem set_P (hu : X.A.units + 64 < cLine) : PSet X rSetP := by
  intro pins s σ H o i v ov iv u Q I ro ri rv h
  cases o <;> first
    | exact False.elim h
    | (rcases h with h | ⟨H', g, q⟩
       · exact set_list pins s σ H _ i v ov iv u Q I ro ri rv h
       · obtain rfl : ov = Value.ref _ := ro
         exact d_setItem (by omega) I g ri rv fun s4 I4 => ⟨H', I4, q⟩)
/-- int(x), list(x), tuple(x), abs(x) -/
def rIntP : List V → Hp → VK → Prop := fun vs H Q => match vs with
  | [.int i] => Q (.int i) H
  | [.bl b] => Q (.int (if b then 1 else 0)) H
  | [.str z] => ∃ n, PySem.intText? z = some n ∧ z.length ≤ 640 ∧ Q (.int n) H
  | _ => False
theorem call_intP : CallR X (.type "int") rIntP := by
  intro pins s σ H vs us Q I r h
  match vs, h with
  | [.int i], h => exact call_int1 pins s σ H _ us Q I r (.inl ⟨i, rfl, h⟩)
  | [.bl b], h => exact call_int1 pins s σ H _ us Q I r (.inr ⟨b, rfl, h⟩)
  | [.str z], ⟨n, e, l, q⟩ => exact call_int_str pins s σ H _ us Q I r ⟨z, n, rfl, e, l, q⟩
  | [], h => exact False.elim h
  | [.non], h => exact False.elim h
  | [.ref _], h => exact False.elim h
  | [.byt _], h => exact False.elim h
  | [.flt _], h => exact False.elim h
  | [.ty _], h => exact False.elim h
  | x :: y :: z, h => exact False.elim (by cases x <;> exact h)
def rListP (K : PySem.W.Frag) : List V → Hp → VK → Prop := fun xs H Q => ∃ p ys, xs = [.ref p] ∧ (SqL K H p ys ∨ SqT K H p ys) ∧ ∀ l, H l = none → Q (.ref l) (upd H l (.lst ys))
theorem call_listP : CallR X (.type "list") (rListP X.K) := call_list_of
def rTupleP (K : PySem.W.Frag) : List V → Hp → VK → Prop := fun xs H Q => ∃ p ys, xs = [.ref p] ∧ ((SqL K H p ys ∧ ∀ l, H l = none → Q (.ref l) (upd H l (.tup ys))) ∨ (SqT K H p ys ∧ Q (.ref p) H))
theorem call_tupleP : CallR X (.type "tuple") (rTupleP X.K) := call_tuple_of
def rAbsP : List V → Hp → VK → Prop := fun xs H Q => ∃ i, xs = [.int i] ∧ Q (.int (if i < 0 then -i else i)) H
theorem call_absP : CallR X (.builtin "abs") rAbsP := call_abs
def rStrP : List V → Hp → VK → Prop := fun vs H Q => match vs with
  | [.int i] => i.natAbs.log2 < 1920 ∧ Q (.str (toString i)) H
  | [.str z] => Q (.str z) H
  | _ => False
theorem call_strP : CallR X (.type "str") rStrP := by
  intro pins s σ H vs us Q I r h
  match vs, h with
  | [.int i], h => exact call_str_int pins s σ H _ us Q I r ⟨i, rfl, h.1, h.2⟩
  | [.str z], h => exact SkE.call_str_str pins s σ H _ us Q I r ⟨z, rfl, h⟩
  | [], h => exact False.elim h
  | [.non], h => exact False.elim h
  | [.bl _], h => exact False.elim h
  | [.ref _], h => exact False.elim h
  | [.byt _], h => exact False.elim h
  | [.flt _], h => exact False.elim h
  | [.ty _], h => exact False.elim h
  | x :: y :: z, h => exact False.elim (by cases x <;> exact h)
/-- a statement, then the rest, with a word between them -/
def tCut (t u : TS) : TS := fun D σ H => ∃ Mid : L2.St → Hp → Prop, t { D with nx := Mid } σ H ∧ ∀ σ' H', Mid σ' H' → u D σ' H'
theorem pss_cut {st : Stmt} {rest : List Stmt} {t u : TS} (h1 : PS X st t) (h2 : PSs X rest u) : PSs X (st :: rest) (tCut t u) := by
  refine ⟨fun pins s σ H D I h => ?_⟩
  obtain ⟨Mid, hm, hu⟩ := h
  refine wpAny_execs_cons (thn (h1.run pins s σ H { D with nx := Mid } I hm) fun f s1 q => ?_)
  cases f with
  | next =>
    obtain ⟨σ', H', I', q⟩ := q
    exact h2.run pins s1 σ' H' D I' (hu σ' H' q)
  | ret v => exact q
  | brk => exact q
  | cont => exact q
/-! promises by the number of arguments -/
def Sp1 (P : V → Hp → VK → XK → Prop) : Sp := fun vs H Q E => ∃ x, vs = [x] ∧ P x H Q E
def Sp2 (P : V → V → Hp → VK → XK → Prop) : Sp := fun vs H Q E => ∃ x y, vs = [x, y] ∧ P x y H Q E
def Sp3 (P : V → V → V → Hp → VK → XK → Prop) : Sp := fun vs H Q E => ∃ x y z, vs = [x, y, z] ∧ P x y z H Q E
def Sp4 (P : V → V → V → V → Hp → VK → XK → Prop) : Sp := fun vs H Q E => ∃ x y z u, vs = [x, y, z, u] ∧ P x y z u H Q E
theorem Sp1.len {P} {vs H Q E} (h : Sp1 P vs H Q E) : vs.length = 1 := by obtain ⟨_, rfl, _⟩ := h; rfl
theorem Sp2.len {P} {vs H Q E} (h : Sp2 P vs H Q E) : vs.length = 2 := by obtain ⟨_, _, rfl, _⟩ := h; rfl
theorem Sp3.len {P} {vs H Q E} (h : Sp3 P vs H Q E) : vs.length = 3 := by obtain ⟨_, _, _, rfl, _⟩ := h; rfl
theorem Sp4.len {P} {vs H Q E} (h : Sp4 P vs H Q E) : vs.length = 4 := by obtain ⟨_, _, _, _, rfl, _⟩ := h; rfl
end
end Px
/-! steps of readings -/
namespace Px
open PySem PySem.Spec PyProof.Rows L2
section
variable {K : PySem.W.Frag} {σ σ' : L2.St} {H : Hp} {D : Ends} {Q : VK} {QB : Bool → Hp → Prop} {QL : List V → Hp → Prop} {QO : Option Int → Hp → Prop} {QS : L2.St → Hp → Prop} {t u : TS} {te ta tb : TE} {tt tu : TT} {tl : TA} {v x y : V} {g : TG} {r : R2}
theorem s_seq (h : t { D with nx := u D } σ H) : tSeq t u D σ H := h
theorem s_asg (h : te σ H fun x H1 => g x σ H1 D.nx) : tAsg te g D σ H := h
theorem s_ret (h : te σ H D.rt) : tRet te D σ H := h
theorem s_retN (h : D.rt .non H) : tRetN D σ H := h
theorem s_drop (h : te σ H fun _ H1 => D.nx σ H1) : tDrop te D σ H := h
theorem s_ifS (h : tt σ H fun b H1 => if b = true then t D σ H1 else u D σ H1) : tIfS tt t u D σ H := h
theorem s_next (h : D.nx σ H) : tNext D σ H := h
theorem s_break (h : D.bk σ H) : tBreak D σ H := h
theorem s_cont (h : D.ct σ H) : tCont D σ H := h
theorem s_var {i : Nat} (e : σ[i]? = some (some v)) (h : Q v H) : tVar i σ H Q := ⟨v, e, h⟩
theorem s_c (h : Q v H) : tC v σ H Q := h
theorem s_op (h : ta σ H fun x H1 => tb σ H1 fun y H2 => r x y H2 Q) : tOp r ta tb σ H Q := h
theorem s_un {r : V → Hp → VK → Prop} (h : ta σ H fun x H1 => r x H1 Q) : tUn r ta σ H Q := h
theorem s_gname {i : Nat} (h : QS (σ.set i (some v)) H) : gName i v σ H QS := h
theorem s_gsub {to ti : TE} {ts : TSet} (h : to σ H fun o H1 => ti σ H1 fun i H2 => ts o i v H2 fun H3 => QS σ H3) : gSub to ti ts v σ H QS := h
theorem s_test (h : te σ H fun x H' => ∃ k, x = .bl k ∧ QB k H') : tTest te σ H QB := h
theorem s_tB (h : te σ H fun x H' => ∃ k, x = .bl k ∧ QB k H') : tB te σ H QB := h
theorem s_and (h : tt σ H fun c H1 => if c = true then tu σ H1 QB else QB false H1) : tAnd tt tu σ H QB := h
theorem s_or (h : tt σ H fun c H1 => if c = true then QB true H1 else tu σ H1 QB) : tOr tt tu σ H QB := h
theorem s_not (h : tt σ H fun c H1 => QB (!c) H1) : tNot tt σ H QB := h
theorem s_andV (h : ta σ H fun x H1 => ∃ c, x = .bl c ∧ if c = true then tb σ H1 Q else Q (.bl false) H1) : tAndV ta tb σ H Q := h
theorem s_orV (h : ta σ H fun x H1 => ∃ c, x = .bl c ∧ if c = true then Q (.bl true) H1 else tb σ H1 Q) : tOrV ta tb σ H Q := h
theorem s_notV (h : ta σ H fun x H1 => ∃ c, x = .bl c ∧ Q (.bl (!c)) H1) : tNotV ta σ H Q := h
theorem s_ifE (h : tt σ H fun c H1 => if c = true then ta σ H1 Q else tb σ H1 Q) : tIf tt ta tb σ H Q := h
theorem s_exb {b : Bool} {R : Bool → Prop} (h : R b) : ∃ k, (V.bl b = .bl k) ∧ R k := ⟨b, rfl, h⟩
theorem s_exi {b : Int} {R : Int → Prop} (h : R b) : ∃ k, (V.int b = .int k) ∧ R k := ⟨b, rfl, h⟩
theorem s_nil (h : QL [] H) : tNil σ H QL := h
theorem s_cons (h : ta σ H fun x H1 => tl σ H1 fun xs H2 => QL (x :: xs) H2) : tCons ta tl σ H QL := h
theorem s_cb {r : List V → Hp → VK → Prop} (h : tl σ H fun vs H1 => r vs H1 Q) : tCB r tl σ H Q := h
theorem s_call {sp : Sp} {dvs : List V} {E : XK} (h : tl σ H fun vs H1 => sp (vs ++ dvs) H1 Q E) : tCall sp dvs E tl σ H Q := h
theorem s_callS {sp : Sp} {E : L2.St → XK} (h : tl σ H fun vs H1 => sp vs H1 Q (E σ)) : tCallS sp E tl σ H Q := h
theorem s_lst (h : tl σ H fun xs H1 => xs.length ≤ sizeLine ∧ ∀ p, H1 p = none → Q (.ref p) (upd H1 p (.lst xs))) : tLst tl σ H Q := h
theorem s_tup (h : tl σ H fun xs H1 => xs.length ≤ sizeLine ∧ ∀ p, H1 p = none → Q (.ref p) (upd H1 p (.tup xs))) : tTup tl σ H Q := h
theorem s_sl {r : V → Option Int → Option Int → Hp → VK → Prop} {lo hi : TO} (h : te σ H fun x H1 => lo σ H1 fun l H2 => hi σ H2 fun u H3 => r x l u H3 Q) : tSl r te lo hi σ H Q := h
theorem s_nopart (h : QO none H) : tNoPart σ H QO := h
theorem s_part (h : te σ H fun x H1 => ∃ i, x = .int i ∧ QO (some i) H1) : tPart te σ H QO := h
theorem s_yes (h : QB true H) : tYes σ H QB := h
/-! values -/
theorem s_addI {i j : Int} (h : Q (.int (i + j)) H) : rAddP K (.int i) (.int j) H Q := h
theorem s_addS {i j : Str} (hl : i.length + j.length ≤ sizeLine) (h : Q (.str (i ++ j)) H) : rAddP K (.str i) (.str j) H Q := ⟨hl, h⟩
theorem s_in0 {g : Int → Int → V} {i j : Int} (h : Q (g i j) H) : rIn0 g (.int i) (.int j) H Q := h
theorem s_in2 {C : Int → Int → Prop} {g : Int → Int → V} {i j : Int} (hc : C i j) (h : Q (g i j) H) : rIn2 C g (.int i) (.int j) H Q := ⟨hc, h⟩
theorem s_eqI {i j : Int} (h : Q (.bl (decide (i = j))) H) : rEqP K (.int i) (.int j) H Q := by
  show Q (.bl (decide (V.int i = V.int j))) H
  rw [show decide (V.int i = V.int j) = decide (i = j) from by rw [Bool.eq_iff_iff]; simp]
  exact h
theorem s_eqS {i j : Str} (h : Q (.bl (decide (i = j))) H) : rEqP K (.str i) (.str j) H Q := by
  show Q (.bl (decide (V.str i = V.str j))) H
  rw [show decide (V.str i = V.str j) = decide (i = j) from by rw [Bool.eq_iff_iff]; simp]
  exact h
theorem s_eqB {i j : Bool} (h : Q (.bl (decide (i = j))) H) : rEqP K (.bl i) (.bl j) H Q := by
  show Q (.bl (decide (V.bl i = V.bl j))) H
  rw [show decide (V.bl i = V.bl j) = decide (i = j) from by rw [Bool.eq_iff_iff]; simp]
  exact h
theorem s_neI {i j : Int} (h : Q (.bl (!decide (i = j))) H) : rNeP K (.int i) (.int j) H Q := by
  show Q (.bl (!decide (V.int i = V.int j))) H
  rw [show decide (V.int i = V.int j) = decide (i = j) from by rw [Bool.eq_iff_iff]; simp]
  exact h
theorem s_neS {i j : Str} (h : Q (.bl (!decide (i = j))) H) : rNeP K (.str i) (.str j) H Q := by
  show Q (.bl (!decide (V.str i = V.str j))) H
  rw [show decide (V.str i = V.str j) = decide (i = j) from by rw [Bool.eq_iff_iff]; simp]
  exact h
theorem s_ltI {i j : Int} (h : Q (.bl (decide (i < j))) H) : rLtP (.int i) (.int j) H Q := h
theorem s_ltS {i j : Str} (h : Q (.bl (decide (i.cps.toList < j.cps.toList))) H) : rLtP (.str i) (.str j) H Q := h
theorem s_inS {i j : Str} {neg : Bool} (h : Q (.bl (tgtIn neg (strIn i j))) H) : rInP K neg (.str i) (.str j) H Q := h
theorem s_isN {neg : Bool} (h : Q (.bl (tgtIn neg (decide (x = .non)))) H) : rIsP neg x .non H Q := ⟨rfl, h⟩
theorem s_ixS {z : Str} {i : Int} {c : Nat} (hz : z.length ≤ sizeLine) (e : atI z.cps.toList i = some c) (h : Q (.str ⟨#[c]⟩) H) : rIxP K (.str z) (.int i) H Q := ⟨hz, c, e, h⟩
theorem s_ixL {p : Addr} {xs : List V} {i : Int} (hp : H p = some (.lst xs)) (e : atI xs i = some v) (h : Q v H) : rIxP K (.ref p) (.int i) H Q := ⟨xs, v, .inl (SqL.of hp), e, h⟩
theorem s_ixT {p : Addr} {xs : List V} {i : Int} (hp : H p = some (.tup xs)) (e : atI xs i = some v) (h : Q v H) : rIxP K (.ref p) (.int i) H Q := ⟨xs, v, .inr (SqT.of hp), e, h⟩
theorem s_slS {z : Str} {lo hi : Option Int} (hz : z.length ≤ sizeLine) (h : Q (.str (cutS z lo hi)) H) : rSlP K (.str z) lo hi H Q := ⟨hz, h⟩
theorem s_slL {a : Addr} {xs : List V} {lo hi : Option Int} (ha : H a = some (.lst xs)) (h : ∀ p, H p = none → Q (.ref p) (upd H p (.lst (cutV xs lo hi)))) : rSlP K (.ref a) lo hi H Q := .inl ⟨a, xs, rfl, SqL.of ha, h⟩
theorem s_lenS {z : Str} (hz : z.length ≤ sizeLine) (h : Q (.int z.length) H) : rLenP K [.str z] H Q := ⟨hz, h⟩
theorem s_lenL {p : Addr} {xs : List V} (hp : H p = some (.lst xs)) (h : Q (.int xs.length) H) : rLenP K [.ref p] H Q := .inl ⟨xs, .inl (SqL.of hp), h⟩
theorem s_lenT {p : Addr} {xs : List V} (hp : H p = some (.tup xs)) (h : Q (.int xs.length) H) : rLenP K [.ref p] H Q := .inl ⟨xs, .inr (SqT.of hp), h⟩
theorem s_setL {p : Addr} {xs : List V} {k : Int} {j : Nat} {QH : Hp → Prop} (hp : H p = some (.lst xs)) (e : ixN xs.length k = some j) (h : QH (upd H p (.lst (xs.set j v)))) : rSetP (.ref p) (.int k) v H QH := .inl ⟨p, xs, k, j, rfl, rfl, hp, e, h⟩
theorem s_neg {i : Int} {f : Int → V} (h : Q (f i) H) : rU f (.int i) H Q := ⟨i, rfl, h⟩
theorem s_ite {c : Bool} {A B : Prop} (h1 : c = true → A) (h2 : c = false → B) : if c = true then A else B := by
  cases c with
  | true => rw [if_pos rfl]; exact h1 rfl
  | false => rw [if_neg Bool.false_ne_true]; exact h2 rfl
theorem s_itd {p : Prop} [Decidable p] {A B : Prop} (h1 : p → A) (h2 : ¬p → B) : if decide p = true then A else B := by
  by_cases h : p
  · rw [if_pos (decide_eq_true h)]; exact h1 h
  · rw [if_neg (by rw [decide_eq_false h]; exact Bool.false_ne_true)]; exact h2 h
theorem s_itT {c : Bool} {A B : Prop} (hc : c = true) (h : A) : if c = true then A else B := by rw [if_pos hc]; exact h
theorem s_itF {c : Bool} {A B : Prop} (hc : c = false) (h : B) : if c = true then A else B := by rw [hc, if_neg Bool.false_ne_true]; exact h
theorem s_nocut (h : t { D with nx := u D } σ H) : tCut t u D σ H := ⟨u D, h, fun _ _ h => h⟩
theorem s_cut (Mid : L2.St → Hp → Prop) (h : t { D with nx := Mid } σ H) (h2 : ∀ σ' H', Mid σ' H' → u D σ' H') : tCut t u D σ H := ⟨Mid, h, h2⟩
theorem s_setU {p : Addr} {xs : List V} {k : Int} {j : Nat} {QH : Hp → Prop} (e : ixN xs.length k = some j) (h : QH (upd H p (.lst (xs.set j v)))) : rSetP (.ref p) (.int k) v (upd H p (.lst xs)) QH := by
  refine s_setL upd_same e ?_
  rw [upd_upd]
  exact h
theorem s_intI {i : Int} (h : Q (.int i) H) : rIntP [.int i] H Q := h
theorem s_listL {p : Addr} {ys : List V} (hp : SqL K H p ys) (h : ∀ l, H l = none → Q (.ref l) (upd H l (.lst ys))) : rListP K [.ref p] H Q := ⟨p, ys, rfl, .inl hp, h⟩
theorem s_isi {c : V} {t u : Value} {b : Bool} (hc : ClsV c u) (ht : TyX K H x t) (e : PySem.W.kitOne K t u = some b) (h : Q (.bl b) H) : rIsi K [x, c] H Q := ⟨x, c, t, u, b, rfl, hc, ht, e, h⟩
theorem s_rng1 {ta : TA} {R : L2.It → Hp → Prop} (h : ta σ H fun vs H1 => ∃ j : Int, vs = [.int j] ∧ -(2 ^ 62) ≤ j ∧ j < 2 ^ 62 ∧ R (Itr 0 j.toNat) H1) : iRng1 ta σ H R := h
theorem s_for {wi : TI} {g : TG} {tb : TS} (h : wi σ H fun J H1 => ∃ W : Nat → Nat → L2.St → Hp → Prop, (∃ m, W 0 m σ H1) ∧ ∀ i m σ H, W i m σ H →
  (J.stop i H ∧ D.nx σ H) ∨ (J.go i H ∧ ∃ N : L2.St → Hp → Prop, (∀ σ' H', N σ' H' → ∃ m', m' < m ∧ W (i + 1) m' σ' H') ∧ ∀ x H', J.yld i H x H' → g x σ H' fun σ2 H2 => tb { D with nx := N, ct := N, bk := D.nx } σ2 H2)) : tFor wi g tb D σ H := h
/-! heaps -/
theorem same_new {p : Addr} {o : HO} (h : H p = none) : Same H (upd H p o) := fun b u e => by
  rw [upd_ne (ne_of_none e h)]
  exact e
/-- one object may have changed -/
def But (a : Addr) (H H' : Hp) : Prop := ∀ b o, H b = some o → b ≠ a → H' b = some o
theorem But.refl (a : Addr) (H : Hp) : But a H H := fun _ _ h _ => h
theorem But.trans {a : Addr} {H H1 H2 : Hp} (h1 : But a H H1) (h2 : But a H1 H2) : But a H H2 := fun b o h n => h2 b o (h1 b o h n) n
theorem But.of_same {a : Addr} {H H1 : Hp} (h : Same H H1) : But a H H1 := fun b o e _ => h b o e
theorem But.upd {a : Addr} {H : Hp} {o : HO} : But a H (upd H a o) := fun b u h n => by rw [upd_ne n]; exact h
theorem But.put {a : Addr} {H H1 : Hp} {o : HO} (h : But a H H1) : But a H (L2.upd H1 a o) := h.trans But.upd
theorem one_lt {n : Nat} (h : n ≤ 1000000) : n ≤ sizeLine := by rw [sizeLine_eq]; omega
theorem mem_comp {a b : Nat} {xs : List Nat} : a ∈ (⟨xs.toArray⟩ : Str).cps.toList ↔ a ∈ xs := by simp
end
end Px
/-! loops and comprehensions over anything whose items are known -/
namespace Px
open PySem PySem.Spec PyProof.Rows L2
/-- at turn i, the heap H: the items are xs -/
def YieldsAt (J : L2.It) (xs : List V) (i : Nat) (H : Hp) : Prop := (∀ h : i < xs.length, J.go i H ∧ ∀ x H', J.yld i H x H' → H' = H ∧ xs[i]? = some x) ∧ (xs.length ≤ i → J.stop i H)
theorem yields_str (z : Str) (i : Nat) (H : Hp) : YieldsAt (Its z) (z.cps.toList.map fun c => V.str ⟨#[c]⟩) i H := by
  refine ⟨fun h => ⟨?_, fun x H' hy => ?_⟩, fun h => ?_⟩
  · show i < z.cps.size
    simpa using h
  · obtain ⟨e, c, hc, rfl⟩ := hy
    refine ⟨e, ?_⟩
    rw [List.getElem?_map]
    have : z.cps.toList[i]? = some c := by simpa using hc
    rw [this]
    rfl
  · show z.cps.size ≤ i
    simpa using h
theorem yields_range (lo : Int) (n i : Nat) (H : Hp) : YieldsAt (Itr lo n) ((List.range n).map fun (j : Nat) => V.int (lo + (j : Int))) i H := by
  refine ⟨fun h => ⟨?_, fun x H' hy => ?_⟩, fun h => ?_⟩
  · show i < n
    simpa using h
  · obtain ⟨e, rfl⟩ := hy
    refine ⟨e, ?_⟩
    have hi : i < n := by simpa using h
    rw [List.getElem?_map, List.getElem?_range hi]
    rfl
  · show n ≤ i
    simpa using h
theorem yields_list {K : PySem.W.Frag} {a : Addr} {xs : List V} {H : Hp} (h : SqL K H a xs) (i : Nat) : YieldsAt (Itl K a) xs i H := by
  refine ⟨fun hi => ⟨⟨xs, xs[i], h, by simp [hi]⟩, fun x H' hy => ⟨hy.1, hy.2 xs h⟩⟩, fun hi => ⟨xs, h, hi⟩⟩
theorem yields_tup {K : PySem.W.Frag} {a : Addr} {xs : List V} {H : Hp} (h : SqT K H a xs) (i : Nat) : YieldsAt (Itt K a) xs i H := by
  refine ⟨fun hi => ⟨⟨xs, xs[i], h, by simp [hi]⟩, fun x H' hy => ⟨hy.1, hy.2 xs h⟩⟩, fun hi => ⟨xs, h, hi⟩⟩
theorem Same.sqT {K : PySem.W.Frag} {H H' : Hp} {a : Addr} {xs : List V} (e : Same H H') (h : SqT K H a xs) : SqT K H' a xs := by
  rcases h with (h | ⟨o, h⟩) | h
  · exact .inl (.inl (e _ _ h))
  · exact .inl (.inr ⟨o, e _ _ h⟩)
  · exact .inr h
section
variable {K : PySem.W.Frag} {σ : L2.St} {H H1 : Hp} {D : Ends} {Q : VK} {J : L2.It} {xs : List V}
/-- a for over known items, by an invariant -/
theorem for_y {g : TG} {tb : TS} (Pv : Nat → L2.St → Hp → Prop) (h0 : Pv 0 σ H) (hy : ∀ i σ H, i ≤ xs.length → Pv i σ H → YieldsAt J xs i H)
    (hs : ∀ i x σ H, xs[i]? = some x → Pv i σ H → g x σ H fun σ2 H2 => tb { D with nx := Pv (i + 1), ct := Pv (i + 1), bk := D.nx } σ2 H2) (hd : ∀ σ H, Pv xs.length σ H → D.nx σ H) :
    ∃ W : Nat → Nat → L2.St → Hp → Prop, (∃ m, W 0 m σ H) ∧ ∀ i m σ H, W i m σ H →
      (J.stop i H ∧ D.nx σ H) ∨ (J.go i H ∧ ∃ N : L2.St → Hp → Prop, (∀ σ' H', N σ' H' → ∃ m', m' < m ∧ W (i + 1) m' σ' H') ∧ ∀ x H', J.yld i H x H' → g x σ H' fun σ2 H2 => tb { D with nx := N, ct := N, bk := D.nx } σ2 H2) := by
  refine ⟨fun i m σ H => m = xs.length - i ∧ i ≤ xs.length ∧ Pv i σ H, ⟨xs.length, by simp, Nat.zero_le _, h0⟩, ?_⟩
  rintro i m σ H ⟨rfl, hi, p⟩
  have q := hy i σ H hi p
  by_cases hlt : i < xs.length
  · refine .inr ⟨(q.1 hlt).1, Pv (i + 1), fun σ' H' p' => ⟨xs.length - (i + 1), by omega, rfl, hlt, p'⟩, fun x H' y => ?_⟩
    obtain ⟨e, hx⟩ := (q.1 hlt).2 x H' y
    subst e
    exact hs i x σ H' hx p
  · have e : i = xs.length := by omega
    subst e
    exact .inl ⟨q.2 (Nat.le_refl _), hd σ H p⟩
/-- a comprehension over known items, by an invariant -/
theorem lc_y {g : TG} {tt : TT} {te : TE} {vs : List Nat} {Dr : Addr} {Qd : Hp → Prop} (Pv : Nat → Hp → Prop) (h0 : Pv 0 (upd H1 Dr (.lst []))) (hy : ∀ i H, i ≤ xs.length → Pv i H → YieldsAt J xs i H)
    (hs : ∀ i x H, xs[i]? = some x → Pv i H → g x (wipe σ vs) H fun σ2 H2 => wipe σ2 vs = wipe σ vs ∧ tt σ2 H2 fun b H3 =>
      if b = true then te σ2 H3 fun y H4 => ∃ acc, H4 Dr = some (.lst acc) ∧ acc.length < sizeLine ∧ Pv (i + 1) (upd H4 Dr (.lst (acc ++ [y]))) else Pv (i + 1) H3) (hd : ∀ H, Pv xs.length H → Qd H) :
    ∃ W : Nat → Nat → Hp → Prop, (∃ m, W 0 m (upd H1 Dr (.lst []))) ∧ ∀ i m H, W i m H →
      (J.stop i H ∧ Qd H) ∨ (J.go i H ∧ ∃ Nx : Hp → Prop, (∀ H', Nx H' → ∃ m', m' < m ∧ W (i + 1) m' H') ∧ ∀ x H', J.yld i H x H' → g x (wipe σ vs) H' fun σ2 H2 => wipe σ2 vs = wipe σ vs ∧ tt σ2 H2 fun b H3 =>
        if b = true then te σ2 H3 fun y H4 => ∃ acc, H4 Dr = some (.lst acc) ∧ acc.length < sizeLine ∧ Nx (upd H4 Dr (.lst (acc ++ [y]))) else Nx H3) := by
  refine ⟨fun i m H => m = xs.length - i ∧ i ≤ xs.length ∧ Pv i H, ⟨xs.length, by simp, Nat.zero_le _, h0⟩, ?_⟩
  rintro i m H ⟨rfl, hi, p⟩
  have q := hy i H hi p
  by_cases hlt : i < xs.length
  · refine .inr ⟨(q.1 hlt).1, Pv (i + 1), fun H' p' => ⟨xs.length - (i + 1), by omega, rfl, hlt, p'⟩, fun x H' y => ?_⟩
    obtain ⟨e, hx⟩ := (q.1 hlt).2 x H' y
    subst e
    exact hs i x H' hx p
  · have e : i = xs.length := by omega
    subst e
    exact .inl ⟨q.2 (Nat.le_refl _), hd H p⟩
theorem take_more {α : Type} {l : List α} {i : Nat} {x : α} (h : l[i]? = some x) : l.take (i + 1) = l.take i ++ [x] := by
  obtain ⟨hi, rfl⟩ := List.getElem?_eq_some_iff.mp h
  rw [List.take_succ_eq_append_getElem hi]
/-- [e for x in ..]: each item's value is f x, the heap only grows -/
theorem lc_map {v : Nat} {te : TE} {f : V → V} (hx : xs.length ≤ 1000000) (hy : ∀ i H, Same H1 H → YieldsAt J xs i H)
    (hf : ∀ x ∈ xs, ∀ H', Same H1 H' → ∀ Q' : VK, (∀ H'', Same H' H'' → Q' (f x) H'') → te (σ.set v (some x)) H' Q')
    (hq : ∀ D H', H1 D = none → Same H1 H' → H' D = some (.lst (xs.map f)) → Q (.ref D) H') :
    ∀ Dr, H1 Dr = none → ∃ W : Nat → Nat → Hp → Prop, (∃ m, W 0 m (upd H1 Dr (.lst []))) ∧ ∀ i m H, W i m H →
      (J.stop i H ∧ Q (.ref Dr) H) ∨ (J.go i H ∧ ∃ Nx : Hp → Prop, (∀ H', Nx H' → ∃ m', m' < m ∧ W (i + 1) m' H') ∧ ∀ x H', J.yld i H x H' → gName v x (wipe σ [v]) H' fun σ2 H2 => wipe σ2 [v] = wipe σ [v] ∧ tYes σ2 H2 fun b H3 =>
        if b = true then te σ2 H3 fun y H4 => ∃ acc, H4 Dr = some (.lst acc) ∧ acc.length < sizeLine ∧ Nx (upd H4 Dr (.lst (acc ++ [y]))) else Nx H3) := by
  intro Dr hD
  refine lc_y (xs := xs) (fun i H => Same H1 H ∧ H Dr = some (.lst ((xs.take i).map f))) ⟨same_new hD, by simp [upd_same]⟩ (fun i H _ p => hy i H p.1) ?_ (fun H p => hq Dr H hD p.1 (by rw [p.2, List.take_length]))
  rintro i x H hi ⟨sm, hl⟩
  have e1 : wipe σ [v] = σ.set v none := rfl
  rw [e1]
  have e2 : (σ.set v none).set v (some x) = σ.set v (some x) := by rw [List.set_set]
  have e3 : wipe (σ.set v (some x)) [v] = σ.set v none := by show (σ.set v (some x)).set v none = _; rw [List.set_set]
  unfold gName
  rw [e2]
  refine ⟨e3, ?_⟩
  unfold tYes
  dsimp only
  rw [if_pos rfl]
  refine hf x (List.mem_of_getElem? hi) H sm _ fun H'' s2 => ?_
  refine ⟨_, s2 _ _ hl, ?_, fun b o e => ?_, ?_⟩
  · rw [List.length_map, List.length_take, sizeLine_eq]
    have := (List.getElem?_eq_some_iff.mp hi).1
    omega
  · rw [upd_ne (ne_of_none e hD)]
    exact s2 _ _ (sm _ _ e)
  · rw [upd_same, take_more hi, List.map_append]
    rfl
theorem s_lc {wi : TI} {g : TG} {tt : TT} {te : TE} {vs : List Nat} (h : wi σ H fun J H1 => ∀ D, H1 D = none → ∃ W : Nat → Nat → Hp → Prop, (∃ m, W 0 m (upd H1 D (.lst []))) ∧ ∀ i m H, W i m H →
  (J.stop i H ∧ Q (.ref D) H) ∨ (J.go i H ∧ ∃ Nx : Hp → Prop, (∀ H', Nx H' → ∃ m', m' < m ∧ W (i + 1) m' H') ∧ ∀ x H', J.yld i H x H' → g x (wipe σ vs) H' fun σ2 H2 => wipe σ2 vs = wipe σ vs ∧ tt σ2 H2 fun b H3 =>
    if b = true then te σ2 H3 fun y H4 => ∃ acc, H4 D = some (.lst acc) ∧ acc.length < sizeLine ∧ Nx (upd H4 D (.lst (acc ++ [y]))) else Nx H3)) : tLc wi g tt te vs σ H Q := h
theorem s_anyP {te : TE} {R : L2.It → Hp → Prop} (h : te σ H fun x H1 => match x with
  | .str z => R (Its z) H1
  | .ref a => ((∃ xs, SqL K H1 a xs) ∧ R (Itl K a) H1) ∨ ((∃ xs, SqT K H1 a xs) ∧ R (Itt K a) H1)
  | _ => False) : iAnyP K te σ H R := h
/-! with what follows kept whole -/
/-- the items of a value that is walked -/
def Items (K : PySem.W.Frag) (H : Hp) (x : V) (xs : List V) : Prop := match x with
  | .str z => xs = z.cps.toList.map fun c => V.str ⟨#[c]⟩
  | .ref a => SqL K H a xs ∨ SqT K H a xs
  | _ => False
theorem Items.keep {H' : Hp} {x : V} (h : Items K H x xs) (s : Same H H') : Items K H' x xs := by
  cases x <;> first
    | exact False.elim h
    | exact h
    | (rcases h with h | h
       · exact .inl (s.seq h)
       · exact .inr (Same.sqT s h))
def LcB (J : L2.It) (g : TG) (tt : TT) (te : TE) (vs : List Nat) (σ : L2.St) (Q : VK) (H1 : Hp) : Prop := ∀ D, H1 D = none → ∃ W : Nat → Nat → Hp → Prop, (∃ m, W 0 m (upd H1 D (.lst []))) ∧ ∀ i m H, W i m H →
  (J.stop i H ∧ Q (.ref D) H) ∨ (J.go i H ∧ ∃ Nx : Hp → Prop, (∀ H', Nx H' → ∃ m', m' < m ∧ W (i + 1) m' H') ∧ ∀ x H', J.yld i H x H' → g x (wipe σ vs) H' fun σ2 H2 => wipe σ2 vs = wipe σ vs ∧ tt σ2 H2 fun b H3 =>
    if b = true then te σ2 H3 fun y H4 => ∃ acc, H4 D = some (.lst acc) ∧ acc.length < sizeLine ∧ Nx (upd H4 D (.lst (acc ++ [y]))) else Nx H3)
def LcBody (K : PySem.W.Frag) (g : TG) (tt : TT) (te : TE) (vs : List Nat) (σ : L2.St) (Q : VK) (x : V) (H1 : Hp) : Prop := match x with
  | .str z => LcB (Its z) g tt te vs σ Q H1
  | .ref a => ((∃ xs, SqL K H1 a xs) ∧ LcB (Itl K a) g tt te vs σ Q H1) ∨ ((∃ xs, SqT K H1 a xs) ∧ LcB (Itt K a) g tt te vs σ Q H1)
  | _ => False
theorem s_lcA {te0 te : TE} {g : TG} {tt : TT} {vs : List Nat} (h : te0 σ H fun x H1 => LcBody K g tt te vs σ Q x H1) : tLc (iAnyP K te0) g tt te vs σ H Q := h
def LcBodyR (g : TG) (tt : TT) (te : TE) (vs : List Nat) (σ : L2.St) (Q : VK) (ws : List V) (H1 : Hp) : Prop := ∃ j : Int, ws = [.int j] ∧ -(2 ^ 62) ≤ j ∧ j < 2 ^ 62 ∧ LcB (Itr 0 j.toNat) g tt te vs σ Q H1
theorem s_lcR {ta : TA} {te : TE} {g : TG} {tt : TT} {vs : List Nat} (h : ta σ H fun ws H1 => LcBodyR g tt te vs σ Q ws H1) : tLc (iRng1 ta) g tt te vs σ H Q := h
theorem lcb_items {g : TG} {tt : TT} {te : TE} {vs : List Nat} {x : V} (hx : Items K H1 x xs) (h : ∀ J, (∀ i H, Same H1 H → YieldsAt J xs i H) → LcB J g tt te vs σ Q H1) : LcBody K g tt te vs σ Q x H1 := by
  cases x <;> first
    | exact False.elim hx
    | (have e : xs = _ := hx
       subst e
       exact h _ fun i H _ => yields_str _ i H)
    | (rcases hx with hx | hx
       · exact .inl ⟨⟨xs, hx⟩, h _ fun i H s => yields_list (s.seq hx) i⟩
       · exact .inr ⟨⟨xs, hx⟩, h _ fun i H s => yields_tup (Same.sqT s hx) i⟩)
/-- [e for x in y]: each item's value is f x, the heap only grows -/
theorem lcb_map {v : Nat} {te : TE} {x : V} (f : V → V) (hx : Items K H1 x xs) (hl : xs.length ≤ 1000000)
    (hf : ∀ x ∈ xs, ∀ H', Same H1 H' → ∀ Q' : VK, (∀ H'', Same H' H'' → Q' (f x) H'') → te (σ.set v (some x)) H' Q')
    (hq : ∀ D H', H1 D = none → Same H1 H' → H' D = some (.lst (xs.map f)) → Q (.ref D) H') : LcBody K (gName v) tYes te [v] σ Q x H1 :=
  lcb_items hx fun _ hy => lc_map hl hy hf hq
theorem lcr_map {v : Nat} {te : TE} {j : Int} (f : V → V) (h1 : j ≤ 1000000) (h0 : -1000000 ≤ j)
    (hf : ∀ i : Nat, (i : Int) < j → ∀ H', Same H1 H' → ∀ Q' : VK, (∀ H'', Same H' H'' → Q' (f (.int i)) H'') → te (σ.set v (some (.int i))) H' Q')
    (hq : ∀ D H', H1 D = none → Same H1 H' → H' D = some (.lst ((List.range j.toNat).map fun (i : Nat) => f (.int i))) → Q (.ref D) H') : LcBodyR (gName v) tYes te [v] σ Q [.int j] H1 := by
  refine ⟨j, rfl, by omega, by omega, ?_⟩
  refine lc_map (xs := (List.range j.toNat).map fun (i : Nat) => V.int (0 + (i : Int))) (f := f) (by rw [List.length_map, List.length_range]; omega) (fun i H _ => yields_range 0 j.toNat i H) ?_ ?_
  · intro x hx
    obtain ⟨i, hi, rfl⟩ := List.mem_map.mp hx
    have := List.mem_range.mp hi
    rw [Int.zero_add]
    exact hf i (by omega)
  · intro D H' hD s hl
    refine hq D H' hD s ?_
    rw [hl, List.map_map]
    congr 2
    apply List.map_congr_left
    intro i _
    show f (.int (0 + (i : Int))) = _
    rw [Int.zero_add]
def ForB (J : L2.It) (g : TG) (tb : TS) (D : Ends) (σ : L2.St) (H : Hp) : Prop := ∃ W : Nat → Nat → L2.St → Hp → Prop, (∃ m, W 0 m σ H) ∧ ∀ i m σ H, W i m σ H →
      (J.stop i H ∧ D.nx σ H) ∨ (J.go i H ∧ ∃ N : L2.St → Hp → Prop, (∀ σ' H', N σ' H' → ∃ m', m' < m ∧ W (i + 1) m' σ' H') ∧ ∀ x H', J.yld i H x H' → g x σ H' fun σ2 H2 => tb { D with nx := N, ct := N, bk := D.nx } σ2 H2)
def ForBody (K : PySem.W.Frag) (g : TG) (tb : TS) (D : Ends) (σ : L2.St) (x : V) (H1 : Hp) : Prop := match x with
  | .str z => ForB (Its z) g tb D σ H1
  | .ref a => ((∃ xs, SqL K H1 a xs) ∧ ForB (Itl K a) g tb D σ H1) ∨ ((∃ xs, SqT K H1 a xs) ∧ ForB (Itt K a) g tb D σ H1)
  | _ => False
theorem s_forA {te0 : TE} {g : TG} {tb : TS} (h : te0 σ H fun x H1 => ForBody K g tb D σ x H1) : tFor (iAnyP K te0) g tb D σ H := h
def ForBodyR (g : TG) (tb : TS) (D : Ends) (σ : L2.St) (ws : List V) (H1 : Hp) : Prop := ∃ j : Int, ws = [.int j] ∧ -(2 ^ 62) ≤ j ∧ j < 2 ^ 62 ∧ ForB (Itr 0 j.toNat) g tb D σ H1
theorem s_forR {ta : TA} {g : TG} {tb : TS} (h : ta σ H fun ws H1 => ForBodyR g tb D σ ws H1) : tFor (iRng1 ta) g tb D σ H := h
/-- for v in y: an invariant over the turn, the slots, the heap; y's items stand -/
theorem forb_list {g : TG} {tb : TS} {a : Addr} (Pv : Nat → L2.St → Hp → Prop) (h0 : Pv 0 σ H) (hy : ∀ i σ H, i ≤ xs.length → Pv i σ H → SqL K H a xs)
    (hs : ∀ i y σ H, xs[i]? = some y → Pv i σ H → g y σ H fun σ2 H2 => tb { D with nx := Pv (i + 1), ct := Pv (i + 1), bk := D.nx } σ2 H2) (hd : ∀ σ H, Pv xs.length σ H → D.nx σ H) : ForBody K g tb D σ (.ref a) H :=
  .inl ⟨⟨xs, hy 0 σ H (Nat.zero_le _) h0⟩, for_y Pv h0 (fun i σ H hi p => yields_list (hy i σ H hi p) i) hs hd⟩
theorem forb_tup {g : TG} {tb : TS} {a : Addr} (Pv : Nat → L2.St → Hp → Prop) (h0 : Pv 0 σ H) (hy : ∀ i σ H, i ≤ xs.length → Pv i σ H → SqT K H a xs)
    (hs : ∀ i y σ H, xs[i]? = some y → Pv i σ H → g y σ H fun σ2 H2 => tb { D with nx := Pv (i + 1), ct := Pv (i + 1), bk := D.nx } σ2 H2) (hd : ∀ σ H, Pv xs.length σ H → D.nx σ H) : ForBody K g tb D σ (.ref a) H :=
  .inr ⟨⟨xs, hy 0 σ H (Nat.zero_le _) h0⟩, for_y Pv h0 (fun i σ H hi p => yields_tup (hy i σ H hi p) i) hs hd⟩
theorem forb_str {g : TG} {tb : TS} {z : Str} (Pv : Nat → L2.St → Hp → Prop) (h0 : Pv 0 σ H)
    (hs : ∀ i c σ H, z.cps.toList[i]? = some c → Pv i σ H → g (.str ⟨#[c]⟩) σ H fun σ2 H2 => tb { D with nx := Pv (i + 1), ct := Pv (i + 1), bk := D.nx } σ2 H2) (hd : ∀ σ H, Pv z.cps.toList.length σ H → D.nx σ H) : ForBody K g tb D σ (.str z) H :=
  for_y (xs := z.cps.toList.map fun c => V.str ⟨#[c]⟩) Pv h0 (fun i σ H _ _ => yields_str z i H) (fun i y σ H hi p => by
    rw [List.getElem?_map] at hi
    cases e : z.cps.toList[i]? with
    | none => rw [e] at hi; cases hi
    | some c =>
      rw [e] at hi
      have e2 : V.str ⟨#[c]⟩ = y := Option.some.inj hi
      subst e2
      exact hs i c σ H e p) (fun σ H p => hd σ H (by rw [List.length_map] at p; exact p))
theorem forr_inv {g : TG} {tb : TS} {j : Int} (h0 : -1000000000 ≤ j) (h1 : j ≤ 1000000000) (Pv : Nat → L2.St → Hp → Prop) (hp : Pv 0 σ H)
    (hs : ∀ (i : Nat) σ H, (i : Int) < j → Pv i σ H → g (.int i) σ H fun σ2 H2 => tb { D with nx := Pv (i + 1), ct := Pv (i + 1), bk := D.nx } σ2 H2) (hd : ∀ σ H, Pv j.toNat σ H → D.nx σ H) : ForBodyR g tb D σ [.int j] H := by
  refine ⟨j, rfl, by omega, by omega, ?_⟩
  refine for_range (lo := 0) (n := j.toNat) Pv hp (fun i σ H hi p => ?_) hd
  rw [Int.zero_add]
  exact hs i σ H (by omega) p
theorem s_all {a : Addr} {bs : List Bool} (hp : H a = some (.lst (bs.map V.bl))) (h : Q (.bl (bs.all id)) H) : rAll K [.ref a] H Q := ⟨a, bs, rfl, SqL.of hp, h⟩
end
end Px
/-! try with several clauses 'except x as n' -/
namespace L2N
open PySem PySem.Spec PyProof.Rows L2
/-- one clause: its class, the slot of its name, its suite's reading -/
abbrev Cla := Value × Nat × (Addr → Value → Option Addr → TS)
def wList (K : PySem.W.Frag) (Wout : WX) (D : Ends) : List Cla → WX
  | [] => Wout
  | (c, i, ts) :: r => wAs K c i ts (wList K Wout D r) D
inductive Clas (X : Cx) : List ExceptHandler → List Cla → Prop
  | nil : Clas X [] []
  | cons {x n : Str} {c : Value} {i : Nat} {ts : Addr → Value → Option Addr → TS} {b1 : Stmt} {bs : List Stmt} {np p : Pos} {hds : List ExceptHandler} {l : List Cla} (hi : X.N[i]? = some n) (hln : X.env.kindOf n = some .local) (hc : Names X x c)
      (hsu : ∀ (a : Addr) (oe : Obj) (cls : Value) (d : Option Addr) (pn : List (Addr × Obj)), Zn cls d oe → (∃ vs, oe.data = .fields vs) → PSs (X.suite a ((a, oe) :: pn)) (b1 :: bs) (ts a cls d)) (r : Clas X hds l) :
      Clas X (.ExceptHandler (some (.Name x np)) (some n) (b1 :: bs) p :: hds) ((c, i, ts) :: l)
theorem ps_try_list {X : Cx} {body : List Stmt} {h1 : ExceptHandler} {hds : List ExceptHandler} {l : List Cla} {pos : Pos} {tb : WX → TS} {Wout : WX} (hs : X.stack = X.env :: X.outer) (hf : X.env.frame = some X.env.locals) (hN : X.N.Nodup) (tk : Takes X Wout)
    (hb : ∀ (W : WX) (pn : List (Addr × Obj)) (xe : Value → Shared → Prop), Takes (X.tr pn xe) W → PassesOwn (model X.prog X.w) X.A X.env xe → PSs (X.tr pn xe) body (tb W)) (hh : Clas X (h1 :: hds) l) :
    PS X (.Try body (h1 :: hds) [] [] pos) (fun D σ H => tb (wList X.K Wout D l) D σ H) := by
  refine ⟨fun pins s σ H D I h => ?_⟩
  have ok := I.ok
  have hfr : X.A.frames = some (X.env :: X.outer) := (ok.frames).trans (by rw [hs])
  refine wpAny_Try_except ?_
  refine wpAny_mono ((hb (wList X.K Wout D l) (X.pn ++ pins) (fun e s1 => wpAny (model X.prog X.w) X.A (noteFrame e X.env) (fun _ s2 => wpAny (model X.prog X.w) X.A (setFlight e none) (fun _ s3 => wpAny (model X.prog X.w) X.A (handleBy e X.env (h1 :: hds)) (SP X pins D) X.xe s3) X.xe s2) X.xe s1) (fun u s' xx => ?_) PassesOwn.looking).run [] s σ H D (I.toTry _) h) (fun f s1 hsp => ?_) (fun e s1 he => he)
  · obtain ⟨a, B, sI, pins', σ', H', cls, d, rfl, J', nb, up, sky, na, os, ag, w⟩ := xx
    have J : Inv X pins σ' H' sI := J'.ofTry ok
    have sky' : Sky B (X.env :: X.outer) a (Zn cls d) X.env.locals s'.heap := hs ▸ sky
    show wpAny (model X.prog X.w) X.A (noteFrame (.ref a) X.env) _ _ _
    refine Sky.land Zn.steady hfr hf sky' fun h3 fl3 up3 => ?_
    have J3 : Inv X pins σ' H' { s' with heap := h3 } := J.landed nb fl3.1 (up.trans up3) os ag
    obtain ⟨oe3, vs3, he3, hz3, hd3⟩ := fl3.there
    have nfr : a ∉ frs (X.env :: X.outer) := fun hm => by
      obtain ⟨_, o', e', hnf⟩ := fl3.2.2.1.mem hm
      have e4 := he3.symm.trans e'
      cases e4
      exact hnf _ hd3
    have nL : a ≠ X.env.locals := fun z => nfr (List.mem_filterMap.mpr ⟨X.env, List.mem_cons_self, by rw [hf, ← z]⟩)
    have nF : a ∉ X.fs := fun hm => by
      obtain ⟨e, he, q⟩ := List.mem_filterMap.mp hm
      exact nfr (List.mem_filterMap.mpr ⟨e, .tail _ he, q⟩)
    have S3 := J3.suite he3 hd3 na nL nF
    have each : ∀ {hs' : List ExceptHandler} {l' : List Cla}, Clas X hs' l' → wList X.K Wout D l' cls d σ' H' → wpAny (model X.prog X.w) X.A (handleBy (.ref a) X.env hs') (SP X pins D) X.xe { s' with heap := h3 } := by
      intro hs' l' hk
      induction hk with
      | nil =>
        intro w
        refine wpAny_handleBy_nil ?_
        obtain ⟨_, _, _, oe, vs, T, oT, ts', he, hz, hd, g1, hr⟩ := id fl3
        unfold PySem.passOn
        refine wpAny_bind (wpAny_field he hd g1 ?_)
        rw [if_neg (show ¬ ((Value.ref T == Value.none) = true) from nofun)]
        have fin : wpAny (model X.prog X.w) X.A (setFlight (.ref a) X.env.frame) (fun _ s4 => wpAny (model X.prog X.w) X.A (throw (.ref a) : Sem Flow) (SP X pins D) X.xe s4) X.xe { s' with heap := h3 } := by
          rw [hf]
          exact HandSPX.setFlight_upZ fl3 fun h4 hh4 up4 => wpAny_throw (tk _ _ ⟨a, B, sI, pins, σ', H', cls, d, rfl, J, nb, (up.trans up3).trans up4, .inr (.inr (by rw [hs]; exact hh4)), na, os, ag, w⟩)
        first
          | exact wpAny_bind (wpAny_pure (wpAny_bind fin))
          | exact wpAny_bind fin
      | @cons x n c i ts b1 bs np p hds2 l2 hi hln hc hsu r ih =>
        intro w
        obtain ⟨b, hb1, hyes, hno⟩ := w
        refine wpAny_handleBy_cons (codeAny_handlers_test ?_) nofun
        have LT : PySem.W.Looks (model X.prog X.w) h3 (typeOf (.ref a)) cls := fun A Q E s k q => wpAny_typeOf_ref (k _ _ he3) (hz3.1 ▸ q)
        have LM := PySem.W.exm_one (M := model X.prog X.w) J3.kIn LT hb1
        have test : ∀ {Q : Value → Shared → Prop} {E : Value → Shared → Prop}, Q c { s' with heap := h3 } → wpAny (model X.prog X.w) (X.A.mark (some (.ref a))) (eval (.Name x np) X.env) Q E { s' with heap := h3 } := fun {Q E} q => by
          obtain ⟨hg, hdbg, hm | ⟨hm, hv, hnn⟩⟩ := hc
          · exact ld_glob (X := X.suite a ((a, oe3) :: (X.pn ++ pins))) S3 hg hm q hdbg
          · exact ld_blt (X := X.suite a ((a, oe3) :: (X.pn ++ pins))) S3 hg hm hv q hnn hdbg
        refine test (LM.here ?_)
        cases b with
        | false =>
          show wpAny _ X.A (handleBy (.ref a) X.env hds2) _ _ _
          exact ih (hno rfl)
        | true =>
          refine codeAny_handlers_suite_as ?_
          refine HandSPX.lands_againZ fl3 fun h4 fl4 up4 => ?_
          have J4 : Inv X pins σ' H' { s' with heap := h4 } := J.landed nb fl4.1 ((up.trans up3).trans up4) os ag
          obtain ⟨oe4, vs4, he4, hz4, hd4⟩ := fl4.there
          refine store_ok (X := X.suite a ((a, oe4) :: (X.pn ++ pins))) (v := .ref a) (J4.suite he4 hd4 na nL nF) hN hi (.inl hln) rfl (fun s5 S5 => ?_) (.inr hln)
          refine wpAny_mono ((hsu a oe4 cls d (X.pn ++ pins) hz4 ⟨_, hd4⟩).run [] s5 _ H' _ S5 (hyes rfl a na)) (fun f s6 hsp => ?_) (fun _ _ z => z.elim)
          have end_ : ∀ {σ6 : St} {H6 : Hp} {Q : Shared → Prop}, Inv (X.suite a ((a, oe4) :: (X.pn ++ pins))) [] σ6 H6 s6 → (∀ s7, Inv X pins (σ6.set i none) H6 s7 → Q s7) →
              wpAny (model X.prog X.w) X.A (do bindName X.env n .none; unbindBehindTheSuite X.env n p) (fun _ s7 => Q s7) X.xe s6 := fun S6 hq => gone_ok (S6.unsuite ok) hN hi hln hq
          cases f with
          | next =>
            obtain ⟨_, _, S6, q6⟩ := hsp
            exact end_ S6 fun _ J7 => ⟨_, _, J7, q6⟩
          | brk =>
            obtain ⟨_, _, S6, q6⟩ := hsp
            exact end_ S6 fun _ J7 => ⟨_, _, J7, q6⟩
          | cont =>
            obtain ⟨_, _, S6, q6⟩ := hsp
            exact end_ S6 fun _ J7 => ⟨_, _, J7, q6⟩
          | ret u =>
            obtain ⟨_, _, _, S6, r6, q6⟩ := hsp
            exact end_ S6 fun _ J7 => ⟨_, _, _, J7, r6, q6⟩
    exact each hh w
  · cases f with
    | next =>
      obtain ⟨_, _, J', q⟩ := hsp
      exact wpAny_execs_nil ⟨_, _, J'.ofTry ok, q⟩
    | brk =>
      obtain ⟨_, _, J', q⟩ := hsp
      exact ⟨_, _, J'.ofTry ok, q⟩
    | cont =>
      obtain ⟨_, _, J', q⟩ := hsp
      exact ⟨_, _, J'.ofTry ok, q⟩
    | ret u =>
      obtain ⟨_, _, _, J', r, q⟩ := hsp
      exact ⟨_, _, _, J'.ofTry ok, r, q⟩
end L2N
/-! own classes: making, fields, constants -/
namespace Cl
open PySem PySem.Spec PyProof.Rows L2
theorem cxUpN {P : Program} {w : World} : StX.CXUp (L2N.CX P w) := by
  rintro outer s H s2 H2 E e s' un kp ho ⟨a, B, H', cls, d, ea, fl, hok, ub, na, os, ag, he⟩
  refine ⟨a, B, H', cls, d, ea, fl, hok, ?_, na, os.trans ho, ag, he⟩
  exact { keep := fun b o q n hb => ub.keep b o (kp b o q) (un.free b o q n (by simp)) hb
          slot := fun b o q hb => ub.slot b o (kp b o q) hb
          free := fun b o q n => ub.free b o (kp b o q) (un.free b o q n (by simp))
          there := fun b o q hb => ub.there b o (kp b o q) hb
          tups := fun b xs q => ub.tups b xs (un.tups b xs q)
          frzs := fun b o xs q => ub.frzs b o xs (un.frzs b o xs q)
          tbls := fun b ps q => by
            obtain ⟨m1, e1⟩ := un.tbls b ps q
            obtain ⟨m2, e2⟩ := ub.tbls b _ e1
            exact ⟨m1 ++ m2, by rw [e2, Array.append_assoc]⟩ }
theorem passNA {X : Cx} (σ : L2.St) : PassesAt (L2N.CX X.prog X.w) X σ E0 := fun _ _ _ _ _ _ h => by
  obtain ⟨_, _, _, _, _, _, _, _, _, _, _, _, z⟩ := h
  exact z.elim
section
variable {X : Cx} {CX : CXT} {k : Nat} {f C : Addr} {sp : Sp} {E : L2.St → XK} {x : Str} {e : Expr} {es : List Expr} {t : TA} {p pos : Pos}
/-- C(..): a new instance and its dict, then __init__ by its positional promise -/
def tMakeS (C : Addr) (sp : Sp) (E : L2.St → XK) (t : TA) : TE := fun σ H Q => t σ H fun vs H1 => ∀ x dx, H1 x = none → H1 dx = none → dx ≠ x →
  sp (V.ref x :: vs) (upd (upd H1 dx (.own x)) x (.ins C dx [])) (fun v H2 => v = .non ∧ Q (.ref x) H2) (E σ)
theorem run_makeS {pins : List (Addr × Obj)} {σ : L2.St} {H : Hp} {s : Shared} {Q : VK} {us : List Value} {vs : List V} (M : Mk X.K C f) (F : FnR X.prog X.w X.K X.mg X.base CX k f sp) (hr : Room (k + 1) X.A) (hx : PassesAt CX X σ (E σ)) (I : Inv X pins σ H s) (r : Vals vs us)
    (h : ∀ x dx, H x = none → H dx = none → dx ≠ x → sp (V.ref x :: vs) (upd (upd H dx (.own x)) x (.ins C dx [])) (fun v H2 => v = .non ∧ Q (.ref x) H2) (E σ)) :
    wpAny (model X.prog X.w) X.A (call (.ref C) us) (EP X pins σ Q) X.xe s := by
  have hq := h (s.heap.objs.size + 1) s.heap.objs.size (I.hok.fresh (Nat.le_succ _)) (I.hok.fresh (Nat.le_refl _)) (Nat.ne_of_lt (Nat.lt_succ_self _))
  have I2 := Inv.made (C := C) I
  refine wpAny_call (make_map (f := f) I.kIn M.makes M.init (beq_iff_eq.mp M.fn) (codeAny_mono (F _ X.stack _ _ (Value.ref (s.heap.objs.size + 1) :: us) _ _ (E σ) (hr.make C us []) (I2.env0.make C us []) (show Vals (V.ref (s.heap.objs.size + 1) :: vs) (Value.ref (s.heap.objs.size + 1) :: us) from .cons rfl r) hq) fun r s' hq' => ?_))
  cases r with
  | error e => exact hx pins _ _ e s' I2 hq'
  | ok fl =>
    cases fl with
    | ret u =>
      obtain ⟨v, H', I3, rv, ev, q3⟩ := I2.after hq'
      subst ev
      exact ⟨rv, V.ref (s.heap.objs.size + 1), H', I3, rfl, q3⟩
    | _ => exact hq'.elim
theorem pe_makeS (M : Mk X.K C f) (F : FnR X.prog X.w X.K X.mg X.base CX k f sp) (hr : Room (k + 1) X.A) (hg : Gl X x) (hm : X.mg x = some (.ref C)) (hx : ∀ σ, PassesAt CX X σ (E σ)) (ha : PA X (e :: es) t) (hdb : (x == ("__debug__" : Str)) = false := by decide)
    (he : starEach (e :: es) X.env = (false, eval e X.env) :: starEach es X.env := by rfl) (hpl : (backTo pos (starEach es X.env)).any (·.1) = false := by rfl) : PE X (.Call (.Name x p) (e :: es) [] pos) (tMakeS C sp E t) := by
  refine ⟨fun pins s σ H Q I h => wpAny_Call_Name_kw (ld_glob I hg hm ?_ hdb)⟩
  exact PySem.W.callWith_K (h₀ := X.base) I.ok.mod.kin M.kp (thn (ha.run pos pins s σ H _ I h) fun us s1 ⟨vs, H1, I1, r, q⟩ => ⟨I1.kIn, run_makeS M F hr (hx σ) I1 r q⟩) he hpl
theorem pe_makeS0 (M : Mk X.K C f) (F : FnR X.prog X.w X.K X.mg X.base CX k f sp) (hr : Room (k + 1) X.A) (hg : Gl X x) (hm : X.mg x = some (.ref C)) (hx : ∀ σ, PassesAt CX X σ (E σ)) (hdb : (x == ("__debug__" : Str)) = false := by decide) :
    PE X (.Call (.Name x p) [] [] pos) (tMakeS C sp E tNil) :=
  ⟨fun pins s σ H Q I h => wpAny_Call_Name_kw (ld_glob I hg hm (PySem.W.callWith_K0 I.kIn M.kp (run_makeS (us := []) M F hr (hx σ) I .nil h)) hdb)⟩
/-- C(*e) -/
theorem pe_makeSS {te : TE} {sp_ : Pos} (M : Mk X.K C f) (F : FnR X.prog X.w X.K X.mg X.base CX k f sp) (hr : Room (k + 1) X.A) (hg : Gl X x) (hm : X.mg x = some (.ref C)) (hx : ∀ σ, PassesAt CX X σ (E σ)) (he : PE X e te) (hdb : (x == ("__debug__" : Str)) = false := by decide)
    (hst : starEach [.Starred e sp_] X.env = [(true, eval e X.env)] := by rfl) : PE X (.Call (.Name x p) [.Starred e sp_] [] pos) (tMakeS C sp E (StX.tStar X.K te tNil)) := by
  refine ⟨fun pins s σ H Q I h => wpAny_Call_Name_kw (ld_glob I hg hm ?_ hdb)⟩
  refine PySem.W.callWith_S (h₀ := X.base) I.ok.mod.kin M.kp (thn (he.run pins s σ H _ I h) fun v s1 ⟨y, H1, I1, ry, a, xs, ey, hxs, q⟩ => ?_) hst
  subst ey
  obtain rfl : v = Value.ref a := ry
  refine StX.star_any I1 hxs fun us s2 I2 rv => ⟨I2.kIn, ?_⟩
  have q : ∀ x dx, H1 x = none → H1 dx = none → dx ≠ x → sp (V.ref x :: (xs ++ [])) (upd (upd H1 dx (.own x)) x (.ins C dx [])) (fun v H2 => v = .non ∧ Q (.ref x) H2) (E σ) := q
  rw [List.append_nil] at q
  exact run_makeS M F hr (hx σ) I2 rv q
end
theorem toR {P : Program} {w : World} {K : PySem.W.Frag} {mg : Str → Option Value} {base : Heap} {CX : CXT} {k : Nat} {f : Addr} {fd : FuncData} {ps : List Str} {sp : Sp} (F : FnOk P w K mg base CX k f fd ps sp) (hb : Binds K fd ps []) : FnR P w K mg base CX k f sp := by
  intro A outer s H us vs Q E hr e0 r h
  have hl : (us ++ []).length = ps.length := by rw [List.append_nil, ← r.length]; exact F.len _ _ _ _ h
  have z := hb s us (e0.mod.kin.keeps fun b o e => (e0.bs b o e).1) hl
  rw [List.append_nil] at z
  exact F.run A outer s H ⟨us, []⟩ us vs Q E hr e0 z r h
/-! attributes by the class of the object -/
abbrev Alt := Addr → List (Str × V) → L2.St → Hp → VK → Prop
def AltOk (X : Cx) (f : Str) (C : Addr) (r : Alt) : Prop := ∀ (pins : List (Addr × Obj)) (s : Shared) (σ : L2.St) (H : Hp) (a dx : Addr) (fs : List (Str × V)) (Q : VK), Inv X pins σ H s → H a = some (.ins C dx fs) → r a fs σ H Q →
  wpAny (model X.prog X.w) X.A (getAttr (.ref a) f true) (EP X pins σ Q) X.xe s
/-- e.f, by the alternatives of its object's class -/
def tAtt (l : List (Addr × Alt)) (te : TE) : TE := fun σ H Q => te σ H fun x H1 => ∃ (a dx : Addr) (fs : List (Str × V)) (i : Nat) (C : Addr) (r : Alt), x = .ref a ∧ l[i]? = some (C, r) ∧ H1 a = some (.ins C dx fs) ∧ r a fs σ H1 Q
def aFld (f : Str) : Alt := fun _ fs _ H Q => ∃ v, fs.lookup f = some v ∧ Q v H
def aCon (f : Str) (v : V) : Alt := fun _ fs _ H Q => fs.lookup f = none ∧ Q v H
def aProp (sp : Sp) : Alt := fun a _ _ H Q => sp [.ref a] H Q E0
section
variable {X : Cx} {f : Str} {C : Addr} {e : Expr} {te : TE} {pos : Pos}
theorem alt_fld (c : Cls X.K C) (n : NoAttr X.K C f) : AltOk X f C (aFld f) := fun pins s σ H a dx fs Q I ha ⟨v, l, q⟩ => getattr_ok I ha c n l fun u s' I' r => ⟨v, H, I', r, q⟩
theorem alt_con {v : V} {u : Value} (c : Cls X.K C) (n : Con X.K C f v u) : AltOk X f C (aCon f v) := fun pins s σ H a dx fs Q I ha ⟨l, q⟩ => getcon_ok I ha c n l fun s' I' => ⟨v, H, I', n.rel, q⟩
theorem alt_prop {CX : CXT} {k : Nat} {p g : Addr} {fd : FuncData} {ps : List Str} {sp : Sp} (c : Cls X.K C) (hp : PropOf X.K C f p g) (F : FnOk X.prog X.w X.K X.mg X.base CX k g fd ps sp) (hr : Room (k + 1) X.A) (hb : Binds X.K fd ps []) (hx : Passes CX X.nox E0) : AltOk X f C (aProp sp) :=
  fun pins s σ H a dx fs Q I ha q => getprop_ok I ha c hp F hr hb .nil hx q
inductive Alts (X : Cx) (f : Str) : List (Addr × Alt) → Prop
  | nil : Alts X f []
  | cons {C : Addr} {r : Alt} {l : List (Addr × Alt)} : AltOk X f C r → Alts X f l → Alts X f ((C, r) :: l)
theorem Alts.at {l : List (Addr × Alt)} (h : Alts X f l) : ∀ {i : Nat} {r : Alt}, l[i]? = some (C, r) → AltOk X f C r := by
  induction h with
  | nil => intro i r e; cases e
  | cons h _ ih =>
    intro i r e
    cases i with
    | zero => cases e; exact h
    | succ i => exact ih (by simpa using e)
theorem pe_att {l : List (Addr × Alt)} (h : Alts X f l) (he : PE X e te) (hb : attributeBase e f X.env (eval e X.env) = eval e X.env := by rfl) : PE X (.Attribute e f pos) (tAtt l te) := by
  refine ⟨fun pins s σ H Q I q => attr_of hb (thn (he.run pins s σ H _ I q) fun u s1 ⟨x, H1, I1, rx, a, dx, fs, i, C, r, ex, hl, ha, q1⟩ => ?_)⟩
  subst ex
  obtain rfl : u = Value.ref a := rx
  exact h.at hl pins s1 σ H1 a dx fs Q I1 ha q1
/-- e.f = v, by the class -/
def sAtt (l : List Addr) (ta tv : TE) (f : Str) : TS := fun D σ H => tv σ H fun y H1 => ta σ H1 fun x H2 => ∃ a C dx fs, x = .ref a ∧ C ∈ l ∧ H2 a = some (.ins C dx fs) ∧ fs.length < 1000 ∧ D.nx σ (upd H2 a (.ins C dx (putF f y fs)))
theorem ps_att {l : List Addr} {o value : Expr} {ta tv : TE} {pos' : Pos} (h : ∀ C ∈ l, Cls X.K C ∧ NoAttr X.K C f) (ha : PE X o ta) (hv : PE X value tv) (hs : swapsWith value (some (.Attribute o f pos')) pos.line X.env = pure false := by rfl) : PS X (.Assign [.Attribute o f pos'] value pos) (sAtt l ta tv f) := by
  refine ⟨fun pins s σ H D I q => plainObj_wpAny_Assign_Attribute (thn (hv.run pins s σ H _ I q) fun u s1 ⟨y, H1, I1, ry, q1⟩ => thn (ha.run pins s1 σ H1 _ I1 q1) fun ov s2 ⟨x, H2, I2, rx, a, C, dx, fs, ex, hC, ea, l1, q2⟩ => ?_) hs⟩
  subst ex
  obtain rfl : ov = Value.ref a := rx
  exact setattr_ok I2 ea (h C hC).1 (h C hC).2 l1 ry fun s3 I3 => ⟨σ, _, I3, q2⟩
/-- C.f, a constant read of the class itself -/
def tCls (v : V) : TE := fun _ H Q => Q v H
theorem pe_cls {mc : Value} {v : V} {u : Value} {x : Str} {p : Pos} (r : ClX.CRead X.K C mc) (k : ClX.CVal X.K C mc f v u) (hg : Gl X x) (hm : X.mg x = some (.ref C)) (hd : (x == ("__debug__" : Str)) = false := by decide) (hb : attributeBase (.Name x p) f X.env (eval (.Name x p) X.env) = eval (.Name x p) X.env := by rfl) : PE X (.Attribute (.Name x p) f pos) (tCls v) :=
  ⟨fun pins s σ H Q I q => attr_of hb (ld_glob I hg hm (ClX.getcval_ok I r k fun s2 I2 => ⟨v, H, I2, k.rel, q⟩) hd)⟩
end
end Cl
namespace L2
open PySem PySem.Spec PyProof.Rows
/-- isinstance(e, (c1, c2)), e the exception that the suite holds -/
def rIsET (K : PySem.W.Frag) (a : Addr) (cls : Value) (d : Option Addr) : List V → Hp → VK → Prop := fun xs H Q => ∃ (D tp : Addr) (cs : List V) (ws : List Value) (b : Bool), cls = .ref D ∧ ExcC K D ∧ (d = none ∨ ∃ dd fs, d = some dd ∧ H dd = some (.xd fs)) ∧ xs = [.ref a, .ref tp] ∧ H tp = some (.tup cs) ∧ Paired ClsV cs ws ∧ PySem.W.kitAny K (.ref D) ws = some b ∧ Q (.bl b) H
theorem call_isET {X : Cx} {a : Addr} {cls : Value} {d : Option Addr} {oe : Obj} {pn : List (Addr × Obj)} (hz : Zc cls d oe) (hf : ∃ vs, oe.data = .fields vs) : CallR (X.suite a ((a, oe) :: pn)) (.builtin "isinstance") (rIsET X.K a cls d) := by
  intro pins s σ H xs us Q I r h
  obtain ⟨D, tp, cs, ws, b, rfl, C, hd, rfl, hT, k, e, q⟩ := h
  cases r with
  | cons rx rr =>
    cases rr with
    | cons rt rr =>
      cases rr
      cases rx
      rename_i u2
      obtain rfl : u2 = Value.ref tp := rt
      obtain ⟨hget, _⟩ := I.pin (a, oe) (List.mem_append.mpr (.inl List.mem_cons_self))
      obtain ⟨vs, hv⟩ := hf
      have hcl : (PySem.W.clsIn X.K D).isSome = true := by
        obtain ⟨cd, hc, _⟩ := PySem.W.any_some C.hd
        rw [hc]; rfl
      obtain ⟨_, its, rv, o, h1, h2, n, h3⟩ := (show ObjOk X.prog X.w H s.heap tp (.tup cs) from I.hok tp _ hT)
      have e3 := ClsV.all k rv
      subst e3
      obtain ⟨oc0, od0, dt0, sl0⟩ := o
      simp only at h2 h3
      subst h2 h3
      have J : ∃ od, PySem.W.InstAt s.heap a oe D od := by
        obtain ⟨oc, od, oda, osl⟩ := oe
        obtain ⟨h1, h2⟩ := hz
        dsimp only at h1 h2 hv
        subst h1 h2 hv
        rcases hd with rfl | ⟨dd, fs, rfl, hx⟩
        · exact ⟨none, hget, rfl, rfl, trivial⟩
        · have hx2 : ObjOk X.prog X.w H s.heap dd (.xd fs) := I.hok dd _ hx
          obtain ⟨mA, hns, hr⟩ := hx2
          obtain ⟨od, ho, hl⟩ := lookIn_ns hns
          exact ⟨some od, hget, rfl, rfl, ho⟩
      obtain ⟨od, J⟩ := J
      exact PySem.W.kia_tup (PySem.W.kitx_exc hcl C.hg C.hk C.hs C.ha C.hn C.ht C.hm) I.kIn J h1 e (fun z => nomatch z) fun tk => ⟨.bl b, H, I.kept (t' := tk) fun _ _ z => z, rfl, q⟩
end L2
/-! the head's facts of classes -/
namespace Hk
open PySem PySem.W PySem.Spec PyProof.Rows L2 He
def intB (i : Int) : Option (Option Value) → Bool
  | some (some (.int j _)) => decide (j = i)
  | _ => false
def conB (K : Frag) (C : Addr) (f : PySem.Str) (i : Int) : Bool := match findIn K (.ref C) f with
  | some (some (.int j t)) => decide (j = i) && eqO (specialIn K (.int j t) "__get__") (some none)
  | _ => false
theorem conB_ok {K : Frag} {C : Addr} {f : PySem.Str} {i : Int} (h : conB K C f i = true) (cp : copiedNames.contains f = false) : ∃ u, Con K C f (.int i) u := by
  unfold conB at h
  split at h
  · rename_i j t e
    obtain ⟨h1, h2⟩ := ba h
    have e1 := of_decide_eq_true h1
    subst e1
    exact ⟨_, e, ⟨t, rfl⟩, eqO_ok h2, cp⟩
  · cases h
def cvalB (K : Frag) (C : Addr) (f : PySem.Str) (i : Int) : Bool := readsIn K C (.type "type") && (eqO (specialIn K (.ref C) "__getattribute__") (some (some (.builtin "type.__getattribute__"))) && (match findCls K (.ref C) (.type "type") f with
  | some (.val (.int j _)) => decide (j = i)
  | _ => false))
theorem cvalB_ok {K : Frag} {C : Addr} {f : PySem.Str} {i : Int} (h : cvalB K C f i = true) : ClX.CRead K C (.type "type") ∧ ∃ u, ClX.CVal K C (.type "type") f (.int i) u := by
  unfold cvalB at h
  obtain ⟨h1, h⟩ := ba h
  obtain ⟨h2, h3⟩ := ba h
  refine ⟨⟨h1, eqO_ok h2⟩, ?_⟩
  split at h3
  · rename_i j t e
    have e1 := of_decide_eq_true h3
    subst e1
    exact ⟨_, e, ⟨t, rfl⟩⟩
  · cases h3
/-- what isinstance asks of a class of instances -/
structure InsK (K : Frag) (C : Addr) : Prop where
  cl : Cls K C
  ha : findIn K (.ref C) "__class__" = some (some (.builtin "object.__class__"))
  hn : specialIn K (.builtin "object.__class__") "__get__" = some (some (.builtin "getset_descriptor.__get__"))
  ht : takesIn K (.builtin "object.__class__") = some true
  hm : mroIn K C (.type "object") = some true
theorem InsK.ty {K : Frag} {C a dx : Addr} {fs : List (PySem.Str × V)} {H : Hp} (k : InsK K C) (h : H a = some (.ins C dx fs)) : TyX K H (.ref a) (.ref C) := .base (.ins h k.cl k.ha k.hn k.ht k.hm)
def insKB (K : Frag) (C : Addr) : Bool := eqO (findIn K (.ref C) "__class__") (some (some (.builtin "object.__class__"))) && (eqO (specialIn K (.builtin "object.__class__") "__get__") (some (some (.builtin "getset_descriptor.__get__"))) && (decide (takesIn K (.builtin "object.__class__") = some true) && decide (mroIn K C (.type "object") = some true)))
theorem insKB_ok {K : Frag} {C : Addr} (c : Cls K C) (h : insKB K C = true) : InsK K C := by
  unfold insKB at h
  obtain ⟨h1, h⟩ := ba h
  obtain ⟨h2, h⟩ := ba h
  obtain ⟨h3, h4⟩ := ba h
  exact ⟨c, eqO_ok h1, eqO_ok h2, of_decide_eq_true h3, of_decide_eq_true h4⟩
/-- a def with *v: its positional promise -/
theorem okStar {P : Program} {w : World} {K : Frag} {mg : PySem.Str → Option Value} {base : Heap} {x qual pv : PySem.Str} {params : Arguments} {body : List Stmt} {scope : Scope} {kws : List (PySem.Str × V)} {f : Addr} {fd : FuncData} {N ps : List PySem.Str} {k : Nat} {sp : Sp} (F : FunD K x qual params body scope [] kws f fd) (S : FnScope N (ps ++ [pv]) scope)
    (hb : ∀ (kV doc pm : Value) (an : Option Addr) (cdv ct : Value) (us rest : List Value), us.length = ps.length → bindArgs (fnOf x qual params body scope .none kV doc pm an cdv ct) ⟨us ++ rest, []⟩ = (newTuple rest >>= fun t => pure (ps.zip us ++ [(pv, t)])))
    (hbody : ∀ (cdv : Value) (A : Around) (outer : List Env) (s : Shared) (H : Hp) (vs : List V) (Q : VK) (E : XK), Room k (A.deeper (envOfC qual scope s.heap.objs.size f cdv)) → sp vs H Q E →
      ∃ t, PSs (cxOf (L2N.CX P w) P w K mg base N qual scope f cdv A outer s H E) body t ∧ t { nx := fun _ H' => Q .non H', rt := Q } (start N vs) H) :
    FnR P w K mg base (L2N.CX P w) (k + 1) f (fun vs H Q E => ∃ ws rest, vs = ws ++ rest ∧ ws.length = ps.length ∧ rest.length ≤ sizeLine ∧ ∀ p, H p = none → sp (ws ++ [V.ref p]) (upd H p (.tup rest)) Q E) := by
  obtain ⟨oc, od, dV, kV, doc, pm, an, cdv, ct, osl, rfl, lk, hcd, hD, _⟩ := F.ex
  rcases hD with ⟨_, rfl⟩ | ⟨e, _⟩
  rotate_left
  · exact absurd rfl e
  exact StX.fn_star lk hcd S Cl.cxUpN (hb _ _ _ _ _ _) fun A outer s H vs Q E hr h => hbody cdv A outer s H vs Q E hr h
end Hk
/-! lists' methods, sorted, dicts with text keys, comprehensions with if; classes: steps -/
namespace Px
open PySem PySem.Spec PyProof.Rows L2
section
variable {K : PySem.W.Frag} {σ : L2.St} {H H1 : Hp} {D : Ends} {Q : VK} {t : TA} {te to ta tv : TE} {v x y : V} {p : Addr} {xs : List V}
theorem s_bm {T : String} {r : V → List V → Hp → VK → Prop} (h : to σ H fun x H1 => tyV K T x H1 ∧ t σ H1 fun xs H2 => r x xs H2 Q) : tBM K T r to t σ H Q := h
theorem s_tyL {r : V → List V → Hp → VK → Prop} (hp : H p = some (.lst xs)) (h : t σ H fun xs H2 => r (.ref p) xs H2 Q) : tyV K "list" (.ref p) H ∧ t σ H fun xs H2 => r (.ref p) xs H2 Q := ⟨.inl ⟨rfl, _, SqL.of hp⟩, h⟩
theorem s_app (hp : H p = some (.lst xs)) (hl : xs.length ≤ 1000000) (h : Q .non (upd H p (.lst (xs ++ [y])))) : rAppend (.ref p) [y] H Q := ⟨p, xs, y, rfl, rfl, hp, by rw [sizeLine_eq]; omega, h⟩
theorem s_sort {ss : List Str} (hp : H p = some (.lst (ss.map V.str))) (hl : ss.length < 64) (h : ∀ ys q, ys.Perm ss → sortedS ys = true → H q = none → Q (.ref q) (upd H q (.lst (ys.map V.str)))) : rSortedS K [.ref p] H Q := ⟨p, ss, rfl, SqL.of hp, hl, h⟩
theorem s_inL {neg : Bool} (hp : H p = some (.lst xs)) (fx : flatV x = true) (fs : xs.all flatV = true) (h : Q (.bl (tgtIn neg (inV x xs))) H) : rInP K neg x (.ref p) H Q := .inl ⟨p, xs, rfl, .inl (SqL.of hp), fx, fs, h⟩
theorem s_inT {neg : Bool} (hp : H p = some (.tup xs)) (fx : flatV x = true) (fs : xs.all flatV = true) (h : Q (.bl (tgtIn neg (inV x xs))) H) : rInP K neg x (.ref p) H Q := .inl ⟨p, xs, rfl, .inr (SqT.of hp), fx, fs, h⟩
theorem flat_strs (ss : List Str) : (ss.map V.str).all flatV = true := by rw [List.all_map]; exact List.all_eq_true.mpr fun _ _ => rfl
theorem flat_ints (ss : List Int) : (ss.map V.int).all flatV = true := by rw [List.all_map]; exact List.all_eq_true.mpr fun _ _ => rfl
theorem inV_strs (z : Str) (ss : List Str) : inV (.str z) (ss.map V.str) = decide (z ∈ ss) := by
  unfold inV
  rw [List.any_map, Bool.eq_iff_iff, List.any_eq_true, decide_eq_true_iff]
  constructor
  · rintro ⟨y, hy, e⟩
    have e2 : (y == z) = true := e
    rw [← eq_of_beq e2]
    exact hy
  · intro h
    exact ⟨z, h, show (z == z) = true from beq_self_eq_true z⟩
theorem inV_ints (z : Int) (ss : List Int) : inV (.int z) (ss.map V.int) = decide (z ∈ ss) := by
  unfold inV
  rw [List.any_map, Bool.eq_iff_iff, List.any_eq_true, decide_eq_true_iff]
  constructor
  · rintro ⟨y, hy, e⟩
    have e2 : (y == z) = true := e
    rw [← eq_of_beq e2]
    exact hy
  · intro h
    exact ⟨z, h, show (z == z) = true from beq_self_eq_true z⟩
theorem s_inSL {neg : Bool} {z : Str} {ss : List Str} (hp : H p = some (.lst (ss.map V.str))) (h : Q (.bl (tgtIn neg (decide (z ∈ ss)))) H) : rInP K neg (.str z) (.ref p) H Q :=
  s_inL hp rfl (flat_strs ss) (by rw [inV_strs]; exact h)
theorem s_inST {neg : Bool} {z : Str} {ss : List Str} (hp : H p = some (.tup (ss.map V.str))) (h : Q (.bl (tgtIn neg (decide (z ∈ ss)))) H) : rInP K neg (.str z) (.ref p) H Q :=
  s_inT hp rfl (flat_strs ss) (by rw [inV_strs]; exact h)
/-! dicts that keep True for texts -/
def ksD (ks : List Str) : HO := .dK (ks.map fun k => (Sum.inr k, V.bl true))
theorem s_dnew (h : ∀ p, H p = none → Q (.ref p) (upd H p (ksD []))) : tDNewK σ H Q := h
theorem val_ks (z : Str) (ks : List Str) : (valV (ks.map fun k => ((Sum.inr k : Key), V.bl true)) (Sum.inr z)).isSome = decide (z ∈ ks) := by
  rw [← valV_any, List.any_map, Bool.eq_iff_iff, List.any_eq_true, decide_eq_true_iff]
  constructor
  · rintro ⟨y, hy, e⟩
    have e2 : (Sum.inr y : Key) = Sum.inr z := of_decide_eq_true e
    cases e2
    exact hy
  · intro h
    exact ⟨z, h, decide_eq_true rfl⟩
theorem s_inD {neg : Bool} {z : Str} {ks : List Str} (hp : H p = some (ksD ks)) (h : Q (.bl (tgtIn neg (decide (z ∈ ks)))) H) : rInP K neg (.str z) (.ref p) H Q :=
  .inr ⟨_, DGet.k (k := Sum.inr z) hp, by rw [val_ks]; exact h⟩
theorem put_ks (z : Str) (ks : List Str) : putK (ks.map fun k => ((Sum.inr k : Key), V.bl true)) (Sum.inr z) (.bl true) = (if z ∈ ks then ks else ks ++ [z]).map fun k => ((Sum.inr k : Key), V.bl true) := by
  unfold putK
  rw [valV_any, val_ks]
  by_cases h : z ∈ ks
  · rw [if_pos (decide_eq_true h), if_pos h, List.map_map]
    apply List.map_congr_left
    intro k _
    show (if (Sum.inr k : Key) = Sum.inr z then _ else _) = _
    split <;> rfl
  · rw [if_neg (by rw [decide_eq_false h]; exact Bool.false_ne_true), if_neg h, List.map_append]
    rfl
theorem s_putD {z : Str} {ks : List Str} {QH : Hp → Prop} (hp : H p = some (ksD ks)) (hl : ks.length ≤ 1000000) (h : QH (upd H p (ksD (if z ∈ ks then ks else ks ++ [z])))) : rSetP (.ref p) (.str z) (.bl true) H QH := by
  refine .inr ⟨_, DPut.k (k := Sum.inr z) hp (by rw [List.length_map, sizeLine_eq]; omega), ?_⟩
  rw [put_ks]
  exact h
theorem upd_back {d : Addr} {u w : HO} (h : H d = some u) : upd (upd H d w) d u = H := by
  rw [upd_upd]
  funext b
  by_cases e : b = d
  · subst e; rw [upd_same, h]
  · rw [upd_ne e]
/-- [e for x in a dict of texts] -/
theorem lc_keys {i v : Nat} {te : TE} {d : Addr} {ks : List Str} (f : Str → V) (hv : σ[i]? = some (some (.ref d))) (hd : H d = some (ksD ks)) (hl : ks.length ≤ 1000000)
    (hf : ∀ z ∈ ks, ∀ H' od, H' d = some (.frz od (ksD ks)) → (∀ b o, H b = some o → b ≠ d → H' b = some o) → ∀ Q' : VK, (∀ H'', Same H' H'' → Q' (f z) H'') → te (σ.set v (some (.str z))) H' Q')
    (hq : ∀ D H', H D = none → Same H H' → H' D = some (.lst (ks.map f)) → Q (.ref D) H') : tLockE (tLc (iKeys (tVar i)) (gName v) tYes te [v]) σ H Q := by
  refine ⟨d, ksD ks, hd, trivial, fun od => ?_⟩
  refine ⟨_, hv, d, od, rfl, .inl ⟨_, upd_same, ?_⟩⟩
  have hy : ∀ j H', Same (upd H d (.frz od (ksD ks))) H' → YieldsAt (Itk d od (ks.map fun k => ((Sum.inr k : Key), V.bl true))) (ks.map V.str) j H' := by
    intro j H' sm
    have hd' := sm _ _ (upd_same (H := H) (a := d) (o := HO.frz od (ksD ks)))
    refine ⟨fun hj => ⟨⟨hd', by simpa using hj⟩, fun x H'' y => ?_⟩, fun hj => ⟨hd', by simpa using hj⟩⟩
    obtain ⟨e, k, w, hk, rfl⟩ := y
    refine ⟨e, ?_⟩
    rw [List.getElem?_map] at hk ⊢
    cases e2 : ks[j]? with
    | none => rw [e2] at hk; cases hk
    | some z =>
      rw [e2] at hk
      have hk2 : ((Sum.inr z : Key), V.bl true) = (k, w) := Option.some.inj hk
      cases hk2
      rfl
  have old : ∀ b o, H b = some o → b ≠ d → (upd H d (.frz od (ksD ks))) b = some o := fun b o e n => by rw [upd_ne n]; exact e
  show LcB (Itk d od (ks.map fun k => ((Sum.inr k : Key), V.bl true))) (gName v) tYes te [v] σ (fun v H' => H' d = some (.frz od (ksD ks)) ∧ Q v (upd H' d (ksD ks))) (upd H d (.frz od (ksD ks)))
  refine lc_map (Q := fun v H' => H' d = some (.frz od (ksD ks)) ∧ Q v (upd H' d (ksD ks))) (σ := σ) (v := v) (te := te) (f := fun x => match x with | .str z => f z | _ => .non) (by rw [List.length_map]; exact hl) hy ?_ ?_
  · intro x hx H' sm Q' hQ
    obtain ⟨z, hz, rfl⟩ := List.mem_map.mp hx
    exact hf z hz H' od (sm _ _ upd_same) (fun b o e n => sm _ _ (old b o e n)) Q' hQ
  · intro D H' hD sm hr
    have hDd : D ≠ d := fun e => by rw [e, upd_same] at hD; cases hD
    rw [upd_ne hDd] at hD
    refine ⟨sm _ _ upd_same, hq D _ hD (fun b o e => ?_) ?_⟩
    · by_cases n : b = d
      · subst n
        rw [upd_same, ← hd, e]
      · rw [upd_ne n]
        exact sm _ _ (old b o e n)
    · rw [upd_ne hDd, hr, List.map_map]
      rfl
/-- [e for x in y if c]: the heap only grows -/
theorem lc_filt {J : L2.It} {v : Nat} {tt : TT} {te : TE} {f : V → V} {c : V → Bool} (hx : xs.length ≤ 1000000) (hy : ∀ i H, Same H1 H → YieldsAt J xs i H)
    (hc : ∀ x ∈ xs, ∀ H', Same H1 H' → ∀ Q' : Bool → Hp → Prop, (∀ H'', Same H' H'' → Q' (c x) H'') → tt (σ.set v (some x)) H' Q')
    (hf : ∀ x ∈ xs, c x = true → ∀ H', Same H1 H' → ∀ Q' : VK, (∀ H'', Same H' H'' → Q' (f x) H'') → te (σ.set v (some x)) H' Q')
    (hq : ∀ D H', H1 D = none → Same H1 H' → H' D = some (.lst ((xs.filter c).map f)) → Q (.ref D) H') : LcB J (gName v) tt te [v] σ Q H1 := by
  intro Dr hD
  refine lc_y (xs := xs) (fun i H => Same H1 H ∧ H Dr = some (.lst (((xs.take i).filter c).map f))) ⟨same_new hD, by simp [upd_same]⟩ (fun i H _ p => hy i H p.1) ?_ (fun H p => hq Dr H hD p.1 (by rw [p.2, List.take_length]))
  rintro i x H hi ⟨sm, hl⟩
  have e1 : wipe σ [v] = σ.set v none := rfl
  rw [e1]
  have e2 : (σ.set v none).set v (some x) = σ.set v (some x) := by rw [List.set_set]
  have e3 : wipe (σ.set v (some x)) [v] = σ.set v none := by show (σ.set v (some x)).set v none = _; rw [List.set_set]
  unfold gName
  rw [e2]
  refine ⟨e3, ?_⟩
  have hm := List.mem_of_getElem? hi
  refine hc x hm H sm _ fun H2 s2 => ?_
  cases hcx : c x with
  | false =>
    rw [if_neg Bool.false_ne_true]
    refine ⟨sm.trans s2, ?_⟩
    rw [s2 _ _ hl, take_more hi, List.filter_append, List.filter_cons_of_neg (by rw [hcx]; exact Bool.false_ne_true), List.filter_nil, List.append_nil]
  | true =>
    rw [if_pos rfl]
    refine hf x hm hcx H2 (sm.trans s2) _ fun H3 s3 => ?_
    refine ⟨_, s3 _ _ (s2 _ _ hl), ?_, fun b o e => ?_, ?_⟩
    · rw [List.length_map, sizeLine_eq]
      have h1 := List.length_filter_le c (xs.take i)
      rw [List.length_take] at h1
      omega
    · rw [upd_ne (ne_of_none e hD)]
      exact s3 _ _ (s2 _ _ (sm _ _ e))
    · rw [upd_same, take_more hi, List.filter_append, List.filter_cons_of_pos hcx, List.filter_nil, List.map_append]
      rfl
theorem lcb_filt {v : Nat} {tt : TT} {te : TE} {x : V} (f : V → V) (c : V → Bool) (hx : Items K H1 x xs) (hl : xs.length ≤ 1000000)
    (hc : ∀ x ∈ xs, ∀ H', Same H1 H' → ∀ Q' : Bool → Hp → Prop, (∀ H'', Same H' H'' → Q' (c x) H'') → tt (σ.set v (some x)) H' Q')
    (hf : ∀ x ∈ xs, c x = true → ∀ H', Same H1 H' → ∀ Q' : VK, (∀ H'', Same H' H'' → Q' (f x) H'') → te (σ.set v (some x)) H' Q')
    (hq : ∀ D H', H1 D = none → Same H1 H' → H' D = some (.lst ((xs.filter c).map f)) → Q (.ref D) H') : LcBody K (gName v) tt te [v] σ Q x H1 :=
  lcb_items hx fun _ hy => lc_filt hl hy hc hf hq
theorem s_tupL (hp : H p = some (.lst xs)) (h : ∀ l, H l = none → Q (.ref l) (upd H l (.tup xs))) : rTupleP K [.ref p] H Q := ⟨p, xs, rfl, .inl ⟨SqL.of hp, h⟩⟩
theorem s_tupT (hp : H p = some (.tup xs)) (h : Q (.ref p) H) : rTupleP K [.ref p] H Q := ⟨p, xs, rfl, .inr ⟨SqT.of hp, h⟩⟩
theorem s_listT (hp : H p = some (.tup xs)) (h : ∀ l, H l = none → Q (.ref l) (upd H l (.lst xs))) : rListP K [.ref p] H Q := ⟨p, xs, rfl, .inr (SqT.of hp), h⟩
theorem s_listS (hp : H p = some (.lst xs)) (h : ∀ l, H l = none → Q (.ref l) (upd H l (.lst xs))) : rListP K [.ref p] H Q := ⟨p, xs, rfl, .inl (SqL.of hp), h⟩
theorem s_strS {z : Str} (h : Q (.str z) H) : rStrP [.str z] H Q := h
theorem s_strI {i : Int} (hl : i.natAbs.log2 < 1920) (h : Q (.str (toString i)) H) : rStrP [.int i] H Q := ⟨hl, h⟩
/-! classes -/
theorem s_make {C : Addr} {sp : Sp} {E : L2.St → XK} (h : t σ H fun vs H1 => ∀ x dx, H1 x = none → H1 dx = none → dx ≠ x → sp (V.ref x :: vs) (upd (upd H1 dx (.own x)) x (.ins C dx [])) (fun v H2 => v = .non ∧ Q (.ref x) H2) (E σ)) : Cl.tMakeS C sp E t σ H Q := h
theorem s_cls {v : V} (h : Q v H) : Cl.tCls v σ H Q := h
theorem s_att {l : List (Addr × Cl.Alt)} (h : te σ H fun x H1 => ∃ (a dx : Addr) (fs : List (Str × V)) (i : Nat) (C : Addr) (r : Cl.Alt), x = .ref a ∧ l[i]? = some (C, r) ∧ H1 a = some (.ins C dx fs) ∧ r a fs σ H1 Q) : Cl.tAtt l te σ H Q := h
theorem s_setA {l : List Addr} {f : Str} (h : tv σ H fun y H1 => ta σ H1 fun x H2 => ∃ a C dx fs, x = .ref a ∧ C ∈ l ∧ H2 a = some (.ins C dx fs) ∧ fs.length < 1000 ∧ D.nx σ (upd H2 a (.ins C dx (putF f y fs)))) : Cl.sAtt l ta tv f D σ H := h
end
end Px
/-! operators of own classes -/
namespace Cl
open PySem PySem.Spec PyProof.Rows L2
abbrev R2S := L2.St → R2
def OpS (X : Cx) (f : Value → Value → Sem Value) (r : R2S) : Prop := ∀ (pins : List (Addr × Obj)) (s : Shared) (σ : L2.St) (H : Hp) (x y : V) (v u : Value) (Q : VK), Inv X pins σ H s → RelV x v → RelV y u → r σ x y H Q → wpAny (model X.prog X.w) X.A (f v u) (EP X pins σ Q) X.xe s
def tOpS (r : R2S) (ta tb : TE) : TE := fun σ H Q => ta σ H fun x H1 => tb σ H1 fun y H2 => r σ x y H2 Q
section
variable {X : Cx} {CX : CXT} {k : Nat} {f C : Addr} {sp : Sp} {E : L2.St → XK} {a b : Expr} {ta tb : TE} {pos : Pos} {r : R2S}
theorem pe_opS {op : Operator} (ho : OpS X (binaryOp op) r) (ha : PE X a ta) (hb : PE X b tb) : PE X (.BinOp a op b pos) (tOpS r ta tb) :=
  ⟨fun pins s σ H Q I h => wpAny_BinOp (binT ha hb I h fun v u s2 x y H2 I2 rx ry q => ho pins s2 σ H2 x y v u Q I2 rx ry q)⟩
theorem pe_cmpS {op : CmpOp} (ho : OpS X (compareOp op) r) (ha : PE X a ta) (hb : PE X b tb) (hm : behindInMarks op b = false) : PE X (.Compare a [op] [b] pos) (tOpS r ta tb) :=
  ⟨fun pins s σ H Q I h => wpAny_Compare1 (binT ha hb I h fun v u s2 x y H2 I2 rx ry q => ho pins s2 σ H2 x y v u Q I2 rx ry q) hm⟩
theorem pt_cmpS {op : CmpOp} (ho : OpS X (compareOp op) r) (ha : PE X a ta) (hb : PE X b tb) (hm : behindInMarks op b = false) : PT X (.Compare a [op] [b] pos) (tTest (tOpS r ta tb)) := by
  refine ⟨fun pins s σ H Q I h => wpAny_isTrue_Compare1 (thn (ha.run pins s σ H _ I h) fun v s1 ⟨x, H1, I1, r1, q1⟩ => thn (hb.run pins s1 σ H1 _ I1 q1) fun u s2 ⟨y, H2, I2, r2, q2⟩ => thn (ho pins s2 σ H2 x y v u _ I2 r1 r2 q2) fun c s3 ⟨z, H3, I3, r3, k, e, q3⟩ => ?_) hm⟩
  subst e
  cases r3
  exact wpAny_truthy_bool ⟨H3, I3, q3⟩
/-- a def is run by its positional promise, its exceptions by the slots -/
theorem run_RS {pins : List (Addr × Obj)} {σ : L2.St} {H : Hp} {s : Shared} {Q : VK} {us : List Value} {vs : List V} (F : FnR X.prog X.w X.K X.mg X.base CX k f sp) (hr : Room k X.A) (hx : PassesAt CX X σ (E σ)) (I : Inv X pins σ H s) (rv : Vals vs us) (h : sp vs H Q (E σ)) :
    wpAny (model X.prog X.w) X.A (call (.ref f) us) (EP X pins σ Q) X.xe s := by
  refine wpAny_call (codeAny_mono (F X.A X.stack s H us vs Q (E σ) hr I.env0 rv h) fun r s' hq => ?_)
  cases r with
  | error e => exact hx pins H s e s' I hq
  | ok fl =>
    cases fl with
    | ret u => exact I.after hq
    | _ => exact hq.elim
theorem run_RS1 {pins : List (Addr × Obj)} {σ : L2.St} {H : Hp} {s : Shared} {Q : VK} {us : List Value} {vs : List V} (F : FnR X.prog X.w X.K X.mg X.base CX k f sp) (hr : Room (k + 1) X.A) (hx : PassesAt CX X σ (E σ)) (I : Inv X pins σ H s) (rv : Vals vs us) (h : sp vs H Q (E σ)) :
    wpAny (model X.prog X.w) X.A.in1 (call (.ref f) us) (EP X pins σ Q) X.xe s := by
  refine wpAny_call (codeAny_mono (F X.A.in1 X.stack s H us vs Q (E σ) hr.in1 I.env0.in1 rv h) fun r s' hq => ?_)
  cases r with
  | error e => exact hx pins H s e s' I hq
  | ok fl =>
    cases fl with
    | ret u => exact I.after hq
    | _ => exact hq.elim
theorem back_of {pins : List (Addr × Obj)} {σ : L2.St} {Q : VK} {v : Value} {s' : Shared} (h : EP X pins σ Q v s') : PySem.W.CmpBack (EP X pins σ Q) v s' := by
  obtain ⟨x, H', I, rv, q⟩ := id h
  unfold PySem.W.CmpBack
  cases v <;> first
    | exact h
    | (exfalso; cases x <;> first
        | (cases rv; done)
        | (obtain ⟨_, e⟩ := rv; cases e))
/-- alternatives by the class of the left object -/
def AltB (X : Cx) (f : Value → Value → Sem Value) (C : Addr) (sp : Sp) (E : L2.St → XK) : Prop := ∀ (pins : List (Addr × Obj)) (s : Shared) (σ : L2.St) (H : Hp) (a b dx dy : Addr) (fs gs : List (Str × V)) (Q : VK), Inv X pins σ H s → H a = some (.ins C dx fs) → H b = some (.ins C dy gs) → sp [.ref a, .ref b] H Q (E σ) →
  wpAny (model X.prog X.w) X.A (f (.ref a) (.ref b)) (EP X pins σ Q) X.xe s
structure OwnOp (K : PySem.W.Frag) (C : Addr) (m : Str) (f : Addr) : Prop where
  at_ : PySem.W.findIn K (.ref C) m = some (some (.ref f))
  fn : PySem.W.isFn K (.ref f) = true
  sf : PySem.W.selfFirst K C = true
theorem alt_bin {op : Operator} {md : Str} (e : PySem.dunder op.info.2 = md) (o : OwnOp X.K C md f) (F : FnR X.prog X.w X.K X.mg X.base CX k f sp) (hr : Room k X.A) (hx : ∀ σ, PassesAt CX X σ (E σ)) : AltB X (binaryOp op) C sp E := by
  subst e
  intro pins s σ H a b dx dy fs gs Q I ha hb h
  obtain ⟨mA, J, _⟩ := ins_get I.hok ha
  obtain ⟨mB, J', _⟩ := ins_get I.hok hb
  obtain ⟨od, J, _⟩ := J.look
  obtain ⟨od', J', _⟩ := J'.look
  obtain ⟨m, hF⟩ := I.fr
  exact PySem.W.binop_K hF I.ok.mod.kin J J'.type o.sf o.at_ o.fn (wpAny_mono (run_RS F hr (hx σ) I (show Vals [V.ref a, V.ref b] [Value.ref a, Value.ref b] from .cons rfl (.cons rfl .nil)) h) (fun _ _ z => back_of z) fun _ _ z => z)
theorem alt_cmp {op : CmpOp} {md : Str} (e : (cmpInfo op).2.1 = md) (o : OwnOp X.K C md f) (F : FnR X.prog X.w X.K X.mg X.base CX k f sp) (hr : Room k X.A) (hx : ∀ σ, PassesAt CX X σ (E σ)) (hop : ∀ x y, compareOp op x y = richCompare op x y := by intro x y; rfl) : AltB X (compareOp op) C sp E := by
  subst e
  intro pins s σ H a b dx dy fs gs Q I ha hb h
  obtain ⟨mA, J, _⟩ := ins_get I.hok ha
  obtain ⟨mB, J', _⟩ := ins_get I.hok hb
  obtain ⟨od, J, _⟩ := J.look
  obtain ⟨od', J', _⟩ := J'.look
  obtain ⟨m, hF⟩ := I.fr
  rw [hop]
  exact PySem.W.cmp_K (op := op) (tb := .ref C) hr.units0 hF I.ok.mod.kin J J'.type (by simp [PySem.W.notFirst]) o.at_ o.fn (wpAny_mono (run_RS F hr (hx σ) I (show Vals [V.ref a, V.ref b] [Value.ref a, Value.ref b] from .cons rfl (.cons rfl .nil)) h) (fun _ _ z => back_of z) fun _ _ z => z)
inductive AltBs (X : Cx) (f : Value → Value → Sem Value) (E : L2.St → XK) : List (Addr × Sp) → Prop
  | nil : AltBs X f E []
  | cons {C : Addr} {sp : Sp} {l : List (Addr × Sp)} : AltB X f C sp E → AltBs X f E l → AltBs X f E ((C, sp) :: l)
theorem AltBs.at {g : Value → Value → Sem Value} {l : List (Addr × Sp)} (h : AltBs X g E l) : ∀ {i : Nat}, l[i]? = some (C, sp) → AltB X g C sp E := by
  induction h with
  | nil => intro i e; cases e
  | cons h _ ih =>
    intro i e
    cases i with
    | zero => cases e; exact h
    | succ i => exact ih (by simpa using e)
/-- x op y: by the kinds of built-in values, or both of one own class -/
def rOwn2 (l : List (Addr × Sp)) (E : L2.St → XK) (base : R2) : R2S := fun σ x y H Q => base x y H Q ∨ ∃ (i : Nat) (C : Addr) (sp : Sp) (a b dx dy : Addr) (fs gs : List (Str × V)), l[i]? = some (C, sp) ∧ x = .ref a ∧ y = .ref b ∧ H a = some (.ins C dx fs) ∧ H b = some (.ins C dy gs) ∧ sp [.ref a, .ref b] H Q (E σ)
theorem op_own {g : Value → Value → Sem Value} {l : List (Addr × Sp)} {base : R2} (h : AltBs X g E l) (hb : OpR X g base) : OpS X g (rOwn2 l E base) := by
  intro pins s σ H x y v u Q I rx ry q
  rcases q with q | ⟨i, C, sp, a, b, dx, dy, fs, gs, hl, rfl, rfl, h1, h2, q⟩
  · exact hb pins s σ H x y v u Q I rx ry q
  · cases rx
    cases ry
    exact h.at hl pins s σ H a b dx dy fs gs Q I h1 h2 q
/-- no built-in kinds -/
def rNo : R2 := fun _ _ _ _ => False
theorem op_no {g : Value → Value → Sem Value} : OpR X g rNo := fun _ _ _ _ _ _ _ _ _ _ _ _ h => h.elim
/-! x in an own container -/
def AltI (X : Cx) (C : Addr) (sp : Sp) (E : L2.St → XK) : Prop := ∀ (neg : Bool) (pins : List (Addr × Obj)) (s : Shared) (σ : L2.St) (H : Hp) (x : V) (v : Value) (b dy : Addr) (gs : List (Str × V)) (Q : VK), Inv X pins σ H s → RelV x v → H b = some (.ins C dy gs) → sp [.ref b, x] H (fun z H' => ∃ c, z = .bl c ∧ Q (.bl (Px.tgtIn neg c)) H') (E σ) →
  wpAny (model X.prog X.w) X.A (compareOp (if neg then .NotIn else .In) v (.ref b)) (EP X pins σ Q) X.xe s
theorem alt_in (o : OwnOp X.K C "__contains__" f) (F : FnR X.prog X.w X.K X.mg X.base CX k f sp) (hr : Room k X.A) (hx : ∀ σ, PassesAt CX X σ (E σ)) : AltI X C sp E := by
  intro neg pins s σ H x v b dy gs Q I rx hb h
  obtain ⟨mB, J, _⟩ := ins_get I.hok hb
  obtain ⟨od, J, _⟩ := J.look
  obtain ⟨m, hF⟩ := I.fr
  have go := run_RS F hr (hx σ) I (.cons (show RelV (V.ref b) (Value.ref b) from rfl) (.cons rx .nil)) h
  cases neg with
  | false => exact PySem.W.in_K hF I.ok.mod.kin J o.at_ o.fn (wpAny_mono go (fun r s' ⟨z, H', I', rz, c, ez, q⟩ => by subst ez; cases rz; exact wpAny_truthy_bool ⟨.bl c, H', I', rfl, q⟩) fun _ _ z => z)
  | true => exact PySem.W.notIn_K hF I.ok.mod.kin J o.at_ o.fn (wpAny_mono go (fun r s' ⟨z, H', I', rz, c, ez, q⟩ => by subst ez; cases rz; exact wpAny_truthy_bool ⟨.bl (!c), H', I', rfl, q⟩) fun _ _ z => z)
inductive AltIs (X : Cx) (E : L2.St → XK) : List (Addr × Sp) → Prop
  | nil : AltIs X E []
  | cons {C : Addr} {sp : Sp} {l : List (Addr × Sp)} : AltI X C sp E → AltIs X E l → AltIs X E ((C, sp) :: l)
theorem AltIs.at {l : List (Addr × Sp)} (h : AltIs X E l) : ∀ {i : Nat}, l[i]? = some (C, sp) → AltI X C sp E := by
  induction h with
  | nil => intro i e; cases e
  | cons h _ ih =>
    intro i e
    cases i with
    | zero => cases e; exact h
    | succ i => exact ih (by simpa using e)
def rOwnI (l : List (Addr × Sp)) (E : L2.St → XK) (neg : Bool) (base : R2) : R2S := fun σ x y H Q => base x y H Q ∨ ∃ (i : Nat) (C : Addr) (sp : Sp) (b dy : Addr) (gs : List (Str × V)), l[i]? = some (C, sp) ∧ y = .ref b ∧ H b = some (.ins C dy gs) ∧ sp [.ref b, x] H (fun z H' => ∃ c, z = .bl c ∧ Q (.bl (Px.tgtIn neg c)) H') (E σ)
theorem op_ownI {l : List (Addr × Sp)} {base : R2} {neg : Bool} (h : AltIs X E l) (hb : OpR X (compareOp (if neg then .NotIn else .In)) base) : OpS X (compareOp (if neg then .NotIn else .In)) (rOwnI l E neg base) := by
  intro pins s σ H x y v u Q I rx ry q
  rcases q with q | ⟨i, C, sp, b, dy, gs, hl, rfl, h2, q⟩
  · exact hb pins s σ H x y v u Q I rx ry q
  · cases ry
    exact h.at hl neg pins s σ H x v b dy gs Q I rx h2 q
end
theorem dd_or : PySem.dunder Operator.BitOr.info.2 = ("__or__" : Str) := by decide +kernel
theorem dd_and : PySem.dunder Operator.BitAnd.info.2 = ("__and__" : Str) := by decide +kernel
theorem dd_xor : PySem.dunder Operator.BitXor.info.2 = ("__xor__" : Str) := by decide +kernel
theorem dd_sub : PySem.dunder Operator.Sub.info.2 = ("__sub__" : Str) := by decide +kernel
theorem dd_add : PySem.dunder Operator.Add.info.2 = ("__add__" : Str) := by decide +kernel
theorem dd_mul : PySem.dunder Operator.Mult.info.2 = ("__mul__" : Str) := by decide +kernel
theorem dd_eq : (cmpInfo CmpOp.Eq).2.1 = ("__eq__" : Str) := by decide +kernel
theorem dd_lt : (cmpInfo CmpOp.Lt).2.1 = ("__lt__" : Str) := by decide +kernel
theorem dd_le : (cmpInfo CmpOp.LtE).2.1 = ("__le__" : Str) := by decide +kernel
theorem dd_gt : (cmpInfo CmpOp.Gt).2.1 = ("__gt__" : Str) := by decide +kernel
theorem dd_ge : (cmpInfo CmpOp.GtE).2.1 = ("__ge__" : Str) := by decide +kernel
end Cl
/-! walking own objects: __iter__ says return iter(self.f), f a tuple -/
namespace Cl
open PySem PySem.Spec PyProof.Rows L2
/-- an iterator of the tuple at t, as it begins -/
def TiO (t it : Addr) : HO := .ext fun h => h.IsTupleIter it t 0
theorem tiO_ok {P : Program} {w : World} {H : Hp} {h : Heap} {t it : Addr} (e : h.IsTupleIter it t 0) : ObjOk P w H h it (TiO t it) := by
  refine ⟨e, ?_, fun h1 h2 q k => q.at k⟩
  obtain ⟨o, ho, _⟩ := e
  exact ⟨o, ho⟩
def rIterT (K : PySem.W.Frag) (n : Nat) : List V → Hp → VK → Prop := fun xs H Q => ∃ (t : Addr) (zs : List V), xs = [.ref t] ∧ SqT K H t zs ∧ ∀ it, H it = none → n ≤ it → Q (.ref it) (upd H it (TiO t it))
theorem call_iterT {X : Cx} : CallR X (.builtin "iter") (rIterT X.K X.s_0.heap.objs.size) := by
  intro pins s σ H xs us Q I r h
  obtain ⟨t, zs, rfl, hq, q⟩ := h
  obtain ⟨u, rfl, ru⟩ := vals1 r
  cases ru
  obtain ⟨its, rv, pl, hz⟩ := I.tuple hq
  refine Calls.call_function_entry (by decide +kernel) (by decide +kernel) PySem.W.kdk_entry_iter (PySem.W.kdk_args_iter _) ?_
  unfold Builtin.«iter»
  refine wpAny_bind (m := someArgs "iter" 1 2 _) (wpAny_of_eq (a := [Value.ref t]) (by first | rfl | kernel_rfl!) ?_)
  show wpAny _ _ (pyIter (.ref t) >>= _) _ _ _
  refine wpAny_bind (wpAny_pyIter_tuple (show s.heap.IsTuple t its.toArray from pl) (wpAny_pure ⟨_, rfl, ?_⟩))
  exact ⟨.ref s.heap.objs.size, _, I.laid (t' := s.toks) (fun b u e => Heap.get?_push_of_some _ e) (Nat.le_refl _) (tiO_ok ⟨_, Heap.get?_push_size _ rfl, rfl, rfl⟩), rfl, q _ (I.hok.fresh (Nat.le_refl _)) I.sz⟩
/-- a def of self alone is run at a state: what its body says may name that state -/
theorem run_self {P : Program} {w : World} {K : PySem.W.Frag} {mg : Str → Option Value} {base : Heap} {x qual : Str} {params : Arguments} {body : List Stmt} {scope : Scope} {kws : List (Str × V)} {f : Addr} {fd : FuncData} {N : List Str} {k : Nat} (F : FunD K x qual params body scope [] kws f fd) (S : FnScope N ["self"] scope) (hb : Binds K fd ["self"] [])
    {A : Around} {outer : List Env} {s : Shared} {H : Hp} {a : Addr} {Q : VK} {E : XK} (hr : Room (k + 1) A) (e0 : Env0 P w K mg base A outer s H)
    (hbody : ∀ cdv : Value, Room k (A.deeper (envOfC qual scope s.heap.objs.size f cdv)) → ∃ t, PSs (cxOf (L2N.CX P w) P w K mg base N qual scope f cdv A outer s H E) body t ∧ t { nx := fun _ H' => Q .non H', rt := Q } (start N [.ref a]) H) :
    codeAny (model P w) A (.call (.ref f) ⟨[.ref a], []⟩) (CR (L2N.CX P w) outer P w H s Q E) s := by
  obtain ⟨oc, od, dV, kV, doc, pm, an, cdv, ct, osl, rfl, lk, hcd, _, _⟩ := F.ex
  have KX : K.In s.heap := e0.mod.kin.keeps fun b o e => (e0.bs b o e).1
  have lim : s.heap.NoLimit := e0.mod.nolimit.keeps fun b o e => (e0.bs b o e).1
  have rv : Vals [V.ref a] [Value.ref a] := .cons rfl .nil
  have hz := hb s [.ref a] KX rfl
  have hkind : ∀ y ∈ (["self"] : List Str).zip [Value.ref a], scope.names.lookup y.1 = some .local ∨ (scope.names.lookup y.1 = some .cell ∧ ((cellsFrom (s.heap.objs.size + 1) scope.names []).lookup y.1).isSome = true) := fun y hy =>
    (S.par y.1 (List.of_mem_zip hy).1).imp id fun q => ⟨q, PySem.W.cellsFrom_some _ _ _ (.inl q)⟩
  refine codeAny_call_function hr.depth (KX _ _ lk) rfl S.co S.gen rfl (PySem.W.codeRec_of KX hcd) (hz _ _ _ _ ?_)
  refine wpAny_newFunctionEnv_cells S.kind hkind fun env he s1 x1 => ?_
  subst he
  refine ⟨lim.keeps x1.toInCall.keep, codeAny_func ?_⟩
  obtain ⟨t, ht, hq⟩ := hbody cdv (hr.deeper _)
  have I : Inv (cxOf (L2N.CX P w) P w K mg base N qual scope f cdv A outer s H E) [] (start N [.ref a]) H s1 := inv_start S hr.hd e0 rfl rv x1
  refine wpAny_mono (ht.run [] s1 _ H _ I hq) (fun fl s' hs => ?_) fun e s' hs => hs
  cases fl with
  | ret u =>
    obtain ⟨v, σ', H', J, rv, q⟩ := hs
    exact ⟨v, H', J.os, J.bare, J.base, J.hok, rv, q⟩
  | next =>
    obtain ⟨σ', H', J, q⟩ := hs
    exact ⟨V.non, H', J.os, J.bare, J.base, J.hok, rfl, q⟩
  | brk =>
    obtain ⟨_, _, _, q⟩ := hs
    exact q.elim
  | cont =>
    obtain ⟨_, _, _, q⟩ := hs
    exact q.elim
/-- what a class must have that its objects are walked by the tuple in the field f -/
structure IterF (P : Program) (w : World) (K : PySem.W.Frag) (mg : Str → Option Value) (base : Heap) (k : Nat) (C : Addr) (f : Str) : Prop where
  run : ∃ fi : Addr, PySem.W.findIn K (.ref C) "__iter__" = some (some (.ref fi)) ∧ PySem.W.isFn K (.ref fi) = true ∧
    ∀ (A : Around) (outer : List Env) (s : Shared) (H : Hp) (a dx t : Addr) (fs : List (Str × V)) (xs : List V), Room k A → Env0 P w K mg base A outer s H → H a = some (.ins C dx fs) → fs.lookup f = some (.ref t) → SqT K H t xs →
      codeAny (model P w) A (.call (.ref fi) ⟨[.ref a], []⟩) (CR (L2N.CX P w) outer P w H s (fun y H' => ∃ it, y = .ref it ∧ H it = none ∧ s.heap.objs.size ≤ it ∧ H' = upd H it (TiO t it)) E0) s
theorem iterF_of {P : Program} {w : World} {K : PySem.W.Frag} {mg : Str → Option Value} {base : Heap} {qual f : Str} {params : Arguments} {body : List Stmt} {scope : Scope} {kws : List (Str × V)} {C fi : Addr} {fd : FuncData} {N : List Str} {k : Nat} {p1 p2 p3 p4 p5 : Pos} (F : FunD K "__iter__" qual params body scope [] kws fi fd) (S : FnScope N ["self"] scope) (hb : Binds K fd ["self"] [])
    (hbo : body = [.Return (some (.Call (.Name "iter" p1) [.Attribute (.Name "self" p2) f p3] [] p4)) p5]) (hN : N[0]? = some ("self" : Str)) (hgl : scope.names.lookup ("iter" : Str) = some .globalImplicit) (hm : mg "iter" = none) (c : Cls K C) (n : NoAttr K C f) (o : OwnOp K C "__iter__" fi)
    (hg : ∀ (cdv : Value) (A : Around) (outer : List Env) (s : Shared) (H : Hp), Gl (cxOf (L2N.CX P w) P w K mg base N qual scope fi cdv A outer s H E0) "iter") (hab : ∀ (cdv : Value) (A : Around) (outer : List Env) (s : Shared) (H : Hp), attributeBase (.Name "self" p2) f (cxOf (L2N.CX P w) P w K mg base N qual scope fi cdv A outer s H E0).env (eval (.Name "self" p2) (cxOf (L2N.CX P w) P w K mg base N qual scope fi cdv A outer s H E0).env) = eval (.Name "self" p2) (cxOf (L2N.CX P w) P w K mg base N qual scope fi cdv A outer s H E0).env) :
    IterF P w K mg base (k + 1) C f := by
  refine ⟨fi, o.at_, o.fn, fun A outer s H a dx t fs xs hr e0 ha hl ht => ?_⟩
  refine run_self F S hb hr e0 fun cdv _ => ?_
  subst hbo
  refine ⟨_, pss_one (ps_ret (pe_callB (call_iterT (X := cxOf (L2N.CX P w) P w K mg base N qual scope fi cdv A outer s H E0)) (hg _ _ _ _ _) hm PyProof.Rows.Boot.«iter» (pa_cons (pe_att (l := [(C, aFld f)]) (.cons (alt_fld c n) .nil) (pe_var (i := 0) hN ((S.par "self" (List.Mem.head _)).elim (fun z => .inl z) (fun z => .inr (.inl z)))) (hab _ _ _ _ _)) pa_nil))), ?_⟩
  refine ⟨.ref a, by rfl, a, dx, fs, 0, C, _, rfl, rfl, ha, .ref t, hl, ?_⟩
  exact ⟨t, xs, rfl, ht, fun it h0 h1 => ⟨it, rfl, h0, h1, rfl⟩⟩
section
variable {X : Cx} {k : Nat} {C : Addr} {f : Str} {pins : List (Addr × Obj)} {σ : L2.St} {H : Hp} {s : Shared} {a dx t : Addr} {fs : List (Str × V)} {xs : List V}
/-- the walk begins -/
theorem iter_begin {A : Around} {Q : Value → Shared → Prop} {E' : Value → Shared → Prop} (W : IterF X.prog X.w X.K X.mg X.base k C f) (hr : Room k A) (hfr : A.frames = X.A.frames) (I : Inv X pins σ H s) (ha : H a = some (.ins C dx fs)) (hl : fs.lookup f = some (.ref t)) (ht : SqT X.K H t xs)
    (h : ∀ it s', H it = none → s.heap.objs.size ≤ it → s'.heap.IsTupleIter it t 0 → Inv X pins σ H s' → Q (.ref it) s') : wpAny (model X.prog X.w) A (pyIter (.ref a)) Q E' s := by
  obtain ⟨fi, hat, hfn, run⟩ := W.run
  obtain ⟨mA, J, _⟩ := ins_get I.hok ha
  obtain ⟨od, J, _⟩ := J.look
  obtain ⟨m, hF⟩ := I.fr
  have e0 : Env0 X.prog X.w X.K X.mg X.base A X.stack s H := by
    have e := I.env0
    exact ⟨hfr.trans e.frames, e.mod, e.bs, e.bsz, e.funs, e.frf, e.hok, e.bare⟩
  refine PySem.W.owit_iter hF I.ok.mod.kin J hat hfn (wpAny_call (codeAny_mono (run A X.stack s H a dx t fs xs hr e0 ha hl ht) fun r s' hq => ?_))
  cases r with
  | error e =>
    obtain ⟨_, _, _, _, _, _, _, _, _, _, _, _, z⟩ := hq
    exact z.elim
  | ok fl =>
    cases fl with
    | ret u =>
      obtain ⟨v, H', I3, rv, it, ev, h0, h1, eH⟩ := I.after hq
      subst ev eH
      obtain rfl : u = Value.ref it := rv
      have hit : s'.heap.IsTupleIter it t 0 := (I3.hok it _ upd_same).1
      have I4 := ItX.inv_drop I3 (show upd H it (TiO t it) it = some (TiO t it) from upd_same)
      rw [ItX.dropH_upd h0] at I4
      unfold PySem.W.OwitIt
      exact wpAny_specialOf hit.typeIs slot_tupleiter_next.lookup (h it s' h0 h1 hit I4)
    | _ => exact hq.elim
/-- list(..)'s own loop over a tuple's iterator -/
theorem list_loop {A1 : Around} {S it : Addr} {Rs : Result → Shared → Prop} (hh : A1.in1.handled = none) (hn : xs.length ≤ 1000000) (hSH : H S = none) (hSt : S ≠ t) (hit : H it = none) (hiS : it ≠ S) (hL : it ≠ X.env.locals) (h1 : it ∈ X.ex ∨ X.s_0.heap.objs.size ≤ it)
    (h2 : ∀ x c, X.env.cells.lookup x = some c → c ≠ it) (h3 : ∀ p ∈ X.pn ++ pins, p.1 ≠ it) (ht : SqT X.K H t xs) (hd : ∀ s', Inv X pins σ (upd H S (.lst xs)) s' → Rs (.ok (.ret .none)) s') :
    ∀ (j i : Nat) (s : Shared), xs.length - i = j → i ≤ xs.length → Inv X pins σ (upd H S (.lst (xs.take i))) s → s.heap.IsTupleIter it t i → codeAny (model X.prog X.w) A1 (.builtin "list.extend.loop" ⟨[.ref S, .ref it, .none], []⟩) Rs s := by
  have tupS : ∀ i, SqT X.K (upd H S (.lst (xs.take i))) t xs := fun i => by
    rcases ht with (h | ⟨o, h⟩) | h
    · exact .inl (.inl (by rw [upd_ne hSt.symm]; exact h))
    · exact .inl (.inr ⟨o, by rw [upd_ne hSt.symm]; exact h⟩)
    · exact .inr h
  have itS : ∀ i, upd H S (.lst (xs.take i)) it = none := fun i => by rw [upd_ne hiS]; exact hit
  intro j
  induction j with
  | zero =>
    intro i s hj hi I st
    have e : i = xs.length := by omega
    subst e
    obtain ⟨its, rv, pl, _⟩ := I.tuple (tupS _)
    have hl := rv.length
    refine codeAny_builtin PySem.F.entry_extend_loop ?_
    rw [Around.under_plainId PySem.F.plain_extend_loop _]
    show wpAny _ A1.in1 (pyNext (.ref it) >>= _) _ _ s
    refine wpAny_bind (wpAny_pyNext_tuple_end hh st (show s.heap.IsTuple t its.toArray from pl) (by first | omega | (rw [List.size_toArray]; omega) | (simp; omega)) fun h' eb => ?_)
    refine wpAny_pure (hd _ ?_)
    have I2 := I.turned (t' := s.toks) (fun b o hb e => eb b o hb e) (itS _) hL h1 h2 h3
    rw [List.take_length] at I2
    exact I2
  | succ j ih =>
    intro i s hj hi I st
    have hlt : i < xs.length := by omega
    obtain ⟨its, rv, pl, _⟩ := I.tuple (tupS _)
    obtain ⟨u, hu, ru⟩ := rv.get (List.getElem?_eq_getElem hlt)
    refine codeAny_builtin PySem.F.entry_extend_loop ?_
    rw [Around.under_plainId PySem.F.plain_extend_loop _]
    show wpAny _ A1.in1 (pyNext (.ref it) >>= _) _ _ s
    refine wpAny_bind (wpAny_pyNext_tuple_item st (show s.heap.IsTuple t its.toArray from pl) (x := u) (by simpa using hu) fun h' st' sb => ?_)
    have I1 : Inv X pins σ (upd H S (.lst (xs.take i))) { s with heap := h' } := I.turned (t' := s.toks) (fun b o hb e => (sb.2 b hb).trans e) (itS _) hL h1 h2 h3
    show wpAny _ A1.in1 (updateSeq S (·.push u) >>= _) _ _ _
    obtain ⟨z, its2, k2, r2, hl2, e2⟩ := I1.lstM upd_same
    have hlen : (xs.take i).length = i := by rw [List.length_take]; omega
    refine wpAny_bind (wpAny_updateSeq e2 rfl (wpAny_pure ⟨plainId_quiet PySem.F.plain_extend_loop _, ?_⟩) (by rw [List.size_toArray]; omega) (by show (its2.toArray.push u).size ≤ sizeLine + 1; rw [Array.size_push, List.size_toArray]; omega))
    have I2 := I1.lset (f := fun z => z.push u) (its' := its2 ++ [u]) (ys := xs.take i ++ [xs[i]]) (t' := s.toks) upd_same e2 (by simp) (r2.append (.cons ru .nil)) (by rw [List.length_append, hlen, sizeLine_eq]; show i + 1 ≤ _; omega)
    rw [upd_upd, ← List.take_succ_eq_append_getElem hlt] at I2
    refine ih (i + 1) _ (by omega) hlt I2 ?_
    obtain ⟨o, eo, c, d⟩ := st'
    exact ⟨o, (Heap.get?_update_other _ _ (Ne.symm hiS)).trans eo, c, d⟩
/-- len's promise: so many, all stands -/
def spLen (C : Addr) (f : Str) : Sp := fun vs H Q _ => ∃ a dx fs t xs, vs = [.ref a] ∧ H a = some (.ins C dx fs) ∧ fs.lookup f = some (.ref t) ∧ H t = some (.tup xs) ∧ xs.length ≤ 1000000 ∧ Q (.int xs.length) H
theorem call_lenO {n : Nat} {fl : Addr} (o : OwnOp X.K C "__len__" fl) (F : FnR X.prog X.w X.K X.mg X.base (L2N.CX X.prog X.w) n fl (spLen C f)) {A : Around} {E' : Value → Shared → Prop} {Q : Value → Shared → Prop} (hr : Room (n + 1) A) (hfr : A.frames = X.A.frames) (I : Inv X pins σ H s) (ha : H a = some (.ins C dx fs)) (hl : fs.lookup f = some (.ref t)) (ht : H t = some (.tup xs)) (hn : xs.length ≤ 1000000)
    (h : ∀ tk s', Inv X pins σ H s' → (∀ b o, s.heap.get? b = some o → H b = none → b ∉ frs X.stack → s'.heap.get? b = some o) → Q (.int xs.length tk) s') : wpAny (model X.prog X.w) A (call (.builtin "len") [.ref a]) Q E' s := by
  obtain ⟨mA, J, _⟩ := ins_get I.hok ha
  obtain ⟨od, J, _⟩ := J.look
  obtain ⟨m, hF⟩ := I.fr
  refine PySem.W.len_K hF I.ok.mod.kin J o.at_ o.fn ?_
  have e0 : Env0 X.prog X.w X.K X.mg X.base A.in1 X.stack s H := by
    have e := I.env0
    exact ⟨hfr.trans e.frames, e.mod, e.bs, e.bsz, e.funs, e.frf, e.hok, e.bare⟩
  refine wpAny_call (codeAny_mono (F A.in1 X.stack s H [.ref a] [.ref a] (fun y H' => y = .int xs.length ∧ H' = H) E0 hr.in1 e0 (.cons rfl .nil) ⟨a, dx, fs, t, xs, rfl, ha, hl, ht, hn, rfl, rfl⟩) fun r s' hq => ?_)
  cases r with
  | error e =>
    obtain ⟨_, _, _, _, _, _, _, _, _, _, _, _, z⟩ := hq
    exact z.elim
  | ok fl =>
    cases fl with
    | ret u =>
      have un : ∀ b o, s.heap.get? b = some o → H b = none → b ∉ frs X.stack → s'.heap.get? b = some o := by
        obtain ⟨_, _, _, _, un, _⟩ := id hq
        exact fun b o e n hb => un.keep b o e n hb (by simp)
      obtain ⟨v, H', I3, rv, ev, eH⟩ := I.after hq
      subst ev eH
      obtain ⟨tk, rfl⟩ := rv
      exact ⟨⟨by omega, by omega⟩, h _ _ (I3.tok _) un⟩
    | _ => exact hq.elim
/-- list(o) -/
theorem list_own {n fl : Nat} (W : IterF X.prog X.w X.K X.mg X.base n C f) (o : OwnOp X.K C "__len__" fl) (F : FnR X.prog X.w X.K X.mg X.base (L2N.CX X.prog X.w) n fl (spLen C f)) (hr : Room (n + 3) X.A) {Q : VK} (I : Inv X pins σ H s) (ha : H a = some (.ins C dx fs)) (hl : fs.lookup f = some (.ref t)) (ht : H t = some (.tup xs)) (hn : xs.length ≤ 1000000)
    (hq : ∀ q, H q = none → Q (.ref q) (upd H q (.lst xs))) : wpAny (model X.prog X.w) X.A (call (.type "list") [.ref a]) (EP X pins σ Q) X.xe s := by
  refine callType_codes (Q₁ := fun obj s₁ => obj = .ref s.heap.objs.size ∧ s₁ = { s with heap := s.heap.push { cls := .type "list", data := .seq #[] } }) PySem.F.called_list (PySem.F.typeCall_list_1 _) PySem.F.entry_list_init
    (code_list_new _ ⟨rfl, rfl⟩) fun obj s₁ h₁ => ?_
  obtain ⟨rfl, rfl⟩ := h₁
  have hS : (s.heap.push { cls := .type "list", data := .seq #[] }).get? s.heap.objs.size = some { cls := .type "list", data := .seq #[] } := Heap.get?_push_size _ rfl
  refine ⟨⟨_, hS, rfl⟩, PySem.F.args_list_init_2 _ _, ?_⟩
  have fr : H s.heap.objs.size = none := I.hok.fresh (Nat.le_refl _)
  have I1 : Inv X pins σ (upd H s.heap.objs.size (.lst [])) { s with heap := s.heap.push { cls := .type "list", data := .seq #[] } } := I.lnew (its := []) (t' := s.toks) .nil (Nat.zero_le _)
  show wpAny _ _ (do let old ← Builtin.List.listItems (.ref s.heap.objs.size); Builtin.List.listUpdate (.ref s.heap.objs.size) (fun _ => #[]); letGo old.toList.reverse; Builtin.List.listExtendWith (.ref s.heap.objs.size) (.ref a) .none) _ _ _
  refine wpAny_bind ?_
  unfold Builtin.List.listItems
  refine wpAny_bind (wpAny_seqItems hS rfl (wpAny_pure ?_))
  show wpAny _ _ (updateSeq s.heap.objs.size (fun _ => #[]) >>= fun _ => letGo (#[] : Array Value).toList.reverse >>= fun _ => Builtin.List.listExtendWith (.ref s.heap.objs.size) (.ref a) .none) _ _ _
  refine wpAny_bind (wpAny_updateSeq hS rfl ?_)
  have I2 := I1.lset (f := fun _ => #[]) (its := []) (its' := []) (ys := []) (t' := s.toks) upd_same hS rfl .nil (Nat.zero_le _)
  rw [upd_upd] at I2
  refine wpAny_bind (wpAny_letGo ?_)
  generalize hSe : s.heap.objs.size = S at *
  have haS : a ≠ S := ne_of_none ha fr
  have htS : t ≠ S := ne_of_none ht fr
  have ha2 : upd H S (.lst []) a = some (.ins C dx fs) := by rw [upd_ne haS]; exact ha
  have ht2 : upd H S (.lst []) t = some (.tup xs) := by rw [upd_ne htS]; exact ht
  obtain ⟨mA, J, _⟩ := ins_get I2.hok ha2
  obtain ⟨od, J, _⟩ := J.look
  unfold Builtin.List.listExtendWith
  refine wpAny_bind (J.type.here ?_)
  have h1 : Builtin.List.listSameRef (.ref S) (.ref a) = false := by simp [Builtin.List.listSameRef, haS.symm]
  have h2 : (Value.ref C == Value.type "list") = false := rfl
  have h3 : (Value.ref C == Value.type "tuple") = false := rfl
  simp only [h1, h2, h3, Bool.or_false, Bool.false_eq_true, if_false]
  have hr2 : Room (n + 1) X.A.in1.in1 := hr.in1.in1
  refine wpAny_bind (iter_begin W (hr2.mono (by omega)) rfl I2 ha2 hl (SqT.of ht2) fun it s' h0 hge hit I3 => ?_)
  refine wpAny_bind (wpAny_holding ?_)
  unfold Builtin.List.listLengthHint
  obtain ⟨mA3, J3, _⟩ := ins_get I3.hok ha2
  obtain ⟨od3, J3, _⟩ := J3.look
  refine wpAny_bind (wpAny_bind (J3.type.here ((PySem.W.looks_findIn I3.kIn o.at_).here ?_)))
  refine PySem.W.KFB.if_not rfl ?_
  refine PySem.W.KFB.if_so rfl ?_
  refine wpAny_bind (wpAny_rule ?_)
  refine wpAny_bind (wpAny_attempt (call_lenO o F hr2 rfl I3 ha2 hl ht2 hn fun tk s4 I4 un4 => ?_))
  have nfr : it ∉ frs X.stack := fun hm => by
    obtain ⟨_, ob, hob, _⟩ := I2.env0.funs.mem hm
    exact absurd (Heap.lt_size hob) (Nat.not_lt.mpr hge)
  have hit4 : s4.heap.IsTupleIter it t 0 := by
    obtain ⟨ob, hob, r⟩ := hit
    exact ⟨ob, un4 it ob hob h0 nfr, r⟩
  have hSit : it ≠ S := fun e => by rw [e, upd_same] at h0; cases h0
  have hitH : H it = none := by rw [upd_ne hSit] at h0; exact h0
  obtain ⟨_, q1, q2, q3, q4, q5⟩ := I2.fpOk (H' := upd H S (.lst [])) hge h0
  have loop : ∀ s5, Inv X pins σ (upd H S (.lst [])) s5 → s5.heap.IsTupleIter it t 0 → codeAny (model X.prog X.w) X.A.in1 (.builtin "list.extend.loop" ⟨[.ref S, .ref it, .none], []⟩) (wants (fun r s₂ => r = .none ∧ EP X pins σ Q (.ref S) s₂) X.xe) s5 := fun s5 I5 hit5 =>
    list_loop hr2.hd hn fr htS.symm hitH hSit q1 q3 q4 q5 (SqT.of ht) (fun s6 I6 => ⟨rfl, .ref S, _, I6, rfl, hq S fr⟩) xs.length 0 s5 rfl (Nat.zero_le _) I5 hit5
  dsimp only
  refine wpAny_bind (wpAny_of_eq (a := some (xs.length : Int)) (by first | rfl | kernel_rfl!) ?_)
  dsimp only
  have hlong : Builtin.List.listTooLong ((xs.length : Int)).toNat = false := notLongL (by rw [sizeLine_eq]; omega)
  rw [hlong, if_neg Bool.false_ne_true]
  refine wpAny_pure ?_
  refine wpAny_ite_split (fun _ => ?_) (fun _ => wpAny_pure ⟨plainId_quiet PySem.F.plain_extend_loop _, loop s4 I4 hit4⟩)
  refine wpAny_bind (wpAny_rule ?_)
  refine wpAny_bind ?_
  show wpAny _ _ (updateSeq S (·.push .none) >>= fun _ => updateSeq S (·.pop)) _ _ _
  obtain ⟨z, its, k3, r3, hl3, e3⟩ := I4.lstM upd_same
  cases r3
  refine wpAny_bind (wpAny_updateSeq e3 rfl ?_)
  have I5 := I4.lset (f := (·.push Value.none)) (its' := [Value.none]) (ys := [.non]) (t' := s4.toks) upd_same e3 (by simp) (.cons rfl .nil) (by rw [List.length_singleton, sizeLine_eq]; decide)
  rw [upd_upd] at I5
  obtain ⟨z4, its4, k4, r4, hl4, e4⟩ := I5.lstM upd_same
  obtain ⟨u4, rfl, ru4⟩ := r4.one
  refine wpAny_updateSeq e4 rfl ?_ (by show 1 ≤ sizeLine; rw [sizeLine_eq]; decide) (by show 0 ≤ sizeLine + 1; exact Nat.zero_le _)
  have I6 := I5.lset (f := (·.pop)) (its := [u4]) (its' := []) (ys := []) (t' := s4.toks) upd_same e4 (by rfl) .nil (Nat.zero_le _)
  rw [upd_upd] at I6
  refine wpAny_pure ⟨plainId_quiet PySem.F.plain_extend_loop _, loop _ I6 ?_⟩
  obtain ⟨ob, hob, rr⟩ := hit4
  exact ⟨ob, (Heap.get?_update_other _ _ (Ne.symm hSit)).trans ((Heap.get?_update_other _ _ (Ne.symm hSit)).trans hob), rr⟩
end
end Cl
namespace Cl
open PySem PySem.Spec PyProof.Rows L2 Px
/-- a class whose objects are walked and counted by the tuple in the field f -/
def WalkC (X : Cx) (C : Addr) (f : Str) : Prop := ∃ (n : Nat) (fl : Addr), IterF X.prog X.w X.K X.mg X.base n C f ∧ OwnOp X.K C "__len__" fl ∧ FnR X.prog X.w X.K X.mg X.base (L2N.CX X.prog X.w) n fl (spLen C f) ∧ Room (n + 3) X.A
inductive WalkCs (X : Cx) : List (Addr × Str) → Prop
  | nil : WalkCs X []
  | cons {C : Addr} {f : Str} {l : List (Addr × Str)} : WalkC X C f → WalkCs X l → WalkCs X ((C, f) :: l)
section
variable {X : Cx} {l : List (Addr × Str)}
theorem WalkCs.at (h : WalkCs X l) : ∀ {i : Nat} {C : Addr} {f : Str}, l[i]? = some (C, f) → WalkC X C f := by
  induction h with
  | nil => intro i C f e; cases e
  | cons h _ ih =>
    intro i C f e
    cases i with
    | zero => cases e; exact h
    | succ i => exact ih (by simpa using e)
/-- x is an object of one of the classes, its tuple holds xs -/
def OwnT (l : List (Addr × Str)) (x : V) (H : Hp) (t : Addr) (xs : List V) : Prop := ∃ (i : Nat) (C : Addr) (f : Str) (a dx : Addr) (fs : List (Str × V)), l[i]? = some (C, f) ∧ x = .ref a ∧ H a = some (.ins C dx fs) ∧ fs.lookup f = some (.ref t) ∧ H t = some (.tup xs) ∧ xs.length ≤ 1000000
def rLenO (K : PySem.W.Frag) (l : List (Addr × Str)) : List V → Hp → VK → Prop := fun vs H Q => rLenP K vs H Q ∨ ∃ x t xs, vs = [x] ∧ OwnT l x H t xs ∧ Q (.int xs.length) H
theorem call_lenQ (h : WalkCs X l) : CallR X (.builtin "len") (rLenO X.K l) := by
  intro pins s σ H vs us Q I r q
  rcases q with q | ⟨x, t, xs, rfl, ⟨i, C, f, a, dx, fs, hl, rfl, ha, hf, ht, hn⟩, q⟩
  · exact call_lenP pins s σ H vs us Q I r q
  · obtain ⟨u, rfl, ru⟩ := vals1 r
    cases ru
    obtain ⟨n, fl, W, o, F, hr⟩ := h.at hl
    exact call_lenO o F (hr.mono (by omega)) rfl I ha hf ht hn fun tk s' I' _ => ⟨.int xs.length, H, I', ⟨tk, rfl⟩, q⟩
def rListO (K : PySem.W.Frag) (l : List (Addr × Str)) : List V → Hp → VK → Prop := fun vs H Q => rListP K vs H Q ∨ ∃ x t xs, vs = [x] ∧ OwnT l x H t xs ∧ ∀ q, H q = none → Q (.ref q) (upd H q (.lst xs))
theorem call_listQ (h : WalkCs X l) : CallR X (.type "list") (rListO X.K l) := by
  intro pins s σ H vs us Q I r q
  rcases q with q | ⟨x, t, xs, rfl, ⟨i, C, f, a, dx, fs, hl, rfl, ha, hf, ht, hn⟩, q⟩
  · exact call_listP pins s σ H vs us Q I r q
  · obtain ⟨u, rfl, ru⟩ := vals1 r
    cases ru
    obtain ⟨n, fl, W, o, F, hr⟩ := h.at hl
    exact list_own W o F hr I ha hf ht hn q
/-- for .. in x -/
def AnyB (K : PySem.W.Frag) (x : V) (H1 : Hp) (R : L2.It → Hp → Prop) : Prop := match x with
  | .str z => R (Its z) H1
  | .ref a => ((∃ xs, SqL K H1 a xs) ∧ R (Itl K a) H1) ∨ ((∃ xs, SqT K H1 a xs) ∧ R (Itt K a) H1)
  | _ => False
def iAnyO (K : PySem.W.Frag) (l : List (Addr × Str)) (te : TE) : TI := fun σ H R => te σ H fun x H1 => AnyB K x H1 R ∨ ∃ t xs, OwnT l x H1 t xs ∧ R (Itt K t) H1
theorem pi_anyO {tg e : Expr} {te : TE} (h : WalkCs X l) (he : PE X e te) : PI X tg e (iAnyO X.K l te) := by
  refine ⟨fun pins s σ H R I hw => ?_⟩
  refine thn (he.run pins s σ H _ I hw) fun v s1 ⟨x, H1, I1, r1, q1⟩ => ?_
  rcases q1 with q1 | ⟨t, xs, ⟨i, C, f, a, dx, fs, hl, rfl, ha, hf, ht, hn⟩, q⟩
  · unfold AnyB at q1
    cases x <;> first
      | exact False.elim q1
      | (rename_i x
         obtain ⟨t, rfl⟩ := r1
         cases ha : x.cps.all (· < 128)
         · exact wpAny_pyIter_wide ha (pi_one (tk := s1.toks) I1 _ (turn_str _ x t "str_iterator" (.inr rfl)) ⟨_, Heap.get?_push_size _ rfl, rfl, rfl⟩ q1)
         · exact wpAny_pyIter_ascii ha (pi_one (tk := s1.toks) I1 _ (turn_str _ x t "str_ascii_iterator" (.inl rfl)) ⟨_, Heap.get?_push_size _ rfl, rfl, rfl⟩ q1))
      | (rename_i a
         obtain rfl : v = Value.ref a := r1
         rcases q1 with ⟨⟨xs, hq⟩, q⟩ | ⟨⟨xs, hq⟩, q⟩
         · obtain ⟨its, rv, p, hz⟩ := I1.list hq
           refine wpAny_pyIter_list p.isList ?_
           refine ⟨s1.heap.objs.size, [s1.heap.objs.size], _, _, H1, rfl, I1.kept (t' := s1.toks) fun b o e => Heap.get?_push_of_some _ e, turn_list a _, ⟨_, Heap.get?_push_size _ rfl, rfl, rfl⟩, fun b hb => ?_, q⟩
           have e : b = s1.heap.objs.size := by simpa using hb
           subst e
           exact I1.fpOk (Nat.le_refl _) (I1.hok.fresh (Nat.le_refl _))
         · obtain ⟨its, rv, p, hz⟩ := I1.tuple hq
           refine wpAny_pyIter_tuple (show s1.heap.IsTuple a its.toArray from p) ?_
           refine ⟨s1.heap.objs.size, [s1.heap.objs.size], _, _, H1, rfl, I1.kept (t' := s1.toks) fun b o e => Heap.get?_push_of_some _ e, turn_tuple a _, ⟨_, Heap.get?_push_size _ rfl, rfl, rfl⟩, fun b hb => ?_, q⟩
           have e : b = s1.heap.objs.size := by simpa using hb
           subst e
           exact I1.fpOk (Nat.le_refl _) (I1.hok.fresh (Nat.le_refl _)))
  · obtain rfl : v = Value.ref a := r1
    obtain ⟨n, fl, W, o, F, hr⟩ := h.at hl
    refine iter_begin W (hr.mono (by omega)) rfl I1 ha hf (SqT.of ht) fun it s' h0 hge hit I3 => ?_
    refine ⟨it, [it], _, _, H1, rfl, I3, turn_tuple t it, hit, fun b hb => ?_, q⟩
    have e : b = it := by simpa using hb
    subst e
    exact I1.fpOk hge h0
end
end Cl
namespace Hk
open PySem PySem.W PySem.Spec PyProof.Rows L2 He
def ownB (K : Frag) (C : Addr) (m : PySem.Str) : Bool := eqO (findIn K (.ref C) m) (some (some (.ref (ma K C m)))) && (isFn K (.ref (ma K C m)) && selfFirst K C)
theorem ownB_ok {K : Frag} {C : Addr} {m : PySem.Str} (h : ownB K C m = true) : Cl.OwnOp K C m (ma K C m) := by
  unfold ownB at h
  obtain ⟨h1, h⟩ := ba h
  obtain ⟨h2, h3⟩ := ba h
  exact ⟨eqO_ok h1, h2, h3⟩
end Hk
namespace Px
open PySem PySem.Spec PyProof.Rows L2
section
variable {K : PySem.W.Frag} {l : List (Addr × Str)} {σ : L2.St} {H : Hp} {D : Ends} {Q : VK} {te ta tb : TE}
theorem s_opS {r : Cl.R2S} (h : ta σ H fun x H1 => tb σ H1 fun y H2 => r σ x y H2 Q) : Cl.tOpS r ta tb σ H Q := h
def ForBodyO (K : PySem.W.Frag) (l : List (Addr × Str)) (g : TG) (tb : TS) (D : Ends) (σ : L2.St) (x : V) (H1 : Hp) : Prop := ForBody K g tb D σ x H1 ∨ ∃ t xs, Cl.OwnT l x H1 t xs ∧ ForB (Itt K t) g tb D σ H1
theorem s_forO {g : TG} {tb : TS} (h : te σ H fun x H1 => ForBodyO K l g tb D σ x H1) : tFor (Cl.iAnyO K l te) g tb D σ H := h
def LcBodyO (K : PySem.W.Frag) (l : List (Addr × Str)) (g : TG) (tt : TT) (te : TE) (vs : List Nat) (σ : L2.St) (Q : VK) (x : V) (H1 : Hp) : Prop := LcBody K g tt te vs σ Q x H1 ∨ ∃ t xs, Cl.OwnT l x H1 t xs ∧ LcB (Itt K t) g tt te vs σ Q H1
theorem s_lcO {g : TG} {tt : TT} {te0 : TE} {vs : List Nat} (h : te0 σ H fun x H1 => LcBodyO K l g tt te vs σ Q x H1) : tLc (Cl.iAnyO K l te0) g tt te vs σ H Q := h
theorem s_ownT {i : Nat} {C : Addr} {f : Str} {a dx t : Addr} {fs : List (Str × V)} {xs : List V} (hl : l[i]? = some (C, f)) (ha : H a = some (.ins C dx fs)) (hf : fs.lookup f = some (.ref t)) (ht : H t = some (.tup xs)) (hn : xs.length ≤ 1000000) : Cl.OwnT l (.ref a) H t xs := ⟨i, C, f, a, dx, fs, hl, rfl, ha, hf, ht, hn⟩
end
end Px
/-! methods of own objects: o.m(..), o(..), o[i], str(o); sep.join(..) -/
namespace Cl
open PySem PySem.Spec PySem.Calls PyProof.Rows L2 Px
theorem fnIn_of {K : PySem.W.Frag} {x qual : Str} {params : Arguments} {body : List Stmt} {scope : Scope} {dvs : List V} {kws : List (Str × V)} {f : Addr} {fd : FuncData} (F : FunD K x qual params body scope dvs kws f fd) : PySem.W.fnIn K f = true := by
  obtain ⟨oc, od, dV, kV, doc, pm, an, cdv, ct, osl, rfl, lk, _⟩ := F.ex
  unfold PySem.W.fnIn
  rw [lk]
/-- the class at C has the def m, which keeps the promise sp -/
structure OwnM (X : Cx) (m : Str) (E : L2.St → XK) (C : Addr) (sp : Sp) : Prop where
  cls : Cls X.K C
  ex : ∃ (CX : CXT) (k : Nat) (f : Addr), OwnOp X.K C m f ∧ PySem.W.keepIn X.K (.ref f) = true ∧ PySem.W.fnIn X.K f = true ∧ FnR X.prog X.w X.K X.mg X.base CX k f sp ∧ Room (k + 2) X.A ∧ ∀ σ, PassesAt CX X σ (E σ)
inductive OwnMs (X : Cx) (m : Str) (E : L2.St → XK) : List (Addr × Sp) → Prop
  | nil : OwnMs X m E []
  | cons {C : Addr} {sp : Sp} {l : List (Addr × Sp)} : OwnM X m E C sp → OwnMs X m E l → OwnMs X m E ((C, sp) :: l)
section
variable {X : Cx} {CX : CXT} {k : Nat} {f C : Addr} {sp : Sp} {E : L2.St → XK} {m : Str} {l : List (Addr × Sp)} {o e a b : Expr} {es : List Expr} {ta tb te : TE} {t : TA} {apos pos p : Pos} {x : Str}
theorem OwnMs.at (h : OwnMs X m E l) : ∀ {i : Nat} {C : Addr} {sp : Sp}, l[i]? = some (C, sp) → OwnM X m E C sp := by
  induction h with
  | nil => intro i C sp e; cases e
  | cons h _ ih =>
    intro i C sp e
    cases i with
    | zero => cases e; exact h
    | succ i => exact ih (by simpa using e)
theorem ownM_of {x qual : Str} {params : Arguments} {body : List Stmt} {scope : Scope} {dvs : List V} {kws : List (Str × V)} {fd : FuncData} (c : Cls X.K C) (o : OwnOp X.K C m f) (D : FunD X.K x qual params body scope dvs kws f fd) (F : FnR X.prog X.w X.K X.mg X.base CX k f sp) (hr : Room (k + 2) X.A) (hx : ∀ σ, PassesAt CX X σ (E σ)) : OwnM X m E C sp :=
  ⟨c, CX, k, f, o, D.kp, fnIn_of D, F, hr, hx⟩
/-- o.m(e, ..) -/
def tMethO (l : List (Addr × Sp)) (m : Str) (E : L2.St → XK) (ta : TE) (t : TA) : TE := fun σ H Q => ta σ H fun x H1 => ∃ (i : Nat) (C : Addr) (sp : Sp) (a dx : Addr) (fs : List (Str × V)), l[i]? = some (C, sp) ∧ x = .ref a ∧ H1 a = some (.ins C dx fs) ∧ fs.lookup m = none ∧ t σ H1 fun vs H2 => sp (.ref a :: vs) H2 Q (E σ)
theorem pe_methO {pl : Sem Bool} (h : OwnMs X m E l) (he : PE X o ta) (ha : PA X (e :: es) t)
    (hst : starEach (e :: es) X.env = (false, eval e X.env) :: starEach es X.env := by rfl) (hpl : (backTo pos (starEach es X.env)).any (·.1) = false := by rfl)
    (ht : eval (.Call (.Attribute o m apos) (e :: es) [] pos) X.env = (do
      let ov ← eval o X.env
      standAt apos.atName
      let (f, first) ← holding [ov] (getMethod ov m pl)
      callWith pos f first (backTo pos (starEach (e :: es) X.env)) (backToKw pos (keywordEach [] X.env))) := by rfl) :
    PE X (.Call (.Attribute o m apos) (e :: es) [] pos) (tMethO l m E ta t) := by
  refine ⟨fun pins s σ H Q I hh => ?_⟩
  refine PySem.W.methodCall_KW (pl := pl) (thn (he.run pins s σ H _ I hh) fun u s1 ⟨x, H1, I1, rx, i, C, sp, a, dx, fs, hl, ex, ea, lk, q⟩ => ?_) ht
  subst ex
  obtain rfl : u = Value.ref a := rx
  have M := h.at hl
  obtain ⟨CX, k, f, o, hk, hf, F, hr, hx⟩ := M.ex
  refine getmeth_ok I1 ea M.cls ⟨o.at_, o.fn, hk⟩ lk ?_
  refine PySem.W.callWith_K (first := [.ref a]) (h₀ := X.base) I.ok.mod.kin hk (thn (ha.run pos pins s1 σ H1 _ I1 q) fun us s2 ⟨vs, H2, I2, r, q2⟩ => ⟨I2.kIn, ?_⟩) hst hpl
  exact run_RS (us := .ref a :: us) (vs := .ref a :: vs) F (hr.mono (by omega)) (hx σ) I2 (.cons rfl r) q2
theorem pe_methO0 {pl : Sem Bool} (h : OwnMs X m E l) (he : PE X o ta)
    (ht : eval (.Call (.Attribute o m apos) [] [] pos) X.env = (do
      let ov ← eval o X.env
      standAt apos.atName
      let (f, first) ← holding [ov] (getMethod ov m pl)
      callWith pos f first (backTo pos (starEach [] X.env)) (backToKw pos (keywordEach [] X.env))) := by rfl) :
    PE X (.Call (.Attribute o m apos) [] [] pos) (tMethO l m E ta tNil) := by
  refine ⟨fun pins s σ H Q I hh => ?_⟩
  refine PySem.W.methodCall_KW (pl := pl) (thn (he.run pins s σ H _ I hh) fun u s1 ⟨x, H1, I1, rx, i, C, sp, a, dx, fs, hl, ex, ea, lk, q⟩ => ?_) ht
  subst ex
  obtain rfl : u = Value.ref a := rx
  have M := h.at hl
  obtain ⟨CX, k, f, o, hk, hf, F, hr, hx⟩ := M.ex
  refine getmeth_ok I1 ea M.cls ⟨o.at_, o.fn, hk⟩ lk ?_
  exact PySem.W.callWith_K0 (first := [.ref a]) I1.kIn hk (run_RS (us := [.ref a]) (vs := [.ref a]) F (hr.mono (by omega)) (hx σ) I1 (.cons rfl .nil) q)
/-- o(e, ..) -/
def tCallO (l : List (Addr × Sp)) (E : L2.St → XK) (ta : TE) (t : TA) : TE := fun σ H Q => ta σ H fun x H1 => ∃ a, x = .ref a ∧ t σ H1 fun vs H2 => ∃ (i : Nat) (C : Addr) (sp : Sp) (dx : Addr) (fs : List (Str × V)), l[i]? = some (C, sp) ∧ H2 a = some (.ins C dx fs) ∧ sp (.ref a :: vs) H2 Q (E σ)
theorem callWith_own {M : Model} {A : Around} {E : Value → Shared → Prop} {s : Shared} {Q : Value → Shared → Prop} {ad : Addr} {first : List Value} {args : List (Bool × Sem Value)} {keywords : List (Option Str × Sem Value)} (hplain : (args.any (·.1) || keywords.any (·.1.isNone)) = false)
    (h : wpAny M A (evalArgs (.ref ad) true args keywords) (fun a s₁ => (∃ ox C od, ox.data = .plain ∧ PySem.W.InstAt s₁.heap ad ox C od) ∧ wpAny M A (call (.ref ad) (first ++ a.pos) a.kw) Q E s₁) E s) : wpAny M A (callWith pos (.ref ad) first args keywords) Q E s := by
  unfold callWith
  refine wpAny_bind (wpAny_holding (thn h fun a s₁ ⟨⟨ox, C, od, hd, J⟩, hc⟩ => wpAny_bind (wpAny_standAt ?_)))
  simp only [hplain]
  refine wpAny_bind ((PySem.W.kco_keeper (M := M) J hd).here (wpAny_bind (thn (wpAny_operateT hc) fun r s₂ hr => ?_)))
  exact wpAny_bind (wpAny_holding (wpAny_point (wpAny_pure hr)))
theorem pe_callO (h : OwnMs X "__call__" E l) (he : PE X (.Name x p) ta) (ha : PA X (e :: es) t)
    (hst : starEach (e :: es) X.env = (false, eval e X.env) :: starEach es X.env := by rfl) (hpl : (backTo pos (starEach es X.env)).any (·.1) = false := by rfl) :
    PE X (.Call (.Name x p) (e :: es) [] pos) (tCallO l E ta t) := by
  refine ⟨fun pins s σ H Q I hh => ?_⟩
  refine wpAny_Call_Name_kw (thn (he.run pins s σ H _ I hh) fun u s1 ⟨v, H1, I1, rx, a, ex, q⟩ => ?_)
  subst ex
  obtain rfl : u = Value.ref a := rx
  have q' := ha.run pos pins s1 σ H1 _ I1 q
  rw [hst] at q' ⊢
  refine callWith_own (by show ((false || (backTo pos (starEach es X.env)).any (·.1)) || false) = false; rw [hpl]; rfl) (evalArgs_plain (thn q' fun us s2 ⟨vs, H2, I2, r, i, C, sp, dx, fs, hl, hA, q2⟩ => ?_))
  have M := h.at hl
  obtain ⟨CX, k, f, o, hk, hf, F, hr, hx⟩ := M.ex
  obtain ⟨mA, J, _⟩ := ins_get I2.hok hA
  obtain ⟨od, J, _⟩ := J.look
  refine ⟨⟨_, C, _, rfl, J⟩, ?_⟩
  refine wpAny_call (PySem.W.kco_code I2.kIn J rfl o.at_ o.fn hf (codeAny_mono (F X.A X.stack s2 H2 (.ref a :: us) (.ref a :: vs) Q (E σ) (hr.mono (by omega)) I2.env0 (.cons rfl r) q2) fun r s' hq => ?_))
  cases r with
  | error e => exact hx σ pins H2 s2 e s' I2 hq
  | ok fl =>
    cases fl with
    | ret u => exact I2.after hq
    | _ => exact hq.elim
/-- o[i] -/
def rIxO (l : List (Addr × Sp)) (E : L2.St → XK) (base : R2) : R2S := fun σ x y H Q => base x y H Q ∨ ∃ (i : Nat) (C : Addr) (sp : Sp) (a dx : Addr) (fs : List (Str × V)), l[i]? = some (C, sp) ∧ x = .ref a ∧ H a = some (.ins C dx fs) ∧ sp [.ref a, y] H Q (E σ)
theorem pe_ixO {r : R2} (h : OwnMs X "__getitem__" E l) (hr : IxR X r) (ha : PE X a ta) (hb : PE X b tb) (hs : PlainIx b) (hsl : ∀ o i, subscripted b true (.ref o) i = runValue (.builtin "lifetime.subscript" ⟨[.ref o, i], []⟩)) : PE X (.Subscript a b pos) (tOpS (rIxO l E r) ta tb) := by
  refine ⟨fun pins s σ H Q I hh => ?_⟩
  refine Subscript_ (binT ha hb I hh fun v u s2 x y H2 I2 rx ry q => ?_)
  rcases q with q | ⟨i, C, sp, ad, dx, fs, hl, rfl, hA, q⟩
  · exact hr a b pins s2 σ H2 x y v u Q I2 rx ry q (hs _ _)
  · cases rx
    have M := h.at hl
    obtain ⟨CX, k, f, o, hk, hf, F, hr, hx⟩ := M.ex
    obtain ⟨mA, J, _⟩ := ins_get I2.hok hA
    obtain ⟨od, J, _⟩ := J.look
    obtain ⟨m, hF⟩ := I2.fr
    exact PySem.W.sub_K hF I2.ok.mod.kin J o.at_ hf o.fn (run_RS1 (us := [.ref ad, u]) (vs := [.ref ad, y]) F (hr.mono (by omega)) (hx σ) I2 (.cons rfl (.cons ry .nil)) q) (hsl _ _)
/-- str(o) -/
def rStrO (l : List (Addr × Sp)) : List V → Hp → VK → Prop := fun vs H Q => rStrP vs H Q ∨ ∃ (i : Nat) (C : Addr) (sp : Sp) (a dx : Addr) (fs : List (Str × V)), l[i]? = some (C, sp) ∧ vs = [.ref a] ∧ H a = some (.ins C dx fs) ∧ sp [.ref a] H (fun v H' => ∃ z, v = .str z ∧ Q (.str z) H') E0
theorem call_strO (h : OwnMs X "__str__" (fun _ => E0) l) : CallR X (.type "str") (rStrO l) := by
  intro pins s σ H vs us Q I r q
  rcases q with q | ⟨i, C, sp, a, dx, fs, hl, rfl, hA, q⟩
  · exact call_strP pins s σ H vs us Q I r q
  · obtain ⟨u, rfl, ru⟩ := vals1 r
    cases ru
    have M := h.at hl
    obtain ⟨CX, k, f, o, hk, hf, F, hr, hx⟩ := M.ex
    obtain ⟨mA, J, _⟩ := ins_get I.hok hA
    obtain ⟨od, J, _⟩ := J.look
    refine PySem.W.kso_call hr.in1.in1.units0 I.kIn J o.at_ o.fn ?_
    refine wpAny_call (codeAny_mono (F X.A.in1.in1 X.stack s H [.ref a] [.ref a] _ E0 hr.in1.in1 I.env0.in1.in1 (.cons rfl .nil) q) fun r s' hq => ?_)
    cases r with
    | error e => exact hx σ pins H s e s' I hq
    | ok fl =>
      cases fl with
      | ret u =>
        obtain ⟨v, H', I3, rv, z, ev, q3⟩ := I.after hq
        subst ev
        obtain ⟨tk, rfl⟩ := rv
        exact ⟨.str z, H', I3, ⟨tk, rfl⟩, q3⟩
      | _ => exact hq.elim
/-- sep.join(e) -/
def rJoinP (K : PySem.W.Frag) : V → List V → Hp → VK → Prop := fun x xs H Q => ∃ a p, ∃ ys : List Str, x = .str a ∧ xs = [.ref p] ∧ (SqL K H p (ys.map V.str) ∨ SqT K H p (ys.map V.str)) ∧ (ys.map (·.length)).sum + ys.length * a.length ≤ 16777216 ∧ Q (.str (Txt.join a ys)) H
theorem pe_joinP (ho : PE X o ta) (he : PE X e te) (hs : starEach [e] X.env = [(false, eval e X.env)] := by rfl) (hbase : attributeBase o "join" X.env (eval o X.env) = eval o X.env := by rfl) (hline : (apos.endLine == pos.line) = true := by rfl) :
    PE X (.Call (.Attribute o "join" apos) [e] [] pos) (tM1 (rJoinP X.K) ta te) := pe_join ho he hs hbase hline
end
end Cl
namespace Hk
open PySem PySem.Spec PySem.W PyProof.Rows L2 He
def propB (K : Frag) (C : Addr) (f : PySem.Str) : Bool := eqO (findIn K (.ref C) f) (some (some (.ref (ma K C f)))) && (eqO (specialIn K (.ref (ma K C f)) "__get__") (some (some (.builtin "property.__get__"))) && (decide (takesIn K (.ref (ma K C f)) = some true) && (match recIn K (ma K C f) "property" with | some (.ref _ :: _) => true | _ => false)))
theorem propB_ok {K : Frag} {C : Addr} {f : PySem.Str} (h : propB K C f = true) : PropOf K C f (ma K C f) (He5.wf K C "property" f) := by
  unfold propB at h
  obtain ⟨h1, h⟩ := ba h
  obtain ⟨h2, h⟩ := ba h
  obtain ⟨h3, h4⟩ := ba h
  refine ⟨eqO_ok h1, eqO_ok h2, of_decide_eq_true h3, ?_⟩
  unfold He5.wf
  split at h4
  · rename_i g r e
    exact ⟨r, by rw [e]⟩
  · cases h4
end Hk
namespace Px
open PySem PySem.Spec PyProof.Rows L2
section
variable {K : PySem.W.Frag} {σ : L2.St} {H : Hp} {Q : VK} {ta te : TE} {t : TA}
theorem s_methO {l : List (Addr × Sp)} {m : Str} {E : L2.St → XK} (h : ta σ H fun x H1 => ∃ (i : Nat) (C : Addr) (sp : Sp) (a dx : Addr) (fs : List (Str × V)), l[i]? = some (C, sp) ∧ x = .ref a ∧ H1 a = some (.ins C dx fs) ∧ fs.lookup m = none ∧ t σ H1 fun vs H2 => sp (.ref a :: vs) H2 Q (E σ)) : Cl.tMethO l m E ta t σ H Q := h
theorem s_callO {l : List (Addr × Sp)} {E : L2.St → XK} (h : ta σ H fun x H1 => ∃ a, x = .ref a ∧ t σ H1 fun vs H2 => ∃ (i : Nat) (C : Addr) (sp : Sp) (dx : Addr) (fs : List (Str × V)), l[i]? = some (C, sp) ∧ H2 a = some (.ins C dx fs) ∧ sp (.ref a :: vs) H2 Q (E σ)) : Cl.tCallO l E ta t σ H Q := h
theorem s_exr {a : Addr} {R : Addr → Prop} (h : R a) : ∃ b, (V.ref a = .ref b) ∧ R b := ⟨a, rfl, h⟩
theorem s_m1 {r : V → List V → Hp → VK → Prop} {z : Str} (h : te σ H fun y H2 => r (.str z) [y] H2 Q) : tM1 r (tC (.str z)) te σ H Q := ⟨⟨z, rfl⟩, h⟩
end
end Px
/-! C.m(e, ..), m a staticmethod of the class C -/
namespace Cl
open PySem PySem.Spec PySem.Calls PyProof.Rows L2 Px
structure SMet (K : PySem.W.Frag) (C : Addr) (m : Str) (p g : Addr) : Prop where
  rd : ClX.CRead K C (.type "type")
  at_ : PySem.W.findCls K (.ref C) (.type "type") m = some (.get (.builtin "staticmethod.__get__") (.ref p) .none (.ref C))
  rc : ∃ rest, PySem.W.recIn K p "staticmethod" = some (.ref g :: rest)
def tSMeth (C : Addr) (sp : Sp) (E : L2.St → XK) (ta : TE) (t : TA) : TE := fun σ H Q => ta σ H fun x H1 => x = .ref C ∧ t σ H1 fun vs H2 => sp vs H2 Q (E σ)
section
variable {X : Cx} {CX : CXT} {k : Nat} {C p g : Addr} {sp : Sp} {E : L2.St → XK} {o e : Expr} {es : List Expr} {m : Str} {pos apos : Pos} {ta : TE} {t : TA} {pl : Sem Bool}
theorem pe_smeth (he : PE X o ta) (c : SMet X.K C m p g) (hk : PySem.W.keepIn X.K (.ref g) = true) (F : FnR X.prog X.w X.K X.mg X.base CX k g sp) (hr : Room k X.A) (hx : ∀ σ, PassesAt CX X σ (E σ)) (ha : PA X (e :: es) t)
    (hst : starEach (e :: es) X.env = (false, eval e X.env) :: starEach es X.env := by rfl) (hpl : (backTo pos (starEach es X.env)).any (·.1) = false := by rfl)
    (ht : eval (.Call (.Attribute o m apos) (e :: es) [] pos) X.env = (do
      let ov ← eval o X.env
      standAt apos.atName
      let (f, first) ← holding [ov] (getMethod ov m pl)
      callWith pos f first (backTo pos (starEach (e :: es) X.env)) (backToKw pos (keywordEach [] X.env))) := by rfl) :
    PE X (.Call (.Attribute o m apos) (e :: es) [] pos) (tSMeth C sp E ta t) := by
  refine ⟨fun pins s σ H Q I h => ?_⟩
  refine PySem.W.methodCall_KW (pl := pl) (thn (he.run pins s σ H _ I h) fun u s1 ⟨x, H1, I1, rx, ex, q⟩ => ?_) ht
  subst ex
  obtain rfl : u = Value.ref C := rx
  obtain ⟨rest, hp⟩ := c.rc
  refine PySem.W.method_cls I1.kIn c.rd.ga (PySem.W.cls_bind I1.kIn c.rd.rd c.at_ (wpAny_call (PySem.W.sm_get (s := { s1 with toks := s1.toks + 1 }) I1.kIn hp (PySem.W.handed_on rfl ?_))))
  have I2 := I1.tok (s1.toks + 1)
  refine PySem.W.callWith_K (first := []) (h₀ := X.base) I.ok.mod.kin hk (thn (ha.run pos pins _ σ H1 _ I2 q) fun us s2 ⟨vs, H2, I3, r, q2⟩ => ⟨I3.kIn, ?_⟩) hst hpl
  exact run_RS F hr (hx σ) I3 r q2
end
end Cl
namespace Hk
open PySem PySem.Spec PySem.W PyProof.Rows L2 He
def smetB (K : Frag) (C : Addr) (m : PySem.Str) : Bool := readsIn K C (.type "type") && (eqO (specialIn K (.ref C) "__getattribute__") (some (some (.builtin "type.__getattribute__"))) && He5.wrapB K C "staticmethod" "staticmethod.__get__" m)
theorem smetB_ok {K : Frag} {C : Addr} {m : PySem.Str} (h : smetB K C m = true) : Cl.SMet K C m (ma K C m) (He5.wf K C "staticmethod" m) := by
  unfold smetB at h
  obtain ⟨h1, h⟩ := ba h
  obtain ⟨h2, h3⟩ := ba h
  obtain ⟨h4, h5⟩ := He5.wrapB_ok h3
  exact ⟨⟨h1, eqO_ok h2⟩, h4, h5⟩
end Hk
namespace Px
open PySem PySem.Spec PyProof.Rows L2
theorem s_smeth {σ : L2.St} {H : Hp} {Q : VK} {C : Addr} {sp : Sp} {E : L2.St → XK} {t : TA} (h : t σ H fun vs H2 => sp vs H2 Q (E σ)) : Cl.tSMeth C sp E (tC (.ref C)) t σ H Q := ⟨rfl, h⟩
end Px
/-! defs called within an except suite, the handled exception one of their arguments -/
namespace L2H
open PySem PySem.Spec PyProof.Rows L2 HotX
/-- what such a def promises: a the exception's place, cls its class, d its dict -/
structure FnE (P : Program) (w : World) (K : PySem.W.Frag) (mg : Str → Option Value) (base : Heap) (CX : CXT) (k : Nat) (f : Addr) (fd : FuncData) (ps : List Str) (sp : Addr → Value → Option Addr → Sp) : Prop where
  len : ∀ a cls d vs H Q E, sp a cls d vs H Q E → vs.length = ps.length
  run : ∀ (A : Around) (outer : List Env) (s : Shared) (H : Hp) (args : Args) (us : List Value) (vs : List V) (Q : VK) (E : XK) (p : Addr × Obj) (cls : Value) (d : Option Addr), RoomH k A → Hot1 A p → Zc cls d p.2 → PinOk outer H s p → Env0 P w K mg base A outer s H → BindsTo s fd args (ps.zip us) → Vals vs us → sp p.1 cls d vs H Q E →
    codeAny (model P w) A (.call (.ref f) args) (CR CX outer P w H s Q E) s
/-- the plan of HotCalls' fn_ofH, the exception's class told -/
theorem okE {P : Program} {w : World} {K : PySem.W.Frag} {mg : Str → Option Value} {base : Heap} {x qual : Str} {params : Arguments} {body : List Stmt} {scope : Scope} {dvs : List V} {kws : List (Str × V)} {f : Addr} {fd : FuncData} {CX : CXT} {N ps : List Str} {k : Nat} {sp : Addr → Value → Option Addr → Sp} (F : FunD K x qual params body scope dvs kws f fd) (S : FnScope N ps scope) (len : ∀ a cls d vs H Q E, sp a cls d vs H Q E → vs.length = ps.length)
    (hbody : ∀ (cdv : Value) (A : Around) (outer : List Env) (s : Shared) (H : Hp) (vs : List V) (Q : VK) (E : XK) (p : Addr × Obj) (cls : Value) (d : Option Addr), Hot1 A p → Zc cls d p.2 → (∃ vs, p.2.data = .fields vs) → RoomH k (A.deeper (envOfC qual scope s.heap.objs.size f cdv)) → sp p.1 cls d vs H Q E →
      ∃ t, PSs (cxH CX P w K mg base N qual scope f cdv A outer s H E p) body t ∧ t { nx := fun _ H' => Q .non H', rt := Q } (L2.start N vs) H) : FnE P w K mg base CX (k + 1) f fd ps sp := by
  obtain ⟨oc, od, dV, kV, doc, pm, an, cdv, ct, osl, rfl, lk, hcd, _, _⟩ := F.ex
  refine ⟨len, fun A outer s H args us vs Q E p cls d hr hot hz hpin e0 hb r hsp => ?_⟩
  have hl := len _ _ _ _ _ _ _ hsp
  have up : ∀ b o, base.get? b = some o → s.heap.get? b = some o := fun b o e => (e0.bs b o e).1
  have KX : K.In s.heap := e0.mod.kin.keeps up
  have S2 := S.par
  have hkind : ∀ y ∈ ps.zip us, scope.names.lookup y.1 = some .local ∨ (scope.names.lookup y.1 = some .cell ∧ ((cellsFrom (s.heap.objs.size + 1) scope.names []).lookup y.1).isSome = true) := by
    rintro ⟨n, v⟩ hy
    exact (S2 n (List.of_mem_zip hy).1).imp id fun q => ⟨q, PySem.W.cellsFrom_some _ _ _ (.inl q)⟩
  refine codeAny_call_function hr.depth (KX _ _ lk) rfl S.co S.gen rfl (PySem.W.codeRec_of KX hcd) (hb _ _ _ _ (wpAny_newFunctionEnv_cells S.kind hkind fun env he s1 x => ?_))
  subst he
  refine ⟨(e0.mod.nolimit.keeps up).keeps x.toInCall.keep, codeAny_func ?_⟩
  obtain ⟨v1, e1, _⟩ := hot.2
  obtain ⟨t, ht, hq⟩ := hbody cdv A outer s H vs Q E p cls d hot hz ⟨v1, e1⟩ (hr.deeper _) hsp
  refine wpAny_mono (ht.run [] s1 (L2.start N vs) H _ (inv_startH S hpin e0 hl r x) hq) (fun fl s' hs => ?_) fun _ _ hs => hs
  cases fl with
  | ret u =>
    obtain ⟨v, σ', H', J, rv, q⟩ := hs
    exact ⟨v, H', J.os, J.bare, J.base, J.hok, rv, q⟩
  | next =>
    obtain ⟨σ', H', J, q⟩ := hs
    exact ⟨.non, H', J.os, J.bare, J.base, J.hok, rfl, q⟩
  | brk => exact hs.elim fun _ h => h.elim fun _ h => h.2.elim
  | cont => exact hs.elim fun _ h => h.elim fun _ h => h.2.elim
section
variable {X : Cx} {CX : CXT} {k : Nat} {f a : Addr} {fd : FuncData} {ps : List Str} {sp : Addr → Value → Option Addr → Sp} {E : St → XK} {x : Str} {q pos : Pos} {e : Expr} {es : List Expr} {t : TA} {oe : Obj} {cls : Value} {d : Option Addr} {pn : List (Addr × Obj)}
/-- f(.., e, ..) in the suite that holds e -/
theorem pe_callE (F : FnE X.prog X.w X.K X.mg X.base CX k f fd ps sp) (hr : RoomH k (X.suite a ((a, oe) :: pn)).A) (hz : L2N.Zn cls d oe) (hf : ∃ vs, oe.data = .fields vs) (hg : Gl (X.suite a ((a, oe) :: pn)) x) (hm : X.mg x = some (.ref f)) (hk : PySem.W.keepIn X.K (.ref f) = true) (hb : Binds X.K fd ps []) (hx : ∀ σ, PassesAt CX (X.suite a ((a, oe) :: pn)) σ (E σ))
    (ha : PA (X.suite a ((a, oe) :: pn)) (e :: es) t) (hdb : (x == ("__debug__" : Str)) = false := by decide) (he : starEach (e :: es) X.env = (false, eval e X.env) :: starEach es X.env := by rfl) (hpl : (backTo pos (starEach es X.env)).any (·.1) = false := by rfl) :
    PE (X.suite a ((a, oe) :: pn)) (.Call (.Name x q) (e :: es) [] pos) (tCallS (sp a cls d) E t) := by
  refine ⟨fun pins s σ H Q I h => ?_⟩
  refine wpAny_Call_Name_kw (ld_glob I hg hm ?_ hdb)
  refine PySem.W.callWith_K (h₀ := X.base) I.ok.mod.kin hk (thn (ha.run pos pins s σ H _ I h) fun us s1 ⟨vs, H1, I1, r, q⟩ => ⟨I1.kIn, ?_⟩) he hpl
  obtain ⟨v0, e0⟩ := hf
  have hot : Hot1 (X.suite a ((a, oe) :: pn)).A (a, oe) := ⟨rfl, v0, e0, hz.2.2 v0 e0⟩
  have hl : us.length = ps.length := by rw [← r.length]; exact F.len _ _ _ _ _ _ _ q
  have b := hb s1 us I1.kIn (by rw [List.append_nil]; exact hl)
  rw [List.append_nil] at b
  have P1 := I1.pin (a, oe) (List.mem_append_left _ List.mem_cons_self)
  have hpin : PinOk (X.suite a ((a, oe) :: pn)).stack H1 s1 (a, oe) := ⟨P1.1, P1.2.1, fun hm => (List.mem_cons.mp (I1.stkSub a hm)).elim P1.2.2.1 P1.2.2.2.1, P1.2.2.2.2⟩
  refine wpAny_call (codeAny_mono (F.run _ _ s1 H1 ⟨us, []⟩ us vs Q (E σ) (a, oe) cls d hr hot ⟨hz.1, hz.2.1⟩ hpin I1.env0 b r q) fun r s' hq => ?_)
  cases r with
  | error e => exact hx σ pins H1 s1 e s' I1 hq
  | ok fl =>
    cases fl with
    | ret u => exact I1.after hq
    | next => exact hq.elim
    | brk => exact hq.elim
    | cont => exact hq.elim
end
end L2H
namespace L2
open PySem PySem.Spec PyProof.Rows
/-- isinstance(e, c) where e is pinned -/
theorem call_isEP {X : Cx} {a : Addr} {cls : Value} {d : Option Addr} {oe : Obj} (hp : (a, oe) ∈ X.pn) (hz : Zc cls d oe) (hf : ∃ vs, oe.data = .fields vs) : CallR X (.builtin "isinstance") (rIsEE X.K a cls d) := by
  intro pins s σ H xs us Q I r h
  obtain ⟨D, c, cv, b, rfl, C, hd, rfl, hcv, e, q⟩ := h
  cases r with
  | cons rx rr =>
    cases rr with
    | cons rt rr =>
      cases rr
      cases rx
      have ec := hcv _ rt
      subst ec
      obtain ⟨hget, _⟩ := I.pin (a, oe) (List.mem_append.mpr (.inl hp))
      obtain ⟨vs, hv⟩ := hf
      have hcl : (PySem.W.clsIn X.K D).isSome = true := by
        obtain ⟨cd, hc, _⟩ := PySem.W.any_some C.hd
        rw [hc]; rfl
      have J : ∃ od, PySem.W.InstAt s.heap a oe D od := by
        obtain ⟨oc, od, oda, osl⟩ := oe
        obtain ⟨h1, h2⟩ := hz
        dsimp only at h1 h2 hv
        subst h1 h2 hv
        rcases hd with rfl | ⟨dd, fs, rfl, hx⟩
        · exact ⟨none, hget, rfl, rfl, trivial⟩
        · have hx2 : ObjOk X.prog X.w H s.heap dd (.xd fs) := I.hok dd _ hx
          obtain ⟨mA, hns, hr⟩ := hx2
          obtain ⟨od, ho, hl⟩ := lookIn_ns hns
          exact ⟨some od, hget, rfl, rfl, ho⟩
      obtain ⟨od, J⟩ := J
      exact PySem.W.kia_one (PySem.W.kitx_exc hcl C.hg C.hk C.hs C.ha C.hn C.ht C.hm) I.kIn J e (fun z => nomatch z) fun tk => ⟨.bl b, H, I.kept (t' := tk) fun _ _ z => z, rfl, q⟩
end L2
/-! defs with defaults, gcd, f-strings -/
namespace Cl
open PySem PySem.Spec PySem.Calls PyProof.Rows L2 Px
/-- a def with defaults: all are written, or the defaults fill up -/
def spD (dvs : List V) (sp : Sp) : Sp := fun vs H Q E => sp vs H Q E ∨ sp (vs ++ dvs) H Q E
theorem toRD {P : Program} {w : World} {K : PySem.W.Frag} {mg : Str → Option Value} {base : Heap} {CX : CXT} {k : Nat} {f : Addr} {fd : FuncData} {ps : List Str} {sp : Sp} {dvs : List V} (F : FnOk P w K mg base CX k f fd ps sp) (hb : Binds K fd ps []) (hd : ∃ ds, Vals dvs ds ∧ Binds K fd ps ds) : FnR P w K mg base CX k f (spD dvs sp) := by
  intro A outer s H us vs Q E hr e0 r h
  have kin := e0.mod.kin.keeps fun b o e => (e0.bs b o e).1
  rcases h with h | h
  · exact toR F hb A outer s H us vs Q E hr e0 r h
  · obtain ⟨ds, hv, hB⟩ := hd
    have r2 : Vals (vs ++ dvs) (us ++ ds) := r.append hv
    have hl : (us ++ ds).length = ps.length := by rw [← r2.length]; exact F.len _ _ _ _ h
    exact F.run A outer s H ⟨us, []⟩ (us ++ ds) (vs ++ dvs) Q E hr e0 (hB s us kin hl) r2 h
theorem binds_all {K : PySem.W.Frag} {x qual : Str} {params : Arguments} {body : List Stmt} {scope : Scope} {dvs : List V} {kws : List (Str × V)} {f : Addr} {fd : FuncData} {ps : List Str} (F : FunD K x qual params body scope dvs kws f fd) (hd : dvs ≠ [])
    (h : ∀ (T : Addr) (kV doc pm : Value) (an : Option Addr) (cdv ct : Value) (us its : List Value), us.length = ps.length → its.length = dvs.length →
      ∃ k, bindArgs (PySem.W.fnOf x qual params body scope (.ref T) kV doc pm an cdv ct) ⟨us, []⟩ = seqItems? (.ref T) >>= k ∧ k (some its.toArray) = pure (ps.zip (us ++ its.drop dvs.length))) : Binds K fd ps [] := by
  obtain ⟨ds, hv, hB⟩ := FunD.binds1 F ps.length dvs.length hd (by omega) h
  rw [List.drop_length] at hv
  cases hv
  exact hB
end Cl
namespace Hk
open PySem PySem.Spec PySem.W PyProof.Rows L2 He
def bltB (K : Frag) (x : PySem.Str) (id : String) : Bool := eqO (nsIn K mainGlobals x) (some (some (.builtin id)))
end Hk
namespace Px
open PySem PySem.Spec PyProof.Rows L2
section
variable {σ : L2.St} {H : Hp} {Q : VK} {te : TE}
theorem s_gcd {a b : Int} (h : Q (.int ((Nat.gcd a.natAbs b.natAbs : Nat) : Int)) H) : rGcd [.int a, .int b] H Q := ⟨a, b, rfl, h⟩
/-- f'..' -/
def tJoined (ts : List TE) : TE := fun σ H Q => tJs ts Str.empty σ H fun out H1 => Q (.str out) H1
end
end Px
/-! operators of an own object and an int, on either side -/
namespace Cl
open PySem PySem.Spec PySem.Calls PySem.W PyProof.Rows L2 Px
section
variable {prog : Program} {w : World} {M : Model} {A : Around} {E : Value → Shared → Prop} {s : Shared} {K : PySem.W.Frag} {y C L f g : Addr} {h₀ : Heap} {m : Str → Option Value} {oy : Obj} {od : Option Obj}
/-- an int's method by an own object: NotImplemented -/
theorem int_ref {name : String} {fn : Int → Int → Sem Fin} {i : Int} {tk : Tok} {Q : Value → Shared → Prop} (e : s.heap.get? y = some oy) (hd : oy.data = .plain) (h : Q .notImplemented s) :
    wpAny M A (Builtin.Int.intBinary name fn false ⟨[.int i tk, .ref y], []⟩) (fun fin s' => ∃ v, fin = .done (.ret v) ∧ Q v s') E s := by
  unfold Builtin.Int.intBinary
  refine wpAny_bind (wpAny_pure ?_)
  refine wpAny_bind (wpAny_pure ?_)
  refine wpAny_bind ?_
  show wpAny M A (asInt? (.ref y)) _ E s
  unfold asInt?
  refine wpAny_bind (wpAny_load e ?_)
  simp only [hd]
  refine wpAny_pure ?_
  dsimp only
  refine wpAny_bind (wpAny_rule ?_)
  exact wpAny_pure ⟨_, rfl, h⟩
/-- an int's method that says NotImplemented to an own object -/
def NoInt (B : Builtin) : Prop := ∀ (M : Model) (A : Around) (E : Value → Shared → Prop) (s : Shared) (y : Addr) (oy : Obj) (i : Int) (tk : Tok) (Q : Value → Shared → Prop), s.heap.get? y = some oy → oy.data = .plain → Q .notImplemented s → wpAny M A (B ⟨[.int i tk, .ref y], []⟩) (fun fin s' => ∃ v, fin = .done (.ret v) ∧ Q v s') E s
theorem noInt_bin (name : String) (fn : Int → Int → Sem Fin) : NoInt (Builtin.Int.intBinary name fn) := fun _ _ _ _ _ _ _ _ _ e hd h => int_ref e hd h
theorem noInt_fdiv : NoInt Builtin.«int.__floordiv__» := fun M A E s y oy i tk Q e hd h => by
  unfold Builtin.«int.__floordiv__»
  refine wpAny_bind ?_
  unfold Builtin.exactOperandsForPylong
  refine W.KFB.if_so rfl ?_
  refine wpAny_bind (wpAny_pure ?_)
  refine wpAny_bind ?_
  show wpAny M A (asInt? (.ref y)) _ E s
  unfold asInt?
  refine wpAny_bind (wpAny_load e ?_)
  simp only [hd]
  refine wpAny_pure ?_
  dsimp only
  refine wpAny_pure ?_
  exact int_ref e hd h
theorem try_int {name : Str} {id : String} {B : Builtin} {i : Int} {tk : Tok} {Q : Option Value → Shared → Prop} (hB : NoInt B) (e : s.heap.get? y = some oy) (hd : oy.data = .plain) (slot : Slot "int" name id) (entry : entryFor table id = some B) (args : argsOk id ⟨[.int i tk, .ref y], []⟩) (h : Q none s) :
    wpAny (model prog w) A (tryMethod (.int i tk) name (.ref y)) Q E s := by
  unfold tryMethod
  refine wpAny_bind (wpAny_callSpecial?_slot (typeIs_int s i tk) slot (wpAny_call_entry slot (typeIs_int s i tk) entry (hB _ _ _ _ _ _ _ _ (fun v s' => wpAny (model prog w) A (match some v with | some .notImplemented | none => pure none | some v => pure (some v)) Q E s') e hd ?_) args))
  exact wpAny_pure h
theorem rbin1 {op : Operator} {i : Int} {tk : Tok} {id : String} {B : Builtin} {Q : Value → Shared → Prop} (hB : NoInt B) (F : Fr h₀ L s.heap m) (X₀ : K.In h₀) (I : InstAt s.heap y oy C od) (hd : oy.data = .plain) (hc : selfFirst K C = true)
    (hs : findIn K (.ref C) (PySem.dunder op.info.2) = some (some (.ref f))) (hr : findIn K (.ref C) (dunderR op.info.2) = some (some (.ref g))) (hg : isFn K (.ref g) = true) (hsub : subIn K (.ref C) (.type "int") = some false)
    (fills : fillsNumberSlot (.type "int") op.info.2 = pure true) (slot : Slot "int" (PySem.dunder op.info.2) id) (entry : entryFor table id = some B) (args : argsOk id ⟨[.int i tk, .ref y], []⟩)
    (h : wpAny (model prog w) A (call (.ref g) [.ref y, .int i tk]) (PySem.W.CmpBack Q) E s) : wpAny (model prog w) A (binaryOp1 op.info.2 (.int i tk) (.ref y)) (fun r s' => ∃ v, r = some v ∧ Q v s') E s := by
  have X := X₀.keeps F.keep
  obtain ⟨cd, rest, hcd, hm⟩ := ksp_first hc
  rcases hi : op.info with ⟨sym, nm'⟩
  rw [hi] at hs hr fills slot
  dsimp only at hs hr fills slot ⊢
  have one := ksp_try X I hr hg h
  have e := I.at_
  have zero : ∀ {Q : Option Value → Shared → Prop}, Q none s → wpAny (model prog w) A (tryMethod (.int i tk) (PySem.dunder nm') (.ref y)) Q E s := fun h => try_int hB e hd slot entry args h
  obtain ⟨hh, g0, d, tt, os⟩ := s
  have L1 : Looks (model prog w) hh (typeOf (.ref y)) (.ref C) := I.type
  have L3 : Looks (model prog w) hh (fillsNumberSlot (.ref C) nm') true := fills_K X hcd hm hs
  have L4 : Looks (model prog w) hh (fillsNumberSlot (.type "int") nm') true := Looks.of_pure fills
  have L5 : Looks (model prog w) hh (isSubtype (.ref C) (.type "int")) false := looks_subIn X hsub
  have L7 : Looks (model prog w) hh (numberSlotInPython (.type "int") nm') false := Looks.of_pure rfl
  have hne : (Value.type "int" == Value.ref C) = false := Bool.eq_false_iff.mpr fun q => by cases beq_iff_eq.mp q
  unfold binaryOp1
  refine wpAny_bind (wpAny_pure ?_)
  refine wpAny_bind (L1.at (wpAny_bind (L4.at ?_)))
  simp only [hne, Bool.false_eq_true, if_false]
  ksp_lk
  refine zero ?_
  ksp_lk
  refine wpAny_mono one (fun r s' hr' => ?_) fun _ _ e => e
  obtain ⟨v, rfl, hq⟩ := hr'
  ksp_lk
  exact ⟨_, rfl, hq⟩
/-- own op own, own op int, below the operator's frame -/
theorem bin1C {op : Operator} {x : Addr} {ox : Obj} {b : Value} {Q : Value → Shared → Prop} (F : Fr h₀ L s.heap m) (X₀ : K.In h₀) (I : InstAt s.heap x ox C od) (hb : Looks (model prog w) s.heap (typeOf b) (.ref C)) (hc : selfFirst K C = true)
    (hs : findIn K (.ref C) (PySem.dunder op.info.2) = some (some (.ref f))) (hf : isFn K (.ref f) = true)
    (h : wpAny (model prog w) A (call (.ref f) [.ref x, b]) (PySem.W.CmpBack Q) E s) : wpAny (model prog w) A (binaryOp1 op.info.2 (.ref x) b) (fun r s' => ∃ v, r = some v ∧ Q v s') E s := by
  have X := X₀.keeps F.keep
  obtain ⟨cd, rest, hcd, hm⟩ := ksp_first hc
  rcases hi : op.info with ⟨sym, nm'⟩
  rw [hi] at hs
  dsimp only at hs ⊢
  have one := ksp_try X I hs hf h
  obtain ⟨hh, g0, d, tt, os⟩ := s
  have L1 : Looks (model prog w) hh (typeOf (.ref x)) (.ref C) := I.type
  have L2 : Looks (model prog w) hh (typeOf b) (.ref C) := hb
  have L3 : Looks (model prog w) hh (fillsNumberSlot (.ref C) nm') true := fills_K X hcd hm hs
  unfold binaryOp1
  refine wpAny_bind (L1.at (wpAny_bind (L2.at (wpAny_bind (L3.at ?_)))))
  simp only [beq_self_eq_true, if_true]
  ksp_lk
  refine wpAny_mono one (fun r s' hr' => ?_) fun _ _ e => e
  obtain ⟨v, rfl, hq⟩ := hr'
  ksp_lk
  exact ⟨_, rfl, hq⟩
theorem bin1T {op : Operator} {x : Addr} {ox : Obj} {T : String} {b : Value} {fo ro rc : Option Value} {Q : Value → Shared → Prop} (F : Fr h₀ L s.heap m) (X₀ : K.In h₀) (I : InstAt s.heap x ox C od) (hb : typeOf b = pure (.type T)) (hc : selfFirst K C = true)
    (hs : findIn K (.ref C) (PySem.dunder op.info.2) = some (some (.ref f))) (hf : isFn K (.ref f) = true) (hr : findIn K (.ref C) (dunderR op.info.2) = some rc) (hp : rc = none ∨ ∃ g : Addr, rc = some (.ref g))
    (h1 : findIn K (.type T) (PySem.dunder op.info.2) = some fo) (h2 : findIn K (.type T) (dunderR op.info.2) = some ro) (hsub : subIn K (.type T) (.ref C) = some false)
    (h : wpAny (model prog w) A (call (.ref f) [.ref x, b]) (PySem.W.CmpBack Q) E s) : wpAny (model prog w) A (binaryOp1 op.info.2 (.ref x) b) (fun r s' => ∃ v, r = some v ∧ Q v s') E s := by
  have X := X₀.keeps F.keep
  obtain ⟨cd, rest, hcd, hm⟩ := ksp_first hc
  rcases hi : op.info with ⟨sym, nm'⟩
  rw [hi] at hs hr h1 h2
  dsimp only at hs hr h1 h2 ⊢
  have one := ksp_try X I hs hf h
  obtain ⟨hh, g0, d, tt, os⟩ := s
  have L1 : Looks (model prog w) hh (typeOf (.ref x)) (.ref C) := I.type
  have L2 : Looks (model prog w) hh (typeOf b) (.type T) := Looks.of_pure hb
  have L3 : Looks (model prog w) hh (fillsNumberSlot (.ref C) nm') true := fills_K X hcd hm hs
  have L4 : Looks (model prog w) hh (fillsNumberSlot (.type T) nm') ((fo.isSome && !isSeqSlot fo) || (ro.isSome && !isSeqSlot ro)) := ksp_fillsT X h1 h2
  have L5 : Looks (model prog w) hh (isSubtype (.type T) (.ref C)) false := looks_subIn X hsub
  have L6 : Looks (model prog w) hh (numberSlotInPython (.ref C) nm') true := ksp_inPy X hs hr hp
  have L7 : Looks (model prog w) hh (numberSlotInPython (.type T) nm') false := Looks.of_pure rfl
  have L8 : Looks (model prog w) hh (typeLookup (.type T) (dunderR nm')) ro := looks_findIn X h2
  generalize ((fo.isSome && !isSeqSlot fo) || (ro.isSome && !isSeqSlot ro)) = right at L4
  have hne : (Value.ref C == Value.type T) = false := Bool.eq_false_iff.mpr fun q => by cases beq_iff_eq.mp q
  unfold binaryOp1
  refine wpAny_bind (L1.at (wpAny_bind (L2.at (wpAny_bind (L3.at ?_)))))
  simp only [hne, Bool.false_eq_true, if_false]
  cases right with
  | false =>
    ksp_lk
    refine wpAny_mono one (fun r s' hr' => ?_) fun _ _ e => e
    obtain ⟨v, rfl, hq⟩ := hr'
    ksp_lk
    exact ⟨_, rfl, hq⟩
  | true =>
    ksp_lk
    refine wpAny_mono one (fun r s' hr' => ?_) fun _ _ e => e
    obtain ⟨v, rfl, hq⟩ := hr'
    ksp_lk
    exact ⟨_, rfl, hq⟩
theorem bin_of1 {op : Operator} {a b : Value} {Q : Value → Shared → Prop} (h : wpAny (model prog w) A (binaryOp1 op.info.2 a b) (fun r s' => ∃ v, r = some v ∧ Q v s') E s) : wpAny (model prog w) A (binaryOp op a b) Q E s := by
  unfold binaryOp
  refine wpAny_holding (wpAny_bind (wpAny_mono h (fun r s' hr' => ?_) fun _ _ e => e))
  obtain ⟨v, rfl, hq⟩ := hr'
  exact wpAny_pure hq
/-- none of the list -/
theorem anyM_no {M : Model} {h : Heap} {p : Value → Sem Bool} : ∀ {l : List Value}, (∀ c ∈ l, Looks M h (p c) false) → Looks M h (l.anyM p) false
  | [], _ => .now
  | c :: r, hl => by
    rw [List.anyM_cons]
    exact (hl c List.mem_cons_self).andThen (anyM_no fun d hd => hl d (List.mem_cons_of_mem _ hd))
theorem noI_of {M : Model} {h : Heap} {nm : String} {add : Bool} {cd : ClassData} (X : K.In h) (hc : clsIn K C = some cd) (hno : ∀ c ∈ cd.mro, findIn K c (dunderI nm) = some none) : Looks M h (fillsInplaceSlot (.ref C) nm add) false := by
  intro A Q E s k q
  unfold fillsInplaceSlot
  refine wpAny_bind ((looks_clsIn X hc).andThen (f := fun cd => pure cd.mro) .now A _ E s k ?_)
  exact anyM_no (fun c hc => (looks_findIn X (hno c hc)).andThen .now) A _ E s k q
theorem in_of1 {op : Operator} {x : Addr} {ox : Obj} {b : Value} {cd : ClassData} {Q : Value → Shared → Prop} (X : K.In s.heap) (I : InstAt s.heap x ox C od) (hc : clsIn K C = some cd) (hno : ∀ c ∈ cd.mro, findIn K c (dunderI op.info.2) = some none)
    (h : wpAny (model prog w) A (binaryOp1 op.info.2 (.ref x) b) (fun r s' => ∃ v, r = some v ∧ Q v s') E s) : wpAny (model prog w) A (inplaceOp op (.ref x) b) Q E s := by
  have L2 : Looks (model prog w) s.heap (fillsInplaceSlot (.ref C) op.info.2 (op == .Add)) false := noI_of X hc hno
  unfold inplaceOp
  refine wpAny_holding ?_
  refine wpAny_bind (I.type.here (wpAny_bind (L2.here ?_)))
  simp only [Bool.false_eq_true, if_false]
  refine wpAny_bind (wpAny_mono h (fun r s' hr' => ?_) fun _ _ e => e)
  obtain ⟨v, rfl, hq⟩ := hr'
  exact wpAny_pure hq
end
end Cl
namespace Cl
open PySem PySem.Spec PySem.Calls PyProof.Rows L2 Px
structure MixOp (K : PySem.W.Frag) (C : Addr) (op : Operator) (f g : Addr) : Prop where
  at_ : PySem.W.findIn K (.ref C) (PySem.dunder op.info.2) = some (some (.ref f))
  fn : PySem.W.isFn K (.ref f) = true
  sf : PySem.W.selfFirst K C = true
  rat : PySem.W.findIn K (.ref C) (dunderR op.info.2) = some (some (.ref g))
  rfn : PySem.W.isFn K (.ref g) = true
  i1 : ∃ fo, PySem.W.findIn K (.type "int") (PySem.dunder op.info.2) = some fo
  i2 : ∃ ro, PySem.W.findIn K (.type "int") (dunderR op.info.2) = some ro
  s1 : PySem.W.subIn K (.type "int") (.ref C) = some false
  s2 : PySem.W.subIn K (.ref C) (.type "int") = some false
  ni : ∃ cd, PySem.W.clsIn K C = some cd ∧ ∀ c ∈ cd.mro, PySem.W.findIn K c (dunderI op.info.2) = some none
structure IntOp (op : Operator) : Prop where
  fills : fillsNumberSlot (.type "int") op.info.2 = pure true
  ex : ∃ (id : String) (B : Builtin), NoInt B ∧ Slot "int" (PySem.dunder op.info.2) id ∧ entryFor table id = some B ∧ ∀ a b : Value, argsOk id ⟨[a, b], []⟩
theorem int_add : IntOp .Add := ⟨PySem.F.fills_int_add, "int.__add__", _, noInt_bin _ _, PySem.F.slot_int_add, PySem.F.entry_int_add, PySem.F.args_int_add_2⟩
theorem int_sub : IntOp .Sub := ⟨PySem.F.fills_int_sub, "int.__sub__", _, noInt_bin _ _, PySem.F.slot_int_sub, PySem.F.entry_int_sub, PySem.F.args_int_sub_2⟩
theorem int_mul : IntOp .Mult := ⟨PySem.F.fills_int_mul, "int.__mul__", _, noInt_bin _ _, PySem.F.slot_int_mul, PySem.F.entry_int_mul, PySem.F.args_int_mul_2⟩
theorem int_floordiv : IntOp .FloorDiv := ⟨PySem.F.fills_int_floordiv, "int.__floordiv__", _, noInt_fdiv, PySem.F.slot_int_floordiv, PySem.F.entry_int_floordiv, PySem.F.args_int_floordiv_2⟩
theorem dd_floordiv : PySem.dunder Operator.FloorDiv.info.2 = ("__floordiv__" : Str) := by decide +kernel
/-- own op own, own op int; int op own -/
structure MixAt (X : Cx) (op : Operator) (E : L2.St → XK) (C : Addr) (sp spr : Sp) : Prop where
  fwd : ∀ (pins : List (Addr × Obj)) (s : Shared) (σ : L2.St) (H : Hp) (a dx : Addr) (fs : List (Str × V)) (y : V) (u : Value) (Q : VK), Inv X pins σ H s → H a = some (.ins C dx fs) → RelV y u → ((∃ b dy gs, y = .ref b ∧ H b = some (.ins C dy gs)) ∨ ∃ n, y = .int n) → sp [.ref a, y] H Q (E σ) →
    wpAny (model X.prog X.w) X.A (binaryOp1 op.info.2 (.ref a) u) (fun r s' => ∃ v, r = some v ∧ EP X pins σ Q v s') X.xe s
  bwd : ∀ (pins : List (Addr × Obj)) (s : Shared) (σ : L2.St) (H : Hp) (b dy : Addr) (gs : List (Str × V)) (n : Int) (tk : Tok) (Q : VK), Inv X pins σ H s → H b = some (.ins C dy gs) → spr [.ref b, .int n] H Q (E σ) →
    wpAny (model X.prog X.w) X.A (binaryOp1 op.info.2 (.int n tk) (.ref b)) (fun r s' => ∃ v, r = some v ∧ EP X pins σ Q v s') X.xe s
  ni : ∃ cd, PySem.W.clsIn X.K C = some cd ∧ ∀ c ∈ cd.mro, PySem.W.findIn X.K c (dunderI op.info.2) = some none
theorem mix_of {X : Cx} {CX CX' : CXT} {k k' : Nat} {op : Operator} {E : L2.St → XK} {C f g : Addr} {sp spr : Sp} (i : IntOp op) (o : MixOp X.K C op f g) (F : FnR X.prog X.w X.K X.mg X.base CX k f sp) (G : FnR X.prog X.w X.K X.mg X.base CX' k' g spr) (hr : Room k X.A) (hr' : Room k' X.A) (hx : ∀ σ, PassesAt CX X σ (E σ)) (hx' : ∀ σ, PassesAt CX' X σ (E σ)) : MixAt X op E C sp spr := by
  refine ⟨?_, ?_, o.ni⟩
  · intro pins s σ H a dx fs y u Q I ha ry hy h
    obtain ⟨mA, J, _⟩ := ins_get I.hok ha
    obtain ⟨od, J, _⟩ := J.look
    obtain ⟨m, hF⟩ := I.fr
    have go := wpAny_mono (run_RS F hr (hx σ) I (show Vals [V.ref a, y] [Value.ref a, u] from .cons rfl (.cons ry .nil)) h) (fun _ _ z => back_of z) fun _ _ z => z
    rcases hy with ⟨b, dy, gs, rfl, hb⟩ | ⟨n, rfl⟩
    · cases ry
      obtain ⟨mB, J', _⟩ := ins_get I.hok hb
      obtain ⟨od', J', _⟩ := J'.look
      exact bin1C hF I.ok.mod.kin J J'.type o.sf o.at_ o.fn go
    · obtain ⟨tk, rfl⟩ := ry
      obtain ⟨fo, h1⟩ := o.i1
      obtain ⟨ro, h2⟩ := o.i2
      exact bin1T (T := "int") hF I.ok.mod.kin J rfl o.sf o.at_ o.fn o.rat (.inr ⟨g, rfl⟩) h1 h2 o.s1 go
  · intro pins s σ H b dy gs n tk Q I hb h
    obtain ⟨mB, J, _⟩ := ins_get I.hok hb
    obtain ⟨od, J, _⟩ := J.look
    obtain ⟨m, hF⟩ := I.fr
    obtain ⟨id, B, hB, slot, entry, args⟩ := i.ex
    exact rbin1 hB hF I.ok.mod.kin J rfl o.sf o.at_ o.rat o.rfn o.s2 i.fills slot entry (args _ _) (wpAny_mono (run_RS G hr' (hx' σ) I (show Vals [V.ref b, V.int n] [Value.ref b, Value.int n tk] from .cons rfl (.cons ⟨tk, rfl⟩ .nil)) h) (fun _ _ z => back_of z) fun _ _ z => z)
inductive Mixes (X : Cx) (op : Operator) (E : L2.St → XK) : List (Addr × Sp × Sp) → Prop
  | nil : Mixes X op E []
  | cons {C : Addr} {sp spr : Sp} {l : List (Addr × Sp × Sp)} : MixAt X op E C sp spr → Mixes X op E l → Mixes X op E ((C, sp, spr) :: l)
theorem Mixes.at {X : Cx} {op : Operator} {E : L2.St → XK} {l : List (Addr × Sp × Sp)} (h : Mixes X op E l) : ∀ {i : Nat} {C : Addr} {sp spr : Sp}, l[i]? = some (C, sp, spr) → MixAt X op E C sp spr := by
  induction h with
  | nil => intro i C sp spr e; cases e
  | cons h _ ih =>
    intro i C sp spr e
    cases i with
    | zero => cases e; exact h
    | succ i => exact ih (by simpa using e)
def rMix (l : List (Addr × Sp × Sp)) (E : L2.St → XK) (base : R2) : R2S := fun σ x y H Q => base x y H Q ∨ ∃ (i : Nat) (C : Addr) (sp spr : Sp), l[i]? = some (C, sp, spr) ∧
  ((∃ a dx fs, x = .ref a ∧ H a = some (.ins C dx fs) ∧ ((∃ b dy gs, y = .ref b ∧ H b = some (.ins C dy gs)) ∨ ∃ n, y = .int n) ∧ sp [.ref a, y] H Q (E σ)) ∨
   ∃ n b dy gs, x = .int n ∧ y = .ref b ∧ H b = some (.ins C dy gs) ∧ spr [.ref b, .int n] H Q (E σ))
theorem op_mix {X : Cx} {op : Operator} {E : L2.St → XK} {l : List (Addr × Sp × Sp)} {base : R2} (h : Mixes X op E l) (hb : OpR X (binaryOp op) base) : OpS X (binaryOp op) (rMix l E base) := by
  intro pins s σ H x y v u Q I rx ry q
  rcases q with q | ⟨i, C, sp, spr, hl, ⟨a, dx, fs, rfl, ha, hy, q⟩ | ⟨n, b, dy, gs, rfl, rfl, hbb, q⟩⟩
  · exact hb pins s σ H x y v u Q I rx ry q
  · cases rx
    exact bin_of1 ((h.at hl).fwd pins s σ H a dx fs y u Q I ha ry hy q)
  · obtain ⟨tk, rfl⟩ := rx
    cases ry
    exact bin_of1 ((h.at hl).bwd pins s σ H b dy gs n tk Q I hbb q)
/-- name op= e, the name's value an own object -/
def rAug (l : List (Addr × Sp × Sp)) (E : L2.St → XK) (base : R2) : R2S := fun σ x y H Q => base x y H Q ∨ ∃ (i : Nat) (C : Addr) (sp spr : Sp) (a dx : Addr) (fs : List (Str × V)), l[i]? = some (C, sp, spr) ∧ x = .ref a ∧ H a = some (.ins C dx fs) ∧ ((∃ b dy gs, y = .ref b ∧ H b = some (.ins C dy gs)) ∨ ∃ n, y = .int n) ∧ sp [.ref a, y] H Q (E σ)
theorem iop_mix {X : Cx} {op : Operator} {E : L2.St → XK} {l : List (Addr × Sp × Sp)} {base : R2} (h : Mixes X op E l) (hb : OpR X (inplaceOp op) base) : OpS X (inplaceOp op) (rAug l E base) := by
  intro pins s σ H x y v u Q I rx ry q
  rcases q with q | ⟨i, C, sp, spr, a, dx, fs, hl, rfl, ha, hy, q⟩
  · exact hb pins s σ H x y v u Q I rx ry q
  · cases rx
    obtain ⟨mA, J, _⟩ := ins_get I.hok ha
    obtain ⟨od, J, _⟩ := J.look
    obtain ⟨cd, hc, hno⟩ := (h.at hl).ni
    exact in_of1 I.kIn J hc hno ((h.at hl).fwd pins s σ H a dx fs y u Q I ha ry hy q)
def tAugO (i : Nat) (te : TE) (r : R2S) : TS := fun D σ H => ∃ x, σ[i]? = some (some x) ∧ te σ H fun y H1 => r σ x y H1 fun z H2 => D.nx (σ.set i (some z)) H2
theorem ps_augO {X : Cx} {pos : Pos} {i : Nat} {x : Str} {e : Expr} {te : TE} {op : Operator} {r : R2S} {pos' : Pos} (hN : X.N.Nodup) (hi : X.N[i]? = some x) (hx : Loc X.env.scope x) (he : PE X e te) (ho : OpS X (inplaceOp op) r) (hf : X.fn x = true ∨ X.env.scope.names.lookup x = some .local := by first | exact .inl rfl | exact .inr rfl | assumption) :
    PS X (.AugAssign (.Name x pos') op e pos) (tAugO i te r) := by
  refine ⟨fun pins s σ H D I h => ?_⟩
  obtain ⟨v, e1, h⟩ := h
  obtain ⟨m, hn, hl⟩ := I.loc
  have vis : Vis X.env.scope x := hx.elim .inl fun k => .inr (.inl k)
  obtain ⟨u, rel, l⟩ := hl i x v hi e1 vis
  have go : wpAny (model X.prog X.w) X.A (eval e X.env) (fun w s₂ => wpAny (model X.prog X.w) X.A (inplaceOp op u w) (fun r s₃ => wpAny (model X.prog X.w) X.A (storeName X.env x r) (fun _ => SP X pins D .next) X.xe s₃) X.xe s₂) X.xe s :=
    thn (he.run pins s σ H _ I h) fun w s1 ⟨y, H1, I1, r1, q1⟩ => thn (ho pins s1 σ H1 v y u w _ I1 rel r1 q1) fun z s2 ⟨zv, H2, I2, r2, q2⟩ => store_ok I2 hN hi hx r2 (fun s3 I3 => ⟨_, H2, I3, q2⟩) hf
  refine wpAny_AugAssign_Name ?_
  rcases l with ⟨hk, hm⟩ | ⟨hk, c, hc, hcell⟩
  · exact wpAny_loadName_local I.ok.kind hk hn hm go
  · rcases hk with hk | hk
    · exact wpAny_loadName_cell I.ok.kind hk hc hcell go
    · have e2 : X.env.scope.names.lookup x = some .free := hk
      rcases hx with k | k <;> (rw [k] at e2; cases e2)
end Cl
namespace Hk
open PySem PySem.Spec PySem.W PyProof.Rows L2 He
def mixB (K : Frag) (C : Addr) (m r i : PySem.Str) : Bool := ownB K C m && (eqO (findIn K (.ref C) r) (some (some (.ref (ma K C r)))) && (isFn K (.ref (ma K C r)) && ((findIn K (.type "int") m).isSome && ((findIn K (.type "int") r).isSome && (decide (subIn K (.type "int") (.ref C) = some false) && (decide (subIn K (.ref C) (.type "int") = some false) && (match clsIn K C with
  | some cd => cd.mro.all fun c => eqO (findIn K c i) (some none)
  | none => false)))))))
theorem mixB_ok {K : Frag} {C : Addr} {m r i : PySem.Str} {op : Operator} (h : mixB K C m r i = true) (e1 : PySem.dunder op.info.2 = m) (e2 : dunderR op.info.2 = r) (e3 : dunderI op.info.2 = i) : Cl.MixOp K C op (ma K C m) (ma K C r) := by
  subst e1 e2 e3
  unfold mixB at h
  obtain ⟨h1, h⟩ := ba h
  obtain ⟨h2, h⟩ := ba h
  obtain ⟨h3, h⟩ := ba h
  obtain ⟨h4, h⟩ := ba h
  obtain ⟨h5, h⟩ := ba h
  obtain ⟨h6, h⟩ := ba h
  obtain ⟨h7, h8⟩ := ba h
  have o := ownB_ok h1
  refine ⟨o.at_, o.fn, o.sf, eqO_ok h2, h3, Option.isSome_iff_exists.mp h4, Option.isSome_iff_exists.mp h5, of_decide_eq_true h6, of_decide_eq_true h7, ?_⟩
  split at h8
  · rename_i cd e
    exact ⟨cd, e, fun c hc => eqO_ok (List.all_eq_true.mp h8 c hc)⟩
  · cases h8
theorem rd_add : dunderR Operator.Add.info.2 = ("__radd__" : PySem.Str) := by decide +kernel
theorem rd_sub : dunderR Operator.Sub.info.2 = ("__rsub__" : PySem.Str) := by decide +kernel
theorem rd_mul : dunderR Operator.Mult.info.2 = ("__rmul__" : PySem.Str) := by decide +kernel
theorem rd_floordiv : dunderR Operator.FloorDiv.info.2 = ("__rfloordiv__" : PySem.Str) := by decide +kernel
theorem di_floordiv : dunderI Operator.FloorDiv.info.2 = ("__ifloordiv__" : PySem.Str) := by decide +kernel
theorem di_add : dunderI Operator.Add.info.2 = ("__iadd__" : PySem.Str) := by decide +kernel
theorem di_sub : dunderI Operator.Sub.info.2 = ("__isub__" : PySem.Str) := by decide +kernel
theorem di_mul : dunderI Operator.Mult.info.2 = ("__imul__" : PySem.Str) := by decide +kernel
end Hk
namespace Px
open PySem PySem.Spec PyProof.Rows L2
theorem s_augO {i : Nat} {te : TE} {r : Cl.R2S} {D : Ends} {σ : L2.St} {H : Hp} {v : V} (e : σ[i]? = some (some v)) (h : te σ H fun y H1 => r σ v y H1 fun z H2 => D.nx (σ.set i (some z)) H2) : Cl.tAugO i te r D σ H := ⟨v, e, h⟩
end Px
/-! comparisons of an own object and any value, on either side; -o, abs(o), bool(o) -/
namespace Cl
open PySem PySem.Spec PySem.Calls PySem.W PyProof.Rows L2 Px
section
variable {prog : Program} {w : World} {M : Model} {A : Around} {E : Value → Shared → Prop} {s : Shared} {K : PySem.W.Frag} {y C L f g : Addr} {h₀ : Heap} {m : Str → Option Value} {oy : Obj} {od : Option Obj}
/-- a value's comparison says NotImplemented to an own object -/
def NoCmp (T : String) (op : CmpOp) (v : Value) : Prop := ∀ (prog : Program) (w : World) (A : Around) (E : Value → Shared → Prop) (s : Shared) (y : Addr) (oy : Obj) (Q : Option Value → Shared → Prop), s.heap.get? y = some oy → oy.data = .plain → Q none s → wpAny (model prog w) A (tryCompare v (cmpInfo op).2.1 (.ref y)) Q E s
theorem noCmp_int {op : CmpOp} {id : String} {B : Builtin} {i : Int} {tk : Tok} (hB : NoInt B) (slot : Slot "int" (cmpInfo op).2.1 id) (entry : entryFor table id = some B) (args : ∀ a b : Value, argsOk id ⟨[a, b], []⟩) : NoCmp "int" op (.int i tk) := by
  intro prog w A E s y oy Q e hd h
  unfold tryCompare
  refine wpAny_bind (wpAny_callSpecialIfBound?_slot (typeIs_int s i tk) slot (wpAny_call_entry slot (typeIs_int s i tk) entry (hB _ _ _ _ _ _ _ _ (fun v s' => wpAny (model prog w) A (match some v with | some .notImplemented | none => pure none | some v => pure (some v)) Q E s') e hd ?_) (args _ _)))
  exact wpAny_pure h
theorem str_ref {m : String} {fn : List Nat → List Nat → Bool} {z : Str} {tk : Tok} {Q : Value → Shared → Prop} (e : s.heap.get? y = some oy) (hd : oy.data = .plain) (h : Q .notImplemented s) :
    wpAny M A (Builtin.Str.strCompare m fn ⟨[.str z tk, .ref y], []⟩) (fun fin s' => ∃ v, fin = .done (.ret v) ∧ Q v s') E s := by
  unfold Builtin.Str.strCompare
  refine wpAny_bind (wpAny_pure ?_)
  refine wpAny_bind ?_
  show wpAny M A (asStr? (.ref y)) _ E s
  unfold asStr?
  refine wpAny_bind (wpAny_load e ?_)
  simp only [hd]
  refine wpAny_pure ?_
  dsimp only
  refine wpAny_bind (wpAny_rule ?_)
  exact wpAny_pure ⟨_, rfl, h⟩
theorem noCmp_streq {z : Str} {tk : Tok} : NoCmp "str" .Eq (.str z tk) := by
  intro prog w A E s y oy Q e hd h
  unfold tryCompare
  refine wpAny_bind (wpAny_callSpecialIfBound?_slot (typeIs_str s z tk) PySem.F.slot_str_eq (wpAny_call_entry PySem.F.slot_str_eq (typeIs_str s z tk) PySem.F.entry_str_eq (str_ref (Q := fun v s' => wpAny (model prog w) A (match some v with | some .notImplemented | none => pure none | some v => pure (some v)) Q E s') e hd ?_) (PySem.F.args_str_eq_2 _ _)))
  exact wpAny_pure h
theorem rcmp_K {op : CmpOp} {T : String} {v : Value} {Q : Value → Shared → Prop} (hu : A.units < cLine) (F : Fr h₀ L s.heap m) (X₀ : K.In h₀) (I : InstAt s.heap y oy C od) (hd : oy.data = .plain) (hT : typeOf v = pure (.type T)) (h1 : oneThing? op v (.ref y) = none) (hsub : subIn K (.ref C) (.type T) = some false)
    (hno : NoCmp T op v) (hr : findIn K (.ref C) (cmpInfo op).2.2 = some (some (.ref g))) (hg : isFn K (.ref g) = true)
    (h : wpAny (model prog w) A (call (.ref g) [.ref y, v]) (PySem.W.CmpBack Q) E s) : wpAny (model prog w) A (richCompare op v (.ref y)) Q E s := by
  have X := X₀.keeps F.keep
  have one : wpAny (model prog w) A (tryCompare (.ref y) (cmpInfo op).2.2 v) (fun r s' => ∃ v, r = some v ∧ Q v s') E s := by
    unfold tryCompare
    refine wpAny_bind (ifBound_K X I hr hg (wpAny_mono h (fun v s' hv => ?_) fun _ _ e => e))
    cases v <;> first | exact hv.elim | exact wpAny_pure ⟨_, rfl, hv⟩
  have hne : (Value.type T != Value.ref C) = true := by
    simp only [bne_iff_ne, ne_eq]
    intro q; cases q
  unfold richCompare
  simp only [h1]
  refine wpAny_holding (wpAny_bind (wpAny_cRoomFor hu ?_))
  refine wpAny_bind ((Looks.of_pure hT).here (wpAny_bind (I.type.here ?_)))
  rw [if_pos hne]
  refine wpAny_bind ((looks_subIn X hsub).here ?_)
  simp only [Bool.false_eq_true, if_false]
  refine wpAny_bind (hno _ _ _ _ _ _ _ _ I.at_ hd ?_)
  dsimp only
  simp only [Bool.not_false, if_true]
  refine wpAny_bind (wpAny_mono one (fun r s' z => ?_) fun _ _ e => e)
  obtain ⟨v, rfl, hq⟩ := z
  exact wpAny_pure hq
/-- abs(o) -/
theorem abs_own {Q : Value → Shared → Prop} (X : K.In s.heap) (I : InstAt s.heap y oy C od) (hs : findIn K (.ref C) "__abs__" = some (some (.ref f))) (hf : isFn K (.ref f) = true) (h : wpAny (model prog w) A.in1 (call (.ref f) [.ref y]) Q E s) :
    wpAny (model prog w) A (call (.builtin "abs") [.ref y]) Q E s := by
  refine Calls.call_function_entry (by decide +kernel) (by decide +kernel) entry_abs (args_abs _) ?_
  unfold Builtin.«abs»
  refine wpAny_bind (m := oneArg "abs" _) (wpAny_of_eq (a := Value.ref y) (by first | rfl | kernel_rfl!) ?_)
  refine wpAny_bind (m := callSpecial? (.ref y) (Str.ofString "__abs__")) (special_fn X I hs (beq_iff_eq.mp hf) (wpAny_mono h (fun r s' hr => ?_) fun _ _ y => y))
  exact wpAny_pure ⟨_, rfl, hr⟩
/-- bool(o) -/
theorem bool_own {Q : Value → Shared → Prop} (X : K.In s.heap) (I : InstAt s.heap y oy C od) (hs : findIn K (.ref C) "__bool__" = some (some (.ref f))) (hf : isFn K (.ref f) = true) (h : wpAny (model prog w) A.in1.in1 (call (.ref f) [.ref y]) (fun r s' => ∃ b, r = .bool b ∧ Q (.bool b) s') E s) :
    wpAny (model prog w) A (call (.type "bool") [.ref y]) Q E s := by
  refine callType_codes (T := "bool") (Bi := Builtin.«object.__init__») (Q₁ := fun r s₁ => ∃ b, r = .bool b ∧ Q r s₁) PySem.F.called_bool (PySem.F.typeCall_bool_1 _) PySem.F.entry_object_init ?_ ?_
  · refine codeAny_of_tree ?_
    show wpAny _ A.in1.in1 (do checkBuiltinCall "bool.__new__" ⟨[.type "bool", .ref y], []⟩; again (.builtin "bool.__new__" ⟨[.type "bool", .ref y], []⟩)) _ _ s
    refine wpAny_bind (wpAny_of_eq (PySem.F.newCall_bool_1 _) (wpAny_pure ⟨plainId_quiet (by decide +kernel) _, codeAny_builtin PySem.F.entry_bool_new ?_⟩))
    rw [Around.under_plainId (by decide +kernel) _]
    unfold Builtin.«bool.__new__»
    refine wpAny_bind (m := isType _) (wpAny_of_eq (a := true) rfl ?_)
    simp only [Bool.not_true, Bool.false_eq_true, if_false]
    refine wpAny_bind (wpAny_of_eq PySem.F.conv_sub_bool ?_)
    simp only [Bool.not_true, Bool.false_eq_true, if_false]
    refine wpAny_bind (m := someArgs "bool" 0 1 _) (wpAny_of_eq (a := [Value.ref y]) (by first | rfl | kernel_rfl!) ?_)
    refine wpAny_bind (m := truthy (.ref y)) ?_
    unfold truthy
    refine wpAny_bind (m := callSpecial? (.ref y) (Str.ofString "__bool__")) (special_fn X I hs (beq_iff_eq.mp hf) (wpAny_mono h (fun r s' hr => ?_) fun _ _ y => y))
    obtain ⟨b, rfl, hq⟩ := hr
    exact wpAny_pure (wpAny_pure ⟨b, rfl, hq⟩)
  · rintro obj s₁ ⟨b, rfl, hq⟩
    exact ⟨rfl, PySem.F.args_object_init_2 _ _, object_init_meets PySem.F.called_bool.init.lookup PySem.F.called_bool.made (by decide) prog w A.in1 _ s₁ ⟨rfl, rfl, hq⟩⟩
end
end Cl
namespace Cl
open PySem PySem.Spec PySem.Calls PyProof.Rows L2 Px
structure CmpK (K : PySem.W.Frag) (C : Addr) (op : CmpOp) (f g : Addr) : Prop where
  at_ : PySem.W.findIn K (.ref C) (cmpInfo op).2.1 = some (some (.ref f))
  fn : PySem.W.isFn K (.ref f) = true
  rat : PySem.W.findIn K (.ref C) (cmpInfo op).2.2 = some (some (.ref g))
  rfn : PySem.W.isFn K (.ref g) = true
  sub : ∀ T ∈ (["int", "str", "tuple", "list"] : List String), PySem.W.subIn K (.type T) (.ref C) = some false ∧ PySem.W.subIn K (.ref C) (.type T) = some false
/-- what may stand beside an own object of the class C -/
inductive Beside (H : Hp) (C : Addr) : V → Prop
  | own {b dy : Addr} {gs : List (Str × V)} : H b = some (.ins C dy gs) → Beside H C (.ref b)
  | int (n : Int) : Beside H C (.int n)
  | str (z : Str) : Beside H C (.str z)
  | tup {b : Addr} {xs : List V} : H b = some (.tup xs) → Beside H C (.ref b)
  | lst {b : Addr} {xs : List V} : H b = some (.lst xs) → Beside H C (.ref b)
/-- what may stand left of it -/
inductive LeftOk : CmpOp → V → Prop
  | int {op : CmpOp} (n : Int) : LeftOk op (.int n)
  | str (z : Str) : LeftOk .Eq (.str z)
structure IntCmp (op : CmpOp) : Prop where
  ex : ∃ (id : String) (B : Builtin), NoInt B ∧ Slot "int" (cmpInfo op).2.1 id ∧ entryFor table id = some B ∧ ∀ a b : Value, argsOk id ⟨[a, b], []⟩
  hop : ∀ x y, compareOp op x y = richCompare op x y
theorem int_eq : IntCmp .Eq := ⟨⟨"int.__eq__", _, noInt_bin _ _, PySem.F.slot_int_eq, PySem.F.entry_int_eq, PySem.F.args_int_eq_2⟩, fun _ _ => rfl⟩
theorem int_lt : IntCmp .Lt := ⟨⟨"int.__lt__", _, noInt_bin _ _, PySem.F.slot_int_lt, PySem.F.entry_int_lt, PySem.F.args_int_lt_2⟩, fun _ _ => rfl⟩
theorem int_le : IntCmp .LtE := ⟨⟨"int.__le__", _, noInt_bin _ _, PySem.F.slot_int_le, PySem.F.entry_int_le, PySem.F.args_int_le_2⟩, fun _ _ => rfl⟩
theorem int_gt : IntCmp .Gt := ⟨⟨"int.__gt__", _, noInt_bin _ _, PySem.F.slot_int_gt, PySem.F.entry_int_gt, PySem.F.args_int_gt_2⟩, fun _ _ => rfl⟩
theorem int_ge : IntCmp .GtE := ⟨⟨"int.__ge__", _, noInt_bin _ _, PySem.F.slot_int_ge, PySem.F.entry_int_ge, PySem.F.args_int_ge_2⟩, fun _ _ => rfl⟩
structure CmpAt (X : Cx) (op : CmpOp) (E : L2.St → XK) (C : Addr) (sp spr : Sp) : Prop where
  fwd : ∀ (pins : List (Addr × Obj)) (s : Shared) (σ : L2.St) (H : Hp) (a dx : Addr) (fs : List (Str × V)) (y : V) (u : Value) (Q : VK), Inv X pins σ H s → H a = some (.ins C dx fs) → RelV y u → Beside H C y → sp [.ref a, y] H Q (E σ) →
    wpAny (model X.prog X.w) X.A (compareOp op (.ref a) u) (EP X pins σ Q) X.xe s
  bwd : ∀ (pins : List (Addr × Obj)) (s : Shared) (σ : L2.St) (H : Hp) (b dy : Addr) (gs : List (Str × V)) (x : V) (u : Value) (Q : VK), Inv X pins σ H s → H b = some (.ins C dy gs) → RelV x u → LeftOk op x → spr [.ref b, x] H Q (E σ) →
    wpAny (model X.prog X.w) X.A (compareOp op u (.ref b)) (EP X pins σ Q) X.xe s
theorem cmp_of {X : Cx} {CX CX' : CXT} {k k' : Nat} {op : CmpOp} {E : L2.St → XK} {C f g : Addr} {sp spr : Sp} (i : IntCmp op) (o : CmpK X.K C op f g) (F : FnR X.prog X.w X.K X.mg X.base CX k f sp) (G : FnR X.prog X.w X.K X.mg X.base CX' k' g spr) (hr : Room k X.A) (hr' : Room k' X.A) (hx : ∀ σ, PassesAt CX X σ (E σ)) (hx' : ∀ σ, PassesAt CX' X σ (E σ)) : CmpAt X op E C sp spr := by
  refine ⟨?_, ?_⟩
  · intro pins s σ H a dx fs y u Q I ha ry hy h
    obtain ⟨mA, J, _⟩ := ins_get I.hok ha
    obtain ⟨od, J, _⟩ := J.look
    obtain ⟨m, hF⟩ := I.fr
    have go := wpAny_mono (run_RS F hr (hx σ) I (show Vals [V.ref a, y] [Value.ref a, u] from .cons rfl (.cons ry .nil)) h) (fun _ _ z => back_of z) fun _ _ z => z
    rw [i.hop]
    have key : ∀ T ∈ (["int", "str", "tuple", "list"] : List String), PySem.W.Looks (model X.prog X.w) s.heap (typeOf u) (.type T) → wpAny (model X.prog X.w) X.A (richCompare op (.ref a) u) (EP X pins σ Q) X.xe s := fun T hT hL =>
      PySem.W.cmp_K (op := op) (tb := .type T) hr.units0 hF I.ok.mod.kin J hL (by simp [PySem.W.notFirst, (o.sub T hT).1]) o.at_ o.fn go
    cases hy with
    | own hb =>
      cases ry
      obtain ⟨mB, J', _⟩ := ins_get I.hok hb
      obtain ⟨od', J', _⟩ := J'.look
      exact PySem.W.cmp_K (op := op) (tb := .ref C) hr.units0 hF I.ok.mod.kin J J'.type (by simp [PySem.W.notFirst]) o.at_ o.fn go
    | int n =>
      obtain ⟨tk, rfl⟩ := ry
      exact key "int" (by simp) (PySem.W.Looks.of_pure rfl)
    | str z =>
      obtain ⟨tk, rfl⟩ := ry
      exact key "str" (by simp) (PySem.W.Looks.of_pure rfl)
    | tup hb =>
      obtain ⟨P, kx, hp, _⟩ := kit_of I ry (.base (.tup hb))
      exact key "tuple" (by simp) (kx.ty _ _ I.kIn hp)
    | lst hb =>
      obtain ⟨P, kx, hp, _⟩ := kit_of I ry (.base (.lst hb))
      exact key "list" (by simp) (kx.ty _ _ I.kIn hp)
  · intro pins s σ H b dy gs x u Q I hb rx hl h
    obtain ⟨mB, J, _⟩ := ins_get I.hok hb
    obtain ⟨od, J, _⟩ := J.look
    obtain ⟨m, hF⟩ := I.fr
    have go := wpAny_mono (run_RS G hr' (hx' σ) I (show Vals [V.ref b, x] [Value.ref b, u] from .cons rfl (.cons rx .nil)) h) (fun _ _ z => back_of z) fun _ _ z => z
    rw [i.hop]
    cases hl with
    | int n =>
      obtain ⟨tk, rfl⟩ := rx
      obtain ⟨id, B, hB, slot, entry, args⟩ := i.ex
      exact rcmp_K (T := "int") hr.units0 hF I.ok.mod.kin J rfl rfl (by cases op <;> rfl) (o.sub "int" (by simp)).2 (noCmp_int hB slot entry args) o.rat o.rfn go
    | str z =>
      obtain ⟨tk, rfl⟩ := rx
      exact rcmp_K (T := "str") hr.units0 hF I.ok.mod.kin J rfl rfl rfl (o.sub "str" (by simp)).2 noCmp_streq o.rat o.rfn go
inductive CmpAts (X : Cx) (op : CmpOp) (E : L2.St → XK) : List (Addr × Sp × Sp) → Prop
  | nil : CmpAts X op E []
  | cons {C : Addr} {sp spr : Sp} {l : List (Addr × Sp × Sp)} : CmpAt X op E C sp spr → CmpAts X op E l → CmpAts X op E ((C, sp, spr) :: l)
theorem CmpAts.at {X : Cx} {op : CmpOp} {E : L2.St → XK} {l : List (Addr × Sp × Sp)} (h : CmpAts X op E l) : ∀ {i : Nat} {C : Addr} {sp spr : Sp}, l[i]? = some (C, sp, spr) → CmpAt X op E C sp spr := by
  induction h with
  | nil => intro i C sp spr e; cases e
  | cons h _ ih =>
    intro i C sp spr e
    cases i with
    | zero => cases e; exact h
    | succ i => exact ih (by simpa using e)
def rCmp (op : CmpOp) (l : List (Addr × Sp × Sp)) (E : L2.St → XK) (base : R2) : R2S := fun σ x y H Q => base x y H Q ∨ ∃ (i : Nat) (C : Addr) (sp spr : Sp), l[i]? = some (C, sp, spr) ∧
  ((∃ a dx fs, x = .ref a ∧ H a = some (.ins C dx fs) ∧ Beside H C y ∧ sp [.ref a, y] H Q (E σ)) ∨
   ∃ b dy gs, LeftOk op x ∧ y = .ref b ∧ H b = some (.ins C dy gs) ∧ spr [.ref b, x] H Q (E σ))
theorem op_cmpX {X : Cx} {op : CmpOp} {E : L2.St → XK} {l : List (Addr × Sp × Sp)} {base : R2} (h : CmpAts X op E l) (hb : OpR X (compareOp op) base) : OpS X (compareOp op) (rCmp op l E base) := by
  intro pins s σ H x y v u Q I rx ry q
  rcases q with q | ⟨i, C, sp, spr, hl, ⟨a, dx, fs, rfl, ha, hy, q⟩ | ⟨b, dy, gs, hx, rfl, hbb, q⟩⟩
  · exact hb pins s σ H x y v u Q I rx ry q
  · cases rx
    exact (h.at hl).fwd pins s σ H a dx fs y u Q I ha ry hy q
  · cases ry
    exact (h.at hl).bwd pins s σ H b dy gs x v Q I hbb rx hx q
/-- -o -/
def rNegO (l : List (Addr × Sp)) : V → Hp → VK → Prop := fun x H Q => (rU fun i => .int (-i)) x H Q ∨ ∃ (i : Nat) (C : Addr) (sp : Sp) (a dx : Addr) (fs : List (Str × V)), l[i]? = some (C, sp) ∧ x = .ref a ∧ H a = some (.ins C dx fs) ∧ sp [.ref a] H Q E0
section
variable {X : Cx} {l : List (Addr × Sp)}
theorem un_negO (h : OwnMs X "__neg__" (fun _ => E0) l) : UnR X (unaryOp .USub) (rNegO l) := by
  intro pins s σ H x v Q I rx q
  rcases q with q | ⟨i, C, sp, a, dx, fs, hl, rfl, hA, q⟩
  · exact un_neg pins s σ H x v Q I rx q
  · cases rx
    have M := h.at hl
    obtain ⟨CX, k, f, o, hk, hf, F, hr, hx⟩ := M.ex
    obtain ⟨mA, J, _⟩ := ins_get I.hok hA
    obtain ⟨od, J, _⟩ := J.look
    obtain ⟨m, hF⟩ := I.fr
    exact PySem.W.ksp_neg hF I.ok.mod.kin J o.at_ o.fn (run_RS (E := fun _ => E0) F (hr.mono (by omega)) (hx σ) I (show Vals [V.ref a] [Value.ref a] from .cons rfl .nil) q)
/-- abs(o) -/
def rAbsO (l : List (Addr × Sp)) : List V → Hp → VK → Prop := fun vs H Q => rAbsP vs H Q ∨ ∃ (i : Nat) (C : Addr) (sp : Sp) (a dx : Addr) (fs : List (Str × V)), l[i]? = some (C, sp) ∧ vs = [.ref a] ∧ H a = some (.ins C dx fs) ∧ sp [.ref a] H Q E0
theorem call_absO (h : OwnMs X "__abs__" (fun _ => E0) l) : CallR X (.builtin "abs") (rAbsO l) := by
  intro pins s σ H vs us Q I r q
  rcases q with q | ⟨i, C, sp, a, dx, fs, hl, rfl, hA, q⟩
  · exact call_absP pins s σ H vs us Q I r q
  · obtain ⟨u, rfl, ru⟩ := vals1 r
    cases ru
    have M := h.at hl
    obtain ⟨CX, k, f, o, hk, hf, F, hr, hx⟩ := M.ex
    obtain ⟨mA, J, _⟩ := ins_get I.hok hA
    obtain ⟨od, J, _⟩ := J.look
    exact abs_own I.kIn J o.at_ o.fn (run_RS1 (E := fun _ => E0) F (hr.mono (by omega)) (hx σ) I (show Vals [V.ref a] [Value.ref a] from .cons rfl .nil) q)
/-- bool(o) -/
def rBoolO (l : List (Addr × Sp)) : List V → Hp → VK → Prop := fun vs H Q => (match vs with | [.bl k] => Q (.bl k) H | [.int i] => Q (.bl (i != 0)) H | _ => False) ∨ ∃ (i : Nat) (C : Addr) (sp : Sp) (a dx : Addr) (fs : List (Str × V)), l[i]? = some (C, sp) ∧ vs = [.ref a] ∧ H a = some (.ins C dx fs) ∧ sp [.ref a] H (fun v H' => ∃ b, v = .bl b ∧ Q (.bl b) H') E0
theorem call_boolO (h : OwnMs X "__bool__" (fun _ => E0) l) : CallR X (.type "bool") (rBoolO l) := by
  intro pins s σ H vs us Q I r q
  rcases q with q | ⟨i, C, sp, a, dx, fs, hl, rfl, hA, q⟩
  · refine call_bool1 pins s σ H vs us Q I r ?_
    match vs, q with
    | [.bl k], q => exact .inr ⟨k, rfl, q⟩
    | [.int k], q => exact .inl ⟨k, rfl, q⟩
    | [], h => exact False.elim h
    | [.non], h => exact False.elim h
    | [.str _], h => exact False.elim h
    | [.ref _], h => exact False.elim h
    | [.byt _], h => exact False.elim h
    | [.flt _], h => exact False.elim h
    | [.ty _], h => exact False.elim h
    | x :: y :: z, h => exact False.elim (by cases x <;> exact h)
  · obtain ⟨u, rfl, ru⟩ := vals1 r
    cases ru
    have M := h.at hl
    obtain ⟨CX, k, f, o, hk, hf, F, hr, hx⟩ := M.ex
    obtain ⟨mA, J, _⟩ := ins_get I.hok hA
    obtain ⟨od, J, _⟩ := J.look
    refine bool_own I.kIn J o.at_ o.fn ?_
    refine wpAny_call (codeAny_mono (F X.A.in1.in1 X.stack s H [.ref a] [.ref a] _ E0 hr.in1.in1 I.env0.in1.in1 (.cons rfl .nil) q) fun r s' hq => ?_)
    cases r with
    | error e => exact hx σ pins H s e s' I hq
    | ok fl =>
      cases fl with
      | ret u =>
        obtain ⟨v, H', I3, rv, b, ev, q3⟩ := I.after hq
        subst ev
        cases rv
        exact ⟨b, rfl, .bl b, H', I3, rfl, q3⟩
      | _ => exact hq.elim
end
end Cl
namespace Hk
open PySem PySem.Spec PySem.W PyProof.Rows L2 He
def cmpKB (K : Frag) (C : Addr) (m r : PySem.Str) : Bool := ownB K C m && (eqO (findIn K (.ref C) r) (some (some (.ref (ma K C r)))) && (isFn K (.ref (ma K C r)) && ((["int", "str", "tuple", "list"] : List String).all fun T => decide (subIn K (.type T) (.ref C) = some false) && decide (subIn K (.ref C) (.type T) = some false))))
theorem cmpKB_ok {K : Frag} {C : Addr} {m r : PySem.Str} {op : CmpOp} (h : cmpKB K C m r = true) (e1 : (cmpInfo op).2.1 = m) (e2 : (cmpInfo op).2.2 = r) : Cl.CmpK K C op (ma K C m) (ma K C r) := by
  subst e1 e2
  unfold cmpKB at h
  obtain ⟨h1, h⟩ := ba h
  obtain ⟨h2, h⟩ := ba h
  obtain ⟨h3, h4⟩ := ba h
  have o := ownB_ok h1
  refine ⟨o.at_, o.fn, eqO_ok h2, h3, fun T hT => ?_⟩
  obtain ⟨h5, h6⟩ := ba (List.all_eq_true.mp h4 T hT)
  exact ⟨of_decide_eq_true h5, of_decide_eq_true h6⟩
theorem dr_eq : (cmpInfo CmpOp.Eq).2.2 = ("__eq__" : PySem.Str) := by decide +kernel
theorem dr_lt : (cmpInfo CmpOp.Lt).2.2 = ("__gt__" : PySem.Str) := by decide +kernel
theorem dr_le : (cmpInfo CmpOp.LtE).2.2 = ("__ge__" : PySem.Str) := by decide +kernel
theorem dr_gt : (cmpInfo CmpOp.Gt).2.2 = ("__lt__" : PySem.Str) := by decide +kernel
theorem dr_ge : (cmpInfo CmpOp.GtE).2.2 = ("__le__" : PySem.Str) := by decide +kernel
end Hk
namespace Hd
open PySem PySem.Spec PyProof.Rows L2 He Hk
def top (i : Nat) : Stmt := PySem.Challenge.pw_renamedhorn_k05_whole_share_order.main.body.getD i (.Pass ⟨0, 0, 0, 0⟩)
abbrev s_as_share : Stmt := top 10
def d_as_share : DefX := ⟨fun K => ga K "as_share", "as_share", "as_share", defArgs s_as_share, defBody s_as_share, defScope s_as_share, [], []⟩
abbrev s_less : Stmt := top 14
def d_less : DefX := ⟨fun K => ga K "less", "less", "less", defArgs s_less, defBody s_less, defScope s_less, [], []⟩
abbrev s_law_source : Stmt := top 17
def d_law_source : DefX := ⟨fun K => ga K "_law_source", "_law_source", "_law_source", defArgs s_law_source, defBody s_law_source, defScope s_law_source, [], []⟩
abbrev s_law_take : Stmt := top 18
def d_law_take : DefX := ⟨fun K => ga K "_law_take", "_law_take", "_law_take", defArgs s_law_take, defBody s_law_take, defScope s_law_take, [], []⟩
abbrev s_law_same : Stmt := top 19
def d_law_same : DefX := ⟨fun K => ga K "_law_same", "_law_same", "_law_same", defArgs s_law_same, defBody s_law_same, defScope s_law_same, [], []⟩
abbrev s_law_gcd : Stmt := top 20
def d_law_gcd : DefX := ⟨fun K => ga K "_law_gcd", "_law_gcd", "_law_gcd", defArgs s_law_gcd, defBody s_law_gcd, defScope s_law_gcd, [], []⟩
abbrev s_law_is_share : Stmt := top 21
def d_law_is_share : DefX := ⟨fun K => ga K "_law_is_share", "_law_is_share", "_law_is_share", defArgs s_law_is_share, defBody s_law_is_share, defScope s_law_is_share, [], []⟩
abbrev s_law_number : Stmt := top 22
def d_law_number : DefX := ⟨fun K => ga K "_law_number", "_law_number", "_law_number", defArgs s_law_number, defBody s_law_number, defScope s_law_number, [], []⟩
abbrev s_law_fraction : Stmt := top 23
def d_law_fraction : DefX := ⟨fun K => ga K "_law_fraction", "_law_fraction", "_law_fraction", defArgs s_law_fraction, defBody s_law_fraction, defScope s_law_fraction, [], []⟩
abbrev s_law_three : Stmt := top 24
def d_law_three : DefX := ⟨fun K => ga K "_law_three", "_law_three", "_law_three", defArgs s_law_three, defBody s_law_three, defScope s_law_three, [], []⟩
abbrev s_law_compared : Stmt := top 25
def d_law_compared : DefX := ⟨fun K => ga K "_law_compared", "_law_compared", "_law_compared", defArgs s_law_compared, defBody s_law_compared, defScope s_law_compared, [], []⟩
abbrev s_law_alone : Stmt := top 26
def d_law_alone : DefX := ⟨fun K => ga K "_law_alone", "_law_alone", "_law_alone", defArgs s_law_alone, defBody s_law_alone, defScope s_law_alone, [], []⟩
abbrev s_law : Stmt := top 27
def d_law : DefX := ⟨fun K => ga K "law", "law", "law", defArgs s_law, defBody s_law, defScope s_law, [], []⟩
abbrev s_Share_init : Stmt := inClass (top 15) 0
def d_Share_init : DefX := ⟨fun K => (ma K (ga K "Share") "__init__"), "__init__", "Share.__init__", defArgs s_Share_init, defBody s_Share_init, defScope s_Share_init, [.int 1], []⟩
abbrev s_Share_neg : Stmt := inClass (top 15) 12
def d_Share_neg : DefX := ⟨fun K => (ma K (ga K "Share") "__neg__"), "__neg__", "Share.__neg__", defArgs s_Share_neg, defBody s_Share_neg, defScope s_Share_neg, [], []⟩
abbrev s_Share_abs : Stmt := inClass (top 15) 13
def d_Share_abs : DefX := ⟨fun K => (ma K (ga K "Share") "__abs__"), "__abs__", "Share.__abs__", defArgs s_Share_abs, defBody s_Share_abs, defScope s_Share_abs, [], []⟩
abbrev s_Share_bool : Stmt := inClass (top 15) 14
def d_Share_bool : DefX := ⟨fun K => (ma K (ga K "Share") "__bool__"), "__bool__", "Share.__bool__", defArgs s_Share_bool, defBody s_Share_bool, defScope s_Share_bool, [], []⟩
abbrev s_Share_eq : Stmt := inClass (top 15) 15
def d_Share_eq : DefX := ⟨fun K => (ma K (ga K "Share") "__eq__"), "__eq__", "Share.__eq__", defArgs s_Share_eq, defBody s_Share_eq, defScope s_Share_eq, [], []⟩
abbrev s_Share_lt : Stmt := inClass (top 15) 16
def d_Share_lt : DefX := ⟨fun K => (ma K (ga K "Share") "__lt__"), "__lt__", "Share.__lt__", defArgs s_Share_lt, defBody s_Share_lt, defScope s_Share_lt, [], []⟩
abbrev s_Share_le : Stmt := inClass (top 15) 17
def d_Share_le : DefX := ⟨fun K => (ma K (ga K "Share") "__le__"), "__le__", "Share.__le__", defArgs s_Share_le, defBody s_Share_le, defScope s_Share_le, [], []⟩
abbrev s_Share_gt : Stmt := inClass (top 15) 18
def d_Share_gt : DefX := ⟨fun K => (ma K (ga K "Share") "__gt__"), "__gt__", "Share.__gt__", defArgs s_Share_gt, defBody s_Share_gt, defScope s_Share_gt, [], []⟩
abbrev s_Share_ge : Stmt := inClass (top 15) 19
def d_Share_ge : DefX := ⟨fun K => (ma K (ga K "Share") "__ge__"), "__ge__", "Share.__ge__", defArgs s_Share_ge, defBody s_Share_ge, defScope s_Share_ge, [], []⟩
abbrev s_BadShare_init : Stmt := inClass (top 4) 0
def d_BadShare : ErrD := ⟨"BadShare", ["text"], "BadShare.__init__", defArgs s_BadShare_init, defBody s_BadShare_init, defScope s_BadShare_init⟩
abbrev s_ZeroBelow_init : Stmt := inClass (top 5) 0
def d_ZeroBelow : ErrD := ⟨"ZeroBelow", [], "ZeroBelow.__init__", defArgs s_ZeroBelow_init, defBody s_ZeroBelow_init, defScope s_ZeroBelow_init⟩
def its : List Hk.It := [d_as_share.it, d_less.it, d_law_source.it, d_law_take.it, d_law_same.it, d_law_gcd.it, d_law_is_share.it, d_law_number.it, d_law_fraction.it, d_law_three.it, d_law_compared.it, d_law_alone.it, d_law.it, d_Share_init.it, d_Share_neg.it, d_Share_abs.it, d_Share_bool.it, d_Share_eq.it, d_Share_lt.it, d_Share_le.it, d_Share_gt.it, d_Share_ge.it, d_BadShare.it "/claim/cut.py", d_ZeroBelow.it "/claim/cut.py"]
def fa : List Fa := [.glo "as_share", .glo "less", .glo "_law_source", .glo "_law_take", .glo "_law_same", .glo "_law_gcd", .glo "_law_is_share", .glo "_law_number", .glo "_law_fraction", .glo "_law_three", .glo "_law_compared", .glo "_law_alone", .glo "law", .glo "Share", .cls "Share", .mkr "Share", .noat "Share" "bottom", .noat "Share" "top", .glo "HornError", .glo "BadShare", .glo "ZeroBelow", .str "DIGITS" "0123456789", .int "SIZE" 60, .free "NotImplemented", .free "ValueError", .free "abs", .free "all", .free "bool", .free "int", .free "isinstance", .free "len", .free "list", .free "range", .free "staticmethod", .free "str", .free "tuple"]
def ex : List (PySem.W.Frag → Bool) := [fun K => Hk.ownB K (ga K "Share") "__neg__", fun K => Hk.ownB K (ga K "Share") "__abs__", fun K => Hk.ownB K (ga K "Share") "__bool__", fun K => Hk.ownB K (ga K "Share") "__eq__", fun K => Hk.ownB K (ga K "Share") "__lt__", fun K => Hk.ownB K (ga K "Share") "__le__", fun K => Hk.ownB K (ga K "Share") "__gt__", fun K => Hk.ownB K (ga K "Share") "__ge__", fun K => Hk.cmpKB K (ga K "Share") "__eq__" "__eq__", fun K => Hk.cmpKB K (ga K "Share") "__lt__" "__gt__", fun K => Hk.cmpKB K (ga K "Share") "__le__" "__ge__", fun K => Hk.cmpKB K (ga K "Share") "__gt__" "__lt__", fun K => Hk.cmpKB K (ga K "Share") "__ge__" "__le__", fun K => Hk.bltB K "gcd" "math.gcd", fun K => Hk.insKB K (ga K "Share"), fun K => Hk.kitB K (.type "int") (.type "int") true, fun K => Hk.kitB K (.type "str") (.type "str") true, fun K => Hk.kitB K (.type "tuple") (.type "tuple") true, fun K => Hk.kitB K (.type "list") (.type "list") true, fun K => Hk.kitB K (.type "int") (.ref (ga K "Share")) false, fun K => Hk.kitB K (.type "str") (.ref (ga K "Share")) false, fun K => Hk.kitB K (.type "tuple") (.ref (ga K "Share")) false, fun K => Hk.kitB K (.type "list") (.ref (ga K "Share")) false, fun K => Hk.kitB K (.ref (ga K "Share")) (.type "int") false, fun K => Hk.kitB K (.ref (ga K "Share")) (.type "str") false, fun K => Hk.kitB K (.ref (ga K "Share")) (.type "tuple") false, fun K => Hk.kitB K (.ref (ga K "Share")) (.type "list") false, fun K => Hk.kitB K (.ref (ga K "Share")) (.ref (ga K "Share")) true]
def loose : List PySem.Str := (["_wall", "HornError", "BadShare", "ZeroBelow", "DIGITS", "SIZE", "is_whole", "as_share", "added", "multiplied", "floored", "less"] : List PySem.Str) ++ (["Share", "_law_source", "_law_take", "_law_same", "_law_gcd", "_law_is_share", "_law_number", "_law_fraction", "_law_three", "_law_compared", "_law_alone"] : List PySem.Str)
abbrev R : PySem.W.OpenRow := PySem.W.OpenLaw.row PySem.Challenge.rw_renamedhorn_k05_whole_share_order
abbrev hk : PySem.W.Hook := hookZ 6 fa ex its
def ob (s : PySem.W.SharedT) : AlZ := obsZG 6 fa ex its (HandSHeadRun.getT s)
theorem ob_eq (s : PySem.W.SharedT) : ob s = hk.obs s.abs := obsZG_eq (HandSHeadRun.getT_eq s)
set_option maxHeartbeats 0 in
theorem run (w : World) : HandSHeadRun.RunEqI R (PySem.W.view R.prog [0, 27]) hk ob 6000 loose w := by
  unfold HandSHeadRun.RunEqI
  kernel_rfl
end Hd
section
open PySem PySem.Spec PyProof.Rows L2 Px
local macro_rules | `(tactic| walk_at "s") => `(tactic| first
  | with_reducible refine s_var rfl ?_
  | with_reducible (first
  | refine s_c ?_ | refine s_seq ?_ | refine s_asg ?_ | refine s_op ?_ | refine s_gname ?_ | refine s_cons ?_ | refine s_nil ?_ | refine s_cb ?_ | refine s_ifS ?_ | refine s_test ?_ | refine s_exb ?_ | refine s_ret ?_
  | refine s_eqI ?_ | refine s_addI ?_ | refine s_in0 ?_ | refine s_ltI ?_ | refine s_eqS ?_ | refine s_gsub ?_ | refine s_and ?_ | refine s_or ?_ | refine s_not ?_ | refine s_andV ?_ | refine s_orV ?_ | refine s_notV ?_ | refine s_sl ?_ | refine s_nopart ?_ | refine s_part ?_ | refine s_exi ?_
  | refine s_callS ?_ | refine s_call ?_ | refine s_drop ?_ | refine s_next ?_ | refine s_tB ?_ | refine s_lst ?_ | refine s_tup ?_ | refine s_inS ?_ | refine s_isN ?_ | refine s_yes ?_ | refine s_un ?_ | refine s_neg ?_ | refine s_ifE ?_ | refine s_retN ?_ | refine s_neS ?_ | refine s_neI ?_ | refine s_eqB ?_ | refine s_ltS ?_ | refine s_intI ?_ | refine s_rng1 ?_ | refine s_cont ?_ | refine s_break ?_ | refine s_forR ?_ | refine s_forA ?_ | refine s_lcA ?_ | refine s_lcR ?_ | refine s_bm ?_ | refine s_make ?_ | refine s_att ?_ | refine s_cls ?_ | refine s_setA ?_ | refine s_strS ?_ | refine s_opS ?_ | refine s_forO ?_ | refine s_lcO ?_ | refine s_methO ?_ | refine s_callO ?_ | refine s_exr ?_ | refine s_m1 ?_ | refine s_smeth ?_))
local macro_rules | `(tactic| walk_at "ss") => `(tactic| repeat walk_at "s")
local macro_rules | `(tactic| walk_at "sl") => `(tactic| repeat (first | walk_at "s" | ((with_reducible refine' s_ixL ?kA ?kB ?_); (case kA => first | assumption | exact upd_same); (case kB => rfl)) | ((with_reducible refine' s_setU ?kA ?_); (case kA => rfl)) | ((with_reducible refine' s_setL ?kA ?kB ?_); (case kA => assumption); (case kB => rfl))))
namespace Rd
open PySem PySem.Spec PyProof.Rows L2 He Px
/-- the law's source of numbers: the cells, the next cell, the number at hand, how often, which way -/
def Src (H : Hp) (a : Addr) : Prop := ∃ (c : Addr) (cells : List Int) (i cur cnt mode : Int), H a = some (.lst [.ref c, .int i, .int cur, .int cnt, .int mode]) ∧ H c = some (.lst (cells.map V.int)) ∧ 0 ≤ i ∧ cells.length ≤ 100
theorem Src.keep {H H' : Hp} {a : Addr} (h : Src H a) (s : Same H H') : Src H' a := by
  obtain ⟨c, cells, i, cur, cnt, mode, h1, h2, h3, h4⟩ := h
  exact ⟨c, cells, i, cur, cnt, mode, s _ _ h1, s _ _ h2, h3, h4⟩
theorem Src.but {H H' : Hp} {a b : Addr} {o : HO} (h : Src H a) (s : But b H H') (hb : H b = some o) (hn : ∀ xs, o ≠ .lst xs) : Src H' a := by
  obtain ⟨c, cells, i, cur, cnt, mode, h1, h2, h3, h4⟩ := h
  exact ⟨c, cells, i, cur, cnt, mode, s _ _ h1 (ne_of h1 hb fun e => hn _ e.symm), s _ _ h2 (ne_of h2 hb fun e => hn _ e.symm), h3, h4⟩
theorem atI_cells {cells : List Int} {i : Int} (h0 : 0 ≤ i) (h1 : ¬ ((cells.map V.int).length : Int) ≤ i) : ∃ z : Int, atI (cells.map V.int) i = some (.int z) := by
  rw [List.length_map] at h1
  have hl : i.toNat < cells.length := by omega
  refine ⟨cells[i.toNat], ?_⟩
  unfold atI ixN
  rw [if_pos h0, if_pos (by rw [List.length_map]; omega)]
  simp [hl]
theorem lg {m : Int} (h0 : 0 < m) (h1 : m ≤ 1000000000000000) : m.natAbs.log2 < 9000 := by
  have : m.natAbs ≠ 0 := by omega
  refine (Nat.log2_lt this).mpr (Nat.lt_of_lt_of_le (m := 2 ^ 60) (by omega) (Nat.pow_le_pow_right (by decide) (by decide)))
/-- the source at a went on; all else stands -/
structure Mov (a : Addr) (H H' : Hp) : Prop where
  but : But a H H'
  cell : ∀ c xs, H a = some (.lst (.ref c :: xs)) → ∃ ys, H' a = some (.lst (.ref c :: ys))
instance {a : Addr} {H H' : Hp} : CoeFun (Mov a H H') (fun _ => ∀ b o, H b = some o → b ≠ a → H' b = some o) := ⟨Mov.but⟩
theorem Mov.refl (a : Addr) (H : Hp) : Mov a H H := ⟨But.refl a H, fun _ xs h => ⟨xs, h⟩⟩
theorem Mov.trans {a : Addr} {H H1 H2 : Hp} (h1 : Mov a H H1) (h2 : Mov a H1 H2) : Mov a H H2 := ⟨h1.but.trans h2.but, fun c xs h => by
  obtain ⟨ys, h⟩ := h1.cell c xs h
  exact h2.cell c ys h⟩
theorem Mov.of_same {a : Addr} {H H1 : Hp} (h : Same H H1) : Mov a H H1 := ⟨But.of_same h, fun _ xs e => ⟨xs, h _ _ e⟩⟩
theorem Mov.of {a c : Addr} {H H1 : Hp} {xs ys : List V} (h : But a H H1) (h0 : H a = some (.lst (.ref c :: xs))) (h1 : H1 a = some (.lst (.ref c :: ys))) : Mov a H H1 := ⟨h, fun d zs e => by
  rw [h0] at e
  have e := Option.some.inj e
  injection e with e
  injection e with e _
  injection e with e
  subst e
  exact ⟨ys, h1⟩⟩
theorem Mov.un {a : Addr} {H H' : Hp} {p : Addr} (b : Mov a H H') (hn : p ≠ a) (h : H' p = none) : H p = none := by
  cases e : H p with
  | none => rfl
  | some o => rw [b _ _ e hn] at h; cases h
theorem Src.ne {H : Hp} {a p : Addr} (h : Src H a) (hp : H p = none) : p ≠ a := by
  obtain ⟨c, cells, i, cur, cnt, mode, h1, _⟩ := h
  exact fun e => by rw [e, h1] at hp; cases hp
/-- an object that is younger than the source changes -/
theorem Src.off {H H' : Hp} {a q : Addr} {o : HO} (h : Src H a) (hq : H q = none) (m : Mov a H H') (h' : Src H' a) : Src (L2.upd H' q o) a := by
  have hqa := h.ne hq
  obtain ⟨c, cells, i, cur, cnt, mode, h1, h2, _⟩ := h
  obtain ⟨c', cells', i', cur', cnt', mode', k1, k2, k3, k4⟩ := h'
  obtain ⟨ys, e⟩ := m.cell c _ h1
  rw [k1] at e
  have e := Option.some.inj e
  injection e with e
  injection e with e _
  injection e with e
  subst e
  have hc : c' ≠ q := fun z => by rw [z, hq] at h2; cases h2
  exact ⟨c', cells', i', cur', cnt', mode', by rw [upd_ne hqa.symm]; exact k1, by rw [upd_ne hc]; exact k2, k3, k4⟩
theorem Mov.put {H H' : Hp} {a q : Addr} {o : HO} (hS : Src H a) (hq : H q = none) (m : Mov a H H') : Mov a H (L2.upd H' q o) := by
  have hqa := hS.ne hq
  refine ⟨fun b u e n => ?_, fun c xs e => ?_⟩
  · rw [upd_ne (ne_of_none e hq)]
    exact m _ _ e n
  · rw [upd_ne hqa.symm]
    exact m.cell c xs e
/-- texts: a minus first, the name of a literal, its negation; names, literals -/
def dash (z : Str) : Bool := decide (cutS z none (some 1) = ("-" : Str))
def bare (z : Str) : Str := if dash z = true then cutS z (some 1) none else z
def flip (z : Str) : Str := if dash z = true then cutS z (some 1) none else ("-" : Str) ++ z
def lettersL : List Nat := ("abcdefghijklmnopqrstuvwxyz" : Str).cps.toList
def signsL : List Nat := ("abcdefghijklmnopqrstuvwxyz0123456789" : Str).cps.toList
def digitsL : List Nat := ("0123456789" : Str).cps.toList
def isNm (z : Str) : Bool := !decide (((z.length : Int) < 1)) && (!decide ((8 : Int) < (z.length : Int)) && ((match z.cps.toList with | c :: _ => decide (c ∈ lettersL) | [] => false) && z.cps.toList.all fun c => decide (c ∈ signsL)))
def isLit (z : Str) : Bool := isNm (bare z)
theorem cutS_len (z : Str) (lo hi : Option Int) : (cutS z lo hi).length ≤ z.length := by
  unfold cutS Str.length
  simp only [List.size_toArray, List.length_take, List.length_drop, Array.length_toList]
  omega
theorem bare_len (z : Str) : (bare z).length ≤ z.length := by
  unfold bare
  split
  · exact cutS_len _ _ _
  · exact Nat.le_refl _
theorem len_toList (z : Str) : z.cps.toList.length = z.length := by simp [Str.length]
theorem app_len (a b : Str) : (a ++ b).length = a.length + b.length := by
  show (a.cps ++ b.cps).size = a.cps.size + b.cps.size
  simp
theorem at0 {z : Str} (h : ¬ ((z.length : Int) < 1)) : ∃ c r, z.cps.toList = c :: r ∧ atI z.cps.toList 0 = some c := by
  have hl := len_toList z
  cases e : z.cps.toList with
  | nil => rw [e] at hl; simp at hl; omega
  | cons c r =>
    refine ⟨c, r, rfl, ?_⟩
    unfold atI ixN
    rw [if_pos (by decide), if_pos (by simp)]
    rfl
theorem signs_split (c : Nat) : decide (c ∈ signsL) = (decide (c ∈ lettersL) || decide (c ∈ digitsL)) := by
  have e : signsL = lettersL ++ digitsL := by decide +kernel
  rw [e, Bool.eq_iff_iff]
  simp
theorem at_ex {l : List Nat} {r : Int} (h0 : 0 ≤ r) (h1 : r < (l.length : Int)) : ∃ c, c ∈ l ∧ atI l r = some c := by
  have hl : r.toNat < l.length := by omega
  refine ⟨l[r.toNat], List.getElem_mem hl, ?_⟩
  unfold atI ixN
  rw [if_pos h0, if_pos h1]
  simp [hl]
theorem app_toList (a b : Str) : (a ++ b).cps.toList = a.cps.toList ++ b.cps.toList := by
  show (a.cps ++ b.cps).toList = _
  simp
/-- a letter, then letters and digits -/
def Wrd (z : Str) : Prop := ∃ c r, z.cps.toList = c :: r ∧ c ∈ lettersL ∧ ∀ x ∈ r, x ∈ signsL
theorem letters_signs {c : Nat} (h : c ∈ lettersL) : c ∈ signsL := by
  have e : signsL = lettersL ++ digitsL := by decide +kernel
  rw [e]
  exact List.mem_append_left _ h
theorem Wrd.nm {z : Str} (h : Wrd z) (hl : z.length ≤ 8) : isNm z = true := by
  obtain ⟨c, r, e, h1, h2⟩ := h
  have hn := len_toList z
  rw [e] at hn
  unfold isNm
  rw [decide_eq_false (by simp at hn; omega), decide_eq_false (by omega), e]
  show (true && (true && (decide (c ∈ lettersL) && (c :: r).all fun c => decide (c ∈ signsL)))) = true
  rw [decide_eq_true h1]
  simp only [Bool.true_and, List.all_eq_true, decide_eq_true_eq]
  intro x hx
  rcases List.mem_cons.mp hx with rfl | hx
  · exact letters_signs h1
  · exact h2 x hx
theorem Wrd.add {z : Str} {c : Nat} (h : Wrd z) (hc : c ∈ signsL) : Wrd (z ++ ⟨#[c]⟩) := by
  obtain ⟨d, r, e, h1, h2⟩ := h
  refine ⟨d, r ++ [c], ?_, h1, fun x hx => ?_⟩
  · rw [app_toList, e]
    rfl
  · rcases List.mem_append.mp hx with hx | hx
    · exact h2 x hx
    · have : x = c := by simpa using hx
      rw [this]; exact hc
theorem Wrd.one {c : Nat} (h : c ∈ lettersL) : Wrd ⟨#[c]⟩ := ⟨c, [], rfl, h, fun _ hx => nomatch hx⟩
def signs2L : List Nat := ("0123456789abcdefghijklmnopqrstuvwxyz" : Str).cps.toList
theorem signs2_in {c : Nat} (h : c ∈ signs2L) : c ∈ signsL := by
  have e : signs2L = digitsL ++ lettersL := by decide +kernel
  rw [e] at h
  have e2 : signsL = lettersL ++ digitsL := by decide +kernel
  rw [e2]
  rcases List.mem_append.mp h with h | h
  · exact List.mem_append_right _ h
  · exact List.mem_append_left _ h
theorem fmod_b (z m : Int) (hm : 0 < m) : 0 ≤ z.fmod m ∧ z.fmod m < m := ⟨Int.fmod_nonneg_of_pos z hm, Int.fmod_lt_of_pos z hm⟩
theorem cut_tail (z : Str) : (cutS z (some 1) none).cps.toList = z.cps.toList.drop 1 := by
  unfold cutS
  have e : HT.sIx z.length 0 (some 1) = min 1 z.length := HT.sIx_nat z.length 0 1
  rw [e, HT.sIx_none]
  have hl := len_toList z
  show List.take (z.length - min 1 z.length) (List.drop (min 1 z.length) z.cps.toList) = _
  cases hz : z.cps.toList with
  | nil => simp
  | cons c r =>
    rw [hz] at hl
    have : min 1 z.length = 1 := by rw [← hl]; simp
    rw [this, List.take_of_length_le (by simp at hl ⊢; omega)]
theorem cut_head (z : Str) : (cutS z none (some 1)).cps.toList = z.cps.toList.take 1 := by
  unfold cutS
  have e : HT.sIx z.length z.length (some 1) = min 1 z.length := HT.sIx_nat z.length z.length 1
  rw [e, HT.sIx_none]
  show List.take (min 1 z.length - 0) (List.drop 0 z.cps.toList) = _
  have hl := len_toList z
  cases hz : z.cps.toList with
  | nil => simp
  | cons c r =>
    rw [hz] at hl
    have : min 1 z.length = 1 := by rw [← hl]; simp
    rw [this]
    rfl
theorem str_ext {a b : Str} (h : a.cps.toList = b.cps.toList) : a = b := by
  obtain ⟨x⟩ := a
  obtain ⟨y⟩ := b
  have : x = y := by
    obtain ⟨l⟩ := x
    obtain ⟨m⟩ := y
    simp at h
    rw [h]
  rw [this]
theorem dash_iff (z : Str) : dash z = true ↔ ∃ r, z.cps.toList = 45 :: r := by
  have h45 : ("-" : Str).cps.toList = [45] := by decide +kernel
  unfold dash
  rw [decide_eq_true_iff]
  constructor
  · intro h
    have e := cut_head z
    rw [h, h45] at e
    cases hz : z.cps.toList with
    | nil => rw [hz] at e; cases e
    | cons c r =>
      rw [hz] at e
      have : c = 45 := by simpa using e.symm
      exact ⟨r, by rw [this]⟩
  · rintro ⟨r, h⟩
    apply str_ext
    rw [cut_head, h, h45]
    rfl
theorem bare_self (z : Str) : (!dash z) = decide (bare z = z) := by
  unfold bare
  cases hd : dash z with
  | false => simp
  | true =>
    rw [if_pos rfl]
    obtain ⟨r, h⟩ := (dash_iff z).mp hd
    have : cutS z (some 1) none ≠ z := by
      intro e
      have e2 := congrArg (fun s : Str => s.cps.toList.length) e
      simp only [cut_tail, h] at e2
      simp at e2
    rw [decide_eq_false this]
    rfl
/-! data as a whole -/
mutual
inductive Is (H : Hp) : V → PyData → Prop
  | non : Is H .non .none
  | bl (b : Bool) : Is H (.bl b) (.bool b)
  | int (i : Int) : Is H (.int i) (.int i)
  | str (x : Str) : Is H (.str x) (.str x)
  | lst {a : Addr} {xs : List V} {ds : List PyData} : H a = some (.lst xs) → IsAll H xs ds → Is H (.ref a) (.list ds)
  | tup {a : Addr} {xs : List V} {ds : List PyData} : H a = some (.tup xs) → IsAll H xs ds → Is H (.ref a) (.tuple ds)
inductive IsAll (H : Hp) : List V → List PyData → Prop
  | nil : IsAll H [] []
  | cons {v : V} {vs : List V} {d : PyData} {ds : List PyData} : Is H v d → IsAll H vs ds → IsAll H (v :: vs) (d :: ds)
end
mutual
theorem Is.keep {H H' : Hp} (s : Same H H') : ∀ {v : V} {d : PyData}, Is H v d → Is H' v d
  | _, _, .non => .non
  | _, _, .bl b => .bl b
  | _, _, .int i => .int i
  | _, _, .str x => .str x
  | _, _, .lst h r => .lst (s _ _ h) (IsAll.keep s r)
  | _, _, .tup h r => .tup (s _ _ h) (IsAll.keep s r)
theorem IsAll.keep {H H' : Hp} (s : Same H H') : ∀ {vs : List V} {ds : List PyData}, IsAll H vs ds → IsAll H' vs ds
  | _, _, .nil => .nil
  | _, _, .cons h r => .cons (Is.keep s h) (IsAll.keep s r)
end
theorem IsAll.len {H : Hp} : ∀ {vs : List V} {ds : List PyData}, IsAll H vs ds → vs.length = ds.length
  | _, _, .nil => rfl
  | _, _, .cons _ r => congrArg (· + 1) r.len
theorem IsAll.at {H : Hp} : ∀ {vs : List V} {ds : List PyData} {i : Nat}, IsAll H vs ds → i < ds.length → ∃ v d, vs[i]? = some v ∧ ds[i]? = some d ∧ Is H v d
  | _, _, i, .nil, h => absurd h (by simp)
  | v :: vs, d :: ds, 0, .cons h _, _ => ⟨v, d, rfl, rfl, h⟩
  | v :: vs, d :: ds, i + 1, .cons _ r, h => by
    obtain ⟨v', d', h1, h2, h3⟩ := r.at (i := i) (by simpa using h)
    exact ⟨v', d', by simpa using h1, by simpa using h2, h3⟩
theorem IsAll.strs {H : Hp} : ∀ l : List Str, IsAll H (l.map V.str) (l.map PyData.str)
  | [] => .nil
  | x :: r => .cons (.str x) (IsAll.strs r)
theorem IsAll.ints {H : Hp} : ∀ l : List Int, IsAll H (l.map V.int) (l.map PyData.int)
  | [] => .nil
  | x :: r => .cons (.int x) (IsAll.ints r)
/-- depth at most n, no list longer than a million -/
def Fits : Nat → PyData → Prop
  | _, .none => True
  | _, .bool _ => True
  | _, .int _ => True
  | _, .str _ => True
  | 0, .list _ => False
  | 0, .tuple _ => False
  | n + 1, .list ds => ds.length ≤ 1000000 ∧ ∀ d ∈ ds, Fits n d
  | n + 1, .tuple ds => ds.length ≤ 1000000 ∧ ∀ d ∈ ds, Fits n d
  | _, .dict _ => False
noncomputable def sameB (d e : PyData) : Bool := @decide (d = e) (Classical.propDecidable _)
theorem sameB_eq {d e : PyData} (h : d = e) : sameB d e = true := by unfold sameB; simp [h]
theorem sameB_ne {d e : PyData} (h : d ≠ e) : sameB d e = false := by unfold sameB; simp [h]
theorem sameB_bool (a b : Bool) : sameB (.bool a) (.bool b) = decide (a = b) := by
  by_cases h : a = b
  · rw [sameB_eq (by rw [h]), decide_eq_true h]
  · rw [sameB_ne (by simpa using h), decide_eq_false h]
theorem sameB_int (a b : Int) : sameB (.int a) (.int b) = decide (a = b) := by
  by_cases h : a = b
  · rw [sameB_eq (by rw [h]), decide_eq_true h]
  · rw [sameB_ne (by simpa using h), decide_eq_false h]
theorem sameB_str (a b : Str) : sameB (.str a) (.str b) = decide (a = b) := by
  by_cases h : a = b
  · rw [sameB_eq (by rw [h]), decide_eq_true h]
  · rw [sameB_ne (by simpa using h), decide_eq_false h]
theorem same_all : ∀ {xs ys : List PyData}, xs.length = ys.length → ((List.range xs.length).all fun i => sameB (xs.getD i .none) (ys.getD i .none)) = @decide (xs = ys) (Classical.propDecidable _) := by
  intro xs ys hl
  by_cases h : xs = ys
  · subst h
    simp only [decide_true, List.all_eq_true, List.mem_range]
    exact fun i _ => sameB_eq rfl
  · rw [show @decide (xs = ys) (Classical.propDecidable _) = false by simp [h]]
    rw [Bool.eq_false_iff]
    intro ha
    apply h
    simp only [List.all_eq_true, List.mem_range] at ha
    refine List.ext_getElem hl fun i h1 h2 => ?_
    have := ha i h1
    by_cases hi : xs.getD i .none = ys.getD i .none
    · simpa [List.getD, h1, h2] using hi
    · rw [sameB_ne hi] at this
      cases this
theorem sameB_list {xs ys : List PyData} (hl : xs.length = ys.length) : sameB (.list xs) (.list ys) = ((List.range xs.length).all fun i => sameB (xs.getD i .none) (ys.getD i .none)) := by
  rw [same_all hl]
  by_cases h : xs = ys
  · rw [sameB_eq (by rw [h])]; simp [h]
  · rw [sameB_ne (by simpa using h)]; simp [h]
theorem sameB_tuple {xs ys : List PyData} (hl : xs.length = ys.length) : sameB (.tuple xs) (.tuple ys) = ((List.range xs.length).all fun i => sameB (xs.getD i .none) (ys.getD i .none)) := by
  rw [same_all hl]
  by_cases h : xs = ys
  · rw [sameB_eq (by rw [h])]; simp [h]
  · rw [sameB_ne (by simpa using h)]; simp [h]
/-- isinstance of data -/
def isBoolD : PyData → Bool
  | .none => false
  | .bool _ => true
  | .int _ => false
  | .str _ => false
  | .list _ => false
  | .tuple _ => false
  | .dict _ => false
theorem isi_bool {K : PySem.W.Frag} {H : Hp} {Q : VK} {x : V} {d : PyData} (h : Is H x d) (q : Q (.bl (isBoolD d)) H) : rIsi K [x, .ty "bool"] H Q := by
  cases h with
  | non => exact ⟨_, .ty "bool", _, _, false, rfl, .ty _, .base (.non), kit_ty (show kitB "NoneType" "bool" = some false by decide +kernel), q⟩
  | bl b => exact ⟨_, .ty "bool", _, _, true, rfl, .ty _, .base (.bl b), kit_ty (show kitB "bool" "bool" = some true by decide +kernel), q⟩
  | int i => exact ⟨_, .ty "bool", _, _, false, rfl, .ty _, .base (.int i), kit_ty (show kitB "int" "bool" = some false by decide +kernel), q⟩
  | str z => exact ⟨_, .ty "bool", _, _, false, rfl, .ty _, .base (.str z), kit_ty (show kitB "str" "bool" = some false by decide +kernel), q⟩
  | lst e r => exact ⟨_, .ty "bool", _, _, false, rfl, .ty _, .base (.lst e), kit_ty (show kitB "list" "bool" = some false by decide +kernel), q⟩
  | tup e r => exact ⟨_, .ty "bool", _, _, false, rfl, .ty _, .base (.tup e), kit_ty (show kitB "tuple" "bool" = some false by decide +kernel), q⟩
def isIntD : PyData → Bool
  | .none => false
  | .bool _ => true
  | .int _ => true
  | .str _ => false
  | .list _ => false
  | .tuple _ => false
  | .dict _ => false
theorem isi_int {K : PySem.W.Frag} {H : Hp} {Q : VK} {x : V} {d : PyData} (h : Is H x d) (q : Q (.bl (isIntD d)) H) : rIsi K [x, .ty "int"] H Q := by
  cases h with
  | non => exact ⟨_, .ty "int", _, _, false, rfl, .ty _, .base (.non), kit_ty (show kitB "NoneType" "int" = some false by decide +kernel), q⟩
  | bl b => exact ⟨_, .ty "int", _, _, true, rfl, .ty _, .base (.bl b), kit_ty (show kitB "bool" "int" = some true by decide +kernel), q⟩
  | int i => exact ⟨_, .ty "int", _, _, true, rfl, .ty _, .base (.int i), kit_ty (show kitB "int" "int" = some true by decide +kernel), q⟩
  | str z => exact ⟨_, .ty "int", _, _, false, rfl, .ty _, .base (.str z), kit_ty (show kitB "str" "int" = some false by decide +kernel), q⟩
  | lst e r => exact ⟨_, .ty "int", _, _, false, rfl, .ty _, .base (.lst e), kit_ty (show kitB "list" "int" = some false by decide +kernel), q⟩
  | tup e r => exact ⟨_, .ty "int", _, _, false, rfl, .ty _, .base (.tup e), kit_ty (show kitB "tuple" "int" = some false by decide +kernel), q⟩
def isStrD : PyData → Bool
  | .none => false
  | .bool _ => false
  | .int _ => false
  | .str _ => true
  | .list _ => false
  | .tuple _ => false
  | .dict _ => false
theorem isi_str {K : PySem.W.Frag} {H : Hp} {Q : VK} {x : V} {d : PyData} (h : Is H x d) (q : Q (.bl (isStrD d)) H) : rIsi K [x, .ty "str"] H Q := by
  cases h with
  | non => exact ⟨_, .ty "str", _, _, false, rfl, .ty _, .base (.non), kit_ty (show kitB "NoneType" "str" = some false by decide +kernel), q⟩
  | bl b => exact ⟨_, .ty "str", _, _, false, rfl, .ty _, .base (.bl b), kit_ty (show kitB "bool" "str" = some false by decide +kernel), q⟩
  | int i => exact ⟨_, .ty "str", _, _, false, rfl, .ty _, .base (.int i), kit_ty (show kitB "int" "str" = some false by decide +kernel), q⟩
  | str z => exact ⟨_, .ty "str", _, _, true, rfl, .ty _, .base (.str z), kit_ty (show kitB "str" "str" = some true by decide +kernel), q⟩
  | lst e r => exact ⟨_, .ty "str", _, _, false, rfl, .ty _, .base (.lst e), kit_ty (show kitB "list" "str" = some false by decide +kernel), q⟩
  | tup e r => exact ⟨_, .ty "str", _, _, false, rfl, .ty _, .base (.tup e), kit_ty (show kitB "tuple" "str" = some false by decide +kernel), q⟩
def isListD : PyData → Bool
  | .none => false
  | .bool _ => false
  | .int _ => false
  | .str _ => false
  | .list _ => true
  | .tuple _ => false
  | .dict _ => false
theorem isi_list {K : PySem.W.Frag} {H : Hp} {Q : VK} {x : V} {d : PyData} (h : Is H x d) (q : Q (.bl (isListD d)) H) : rIsi K [x, .ty "list"] H Q := by
  cases h with
  | non => exact ⟨_, .ty "list", _, _, false, rfl, .ty _, .base (.non), kit_ty (show kitB "NoneType" "list" = some false by decide +kernel), q⟩
  | bl b => exact ⟨_, .ty "list", _, _, false, rfl, .ty _, .base (.bl b), kit_ty (show kitB "bool" "list" = some false by decide +kernel), q⟩
  | int i => exact ⟨_, .ty "list", _, _, false, rfl, .ty _, .base (.int i), kit_ty (show kitB "int" "list" = some false by decide +kernel), q⟩
  | str z => exact ⟨_, .ty "list", _, _, false, rfl, .ty _, .base (.str z), kit_ty (show kitB "str" "list" = some false by decide +kernel), q⟩
  | lst e r => exact ⟨_, .ty "list", _, _, true, rfl, .ty _, .base (.lst e), kit_ty (show kitB "list" "list" = some true by decide +kernel), q⟩
  | tup e r => exact ⟨_, .ty "list", _, _, false, rfl, .ty _, .base (.tup e), kit_ty (show kitB "tuple" "list" = some false by decide +kernel), q⟩
def isTupleD : PyData → Bool
  | .none => false
  | .bool _ => false
  | .int _ => false
  | .str _ => false
  | .list _ => false
  | .tuple _ => true
  | .dict _ => false
theorem isi_tuple {K : PySem.W.Frag} {H : Hp} {Q : VK} {x : V} {d : PyData} (h : Is H x d) (q : Q (.bl (isTupleD d)) H) : rIsi K [x, .ty "tuple"] H Q := by
  cases h with
  | non => exact ⟨_, .ty "tuple", _, _, false, rfl, .ty _, .base (.non), kit_ty (show kitB "NoneType" "tuple" = some false by decide +kernel), q⟩
  | bl b => exact ⟨_, .ty "tuple", _, _, false, rfl, .ty _, .base (.bl b), kit_ty (show kitB "bool" "tuple" = some false by decide +kernel), q⟩
  | int i => exact ⟨_, .ty "tuple", _, _, false, rfl, .ty _, .base (.int i), kit_ty (show kitB "int" "tuple" = some false by decide +kernel), q⟩
  | str z => exact ⟨_, .ty "tuple", _, _, false, rfl, .ty _, .base (.str z), kit_ty (show kitB "str" "tuple" = some false by decide +kernel), q⟩
  | lst e r => exact ⟨_, .ty "tuple", _, _, false, rfl, .ty _, .base (.lst e), kit_ty (show kitB "list" "tuple" = some false by decide +kernel), q⟩
  | tup e r => exact ⟨_, .ty "tuple", _, _, true, rfl, .ty _, .base (.tup e), kit_ty (show kitB "tuple" "tuple" = some true by decide +kernel), q⟩
end Rd
namespace Rd
open PySem PySem.Spec PyProof.Rows L2 He Px
def spn_law_same (K : PySem.W.Frag) (n : Nat) : Sp := Sp2 fun x y H Q _ => ∃ d e : PyData, Is H x d ∧ Is H y e ∧ Fits n d ∧ ∀ H', Same H H' → Q (.bl (sameB d e)) H'
def sp_law_same (K : PySem.W.Frag) : Sp := spn_law_same K 4
def spR_law_same (K : PySem.W.Frag) : Nat → Sp
  | 0 => fun _ _ _ _ => False
  | n + 1 => spn_law_same K n
def N_law_same : List PySem.Str := ["_law_one", "_law_other", "_law_lists", "_law_k"]
def t_law_same (K : PySem.W.Frag) (R : Sp) (W : WX) : TS := (tCut (tIfS (tOr (tB (tCB (rIsi K) (tCons (tVar 0) (tCons (tC (.ty "bool")) tNil)))) (tB (tCB (rIsi K) (tCons (tVar 1) (tCons (tC (.ty "bool")) tNil))))) (tRet (tAndV (tCB (rIsi K) (tCons (tVar 0) (tCons (tC (.ty "bool")) tNil))) (tAndV (tCB (rIsi K) (tCons (tVar 1) (tCons (tC (.ty "bool")) tNil))) (tOp (rEqP K) (tVar 0) (tVar 1))))) tNext)
    (tCut (tIfS (tOr (tB (tCB (rIsi K) (tCons (tVar 0) (tCons (tC (.ty "int")) tNil)))) (tB (tCB (rIsi K) (tCons (tVar 1) (tCons (tC (.ty "int")) tNil))))) (tRet (tAndV (tCB (rIsi K) (tCons (tVar 0) (tCons (tC (.ty "int")) tNil))) (tAndV (tCB (rIsi K) (tCons (tVar 1) (tCons (tC (.ty "int")) tNil))) (tOp (rEqP K) (tVar 0) (tVar 1))))) tNext)
    (tCut (tIfS (tOr (tB (tCB (rIsi K) (tCons (tVar 0) (tCons (tC (.ty "str")) tNil)))) (tB (tCB (rIsi K) (tCons (tVar 1) (tCons (tC (.ty "str")) tNil))))) (tRet (tAndV (tCB (rIsi K) (tCons (tVar 0) (tCons (tC (.ty "str")) tNil))) (tAndV (tCB (rIsi K) (tCons (tVar 1) (tCons (tC (.ty "str")) tNil))) (tOp (rEqP K) (tVar 0) (tVar 1))))) tNext)
    (tSeq (tAsg (tAndV (tCB (rIsi K) (tCons (tVar 0) (tCons (tC (.ty "list")) tNil))) (tCB (rIsi K) (tCons (tVar 1) (tCons (tC (.ty "list")) tNil)))) (gName 2))
    (tCut (tIfS (tAnd (tNot (tB (tVar 2))) (tNot (tAnd (tB (tCB (rIsi K) (tCons (tVar 0) (tCons (tC (.ty "tuple")) tNil)))) (tB (tCB (rIsi K) (tCons (tVar 1) (tCons (tC (.ty "tuple")) tNil))))))) (tRet (tAndV (tOp (rIsP false) (tVar 0) (tC .non)) (tOp (rIsP false) (tVar 1) (tC .non)))) tNext)
    (tRet (tAndV (tOp (rEqP K) (tCB (rLenP K) (tCons (tVar 0) tNil)) (tCB (rLenP K) (tCons (tVar 1) tNil))) (tCB (rAll K) (tCons (tLc (iRng1 (tCons (tCB (rLenP K) (tCons (tVar 0) tNil)) tNil)) (gName 3) tYes (tCall R [] E0 (tCons (tOp (rIxP K) (tVar 0) (tVar 3)) (tCons (tOp (rIxP K) (tVar 1) (tVar 3)) tNil))) [3]) tNil)))))))))
local macro_rules | `(tactic| walk_at "same") => `(tactic| repeat (first | walk_at "s" | (with_reducible refine isi_bool (by assumption) ?_) | (with_reducible refine isi_int (by assumption) ?_) | (with_reducible refine isi_str (by assumption) ?_) | (with_reducible refine isi_list (by assumption) ?_) | (with_reducible refine isi_tuple (by assumption) ?_) | (refine s_itF rfl ?_) | (refine s_itT rfl ?_) | (with_reducible refine s_nocut ?_)))
theorem pure_law_same {K : PySem.W.Frag} {n : Nat} {vs : List V} {H : Hp} {Q : VK} {E : XK} {W : WX} (h : spn_law_same K n vs H Q E) : t_law_same K (spR_law_same K n) W { nx := fun _ H' => Q .non H', rt := Q } (start N_law_same vs) H := by
  obtain ⟨x, y, rfl, d, e, hd, he, hf, hq⟩ := h
  show t_law_same K _ W _ [some x, some y, none, none] H
  unfold t_law_same
  have q0 := hq H (Same.refl H)
  have no : d ≠ e → Q (.bl false) H := fun e1 => by rw [sameB_ne e1] at q0; exact q0
  have hy : ∀ {z : V} {f : PyData}, Is H z f → match f with
    | .none => z = .non
    | .bool b => z = .bl b
    | .int i => z = .int i
    | .str s => z = .str s
    | .list ds => ∃ a xs, z = .ref a ∧ H a = some (.lst xs) ∧ IsAll H xs ds
    | .tuple ds => ∃ a xs, z = .ref a ∧ H a = some (.tup xs) ∧ IsAll H xs ds
    | .dict _ => False := by
    intro z f h
    cases h with
    | lst h1 h2 => exact ⟨_, _, rfl, h1, h2⟩
    | tup h1 h2 => exact ⟨_, _, rfl, h1, h2⟩
    | _ => rfl
  have hX := hy hd
  have hY := hy he
  cases d with
  | none =>
    cases e with
    | none =>
      have hX : x = .non := hX
      have hY : y = .non := hY
      subst hX hY
      walk_at "same"
      rw [sameB_eq rfl] at q0
      exact q0
    | list es =>
      obtain ⟨b, ys, rfl, hb, hys⟩ := hY
      have hX : x = .non := hX
      subst hX
      walk_at "same"
      exact no (fun h => by cases h)
    | tuple es =>
      obtain ⟨b, ys, rfl, hb, hys⟩ := hY
      have hX : x = .non := hX
      subst hX
      walk_at "same"
      exact no (fun h => by cases h)
    | dict _ => exact False.elim hY
    | _ =>
      walk_at "same"
      exact no (fun h => by cases h)
  | bool a =>
    cases e with
    | bool b =>
      have hX : x = .bl a := hX
      have hY : y = .bl b := hY
      subst hX hY
      walk_at "same"
      rw [sameB_bool] at q0
      exact q0
    | dict _ => exact False.elim hY
    | _ =>
      walk_at "same"
      exact no (fun h => by cases h)
  | int a =>
    cases e with
    | int b =>
      have hX : x = .int a := hX
      have hY : y = .int b := hY
      subst hX hY
      walk_at "same"
      rw [sameB_int] at q0
      exact q0
    | dict _ => exact False.elim hY
    | _ =>
      walk_at "same"
      exact no (fun h => by cases h)
  | str a =>
    cases e with
    | str b =>
      have hX : x = .str a := hX
      have hY : y = .str b := hY
      subst hX hY
      walk_at "same"
      rw [sameB_str] at q0
      exact q0
    | dict _ => exact False.elim hY
    | _ =>
      walk_at "same"
      exact no (fun h => by cases h)
  | list ds =>
    obtain ⟨a, xs, rfl, ha, hxs⟩ := hX
    cases n with
    | zero => exact False.elim hf
    | succ n =>
    cases e with
    | list es =>
      obtain ⟨b, ys, rfl, hb, hys⟩ := hY
      walk_at "same"
      have e1 := hxs.len
      have e2 := hys.len
      have fin : ∀ H', Same H H' → Q (.bl (@decide (ds = es) (Classical.propDecidable _))) H' := fun H' s => by
        have w := hq H' s
        have e1 : sameB (.list ds) (.list es) = @decide (ds = es) (Classical.propDecidable _) := by
          by_cases h : ds = es
          · rw [sameB_eq (by rw [h])]; simp [h]
          · rw [sameB_ne (by simpa using h)]; simp [h]
        rw [e1] at w
        exact w
      have hL := hf.1
      refine s_lenL ha ?_
      walk_at "ss"
      refine s_lenL hb ?_
      walk_at "ss"
      refine s_itd (fun e => ?_) (fun e => ?_)
      · have hl : ds.length = es.length := by omega
        walk_at "ss"
        refine s_lenL ha ?_
        walk_at "ss"
        refine lcr_map (fun x => match x with | .int i => .bl (sameB (ds.getD i.toNat .none) (es.getD i.toNat .none)) | _ => .non) (by omega) (by omega) ?_ ?_
        · intro i hi H' s1 Q' hQ
          obtain ⟨v, d, h1, h2, h3⟩ := hxs.at (i := i) (by omega)
          obtain ⟨w, e', g1, g2, g3⟩ := hys.at (i := i) (by omega)
          walk_at "ss"
          refine s_ixL (s1 _ _ ha) (v := v) (atI_nat h1) ?_
          walk_at "ss"
          refine s_ixL (s1 _ _ hb) (v := w) (atI_nat g1) ?_
          walk_at "ss"
          refine ⟨_, _, rfl, d, e', h3.keep s1, g3.keep s1, hf.2 d (List.mem_of_getElem? h2), fun H2 s2 => ?_⟩
          have k1 : ds.getD i .none = d := by simp [List.getD, h2]
          have k2 : es.getD i .none = e' := by simp [List.getD, g2]
          have k3 : Q' (.bl (sameB (ds.getD i .none) (es.getD i .none))) H2 := hQ H2 s2
          rw [k1, k2] at k3
          exact k3
        · intro D H' hD s1 hl'
          walk_at "ss"
          refine s_all (bs := (List.range ds.length).map fun i => sameB (ds.getD i .none) (es.getD i .none)) ?_ ?_
          · rw [hl', List.map_map, ← e1]
            rfl
          · have := fin H' s1
            rw [← same_all hl] at this
            rw [List.all_map]
            exact this
      · have := fin H (Same.refl H)
        rw [show @decide (ds = es) (Classical.propDecidable _) = false by simp; intro h; apply e; rw [e1, e2, h]] at this
        exact this
    | dict _ => exact False.elim hY
    | _ =>
      walk_at "same"
      exact no (fun h => by cases h)
  | tuple ds =>
    obtain ⟨a, xs, rfl, ha, hxs⟩ := hX
    cases n with
    | zero => exact False.elim hf
    | succ n =>
    cases e with
    | tuple es =>
      obtain ⟨b, ys, rfl, hb, hys⟩ := hY
      walk_at "same"
      have e1 := hxs.len
      have e2 := hys.len
      have fin : ∀ H', Same H H' → Q (.bl (@decide (ds = es) (Classical.propDecidable _))) H' := fun H' s => by
        have w := hq H' s
        have e1 : sameB (.tuple ds) (.tuple es) = @decide (ds = es) (Classical.propDecidable _) := by
          by_cases h : ds = es
          · rw [sameB_eq (by rw [h])]; simp [h]
          · rw [sameB_ne (by simpa using h)]; simp [h]
        rw [e1] at w
        exact w
      have hL := hf.1
      refine s_lenT ha ?_
      walk_at "ss"
      refine s_lenT hb ?_
      walk_at "ss"
      refine s_itd (fun e => ?_) (fun e => ?_)
      · have hl : ds.length = es.length := by omega
        walk_at "ss"
        refine s_lenT ha ?_
        walk_at "ss"
        refine lcr_map (fun x => match x with | .int i => .bl (sameB (ds.getD i.toNat .none) (es.getD i.toNat .none)) | _ => .non) (by omega) (by omega) ?_ ?_
        · intro i hi H' s1 Q' hQ
          obtain ⟨v, d, h1, h2, h3⟩ := hxs.at (i := i) (by omega)
          obtain ⟨w, e', g1, g2, g3⟩ := hys.at (i := i) (by omega)
          walk_at "ss"
          refine s_ixT (s1 _ _ ha) (v := v) (atI_nat h1) ?_
          walk_at "ss"
          refine s_ixT (s1 _ _ hb) (v := w) (atI_nat g1) ?_
          walk_at "ss"
          refine ⟨_, _, rfl, d, e', h3.keep s1, g3.keep s1, hf.2 d (List.mem_of_getElem? h2), fun H2 s2 => ?_⟩
          have k1 : ds.getD i .none = d := by simp [List.getD, h2]
          have k2 : es.getD i .none = e' := by simp [List.getD, g2]
          have k3 : Q' (.bl (sameB (ds.getD i .none) (es.getD i .none))) H2 := hQ H2 s2
          rw [k1, k2] at k3
          exact k3
        · intro D H' hD s1 hl'
          walk_at "ss"
          refine s_all (bs := (List.range ds.length).map fun i => sameB (ds.getD i .none) (es.getD i .none)) ?_ ?_
          · rw [hl', List.map_map, ← e1]
            rfl
          · have := fin H' s1
            rw [← same_all hl] at this
            rw [List.all_map]
            exact this
      · have := fin H (Same.refl H)
        rw [show @decide (ds = es) (Classical.propDecidable _) = false by simp; intro h; apply e; rw [e1, e2, h]] at this
        exact this
    | dict _ => exact False.elim hY
    | _ =>
      walk_at "same"
      exact no (fun h => by cases h)
  | dict _ => exact False.elim hX
theorem same_ok {K : PySem.W.Frag} {x y : V} {d : PyData} {H : Hp} {Q : VK} {E : XK} (hx : Is H x d) (hy : Is H y d) (hf : Fits 4 d) (hq : ∀ H', Same H H' → Q (.bl true) H') : sp_law_same K [x, y] H Q E :=
  ⟨_, _, rfl, d, d, hx, hy, hf, fun H' s => by rw [sameB_eq rfl]; exact hq H' s⟩
end Rd
namespace Rd
open PySem PySem.Spec PyProof.Rows L2 He Px
/-! texts in order -/
def SLt (a b : Str) : Prop := a.cps.toList < b.cps.toList
instance : DecidableRel SLt := fun a b => inferInstanceAs (Decidable (a.cps.toList < b.cps.toList))
theorem SLt.irr {a : Str} : ¬ SLt a a := List.lt_irrefl _
theorem SLt.tr {a b c : Str} (h : SLt a b) (g : SLt b c) : SLt a c := List.lt_trans h g
theorem SLt.tri {a b : Str} (h : ¬ SLt a b) (g : ¬ SLt b a) : a = b := str_ext (List.le_antisymm (List.not_lt.mp g) (List.not_lt.mp h))
def Ord (l : List Str) : Prop := l.Pairwise SLt
theorem Ord.uniq : ∀ {a b : List Str}, Ord a → Ord b → (∀ x, x ∈ a ↔ x ∈ b) → a = b
  | [], [], _, _, _ => rfl
  | [], y :: b, _, _, h => absurd ((h y).mpr List.mem_cons_self) List.not_mem_nil
  | x :: a, [], _, _, h => absurd ((h x).mp List.mem_cons_self) List.not_mem_nil
  | x :: a, y :: b, ha, hb, h => by
    have ha' := List.pairwise_cons.mp ha
    have hb' := List.pairwise_cons.mp hb
    have e : x = y := by
      rcases List.mem_cons.mp ((h x).mp List.mem_cons_self) with e | e
      · exact e
      · rcases List.mem_cons.mp ((h y).mpr List.mem_cons_self) with e2 | e2
        · exact e2.symm
        · exact absurd (SLt.tr (hb'.1 x e) (ha'.1 y e2)) SLt.irr
    subst e
    rw [Ord.uniq ha'.2 hb'.2 fun z => ⟨fun hz => ?_, fun hz => ?_⟩]
    · rcases List.mem_cons.mp ((h z).mp (List.mem_cons_of_mem _ hz)) with e | e
      · subst e; exact absurd (ha'.1 z hz) SLt.irr
      · exact e
    · rcases List.mem_cons.mp ((h z).mpr (List.mem_cons_of_mem _ hz)) with e | e
      · subst e; exact absurd (hb'.1 z hz) SLt.irr
      · exact e
def ins (x : Str) : List Str → List Str
  | [] => [x]
  | y :: r => if x = y then y :: r else if SLt x y then x :: y :: r else y :: ins x r
theorem mem_ins {x z : Str} : ∀ {l : List Str}, z ∈ ins x l ↔ z = x ∨ z ∈ l
  | [] => by simp [ins]
  | y :: r => by
    unfold ins
    by_cases e : x = y
    · rw [if_pos e]; subst e; simp
    · rw [if_neg e]
      by_cases g : SLt x y
      · rw [if_pos g]; simp
      · rw [if_neg g, List.mem_cons, mem_ins, List.mem_cons]
        constructor
        · rintro (h | h | h)
          · exact .inr (.inl h)
          · exact .inl h
          · exact .inr (.inr h)
        · rintro (h | h | h)
          · exact .inr (.inl h)
          · exact .inl h
          · exact .inr (.inr h)
theorem ord_ins {x : Str} : ∀ {l : List Str}, Ord l → Ord (ins x l)
  | [], _ => List.pairwise_singleton _ _
  | y :: r, h => by
    unfold ins
    have h' := List.pairwise_cons.mp h
    by_cases e : x = y
    · rw [if_pos e]; exact h
    · rw [if_neg e]
      by_cases g : SLt x y
      · rw [if_pos g]
        refine List.pairwise_cons.mpr ⟨fun z hz => ?_, h⟩
        rcases List.mem_cons.mp hz with rfl | hz
        · exact g
        · exact g.tr (h'.1 z hz)
      · rw [if_neg g]
        refine List.pairwise_cons.mpr ⟨fun z hz => ?_, ord_ins h'.2⟩
        rcases mem_ins.mp hz with rfl | hz
        · by_cases g2 : SLt y z
          · exact g2
          · exact absurd (SLt.tri g g2) e
        · exact h'.1 z hz
/-- the different texts of a list, in order -/
def srt : List Str → List Str
  | [] => []
  | x :: r => ins x (srt r)
theorem mem_srt {z : Str} : ∀ {l : List Str}, z ∈ srt l ↔ z ∈ l
  | [] => Iff.rfl
  | x :: r => by rw [srt, mem_ins, mem_srt, List.mem_cons]
theorem ord_srt : ∀ l : List Str, Ord (srt l)
  | [] => List.Pairwise.nil
  | x :: r => ord_ins (ord_srt r)
theorem srt_eq {l a : List Str} (h : Ord a) (m : ∀ x, x ∈ a ↔ x ∈ l) : a = srt l := Ord.uniq h (ord_srt l) fun x => (m x).trans mem_srt.symm
theorem srt_congr {a b : List Str} (h : ∀ x, x ∈ a ↔ x ∈ b) : srt a = srt b := srt_eq (ord_srt a) fun x => mem_srt.trans (h x)
theorem ins_len (x : Str) : ∀ l : List Str, (ins x l).length ≤ l.length + 1
  | [] => by simp [ins]
  | y :: r => by
    unfold ins
    split
    · simp
    · split
      · simp
      · have := ins_len x r
        simp only [List.length_cons]
        omega
theorem srt_len : ∀ l : List Str, (srt l).length ≤ l.length
  | [] => Nat.le_refl _
  | x :: r => Nat.le_trans (ins_len x _) (Nat.succ_le_succ (srt_len r))
/-- what sorted says -/
theorem rising_ge {p : Str} : ∀ {l : List Str}, risingS p l = true → ∀ x ∈ l, ¬ SLt x p
  | [], _, x, hx => nomatch hx
  | y :: r, h, x, hx => by
    have h2 : (!ltCps y.cps.toList p.cps.toList && risingS y r) = true := h
    rw [Bool.and_eq_true, ltCps_eq] at h2
    have hy : ¬ SLt y p := by
      intro g
      have g' : y.cps.toList < p.cps.toList := g
      rw [decide_eq_true g'] at h2
      cases h2.1
    rcases List.mem_cons.mp hx with rfl | hx
    · exact hy
    · intro g
      have := rising_ge h2.2 x hx
      by_cases e : SLt p y
      · exact this (g.tr e)
      · have e2 := SLt.tri hy e
        subst e2
        exact this g
theorem sorted_pair : ∀ {l : List Str}, sortedS l = true → l.Pairwise fun a b => ¬ SLt b a
  | [], _ => List.Pairwise.nil
  | x :: r, h => by
    have h : risingS x r = true := h
    refine List.pairwise_cons.mpr ⟨fun y hy => rising_ge h y hy, ?_⟩
    cases r with
    | nil => exact List.Pairwise.nil
    | cons y r =>
      have h2 : (!ltCps y.cps.toList x.cps.toList && risingS y r) = true := h
      rw [Bool.and_eq_true] at h2
      exact sorted_pair (l := y :: r) h2.2
/-- a further text of a sorted list -/
theorem ord_more {ys acc : List Str} {i : Nat} {x : Str} (hs : ys.Pairwise fun a b => ¬ SLt b a) (hi : ys[i]? = some x) (ha : Ord acc) (hm : ∀ z, z ∈ acc ↔ z ∈ ys.take i) (hx : x ∉ acc) : Ord (acc ++ [x]) := by
  refine List.pairwise_append.mpr ⟨ha, List.pairwise_singleton _ _, fun a hA b hb => ?_⟩
  have e : b = x := by simpa using hb
  subst e
  obtain ⟨hl, rfl⟩ := List.getElem?_eq_some_iff.mp hi
  obtain ⟨j, hj, e⟩ := List.getElem_of_mem ((hm a).mp hA)
  rw [List.length_take] at hj
  have hj2 : j < i := by omega
  have e2 : ys[j]'(by omega) = a := by rw [← e, List.getElem_take]
  have q := List.pairwise_iff_getElem.mp hs j i (by omega) hl hj2
  rw [e2] at q
  by_cases g : SLt a ys[i]
  · exact g
  · have := SLt.tri g q
    subst this
    exact absurd hA hx
/-! literals in order -/
def flat (zs : List Str) (l : List Str) : List Str := l.flatMap fun n => [n, ("-" : Str) ++ n].filter fun z => decide (z ∈ zs)
theorem flat_len (zs : List Str) : ∀ l : List Str, (flat zs l).length ≤ 2 * l.length
  | [] => by simp [flat]
  | x :: r => by
    have ih := flat_len zs r
    unfold flat at ih ⊢
    rw [List.flatMap_cons, List.length_append, List.length_cons]
    have := List.length_filter_le (fun z => decide (z ∈ zs)) [x, ("-" : Str) ++ x]
    simp only [List.length_cons, List.length_nil] at this
    omega
theorem flat_more (zs l : List Str) (n : Str) : flat zs (l ++ [n]) = flat zs l ++ [n, ("-" : Str) ++ n].filter fun z => decide (z ∈ zs) := by
  unfold flat
  rw [List.flatMap_append]
  simp
def litO (ls : List Str) : List Str := flat ls (srt (ls.map bare))
theorem litO_congr {a b : List Str} (h : ∀ x, x ∈ a ↔ x ∈ b) : litO a = litO b := by
  unfold litO flat
  rw [srt_congr (a := a.map bare) (b := b.map bare) fun x => by simp [h]]
  congr 1
  funext n
  congr 1
  funext z
  rw [Bool.eq_iff_iff]
  simp [h]
theorem litO_len (ls : List Str) : (litO ls).length ≤ 2 * ls.length := by
  have h := flat_len ls (srt (ls.map bare))
  have h2 := srt_len (ls.map bare)
  rw [List.length_map] at h2
  unfold litO
  omega
/-- the first name that stands in both signs -/
def twice (os : List Str) : Option Str := os.find? fun z => !dash z && decide (("-" : Str) ++ z ∈ os)
def badOf (zs : List Str) : Option Str := zs.find? fun z => !isLit z
/-! names, literals -/
theorem dash_app (z : Str) : dash (("-" : Str) ++ z) = true := (dash_iff _).mpr ⟨z.cps.toList, by rw [app_toList]; rfl⟩
theorem tail_app (z : Str) : cutS (("-" : Str) ++ z) (some 1) none = z := str_ext (by rw [cut_tail, app_toList]; rfl)
theorem bare_app (z : Str) : bare (("-" : Str) ++ z) = z := by
  unfold bare
  rw [if_pos (dash_app z), tail_app]
theorem nm_first {z : Str} (h : isNm z = true) : ∃ c r, z.cps.toList = c :: r ∧ c ∈ lettersL ∧ (∀ x ∈ z.cps.toList, x ∈ signsL) ∧ 1 ≤ z.length ∧ z.length ≤ 8 := by
  unfold isNm at h
  rw [Bool.and_eq_true, Bool.and_eq_true, Bool.and_eq_true] at h
  obtain ⟨h1, h2, h3, h4⟩ := h
  have h1 : ¬ (z.length : Int) < 1 := by simpa using h1
  have h2 : ¬ (8 : Int) < (z.length : Int) := by simpa using h2
  cases e : z.cps.toList with
  | nil => rw [e] at h3; cases h3
  | cons c r =>
    rw [e] at h3 h4
    refine ⟨c, r, rfl, of_decide_eq_true h3, fun x hx => ?_, by omega, by omega⟩
    exact of_decide_eq_true (List.all_eq_true.mp h4 x hx)
theorem dash45 : (45 : Nat) ∉ lettersL := by decide +kernel
theorem nm_nodash {z : Str} (h : isNm z = true) : dash z = false := by
  obtain ⟨c, r, e, hc, _⟩ := nm_first h
  cases hd : dash z with
  | false => rfl
  | true =>
    obtain ⟨r2, e2⟩ := (dash_iff z).mp hd
    rw [e] at e2
    have : c = 45 := (List.cons.inj e2).1
    subst this
    exact absurd hc dash45
theorem nm_bare {z : Str} (h : isNm z = true) : bare z = z := by
  unfold bare
  rw [nm_nodash h, if_neg Bool.false_ne_true]
theorem nm_lit {z : Str} (h : isNm z = true) : isLit z = true := by unfold isLit; rw [nm_bare h]; exact h
theorem neg_lit {z : Str} (h : isNm z = true) : isLit (("-" : Str) ++ z) = true := by unfold isLit; rw [bare_app]; exact h
theorem bare_eq {z : Str} (h : dash z = true) : ("-" : Str) ++ bare z = z := by
  obtain ⟨r, e⟩ := (dash_iff z).mp h
  apply str_ext
  rw [app_toList]
  unfold bare
  rw [if_pos h, cut_tail, e]
  rfl
theorem lit_cases {z : Str} (h : isLit z = true) : z = bare z ∨ z = ("-" : Str) ++ bare z := by
  cases hd : dash z with
  | false => left; unfold bare; rw [hd, if_neg Bool.false_ne_true]
  | true => right; exact (bare_eq hd).symm
theorem lit_len {z : Str} (h : isLit z = true) : z.length ≤ 9 := by
  obtain ⟨_, _, _, _, _, _, h8⟩ := nm_first (show isNm (bare z) = true from h)
  rcases lit_cases h with e | e
  · rw [e]; omega
  · rw [e, app_len]; show 1 + _ ≤ 9; omega
theorem flip_lit {z : Str} (h : isLit z = true) : isLit (flip z) = true := by
  unfold flip
  cases hd : dash z with
  | true =>
    rw [if_pos rfl]
    have e : bare z = cutS z (some 1) none := by unfold bare; rw [if_pos hd]
    rw [← e]
    exact nm_lit h
  | false =>
    rw [if_neg Bool.false_ne_true]
    have e : bare z = z := by unfold bare; rw [hd, if_neg Bool.false_ne_true]
    have h2 : isNm (bare z) = true := h
    rw [e] at h2
    exact neg_lit h2
/-- strings that are no literals -/
theorem nodash_of {z : Str} {c : Nat} {r : List Nat} (e : z.cps.toList = c :: r) (h : c ≠ 45) : dash z = false := by
  cases hd : dash z with
  | false => rfl
  | true =>
    obtain ⟨r2, e2⟩ := (dash_iff z).mp hd
    rw [e] at e2
    exact absurd (List.cons.inj e2).1 h
theorem bad_sign {z : Str} {c : Nat} (h : c ∈ z.cps.toList) (h1 : c ∉ signsL) (h2 : c ≠ 45) : isLit z = false := by
  cases hl : isLit z with
  | false => rfl
  | true =>
    obtain ⟨_, _, _, _, hs, _⟩ := nm_first (show isNm (bare z) = true from hl)
    rcases lit_cases hl with e | e
    · rw [e] at h; exact absurd (hs c h) h1
    · rw [e, app_toList] at h
      rcases List.mem_append.mp h with h | h
      · have : c = 45 := by simpa using (show c ∈ [45] from h)
        exact absurd this h2
      · exact absurd (hs c h) h1
theorem bad_first {z : Str} {c : Nat} {r : List Nat} (e : z.cps.toList = c :: r) (h : c ≠ 45) (h1 : c ∉ lettersL) : isLit z = false := by
  cases hl : isLit z with
  | false => rfl
  | true =>
    have hb : bare z = z := by unfold bare; rw [nodash_of e h, if_neg Bool.false_ne_true]
    obtain ⟨c2, r2, e2, hc, _⟩ := nm_first (show isNm (bare z) = true from hl)
    rw [hb, e] at e2
    rw [(List.cons.inj e2).1] at h1
    exact absurd hc h1
theorem bad_long {z : Str} {c : Nat} {r : List Nat} (e : z.cps.toList = c :: r) (h : c ≠ 45) (h1 : 8 < z.length) : isLit z = false := by
  cases hl : isLit z with
  | false => rfl
  | true =>
    have hb : bare z = z := by unfold bare; rw [nodash_of e h, if_neg Bool.false_ne_true]
    obtain ⟨_, _, _, _, _, _, h8⟩ := nm_first (show isNm (bare z) = true from hl)
    rw [hb] at h8
    omega
theorem letter_ne {c : Nat} (h : c ∈ lettersL) : c ≠ 45 := fun e => by rw [e] at h; exact dash45 h
/-! cuts -/
theorem cut_to (z : Str) (k : Nat) : (cutS z none (some (k : Int))).cps.toList = z.cps.toList.take k := by
  unfold cutS
  have e : HT.sIx z.length z.length (some (k : Int)) = min k z.length := HT.sIx_nat z.length z.length k
  rw [e, HT.sIx_none]
  show List.take (min k z.length - 0) (List.drop 0 z.cps.toList) = _
  rw [List.drop_zero, Nat.sub_zero, ← len_toList]
  rcases Nat.le_total k z.cps.toList.length with h | h
  · rw [Nat.min_eq_left h]
  · rw [Nat.min_eq_right h, List.take_of_length_le (Nat.le_refl _), List.take_of_length_le h]
theorem cut_from (z : Str) (k : Nat) : (cutS z (some (k : Int)) none).cps.toList = z.cps.toList.drop k := by
  unfold cutS
  have e : HT.sIx z.length 0 (some (k : Int)) = min k z.length := HT.sIx_nat z.length 0 k
  rw [e, HT.sIx_none]
  show List.take (z.length - min k z.length) (List.drop (min k z.length) z.cps.toList) = _
  rw [← len_toList]
  rcases Nat.le_total k z.cps.toList.length with h | h
  · rw [Nat.min_eq_left h, List.take_of_length_le (by rw [List.length_drop]; omega)]
  · rw [Nat.min_eq_right h, List.drop_of_length_le (Nat.le_refl _), List.drop_of_length_le h, List.take_nil]
theorem cut_mid {z : Str} {lo hi : Option Int} {x : Nat} (h : x ∈ (cutS z lo hi).cps.toList) : x ∈ z.cps.toList := by
  unfold cutS at h
  exact List.mem_of_mem_drop (List.mem_of_mem_take (by simpa using h))
theorem wrd_put {a b : Str} {c : Nat} (ha : a.cps.toList = [] ∨ Wrd a) (hc : c ∈ lettersL) (hb : ∀ x ∈ b.cps.toList, x ∈ signsL) : Wrd (a ++ ⟨#[c]⟩ ++ b) := by
  have e : (a ++ ⟨#[c]⟩ ++ b).cps.toList = a.cps.toList ++ (c :: b.cps.toList) := by
    rw [app_toList, app_toList, List.append_assoc]
    rfl
  rcases ha with ha | ⟨d, r, e1, h1, h2⟩
  · exact ⟨c, b.cps.toList, by rw [e, ha]; rfl, hc, hb⟩
  · refine ⟨d, r ++ (c :: b.cps.toList), by rw [e, e1]; rfl, h1, fun x hx => ?_⟩
    rcases List.mem_append.mp hx with hx | hx
    · exact h2 x hx
    · rcases List.mem_cons.mp hx with rfl | hx
      · exact letters_signs hc
      · exact hb x hx
theorem wrd_to {z : Str} (h : Wrd z) (k : Nat) : (cutS z none (some (k : Int))).cps.toList = [] ∨ Wrd (cutS z none (some (k : Int))) := by
  obtain ⟨c, r, e, h1, h2⟩ := h
  cases k with
  | zero => left; rw [cut_to]; rfl
  | succ k => right; exact ⟨c, r.take k, by rw [cut_to, e]; rfl, h1, fun x hx => h2 x (List.mem_of_mem_take hx)⟩
theorem wrd_signs {z : Str} (h : Wrd z) : ∀ x ∈ z.cps.toList, x ∈ signsL := by
  obtain ⟨c, r, e, h1, h2⟩ := h
  intro x hx
  rw [e] at hx
  rcases List.mem_cons.mp hx with rfl | hx
  · exact letters_signs h1
  · exact h2 x hx
theorem cutS_lenle (z : Str) (k : Int) (h : 0 ≤ k) : ((cutS z none (some k)).length : Int) ≤ k := by
  have e : (cutS z none (some k)).cps.toList = z.cps.toList.take k.toNat := by
    have := cut_to z k.toNat
    rw [Int.toNat_of_nonneg h] at this
    exact this
  have l := len_toList (cutS z none (some k))
  rw [e, List.length_take] at l
  omega
/-! searching -/
theorem find_at {α : Type} {p : α → Bool} {x : α} (hx : p x = true) : ∀ {l : List α} {i : Nat}, l[i]? = some x → (∀ y ∈ l.take i, p y = false) → l.find? p = some x
  | [], i, h, _ => by cases i <;> cases h
  | y :: r, 0, h, _ => by
    have e : y = x := Option.some.inj h
    subst e
    rw [List.find?_cons, hx]
  | y :: r, i + 1, h, hb => by
    rw [List.find?_cons, hb y List.mem_cons_self]
    exact find_at hx (l := r) (i := i) (by simpa using h) fun z hz => hb z (List.mem_cons_of_mem _ hz)
theorem find_no {α : Type} {p : α → Bool} {l : List α} (hb : ∀ y ∈ l, p y = false) : l.find? p = none := List.find?_eq_none.mpr fun y hy => by rw [hb y hy]; exact Bool.false_ne_true
theorem at_strs {zs : List Str} {i : Nat} {y : V} (h : (zs.map V.str)[i]? = some y) : ∃ z, zs[i]? = some z ∧ y = .str z := by
  rw [List.getElem?_map] at h
  cases e : zs[i]? with
  | none => rw [e] at h; cases h
  | some z => rw [e] at h; exact ⟨z, rfl, (Option.some.inj h).symm⟩
theorem take_all {α : Type} {P : α → Prop} {l : List α} {i : Nat} {x : α} (hi : l[i]? = some x) (h : ∀ y ∈ l.take i, P y) (hx : P x) : ∀ y ∈ l.take (i + 1), P y := fun y hy => by
  rw [take_more hi] at hy
  rcases List.mem_append.mp hy with hy | hy
  · exact h y hy
  · have : y = x := by simpa using hy
    rw [this]; exact hx
def badN (zs : List Str) : Option Str := zs.find? fun z => !isNm z
theorem badN_none {zs : List Str} (h : ∀ z ∈ zs, isNm z = true) : badN zs = none := find_no fun z hz => by rw [h z hz]; rfl
theorem badOf_none {zs : List Str} (h : ∀ z ∈ zs, isLit z = true) : badOf zs = none := find_no fun z hz => by rw [h z hz]; rfl
theorem badOf_ok {zs : List Str} (h : badOf zs = none) : ∀ z ∈ zs, isLit z = true := fun z hz => by
  have := List.find?_eq_none.mp h z hz
  cases e : isLit z with
  | true => rfl
  | false => rw [e] at this; exact absurd rfl this
/-- the loop's accumulator -/
theorem nub_step {ys acc : List Str} {i : Nat} {x : Str} (hs : ys.Pairwise fun a b => ¬ SLt b a) (hi : ys[i]? = some x) (ha : Ord acc) (hm : ∀ z, z ∈ acc ↔ z ∈ ys.take i) : (x ∈ acc → ∀ z, z ∈ acc ↔ z ∈ ys.take (i + 1)) ∧ (x ∉ acc → Ord (acc ++ [x]) ∧ ∀ z, z ∈ acc ++ [x] ↔ z ∈ ys.take (i + 1)) := by
  refine ⟨fun hx z => ?_, fun hx => ⟨ord_more hs hi ha hm hx, fun z => ?_⟩⟩
  · rw [take_more hi, List.mem_append, ← hm z]
    constructor
    · exact .inl
    · rintro (h | h)
      · exact h
      · have : z = x := by simpa using h
        rw [this]; exact hx
  · rw [take_more hi, List.mem_append, List.mem_append, ← hm z]
theorem filt1 {zs : List Str} {z : Str} (h : z ∈ zs) : [z].filter (fun z => decide (z ∈ zs)) = [z] := by simp [h]
theorem filt0 {zs : List Str} {z : Str} (h : z ∉ zs) : [z].filter (fun z => decide (z ∈ zs)) = [] := by simp [h]
theorem map_snoc (l : List Str) (z : Str) : (l ++ [z]).map V.str = l.map V.str ++ [V.str z] := by simp
theorem at_str {l : List Str} {i : Int} (h0 : 0 ≤ i) (h1 : i < (l.length : Int)) : ∃ z, z ∈ l ∧ atI (l.map V.str) i = some (.str z) := by
  have hl : i.toNat < l.length := by omega
  refine ⟨l[i.toNat], List.getElem_mem hl, ?_⟩
  unfold atI ixN
  rw [if_pos h0, if_pos (by rw [List.length_map]; omega)]
  simp [hl]
theorem dash_lit {n : Str} {r : Int} (hn : isNm n = true) (h0 : 0 ≤ r) (h1 : r < 2) : ∃ d : Str, atI [V.str "", V.str "-"] r = some (.str d) ∧ d.length ≤ 1 ∧ isLit (d ++ n) = true := by
  rcases (show r = 0 ∨ r = 1 by omega) with rfl | rfl
  · refine ⟨"", rfl, by decide, ?_⟩
    rw [show ("" : Str) ++ n = n from str_ext (by rw [app_toList]; rfl)]
    exact nm_lit hn
  · exact ⟨"-", rfl, by decide, neg_lit hn⟩
theorem flip_bare {z : Str} (h : isLit z = true) : bare (flip z) = bare z := by
  unfold flip
  cases hd : dash z with
  | true =>
    rw [if_pos rfl]
    have e : bare z = cutS z (some 1) none := by unfold bare; rw [if_pos hd]
    rw [← e]
    exact nm_bare h
  | false =>
    rw [if_neg Bool.false_ne_true, bare_app]
    unfold bare
    rw [hd, if_neg Bool.false_ne_true]
theorem same_name {y z : Str} (hy : isLit y = true) (hz : isLit z = true) (e : bare y = bare z) : y = z ∨ y = flip z := by
  have hn : isNm (bare z) = true := hz
  rcases lit_cases hy with e1 | e1
  · rcases lit_cases hz with e2 | e2
    · left; rw [e1, e, ← e2]
    · right
      have hd : dash z = true := by rw [e2]; exact dash_app _
      unfold flip
      rw [if_pos hd, e2, tail_app, e1, e]
  · rcases lit_cases hz with e2 | e2
    · right
      have hd : dash z = false := by rw [e2]; exact nm_nodash hn
      unfold flip
      rw [hd, if_neg Bool.false_ne_true, e1, e, ← e2]
    · left; rw [e1, e, ← e2]
/-- the object at c is a clause with these literals -/
def IsCl (K : PySem.W.Frag) (H : Hp) (c : Addr) (ls : List Str) : Prop := ∃ dx q, H c = some (.ins (ga K "Clause") dx [("literals", .ref q)]) ∧ H q = some (.tup (ls.map V.str))
theorem IsCl.keep {K : PySem.W.Frag} {H H' : Hp} {c : Addr} {ls : List Str} (h : IsCl K H c ls) (s : Same H H') : IsCl K H' c ls := by
  obtain ⟨dx, q, h1, h2⟩ := h
  exact ⟨dx, q, s _ _ h1, s _ _ h2⟩
theorem DpAll.strs {K : PySem.W.Frag} {H : Hp} : ∀ l : List Str, DpAll K H (l.map V.str) (l.map PyData.str)
  | [] => .nil
  | x :: r => .cons (.str x) (DpAll.strs r)
theorem eqvAll_strs : ∀ a b : List Str, PyData.eqvAll (a.map .str) (b.map .str) = decide (a = b)
  | [], [] => by simp [PyData.eqvAll]
  | [], _ :: _ => by simp [PyData.eqvAll]
  | _ :: _, [] => by simp [PyData.eqvAll]
  | x :: a, y :: b => by
    show (PyData.eqv (.str x) (.str y) && PyData.eqvAll (a.map .str) (b.map .str)) = _
    rw [eqvAll_strs a b]
    show ((x == y) && decide (a = b)) = _
    rw [Bool.eq_iff_iff]
    simp
theorem canLayAll_strs : ∀ l : List Str, (∀ z ∈ l, PyData.strOk z = true) → PyData.canLayAll0 (l.map .str) = true
  | [], _ => by simp [PyData.canLayAll0]
  | x :: r, h => by
    have ih := canLayAll_strs r fun z hz => h z (List.mem_cons_of_mem _ hz)
    have hx := h x List.mem_cons_self
    simp [PyData.canLayAll0, PyData.canLay0, ih, hx]
theorem depthAll_strs : ∀ l : List Str, PyData.depthAll (l.map .str) = 0
  | [] => by simp [PyData.depthAll]
  | x :: r => by
    have ih := depthAll_strs r
    simp [PyData.depthAll, PyData.depth, ih]
theorem shaped_strs (l : List Str) (h : ∀ z ∈ l, PyData.strOk z = true) : SeqAt.shaped (.tuple (l.map .str)) = true := by
  unfold SeqAt.shaped
  have h1 : (PyData.tuple (l.map .str)).canLay0 = true := by
    have := canLayAll_strs l h
    simp [PyData.canLay0, this]
  have h2 : (PyData.tuple (l.map .str)).depth = 1 := by
    have := depthAll_strs l
    simp [PyData.depth, this]
  rw [h1, h2]
  rfl
theorem litO_mem {zs : List Str} {z : Str} (h : z ∈ litO zs) : z ∈ zs := by
  unfold litO flat at h
  obtain ⟨n, _, hz⟩ := List.mem_flatMap.mp h
  exact of_decide_eq_true (List.mem_filter.mp hz).2
theorem litO_iff {zs : List Str} (h : ∀ z ∈ zs, isLit z = true) {z : Str} : z ∈ litO zs ↔ z ∈ zs := by
  refine ⟨litO_mem, fun hz => ?_⟩
  unfold litO flat
  refine List.mem_flatMap.mpr ⟨bare z, mem_srt.mpr (List.mem_map_of_mem hz), ?_⟩
  refine List.mem_filter.mpr ⟨?_, decide_eq_true hz⟩
  rcases lit_cases (h z hz) with e | e
  · rw [← e]; exact List.mem_cons_self
  · rw [← e]; exact List.mem_cons_of_mem _ List.mem_cons_self
theorem flat_find {zs : List Str} : ∀ {l : List Str}, (∀ n ∈ l, isNm n = true) → (flat zs l).find? (fun z => !dash z && decide (("-" : Str) ++ z ∈ zs)) = l.find? fun n => decide (n ∈ zs) && decide (("-" : Str) ++ n ∈ zs)
  | [], _ => rfl
  | n :: r, h => by
    have ih := flat_find (zs := zs) (l := r) fun m hm => h m (List.mem_cons_of_mem _ hm)
    have hd := nm_nodash (h n List.mem_cons_self)
    have e : flat zs (n :: r) = ([n, ("-" : Str) ++ n].filter fun z => decide (z ∈ zs)) ++ flat zs r := by unfold flat; rw [List.flatMap_cons]
    have dd : dash (("-" : Str) ++ n) = true := dash_app n
    rw [e, List.find?_append, ih]
    by_cases h1 : n ∈ zs <;> by_cases h2 : ("-" : Str) ++ n ∈ zs <;> simp [h1, h2, hd, dd]
theorem twice_eq {zs : List Str} (h : ∀ z ∈ zs, isLit z = true) : (srt (zs.map bare)).find? (fun n => decide (n ∈ zs) && decide (("-" : Str) ++ n ∈ zs)) = twice (litO zs) := by
  unfold twice
  have e : (fun z => !dash z && decide (("-" : Str) ++ z ∈ litO zs)) = fun z => !dash z && decide (("-" : Str) ++ z ∈ zs) := by
    funext z
    congr 1
    rw [Bool.eq_iff_iff]
    simp only [decide_eq_true_eq]
    exact litO_iff h
  rw [e]
  refine (flat_find fun n hn => ?_).symm
  obtain ⟨y, hy, rfl⟩ := List.mem_map.mp (mem_srt.mp hn)
  exact h y hy
/-- what is due for a row -/
def dueD (zs : List Str) : PyData := match badOf zs with
  | some z => .tuple [.str "literal", .str z, .bool true]
  | none => match twice (litO zs) with
    | some n => .tuple [.str "signs", .str n, .bool true]
    | none => if (6 : Int) < ((litO zs).length : Int) then .tuple [.str "many", .int 6, .bool true] else .tuple [.str "clause", .tuple ((litO zs).map .str), .bool true]
theorem due_bad {zs : List Str} {z : Str} (h : badOf zs = some z) : dueD zs = .tuple [.str "literal", .str z, .bool true] := by unfold dueD; rw [h]
theorem due_both {zs : List Str} {n : Str} (h : badOf zs = none) (h2 : twice (litO zs) = some n) : dueD zs = .tuple [.str "signs", .str n, .bool true] := by unfold dueD; rw [h]; dsimp only; rw [h2]
theorem due_many {zs : List Str} (h : badOf zs = none) (h2 : twice (litO zs) = none) (h3 : (6 : Int) < ((litO zs).length : Int)) : dueD zs = .tuple [.str "many", .int 6, .bool true] := by unfold dueD; rw [h]; dsimp only; rw [h2]; dsimp only; rw [if_pos h3]
theorem due_ok {zs : List Str} (h : badOf zs = none) (h2 : twice (litO zs) = none) (h3 : ¬ (6 : Int) < ((litO zs).length : Int)) : dueD zs = .tuple [.str "clause", .tuple ((litO zs).map .str), .bool true] := by unfold dueD; rw [h]; dsimp only; rw [h2]; dsimp only; rw [if_neg h3]
theorem three {H : Hp} {q : Addr} {x y z : V} {d e f : PyData} (h : H q = some (.tup [x, y, z])) (h1 : Is H x d) (h2 : Is H y e) (h3 : Is H z f) : Is H (.ref q) (.tuple [d, e, f]) := .tup h (.cons h1 (.cons h2 (.cons h3 .nil)))
theorem len3 {x y z : V} : [x, y, z].length ≤ sizeLine := by show 3 ≤ sizeLine; rw [sizeLine_eq]; decide
theorem fits3 {d e f : PyData} (h1 : Fits 3 d) (h2 : Fits 3 e) (h3 : Fits 3 f) : Fits 4 (.tuple [d, e, f]) := by
  refine ⟨by show 3 ≤ 1000000; decide, fun x hx => ?_⟩
  rcases List.mem_cons.mp hx with rfl | hx
  · exact h1
  rcases List.mem_cons.mp hx with rfl | hx
  · exact h2
  rcases List.mem_cons.mp hx with rfl | hx
  · exact h3
  · cases hx
theorem due_fits {zs : List Str} (hl : zs.length ≤ 8) : Fits 4 (dueD zs) := by
  have h8 := litO_len zs
  unfold dueD
  split
  · exact fits3 trivial trivial trivial
  · split
    · exact fits3 trivial trivial trivial
    · split
      · exact fits3 trivial trivial trivial
      · refine fits3 trivial ⟨by rw [List.length_map]; omega, fun x hx => ?_⟩ trivial
        obtain ⟨z, _, rfl⟩ := List.mem_map.mp hx
        trivial
/-! rows of literals of different names, as sets -/
theorem ins_len_new {x : Str} : ∀ {l : List Str}, x ∉ l → (ins x l).length = l.length + 1
  | [], _ => rfl
  | y :: r, h => by
    have h1 : ¬ x = y := fun e => h (e ▸ List.mem_cons_self)
    have h2 : x ∉ r := fun m => h (List.mem_cons_of_mem _ m)
    have ih := ins_len_new h2
    unfold ins
    rw [if_neg h1]
    split
    · rfl
    · rw [List.length_cons, ih]
      rfl
theorem srt_len_nd : ∀ {l : List Str}, l.Nodup → (srt l).length = l.length
  | [], _ => rfl
  | x :: r, h => by
    obtain ⟨h1, h2⟩ := List.nodup_cons.mp h
    show (ins x (srt r)).length = _
    rw [ins_len_new fun m => h1 (mem_srt.mp m), srt_len_nd h2]
    rfl
theorem inj_bare : ∀ {zs : List Str}, (zs.map bare).Nodup → ∀ x ∈ zs, ∀ y ∈ zs, bare x = bare y → x = y
  | [], _, x, hx, _, _, _ => by cases hx
  | z :: r, h, x, hx, y, hy, e => by
    obtain ⟨h1, h2⟩ := List.nodup_cons.mp (show (bare z :: r.map bare).Nodup from h)
    rcases List.mem_cons.mp hx with hx' | hx'
    · rcases List.mem_cons.mp hy with hy' | hy'
      · rw [hx', hy']
      · refine absurd ?_ h1
        rw [← hx', e]
        exact List.mem_map_of_mem hy'
    · rcases List.mem_cons.mp hy with hy' | hy'
      · refine absurd ?_ h1
        rw [← hy', ← e]
        exact List.mem_map_of_mem hx'
      · exact inj_bare h2 x hx' y hy' e
theorem neg_ne (n : Str) : n ≠ ("-" : Str) ++ n := fun e => by
  have := congrArg (fun z : Str => z.cps.toList.length) e
  simp only [app_toList, List.length_append] at this
  have h1 : (("-" : Str).cps.toList).length = 1 := rfl
  omega
/-- no name in both signs -/
theorem twice_no {zs : List Str} (h : ∀ z ∈ zs, isLit z = true) (hn : (zs.map bare).Nodup) : twice (litO zs) = none := by
  rw [← twice_eq h]
  refine find_no fun n _ => ?_
  by_cases h1 : n ∈ zs
  · by_cases h2 : ("-" : Str) ++ n ∈ zs
    · refine absurd (inj_bare hn n h1 _ h2 ?_) (neg_ne n)
      rw [bare_app]
      rcases lit_cases (h n h1) with e | e
      · exact e.symm
      · exfalso
        have h3 := h _ h2
        unfold isLit at h3
        rw [bare_app] at h3
        have := nm_nodash h3
        rw [e, dash_app] at this
        cases this
    · simp [h2]
  · simp [h1]
theorem flat_len_one {zs : List Str} : ∀ {l : List Str}, (∀ n ∈ l, (n ∈ zs ∨ ("-" : Str) ++ n ∈ zs) ∧ ¬ (n ∈ zs ∧ ("-" : Str) ++ n ∈ zs)) → (flat zs l).length = l.length
  | [], _ => rfl
  | n :: r, h => by
    have ih := flat_len_one (zs := zs) (l := r) fun m hm => h m (List.mem_cons_of_mem _ hm)
    have hn := h n List.mem_cons_self
    have e : flat zs (n :: r) = ([n, ("-" : Str) ++ n].filter fun z => decide (z ∈ zs)) ++ flat zs r := by unfold flat; rw [List.flatMap_cons]
    rw [e, List.length_append, ih, List.length_cons]
    by_cases h1 : n ∈ zs <;> by_cases h2 : ("-" : Str) ++ n ∈ zs <;> simp [h1, h2] at hn ⊢ <;> omega
theorem litO_len_nd {zs : List Str} (h : ∀ z ∈ zs, isLit z = true) (hn : (zs.map bare).Nodup) : (litO zs).length = zs.length := by
  have e := srt_len_nd hn
  rw [List.length_map] at e
  rw [← e]
  refine flat_len_one fun n hm => ?_
  obtain ⟨y, hy, rfl⟩ := List.mem_map.mp (mem_srt.mp hm)
  constructor
  · rcases lit_cases (h y hy) with e | e
    · left; rw [← e]; exact hy
    · right; rw [← e]; exact hy
  · rintro ⟨h1, h2⟩
    refine neg_ne (bare y) (inj_bare hn _ h1 _ h2 ?_)
    rw [bare_app, nm_bare (h y hy)]
theorem filt_nd {zs : List Str} (p : Str → Bool) (hn : (zs.map bare).Nodup) : ((zs.filter p).map bare).Nodup := hn.sublist ((List.filter_sublist (l := zs)).map bare)
theorem nd_of_bare {zs : List Str} (hn : (zs.map bare).Nodup) : zs.Nodup := (List.pairwise_map.mp hn).imp fun h e => h (congrArg bare e)
theorem due_congr {a b : List Str} (ha : ∀ z ∈ a, isLit z = true) (h : ∀ x, x ∈ a ↔ x ∈ b) : dueD a = dueD b := by
  unfold dueD
  rw [badOf_none ha, badOf_none fun z hz => ha z ((h z).mpr hz), litO_congr h]
theorem sub_back {a b : List Str} (hn : a.Nodup) (hs : ∀ z ∈ a, z ∈ b) (hl : a.length = b.length) : ∀ z ∈ b, z ∈ a := fun z hz => Classical.byContradiction fun h => by
  have h1 : (z :: a).Nodup := List.nodup_cons.mpr ⟨h, hn⟩
  have := List.Nodup.length_le_of_subset (l₂ := b) h1 fun y hy => by
    rcases List.mem_cons.mp hy with rfl | hy
    · exact hz
    · exact hs y hy
  rw [List.length_cons] at this
  omega
theorem litO_eq_iff {zs ys : List Str} (hz : ∀ z ∈ zs, isLit z = true) (hy : ∀ z ∈ ys, isLit z = true) (nz : (zs.map bare).Nodup) (ny : (ys.map bare).Nodup) : litO zs = litO ys ↔ (∀ z ∈ zs, z ∈ ys) ∧ zs.length = ys.length := by
  constructor
  · intro e
    refine ⟨fun z h => ?_, by rw [← litO_len_nd hz nz, e, litO_len_nd hy ny]⟩
    have := (litO_iff hz).mpr h
    rw [e] at this
    exact litO_mem this
  · rintro ⟨h1, h2⟩
    exact litO_congr fun x => ⟨h1 x, sub_back (nd_of_bare nz) h1 h2 x⟩
theorem sign_ok : ∀ c ∈ signsL, c < 0x110000 := by decide +kernel
theorem lit_ok {z : Str} (h : isLit z = true) : PyData.strOk z = true := by
  have key : ∀ w : Str, (∀ c ∈ w.cps.toList, c < 0x110000) → PyData.strOk w = true := fun w hw => by
    unfold PyData.strOk
    rw [← Array.all_toList]
    exact List.all_eq_true.mpr fun c hc => decide_eq_true (hw c hc)
  obtain ⟨_, _, _, _, hs, _⟩ := nm_first (show isNm (bare z) = true from h)
  rcases lit_cases h with e | e
  · rw [e]; exact key _ fun c hc => sign_ok c (hs c hc)
  · rw [e]
    refine key _ fun c hc => ?_
    rw [app_toList] at hc
    rcases List.mem_append.mp hc with hc | hc
    · have : c = 45 := List.mem_singleton.mp (show c ∈ [45] from hc)
      omega
    · exact sign_ok c (hs c hc)
theorem litO_ok {zs : List Str} (h : ∀ z ∈ zs, isLit z = true) : ∀ z ∈ litO zs, PyData.strOk z = true := fun z hz => lit_ok (h z (litO_mem hz))
theorem due_fitsN {zs : List Str} (hl : zs.length ≤ 1000) : Fits 4 (dueD zs) := by
  have h8 := litO_len zs
  unfold dueD
  split
  · exact fits3 trivial trivial trivial
  · split
    · exact fits3 trivial trivial trivial
    · split
      · exact fits3 trivial trivial trivial
      · refine fits3 trivial ⟨by rw [List.length_map]; omega, fun x hx => ?_⟩ trivial
        obtain ⟨z, _, rfl⟩ := List.mem_map.mp hx
        trivial
/-- a row of at most six literals of different names -/
structure Row6 (zs : List Str) : Prop where
  len : zs.length ≤ 6
  lit : ∀ z ∈ zs, isLit z = true
  nd : (zs.map bare).Nodup
theorem Row6.filter {zs : List Str} (h : Row6 zs) (p : Str → Bool) : Row6 (zs.filter p) := ⟨by have := List.length_filter_le p zs; have := h.len; omega, fun z hz => h.lit z (List.mem_filter.mp hz).1, filt_nd p h.nd⟩
theorem Row6.reverse {zs : List Str} (h : Row6 zs) : Row6 zs.reverse := ⟨by rw [List.length_reverse]; exact h.len, fun z hz => h.lit z (List.mem_reverse.mp hz), by rw [List.map_reverse]; exact List.pairwise_reverse.mpr (h.nd.imp Ne.symm)⟩
theorem Row6.litO {zs : List Str} (h : Row6 zs) : (litO zs).length = zs.length := litO_len_nd h.lit h.nd
theorem Row6.mem {zs : List Str} (h : Row6 zs) {z : Str} : z ∈ Rd.litO zs ↔ z ∈ zs := litO_iff h.lit
theorem Row6.short {zs : List Str} (h : Row6 zs) : ∀ z ∈ zs, z.length ≤ 1000 := fun z hz => by have := lit_len (h.lit z hz); omega
theorem at_strN {l : List Str} {i : Int} (h0 : 0 ≤ i) (h1 : i < (l.length : Int)) : ∃ z, l[i.toNat]? = some z ∧ atI (l.map V.str) i = some (.str z) ∧ ixN (l.map V.str).length i = some i.toNat := by
  have hl : i.toNat < l.length := by omega
  refine ⟨l[i.toNat], by simp [hl], ?_, ?_⟩
  · unfold atI ixN
    rw [if_pos h0, if_pos (by rw [List.length_map]; omega)]
    simp [hl]
  · unfold ixN
    rw [if_pos h0, if_pos (by rw [List.length_map]; omega)]
theorem set_bare {l : List Str} {i : Nat} {z y : Str} (h : l[i]? = some z) (e : bare y = bare z) : (l.set i y).map bare = l.map bare := by
  rw [List.map_set, e]
  obtain ⟨hi, rfl⟩ := List.getElem?_eq_some_iff.mp h
  have hi' : i < (l.map bare).length := by rw [List.length_map]; exact hi
  have := List.set_getElem_self (as := l.map bare) (i := i) hi'
  rw [List.getElem_map] at this
  exact this
/-- the text of a clause -/
def textC (ls : List Str) : Str := if ls.length = 0 then "0" else Txt.join " | " ls
theorem ord_nodup {l : List Str} (h : Ord l) : l.Nodup := List.Pairwise.imp (S := fun a b => a ≠ b) (fun {a b} (h : SLt a b) (e : a = b) => SLt.irr (by rw [e] at h; exact h)) h
theorem flat_bare {zs : List Str} {l : List Str} (hl : ∀ n ∈ l, isNm n = true) : ∀ z ∈ flat zs l, bare z ∈ l := fun z hz => by
  unfold flat at hz
  obtain ⟨n, hn, h⟩ := List.mem_flatMap.mp hz
  have h1 := (List.mem_filter.mp h).1
  rcases List.mem_cons.mp h1 with e | h1
  · rw [e, nm_bare (hl n hn)]; exact hn
  rcases List.mem_cons.mp h1 with e | h1
  · rw [e, bare_app]; exact hn
  · cases h1
theorem flat_nodup {zs : List Str} : ∀ {l : List Str}, l.Nodup → (∀ n ∈ l, isNm n = true) → (flat zs l).Nodup
  | [], _, _ => List.Pairwise.nil
  | n :: r, hd, hl => by
    obtain ⟨h1, h2⟩ := List.nodup_cons.mp hd
    have hr : ∀ m ∈ r, isNm m = true := fun m hm => hl m (List.mem_cons_of_mem _ hm)
    have ih := flat_nodup (zs := zs) h2 hr
    have e : flat zs (n :: r) = ([n, ("-" : Str) ++ n].filter fun z => decide (z ∈ zs)) ++ flat zs r := by unfold flat; rw [List.flatMap_cons]
    rw [e]
    have hn2 : ([n, ("-" : Str) ++ n]).Nodup := List.nodup_cons.mpr ⟨fun h => neg_ne n (by simpa using h), List.nodup_cons.mpr ⟨by simp, List.Pairwise.nil⟩⟩
    refine List.nodup_append.mpr ⟨List.Pairwise.filter _ hn2, ih, fun x hx y hy exy => ?_⟩
    have hb := flat_bare hr y hy
    have hx1 := (List.mem_filter.mp hx).1
    have e2 : bare x = n := by
      rcases List.mem_cons.mp hx1 with e | hx1
      · rw [e]; exact nm_bare (hl n List.mem_cons_self)
      rcases List.mem_cons.mp hx1 with e | hx1
      · rw [e, bare_app]
      · cases hx1
    rw [← exy, e2] at hb
    exact h1 hb
theorem litO_nodup {zs : List Str} (h : ∀ z ∈ zs, isLit z = true) : (litO zs).Nodup := flat_nodup (ord_nodup (ord_srt _)) fun n hn => by
  obtain ⟨y, hy, rfl⟩ := List.mem_map.mp (mem_srt.mp hn)
  exact h y hy
theorem same_len {a b : List Str} (ha : a.Nodup) (hb : b.Nodup) (h : ∀ x, x ∈ a ↔ x ∈ b) : a.length = b.length :=
  Nat.le_antisymm (List.Nodup.length_le_of_subset ha fun x hx => (h x).mp hx) (List.Nodup.length_le_of_subset hb fun x hx => (h x).mpr hx)
theorem litO_filt {zs : List Str} (h : Row6 zs) (p : Str → Bool) : ((litO zs).filter p).length = (zs.filter p).length :=
  same_len (List.Pairwise.filter p (litO_nodup h.lit)) (List.Pairwise.filter p (nd_of_bare h.nd)) fun x => by simp [List.mem_filter, h.mem]
theorem litO_litO {zs : List Str} (h : ∀ z ∈ zs, isLit z = true) : litO (litO zs) = litO zs := litO_congr fun _ => litO_iff h
theorem nd_bare {ws : List Str} (hn : ws.Nodup) (h : ∀ z ∈ ws, isLit z = true) (hf : ∀ z ∈ ws, flip z ∉ ws) : (ws.map bare).Nodup := by
  refine List.pairwise_map.mpr (List.Pairwise.imp_of_mem (R := fun a b => a ≠ b) ?_ hn)
  intro a b ha hb hne e
  rcases same_name (h a ha) (h b hb) e with e | e
  · exact hne e
  · exact hf b hb (e ▸ ha)
/-! lists of texts: comprehensions, joining -/
theorem s_catS {K : PySem.W.Frag} {H : Hp} {Q : VK} {a b : Addr} {xs ys : List Str} (ha : H a = some (.lst (xs.map V.str))) (hb : H b = some (.lst (ys.map V.str))) (hl : xs.length + ys.length ≤ 1000000) (h : ∀ l H', Same H H' → H l = none → H' l = some (.lst ((xs ++ ys).map V.str)) → Q (.ref l) H') : rAddP K (.ref a) (.ref b) H Q :=
  .inl ⟨_, _, _, _, rfl, rfl, ha, hb, by rw [List.length_map, List.length_map, sizeLine_eq]; omega, fun l hl0 => h l _ (same_new hl0) hl0 (by rw [upd_same, List.map_append])⟩
def gS (g : Str → V) : V → V
  | .str z => g z
  | _ => .non
def cS (c : Str → Bool) : V → Bool
  | .str z => c z
  | _ => false
theorem map_gS (g : Str → V) (zs : List Str) : (zs.map V.str).map (gS g) = zs.map g := by rw [List.map_map]; rfl
theorem filter_cS (c : Str → Bool) (zs : List Str) : (zs.map V.str).filter (cS c) = (zs.filter c).map V.str := by rw [List.filter_map]; rfl
theorem lcS_map {K : PySem.W.Frag} {H1 : Hp} {σ : L2.St} {Q : VK} {v : Nat} {te : TE} {x : V} {zs : List Str} (g : Str → V) (hx : Items K H1 x (zs.map V.str)) (hl : zs.length ≤ 1000000)
    (hf : ∀ z ∈ zs, ∀ H', Same H1 H' → ∀ Q' : VK, (∀ H'', Same H' H'' → Q' (g z) H'') → te (σ.set v (some (.str z))) H' Q')
    (hq : ∀ D H', H1 D = none → Same H1 H' → H' D = some (.lst (zs.map g)) → Q (.ref D) H') : LcBody K (gName v) tYes te [v] σ Q x H1 := by
  refine lcb_map (gS g) hx (by rw [List.length_map]; exact hl) ?_ ?_
  · intro x hx H' s Q' hQ
    obtain ⟨z, hz, rfl⟩ := List.mem_map.mp hx
    exact hf z hz H' s Q' hQ
  · intro D H' h0 s h
    rw [map_gS] at h
    exact hq D H' h0 s h
theorem lcS_str {K : PySem.W.Frag} {H1 : Hp} {σ : L2.St} {Q : VK} {v : Nat} {te : TE} {x : V} {zs : List Str} (f : Str → Str) (hx : Items K H1 x (zs.map V.str)) (hl : zs.length ≤ 1000000)
    (hf : ∀ z ∈ zs, ∀ H', Same H1 H' → ∀ Q' : VK, (∀ H'', Same H' H'' → Q' (.str (f z)) H'') → te (σ.set v (some (.str z))) H' Q')
    (hq : ∀ D H', H1 D = none → Same H1 H' → H' D = some (.lst ((zs.map f).map V.str)) → Q (.ref D) H') : LcBody K (gName v) tYes te [v] σ Q x H1 :=
  lcS_map (fun z => .str (f z)) hx hl hf fun D H' h0 s h => hq D H' h0 s (by rw [h, List.map_map]; rfl)
theorem lcS_bl {K : PySem.W.Frag} {H1 : Hp} {σ : L2.St} {Q : VK} {v : Nat} {te : TE} {x : V} {zs : List Str} (f : Str → Bool) (hx : Items K H1 x (zs.map V.str)) (hl : zs.length ≤ 1000000)
    (hf : ∀ z ∈ zs, ∀ H', Same H1 H' → ∀ Q' : VK, (∀ H'', Same H' H'' → Q' (.bl (f z)) H'') → te (σ.set v (some (.str z))) H' Q')
    (hq : ∀ D H', H1 D = none → Same H1 H' → H' D = some (.lst ((zs.map f).map V.bl)) → Q (.ref D) H') : LcBody K (gName v) tYes te [v] σ Q x H1 :=
  lcS_map (fun z => .bl (f z)) hx hl hf fun D H' h0 s h => hq D H' h0 s (by rw [h, List.map_map]; rfl)
theorem lcS_filt {K : PySem.W.Frag} {H1 : Hp} {σ : L2.St} {Q : VK} {v : Nat} {tt : TT} {te : TE} {x : V} {zs : List Str} (f : Str → Str) (c : Str → Bool) (hx : Items K H1 x (zs.map V.str)) (hl : zs.length ≤ 1000000)
    (hc : ∀ z ∈ zs, ∀ H', Same H1 H' → ∀ Q' : Bool → Hp → Prop, (∀ H'', Same H' H'' → Q' (c z) H'') → tt (σ.set v (some (.str z))) H' Q')
    (hf : ∀ z ∈ zs, c z = true → ∀ H', Same H1 H' → ∀ Q' : VK, (∀ H'', Same H' H'' → Q' (.str (f z)) H'') → te (σ.set v (some (.str z))) H' Q')
    (hq : ∀ D H', H1 D = none → Same H1 H' → H' D = some (.lst (((zs.filter c).map f).map V.str)) → Q (.ref D) H') : LcBody K (gName v) tt te [v] σ Q x H1 := by
  refine lcb_filt (gS fun z => .str (f z)) (cS c) hx (by rw [List.length_map]; exact hl) ?_ ?_ ?_
  · intro x hx H' s Q' hQ
    obtain ⟨z, hz, rfl⟩ := List.mem_map.mp hx
    exact hc z hz H' s Q' hQ
  · intro x hx hcx H' s Q' hQ
    obtain ⟨z, hz, rfl⟩ := List.mem_map.mp hx
    exact hf z hz hcx H' s Q' hQ
  · intro D H' h0 s h
    rw [filter_cS, map_gS] at h
    exact hq D H' h0 s (by rw [h, List.map_map]; rfl)
theorem IsAll.bls {H : Hp} : ∀ l : List Bool, IsAll H (l.map V.bl) (l.map PyData.bool)
  | [] => .nil
  | b :: r => .cons (.bl b) (IsAll.bls r)
theorem fits_bls {l : List Bool} (h : l.length ≤ 1000000) : Fits 4 (.list (l.map .bool)) := ⟨by rw [List.length_map]; exact h, fun d hd => by
  obtain ⟨z, _, rfl⟩ := List.mem_map.mp hd
  trivial⟩
theorem len1 {x : V} : [x].length ≤ sizeLine := by show 1 ≤ sizeLine; rw [sizeLine_eq]; decide
theorem len2 {x y : V} : [x, y].length ≤ sizeLine := by show 2 ≤ sizeLine; rw [sizeLine_eq]; decide
theorem len4 {x y z u : V} : [x, y, z, u].length ≤ sizeLine := by show 4 ≤ sizeLine; rw [sizeLine_eq]; decide
theorem len5 {x y z u w : V} : [x, y, z, u, w].length ≤ sizeLine := by show 5 ≤ sizeLine; rw [sizeLine_eq]; decide
theorem len6 {x y z u w r : V} : [x, y, z, u, w, r].length ≤ sizeLine := by show 6 ≤ sizeLine; rw [sizeLine_eq]; decide
theorem sum_le {ys : List Str} {m : Nat} (hz : ∀ z ∈ ys, z.length ≤ m) : (ys.map (·.length)).sum ≤ ys.length * m := by
  induction ys with
  | nil => simp
  | cons z r ih =>
    have h1 := ih fun y hy => hz y (List.mem_cons_of_mem _ hy)
    have h2 := hz z List.mem_cons_self
    rw [List.map_cons, List.sum_cons, List.length_cons, Nat.add_mul]
    omega
theorem join_fits {ys : List Str} {a : Str} (hl : ys.length ≤ 1000) (hz : ∀ z ∈ ys, z.length ≤ 1000) (ha : a.length ≤ 100) : (ys.map (·.length)).sum + ys.length * a.length ≤ 16777216 := by
  have h1 := sum_le hz
  have h2 : ys.length * 1000 ≤ 1000 * 1000 := Nat.mul_le_mul_right _ hl
  have h3 : ys.length * a.length ≤ 1000 * 100 := Nat.mul_le_mul hl ha
  omega
theorem fits_strs {l : List Str} (h : l.length ≤ 1000000) : Fits 4 (.tuple (l.map .str)) ∧ Fits 4 (.list (l.map .str)) := by
  have a : ∀ d ∈ l.map PyData.str, Fits 3 d := fun d hd => by
    obtain ⟨z, _, rfl⟩ := List.mem_map.mp hd
    trivial
  exact ⟨⟨by rw [List.length_map]; exact h, a⟩, ⟨by rw [List.length_map]; exact h, a⟩⟩
theorem same_un {H H' : Hp} {q : Addr} (s : Same H H') (h : H' q = none) : H q = none := by
  cases e : H q with
  | none => rfl
  | some o => rw [s _ _ e] at h; cases h
theorem same_put {H H' : Hp} {q : Addr} {o : HO} (s : Same H H') (h : H q = none) : Same H (upd H' q o) := fun b u e => by
  rw [upd_ne (ne_of_none e h)]
  exact s _ _ e
theorem s_lenO {K : PySem.W.Frag} {l : List (Addr × Str)} {H : Hp} {Q : VK} {p : Addr} {xs : List V} (hp : H p = some (.lst xs)) (h : Q (.int xs.length) H) : Cl.rLenO K l [.ref p] H Q := .inl (s_lenL hp h)
theorem s_intB {b : Bool} {H : Hp} {Q : VK} (h : Q (.int (if b then 1 else 0)) H) : rIntP [.bl b] H Q := h
/-! [e for k in range(j)], e draws from the source -/
theorem lcr_src {H1 : Hp} {σ : L2.St} {Q : VK} {v : Nat} {te : TE} {j : Int} {a : Addr} (P : Nat → Str → Prop) (h1 : j ≤ 1000000) (h0 : -1000000 ≤ j) (hS : Src H1 a)
    (hf : ∀ i : Nat, (i : Int) < j → ∀ H', Src H' a → Mov a H1 H' → ∀ Q' : VK, (∀ H'' z, Src H'' a → Mov a H' H'' → P i z → Q' (.str z) H'') → te (σ.set v (some (.int i))) H' Q')
    (hq : ∀ D H' (zs : List Str), H1 D = none → D ≠ a → Src H' a → Mov a H1 H' → H' D = some (.lst (zs.map V.str)) → zs.length = j.toNat → (∀ i z, zs[i]? = some z → P i z) → Q (.ref D) H') : LcBodyR (gName v) tYes te [v] σ Q [.int j] H1 := by
  refine ⟨j, rfl, by omega, by omega, ?_⟩
  intro Dr hD
  have hDa : Dr ≠ a := hS.ne hD
  have hxl : ((List.range j.toNat).map fun (i : Nat) => V.int (0 + (i : Int))).length = j.toNat := by rw [List.length_map, List.length_range]
  refine lc_y (xs := (List.range j.toNat).map fun (i : Nat) => V.int (0 + (i : Int))) (fun i H => Src H a ∧ Mov a H1 H ∧ ∃ zs : List Str, zs.length = i ∧ H Dr = some (.lst (zs.map V.str)) ∧ ∀ k z, zs[k]? = some z → P k z)
    ⟨hS.keep (same_new hD), Mov.of_same (same_new hD), [], rfl, upd_same, fun k z h => by simp at h⟩ (fun i H _ _ => yields_range 0 j.toNat i H) ?_ ?_
  · rintro i x H hi ⟨S, B, zs, hl, hz, hP⟩
    have hij : i < j.toNat := by have := (List.getElem?_eq_some_iff.mp hi).1; rw [hxl] at this; exact this
    have ex : x = .int (i : Int) := by
      rw [List.getElem?_map, List.getElem?_range hij] at hi
      have : V.int (0 + (i : Int)) = x := by simpa using hi
      rw [← this, Int.zero_add]
    subst ex
    have e1 : wipe σ [v] = σ.set v none := rfl
    rw [e1]
    have e2 : (σ.set v none).set v (some (.int (i : Int))) = σ.set v (some (.int (i : Int))) := by rw [List.set_set]
    have e3 : wipe (σ.set v (some (.int (i : Int)))) [v] = σ.set v none := by show (σ.set v (some _)).set v none = _; rw [List.set_set]
    unfold gName
    rw [e2]
    refine ⟨e3, ?_⟩
    unfold tYes
    dsimp only
    rw [if_pos rfl]
    refine hf i (by omega) H S B _ fun H'' z S2 b2 hp => ?_
    have B2 := B.trans b2
    refine ⟨zs.map V.str, b2 _ _ hz hDa, by rw [List.length_map, hl, sizeLine_eq]; omega, hS.off hD B2 S2, Mov.put hS hD B2, zs ++ [z], by rw [List.length_append, hl]; rfl, by rw [upd_same, map_snoc], fun k y hk => ?_⟩
    by_cases hlt : k < zs.length
    · rw [List.getElem?_append_left hlt] at hk
      exact hP k y hk
    · rw [List.getElem?_append_right (by omega)] at hk
      have hk0 : k = zs.length := by
        have := (List.getElem?_eq_some_iff.mp hk).1
        simp at this
        omega
      subst hk0
      have : z = y := by simpa using hk
      subst this
      rw [hl]
      exact hp
  · rintro H ⟨S, B, zs, hl, hz, hP⟩
    rw [hxl] at hl
    exact hq Dr H zs hD hDa S B hz hl hP
/-- [e for x in y]: the i-th value has P i, the heap only grows -/
theorem lcb_rel {K : PySem.W.Frag} {H1 : Hp} {σ : L2.St} {Q : VK} {v : Nat} {te : TE} {x : V} {xs : List V} (P : Nat → V → Hp → Prop) (hk : ∀ i y H H', P i y H → Same H H' → P i y H') (hu : ∀ i y H D zs ws, P i y H → H D = some (.lst zs) → P i y (upd H D (.lst ws))) (hx : Items K H1 x xs) (hl : xs.length ≤ 1000000)
    (hf : ∀ i x, xs[i]? = some x → ∀ H', Same H1 H' → ∀ Q' : VK, (∀ H'' y, Same H' H'' → P i y H'' → Q' y H'') → te (σ.set v (some x)) H' Q')
    (hq : ∀ D H' (ys : List V), H1 D = none → Same H1 H' → H' D = some (.lst ys) → ys.length = xs.length → (∀ i y, ys[i]? = some y → P i y H') → Q (.ref D) H') : LcBody K (gName v) tYes te [v] σ Q x H1 := by
  refine lcb_items hx fun J hy => ?_
  intro Dr hD
  refine lc_y (xs := xs) (fun i H => Same H1 H ∧ ∃ ys : List V, ys.length = i ∧ H Dr = some (.lst ys) ∧ ∀ k y, ys[k]? = some y → P k y H)
    ⟨same_new hD, [], rfl, upd_same, fun k z h => by simp at h⟩ (fun i H _ p => hy i H p.1) ?_ ?_
  · rintro i x H hi ⟨sm, ys, hl', hz, hP⟩
    have e1 : wipe σ [v] = σ.set v none := rfl
    rw [e1]
    have e2 : (σ.set v none).set v (some x) = σ.set v (some x) := by rw [List.set_set]
    have e3 : wipe (σ.set v (some x)) [v] = σ.set v none := by show (σ.set v (some _)).set v none = _; rw [List.set_set]
    unfold gName
    rw [e2]
    refine ⟨e3, ?_⟩
    unfold tYes
    dsimp only
    rw [if_pos rfl]
    refine hf i x hi H sm _ fun H'' y s2 hp => ?_
    have hil := (List.getElem?_eq_some_iff.mp hi).1
    have hz2 := s2 _ _ hz
    refine ⟨ys, hz2, by rw [hl', sizeLine_eq]; omega, fun b o e => ?_, ys ++ [y], by rw [List.length_append, hl']; rfl, upd_same, fun k u hk' => ?_⟩
    · rw [upd_ne (ne_of_none e hD)]
      exact s2 _ _ (sm _ _ e)
    · refine hu k u H'' Dr ys _ ?_ hz2
      by_cases hlt : k < ys.length
      · rw [List.getElem?_append_left hlt] at hk'
        exact hk k u H H'' (hP k u hk') s2
      · rw [List.getElem?_append_right (by omega)] at hk'
        have hk0 : k = ys.length := by
          have := (List.getElem?_eq_some_iff.mp hk').1
          simp at this
          omega
        subst hk0
        have : y = u := by simpa using hk'
        subst this
        rw [hl']
        exact hp
  · rintro H ⟨sm, ys, hl', hz, hP⟩
    exact hq Dr H ys hD sm hz hl' hP
theorem IsAll.ofIdx {H : Hp} : ∀ {ys : List V} {ds : List PyData}, ys.length = ds.length → (∀ (i : Nat) y d, ys[i]? = some y → ds[i]? = some d → Is H y d) → IsAll H ys ds
  | [], [], _, _ => .nil
  | [], _ :: _, h, _ => by simp at h
  | _ :: _, [], h, _ => by simp at h
  | y :: ys, d :: ds, h, f => .cons (f 0 y d rfl rfl) (IsAll.ofIdx (by simpa using h) fun i y d h1 h2 => f (i + 1) y d (by simpa using h1) (by simpa using h2))
/-! turnings -/
def IsTu (K : PySem.W.Frag) (H : Hp) (c : Addr) (ns : List Str) : Prop := ∃ dx q, H c = some (.ins (ga K "Turning") dx [("turned", .ref q)]) ∧ H q = some (.tup (ns.map V.str))
theorem IsTu.keep {K : PySem.W.Frag} {H H' : Hp} {c : Addr} {ns : List Str} (h : IsTu K H c ns) (s : Same H H') : IsTu K H' c ns := by
  obtain ⟨dx, q, h1, h2⟩ := h
  exact ⟨dx, q, s _ _ h1, s _ _ h2⟩
/-- a turning of the names is made, or refused -/
structure ChT (K : PySem.W.Frag) (zs : List Str) (H : Hp) (E : XK) (ok : Prop) : Prop where
  bad : ∀ z, badN zs = some z → ∀ H' d, Same H H' → H' d = some (.xd [("text", .str z)]) → E (.ref (ga K "BadName")) (some d) H'
  many : badN zs = none → (12 : Int) < ((srt zs).length : Int) → ∀ H' d, Same H H' → H' d = some (.xd [("limit", .int 12)]) → E (.ref (ga K "TooMany")) (some d) H'
  fine : badN zs = none → ((srt zs).length : Int) ≤ 12 → ok
theorem ChT.keep {K : PySem.W.Frag} {zs : List Str} {H H1 : Hp} {E : XK} {ok ok' : Prop} (h : ChT K zs H E ok) (s : Same H H1) (f : ok → ok') : ChT K zs H1 E ok' :=
  ⟨fun z e H' d s' => h.bad z e H' d (s.trans s'), fun e e2 H' d s' => h.many e e2 H' d (s.trans s'), fun e e2 => f (h.fine e e2)⟩
abbrev CkT (K : PySem.W.Frag) (zs : List Str) (H : Hp) (Q : VK) (E : XK) : Prop := ChT K zs H E (∀ H' c, Same H H' → H c = none → IsTu K H' c (srt zs) → Q (.ref c) H')
theorem CkT.keep {K : PySem.W.Frag} {zs : List Str} {H H1 : Hp} {Q : VK} {E : XK} (h : CkT K zs H Q E) (s : Same H H1) : CkT K zs H1 Q E := ChT.keep h s fun ok H' c s2 hc => ok H' c (s.trans s2) (same_un s hc)
theorem ckT_ok {K : PySem.W.Frag} {zs : List Str} {H : Hp} {Q : VK} {E : XK} (hn : ∀ z ∈ zs, isNm z = true) (hl : (srt zs).length ≤ 12) (h : ∀ H' c, Same H H' → H c = none → IsTu K H' c (srt zs) → Q (.ref c) H') : CkT K zs H Q E :=
  ⟨fun z e => by rw [badN_none hn] at e; (cases e), fun _ e => by omega, fun _ _ => h⟩
/-- names, in order, each once -/
structure Tn (ns : List Str) : Prop where
  nm : ∀ z ∈ ns, isNm z = true
  ord : Ord ns
  len : ns.length ≤ 12
theorem Tn.srt {ns : List Str} (h : Tn ns) : srt ns = ns := (srt_eq h.ord fun _ => Iff.rfl).symm
theorem Tn.of {zs : List Str} (hn : ∀ z ∈ zs, isNm z = true) (hl : (Rd.srt zs).length ≤ 12) : Tn (Rd.srt zs) := ⟨fun z h => hn z (mem_srt.mp h), ord_srt zs, hl⟩
theorem nm_short {z : Str} (h : isNm z = true) : z.length ≤ 8 := by obtain ⟨_, _, _, _, _, _, h8⟩ := nm_first h; exact h8
/-- the names that exactly one of the two has -/
def apartS (a b : List Str) : List Str := a.filter (fun z => !decide (z ∈ b)) ++ b.filter (fun z => !decide (z ∈ a))
theorem mem_apartS {a b : List Str} {z : Str} : z ∈ apartS a b ↔ (z ∈ a ∧ z ∉ b) ∨ (z ∈ b ∧ z ∉ a) := by simp [apartS, List.mem_filter]
theorem apartS_len (a b : List Str) : (apartS a b).length ≤ a.length + b.length := by
  unfold apartS
  rw [List.length_append]
  have h1 := List.length_filter_le (fun z => !decide (z ∈ b)) a
  have h2 := List.length_filter_le (fun z => !decide (z ∈ a)) b
  omega
/-- a literal turned -/
def turnL (ns : List Str) (z : Str) : Str := if bare z ∈ ns then flip z else z
theorem turnL_lit {ns : List Str} {z : Str} (h : isLit z = true) : isLit (turnL ns z) = true := by
  unfold turnL
  split
  · exact flip_lit h
  · exact h
theorem turnL_bare {ns : List Str} {z : Str} (h : isLit z = true) : bare (turnL ns z) = bare z := by
  unfold turnL
  split
  · exact flip_bare h
  · rfl
/-- a turning of the ordered names is made, or refused -/
def MkT (K : PySem.W.Frag) (ns : List Str) (H : Hp) (Q : VK) (E : XK) : Prop := (ns.length ≤ 12 → ∀ H' c, Same H H' → H c = none → IsTu K H' c ns → Q (.ref c) H') ∧ (12 < ns.length → ∀ H' d, Same H H' → H' d = some (.xd [("limit", .int 12)]) → E (.ref (ga K "TooMany")) (some d) H')
theorem MkT.keep {K : PySem.W.Frag} {ns : List Str} {H H1 : Hp} {Q : VK} {E : XK} (h : MkT K ns H Q E) (s : Same H H1) : MkT K ns H1 Q E := ⟨fun l H' c s2 hc => h.1 l H' c (s.trans s2) (same_un s hc), fun l H' d s2 => h.2 l H' d (s.trans s2)⟩
theorem MkT.ck {K : PySem.W.Frag} {zs : List Str} {H : Hp} {Q : VK} {E : XK} (hn : ∀ z ∈ zs, isNm z = true) (h : MkT K (srt zs) H Q E) : CkT K zs H Q E :=
  ⟨fun z e => by rw [badN_none hn] at e; (cases e), fun _ e => h.2 (by omega), fun _ e => h.1 (by omega)⟩
theorem MkT.fine {K : PySem.W.Frag} {ns : List Str} {H : Hp} {Q : VK} {E : XK} (hl : ns.length ≤ 12) (h : ∀ H' c, Same H H' → H c = none → IsTu K H' c ns → Q (.ref c) H') : MkT K ns H Q E := ⟨fun _ => h, fun l => by omega⟩
theorem srt_srt (zs : List Str) : srt (srt zs) = srt zs := srt_congr fun _ => mem_srt
theorem ord_filter {ns : List Str} (h : Ord ns) (p : Str → Bool) : Ord (ns.filter p) := List.Pairwise.filter p h
theorem srt_ord {ns : List Str} (h : Ord ns) : srt ns = ns := (srt_eq h fun _ => Iff.rfl).symm
theorem nm_ok {z : Str} (h : isNm z = true) : PyData.strOk z = true := lit_ok (nm_lit h)
/-- the text of a turning -/
def textT (ns : List Str) : Str := if ns.length = 0 then "0" else Txt.join " " ns
theorem cutV_from (l : List Str) (k : Nat) : cutV (l.map V.str) (some (k : Int)) none = (l.drop k).map V.str := by
  unfold cutV
  rw [HT.sIx_nat, HT.sIx_none, List.length_map, ← List.map_drop, ← List.map_take]
  congr 1
  by_cases h : k ≤ l.length
  · rw [Nat.min_eq_left h, List.take_of_length_le (by rw [List.length_drop]; exact Nat.le_refl _)]
  · rw [Nat.min_eq_right (by omega), List.drop_length, List.drop_of_length_le (by omega), List.take_nil]
theorem cutV_to (l : List Str) (k : Nat) : cutV (l.map V.str) none (some (k : Int)) = (l.take k).map V.str := by
  unfold cutV
  rw [HT.sIx_nat, HT.sIx_none, List.length_map, ← List.map_drop, ← List.map_take]
  congr 1
  rw [Nat.sub_zero, List.drop_zero]
  by_cases h : k ≤ l.length
  · rw [Nat.min_eq_left h]
  · rw [Nat.min_eq_right (by omega), List.take_length, List.take_of_length_le (by omega)]
theorem s_fromL {K : PySem.W.Frag} {H : Hp} {Q : VK} {a : Addr} {l : List Str} {i : Int} (ha : H a = some (.lst (l.map V.str))) (h0 : 0 ≤ i) (h : ∀ p H', Same H H' → H p = none → H' p = some (.lst ((l.drop i.toNat).map V.str)) → Q (.ref p) H') : rSlP K (.ref a) (some i) none H Q :=
  s_slL ha fun p hp => h p _ (same_new hp) hp (by
    rw [upd_same, ← cutV_from]
    congr 4
    omega)
theorem s_toL {K : PySem.W.Frag} {H : Hp} {Q : VK} {a : Addr} {l : List Str} {i : Int} (ha : H a = some (.lst (l.map V.str))) (h0 : 0 ≤ i) (h : ∀ p H', Same H H' → H p = none → H' p = some (.lst ((l.take i.toNat).map V.str)) → Q (.ref p) H') : rSlP K (.ref a) none (some i) H Q :=
  s_slL ha fun p hp => h p _ (same_new hp) hp (by
    rw [upd_same, ← cutV_to]
    congr 4
    omega)
theorem lst_data {K : PySem.W.Frag} {H : Hp} {q : Addr} {l : List Str} (h : H q = some (.lst (l.map V.str))) : Dp K H (.ref q) (.list (l.map .str)) := .lst (SqL.of h) (DpAll.strs l)
theorem eqv_lst (a b : List Str) : PyData.eqv (.list (a.map .str)) (.list (b.map .str)) = decide (a = b) := eqvAll_strs a b
theorem nm_not {z : Str} (h : isLit z = false) : isNm z = false := by
  cases e : isNm z with
  | false => rfl
  | true => rw [nm_lit e] at h; cases h
theorem neg_not {n : Str} : isNm (("-" : Str) ++ n) = false := by
  cases e : isNm (("-" : Str) ++ n) with
  | false => rfl
  | true =>
    have := nm_nodash e
    rw [dash_app] at this
    cases this
/-- what is due for a row of names -/
def dueT (zs : List Str) : PyData := match badN zs with
  | some z => .tuple [.str "name", .str z, .bool true]
  | none => if (12 : Int) < ((srt zs).length : Int) then .tuple [.str "many", .int 12, .bool true] else .tuple [.str "turning", .tuple ((srt zs).map .str), .bool true]
theorem dueT_bad {zs : List Str} {z : Str} (h : badN zs = some z) : dueT zs = .tuple [.str "name", .str z, .bool true] := by unfold dueT; rw [h]
theorem dueT_many {zs : List Str} (h : badN zs = none) (h3 : (12 : Int) < ((srt zs).length : Int)) : dueT zs = .tuple [.str "many", .int 12, .bool true] := by unfold dueT; rw [h]; dsimp only; rw [if_pos h3]
theorem dueT_ok {zs : List Str} (h : badN zs = none) (h3 : ¬ (12 : Int) < ((srt zs).length : Int)) : dueT zs = .tuple [.str "turning", .tuple ((srt zs).map .str), .bool true] := by unfold dueT; rw [h]; dsimp only; rw [if_neg h3]
theorem dueT_fits {zs : List Str} (hl : zs.length ≤ 1000) : Fits 4 (dueT zs) := by
  have h8 := srt_len zs
  unfold dueT
  split
  · exact fits3 trivial trivial trivial
  · split
    · exact fits3 trivial trivial trivial
    · refine fits3 trivial ⟨by rw [List.length_map]; omega, fun x hx => ?_⟩ trivial
      obtain ⟨z, _, rfl⟩ := List.mem_map.mp hx
      trivial
theorem is3 {H : Hp} {y : V} {t : Str} {d e : PyData} (h : Is H y (.tuple [.str t, d, e])) : ∃ q x2 x3, y = .ref q ∧ H q = some (.tup [.str t, x2, x3]) := by
  cases h with
  | tup h r =>
    cases r with
    | cons h1 r =>
      cases h1
      cases r with
      | cons h2 r =>
        cases r with
        | cons h3 r =>
          cases r
          exact ⟨_, _, _, rfl, h⟩
theorem badN_ok {zs : List Str} (h : badN zs = none) : ∀ z ∈ zs, isNm z = true := fun z hz => by
  have := List.find?_eq_none.mp h z hz
  cases e : isNm z with
  | true => rfl
  | false => rw [e] at this; exact absurd rfl this
theorem shaped_lst (l : List Str) (h : ∀ z ∈ l, PyData.strOk z = true) : SeqAt.shaped (.list (l.map .str)) = true := by
  unfold SeqAt.shaped
  have h1 : (PyData.list (l.map .str)).canLay0 = true := by
    have := canLayAll_strs l h
    simp [PyData.canLay0, this]
  have h2 : (PyData.list (l.map .str)).depth = 1 := by
    have := depthAll_strs l
    simp [PyData.depth, this]
  rw [h1, h2]
  rfl
theorem Row6.turn {zs : List Str} (h : Row6 zs) (ns : List Str) : Row6 (zs.map (turnL ns)) := ⟨by rw [List.length_map]; exact h.len, fun z hz => by
    obtain ⟨y, hy, rfl⟩ := List.mem_map.mp hz
    exact turnL_lit (h.lit y hy), by
    have e : (zs.map (turnL ns)).map bare = zs.map bare := by
      rw [List.map_map]
      exact List.map_congr_left fun z hz => turnL_bare (h.lit z hz)
    rw [e]
    exact h.nd⟩
theorem s_neB {K : PySem.W.Frag} {H : Hp} {Q : VK} {i j : Bool} (h : Q (.bl (!decide (i = j))) H) : rNeP K (.bl i) (.bl j) H Q := by
  show Q (.bl (!decide (V.bl i = V.bl j))) H
  rw [show decide (V.bl i = V.bl j) = decide (i = j) from by rw [Bool.eq_iff_iff]; simp]
  exact h
theorem flip_flip {z : Str} (h : isLit z = true) : flip (flip z) = z := by
  rcases same_name (flip_lit (flip_lit h)) h (by rw [flip_bare (flip_lit h), flip_bare h]) with e | e
  · exact e
  · exfalso
    have key : ∀ w : Str, isLit w = true → flip w ≠ w := fun w hw e => by
      unfold flip at e
      cases hd : dash w with
      | true =>
        rw [hd, if_pos rfl] at e
        have := len_toList (cutS w (some 1) none)
        have h2 := len_toList w
        rw [cut_tail, List.length_drop, e] at this
        obtain ⟨r, hr⟩ := (dash_iff w).mp hd
        rw [hr] at this h2
        simp at this h2
        omega
      | false =>
        rw [hd, if_neg Bool.false_ne_true] at e
        exact neg_ne w e.symm
    exact key _ (flip_lit h) e
theorem turnL_congr {a b : List Str} (h : ∀ x, x ∈ a ↔ x ∈ b) (z : Str) : turnL a z = turnL b z := by
  unfold turnL
  by_cases hb : bare z ∈ b
  · rw [if_pos ((h _).mpr hb), if_pos hb]
  · rw [if_neg (fun e => hb ((h _).mp e)), if_neg hb]
theorem turnL_twice {ns : List Str} {z : Str} (h : isLit z = true) : turnL ns (turnL ns z) = z := by
  have hb := turnL_bare (ns := ns) h
  by_cases e : bare z ∈ ns
  · have e1 : turnL ns z = flip z := if_pos e
    have e2 : turnL ns (turnL ns z) = flip (turnL ns z) := if_pos (by rw [hb]; exact e)
    rw [e2, e1, flip_flip h]
  · have e1 : turnL ns z = z := if_neg e
    rw [e1, e1]
theorem turnL_apart {a b : List Str} {z : Str} (h : isLit z = true) : turnL (apartS a b) z = turnL a (turnL b z) := by
  have hb := turnL_bare (ns := b) h
  have m := mem_apartS (a := a) (b := b) (z := bare z)
  by_cases e1 : bare z ∈ b
  · have h1 : turnL b z = flip z := if_pos e1
    by_cases e2 : bare z ∈ a
    · have h2 : turnL a (turnL b z) = flip (turnL b z) := if_pos (by rw [hb]; exact e2)
      rw [h2, h1, flip_flip h]
      exact if_neg (by rw [m]; rintro (⟨_, h⟩ | ⟨_, h⟩); exact h e1; exact h e2)
    · have h2 : turnL a (turnL b z) = turnL b z := if_neg (by rw [hb]; exact e2)
      rw [h2, h1]
      exact if_pos (m.mpr (.inr ⟨e1, e2⟩))
  · have h1 : turnL b z = z := if_neg e1
    rw [h1]
    by_cases e2 : bare z ∈ a
    · have h2 : turnL a z = flip z := if_pos e2
      rw [h2]
      exact if_pos (m.mpr (.inl ⟨e2, e1⟩))
    · have h2 : turnL a z = z := if_neg e2
      rw [h2]
      exact if_neg (by rw [m]; rintro (⟨h, _⟩ | ⟨h, _⟩); exact e2 h; exact e1 h)
theorem dueT_congr {a b : List Str} (ha : ∀ z ∈ a, isNm z = true) (h : ∀ x, x ∈ a ↔ x ∈ b) : dueT a = dueT b := by
  unfold dueT
  rw [badN_none ha, badN_none fun z hz => ha z ((h z).mpr hz), srt_congr h]
theorem srt_filter (zs : List Str) (p : Str → Bool) : (srt zs).filter p = srt (zs.filter p) := srt_eq (ord_filter (ord_srt zs) p) fun x => by simp [List.mem_filter, mem_srt]
theorem apartS_nodup {a b : List Str} (ha : a.Nodup) (hb : b.Nodup) : (apartS a b).Nodup := by
  unfold apartS
  refine List.nodup_append.mpr ⟨List.Pairwise.filter _ ha, List.Pairwise.filter _ hb, fun x hx y hy e => ?_⟩
  have h1 := (List.mem_filter.mp hx).1
  have h2 := (List.mem_filter.mp hy).2
  rw [← e] at h2
  simp [h1] at h2
theorem apartS_nm {a b : List Str} (ha : ∀ z ∈ a, isNm z = true) (hb : ∀ z ∈ b, isNm z = true) : ∀ z ∈ apartS a b, isNm z = true := fun z h => by
  rcases mem_apartS.mp h with ⟨h, _⟩ | ⟨h, _⟩
  · exact ha z h
  · exact hb z h
theorem apartS_congr {a b a' b' : List Str} (h1 : ∀ x, x ∈ a ↔ x ∈ a') (h2 : ∀ x, x ∈ b ↔ x ∈ b') : ∀ x, x ∈ apartS a b ↔ x ∈ apartS a' b' := fun x => by rw [mem_apartS, mem_apartS, h1, h2]
theorem neg_bad {z : Str} (h : isLit z = false) : isLit (("-" : Str) ++ z) = false := by
  show isNm (bare (("-" : Str) ++ z)) = false
  rw [bare_app]
  exact nm_not h
/-- a list of different names, at most 12 -/
structure Nms (zs : List Str) : Prop where
  len : zs.length ≤ 12
  nm : ∀ z ∈ zs, isNm z = true
  nd : zs.Nodup
theorem Nms.tn {zs : List Str} (h : Nms zs) : Tn (Rd.srt zs) := Tn.of h.nm (by have := srt_len zs; have := h.len; omega)
/-- a literal is a yes under the turning -/
def yesB (ns : List Str) (z : Str) : Bool := !decide ((!dash z) = decide (bare z ∈ ns))
theorem yesB_congr {a b : List Str} (h : ∀ x, x ∈ a ↔ x ∈ b) (z : Str) : yesB a z = yesB b z := by
  unfold yesB
  have : decide (bare z ∈ a) = decide (bare z ∈ b) := by rw [Bool.eq_iff_iff]; simp [h]
  rw [this]
theorem dash_flip {z : Str} (h : isLit z = true) : dash (flip z) = !dash z := by
  unfold flip
  cases hd : dash z with
  | true =>
    rw [if_pos rfl]
    have e : bare z = cutS z (some 1) none := by unfold bare; rw [if_pos hd]
    rw [← e]
    exact nm_nodash h
  | false =>
    rw [if_neg Bool.false_ne_true]
    exact dash_app z
theorem dash_turn {ns : List Str} {z : Str} (h : isLit z = true) : (!dash (turnL ns z)) = yesB ns z := by
  unfold turnL yesB
  by_cases e : bare z ∈ ns
  · rw [if_pos e, dash_flip h, decide_eq_true e]
    cases dash z <;> rfl
  · rw [if_neg e, decide_eq_false e]
    cases dash z <;> rfl
theorem Row6.sub {zs ys : List Str} (h : Row6 zs) (s : ys.Sublist zs) : Row6 ys := ⟨Nat.le_trans s.length_le h.len, fun z hz => h.lit z (s.subset hz), h.nd.sublist (s.map bare)⟩
theorem less_sub (zs : List Str) (k : Nat) : (zs.take k ++ zs.drop (k + 1)).Sublist zs := by
  have := List.Sublist.append (List.Sublist.refl (zs.take k)) (List.drop_sublist_drop_left zs (Nat.le_succ k))
  rw [List.take_append_drop] at this
  exact this
theorem IsTu.upd {K : PySem.W.Frag} {H : Hp} {c D : Addr} {ns : List Str} {zs ws : List V} (h : IsTu K H c ns) (hD : H D = some (.lst zs)) : IsTu K (L2.upd H D (.lst ws)) c ns := by
  obtain ⟨dx, q, h1, h2⟩ := h
  refine ⟨dx, q, ?_, ?_⟩
  · rw [upd_ne (fun e => by rw [e, hD] at h1; cases h1)]; exact h1
  · rw [upd_ne (fun e => by rw [e, hD] at h2; cases h2)]; exact h2
/-- the first name that exactly one has is in the second -/
def befB (a b : List Str) : Bool := match (srt (apartS a b)).head? with
  | some n => decide (n ∈ b)
  | none => false
theorem befB_congr {a b a' b' : List Str} (h1 : ∀ x, x ∈ a ↔ x ∈ a') (h2 : ∀ x, x ∈ b ↔ x ∈ b') : befB a b = befB a' b' := by
  unfold befB
  rw [srt_congr (apartS_congr h1 h2)]
  cases (srt (apartS a' b')).head? with
  | none => rfl
  | some n => dsimp only; rw [Bool.eq_iff_iff]; simp [h2]
theorem apartS_comm (a b : List Str) : ∀ x, x ∈ apartS a b ↔ x ∈ apartS b a := fun x => by rw [mem_apartS, mem_apartS]; exact Or.comm
theorem befB_tri (a b : List Str) : (!befB b a) = (befB a b || decide (srt a = srt b)) := by
  unfold befB
  rw [srt_congr (apartS_comm b a)]
  cases e : srt (apartS a b) with
  | nil =>
    have : srt a = srt b := srt_congr fun x => by
      have h : x ∉ apartS a b := fun h => by rw [← mem_srt, e] at h; cases h
      rw [mem_apartS] at h
      by_cases h1 : x ∈ a <;> by_cases h2 : x ∈ b <;> simp [h1, h2] at h ⊢
    simp [this]
  | cons n r =>
    have hn : n ∈ apartS a b := by rw [← mem_srt, e]; exact List.mem_cons_self
    have hne : srt a ≠ srt b := fun h => by
      have h1 : ∀ x, x ∈ a ↔ x ∈ b := fun x => by rw [← mem_srt, h, mem_srt]
      rcases mem_apartS.mp hn with ⟨h2, h3⟩ | ⟨h2, h3⟩
      · exact h3 ((h1 n).mp h2)
      · exact h3 ((h1 n).mpr h2)
    rcases mem_apartS.mp hn with ⟨h2, h3⟩ | ⟨h2, h3⟩ <;> simp [h2, h3, hne]
/-- the names that two at least turn -/
def medS (a b c : List Str) : List Str := (a.filter fun z => decide (z ∈ b) || decide (z ∈ c)) ++ b.filter fun z => decide (z ∈ c)
theorem mem_medS {a b c : List Str} {z : Str} : z ∈ medS a b c ↔ (z ∈ a ∧ (z ∈ b ∨ z ∈ c)) ∨ (z ∈ b ∧ z ∈ c) := by simp [medS, List.mem_filter]
theorem cutV_mid (l : List Str) (i j : Nat) : cutV (l.map V.str) (some (i : Int)) (some (j : Int)) = ((l.drop (min i l.length)).take (min j l.length - min i l.length)).map V.str := by
  unfold cutV
  rw [HT.sIx_nat, HT.sIx_nat, List.length_map, ← List.map_drop, ← List.map_take]
theorem s_midL {K : PySem.W.Frag} {H : Hp} {Q : VK} {a : Addr} {l : List Str} {i j : Int} (ha : H a = some (.lst (l.map V.str))) (h0 : 0 ≤ i) (h1 : 0 ≤ j) (h : ∀ p H', Same H H' → H p = none → H' p = some (.lst (((l.drop (min i.toNat l.length)).take (min j.toNat l.length - min i.toNat l.length)).map V.str)) → Q (.ref p) H') : rSlP K (.ref a) (some i) (some j) H Q :=
  s_slL ha fun p hp => h p _ (same_new hp) hp (by
    rw [upd_same, ← cutV_mid]
    congr 4 <;> omega)
theorem Nms.sub {l zs : List Str} (hn : ∀ z ∈ l, isNm z = true) (hd : l.Nodup) (s : zs.Sublist l) (hl : zs.length ≤ 12) : Nms zs := ⟨hl, fun z h => hn z (s.subset h), hd.sublist s⟩
theorem Nms.rev {zs : List Str} (h : Nms zs) : Nms zs.reverse := ⟨by rw [List.length_reverse]; exact h.len, fun z hz => h.nm z (List.mem_reverse.mp hz), List.pairwise_reverse.mpr (h.nd.imp Ne.symm)⟩
/-- three lists of names -/
structure Rows3 (H : Hp) (r : Addr) (rs : List Addr) (zss : List (List Str)) : Prop where
  at_ : H r = some (.lst (rs.map V.ref))
  lr : rs.length = 3
  lz : zss.length = 3
  row : ∀ i, i < 3 → ∃ q z, rs[i]? = some q ∧ zss[i]? = some z ∧ H q = some (.lst (z.map V.str)) ∧ Nms z
theorem Rows3.keep {H H' : Hp} {r : Addr} {rs : List Addr} {zss : List (List Str)} (h : Rows3 H r rs zss) (s : Same H H') : Rows3 H' r rs zss := ⟨s _ _ h.at_, h.lr, h.lz, fun i hi => by
  obtain ⟨q, z, h1, h2, h3, h4⟩ := h.row i hi
  exact ⟨q, z, h1, h2, s _ _ h3, h4⟩⟩
theorem Rows3.of {H : Hp} {r q0 q1 q2 : Addr} {z0 z1 z2 : List Str} (h : H r = some (.lst [.ref q0, .ref q1, .ref q2])) (h0 : H q0 = some (.lst (z0.map V.str))) (h1 : H q1 = some (.lst (z1.map V.str))) (h2 : H q2 = some (.lst (z2.map V.str))) (n0 : Nms z0) (n1 : Nms z1) (n2 : Nms z2) : Rows3 H r [q0, q1, q2] [z0, z1, z2] := ⟨h, rfl, rfl, fun i hi => by
  match i, hi with
  | 0, _ => exact ⟨_, _, rfl, rfl, h0, n0⟩
  | 1, _ => exact ⟨_, _, rfl, rfl, h1, n1⟩
  | 2, _ => exact ⟨_, _, rfl, rfl, h2, n2⟩⟩
/-! shares -/
/-- the divisor that makes a share plain -/
def dvS (t b : Int) : Int := if b < 0 then -((Nat.gcd t.natAbs b.natAbs : Nat) : Int) else ((Nat.gcd t.natAbs b.natAbs : Nat) : Int)
def ntS (t b : Int) : Int := t.fdiv (dvS t b)
def nbS (t b : Int) : Int := b.fdiv (dvS t b)
theorem gcd_pos {t b : Int} (h : b ≠ 0) : 0 < Nat.gcd t.natAbs b.natAbs := Nat.gcd_pos_of_pos_right _ (by omega)
theorem dvS_ne {t b : Int} (h : b ≠ 0) : dvS t b ≠ 0 := by
  have := gcd_pos (t := t) h
  unfold dvS
  split <;> omega
theorem dvS_abs (t b : Int) : (dvS t b).natAbs = Nat.gcd t.natAbs b.natAbs := by
  unfold dvS
  split <;> omega
theorem dvS_t (t b : Int) : dvS t b ∣ t := by rw [← Int.natAbs_dvd_natAbs, dvS_abs]; exact Nat.gcd_dvd_left _ _
theorem dvS_b (t b : Int) : dvS t b ∣ b := by rw [← Int.natAbs_dvd_natAbs, dvS_abs]; exact Nat.gcd_dvd_right _ _
theorem fdiv_mul {d n : Int} (h : d ≠ 0) : (d * n).fdiv d = n := Int.mul_fdiv_cancel_left n h
theorem ntS_mul {t b : Int} (h : b ≠ 0) : dvS t b * ntS t b = t := by
  obtain ⟨n, hn⟩ := dvS_t t b
  unfold ntS
  have e : t.fdiv (dvS t b) = n := by
    have := fdiv_mul (n := n) (dvS_ne (t := t) h)
    rw [← hn] at this
    exact this
  rw [e]
  exact hn.symm
theorem nbS_mul {t b : Int} (h : b ≠ 0) : dvS t b * nbS t b = b := by
  obtain ⟨n, hn⟩ := dvS_b t b
  unfold nbS
  have e : b.fdiv (dvS t b) = n := by
    have := fdiv_mul (n := n) (dvS_ne (t := t) h)
    rw [← hn] at this
    exact this
  rw [e]
  exact hn.symm
theorem le_mul_abs {d n m : Int} (h : d ≠ 0) (e : d * n = m) : n.natAbs ≤ m.natAbs := by
  rw [← e, Int.natAbs_mul]
  exact Nat.le_mul_of_pos_left _ (by omega)
theorem ntS_le {t b : Int} (h : b ≠ 0) : (ntS t b).natAbs ≤ t.natAbs := le_mul_abs (dvS_ne h) (ntS_mul h)
theorem nbS_le {t b : Int} (h : b ≠ 0) : (nbS t b).natAbs ≤ b.natAbs := le_mul_abs (dvS_ne h) (nbS_mul h)
theorem dvS_scale' {t b f : Int} (hb0 : b ≠ 0) (hf : f ≠ 0) : dvS (t * f) (b * f) = dvS t b * f := by
  unfold dvS
  rw [Int.natAbs_mul, Int.natAbs_mul, Nat.gcd_mul_right]
  have hg : ((Nat.gcd t.natAbs b.natAbs * f.natAbs : Nat) : Int) = ((Nat.gcd t.natAbs b.natAbs : Nat) : Int) * (f.natAbs : Int) := by rw [Int.natCast_mul]
  rw [hg]
  generalize ((Nat.gcd t.natAbs b.natAbs : Nat) : Int) = g
  rcases Int.lt_or_gt_of_ne hf with h | h
  · have e : ((f.natAbs : Nat) : Int) = -f := by omega
    rw [e]
    by_cases hb : b < 0
    · rw [if_pos hb, if_neg (by have := Int.mul_pos_of_neg_of_neg hb h; omega), Int.mul_neg, Int.neg_mul]
    · rw [if_neg hb, if_pos (Int.mul_neg_of_pos_of_neg (by omega) h), Int.mul_neg, Int.neg_neg]
  · have e : ((f.natAbs : Nat) : Int) = f := by omega
    rw [e]
    by_cases hb : b < 0
    · rw [if_pos hb, if_pos (Int.mul_neg_of_neg_of_pos hb h), Int.neg_mul]
    · rw [if_neg hb, if_neg (by have := Int.mul_nonneg (show 0 ≤ b by omega) (show 0 ≤ f by omega); omega)]
theorem ntS_scale {t b f : Int} (hb : b ≠ 0) (hf : f ≠ 0) : ntS (t * f) (b * f) = ntS t b := by
  unfold ntS
  rw [dvS_scale' hb hf]
  have h := ntS_mul (t := t) hb
  have e : t * f = (dvS t b * f) * ntS t b := by rw [Int.mul_right_comm, h]
  rw [e, fdiv_mul (Int.mul_ne_zero (dvS_ne hb) hf)]
  rfl
theorem nbS_scale {t b f : Int} (hb : b ≠ 0) (hf : f ≠ 0) : nbS (t * f) (b * f) = nbS t b := by
  unfold nbS
  rw [dvS_scale' hb hf]
  have h := nbS_mul (t := t) hb
  have e : b * f = (dvS t b * f) * nbS t b := by rw [Int.mul_right_comm, h]
  rw [e, fdiv_mul (Int.mul_ne_zero (dvS_ne hb) hf)]
  rfl
def IsSh (K : PySem.W.Frag) (H : Hp) (c : Addr) (n d : Int) : Prop := ∃ dx, H c = some (.ins (ga K "Share") dx [("top", .int n), ("bottom", .int d)])
theorem IsSh.keep {K : PySem.W.Frag} {H H' : Hp} {c : Addr} {n d : Int} (h : IsSh K H c n d) (s : Same H H') : IsSh K H' c n d := by
  obtain ⟨dx, h⟩ := h
  exact ⟨dx, s _ _ h⟩
/-- the text of a share -/
def textS (n d : Int) : Str := if d = 1 then Str.ofString (toString n) else Str.ofString (toString n) ++ "/" ++ Str.ofString (toString d)
theorem log_lt {a : Int} {k : Nat} (h : a.natAbs < 2 ^ k) (hk : 0 < k) : a.natAbs.log2 < k := by
  by_cases h0 : a.natAbs = 0
  · rw [h0]; exact hk
  · exact (Nat.log2_lt h0).mpr h
theorem txt_len {a : Int} (h : a.natAbs < 2 ^ 1000) : (Str.ofString (toString a)).length ≤ 10000 := by
  have e := int_text_length_le (k := 1920) (by decide) (Nat.lt_trans (log_lt h (by decide)) (by decide))
  rw [PySem.ofString_length]
  omega
theorem dvS_one (n : Int) : dvS n 1 = 1 := by
  unfold dvS
  rw [if_neg (by decide)]
  show ((Nat.gcd n.natAbs 1 : Nat) : Int) = 1
  rw [Nat.gcd_one_right]
  rfl
theorem ntS_one (n : Int) : ntS n 1 = n := by unfold ntS; rw [dvS_one]; exact Int.fdiv_one n
theorem nbS_one (n : Int) : nbS n 1 = 1 := by unfold nbS; rw [dvS_one]; exact Int.fdiv_one 1
/-- a share, or an int in its place -/
def ShV (K : PySem.W.Frag) (H : Hp) (y : V) (n d : Int) : Prop := (∃ b, y = .ref b ∧ IsSh K H b n d) ∨ (y = .int n ∧ d = 1)
theorem ShV.keep {K : PySem.W.Frag} {H H' : Hp} {y : V} {n d : Int} (h : ShV K H y n d) (s : Same H H') : ShV K H' y n d := h.imp (fun ⟨b, e, h⟩ => ⟨b, e, h.keep s⟩) id
/-- small enough -/
def Sm (i : Int) : Prop := i.natAbs < 2 ^ 1000
theorem Sm.mul {i j : Int} (a : Sm i) (b : Sm j) : CMulP i j := .inr (show i.natAbs.log2 + j.natAbs.log2 < 1000000 by have h1 := log_lt a (by decide); have h2 := log_lt b (by decide); omega)
theorem Sm.big {i j : Int} (a : Sm i) (b : Sm j) : (i * j).natAbs < 2 ^ 8000 := by
  rw [Int.natAbs_mul]
  calc i.natAbs * j.natAbs < 2 ^ 1000 * 2 ^ 1000 := Nat.mul_lt_mul'' a b
    _ = 2 ^ 2000 := by rw [← Nat.pow_add]
    _ < 2 ^ 8000 := Nat.pow_lt_pow_right (by decide) (by decide)
theorem nbS_ne {t b : Int} (h : b ≠ 0) : nbS t b ≠ 0 := fun e => by
  have := nbS_mul (t := t) h
  rw [e, Int.mul_zero] at this
  exact h this.symm
/-- sums and products of plain shares are those of the fractions -/
theorem sumS {p q r s : Int} (hq : q ≠ 0) (hs : s ≠ 0) (g : Int → Int → Int → Int → Int) (hg : ∀ a b c d x y : Int, g (x * a) (x * b) (y * c) (y * d) = g a b c d * (x * y)) : ntS (g (ntS p q) (nbS p q) (ntS r s) (nbS r s)) (nbS p q * nbS r s) = ntS (g p q r s) (q * s) ∧ nbS (g (ntS p q) (nbS p q) (ntS r s) (nbS r s)) (nbS p q * nbS r s) = nbS (g p q r s) (q * s) := by
  have h1 := ntS_mul (t := p) hq
  have h2 := nbS_mul (t := p) hq
  have h3 := ntS_mul (t := r) hs
  have h4 := nbS_mul (t := r) hs
  have hd := Int.mul_ne_zero (dvS_ne (t := p) hq) (dvS_ne (t := r) hs)
  have hn := Int.mul_ne_zero (nbS_ne (t := p) hq) (nbS_ne (t := r) hs)
  have e1 : g p q r s = g (ntS p q) (nbS p q) (ntS r s) (nbS r s) * (dvS p q * dvS r s) := by
    have := hg (ntS p q) (nbS p q) (ntS r s) (nbS r s) (dvS p q) (dvS r s)
    rw [h1, h2, h3, h4] at this
    exact this
  have e2 : q * s = nbS p q * nbS r s * (dvS p q * dvS r s) := by
    have : (dvS p q * nbS p q) * (dvS r s * nbS r s) = nbS p q * nbS r s * (dvS p q * dvS r s) := by ac_rfl
    rw [h2, h4] at this
    exact this
  rw [e1, e2, ntS_scale hn hd, nbS_scale hn hd]
  exact ⟨rfl, rfl⟩
def fAdd (a b c d : Int) : Int := a * d + c * b
def fMul (a _ c _ : Int) : Int := a * c
theorem fAdd_s (a b c d x y : Int) : fAdd (x * a) (x * b) (y * c) (y * d) = fAdd a b c d * (x * y) := by
  unfold fAdd
  rw [Int.add_mul]
  congr 1 <;> ac_rfl
theorem fMul_s (a b c d x y : Int) : fMul (x * a) (x * b) (y * c) (y * d) = fMul a b c d * (x * y) := by
  unfold fMul
  ac_rfl
theorem halfS {n d r s : Int} (hd : d ≠ 0) (hs : s ≠ 0) : ntS (n * nbS r s + ntS r s * d) (d * nbS r s) = ntS (n * s + r * d) (d * s) ∧ nbS (n * nbS r s + ntS r s * d) (d * nbS r s) = nbS (n * s + r * d) (d * s) := by
  have h3 := ntS_mul (t := r) hs
  have h4 := nbS_mul (t := r) hs
  have hD := dvS_ne (t := r) hs
  have hn := Int.mul_ne_zero hd (nbS_ne (t := r) hs)
  have e1 : n * s + r * d = (n * nbS r s + ntS r s * d) * dvS r s := by
    rw [Int.add_mul, Int.mul_assoc n, Int.mul_comm (nbS r s), h4, Int.mul_right_comm (ntS r s), Int.mul_comm (ntS r s), h3]
  have e2 : d * s = d * nbS r s * dvS r s := by rw [Int.mul_assoc, Int.mul_comm (nbS r s), h4]
  rw [e1, e2, ntS_scale hn hD, nbS_scale hn hD]
  exact ⟨rfl, rfl⟩
theorem Sm.nt {t b : Int} (h : Sm t) (hb : b ≠ 0) : Sm (ntS t b) := Nat.lt_of_le_of_lt (ntS_le hb) h
theorem Sm.nb {t b : Int} (h : Sm b) (hb : b ≠ 0) : Sm (nbS t b) := Nat.lt_of_le_of_lt (nbS_le hb) h
theorem Sm.neg {t : Int} (h : Sm t) : Sm (t * -1) := by unfold Sm; rw [Int.natAbs_mul]; show t.natAbs * 1 < _; rw [Nat.mul_one]; exact h
theorem Sm.one {t : Int} (h : Sm t) : Sm (t * 1) := by rw [Int.mul_one]; exact h
theorem sm1 : Sm 1 := Nat.one_lt_two_pow (by decide)
theorem smN : Sm (-1) := Nat.one_lt_two_pow (by decide)
/-- two shares, the second maybe an int -/
structure Two (K : PySem.W.Frag) (H : Hp) (a : Addr) (n d : Int) (y : V) (m e : Int) : Prop where
  A : IsSh K H a n d
  Y : ShV K H y m e
  sn : Sm n
  sd : Sm d
  sm : Sm m
  se : Sm e
  d0 : d ≠ 0
  e0 : e ≠ 0
theorem Two.keep {K : PySem.W.Frag} {H H' : Hp} {a : Addr} {n d : Int} {y : V} {m e : Int} (T : Two K H a n d y m e) (s : Same H H') : Two K H' a n d y m e := ⟨T.A.keep s, T.Y.keep s, T.sn, T.sd, T.sm, T.se, T.d0, T.e0⟩
section
variable {K : PySem.W.Frag} {H : Hp} {a : Addr} {n d : Int} {y : V} {m e : Int} {sp spr : Sp} {E : L2.St → XK} {base : R2} {σ : L2.St} {Q : VK}
theorem right_kind (hy : ShV K H y m e) : (∃ b dy gs, y = .ref b ∧ H b = some (.ins (ga K "Share") dy gs)) ∨ ∃ k, y = .int k := by
  rcases hy with ⟨b, rfl, db, b1⟩ | ⟨rfl, _⟩
  · exact .inl ⟨b, db, _, rfl, b1⟩
  · exact .inr ⟨m, rfl⟩
theorem mixF (T : Two K H a n d y m e) (h : sp [.ref a, y] H Q (E σ)) : Cl.rMix [(ga K "Share", sp, spr)] E base σ (.ref a) y H Q := by
  obtain ⟨dx, a1⟩ := T.A
  exact .inr ⟨0, _, _, _, rfl, .inl ⟨a, dx, _, rfl, a1, right_kind T.Y, h⟩⟩
theorem augF (T : Two K H a n d y m e) (h : sp [.ref a, y] H Q (E σ)) : Cl.rAug [(ga K "Share", sp, spr)] E base σ (.ref a) y H Q := by
  obtain ⟨dx, a1⟩ := T.A
  exact .inr ⟨0, _, _, _, a, dx, _, rfl, rfl, a1, right_kind T.Y, h⟩
theorem mixB (T : Two K H a n d y m e) (h1 : ∀ b, IsSh K H b m e → sp [.ref b, .ref a] H Q (E σ)) (h2 : y = .int m → spr [.ref a, .int m] H Q (E σ)) : Cl.rMix [(ga K "Share", sp, spr)] E base σ y (.ref a) H Q := by
  obtain ⟨dx, a1⟩ := T.A
  rcases T.Y with ⟨b, rfl, db, b1⟩ | ⟨rfl, _⟩
  · exact .inr ⟨0, _, _, _, rfl, .inl ⟨b, db, _, rfl, b1, .inl ⟨a, dx, _, rfl, a1⟩, h1 b ⟨db, b1⟩⟩⟩
  · exact .inr ⟨0, _, _, _, rfl, .inr ⟨m, a, dx, _, rfl, rfl, a1, h2 rfl⟩⟩
end
def fSub (a b c d : Int) : Int := a * d + (c * -1) * b
theorem fSub_s (a b c d x y : Int) : fSub (x * a) (x * b) (y * c) (y * d) = fSub a b c d * (x * y) := by
  unfold fSub
  rw [Int.add_mul]
  congr 1 <;> ac_rfl
theorem fSub_eq (p q r s : Int) : fSub p q r s = p * s - r * q := by
  unfold fSub
  rw [Int.mul_neg, Int.mul_one, Int.neg_mul]
  omega
/-- the share of the fraction t over b -/
def IsF (K : PySem.W.Frag) (H : Hp) (c : Addr) (t b : Int) : Prop := IsSh K H c (ntS t b) (nbS t b)
theorem IsF.keep {K : PySem.W.Frag} {H H' : Hp} {c : Addr} {t b : Int} (h : IsF K H c t b) (s : Same H H') : IsF K H' c t b := IsSh.keep h s
/-- a fraction's numbers are small -/
structure Fra (t b : Int) : Prop where
  b0 : b ≠ 0
  ht : t.natAbs < 10 ^ 40
  hb : b.natAbs < 10 ^ 40
theorem p40 : (10 : Nat) ^ 40 < 2 ^ 140 := by decide +kernel
theorem sm_of {i : Int} (h : i.natAbs < 10 ^ 40) : Sm i := Nat.lt_trans (Nat.lt_trans h p40) (Nat.pow_lt_pow_right (by decide) (by decide))
theorem small_mul {i j : Int} (h : i.natAbs < 10 ^ 40) (g : j.natAbs < 10 ^ 40) : (i * j).natAbs < 2 ^ 280 := by
  rw [Int.natAbs_mul]
  calc i.natAbs * j.natAbs < 2 ^ 140 * 2 ^ 140 := Nat.mul_lt_mul'' (Nat.lt_trans h p40) (Nat.lt_trans g p40)
    _ = 2 ^ 280 := by rw [← Nat.pow_add]
theorem lt300 {i : Int} (h : i.natAbs < 2 ^ 280) : i.natAbs < 2 ^ 300 := Nat.lt_trans h (Nat.pow_lt_pow_right (by decide) (by decide))
/-- the second: a share of the fraction, or an int over one -/
def VF (K : PySem.W.Frag) (H : Hp) (y : V) (t b : Int) : Prop := (∃ c, y = .ref c ∧ IsF K H c t b) ∨ (y = .int t ∧ b = 1)
theorem VF.keep {K : PySem.W.Frag} {H H' : Hp} {y : V} {t b : Int} (h : VF K H y t b) (s : Same H H') : VF K H' y t b := h.imp (fun ⟨c, e, h⟩ => ⟨c, e, h.keep s⟩) id
theorem two_of {K : PySem.W.Frag} {H : Hp} {a : Addr} {y : V} {p q r s : Int} (hA : IsF K H a p q) (hY : VF K H y r s) (f : Fra p q) (g : Fra r s) : Two K H a (ntS p q) (nbS p q) y (ntS r s) (nbS r s) := by
  refine ⟨hA, ?_, (sm_of f.ht).nt f.b0, (sm_of f.hb).nb f.b0, (sm_of g.ht).nt g.b0, (sm_of g.hb).nb g.b0, nbS_ne f.b0, nbS_ne g.b0⟩
  rcases hY with ⟨c, e, h⟩ | ⟨e, rfl⟩
  · exact .inl ⟨c, e, h⟩
  · exact .inr ⟨by rw [ntS_one]; exact e, nbS_one r⟩
/-- what is no list stands -/
def Old (H H' : Hp) : Prop := ∀ b o, H b = some o → (∀ xs, o ≠ .lst xs) → H' b = some o
theorem Old.refl (H : Hp) : Old H H := fun _ _ h _ => h
theorem Old.trans {H H1 H2 : Hp} (a : Old H H1) (b : Old H1 H2) : Old H H2 := fun c o h n => b c o (a c o h n) n
theorem Same.old {H H1 : Hp} (s : Same H H1) : Old H H1 := fun c o h _ => s c o h
theorem Mov.old {H H1 : Hp} {a : Addr} (m : Mov a H H1) (S : Src H a) : Old H H1 := fun c o h n => m c o h (by
  obtain ⟨_, _, _, _, _, _, h1, _⟩ := S
  exact fun e => n _ (Option.some.inj ((e ▸ h).symm.trans h1)))
theorem old_put {H : Hp} {q : Addr} {xs ys : List V} (h : H q = some (.lst xs)) : Old H (upd H q (.lst ys)) := fun c o hc n => by
  rw [upd_ne (fun e => n xs (Option.some.inj ((e ▸ hc).symm.trans h)))]
  exact hc
theorem IsF.old {K : PySem.W.Frag} {H H' : Hp} {c : Addr} {t b : Int} (h : IsF K H c t b) (s : Old H H') : IsF K H' c t b := by
  obtain ⟨dx, h⟩ := h
  exact ⟨dx, s _ _ h fun xs e => by cases e⟩
/-- a pair of ints with a positive bottom -/
structure PrP (H : Hp) (a p : Addr) (t b : Int) : Prop where
  ne : p ≠ a
  at_ : H p = some (.tup [.int t, .int b])
  f : Fra t b
  pos : 0 < b
theorem PrP.mov {H H' : Hp} {a p : Addr} {t b : Int} (h : PrP H a p t b) (m : Mov a H H') : PrP H' a p t b := ⟨h.ne, m _ _ h.at_ h.ne, h.f, h.pos⟩
theorem PrP.keep {H H' : Hp} {a p : Addr} {t b : Int} (h : PrP H a p t b) (m : Same H H') : PrP H' a p t b := ⟨h.ne, m _ _ h.at_, h.f, h.pos⟩
theorem dvS_pos {t b : Int} (h : 0 < b) : 0 < dvS t b := by
  have := gcd_pos (t := t) (b := b) (by omega)
  unfold dvS
  rw [if_neg (by omega)]
  omega
theorem nbS_pos {t b : Int} (h : 0 < b) : 0 < nbS t b := by
  have h1 := nbS_mul (t := t) (b := b) (by omega)
  have h2 := dvS_pos (t := t) h
  rw [← h1, Int.mul_comm] at h
  exact Int.pos_of_mul_pos_left h h2
theorem ltS {p q r s : Int} (hq : 0 < q) (hs : 0 < s) : (ntS p q * nbS r s < ntS r s * nbS p q) ↔ (p * s < r * q) := by
  have h1 := ntS_mul (t := p) (b := q) (by omega)
  have h2 := nbS_mul (t := p) (b := q) (by omega)
  have h3 := ntS_mul (t := r) (b := s) (by omega)
  have h4 := nbS_mul (t := r) (b := s) (by omega)
  have hd := Int.mul_pos (dvS_pos (t := p) hq) (dvS_pos (t := r) hs)
  have e1 : p * s = (dvS p q * dvS r s) * (ntS p q * nbS r s) := by
    have : (dvS p q * ntS p q) * (dvS r s * nbS r s) = (dvS p q * dvS r s) * (ntS p q * nbS r s) := by ac_rfl
    rw [h1, h4] at this
    exact this
  have e2 : r * q = (dvS p q * dvS r s) * (ntS r s * nbS p q) := by
    have : (dvS r s * ntS r s) * (dvS p q * nbS p q) = (dvS p q * dvS r s) * (ntS r s * nbS p q) := by ac_rfl
    rw [h3, h2] at this
    exact this
  rw [e1, e2]
  exact (Int.mul_lt_mul_left hd).symm
theorem eqS {p q r s : Int} (hq : 0 < q) (hs : 0 < s) : (ntS p q = ntS r s ∧ nbS p q = nbS r s) ↔ (p * s = r * q) := by
  constructor
  · rintro ⟨h1, h2⟩
    have a := ltS (p := p) (r := r) hq hs
    have b := ltS (p := r) (r := p) hs hq
    rw [h1, h2] at a b
    have h3 : ¬ p * s < r * q := fun z => by have := a.mpr z; omega
    have h4 : ¬ r * q < p * s := fun z => by have := b.mpr z; omega
    omega
  · intro h
    have a1 := ntS_scale (t := p) (b := q) (f := s) (by omega) (by omega)
    have a2 := nbS_scale (t := p) (b := q) (f := s) (by omega) (by omega)
    have b1 := ntS_scale (t := r) (b := s) (f := q) (by omega) (by omega)
    have b2 := nbS_scale (t := r) (b := s) (f := q) (by omega) (by omega)
    rw [h, Int.mul_comm q s] at a1 a2
    exact ⟨a1.symm.trans b1, a2.symm.trans b2⟩
theorem negS {t b : Int} (h : b ≠ 0) : ntS (-ntS t b) (nbS t b) = ntS (-t) b ∧ nbS (-ntS t b) (nbS t b) = nbS (-t) b := by
  have h1 := ntS_mul (t := t) h
  have h2 := nbS_mul (t := t) h
  have e1 : -t = -ntS t b * dvS t b := by rw [Int.neg_mul, Int.mul_comm, h1]
  have e2 : b = nbS t b * dvS t b := by rw [Int.mul_comm, h2]
  have hn := nbS_ne (t := t) h
  have hd := dvS_ne (t := t) h
  have a := ntS_scale (t := -ntS t b) hn hd
  have c := nbS_scale (t := -ntS t b) hn hd
  rw [← e1, ← e2] at a c
  exact ⟨a.symm, c.symm⟩
theorem absS {t b : Int} (h : 0 < b) : ntS (if ntS t b < 0 then -ntS t b else ntS t b) (nbS t b) = ntS (if t < 0 then -t else t) b ∧ nbS (if ntS t b < 0 then -ntS t b else ntS t b) (nbS t b) = nbS (if t < 0 then -t else t) b := by
  have hb : b ≠ 0 := by omega
  have h1 := ntS_mul (t := t) hb
  have h2 := nbS_mul (t := t) hb
  have hd := dvS_pos (t := t) h
  have hn := nbS_ne (t := t) hb
  by_cases hs : ntS t b < 0
  · have ht : t < 0 := by rw [← h1]; exact Int.mul_neg_of_pos_of_neg hd hs
    rw [if_pos hs, if_pos ht]
    exact negS hb
  · have ht : ¬ t < 0 := by
      have : 0 ≤ dvS t b * ntS t b := Int.mul_nonneg (by omega) (by omega)
      omega
    rw [if_neg hs, if_neg ht]
    have a := ntS_scale (t := ntS t b) (f := dvS t b) hn (by omega)
    have c := nbS_scale (t := ntS t b) (f := dvS t b) hn (by omega)
    rw [Int.mul_comm, h1, Int.mul_comm (nbS t b), h2] at a c
    exact ⟨a.symm, c.symm⟩
theorem ntS_zero {b : Int} (h : b ≠ 0) : ntS 0 b = 0 := by
  have := ntS_mul (t := 0) h
  rcases Int.mul_eq_zero.mp this with z | z
  · exact absurd z (dvS_ne h)
  · exact z
theorem ntS_ne {t b : Int} (h : b ≠ 0) (ht : t ≠ 0) : ntS t b ≠ 0 := fun z => by
  have := ntS_mul (t := t) h
  rw [z, Int.mul_zero] at this
  exact ht this.symm
theorem zeroS {t b : Int} (h : b ≠ 0) : decide (ntS t b = 0) = decide (t = 0) := by
  by_cases ht : t = 0
  · rw [ht, ntS_zero h]
  · rw [decide_eq_false ht, decide_eq_false (ntS_ne h ht)]
/-- the same fraction with the other signs -/
theorem flipS {t b : Int} (h : b ≠ 0) : ntS (-t) (-b) = ntS t b ∧ nbS (-t) (-b) = nbS t b := by
  have a := ntS_scale (t := t) (b := b) (f := -1) h (by decide)
  have c := nbS_scale (t := t) (b := b) (f := -1) h (by decide)
  rw [Int.mul_neg, Int.mul_one, Int.mul_neg, Int.mul_one] at a c
  exact ⟨a, c⟩
end Rd
namespace Rd
open PySem PySem.Spec PyProof.Rows L2 He Px
def sp_law_source (K : PySem.W.Frag) : Sp := Sp1 fun x H Q _ => ∃ (a : Addr) (ns : List Int), x = .ref a ∧ SqL K H a (ns.map V.int) ∧ ns.length ≤ 100 ∧ ∀ H' p, Same H H' → H p = none → Src H' p → Q (.ref p) H'
def N_law_source : List PySem.Str := ["_law_script"]
def t_law_source (K : PySem.W.Frag) (W : WX) : TS := (tRet (tLst (tCons (tCB (rListP K) (tCons (tVar 0) tNil)) (tCons (tC (.int 0)) (tCons (tC (.int 0)) (tCons (tC (.int 0)) (tCons (tC (.int 0)) tNil)))))))
theorem pure_law_source {K : PySem.W.Frag} {vs : List V} {H : Hp} {Q : VK} {E : XK} {W : WX} (h : sp_law_source K vs H Q E) : t_law_source K W { nx := fun _ H' => Q .non H', rt := Q } (start N_law_source vs) H := by
  obtain ⟨x, rfl, a, ns, rfl, hS, hl, hq⟩ := h
  show t_law_source K W _ [some (.ref a)] H
  unfold t_law_source
  walk_at "ss"
  refine s_listL hS fun l hl0 => ?_
  walk_at "ss"
  refine ⟨by show 5 ≤ sizeLine; rw [sizeLine_eq]; decide, fun p hp => ?_⟩
  have s1 := same_new (o := .lst (ns.map V.int)) hl0
  refine hq _ p (s1.trans (same_new hp)) (s1.free hp) ⟨l, ns, 0, 0, 0, 0, upd_same, ?_, by decide, hl⟩
  rw [upd_ne (ne_of_none (H := upd H l (.lst (ns.map V.int))) upd_same hp)]
  exact upd_same
def sp_law_take (K : PySem.W.Frag) : Sp := Sp2 fun x y H Q _ => ∃ (a : Addr) (m : Int), x = .ref a ∧ y = .int m ∧ Src H a ∧ 0 < m ∧ m.natAbs.log2 < 9000 ∧ ∀ H' (r : Int), Src H' a → Mov a H H' → 0 ≤ r → r < m → Q (.int r) H'
def N_law_take : List PySem.Str := ["_law_source_here", "_law_many", "_law_mixed", "_law_cell", "_law_value"]
def t_law_take (K : PySem.W.Frag) (W : WX) : TS := (tCut (tIfS (tTest (tOp (rEqP K) (tOp (rIxP K) (tVar 0) (tC (.int 3))) (tC (.int 0)))) (tCut (tIfS (tTest (tOp rGeP (tOp (rIxP K) (tVar 0) (tC (.int 1))) (tCB (rLenP K) (tCons (tOp (rIxP K) (tVar 0) (tC (.int 0))) tNil)))) (tRet (tC (.int 0))) tNext)
    (tSeq (tAsg (tCB rIntP (tCons (tOp (rIxP K) (tOp (rIxP K) (tVar 0) (tC (.int 0))) (tOp (rIxP K) (tVar 0) (tC (.int 1)))) tNil)) (gName 3))
    (tSeq (tAsg (tOp (rAddP K) (tOp (rIxP K) (tVar 0) (tC (.int 1))) (tC (.int 1))) (gSub (tVar 0) (tC (.int 1)) rSetP))
    (tSeq (tAsg (tVar 3) (gSub (tVar 0) (tC (.int 2)) rSetP))
    (tSeq (tAsg (tC (.int 4)) (gSub (tVar 0) (tC (.int 3)) rSetP))
    (tSeq (tAsg (tC (.int 0)) (gSub (tVar 0) (tC (.int 4)) rSetP))
    (tIfS (tTest (tOp rGeP (tVar 3) (tOp rPowP (tC (.int 10)) (tC (.int 18))))) (tSeq (tAsg (tC (.int 60)) (gSub (tVar 0) (tC (.int 3)) rSetP))
    (tAsg (tC (.int 1)) (gSub (tVar 0) (tC (.int 4)) rSetP))) tNext))))))) tNext)
    (tSeq (tAsg (tOp rSubP (tOp (rIxP K) (tVar 0) (tC (.int 3))) (tC (.int 1))) (gSub (tVar 0) (tC (.int 3)) rSetP))
    (tCut (tIfS (tTest (tOp (rEqP K) (tOp (rIxP K) (tVar 0) (tC (.int 4))) (tC (.int 1)))) (tSeq (tAsg (tOp rModP (tCB rIntP (tCons (tOp (rIxP K) (tVar 0) (tC (.int 2))) tNil)) (tVar 1)) (gName 4))
    (tSeq (tAsg (tOp rFdivP (tOp (rIxP K) (tVar 0) (tC (.int 2))) (tVar 1)) (gSub (tVar 0) (tC (.int 2)) rSetP))
    (tCut (tIfS (tTest (tOp (rEqP K) (tOp (rIxP K) (tVar 0) (tC (.int 2))) (tC (.int 0)))) (tAsg (tC (.int 0)) (gSub (tVar 0) (tC (.int 3)) rSetP)) tNext)
    (tRet (tVar 4))))) tNext)
    (tSeq (tAsg (tOp rModP (tCB rIntP (tCons (tOp (rAddP K) (tOp (rAddP K) (tOp rMulP (tOp (rIxP K) (tVar 0) (tC (.int 2))) (tC (.int 48271))) (tOp rMulP (tOp (rIxP K) (tVar 0) (tC (.int 3))) (tC (.int 69621)))) (tC (.int 11))) tNil)) (tC (.int 2147483647))) (gName 2))
    (tSeq (tAsg (tOp rModP (tCB rIntP (tCons (tOp (rAddP K) (tOp (rAddP K) (tOp rMulP (tVar 2) (tC (.int 16807))) (tOp rMulP (tOp (rIxP K) (tVar 0) (tC (.int 3))) (tC (.int 7919)))) (tC (.int 5))) tNil)) (tC (.int 2147483629))) (gName 2))
    (tRet (tOp rModP (tCB rIntP (tCons (tVar 2) tNil)) (tVar 1))))))))
theorem pure_law_take {K : PySem.W.Frag} {vs : List V} {H : Hp} {Q : VK} {E : XK} {W : WX} (h : sp_law_take K vs H Q E) : t_law_take K W { nx := fun _ H' => Q .non H', rt := Q } (start N_law_take vs) H := by
  obtain ⟨x, y, rfl, a, m, rfl, rfl, ⟨c, cells, i, cur, cnt, mode, ha, hc, hi, hl⟩, hm, hm2, hq⟩ := h
  show t_law_take K W _ [some (.ref a), some (.int m), none, none, none] H
  unfold t_law_take
  have hca : c ≠ a := by
    intro e
    rw [e, ha] at hc
    have e2 := Option.some.inj hc
    injection e2 with e3
    have e4 := congrArg List.head? e3
    cases cells with
    | nil => cases e4
    | cons z r => cases e4
  refine s_cut (fun σ' H' => ∃ (i' cur' cnt' mode' : Int) (v3 : Option V), σ' = [some (.ref a), some (.int m), none, v3, none] ∧ H' a = some (.lst [.ref c, .int i', .int cur', .int cnt', .int mode']) ∧ But a H H' ∧ 0 ≤ i') ?_ ?_
  · walk_at "sl"
    refine s_itd (fun e0 => ?_) (fun e0 => ?_)
    · refine s_nocut ?_
      walk_at "sl"
      refine s_lenL hc ?_
      walk_at "sl"
      refine s_itd (fun e1 => ?_) (fun e1 => ?_)
      · walk_at "sl"
        exact hq H 0 ⟨c, cells, i, cur, cnt, mode, ha, hc, hi, hl⟩ (Mov.refl _ _) (by decide) hm
      · obtain ⟨z, hz⟩ := atI_cells hi e1
        walk_at "sl"
        refine s_ixL hc hz ?_
        walk_at "sl"
        refine s_in2 (by exact ⟨by decide, by decide, by decide⟩) ?_
        walk_at "sl"
        refine s_itd (fun e2 => ?_) (fun e2 => ?_)
        · walk_at "sl"
          exact ⟨_, _, _, _, _, rfl, upd_same, But.upd, by omega⟩
        · walk_at "sl"
          exact ⟨_, _, _, _, _, rfl, upd_same, But.upd, by omega⟩
    · walk_at "sl"
      exact ⟨_, _, _, _, _, rfl, ha, But.refl _ _, hi⟩
  · rintro σ' H' ⟨i', cur', cnt', mode', v3, rfl, ha', hb, hi'⟩
    have hc' := hb _ _ hc hca
    walk_at "sl"
    have fin : ∀ (i2 cur2 cnt2 mode2 r : Int), 0 ≤ i2 → 0 ≤ r → r < m → Q (.int r) (upd H' a (.lst [.ref c, .int i2, .int cur2, .int cnt2, .int mode2])) := fun i2 cur2 cnt2 mode2 r h2 h3 h4 =>
      hq _ r ⟨c, cells, i2, cur2, cnt2, mode2, upd_same, by rw [upd_ne hca]; exact hc', h2, hl⟩ (Mov.of (hb.trans But.upd) ha upd_same) h3 h4
    have hmod : ∀ z : Int, 0 ≤ z.fmod m ∧ z.fmod m < m := fun z => ⟨Int.fmod_nonneg_of_pos z hm, Int.fmod_lt_of_pos z hm⟩
    refine s_nocut ?_
    walk_at "sl"
    refine s_itd (fun e0 => ?_) (fun e0 => ?_)
    · walk_at "sl"
      refine s_in2 (by omega) ?_
      walk_at "sl"
      refine s_in2 ⟨by omega, hm2⟩ ?_
      walk_at "sl"
      refine s_nocut ?_
      walk_at "sl"
      refine s_itd (fun e1 => ?_) (fun e1 => ?_)
      · walk_at "sl"
        exact fin _ _ _ _ _ hi' (hmod _).1 (hmod _).2
      · walk_at "sl"
        exact fin _ _ _ _ _ hi' (hmod _).1 (hmod _).2
    · walk_at "sl"
      refine s_in2 (.inl (.inr ⟨by decide, by decide⟩)) ?_
      walk_at "sl"
      refine s_in2 (.inl (.inr ⟨by decide, by decide⟩)) ?_
      walk_at "sl"
      refine s_in2 (by decide) ?_
      walk_at "sl"
      refine s_in2 (.inl (.inr ⟨by decide, by decide⟩)) ?_
      walk_at "sl"
      refine s_in2 (.inl (.inr ⟨by decide, by decide⟩)) ?_
      walk_at "sl"
      refine s_in2 (by decide) ?_
      walk_at "sl"
      refine s_in2 (by omega) ?_
      exact fin _ _ _ _ _ hi' (hmod _).1 (hmod _).2
theorem take_ok {K : PySem.W.Frag} {a : Addr} {m : Int} {H : Hp} {Q : VK} {E : XK} (S : Src H a) (h0 : 0 < m) (h1 : m ≤ 1000000000000000) (hq : ∀ H' (r : Int), Src H' a → Mov a H H' → 0 ≤ r → r < m → Q (.int r) H') : sp_law_take K [.ref a, .int m] H Q E :=
  ⟨_, _, rfl, a, m, rfl, rfl, S, h0, lg h0 h1, hq⟩
end Rd
namespace Rd
open PySem PySem.Spec PyProof.Rows L2 He Px
def sp_Share_init (K : PySem.W.Frag) : Sp := Sp3 fun x y w H Q E => ∃ (c dx : Addr) (t b : Int), x = .ref c ∧ y = .int t ∧ w = .int b ∧ H c = some (.ins (ga K "Share") dx []) ∧ b.natAbs < 2 ^ 8000 ∧ (b = 0 → E (.ref (ga K "ZeroBelow")) none H) ∧ (b ≠ 0 → Q .non (upd H c (.ins (ga K "Share") dx [("top", .int (ntS t b)), ("bottom", .int (nbS t b))])))
def N_Share_init : List PySem.Str := ["self", "top", "bottom", "divisor"]
def t_Share_init (K : PySem.W.Frag) (W : WX) : TS := (tCut (tIfS (tTest (tOp (rEqP K) (tVar 2) (tC (.int 0)))) (tRaiseE0 (ga K "ZeroBelow") W) tNext)
    (tSeq (tAsg (tCB rGcd (tCons (tVar 1) (tCons (tVar 2) tNil))) (gName 3))
    (tCut (tIfS (tTest (tOp rLtP (tVar 2) (tC (.int 0)))) (tAsg (tUn (rU fun i => .int (-i)) (tVar 3)) (gName 3)) tNext)
    (tSeq (Cl.sAtt [ga K "Share"] (tVar 0) (tOp rFdivP (tVar 1) (tVar 3)) "top")
    (Cl.sAtt [ga K "Share"] (tVar 0) (tOp rFdivP (tVar 2) (tVar 3)) "bottom")))))
abbrev spV_Share_init (K : PySem.W.Frag) : Sp := Cl.spD [.int 1] (sp_Share_init K)
theorem pure_Share_init {K : PySem.W.Frag} {vs : List V} {H : Hp} {Q : VK} {E : XK} (h : sp_Share_init K vs H Q E) : t_Share_init K (fun cls d _ H => E cls d H) { nx := fun _ H' => Q .non H', rt := Q } (start N_Share_init vs) H := by
  obtain ⟨x, y, w, rfl, c, dx, t, b, rfl, rfl, rfl, hc, hb, he, hq⟩ := h
  show t_Share_init K _ _ [some (.ref c), some (.int t), some (.int b), none] H
  unfold t_Share_init
  refine s_nocut ?_
  walk_at "ss"
  refine s_itd (fun e => he e) (fun e => ?_)
  have hD := dvS_ne (t := t) e
  have hA := dvS_abs t b
  have hG : (dvS t b).natAbs.log2 < 9000 := by
    refine Nat.lt_trans (log_lt (k := 8000) ?_ (by decide)) (by decide)
    rw [hA]
    exact Nat.lt_of_le_of_lt (Nat.gcd_le_right _ (by omega)) hb
  walk_at "ss"
  refine s_gcd ?_
  walk_at "ss"
  refine s_cut (fun σ' H' => H' = H ∧ σ' = [some (.ref c), some (.int t), some (.int b), some (.int (dvS t b))]) ?_ ?_
  · unfold dvS
    walk_at "ss"
    refine s_itd (fun e2 => ?_) (fun e2 => ?_)
    · walk_at "ss"
      rw [if_pos e2]
      exact ⟨rfl, rfl⟩
    · walk_at "ss"
      rw [if_neg e2]
      exact ⟨rfl, rfl⟩
  rintro σ' H' ⟨rfl, rfl⟩
  walk_at "ss"
  refine s_in2 ⟨hD, hG⟩ ?_
  walk_at "ss"
  refine ⟨c, _, dx, [], rfl, List.mem_singleton.mpr rfl, hc, by decide, ?_⟩
  walk_at "ss"
  refine s_in2 ⟨hD, hG⟩ ?_
  walk_at "ss"
  refine ⟨c, _, dx, _, rfl, List.mem_singleton.mpr rfl, upd_same, by show 1 < 1000; decide, ?_⟩
  have := hq e
  rw [show upd (upd H' c (.ins (ga K "Share") dx (putF "top" (.int (t.fdiv (dvS t b))) []))) c (.ins (ga K "Share") dx (putF "bottom" (.int (b.fdiv (dvS t b))) (putF "top" (.int (t.fdiv (dvS t b))) []))) = upd H' c (.ins (ga K "Share") dx [("top", .int (ntS t b)), ("bottom", .int (nbS t b))]) from ?_]
  · exact this
  · funext a
    by_cases h : a = c
    · rw [h, upd_same, upd_same]; rfl
    · rw [upd_ne h, upd_ne h, upd_ne h]
theorem share_make {K : PySem.W.Frag} {t b : Int} {H : Hp} {R : Addr → Hp → Prop} {E : XK} (hb : b.natAbs < 2 ^ 8000) (h0 : b ≠ 0) (ok : ∀ H' c, Same H H' → H c = none → IsSh K H' c (ntS t b) (nbS t b) → R c H') : ∀ x dx, H x = none → H dx = none → dx ≠ x → sp_Share_init K [V.ref x, .int t, .int b] (upd (upd H dx (.own x)) x (.ins (ga K "Share") dx [])) (fun v H2 => v = .non ∧ R x H2) E := by
  intro x dx hx hd hn
  refine ⟨_, _, _, rfl, x, dx, t, b, rfl, rfl, rfl, upd_same, hb, fun e => absurd e h0, fun _ => ⟨rfl, ok _ x (fun a o e => ?_) hx ⟨dx, upd_same⟩⟩⟩
  rw [upd_ne (ne_of_none e hx), upd_ne (ne_of_none e hx), upd_ne (ne_of_none e hd)]
  exact e
theorem share_new {K : PySem.W.Frag} {t b : Int} {H : Hp} {R : Addr → Hp → Prop} {E : XK} (hb : b.natAbs < 2 ^ 8000) (h0 : b ≠ 0) (ok : ∀ H' c, Same H H' → H c = none → IsSh K H' c (ntS t b) (nbS t b) → R c H') : ∀ x dx, H x = none → H dx = none → dx ≠ x → spV_Share_init K [V.ref x, .int t, .int b] (upd (upd H dx (.own x)) x (.ins (ga K "Share") dx [])) (fun v H2 => v = .non ∧ R x H2) E :=
  fun x dx hx hd hn => .inl (share_make hb h0 ok x dx hx hd hn)
theorem share_new1 {K : PySem.W.Frag} {t : Int} {H : Hp} {R : Addr → Hp → Prop} {E : XK} (ok : ∀ H' c, Same H H' → H c = none → IsSh K H' c (ntS t 1) (nbS t 1) → R c H') : ∀ x dx, H x = none → H dx = none → dx ≠ x → spV_Share_init K [V.ref x, .int t] (upd (upd H dx (.own x)) x (.ins (ga K "Share") dx [])) (fun v H2 => v = .non ∧ R x H2) E :=
  fun x dx hx hd hn => .inr (share_make (by show 1 < 2 ^ 8000; exact Nat.one_lt_two_pow (by decide)) (by decide) ok x dx hx hd hn)
def sp_as_share (K : PySem.W.Frag) : Sp := Sp1 fun x H Q _ => ∃ (n d : Int), ShV K H x n d ∧ ∀ H' c, Same H H' → IsSh K H' c n d → Q (.ref c) H'
def N_as_share : List PySem.Str := ["value"]
def t_as_share (K : PySem.W.Frag) (W : WX) : TS := (tCut (tIfS (tB (tCB (rIsi K) (tCons (tVar 0) (tCons (tC (.ref (ga K "Share"))) tNil)))) (tRet (tVar 0)) tNext)
    (tRet (Cl.tMakeS (ga K "Share") (spV_Share_init K) (WE W) (tCons (tVar 0) tNil))))
theorem pure_as_share {K : PySem.W.Frag} (ik : Hk.InsK K (ga K "Share")) (cc : PySem.W.kitOne K (.ref (ga K "Share")) (.ref (ga K "Share")) = some true) (ci : PySem.W.kitOne K (.type "int") (.ref (ga K "Share")) = some false) {vs : List V} {H : Hp} {Q : VK} {E : XK} {W : WX} (h : sp_as_share K vs H Q E) : t_as_share K W { nx := fun _ H' => Q .non H', rt := Q } (start N_as_share vs) H := by
  obtain ⟨x, rfl, n, d, hx, hq⟩ := h
  show t_as_share K W _ [some x] H
  unfold t_as_share
  refine s_nocut ?_
  rcases hx with ⟨b, rfl, hb⟩ | ⟨rfl, rfl⟩
  · obtain ⟨dx, h1⟩ := id hb
    walk_at "ss"
    refine ⟨_, _, _, _, true, rfl, .own _, ik.ty h1, cc, ?_⟩
    walk_at "ss"
    refine s_itT rfl ?_
    walk_at "ss"
    exact hq H b (Same.refl _) hb
  · walk_at "ss"
    refine ⟨_, _, _, _, false, rfl, .own _, .base (.int n), ci, ?_⟩
    walk_at "ss"
    refine s_itF rfl ?_
    walk_at "ss"
    intro z dz hz hdz hne
    refine share_new1 (R := fun c H' => Q (.ref c) H') (fun H' c s _ hS => ?_) z dz hz hdz hne
    rw [ntS_one, nbS_one] at hS
    exact hq H' c s hS
def sp_less (K : PySem.W.Frag) : Sp := Sp2 fun x y H Q _ => ∃ (a b : Addr) (n d m e : Int), x = .ref a ∧ y = .ref b ∧ IsSh K H a n d ∧ IsSh K H b m e ∧ Sm n ∧ Sm d ∧ Sm m ∧ Sm e ∧ Q (.bl (decide (n * e < m * d))) H
def N_less : List PySem.Str := ["one", "other"]
def t_less (K : PySem.W.Frag) (W : WX) : TS := (tRet (tOp rLtP (tOp rMulP (Cl.tAtt [(ga K "Share", Cl.aFld "top")] (tVar 0)) (Cl.tAtt [(ga K "Share", Cl.aFld "bottom")] (tVar 1))) (tOp rMulP (Cl.tAtt [(ga K "Share", Cl.aFld "top")] (tVar 1)) (Cl.tAtt [(ga K "Share", Cl.aFld "bottom")] (tVar 0)))))
theorem pure_less {K : PySem.W.Frag} {vs : List V} {H : Hp} {Q : VK} {E : XK} {W : WX} (h : sp_less K vs H Q E) : t_less K W { nx := fun _ H' => Q .non H', rt := Q } (start N_less vs) H := by
  obtain ⟨x, y, rfl, a, b, n, d, m, e, rfl, rfl, ⟨da, a1⟩, ⟨db, b1⟩, sn, sd, sm, se, hq⟩ := h
  show t_less K W _ [some (.ref a), some (.ref b)] H
  unfold t_less
  walk_at "ss"
  refine ⟨a, da, _, 0, _, _, rfl, rfl, a1, _, rfl, ?_⟩
  walk_at "ss"
  refine ⟨b, db, _, 0, _, _, rfl, rfl, b1, _, rfl, ?_⟩
  walk_at "ss"
  refine s_in2 (sn.mul se) ?_
  walk_at "ss"
  refine ⟨b, db, _, 0, _, _, rfl, rfl, b1, _, rfl, ?_⟩
  walk_at "ss"
  refine ⟨a, da, _, 0, _, _, rfl, rfl, a1, _, rfl, ?_⟩
  walk_at "ss"
  refine s_in2 (sm.mul sd) ?_
  walk_at "ss"
  exact hq
end Rd
namespace Rd
open PySem PySem.Spec PyProof.Rows L2 He Px
/-- no share, no int -/
def Oth (H : Hp) (y : V) : Prop := (∃ z, y = .str z) ∨ (∃ b xs, y = .ref b ∧ (H b = some (.tup xs) ∨ H b = some (.lst xs)))
def sp_Share_eq (K : PySem.W.Frag) : Sp := Sp2 fun x y H Q _ => ∃ (a : Addr) (n d : Int), x = .ref a ∧ IsSh K H a n d ∧ ((∃ m e, ShV K H y m e ∧ Q (.bl (decide (n = m ∧ d = e))) H) ∨ (Oth H y ∧ Q (.bl false) H))
def N_Share_eq : List PySem.Str := ["self", "other"]
def t_Share_eq (K : PySem.W.Frag) (W : WX) : TS := (tCut (tIfS (tB (tCB (rIsi K) (tCons (tVar 1) (tCons (tC (.ty "int")) tNil)))) (tRet (tAndV (tOp (rEqP K) (Cl.tAtt [(ga K "Share", Cl.aFld "top")] (tVar 0)) (tVar 1)) (tOp (rEqP K) (Cl.tAtt [(ga K "Share", Cl.aFld "bottom")] (tVar 0)) (tC (.int 1))))) tNext)
    (tCut (tIfS (tNot (tB (tCB (rIsi K) (tCons (tVar 1) (tCons (tC (.ref (ga K "Share"))) tNil))))) (tRet (tC (.bl false))) tNext)
    (tRet (tAndV (tOp (rEqP K) (Cl.tAtt [(ga K "Share", Cl.aFld "top")] (tVar 0)) (Cl.tAtt [(ga K "Share", Cl.aFld "top")] (tVar 1))) (tOp (rEqP K) (Cl.tAtt [(ga K "Share", Cl.aFld "bottom")] (tVar 0)) (Cl.tAtt [(ga K "Share", Cl.aFld "bottom")] (tVar 1)))))))
theorem pure_Share_eq {K : PySem.W.Frag} (ik : Hk.InsK K (ga K "Share")) (cc : PySem.W.kitOne K (.ref (ga K "Share")) (.ref (ga K "Share")) = some true) (ii : PySem.W.kitOne K (.type "int") (.type "int") = some true) (ci : PySem.W.kitOne K (.ref (ga K "Share")) (.type "int") = some false) (ks : PySem.W.kitOne K (.type "str") (.ref (ga K "Share")) = some false) (kt : PySem.W.kitOne K (.type "tuple") (.ref (ga K "Share")) = some false) (kl : PySem.W.kitOne K (.type "list") (.ref (ga K "Share")) = some false) {vs : List V} {H : Hp} {Q : VK} {E : XK} {W : WX} (h : sp_Share_eq K vs H Q E) : t_Share_eq K W { nx := fun _ H' => Q .non H', rt := Q } (start N_Share_eq vs) H := by
  obtain ⟨x, y, rfl, a, n, d, rfl, ⟨da, a1⟩, hy⟩ := h
  show t_Share_eq K _ _ [some (.ref a), some y] H
  unfold t_Share_eq
  have ba : ∀ (p q : Prop) [Decidable p] [Decidable q], decide (p ∧ q) = (if p then decide q else false) := fun p q _ _ => by
    by_cases hp : p <;> by_cases hq : q <;> simp [hp, hq]
  refine s_nocut ?_
  rcases hy with ⟨m, e, hy, hq⟩ | ⟨ho, hq⟩
  · rw [ba] at hq
    rcases hy with ⟨b, rfl, db, b1⟩ | ⟨rfl, rfl⟩
    · walk_at "ss"
      refine ⟨_, _, _, _, false, rfl, .ty _, ik.ty b1, ci, ?_⟩
      walk_at "ss"
      refine s_itF rfl ?_
      walk_at "ss"
      refine s_nocut ?_
      walk_at "ss"
      refine ⟨_, _, _, _, true, rfl, .own _, ik.ty b1, cc, ?_⟩
      walk_at "ss"
      refine s_itF rfl ?_
      walk_at "ss"
      refine ⟨a, da, _, 0, _, _, rfl, rfl, a1, _, rfl, ?_⟩
      walk_at "ss"
      refine ⟨b, db, _, 0, _, _, rfl, rfl, b1, _, rfl, ?_⟩
      walk_at "ss"
      refine s_itd (fun h => ?_) (fun h => ?_)
      · rw [if_pos h] at hq
        walk_at "ss"
        refine ⟨a, da, _, 0, _, _, rfl, rfl, a1, _, rfl, ?_⟩
        walk_at "ss"
        refine ⟨b, db, _, 0, _, _, rfl, rfl, b1, _, rfl, ?_⟩
        walk_at "ss"
        exact hq
      · rw [if_neg h] at hq
        exact hq
    · walk_at "ss"
      refine ⟨_, _, _, _, true, rfl, .ty _, .base (.int m), ii, ?_⟩
      walk_at "ss"
      refine s_itT rfl ?_
      walk_at "ss"
      refine ⟨a, da, _, 0, _, _, rfl, rfl, a1, _, rfl, ?_⟩
      walk_at "ss"
      refine s_itd (fun h => ?_) (fun h => ?_)
      · rw [if_pos h] at hq
        walk_at "ss"
        refine ⟨a, da, _, 0, _, _, rfl, rfl, a1, _, rfl, ?_⟩
        walk_at "ss"
        exact hq
      · rw [if_neg h] at hq
        exact hq
  · have two : ∃ t : Value, TyX K H y t ∧ PySem.W.kitOne K t (.type "int") = some false ∧ PySem.W.kitOne K t (.ref (ga K "Share")) = some false := by
      rcases ho with ⟨z, rfl⟩ | ⟨b, xs, rfl, hb | hb⟩
      · exact ⟨_, .base (.str z), kit_ty (show kitB "str" "int" = some false by decide +kernel), ks⟩
      · exact ⟨_, .base (.tup hb), kit_ty (show kitB "tuple" "int" = some false by decide +kernel), kt⟩
      · exact ⟨_, .base (.lst hb), kit_ty (show kitB "list" "int" = some false by decide +kernel), kl⟩
    obtain ⟨t, ty, k1, k2⟩ := two
    walk_at "ss"
    refine ⟨_, _, _, _, false, rfl, .ty _, ty, k1, ?_⟩
    walk_at "ss"
    refine s_itF rfl ?_
    walk_at "ss"
    refine s_nocut ?_
    walk_at "ss"
    refine ⟨_, _, _, _, false, rfl, .own _, ty, k2, ?_⟩
    walk_at "ss"
    refine s_itT rfl ?_
    walk_at "ss"
    exact hq
def sp_Share_lt (K : PySem.W.Frag) : Sp := Sp2 fun x y H Q _ => ∃ (a : Addr) (n d m e : Int), x = .ref a ∧ IsSh K H a n d ∧ ShV K H y m e ∧ Sm n ∧ Sm d ∧ Sm m ∧ Sm e ∧ ∀ H', Same H H' → Q (.bl (decide (n * e < m * d))) H'
def N_Share_lt : List PySem.Str := ["self", "other"]
def t_Share_lt (K : PySem.W.Frag) (W : WX) : TS := (tCut (tIfS (tNot (tB (tCB (rIsiT K) (tCons (tVar 1) (tCons (tTup (tCons (tC (.ref (ga K "Share"))) (tCons (tC (.ty "int")) tNil))) tNil))))) tNever tNext)
    (tRet (tCallS (sp_less K) (WE W) (tCons (tVar 0) (tCons (tCallS (sp_as_share K) (WE W) (tCons (tVar 1) tNil)) tNil)))))
theorem pure_Share_lt {K : PySem.W.Frag} (ik : Hk.InsK K (ga K "Share")) (cc : PySem.W.kitOne K (.ref (ga K "Share")) (.ref (ga K "Share")) = some true) (ci : PySem.W.kitOne K (.type "int") (.ref (ga K "Share")) = some false) (ii : PySem.W.kitOne K (.type "int") (.type "int") = some true) {vs : List V} {H : Hp} {Q : VK} {E : XK} {W : WX} (h : sp_Share_lt K vs H Q E) : t_Share_lt K W { nx := fun _ H' => Q .non H', rt := Q } (start N_Share_lt vs) H := by
  obtain ⟨x, y, rfl, a, n, d, m, e, rfl, hA, hy, sn, sd, sm, se, hq⟩ := h
  show t_Share_lt K _ _ [some (.ref a), some y] H
  unfold t_Share_lt
  have isT : ∀ (H : Hp) (t : Addr) (Q : VK), ShV K H y m e → H t = some (.tup [.ref (ga K "Share"), .ty "int"]) → Q (.bl true) H → rIsiT K [y, .ref t] H Q := fun H t Q hy ht hq => by
    rcases hy with ⟨b, rfl, dx, hb⟩ | ⟨rfl, _⟩
    · exact ⟨_, t, _, _, _, true, rfl, ht, .cons (.own _) (.cons (.ty _) .nil), ik.ty hb, by show PySem.W.kitAny K _ [_, _] = _; unfold PySem.W.kitAny; rw [cc], hq⟩
    · exact ⟨_, t, _, _, _, true, rfl, ht, .cons (.own _) (.cons (.ty _) .nil), .base (.int m), by show PySem.W.kitAny K _ [_, _] = _; unfold PySem.W.kitAny; rw [ci]; dsimp only; unfold PySem.W.kitAny; rw [ii], hq⟩
  refine s_nocut ?_
  walk_at "ss"
  refine ⟨len2, fun t ht => ?_⟩
  have s1 := same_new (o := HO.tup [.ref (ga K "Share"), .ty "int"]) ht
  walk_at "ss"
  refine isT _ t _ (hy.keep s1) upd_same ?_
  walk_at "ss"
  refine s_itF rfl ?_
  walk_at "ss"
  refine ⟨_, rfl, m, e, hy.keep s1, fun H2 b s2 hB => ?_⟩
  walk_at "ss"
  refine ⟨_, _, rfl, a, b, n, d, m, e, rfl, rfl, hA.keep (s1.trans s2), hB, sn, sd, sm, se, ?_⟩
  walk_at "ss"
  exact hq _ (s1.trans s2)
def sp_Share_le (K : PySem.W.Frag) : Sp := Sp2 fun x y H Q _ => ∃ (a : Addr) (n d m e : Int), x = .ref a ∧ IsSh K H a n d ∧ ShV K H y m e ∧ Sm n ∧ Sm d ∧ Sm m ∧ Sm e ∧ ∀ H', Same H H' → Q (.bl (!decide (m * d < n * e))) H'
def N_Share_le : List PySem.Str := ["self", "other"]
def t_Share_le (K : PySem.W.Frag) (W : WX) : TS := (tCut (tIfS (tNot (tB (tCB (rIsiT K) (tCons (tVar 1) (tCons (tTup (tCons (tC (.ref (ga K "Share"))) (tCons (tC (.ty "int")) tNil))) tNil))))) tNever tNext)
    (tRet (tNotV (tCallS (sp_less K) (WE W) (tCons (tCallS (sp_as_share K) (WE W) (tCons (tVar 1) tNil)) (tCons (tVar 0) tNil))))))
theorem pure_Share_le {K : PySem.W.Frag} (ik : Hk.InsK K (ga K "Share")) (cc : PySem.W.kitOne K (.ref (ga K "Share")) (.ref (ga K "Share")) = some true) (ci : PySem.W.kitOne K (.type "int") (.ref (ga K "Share")) = some false) (ii : PySem.W.kitOne K (.type "int") (.type "int") = some true) {vs : List V} {H : Hp} {Q : VK} {E : XK} {W : WX} (h : sp_Share_le K vs H Q E) : t_Share_le K W { nx := fun _ H' => Q .non H', rt := Q } (start N_Share_le vs) H := by
  obtain ⟨x, y, rfl, a, n, d, m, e, rfl, hA, hy, sn, sd, sm, se, hq⟩ := h
  show t_Share_le K _ _ [some (.ref a), some y] H
  unfold t_Share_le
  have isT : ∀ (H : Hp) (t : Addr) (Q : VK), ShV K H y m e → H t = some (.tup [.ref (ga K "Share"), .ty "int"]) → Q (.bl true) H → rIsiT K [y, .ref t] H Q := fun H t Q hy ht hq => by
    rcases hy with ⟨b, rfl, dx, hb⟩ | ⟨rfl, _⟩
    · exact ⟨_, t, _, _, _, true, rfl, ht, .cons (.own _) (.cons (.ty _) .nil), ik.ty hb, by show PySem.W.kitAny K _ [_, _] = _; unfold PySem.W.kitAny; rw [cc], hq⟩
    · exact ⟨_, t, _, _, _, true, rfl, ht, .cons (.own _) (.cons (.ty _) .nil), .base (.int m), by show PySem.W.kitAny K _ [_, _] = _; unfold PySem.W.kitAny; rw [ci]; dsimp only; unfold PySem.W.kitAny; rw [ii], hq⟩
  refine s_nocut ?_
  walk_at "ss"
  refine ⟨len2, fun t ht => ?_⟩
  have s1 := same_new (o := HO.tup [.ref (ga K "Share"), .ty "int"]) ht
  walk_at "ss"
  refine isT _ t _ (hy.keep s1) upd_same ?_
  walk_at "ss"
  refine s_itF rfl ?_
  walk_at "ss"
  refine ⟨_, rfl, m, e, hy.keep s1, fun H2 b s2 hB => ?_⟩
  walk_at "ss"
  refine ⟨_, _, rfl, b, a, m, e, n, d, rfl, rfl, hB, hA.keep (s1.trans s2), sm, se, sn, sd, ?_⟩
  walk_at "ss"
  exact hq _ (s1.trans s2)
def sp_Share_gt (K : PySem.W.Frag) : Sp := Sp2 fun x y H Q _ => ∃ (a : Addr) (n d m e : Int), x = .ref a ∧ IsSh K H a n d ∧ ShV K H y m e ∧ Sm n ∧ Sm d ∧ Sm m ∧ Sm e ∧ ∀ H', Same H H' → Q (.bl (decide (m * d < n * e))) H'
def N_Share_gt : List PySem.Str := ["self", "other"]
def t_Share_gt (K : PySem.W.Frag) (W : WX) : TS := (tCut (tIfS (tNot (tB (tCB (rIsiT K) (tCons (tVar 1) (tCons (tTup (tCons (tC (.ref (ga K "Share"))) (tCons (tC (.ty "int")) tNil))) tNil))))) tNever tNext)
    (tRet (tCallS (sp_less K) (WE W) (tCons (tCallS (sp_as_share K) (WE W) (tCons (tVar 1) tNil)) (tCons (tVar 0) tNil)))))
theorem pure_Share_gt {K : PySem.W.Frag} (ik : Hk.InsK K (ga K "Share")) (cc : PySem.W.kitOne K (.ref (ga K "Share")) (.ref (ga K "Share")) = some true) (ci : PySem.W.kitOne K (.type "int") (.ref (ga K "Share")) = some false) (ii : PySem.W.kitOne K (.type "int") (.type "int") = some true) {vs : List V} {H : Hp} {Q : VK} {E : XK} {W : WX} (h : sp_Share_gt K vs H Q E) : t_Share_gt K W { nx := fun _ H' => Q .non H', rt := Q } (start N_Share_gt vs) H := by
  obtain ⟨x, y, rfl, a, n, d, m, e, rfl, hA, hy, sn, sd, sm, se, hq⟩ := h
  show t_Share_gt K _ _ [some (.ref a), some y] H
  unfold t_Share_gt
  have isT : ∀ (H : Hp) (t : Addr) (Q : VK), ShV K H y m e → H t = some (.tup [.ref (ga K "Share"), .ty "int"]) → Q (.bl true) H → rIsiT K [y, .ref t] H Q := fun H t Q hy ht hq => by
    rcases hy with ⟨b, rfl, dx, hb⟩ | ⟨rfl, _⟩
    · exact ⟨_, t, _, _, _, true, rfl, ht, .cons (.own _) (.cons (.ty _) .nil), ik.ty hb, by show PySem.W.kitAny K _ [_, _] = _; unfold PySem.W.kitAny; rw [cc], hq⟩
    · exact ⟨_, t, _, _, _, true, rfl, ht, .cons (.own _) (.cons (.ty _) .nil), .base (.int m), by show PySem.W.kitAny K _ [_, _] = _; unfold PySem.W.kitAny; rw [ci]; dsimp only; unfold PySem.W.kitAny; rw [ii], hq⟩
  refine s_nocut ?_
  walk_at "ss"
  refine ⟨len2, fun t ht => ?_⟩
  have s1 := same_new (o := HO.tup [.ref (ga K "Share"), .ty "int"]) ht
  walk_at "ss"
  refine isT _ t _ (hy.keep s1) upd_same ?_
  walk_at "ss"
  refine s_itF rfl ?_
  walk_at "ss"
  refine ⟨_, rfl, m, e, hy.keep s1, fun H2 b s2 hB => ?_⟩
  walk_at "ss"
  refine ⟨_, _, rfl, b, a, m, e, n, d, rfl, rfl, hB, hA.keep (s1.trans s2), sm, se, sn, sd, ?_⟩
  walk_at "ss"
  exact hq _ (s1.trans s2)
def sp_Share_ge (K : PySem.W.Frag) : Sp := Sp2 fun x y H Q _ => ∃ (a : Addr) (n d m e : Int), x = .ref a ∧ IsSh K H a n d ∧ ShV K H y m e ∧ Sm n ∧ Sm d ∧ Sm m ∧ Sm e ∧ ∀ H', Same H H' → Q (.bl (!decide (n * e < m * d))) H'
def N_Share_ge : List PySem.Str := ["self", "other"]
def t_Share_ge (K : PySem.W.Frag) (W : WX) : TS := (tCut (tIfS (tNot (tB (tCB (rIsiT K) (tCons (tVar 1) (tCons (tTup (tCons (tC (.ref (ga K "Share"))) (tCons (tC (.ty "int")) tNil))) tNil))))) tNever tNext)
    (tRet (tNotV (tCallS (sp_less K) (WE W) (tCons (tVar 0) (tCons (tCallS (sp_as_share K) (WE W) (tCons (tVar 1) tNil)) tNil))))))
theorem pure_Share_ge {K : PySem.W.Frag} (ik : Hk.InsK K (ga K "Share")) (cc : PySem.W.kitOne K (.ref (ga K "Share")) (.ref (ga K "Share")) = some true) (ci : PySem.W.kitOne K (.type "int") (.ref (ga K "Share")) = some false) (ii : PySem.W.kitOne K (.type "int") (.type "int") = some true) {vs : List V} {H : Hp} {Q : VK} {E : XK} {W : WX} (h : sp_Share_ge K vs H Q E) : t_Share_ge K W { nx := fun _ H' => Q .non H', rt := Q } (start N_Share_ge vs) H := by
  obtain ⟨x, y, rfl, a, n, d, m, e, rfl, hA, hy, sn, sd, sm, se, hq⟩ := h
  show t_Share_ge K _ _ [some (.ref a), some y] H
  unfold t_Share_ge
  have isT : ∀ (H : Hp) (t : Addr) (Q : VK), ShV K H y m e → H t = some (.tup [.ref (ga K "Share"), .ty "int"]) → Q (.bl true) H → rIsiT K [y, .ref t] H Q := fun H t Q hy ht hq => by
    rcases hy with ⟨b, rfl, dx, hb⟩ | ⟨rfl, _⟩
    · exact ⟨_, t, _, _, _, true, rfl, ht, .cons (.own _) (.cons (.ty _) .nil), ik.ty hb, by show PySem.W.kitAny K _ [_, _] = _; unfold PySem.W.kitAny; rw [cc], hq⟩
    · exact ⟨_, t, _, _, _, true, rfl, ht, .cons (.own _) (.cons (.ty _) .nil), .base (.int m), by show PySem.W.kitAny K _ [_, _] = _; unfold PySem.W.kitAny; rw [ci]; dsimp only; unfold PySem.W.kitAny; rw [ii], hq⟩
  refine s_nocut ?_
  walk_at "ss"
  refine ⟨len2, fun t ht => ?_⟩
  have s1 := same_new (o := HO.tup [.ref (ga K "Share"), .ty "int"]) ht
  walk_at "ss"
  refine isT _ t _ (hy.keep s1) upd_same ?_
  walk_at "ss"
  refine s_itF rfl ?_
  walk_at "ss"
  refine ⟨_, rfl, m, e, hy.keep s1, fun H2 b s2 hB => ?_⟩
  walk_at "ss"
  refine ⟨_, _, rfl, a, b, n, d, m, e, rfl, rfl, hA.keep (s1.trans s2), hB, sn, sd, sm, se, ?_⟩
  walk_at "ss"
  exact hq _ (s1.trans s2)
def sp_Share_neg (K : PySem.W.Frag) : Sp := Sp1 fun x H Q _ => ∃ (a : Addr) (n d : Int), x = .ref a ∧ IsSh K H a n d ∧ Sm d ∧ d ≠ 0 ∧ ∀ H' c, Same H H' → IsSh K H' c (ntS (-n) d) (nbS (-n) d) → Q (.ref c) H'
def N_Share_neg : List PySem.Str := ["self"]
def t_Share_neg (K : PySem.W.Frag) (W : WX) : TS := (tRet (Cl.tMakeS (ga K "Share") (spV_Share_init K) (WE W) (tCons (tUn (rU fun i => .int (-i)) (Cl.tAtt [(ga K "Share", Cl.aFld "top")] (tVar 0))) (tCons (Cl.tAtt [(ga K "Share", Cl.aFld "bottom")] (tVar 0)) tNil))))
theorem sm8 {d : Int} (h : Sm d) : d.natAbs < 2 ^ 8000 := Nat.lt_trans h (Nat.pow_lt_pow_right (by decide) (by decide))
theorem pure_Share_neg {K : PySem.W.Frag} {vs : List V} {H : Hp} {Q : VK} {E : XK} {W : WX} (h : sp_Share_neg K vs H Q E) : t_Share_neg K W { nx := fun _ H' => Q .non H', rt := Q } (start N_Share_neg vs) H := by
  obtain ⟨x, rfl, a, n, d, rfl, ⟨da, a1⟩, sd, d0, hq⟩ := h
  show t_Share_neg K W _ [some (.ref a)] H
  unfold t_Share_neg
  walk_at "ss"
  refine ⟨a, da, _, 0, _, _, rfl, rfl, a1, _, rfl, ?_⟩
  walk_at "ss"
  refine ⟨a, da, _, 0, _, _, rfl, rfl, a1, _, rfl, ?_⟩
  walk_at "ss"
  intro z dz hz hdz hne
  exact share_new (R := fun c H' => Q (.ref c) H') (sm8 sd) d0 (fun H' c s _ hS => hq H' c s hS) z dz hz hdz hne
def sp_Share_abs (K : PySem.W.Frag) : Sp := Sp1 fun x H Q _ => ∃ (a : Addr) (n d : Int), x = .ref a ∧ IsSh K H a n d ∧ d.natAbs < 2 ^ 8000 ∧ d ≠ 0 ∧ ∀ H' c, Same H H' → IsSh K H' c (ntS (if n < 0 then -n else n) d) (nbS (if n < 0 then -n else n) d) → Q (.ref c) H'
def N_Share_abs : List PySem.Str := ["self"]
def t_Share_abs (K : PySem.W.Frag) (W : WX) : TS := (tRet (Cl.tMakeS (ga K "Share") (spV_Share_init K) (WE W) (tCons (tCB rAbsP (tCons (Cl.tAtt [(ga K "Share", Cl.aFld "top")] (tVar 0)) tNil)) (tCons (Cl.tAtt [(ga K "Share", Cl.aFld "bottom")] (tVar 0)) tNil))))
theorem pure_Share_abs {K : PySem.W.Frag} {vs : List V} {H : Hp} {Q : VK} {E : XK} {W : WX} (h : sp_Share_abs K vs H Q E) : t_Share_abs K W { nx := fun _ H' => Q .non H', rt := Q } (start N_Share_abs vs) H := by
  obtain ⟨x, rfl, a, n, d, rfl, ⟨da, a1⟩, sd, d0, hq⟩ := h
  show t_Share_abs K W _ [some (.ref a)] H
  unfold t_Share_abs
  walk_at "ss"
  refine ⟨a, da, _, 0, _, _, rfl, rfl, a1, _, rfl, ?_⟩
  walk_at "ss"
  refine ⟨_, rfl, ?_⟩
  walk_at "ss"
  refine ⟨a, da, _, 0, _, _, rfl, rfl, a1, _, rfl, ?_⟩
  walk_at "ss"
  intro z dz hz hdz hne
  exact share_new (R := fun c H' => Q (.ref c) H') sd d0 (fun H' c s _ hS => hq H' c s hS) z dz hz hdz hne
def sp_Share_bool (K : PySem.W.Frag) : Sp := Sp1 fun x H Q _ => ∃ (a : Addr) (n d : Int), x = .ref a ∧ IsSh K H a n d ∧ Q (.bl (!decide (n = 0))) H
def N_Share_bool : List PySem.Str := ["self"]
def t_Share_bool (K : PySem.W.Frag) (W : WX) : TS := (tRet (tCB (Cl.rBoolO []) (tCons (tOp (rNeP K) (Cl.tAtt [(ga K "Share", Cl.aFld "top")] (tVar 0)) (tC (.int 0))) tNil)))
theorem pure_Share_bool {K : PySem.W.Frag} {vs : List V} {H : Hp} {Q : VK} {E : XK} {W : WX} (h : sp_Share_bool K vs H Q E) : t_Share_bool K W { nx := fun _ H' => Q .non H', rt := Q } (start N_Share_bool vs) H := by
  obtain ⟨x, rfl, a, n, d, rfl, ⟨da, a1⟩, hq⟩ := h
  show t_Share_bool K W _ [some (.ref a)] H
  unfold t_Share_bool
  walk_at "ss"
  refine ⟨a, da, _, 0, _, _, rfl, rfl, a1, _, rfl, ?_⟩
  walk_at "ss"
  refine .inl ?_
  exact hq
end Rd
namespace Rd
open PySem PySem.Spec PyProof.Rows L2 He Px
def sp_law_gcd (K : PySem.W.Frag) : Sp := Sp2 fun x y H Q _ => ∃ (a b : Int), x = .int a ∧ y = .int b ∧ b.natAbs < 2 ^ 300 ∧ Q (.int ((Nat.gcd a.natAbs b.natAbs : Nat) : Int)) H
def N_law_gcd : List PySem.Str := ["_law_one", "_law_other", "_law_k", "_law_rest"]
def t_law_gcd (K : PySem.W.Frag) (W : WX) : TS := (tCut (tFor (iRng1 (tCons (tC (.int 1500)) tNil)) (gName 2) (tCut (tIfS (tTest (tOp (rEqP K) (tVar 1) (tC (.int 0)))) (tRet (tCB rAbsP (tCons (tVar 0) tNil))) tNext)
    (tSeq (tAsg (tOp rModP (tCB rIntP (tCons (tVar 0) tNil)) (tVar 1)) (gName 3))
    (tSeq (tAsg (tVar 1) (gName 0))
    (tAsg (tVar 3) (gName 1))))))
    (tRet (tC (.int 1))))
/-- one step of the division -/
theorem mod_gcd (a b : Int) (hb : b ≠ 0) : Nat.gcd b.natAbs (a.fmod b).natAbs = Nat.gcd a.natAbs b.natAbs := by
  have e : a.fmod b = a - b * a.fdiv b := Int.fmod_def a b
  have h1 : Int.gcd b (a.fmod b) = Int.gcd a b := by
    rw [e, Int.gcd_comm a b]
    exact Int.gcd_sub_mul_left_right ..
  exact h1
theorem mod_lt (a b : Int) (hb : b ≠ 0) : (a.fmod b).natAbs < b.natAbs := by
  rcases Int.lt_or_gt_of_ne hb with h | h
  · have e : a.fmod b = -((-a).fmod (-b)) := by rw [Int.neg_fmod_neg, Int.neg_neg]
    have h0 := Int.fmod_nonneg_of_pos (-a) (show 0 < -b by omega)
    have h1 := Int.fmod_lt_of_pos (-a) (show 0 < -b by omega)
    omega
  · have h0 := Int.fmod_nonneg_of_pos a h
    have h1 := Int.fmod_lt_of_pos a h
    omega
/-- both of one sign: the rest is that of the sizes -/
theorem mod_abs {a b : Int} (hb : b ≠ 0) (hs : 0 ≤ a * b) : (a.fmod b).natAbs = a.natAbs % b.natAbs ∧ 0 ≤ b * a.fmod b := by
  rcases Int.lt_or_gt_of_ne hb with h | h
  · have ha : a ≤ 0 := by
      rcases Int.lt_or_le 0 a with h2 | h2
      · have := Int.mul_neg_of_pos_of_neg h2 h; omega
      · exact h2
    have e : a.fmod b = -((-a).fmod (-b)) := by rw [Int.neg_fmod_neg, Int.neg_neg]
    have e2 : (-a).fmod (-b) = (-a) % (-b) := Int.fmod_eq_emod_of_nonneg _ (by omega)
    have e3 : (-a) % (-b) = (((-a).natAbs % (-b).natAbs : Nat) : Int) := by
      rw [Int.natCast_emod]
      congr 1 <;> omega
    rw [Int.natAbs_neg, Int.natAbs_neg] at e3
    rw [e2, e3] at e
    refine ⟨by omega, ?_⟩
    rw [e]
    have : 0 ≤ (((a.natAbs % b.natAbs : Nat)) : Int) := by omega
    have h3 := Int.mul_nonneg (show 0 ≤ -b by omega) this
    rw [Int.mul_neg, ← Int.neg_mul]
    exact h3
  · have ha : 0 ≤ a := by
      rcases Int.lt_or_le a 0 with h2 | h2
      · have := Int.mul_neg_of_neg_of_pos h2 h; omega
      · exact h2
    have e2 : a.fmod b = a % b := Int.fmod_eq_emod_of_nonneg _ (by omega)
    have e3 : a % b = ((a.natAbs % b.natAbs : Nat) : Int) := by
      rw [Int.natCast_emod]
      congr 1 <;> omega
    rw [e2, e3]
    exact ⟨by omega, Int.mul_nonneg (by omega) (by omega)⟩
theorem half_step {a b : Nat} (hb : 0 < b) (h : b ≤ a) : 2 * (b * (a % b)) ≤ a * b := by
  have h1 : a % b < b := Nat.mod_lt _ hb
  have h2 : b * (a / b) + a % b = a := Nat.div_add_mod a b
  have h3 : 1 ≤ a / b := (Nat.one_le_div_iff hb).mpr h
  have h4 : b * 1 ≤ b * (a / b) := Nat.mul_le_mul_left b h3
  have h5 : 2 * (a % b) ≤ a := by omega
  calc 2 * (b * (a % b)) = b * (2 * (a % b)) := by rw [Nat.mul_left_comm]
    _ ≤ b * a := Nat.mul_le_mul_left b h5
    _ = a * b := Nat.mul_comm b a
theorem pure_law_gcd {K : PySem.W.Frag} {vs : List V} {H : Hp} {Q : VK} {E : XK} {W : WX} (h : sp_law_gcd K vs H Q E) : t_law_gcd K W { nx := fun _ H' => Q .non H', rt := Q } (start N_law_gcd vs) H := by
  obtain ⟨x, y, rfl, a, b, rfl, rfl, hb, hq⟩ := h
  show t_law_gcd K W _ [some (.int a), some (.int b), none, none] H
  unfold t_law_gcd
  refine s_cut (fun _ _ => False) ?_ (fun _ _ h => h.elim)
  walk_at "ss"
  refine forr_inv (by decide) (by decide) (fun i σ' H' => H' = H ∧ ∃ (c d : Int) (u v : Option V), σ' = [some (.int c), some (.int d), u, v] ∧ Nat.gcd c.natAbs d.natAbs = Nat.gcd a.natAbs b.natAbs ∧ (i = 0 → d = b) ∧ (1 ≤ i → c ≠ 0 ∧ d.natAbs ≤ c.natAbs ∧ 0 ≤ c * d ∧ 2 ^ (i - 1) * (c.natAbs * d.natAbs) ≤ 2 ^ 600) ∧ i ≤ 700)
    ⟨rfl, a, b, _, _, rfl, rfl, fun _ => rfl, fun h => absurd h (by decide), by decide⟩ ?_ ?_
  · rintro i σ' H' hi ⟨rfl, c, d, u, v, rfl, hg, h0, h1, hi7⟩
    refine s_nocut ?_
    walk_at "ss"
    refine s_itd (fun e => ?_) (fun e => ?_)
    · walk_at "ss"
      refine ⟨c, rfl, ?_⟩
      have : (if c < 0 then -c else c) = ((Nat.gcd a.natAbs b.natAbs : Nat) : Int) := by
        rw [← hg, e]
        show _ = ((Nat.gcd c.natAbs 0 : Nat) : Int)
        rw [Nat.gcd_zero_right]
        split <;> omega
      rw [this]
      exact hq
    · walk_at "ss"
      refine s_in2 e ?_
      walk_at "ss"
      have hm := mod_gcd c d e
      have hl := mod_lt c d e
      refine ⟨rfl, d, c.fmod d, _, _, rfl, by rw [hm, hg], fun h => by omega, fun _ => ⟨e, by omega, ?_, ?_⟩, ?_⟩
      · by_cases hi0 : i = 0
        · rcases Int.lt_or_gt_of_ne e with h | h
          · have e1 : c.fmod d = -((-c).fmod (-d)) := by rw [Int.neg_fmod_neg, Int.neg_neg]
            have h2 := Int.fmod_nonneg_of_pos (-c) (show 0 < -d by omega)
            rw [e1, Int.mul_neg, ← Int.neg_mul]
            exact Int.mul_nonneg (by omega) h2
          · exact Int.mul_nonneg (by omega) (Int.fmod_nonneg_of_pos c h)
        · exact (mod_abs e (h1 (by omega)).2.2.1).2
      · by_cases hi0 : i = 0
        · subst hi0
          have hdb := h0 rfl
          subst hdb
          show 2 ^ 0 * _ ≤ _
          rw [Nat.pow_zero, Nat.one_mul]
          calc d.natAbs * (c.fmod d).natAbs ≤ 2 ^ 300 * 2 ^ 300 := Nat.mul_le_mul (by omega) (by omega)
            _ = 2 ^ 600 := by rw [← Nat.pow_add]
        · obtain ⟨c0, dc, hs, hP⟩ := h1 (by omega)
          have hma := (mod_abs e hs).1
          rw [hma]
          have hh := half_step (a := c.natAbs) (b := d.natAbs) (by omega) dc
          have e2 : i + 1 - 1 = (i - 1) + 1 := by omega
          rw [e2, Nat.pow_succ, Nat.mul_assoc]
          exact Nat.le_trans (Nat.mul_le_mul_left _ hh) hP
      · by_cases hi0 : i = 0
        · omega
        · obtain ⟨c0, dc, hs, hP⟩ := h1 (by omega)
          have hp : 1 ≤ c.natAbs * d.natAbs := Nat.mul_pos (by omega) (by omega)
          have h2 : 2 ^ (i - 1) ≤ 2 ^ 600 := Nat.le_trans (Nat.le_mul_of_pos_right _ hp) hP
          have := (Nat.pow_le_pow_iff_right (by decide)).mp h2
          omega
  · rintro σ' H' ⟨_, _, _, _, _, _, _, _, _, h⟩
    exact absurd h (by decide)
def sp_law_is_share (K : PySem.W.Frag) : Sp := Sp3 fun x y w H Q _ => ∃ (c : Addr) (t b : Int), x = .ref c ∧ y = .int t ∧ w = .int b ∧ IsSh K H c (ntS t b) (nbS t b) ∧ b ≠ 0 ∧ b.natAbs < 2 ^ 300 ∧ ∀ H', Same H H' → Q (.bl true) H'
def N_law_is_share : List PySem.Str := ["_law_share", "_law_top", "_law_bottom", "_law_common"]
def t_law_is_share (K : PySem.W.Frag) (W : WX) : TS := (tCut (tIfS (tOr (tNot (tB (tCB (rIsi K) (tCons (tVar 0) (tCons (tC (.ref (ga K "Share"))) tNil))))) (tTest (tOp (rEqP K) (tVar 2) (tC (.int 0))))) (tRet (tC (.bl false))) tNext)
    (tSeq (tAsg (tCallS (sp_law_gcd K) (WE W) (tCons (tVar 1) (tCons (tVar 2) tNil))) (gName 3))
    (tCut (tIfS (tTest (tOp rLtP (tVar 2) (tC (.int 0)))) (tAsg (tUn (rU fun i => .int (-i)) (tVar 3)) (gName 3)) tNext)
    (tRet (tAndV (tCallS (sp_law_same K) (WE W) (tCons (Cl.tAtt [(ga K "Share", Cl.aFld "top")] (tVar 0)) (tCons (tOp rFdivP (tVar 1) (tVar 3)) tNil))) (tCallS (sp_law_same K) (WE W) (tCons (Cl.tAtt [(ga K "Share", Cl.aFld "bottom")] (tVar 0)) (tCons (tOp rFdivP (tVar 2) (tVar 3)) tNil))))))))
theorem pure_law_is_share {K : PySem.W.Frag} (ik : Hk.InsK K (ga K "Share")) (cc : PySem.W.kitOne K (.ref (ga K "Share")) (.ref (ga K "Share")) = some true) {vs : List V} {H : Hp} {Q : VK} {E : XK} {W : WX} (h : sp_law_is_share K vs H Q E) : t_law_is_share K W { nx := fun _ H' => Q .non H', rt := Q } (start N_law_is_share vs) H := by
  obtain ⟨x, y, w, rfl, c, t, b, rfl, rfl, rfl, ⟨dx, h1⟩, h0, hb, hq⟩ := h
  show t_law_is_share K W _ [some (.ref c), some (.int t), some (.int b), none] H
  unfold t_law_is_share
  have hD := dvS_ne (t := t) h0
  have hG : (dvS t b).natAbs.log2 < 9000 := by
    refine Nat.lt_trans (log_lt (k := 300) ?_ (by decide)) (by decide)
    rw [dvS_abs]
    exact Nat.lt_of_le_of_lt (Nat.gcd_le_right _ (by omega)) hb
  refine s_nocut ?_
  walk_at "ss"
  refine ⟨_, _, _, _, true, rfl, .own _, ik.ty h1, cc, ?_⟩
  walk_at "ss"
  refine s_itF rfl ?_
  walk_at "ss"
  refine s_itF (decide_eq_false h0) ?_
  walk_at "ss"
  refine ⟨_, _, rfl, t, b, rfl, rfl, hb, ?_⟩
  walk_at "ss"
  refine s_cut (fun σ' H' => H' = H ∧ σ' = [some (.ref c), some (.int t), some (.int b), some (.int (dvS t b))]) ?_ ?_
  · unfold dvS
    walk_at "ss"
    refine s_itd (fun e2 => ?_) (fun e2 => ?_)
    · walk_at "ss"
      rw [if_pos e2]
      exact ⟨rfl, rfl⟩
    · walk_at "ss"
      rw [if_neg e2]
      exact ⟨rfl, rfl⟩
  rintro σ' H' ⟨rfl, rfl⟩
  walk_at "ss"
  refine ⟨c, dx, _, 0, _, _, rfl, rfl, h1, _, rfl, ?_⟩
  walk_at "ss"
  refine s_in2 ⟨hD, hG⟩ ?_
  walk_at "ss"
  refine same_ok (.int _) (.int _) trivial fun H2 s2 => ?_
  walk_at "ss"
  refine s_itT rfl ?_
  walk_at "ss"
  refine ⟨c, dx, _, 0, _, _, rfl, rfl, s2 _ _ h1, _, rfl, ?_⟩
  walk_at "ss"
  refine s_in2 ⟨hD, hG⟩ ?_
  walk_at "ss"
  exact same_ok (.int _) (.int _) trivial fun H3 s3 => hq H3 (s2.trans s3)
def sp_law_number (K : PySem.W.Frag) : Sp := Sp2 fun x y H Q _ => ∃ (a : Addr) (p : Int), x = .ref a ∧ y = .int p ∧ Src H a ∧ 0 ≤ p ∧ p ≤ 20 ∧ ∀ H' (n : Int), Src H' a → Mov a H H' → n.natAbs < 10 ^ (10 * p.toNat + 1) → Q (.int n) H'
def N_law_number : List PySem.Str := ["_law_source_here", "_law_parts", "_law_number_here", "_law_k"]
def t_law_number (K : PySem.W.Frag) (W : WX) : TS := (tSeq (tAsg (tCallS (sp_law_take K) (WE W) (tCons (tVar 0) (tCons (tC (.int 10)) tNil))) (gName 2))
    (tCut (tFor (iRng1 (tCons (tCallS (sp_law_take K) (WE W) (tCons (tVar 0) (tCons (tOp (rAddP K) (tVar 1) (tC (.int 1))) tNil))) tNil)) (gName 3) (tAsg (tOp (rAddP K) (tOp rMulP (tVar 2) (tOp rPowP (tC (.int 10)) (tC (.int 10)))) (tCallS (sp_law_take K) (WE W) (tCons (tVar 0) (tCons (tOp rPowP (tC (.int 10)) (tC (.int 10))) tNil)))) (gName 2)))
    (tCut (tIfS (tTest (tOp (rEqP K) (tCallS (sp_law_take K) (WE W) (tCons (tVar 0) (tCons (tC (.int 2)) tNil))) (tC (.int 1)))) (tRet (tUn (rU fun i => .int (-i)) (tVar 2))) tNext)
    (tRet (tVar 2)))))
theorem pure_law_number {K : PySem.W.Frag} {vs : List V} {H : Hp} {Q : VK} {E : XK} {W : WX} (h : sp_law_number K vs H Q E) : t_law_number K W { nx := fun _ H' => Q .non H', rt := Q } (start N_law_number vs) H := by
  obtain ⟨x, y, rfl, a, p, rfl, rfl, hS, p0, p1, hq⟩ := h
  show t_law_number K W _ [some (.ref a), some (.int p), none, none] H
  unfold t_law_number
  walk_at "ss"
  refine take_ok hS (by decide) (by decide) fun H1 n0 S1 b1 n00 n01 => ?_
  walk_at "ss"
  refine s_cut (fun σ' H' => ∃ (n : Int) (v : Option V), σ' = [some (.ref a), some (.int p), some (.int n), v] ∧ Src H' a ∧ Mov a H H' ∧ 0 ≤ n ∧ n.natAbs < 10 ^ (10 * p.toNat + 1)) ?_ ?_
  · walk_at "ss"
    refine take_ok S1 (by omega) (by omega) fun H2 m S2 b2 m0 m1 => ?_
    walk_at "ss"
    refine forr_inv (by omega) (by omega) (fun i σ' H' => i ≤ p.toNat ∧ ∃ (n : Int) (v : Option V), σ' = [some (.ref a), some (.int p), some (.int n), v] ∧ Src H' a ∧ Mov a H H' ∧ 0 ≤ n ∧ n.natAbs < 10 ^ (10 * i + 1)) ⟨Nat.zero_le _, n0, _, rfl, S2, b1.trans b2, n00, by show n0.natAbs < 10; omega⟩ ?_ ?_
    · rintro i σ' H' hi ⟨hip, n, v, rfl, S3, B3, hn0, hn⟩
      walk_at "ss"
      refine s_in2 ⟨by decide, by decide, by decide⟩ ?_
      refine s_in2 (.inl (.inr (by decide +kernel))) ?_
      walk_at "ss"
      refine s_in2 ⟨by decide, by decide, by decide⟩ ?_
      walk_at "ss"
      refine take_ok S3 (by decide +kernel) (by decide +kernel) fun H4 r S4 b4 r0 r1 => ?_
      walk_at "ss"
      have e10 : (10 : Int) ^ (10 : Int).toNat = 10000000000 := by decide +kernel
      rw [e10] at r1 ⊢
      refine ⟨by omega, _, _, rfl, S4, B3.trans b4, by omega, ?_⟩
      have e2 : 10 * (i + 1) + 1 = (10 * i + 1) + 10 := by omega
      rw [e2, Nat.pow_add]
      generalize 10 ^ (10 * i + 1) = M at hn
      show _ < M * 10000000000
      omega
    · rintro σ' H' ⟨hip, n, v, rfl, S3, B3, hn0, hn⟩
      refine ⟨n, v, rfl, S3, B3, hn0, Nat.lt_of_lt_of_le hn (Nat.pow_le_pow_right (by decide) (by omega))⟩
  rintro σ' H' ⟨n, v, rfl, S3, B3, hn0, hn⟩
  refine s_nocut ?_
  walk_at "ss"
  refine take_ok S3 (by decide) (by decide) fun H4 r S4 b4 r0 r1 => ?_
  walk_at "ss"
  refine s_itd (fun _ => ?_) (fun _ => ?_)
  · walk_at "ss"
    exact hq H4 (-n) S4 (B3.trans b4) (by rw [Int.natAbs_neg]; exact hn)
  · walk_at "ss"
    exact hq H4 n S4 (B3.trans b4) hn
def sp_law_fraction (K : PySem.W.Frag) : Sp := Sp2 fun x y H Q _ => ∃ (a : Addr), x = .ref a ∧ y = .int 2 ∧ Src H a ∧ ∀ H' q (t b : Int), Src H' a → Mov a H H' → q ≠ a → H' q = some (.tup [.int t, .int b]) → b ≠ 0 → t.natAbs < 10 ^ 21 → b.natAbs < 10 ^ 21 → Q (.ref q) H'
def N_law_fraction : List PySem.Str := ["_law_source_here", "_law_parts", "_law_top", "_law_bottom"]
def t_law_fraction (K : PySem.W.Frag) (W : WX) : TS := (tSeq (tAsg (tCallS (sp_law_number K) (WE W) (tCons (tVar 0) (tCons (tVar 1) tNil))) (gName 2))
    (tSeq (tAsg (tCallS (sp_law_number K) (WE W) (tCons (tVar 0) (tCons (tVar 1) tNil))) (gName 3))
    (tCut (tIfS (tTest (tOp (rEqP K) (tVar 3) (tC (.int 0)))) (tAsg (tC (.int 1)) (gName 3)) tNext)
    (tRet (tTup (tCons (tVar 2) (tCons (tVar 3) tNil)))))))
theorem pure_law_fraction {K : PySem.W.Frag} {vs : List V} {H : Hp} {Q : VK} {E : XK} {W : WX} (h : sp_law_fraction K vs H Q E) : t_law_fraction K W { nx := fun _ H' => Q .non H', rt := Q } (start N_law_fraction vs) H := by
  obtain ⟨x, y, rfl, a, rfl, rfl, hS, hq⟩ := h
  show t_law_fraction K W _ [some (.ref a), some (.int 2), none, none] H
  unfold t_law_fraction
  walk_at "ss"
  refine ⟨_, _, rfl, a, 2, rfl, rfl, hS, by decide, by decide, fun H1 t S1 b1 ht => ?_⟩
  walk_at "ss"
  refine ⟨_, _, rfl, a, 2, rfl, rfl, S1, by decide, by decide, fun H2 b S2 b2 hb => ?_⟩
  have ht : t.natAbs < 10 ^ 21 := ht
  have hb : b.natAbs < 10 ^ 21 := hb
  have B2 := b1.trans b2
  walk_at "ss"
  refine s_cut (fun σ' H' => H' = H2 ∧ ∃ c, σ' = [some (.ref a), some (.int 2), some (.int t), some (.int c)] ∧ c ≠ 0 ∧ c.natAbs < 10 ^ 21) ?_ ?_
  · walk_at "ss"
    refine s_itd (fun e => ?_) (fun e => ?_)
    · walk_at "ss"
      exact ⟨rfl, 1, rfl, by decide, by decide +kernel⟩
    · walk_at "ss"
      exact ⟨rfl, b, rfl, e, hb⟩
  rintro σ' H' ⟨rfl, c, rfl, hc, hcb⟩
  walk_at "ss"
  refine ⟨len2, fun q hq0 => ?_⟩
  have s3 := same_new (o := HO.tup [.int t, .int c]) hq0
  exact hq _ q t c (S2.keep s3) (B2.trans (Mov.of_same s3)) (S2.ne hq0) upd_same hc ht hcb
def sp_law_three (K : PySem.W.Frag) : Sp := Sp1 fun x H Q _ => ∃ (a : Addr), x = .ref a ∧ Src H a ∧ ∀ H' q (p1 p2 p3 : Addr) (t1 b1 t2 b2 t3 b3 : Int), Src H' a → Mov a H H' → q ≠ a → H' q = some (.lst [.ref p1, .ref p2, .ref p3]) → PrP H' a p1 t1 b1 → PrP H' a p2 t2 b2 → PrP H' a p3 t3 b3 → t1.natAbs < 10 ^ 21 → Q (.ref q) H'
def N_law_three : List PySem.Str := ["_law_source_here", "_law_first", "_law_style", "_law_parts", "_law_second", "_law_third"]
def t_law_three (K : PySem.W.Frag) (W : WX) : TS := (tSeq (tAsg (tCallS (sp_law_fraction K) (WE W) (tCons (tVar 0) (tCons (tC (.int 2)) tNil))) (gName 1))
    (tCut (tIfS (tTest (tOp rLtP (tOp (rIxP K) (tVar 1) (tC (.int 1))) (tC (.int 0)))) (tAsg (tTup (tCons (tUn (rU fun i => .int (-i)) (tOp (rIxP K) (tVar 1) (tC (.int 0)))) (tCons (tUn (rU fun i => .int (-i)) (tOp (rIxP K) (tVar 1) (tC (.int 1)))) tNil))) (gName 1)) tNext)
    (tSeq (tAsg (tCallS (sp_law_take K) (WE W) (tCons (tVar 0) (tCons (tC (.int 4)) tNil))) (gName 2))
    (tSeq (tAsg (tOp (rAddP K) (tC (.int 1)) (tCallS (sp_law_take K) (WE W) (tCons (tVar 0) (tCons (tC (.int 1000000)) tNil)))) (gName 3))
    (tSeq (tAsg (tTup (tCons (tOp rSubP (tOp (rAddP K) (tOp rMulP (tOp (rIxP K) (tVar 1) (tC (.int 0))) (tVar 3)) (tCallS (sp_law_take K) (WE W) (tCons (tVar 0) (tCons (tC (.int 3)) tNil)))) (tC (.int 1))) (tCons (tOp rMulP (tOp (rIxP K) (tVar 1) (tC (.int 1))) (tVar 3)) tNil))) (gName 4))
    (tSeq (tAsg (tTup (tCons (tOp (rAddP K) (tOp (rIxP K) (tVar 1) (tC (.int 0))) (tOp (rIxP K) (tVar 4) (tC (.int 0)))) (tCons (tOp (rAddP K) (tOp (rIxP K) (tVar 1) (tC (.int 1))) (tOp (rIxP K) (tVar 4) (tC (.int 1)))) tNil))) (gName 5))
    (tCut (tIfS (tTest (tOp (rEqP K) (tVar 2) (tC (.int 2)))) (tAsg (tTup (tCons (tOp rMulP (tOp (rIxP K) (tVar 4) (tC (.int 0))) (tC (.int 6))) (tCons (tOp rMulP (tOp (rIxP K) (tVar 4) (tC (.int 1))) (tC (.int 6))) tNil))) (gName 5)) tNext)
    (tCut (tIfS (tTest (tOp (rEqP K) (tVar 2) (tC (.int 0)))) (tAsg (tCallS (sp_law_fraction K) (WE W) (tCons (tVar 0) (tCons (tC (.int 2)) tNil))) (gName 4)) tNext)
    (tCut (tIfS (tOr (tTest (tOp (rEqP K) (tVar 2) (tC (.int 0)))) (tTest (tOp (rEqP K) (tVar 2) (tC (.int 3))))) (tAsg (tCallS (sp_law_fraction K) (WE W) (tCons (tVar 0) (tCons (tC (.int 2)) tNil))) (gName 5)) tNext)
    (tCut (tIfS (tTest (tOp rLtP (tOp (rIxP K) (tVar 4) (tC (.int 1))) (tC (.int 0)))) (tAsg (tTup (tCons (tUn (rU fun i => .int (-i)) (tOp (rIxP K) (tVar 4) (tC (.int 0)))) (tCons (tUn (rU fun i => .int (-i)) (tOp (rIxP K) (tVar 4) (tC (.int 1)))) tNil))) (gName 4)) tNext)
    (tCut (tIfS (tTest (tOp rLtP (tOp (rIxP K) (tVar 5) (tC (.int 1))) (tC (.int 0)))) (tAsg (tTup (tCons (tUn (rU fun i => .int (-i)) (tOp (rIxP K) (tVar 5) (tC (.int 0)))) (tCons (tUn (rU fun i => .int (-i)) (tOp (rIxP K) (tVar 5) (tC (.int 1)))) tNil))) (gName 5)) tNext)
    (tRet (tLst (tCons (tVar 1) (tCons (tVar 4) (tCons (tVar 5) tNil))))))))))))))))
/-- a pair of ints, its bottom not zero -/
def PrF (H : Hp) (a p : Addr) : Prop := ∃ t b, p ≠ a ∧ H p = some (.tup [.int t, .int b]) ∧ Fra t b
theorem PrF.mov {H H' : Hp} {a p : Addr} (h : PrF H a p) (m : Mov a H H') : PrF H' a p := by
  obtain ⟨t, b, h1, h2, h3⟩ := h
  exact ⟨t, b, h1, m _ _ h2 h1, h3⟩
theorem pure_law_three {K : PySem.W.Frag} {vs : List V} {H : Hp} {Q : VK} {E : XK} {W : WX} (h : sp_law_three K vs H Q E) : t_law_three K W { nx := fun _ H' => Q .non H', rt := Q } (start N_law_three vs) H := by
  obtain ⟨x, rfl, a, rfl, hS, hq⟩ := h
  show t_law_three K W _ [some (.ref a), none, none, none, none, none] H
  unfold t_law_three
  have e3 : (10 : Nat) ^ 40 = 10000000000000000000000000000000000000000 := by decide +kernel
  have e2 : (10 : Nat) ^ 21 = 1000000000000000000000 := by decide +kernel
  have p21 : (10 : Nat) ^ 21 < 10 ^ 40 := by decide +kernel
  have l2 : ∀ x y : V, ([x, y] : List V).length ≤ sizeLine := fun _ _ => by show 2 ≤ sizeLine; rw [sizeLine_eq]; decide
  walk_at "ss"
  refine ⟨_, _, rfl, a, rfl, rfl, hS, fun H1 q t1 c1 S1 b1 hqa h1 c10 ht1 hc1 => ?_⟩
  walk_at "ss"
  refine s_cut (fun σ' H' => ∃ (p : Addr) (t b : Int), σ' = [some (.ref a), some (.ref p), none, none, none, none] ∧ Src H' a ∧ Mov a H H' ∧ p ≠ a ∧ H' p = some (.tup [.int t, .int b]) ∧ 0 < b ∧ t.natAbs < 10 ^ 21 ∧ b.natAbs < 10 ^ 21) ?_ ?_
  · walk_at "ss"
    refine s_ixT h1 (v := .int c1) rfl ?_
    walk_at "ss"
    refine s_itd (fun z => ?_) (fun z => ?_)
    · walk_at "ss"
      refine s_ixT h1 (v := .int t1) rfl ?_
      walk_at "ss"
      refine s_ixT h1 (v := .int c1) rfl ?_
      walk_at "ss"
      refine ⟨l2 _ _, fun r hr => ?_⟩
      have s2 := same_new (o := HO.tup [.int (-t1), .int (-c1)]) hr
      walk_at "ss"
      exact ⟨r, -t1, -c1, rfl, S1.keep s2, b1.trans (Mov.of_same s2), S1.ne hr, upd_same, by omega, by rw [Int.natAbs_neg]; exact ht1, by rw [Int.natAbs_neg]; exact hc1⟩
    · walk_at "ss"
      exact ⟨q, t1, c1, rfl, S1, b1, hqa, h1, by omega, ht1, hc1⟩
  rintro σ' H2 ⟨p, t, b, rfl, S2, B2, hpa, hp, hb0, ht, hb⟩
  have ht' := ht
  have hb' := hb
  rw [e2] at ht' hb'
  walk_at "ss"
  refine take_ok S2 (by decide) (by decide) fun H3 st S3 m3 s0 s1 => ?_
  walk_at "ss"
  refine take_ok S3 (by decide) (by decide) fun H4 u S4 m4 u0 u1 => ?_
  have hp4 := m4 _ _ (m3 _ _ hp hpa) hpa
  have x1 : (t * (1 + u)).natAbs ≤ 1000000000000000000000 * 1000000 := by rw [Int.natAbs_mul]; exact Nat.mul_le_mul (by omega) (by omega)
  have x2 : (b * (1 + u)).natAbs ≤ 1000000000000000000000 * 1000000 := by rw [Int.natAbs_mul]; exact Nat.mul_le_mul (by omega) (by omega)
  have x3 : 0 < b * (1 + u) := Int.mul_pos hb0 (by omega)
  have sm1 : ∀ i : Int, i.natAbs < 10000000000000000000000000000000000000000 → Sm i := fun i h => sm_of (by rw [e3]; exact h)
  walk_at "ss"
  refine s_ixT hp4 (v := .int t) rfl ?_
  walk_at "ss"
  refine s_in2 ((sm1 t (by omega)).mul (sm1 (1 + u) (by omega))) ?_
  walk_at "ss"
  refine take_ok S4 (by decide) (by decide) fun H5 v S5 m5 v0 v1 => ?_
  have hp5 := m5 _ _ hp4 hpa
  have B5 := ((B2.trans m3).trans m4).trans m5
  walk_at "ss"
  refine s_ixT hp5 (v := .int b) rfl ?_
  walk_at "ss"
  refine s_in2 ((sm1 b (by omega)).mul (sm1 (1 + u) (by omega))) ?_
  walk_at "ss"
  refine ⟨l2 _ _, fun r hr => ?_⟩
  generalize t * (1 + u) = tu at x1
  generalize b * (1 + u) = bu at x2 x3
  have s6 := same_new (o := HO.tup [.int (tu + v - 1), .int bu]) hr
  have hra := S5.ne hr
  have hr6 := upd_same (H := H5) (a := r) (o := HO.tup [.int (tu + v - 1), .int bu])
  have S6 := S5.keep s6
  have B6 := B5.trans (Mov.of_same s6)
  have hp6 := s6 _ _ hp5
  generalize upd H5 r (HO.tup [.int (tu + v - 1), .int bu]) = H6 at s6 hr6 S6 B6 hp6
  walk_at "ss"
  refine s_ixT hp6 (v := .int t) rfl ?_
  walk_at "ss"
  refine s_ixT hr6 (v := .int (tu + v - 1)) rfl ?_
  walk_at "ss"
  refine s_ixT hp6 (v := .int b) rfl ?_
  walk_at "ss"
  refine s_ixT hr6 (v := .int bu) rfl ?_
  walk_at "ss"
  refine ⟨l2 _ _, fun z hz => ?_⟩
  have s7 := same_new (o := HO.tup [.int (t + (tu + v - 1)), .int (b + bu)]) hz
  have hza := S6.ne hz
  have hz7 := upd_same (H := H6) (a := z) (o := HO.tup [.int (t + (tu + v - 1)), .int (b + bu)])
  have S7 := S6.keep s7
  have B7 := B6.trans (Mov.of_same s7)
  have hp7 := s7 _ _ hp6
  have hr7 := s7 _ _ hr6
  generalize upd H6 z (HO.tup [.int (t + (tu + v - 1)), .int (b + bu)]) = H7 at s7 hz7 S7 B7 hp7 hr7
  walk_at "ss"
  refine s_cut (fun σ' H' => ∃ (z : Addr), σ' = [some (.ref a), some (.ref p), some (.int st), some (.int (1 + u)), some (.ref r), some (.ref z)] ∧ Src H' a ∧ Mov a H H' ∧ H' p = some (.tup [.int t, .int b]) ∧ PrF H' a r ∧ PrF H' a z) ?_ ?_
  · walk_at "ss"
    refine s_itd (fun _ => ?_) (fun _ => ?_)
    · walk_at "ss"
      refine s_ixT hr7 (v := .int (tu + v - 1)) rfl ?_
      walk_at "ss"
      refine s_in2 ((sm1 _ (by omega)).mul (sm1 6 (by decide))) ?_
      walk_at "ss"
      refine s_ixT hr7 (v := .int bu) rfl ?_
      walk_at "ss"
      refine s_in2 ((sm1 _ (by omega)).mul (sm1 6 (by decide))) ?_
      walk_at "ss"
      refine ⟨l2 _ _, fun y hy => ?_⟩
      have s8 := same_new (o := HO.tup [.int ((tu + v - 1) * 6), .int (bu * 6)]) hy
      walk_at "ss"
      exact ⟨y, rfl, S7.keep s8, B7.trans (Mov.of_same s8), s8 _ _ hp7, ⟨_, _, hra, s8 _ _ hr7, by omega, by rw [e3]; omega, by rw [e3]; omega⟩, ⟨_, _, S7.ne hy, upd_same, by omega, by rw [e3]; omega, by rw [e3]; omega⟩⟩
    · walk_at "ss"
      exact ⟨z, rfl, S7, B7, hp7, ⟨_, _, hra, hr7, by omega, by rw [e3]; omega, by rw [e3]; omega⟩, ⟨_, _, hza, hz7, by omega, by rw [e3]; omega, by rw [e3]; omega⟩⟩
  rintro σ' H8 ⟨z, rfl, S8, B8, hp8, F1, F2⟩
  clear s7 hz7 S7 B7 hp7 hr7 s6 hr6 S6 B6 hp6 hp5 B5 hp4 hza hra hr hz
  refine s_cut (fun σ' H' => ∃ (r : Addr), σ' = [some (.ref a), some (.ref p), some (.int st), some (.int (1 + u)), some (.ref r), some (.ref z)] ∧ Src H' a ∧ Mov a H H' ∧ H' p = some (.tup [.int t, .int b]) ∧ PrF H' a r ∧ PrF H' a z) ?_ ?_
  · walk_at "ss"
    refine s_itd (fun _ => ?_) (fun _ => ?_)
    · walk_at "ss"
      refine ⟨_, _, rfl, a, rfl, rfl, S8, fun H9 q9 t9 c9 S9 m9 hq9 h9 c0 ht9 hc9 => ?_⟩
      walk_at "ss"
      exact ⟨q9, rfl, S9, B8.trans m9, m9 _ _ hp8 hpa, ⟨_, _, hq9, h9, c0, Nat.lt_trans ht9 p21, Nat.lt_trans hc9 p21⟩, F2.mov m9⟩
    · walk_at "ss"
      exact ⟨r, rfl, S8, B8, hp8, F1, F2⟩
  clear S8 B8 hp8 F1 F2
  rintro σ' H8 ⟨r, rfl, S8, B8, hp8, F1, F2⟩
  refine s_cut (fun σ' H' => ∃ (z : Addr), σ' = [some (.ref a), some (.ref p), some (.int st), some (.int (1 + u)), some (.ref r), some (.ref z)] ∧ Src H' a ∧ Mov a H H' ∧ H' p = some (.tup [.int t, .int b]) ∧ PrF H' a r ∧ PrF H' a z) ?_ ?_
  · have go : ∀ (Q' : L2.St → Hp → Prop), (∀ H' z', Src H' a → Mov a H H' → H' p = some (.tup [.int t, .int b]) → PrF H' a r → PrF H' a z' → Q' [some (.ref a), some (.ref p), some (.int st), some (.int (1 + u)), some (.ref r), some (.ref z')] H') → sp_law_fraction K [.ref a, .int 2] H8 (fun x H1 => Q' [some (.ref a), some (.ref p), some (.int st), some (.int (1 + u)), some (.ref r), some x] H1) (WE W [some (.ref a), some (.ref p), some (.int st), some (.int (1 + u)), some (.ref r), some (.ref z)]) := fun Q' hQ =>
      ⟨_, _, rfl, a, rfl, rfl, S8, fun H9 q9 t9 c9 S9 m9 hq9 h9 c0 ht9 hc9 => hQ H9 q9 S9 (B8.trans m9) (m9 _ _ hp8 hpa) (F1.mov m9) ⟨_, _, hq9, h9, c0, Nat.lt_trans ht9 p21, Nat.lt_trans hc9 p21⟩⟩
    walk_at "ss"
    refine s_itd (fun _ => ?_) (fun _ => ?_)
    · walk_at "ss"
      refine s_itT rfl ?_
      walk_at "ss"
      exact go _ fun H' z' h1 h2 h3 h4 h5 => ⟨z', rfl, h1, h2, h3, h4, h5⟩
    · walk_at "ss"
      refine s_itd (fun _ => ?_) (fun _ => ?_)
      · walk_at "ss"
        exact go _ fun H' z' h1 h2 h3 h4 h5 => ⟨z', rfl, h1, h2, h3, h4, h5⟩
      · walk_at "ss"
        exact ⟨z, rfl, S8, B8, hp8, F1, F2⟩
  clear S8 B8 hp8 F1 F2
  rintro σ' H8 ⟨z, rfl, S8, B8, hp8, F1, F2⟩
  have pl : ∀ {H : Hp} {p : Addr}, PrF H a p → ∃ t b, p ≠ a ∧ H p = some (.tup [.int t, .int b]) ∧ Fra t b := fun h => h
  refine s_cut (fun σ' H' => ∃ (r : Addr) (t2 b2 : Int), σ' = [some (.ref a), some (.ref p), some (.int st), some (.int (1 + u)), some (.ref r), some (.ref z)] ∧ Src H' a ∧ Mov a H H' ∧ H' p = some (.tup [.int t, .int b]) ∧ PrP H' a r t2 b2 ∧ PrF H' a z) ?_ ?_
  · obtain ⟨t2, b2, hra, hr, f2⟩ := F1
    walk_at "ss"
    refine s_ixT hr (v := .int b2) rfl ?_
    walk_at "ss"
    refine s_itd (fun y => ?_) (fun y => ?_)
    · walk_at "ss"
      refine s_ixT hr (v := .int t2) rfl ?_
      walk_at "ss"
      refine s_ixT hr (v := .int b2) rfl ?_
      walk_at "ss"
      refine ⟨l2 _ _, fun r hr => ?_⟩
      have s2 := same_new (o := HO.tup [.int (-t2), .int (-b2)]) hr
      walk_at "ss"
      exact ⟨r, -t2, -b2, rfl, S8.keep s2, B8.trans (Mov.of_same s2), s2 _ _ hp8, ⟨S8.ne hr, upd_same, ⟨by omega, by rw [Int.natAbs_neg]; exact f2.ht, by rw [Int.natAbs_neg]; exact f2.hb⟩, by omega⟩, F2.mov (Mov.of_same s2)⟩
    · walk_at "ss"
      have := f2.b0
      exact ⟨r, t2, b2, rfl, S8, B8, hp8, ⟨hra, hr, f2, by omega⟩, F2⟩
  clear S8 B8 hp8 F1 F2
  rintro σ' H8 ⟨r, t2, b2, rfl, S8, B8, hp8, F1, F2⟩
  refine s_cut (fun σ' H' => ∃ (z : Addr) (t3 b3 : Int), σ' = [some (.ref a), some (.ref p), some (.int st), some (.int (1 + u)), some (.ref r), some (.ref z)] ∧ Src H' a ∧ Mov a H H' ∧ H' p = some (.tup [.int t, .int b]) ∧ PrP H' a r t2 b2 ∧ PrP H' a z t3 b3) ?_ ?_
  · obtain ⟨t3, b3, hza, hz, f3⟩ := F2
    walk_at "ss"
    refine s_ixT hz (v := .int b3) rfl ?_
    walk_at "ss"
    refine s_itd (fun y => ?_) (fun y => ?_)
    · walk_at "ss"
      refine s_ixT hz (v := .int t3) rfl ?_
      walk_at "ss"
      refine s_ixT hz (v := .int b3) rfl ?_
      walk_at "ss"
      refine ⟨l2 _ _, fun z hz => ?_⟩
      have s2 := same_new (o := HO.tup [.int (-t3), .int (-b3)]) hz
      walk_at "ss"
      exact ⟨z, -t3, -b3, rfl, S8.keep s2, B8.trans (Mov.of_same s2), s2 _ _ hp8, F1.keep s2, ⟨S8.ne hz, upd_same, ⟨by omega, by rw [Int.natAbs_neg]; exact f3.ht, by rw [Int.natAbs_neg]; exact f3.hb⟩, by omega⟩⟩
    · walk_at "ss"
      have := f3.b0
      exact ⟨z, t3, b3, rfl, S8, B8, hp8, F1, ⟨hza, hz, f3, by omega⟩⟩
  clear S8 B8 hp8 F1 F2
  rintro σ' H8 ⟨z, t3, b3, rfl, S8, B8, hp8, F1, F2⟩
  walk_at "ss"
  refine ⟨by show 3 ≤ sizeLine; rw [sizeLine_eq]; decide, fun l hl => ?_⟩
  have s9 := same_new (o := HO.lst [.ref p, .ref r, .ref z]) hl
  exact hq _ l p r z t b t2 b2 t3 b3 (S8.keep s9) (B8.trans (Mov.of_same s9)) (S8.ne hl) upd_same ⟨hpa, s9 _ _ hp8, ⟨by omega, Nat.lt_trans ht p21, Nat.lt_trans hb p21⟩, hb0⟩ (F1.keep s9) (F2.keep s9) ht
/-- two values, at least one a share -/
structure Pr2 (K : PySem.W.Frag) (H : Hp) (x y : V) (n d m e : Int) : Prop where
  X : ShV K H x n d
  Y : ShV K H y m e
  one : (∃ a, x = .ref a) ∨ (∃ b, y = .ref b)
  sn : Sm n
  sd : Sm d
  sm : Sm m
  se : Sm e
theorem Pr2.keep {K : PySem.W.Frag} {H H' : Hp} {x y : V} {n d m e : Int} (P : Pr2 K H x y n d m e) (s : Same H H') : Pr2 K H' x y n d m e := ⟨P.X.keep s, P.Y.keep s, P.one, P.sn, P.sd, P.sm, P.se⟩
section
variable {K : PySem.W.Frag} {H : Hp} {x y : V} {n d m e : Int} {sp spr : Sp} {E : L2.St → XK} {base : R2} {σ : L2.St} {Q : VK} {op : CmpOp}
theorem sh_beside (h : ShV K H y m e) : Cl.Beside H (ga K "Share") y := by
  rcases h with ⟨b, rfl, db, b1⟩ | ⟨rfl, _⟩
  · exact .own b1
  · exact .int _
theorem cmpP (P : Pr2 K H x y n d m e) (h1 : ∀ a, x = .ref a → IsSh K H a n d → sp [.ref a, y] H Q (E σ)) (h2 : ∀ b, y = .ref b → IsSh K H b m e → spr [.ref b, x] H Q (E σ)) : Cl.rCmp op [(ga K "Share", sp, spr)] E base σ x y H Q := by
  rcases P.X with ⟨a, rfl, da, a1⟩ | ⟨rfl, _⟩
  · exact .inr ⟨0, _, _, _, rfl, .inl ⟨a, da, _, rfl, a1, sh_beside P.Y, h1 a rfl ⟨da, a1⟩⟩⟩
  · rcases P.Y with ⟨b, rfl, db, b1⟩ | ⟨rfl, _⟩
    · exact .inr ⟨0, _, _, _, rfl, .inr ⟨b, db, _, .int _, rfl, b1, h2 b rfl ⟨db, b1⟩⟩⟩
    · rcases P.one with ⟨a, z⟩ | ⟨a, z⟩ <;> cases z
theorem cmp_eq (P : Pr2 K H x y n d m e) (hq : Q (.bl (decide (n = m ∧ d = e))) H) : Cl.rCmp op [(ga K "Share", sp_Share_eq K, sp_Share_eq K)] E base σ x y H Q := by
  refine cmpP P (fun a _ ha => ⟨_, _, rfl, a, n, d, rfl, ha, .inl ⟨m, e, P.Y, hq⟩⟩) (fun b _ hb => ⟨_, _, rfl, b, m, e, rfl, hb, .inl ⟨n, d, P.X, ?_⟩⟩)
  have e1 : decide (m = n ∧ e = d) = decide (n = m ∧ d = e) := decide_eq_decide.mpr ⟨fun z => ⟨z.1.symm, z.2.symm⟩, fun z => ⟨z.1.symm, z.2.symm⟩⟩
  rw [e1]
  exact hq
theorem cmp_lt (P : Pr2 K H x y n d m e) (hq : ∀ H', Same H H' → Q (.bl (decide (n * e < m * d))) H') : Cl.rCmp op [(ga K "Share", sp_Share_lt K, sp_Share_gt K)] E base σ x y H Q :=
  cmpP P (fun a _ ha => ⟨_, _, rfl, a, n, d, m, e, rfl, ha, P.Y, P.sn, P.sd, P.sm, P.se, hq⟩) (fun b _ hb => ⟨_, _, rfl, b, m, e, n, d, rfl, hb, P.X, P.sm, P.se, P.sn, P.sd, hq⟩)
theorem cmp_le (P : Pr2 K H x y n d m e) (hq : ∀ H', Same H H' → Q (.bl (!decide (m * d < n * e))) H') : Cl.rCmp op [(ga K "Share", sp_Share_le K, sp_Share_ge K)] E base σ x y H Q :=
  cmpP P (fun a _ ha => ⟨_, _, rfl, a, n, d, m, e, rfl, ha, P.Y, P.sn, P.sd, P.sm, P.se, hq⟩) (fun b _ hb => ⟨_, _, rfl, b, m, e, n, d, rfl, hb, P.X, P.sm, P.se, P.sn, P.sd, hq⟩)
theorem cmp_gt (P : Pr2 K H x y n d m e) (hq : ∀ H', Same H H' → Q (.bl (decide (m * d < n * e))) H') : Cl.rCmp op [(ga K "Share", sp_Share_gt K, sp_Share_lt K)] E base σ x y H Q :=
  cmpP P (fun a _ ha => ⟨_, _, rfl, a, n, d, m, e, rfl, ha, P.Y, P.sn, P.sd, P.sm, P.se, hq⟩) (fun b _ hb => ⟨_, _, rfl, b, m, e, n, d, rfl, hb, P.X, P.sm, P.se, P.sn, P.sd, hq⟩)
theorem cmp_ge (P : Pr2 K H x y n d m e) (hq : ∀ H', Same H H' → Q (.bl (!decide (n * e < m * d))) H') : Cl.rCmp op [(ga K "Share", sp_Share_ge K, sp_Share_le K)] E base σ x y H Q :=
  cmpP P (fun a _ ha => ⟨_, _, rfl, a, n, d, m, e, rfl, ha, P.Y, P.sn, P.sd, P.sm, P.se, hq⟩) (fun b _ hb => ⟨_, _, rfl, b, m, e, n, d, rfl, hb, P.X, P.sm, P.se, P.sn, P.sd, hq⟩)
end
theorem VF.sh {K : PySem.W.Frag} {H : Hp} {y : V} {t b : Int} (h : VF K H y t b) : ShV K H y (ntS t b) (nbS t b) := by
  rcases h with ⟨c, e, h⟩ | ⟨e, rfl⟩
  · exact .inl ⟨c, e, h⟩
  · exact .inr ⟨by rw [ntS_one]; exact e, nbS_one t⟩
theorem pr2_of {K : PySem.W.Frag} {H : Hp} {x y : V} {p q r s : Int} (hX : VF K H x p q) (hY : VF K H y r s) (h : (∃ a, x = .ref a) ∨ (∃ b, y = .ref b)) (f : Fra p q) (g : Fra r s) : Pr2 K H x y (ntS p q) (nbS p q) (ntS r s) (nbS r s) :=
  ⟨hX.sh, hY.sh, h, (sm_of f.ht).nt f.b0, (sm_of f.hb).nb f.b0, (sm_of g.ht).nt g.b0, (sm_of g.hb).nb g.b0⟩
def sp_law_compared (K : PySem.W.Frag) : Sp := Sp4 fun x y u w H Q _ => ∃ (p q : Addr) (p0 p1 q0 q1 : Int), u = .ref p ∧ w = .ref q ∧ VF K H x p0 p1 ∧ VF K H y q0 q1 ∧ ((∃ a, x = .ref a) ∨ (∃ b, y = .ref b)) ∧ H p = some (.tup [.int p0, .int p1]) ∧ H q = some (.tup [.int q0, .int q1]) ∧ Fra p0 p1 ∧ Fra q0 q1 ∧ 0 < p1 ∧ 0 < q1 ∧ ∀ H', Same H H' → Q (.bl true) H'
def N_law_compared : List PySem.Str := ["_law_one", "_law_other", "_law_p", "_law_q", "_law_left", "_law_right", "_law_told"]
def t_law_compared (K : PySem.W.Frag) (W : WX) : TS := (tSeq (tAsg (tOp rMulP (tOp (rIxP K) (tVar 2) (tC (.int 0))) (tOp (rIxP K) (tVar 3) (tC (.int 1)))) (gName 4))
    (tSeq (tAsg (tOp rMulP (tOp (rIxP K) (tVar 3) (tC (.int 0))) (tOp (rIxP K) (tVar 2) (tC (.int 1)))) (gName 5))
    (tSeq (tAsg (tLst (tCons (Cl.tOpS (Cl.rCmp .Eq [(ga K "Share", sp_Share_eq K, sp_Share_eq K)] (WE W) (rEqP K)) (tVar 0) (tVar 1)) (tCons (Cl.tOpS (Cl.rCmp .Lt [(ga K "Share", sp_Share_lt K, sp_Share_gt K)] (WE W) rLtP) (tVar 0) (tVar 1)) (tCons (Cl.tOpS (Cl.rCmp .LtE [(ga K "Share", sp_Share_le K, sp_Share_ge K)] (WE W) rLeP) (tVar 0) (tVar 1)) (tCons (Cl.tOpS (Cl.rCmp .Gt [(ga K "Share", sp_Share_gt K, sp_Share_lt K)] (WE W) rGtP) (tVar 0) (tVar 1)) (tCons (Cl.tOpS (Cl.rCmp .GtE [(ga K "Share", sp_Share_ge K, sp_Share_le K)] (WE W) rGeP) (tVar 0) (tVar 1)) tNil)))))) (gName 6))
    (tRet (tCallS (sp_law_same K) (WE W) (tCons (tVar 6) (tCons (tLst (tCons (tOp (rEqP K) (tVar 4) (tVar 5)) (tCons (tOp rLtP (tVar 4) (tVar 5)) (tCons (tOp rLeP (tVar 4) (tVar 5)) (tCons (tOp rGtP (tVar 4) (tVar 5)) (tCons (tOp rGeP (tVar 4) (tVar 5)) tNil)))))) tNil)))))))
theorem dec_ge (i j : Int) : (!decide (i < j)) = decide (j ≤ i) := by
  by_cases h : i < j
  · rw [decide_eq_true h, decide_eq_false (by omega)]; rfl
  · rw [decide_eq_false h, decide_eq_true (by omega)]; rfl
theorem pure_law_compared {K : PySem.W.Frag} {vs : List V} {H : Hp} {Q : VK} {E : XK} {W : WX} (h : sp_law_compared K vs H Q E) : t_law_compared K W { nx := fun _ H' => Q .non H', rt := Q } (start N_law_compared vs) H := by
  obtain ⟨x, y, u, w, rfl, p, q, p0, p1, q0, q1, rfl, rfl, hX, hY, h1, hp, hq', f, g, pp, qq, hq⟩ := h
  show t_law_compared K W _ [some x, some y, some (.ref p), some (.ref q), none, none, none] H
  unfold t_law_compared
  have P := pr2_of hX hY h1 f g
  have mm : ∀ i j : Int, i.natAbs < 10 ^ 40 → j.natAbs < 10 ^ 40 → CMulP i j := fun i j h1 h2 => (sm_of h1).mul (sm_of h2)
  walk_at "ss"
  refine s_ixT hp (v := .int p0) rfl ?_
  walk_at "ss"
  refine s_ixT hq' (v := .int q1) rfl ?_
  walk_at "ss"
  refine s_in2 (mm _ _ f.ht g.hb) ?_
  walk_at "ss"
  refine s_ixT hq' (v := .int q0) rfl ?_
  walk_at "ss"
  refine s_ixT hp (v := .int p1) rfl ?_
  walk_at "ss"
  refine s_in2 (mm _ _ g.ht f.hb) ?_
  walk_at "ss"
  refine cmp_eq P ?_
  walk_at "ss"
  refine cmp_lt P fun H2 s2 => ?_
  walk_at "ss"
  refine cmp_le (P.keep s2) fun H3 s3 => ?_
  walk_at "ss"
  refine cmp_gt ((P.keep s2).keep s3) fun H4 s4 => ?_
  walk_at "ss"
  refine cmp_ge (((P.keep s2).keep s3).keep s4) fun H5 s5 => ?_
  have S5 := ((s2.trans s3).trans s4).trans s5
  walk_at "ss"
  have a1 : decide (ntS p0 p1 = ntS q0 q1 ∧ nbS p0 p1 = nbS q0 q1) = decide (p0 * q1 = q0 * p1) := decide_eq_decide.mpr (eqS pp qq)
  have a2 : decide (ntS p0 p1 * nbS q0 q1 < ntS q0 q1 * nbS p0 p1) = decide (p0 * q1 < q0 * p1) := decide_eq_decide.mpr (ltS pp qq)
  have a3 : decide (ntS q0 q1 * nbS p0 p1 < ntS p0 p1 * nbS q0 q1) = decide (q0 * p1 < p0 * q1) := decide_eq_decide.mpr (ltS qq pp)
  rw [a1, a2, a3, dec_ge, dec_ge]
  generalize p0 * q1 = l
  generalize q0 * p1 = r
  refine ⟨len5, fun t ht => ?_⟩
  have s6 := same_new (o := HO.lst ([decide (l = r), decide (l < r), decide (l ≤ r), decide (r < l), decide (r ≤ l)].map V.bl)) ht
  walk_at "ss"
  refine ⟨len5, fun t2 ht2 => ?_⟩
  have s7 := same_new (o := HO.lst ([decide (l = r), decide (l < r), decide (l ≤ r), decide (r < l), decide (r ≤ l)].map V.bl)) ht2
  walk_at "ss"
  exact same_ok (.lst (s7 _ _ upd_same) (IsAll.bls [decide (l = r), decide (l < r), decide (l ≤ r), decide (r < l), decide (r ≤ l)])) (.lst upd_same (IsAll.bls [decide (l = r), decide (l < r), decide (l ≤ r), decide (r < l), decide (r ≤ l)])) (fits_bls (by show 5 ≤ 1000000; decide)) fun H9 s9 => hq H9 (((S5.trans s6).trans s7).trans s9)
def sp_law_alone (K : PySem.W.Frag) : Sp := Sp3 fun x y w H Q _ => ∃ (a p : Addr) (p0 p1 n : Int), x = .ref a ∧ y = .ref p ∧ w = .int n ∧ IsF K H a p0 p1 ∧ H p = some (.tup [.int p0, .int p1]) ∧ Fra p0 p1 ∧ 0 < p1 ∧ n.natAbs < 10 ^ 40 ∧ ∀ H', Same H H' → Q (.bl true) H'
def N_law_alone : List PySem.Str := ["_law_share", "_law_p", "_law_number_here", "_law_text", "_law_others"]
def t_law_alone (K : PySem.W.Frag) (W : WX) : TS := (tCut (tIfS (tOr (tNot (tB (tCallS (sp_law_same K) (WE W) (tCons (tCB (Cl.rBoolO [(ga K "Share", sp_Share_bool K)]) (tCons (tVar 0) tNil)) (tCons (tOp (rNeP K) (tOp (rIxP K) (tVar 1) (tC (.int 0))) (tC (.int 0))) tNil))))) (tNot (tB (tCallS (sp_law_is_share K) (WE W) (tCons (tVar 0) (tCons (tOp (rIxP K) (tVar 1) (tC (.int 0))) (tCons (tOp (rIxP K) (tVar 1) (tC (.int 1))) tNil))))))) (tRet (tC (.bl false))) tNext)
    (tCut (tIfS (tOr (tNot (tB (tCallS (sp_law_is_share K) (WE W) (tCons (tUn (Cl.rNegO [(ga K "Share", sp_Share_neg K)]) (tVar 0)) (tCons (tUn (rU fun i => .int (-i)) (tOp (rIxP K) (tVar 1) (tC (.int 0)))) (tCons (tOp (rIxP K) (tVar 1) (tC (.int 1))) tNil)))))) (tNot (tB (tCallS (sp_law_is_share K) (WE W) (tCons (tCB (Cl.rAbsO [(ga K "Share", sp_Share_abs K)]) (tCons (tVar 0) tNil)) (tCons (tCB (Cl.rAbsO [(ga K "Share", sp_Share_abs K)]) (tCons (tOp (rIxP K) (tVar 1) (tC (.int 0))) tNil)) (tCons (tOp (rIxP K) (tVar 1) (tC (.int 1))) tNil))))))) (tRet (tC (.bl false))) tNext)
    (tCut (tIfS (tOr (tNot (tB (tCallS (sp_law_compared K) (WE W) (tCons (tVar 0) (tCons (tVar 2) (tCons (tVar 1) (tCons (tTup (tCons (tVar 2) (tCons (tC (.int 1)) tNil))) tNil))))))) (tNot (tB (tCallS (sp_law_compared K) (WE W) (tCons (tVar 2) (tCons (tVar 0) (tCons (tTup (tCons (tVar 2) (tCons (tC (.int 1)) tNil))) (tCons (tVar 1) tNil)))))))) (tRet (tC (.bl false))) tNext)
    (tSeq (tAsg (tOp (rAddP K) (tOp (rAddP K) (tCB rStrP (tCons (tOp (rIxP K) (tVar 1) (tC (.int 0))) tNil)) (tC (.str "/"))) (tCB rStrP (tCons (tOp (rIxP K) (tVar 1) (tC (.int 1))) tNil))) (gName 3))
    (tSeq (tAsg (tLst (tCons (Cl.tOpS (Cl.rCmp .Eq [(ga K "Share", sp_Share_eq K, sp_Share_eq K)] (WE W) (rEqP K)) (tVar 0) (tVar 3)) (tCons (Cl.tOpS (Cl.rCmp .Eq [(ga K "Share", sp_Share_eq K, sp_Share_eq K)] (WE W) (rEqP K)) (tVar 3) (tVar 0)) (tCons (Cl.tOpS (Cl.rCmp .Eq [(ga K "Share", sp_Share_eq K, sp_Share_eq K)] (WE W) (rEqP K)) (tVar 0) (tVar 1)) (tCons (Cl.tOpS (Cl.rCmp .Eq [(ga K "Share", sp_Share_eq K, sp_Share_eq K)] (WE W) (rEqP K)) (tVar 0) (tLst (tCons (tOp (rIxP K) (tVar 1) (tC (.int 0))) (tCons (tOp (rIxP K) (tVar 1) (tC (.int 1))) tNil)))) (tCons (Cl.tOpS (Cl.rCmp .Eq [(ga K "Share", sp_Share_eq K, sp_Share_eq K)] (WE W) (rEqP K)) (tVar 0) (tCB rStrP (tCons (tOp (rIxP K) (tVar 1) (tC (.int 0))) tNil))) tNil)))))) (gName 4))
    (tRet (tCallS (sp_law_same K) (WE W) (tCons (tVar 4) (tCons (tLst (tCons (tC (.bl false)) (tCons (tC (.bl false)) (tCons (tC (.bl false)) (tCons (tC (.bl false)) (tCons (tC (.bl false)) tNil)))))) tNil)))))))))
theorem fits_5 {l : List Bool} (h : l.length ≤ 1000000) : Fits 4 (.list (l.map PyData.bool)) := fits_bls h
theorem pure_law_alone {K : PySem.W.Frag} {vs : List V} {H : Hp} {Q : VK} {E : XK} {W : WX} (h : sp_law_alone K vs H Q E) : t_law_alone K W { nx := fun _ H' => Q .non H', rt := Q } (start N_law_alone vs) H := by
  obtain ⟨x, y, w, rfl, a, p, p0, p1, n, rfl, rfl, rfl, hA, hp, f, pp, hn, hq⟩ := h
  show t_law_alone K W _ [some (.ref a), some (.ref p), some (.int n), none, none] H
  unfold t_law_alone
  have l3 : ∀ {i : Int}, i.natAbs < 10 ^ 40 → i.natAbs < 2 ^ 300 := fun h => Nat.lt_trans h (Nat.lt_trans p40 (Nat.pow_lt_pow_right (by decide) (by decide)))
  have l2 : ∀ x y : V, ([x, y] : List V).length ≤ sizeLine := fun _ _ => by show 2 ≤ sizeLine; rw [sizeLine_eq]; decide
  have fn : Fra n 1 := ⟨by decide, hn, by decide⟩
  have sd : Sm (nbS p0 p1) := (sm_of f.hb).nb f.b0
  refine s_nocut ?_
  obtain ⟨da, a1⟩ := id hA
  walk_at "ss"
  refine .inr ⟨0, _, _, a, da, _, rfl, rfl, a1, ?_⟩
  refine ⟨_, rfl, a, _, _, rfl, hA, ?_⟩
  walk_at "ss"
  refine s_ixT hp (v := .int p0) rfl ?_
  walk_at "ss"
  rw [zeroS f.b0]
  refine same_ok (.bl _) (.bl _) trivial fun H1 s1 => ?_
  walk_at "ss"
  refine s_itF rfl ?_
  walk_at "ss"
  refine s_ixT (s1 _ _ hp) (v := .int p0) rfl ?_
  walk_at "ss"
  refine s_ixT (s1 _ _ hp) (v := .int p1) rfl ?_
  walk_at "ss"
  refine ⟨_, _, _, rfl, a, p0, p1, rfl, rfl, rfl, hA.keep s1, f.b0, l3 f.hb, fun H2 s2 => ?_⟩
  have S2 := s1.trans s2
  walk_at "ss"
  refine s_itF rfl ?_
  walk_at "ss"
  refine s_nocut ?_
  walk_at "ss"
  refine .inr ⟨0, _, _, a, da, _, rfl, rfl, S2 _ _ a1, ?_⟩
  refine ⟨_, rfl, a, _, _, rfl, hA.keep S2, sd, nbS_ne f.b0, fun H3 c s3 hC => ?_⟩
  have S3 := S2.trans s3
  rw [(negS f.b0).1, (negS f.b0).2] at hC
  walk_at "ss"
  refine s_ixT (S3 _ _ hp) (v := .int p0) rfl ?_
  walk_at "ss"
  refine s_ixT (S3 _ _ hp) (v := .int p1) rfl ?_
  walk_at "ss"
  refine ⟨_, _, _, rfl, c, -p0, p1, rfl, rfl, rfl, hC, f.b0, l3 f.hb, fun H4 s4 => ?_⟩
  have S4 := S3.trans s4
  walk_at "ss"
  refine s_itF rfl ?_
  walk_at "ss"
  refine .inr ⟨0, _, _, a, da, _, rfl, rfl, S4 _ _ a1, ?_⟩
  refine ⟨_, rfl, a, _, _, rfl, hA.keep S4, Nat.lt_trans sd (Nat.pow_lt_pow_right (by decide) (by decide)), nbS_ne f.b0, fun H5 c5 s5 hC5 => ?_⟩
  have S5 := S4.trans s5
  rw [(absS pp).1, (absS pp).2] at hC5
  walk_at "ss"
  refine s_ixT (S5 _ _ hp) (v := .int p0) rfl ?_
  walk_at "ss"
  refine .inl ⟨_, rfl, ?_⟩
  walk_at "ss"
  refine s_ixT (S5 _ _ hp) (v := .int p1) rfl ?_
  walk_at "ss"
  refine ⟨_, _, _, rfl, c5, _, p1, rfl, rfl, rfl, hC5, f.b0, l3 f.hb, fun H6 s6 => ?_⟩
  have S6 := S5.trans s6
  walk_at "ss"
  refine s_itF rfl ?_
  walk_at "ss"
  refine s_nocut ?_
  walk_at "ss"
  refine ⟨l2 _ _, fun t7 ht7 => ?_⟩
  have S7 := S6.trans (same_new (o := HO.tup [.int n, .int 1]) ht7)
  have h7 := upd_same (H := H6) (a := t7) (o := HO.tup [.int n, .int 1])
  generalize upd H6 t7 (HO.tup [.int n, .int 1]) = H7 at S7 h7
  walk_at "ss"
  refine ⟨_, _, _, _, rfl, p, t7, p0, p1, n, 1, rfl, rfl, .inl ⟨a, rfl, hA.keep S7⟩, .inr ⟨rfl, rfl⟩, .inl ⟨a, rfl⟩, S7 _ _ hp, h7, f, fn, pp, by decide, fun H8 s8 => ?_⟩
  have S8 := S7.trans s8
  walk_at "ss"
  refine s_itF rfl ?_
  walk_at "ss"
  refine ⟨l2 _ _, fun t9 ht9 => ?_⟩
  have S9 := S8.trans (same_new (o := HO.tup [.int n, .int 1]) ht9)
  have h9 := upd_same (H := H8) (a := t9) (o := HO.tup [.int n, .int 1])
  generalize upd H8 t9 (HO.tup [.int n, .int 1]) = H9 at S9 h9
  walk_at "ss"
  refine ⟨_, _, _, _, rfl, t9, p, n, 1, p0, p1, rfl, rfl, .inr ⟨rfl, rfl⟩, .inl ⟨a, rfl, hA.keep S9⟩, .inr ⟨a, rfl⟩, h9, S9 _ _ hp, fn, f, by decide, pp, fun H10 s10 => ?_⟩
  have S10 := S9.trans s10
  walk_at "ss"
  refine s_itF rfl ?_
  have lg : ∀ {i : Int}, i.natAbs < 10 ^ 40 → i.natAbs.log2 < 1920 := fun h => Nat.lt_trans (log_lt (Nat.lt_trans h p40) (by decide)) (by decide)
  have tl : ∀ {i : Int}, i.natAbs < 10 ^ 40 → (Str.ofString (toString i)).length ≤ 10000 := fun h => txt_len (Nat.lt_trans (Nat.lt_trans h p40) (Nat.pow_lt_pow_right (by decide) (by decide)))
  walk_at "ss"
  refine s_ixT (S10 _ _ hp) (v := .int p0) rfl ?_
  walk_at "ss"
  refine s_strI (lg f.ht) ?_
  walk_at "ss"
  refine s_addS ?_ ?_
  · have := tl f.ht
    rw [sizeLine_eq]
    show _ + 1 ≤ _
    omega
  walk_at "ss"
  refine s_ixT (S10 _ _ hp) (v := .int p1) rfl ?_
  walk_at "ss"
  refine s_strI (lg f.hb) ?_
  walk_at "ss"
  refine s_addS ?_ ?_
  · have := tl f.ht
    have := tl f.hb
    rw [sizeLine_eq, Str.length_append]
    show _ + 1 + _ ≤ _
    omega
  generalize (Str.ofString (toString p0) ++ "/" ++ Str.ofString (toString p1)) = tx
  have A10 := S10 _ _ a1
  have noL : ∀ (H : Hp) (y : V) (Q : VK) (op : CmpOp) (E : L2.St → XK) (base : R2) (σ : L2.St), H a = some (.ins (ga K "Share") da [("top", .int (ntS p0 p1)), ("bottom", .int (nbS p0 p1))]) → Oth H y → Cl.Beside H (ga K "Share") y → Q (.bl false) H → Cl.rCmp op [(ga K "Share", sp_Share_eq K, sp_Share_eq K)] E base σ (.ref a) y H Q := fun H y Q op E base σ hA ho hb hq =>
    .inr ⟨0, _, _, _, rfl, .inl ⟨a, da, _, rfl, hA, hb, _, _, rfl, a, _, _, rfl, ⟨da, hA⟩, .inr ⟨ho, hq⟩⟩⟩
  walk_at "ss"
  refine noL _ _ _ _ _ _ _ A10 (.inl ⟨_, rfl⟩) (.str _) ?_
  walk_at "ss"
  refine .inr ⟨0, _, _, _, rfl, .inr ⟨a, da, _, .str _, rfl, A10, _, _, rfl, a, _, _, rfl, ⟨da, A10⟩, .inr ⟨.inl ⟨_, rfl⟩, ?_⟩⟩⟩
  walk_at "ss"
  refine noL _ _ _ _ _ _ _ A10 (.inr ⟨p, _, rfl, .inl (S10 _ _ hp)⟩) (.tup (S10 _ _ hp)) ?_
  walk_at "ss"
  refine s_ixT (S10 _ _ hp) (v := .int p0) rfl ?_
  walk_at "ss"
  refine s_ixT (S10 _ _ hp) (v := .int p1) rfl ?_
  walk_at "ss"
  refine ⟨l2 _ _, fun t11 ht11 => ?_⟩
  have S11 := S10.trans (same_new (o := HO.lst [.int p0, .int p1]) ht11)
  have h11 := upd_same (H := H10) (a := t11) (o := HO.lst [.int p0, .int p1])
  generalize upd H10 t11 (HO.lst [.int p0, .int p1]) = H11 at S11 h11
  refine noL _ _ _ _ _ _ _ (S11 _ _ a1) (.inr ⟨t11, _, rfl, .inr h11⟩) (.lst h11) ?_
  walk_at "ss"
  refine s_ixT (S11 _ _ hp) (v := .int p0) rfl ?_
  walk_at "ss"
  refine s_strI (lg f.ht) ?_
  refine noL _ _ _ _ _ _ _ (S11 _ _ a1) (.inl ⟨_, rfl⟩) (.str _) ?_
  walk_at "ss"
  refine ⟨len5, fun t ht => ?_⟩
  have s6 := same_new (o := HO.lst ([false, false, false, false, false].map V.bl)) ht
  walk_at "ss"
  refine ⟨len5, fun t2 ht2 => ?_⟩
  have s7 := same_new (o := HO.lst ([false, false, false, false, false].map V.bl)) ht2
  walk_at "ss"
  exact same_ok (.lst (s7 _ _ upd_same) (IsAll.bls [false, false, false, false, false])) (.lst upd_same (IsAll.bls [false, false, false, false, false])) (fits_bls (by show 5 ≤ 1000000; decide)) fun H9 s9 => hq H9 (((S11.trans s6).trans s7).trans s9)
end Rd
namespace Rd
open PySem PySem.Spec PyProof.Rows L2 He Px
/-- three pairs and their shares -/
structure Trio (K : PySem.W.Frag) (H : Hp) (q L : Addr) (ps : List (Addr × Int × Int)) (cs : List Addr) : Prop where
  hq : H q = some (.lst (ps.map fun x => V.ref x.1))
  hL : H L = some (.lst (cs.map V.ref))
  lp : ps.length = 3
  lc : cs.length = 3
  pr : ∀ x ∈ ps, H x.1 = some (.tup [.int x.2.1, .int x.2.2]) ∧ Fra x.2.1 x.2.2 ∧ 0 < x.2.2
  sh : ∀ (i : Nat) (x : Addr × Int × Int) (c : Addr), ps[i]? = some x → cs[i]? = some c → IsF K H c x.2.1 x.2.2
theorem Trio.keep {K : PySem.W.Frag} {H H' : Hp} {q L : Addr} {ps : List (Addr × Int × Int)} {cs : List Addr} (T : Trio K H q L ps cs) (s : Same H H') : Trio K H' q L ps cs :=
  ⟨s _ _ T.hq, s _ _ T.hL, T.lp, T.lc, fun x h => ⟨s _ _ (T.pr x h).1, (T.pr x h).2⟩, fun i x c h1 h2 => (T.sh i x c h1 h2).keep s⟩
theorem Trio.at {K : PySem.W.Frag} {H : Hp} {q L : Addr} {ps : List (Addr × Int × Int)} {cs : List Addr} (T : Trio K H q L ps cs) {i : Nat} (h : i < 3) : ∃ p t b c, ps[i]? = some (p, t, b) ∧ atI (ps.map fun x => V.ref x.1) (i : Int) = some (.ref p) ∧ atI (cs.map V.ref) (i : Int) = some (.ref c) ∧ H p = some (.tup [.int t, .int b]) ∧ Fra t b ∧ 0 < b ∧ IsF K H c t b := by
  have h1 : i < ps.length := by rw [T.lp]; exact h
  have h2 : i < cs.length := by rw [T.lc]; exact h
  have e1 : ps[i]? = some ps[i] := List.getElem?_eq_getElem h1
  have e2 : cs[i]? = some cs[i] := List.getElem?_eq_getElem h2
  have P := T.pr _ (List.getElem_mem h1)
  refine ⟨ps[i].1, ps[i].2.1, ps[i].2.2, cs[i], e1, atI_nat ?_, atI_nat ?_, P.1, P.2.1, P.2.2, T.sh i _ _ e1 e2⟩
  · rw [List.getElem?_map, e1]; rfl
  · rw [List.getElem?_map, e2]; rfl
def sp_law (K : PySem.W.Frag) : Sp := Sp1 fun x H Q _ => ∃ (a : Addr) (ns : List Int), x = .ref a ∧ SqL K H a (ns.map V.int) ∧ ns.length ≤ 100 ∧ ∀ H', Q (.bl true) H'
def N_law : List PySem.Str := ["_law_script", "_law_source_here", "_law_pairs", "_law_number_here", "_law_shares", "_law_pair", "_law_k", "_law_each", "_law_j"]
def t_law (K : PySem.W.Frag) (W : WX) : TS := (tSeq (tAsg (tCallS (sp_law_source K) (WE W) (tCons (tVar 0) tNil)) (gName 1))
    (tSeq (tAsg (tCallS (sp_law_three K) (WE W) (tCons (tVar 1) tNil)) (gName 2))
    (tSeq (tAsg (tOp rSubP (tOp (rAddP K) (tOp rFdivP (tOp (rIxP K) (tOp (rIxP K) (tVar 2) (tC (.int 0))) (tC (.int 0))) (tOp (rIxP K) (tOp (rIxP K) (tVar 2) (tC (.int 0))) (tC (.int 1)))) (tCallS (sp_law_take K) (WE W) (tCons (tVar 1) (tCons (tC (.int 3)) tNil)))) (tC (.int 1))) (gName 3))
    (tCut (tIfS (tTest (tOp (rEqP K) (tCallS (sp_law_take K) (WE W) (tCons (tVar 1) (tCons (tC (.int 4)) tNil))) (tC (.int 3)))) (tAsg (tCallS (sp_law_number K) (WE W) (tCons (tVar 1) (tCons (tC (.int 2)) tNil))) (gName 3)) tNext)
    (tSeq (tAsg (tLst tNil) (gName 4))
    (tCut (tFor (iAnyP K (tVar 2)) (gName 5) (tIfS (tTest (tOp (rEqP K) (tCallS (sp_law_take K) (WE W) (tCons (tVar 1) (tCons (tC (.int 2)) tNil))) (tC (.int 0)))) (tDrop (tBM K "list" rAppend (tVar 4) (tCons (Cl.tMakeS (ga K "Share") (spV_Share_init K) (WE W) (tCons (tOp (rIxP K) (tVar 5) (tC (.int 0))) (tCons (tOp (rIxP K) (tVar 5) (tC (.int 1))) tNil))) tNil))) (tDrop (tBM K "list" rAppend (tVar 4) (tCons (Cl.tMakeS (ga K "Share") (spV_Share_init K) (WE W) (tCons (tUn (rU fun i => .int (-i)) (tOp (rIxP K) (tVar 5) (tC (.int 0)))) (tCons (tUn (rU fun i => .int (-i)) (tOp (rIxP K) (tVar 5) (tC (.int 1)))) tNil))) tNil)))))
    (tCut (tFor (iRng1 (tCons (tC (.int 3)) tNil)) (gName 6) (tCut (tFor (iAnyP K (tLst (tCons (tVar 3) (tCons (tC (.int 0)) (tCons (tOp (rIxP K) (tOp (rIxP K) (tVar 2) (tVar 6)) (tC (.int 0))) tNil))))) (gName 7) (tIfS (tNot (tB (tCallS (sp_law_alone K) (WE W) (tCons (tOp (rIxP K) (tVar 4) (tVar 6)) (tCons (tOp (rIxP K) (tVar 2) (tVar 6)) (tCons (tVar 7) tNil)))))) (tRet (tC (.bl false))) tNext))
    (tFor (iRng1 (tCons (tC (.int 3)) tNil)) (gName 8) (tIfS (tNot (tB (tCallS (sp_law_compared K) (WE W) (tCons (tOp (rIxP K) (tVar 4) (tVar 6)) (tCons (tOp (rIxP K) (tVar 4) (tVar 8)) (tCons (tOp (rIxP K) (tVar 2) (tVar 6)) (tCons (tOp (rIxP K) (tVar 2) (tVar 8)) tNil))))))) (tRet (tC (.bl false))) tNext))))
    (tRet (tCB (rAll K) (tCons (tLc (iRng1 (tCons (tC (.int 3)) tNil)) (gName 6) tYes (tCall (sp_law_is_share K) [] E0 (tCons (tOp (rIxP K) (tVar 4) (tVar 6)) (tCons (tOp (rIxP K) (tOp (rIxP K) (tVar 2) (tVar 6)) (tC (.int 0))) (tCons (tOp (rIxP K) (tOp (rIxP K) (tVar 2) (tVar 6)) (tC (.int 1))) tNil)))) [6]) tNil))))))))))
theorem fdiv_abs {t b : Int} (h : 0 < b) : (t.fdiv b).natAbs ≤ t.natAbs := by
  have h1 := Int.fdiv_eq_ediv_of_nonneg t (by omega : 0 ≤ b)
  rw [h1]
  exact Int.natAbs_ediv_le_natAbs t b
theorem pure_law {K : PySem.W.Frag} {vs : List V} {H : Hp} {Q : VK} {E : XK} {W : WX} (h : sp_law K vs H Q E) : t_law K W { nx := fun _ H' => Q .non H', rt := Q } (start N_law vs) H := by
  obtain ⟨x, rfl, a, ns, rfl, hS, hl, hq⟩ := h
  show t_law K W _ [some (.ref a), none, none, none, none, none, none, none, none] H
  unfold t_law
  have p21 : (10 : Nat) ^ 21 + 10 < 10 ^ 40 := by decide +kernel
  have l3 : ∀ {i : Int}, i.natAbs < 10 ^ 40 → i.natAbs < 2 ^ 300 := fun h => Nat.lt_trans h (Nat.lt_trans p40 (Nat.pow_lt_pow_right (by decide) (by decide)))
  have u8 : ∀ {i : Int}, i.natAbs < 10 ^ 40 → i.natAbs < 2 ^ 8000 := fun h => Nat.lt_trans h (Nat.lt_trans p40 (Nat.pow_lt_pow_right (by decide) (by decide)))
  walk_at "ss"
  refine ⟨_, rfl, a, ns, rfl, hS, hl, fun H1 s s1 hs S1 => ?_⟩
  walk_at "ss"
  refine ⟨_, rfl, s, rfl, S1, fun H2 q p1 p2 p3 t1 b1 t2 b2 t3 b3 S2 B2 hqs hqL P1 P2 P3 ht1 => ?_⟩
  walk_at "ss"
  refine s_ixL hqL (v := .ref p1) rfl ?_
  walk_at "ss"
  refine s_ixT P1.at_ (v := .int t1) rfl ?_
  walk_at "ss"
  refine s_ixL hqL (v := .ref p1) rfl ?_
  walk_at "ss"
  refine s_ixT P1.at_ (v := .int b1) rfl ?_
  walk_at "ss"
  refine s_in2 ⟨P1.f.b0, Nat.lt_trans (log_lt (u8 P1.f.hb) (by decide)) (by decide)⟩ ?_
  walk_at "ss"
  refine take_ok S2 (by decide) (by decide) fun H3 n3 S3 m3 n30 n31 => ?_
  have fd := fdiv_abs (t := t1) P1.pos
  have hqL := m3 _ _ hqL hqs
  have P1 := P1.mov m3
  have P2 := P2.mov m3
  have P3 := P3.mov m3
  walk_at "ss"
  refine s_cut (fun σ' H' => ∃ (n : Int), σ' = [some (.ref a), some (.ref s), some (.ref q), some (.int n), none, none, none, none, none] ∧ Src H' s ∧ Mov s H3 H' ∧ n.natAbs < 10 ^ 40) ?_ ?_
  · walk_at "ss"
    refine take_ok S3 (by decide) (by decide) fun H4 n4 S4 m4 n40 n41 => ?_
    walk_at "ss"
    refine s_itd (fun _ => ?_) (fun _ => ?_)
    · walk_at "ss"
      refine ⟨_, _, rfl, s, 2, rfl, rfl, S4, by decide, by decide, fun H5 n S5 b5 hn => ?_⟩
      walk_at "ss"
      have hn : n.natAbs < 10 ^ 21 := hn
      exact ⟨n, rfl, S5, m4.trans b5, by omega⟩
    · walk_at "ss"
      refine ⟨_, rfl, S4, m4, ?_⟩
      generalize t1.fdiv b1 = z at fd
      omega
  rintro σ' H4 ⟨n, rfl, S4, m4, hn⟩
  have hqL := m4 _ _ hqL hqs
  have P1 := P1.mov m4
  have P2 := P2.mov m4
  have P3 := P3.mov m4
  clear S3 m3 S2 B2 S1 s1
  walk_at "ss"
  refine ⟨by show 0 ≤ sizeLine; omega, fun L hL0 => ?_⟩
  have s5 := same_new (o := HO.lst []) hL0
  have hLs := S4.ne hL0
  walk_at "ss"
  refine s_cut (fun σ' H' => ∃ (cs : List Addr) (v : Option V), σ' = [some (.ref a), some (.ref s), some (.ref q), some (.int n), some (.ref L), v, none, none, none] ∧ Trio K H' q L [(p1, t1, b1), (p2, t2, b2), (p3, t3, b3)] cs) ?_ ?_
  · walk_at "ss"
    refine forb_list (xs := [.ref p1, .ref p2, .ref p3]) (fun i σ' H' => ∃ (cs : List Addr) (v : Option V), σ' = [some (.ref a), some (.ref s), some (.ref q), some (.int n), some (.ref L), v, none, none, none] ∧ Src H' s ∧ Mov s H4 H' ∧ cs.length = i ∧ H' L = some (.lst (cs.map V.ref)) ∧ ∀ (j : Nat) (x : Addr × Int × Int) (c : Addr), ([(p1, t1, b1), (p2, t2, b2), (p3, t3, b3)] : List (Addr × Int × Int))[j]? = some x → cs[j]? = some c → IsF K H' c x.2.1 x.2.2) ?_ ?_ ?_ ?_
    · exact ⟨[], _, rfl, S4.keep s5, Mov.of_same s5, rfl, upd_same, fun j x c _ e => by simp at e⟩
    · rintro i σ' H' _ ⟨cs, v, rfl, S', M', _, _, _⟩
      exact SqL.of (M' _ _ hqL hqs)
    · rintro i y σ' H' hi ⟨cs, v, rfl, S', M', hcl, hL', hsh⟩
      have hy : ∃ p t b, y = .ref p ∧ ([(p1, t1, b1), (p2, t2, b2), (p3, t3, b3)] : List (Addr × Int × Int))[i]? = some (p, t, b) ∧ PrP H' s p t b := by
        have P1 := P1.mov M'
        have P2 := P2.mov M'
        have P3 := P3.mov M'
        match i, hi with
        | 0, hi => exact ⟨p1, t1, b1, (Option.some.inj hi).symm, rfl, P1⟩
        | 1, hi => exact ⟨p2, t2, b2, (Option.some.inj hi).symm, rfl, P2⟩
        | 2, hi => exact ⟨p3, t3, b3, (Option.some.inj hi).symm, rfl, P3⟩
        | i + 3, hi => simp at hi
      obtain ⟨p, t, b, rfl, hpi, P⟩ := hy
      have done : ∀ H'' c, Mov s H' H'' → Src H'' s → H'' L = some (.lst (cs.map V.ref)) → IsF K H'' c t b → ∃ (cs' : List Addr) (v : Option V), ([some (.ref a), some (.ref s), some (.ref q), some (.int n), some (.ref L), some (.ref p), none, none, none] : L2.St) = [some (.ref a), some (.ref s), some (.ref q), some (.int n), some (.ref L), v, none, none, none] ∧ Src (upd H'' L (.lst (cs.map V.ref ++ [.ref c]))) s ∧ Mov s H4 (upd H'' L (.lst (cs.map V.ref ++ [.ref c]))) ∧ cs'.length = i + 1 ∧ upd H'' L (.lst (cs.map V.ref ++ [.ref c])) L = some (.lst (cs'.map V.ref)) ∧ ∀ (j : Nat) (x : Addr × Int × Int) (c' : Addr), ([(p1, t1, b1), (p2, t2, b2), (p3, t3, b3)] : List (Addr × Int × Int))[j]? = some x → cs'[j]? = some c' → IsF K (upd H'' L (.lst (cs.map V.ref ++ [.ref c]))) c' x.2.1 x.2.2 := fun H'' c mv S'' hL'' hC => by
        have M'' := M'.trans mv
        refine ⟨cs ++ [c], _, rfl, S4.off hL0 M'' S'', Mov.put S4 hL0 M'', by rw [List.length_append, hcl]; rfl, by rw [upd_same, List.map_append]; rfl, fun j x c' hx hc' => ?_⟩
        have old : Old H'' (upd H'' L (.lst (cs.map V.ref ++ [.ref c]))) := old_put hL''
        by_cases hj : j < cs.length
        · rw [List.getElem?_append_left hj] at hc'
          exact ((hsh j x c' hx hc').old (mv.old S')).old old
        · have hji : j = i := by
            have := (List.getElem?_eq_some_iff.mp hc').1
            rw [List.length_append] at this
            have : ([c] : List Addr).length = 1 := rfl
            omega
          subst hji
          rw [hpi] at hx
          cases hx
          rw [← hcl, List.getElem?_append_right (Nat.le_refl _), Nat.sub_self] at hc'
          cases hc'
          exact hC.old old
      walk_at "ss"
      refine take_ok S' (by decide) (by decide) fun H5 n5 S5 m5 n50 n51 => ?_
      have P := P.mov m5
      have hL5 := m5 _ _ hL' hLs
      walk_at "ss"
      refine s_itd (fun _ => ?_) (fun _ => ?_)
      · walk_at "ss"
        refine s_tyL hL5 ?_
        walk_at "ss"
        refine s_ixT P.at_ (v := .int t) rfl ?_
        walk_at "ss"
        refine s_ixT P.at_ (v := .int b) rfl ?_
        walk_at "ss"
        refine share_new (u8 P.f.hb) P.f.b0 fun H6 c s6 _ hO => ?_
        walk_at "ss"
        refine s_app (s6 _ _ hL5) (by rw [List.length_map, hcl]; have := (List.getElem?_eq_some_iff.mp hi).1; simp at this; omega) ?_
        exact done H6 c (m5.trans (Mov.of_same s6)) (S5.keep s6) (s6 _ _ hL5) hO
      · walk_at "ss"
        refine s_tyL hL5 ?_
        walk_at "ss"
        refine s_ixT P.at_ (v := .int t) rfl ?_
        walk_at "ss"
        refine s_ixT P.at_ (v := .int b) rfl ?_
        walk_at "ss"
        have nb : (-b).natAbs < 10 ^ 40 := by rw [Int.natAbs_neg]; exact P.f.hb
        refine share_new (u8 nb) (by have := P.f.b0; omega) fun H6 c s6 _ hO => ?_
        rw [(flipS P.f.b0).1, (flipS P.f.b0).2] at hO
        walk_at "ss"
        refine s_app (s6 _ _ hL5) (by rw [List.length_map, hcl]; have := (List.getElem?_eq_some_iff.mp hi).1; simp at this; omega) ?_
        exact done H6 c (m5.trans (Mov.of_same s6)) (S5.keep s6) (s6 _ _ hL5) hO
    · rintro σ' H' ⟨cs, v, rfl, S', M', hcl, hL', hsh⟩
      refine ⟨cs, v, rfl, ⟨M' _ _ hqL hqs, hL', rfl, hcl, fun x hx => ?_, hsh⟩⟩
      have P1 := P1.mov M'
      have P2 := P2.mov M'
      have P3 := P3.mov M'
      simp only [List.mem_cons, List.not_mem_nil, or_false] at hx
      rcases hx with rfl | rfl | rfl
      · exact ⟨P1.at_, P1.f, P1.pos⟩
      · exact ⟨P2.at_, P2.f, P2.pos⟩
      · exact ⟨P3.at_, P3.f, P3.pos⟩
  clear P1 P2 P3 hqL s5 S4 m4 hL0 hqs hLs ht1 fd
  rintro σ' H5 ⟨cs, v, rfl, T⟩
  generalize [(p1, t1, b1), (p2, t2, b2), (p3, t3, b3)] = ps at T
  refine s_cut (fun σ' H' => ∃ (v6 v7 v8 : Option V), σ' = [some (.ref a), some (.ref s), some (.ref q), some (.int n), some (.ref L), v, v6, v7, v8] ∧ Same H5 H') ?_ ?_
  · walk_at "ss"
    refine forr_inv (by decide) (by decide) (fun i σ' H' => ∃ (v6 v7 v8 : Option V), σ' = [some (.ref a), some (.ref s), some (.ref q), some (.int n), some (.ref L), v, v6, v7, v8] ∧ Same H5 H') ⟨_, _, _, rfl, Same.refl _⟩ ?_ (fun σ' H' h => h)
    rintro i σ' H6 hi ⟨v6, v7, v8, rfl, S6⟩
    have hi3 : i < 3 := by omega
    have T6 := T.keep S6
    walk_at "ss"
    refine s_cut (fun σ' H' => ∃ (v7 v8 : Option V), σ' = [some (.ref a), some (.ref s), some (.ref q), some (.int n), some (.ref L), v, some (.int i), v7, v8] ∧ Same H6 H') ?_ ?_
    · obtain ⟨p, t, b, c, hpi, e1, e2, hp, f, pos, hC⟩ := T6.at hi3
      walk_at "ss"
      refine s_ixL T6.hq e1 ?_
      walk_at "ss"
      refine s_ixT hp (v := .int t) rfl ?_
      walk_at "ss"
      refine ⟨by show 3 ≤ sizeLine; rw [sizeLine_eq]; decide, fun l hl => ?_⟩
      have s7 := same_new (o := HO.lst [.int n, .int 0, .int t]) hl
      refine forb_list (xs := [.int n, .int 0, .int t]) (fun i' σ' H' => ∃ (v7 v8 : Option V), σ' = [some (.ref a), some (.ref s), some (.ref q), some (.int n), some (.ref L), v, some (.int i), v7, v8] ∧ Same H6 H' ∧ H' l = some (.lst [.int n, .int 0, .int t])) ⟨_, _, rfl, s7, upd_same⟩ ?_ ?_ (fun σ' H' ⟨v7, v8, e, s, _⟩ => ⟨v7, v8, e, s⟩)
      · rintro j σ' H' _ ⟨v7, v8, _, _, h⟩
        exact SqL.of h
      · rintro j y σ' H7 hj ⟨v7, v8, rfl, S7, hl7⟩
        have hy : ∃ m : Int, y = .int m ∧ m.natAbs < 10 ^ 40 := by
          match j, hj with
          | 0, hj => exact ⟨n, (Option.some.inj hj).symm, hn⟩
          | 1, hj => exact ⟨0, (Option.some.inj hj).symm, by decide⟩
          | 2, hj => exact ⟨t, (Option.some.inj hj).symm, f.ht⟩
          | j + 3, hj => simp at hj
        obtain ⟨m, rfl, hm⟩ := hy
        have T7 := T6.keep S7
        walk_at "ss"
        refine s_ixL T7.hL e2 ?_
        walk_at "ss"
        refine s_ixL T7.hq e1 ?_
        walk_at "ss"
        refine ⟨_, _, _, rfl, c, p, t, b, m, rfl, rfl, rfl, hC.keep S7, S7 _ _ hp, f, pos, hm, fun H8 s8 => ?_⟩
        walk_at "ss"
        refine s_itF rfl ?_
        walk_at "ss"
        exact ⟨_, _, rfl, S7.trans s8, s8 _ _ hl7⟩
    · rintro σ' H7 ⟨v7, v8, rfl, S7⟩
      have T7 := T6.keep S7
      walk_at "ss"
      refine forr_inv (by decide) (by decide) (fun j σ' H' => ∃ (v8 : Option V), σ' = [some (.ref a), some (.ref s), some (.ref q), some (.int n), some (.ref L), v, some (.int i), v7, v8] ∧ Same H7 H') ⟨_, rfl, Same.refl _⟩ ?_ (fun σ' H' ⟨v8, e, s⟩ => ⟨_, _, _, e, (S6.trans S7).trans s⟩)
      rintro j σ' H8 hj ⟨v8, rfl, S8⟩
      have T8 := T7.keep S8
      obtain ⟨p, t, b, c, hpi, e1, e2, hp, f, pos, hC⟩ := T8.at hi3
      obtain ⟨p', t', b', c', hpi', e1', e2', hp', f', pos', hC'⟩ := T8.at (i := j) (by omega)
      walk_at "ss"
      refine s_ixL T8.hL e2 ?_
      walk_at "ss"
      refine s_ixL T8.hL e2' ?_
      walk_at "ss"
      refine s_ixL T8.hq e1 ?_
      walk_at "ss"
      refine s_ixL T8.hq e1' ?_
      walk_at "ss"
      refine ⟨_, _, _, _, rfl, p, p', t, b, t', b', rfl, rfl, .inl ⟨c, rfl, hC⟩, .inl ⟨c', rfl, hC'⟩, .inl ⟨c, rfl⟩, hp, hp', f, f', pos, pos', fun H9 s9 => ?_⟩
      walk_at "ss"
      refine s_itF rfl ?_
      walk_at "ss"
      exact ⟨_, rfl, S8.trans s9⟩
  rintro σ' H6 ⟨v6, v7, v8, rfl, S6⟩
  have T6 := T.keep S6
  walk_at "ss"
  refine lcr_map (fun _ => .bl true) (by decide) (by decide) (fun i hi H7 S7 Q' hQ => ?_) (fun D H7 _ S7 hD => ?_)
  · have T7 := T6.keep S7
    obtain ⟨p, t, b, c, hpi, e1, e2, hp, f, pos, hC⟩ := T7.at (i := i) (by omega)
    show tCall _ _ _ _ [some (.ref a), some (.ref s), some (.ref q), some (.int n), some (.ref L), v, some (.int i), v7, v8] H7 Q'
    walk_at "ss"
    refine s_ixL T7.hL e2 ?_
    walk_at "ss"
    refine s_ixL T7.hq e1 ?_
    walk_at "ss"
    refine s_ixT hp (v := .int t) rfl ?_
    walk_at "ss"
    refine s_ixL T7.hq e1 ?_
    walk_at "ss"
    refine s_ixT hp (v := .int b) rfl ?_
    walk_at "ss"
    exact ⟨_, _, _, rfl, c, t, b, rfl, rfl, rfl, hC, f.b0, l3 f.hb, fun H8 s8 => hQ H8 s8⟩
  · walk_at "ss"
    exact s_all (bs := [true, true, true]) hD (hq H7)
end Rd
end
namespace Ok
open PySem PySem.Spec PyProof.Rows L2 He Hk Px Rd
structure Tx (w : World) (K : PySem.W.Frag) (mg : PySem.Str → Option Value) : Prop where
  c : SaysZ Hd.fa Hd.ex Hd.its K
  g : ∃ h : Heap, K.In h ∧ h.Ns mainGlobals mg
section
variable {w : World} {K : PySem.W.Frag} {mg : PySem.Str → Option Value}
theorem Tx.g_as_share (T : Tx w K mg) : mg "as_share" = some (.ref (ga K "as_share")) := by
  obtain ⟨h, X, G⟩ := T.g
  exact glo_ok X G (T.c.fact 0 (f := .glo "as_share") rfl)
theorem Tx.g_less (T : Tx w K mg) : mg "less" = some (.ref (ga K "less")) := by
  obtain ⟨h, X, G⟩ := T.g
  exact glo_ok X G (T.c.fact 1 (f := .glo "less") rfl)
theorem Tx.g_law_source (T : Tx w K mg) : mg "_law_source" = some (.ref (ga K "_law_source")) := by
  obtain ⟨h, X, G⟩ := T.g
  exact glo_ok X G (T.c.fact 2 (f := .glo "_law_source") rfl)
theorem Tx.g_law_take (T : Tx w K mg) : mg "_law_take" = some (.ref (ga K "_law_take")) := by
  obtain ⟨h, X, G⟩ := T.g
  exact glo_ok X G (T.c.fact 3 (f := .glo "_law_take") rfl)
theorem Tx.g_law_same (T : Tx w K mg) : mg "_law_same" = some (.ref (ga K "_law_same")) := by
  obtain ⟨h, X, G⟩ := T.g
  exact glo_ok X G (T.c.fact 4 (f := .glo "_law_same") rfl)
theorem Tx.g_law_gcd (T : Tx w K mg) : mg "_law_gcd" = some (.ref (ga K "_law_gcd")) := by
  obtain ⟨h, X, G⟩ := T.g
  exact glo_ok X G (T.c.fact 5 (f := .glo "_law_gcd") rfl)
theorem Tx.g_law_is_share (T : Tx w K mg) : mg "_law_is_share" = some (.ref (ga K "_law_is_share")) := by
  obtain ⟨h, X, G⟩ := T.g
  exact glo_ok X G (T.c.fact 6 (f := .glo "_law_is_share") rfl)
theorem Tx.g_law_number (T : Tx w K mg) : mg "_law_number" = some (.ref (ga K "_law_number")) := by
  obtain ⟨h, X, G⟩ := T.g
  exact glo_ok X G (T.c.fact 7 (f := .glo "_law_number") rfl)
theorem Tx.g_law_fraction (T : Tx w K mg) : mg "_law_fraction" = some (.ref (ga K "_law_fraction")) := by
  obtain ⟨h, X, G⟩ := T.g
  exact glo_ok X G (T.c.fact 8 (f := .glo "_law_fraction") rfl)
theorem Tx.g_law_three (T : Tx w K mg) : mg "_law_three" = some (.ref (ga K "_law_three")) := by
  obtain ⟨h, X, G⟩ := T.g
  exact glo_ok X G (T.c.fact 9 (f := .glo "_law_three") rfl)
theorem Tx.g_law_compared (T : Tx w K mg) : mg "_law_compared" = some (.ref (ga K "_law_compared")) := by
  obtain ⟨h, X, G⟩ := T.g
  exact glo_ok X G (T.c.fact 10 (f := .glo "_law_compared") rfl)
theorem Tx.g_law_alone (T : Tx w K mg) : mg "_law_alone" = some (.ref (ga K "_law_alone")) := by
  obtain ⟨h, X, G⟩ := T.g
  exact glo_ok X G (T.c.fact 11 (f := .glo "_law_alone") rfl)
theorem Tx.g_law (T : Tx w K mg) : mg "law" = some (.ref (ga K "law")) := by
  obtain ⟨h, X, G⟩ := T.g
  exact glo_ok X G (T.c.fact 12 (f := .glo "law") rfl)
theorem Tx.g_Share (T : Tx w K mg) : mg "Share" = some (.ref (ga K "Share")) := by
  obtain ⟨h, X, G⟩ := T.g
  exact glo_ok X G (T.c.fact 13 (f := .glo "Share") rfl)
theorem Tx.cls_Share (T : Tx w K mg) : Cls K (ga K "Share") := cls_ok (T.c.fact 14 (f := .cls "Share") rfl)
theorem Tx.mk_Share (T : Tx w K mg) : Mk K (ga K "Share") (ma K (ga K "Share") "__init__") := mkr_ok (T.c.fact 15 (f := .mkr "Share") rfl)
theorem Tx.no_Share_bottom (T : Tx w K mg) : NoAttr K (ga K "Share") "bottom" := noat_ok (T.c.fact 16 (f := .noat "Share" "bottom") rfl)
theorem Tx.no_Share_top (T : Tx w K mg) : NoAttr K (ga K "Share") "top" := noat_ok (T.c.fact 17 (f := .noat "Share" "top") rfl)
theorem Tx.g_HornError (T : Tx w K mg) : mg "HornError" = some (.ref (ga K "HornError")) := by
  obtain ⟨h, X, G⟩ := T.g
  exact glo_ok X G (T.c.fact 18 (f := .glo "HornError") rfl)
theorem Tx.g_BadShare (T : Tx w K mg) : mg "BadShare" = some (.ref (ga K "BadShare")) := by
  obtain ⟨h, X, G⟩ := T.g
  exact glo_ok X G (T.c.fact 19 (f := .glo "BadShare") rfl)
theorem Tx.g_ZeroBelow (T : Tx w K mg) : mg "ZeroBelow" = some (.ref (ga K "ZeroBelow")) := by
  obtain ⟨h, X, G⟩ := T.g
  exact glo_ok X G (T.c.fact 20 (f := .glo "ZeroBelow") rfl)
theorem Tx.c_DIGITS (T : Tx w K mg) : ∃ t, mg "DIGITS" = some (.str "0123456789" t) := by
  obtain ⟨h, X, G⟩ := T.g
  exact str_ok X G (T.c.fact 21 (f := .str "DIGITS" "0123456789") rfl)
theorem Tx.c_SIZE (T : Tx w K mg) : ∃ t, mg "SIZE" = some (.int 60 t) := by
  obtain ⟨h, X, G⟩ := T.g
  exact int_ok X G (T.c.fact 22 (f := .int "SIZE" 60) rfl)
theorem Tx.f_NotImplemented (T : Tx w K mg) : mg "NotImplemented" = none := by
  obtain ⟨h, X, G⟩ := T.g
  exact free_ok X G (T.c.fact 23 (f := .free "NotImplemented") rfl)
theorem Tx.f_ValueError (T : Tx w K mg) : mg "ValueError" = none := by
  obtain ⟨h, X, G⟩ := T.g
  exact free_ok X G (T.c.fact 24 (f := .free "ValueError") rfl)
theorem Tx.f_abs (T : Tx w K mg) : mg "abs" = none := by
  obtain ⟨h, X, G⟩ := T.g
  exact free_ok X G (T.c.fact 25 (f := .free "abs") rfl)
theorem Tx.f_all (T : Tx w K mg) : mg "all" = none := by
  obtain ⟨h, X, G⟩ := T.g
  exact free_ok X G (T.c.fact 26 (f := .free "all") rfl)
theorem Tx.f_bool (T : Tx w K mg) : mg "bool" = none := by
  obtain ⟨h, X, G⟩ := T.g
  exact free_ok X G (T.c.fact 27 (f := .free "bool") rfl)
theorem Tx.f_int (T : Tx w K mg) : mg "int" = none := by
  obtain ⟨h, X, G⟩ := T.g
  exact free_ok X G (T.c.fact 28 (f := .free "int") rfl)
theorem Tx.f_isinstance (T : Tx w K mg) : mg "isinstance" = none := by
  obtain ⟨h, X, G⟩ := T.g
  exact free_ok X G (T.c.fact 29 (f := .free "isinstance") rfl)
theorem Tx.f_len (T : Tx w K mg) : mg "len" = none := by
  obtain ⟨h, X, G⟩ := T.g
  exact free_ok X G (T.c.fact 30 (f := .free "len") rfl)
theorem Tx.f_list (T : Tx w K mg) : mg "list" = none := by
  obtain ⟨h, X, G⟩ := T.g
  exact free_ok X G (T.c.fact 31 (f := .free "list") rfl)
theorem Tx.f_range (T : Tx w K mg) : mg "range" = none := by
  obtain ⟨h, X, G⟩ := T.g
  exact free_ok X G (T.c.fact 32 (f := .free "range") rfl)
theorem Tx.f_staticmethod (T : Tx w K mg) : mg "staticmethod" = none := by
  obtain ⟨h, X, G⟩ := T.g
  exact free_ok X G (T.c.fact 33 (f := .free "staticmethod") rfl)
theorem Tx.f_str (T : Tx w K mg) : mg "str" = none := by
  obtain ⟨h, X, G⟩ := T.g
  exact free_ok X G (T.c.fact 34 (f := .free "str") rfl)
theorem Tx.f_tuple (T : Tx w K mg) : mg "tuple" = none := by
  obtain ⟨h, X, G⟩ := T.g
  exact free_ok X G (T.c.fact 35 (f := .free "tuple") rfl)
theorem Tx.own_Share_neg (T : Tx w K mg) : Cl.OwnOp K (ga K "Share") "__neg__" (ma K (ga K "Share") "__neg__") := ownB_ok (T.c.more 0 (f := fun K => Hk.ownB K (ga K "Share") "__neg__") rfl)
theorem Tx.own_Share_abs (T : Tx w K mg) : Cl.OwnOp K (ga K "Share") "__abs__" (ma K (ga K "Share") "__abs__") := ownB_ok (T.c.more 1 (f := fun K => Hk.ownB K (ga K "Share") "__abs__") rfl)
theorem Tx.own_Share_bool (T : Tx w K mg) : Cl.OwnOp K (ga K "Share") "__bool__" (ma K (ga K "Share") "__bool__") := ownB_ok (T.c.more 2 (f := fun K => Hk.ownB K (ga K "Share") "__bool__") rfl)
theorem Tx.own_Share_eq (T : Tx w K mg) : Cl.OwnOp K (ga K "Share") "__eq__" (ma K (ga K "Share") "__eq__") := ownB_ok (T.c.more 3 (f := fun K => Hk.ownB K (ga K "Share") "__eq__") rfl)
theorem Tx.own_Share_lt (T : Tx w K mg) : Cl.OwnOp K (ga K "Share") "__lt__" (ma K (ga K "Share") "__lt__") := ownB_ok (T.c.more 4 (f := fun K => Hk.ownB K (ga K "Share") "__lt__") rfl)
theorem Tx.own_Share_le (T : Tx w K mg) : Cl.OwnOp K (ga K "Share") "__le__" (ma K (ga K "Share") "__le__") := ownB_ok (T.c.more 5 (f := fun K => Hk.ownB K (ga K "Share") "__le__") rfl)
theorem Tx.own_Share_gt (T : Tx w K mg) : Cl.OwnOp K (ga K "Share") "__gt__" (ma K (ga K "Share") "__gt__") := ownB_ok (T.c.more 6 (f := fun K => Hk.ownB K (ga K "Share") "__gt__") rfl)
theorem Tx.own_Share_ge (T : Tx w K mg) : Cl.OwnOp K (ga K "Share") "__ge__" (ma K (ga K "Share") "__ge__") := ownB_ok (T.c.more 7 (f := fun K => Hk.ownB K (ga K "Share") "__ge__") rfl)
theorem Tx.cmpk_Share_eq (T : Tx w K mg) : Cl.CmpK K (ga K "Share") .Eq (ma K (ga K "Share") "__eq__") (ma K (ga K "Share") "__eq__") := cmpKB_ok (T.c.more 8 (f := fun K => Hk.cmpKB K (ga K "Share") "__eq__" "__eq__") rfl) Cl.dd_eq Hk.dr_eq
theorem Tx.cmpk_Share_lt (T : Tx w K mg) : Cl.CmpK K (ga K "Share") .Lt (ma K (ga K "Share") "__lt__") (ma K (ga K "Share") "__gt__") := cmpKB_ok (T.c.more 9 (f := fun K => Hk.cmpKB K (ga K "Share") "__lt__" "__gt__") rfl) Cl.dd_lt Hk.dr_lt
theorem Tx.cmpk_Share_le (T : Tx w K mg) : Cl.CmpK K (ga K "Share") .LtE (ma K (ga K "Share") "__le__") (ma K (ga K "Share") "__ge__") := cmpKB_ok (T.c.more 10 (f := fun K => Hk.cmpKB K (ga K "Share") "__le__" "__ge__") rfl) Cl.dd_le Hk.dr_le
theorem Tx.cmpk_Share_gt (T : Tx w K mg) : Cl.CmpK K (ga K "Share") .Gt (ma K (ga K "Share") "__gt__") (ma K (ga K "Share") "__lt__") := cmpKB_ok (T.c.more 11 (f := fun K => Hk.cmpKB K (ga K "Share") "__gt__" "__lt__") rfl) Cl.dd_gt Hk.dr_gt
theorem Tx.cmpk_Share_ge (T : Tx w K mg) : Cl.CmpK K (ga K "Share") .GtE (ma K (ga K "Share") "__ge__") (ma K (ga K "Share") "__le__") := cmpKB_ok (T.c.more 12 (f := fun K => Hk.cmpKB K (ga K "Share") "__ge__" "__le__") rfl) Cl.dd_ge Hk.dr_ge
theorem Tx.i_gcd (T : Tx w K mg) : mg "gcd" = some (.builtin "math.gcd") := by
  obtain ⟨h, X, G⟩ := T.g
  exact PySem.W.mg_of X G (eqO_ok (T.c.more 13 (f := fun K => Hk.bltB K "gcd" "math.gcd") rfl))
theorem Tx.ins_Share (T : Tx w K mg) : InsK K (ga K "Share") := insKB_ok T.cls_Share (T.c.more 14 (f := fun K => Hk.insKB K (ga K "Share")) rfl)
theorem Tx.kit_int_int (T : Tx w K mg) : PySem.W.kitOne K (.type "int") (.type "int") = some true := kitB_ok (T.c.more 15 (f := fun K => Hk.kitB K (.type "int") (.type "int") true) rfl)
theorem Tx.kit_str_str (T : Tx w K mg) : PySem.W.kitOne K (.type "str") (.type "str") = some true := kitB_ok (T.c.more 16 (f := fun K => Hk.kitB K (.type "str") (.type "str") true) rfl)
theorem Tx.kit_tuple_tuple (T : Tx w K mg) : PySem.W.kitOne K (.type "tuple") (.type "tuple") = some true := kitB_ok (T.c.more 17 (f := fun K => Hk.kitB K (.type "tuple") (.type "tuple") true) rfl)
theorem Tx.kit_list_list (T : Tx w K mg) : PySem.W.kitOne K (.type "list") (.type "list") = some true := kitB_ok (T.c.more 18 (f := fun K => Hk.kitB K (.type "list") (.type "list") true) rfl)
theorem Tx.kit_int_Share (T : Tx w K mg) : PySem.W.kitOne K (.type "int") (.ref (ga K "Share")) = some false := kitB_ok (T.c.more 19 (f := fun K => Hk.kitB K (.type "int") (.ref (ga K "Share")) false) rfl)
theorem Tx.kit_str_Share (T : Tx w K mg) : PySem.W.kitOne K (.type "str") (.ref (ga K "Share")) = some false := kitB_ok (T.c.more 20 (f := fun K => Hk.kitB K (.type "str") (.ref (ga K "Share")) false) rfl)
theorem Tx.kit_tuple_Share (T : Tx w K mg) : PySem.W.kitOne K (.type "tuple") (.ref (ga K "Share")) = some false := kitB_ok (T.c.more 21 (f := fun K => Hk.kitB K (.type "tuple") (.ref (ga K "Share")) false) rfl)
theorem Tx.kit_list_Share (T : Tx w K mg) : PySem.W.kitOne K (.type "list") (.ref (ga K "Share")) = some false := kitB_ok (T.c.more 22 (f := fun K => Hk.kitB K (.type "list") (.ref (ga K "Share")) false) rfl)
theorem Tx.kit_Share_int (T : Tx w K mg) : PySem.W.kitOne K (.ref (ga K "Share")) (.type "int") = some false := kitB_ok (T.c.more 23 (f := fun K => Hk.kitB K (.ref (ga K "Share")) (.type "int") false) rfl)
theorem Tx.kit_Share_str (T : Tx w K mg) : PySem.W.kitOne K (.ref (ga K "Share")) (.type "str") = some false := kitB_ok (T.c.more 24 (f := fun K => Hk.kitB K (.ref (ga K "Share")) (.type "str") false) rfl)
theorem Tx.kit_Share_tuple (T : Tx w K mg) : PySem.W.kitOne K (.ref (ga K "Share")) (.type "tuple") = some false := kitB_ok (T.c.more 25 (f := fun K => Hk.kitB K (.ref (ga K "Share")) (.type "tuple") false) rfl)
theorem Tx.kit_Share_list (T : Tx w K mg) : PySem.W.kitOne K (.ref (ga K "Share")) (.type "list") = some false := kitB_ok (T.c.more 26 (f := fun K => Hk.kitB K (.ref (ga K "Share")) (.type "list") false) rfl)
theorem Tx.kit_Share_Share (T : Tx w K mg) : PySem.W.kitOne K (.ref (ga K "Share")) (.ref (ga K "Share")) = some true := kitB_ok (T.c.more 27 (f := fun K => Hk.kitB K (.ref (ga K "Share")) (.ref (ga K "Share")) true) rfl)
theorem Tx.fn_as_share (T : Tx w K mg) : FunD K Hd.d_as_share.name Hd.d_as_share.qual (defArgs Hd.s_as_share) (defBody Hd.s_as_share) (defScope Hd.s_as_share) [] [] (Hd.d_as_share.at_ K) (fdOf K (Hd.d_as_share.at_ K)) := T.c.fn 0 (d := Hd.d_as_share) rfl
theorem Tx.fn_less (T : Tx w K mg) : FunD K Hd.d_less.name Hd.d_less.qual (defArgs Hd.s_less) (defBody Hd.s_less) (defScope Hd.s_less) [] [] (Hd.d_less.at_ K) (fdOf K (Hd.d_less.at_ K)) := T.c.fn 1 (d := Hd.d_less) rfl
theorem Tx.fn_law_source (T : Tx w K mg) : FunD K Hd.d_law_source.name Hd.d_law_source.qual (defArgs Hd.s_law_source) (defBody Hd.s_law_source) (defScope Hd.s_law_source) [] [] (Hd.d_law_source.at_ K) (fdOf K (Hd.d_law_source.at_ K)) := T.c.fn 2 (d := Hd.d_law_source) rfl
theorem Tx.fn_law_take (T : Tx w K mg) : FunD K Hd.d_law_take.name Hd.d_law_take.qual (defArgs Hd.s_law_take) (defBody Hd.s_law_take) (defScope Hd.s_law_take) [] [] (Hd.d_law_take.at_ K) (fdOf K (Hd.d_law_take.at_ K)) := T.c.fn 3 (d := Hd.d_law_take) rfl
theorem Tx.fn_law_same (T : Tx w K mg) : FunD K Hd.d_law_same.name Hd.d_law_same.qual (defArgs Hd.s_law_same) (defBody Hd.s_law_same) (defScope Hd.s_law_same) [] [] (Hd.d_law_same.at_ K) (fdOf K (Hd.d_law_same.at_ K)) := T.c.fn 4 (d := Hd.d_law_same) rfl
theorem Tx.fn_law_gcd (T : Tx w K mg) : FunD K Hd.d_law_gcd.name Hd.d_law_gcd.qual (defArgs Hd.s_law_gcd) (defBody Hd.s_law_gcd) (defScope Hd.s_law_gcd) [] [] (Hd.d_law_gcd.at_ K) (fdOf K (Hd.d_law_gcd.at_ K)) := T.c.fn 5 (d := Hd.d_law_gcd) rfl
theorem Tx.fn_law_is_share (T : Tx w K mg) : FunD K Hd.d_law_is_share.name Hd.d_law_is_share.qual (defArgs Hd.s_law_is_share) (defBody Hd.s_law_is_share) (defScope Hd.s_law_is_share) [] [] (Hd.d_law_is_share.at_ K) (fdOf K (Hd.d_law_is_share.at_ K)) := T.c.fn 6 (d := Hd.d_law_is_share) rfl
theorem Tx.fn_law_number (T : Tx w K mg) : FunD K Hd.d_law_number.name Hd.d_law_number.qual (defArgs Hd.s_law_number) (defBody Hd.s_law_number) (defScope Hd.s_law_number) [] [] (Hd.d_law_number.at_ K) (fdOf K (Hd.d_law_number.at_ K)) := T.c.fn 7 (d := Hd.d_law_number) rfl
theorem Tx.fn_law_fraction (T : Tx w K mg) : FunD K Hd.d_law_fraction.name Hd.d_law_fraction.qual (defArgs Hd.s_law_fraction) (defBody Hd.s_law_fraction) (defScope Hd.s_law_fraction) [] [] (Hd.d_law_fraction.at_ K) (fdOf K (Hd.d_law_fraction.at_ K)) := T.c.fn 8 (d := Hd.d_law_fraction) rfl
theorem Tx.fn_law_three (T : Tx w K mg) : FunD K Hd.d_law_three.name Hd.d_law_three.qual (defArgs Hd.s_law_three) (defBody Hd.s_law_three) (defScope Hd.s_law_three) [] [] (Hd.d_law_three.at_ K) (fdOf K (Hd.d_law_three.at_ K)) := T.c.fn 9 (d := Hd.d_law_three) rfl
theorem Tx.fn_law_compared (T : Tx w K mg) : FunD K Hd.d_law_compared.name Hd.d_law_compared.qual (defArgs Hd.s_law_compared) (defBody Hd.s_law_compared) (defScope Hd.s_law_compared) [] [] (Hd.d_law_compared.at_ K) (fdOf K (Hd.d_law_compared.at_ K)) := T.c.fn 10 (d := Hd.d_law_compared) rfl
theorem Tx.fn_law_alone (T : Tx w K mg) : FunD K Hd.d_law_alone.name Hd.d_law_alone.qual (defArgs Hd.s_law_alone) (defBody Hd.s_law_alone) (defScope Hd.s_law_alone) [] [] (Hd.d_law_alone.at_ K) (fdOf K (Hd.d_law_alone.at_ K)) := T.c.fn 11 (d := Hd.d_law_alone) rfl
theorem Tx.fn_law (T : Tx w K mg) : FunD K Hd.d_law.name Hd.d_law.qual (defArgs Hd.s_law) (defBody Hd.s_law) (defScope Hd.s_law) [] [] (Hd.d_law.at_ K) (fdOf K (Hd.d_law.at_ K)) := T.c.fn 12 (d := Hd.d_law) rfl
theorem Tx.fn_Share_init (T : Tx w K mg) : FunD K Hd.d_Share_init.name Hd.d_Share_init.qual (defArgs Hd.s_Share_init) (defBody Hd.s_Share_init) (defScope Hd.s_Share_init) [.int 1] [] (Hd.d_Share_init.at_ K) (fdOf K (Hd.d_Share_init.at_ K)) := T.c.fn 13 (d := Hd.d_Share_init) rfl
theorem Tx.fn_Share_neg (T : Tx w K mg) : FunD K Hd.d_Share_neg.name Hd.d_Share_neg.qual (defArgs Hd.s_Share_neg) (defBody Hd.s_Share_neg) (defScope Hd.s_Share_neg) [] [] (Hd.d_Share_neg.at_ K) (fdOf K (Hd.d_Share_neg.at_ K)) := T.c.fn 14 (d := Hd.d_Share_neg) rfl
theorem Tx.fn_Share_abs (T : Tx w K mg) : FunD K Hd.d_Share_abs.name Hd.d_Share_abs.qual (defArgs Hd.s_Share_abs) (defBody Hd.s_Share_abs) (defScope Hd.s_Share_abs) [] [] (Hd.d_Share_abs.at_ K) (fdOf K (Hd.d_Share_abs.at_ K)) := T.c.fn 15 (d := Hd.d_Share_abs) rfl
theorem Tx.fn_Share_bool (T : Tx w K mg) : FunD K Hd.d_Share_bool.name Hd.d_Share_bool.qual (defArgs Hd.s_Share_bool) (defBody Hd.s_Share_bool) (defScope Hd.s_Share_bool) [] [] (Hd.d_Share_bool.at_ K) (fdOf K (Hd.d_Share_bool.at_ K)) := T.c.fn 16 (d := Hd.d_Share_bool) rfl
theorem Tx.fn_Share_eq (T : Tx w K mg) : FunD K Hd.d_Share_eq.name Hd.d_Share_eq.qual (defArgs Hd.s_Share_eq) (defBody Hd.s_Share_eq) (defScope Hd.s_Share_eq) [] [] (Hd.d_Share_eq.at_ K) (fdOf K (Hd.d_Share_eq.at_ K)) := T.c.fn 17 (d := Hd.d_Share_eq) rfl
theorem Tx.fn_Share_lt (T : Tx w K mg) : FunD K Hd.d_Share_lt.name Hd.d_Share_lt.qual (defArgs Hd.s_Share_lt) (defBody Hd.s_Share_lt) (defScope Hd.s_Share_lt) [] [] (Hd.d_Share_lt.at_ K) (fdOf K (Hd.d_Share_lt.at_ K)) := T.c.fn 18 (d := Hd.d_Share_lt) rfl
theorem Tx.fn_Share_le (T : Tx w K mg) : FunD K Hd.d_Share_le.name Hd.d_Share_le.qual (defArgs Hd.s_Share_le) (defBody Hd.s_Share_le) (defScope Hd.s_Share_le) [] [] (Hd.d_Share_le.at_ K) (fdOf K (Hd.d_Share_le.at_ K)) := T.c.fn 19 (d := Hd.d_Share_le) rfl
theorem Tx.fn_Share_gt (T : Tx w K mg) : FunD K Hd.d_Share_gt.name Hd.d_Share_gt.qual (defArgs Hd.s_Share_gt) (defBody Hd.s_Share_gt) (defScope Hd.s_Share_gt) [] [] (Hd.d_Share_gt.at_ K) (fdOf K (Hd.d_Share_gt.at_ K)) := T.c.fn 20 (d := Hd.d_Share_gt) rfl
theorem Tx.fn_Share_ge (T : Tx w K mg) : FunD K Hd.d_Share_ge.name Hd.d_Share_ge.qual (defArgs Hd.s_Share_ge) (defBody Hd.s_Share_ge) (defScope Hd.s_Share_ge) [] [] (Hd.d_Share_ge.at_ K) (fdOf K (Hd.d_Share_ge.at_ K)) := T.c.fn 21 (d := Hd.d_Share_ge) rfl
theorem Tx.sc_BadShare : ScopeE PySem.Challenge.pw_renamedhorn_k05_whole_share_order (defScope Hd.s_BadShare_init) (defArgs Hd.s_BadShare_init) := ⟨⟨_, rfl⟩, rfl, rfl, rfl, rfl, rfl, rfl, by decide +kernel, by decide +kernel⟩
theorem Tx.err_BadShare (T : Tx w K mg) : Err1 PySem.Challenge.pw_renamedhorn_k05_whole_share_order w K mg "BadShare" "text" (ga K "BadShare") := by
  obtain ⟨h, X, G⟩ := T.g
  obtain ⟨e, c⟩ := T.c.it 22 (d := Hd.d_BadShare.it "/claim/cut.py") rfl
  exact err1_of X G c e rfl Tx.sc_BadShare rfl (fun _ _ _ _ _ _ _ _ _ _ _ => rfl) rfl (by decide) (by decide)
theorem Tx.sc_ZeroBelow : ScopeE PySem.Challenge.pw_renamedhorn_k05_whole_share_order (defScope Hd.s_ZeroBelow_init) (defArgs Hd.s_ZeroBelow_init) := ⟨⟨_, rfl⟩, rfl, rfl, rfl, rfl, rfl, rfl, by decide +kernel, by decide +kernel⟩
theorem Tx.err_ZeroBelow (T : Tx w K mg) : Err0 PySem.Challenge.pw_renamedhorn_k05_whole_share_order w K mg "ZeroBelow" (ga K "ZeroBelow") := by
  obtain ⟨h, X, G⟩ := T.g
  obtain ⟨e, c⟩ := T.c.it 23 (d := Hd.d_ZeroBelow.it "/claim/cut.py") rfl
  exact err0_of X G c e rfl Tx.sc_ZeroBelow rfl (fun _ _ _ _ _ _ _ _ _ _ => rfl)
end
end Ok
namespace Ok
open PySem PySem.Spec PyProof.Rows L2 He Hk Px Rd
section
variable {w : World} {K : PySem.W.Frag} {mg : PySem.Str → Option Value} {base : Heap}
theorem sc_Share_init : FnScope N_Share_init ["self", "top", "bottom"] (defScope Hd.s_Share_init) := ⟨rfl, rfl, rfl, by decide +kernel, rfl, by decide +kernel, by decide +kernel⟩
theorem b_Share_init (T : Tx w K mg) : Binds K (fdOf K (ma K (ga K "Share") "__init__")) ["self", "top", "bottom"] [] := Cl.binds_all T.fn_Share_init (by simp) fun _ _ _ _ _ _ _ us its hl hi => match us, its, hl, hi with | [_, _, _], [_], _, _ => ⟨_, rfl, rfl⟩
theorem bD_Share_init (T : Tx w K mg) : ∃ ds, Vals [.int 1] ds ∧ Binds K (fdOf K (ma K (ga K "Share") "__init__")) ["self", "top", "bottom"] ds := FunD.binds1 T.fn_Share_init 2 0 (by simp) rfl fun _ _ _ _ _ _ _ us its hl hi => match us, its, hl, hi with | [_, _], [_], _, _ => ⟨_, rfl, rfl⟩
theorem ok_Share_init (T : Tx w K mg) : FnOk PySem.Challenge.pw_renamedhorn_k05_whole_share_order w K mg base (L2N.CX PySem.Challenge.pw_renamedhorn_k05_whole_share_order w) 3 (ma K (ga K "Share") "__init__") (fdOf K (ma K (ga K "Share") "__init__")) ["self", "top", "bottom"] (sp_Share_init K) := by
  refine T.fn_Share_init.ok sc_Share_init (fun vs H Q E h => Sp3.len h) (fun cdv A outer s H vs Q E hr h => ⟨t_Share_init K (fun cls d _ H => E cls d H), ?_, pure_Share_init h⟩)
  · have tk := L2N.takes_of (X := cxOf (L2N.CX PySem.Challenge.pw_renamedhorn_k05_whole_share_order w) PySem.Challenge.pw_renamedhorn_k05_whole_share_order w K mg base N_Share_init "Share.__init__" (defScope Hd.s_Share_init) (ma K (ga K "Share") "__init__") cdv A outer s H E) (E := E) rfl rfl rfl rfl
    exact (pss_cut (ps_if (pt_cmpR (op_eqP hr.units) (pv 2) pe_int (nomark _)) (pss_one (ps_raiseE0 rfl T.err_ZeroBelow hr tk)) pss_nil)
      (pss_cons (ps_asg (pe_callBfun cr_gcd rfl T.i_gcd (pa_cons (pv 1) (pa_cons (pv 2) pa_nil))) (pg_name (i := 3) sc_Share_init.nd rfl (Or.inl rfl)))
      (pss_cut (ps_if (pt_cmpR op_ltP (pv 2) pe_int (nomark _)) (pss_one (ps_asg (pe_un un_neg (pv 3)) (pg_name (i := 3) sc_Share_init.nd rfl (Or.inl rfl)))) pss_nil)
      (pss_cons (Cl.ps_att (l := [ga K "Share"]) (fun C h => by simp only [List.mem_cons, List.not_mem_nil, or_false] at h; rcases h with rfl <;> first | exact ⟨T.cls_Share, T.no_Share_top⟩) (pv 0) (pe_op op_fdivP (pv 1) (pv 3)))
      (pss_one (Cl.ps_att (l := [ga K "Share"]) (fun C h => by simp only [List.mem_cons, List.not_mem_nil, or_false] at h; rcases h with rfl <;> first | exact ⟨T.cls_Share, T.no_Share_bottom⟩) (pv 0) (pe_op op_fdivP (pv 2) (pv 3))))))))
theorem fr_Share_init (T : Tx w K mg) : FnR PySem.Challenge.pw_renamedhorn_k05_whole_share_order w K mg base (L2N.CX PySem.Challenge.pw_renamedhorn_k05_whole_share_order w) 3 (ma K (ga K "Share") "__init__") (spV_Share_init K) := Cl.toRD (ok_Share_init T) (b_Share_init T) (bD_Share_init T)
theorem sc_as_share : FnScope N_as_share ["value"] (defScope Hd.s_as_share) := ⟨rfl, rfl, rfl, by decide +kernel, rfl, by decide +kernel, by decide +kernel⟩
theorem b_as_share (T : Tx w K mg) : Binds K (fdOf K (ga K "as_share")) ["value"] [] := T.fn_as_share.bindsN fun _ _ _ _ _ _ us hl => match us, hl with | [_], _ => rfl
theorem ok_as_share (T : Tx w K mg) : FnOk PySem.Challenge.pw_renamedhorn_k05_whole_share_order w K mg base (L2N.CX PySem.Challenge.pw_renamedhorn_k05_whole_share_order w) 7 (ga K "as_share") (fdOf K (ga K "as_share")) ["value"] (sp_as_share K) := by
  refine T.fn_as_share.ok sc_as_share (fun vs H Q E h => Sp1.len h) (fun cdv A outer s H vs Q E hr h => ⟨t_as_share K (fun cls d _ H => E cls d H), ?_, pure_as_share T.ins_Share T.kit_Share_Share T.kit_int_Share h⟩)
  · have tk := L2N.takes_of (X := cxOf (L2N.CX PySem.Challenge.pw_renamedhorn_k05_whole_share_order w) PySem.Challenge.pw_renamedhorn_k05_whole_share_order w K mg base N_as_share "as_share" (defScope Hd.s_as_share) (ga K "as_share") cdv A outer s H E) (E := E) rfl rfl rfl rfl
    exact (pss_cut (ps_if (pt_val (pe_callB call_isi (by rfl) T.f_isinstance PyProof.Rows.Boot.«isinstance» (pa_cons (pv 0) (pa_cons (pe_glob (v := .ref (ga K "Share")) rfl (T.g_Share) rfl) pa_nil)))) (pss_one (ps_ret (pv 0))) pss_nil)
      (pss_one (ps_ret (Cl.pe_makeS T.mk_Share (fr_Share_init T) (hr.mono (by decide)) rfl T.g_Share (fun σ => L2N.passAt tk σ) (pa_cons (pv 0) pa_nil)))))
theorem sc_less : FnScope N_less ["one", "other"] (defScope Hd.s_less) := ⟨rfl, rfl, rfl, by decide +kernel, rfl, by decide +kernel, by decide +kernel⟩
theorem b_less (T : Tx w K mg) : Binds K (fdOf K (ga K "less")) ["one", "other"] [] := T.fn_less.bindsN fun _ _ _ _ _ _ us hl => match us, hl with | [_, _], _ => rfl
theorem ok_less (T : Tx w K mg) : FnOk PySem.Challenge.pw_renamedhorn_k05_whole_share_order w K mg base (L2N.CX PySem.Challenge.pw_renamedhorn_k05_whole_share_order w) 1 (ga K "less") (fdOf K (ga K "less")) ["one", "other"] (sp_less K) := by
  refine T.fn_less.ok sc_less (fun vs H Q E h => Sp2.len h) (fun cdv A outer s H vs Q E hr h => ⟨t_less K (fun cls d _ H => E cls d H), ?_, pure_less h⟩)
  · have tk := L2N.takes_of (X := cxOf (L2N.CX PySem.Challenge.pw_renamedhorn_k05_whole_share_order w) PySem.Challenge.pw_renamedhorn_k05_whole_share_order w K mg base N_less "less" (defScope Hd.s_less) (ga K "less") cdv A outer s H E) (E := E) rfl rfl rfl rfl
    exact (pss_one (ps_ret (pe_cmpR op_ltP (pe_op op_mulP (Cl.pe_att (.cons (Cl.alt_fld T.cls_Share T.no_Share_top) .nil) (pv 0)) (Cl.pe_att (.cons (Cl.alt_fld T.cls_Share T.no_Share_bottom) .nil) (pv 1))) (pe_op op_mulP (Cl.pe_att (.cons (Cl.alt_fld T.cls_Share T.no_Share_top) .nil) (pv 1)) (Cl.pe_att (.cons (Cl.alt_fld T.cls_Share T.no_Share_bottom) .nil) (pv 0))) (nomark _))))
theorem sc_law_source : FnScope N_law_source ["_law_script"] (defScope Hd.s_law_source) := ⟨rfl, rfl, rfl, by decide +kernel, rfl, by decide +kernel, by decide +kernel⟩
theorem b_law_source (T : Tx w K mg) : Binds K (fdOf K (ga K "_law_source")) ["_law_script"] [] := T.fn_law_source.bindsN fun _ _ _ _ _ _ us hl => match us, hl with | [_], _ => rfl
theorem ok_law_source (T : Tx w K mg) : FnOk PySem.Challenge.pw_renamedhorn_k05_whole_share_order w K mg base (L2N.CX PySem.Challenge.pw_renamedhorn_k05_whole_share_order w) 1 (ga K "_law_source") (fdOf K (ga K "_law_source")) ["_law_script"] (sp_law_source K) := by
  refine T.fn_law_source.ok sc_law_source (fun vs H Q E h => Sp1.len h) (fun cdv A outer s H vs Q E hr h => ⟨t_law_source K (fun cls d _ H => E cls d H), ?_, pure_law_source h⟩)
  · have tk := L2N.takes_of (X := cxOf (L2N.CX PySem.Challenge.pw_renamedhorn_k05_whole_share_order w) PySem.Challenge.pw_renamedhorn_k05_whole_share_order w K mg base N_law_source "_law_source" (defScope Hd.s_law_source) (ga K "_law_source") cdv A outer s H E) (E := E) rfl rfl rfl rfl
    exact (pss_one (ps_ret (pe_lst (pa_cons (pe_callTy call_listP (by rfl) T.f_list PyProof.Rows.Boot.«list» (pa_cons (pv 0) pa_nil)) (pa_cons pe_int (pa_cons pe_int (pa_cons pe_int (pa_cons pe_int pa_nil))))))))
theorem sc_law_take : FnScope N_law_take ["_law_source_here", "_law_many"] (defScope Hd.s_law_take) := ⟨rfl, rfl, rfl, by decide +kernel, rfl, by decide +kernel, by decide +kernel⟩
theorem b_law_take (T : Tx w K mg) : Binds K (fdOf K (ga K "_law_take")) ["_law_source_here", "_law_many"] [] := T.fn_law_take.bindsN fun _ _ _ _ _ _ us hl => match us, hl with | [_, _], _ => rfl
theorem ok_law_take (T : Tx w K mg) : FnOk PySem.Challenge.pw_renamedhorn_k05_whole_share_order w K mg base (L2N.CX PySem.Challenge.pw_renamedhorn_k05_whole_share_order w) 1 (ga K "_law_take") (fdOf K (ga K "_law_take")) ["_law_source_here", "_law_many"] (sp_law_take K) := by
  refine T.fn_law_take.ok sc_law_take (fun vs H Q E h => Sp2.len h) (fun cdv A outer s H vs Q E hr h => ⟨t_law_take K (fun cls d _ H => E cls d H), ?_, pure_law_take h⟩)
  · have tk := L2N.takes_of (X := cxOf (L2N.CX PySem.Challenge.pw_renamedhorn_k05_whole_share_order w) PySem.Challenge.pw_renamedhorn_k05_whole_share_order w K mg base N_law_take "_law_take" (defScope Hd.s_law_take) (ga K "_law_take") cdv A outer s H E) (E := E) rfl rfl rfl rfl
    exact (pss_cut (ps_if (pt_cmpR (op_eqP hr.units) (pe_ix ix_P (pv 0) pe_int (fun _ _ => rfl)) pe_int (nomark _)) (pss_cut (ps_if (pt_cmpR op_geP (pe_ix ix_P (pv 0) pe_int (fun _ _ => rfl)) (pe_callB call_lenP (by rfl) T.f_len PyProof.Rows.Boot.«len» (pa_cons (pe_ix ix_P (pv 0) pe_int (fun _ _ => rfl)) pa_nil)) (nomark _)) (pss_one (ps_ret pe_int)) pss_nil)
      (pss_cons (ps_asg (pe_callTy call_intP (by rfl) T.f_int PyProof.Rows.Boot.«int» (pa_cons (pe_ix ix_P (pe_ix ix_P (pv 0) pe_int (fun _ _ => rfl)) (pe_ix ix_P (pv 0) pe_int (fun _ _ => rfl)) (fun _ _ => rfl)) pa_nil)) (pg_name (i := 3) sc_law_take.nd rfl (Or.inl rfl)))
      (pss_cons (ps_asg (pe_op op_addP (pe_ix ix_P (pv 0) pe_int (fun _ _ => rfl)) pe_int) (pg_sub (pv 0) pe_int (set_P hr.units)))
      (pss_cons (ps_asg (pv 3) (pg_sub (pv 0) pe_int (set_P hr.units)))
      (pss_cons (ps_asg pe_int (pg_sub (pv 0) pe_int (set_P hr.units)))
      (pss_cons (ps_asg pe_int (pg_sub (pv 0) pe_int (set_P hr.units)))
      (pss_one (ps_if (pt_cmpR op_geP (pv 3) (pe_op op_powP pe_int pe_int) (nomark _)) (pss_cons (ps_asg pe_int (pg_sub (pv 0) pe_int (set_P hr.units)))
      (pss_one (ps_asg pe_int (pg_sub (pv 0) pe_int (set_P hr.units))))) pss_nil)))))))) pss_nil)
      (pss_cons (ps_asg (pe_op op_subP (pe_ix ix_P (pv 0) pe_int (fun _ _ => rfl)) pe_int) (pg_sub (pv 0) pe_int (set_P hr.units)))
      (pss_cut (ps_if (pt_cmpR (op_eqP hr.units) (pe_ix ix_P (pv 0) pe_int (fun _ _ => rfl)) pe_int (nomark _)) (pss_cons (ps_asg (pe_op op_modP (pe_callTy call_intP (by rfl) T.f_int PyProof.Rows.Boot.«int» (pa_cons (pe_ix ix_P (pv 0) pe_int (fun _ _ => rfl)) pa_nil)) (pv 1)) (pg_name (i := 4) sc_law_take.nd rfl (Or.inl rfl)))
      (pss_cons (ps_asg (pe_op op_fdivP (pe_ix ix_P (pv 0) pe_int (fun _ _ => rfl)) (pv 1)) (pg_sub (pv 0) pe_int (set_P hr.units)))
      (pss_cut (ps_if (pt_cmpR (op_eqP hr.units) (pe_ix ix_P (pv 0) pe_int (fun _ _ => rfl)) pe_int (nomark _)) (pss_one (ps_asg pe_int (pg_sub (pv 0) pe_int (set_P hr.units)))) pss_nil)
      (pss_one (ps_ret (pv 4)))))) pss_nil)
      (pss_cons (ps_asg (pe_op op_modP (pe_callTy call_intP (by rfl) T.f_int PyProof.Rows.Boot.«int» (pa_cons (pe_op op_addP (pe_op op_addP (pe_op op_mulP (pe_ix ix_P (pv 0) pe_int (fun _ _ => rfl)) pe_int) (pe_op op_mulP (pe_ix ix_P (pv 0) pe_int (fun _ _ => rfl)) pe_int)) pe_int) pa_nil)) pe_int) (pg_name (i := 2) sc_law_take.nd rfl (Or.inl rfl)))
      (pss_cons (ps_asg (pe_op op_modP (pe_callTy call_intP (by rfl) T.f_int PyProof.Rows.Boot.«int» (pa_cons (pe_op op_addP (pe_op op_addP (pe_op op_mulP (pv 2) pe_int) (pe_op op_mulP (pe_ix ix_P (pv 0) pe_int (fun _ _ => rfl)) pe_int)) pe_int) pa_nil)) pe_int) (pg_name (i := 2) sc_law_take.nd rfl (Or.inl rfl)))
      (pss_one (ps_ret (pe_op op_modP (pe_callTy call_intP (by rfl) T.f_int PyProof.Rows.Boot.«int» (pa_cons (pv 2) pa_nil)) (pv 1)))))))))
theorem sc_law_same : FnScope N_law_same ["_law_one", "_law_other"] (defScope Hd.s_law_same) := ⟨rfl, rfl, rfl, by decide +kernel, rfl, by decide +kernel, by decide +kernel⟩
theorem b_law_same (T : Tx w K mg) : Binds K (fdOf K (ga K "_law_same")) ["_law_one", "_law_other"] [] := T.fn_law_same.bindsN fun _ _ _ _ _ _ us hl => match us, hl with | [_, _], _ => rfl
theorem okn_law_same (T : Tx w K mg) (n : Nat) (okR : FnOk PySem.Challenge.pw_renamedhorn_k05_whole_share_order w K mg base (L2N.CX PySem.Challenge.pw_renamedhorn_k05_whole_share_order w) n (ga K "_law_same") (fdOf K (ga K "_law_same")) ["_law_one", "_law_other"] (spR_law_same K n)) : FnOk PySem.Challenge.pw_renamedhorn_k05_whole_share_order w K mg base (L2N.CX PySem.Challenge.pw_renamedhorn_k05_whole_share_order w) (n + 1) (ga K "_law_same") (fdOf K (ga K "_law_same")) ["_law_one", "_law_other"] (spn_law_same K n) := by
  refine T.fn_law_same.ok sc_law_same (fun vs H Q E h => Sp2.len h) (fun cdv A outer s H vs Q E hr h => ⟨t_law_same K (spR_law_same K n) (fun cls d _ H => E cls d H), ?_, pure_law_same h⟩)
  · have tk := L2N.takes_of (X := cxOf (L2N.CX PySem.Challenge.pw_renamedhorn_k05_whole_share_order w) PySem.Challenge.pw_renamedhorn_k05_whole_share_order w K mg base N_law_same "_law_same" (defScope Hd.s_law_same) (ga K "_law_same") cdv A outer s H E) (E := E) rfl rfl rfl rfl
    exact (pss_cut (ps_if (PW.pt (pw_or (pt_val (pe_callB call_isi (by rfl) T.f_isinstance PyProof.Rows.Boot.«isinstance» (pa_cons (pv 0) (pa_cons (pe_bltn (v := .ty "bool") rfl (T.f_bool) PyProof.Rows.Boot.«bool» rfl) pa_nil)))) (pw_or1 (pt_val (pe_callB call_isi (by rfl) T.f_isinstance PyProof.Rows.Boot.«isinstance» (pa_cons (pv 1) (pa_cons (pe_bltn (v := .ty "bool") rfl (T.f_bool) PyProof.Rows.Boot.«bool» rfl) pa_nil))))))) (pss_one (ps_ret (pe_and (pe_callB call_isi (by rfl) T.f_isinstance PyProof.Rows.Boot.«isinstance» (pa_cons (pv 0) (pa_cons (pe_bltn (v := .ty "bool") rfl (T.f_bool) PyProof.Rows.Boot.«bool» rfl) pa_nil))) (pe_and (pe_callB call_isi (by rfl) T.f_isinstance PyProof.Rows.Boot.«isinstance» (pa_cons (pv 1) (pa_cons (pe_bltn (v := .ty "bool") rfl (T.f_bool) PyProof.Rows.Boot.«bool» rfl) pa_nil))) (pe_one (pe_cmpR (op_eqP hr.units) (pv 0) (pv 1) (nomark _))))))) pss_nil)
      (pss_cut (ps_if (PW.pt (pw_or (pt_val (pe_callB call_isi (by rfl) T.f_isinstance PyProof.Rows.Boot.«isinstance» (pa_cons (pv 0) (pa_cons (pe_bltn (v := .ty "int") rfl (T.f_int) PyProof.Rows.Boot.«int» rfl) pa_nil)))) (pw_or1 (pt_val (pe_callB call_isi (by rfl) T.f_isinstance PyProof.Rows.Boot.«isinstance» (pa_cons (pv 1) (pa_cons (pe_bltn (v := .ty "int") rfl (T.f_int) PyProof.Rows.Boot.«int» rfl) pa_nil))))))) (pss_one (ps_ret (pe_and (pe_callB call_isi (by rfl) T.f_isinstance PyProof.Rows.Boot.«isinstance» (pa_cons (pv 0) (pa_cons (pe_bltn (v := .ty "int") rfl (T.f_int) PyProof.Rows.Boot.«int» rfl) pa_nil))) (pe_and (pe_callB call_isi (by rfl) T.f_isinstance PyProof.Rows.Boot.«isinstance» (pa_cons (pv 1) (pa_cons (pe_bltn (v := .ty "int") rfl (T.f_int) PyProof.Rows.Boot.«int» rfl) pa_nil))) (pe_one (pe_cmpR (op_eqP hr.units) (pv 0) (pv 1) (nomark _))))))) pss_nil)
      (pss_cut (ps_if (PW.pt (pw_or (pt_val (pe_callB call_isi (by rfl) T.f_isinstance PyProof.Rows.Boot.«isinstance» (pa_cons (pv 0) (pa_cons (pe_bltn (v := .ty "str") rfl (T.f_str) PyProof.Rows.Boot.«str» rfl) pa_nil)))) (pw_or1 (pt_val (pe_callB call_isi (by rfl) T.f_isinstance PyProof.Rows.Boot.«isinstance» (pa_cons (pv 1) (pa_cons (pe_bltn (v := .ty "str") rfl (T.f_str) PyProof.Rows.Boot.«str» rfl) pa_nil))))))) (pss_one (ps_ret (pe_and (pe_callB call_isi (by rfl) T.f_isinstance PyProof.Rows.Boot.«isinstance» (pa_cons (pv 0) (pa_cons (pe_bltn (v := .ty "str") rfl (T.f_str) PyProof.Rows.Boot.«str» rfl) pa_nil))) (pe_and (pe_callB call_isi (by rfl) T.f_isinstance PyProof.Rows.Boot.«isinstance» (pa_cons (pv 1) (pa_cons (pe_bltn (v := .ty "str") rfl (T.f_str) PyProof.Rows.Boot.«str» rfl) pa_nil))) (pe_one (pe_cmpR (op_eqP hr.units) (pv 0) (pv 1) (nomark _))))))) pss_nil)
      (pss_cons (ps_asg (pe_and (pe_callB call_isi (by rfl) T.f_isinstance PyProof.Rows.Boot.«isinstance» (pa_cons (pv 0) (pa_cons (pe_bltn (v := .ty "list") rfl (T.f_list) PyProof.Rows.Boot.«list» rfl) pa_nil))) (pe_one (pe_callB call_isi (by rfl) T.f_isinstance PyProof.Rows.Boot.«isinstance» (pa_cons (pv 1) (pa_cons (pe_bltn (v := .ty "list") rfl (T.f_list) PyProof.Rows.Boot.«list» rfl) pa_nil))))) (pg_name (i := 2) sc_law_same.nd rfl (Or.inl rfl)))
      (pss_cut (ps_if (PW.pt (pw_and (pt_not (pt_val (pv 2))) (pw_and1 (pt_not (PW.pt (pw_and (pt_val (pe_callB call_isi (by rfl) T.f_isinstance PyProof.Rows.Boot.«isinstance» (pa_cons (pv 0) (pa_cons (pe_bltn (v := .ty "tuple") rfl (T.f_tuple) PyProof.Rows.Boot.«tuple» rfl) pa_nil)))) (pw_and1 (pt_val (pe_callB call_isi (by rfl) T.f_isinstance PyProof.Rows.Boot.«isinstance» (pa_cons (pv 1) (pa_cons (pe_bltn (v := .ty "tuple") rfl (T.f_tuple) PyProof.Rows.Boot.«tuple» rfl) pa_nil))))))))))) (pss_one (ps_ret (pe_and (pe_cmpR op_isP (pv 0) pe_non (nomark _)) (pe_one (pe_cmpR op_isP (pv 1) pe_non (nomark _)))))) pss_nil)
      (pss_one (ps_ret (pe_and (pe_cmpR (op_eqP hr.units) (pe_callB call_lenP (by rfl) T.f_len PyProof.Rows.Boot.«len» (pa_cons (pv 0) pa_nil)) (pe_callB call_lenP (by rfl) T.f_len PyProof.Rows.Boot.«len» (pa_cons (pv 1) pa_nil)) (nomark _)) (pe_one (pe_callB (cr_all rfl) (by rfl) T.f_all PyProof.Rows.Boot.«all» (pa_cons (pe_lc (own := [("_law_k", 3)]) (g := (gName 3)) (tt := tYes) rfl sc_law_same.nd (pi_range1 (by rfl) T.f_range (pa_cons (pe_callB call_lenP (by rfl) T.f_len PyProof.Rows.Boot.«len» (pa_cons (pv 0) pa_nil)) pa_nil)) (blkOk_by (own := [("_law_k", 3)]) (N := N_law_same) (sc := defScope Hd.s_law_same) (by decide +kernel)) (fun _ _ _ _ _ => (pg_name (i := 3) sc_law_same.nd rfl (Or.inl rfl))) (fun _ _ _ _ _ => pts_nil) (fun _ _ _ _ _ => (pe_call okR (hr.mono (by omega)) rfl T.g_law_same (T.fn_law_same).kp (b_law_same T) .nil passN (pa_cons (pe_ix ix_P (pv 0) (pv 3) (fun _ _ => rfl)) (pa_cons (pe_ix ix_P (pv 1) (pv 3) (fun _ _ => rfl)) pa_nil))))) pa_nil)))))))))))
theorem oka_law_same (T : Tx w K mg) : ∀ n : Nat, FnOk PySem.Challenge.pw_renamedhorn_k05_whole_share_order w K mg base (L2N.CX PySem.Challenge.pw_renamedhorn_k05_whole_share_order w) (n + 1) (ga K "_law_same") (fdOf K (ga K "_law_same")) ["_law_one", "_law_other"] (spn_law_same K n)
  | 0 => okn_law_same T 0 ⟨fun _ _ _ _ h => h.elim, fun _ _ _ _ _ _ _ _ _ _ _ _ _ h => h.elim⟩
  | n + 1 => okn_law_same T (n + 1) (oka_law_same T n)
theorem ok_law_same (T : Tx w K mg) : FnOk PySem.Challenge.pw_renamedhorn_k05_whole_share_order w K mg base (L2N.CX PySem.Challenge.pw_renamedhorn_k05_whole_share_order w) 5 (ga K "_law_same") (fdOf K (ga K "_law_same")) ["_law_one", "_law_other"] (sp_law_same K) := oka_law_same T 4
theorem sc_law_gcd : FnScope N_law_gcd ["_law_one", "_law_other"] (defScope Hd.s_law_gcd) := ⟨rfl, rfl, rfl, by decide +kernel, rfl, by decide +kernel, by decide +kernel⟩
theorem b_law_gcd (T : Tx w K mg) : Binds K (fdOf K (ga K "_law_gcd")) ["_law_one", "_law_other"] [] := T.fn_law_gcd.bindsN fun _ _ _ _ _ _ us hl => match us, hl with | [_, _], _ => rfl
theorem ok_law_gcd (T : Tx w K mg) : FnOk PySem.Challenge.pw_renamedhorn_k05_whole_share_order w K mg base (L2N.CX PySem.Challenge.pw_renamedhorn_k05_whole_share_order w) 1 (ga K "_law_gcd") (fdOf K (ga K "_law_gcd")) ["_law_one", "_law_other"] (sp_law_gcd K) := by
  refine T.fn_law_gcd.ok sc_law_gcd (fun vs H Q E h => Sp2.len h) (fun cdv A outer s H vs Q E hr h => ⟨t_law_gcd K (fun cls d _ H => E cls d H), ?_, pure_law_gcd h⟩)
  · have tk := L2N.takes_of (X := cxOf (L2N.CX PySem.Challenge.pw_renamedhorn_k05_whole_share_order w) PySem.Challenge.pw_renamedhorn_k05_whole_share_order w K mg base N_law_gcd "_law_gcd" (defScope Hd.s_law_gcd) (ga K "_law_gcd") cdv A outer s H E) (E := E) rfl rfl rfl rfl
    exact (pss_cut (ps_for (passes_of rfl) rfl (pi_range1 (by rfl) T.f_range (pa_cons pe_int pa_nil)) (pg_name (i := 2) sc_law_gcd.nd rfl (Or.inl rfl)) (pss_cut (ps_if (pt_cmpR (op_eqP hr.units) (pv 1) pe_int (nomark _)) (pss_one (ps_ret (pe_callB call_absP (by rfl) T.f_abs PyProof.Rows.Boot.«abs» (pa_cons (pv 0) pa_nil)))) pss_nil)
      (pss_cons (ps_asg (pe_op op_modP (pe_callTy call_intP (by rfl) T.f_int PyProof.Rows.Boot.«int» (pa_cons (pv 0) pa_nil)) (pv 1)) (pg_name (i := 3) sc_law_gcd.nd rfl (Or.inl rfl)))
      (pss_cons (ps_asg (pv 1) (pg_name (i := 0) sc_law_gcd.nd rfl (Or.inl rfl)))
      (pss_one (ps_asg (pv 3) (pg_name (i := 1) sc_law_gcd.nd rfl (Or.inl rfl))))))))
      (pss_one (ps_ret pe_int)))
theorem sc_law_is_share : FnScope N_law_is_share ["_law_share", "_law_top", "_law_bottom"] (defScope Hd.s_law_is_share) := ⟨rfl, rfl, rfl, by decide +kernel, rfl, by decide +kernel, by decide +kernel⟩
theorem b_law_is_share (T : Tx w K mg) : Binds K (fdOf K (ga K "_law_is_share")) ["_law_share", "_law_top", "_law_bottom"] [] := T.fn_law_is_share.bindsN fun _ _ _ _ _ _ us hl => match us, hl with | [_, _, _], _ => rfl
theorem ok_law_is_share (T : Tx w K mg) : FnOk PySem.Challenge.pw_renamedhorn_k05_whole_share_order w K mg base (L2N.CX PySem.Challenge.pw_renamedhorn_k05_whole_share_order w) 6 (ga K "_law_is_share") (fdOf K (ga K "_law_is_share")) ["_law_share", "_law_top", "_law_bottom"] (sp_law_is_share K) := by
  refine T.fn_law_is_share.ok sc_law_is_share (fun vs H Q E h => Sp3.len h) (fun cdv A outer s H vs Q E hr h => ⟨t_law_is_share K (fun cls d _ H => E cls d H), ?_, pure_law_is_share T.ins_Share T.kit_Share_Share h⟩)
  · have tk := L2N.takes_of (X := cxOf (L2N.CX PySem.Challenge.pw_renamedhorn_k05_whole_share_order w) PySem.Challenge.pw_renamedhorn_k05_whole_share_order w K mg base N_law_is_share "_law_is_share" (defScope Hd.s_law_is_share) (ga K "_law_is_share") cdv A outer s H E) (E := E) rfl rfl rfl rfl
    exact (pss_cut (ps_if (PW.pt (pw_or (pt_not (pt_val (pe_callB call_isi (by rfl) T.f_isinstance PyProof.Rows.Boot.«isinstance» (pa_cons (pv 0) (pa_cons (pe_glob (v := .ref (ga K "Share")) rfl (T.g_Share) rfl) pa_nil))))) (pw_or1 (pt_cmpR (op_eqP hr.units) (pv 2) pe_int (nomark _))))) (pss_one (ps_ret pe_bl)) pss_nil)
      (pss_cons (ps_asg (pe_callS (ok_law_gcd T) (hr.mono (by decide)) rfl T.g_law_gcd (T.fn_law_gcd).kp (b_law_gcd T) (fun σ => L2N.passAt tk σ) (pa_cons (pv 1) (pa_cons (pv 2) pa_nil))) (pg_name (i := 3) sc_law_is_share.nd rfl (Or.inl rfl)))
      (pss_cut (ps_if (pt_cmpR op_ltP (pv 2) pe_int (nomark _)) (pss_one (ps_asg (pe_un un_neg (pv 3)) (pg_name (i := 3) sc_law_is_share.nd rfl (Or.inl rfl)))) pss_nil)
      (pss_one (ps_ret (pe_and (pe_callS (ok_law_same T) (hr.mono (by decide)) rfl T.g_law_same (T.fn_law_same).kp (b_law_same T) (fun σ => L2N.passAt tk σ) (pa_cons (Cl.pe_att (.cons (Cl.alt_fld T.cls_Share T.no_Share_top) .nil) (pv 0)) (pa_cons (pe_op op_fdivP (pv 1) (pv 3)) pa_nil))) (pe_one (pe_callS (ok_law_same T) (hr.mono (by decide)) rfl T.g_law_same (T.fn_law_same).kp (b_law_same T) (fun σ => L2N.passAt tk σ) (pa_cons (Cl.pe_att (.cons (Cl.alt_fld T.cls_Share T.no_Share_bottom) .nil) (pv 0)) (pa_cons (pe_op op_fdivP (pv 2) (pv 3)) pa_nil))))))))))
theorem sc_law_number : FnScope N_law_number ["_law_source_here", "_law_parts"] (defScope Hd.s_law_number) := ⟨rfl, rfl, rfl, by decide +kernel, rfl, by decide +kernel, by decide +kernel⟩
theorem b_law_number (T : Tx w K mg) : Binds K (fdOf K (ga K "_law_number")) ["_law_source_here", "_law_parts"] [] := T.fn_law_number.bindsN fun _ _ _ _ _ _ us hl => match us, hl with | [_, _], _ => rfl
theorem ok_law_number (T : Tx w K mg) : FnOk PySem.Challenge.pw_renamedhorn_k05_whole_share_order w K mg base (L2N.CX PySem.Challenge.pw_renamedhorn_k05_whole_share_order w) 2 (ga K "_law_number") (fdOf K (ga K "_law_number")) ["_law_source_here", "_law_parts"] (sp_law_number K) := by
  refine T.fn_law_number.ok sc_law_number (fun vs H Q E h => Sp2.len h) (fun cdv A outer s H vs Q E hr h => ⟨t_law_number K (fun cls d _ H => E cls d H), ?_, pure_law_number h⟩)
  · have tk := L2N.takes_of (X := cxOf (L2N.CX PySem.Challenge.pw_renamedhorn_k05_whole_share_order w) PySem.Challenge.pw_renamedhorn_k05_whole_share_order w K mg base N_law_number "_law_number" (defScope Hd.s_law_number) (ga K "_law_number") cdv A outer s H E) (E := E) rfl rfl rfl rfl
    exact (pss_cons (ps_asg (pe_callS (ok_law_take T) (hr.mono (by decide)) rfl T.g_law_take (T.fn_law_take).kp (b_law_take T) (fun σ => L2N.passAt tk σ) (pa_cons (pv 0) (pa_cons pe_int pa_nil))) (pg_name (i := 2) sc_law_number.nd rfl (Or.inl rfl)))
      (pss_cut (ps_for (passes_of rfl) rfl (pi_range1 (by rfl) T.f_range (pa_cons (pe_callS (ok_law_take T) (hr.mono (by decide)) rfl T.g_law_take (T.fn_law_take).kp (b_law_take T) (fun σ => L2N.passAt tk σ) (pa_cons (pv 0) (pa_cons (pe_op op_addP (pv 1) pe_int) pa_nil))) pa_nil)) (pg_name (i := 3) sc_law_number.nd rfl (Or.inl rfl)) (pss_one (ps_asg (pe_op op_addP (pe_op op_mulP (pv 2) (pe_op op_powP pe_int pe_int)) (pe_callS (ok_law_take T) (hr.mono (by decide)) rfl T.g_law_take (T.fn_law_take).kp (b_law_take T) (fun σ => L2N.passAt tk σ) (pa_cons (pv 0) (pa_cons (pe_op op_powP pe_int pe_int) pa_nil)))) (pg_name (i := 2) sc_law_number.nd rfl (Or.inl rfl)))))
      (pss_cut (ps_if (pt_cmpR (op_eqP hr.units) (pe_callS (ok_law_take T) (hr.mono (by decide)) rfl T.g_law_take (T.fn_law_take).kp (b_law_take T) (fun σ => L2N.passAt tk σ) (pa_cons (pv 0) (pa_cons pe_int pa_nil))) pe_int (nomark _)) (pss_one (ps_ret (pe_un un_neg (pv 2)))) pss_nil)
      (pss_one (ps_ret (pv 2))))))
theorem sc_law_fraction : FnScope N_law_fraction ["_law_source_here", "_law_parts"] (defScope Hd.s_law_fraction) := ⟨rfl, rfl, rfl, by decide +kernel, rfl, by decide +kernel, by decide +kernel⟩
theorem b_law_fraction (T : Tx w K mg) : Binds K (fdOf K (ga K "_law_fraction")) ["_law_source_here", "_law_parts"] [] := T.fn_law_fraction.bindsN fun _ _ _ _ _ _ us hl => match us, hl with | [_, _], _ => rfl
theorem ok_law_fraction (T : Tx w K mg) : FnOk PySem.Challenge.pw_renamedhorn_k05_whole_share_order w K mg base (L2N.CX PySem.Challenge.pw_renamedhorn_k05_whole_share_order w) 3 (ga K "_law_fraction") (fdOf K (ga K "_law_fraction")) ["_law_source_here", "_law_parts"] (sp_law_fraction K) := by
  refine T.fn_law_fraction.ok sc_law_fraction (fun vs H Q E h => Sp2.len h) (fun cdv A outer s H vs Q E hr h => ⟨t_law_fraction K (fun cls d _ H => E cls d H), ?_, pure_law_fraction h⟩)
  · have tk := L2N.takes_of (X := cxOf (L2N.CX PySem.Challenge.pw_renamedhorn_k05_whole_share_order w) PySem.Challenge.pw_renamedhorn_k05_whole_share_order w K mg base N_law_fraction "_law_fraction" (defScope Hd.s_law_fraction) (ga K "_law_fraction") cdv A outer s H E) (E := E) rfl rfl rfl rfl
    exact (pss_cons (ps_asg (pe_callS (ok_law_number T) (hr.mono (by decide)) rfl T.g_law_number (T.fn_law_number).kp (b_law_number T) (fun σ => L2N.passAt tk σ) (pa_cons (pv 0) (pa_cons (pv 1) pa_nil))) (pg_name (i := 2) sc_law_fraction.nd rfl (Or.inl rfl)))
      (pss_cons (ps_asg (pe_callS (ok_law_number T) (hr.mono (by decide)) rfl T.g_law_number (T.fn_law_number).kp (b_law_number T) (fun σ => L2N.passAt tk σ) (pa_cons (pv 0) (pa_cons (pv 1) pa_nil))) (pg_name (i := 3) sc_law_fraction.nd rfl (Or.inl rfl)))
      (pss_cut (ps_if (pt_cmpR (op_eqP hr.units) (pv 3) pe_int (nomark _)) (pss_one (ps_asg pe_int (pg_name (i := 3) sc_law_fraction.nd rfl (Or.inl rfl)))) pss_nil)
      (pss_one (ps_ret (pe_tup (pa_cons (pv 2) (pa_cons (pv 3) pa_nil))))))))
theorem sc_law_three : FnScope N_law_three ["_law_source_here"] (defScope Hd.s_law_three) := ⟨rfl, rfl, rfl, by decide +kernel, rfl, by decide +kernel, by decide +kernel⟩
theorem b_law_three (T : Tx w K mg) : Binds K (fdOf K (ga K "_law_three")) ["_law_source_here"] [] := T.fn_law_three.bindsN fun _ _ _ _ _ _ us hl => match us, hl with | [_], _ => rfl
theorem ok_law_three (T : Tx w K mg) : FnOk PySem.Challenge.pw_renamedhorn_k05_whole_share_order w K mg base (L2N.CX PySem.Challenge.pw_renamedhorn_k05_whole_share_order w) 4 (ga K "_law_three") (fdOf K (ga K "_law_three")) ["_law_source_here"] (sp_law_three K) := by
  refine T.fn_law_three.ok sc_law_three (fun vs H Q E h => Sp1.len h) (fun cdv A outer s H vs Q E hr h => ⟨t_law_three K (fun cls d _ H => E cls d H), ?_, pure_law_three h⟩)
  · have tk := L2N.takes_of (X := cxOf (L2N.CX PySem.Challenge.pw_renamedhorn_k05_whole_share_order w) PySem.Challenge.pw_renamedhorn_k05_whole_share_order w K mg base N_law_three "_law_three" (defScope Hd.s_law_three) (ga K "_law_three") cdv A outer s H E) (E := E) rfl rfl rfl rfl
    exact (pss_cons (ps_asg (pe_callS (ok_law_fraction T) (hr.mono (by decide)) rfl T.g_law_fraction (T.fn_law_fraction).kp (b_law_fraction T) (fun σ => L2N.passAt tk σ) (pa_cons (pv 0) (pa_cons pe_int pa_nil))) (pg_name (i := 1) sc_law_three.nd rfl (Or.inl rfl)))
      (pss_cut (ps_if (pt_cmpR op_ltP (pe_ix ix_P (pv 1) pe_int (fun _ _ => rfl)) pe_int (nomark _)) (pss_one (ps_asg (pe_tup (pa_cons (pe_un un_neg (pe_ix ix_P (pv 1) pe_int (fun _ _ => rfl))) (pa_cons (pe_un un_neg (pe_ix ix_P (pv 1) pe_int (fun _ _ => rfl))) pa_nil))) (pg_name (i := 1) sc_law_three.nd rfl (Or.inl rfl)))) pss_nil)
      (pss_cons (ps_asg (pe_callS (ok_law_take T) (hr.mono (by decide)) rfl T.g_law_take (T.fn_law_take).kp (b_law_take T) (fun σ => L2N.passAt tk σ) (pa_cons (pv 0) (pa_cons pe_int pa_nil))) (pg_name (i := 2) sc_law_three.nd rfl (Or.inl rfl)))
      (pss_cons (ps_asg (pe_op op_addP pe_int (pe_callS (ok_law_take T) (hr.mono (by decide)) rfl T.g_law_take (T.fn_law_take).kp (b_law_take T) (fun σ => L2N.passAt tk σ) (pa_cons (pv 0) (pa_cons pe_int pa_nil)))) (pg_name (i := 3) sc_law_three.nd rfl (Or.inl rfl)))
      (pss_cons (ps_asg (pe_tup (pa_cons (pe_op op_subP (pe_op op_addP (pe_op op_mulP (pe_ix ix_P (pv 1) pe_int (fun _ _ => rfl)) (pv 3)) (pe_callS (ok_law_take T) (hr.mono (by decide)) rfl T.g_law_take (T.fn_law_take).kp (b_law_take T) (fun σ => L2N.passAt tk σ) (pa_cons (pv 0) (pa_cons pe_int pa_nil)))) pe_int) (pa_cons (pe_op op_mulP (pe_ix ix_P (pv 1) pe_int (fun _ _ => rfl)) (pv 3)) pa_nil))) (pg_name (i := 4) sc_law_three.nd rfl (Or.inl rfl)))
      (pss_cons (ps_asg (pe_tup (pa_cons (pe_op op_addP (pe_ix ix_P (pv 1) pe_int (fun _ _ => rfl)) (pe_ix ix_P (pv 4) pe_int (fun _ _ => rfl))) (pa_cons (pe_op op_addP (pe_ix ix_P (pv 1) pe_int (fun _ _ => rfl)) (pe_ix ix_P (pv 4) pe_int (fun _ _ => rfl))) pa_nil))) (pg_name (i := 5) sc_law_three.nd rfl (Or.inl rfl)))
      (pss_cut (ps_if (pt_cmpR (op_eqP hr.units) (pv 2) pe_int (nomark _)) (pss_one (ps_asg (pe_tup (pa_cons (pe_op op_mulP (pe_ix ix_P (pv 4) pe_int (fun _ _ => rfl)) pe_int) (pa_cons (pe_op op_mulP (pe_ix ix_P (pv 4) pe_int (fun _ _ => rfl)) pe_int) pa_nil))) (pg_name (i := 5) sc_law_three.nd rfl (Or.inl rfl)))) pss_nil)
      (pss_cut (ps_if (pt_cmpR (op_eqP hr.units) (pv 2) pe_int (nomark _)) (pss_one (ps_asg (pe_callS (ok_law_fraction T) (hr.mono (by decide)) rfl T.g_law_fraction (T.fn_law_fraction).kp (b_law_fraction T) (fun σ => L2N.passAt tk σ) (pa_cons (pv 0) (pa_cons pe_int pa_nil))) (pg_name (i := 4) sc_law_three.nd rfl (Or.inl rfl)))) pss_nil)
      (pss_cut (ps_if (PW.pt (pw_or (pt_cmpR (op_eqP hr.units) (pv 2) pe_int (nomark _)) (pw_or1 (pt_cmpR (op_eqP hr.units) (pv 2) pe_int (nomark _))))) (pss_one (ps_asg (pe_callS (ok_law_fraction T) (hr.mono (by decide)) rfl T.g_law_fraction (T.fn_law_fraction).kp (b_law_fraction T) (fun σ => L2N.passAt tk σ) (pa_cons (pv 0) (pa_cons pe_int pa_nil))) (pg_name (i := 5) sc_law_three.nd rfl (Or.inl rfl)))) pss_nil)
      (pss_cut (ps_if (pt_cmpR op_ltP (pe_ix ix_P (pv 4) pe_int (fun _ _ => rfl)) pe_int (nomark _)) (pss_one (ps_asg (pe_tup (pa_cons (pe_un un_neg (pe_ix ix_P (pv 4) pe_int (fun _ _ => rfl))) (pa_cons (pe_un un_neg (pe_ix ix_P (pv 4) pe_int (fun _ _ => rfl))) pa_nil))) (pg_name (i := 4) sc_law_three.nd rfl (Or.inl rfl)))) pss_nil)
      (pss_cut (ps_if (pt_cmpR op_ltP (pe_ix ix_P (pv 5) pe_int (fun _ _ => rfl)) pe_int (nomark _)) (pss_one (ps_asg (pe_tup (pa_cons (pe_un un_neg (pe_ix ix_P (pv 5) pe_int (fun _ _ => rfl))) (pa_cons (pe_un un_neg (pe_ix ix_P (pv 5) pe_int (fun _ _ => rfl))) pa_nil))) (pg_name (i := 5) sc_law_three.nd rfl (Or.inl rfl)))) pss_nil)
      (pss_one (ps_ret (pe_lst (pa_cons (pv 1) (pa_cons (pv 4) (pa_cons (pv 5) pa_nil)))))))))))))))))
theorem sc_Share_eq : FnScope N_Share_eq ["self", "other"] (defScope Hd.s_Share_eq) := ⟨rfl, rfl, rfl, by decide +kernel, rfl, by decide +kernel, by decide +kernel⟩
theorem b_Share_eq (T : Tx w K mg) : Binds K (fdOf K (ma K (ga K "Share") "__eq__")) ["self", "other"] [] := T.fn_Share_eq.bindsN fun _ _ _ _ _ _ us hl => match us, hl with | [_, _], _ => rfl
theorem ok_Share_eq (T : Tx w K mg) : FnOk PySem.Challenge.pw_renamedhorn_k05_whole_share_order w K mg base (L2N.CX PySem.Challenge.pw_renamedhorn_k05_whole_share_order w) 1 (ma K (ga K "Share") "__eq__") (fdOf K (ma K (ga K "Share") "__eq__")) ["self", "other"] (sp_Share_eq K) := by
  refine T.fn_Share_eq.ok sc_Share_eq (fun vs H Q E h => Sp2.len h) (fun cdv A outer s H vs Q E hr h => ⟨t_Share_eq K (fun cls d _ H => E cls d H), ?_, pure_Share_eq T.ins_Share T.kit_Share_Share T.kit_int_int T.kit_Share_int T.kit_str_Share T.kit_tuple_Share T.kit_list_Share h⟩)
  · have tk := L2N.takes_of (X := cxOf (L2N.CX PySem.Challenge.pw_renamedhorn_k05_whole_share_order w) PySem.Challenge.pw_renamedhorn_k05_whole_share_order w K mg base N_Share_eq "Share.__eq__" (defScope Hd.s_Share_eq) (ma K (ga K "Share") "__eq__") cdv A outer s H E) (E := E) rfl rfl rfl rfl
    exact (pss_cut (ps_if (pt_val (pe_callB call_isi (by rfl) T.f_isinstance PyProof.Rows.Boot.«isinstance» (pa_cons (pv 1) (pa_cons (pe_bltn (v := .ty "int") rfl (T.f_int) PyProof.Rows.Boot.«int» rfl) pa_nil)))) (pss_one (ps_ret (pe_and (pe_cmpR (op_eqP hr.units) (Cl.pe_att (.cons (Cl.alt_fld T.cls_Share T.no_Share_top) .nil) (pv 0)) (pv 1) (nomark _)) (pe_one (pe_cmpR (op_eqP hr.units) (Cl.pe_att (.cons (Cl.alt_fld T.cls_Share T.no_Share_bottom) .nil) (pv 0)) pe_int (nomark _)))))) pss_nil)
      (pss_cut (ps_if (pt_not (pt_val (pe_callB call_isi (by rfl) T.f_isinstance PyProof.Rows.Boot.«isinstance» (pa_cons (pv 1) (pa_cons (pe_glob (v := .ref (ga K "Share")) rfl (T.g_Share) rfl) pa_nil))))) (pss_one (ps_ret pe_bl)) pss_nil)
      (pss_one (ps_ret (pe_and (pe_cmpR (op_eqP hr.units) (Cl.pe_att (.cons (Cl.alt_fld T.cls_Share T.no_Share_top) .nil) (pv 0)) (Cl.pe_att (.cons (Cl.alt_fld T.cls_Share T.no_Share_top) .nil) (pv 1)) (nomark _)) (pe_one (pe_cmpR (op_eqP hr.units) (Cl.pe_att (.cons (Cl.alt_fld T.cls_Share T.no_Share_bottom) .nil) (pv 0)) (Cl.pe_att (.cons (Cl.alt_fld T.cls_Share T.no_Share_bottom) .nil) (pv 1)) (nomark _))))))))
theorem sc_Share_lt : FnScope N_Share_lt ["self", "other"] (defScope Hd.s_Share_lt) := ⟨rfl, rfl, rfl, by decide +kernel, rfl, by decide +kernel, by decide +kernel⟩
theorem b_Share_lt (T : Tx w K mg) : Binds K (fdOf K (ma K (ga K "Share") "__lt__")) ["self", "other"] [] := T.fn_Share_lt.bindsN fun _ _ _ _ _ _ us hl => match us, hl with | [_, _], _ => rfl
theorem ok_Share_lt (T : Tx w K mg) : FnOk PySem.Challenge.pw_renamedhorn_k05_whole_share_order w K mg base (L2N.CX PySem.Challenge.pw_renamedhorn_k05_whole_share_order w) 8 (ma K (ga K "Share") "__lt__") (fdOf K (ma K (ga K "Share") "__lt__")) ["self", "other"] (sp_Share_lt K) := by
  refine T.fn_Share_lt.ok sc_Share_lt (fun vs H Q E h => Sp2.len h) (fun cdv A outer s H vs Q E hr h => ⟨t_Share_lt K (fun cls d _ H => E cls d H), ?_, pure_Share_lt T.ins_Share T.kit_Share_Share T.kit_int_Share T.kit_int_int h⟩)
  · have tk := L2N.takes_of (X := cxOf (L2N.CX PySem.Challenge.pw_renamedhorn_k05_whole_share_order w) PySem.Challenge.pw_renamedhorn_k05_whole_share_order w K mg base N_Share_lt "Share.__lt__" (defScope Hd.s_Share_lt) (ma K (ga K "Share") "__lt__") cdv A outer s H E) (E := E) rfl rfl rfl rfl
    exact (pss_cut (ps_if (pt_not (pt_val (pe_callB call_isiT (by rfl) T.f_isinstance PyProof.Rows.Boot.«isinstance» (pa_cons (pv 1) (pa_cons (pe_tup (pa_cons (pe_glob (v := .ref (ga K "Share")) rfl (T.g_Share) rfl) (pa_cons (pe_bltn (v := .ty "int") rfl (T.f_int) PyProof.Rows.Boot.«int» rfl) pa_nil))) pa_nil))))) (pss_one ps_never) pss_nil)
      (pss_one (ps_ret (pe_callS (ok_less T) (hr.mono (by decide)) rfl T.g_less (T.fn_less).kp (b_less T) (fun σ => L2N.passAt tk σ) (pa_cons (pv 0) (pa_cons (pe_callS (ok_as_share T) (hr.mono (by decide)) rfl T.g_as_share (T.fn_as_share).kp (b_as_share T) (fun σ => L2N.passAt tk σ) (pa_cons (pv 1) pa_nil)) pa_nil))))))
theorem sc_Share_le : FnScope N_Share_le ["self", "other"] (defScope Hd.s_Share_le) := ⟨rfl, rfl, rfl, by decide +kernel, rfl, by decide +kernel, by decide +kernel⟩
theorem b_Share_le (T : Tx w K mg) : Binds K (fdOf K (ma K (ga K "Share") "__le__")) ["self", "other"] [] := T.fn_Share_le.bindsN fun _ _ _ _ _ _ us hl => match us, hl with | [_, _], _ => rfl
theorem ok_Share_le (T : Tx w K mg) : FnOk PySem.Challenge.pw_renamedhorn_k05_whole_share_order w K mg base (L2N.CX PySem.Challenge.pw_renamedhorn_k05_whole_share_order w) 8 (ma K (ga K "Share") "__le__") (fdOf K (ma K (ga K "Share") "__le__")) ["self", "other"] (sp_Share_le K) := by
  refine T.fn_Share_le.ok sc_Share_le (fun vs H Q E h => Sp2.len h) (fun cdv A outer s H vs Q E hr h => ⟨t_Share_le K (fun cls d _ H => E cls d H), ?_, pure_Share_le T.ins_Share T.kit_Share_Share T.kit_int_Share T.kit_int_int h⟩)
  · have tk := L2N.takes_of (X := cxOf (L2N.CX PySem.Challenge.pw_renamedhorn_k05_whole_share_order w) PySem.Challenge.pw_renamedhorn_k05_whole_share_order w K mg base N_Share_le "Share.__le__" (defScope Hd.s_Share_le) (ma K (ga K "Share") "__le__") cdv A outer s H E) (E := E) rfl rfl rfl rfl
    exact (pss_cut (ps_if (pt_not (pt_val (pe_callB call_isiT (by rfl) T.f_isinstance PyProof.Rows.Boot.«isinstance» (pa_cons (pv 1) (pa_cons (pe_tup (pa_cons (pe_glob (v := .ref (ga K "Share")) rfl (T.g_Share) rfl) (pa_cons (pe_bltn (v := .ty "int") rfl (T.f_int) PyProof.Rows.Boot.«int» rfl) pa_nil))) pa_nil))))) (pss_one ps_never) pss_nil)
      (pss_one (ps_ret (pe_not (pe_callS (ok_less T) (hr.mono (by decide)) rfl T.g_less (T.fn_less).kp (b_less T) (fun σ => L2N.passAt tk σ) (pa_cons (pe_callS (ok_as_share T) (hr.mono (by decide)) rfl T.g_as_share (T.fn_as_share).kp (b_as_share T) (fun σ => L2N.passAt tk σ) (pa_cons (pv 1) pa_nil)) (pa_cons (pv 0) pa_nil)))))))
theorem sc_Share_gt : FnScope N_Share_gt ["self", "other"] (defScope Hd.s_Share_gt) := ⟨rfl, rfl, rfl, by decide +kernel, rfl, by decide +kernel, by decide +kernel⟩
theorem b_Share_gt (T : Tx w K mg) : Binds K (fdOf K (ma K (ga K "Share") "__gt__")) ["self", "other"] [] := T.fn_Share_gt.bindsN fun _ _ _ _ _ _ us hl => match us, hl with | [_, _], _ => rfl
theorem ok_Share_gt (T : Tx w K mg) : FnOk PySem.Challenge.pw_renamedhorn_k05_whole_share_order w K mg base (L2N.CX PySem.Challenge.pw_renamedhorn_k05_whole_share_order w) 8 (ma K (ga K "Share") "__gt__") (fdOf K (ma K (ga K "Share") "__gt__")) ["self", "other"] (sp_Share_gt K) := by
  refine T.fn_Share_gt.ok sc_Share_gt (fun vs H Q E h => Sp2.len h) (fun cdv A outer s H vs Q E hr h => ⟨t_Share_gt K (fun cls d _ H => E cls d H), ?_, pure_Share_gt T.ins_Share T.kit_Share_Share T.kit_int_Share T.kit_int_int h⟩)
  · have tk := L2N.takes_of (X := cxOf (L2N.CX PySem.Challenge.pw_renamedhorn_k05_whole_share_order w) PySem.Challenge.pw_renamedhorn_k05_whole_share_order w K mg base N_Share_gt "Share.__gt__" (defScope Hd.s_Share_gt) (ma K (ga K "Share") "__gt__") cdv A outer s H E) (E := E) rfl rfl rfl rfl
    exact (pss_cut (ps_if (pt_not (pt_val (pe_callB call_isiT (by rfl) T.f_isinstance PyProof.Rows.Boot.«isinstance» (pa_cons (pv 1) (pa_cons (pe_tup (pa_cons (pe_glob (v := .ref (ga K "Share")) rfl (T.g_Share) rfl) (pa_cons (pe_bltn (v := .ty "int") rfl (T.f_int) PyProof.Rows.Boot.«int» rfl) pa_nil))) pa_nil))))) (pss_one ps_never) pss_nil)
      (pss_one (ps_ret (pe_callS (ok_less T) (hr.mono (by decide)) rfl T.g_less (T.fn_less).kp (b_less T) (fun σ => L2N.passAt tk σ) (pa_cons (pe_callS (ok_as_share T) (hr.mono (by decide)) rfl T.g_as_share (T.fn_as_share).kp (b_as_share T) (fun σ => L2N.passAt tk σ) (pa_cons (pv 1) pa_nil)) (pa_cons (pv 0) pa_nil))))))
theorem sc_Share_ge : FnScope N_Share_ge ["self", "other"] (defScope Hd.s_Share_ge) := ⟨rfl, rfl, rfl, by decide +kernel, rfl, by decide +kernel, by decide +kernel⟩
theorem b_Share_ge (T : Tx w K mg) : Binds K (fdOf K (ma K (ga K "Share") "__ge__")) ["self", "other"] [] := T.fn_Share_ge.bindsN fun _ _ _ _ _ _ us hl => match us, hl with | [_, _], _ => rfl
theorem ok_Share_ge (T : Tx w K mg) : FnOk PySem.Challenge.pw_renamedhorn_k05_whole_share_order w K mg base (L2N.CX PySem.Challenge.pw_renamedhorn_k05_whole_share_order w) 8 (ma K (ga K "Share") "__ge__") (fdOf K (ma K (ga K "Share") "__ge__")) ["self", "other"] (sp_Share_ge K) := by
  refine T.fn_Share_ge.ok sc_Share_ge (fun vs H Q E h => Sp2.len h) (fun cdv A outer s H vs Q E hr h => ⟨t_Share_ge K (fun cls d _ H => E cls d H), ?_, pure_Share_ge T.ins_Share T.kit_Share_Share T.kit_int_Share T.kit_int_int h⟩)
  · have tk := L2N.takes_of (X := cxOf (L2N.CX PySem.Challenge.pw_renamedhorn_k05_whole_share_order w) PySem.Challenge.pw_renamedhorn_k05_whole_share_order w K mg base N_Share_ge "Share.__ge__" (defScope Hd.s_Share_ge) (ma K (ga K "Share") "__ge__") cdv A outer s H E) (E := E) rfl rfl rfl rfl
    exact (pss_cut (ps_if (pt_not (pt_val (pe_callB call_isiT (by rfl) T.f_isinstance PyProof.Rows.Boot.«isinstance» (pa_cons (pv 1) (pa_cons (pe_tup (pa_cons (pe_glob (v := .ref (ga K "Share")) rfl (T.g_Share) rfl) (pa_cons (pe_bltn (v := .ty "int") rfl (T.f_int) PyProof.Rows.Boot.«int» rfl) pa_nil))) pa_nil))))) (pss_one ps_never) pss_nil)
      (pss_one (ps_ret (pe_not (pe_callS (ok_less T) (hr.mono (by decide)) rfl T.g_less (T.fn_less).kp (b_less T) (fun σ => L2N.passAt tk σ) (pa_cons (pv 0) (pa_cons (pe_callS (ok_as_share T) (hr.mono (by decide)) rfl T.g_as_share (T.fn_as_share).kp (b_as_share T) (fun σ => L2N.passAt tk σ) (pa_cons (pv 1) pa_nil)) pa_nil)))))))
theorem sc_law_compared : FnScope N_law_compared ["_law_one", "_law_other", "_law_p", "_law_q"] (defScope Hd.s_law_compared) := ⟨rfl, rfl, rfl, by decide +kernel, rfl, by decide +kernel, by decide +kernel⟩
theorem b_law_compared (T : Tx w K mg) : Binds K (fdOf K (ga K "_law_compared")) ["_law_one", "_law_other", "_law_p", "_law_q"] [] := T.fn_law_compared.bindsN fun _ _ _ _ _ _ us hl => match us, hl with | [_, _, _, _], _ => rfl
theorem ok_law_compared (T : Tx w K mg) : FnOk PySem.Challenge.pw_renamedhorn_k05_whole_share_order w K mg base (L2N.CX PySem.Challenge.pw_renamedhorn_k05_whole_share_order w) 12 (ga K "_law_compared") (fdOf K (ga K "_law_compared")) ["_law_one", "_law_other", "_law_p", "_law_q"] (sp_law_compared K) := by
  refine T.fn_law_compared.ok sc_law_compared (fun vs H Q E h => Sp4.len h) (fun cdv A outer s H vs Q E hr h => ⟨t_law_compared K (fun cls d _ H => E cls d H), ?_, pure_law_compared h⟩)
  · have tk := L2N.takes_of (X := cxOf (L2N.CX PySem.Challenge.pw_renamedhorn_k05_whole_share_order w) PySem.Challenge.pw_renamedhorn_k05_whole_share_order w K mg base N_law_compared "_law_compared" (defScope Hd.s_law_compared) (ga K "_law_compared") cdv A outer s H E) (E := E) rfl rfl rfl rfl
    exact (pss_cons (ps_asg (pe_op op_mulP (pe_ix ix_P (pv 2) pe_int (fun _ _ => rfl)) (pe_ix ix_P (pv 3) pe_int (fun _ _ => rfl))) (pg_name (i := 4) sc_law_compared.nd rfl (Or.inl rfl)))
      (pss_cons (ps_asg (pe_op op_mulP (pe_ix ix_P (pv 3) pe_int (fun _ _ => rfl)) (pe_ix ix_P (pv 2) pe_int (fun _ _ => rfl))) (pg_name (i := 5) sc_law_compared.nd rfl (Or.inl rfl)))
      (pss_cons (ps_asg (pe_lst (pa_cons (Cl.pe_cmpS (Cl.op_cmpX (E := (WE fun cls d _ H => E cls d H)) (.cons (Cl.cmp_of Cl.int_eq T.cmpk_Share_eq (Cl.toR (ok_Share_eq T) (b_Share_eq T)) (Cl.toR (ok_Share_eq T) (b_Share_eq T)) (hr.mono (by decide)) (hr.mono (by decide)) (fun σ => L2N.passAt tk σ) (fun σ => L2N.passAt tk σ)) .nil) (op_eqP hr.units)) (pv 0) (pv 1) (nomark _)) (pa_cons (Cl.pe_cmpS (Cl.op_cmpX (E := (WE fun cls d _ H => E cls d H)) (.cons (Cl.cmp_of Cl.int_lt T.cmpk_Share_lt (Cl.toR (ok_Share_lt T) (b_Share_lt T)) (Cl.toR (ok_Share_gt T) (b_Share_gt T)) (hr.mono (by decide)) (hr.mono (by decide)) (fun σ => L2N.passAt tk σ) (fun σ => L2N.passAt tk σ)) .nil) op_ltP) (pv 0) (pv 1) (nomark _)) (pa_cons (Cl.pe_cmpS (Cl.op_cmpX (E := (WE fun cls d _ H => E cls d H)) (.cons (Cl.cmp_of Cl.int_le T.cmpk_Share_le (Cl.toR (ok_Share_le T) (b_Share_le T)) (Cl.toR (ok_Share_ge T) (b_Share_ge T)) (hr.mono (by decide)) (hr.mono (by decide)) (fun σ => L2N.passAt tk σ) (fun σ => L2N.passAt tk σ)) .nil) op_leP) (pv 0) (pv 1) (nomark _)) (pa_cons (Cl.pe_cmpS (Cl.op_cmpX (E := (WE fun cls d _ H => E cls d H)) (.cons (Cl.cmp_of Cl.int_gt T.cmpk_Share_gt (Cl.toR (ok_Share_gt T) (b_Share_gt T)) (Cl.toR (ok_Share_lt T) (b_Share_lt T)) (hr.mono (by decide)) (hr.mono (by decide)) (fun σ => L2N.passAt tk σ) (fun σ => L2N.passAt tk σ)) .nil) op_gtP) (pv 0) (pv 1) (nomark _)) (pa_cons (Cl.pe_cmpS (Cl.op_cmpX (E := (WE fun cls d _ H => E cls d H)) (.cons (Cl.cmp_of Cl.int_ge T.cmpk_Share_ge (Cl.toR (ok_Share_ge T) (b_Share_ge T)) (Cl.toR (ok_Share_le T) (b_Share_le T)) (hr.mono (by decide)) (hr.mono (by decide)) (fun σ => L2N.passAt tk σ) (fun σ => L2N.passAt tk σ)) .nil) op_geP) (pv 0) (pv 1) (nomark _)) pa_nil)))))) (pg_name (i := 6) sc_law_compared.nd rfl (Or.inl rfl)))
      (pss_one (ps_ret (pe_callS (ok_law_same T) (hr.mono (by decide)) rfl T.g_law_same (T.fn_law_same).kp (b_law_same T) (fun σ => L2N.passAt tk σ) (pa_cons (pv 6) (pa_cons (pe_lst (pa_cons (pe_cmpR (op_eqP hr.units) (pv 4) (pv 5) (nomark _)) (pa_cons (pe_cmpR op_ltP (pv 4) (pv 5) (nomark _)) (pa_cons (pe_cmpR op_leP (pv 4) (pv 5) (nomark _)) (pa_cons (pe_cmpR op_gtP (pv 4) (pv 5) (nomark _)) (pa_cons (pe_cmpR op_geP (pv 4) (pv 5) (nomark _)) pa_nil)))))) pa_nil))))))))
theorem sc_Share_neg : FnScope N_Share_neg ["self"] (defScope Hd.s_Share_neg) := ⟨rfl, rfl, rfl, by decide +kernel, rfl, by decide +kernel, by decide +kernel⟩
theorem b_Share_neg (T : Tx w K mg) : Binds K (fdOf K (ma K (ga K "Share") "__neg__")) ["self"] [] := T.fn_Share_neg.bindsN fun _ _ _ _ _ _ us hl => match us, hl with | [_], _ => rfl
theorem ok_Share_neg (T : Tx w K mg) : FnOk PySem.Challenge.pw_renamedhorn_k05_whole_share_order w K mg base (L2N.CX PySem.Challenge.pw_renamedhorn_k05_whole_share_order w) 7 (ma K (ga K "Share") "__neg__") (fdOf K (ma K (ga K "Share") "__neg__")) ["self"] (sp_Share_neg K) := by
  refine T.fn_Share_neg.ok sc_Share_neg (fun vs H Q E h => Sp1.len h) (fun cdv A outer s H vs Q E hr h => ⟨t_Share_neg K (fun cls d _ H => E cls d H), ?_, pure_Share_neg h⟩)
  · have tk := L2N.takes_of (X := cxOf (L2N.CX PySem.Challenge.pw_renamedhorn_k05_whole_share_order w) PySem.Challenge.pw_renamedhorn_k05_whole_share_order w K mg base N_Share_neg "Share.__neg__" (defScope Hd.s_Share_neg) (ma K (ga K "Share") "__neg__") cdv A outer s H E) (E := E) rfl rfl rfl rfl
    exact (pss_one (ps_ret (Cl.pe_makeS T.mk_Share (fr_Share_init T) (hr.mono (by decide)) rfl T.g_Share (fun σ => L2N.passAt tk σ) (pa_cons (pe_un un_neg (Cl.pe_att (.cons (Cl.alt_fld T.cls_Share T.no_Share_top) .nil) (pv 0))) (pa_cons (Cl.pe_att (.cons (Cl.alt_fld T.cls_Share T.no_Share_bottom) .nil) (pv 0)) pa_nil)))))
theorem sc_Share_abs : FnScope N_Share_abs ["self"] (defScope Hd.s_Share_abs) := ⟨rfl, rfl, rfl, by decide +kernel, rfl, by decide +kernel, by decide +kernel⟩
theorem b_Share_abs (T : Tx w K mg) : Binds K (fdOf K (ma K (ga K "Share") "__abs__")) ["self"] [] := T.fn_Share_abs.bindsN fun _ _ _ _ _ _ us hl => match us, hl with | [_], _ => rfl
theorem ok_Share_abs (T : Tx w K mg) : FnOk PySem.Challenge.pw_renamedhorn_k05_whole_share_order w K mg base (L2N.CX PySem.Challenge.pw_renamedhorn_k05_whole_share_order w) 7 (ma K (ga K "Share") "__abs__") (fdOf K (ma K (ga K "Share") "__abs__")) ["self"] (sp_Share_abs K) := by
  refine T.fn_Share_abs.ok sc_Share_abs (fun vs H Q E h => Sp1.len h) (fun cdv A outer s H vs Q E hr h => ⟨t_Share_abs K (fun cls d _ H => E cls d H), ?_, pure_Share_abs h⟩)
  · have tk := L2N.takes_of (X := cxOf (L2N.CX PySem.Challenge.pw_renamedhorn_k05_whole_share_order w) PySem.Challenge.pw_renamedhorn_k05_whole_share_order w K mg base N_Share_abs "Share.__abs__" (defScope Hd.s_Share_abs) (ma K (ga K "Share") "__abs__") cdv A outer s H E) (E := E) rfl rfl rfl rfl
    exact (pss_one (ps_ret (Cl.pe_makeS T.mk_Share (fr_Share_init T) (hr.mono (by decide)) rfl T.g_Share (fun σ => L2N.passAt tk σ) (pa_cons (pe_callB call_absP (by rfl) T.f_abs PyProof.Rows.Boot.«abs» (pa_cons (Cl.pe_att (.cons (Cl.alt_fld T.cls_Share T.no_Share_top) .nil) (pv 0)) pa_nil)) (pa_cons (Cl.pe_att (.cons (Cl.alt_fld T.cls_Share T.no_Share_bottom) .nil) (pv 0)) pa_nil)))))
theorem sc_Share_bool : FnScope N_Share_bool ["self"] (defScope Hd.s_Share_bool) := ⟨rfl, rfl, rfl, by decide +kernel, rfl, by decide +kernel, by decide +kernel⟩
theorem b_Share_bool (T : Tx w K mg) : Binds K (fdOf K (ma K (ga K "Share") "__bool__")) ["self"] [] := T.fn_Share_bool.bindsN fun _ _ _ _ _ _ us hl => match us, hl with | [_], _ => rfl
theorem ok_Share_bool (T : Tx w K mg) : FnOk PySem.Challenge.pw_renamedhorn_k05_whole_share_order w K mg base (L2N.CX PySem.Challenge.pw_renamedhorn_k05_whole_share_order w) 1 (ma K (ga K "Share") "__bool__") (fdOf K (ma K (ga K "Share") "__bool__")) ["self"] (sp_Share_bool K) := by
  refine T.fn_Share_bool.ok sc_Share_bool (fun vs H Q E h => Sp1.len h) (fun cdv A outer s H vs Q E hr h => ⟨t_Share_bool K (fun cls d _ H => E cls d H), ?_, pure_Share_bool h⟩)
  · have tk := L2N.takes_of (X := cxOf (L2N.CX PySem.Challenge.pw_renamedhorn_k05_whole_share_order w) PySem.Challenge.pw_renamedhorn_k05_whole_share_order w K mg base N_Share_bool "Share.__bool__" (defScope Hd.s_Share_bool) (ma K (ga K "Share") "__bool__") cdv A outer s H E) (E := E) rfl rfl rfl rfl
    exact (pss_one (ps_ret (pe_callTy (Cl.call_boolO .nil) (by rfl) T.f_bool PyProof.Rows.Boot.«bool» (pa_cons (pe_cmpR (op_neP hr.units) (Cl.pe_att (.cons (Cl.alt_fld T.cls_Share T.no_Share_top) .nil) (pv 0)) pe_int (nomark _)) pa_nil))))
theorem sc_law_alone : FnScope N_law_alone ["_law_share", "_law_p", "_law_number_here"] (defScope Hd.s_law_alone) := ⟨rfl, rfl, rfl, by decide +kernel, rfl, by decide +kernel, by decide +kernel⟩
theorem b_law_alone (T : Tx w K mg) : Binds K (fdOf K (ga K "_law_alone")) ["_law_share", "_law_p", "_law_number_here"] [] := T.fn_law_alone.bindsN fun _ _ _ _ _ _ us hl => match us, hl with | [_, _, _], _ => rfl
theorem ok_law_alone (T : Tx w K mg) : FnOk PySem.Challenge.pw_renamedhorn_k05_whole_share_order w K mg base (L2N.CX PySem.Challenge.pw_renamedhorn_k05_whole_share_order w) 13 (ga K "_law_alone") (fdOf K (ga K "_law_alone")) ["_law_share", "_law_p", "_law_number_here"] (sp_law_alone K) := by
  refine T.fn_law_alone.ok sc_law_alone (fun vs H Q E h => Sp3.len h) (fun cdv A outer s H vs Q E hr h => ⟨t_law_alone K (fun cls d _ H => E cls d H), ?_, pure_law_alone h⟩)
  · have tk := L2N.takes_of (X := cxOf (L2N.CX PySem.Challenge.pw_renamedhorn_k05_whole_share_order w) PySem.Challenge.pw_renamedhorn_k05_whole_share_order w K mg base N_law_alone "_law_alone" (defScope Hd.s_law_alone) (ga K "_law_alone") cdv A outer s H E) (E := E) rfl rfl rfl rfl
    exact (pss_cut (ps_if (PW.pt (pw_or (pt_not (pt_val (pe_callS (ok_law_same T) (hr.mono (by decide)) rfl T.g_law_same (T.fn_law_same).kp (b_law_same T) (fun σ => L2N.passAt tk σ) (pa_cons (pe_callTy (Cl.call_boolO (.cons (Cl.ownM_of T.cls_Share T.own_Share_bool T.fn_Share_bool (Cl.toR (ok_Share_bool T) (b_Share_bool T)) (hr.mono (by decide)) (fun σ => Cl.passNA σ)) .nil)) (by rfl) T.f_bool PyProof.Rows.Boot.«bool» (pa_cons (pv 0) pa_nil)) (pa_cons (pe_cmpR (op_neP hr.units) (pe_ix ix_P (pv 1) pe_int (fun _ _ => rfl)) pe_int (nomark _)) pa_nil))))) (pw_or1 (pt_not (pt_val (pe_callS (ok_law_is_share T) (hr.mono (by decide)) rfl T.g_law_is_share (T.fn_law_is_share).kp (b_law_is_share T) (fun σ => L2N.passAt tk σ) (pa_cons (pv 0) (pa_cons (pe_ix ix_P (pv 1) pe_int (fun _ _ => rfl)) (pa_cons (pe_ix ix_P (pv 1) pe_int (fun _ _ => rfl)) pa_nil))))))))) (pss_one (ps_ret pe_bl)) pss_nil)
      (pss_cut (ps_if (PW.pt (pw_or (pt_not (pt_val (pe_callS (ok_law_is_share T) (hr.mono (by decide)) rfl T.g_law_is_share (T.fn_law_is_share).kp (b_law_is_share T) (fun σ => L2N.passAt tk σ) (pa_cons (pe_un (Cl.un_negO (.cons (Cl.ownM_of T.cls_Share T.own_Share_neg T.fn_Share_neg (Cl.toR (ok_Share_neg T) (b_Share_neg T)) (hr.mono (by decide)) (fun σ => Cl.passNA σ)) .nil)) (pv 0)) (pa_cons (pe_un un_neg (pe_ix ix_P (pv 1) pe_int (fun _ _ => rfl))) (pa_cons (pe_ix ix_P (pv 1) pe_int (fun _ _ => rfl)) pa_nil)))))) (pw_or1 (pt_not (pt_val (pe_callS (ok_law_is_share T) (hr.mono (by decide)) rfl T.g_law_is_share (T.fn_law_is_share).kp (b_law_is_share T) (fun σ => L2N.passAt tk σ) (pa_cons (pe_callB (Cl.call_absO (.cons (Cl.ownM_of T.cls_Share T.own_Share_abs T.fn_Share_abs (Cl.toR (ok_Share_abs T) (b_Share_abs T)) (hr.mono (by decide)) (fun σ => Cl.passNA σ)) .nil)) (by rfl) T.f_abs PyProof.Rows.Boot.«abs» (pa_cons (pv 0) pa_nil)) (pa_cons (pe_callB (Cl.call_absO (.cons (Cl.ownM_of T.cls_Share T.own_Share_abs T.fn_Share_abs (Cl.toR (ok_Share_abs T) (b_Share_abs T)) (hr.mono (by decide)) (fun σ => Cl.passNA σ)) .nil)) (by rfl) T.f_abs PyProof.Rows.Boot.«abs» (pa_cons (pe_ix ix_P (pv 1) pe_int (fun _ _ => rfl)) pa_nil)) (pa_cons (pe_ix ix_P (pv 1) pe_int (fun _ _ => rfl)) pa_nil))))))))) (pss_one (ps_ret pe_bl)) pss_nil)
      (pss_cut (ps_if (PW.pt (pw_or (pt_not (pt_val (pe_callS (ok_law_compared T) (hr.mono (by decide)) rfl T.g_law_compared (T.fn_law_compared).kp (b_law_compared T) (fun σ => L2N.passAt tk σ) (pa_cons (pv 0) (pa_cons (pv 2) (pa_cons (pv 1) (pa_cons (pe_tup (pa_cons (pv 2) (pa_cons pe_int pa_nil))) pa_nil))))))) (pw_or1 (pt_not (pt_val (pe_callS (ok_law_compared T) (hr.mono (by decide)) rfl T.g_law_compared (T.fn_law_compared).kp (b_law_compared T) (fun σ => L2N.passAt tk σ) (pa_cons (pv 2) (pa_cons (pv 0) (pa_cons (pe_tup (pa_cons (pv 2) (pa_cons pe_int pa_nil))) (pa_cons (pv 1) pa_nil)))))))))) (pss_one (ps_ret pe_bl)) pss_nil)
      (pss_cons (ps_asg (pe_op op_addP (pe_op op_addP (pe_callTy call_strP (by rfl) T.f_str PyProof.Rows.Boot.«str» (pa_cons (pe_ix ix_P (pv 1) pe_int (fun _ _ => rfl)) pa_nil)) pe_str) (pe_callTy call_strP (by rfl) T.f_str PyProof.Rows.Boot.«str» (pa_cons (pe_ix ix_P (pv 1) pe_int (fun _ _ => rfl)) pa_nil))) (pg_name (i := 3) sc_law_alone.nd rfl (Or.inl rfl)))
      (pss_cons (ps_asg (pe_lst (pa_cons (Cl.pe_cmpS (Cl.op_cmpX (E := (WE fun cls d _ H => E cls d H)) (.cons (Cl.cmp_of Cl.int_eq T.cmpk_Share_eq (Cl.toR (ok_Share_eq T) (b_Share_eq T)) (Cl.toR (ok_Share_eq T) (b_Share_eq T)) (hr.mono (by decide)) (hr.mono (by decide)) (fun σ => L2N.passAt tk σ) (fun σ => L2N.passAt tk σ)) .nil) (op_eqP hr.units)) (pv 0) (pv 3) (nomark _)) (pa_cons (Cl.pe_cmpS (Cl.op_cmpX (E := (WE fun cls d _ H => E cls d H)) (.cons (Cl.cmp_of Cl.int_eq T.cmpk_Share_eq (Cl.toR (ok_Share_eq T) (b_Share_eq T)) (Cl.toR (ok_Share_eq T) (b_Share_eq T)) (hr.mono (by decide)) (hr.mono (by decide)) (fun σ => L2N.passAt tk σ) (fun σ => L2N.passAt tk σ)) .nil) (op_eqP hr.units)) (pv 3) (pv 0) (nomark _)) (pa_cons (Cl.pe_cmpS (Cl.op_cmpX (E := (WE fun cls d _ H => E cls d H)) (.cons (Cl.cmp_of Cl.int_eq T.cmpk_Share_eq (Cl.toR (ok_Share_eq T) (b_Share_eq T)) (Cl.toR (ok_Share_eq T) (b_Share_eq T)) (hr.mono (by decide)) (hr.mono (by decide)) (fun σ => L2N.passAt tk σ) (fun σ => L2N.passAt tk σ)) .nil) (op_eqP hr.units)) (pv 0) (pv 1) (nomark _)) (pa_cons (Cl.pe_cmpS (Cl.op_cmpX (E := (WE fun cls d _ H => E cls d H)) (.cons (Cl.cmp_of Cl.int_eq T.cmpk_Share_eq (Cl.toR (ok_Share_eq T) (b_Share_eq T)) (Cl.toR (ok_Share_eq T) (b_Share_eq T)) (hr.mono (by decide)) (hr.mono (by decide)) (fun σ => L2N.passAt tk σ) (fun σ => L2N.passAt tk σ)) .nil) (op_eqP hr.units)) (pv 0) (pe_lst (pa_cons (pe_ix ix_P (pv 1) pe_int (fun _ _ => rfl)) (pa_cons (pe_ix ix_P (pv 1) pe_int (fun _ _ => rfl)) pa_nil))) (nomark _)) (pa_cons (Cl.pe_cmpS (Cl.op_cmpX (E := (WE fun cls d _ H => E cls d H)) (.cons (Cl.cmp_of Cl.int_eq T.cmpk_Share_eq (Cl.toR (ok_Share_eq T) (b_Share_eq T)) (Cl.toR (ok_Share_eq T) (b_Share_eq T)) (hr.mono (by decide)) (hr.mono (by decide)) (fun σ => L2N.passAt tk σ) (fun σ => L2N.passAt tk σ)) .nil) (op_eqP hr.units)) (pv 0) (pe_callTy call_strP (by rfl) T.f_str PyProof.Rows.Boot.«str» (pa_cons (pe_ix ix_P (pv 1) pe_int (fun _ _ => rfl)) pa_nil)) (nomark _)) pa_nil)))))) (pg_name (i := 4) sc_law_alone.nd rfl (Or.inl rfl)))
      (pss_one (ps_ret (pe_callS (ok_law_same T) (hr.mono (by decide)) rfl T.g_law_same (T.fn_law_same).kp (b_law_same T) (fun σ => L2N.passAt tk σ) (pa_cons (pv 4) (pa_cons (pe_lst (pa_cons pe_bl (pa_cons pe_bl (pa_cons pe_bl (pa_cons pe_bl (pa_cons pe_bl pa_nil)))))) pa_nil))))))))))
theorem sc_law : FnScope N_law ["_law_script"] (defScope Hd.s_law) := ⟨rfl, rfl, rfl, by decide +kernel, rfl, by decide +kernel, by decide +kernel⟩
theorem b_law (T : Tx w K mg) : Binds K (fdOf K (ga K "law")) ["_law_script"] [] := T.fn_law.bindsN fun _ _ _ _ _ _ us hl => match us, hl with | [_], _ => rfl
theorem ok_law (T : Tx w K mg) : FnOk PySem.Challenge.pw_renamedhorn_k05_whole_share_order w K mg base (L2N.CX PySem.Challenge.pw_renamedhorn_k05_whole_share_order w) 14 (ga K "law") (fdOf K (ga K "law")) ["_law_script"] (sp_law K) := by
  refine T.fn_law.ok sc_law (fun vs H Q E h => Sp1.len h) (fun cdv A outer s H vs Q E hr h => ⟨t_law K (fun cls d _ H => E cls d H), ?_, pure_law h⟩)
  · have tk := L2N.takes_of (X := cxOf (L2N.CX PySem.Challenge.pw_renamedhorn_k05_whole_share_order w) PySem.Challenge.pw_renamedhorn_k05_whole_share_order w K mg base N_law "law" (defScope Hd.s_law) (ga K "law") cdv A outer s H E) (E := E) rfl rfl rfl rfl
    exact (pss_cons (ps_asg (pe_callS (ok_law_source T) (hr.mono (by decide)) rfl T.g_law_source (T.fn_law_source).kp (b_law_source T) (fun σ => L2N.passAt tk σ) (pa_cons (pv 0) pa_nil)) (pg_name (i := 1) sc_law.nd rfl (Or.inl rfl)))
      (pss_cons (ps_asg (pe_callS (ok_law_three T) (hr.mono (by decide)) rfl T.g_law_three (T.fn_law_three).kp (b_law_three T) (fun σ => L2N.passAt tk σ) (pa_cons (pv 1) pa_nil)) (pg_name (i := 2) sc_law.nd rfl (Or.inr rfl)))
      (pss_cons (ps_asg (pe_op op_subP (pe_op op_addP (pe_op op_fdivP (pe_ix ix_P (pe_ix ix_P (pv 2) pe_int (fun _ _ => rfl)) pe_int (fun _ _ => rfl)) (pe_ix ix_P (pe_ix ix_P (pv 2) pe_int (fun _ _ => rfl)) pe_int (fun _ _ => rfl))) (pe_callS (ok_law_take T) (hr.mono (by decide)) rfl T.g_law_take (T.fn_law_take).kp (b_law_take T) (fun σ => L2N.passAt tk σ) (pa_cons (pv 1) (pa_cons pe_int pa_nil)))) pe_int) (pg_name (i := 3) sc_law.nd rfl (Or.inl rfl)))
      (pss_cut (ps_if (pt_cmpR (op_eqP hr.units) (pe_callS (ok_law_take T) (hr.mono (by decide)) rfl T.g_law_take (T.fn_law_take).kp (b_law_take T) (fun σ => L2N.passAt tk σ) (pa_cons (pv 1) (pa_cons pe_int pa_nil))) pe_int (nomark _)) (pss_one (ps_asg (pe_callS (ok_law_number T) (hr.mono (by decide)) rfl T.g_law_number (T.fn_law_number).kp (b_law_number T) (fun σ => L2N.passAt tk σ) (pa_cons (pv 1) (pa_cons pe_int pa_nil))) (pg_name (i := 3) sc_law.nd rfl (Or.inl rfl)))) pss_nil)
      (pss_cons (ps_asg (pe_lst pa_nil) (pg_name (i := 4) sc_law.nd rfl (Or.inr rfl)))
      (pss_cut (ps_for (passes_of rfl) rfl (pi_anyP (pv 2)) (pg_name (i := 5) sc_law.nd rfl (Or.inl rfl)) (pss_one (ps_if (pt_cmpR (op_eqP hr.units) (pe_callS (ok_law_take T) (hr.mono (by decide)) rfl T.g_law_take (T.fn_law_take).kp (b_law_take T) (fun σ => L2N.passAt tk σ) (pa_cons (pv 1) (pa_cons pe_int pa_nil))) pe_int (nomark _)) (pss_one (ps_expr (pe_bm PySem.F.plainAttrs_list PySem.F.slot_list_append PySem.F.type_list_append mt_append (pv 4) (pa_cons (Cl.pe_makeS T.mk_Share (fr_Share_init T) (hr.mono (by decide)) rfl T.g_Share (fun σ => L2N.passAt tk σ) (pa_cons (pe_ix ix_P (pv 5) pe_int (fun _ _ => rfl)) (pa_cons (pe_ix ix_P (pv 5) pe_int (fun _ _ => rfl)) pa_nil))) pa_nil)))) (pss_one (ps_expr (pe_bm PySem.F.plainAttrs_list PySem.F.slot_list_append PySem.F.type_list_append mt_append (pv 4) (pa_cons (Cl.pe_makeS T.mk_Share (fr_Share_init T) (hr.mono (by decide)) rfl T.g_Share (fun σ => L2N.passAt tk σ) (pa_cons (pe_un un_neg (pe_ix ix_P (pv 5) pe_int (fun _ _ => rfl))) (pa_cons (pe_un un_neg (pe_ix ix_P (pv 5) pe_int (fun _ _ => rfl))) pa_nil))) pa_nil)))))))
      (pss_cut (ps_for (passes_of rfl) rfl (pi_range1 (by rfl) T.f_range (pa_cons pe_int pa_nil)) (pg_name (i := 6) sc_law.nd rfl (Or.inl rfl)) (pss_cut (ps_for (passes_of rfl) rfl (pi_anyP (pe_lst (pa_cons (pv 3) (pa_cons pe_int (pa_cons (pe_ix ix_P (pe_ix ix_P (pv 2) (pv 6) (fun _ _ => rfl)) pe_int (fun _ _ => rfl)) pa_nil))))) (pg_name (i := 7) sc_law.nd rfl (Or.inl rfl)) (pss_one (ps_if (pt_not (pt_val (pe_callS (ok_law_alone T) (hr.mono (by decide)) rfl T.g_law_alone (T.fn_law_alone).kp (b_law_alone T) (fun σ => L2N.passAt tk σ) (pa_cons (pe_ix ix_P (pv 4) (pv 6) (fun _ _ => rfl)) (pa_cons (pe_ix ix_P (pv 2) (pv 6) (fun _ _ => rfl)) (pa_cons (pv 7) pa_nil)))))) (pss_one (ps_ret pe_bl)) pss_nil)))
      (pss_one (ps_for (passes_of rfl) rfl (pi_range1 (by rfl) T.f_range (pa_cons pe_int pa_nil)) (pg_name (i := 8) sc_law.nd rfl (Or.inl rfl)) (pss_one (ps_if (pt_not (pt_val (pe_callS (ok_law_compared T) (hr.mono (by decide)) rfl T.g_law_compared (T.fn_law_compared).kp (b_law_compared T) (fun σ => L2N.passAt tk σ) (pa_cons (pe_ix ix_P (pv 4) (pv 6) (fun _ _ => rfl)) (pa_cons (pe_ix ix_P (pv 4) (pv 8) (fun _ _ => rfl)) (pa_cons (pe_ix ix_P (pv 2) (pv 6) (fun _ _ => rfl)) (pa_cons (pe_ix ix_P (pv 2) (pv 8) (fun _ _ => rfl)) pa_nil))))))) (pss_one (ps_ret pe_bl)) pss_nil))))))
      (pss_one (ps_ret (pe_callB (cr_all rfl) (by rfl) T.f_all PyProof.Rows.Boot.«all» (pa_cons (pe_lc (own := [("_law_k", 6)]) (g := (gName 6)) (tt := tYes) rfl sc_law.nd (pi_range1 (by rfl) T.f_range (pa_cons pe_int pa_nil)) (blkOk_by (own := [("_law_k", 6)]) (N := N_law) (sc := defScope Hd.s_law) (by decide +kernel)) (fun _ _ _ _ _ => (pg_name (i := 6) sc_law.nd rfl (Or.inl rfl))) (fun _ _ _ _ _ => pts_nil) (fun _ _ _ _ _ => (pe_call (ok_law_is_share T) (hr.mono (by decide)) rfl T.g_law_is_share (T.fn_law_is_share).kp (b_law_is_share T) .nil passN (pa_cons (pe_ix ix_P (pv 4) (pv 6) (fun _ _ => rfl)) (pa_cons (pe_ix ix_P (pe_ix ix_P (pv 2) (pv 6) (fun _ _ => rfl)) pe_int (fun _ _ => rfl)) (pa_cons (pe_ix ix_P (pe_ix ix_P (pv 2) (pv 6) (fun _ _ => rfl)) pe_int (fun _ _ => rfl)) pa_nil)))))) pa_nil)))))))))))
end
end Ok
open PySem PySem.W PySem.Calls PyProof.Rows
set_option maxRecDepth 100000 in
set_option maxHeartbeats 8000000 in
theorem PySem.Challenge.cw_renamedhorn_k05_whole_share_order_holds : PySem.Challenge.rw_renamedhorn_k05_whole_share_order.Holds := by
  w_on; o_law
  refine HandSHeadRun.head_imp (r := OpenLaw.row PySem.Challenge.rw_renamedhorn_k05_whole_share_order) (q := view (OpenLaw.row PySem.Challenge.rw_renamedhorn_k05_whole_share_order).prog [0, 27]) (H := Hd.hk) (ob := Hd.ob) (M := 6000) (loose := Hd.loose) (d := HandSHeadRun.topDef (OpenLaw.row PySem.Challenge.rw_renamedhorn_k05_whole_share_order).prog 27) (kwd := []) Hd.ob_eq
    Hd.run (by kernel_rfl) (by kernel_rfl) (by kernel_rfl) (by rfl) (by first | assumption | decide +kernel) (by decide +kernel) ⟨rfl, rfl, rfl, rfl, rfl, by decide +kernel⟩ ?hw ?hc
  case hw => w_witness2
  case hc =>
    refine Hk.walk_ofEB (l := PySem.Challenge.rw_renamedhorn_k05_whole_share_order) (n := 63) (k := 14) (x := "_law_script") (CX := L2N.CX PySem.Challenge.pw_renamedhorn_k05_whole_share_order) rfl (by decide) (by kernel_rfl) ⟨rfl, by decide, by decide⟩ ?F (fun w H s e s' z => ?X)
    case X =>
      obtain ⟨_, _, _, _, _, _, _, _, _, _, _, _, z⟩ := z
      exact z
    case F =>
      intro w mg fa h Y G hmg0
      obtain ⟨K, KX, c⟩ := Y
      have hmg : mg ("law" : PySem.Str) = some (.ref fa) := by
        have e : (HandSHeadRun.topDef (OpenLaw.row PySem.Challenge.rw_renamedhorn_k05_whole_share_order).prog 27).name = ("law" : PySem.Str) := by kernel_rfl
        rw [← e]
        exact hmg0
      have T : Ok.Tx w K mg := ⟨c, h, KX, G⟩
      have e := hmg.symm.trans T.g_law
      cases e
      have b := L2.FunD.bindsA (ps := ["_law_script"]) T.fn_law fun _ _ _ _ _ _ us hl => match us, hl with | [_], _ => rfl
      exact ⟨K, Hk.fdOf K (He.ga K "law"), Rd.sp_law K, KX, fun s v => b s [v] rfl, fun H a ns hl _ _ hS => ⟨_, rfl, a, ns, rfl, hS, by omega, fun _ => rfl⟩, fun base _ _ => Ok.ok_law T⟩
