import PyProof.Rows.All
import Wide.All
import OpenK.AllK
import Wide.FinOn
import PyProof.EqAt
import PyProof.EqKinds
import PyProof.TupleCall
import KE.KStateDown
import KE.KExcSuper
import HandS.ForMost
import HandS.ForExc
import HandS.HeadWalk
import HandS.Defaults
import HandS.ExcIs
import HandS.ExcCtx
import HandS.HotCalls
import HandS.ExcInitHot
import HandS.IsInst
import KE.KExcIs
import HandS.EndBits
import HandS.Head0
import HandS.Head1
import HandS.Head2
import HandS.HeadEnd
import HandS.HeadHook1
import HandS.HeadHook2
import HandS.HeadHook3
import HandS.HeadNt
import HandS.Wide
import HandS.Flow
import HandS.StrMore
import HandS.Conv
import HandS.TupAny
import HandS.RaiseMore
import HandS.TupLe
import HandS.Star
import HandS.Property
import HandS.ClsMeth
import HandS.Style
import HandS.ExcOwn
import HandS.Iter
import HandS.Dict
import HandS.More
import HandS.IterVal
import HandS.OwnIter
import KE.KOwnIter
import KE.KCallOwn
import PySem.Challenge.RW_renamedhorn_k13_whole_turning_order_and
set_option Elab.async false
set_option linter.all false
set_option maxRecDepth 100000
set_option maxHeartbeats 4000000
/-! own errors whose __init__ says super().__init__('..') and keeps one argument in a field, or none -/
namespace PySem
namespace ErrX
open PySem.W PySem.Calls PyProof.Rows PySem.HandSPX
theorem one_size (v : Value) : [v].length ≤ sizeLine := by
  rw [sizeLine_eq]
  exact (by decide : 1 ≤ 16777216)
theorem nil_size : ([] : List Value).length ≤ sizeLine := by
  rw [sizeLine_eq]
  exact (by decide : 0 ≤ 16777216)
/-- the first statement of such an __init__ -/
def supS (msg : Str) (a1 a2 a3 a4 a5 a6 : Pos) : Stmt := .Expr (.Call (.Attribute (.Call (.Name "super" a1) [] [] a2) "__init__" a3) [.Constant (.str msg) 0 a4] [] a5) a6
def fldS (f : Str) (b1 b2 b3 b4 : Pos) : Stmt := .Assign [.Attribute (.Name "self" b1) f b2] (.Name f b3) b4
/-- what the written part says of the class at C and of its __init__ at fI -/
structure ErrC (prog : Program) (K : Frag) (C fI : Addr) (body : List Stmt) (scope : Scope) (params : Arguments) : Prop where
  cls : ∃ nm q N bs bm sn sub ab col dd k0 k1 k2 k3 k5, K.lookup C = some (excClassObj nm q C N bs bm true sn sub ab col dd k0 k1 k2 k3 k5 "ValueError.__new__") ∧ refsVE bm = true
  sa : findIn K (.ref C) "__setattr__" = some (some (.builtin "object.__setattr__"))
  ga : findIn K (.ref C) "__getattribute__" = some (some (.builtin "BaseException.__getattribute__"))
  gg : findIn K (.ref C) "__getattr__" = some none
  iC : findIn K (.ref C) "__init__" = some (some (.ref fI))
  tC : typeIn K (.ref fI) = some (.type "function")
  kC : keepIn K (.ref C) = true
  exC : subIn K (.ref C) (.type "BaseException") = some true
  veC : subIn K (.ref C) (.type "ValueError") = some true
  tyC : typeIn K (.ref C) = some (.type "type")
  hdC : hasDictIn K C = true
  mroC : mroIn K C (.ref C) = some true
  supC : ks_superIn K C C "__init__" = some (some (.builtin "ValueError.__init__"))
  opq : nsIn K cStatics "thirdparty.any" = some none
  supG : nsIn K mainGlobals "super" = some none
  fn : ∃ (oc : Value) (od : Option Addr) (nm qual : Str) (kV doc pm : Value) (an : Option Addr) (cda cc : Addr) (ct : Value) (osl : Array (Option Value)) (ccl : Value) (cdd : Option Addr) (vs : Array Value) (ccs : Array (Option Value)) (file : Str) (tf : Tok) (cl : Value) (cld : Option Addr) (csl : Array (Option Value)),
    K.lookup fI = some ⟨oc, od, .func (ksFn nm qual params body scope .none kV doc pm an (.ref cda) ct cc), osl⟩ ∧ codeIn K (.ref cda) qual = true ∧
    K.lookup cda = some ⟨ccl, cdd, .fields vs, ccs⟩ ∧ vs[2]? = some (.str file tf) ∧ ((prog.main.file : Str) == file) = true ∧ K.lookup cc = some ⟨cl, cld, .cell (some (.ref C)), csl⟩
  ar : ∃ pp, (params.posonlyargs ++ params.args).head? = some ⟨"self", none, pp⟩
  hks : scope.names.lookup ("super" : Str) = some .globalImplicit
  hkc : scope.names.lookup ("__class__" : Str) = some .free
  hka : scope.names.lookup ("self" : Str) = some .local
  hk : scope.kind = .function
  hco : scope.isCoroutine = false
  hgen : scope.isGenerator = false
  hcell : ∀ x ∈ scope.names, x.2 ≠ .cell
  htop : (prog.main.scope.names.lookup ("super" : Str)).isSome = false
section
variable {prog : Program} {w : World} {M : Model} {A : Around} {E : Value → Shared → Prop} {h : Heap} {g : Array GenState} {d : Drawn} {t : Nat} {os : OsState}
variable {nm q : Str} {C N : Addr} {bs bm : List Value} {hdct : Bool} {sn : List Str} {sub : List Value} {ab : Bool} {col : Option Bool} {dd : Option Addr} {k0 k1 k2 k3 k5 : Option Value}
theorem call_vw {u e t0 : Addr} {rest : List Value} {Q : Value → Shared → Prop}
    (hC : h.get? C = some (excClassObj nm q C N bs bm hdct sn sub ab col dd k0 k1 k2 k3 k5 "ValueError.__new__")) (he : h.get? e = some (excO C t0)) (hu : h.get? u = some (kxs_mw "ValueError.__init__" e)) (hrest : rest.length ≤ sizeLine)
    (hq : ∀ h' t1, (∀ b o, b ≠ e → h.get? b = some o → h'.get? b = some o) → h'.get? e = some (excO C t1) → Q .none ⟨h', g, d, t, os⟩) :
    wpAny (model prog w) A (call (.ref u) rest) Q E ⟨h, g, d, t, os⟩ := by
  refine wpAny_call (codeAny_of_tree ?_)
  show wpAny _ A.in1 (callAny (.ref u) ⟨rest, []⟩) _ _ _
  simp only [callAny]
  refine wpAny_bind (wpAny_load hu ?_)
  simp only [kxs_mw, show (Value.type "method-wrapper" == Value.type "method" || Value.type "method-wrapper" == Value.type "builtin_function_or_method" || Value.type "method-wrapper" == Value.type "method-wrapper") = true by decide, if_true]
  refine W.KFB.if_so (by decide) ?_
  refine wpAny_bind (check_bound_init F.excBase_ValueError.toExcCallFacts hC he rfl ?_)
  refine wpAny_bind (wpAny_pure (wpAny_pure ?_))
  refine ⟨plainId_quiet F.excBase_ValueError.init.plain _, codeAny_builtin F.excBase_ValueError.initEntry ?_⟩
  rw [Around.under_plainId F.excBase_ValueError.init.plain _]
  wp_walk
  refine hq _ h.objs.size (fun b o hb ho => ?_) ?_
  · rw [Heap.get?_update_other _ _ (Ne.symm hb)]
    exact Heap.get?_push_of_some _ ho
  · rw [Heap.get?_update_self _ (Heap.get?_push_of_some _ he) rfl]
    rfl
end
section
variable {prog : Program} {w : World} {A : Around} {E : Value → Shared → Prop} {s : Shared} {K : Frag} {mg : Str → Option Value} {C fI : Addr} {body : List Stmt} {scope : Scope} {params : Arguments}
/-- super().__init__('..') in such an __init__ -/
theorem sup_stmt (T : ErrC prog K C fI body scope params) {L x t0 : Addr} {m : Str → Option Value} {msg : Str} {a1 a2 a3 a4 a5 a6 : Pos} {Q : Flow → Shared → Prop}
    {oc : Value} {od : Option Addr} {nm qual : Str} {kV doc pm : Value} {an : Option Addr} {cda cc : Addr} {ct : Value} {osl : Array (Option Value)} {ccl : Value} {cdd : Option Addr} {vs : Array Value} {ccs : Array (Option Value)} {file : Str} {tf : Tok} {cl : Value} {cld : Option Addr} {csl : Array (Option Value)}
    (hf : K.lookup fI = some ⟨oc, od, .func (ksFn nm qual params body scope .none kV doc pm an (.ref cda) ct cc), osl⟩)
    (hcode : K.lookup cda = some ⟨ccl, cdd, .fields vs, ccs⟩) (hvs : vs[2]? = some (.str file tf)) (hfile : ((prog.main.file : Str) == file) = true) (hcell : K.lookup cc = some ⟨cl, cld, .cell (some (.ref C)), csl⟩)
    (X : K.In s.heap) (hG : s.heap.Ns mainGlobals mg) (hB : ∃ mb, s.heap.Ns builtinsNs mb ∧ ∀ x : Str, x ≠ "__name__" → mb x = bootBuiltins x)
    (hline : (a3.endLine == a5.line) = true) (hn : s.heap.Ns L m) (hv : m "self" = some (.ref x)) (hx : s.heap.get? x = some (excO C t0)) (hnx : K.lookup x = none)
    (hq : ∀ h' tk t1, (∀ b o, b ≠ x → s.heap.get? b = some o → h'.get? b = some o) → h'.get? x = some (excO C t1) → Q .next { s with heap := h', toks := tk }) :
    _root_.PySem.wpAt (model prog w) A (.func body (ksEnv qual scope L fI (.ref cda) cc)) (exec (supS msg a1 a2 a3 a4 a5 a6) (ksEnv qual scope L fI (.ref cda) cc)) Q E s := by
  obtain ⟨cnm, cq, N, bs, bm, sn, sub, ab, col, dd, k0, k1, k2, k3, k5, hC, hbm⟩ := T.cls
  obtain ⟨pp, har⟩ := T.ar
  obtain ⟨mb, hb1, hb2⟩ := hB
  have hD : clsIn K C = some { name := cnm, bases := bs, mro := .ref C :: bm, ns := N, qualname := cq, hasDict := true, slotNames := sn, subclasses := sub, abstract := ab, collection := col, hasDel := false } := by unfold clsIn; rw [hC] <;> rfl
  have hxC : x ≠ C := fun z => by rw [z, hC] at hnx; cases hnx
  obtain ⟨hh, g, d, t, os⟩ := s
  refine ks_wpAt_Expr_any (ks_wpAt_MethodCall (pl := L2.plainOf (.Call (.Name "super" a1) [] [] a2) (ksEnv qual scope L fI (.ref cda) cc)) ?_ (by
      show (do
        let ov ← attributeBase (.Call (.Name "super" a1) [] [] a2) "__init__" (ksEnv qual scope L fI (.ref cda) cc) (eval (.Call (.Name "super" a1) [] [] a2) (ksEnv qual scope L fI (.ref cda) cc))
        standAt a3.atName
        methodCall (.Call (.Name "super" a1) [] [] a2) "__init__" a3 a5 (ksEnv qual scope L fI (.ref cda) cc) ov 1 (backTo a5 (starEach [.Constant (.str msg) 0 a4] (ksEnv qual scope L fI (.ref cda) cc))) []) = _
      simp only [L2.mcall_line (n := 1) (args := backTo a5 (starEach [.Constant (.str msg) 0 a4] (ksEnv qual scope L fI (.ref cda) cc))) (kws := []) rfl hline])) (by simp [interactive, T.hk])
  refine ks_wpAt_super_base (env := ksEnv qual scope L fI (.ref cda) cc) T.hks T.hkc (by decide) rfl (X _ _ hf) rfl har rfl (X _ _ hcode) rfl hvs hfile T.htop ?_
  refine ks_loadName_global T.hk T.hks (loadGlobal_builtin (env := ksEnv qual scope L fI (.ref cda) cc) hG (mg_none_of X hG T.supG) hb1 ((hb2 _ (by decide +kernel)).trans PyProof.Rows.Boot.«super») ⟨rfl, ?_⟩)
  refine wpAny_loadName_free T.hk T.hkc rfl ⟨_, X _ _ hcell, rfl⟩ ?_
  refine wpAny_loadName_local T.hk T.hka hn hv ?_
  refine ks_wpAny_isType_cls (X _ _ hC) rfl ⟨rfl, ?_⟩
  refine ks_wpAny_call_super (X _ _ hC) rfl hx rfl (fun c e => by cases e) (looks_mroIn X T.mroC) (fun h1 e1 up1 => ?_)
  have hx1 := up1 _ _ hx
  have X1 : K.In h1 := X.keeps up1
  have I1 : InstAt h1 x (excO C t0) C none := ⟨hx1, rfl, rfl, trivial⟩
  have hI : Looks (model prog w) h1 (isInstance (.ref x) (.type "ValueError")) true := I1.type.andThen (looks_subIn X1 T.veC)
  have hsup := T.supC
  unfold ks_superIn at hsup
  rw [hD] at hsup
  refine kxs_getMethod kxs_ValueError e1 (looks_opaque X1 T.opq) (l₀ := .ref C :: bm) (fun A Q E s k q => wpAny_bind ((looks_clsIn X1 hD) A _ E s k (wpAny_pure q))) rfl X1 hsup hI hxC (by decide) ?_
  have up2 : ∀ b o, h1.get? b = some o → (h1.push (kxs_mw "ValueError.__init__" x)).get? b = some o := fun b o e => Heap.get?_push_of_some _ e
  have hu2 : (h1.push (kxs_mw "ValueError.__init__" x)).get? h1.objs.size = some (kxs_mw "ValueError.__init__" x) := Heap.get?_push_at rfl rfl
  refine kxs_callWith (u := h1.objs.size) (i := "ValueError.__init__") (x := x) rfl (evalArgs_plain ?_)
  refine Calls.spliced_cons (x := eval (.Constant (.str msg) 0 a4) (ksEnv qual scope L fI (.ref cda) cc)) (Calls.Constant_str (k := 0) (pos := a4) (Calls.spliced_nil ?_))
  refine ⟨hu2, ?_⟩
  refine call_vw ((X1.keeps up2) _ _ hC) (up2 _ _ hx1) hu2 (one_size _) (fun h3 t1 k3 hx3 => ?_)
  exact hq h3 _ t1 (fun b o hb e => k3 b o hb (up2 _ _ (up1 _ _ e))) hx3
end
section
variable {prog : Program} {w : World} {A : Around} {E : Value → Shared → Prop} {R : Result → Shared → Prop} {s : Shared} {K : Frag} {mg : Str → Option Value} {C fI : Addr} {body : List Stmt} {scope : Scope} {params : Arguments}
/-- what __init__ leaves of a fresh exception at x: with a field; without -/
structure InitEnd (h h' : Heap) (x C dx : Addr) (f : Str) (v : Value) : Prop where
  keep : ∀ b o, b ≠ x → h.get? b = some o → h'.get? b = some o
  obj : ∃ t1 : Addr, h'.get? x = some { cls := .ref C, dict := some dx, data := .fields #[.ref t1, .none, .none, .none, .bool false, .none] }
  dbig : h.objs.size ≤ dx
  dne : dx ≠ x
  ns : h'.Ns1 dx (fun y => if y = f then some v else none)
structure InitEnd0 (h h' : Heap) (x C : Addr) : Prop where
  keep : ∀ b o, b ≠ x → h.get? b = some o → h'.get? b = some o
  obj : ∃ t1 : Addr, h'.get? x = some (excO C t1)
theorem init1 {f msg : Str} {a1 a2 a3 a4 a5 a6 b1 b2 b3 b4 : Pos} (T : ErrC prog K C fI [supS msg a1 a2 a3 a4 a5 a6, fldS f b1 b2 b3 b4] scope params) (hline : (a3.endLine == a5.line) = true)
    (hbind : ∀ (nm qual : Str) (kV doc pm : Value) (an : Option Addr) (cdv ct : Value) (cc : Addr) (x y : Value), bindArgs (ksFn nm qual params [supS msg a1 a2 a3 a4 a5 a6, fldS f b1 b2 b3 b4] scope .none kV doc pm an cdv ct cc) ⟨[x, y], []⟩ = pure [((("self" : Str)), x), (f, y)])
    (hkf : scope.names.lookup f = some .local) (hne : (("self" : Str) == f) = false) (hdf : (f == ("__debug__" : Str)) = false) (noN : findIn K (.ref C) f = some none)
    {x t0 : Addr} {v : Value} (X : K.In s.heap) (hlim : s.heap.NoLimit) (hG : s.heap.Ns mainGlobals mg) (hB : ∃ mb, s.heap.Ns builtinsNs mb ∧ ∀ x : Str, x ≠ "__name__" → mb x = bootBuiltins x)
    (hx : s.heap.get? x = some (excO C t0)) (hnx : K.lookup x = none) (hroom : A.depth < recursionLimit)
    (hq : ∀ h' tk dx, InitEnd s.heap h' x C dx f v → R (.ok (.ret .none)) { s with heap := h', toks := tk }) :
    codeAny (model prog w) A (.call (.ref fI) ⟨[.ref x, v], []⟩) R s := by
  obtain ⟨oc, od, nm, qual, kV, doc, pm, an, cda, cc, ct, osl, ccl, cdd, vs, ccs, file, tf, cl, cld, csl, hf, hcd, hcode, hvs, hfile, hcell⟩ := T.fn
  obtain ⟨cnm, cq, N, bs, bm, sn, sub, ab, col, dd, k0, k1, k2, k3, k5, hC, hbm⟩ := T.cls
  have hcl : clsIn K C = some { name := cnm, bases := bs, mro := .ref C :: bm, ns := N, qualname := cq, hasDict := true, slotNames := sn, subclasses := sub, abstract := ab, collection := col, hasDel := false } := by unfold clsIn; rw [hC] <;> rfl
  refine ks_codeAny_call_defAt (fd := ksFn nm qual params [supS msg a1 a2 a3 a4 a5 a6, fldS f b1 b2 b3 b4] scope .none kV doc pm an (.ref cda) ct cc) (body := [supS msg a1 a2 a3 a4 a5 a6, fldS f b1 b2 b3 b4]) (binds := [("self", .ref x), (f, v)]) hroom (X _ _ hf) rfl hlim (codeRec_of X hcd) rfl (BindsTo.of_eq (hbind _ _ _ _ _ _ _ _ _ _ _)) T.hcell ?_ (fun h1 hns hk1 => ?_) T.hco T.hgen T.hk
  · intro y hy
    rcases List.mem_cons.mp hy with rfl | hy
    · exact T.hka
    rcases List.mem_cons.mp hy with rfl | hy
    · exact hkf
    · cases hy
  · have hx1 := hk1 _ _ hx
    have X1 : K.In h1 := X.keeps hk1
    obtain ⟨mb, hb1, hb2⟩ := hB
    have lkf : ([(("self" : Str), Value.ref x), (f, v)] : List (Str × Value)).reverse.lookup f = some v := by simp [List.lookup]
    have lks : ([(("self" : Str), Value.ref x), (f, v)] : List (Str × Value)).reverse.lookup ("self" : Str) = some (.ref x) := by
      show (match (("self" : Str) == f) with | true => some v | false => List.lookup ("self" : Str) [(("self" : Str), Value.ref x)]) = _
      rw [hne]
      simp [List.lookup]
    refine ks_wpAt_execs_cons (sup_stmt (s := { s with heap := h1, toks := s.toks + 2 }) T hf hcode hvs hfile hcell X1 (hG.keeps hk1) ⟨mb, hb1.keeps hk1, hb2⟩ hline hns lks hx1 hnx (fun h2 tk2 t1 k2 hx2 => ?_))
    have X2 : K.In h2 := fun a o e => k2 a o (fun z => by rw [z, hnx] at e; cases e) (X1 a o e)
    have hxL : s.heap.objs.size ≠ x := Nat.ne_of_gt (Heap.lt_size hx)
    obtain ⟨oL, esL, epL, hoL, rL⟩ := id hns
    have hns2 : h2.Ns s.heap.objs.size (fun y => ([(("self" : Str), Value.ref x), (f, v)] : List (Str × Value)).reverse.lookup y) := ⟨oL, esL, epL, k2 _ _ hxL hoL, rL⟩
    refine wpAt_of_wpAny ?_
    refine wpAny_execs_cons (plainObj_wpAny_Assign_Attribute ?_)
    refine wpAny_Name (wpAny_loadName_local T.hk hkf hns2 lkf ?_) hdf
    refine wpAny_Name (wpAny_loadName_local T.hk T.hka hns2 lks ?_) (by decide)
    refine set_plain X2 (ox := excO C t1) (od := none) ⟨hx2, rfl, rfl, trivial⟩ T.sa ?_
    refine exc_osa X2 hx2 hcl (show refsVE (.ref C :: bm) = true from hbm) rfl noN (fun h3 tk3 dx k3 dn dne hx3 hn3 => ?_)
    have z : s.heap.objs.size < h2.objs.size := hns2.lt
    exact wpAny_execs_nil (hq h3 tk3 dx ⟨fun b o hb e => k3 b o hb (k2 b o hb (hk1 b o e)), ⟨t1, hx3⟩, Nat.le_of_lt (Nat.lt_of_lt_of_le z dn), dne, hn3⟩)
theorem init0 {msg : Str} {a1 a2 a3 a4 a5 a6 : Pos} (T : ErrC prog K C fI [supS msg a1 a2 a3 a4 a5 a6] scope params) (hline : (a3.endLine == a5.line) = true)
    (hbind : ∀ (nm qual : Str) (kV doc pm : Value) (an : Option Addr) (cdv ct : Value) (cc : Addr) (x : Value), bindArgs (ksFn nm qual params [supS msg a1 a2 a3 a4 a5 a6] scope .none kV doc pm an cdv ct cc) ⟨[x], []⟩ = pure [((("self" : Str)), x)])
    {x t0 : Addr} (X : K.In s.heap) (hlim : s.heap.NoLimit) (hG : s.heap.Ns mainGlobals mg) (hB : ∃ mb, s.heap.Ns builtinsNs mb ∧ ∀ x : Str, x ≠ "__name__" → mb x = bootBuiltins x)
    (hx : s.heap.get? x = some (excO C t0)) (hnx : K.lookup x = none) (hroom : A.depth < recursionLimit)
    (hq : ∀ h' tk, InitEnd0 s.heap h' x C → R (.ok (.ret .none)) { s with heap := h', toks := tk }) :
    codeAny (model prog w) A (.call (.ref fI) ⟨[.ref x], []⟩) R s := by
  obtain ⟨oc, od, nm, qual, kV, doc, pm, an, cda, cc, ct, osl, ccl, cdd, vs, ccs, file, tf, cl, cld, csl, hf, hcd, hcode, hvs, hfile, hcell⟩ := T.fn
  refine ks_codeAny_call_defAt (fd := ksFn nm qual params [supS msg a1 a2 a3 a4 a5 a6] scope .none kV doc pm an (.ref cda) ct cc) (body := [supS msg a1 a2 a3 a4 a5 a6]) (binds := [("self", .ref x)]) hroom (X _ _ hf) rfl hlim (codeRec_of X hcd) rfl (BindsTo.of_eq (hbind _ _ _ _ _ _ _ _ _ _)) T.hcell ?_ (fun h1 hns hk1 => ?_) T.hco T.hgen T.hk
  · intro y hy
    rcases List.mem_cons.mp hy with rfl | hy
    · exact T.hka
    · cases hy
  · have hx1 := hk1 _ _ hx
    have X1 : K.In h1 := X.keeps hk1
    obtain ⟨mb, hb1, hb2⟩ := hB
    refine ks_wpAt_execs_cons (sup_stmt (s := { s with heap := h1, toks := s.toks + 1 }) T hf hcode hvs hfile hcell X1 (hG.keeps hk1) ⟨mb, hb1.keeps hk1, hb2⟩ hline hns (by simp [List.lookup]) hx1 hnx (fun h2 tk2 t1 k2 hx2 => ?_))
    refine wpAt_of_wpAny ?_
    exact wpAny_execs_nil (hq h2 tk2 ⟨fun b o hb e => k2 b o hb (hk1 b o e), ⟨t1, hx2⟩⟩)
/-- a made error with a field; without -/
structure OwnMade (h h' : Heap) (e C d : Addr) (f : Str) (v : Value) : Prop where
  keep : ∀ b o, h.get? b = some o → h'.get? b = some o
  new : h.objs.size ≤ e
  obj : ∃ oe vs, h'.get? e = some oe ∧ oe.cls = .ref C ∧ oe.dict = some d ∧ oe.data = .fields vs ∧ vs[1]? = some .none ∧ vs[2]? = some .none
  dbig : h.objs.size ≤ d
  dne : d ≠ e
  ns : h'.Ns1 d (fun y => if y = f then some v else none)
structure OwnMade0 (h h' : Heap) (e C : Addr) : Prop where
  keep : ∀ b o, h.get? b = some o → h'.get? b = some o
  new : h.objs.size ≤ e
  obj : ∃ oe vs, h'.get? e = some oe ∧ oe.cls = .ref C ∧ oe.dict = none ∧ oe.data = .fields vs ∧ vs[1]? = some .none ∧ vs[2]? = some .none
theorem made1 {f msg : Str} {a1 a2 a3 a4 a5 a6 b1 b2 b3 b4 : Pos} (T : ErrC prog K C fI [supS msg a1 a2 a3 a4 a5 a6, fldS f b1 b2 b3 b4] scope params) (hline : (a3.endLine == a5.line) = true)
    (hbind : ∀ (nm qual : Str) (kV doc pm : Value) (an : Option Addr) (cdv ct : Value) (cc : Addr) (x y : Value), bindArgs (ksFn nm qual params [supS msg a1 a2 a3 a4 a5 a6, fldS f b1 b2 b3 b4] scope .none kV doc pm an cdv ct cc) ⟨[x, y], []⟩ = pure [((("self" : Str)), x), (f, y)])
    (hkf : scope.names.lookup f = some .local) (hne : (("self" : Str) == f) = false) (hdf : (f == ("__debug__" : Str)) = false) (noN : findIn K (.ref C) f = some none)
    {v : Value} (X : K.In s.heap) (hlim : s.heap.NoLimit) (hG : s.heap.Ns mainGlobals mg) (hB : ∃ mb, s.heap.Ns builtinsNs mb ∧ ∀ x : Str, x ≠ "__name__" → mb x = bootBuiltins x) (hroom : A.depth + 1 < recursionLimit)
    (hq : ∀ h' tk e d, OwnMade s.heap h' e C d f v → R (.ok (.ret (.ref e))) { s with heap := h', toks := tk }) :
    codeAny (model prog w) A (.call (.ref C) ⟨[v], []⟩) R s := by
  obtain ⟨nm, q, N, bs, bm, sn, sub, ab, col, dd, k0, k1, k2, k3, k5, hC, hbm⟩ := T.cls
  obtain ⟨mb, hb1, hb2⟩ := hB
  obtain ⟨hp, g, dr, tk, os⟩ := s
  have k : ∀ b o, hp.get? b = some o → ((hp.push (kdv_tup [v])).push (excO C hp.objs.size)).get? b = some o := fun b o e => Heap.get?_push_of_some _ (Heap.get?_push_of_some _ e)
  have hget : ((hp.push (kdv_tup [v])).push (excO C hp.objs.size)).get? (hp.objs.size + 1) = some (excO C hp.objs.size) := by heap_get
  have hnx : K.lookup (hp.objs.size + 1) = none := by
    cases e : K.lookup (hp.objs.size + 1) with
    | none => rfl
    | some o =>
      have z : hp.get? (hp.objs.size + 1) = some o := X _ _ e
      exact absurd (Nat.lt_of_succ_lt (Heap.lt_size z)) (Nat.lt_irrefl _)
  refine call_own F.excBase_ValueError (fun X => refsVE_contains X bm hbm) (X _ _ hC) (looks_findIn X T.iC) (fun self => bind_fn X self T.tC) (one_size v) ?_
  refine init1 (s := ⟨(hp.push (kdv_tup [v])).push (excO C hp.objs.size), g, dr, tk, os⟩) T hline hbind hkf hne hdf noN (X.keeps k) (hlim.keeps k) (hG.keeps k) ⟨mb, hb1.keeps k, hb2⟩ hget hnx ?_ fun h' tk' dx ⟨k', ⟨t1, hx⟩, dn, dne, hns⟩ => ?_
  · show A.depth + 1 < recursionLimit
    exact hroom
  · have old : ∀ b o, hp.get? b = some o → h'.get? b = some o := fun b o e => k' b o (Nat.ne_of_lt (Nat.lt_succ_of_lt (Heap.lt_size e))) (k b o e)
    have z : hp.objs.size + 1 + 1 ≤ dx := by
      first
        | (simpa only [Heap.size_push] using dn)
        | exact dn
        | (have q := dn; rw [Heap.size_push, Heap.size_push] at q; exact q)
    exact ⟨rfl, hq h' tk' (hp.objs.size + 1) dx ⟨old, Nat.le_succ _, ⟨_, _, hx, rfl, rfl, rfl, rfl, rfl⟩, Nat.le_trans (Nat.le_trans (Nat.le_succ _) (Nat.le_succ _)) z, dne, hns⟩⟩
theorem made0 {msg : Str} {a1 a2 a3 a4 a5 a6 : Pos} (T : ErrC prog K C fI [supS msg a1 a2 a3 a4 a5 a6] scope params) (hline : (a3.endLine == a5.line) = true)
    (hbind : ∀ (nm qual : Str) (kV doc pm : Value) (an : Option Addr) (cdv ct : Value) (cc : Addr) (x : Value), bindArgs (ksFn nm qual params [supS msg a1 a2 a3 a4 a5 a6] scope .none kV doc pm an cdv ct cc) ⟨[x], []⟩ = pure [((("self" : Str)), x)])
    (X : K.In s.heap) (hlim : s.heap.NoLimit) (hG : s.heap.Ns mainGlobals mg) (hB : ∃ mb, s.heap.Ns builtinsNs mb ∧ ∀ x : Str, x ≠ "__name__" → mb x = bootBuiltins x) (hroom : A.depth + 1 < recursionLimit)
    (hq : ∀ h' tk e, OwnMade0 s.heap h' e C → R (.ok (.ret (.ref e))) { s with heap := h', toks := tk }) :
    codeAny (model prog w) A (.call (.ref C) ⟨[], []⟩) R s := by
  obtain ⟨nm, q, N, bs, bm, sn, sub, ab, col, dd, k0, k1, k2, k3, k5, hC, hbm⟩ := T.cls
  obtain ⟨mb, hb1, hb2⟩ := hB
  obtain ⟨hp, g, dr, tk, os⟩ := s
  have k : ∀ b o, hp.get? b = some o → ((hp.push (kdv_tup [])).push (excO C hp.objs.size)).get? b = some o := fun b o e => Heap.get?_push_of_some _ (Heap.get?_push_of_some _ e)
  have hget : ((hp.push (kdv_tup [])).push (excO C hp.objs.size)).get? (hp.objs.size + 1) = some (excO C hp.objs.size) := by heap_get
  have hnx : K.lookup (hp.objs.size + 1) = none := by
    cases e : K.lookup (hp.objs.size + 1) with
    | none => rfl
    | some o =>
      have z : hp.get? (hp.objs.size + 1) = some o := X _ _ e
      exact absurd (Nat.lt_of_succ_lt (Heap.lt_size z)) (Nat.lt_irrefl _)
  refine call_own F.excBase_ValueError (fun X => refsVE_contains X bm hbm) (X _ _ hC) (looks_findIn X T.iC) (fun self => bind_fn X self T.tC) nil_size ?_
  refine init0 (s := ⟨(hp.push (kdv_tup [])).push (excO C hp.objs.size), g, dr, tk, os⟩) T hline hbind (X.keeps k) (hlim.keeps k) (hG.keeps k) ⟨mb, hb1.keeps k, hb2⟩ hget hnx ?_ fun h' tk' ⟨k', ⟨t1, hx⟩⟩ => ?_
  · show A.depth + 1 < recursionLimit
    exact hroom
  · have old : ∀ b o, hp.get? b = some o → h'.get? b = some o := fun b o e => k' b o (Nat.ne_of_lt (Nat.lt_succ_of_lt (Heap.lt_size e))) (k b o e)
    exact ⟨rfl, hq h' tk' (hp.objs.size + 1) ⟨old, Nat.le_succ _, ⟨_, _, hx, rfl, rfl, rfl, rfl, rfl⟩⟩⟩
end
end ErrX
end PySem
namespace L2
open PySem PySem.Spec PyProof.Rows PySem.W
/-- an error class with one field, as the rules use it -/
structure Err1 (prog : Program) (w : World) (K : Frag) (mg : Str → Option Value) (nm f : Str) (C : Addr) : Prop where
  gC : mg nm = some (.ref C)
  kC : keepIn K (.ref C) = true
  exC : subIn K (.ref C) (.type "BaseException") = some true
  tyC : typeIn K (.ref C) = some (.type "type")
  hdC : hasDictIn K C = true
  ga : findIn K (.ref C) "__getattribute__" = some (some (.builtin "BaseException.__getattribute__"))
  gg : findIn K (.ref C) "__getattr__" = some none
  noN : findIn K (.ref C) f = some none
  made : ∀ {A : Around} {R : Result → Shared → Prop} {s : Shared} {v : Value}, K.In s.heap → s.heap.NoLimit → s.heap.Ns mainGlobals mg → (∃ mb, s.heap.Ns builtinsNs mb ∧ ∀ x : Str, x ≠ "__name__" → mb x = bootBuiltins x) → A.depth + 1 < recursionLimit →
    (∀ h' tk e d, PySem.ErrX.OwnMade s.heap h' e C d f v → R (.ok (.ret (.ref e))) { s with heap := h', toks := tk }) → codeAny (model prog w) A (.call (.ref C) ⟨[v], []⟩) R s
structure Err0 (prog : Program) (w : World) (K : Frag) (mg : Str → Option Value) (nm : Str) (C : Addr) : Prop where
  gC : mg nm = some (.ref C)
  kC : keepIn K (.ref C) = true
  exC : subIn K (.ref C) (.type "BaseException") = some true
  tyC : typeIn K (.ref C) = some (.type "type")
  made : ∀ {A : Around} {R : Result → Shared → Prop} {s : Shared}, K.In s.heap → s.heap.NoLimit → s.heap.Ns mainGlobals mg → (∃ mb, s.heap.Ns builtinsNs mb ∧ ∀ x : Str, x ≠ "__name__" → mb x = bootBuiltins x) → A.depth + 1 < recursionLimit →
    (∀ h' tk e, PySem.ErrX.OwnMade0 s.heap h' e C → R (.ok (.ret (.ref e))) { s with heap := h', toks := tk }) → codeAny (model prog w) A (.call (.ref C) ⟨[], []⟩) R s
theorem relO_one {v : V} {v' : Value} {n : Str} (r : RelV v v') (f : Str) : RelO (List.lookup f [(n, v)]) (if f = n then some v' else none) := by
  by_cases hw : f = n
  · subst hw
    rw [if_pos rfl]
    have q : List.lookup f [(f, v)] = some v := by simp [List.lookup]
    rw [q]
    exact r
  · rw [if_neg hw]
    have qw : (f == n) = false := by simpa using hw
    have q2 : List.lookup f [(n, v)] = none := by simp [List.lookup, qw]
    rw [q2]
    trivial
section
variable {X : Cx} {C : Addr} {nm f : Str}
theorem Inv.blt {pins : List (Addr × Obj)} {σ : St} {H : Hp} {s : Shared} (I : Inv X pins σ H s) : ∃ mb, s.heap.Ns builtinsNs mb ∧ ∀ x : Str, x ≠ "__name__" → mb x = bootBuiltins x := by
  obtain ⟨mb, h1, h2⟩ := I.mod.blt
  exact ⟨mb, h1.keeps I.bk, h2⟩
/-- nm(e) -/
def tMkE (C : Addr) (f : Str) (ta : TA) : St → Hp → XK → Prop := fun σ H Q => ta σ H fun vs H1 => ∃ v, vs = [v] ∧ ∀ d, H1 d = none → Q (.ref C) (some d) (upd H1 d (.xd [(f, v)]))
theorem pmk_err {a : Expr} {ta : TA} {p pos : Pos} {k : Nat} (T : Err1 X.prog X.w X.K X.mg nm f C) (hr : Room k X.A) (ha : PA X [a] ta) (hg : Gl X nm := by rfl) (hdb : (nm == ("__debug__" : Str)) = false := by decide)
    (he : starEach (a :: []) X.env = (false, eval a X.env) :: starEach [] X.env := by rfl) (hpl : (backTo pos (starEach [] X.env)).any (·.1) = false := by rfl) :
    L2N.PMk X (.Call (.Name nm p) [a] [] pos) (tMkE C f ta) := by
  intro pins s σ H Q I h
  refine wpAny_Call_Name_kw (ld_glob I hg T.gC ?_ hdb)
  refine PySem.W.callWith_K (h₀ := X.base) I.ok.mod.kin T.kC (thn (ha.run pos pins s σ H _ I h) fun us s1 hh => ?_) he hpl
  obtain ⟨vs, H1, I1, r1, v, ev, q1⟩ := hh
  subst ev
  refine ⟨I1.kIn, ?_⟩
  cases r1 with
  | cons rv rn =>
    rename_i v' us'
    cases rn
    show wpAny _ _ (call (.ref C) [v']) _ _ _
    have hlim := I1.nolimit
    have hG := I1.mod.glob.keeps I1.bk
    have hB := I1.blt
    obtain ⟨hp, g, dr, tk, os⟩ := s1
    refine wpAny_call (T.made I1.kIn hlim hG hB (by have := hr.dp; omega) fun h' tk' e d M => ?_)
    show L2N.MkP X pins σ Q (.ref e) ⟨h', g, dr, tk', os⟩
    obtain ⟨oe, fv, hoe, hc, hd, hdat, h1, h2⟩ := M.obj
    have hns := M.ns
    obtain ⟨G', g1, g2⟩ := restrict h' fun b => decide (b ≠ e)
    have gk : ∀ b, b ≠ e → G'.get? b = h'.get? b := fun b hb => g1 b (decide_eq_true hb)
    have ge : G'.get? e = none := g2 e (by simp)
    have old : ∀ b o, hp.get? b = some o → G'.get? b = some o := fun b o q => (gk b (Nat.ne_of_lt (Nat.lt_of_lt_of_le (Heap.lt_size q) M.new))).trans (M.keep b o q)
    have ob : ObjOk X.prog X.w (upd H1 d (.xd [(f, v)])) G' d (.xd [(f, v)]) :=
      ⟨_, hns.at (fun o q => (gk d M.dne).trans q), fun g => relO_one rv g⟩
    have J : Inv X pins σ (upd H1 d (.xd [(f, v)])) ⟨G', g, dr, tk', os⟩ := I1.laid (t' := tk') old M.dbig ob
    refine ⟨e, oe, fv, ⟨G', g, dr, tk', os⟩, _, .ref C, some d, rfl, J, fun b o q => ?_, ge, hoe, ⟨hc, hd, fun vs e => by rw [hdat] at e; cases e; exact h2⟩, hdat, h1, ?_, rfl, I1.bare, raises_own T.exC T.tyC, q1 d (I1.hok.fresh M.dbig)⟩
    · by_cases hb : b = e
      · have q' : G'.get? b = some o := q
        rw [hb, ge] at q'; cases q'
      · exact (gk b hb).symm.trans q
    · rw [upd_ne (Ne.symm M.dne)]
      exact I1.hok.fresh M.new
/-- nm() -/
def tMkE0 (C : Addr) : St → Hp → XK → Prop := fun _ H Q => Q (.ref C) none H
theorem pmk_err0 {p pos : Pos} {k : Nat} (T : Err0 X.prog X.w X.K X.mg nm C) (hr : Room k X.A) (hg : Gl X nm := by rfl) (hdb : (nm == ("__debug__" : Str)) = false := by decide) :
    L2N.PMk X (.Call (.Name nm p) [] [] pos) (tMkE0 C) := by
  intro pins s σ H Q I h
  refine wpAny_Call_Name_kw (ld_glob I hg T.gC ?_ hdb)
  refine PySem.W.callWith_K0 I.kIn T.kC ?_
  show wpAny _ _ (call (.ref C) []) _ _ _
  have hlim := I.nolimit
  have hG := I.mod.glob.keeps I.bk
  have hB := I.blt
  obtain ⟨hp, g, dr, tk, os⟩ := s
  refine wpAny_call (T.made I.kIn hlim hG hB (by have := hr.dp; omega) fun h' tk' e M => ?_)
  show L2N.MkP X pins σ Q (.ref e) ⟨h', g, dr, tk', os⟩
  obtain ⟨oe, fv, hoe, hc, hd, hdat, h1, h2⟩ := M.obj
  obtain ⟨G', g1, g2⟩ := restrict h' fun b => decide (b ≠ e)
  have gk : ∀ b, b ≠ e → G'.get? b = h'.get? b := fun b hb => g1 b (decide_eq_true hb)
  have ge : G'.get? e = none := g2 e (by simp)
  have old : ∀ b o, hp.get? b = some o → G'.get? b = some o := fun b o q => (gk b (Nat.ne_of_lt (Nat.lt_of_lt_of_le (Heap.lt_size q) M.new))).trans (M.keep b o q)
  have J : Inv X pins σ H ⟨G', g, dr, tk', os⟩ := I.kept (t' := tk') old
  refine ⟨e, oe, fv, ⟨G', g, dr, tk', os⟩, _, .ref C, none, rfl, J, fun b o q => ?_, ge, hoe, ⟨hc, hd, fun vs e => by rw [hdat] at e; cases e; exact h2⟩, hdat, h1, ?_, rfl, I.bare, raises_own T.exC T.tyC, h⟩
  · by_cases hb : b = e
    · have q' : G'.get? b = some o := q
      rw [hb, ge] at q'; cases q'
    · exact (gk b hb).symm.trans q
  · exact I.hok.fresh M.new
/-- e.f, e the exception that the suite holds (at a; its class cls, its dict d) -/
def tErrF (C : Addr) (f : Str) (a : Addr) (cls : Value) (d : Option Addr) (te : TE) : TE := fun σ H Q => te σ H fun x H1 => x = .ref a ∧ cls = .ref C ∧ ∃ (dd : Addr) (v : V), d = some dd ∧ H1 dd = some (.xd [(f, v)]) ∧ Q v H1
theorem pe_errF {a : Addr} {oe : Obj} {cls : Value} {d : Option Addr} {pn : List (Addr × Obj)} {e : Expr} {te : TE} {pos : Pos} (T : Err1 X.prog X.w X.K X.mg nm f C) (hz : Zc cls d oe) (hf : ∃ vs, oe.data = .fields vs) (he : PE (X.suite a ((a, oe) :: pn)) e te)
    (hb : attributeBase e f X.env (eval e X.env) = eval e X.env := by rfl) :
    PE (X.suite a ((a, oe) :: pn)) (.Attribute e f pos) (tErrF C f a cls d te) := by
  refine ⟨fun pins s σ H Q I h => ?_⟩
  refine attr_of hb (thn (he.run pins s σ H _ I h) fun u s1 hh => ?_)
  obtain ⟨x, H1, I1, rx, ex, ec, dd, v, ed, ea, q⟩ := hh
  subst ex
  obtain rfl : u = Value.ref a := rx
  subst ec
  subst ed
  obtain ⟨ha, _⟩ := I1.pin (a, oe) (List.mem_append_left _ List.mem_cons_self)
  obtain ⟨vs, hd⟩ := hf
  have hx : ObjOk X.prog X.w H1 s1.heap dd (.xd [(f, v)]) := I1.hok dd _ ea
  obtain ⟨mA, hns, hr⟩ := hx
  obtain ⟨od, ho, hl⟩ := lookIn_ns hns
  have l : List.lookup f [(f, v)] = some v := by simp [List.lookup]
  obtain ⟨u, hu, ru⟩ := RelO.some_of (v := v) (o := mA f) (by rw [← l]; exact hr f)
  have J : PySem.W.InstAt s1.heap a oe C (some od) := ⟨ha, hz.1, by unfold PySem.W.notCls; rw [hd] <;> rfl, by rw [hz.2]; exact ho⟩
  exact HandSPX.exc_get I1.kIn J T.ga T.gg T.exC (PySem.W.findObj_own T.hdC T.noN rfl (by rw [hl, hu])) (handed_of ru) ⟨v, H1, I1.tok _, ru, q⟩
end
end L2
namespace L2
open PySem PySem.Spec PyProof.Rows
/-- isinstance(e, c), e the exception that the suite holds -/
def rIsEE (K : PySem.W.Frag) (a : Addr) (cls : Value) (d : Option Addr) : List V → Hp → VK → Prop := fun xs H Q => ∃ (D : Addr) (c : V) (cv : Value) (b : Bool), cls = .ref D ∧ ExcC K D ∧ (d = none ∨ ∃ dd fs, d = some dd ∧ H dd = some (.xd fs)) ∧ xs = [.ref a, c] ∧ (∀ u, RelV c u → u = cv) ∧ PySem.W.kitOne K (.ref D) cv = some b ∧ Q (.bl b) H
theorem call_isEE {X : Cx} {a : Addr} {cls : Value} {d : Option Addr} {oe : Obj} {pn : List (Addr × Obj)} (hz : Zc cls d oe) (hf : ∃ vs, oe.data = .fields vs) : CallR (X.suite a ((a, oe) :: pn)) (.builtin "isinstance") (rIsEE X.K a cls d) := by
  intro pins s σ H xs us Q I r h
  obtain ⟨D, c, cv, b, rfl, C, hd, rfl, hcv, e, q⟩ := h
  cases r with
  | cons rx rr =>
    cases rr with
    | cons rt rr =>
      cases rr
      cases rx
      have ec := hcv _ rt
      subst ec
      obtain ⟨hget, _⟩ := I.pin (a, oe) (List.mem_append.mpr (.inl List.mem_cons_self))
      obtain ⟨vs, hv⟩ := hf
      have hcl : (PySem.W.clsIn X.K D).isSome = true := by
        obtain ⟨cd, hc, _⟩ := PySem.W.any_some C.hd
        rw [hc]; rfl
      have J : ∃ od, PySem.W.InstAt s.heap a oe D od := by
        obtain ⟨oc, od, oda, osl⟩ := oe
        obtain ⟨h1, h2⟩ := hz
        dsimp only at h1 h2 hv
        subst h1 h2 hv
        rcases hd with rfl | ⟨dd, fs, rfl, hx⟩
        · exact ⟨none, hget, rfl, rfl, trivial⟩
        · have hx2 : ObjOk X.prog X.w H s.heap dd (.xd fs) := I.hok dd _ hx
          obtain ⟨mA, hns, hr⟩ := hx2
          obtain ⟨od, ho, hl⟩ := lookIn_ns hns
          exact ⟨some od, hget, rfl, rfl, ho⟩
      obtain ⟨od, J⟩ := J
      exact PySem.W.kia_one (PySem.W.kitx_exc hcl C.hg C.hk C.hs C.ha C.hn C.ht C.hm) I.kIn J e (fun z => nomatch z) fun tk => ⟨.bl b, H, I.kept (t' := tk) fun _ _ z => z, rfl, q⟩
/-- raise nm(e), raise nm() -/
def tRaiseE (C : Addr) (f : Str) (W : WX) (ta : TA) : TS := fun _ σ H => tMkE C f ta σ H fun cls d H' => W cls d σ H'
def tRaiseE0 (C : Addr) (W : WX) : TS := fun _ σ H => W (.ref C) none σ H
section
variable {X : Cx} {C : Addr} {nm f : Str}
theorem ps_raiseE {a : Expr} {ta : TA} {W : WX} {p pos pos2 : Pos} {k : Nat} (hc : X.calm = true) (T : Err1 X.prog X.w X.K X.mg nm f C) (hr : Room k X.A) (tk : L2N.Takes X W) (ha : PA X [a] ta) (hg : Gl X nm := by rfl) (hdb : (nm == ("__debug__" : Str)) = false := by decide)
    (he : starEach (a :: []) X.env = (false, eval a X.env) :: starEach [] X.env := by rfl) (hpl : (backTo pos (starEach [] X.env)).any (·.1) = false := by rfl) :
    PS X (.Raise (some (.Call (.Name nm p) [a] [] pos)) none pos2) (tRaiseE C f W ta) := L2N.ps_raise hc tk (pmk_err T hr ha hg hdb he hpl)
theorem ps_raiseE0 {W : WX} {p pos pos2 : Pos} {k : Nat} (hc : X.calm = true) (T : Err0 X.prog X.w X.K X.mg nm C) (hr : Room k X.A) (tk : L2N.Takes X W) (hg : Gl X nm := by rfl) (hdb : (nm == ("__debug__" : Str)) = false := by decide) :
    PS X (.Raise (some (.Call (.Name nm p) [] [] pos)) none pos2) (tRaiseE0 C W) := L2N.ps_raise hc tk (pmk_err0 T hr hg hdb)
theorem passN {X : Cx} : Passes (L2N.CX X.prog X.w) X E0 := fun _ _ _ _ _ _ _ h => by
  obtain ⟨_, _, _, _, _, _, _, _, _, _, _, _, z⟩ := h
  exact z.elim
theorem takesN {X : Cx} : L2N.Takes X (fun _ _ _ _ => False) := fun _ _ x => by
  obtain ⟨_, _, _, _, _, _, _, _, _, _, _, _, _, _, _, _, z⟩ := x
  exact z.elim
/-- the suite is hot -/
theorem hotc {X : Cx} {a : Addr} {oe : Obj} {cls : Value} {d : Option Addr} {pn : List (Addr × Obj)} (hz : L2N.Zn cls d oe) (hf : ∃ vs, oe.data = .fields vs) : L2H.HotC (X.suite a ((a, oe) :: pn)) := by
  obtain ⟨vs, h⟩ := hf
  exact ⟨(a, oe), ⟨rfl, vs, h, hz.2.2 vs h⟩, List.mem_cons_self⟩
theorem hotH {CX : CXT} {P : Program} {w : World} {K : PySem.W.Frag} {mg : Str → Option Value} {base : Heap} {N : List Str} {qual : Str} {scope : Scope} {f : Addr} {cd : Value} {A : Around} {outer : List Env} {s : Shared} {H : Hp} {E : XK} {p : Addr × Obj} (h : L2H.Hot1 A p) : L2H.HotC (L2H.cxH CX P w K mg base N qual scope f cd A outer s H E p) :=
  ⟨p, ⟨h.1, h.2⟩, List.mem_singleton.mpr rfl⟩
end
/-- as FunD.ok, within an except suite -/
theorem FunD.okH {P : Program} {w : World} {K : PySem.W.Frag} {mg : Str → Option Value} {base : Heap} {x qual : Str} {params : Arguments} {body : List Stmt} {scope : Scope} {dvs : List V} {kws : List (Str × V)} {f : Addr} {fd : FuncData} {CX : CXT} {N ps : List Str} {k : Nat} {sp : Sp} (F : FunD K x qual params body scope dvs kws f fd) (S : FnScope N ps scope) (len : ∀ vs H Q E, sp vs H Q E → vs.length = ps.length)
    (hbody : ∀ (cdv : Value) (A : Around) (outer : List Env) (s : Shared) (H : Hp) (vs : List V) (Q : VK) (E : XK) (p : Addr × Obj), L2H.Hot1 A p → L2H.RoomH k (A.deeper (envOfC qual scope s.heap.objs.size f cdv)) → sp vs H Q E →
      ∃ t, PSs (L2H.cxH CX P w K mg base N qual scope f cdv A outer s H E p) body t ∧ t { nx := fun _ H' => Q .non H', rt := Q } (start N vs) H) : L2H.FnH P w K mg base CX (k + 1) f fd ps sp := by
  obtain ⟨oc, od, dV, kV, doc, pm, an, cdv, ct, osl, rfl, lk, hcd, _, _⟩ := F.ex
  exact L2H.fn_ofH lk hcd S len fun A outer s H vs Q E p hot hr hsp => hbody cdv A outer s H vs Q E p hot hr hsp
end L2
theorem L2H.RoomH.units {k : Nat} {A : PySem.Around} (r : L2H.RoomH k A) : A.units + 64 < PySem.cLine := by have := r.un; omega
/-! the head's facts: defs, error classes, Bools -/
namespace Hk
open PySem PySem.W PySem.Spec PyProof.Rows L2 He
abbrev FnZ : Type := Option (PySem.Str × PySem.Str × Arguments × FuncBody × Scope)
def fnZ (K : Frag) (a : Addr) : FnZ := match K.lookup a with
  | some ⟨_, _, .func fd, _⟩ => some (fd.name, fd.qualname, fd.params, fd.body, fd.scope)
  | _ => none
structure It where
  at_ : Frag → Addr
  val : FnZ
  ok : Frag → Bool
structure DefX where
  at_ : Frag → Addr
  name : PySem.Str
  qual : PySem.Str
  params : Arguments
  body : List Stmt
  scope : Scope
  dfl : List Dv := []
  kwd : List (PySem.Str × Dv) := []
def DefX.val (d : DefX) : FnZ := some (d.name, d.qual, d.params, .stmts d.body, d.scope)
def DefX.dvs (K : Frag) (d : DefX) : List V := d.dfl.map (Dv.v K)
def DefX.kws (K : Frag) (d : DefX) : List (PySem.Str × V) := d.kwd.map fun q => (q.1, q.2.v K)
def defOk (K : Frag) (a : Addr) (qual : PySem.Str) (dvs : List V) (kws : List (PySem.Str × V)) : Bool := keepIn K (.ref a) && (match K.lookup a with
  | some ⟨_, _, .func fd, _⟩ => codeIn K fd.code qual && (decide (fd.globals = mainGlobals) && (decide (fd.builtins = builtinsNs) && (fd.closure.isEmpty && (dflB K fd.defaults dvs && kwdB K fd.kwdefaults kws))))
  | _ => false)
def DefX.it (d : DefX) : It := ⟨d.at_, d.val, fun K => defOk K (d.at_ K) d.qual (d.dvs K) (d.kws K)⟩
theorem DefX.funD {K : Frag} {d : DefX} (e : fnZ K (d.at_ K) = d.val) (c : d.it.ok K = true) : ∃ fd, FunD K d.name d.qual d.params d.body d.scope (d.dvs K) (d.kws K) (d.at_ K) fd := by
  obtain ⟨kp, c2⟩ := ba c
  unfold fnZ at e
  cases q : K.lookup (d.at_ K) with
  | none =>
    rw [q] at c2
    cases c2
  | some o =>
    obtain ⟨oc, od, dt, osl⟩ := o
    rw [q] at c2 e
    cases dt with
    | func fd =>
      obtain ⟨n1, n2, n3, n4, n5, n6, n7, n8, n9, n10, n11, n12, n13, n14, n15⟩ := fd
      have e2 : (some (n1, n2, n3, n4, n5) : FnZ) = some (d.name, d.qual, d.params, .stmts d.body, d.scope) := e
      simp only [Option.some.injEq, Prod.mk.injEq] at e2
      obtain ⟨h1, h2, h3, h4, h5⟩ := e2
      have c3 : (codeIn K n13 d.qual && (decide (n6 = mainGlobals) && (decide (n15 = builtinsNs) && (n7.isEmpty && (dflB K n8 (d.dvs K) && kwdB K n9 (d.kws K)))))) = true := c2
      obtain ⟨k1, k2⟩ := ba c3
      obtain ⟨k3, k4⟩ := ba k2
      obtain ⟨k5, k6⟩ := ba k4
      obtain ⟨k7, k8⟩ := ba k6
      obtain ⟨k9, k10⟩ := ba k8
      have h6 := of_decide_eq_true k3
      have h7 := of_decide_eq_true k5
      have h8 : n7 = [] := List.isEmpty_iff.mp k7
      subst h1 h2 h3 h4 h5 h6 h7 h8
      exact ⟨_, ⟨oc, od, n8, n9, n10, n11, n12, n13, n14, osl, rfl, q, k1, dflB_ok k9, kwdB_ok k10⟩, kp⟩
    | _ => cases c2
/-! ### error classes -/
def clsB (K : Frag) (C : Addr) : Bool := match K.lookup C with
  | some ⟨.type ty, _, .cls cd, sl⟩ => (match cd.mro, sl.toList with
    | .ref C' :: bm, [_, _, _, _, some (.builtin n), _] => decide (ty = "type") && (decide (C' = C) && (decide (n = "ValueError.__new__") && (!cd.hasDel && (cd.hasDict && HandSPX.refsVE bm))))
    | _, _ => false)
  | _ => false
theorem clsB_ok {K : Frag} {C : Addr} (q : clsB K C = true) : ∃ nm q N bs bm sn sub ab col dd k0 k1 k2 k3 k5, K.lookup C = some (excClassObj nm q C N bs bm true sn sub ab col dd k0 k1 k2 k3 k5 "ValueError.__new__") ∧ HandSPX.refsVE bm = true := by
  unfold clsB at q
  split at q
  · rename_i ty dd cd sl ho
    split at q
    · rename_i C' bm k0 k1 k2 k3 n k5 hm hs
      obtain ⟨q1, q⟩ := ba q
      obtain ⟨q2, q⟩ := ba q
      obtain ⟨q3, q⟩ := ba q
      obtain ⟨q4, q⟩ := ba q
      obtain ⟨q5, q6⟩ := ba q
      have e1 := of_decide_eq_true q1
      have e2 := of_decide_eq_true q2
      have e3 := of_decide_eq_true q3
      obtain ⟨nm, bs, mro, ns, qn, hd, sn, sub, ab, col, del⟩ := cd
      dsimp only at hm q4 q5
      have e4 : del = false := by simpa using q4
      have hsl : sl = #[k0, k1, k2, k3, some (.builtin n), k5] := by
        obtain ⟨l⟩ := sl
        simp only at hs
        rw [hs]
      subst e1 e2 e3 hm e4 q5 hsl
      exact ⟨nm, qn, ns, bs, bm, sn, sub, ab, col, dd, k0, k1, k2, k3, k5, ho, q6⟩
    · cases q
  · cases q
def initB (K : Frag) (C fI : Addr) (file : PySem.Str) : Bool := match K.lookup fI with
  | some ⟨_, _, .func fd, _⟩ => (match fd.code, fd.closure with
    | .ref cda, [(x, cc)] => decide (x = "__class__" ∧ fd.defaults = .none) && (codeIn K (.ref cda) fd.qualname && (decide (fd.globals = mainGlobals) && (decide (fd.builtins = builtinsNs) && ((match K.lookup cda with
        | some ⟨_, _, .fields vs, _⟩ => (match (vs[2]? : Option Value) with
          | some (Value.str fl _) => decide (fl = file)
          | _ => false)
        | _ => false) && (match K.lookup cc with
        | some ⟨_, _, .cell (some (.ref D)), _⟩ => decide (D = C)
        | _ => false)))))
    | _, _ => false)
  | _ => false
theorem initB_ok {K : Frag} {C fI : Addr} {file : PySem.Str} {prog : Program} {nm0 qual0 : PySem.Str} {params : Arguments} {body : List Stmt} {scope : Scope} (h : initB K C fI file = true) (e : fnZ K fI = some (nm0, qual0, params, .stmts body, scope)) (hfile : (prog.main.file : PySem.Str) = file) :
  ∃ (oc : Value) (od : Option Addr) (nm qual : PySem.Str) (kV doc pm : Value) (an : Option Addr) (cda cc : Addr) (ct : Value) (osl : Array (Option Value)) (ccl : Value) (cdd : Option Addr) (vs : Array Value) (ccs : Array (Option Value)) (file : PySem.Str) (tf : Tok) (cl : Value) (cld : Option Addr) (csl : Array (Option Value)),
    K.lookup fI = some ⟨oc, od, .func (ksFn nm qual params body scope .none kV doc pm an (.ref cda) ct cc), osl⟩ ∧ codeIn K (.ref cda) qual = true ∧
    K.lookup cda = some ⟨ccl, cdd, .fields vs, ccs⟩ ∧ vs[2]? = some (.str file tf) ∧ ((prog.main.file : PySem.Str) == file) = true ∧ K.lookup cc = some ⟨cl, cld, .cell (some (.ref C)), csl⟩ := by
  unfold initB at h
  unfold fnZ at e
  cases q : K.lookup fI with
  | none =>
    rw [q] at h
    cases h
  | some o =>
    obtain ⟨oc, od, dt, osl⟩ := o
    rw [q] at h e
    cases dt with
    | func fd =>
      obtain ⟨n1, n2, n3, n4, n5, n6, n7, n8, n9, n10, n11, n12, n13, n14, n15⟩ := fd
      have e2 : (some (n1, n2, n3, n4, n5) : FnZ) = some (nm0, qual0, params, .stmts body, scope) := e
      simp only [Option.some.injEq, Prod.mk.injEq] at e2
      obtain ⟨h1, h2, h3, h4, h5⟩ := e2
      dsimp only at h
      split at h
      · rename_i cda x cc
        obtain ⟨g1, h⟩ := ba h
        obtain ⟨g2, h⟩ := ba h
        obtain ⟨g3, h⟩ := ba h
        obtain ⟨g4, h⟩ := ba h
        obtain ⟨g5, g6⟩ := ba h
        obtain ⟨f1, f0⟩ := of_decide_eq_true g1
        have f3 := of_decide_eq_true g3
        have f4 := of_decide_eq_true g4
        split at g5
        · rename_i ccl cdd vs ccs hcode
          split at g5
          · rename_i fl tf hvs
            have f5 := of_decide_eq_true g5
            split at g6
            · rename_i cl cld D csl hcell
              have f6 := of_decide_eq_true g6
              subst h1 h2 h3 h4 h5 f1 f0 f3 f4 f5 f6
              exact ⟨oc, od, _, _, n9, n10, n11, n12, cda, cc, n14, osl, ccl, cdd, vs, ccs, _, tf, cl, cld, csl, rfl, g2, hcode, hvs, by rw [hfile]; exact beq_self_eq_true _, hcell⟩
            · cases g6
          · cases g5
        · cases g5
      · cases h
    | _ => cases h
def errB (K : Frag) (nm : PySem.Str) (fs : List PySem.Str) (file : PySem.Str) : Bool :=
  eqO (nsIn K mainGlobals nm) (some (some (.ref (ga K nm)))) && (clsB K (ga K nm) && (eqO (findIn K (.ref (ga K nm)) "__setattr__") (some (some (.builtin "object.__setattr__"))) &&
  (eqO (findIn K (.ref (ga K nm)) "__getattribute__") (some (some (.builtin "BaseException.__getattribute__"))) && (eqO (findIn K (.ref (ga K nm)) "__getattr__") (some none) &&
  (eqO (findIn K (.ref (ga K nm)) "__init__") (some (some (.ref (ma K (ga K nm) "__init__")))) && (decide (typeIn K (.ref (ma K (ga K nm) "__init__")) = some (.type "function")) && (keepIn K (.ref (ga K nm)) &&
  (decide (subIn K (.ref (ga K nm)) (.type "BaseException") = some true) && (decide (subIn K (.ref (ga K nm)) (.type "ValueError") = some true) && (decide (typeIn K (.ref (ga K nm)) = some (.type "type")) && (hasDictIn K (ga K nm) &&
  (decide (mroIn K (ga K nm) (.ref (ga K nm)) = some true) && (eqO (ks_superIn K (ga K nm) (ga K nm) "__init__") (some (some (.builtin "ValueError.__init__"))) && (eqO (nsIn K cStatics "thirdparty.any") (some none) &&
  (eqO (nsIn K mainGlobals "super") (some none) && (initB K (ga K nm) (ma K (ga K nm) "__init__") file && fs.all fun f => eqO (findIn K (.ref (ga K nm)) f) (some none)))))))))))))))))
structure ErrD where
  name : PySem.Str
  fs : List PySem.Str
  qual : PySem.Str
  params : Arguments
  body : List Stmt
  scope : Scope
def ErrD.it (file : PySem.Str) (d : ErrD) : It := ⟨fun K => ma K (ga K d.name) "__init__", some ("__init__", d.qual, d.params, .stmts d.body, d.scope), fun K => errB K d.name d.fs file⟩
/-- the scope's facts, by decide -/
structure ScopeE (prog : Program) (scope : Scope) (params : Arguments) : Prop where
  ar : ∃ pp, (params.posonlyargs ++ params.args).head? = some ⟨"self", none, pp⟩
  hks : scope.names.lookup ("super" : PySem.Str) = some .globalImplicit
  hkc : scope.names.lookup ("__class__" : PySem.Str) = some .free
  hka : scope.names.lookup ("self" : PySem.Str) = some .local
  hk : scope.kind = .function
  hco : scope.isCoroutine = false
  hgen : scope.isGenerator = false
  hcell : ∀ x ∈ scope.names, x.2 ≠ .cell
  htop : (prog.main.scope.names.lookup ("super" : PySem.Str)).isSome = false
theorem errC_of {prog : Program} {K : Frag} {nm qual0 nm0 file : PySem.Str} {fs : List PySem.Str} {params : Arguments} {body : List Stmt} {scope : Scope} (c : errB K nm fs file = true) (e : fnZ K (ma K (ga K nm) "__init__") = some (nm0, qual0, params, .stmts body, scope))
    (hfile : (prog.main.file : PySem.Str) = file) (S : ScopeE prog scope params) : PySem.ErrX.ErrC prog K (ga K nm) (ma K (ga K nm) "__init__") body scope params ∧ nsIn K mainGlobals nm = some (some (.ref (ga K nm))) ∧ ∀ f ∈ fs, findIn K (.ref (ga K nm)) f = some none := by
  unfold errB at c
  obtain ⟨c0, c⟩ := ba c
  obtain ⟨c1, c⟩ := ba c
  obtain ⟨c2, c⟩ := ba c
  obtain ⟨c3, c⟩ := ba c
  obtain ⟨c4, c⟩ := ba c
  obtain ⟨c5, c⟩ := ba c
  obtain ⟨c6, c⟩ := ba c
  obtain ⟨c7, c⟩ := ba c
  obtain ⟨c8, c⟩ := ba c
  obtain ⟨c9, c⟩ := ba c
  obtain ⟨c10, c⟩ := ba c
  obtain ⟨c11, c⟩ := ba c
  obtain ⟨c12, c⟩ := ba c
  obtain ⟨c13, c⟩ := ba c
  obtain ⟨c14, c⟩ := ba c
  obtain ⟨c15, c⟩ := ba c
  obtain ⟨c16, c17⟩ := ba c
  exact ⟨{ cls := clsB_ok c1, sa := eqO_ok c2, ga := eqO_ok c3, gg := eqO_ok c4, iC := eqO_ok c5, tC := of_decide_eq_true c6, kC := c7, exC := of_decide_eq_true c8, veC := of_decide_eq_true c9, tyC := of_decide_eq_true c10, hdC := c11, mroC := of_decide_eq_true c12,
           supC := eqO_ok c13, opq := eqO_ok c14, supG := eqO_ok c15, fn := initB_ok c16 e hfile, ar := S.ar, hks := S.hks, hkc := S.hkc, hka := S.hka, hk := S.hk, hco := S.hco, hgen := S.hgen, hcell := S.hcell, htop := S.htop }, eqO_ok c0, fun f hf => eqO_ok (List.all_eq_true.mp c17 f hf)⟩
section
variable {prog : Program} {w : World} {K : Frag} {h : Heap} {mg : PySem.Str → Option Value} {nm qual0 nm0 file f msg : PySem.Str} {params : Arguments} {scope : Scope} {a1 a2 a3 a4 a5 a6 b1 b2 b3 b4 : Pos}
theorem err1_of (X : K.In h) (G : h.Ns mainGlobals mg) (c : errB K nm [f] file = true) (e : fnZ K (ma K (ga K nm) "__init__") = some (nm0, qual0, params, .stmts [PySem.ErrX.supS msg a1 a2 a3 a4 a5 a6, PySem.ErrX.fldS f b1 b2 b3 b4], scope))
    (hfile : (prog.main.file : PySem.Str) = file) (S : ScopeE prog scope params) (hline : (a3.endLine == a5.line) = true)
    (hbind : ∀ (nm qual : PySem.Str) (kV doc pm : Value) (an : Option Addr) (cdv ct : Value) (cc : Addr) (x y : Value), bindArgs (ksFn nm qual params [PySem.ErrX.supS msg a1 a2 a3 a4 a5 a6, PySem.ErrX.fldS f b1 b2 b3 b4] scope .none kV doc pm an cdv ct cc) ⟨[x, y], []⟩ = pure [(("self" : PySem.Str), x), (f, y)])
    (hkf : scope.names.lookup f = some .local) (hne : (("self" : PySem.Str) == f) = false) (hdf : (f == ("__debug__" : PySem.Str)) = false) : Err1 prog w K mg nm f (ga K nm) := by
  obtain ⟨T, g, hf⟩ := errC_of c e hfile S
  have noN := hf f (List.mem_singleton.mpr rfl)
  exact { gC := mg_of X G g, kC := T.kC, exC := T.exC, tyC := T.tyC, hdC := T.hdC, ga := T.ga, gg := T.gg, noN := noN, made := fun X hl hG hB hr hq => PySem.ErrX.made1 T hline hbind hkf hne hdf noN X hl hG hB hr hq }
theorem err0_of (X : K.In h) (G : h.Ns mainGlobals mg) (c : errB K nm [] file = true) (e : fnZ K (ma K (ga K nm) "__init__") = some (nm0, qual0, params, .stmts [PySem.ErrX.supS msg a1 a2 a3 a4 a5 a6], scope))
    (hfile : (prog.main.file : PySem.Str) = file) (S : ScopeE prog scope params) (hline : (a3.endLine == a5.line) = true)
    (hbind : ∀ (nm qual : PySem.Str) (kV doc pm : Value) (an : Option Addr) (cdv ct : Value) (cc : Addr) (x : Value), bindArgs (ksFn nm qual params [PySem.ErrX.supS msg a1 a2 a3 a4 a5 a6] scope .none kV doc pm an cdv ct cc) ⟨[x], []⟩ = pure [(("self" : PySem.Str), x)]) : Err0 prog w K mg nm (ga K nm) := by
  obtain ⟨T, g, _⟩ := errC_of c e hfile S
  exact { gC := mg_of X G g, kC := T.kC, exC := T.exC, tyC := T.tyC, made := fun X hl hG hB hr hq => PySem.ErrX.made0 T hline hbind X hl hG hB hr hq }
end
/-- ExcC as a Bool -/
def excCB (K : Frag) (D : Addr) : Bool := eqO (findIn K (.ref D) "__getattribute__") (some (some (.builtin "BaseException.__getattribute__"))) && (eqO (findIn K (.ref D) "__getattr__") (some none) && (decide (subIn K (.ref D) (.type "BaseException") = some true) &&
  (hasDictIn K D && (eqO (findIn K (.ref D) "__class__") (some (some (.builtin "object.__class__"))) && (eqO (specialIn K (.builtin "object.__class__") "__get__") (some (some (.builtin "getset_descriptor.__get__"))) &&
  (decide (takesIn K (.builtin "object.__class__") = some true) && decide (mroIn K D (.type "object") = some true)))))))
theorem excCB_ok {K : Frag} {D : Addr} (c : excCB K D = true) : ExcC K D := by
  unfold excCB at c
  obtain ⟨c1, c⟩ := ba c
  obtain ⟨c2, c⟩ := ba c
  obtain ⟨c3, c⟩ := ba c
  obtain ⟨c4, c⟩ := ba c
  obtain ⟨c5, c⟩ := ba c
  obtain ⟨c6, c⟩ := ba c
  obtain ⟨c7, c8⟩ := ba c
  exact ⟨eqO_ok c1, eqO_ok c2, of_decide_eq_true c3, c4, eqO_ok c5, eqO_ok c6, of_decide_eq_true c7, of_decide_eq_true c8⟩
def kitB (K : Frag) (x y : Value) (b : Bool) : Bool := decide (kitOne K x y = some b)
theorem kitB_ok {K : Frag} {x y : Value} {b : Bool} (h : kitB K x y b = true) : kitOne K x y = some b := of_decide_eq_true h
/-- the function's data at a -/
def fdOf (K : Frag) (a : Addr) : FuncData := match K.lookup a with
  | some ⟨_, _, .func fd, _⟩ => fd
  | _ => fnOf "" "" ⟨[], [], none, [], [], none, []⟩ [] ⟨.function, [], false, false, []⟩ .none .none .none .none none .none .none
theorem fdOf_eq {K : Frag} {x qual : PySem.Str} {params : Arguments} {body : List Stmt} {scope : Scope} {dvs : List V} {kws : List (PySem.Str × V)} {f : Addr} {fd : FuncData} (F : FunD K x qual params body scope dvs kws f fd) : FunD K x qual params body scope dvs kws f (fdOf K f) := by
  obtain ⟨oc, od, dV, kV, doc, pm, an, cdv, ct, osl, e, lk, r⟩ := F.ex
  have e2 : fdOf K f = fd := by unfold fdOf; rw [lk]
  rw [e2]
  exact F
/-! ### the Hook -/
abbrev AlZ : Type := Bool × List FnZ
def obsZ (fa : List Fa) (ex : List (Frag → Bool)) (its : List It) (K : Frag) : AlZ := ((fa.all fun f => f.ok K) && ((ex.all fun f => f K) && its.all fun d => d.ok K), its.map fun d => fnZ K (d.at_ K))
def valZ (its : List It) : AlZ := (true, its.map It.val)
def SaysZ (fa : List Fa) (ex : List (Frag → Bool)) (its : List It) (K : Frag) : Prop := obsZ fa ex its K = valZ its
def obsZG (n : Nat) (fa : List Fa) (ex : List (Frag → Bool)) (its : List It) (g : Addr → Option Obj) : AlZ := obsZ fa ex its (frG g (He5.asA g n))
def hookZ (n : Nat) (fa : List Fa) (ex : List (Frag → Bool)) (its : List It) : PySem.W.Hook where
  α := AlZ
  obs := fun s => obsZG n fa ex its s.heap.get?
  val := fun _ => valZ its
  says := fun _ h => ∃ K : Frag, K.In h ∧ SaysZ fa ex its K
  of := fun _ _ e => ⟨_, frG_in, e⟩
  keeps := fun _ _ _ ⟨K, hK, c⟩ k => ⟨K, Frag.In.keeps hK k, c⟩
theorem obsZG_eq {n : Nat} {fa : List Fa} {ex : List (Frag → Bool)} {its : List It} {g : Addr → Option Obj} {s : Shared} (h : ∀ a, g a = s.heap.get? a) : obsZG n fa ex its g = (hookZ n fa ex its).obs s := by
  have e : g = s.heap.get? := funext h
  rw [e] <;> rfl
section
variable {fa : List Fa} {ex : List (Frag → Bool)} {its : List It} {K : Frag}
theorem SaysZ.fact (c : SaysZ fa ex its K) (i : Nat) {f : Fa} (h : fa[i]? = some f := by rfl) : f.ok K = true := by
  have c1 := (ba (show ((fa.all fun f => f.ok K) && ((ex.all fun f => f K) && its.all fun d => d.ok K)) = true from congrArg (fun z : AlZ => z.1) c)).1
  exact List.all_eq_true.mp c1 f (List.mem_of_getElem? h)
theorem SaysZ.more (c : SaysZ fa ex its K) (i : Nat) {f : Frag → Bool} (h : ex[i]? = some f := by rfl) : f K = true := by
  have c1 := (ba (ba (show ((fa.all fun f => f.ok K) && ((ex.all fun f => f K) && its.all fun d => d.ok K)) = true from congrArg (fun z : AlZ => z.1) c)).2).1
  exact List.all_eq_true.mp c1 f (List.mem_of_getElem? h)
theorem SaysZ.it (c : SaysZ fa ex its K) (i : Nat) {d : It} (h : its[i]? = some d := by rfl) : fnZ K (d.at_ K) = d.val ∧ d.ok K = true := by
  have c2 := (ba (ba (show ((fa.all fun f => f.ok K) && ((ex.all fun f => f K) && its.all fun d => d.ok K)) = true from congrArg (fun z : AlZ => z.1) c)).2).2
  have e : its.map (fun d => fnZ K (d.at_ K)) = its.map It.val := congrArg (fun z : AlZ => z.2) c
  have e2 : (its.map fun d => fnZ K (d.at_ K))[i]? = (its.map It.val)[i]? := by rw [e]
  rw [List.getElem?_map, List.getElem?_map, h] at e2
  exact ⟨Option.some.inj e2, List.all_eq_true.mp c2 d (List.mem_of_getElem? h)⟩
theorem SaysZ.def_ (c : SaysZ fa ex its K) (i : Nat) {d : DefX} (h : its[i]? = some d.it := by rfl) : ∃ fd, FunD K d.name d.qual d.params d.body d.scope (d.dvs K) (d.kws K) (d.at_ K) fd := by
  obtain ⟨e1, e2⟩ := c.it i h
  exact DefX.funD e1 e2
theorem SaysZ.fn (c : SaysZ fa ex its K) (i : Nat) {d : DefX} (h : its[i]? = some d.it := by rfl) : FunD K d.name d.qual d.params d.body d.scope (d.dvs K) (d.kws K) (d.at_ K) (fdOf K (d.at_ K)) := by
  obtain ⟨fd, F⟩ := c.def_ i h
  exact fdOf_eq F
end
/-- a law: as walk_ofE, with the script's bits -/
theorem walk_ofEB {l : PySem.W.OpenLaw} {n k : Nat} {q : Program} {loose : List PySem.Str} {XP : (PySem.Str → Option Value) → Heap → Prop} {YP : World → Heap → Prop} {d : DefRec} {CX : World → CXT} {x : PySem.Str}
    (hn : l.most = some n) (hn2 : n ≤ sizeLine) (hdf : d.params.defaults = []) (hr : Room k callerA)
    (F : ∀ (w : World) (mg : PySem.Str → Option Value) (fa : Addr) (h : Heap), YP w h → h.Ns mainGlobals mg → mg d.name = some (.ref fa) →
      ∃ (K : PySem.W.Frag) (fd : FuncData) (sp : Sp), K.In h ∧ (∀ (s : Shared) (u : Value), BindsTo s fd ⟨[u], []⟩ [(x, u)]) ∧
        (∀ (H : Hp) (a : Addr) (ns : List Int), ns.length ≤ n → (∀ k ∈ ns, Builtin.Int.intBits k ≤ 1048576) → Only H → SqL K H a (ns.map V.int) → sp [.ref a] H (fun v _ => v = .bl true) fun _ _ _ => False) ∧
        ∀ base : Heap, K.In base → base.Ns mainGlobals mg → FnOk l.prog w K mg base (CX w) k fa fd [x] sp)
    (hCX : ∀ (w : World) (H : Hp) (s : Shared) (e : Value) (s' : Shared), CX w [] H s (fun _ _ _ => False) e s' → False) :
    PySem.W.WalkO q loose XP YP l.row.toRowW d [] (fun f vs => PySem.call f vs) := by
  refine Att.attach_callB hn hdf fun w s₀ s₁ mg mb fa o pm cd doc a vs ns G Y ho hd hcd hmg hobj hints hlen hbits hg => ?_
  obtain ⟨K, fd, sp, KX, hb, hsp, hF⟩ := F w mg fa _ Y G.T.g hmg
  exact law_call KX G.T.g G.T.b G.T.builtins G.T.nolimit hg hobj hints (Nat.le_trans hlen hn2) hr hF hb (fun H hO hS => hsp H a ns hlen hbits hO hS) fun H e s' => hCX w H s₁ e s'
end Hk
/-! operators by the values' own kinds; steps -/
namespace Px
open PySem PySem.Spec PyProof.Rows L2
section
variable {X : Cx}
/-- + -/
def rAddP (K : PySem.W.Frag) : R2 := fun x y H Q => match x, y with
  | .int i, .int j => Q (.int (i + j)) H
  | .str i, .str j => i.length + j.length ≤ sizeLine ∧ Q (.str (i ++ j)) H
  | .ref a, .ref b => rCat (.ref a) (.ref b) H Q ∨ rCatA K (.ref a) (.ref b) H Q
  | _, _ => False
theorem op_addP : OpR X (binaryOp .Add) (rAddP X.K) := by
  intro pins s σ H x y v u Q I rx ry h
  cases x <;> cases y <;> first
    | exact False.elim h
    | exact op_add pins s σ H _ _ v u Q I rx ry ⟨_, _, rfl, rfl, h⟩
    | exact op_add_str pins s σ H _ _ v u Q I rx ry ⟨_, _, rfl, rfl, h.1, h.2⟩
    | (rcases h with h | h
       · exact op_cat pins s σ H _ _ v u Q I rx ry h
       · exact op_catA pins s σ H _ _ v u Q I rx ry h)
/-- ints -/
def rIn2 (C : Int → Int → Prop) (g : Int → Int → V) : R2 := fun x y H Q => match x, y with
  | .int i, .int j => C i j ∧ Q (g i j) H
  | _, _ => False
theorem OpR.in2 {f : Value → Value → Sem Value} {C : Int → Int → Prop} {g : Int → Int → V} (h : OpR X f (rI C g)) : OpR X f (rIn2 C g) := by
  intro pins s σ H x y v u Q I rx ry q
  cases x <;> cases y <;> first
    | exact False.elim q
    | exact h pins s σ H _ _ v u Q I rx ry ⟨_, _, rfl, rfl, q.1, q.2⟩
def rIn0 (g : Int → Int → V) : R2 := fun x y H Q => match x, y with
  | .int i, .int j => Q (g i j) H
  | _, _ => False
theorem OpR.in0 {f : Value → Value → Sem Value} {g : Int → Int → V} (h : OpR X f (rI0 g)) : OpR X f (rIn0 g) := by
  intro pins s σ H x y v u Q I rx ry q
  cases x <;> cases y <;> first
    | exact False.elim q
    | exact h pins s σ H _ _ v u Q I rx ry ⟨_, _, rfl, rfl, q⟩
abbrev rSubP : R2 := rIn0 fun i j => .int (i - j)
theorem op_subP : OpR X (binaryOp .Sub) rSubP := OpR.in0 op_sub
def CMulP (i j : Int) : Prop := CMul i j ∨ CMulW i j
abbrev rMulP : R2 := rIn2 CMulP fun i j => .int (i * j)
theorem op_mulP : OpR X (binaryOp .Mult) rMulP := OpR.in2 (opI fun _ _ _ _ _ _ _ hc q => mul_int q (hc.elim CMul.ok CMulW.ok))
def CDivP (_ j : Int) : Prop := j ≠ 0 ∧ j.natAbs.log2 < 9000
abbrev rFdivP : R2 := rIn2 CDivP fun i j => .int (i.fdiv j)
theorem op_fdivP : OpR X (binaryOp .FloorDiv) rFdivP := OpR.in2 (opI fun _ _ _ _ _ _ _ hc q => floordiv_int hc.1 q (.inl (PyProof.noPylong_of_log2 hc.2)))
abbrev rModP : R2 := rIn2 (fun _ j => j ≠ 0) fun i j => .int (i.fmod j)
theorem op_modP : OpR X (binaryOp .Mod) rModP := OpR.in2 op_modN
abbrev rPowP : R2 := rIn2 CPow fun i j => .int (i ^ j.toNat)
theorem op_powP : OpR X (binaryOp .Pow) rPowP := OpR.in2 op_pow
/-- ==, != -/
def rEqP (K : PySem.W.Frag) : R2 := fun x y H Q => match scal x y with
  | true => Q (.bl (decide (x = y))) H
  | false => rEqD K x y H Q
theorem op_eqP (hu : X.A.units + 64 < cLine) : OpR X (compareOp .Eq) (rEqP X.K) := by
  intro pins s σ H x y v u Q I rx ry h
  unfold rEqP at h
  cases e : scal x y with
  | true => rw [e] at h; exact op_eq pins s σ H _ _ v u Q I rx ry ⟨e, h⟩
  | false => rw [e] at h; exact op_eqD hu pins s σ H _ _ v u Q I rx ry h
def rNeP (K : PySem.W.Frag) : R2 := fun x y H Q => match scal x y with
  | true => Q (.bl (!decide (x = y))) H
  | false => rNeD K x y H Q
theorem op_neP (hu : X.A.units + 64 < cLine) : OpR X (compareOp .NotEq) (rNeP X.K) := by
  intro pins s σ H x y v u Q I rx ry h
  unfold rNeP at h
  cases e : scal x y with
  | true => rw [e] at h; exact op_ne pins s σ H _ _ v u Q I rx ry ⟨e, h⟩
  | false => rw [e] at h; exact op_neD hu pins s σ H _ _ v u Q I rx ry h
/-- <, <=, >, >= -/
def rLtP : R2 := fun x y H Q => match x, y with
  | .int i, .int j => Q (.bl (decide (i < j))) H
  | .str i, .str j => Q (.bl (decide (i.cps.toList < j.cps.toList))) H
  | _, _ => False
theorem op_ltP : OpR X (compareOp .Lt) rLtP := by
  intro pins s σ H x y v u Q I rx ry h
  cases x <;> cases y <;> first
    | exact False.elim h
    | exact op_lt pins s σ H _ _ v u Q I rx ry ⟨_, _, rfl, rfl, h⟩
    | exact op_lt_str pins s σ H _ _ v u Q I rx ry ⟨_, _, rfl, rfl, h⟩
abbrev rLeP : R2 := rIn0 fun i j => .bl (decide (i ≤ j))
theorem op_leP : OpR X (compareOp .LtE) rLeP := OpR.in0 op_le
abbrev rGtP : R2 := rIn0 fun i j => .bl (decide (j < i))
theorem op_gtP : OpR X (compareOp .Gt) rGtP := OpR.in0 op_gt
abbrev rGeP : R2 := rIn0 fun i j => .bl (decide (j ≤ i))
theorem op_geP : OpR X (compareOp .GtE) rGeP := OpR.in0 op_ge
/-- in, not in -/
def strIn (i j : Str) : Bool := !(Builtin.Str.occurrences j i 0 j.length 1).isEmpty
theorem strIn_sign (c : Nat) (z : Str) : strIn ⟨#[c]⟩ z = decide (c ∈ z.cps.toList) := PySem.StrLaws.found_one z c
def tgtIn (neg b : Bool) : Bool := if neg then !b else b
def rInP (K : PySem.W.Frag) (neg : Bool) : R2 := fun x y H Q => match y with
  | .str j => (match x with
    | .str i => Q (.bl (tgtIn neg (strIn i j))) H
    | _ => False)
  | .ref p => rIn K neg x (.ref p) H Q ∨ ∃ o, DGet H p x o ∧ Q (.bl (tgtIn neg o.isSome)) H
  | _ => False
theorem op_inP (hu : X.A.units + 64 < cLine) : OpR X (compareOp .In) (rInP X.K false) := by
  intro pins s σ H x y v u Q I rx ry h
  cases y <;> first
    | exact False.elim h
    | (cases x <;> first
       | exact False.elim h
       | exact op_in_str pins s σ H _ _ v u Q I rx ry ⟨_, _, rfl, rfl, h⟩)
    | (rcases h with h | ⟨o, g, q⟩
       · exact op_in_seq pins s σ H _ _ v u Q I rx ry h
       · obtain rfl : u = Value.ref _ := ry
         exact d_in (by omega) I g rx fun s3 I3 => ⟨.bl o.isSome, H, I3, rfl, q⟩)
theorem op_ninP (hu : X.A.units + 64 < cLine) : OpR X (compareOp .NotIn) (rInP X.K true) := by
  intro pins s σ H x y v u Q I rx ry h
  cases y <;> first
    | exact False.elim h
    | (cases x <;> first
       | exact False.elim h
       | exact op_notin_str pins s σ H _ _ v u Q I rx ry ⟨_, _, rfl, rfl, h⟩)
    | (rcases h with h | ⟨o, g, q⟩
       · exact op_notIn_seq pins s σ H _ _ v u Q I rx ry h
       · obtain rfl : u = Value.ref _ := ry
         exact d_notIn (by omega) I g rx fun s3 I3 => ⟨.bl (!o.isSome), H, I3, rfl, q⟩)
/-- is None -/
def rIsP (neg : Bool) : R2 := fun x y H Q => y = .non ∧ Q (.bl (tgtIn neg (decide (x = .non)))) H
theorem op_isP : OpR X (compareOp .Is) (rIsP false) := op_isN
theorem op_isnotP : OpR X (compareOp .IsNot) (rIsP true) := op_notN
/-- x[i] -/
def rIxP (K : PySem.W.Frag) : R2 := fun x y H Q => match x, y with
  | .str z, .int i => z.length ≤ sizeLine ∧ ∃ c, atI z.cps.toList i = some c ∧ Q (.str ⟨#[c]⟩) H
  | .ref p, .int i => ∃ xs v, (SqL K H p xs ∨ SqT K H p xs) ∧ atI xs i = some v ∧ Q v H
  | _, _ => False
theorem ix_P : IxR X (rIxP X.K) := by
  intro value slice pins s σ H x y v u Q I rx ry h hs
  cases x <;> cases y <;> first
    | exact False.elim h
    | (obtain ⟨hz, c, he, q⟩ := h
       exact ix_str value slice pins s σ H _ _ v u Q I rx ry ⟨_, _, c, rfl, rfl, hz, he, q⟩ hs)
    | (obtain ⟨xs, w, hq, he, q⟩ := h
       rcases hq with hq | hq
       · exact ix_list value slice pins s σ H _ _ v u Q I rx ry ⟨_, xs, _, w, rfl, rfl, hq, he, q⟩ hs
       · exact ix_tup value slice pins s σ H _ _ v u Q I rx ry ⟨_, xs, _, w, rfl, rfl, hq, he, q⟩ hs)
/-- x[a:b] -/
def rSlP (K : PySem.W.Frag) : V → Option Int → Option Int → Hp → VK → Prop := fun x lo hi H Q => match x with
  | .str z => z.length ≤ sizeLine ∧ Q (.str (cutS z lo hi)) H
  | .ref a => rSlL K (.ref a) lo hi H Q ∨ rSlT K (.ref a) lo hi H Q
  | _ => False
theorem sl_P : SlR X (rSlP X.K) := by
  intro pins s σ H x v vl vu lo hi sl Q I rx hs pl pu h
  cases x <;> first
    | exact False.elim h
    | exact sl_str pins s σ H _ v vl vu lo hi sl Q I rx hs pl pu ⟨_, rfl, h.1, h.2⟩
    | (rcases h with h | h
       · exact sl_list pins s σ H _ v vl vu lo hi sl Q I rx hs pl pu h
       · exact sl_tup pins s σ H _ v vl vu lo hi sl Q I rx hs pl pu h)
/-- len -/
def rLenP (K : PySem.W.Frag) : List V → Hp → VK → Prop := fun vs H Q => match vs with
  | [.str z] => z.length ≤ sizeLine ∧ Q (.int z.length) H
  | [.ref p] => (∃ xs, (SqL K H p xs ∨ SqT K H p xs) ∧ Q (.int xs.length) H) ∨ ∃ kvs, H p = some (.dK kvs) ∧ Q (.int kvs.length) H
  | _ => False
theorem call_lenP : CallR X (.builtin "len") (rLenP X.K) := by
  intro pins s σ H vs us Q I r h
  match vs, h with
  | [.str z], h => exact call_len_str pins s σ H _ us Q I r ⟨z, rfl, h.1, h.2⟩
  | [.ref p], h =>
    rcases h with ⟨xs, hq, q⟩ | ⟨kvs, hd, q⟩
    · exact call_len_seq pins s σ H _ us Q I r ⟨p, xs, rfl, hq, q⟩
    · exact call_lenD pins s σ H _ us Q I r ⟨p, kvs, rfl, hd, q⟩
  | [], h => exact False.elim h
  | [.non], h => exact False.elim h
  | [.bl _], h => exact False.elim h
  | [.int _], h => exact False.elim h
  | [.byt _], h => exact False.elim h
  | [.flt _], h => exact False.elim h
  | [.ty _], h => exact False.elim h
  | x :: y :: z, h => exact False.elim (by cases x <;> exact h)
/-- for x in .. -/
def iAnyP (K : PySem.W.Frag) (te : TE) : TI := fun σ H R => te σ H fun x H1 => match x with
  | .str z => R (Its z) H1
  | .ref a => ((∃ xs, SqL K H1 a xs) ∧ R (Itl K a) H1) ∨ ((∃ xs, SqT K H1 a xs) ∧ R (Itt K a) H1)
  | _ => False
theorem pi_anyP {tg e : Expr} {te : TE} (he : PE X e te) : PI X tg e (iAnyP X.K te) := by
  refine ⟨fun pins s σ H R I h => ?_⟩
  refine thn (he.run pins s σ H _ I h) fun v s1 ⟨x, H1, I1, r1, q1⟩ => ?_
  cases x <;> first
    | exact False.elim q1
    | (rename_i x
       obtain ⟨t, rfl⟩ := r1
       cases ha : x.cps.all (· < 128)
       · exact wpAny_pyIter_wide ha (pi_one (tk := s1.toks) I1 _ (turn_str _ x t "str_iterator" (.inr rfl)) ⟨_, Heap.get?_push_size _ rfl, rfl, rfl⟩ q1)
       · exact wpAny_pyIter_ascii ha (pi_one (tk := s1.toks) I1 _ (turn_str _ x t "str_ascii_iterator" (.inl rfl)) ⟨_, Heap.get?_push_size _ rfl, rfl, rfl⟩ q1))
    | (rename_i a
       obtain rfl : v = Value.ref a := r1
       rcases q1 with ⟨⟨xs, hq⟩, q⟩ | ⟨⟨xs, hq⟩, q⟩
       · obtain ⟨its, rv, p, hz⟩ := I1.list hq
         refine wpAny_pyIter_list p.isList ?_
         refine ⟨s1.heap.objs.size, [s1.heap.objs.size], _, _, H1, rfl, I1.kept (t' := s1.toks) fun b o e => Heap.get?_push_of_some _ e, turn_list a _, ⟨_, Heap.get?_push_size _ rfl, rfl, rfl⟩, fun b hb => ?_, q⟩
         have e : b = s1.heap.objs.size := by simpa using hb
         subst e
         exact I1.fpOk (Nat.le_refl _) (I1.hok.fresh (Nat.le_refl _))
       · obtain ⟨its, rv, p, hz⟩ := I1.tuple hq
         refine wpAny_pyIter_tuple (show s1.heap.IsTuple a its.toArray from p) ?_
         refine ⟨s1.heap.objs.size, [s1.heap.objs.size], _, _, H1, rfl, I1.kept (t' := s1.toks) fun b o e => Heap.get?_push_of_some _ e, turn_tuple a _, ⟨_, Heap.get?_push_size _ rfl, rfl, rfl⟩, fun b hb => ?_, q⟩
         have e : b = s1.heap.objs.size := by simpa using hb
         subst e
         exact I1.fpOk (Nat.le_refl _) (I1.hok.fresh (Nat.le_refl _)))
/-- o[i] = v -/
def rSetP : V → V → V → Hp → (Hp → Prop) → Prop := fun o i v H Q => match o with
  | .ref p => rSetL (.ref p) i v H Q ∨ ∃ H', DPut H p i v H' ∧ Q H'
  | _ => False
theorem set_P (hu : X.A.units + 64 < cLine) : PSet X rSetP := by
  intro pins s σ H o i v ov iv u Q I ro ri rv h
  cases o <;> first
    | exact False.elim h
    | (rcases h with h | ⟨H', g, q⟩
       · exact set_list pins s σ H _ i v ov iv u Q I ro ri rv h
       · obtain rfl : ov = Value.ref _ := ro
         exact d_setItem (by omega) I g ri rv fun s4 I4 => ⟨H', I4, q⟩)
/-- int(x), list(x), tuple(x), abs(x) -/
def rIntP : List V → Hp → VK → Prop := fun vs H Q => match vs with
  | [.int i] => Q (.int i) H
  | [.bl b] => Q (.int (if b then 1 else 0)) H
  | [.str z] => ∃ n, PySem.intText? z = some n ∧ z.length ≤ 640 ∧ Q (.int n) H
  | _ => False
theorem call_intP : CallR X (.type "int") rIntP := by
  intro pins s σ H vs us Q I r h
  match vs, h with
  | [.int i], h => exact call_int1 pins s σ H _ us Q I r (.inl ⟨i, rfl, h⟩)
  | [.bl b], h => exact call_int1 pins s σ H _ us Q I r (.inr ⟨b, rfl, h⟩)
  | [.str z], ⟨n, e, l, q⟩ => exact call_int_str pins s σ H _ us Q I r ⟨z, n, rfl, e, l, q⟩
  | [], h => exact False.elim h
  | [.non], h => exact False.elim h
  | [.ref _], h => exact False.elim h
  | [.byt _], h => exact False.elim h
  | [.flt _], h => exact False.elim h
  | [.ty _], h => exact False.elim h
  | x :: y :: z, h => exact False.elim (by cases x <;> exact h)
def rListP (K : PySem.W.Frag) : List V → Hp → VK → Prop := fun xs H Q => ∃ p ys, xs = [.ref p] ∧ (SqL K H p ys ∨ SqT K H p ys) ∧ ∀ l, H l = none → Q (.ref l) (upd H l (.lst ys))
theorem call_listP : CallR X (.type "list") (rListP X.K) := call_list_of
def rTupleP (K : PySem.W.Frag) : List V → Hp → VK → Prop := fun xs H Q => ∃ p ys, xs = [.ref p] ∧ ((SqL K H p ys ∧ ∀ l, H l = none → Q (.ref l) (upd H l (.tup ys))) ∨ (SqT K H p ys ∧ Q (.ref p) H))
theorem call_tupleP : CallR X (.type "tuple") (rTupleP X.K) := call_tuple_of
def rAbsP : List V → Hp → VK → Prop := fun xs H Q => ∃ i, xs = [.int i] ∧ Q (.int (if i < 0 then -i else i)) H
theorem call_absP : CallR X (.builtin "abs") rAbsP := call_abs
def rStrP : List V → Hp → VK → Prop := fun vs H Q => match vs with
  | [.int i] => i.natAbs.log2 < 1920 ∧ Q (.str (toString i)) H
  | [.str z] => Q (.str z) H
  | _ => False
theorem call_strP : CallR X (.type "str") rStrP := by
  intro pins s σ H vs us Q I r h
  match vs, h with
  | [.int i], h => exact call_str_int pins s σ H _ us Q I r ⟨i, rfl, h.1, h.2⟩
  | [.str z], h => exact SkE.call_str_str pins s σ H _ us Q I r ⟨z, rfl, h⟩
  | [], h => exact False.elim h
  | [.non], h => exact False.elim h
  | [.bl _], h => exact False.elim h
  | [.ref _], h => exact False.elim h
  | [.byt _], h => exact False.elim h
  | [.flt _], h => exact False.elim h
  | [.ty _], h => exact False.elim h
  | x :: y :: z, h => exact False.elim (by cases x <;> exact h)
/-- a statement, then the rest, with a word between them -/
def tCut (t u : TS) : TS := fun D σ H => ∃ Mid : L2.St → Hp → Prop, t { D with nx := Mid } σ H ∧ ∀ σ' H', Mid σ' H' → u D σ' H'
theorem pss_cut {st : Stmt} {rest : List Stmt} {t u : TS} (h1 : PS X st t) (h2 : PSs X rest u) : PSs X (st :: rest) (tCut t u) := by
  refine ⟨fun pins s σ H D I h => ?_⟩
  obtain ⟨Mid, hm, hu⟩ := h
  refine wpAny_execs_cons (thn (h1.run pins s σ H { D with nx := Mid } I hm) fun f s1 q => ?_)
  cases f with
  | next =>
    obtain ⟨σ', H', I', q⟩ := q
    exact h2.run pins s1 σ' H' D I' (hu σ' H' q)
  | ret v => exact q
  | brk => exact q
  | cont => exact q
/-! promises by the number of arguments -/
def Sp1 (P : V → Hp → VK → XK → Prop) : Sp := fun vs H Q E => ∃ x, vs = [x] ∧ P x H Q E
def Sp2 (P : V → V → Hp → VK → XK → Prop) : Sp := fun vs H Q E => ∃ x y, vs = [x, y] ∧ P x y H Q E
def Sp3 (P : V → V → V → Hp → VK → XK → Prop) : Sp := fun vs H Q E => ∃ x y z, vs = [x, y, z] ∧ P x y z H Q E
def Sp4 (P : V → V → V → V → Hp → VK → XK → Prop) : Sp := fun vs H Q E => ∃ x y z u, vs = [x, y, z, u] ∧ P x y z u H Q E
theorem Sp1.len {P} {vs H Q E} (h : Sp1 P vs H Q E) : vs.length = 1 := by obtain ⟨_, rfl, _⟩ := h; rfl
theorem Sp2.len {P} {vs H Q E} (h : Sp2 P vs H Q E) : vs.length = 2 := by obtain ⟨_, _, rfl, _⟩ := h; rfl
theorem Sp3.len {P} {vs H Q E} (h : Sp3 P vs H Q E) : vs.length = 3 := by obtain ⟨_, _, _, rfl, _⟩ := h; rfl
theorem Sp4.len {P} {vs H Q E} (h : Sp4 P vs H Q E) : vs.length = 4 := by obtain ⟨_, _, _, _, rfl, _⟩ := h; rfl
end
end Px
/-! steps of readings -/
namespace Px
open PySem PySem.Spec PyProof.Rows L2
section
variable {K : PySem.W.Frag} {σ σ' : L2.St} {H : Hp} {D : Ends} {Q : VK} {QB : Bool → Hp → Prop} {QL : List V → Hp → Prop} {QO : Option Int → Hp → Prop} {QS : L2.St → Hp → Prop} {t u : TS} {te ta tb : TE} {tt tu : TT} {tl : TA} {v x y : V} {g : TG} {r : R2}
theorem s_seq (h : t { D with nx := u D } σ H) : tSeq t u D σ H := h
theorem s_asg (h : te σ H fun x H1 => g x σ H1 D.nx) : tAsg te g D σ H := h
theorem s_ret (h : te σ H D.rt) : tRet te D σ H := h
theorem s_retN (h : D.rt .non H) : tRetN D σ H := h
theorem s_drop (h : te σ H fun _ H1 => D.nx σ H1) : tDrop te D σ H := h
theorem s_ifS (h : tt σ H fun b H1 => if b = true then t D σ H1 else u D σ H1) : tIfS tt t u D σ H := h
theorem s_next (h : D.nx σ H) : tNext D σ H := h
theorem s_break (h : D.bk σ H) : tBreak D σ H := h
theorem s_cont (h : D.ct σ H) : tCont D σ H := h
theorem s_var {i : Nat} (e : σ[i]? = some (some v)) (h : Q v H) : tVar i σ H Q := ⟨v, e, h⟩
theorem s_c (h : Q v H) : tC v σ H Q := h
theorem s_op (h : ta σ H fun x H1 => tb σ H1 fun y H2 => r x y H2 Q) : tOp r ta tb σ H Q := h
theorem s_un {r : V → Hp → VK → Prop} (h : ta σ H fun x H1 => r x H1 Q) : tUn r ta σ H Q := h
theorem s_gname {i : Nat} (h : QS (σ.set i (some v)) H) : gName i v σ H QS := h
theorem s_gsub {to ti : TE} {ts : TSet} (h : to σ H fun o H1 => ti σ H1 fun i H2 => ts o i v H2 fun H3 => QS σ H3) : gSub to ti ts v σ H QS := h
theorem s_test (h : te σ H fun x H' => ∃ k, x = .bl k ∧ QB k H') : tTest te σ H QB := h
theorem s_tB (h : te σ H fun x H' => ∃ k, x = .bl k ∧ QB k H') : tB te σ H QB := h
theorem s_and (h : tt σ H fun c H1 => if c = true then tu σ H1 QB else QB false H1) : tAnd tt tu σ H QB := h
theorem s_or (h : tt σ H fun c H1 => if c = true then QB true H1 else tu σ H1 QB) : tOr tt tu σ H QB := h
theorem s_not (h : tt σ H fun c H1 => QB (!c) H1) : tNot tt σ H QB := h
theorem s_andV (h : ta σ H fun x H1 => ∃ c, x = .bl c ∧ if c = true then tb σ H1 Q else Q (.bl false) H1) : tAndV ta tb σ H Q := h
theorem s_orV (h : ta σ H fun x H1 => ∃ c, x = .bl c ∧ if c = true then Q (.bl true) H1 else tb σ H1 Q) : tOrV ta tb σ H Q := h
theorem s_notV (h : ta σ H fun x H1 => ∃ c, x = .bl c ∧ Q (.bl (!c)) H1) : tNotV ta σ H Q := h
theorem s_ifE (h : tt σ H fun c H1 => if c = true then ta σ H1 Q else tb σ H1 Q) : tIf tt ta tb σ H Q := h
theorem s_exb {b : Bool} {R : Bool → Prop} (h : R b) : ∃ k, (V.bl b = .bl k) ∧ R k := ⟨b, rfl, h⟩
theorem s_exi {b : Int} {R : Int → Prop} (h : R b) : ∃ k, (V.int b = .int k) ∧ R k := ⟨b, rfl, h⟩
theorem s_nil (h : QL [] H) : tNil σ H QL := h
theorem s_cons (h : ta σ H fun x H1 => tl σ H1 fun xs H2 => QL (x :: xs) H2) : tCons ta tl σ H QL := h
theorem s_cb {r : List V → Hp → VK → Prop} (h : tl σ H fun vs H1 => r vs H1 Q) : tCB r tl σ H Q := h
theorem s_call {sp : Sp} {dvs : List V} {E : XK} (h : tl σ H fun vs H1 => sp (vs ++ dvs) H1 Q E) : tCall sp dvs E tl σ H Q := h
theorem s_callS {sp : Sp} {E : L2.St → XK} (h : tl σ H fun vs H1 => sp vs H1 Q (E σ)) : tCallS sp E tl σ H Q := h
theorem s_lst (h : tl σ H fun xs H1 => xs.length ≤ sizeLine ∧ ∀ p, H1 p = none → Q (.ref p) (upd H1 p (.lst xs))) : tLst tl σ H Q := h
theorem s_tup (h : tl σ H fun xs H1 => xs.length ≤ sizeLine ∧ ∀ p, H1 p = none → Q (.ref p) (upd H1 p (.tup xs))) : tTup tl σ H Q := h
theorem s_sl {r : V → Option Int → Option Int → Hp → VK → Prop} {lo hi : TO} (h : te σ H fun x H1 => lo σ H1 fun l H2 => hi σ H2 fun u H3 => r x l u H3 Q) : tSl r te lo hi σ H Q := h
theorem s_nopart (h : QO none H) : tNoPart σ H QO := h
theorem s_part (h : te σ H fun x H1 => ∃ i, x = .int i ∧ QO (some i) H1) : tPart te σ H QO := h
theorem s_yes (h : QB true H) : tYes σ H QB := h
/-! values -/
theorem s_addI {i j : Int} (h : Q (.int (i + j)) H) : rAddP K (.int i) (.int j) H Q := h
theorem s_addS {i j : Str} (hl : i.length + j.length ≤ sizeLine) (h : Q (.str (i ++ j)) H) : rAddP K (.str i) (.str j) H Q := ⟨hl, h⟩
theorem s_in0 {g : Int → Int → V} {i j : Int} (h : Q (g i j) H) : rIn0 g (.int i) (.int j) H Q := h
theorem s_in2 {C : Int → Int → Prop} {g : Int → Int → V} {i j : Int} (hc : C i j) (h : Q (g i j) H) : rIn2 C g (.int i) (.int j) H Q := ⟨hc, h⟩
theorem s_eqI {i j : Int} (h : Q (.bl (decide (i = j))) H) : rEqP K (.int i) (.int j) H Q := by
  show Q (.bl (decide (V.int i = V.int j))) H
  rw [show decide (V.int i = V.int j) = decide (i = j) from by rw [Bool.eq_iff_iff]; simp]
  exact h
theorem s_eqS {i j : Str} (h : Q (.bl (decide (i = j))) H) : rEqP K (.str i) (.str j) H Q := by
  show Q (.bl (decide (V.str i = V.str j))) H
  rw [show decide (V.str i = V.str j) = decide (i = j) from by rw [Bool.eq_iff_iff]; simp]
  exact h
theorem s_eqB {i j : Bool} (h : Q (.bl (decide (i = j))) H) : rEqP K (.bl i) (.bl j) H Q := by
  show Q (.bl (decide (V.bl i = V.bl j))) H
  rw [show decide (V.bl i = V.bl j) = decide (i = j) from by rw [Bool.eq_iff_iff]; simp]
  exact h
theorem s_neI {i j : Int} (h : Q (.bl (!decide (i = j))) H) : rNeP K (.int i) (.int j) H Q := by
  show Q (.bl (!decide (V.int i = V.int j))) H
  rw [show decide (V.int i = V.int j) = decide (i = j) from by rw [Bool.eq_iff_iff]; simp]
  exact h
theorem s_neS {i j : Str} (h : Q (.bl (!decide (i = j))) H) : rNeP K (.str i) (.str j) H Q := by
  show Q (.bl (!decide (V.str i = V.str j))) H
  rw [show decide (V.str i = V.str j) = decide (i = j) from by rw [Bool.eq_iff_iff]; simp]
  exact h
theorem s_ltI {i j : Int} (h : Q (.bl (decide (i < j))) H) : rLtP (.int i) (.int j) H Q := h
theorem s_ltS {i j : Str} (h : Q (.bl (decide (i.cps.toList < j.cps.toList))) H) : rLtP (.str i) (.str j) H Q := h
theorem s_inS {i j : Str} {neg : Bool} (h : Q (.bl (tgtIn neg (strIn i j))) H) : rInP K neg (.str i) (.str j) H Q := h
theorem s_isN {neg : Bool} (h : Q (.bl (tgtIn neg (decide (x = .non)))) H) : rIsP neg x .non H Q := ⟨rfl, h⟩
theorem s_ixS {z : Str} {i : Int} {c : Nat} (hz : z.length ≤ sizeLine) (e : atI z.cps.toList i = some c) (h : Q (.str ⟨#[c]⟩) H) : rIxP K (.str z) (.int i) H Q := ⟨hz, c, e, h⟩
theorem s_ixL {p : Addr} {xs : List V} {i : Int} (hp : H p = some (.lst xs)) (e : atI xs i = some v) (h : Q v H) : rIxP K (.ref p) (.int i) H Q := ⟨xs, v, .inl (SqL.of hp), e, h⟩
theorem s_ixT {p : Addr} {xs : List V} {i : Int} (hp : H p = some (.tup xs)) (e : atI xs i = some v) (h : Q v H) : rIxP K (.ref p) (.int i) H Q := ⟨xs, v, .inr (SqT.of hp), e, h⟩
theorem s_slS {z : Str} {lo hi : Option Int} (hz : z.length ≤ sizeLine) (h : Q (.str (cutS z lo hi)) H) : rSlP K (.str z) lo hi H Q := ⟨hz, h⟩
theorem s_slL {a : Addr} {xs : List V} {lo hi : Option Int} (ha : H a = some (.lst xs)) (h : ∀ p, H p = none → Q (.ref p) (upd H p (.lst (cutV xs lo hi)))) : rSlP K (.ref a) lo hi H Q := .inl ⟨a, xs, rfl, SqL.of ha, h⟩
theorem s_lenS {z : Str} (hz : z.length ≤ sizeLine) (h : Q (.int z.length) H) : rLenP K [.str z] H Q := ⟨hz, h⟩
theorem s_lenL {p : Addr} {xs : List V} (hp : H p = some (.lst xs)) (h : Q (.int xs.length) H) : rLenP K [.ref p] H Q := .inl ⟨xs, .inl (SqL.of hp), h⟩
theorem s_lenT {p : Addr} {xs : List V} (hp : H p = some (.tup xs)) (h : Q (.int xs.length) H) : rLenP K [.ref p] H Q := .inl ⟨xs, .inr (SqT.of hp), h⟩
theorem s_setL {p : Addr} {xs : List V} {k : Int} {j : Nat} {QH : Hp → Prop} (hp : H p = some (.lst xs)) (e : ixN xs.length k = some j) (h : QH (upd H p (.lst (xs.set j v)))) : rSetP (.ref p) (.int k) v H QH := .inl ⟨p, xs, k, j, rfl, rfl, hp, e, h⟩
theorem s_neg {i : Int} {f : Int → V} (h : Q (f i) H) : rU f (.int i) H Q := ⟨i, rfl, h⟩
theorem s_ite {c : Bool} {A B : Prop} (h1 : c = true → A) (h2 : c = false → B) : if c = true then A else B := by
  cases c with
  | true => rw [if_pos rfl]; exact h1 rfl
  | false => rw [if_neg Bool.false_ne_true]; exact h2 rfl
theorem s_itd {p : Prop} [Decidable p] {A B : Prop} (h1 : p → A) (h2 : ¬p → B) : if decide p = true then A else B := by
  by_cases h : p
  · rw [if_pos (decide_eq_true h)]; exact h1 h
  · rw [if_neg (by rw [decide_eq_false h]; exact Bool.false_ne_true)]; exact h2 h
theorem s_itT {c : Bool} {A B : Prop} (hc : c = true) (h : A) : if c = true then A else B := by rw [if_pos hc]; exact h
theorem s_itF {c : Bool} {A B : Prop} (hc : c = false) (h : B) : if c = true then A else B := by rw [hc, if_neg Bool.false_ne_true]; exact h
theorem s_nocut (h : t { D with nx := u D } σ H) : tCut t u D σ H := ⟨u D, h, fun _ _ h => h⟩
theorem s_cut (Mid : L2.St → Hp → Prop) (h : t { D with nx := Mid } σ H) (h2 : ∀ σ' H', Mid σ' H' → u D σ' H') : tCut t u D σ H := ⟨Mid, h, h2⟩
theorem s_setU {p : Addr} {xs : List V} {k : Int} {j : Nat} {QH : Hp → Prop} (e : ixN xs.length k = some j) (h : QH (upd H p (.lst (xs.set j v)))) : rSetP (.ref p) (.int k) v (upd H p (.lst xs)) QH := by
  refine s_setL upd_same e ?_
  rw [upd_upd]
  exact h
theorem s_intI {i : Int} (h : Q (.int i) H) : rIntP [.int i] H Q := h
theorem s_listL {p : Addr} {ys : List V} (hp : SqL K H p ys) (h : ∀ l, H l = none → Q (.ref l) (upd H l (.lst ys))) : rListP K [.ref p] H Q := ⟨p, ys, rfl, .inl hp, h⟩
theorem s_isi {c : V} {t u : Value} {b : Bool} (hc : ClsV c u) (ht : TyX K H x t) (e : PySem.W.kitOne K t u = some b) (h : Q (.bl b) H) : rIsi K [x, c] H Q := ⟨x, c, t, u, b, rfl, hc, ht, e, h⟩
theorem s_rng1 {ta : TA} {R : L2.It → Hp → Prop} (h : ta σ H fun vs H1 => ∃ j : Int, vs = [.int j] ∧ -(2 ^ 62) ≤ j ∧ j < 2 ^ 62 ∧ R (Itr 0 j.toNat) H1) : iRng1 ta σ H R := h
theorem s_for {wi : TI} {g : TG} {tb : TS} (h : wi σ H fun J H1 => ∃ W : Nat → Nat → L2.St → Hp → Prop, (∃ m, W 0 m σ H1) ∧ ∀ i m σ H, W i m σ H →
  (J.stop i H ∧ D.nx σ H) ∨ (J.go i H ∧ ∃ N : L2.St → Hp → Prop, (∀ σ' H', N σ' H' → ∃ m', m' < m ∧ W (i + 1) m' σ' H') ∧ ∀ x H', J.yld i H x H' → g x σ H' fun σ2 H2 => tb { D with nx := N, ct := N, bk := D.nx } σ2 H2)) : tFor wi g tb D σ H := h
/-! heaps -/
theorem same_new {p : Addr} {o : HO} (h : H p = none) : Same H (upd H p o) := fun b u e => by
  rw [upd_ne (ne_of_none e h)]
  exact e
/-- one object may have changed -/
def But (a : Addr) (H H' : Hp) : Prop := ∀ b o, H b = some o → b ≠ a → H' b = some o
theorem But.refl (a : Addr) (H : Hp) : But a H H := fun _ _ h _ => h
theorem But.trans {a : Addr} {H H1 H2 : Hp} (h1 : But a H H1) (h2 : But a H1 H2) : But a H H2 := fun b o h n => h2 b o (h1 b o h n) n
theorem But.of_same {a : Addr} {H H1 : Hp} (h : Same H H1) : But a H H1 := fun b o e _ => h b o e
theorem But.upd {a : Addr} {H : Hp} {o : HO} : But a H (upd H a o) := fun b u h n => by rw [upd_ne n]; exact h
theorem But.put {a : Addr} {H H1 : Hp} {o : HO} (h : But a H H1) : But a H (L2.upd H1 a o) := h.trans But.upd
theorem one_lt {n : Nat} (h : n ≤ 1000000) : n ≤ sizeLine := by rw [sizeLine_eq]; omega
theorem mem_comp {a b : Nat} {xs : List Nat} : a ∈ (⟨xs.toArray⟩ : Str).cps.toList ↔ a ∈ xs := by simp
end
end Px
/-! loops and comprehensions over anything whose items are known -/
namespace Px
open PySem PySem.Spec PyProof.Rows L2
/-- at turn i, the heap H: the items are xs -/
def YieldsAt (J : L2.It) (xs : List V) (i : Nat) (H : Hp) : Prop := (∀ h : i < xs.length, J.go i H ∧ ∀ x H', J.yld i H x H' → H' = H ∧ xs[i]? = some x) ∧ (xs.length ≤ i → J.stop i H)
theorem yields_str (z : Str) (i : Nat) (H : Hp) : YieldsAt (Its z) (z.cps.toList.map fun c => V.str ⟨#[c]⟩) i H := by
  refine ⟨fun h => ⟨?_, fun x H' hy => ?_⟩, fun h => ?_⟩
  · show i < z.cps.size
    simpa using h
  · obtain ⟨e, c, hc, rfl⟩ := hy
    refine ⟨e, ?_⟩
    rw [List.getElem?_map]
    have : z.cps.toList[i]? = some c := by simpa using hc
    rw [this]
    rfl
  · show z.cps.size ≤ i
    simpa using h
theorem yields_range (lo : Int) (n i : Nat) (H : Hp) : YieldsAt (Itr lo n) ((List.range n).map fun (j : Nat) => V.int (lo + (j : Int))) i H := by
  refine ⟨fun h => ⟨?_, fun x H' hy => ?_⟩, fun h => ?_⟩
  · show i < n
    simpa using h
  · obtain ⟨e, rfl⟩ := hy
    refine ⟨e, ?_⟩
    have hi : i < n := by simpa using h
    rw [List.getElem?_map, List.getElem?_range hi]
    rfl
  · show n ≤ i
    simpa using h
theorem yields_list {K : PySem.W.Frag} {a : Addr} {xs : List V} {H : Hp} (h : SqL K H a xs) (i : Nat) : YieldsAt (Itl K a) xs i H := by
  refine ⟨fun hi => ⟨⟨xs, xs[i], h, by simp [hi]⟩, fun x H' hy => ⟨hy.1, hy.2 xs h⟩⟩, fun hi => ⟨xs, h, hi⟩⟩
theorem yields_tup {K : PySem.W.Frag} {a : Addr} {xs : List V} {H : Hp} (h : SqT K H a xs) (i : Nat) : YieldsAt (Itt K a) xs i H := by
  refine ⟨fun hi => ⟨⟨xs, xs[i], h, by simp [hi]⟩, fun x H' hy => ⟨hy.1, hy.2 xs h⟩⟩, fun hi => ⟨xs, h, hi⟩⟩
theorem Same.sqT {K : PySem.W.Frag} {H H' : Hp} {a : Addr} {xs : List V} (e : Same H H') (h : SqT K H a xs) : SqT K H' a xs := by
  rcases h with (h | ⟨o, h⟩) | h
  · exact .inl (.inl (e _ _ h))
  · exact .inl (.inr ⟨o, e _ _ h⟩)
  · exact .inr h
section
variable {K : PySem.W.Frag} {σ : L2.St} {H H1 : Hp} {D : Ends} {Q : VK} {J : L2.It} {xs : List V}
/-- a for over known items, by an invariant -/
theorem for_y {g : TG} {tb : TS} (Pv : Nat → L2.St → Hp → Prop) (h0 : Pv 0 σ H) (hy : ∀ i σ H, i ≤ xs.length → Pv i σ H → YieldsAt J xs i H)
    (hs : ∀ i x σ H, xs[i]? = some x → Pv i σ H → g x σ H fun σ2 H2 => tb { D with nx := Pv (i + 1), ct := Pv (i + 1), bk := D.nx } σ2 H2) (hd : ∀ σ H, Pv xs.length σ H → D.nx σ H) :
    ∃ W : Nat → Nat → L2.St → Hp → Prop, (∃ m, W 0 m σ H) ∧ ∀ i m σ H, W i m σ H →
      (J.stop i H ∧ D.nx σ H) ∨ (J.go i H ∧ ∃ N : L2.St → Hp → Prop, (∀ σ' H', N σ' H' → ∃ m', m' < m ∧ W (i + 1) m' σ' H') ∧ ∀ x H', J.yld i H x H' → g x σ H' fun σ2 H2 => tb { D with nx := N, ct := N, bk := D.nx } σ2 H2) := by
  refine ⟨fun i m σ H => m = xs.length - i ∧ i ≤ xs.length ∧ Pv i σ H, ⟨xs.length, by simp, Nat.zero_le _, h0⟩, ?_⟩
  rintro i m σ H ⟨rfl, hi, p⟩
  have q := hy i σ H hi p
  by_cases hlt : i < xs.length
  · refine .inr ⟨(q.1 hlt).1, Pv (i + 1), fun σ' H' p' => ⟨xs.length - (i + 1), by omega, rfl, hlt, p'⟩, fun x H' y => ?_⟩
    obtain ⟨e, hx⟩ := (q.1 hlt).2 x H' y
    subst e
    exact hs i x σ H' hx p
  · have e : i = xs.length := by omega
    subst e
    exact .inl ⟨q.2 (Nat.le_refl _), hd σ H p⟩
/-- a comprehension over known items, by an invariant -/
theorem lc_y {g : TG} {tt : TT} {te : TE} {vs : List Nat} {Dr : Addr} {Qd : Hp → Prop} (Pv : Nat → Hp → Prop) (h0 : Pv 0 (upd H1 Dr (.lst []))) (hy : ∀ i H, i ≤ xs.length → Pv i H → YieldsAt J xs i H)
    (hs : ∀ i x H, xs[i]? = some x → Pv i H → g x (wipe σ vs) H fun σ2 H2 => wipe σ2 vs = wipe σ vs ∧ tt σ2 H2 fun b H3 =>
      if b = true then te σ2 H3 fun y H4 => ∃ acc, H4 Dr = some (.lst acc) ∧ acc.length < sizeLine ∧ Pv (i + 1) (upd H4 Dr (.lst (acc ++ [y]))) else Pv (i + 1) H3) (hd : ∀ H, Pv xs.length H → Qd H) :
    ∃ W : Nat → Nat → Hp → Prop, (∃ m, W 0 m (upd H1 Dr (.lst []))) ∧ ∀ i m H, W i m H →
      (J.stop i H ∧ Qd H) ∨ (J.go i H ∧ ∃ Nx : Hp → Prop, (∀ H', Nx H' → ∃ m', m' < m ∧ W (i + 1) m' H') ∧ ∀ x H', J.yld i H x H' → g x (wipe σ vs) H' fun σ2 H2 => wipe σ2 vs = wipe σ vs ∧ tt σ2 H2 fun b H3 =>
        if b = true then te σ2 H3 fun y H4 => ∃ acc, H4 Dr = some (.lst acc) ∧ acc.length < sizeLine ∧ Nx (upd H4 Dr (.lst (acc ++ [y]))) else Nx H3) := by
  refine ⟨fun i m H => m = xs.length - i ∧ i ≤ xs.length ∧ Pv i H, ⟨xs.length, by simp, Nat.zero_le _, h0⟩, ?_⟩
  rintro i m H ⟨rfl, hi, p⟩
  have q := hy i H hi p
  by_cases hlt : i < xs.length
  · refine .inr ⟨(q.1 hlt).1, Pv (i + 1), fun H' p' => ⟨xs.length - (i + 1), by omega, rfl, hlt, p'⟩, fun x H' y => ?_⟩
    obtain ⟨e, hx⟩ := (q.1 hlt).2 x H' y
    subst e
    exact hs i x H' hx p
  · have e : i = xs.length := by omega
    subst e
    exact .inl ⟨q.2 (Nat.le_refl _), hd H p⟩
theorem take_more {α : Type} {l : List α} {i : Nat} {x : α} (h : l[i]? = some x) : l.take (i + 1) = l.take i ++ [x] := by
  obtain ⟨hi, rfl⟩ := List.getElem?_eq_some_iff.mp h
  rw [List.take_succ_eq_append_getElem hi]
/-- [e for x in ..]: each item's value is f x, the heap only grows -/
theorem lc_map {v : Nat} {te : TE} {f : V → V} (hx : xs.length ≤ 1000000) (hy : ∀ i H, Same H1 H → YieldsAt J xs i H)
    (hf : ∀ x ∈ xs, ∀ H', Same H1 H' → ∀ Q' : VK, (∀ H'', Same H' H'' → Q' (f x) H'') → te (σ.set v (some x)) H' Q')
    (hq : ∀ D H', H1 D = none → Same H1 H' → H' D = some (.lst (xs.map f)) → Q (.ref D) H') :
    ∀ Dr, H1 Dr = none → ∃ W : Nat → Nat → Hp → Prop, (∃ m, W 0 m (upd H1 Dr (.lst []))) ∧ ∀ i m H, W i m H →
      (J.stop i H ∧ Q (.ref Dr) H) ∨ (J.go i H ∧ ∃ Nx : Hp → Prop, (∀ H', Nx H' → ∃ m', m' < m ∧ W (i + 1) m' H') ∧ ∀ x H', J.yld i H x H' → gName v x (wipe σ [v]) H' fun σ2 H2 => wipe σ2 [v] = wipe σ [v] ∧ tYes σ2 H2 fun b H3 =>
        if b = true then te σ2 H3 fun y H4 => ∃ acc, H4 Dr = some (.lst acc) ∧ acc.length < sizeLine ∧ Nx (upd H4 Dr (.lst (acc ++ [y]))) else Nx H3) := by
  intro Dr hD
  refine lc_y (xs := xs) (fun i H => Same H1 H ∧ H Dr = some (.lst ((xs.take i).map f))) ⟨same_new hD, by simp [upd_same]⟩ (fun i H _ p => hy i H p.1) ?_ (fun H p => hq Dr H hD p.1 (by rw [p.2, List.take_length]))
  rintro i x H hi ⟨sm, hl⟩
  have e1 : wipe σ [v] = σ.set v none := rfl
  rw [e1]
  have e2 : (σ.set v none).set v (some x) = σ.set v (some x) := by rw [List.set_set]
  have e3 : wipe (σ.set v (some x)) [v] = σ.set v none := by show (σ.set v (some x)).set v none = _; rw [List.set_set]
  unfold gName
  rw [e2]
  refine ⟨e3, ?_⟩
  unfold tYes
  dsimp only
  rw [if_pos rfl]
  refine hf x (List.mem_of_getElem? hi) H sm _ fun H'' s2 => ?_
  refine ⟨_, s2 _ _ hl, ?_, fun b o e => ?_, ?_⟩
  · rw [List.length_map, List.length_take, sizeLine_eq]
    have := (List.getElem?_eq_some_iff.mp hi).1
    omega
  · rw [upd_ne (ne_of_none e hD)]
    exact s2 _ _ (sm _ _ e)
  · rw [upd_same, take_more hi, List.map_append]
    rfl
theorem s_lc {wi : TI} {g : TG} {tt : TT} {te : TE} {vs : List Nat} (h : wi σ H fun J H1 => ∀ D, H1 D = none → ∃ W : Nat → Nat → Hp → Prop, (∃ m, W 0 m (upd H1 D (.lst []))) ∧ ∀ i m H, W i m H →
  (J.stop i H ∧ Q (.ref D) H) ∨ (J.go i H ∧ ∃ Nx : Hp → Prop, (∀ H', Nx H' → ∃ m', m' < m ∧ W (i + 1) m' H') ∧ ∀ x H', J.yld i H x H' → g x (wipe σ vs) H' fun σ2 H2 => wipe σ2 vs = wipe σ vs ∧ tt σ2 H2 fun b H3 =>
    if b = true then te σ2 H3 fun y H4 => ∃ acc, H4 D = some (.lst acc) ∧ acc.length < sizeLine ∧ Nx (upd H4 D (.lst (acc ++ [y]))) else Nx H3)) : tLc wi g tt te vs σ H Q := h
theorem s_anyP {te : TE} {R : L2.It → Hp → Prop} (h : te σ H fun x H1 => match x with
  | .str z => R (Its z) H1
  | .ref a => ((∃ xs, SqL K H1 a xs) ∧ R (Itl K a) H1) ∨ ((∃ xs, SqT K H1 a xs) ∧ R (Itt K a) H1)
  | _ => False) : iAnyP K te σ H R := h
/-! with what follows kept whole -/
/-- the items of a value that is walked -/
def Items (K : PySem.W.Frag) (H : Hp) (x : V) (xs : List V) : Prop := match x with
  | .str z => xs = z.cps.toList.map fun c => V.str ⟨#[c]⟩
  | .ref a => SqL K H a xs ∨ SqT K H a xs
  | _ => False
theorem Items.keep {H' : Hp} {x : V} (h : Items K H x xs) (s : Same H H') : Items K H' x xs := by
  cases x <;> first
    | exact False.elim h
    | exact h
    | (rcases h with h | h
       · exact .inl (s.seq h)
       · exact .inr (Same.sqT s h))
def LcB (J : L2.It) (g : TG) (tt : TT) (te : TE) (vs : List Nat) (σ : L2.St) (Q : VK) (H1 : Hp) : Prop := ∀ D, H1 D = none → ∃ W : Nat → Nat → Hp → Prop, (∃ m, W 0 m (upd H1 D (.lst []))) ∧ ∀ i m H, W i m H →
  (J.stop i H ∧ Q (.ref D) H) ∨ (J.go i H ∧ ∃ Nx : Hp → Prop, (∀ H', Nx H' → ∃ m', m' < m ∧ W (i + 1) m' H') ∧ ∀ x H', J.yld i H x H' → g x (wipe σ vs) H' fun σ2 H2 => wipe σ2 vs = wipe σ vs ∧ tt σ2 H2 fun b H3 =>
    if b = true then te σ2 H3 fun y H4 => ∃ acc, H4 D = some (.lst acc) ∧ acc.length < sizeLine ∧ Nx (upd H4 D (.lst (acc ++ [y]))) else Nx H3)
def LcBody (K : PySem.W.Frag) (g : TG) (tt : TT) (te : TE) (vs : List Nat) (σ : L2.St) (Q : VK) (x : V) (H1 : Hp) : Prop := match x with
  | .str z => LcB (Its z) g tt te vs σ Q H1
  | .ref a => ((∃ xs, SqL K H1 a xs) ∧ LcB (Itl K a) g tt te vs σ Q H1) ∨ ((∃ xs, SqT K H1 a xs) ∧ LcB (Itt K a) g tt te vs σ Q H1)
  | _ => False
theorem s_lcA {te0 te : TE} {g : TG} {tt : TT} {vs : List Nat} (h : te0 σ H fun x H1 => LcBody K g tt te vs σ Q x H1) : tLc (iAnyP K te0) g tt te vs σ H Q := h
def LcBodyR (g : TG) (tt : TT) (te : TE) (vs : List Nat) (σ : L2.St) (Q : VK) (ws : List V) (H1 : Hp) : Prop := ∃ j : Int, ws = [.int j] ∧ -(2 ^ 62) ≤ j ∧ j < 2 ^ 62 ∧ LcB (Itr 0 j.toNat) g tt te vs σ Q H1
theorem s_lcR {ta : TA} {te : TE} {g : TG} {tt : TT} {vs : List Nat} (h : ta σ H fun ws H1 => LcBodyR g tt te vs σ Q ws H1) : tLc (iRng1 ta) g tt te vs σ H Q := h
theorem lcb_items {g : TG} {tt : TT} {te : TE} {vs : List Nat} {x : V} (hx : Items K H1 x xs) (h : ∀ J, (∀ i H, Same H1 H → YieldsAt J xs i H) → LcB J g tt te vs σ Q H1) : LcBody K g tt te vs σ Q x H1 := by
  cases x <;> first
    | exact False.elim hx
    | (have e : xs = _ := hx
       subst e
       exact h _ fun i H _ => yields_str _ i H)
    | (rcases hx with hx | hx
       · exact .inl ⟨⟨xs, hx⟩, h _ fun i H s => yields_list (s.seq hx) i⟩
       · exact .inr ⟨⟨xs, hx⟩, h _ fun i H s => yields_tup (Same.sqT s hx) i⟩)
/-- [e for x in y]: each item's value is f x, the heap only grows -/
theorem lcb_map {v : Nat} {te : TE} {x : V} (f : V → V) (hx : Items K H1 x xs) (hl : xs.length ≤ 1000000)
    (hf : ∀ x ∈ xs, ∀ H', Same H1 H' → ∀ Q' : VK, (∀ H'', Same H' H'' → Q' (f x) H'') → te (σ.set v (some x)) H' Q')
    (hq : ∀ D H', H1 D = none → Same H1 H' → H' D = some (.lst (xs.map f)) → Q (.ref D) H') : LcBody K (gName v) tYes te [v] σ Q x H1 :=
  lcb_items hx fun _ hy => lc_map hl hy hf hq
theorem lcr_map {v : Nat} {te : TE} {j : Int} (f : V → V) (h1 : j ≤ 1000000) (h0 : -1000000 ≤ j)
    (hf : ∀ i : Nat, (i : Int) < j → ∀ H', Same H1 H' → ∀ Q' : VK, (∀ H'', Same H' H'' → Q' (f (.int i)) H'') → te (σ.set v (some (.int i))) H' Q')
    (hq : ∀ D H', H1 D = none → Same H1 H' → H' D = some (.lst ((List.range j.toNat).map fun (i : Nat) => f (.int i))) → Q (.ref D) H') : LcBodyR (gName v) tYes te [v] σ Q [.int j] H1 := by
  refine ⟨j, rfl, by omega, by omega, ?_⟩
  refine lc_map (xs := (List.range j.toNat).map fun (i : Nat) => V.int (0 + (i : Int))) (f := f) (by rw [List.length_map, List.length_range]; omega) (fun i H _ => yields_range 0 j.toNat i H) ?_ ?_
  · intro x hx
    obtain ⟨i, hi, rfl⟩ := List.mem_map.mp hx
    have := List.mem_range.mp hi
    rw [Int.zero_add]
    exact hf i (by omega)
  · intro D H' hD s hl
    refine hq D H' hD s ?_
    rw [hl, List.map_map]
    congr 2
    apply List.map_congr_left
    intro i _
    show f (.int (0 + (i : Int))) = _
    rw [Int.zero_add]
def ForB (J : L2.It) (g : TG) (tb : TS) (D : Ends) (σ : L2.St) (H : Hp) : Prop := ∃ W : Nat → Nat → L2.St → Hp → Prop, (∃ m, W 0 m σ H) ∧ ∀ i m σ H, W i m σ H →
      (J.stop i H ∧ D.nx σ H) ∨ (J.go i H ∧ ∃ N : L2.St → Hp → Prop, (∀ σ' H', N σ' H' → ∃ m', m' < m ∧ W (i + 1) m' σ' H') ∧ ∀ x H', J.yld i H x H' → g x σ H' fun σ2 H2 => tb { D with nx := N, ct := N, bk := D.nx } σ2 H2)
def ForBody (K : PySem.W.Frag) (g : TG) (tb : TS) (D : Ends) (σ : L2.St) (x : V) (H1 : Hp) : Prop := match x with
  | .str z => ForB (Its z) g tb D σ H1
  | .ref a => ((∃ xs, SqL K H1 a xs) ∧ ForB (Itl K a) g tb D σ H1) ∨ ((∃ xs, SqT K H1 a xs) ∧ ForB (Itt K a) g tb D σ H1)
  | _ => False
theorem s_forA {te0 : TE} {g : TG} {tb : TS} (h : te0 σ H fun x H1 => ForBody K g tb D σ x H1) : tFor (iAnyP K te0) g tb D σ H := h
def ForBodyR (g : TG) (tb : TS) (D : Ends) (σ : L2.St) (ws : List V) (H1 : Hp) : Prop := ∃ j : Int, ws = [.int j] ∧ -(2 ^ 62) ≤ j ∧ j < 2 ^ 62 ∧ ForB (Itr 0 j.toNat) g tb D σ H1
theorem s_forR {ta : TA} {g : TG} {tb : TS} (h : ta σ H fun ws H1 => ForBodyR g tb D σ ws H1) : tFor (iRng1 ta) g tb D σ H := h
/-- for v in y: an invariant over the turn, the slots, the heap; y's items stand -/
theorem forb_list {g : TG} {tb : TS} {a : Addr} (Pv : Nat → L2.St → Hp → Prop) (h0 : Pv 0 σ H) (hy : ∀ i σ H, i ≤ xs.length → Pv i σ H → SqL K H a xs)
    (hs : ∀ i y σ H, xs[i]? = some y → Pv i σ H → g y σ H fun σ2 H2 => tb { D with nx := Pv (i + 1), ct := Pv (i + 1), bk := D.nx } σ2 H2) (hd : ∀ σ H, Pv xs.length σ H → D.nx σ H) : ForBody K g tb D σ (.ref a) H :=
  .inl ⟨⟨xs, hy 0 σ H (Nat.zero_le _) h0⟩, for_y Pv h0 (fun i σ H hi p => yields_list (hy i σ H hi p) i) hs hd⟩
theorem forb_tup {g : TG} {tb : TS} {a : Addr} (Pv : Nat → L2.St → Hp → Prop) (h0 : Pv 0 σ H) (hy : ∀ i σ H, i ≤ xs.length → Pv i σ H → SqT K H a xs)
    (hs : ∀ i y σ H, xs[i]? = some y → Pv i σ H → g y σ H fun σ2 H2 => tb { D with nx := Pv (i + 1), ct := Pv (i + 1), bk := D.nx } σ2 H2) (hd : ∀ σ H, Pv xs.length σ H → D.nx σ H) : ForBody K g tb D σ (.ref a) H :=
  .inr ⟨⟨xs, hy 0 σ H (Nat.zero_le _) h0⟩, for_y Pv h0 (fun i σ H hi p => yields_tup (hy i σ H hi p) i) hs hd⟩
theorem forb_str {g : TG} {tb : TS} {z : Str} (Pv : Nat → L2.St → Hp → Prop) (h0 : Pv 0 σ H)
    (hs : ∀ i c σ H, z.cps.toList[i]? = some c → Pv i σ H → g (.str ⟨#[c]⟩) σ H fun σ2 H2 => tb { D with nx := Pv (i + 1), ct := Pv (i + 1), bk := D.nx } σ2 H2) (hd : ∀ σ H, Pv z.cps.toList.length σ H → D.nx σ H) : ForBody K g tb D σ (.str z) H :=
  for_y (xs := z.cps.toList.map fun c => V.str ⟨#[c]⟩) Pv h0 (fun i σ H _ _ => yields_str z i H) (fun i y σ H hi p => by
    rw [List.getElem?_map] at hi
    cases e : z.cps.toList[i]? with
    | none => rw [e] at hi; cases hi
    | some c =>
      rw [e] at hi
      have e2 : V.str ⟨#[c]⟩ = y := Option.some.inj hi
      subst e2
      exact hs i c σ H e p) (fun σ H p => hd σ H (by rw [List.length_map] at p; exact p))
theorem forr_inv {g : TG} {tb : TS} {j : Int} (h0 : -1000000000 ≤ j) (h1 : j ≤ 1000000000) (Pv : Nat → L2.St → Hp → Prop) (hp : Pv 0 σ H)
    (hs : ∀ (i : Nat) σ H, (i : Int) < j → Pv i σ H → g (.int i) σ H fun σ2 H2 => tb { D with nx := Pv (i + 1), ct := Pv (i + 1), bk := D.nx } σ2 H2) (hd : ∀ σ H, Pv j.toNat σ H → D.nx σ H) : ForBodyR g tb D σ [.int j] H := by
  refine ⟨j, rfl, by omega, by omega, ?_⟩
  refine for_range (lo := 0) (n := j.toNat) Pv hp (fun i σ H hi p => ?_) hd
  rw [Int.zero_add]
  exact hs i σ H (by omega) p
theorem s_all {a : Addr} {bs : List Bool} (hp : H a = some (.lst (bs.map V.bl))) (h : Q (.bl (bs.all id)) H) : rAll K [.ref a] H Q := ⟨a, bs, rfl, SqL.of hp, h⟩
end
end Px
/-! try with several clauses 'except x as n' -/
namespace L2N
open PySem PySem.Spec PyProof.Rows L2
/-- one clause: its class, the slot of its name, its suite's reading -/
abbrev Cla := Value × Nat × (Addr → Value → Option Addr → TS)
def wList (K : PySem.W.Frag) (Wout : WX) (D : Ends) : List Cla → WX
  | [] => Wout
  | (c, i, ts) :: r => wAs K c i ts (wList K Wout D r) D
inductive Clas (X : Cx) : List ExceptHandler → List Cla → Prop
  | nil : Clas X [] []
  | cons {x n : Str} {c : Value} {i : Nat} {ts : Addr → Value → Option Addr → TS} {b1 : Stmt} {bs : List Stmt} {np p : Pos} {hds : List ExceptHandler} {l : List Cla} (hi : X.N[i]? = some n) (hln : X.env.kindOf n = some .local) (hc : Names X x c)
      (hsu : ∀ (a : Addr) (oe : Obj) (cls : Value) (d : Option Addr) (pn : List (Addr × Obj)), Zn cls d oe → (∃ vs, oe.data = .fields vs) → PSs (X.suite a ((a, oe) :: pn)) (b1 :: bs) (ts a cls d)) (r : Clas X hds l) :
      Clas X (.ExceptHandler (some (.Name x np)) (some n) (b1 :: bs) p :: hds) ((c, i, ts) :: l)
theorem ps_try_list {X : Cx} {body : List Stmt} {h1 : ExceptHandler} {hds : List ExceptHandler} {l : List Cla} {pos : Pos} {tb : WX → TS} {Wout : WX} (hs : X.stack = X.env :: X.outer) (hf : X.env.frame = some X.env.locals) (hN : X.N.Nodup) (tk : Takes X Wout)
    (hb : ∀ (W : WX) (pn : List (Addr × Obj)) (xe : Value → Shared → Prop), Takes (X.tr pn xe) W → PassesOwn (model X.prog X.w) X.A X.env xe → PSs (X.tr pn xe) body (tb W)) (hh : Clas X (h1 :: hds) l) :
    PS X (.Try body (h1 :: hds) [] [] pos) (fun D σ H => tb (wList X.K Wout D l) D σ H) := by
  refine ⟨fun pins s σ H D I h => ?_⟩
  have ok := I.ok
  have hfr : X.A.frames = some (X.env :: X.outer) := (ok.frames).trans (by rw [hs])
  refine wpAny_Try_except ?_
  refine wpAny_mono ((hb (wList X.K Wout D l) (X.pn ++ pins) (fun e s1 => wpAny (model X.prog X.w) X.A (noteFrame e X.env) (fun _ s2 => wpAny (model X.prog X.w) X.A (setFlight e none) (fun _ s3 => wpAny (model X.prog X.w) X.A (handleBy e X.env (h1 :: hds)) (SP X pins D) X.xe s3) X.xe s2) X.xe s1) (fun u s' xx => ?_) PassesOwn.looking).run [] s σ H D (I.toTry _) h) (fun f s1 hsp => ?_) (fun e s1 he => he)
  · obtain ⟨a, B, sI, pins', σ', H', cls, d, rfl, J', nb, up, sky, na, os, ag, w⟩ := xx
    have J : Inv X pins σ' H' sI := J'.ofTry ok
    have sky' : Sky B (X.env :: X.outer) a (Zn cls d) X.env.locals s'.heap := hs ▸ sky
    show wpAny (model X.prog X.w) X.A (noteFrame (.ref a) X.env) _ _ _
    refine Sky.land Zn.steady hfr hf sky' fun h3 fl3 up3 => ?_
    have J3 : Inv X pins σ' H' { s' with heap := h3 } := J.landed nb fl3.1 (up.trans up3) os ag
    obtain ⟨oe3, vs3, he3, hz3, hd3⟩ := fl3.there
    have nfr : a ∉ frs (X.env :: X.outer) := fun hm => by
      obtain ⟨_, o', e', hnf⟩ := fl3.2.2.1.mem hm
      have e4 := he3.symm.trans e'
      cases e4
      exact hnf _ hd3
    have nL : a ≠ X.env.locals := fun z => nfr (List.mem_filterMap.mpr ⟨X.env, List.mem_cons_self, by rw [hf, ← z]⟩)
    have nF : a ∉ X.fs := fun hm => by
      obtain ⟨e, he, q⟩ := List.mem_filterMap.mp hm
      exact nfr (List.mem_filterMap.mpr ⟨e, .tail _ he, q⟩)
    have S3 := J3.suite he3 hd3 na nL nF
    have each : ∀ {hs' : List ExceptHandler} {l' : List Cla}, Clas X hs' l' → wList X.K Wout D l' cls d σ' H' → wpAny (model X.prog X.w) X.A (handleBy (.ref a) X.env hs') (SP X pins D) X.xe { s' with heap := h3 } := by
      intro hs' l' hk
      induction hk with
      | nil =>
        intro w
        refine wpAny_handleBy_nil ?_
        obtain ⟨_, _, _, oe, vs, T, oT, ts', he, hz, hd, g1, hr⟩ := id fl3
        unfold PySem.passOn
        refine wpAny_bind (wpAny_field he hd g1 ?_)
        rw [if_neg (show ¬ ((Value.ref T == Value.none) = true) from nofun)]
        have fin : wpAny (model X.prog X.w) X.A (setFlight (.ref a) X.env.frame) (fun _ s4 => wpAny (model X.prog X.w) X.A (throw (.ref a) : Sem Flow) (SP X pins D) X.xe s4) X.xe { s' with heap := h3 } := by
          rw [hf]
          exact HandSPX.setFlight_upZ fl3 fun h4 hh4 up4 => wpAny_throw (tk _ _ ⟨a, B, sI, pins, σ', H', cls, d, rfl, J, nb, (up.trans up3).trans up4, .inr (.inr (by rw [hs]; exact hh4)), na, os, ag, w⟩)
        first
          | exact wpAny_bind (wpAny_pure (wpAny_bind fin))
          | exact wpAny_bind fin
      | @cons x n c i ts b1 bs np p hds2 l2 hi hln hc hsu r ih =>
        intro w
        obtain ⟨b, hb1, hyes, hno⟩ := w
        refine wpAny_handleBy_cons (codeAny_handlers_test ?_) nofun
        have LT : PySem.W.Looks (model X.prog X.w) h3 (typeOf (.ref a)) cls := fun A Q E s k q => wpAny_typeOf_ref (k _ _ he3) (hz3.1 ▸ q)
        have LM := PySem.W.exm_one (M := model X.prog X.w) J3.kIn LT hb1
        have test : ∀ {Q : Value → Shared → Prop} {E : Value → Shared → Prop}, Q c { s' with heap := h3 } → wpAny (model X.prog X.w) (X.A.mark (some (.ref a))) (eval (.Name x np) X.env) Q E { s' with heap := h3 } := fun {Q E} q => by
          obtain ⟨hg, hdbg, hm | ⟨hm, hv, hnn⟩⟩ := hc
          · exact ld_glob (X := X.suite a ((a, oe3) :: (X.pn ++ pins))) S3 hg hm q hdbg
          · exact ld_blt (X := X.suite a ((a, oe3) :: (X.pn ++ pins))) S3 hg hm hv q hnn hdbg
        refine test (LM.here ?_)
        cases b with
        | false =>
          show wpAny _ X.A (handleBy (.ref a) X.env hds2) _ _ _
          exact ih (hno rfl)
        | true =>
          refine codeAny_handlers_suite_as ?_
          refine HandSPX.lands_againZ fl3 fun h4 fl4 up4 => ?_
          have J4 : Inv X pins σ' H' { s' with heap := h4 } := J.landed nb fl4.1 ((up.trans up3).trans up4) os ag
          obtain ⟨oe4, vs4, he4, hz4, hd4⟩ := fl4.there
          refine store_ok (X := X.suite a ((a, oe4) :: (X.pn ++ pins))) (v := .ref a) (J4.suite he4 hd4 na nL nF) hN hi (.inl hln) rfl (fun s5 S5 => ?_) (.inr hln)
          refine wpAny_mono ((hsu a oe4 cls d (X.pn ++ pins) hz4 ⟨_, hd4⟩).run [] s5 _ H' _ S5 (hyes rfl a na)) (fun f s6 hsp => ?_) (fun _ _ z => z.elim)
          have end_ : ∀ {σ6 : St} {H6 : Hp} {Q : Shared → Prop}, Inv (X.suite a ((a, oe4) :: (X.pn ++ pins))) [] σ6 H6 s6 → (∀ s7, Inv X pins (σ6.set i none) H6 s7 → Q s7) →
              wpAny (model X.prog X.w) X.A (do bindName X.env n .none; unbindBehindTheSuite X.env n p) (fun _ s7 => Q s7) X.xe s6 := fun S6 hq => gone_ok (S6.unsuite ok) hN hi hln hq
          cases f with
          | next =>
            obtain ⟨_, _, S6, q6⟩ := hsp
            exact end_ S6 fun _ J7 => ⟨_, _, J7, q6⟩
          | brk =>
            obtain ⟨_, _, S6, q6⟩ := hsp
            exact end_ S6 fun _ J7 => ⟨_, _, J7, q6⟩
          | cont =>
            obtain ⟨_, _, S6, q6⟩ := hsp
            exact end_ S6 fun _ J7 => ⟨_, _, J7, q6⟩
          | ret u =>
            obtain ⟨_, _, _, S6, r6, q6⟩ := hsp
            exact end_ S6 fun _ J7 => ⟨_, _, _, J7, r6, q6⟩
    exact each hh w
  · cases f with
    | next =>
      obtain ⟨_, _, J', q⟩ := hsp
      exact wpAny_execs_nil ⟨_, _, J'.ofTry ok, q⟩
    | brk =>
      obtain ⟨_, _, J', q⟩ := hsp
      exact ⟨_, _, J'.ofTry ok, q⟩
    | cont =>
      obtain ⟨_, _, J', q⟩ := hsp
      exact ⟨_, _, J'.ofTry ok, q⟩
    | ret u =>
      obtain ⟨_, _, _, J', r, q⟩ := hsp
      exact ⟨_, _, _, J'.ofTry ok, r, q⟩
end L2N
/-! own classes: making, fields, constants -/
namespace Cl
open PySem PySem.Spec PyProof.Rows L2
theorem cxUpN {P : Program} {w : World} : StX.CXUp (L2N.CX P w) := by
  rintro outer s H s2 H2 E e s' un kp ho ⟨a, B, H', cls, d, ea, fl, hok, ub, na, os, ag, he⟩
  refine ⟨a, B, H', cls, d, ea, fl, hok, ?_, na, os.trans ho, ag, he⟩
  exact { keep := fun b o q n hb => ub.keep b o (kp b o q) (un.free b o q n (by simp)) hb
          slot := fun b o q hb => ub.slot b o (kp b o q) hb
          free := fun b o q n => ub.free b o (kp b o q) (un.free b o q n (by simp))
          there := fun b o q hb => ub.there b o (kp b o q) hb
          tups := fun b xs q => ub.tups b xs (un.tups b xs q)
          frzs := fun b o xs q => ub.frzs b o xs (un.frzs b o xs q)
          tbls := fun b ps q => by
            obtain ⟨m1, e1⟩ := un.tbls b ps q
            obtain ⟨m2, e2⟩ := ub.tbls b _ e1
            exact ⟨m1 ++ m2, by rw [e2, Array.append_assoc]⟩ }
theorem passNA {X : Cx} (σ : L2.St) : PassesAt (L2N.CX X.prog X.w) X σ E0 := fun _ _ _ _ _ _ h => by
  obtain ⟨_, _, _, _, _, _, _, _, _, _, _, _, z⟩ := h
  exact z.elim
section
variable {X : Cx} {CX : CXT} {k : Nat} {f C : Addr} {sp : Sp} {E : L2.St → XK} {x : Str} {e : Expr} {es : List Expr} {t : TA} {p pos : Pos}
/-- C(..): a new instance and its dict, then __init__ by its positional promise -/
def tMakeS (C : Addr) (sp : Sp) (E : L2.St → XK) (t : TA) : TE := fun σ H Q => t σ H fun vs H1 => ∀ x dx, H1 x = none → H1 dx = none → dx ≠ x →
  sp (V.ref x :: vs) (upd (upd H1 dx (.own x)) x (.ins C dx [])) (fun v H2 => v = .non ∧ Q (.ref x) H2) (E σ)
theorem run_makeS {pins : List (Addr × Obj)} {σ : L2.St} {H : Hp} {s : Shared} {Q : VK} {us : List Value} {vs : List V} (M : Mk X.K C f) (F : FnR X.prog X.w X.K X.mg X.base CX k f sp) (hr : Room (k + 1) X.A) (hx : PassesAt CX X σ (E σ)) (I : Inv X pins σ H s) (r : Vals vs us)
    (h : ∀ x dx, H x = none → H dx = none → dx ≠ x → sp (V.ref x :: vs) (upd (upd H dx (.own x)) x (.ins C dx [])) (fun v H2 => v = .non ∧ Q (.ref x) H2) (E σ)) :
    wpAny (model X.prog X.w) X.A (call (.ref C) us) (EP X pins σ Q) X.xe s := by
  have hq := h (s.heap.objs.size + 1) s.heap.objs.size (I.hok.fresh (Nat.le_succ _)) (I.hok.fresh (Nat.le_refl _)) (Nat.ne_of_lt (Nat.lt_succ_self _))
  have I2 := Inv.made (C := C) I
  refine wpAny_call (make_map (f := f) I.kIn M.makes M.init (beq_iff_eq.mp M.fn) (codeAny_mono (F _ X.stack _ _ (Value.ref (s.heap.objs.size + 1) :: us) _ _ (E σ) (hr.make C us []) (I2.env0.make C us []) (show Vals (V.ref (s.heap.objs.size + 1) :: vs) (Value.ref (s.heap.objs.size + 1) :: us) from .cons rfl r) hq) fun r s' hq' => ?_))
  cases r with
  | error e => exact hx pins _ _ e s' I2 hq'
  | ok fl =>
    cases fl with
    | ret u =>
      obtain ⟨v, H', I3, rv, ev, q3⟩ := I2.after hq'
      subst ev
      exact ⟨rv, V.ref (s.heap.objs.size + 1), H', I3, rfl, q3⟩
    | _ => exact hq'.elim
theorem pe_makeS (M : Mk X.K C f) (F : FnR X.prog X.w X.K X.mg X.base CX k f sp) (hr : Room (k + 1) X.A) (hg : Gl X x) (hm : X.mg x = some (.ref C)) (hx : ∀ σ, PassesAt CX X σ (E σ)) (ha : PA X (e :: es) t) (hdb : (x == ("__debug__" : Str)) = false := by decide)
    (he : starEach (e :: es) X.env = (false, eval e X.env) :: starEach es X.env := by rfl) (hpl : (backTo pos (starEach es X.env)).any (·.1) = false := by rfl) : PE X (.Call (.Name x p) (e :: es) [] pos) (tMakeS C sp E t) := by
  refine ⟨fun pins s σ H Q I h => wpAny_Call_Name_kw (ld_glob I hg hm ?_ hdb)⟩
  exact PySem.W.callWith_K (h₀ := X.base) I.ok.mod.kin M.kp (thn (ha.run pos pins s σ H _ I h) fun us s1 ⟨vs, H1, I1, r, q⟩ => ⟨I1.kIn, run_makeS M F hr (hx σ) I1 r q⟩) he hpl
theorem pe_makeS0 (M : Mk X.K C f) (F : FnR X.prog X.w X.K X.mg X.base CX k f sp) (hr : Room (k + 1) X.A) (hg : Gl X x) (hm : X.mg x = some (.ref C)) (hx : ∀ σ, PassesAt CX X σ (E σ)) (hdb : (x == ("__debug__" : Str)) = false := by decide) :
    PE X (.Call (.Name x p) [] [] pos) (tMakeS C sp E tNil) :=
  ⟨fun pins s σ H Q I h => wpAny_Call_Name_kw (ld_glob I hg hm (PySem.W.callWith_K0 I.kIn M.kp (run_makeS (us := []) M F hr (hx σ) I .nil h)) hdb)⟩
/-- C(*e) -/
theorem pe_makeSS {te : TE} {sp_ : Pos} (M : Mk X.K C f) (F : FnR X.prog X.w X.K X.mg X.base CX k f sp) (hr : Room (k + 1) X.A) (hg : Gl X x) (hm : X.mg x = some (.ref C)) (hx : ∀ σ, PassesAt CX X σ (E σ)) (he : PE X e te) (hdb : (x == ("__debug__" : Str)) = false := by decide)
    (hst : starEach [.Starred e sp_] X.env = [(true, eval e X.env)] := by rfl) : PE X (.Call (.Name x p) [.Starred e sp_] [] pos) (tMakeS C sp E (StX.tStar X.K te tNil)) := by
  refine ⟨fun pins s σ H Q I h => wpAny_Call_Name_kw (ld_glob I hg hm ?_ hdb)⟩
  refine PySem.W.callWith_S (h₀ := X.base) I.ok.mod.kin M.kp (thn (he.run pins s σ H _ I h) fun v s1 ⟨y, H1, I1, ry, a, xs, ey, hxs, q⟩ => ?_) hst
  subst ey
  obtain rfl : v = Value.ref a := ry
  refine StX.star_any I1 hxs fun us s2 I2 rv => ⟨I2.kIn, ?_⟩
  have q : ∀ x dx, H1 x = none → H1 dx = none → dx ≠ x → sp (V.ref x :: (xs ++ [])) (upd (upd H1 dx (.own x)) x (.ins C dx [])) (fun v H2 => v = .non ∧ Q (.ref x) H2) (E σ) := q
  rw [List.append_nil] at q
  exact run_makeS M F hr (hx σ) I2 rv q
end
theorem toR {P : Program} {w : World} {K : PySem.W.Frag} {mg : Str → Option Value} {base : Heap} {CX : CXT} {k : Nat} {f : Addr} {fd : FuncData} {ps : List Str} {sp : Sp} (F : FnOk P w K mg base CX k f fd ps sp) (hb : Binds K fd ps []) : FnR P w K mg base CX k f sp := by
  intro A outer s H us vs Q E hr e0 r h
  have hl : (us ++ []).length = ps.length := by rw [List.append_nil, ← r.length]; exact F.len _ _ _ _ h
  have z := hb s us (e0.mod.kin.keeps fun b o e => (e0.bs b o e).1) hl
  rw [List.append_nil] at z
  exact F.run A outer s H ⟨us, []⟩ us vs Q E hr e0 z r h
/-! attributes by the class of the object -/
abbrev Alt := Addr → List (Str × V) → L2.St → Hp → VK → Prop
def AltOk (X : Cx) (f : Str) (C : Addr) (r : Alt) : Prop := ∀ (pins : List (Addr × Obj)) (s : Shared) (σ : L2.St) (H : Hp) (a dx : Addr) (fs : List (Str × V)) (Q : VK), Inv X pins σ H s → H a = some (.ins C dx fs) → r a fs σ H Q →
  wpAny (model X.prog X.w) X.A (getAttr (.ref a) f true) (EP X pins σ Q) X.xe s
/-- e.f, by the alternatives of its object's class -/
def tAtt (l : List (Addr × Alt)) (te : TE) : TE := fun σ H Q => te σ H fun x H1 => ∃ (a dx : Addr) (fs : List (Str × V)) (i : Nat) (C : Addr) (r : Alt), x = .ref a ∧ l[i]? = some (C, r) ∧ H1 a = some (.ins C dx fs) ∧ r a fs σ H1 Q
def aFld (f : Str) : Alt := fun _ fs _ H Q => ∃ v, fs.lookup f = some v ∧ Q v H
def aCon (f : Str) (v : V) : Alt := fun _ fs _ H Q => fs.lookup f = none ∧ Q v H
def aProp (sp : Sp) : Alt := fun a _ _ H Q => sp [.ref a] H Q E0
section
variable {X : Cx} {f : Str} {C : Addr} {e : Expr} {te : TE} {pos : Pos}
theorem alt_fld (c : Cls X.K C) (n : NoAttr X.K C f) : AltOk X f C (aFld f) := fun pins s σ H a dx fs Q I ha ⟨v, l, q⟩ => getattr_ok I ha c n l fun u s' I' r => ⟨v, H, I', r, q⟩
theorem alt_con {v : V} {u : Value} (c : Cls X.K C) (n : Con X.K C f v u) : AltOk X f C (aCon f v) := fun pins s σ H a dx fs Q I ha ⟨l, q⟩ => getcon_ok I ha c n l fun s' I' => ⟨v, H, I', n.rel, q⟩
theorem alt_prop {CX : CXT} {k : Nat} {p g : Addr} {fd : FuncData} {ps : List Str} {sp : Sp} (c : Cls X.K C) (hp : PropOf X.K C f p g) (F : FnOk X.prog X.w X.K X.mg X.base CX k g fd ps sp) (hr : Room (k + 1) X.A) (hb : Binds X.K fd ps []) (hx : Passes CX X.nox E0) : AltOk X f C (aProp sp) :=
  fun pins s σ H a dx fs Q I ha q => getprop_ok I ha c hp F hr hb .nil hx q
inductive Alts (X : Cx) (f : Str) : List (Addr × Alt) → Prop
  | nil : Alts X f []
  | cons {C : Addr} {r : Alt} {l : List (Addr × Alt)} : AltOk X f C r → Alts X f l → Alts X f ((C, r) :: l)
theorem Alts.at {l : List (Addr × Alt)} (h : Alts X f l) : ∀ {i : Nat} {r : Alt}, l[i]? = some (C, r) → AltOk X f C r := by
  induction h with
  | nil => intro i r e; cases e
  | cons h _ ih =>
    intro i r e
    cases i with
    | zero => cases e; exact h
    | succ i => exact ih (by simpa using e)
theorem pe_att {l : List (Addr × Alt)} (h : Alts X f l) (he : PE X e te) (hb : attributeBase e f X.env (eval e X.env) = eval e X.env := by rfl) : PE X (.Attribute e f pos) (tAtt l te) := by
  refine ⟨fun pins s σ H Q I q => attr_of hb (thn (he.run pins s σ H _ I q) fun u s1 ⟨x, H1, I1, rx, a, dx, fs, i, C, r, ex, hl, ha, q1⟩ => ?_)⟩
  subst ex
  obtain rfl : u = Value.ref a := rx
  exact h.at hl pins s1 σ H1 a dx fs Q I1 ha q1
/-- e.f = v, by the class -/
def sAtt (l : List Addr) (ta tv : TE) (f : Str) : TS := fun D σ H => tv σ H fun y H1 => ta σ H1 fun x H2 => ∃ a C dx fs, x = .ref a ∧ C ∈ l ∧ H2 a = some (.ins C dx fs) ∧ fs.length < 1000 ∧ D.nx σ (upd H2 a (.ins C dx (putF f y fs)))
theorem ps_att {l : List Addr} {o value : Expr} {ta tv : TE} {pos' : Pos} (h : ∀ C ∈ l, Cls X.K C ∧ NoAttr X.K C f) (ha : PE X o ta) (hv : PE X value tv) (hs : swapsWith value (some (.Attribute o f pos')) pos.line X.env = pure false := by rfl) : PS X (.Assign [.Attribute o f pos'] value pos) (sAtt l ta tv f) := by
  refine ⟨fun pins s σ H D I q => plainObj_wpAny_Assign_Attribute (thn (hv.run pins s σ H _ I q) fun u s1 ⟨y, H1, I1, ry, q1⟩ => thn (ha.run pins s1 σ H1 _ I1 q1) fun ov s2 ⟨x, H2, I2, rx, a, C, dx, fs, ex, hC, ea, l1, q2⟩ => ?_) hs⟩
  subst ex
  obtain rfl : ov = Value.ref a := rx
  exact setattr_ok I2 ea (h C hC).1 (h C hC).2 l1 ry fun s3 I3 => ⟨σ, _, I3, q2⟩
/-- C.f, a constant read of the class itself -/
def tCls (v : V) : TE := fun _ H Q => Q v H
theorem pe_cls {mc : Value} {v : V} {u : Value} {x : Str} {p : Pos} (r : ClX.CRead X.K C mc) (k : ClX.CVal X.K C mc f v u) (hg : Gl X x) (hm : X.mg x = some (.ref C)) (hd : (x == ("__debug__" : Str)) = false := by decide) (hb : attributeBase (.Name x p) f X.env (eval (.Name x p) X.env) = eval (.Name x p) X.env := by rfl) : PE X (.Attribute (.Name x p) f pos) (tCls v) :=
  ⟨fun pins s σ H Q I q => attr_of hb (ld_glob I hg hm (ClX.getcval_ok I r k fun s2 I2 => ⟨v, H, I2, k.rel, q⟩) hd)⟩
end
end Cl
namespace L2
open PySem PySem.Spec PyProof.Rows
/-- isinstance(e, (c1, c2)), e the exception that the suite holds -/
def rIsET (K : PySem.W.Frag) (a : Addr) (cls : Value) (d : Option Addr) : List V → Hp → VK → Prop := fun xs H Q => ∃ (D tp : Addr) (cs : List V) (ws : List Value) (b : Bool), cls = .ref D ∧ ExcC K D ∧ (d = none ∨ ∃ dd fs, d = some dd ∧ H dd = some (.xd fs)) ∧ xs = [.ref a, .ref tp] ∧ H tp = some (.tup cs) ∧ Paired ClsV cs ws ∧ PySem.W.kitAny K (.ref D) ws = some b ∧ Q (.bl b) H
theorem call_isET {X : Cx} {a : Addr} {cls : Value} {d : Option Addr} {oe : Obj} {pn : List (Addr × Obj)} (hz : Zc cls d oe) (hf : ∃ vs, oe.data = .fields vs) : CallR (X.suite a ((a, oe) :: pn)) (.builtin "isinstance") (rIsET X.K a cls d) := by
  intro pins s σ H xs us Q I r h
  obtain ⟨D, tp, cs, ws, b, rfl, C, hd, rfl, hT, k, e, q⟩ := h
  cases r with
  | cons rx rr =>
    cases rr with
    | cons rt rr =>
      cases rr
      cases rx
      rename_i u2
      obtain rfl : u2 = Value.ref tp := rt
      obtain ⟨hget, _⟩ := I.pin (a, oe) (List.mem_append.mpr (.inl List.mem_cons_self))
      obtain ⟨vs, hv⟩ := hf
      have hcl : (PySem.W.clsIn X.K D).isSome = true := by
        obtain ⟨cd, hc, _⟩ := PySem.W.any_some C.hd
        rw [hc]; rfl
      obtain ⟨_, its, rv, o, h1, h2, n, h3⟩ := (show ObjOk X.prog X.w H s.heap tp (.tup cs) from I.hok tp _ hT)
      have e3 := ClsV.all k rv
      subst e3
      obtain ⟨oc0, od0, dt0, sl0⟩ := o
      simp only at h2 h3
      subst h2 h3
      have J : ∃ od, PySem.W.InstAt s.heap a oe D od := by
        obtain ⟨oc, od, oda, osl⟩ := oe
        obtain ⟨h1, h2⟩ := hz
        dsimp only at h1 h2 hv
        subst h1 h2 hv
        rcases hd with rfl | ⟨dd, fs, rfl, hx⟩
        · exact ⟨none, hget, rfl, rfl, trivial⟩
        · have hx2 : ObjOk X.prog X.w H s.heap dd (.xd fs) := I.hok dd _ hx
          obtain ⟨mA, hns, hr⟩ := hx2
          obtain ⟨od, ho, hl⟩ := lookIn_ns hns
          exact ⟨some od, hget, rfl, rfl, ho⟩
      obtain ⟨od, J⟩ := J
      exact PySem.W.kia_tup (PySem.W.kitx_exc hcl C.hg C.hk C.hs C.ha C.hn C.ht C.hm) I.kIn J h1 e (fun z => nomatch z) fun tk => ⟨.bl b, H, I.kept (t' := tk) fun _ _ z => z, rfl, q⟩
end L2
/-! the head's facts of classes -/
namespace Hk
open PySem PySem.W PySem.Spec PyProof.Rows L2 He
def intB (i : Int) : Option (Option Value) → Bool
  | some (some (.int j _)) => decide (j = i)
  | _ => false
def conB (K : Frag) (C : Addr) (f : PySem.Str) (i : Int) : Bool := match findIn K (.ref C) f with
  | some (some (.int j t)) => decide (j = i) && eqO (specialIn K (.int j t) "__get__") (some none)
  | _ => false
theorem conB_ok {K : Frag} {C : Addr} {f : PySem.Str} {i : Int} (h : conB K C f i = true) (cp : copiedNames.contains f = false) : ∃ u, Con K C f (.int i) u := by
  unfold conB at h
  split at h
  · rename_i j t e
    obtain ⟨h1, h2⟩ := ba h
    have e1 := of_decide_eq_true h1
    subst e1
    exact ⟨_, e, ⟨t, rfl⟩, eqO_ok h2, cp⟩
  · cases h
def cvalB (K : Frag) (C : Addr) (f : PySem.Str) (i : Int) : Bool := readsIn K C (.type "type") && (eqO (specialIn K (.ref C) "__getattribute__") (some (some (.builtin "type.__getattribute__"))) && (match findCls K (.ref C) (.type "type") f with
  | some (.val (.int j _)) => decide (j = i)
  | _ => false))
theorem cvalB_ok {K : Frag} {C : Addr} {f : PySem.Str} {i : Int} (h : cvalB K C f i = true) : ClX.CRead K C (.type "type") ∧ ∃ u, ClX.CVal K C (.type "type") f (.int i) u := by
  unfold cvalB at h
  obtain ⟨h1, h⟩ := ba h
  obtain ⟨h2, h3⟩ := ba h
  refine ⟨⟨h1, eqO_ok h2⟩, ?_⟩
  split at h3
  · rename_i j t e
    have e1 := of_decide_eq_true h3
    subst e1
    exact ⟨_, e, ⟨t, rfl⟩⟩
  · cases h3
/-- what isinstance asks of a class of instances -/
structure InsK (K : Frag) (C : Addr) : Prop where
  cl : Cls K C
  ha : findIn K (.ref C) "__class__" = some (some (.builtin "object.__class__"))
  hn : specialIn K (.builtin "object.__class__") "__get__" = some (some (.builtin "getset_descriptor.__get__"))
  ht : takesIn K (.builtin "object.__class__") = some true
  hm : mroIn K C (.type "object") = some true
theorem InsK.ty {K : Frag} {C a dx : Addr} {fs : List (PySem.Str × V)} {H : Hp} (k : InsK K C) (h : H a = some (.ins C dx fs)) : TyX K H (.ref a) (.ref C) := .base (.ins h k.cl k.ha k.hn k.ht k.hm)
def insKB (K : Frag) (C : Addr) : Bool := eqO (findIn K (.ref C) "__class__") (some (some (.builtin "object.__class__"))) && (eqO (specialIn K (.builtin "object.__class__") "__get__") (some (some (.builtin "getset_descriptor.__get__"))) && (decide (takesIn K (.builtin "object.__class__") = some true) && decide (mroIn K C (.type "object") = some true)))
theorem insKB_ok {K : Frag} {C : Addr} (c : Cls K C) (h : insKB K C = true) : InsK K C := by
  unfold insKB at h
  obtain ⟨h1, h⟩ := ba h
  obtain ⟨h2, h⟩ := ba h
  obtain ⟨h3, h4⟩ := ba h
  exact ⟨c, eqO_ok h1, eqO_ok h2, of_decide_eq_true h3, of_decide_eq_true h4⟩
/-- a def with *v: its positional promise -/
theorem okStar {P : Program} {w : World} {K : Frag} {mg : PySem.Str → Option Value} {base : Heap} {x qual pv : PySem.Str} {params : Arguments} {body : List Stmt} {scope : Scope} {kws : List (PySem.Str × V)} {f : Addr} {fd : FuncData} {N ps : List PySem.Str} {k : Nat} {sp : Sp} (F : FunD K x qual params body scope [] kws f fd) (S : FnScope N (ps ++ [pv]) scope)
    (hb : ∀ (kV doc pm : Value) (an : Option Addr) (cdv ct : Value) (us rest : List Value), us.length = ps.length → bindArgs (fnOf x qual params body scope .none kV doc pm an cdv ct) ⟨us ++ rest, []⟩ = (newTuple rest >>= fun t => pure (ps.zip us ++ [(pv, t)])))
    (hbody : ∀ (cdv : Value) (A : Around) (outer : List Env) (s : Shared) (H : Hp) (vs : List V) (Q : VK) (E : XK), Room k (A.deeper (envOfC qual scope s.heap.objs.size f cdv)) → sp vs H Q E →
      ∃ t, PSs (cxOf (L2N.CX P w) P w K mg base N qual scope f cdv A outer s H E) body t ∧ t { nx := fun _ H' => Q .non H', rt := Q } (start N vs) H) :
    FnR P w K mg base (L2N.CX P w) (k + 1) f (fun vs H Q E => ∃ ws rest, vs = ws ++ rest ∧ ws.length = ps.length ∧ rest.length ≤ sizeLine ∧ ∀ p, H p = none → sp (ws ++ [V.ref p]) (upd H p (.tup rest)) Q E) := by
  obtain ⟨oc, od, dV, kV, doc, pm, an, cdv, ct, osl, rfl, lk, hcd, hD, _⟩ := F.ex
  rcases hD with ⟨_, rfl⟩ | ⟨e, _⟩
  rotate_left
  · exact absurd rfl e
  exact StX.fn_star lk hcd S Cl.cxUpN (hb _ _ _ _ _ _) fun A outer s H vs Q E hr h => hbody cdv A outer s H vs Q E hr h
end Hk
/-! lists' methods, sorted, dicts with text keys, comprehensions with if; classes: steps -/
namespace Px
open PySem PySem.Spec PyProof.Rows L2
section
variable {K : PySem.W.Frag} {σ : L2.St} {H H1 : Hp} {D : Ends} {Q : VK} {t : TA} {te to ta tv : TE} {v x y : V} {p : Addr} {xs : List V}
theorem s_bm {T : String} {r : V → List V → Hp → VK → Prop} (h : to σ H fun x H1 => tyV K T x H1 ∧ t σ H1 fun xs H2 => r x xs H2 Q) : tBM K T r to t σ H Q := h
theorem s_tyL {r : V → List V → Hp → VK → Prop} (hp : H p = some (.lst xs)) (h : t σ H fun xs H2 => r (.ref p) xs H2 Q) : tyV K "list" (.ref p) H ∧ t σ H fun xs H2 => r (.ref p) xs H2 Q := ⟨.inl ⟨rfl, _, SqL.of hp⟩, h⟩
theorem s_app (hp : H p = some (.lst xs)) (hl : xs.length ≤ 1000000) (h : Q .non (upd H p (.lst (xs ++ [y])))) : rAppend (.ref p) [y] H Q := ⟨p, xs, y, rfl, rfl, hp, by rw [sizeLine_eq]; omega, h⟩
theorem s_sort {ss : List Str} (hp : H p = some (.lst (ss.map V.str))) (hl : ss.length < 64) (h : ∀ ys q, ys.Perm ss → sortedS ys = true → H q = none → Q (.ref q) (upd H q (.lst (ys.map V.str)))) : rSortedS K [.ref p] H Q := ⟨p, ss, rfl, SqL.of hp, hl, h⟩
theorem s_inL {neg : Bool} (hp : H p = some (.lst xs)) (fx : flatV x = true) (fs : xs.all flatV = true) (h : Q (.bl (tgtIn neg (inV x xs))) H) : rInP K neg x (.ref p) H Q := .inl ⟨p, xs, rfl, .inl (SqL.of hp), fx, fs, h⟩
theorem s_inT {neg : Bool} (hp : H p = some (.tup xs)) (fx : flatV x = true) (fs : xs.all flatV = true) (h : Q (.bl (tgtIn neg (inV x xs))) H) : rInP K neg x (.ref p) H Q := .inl ⟨p, xs, rfl, .inr (SqT.of hp), fx, fs, h⟩
theorem flat_strs (ss : List Str) : (ss.map V.str).all flatV = true := by rw [List.all_map]; exact List.all_eq_true.mpr fun _ _ => rfl
theorem flat_ints (ss : List Int) : (ss.map V.int).all flatV = true := by rw [List.all_map]; exact List.all_eq_true.mpr fun _ _ => rfl
theorem inV_strs (z : Str) (ss : List Str) : inV (.str z) (ss.map V.str) = decide (z ∈ ss) := by
  unfold inV
  rw [List.any_map, Bool.eq_iff_iff, List.any_eq_true, decide_eq_true_iff]
  constructor
  · rintro ⟨y, hy, e⟩
    have e2 : (y == z) = true := e
    rw [← eq_of_beq e2]
    exact hy
  · intro h
    exact ⟨z, h, show (z == z) = true from beq_self_eq_true z⟩
theorem inV_ints (z : Int) (ss : List Int) : inV (.int z) (ss.map V.int) = decide (z ∈ ss) := by
  unfold inV
  rw [List.any_map, Bool.eq_iff_iff, List.any_eq_true, decide_eq_true_iff]
  constructor
  · rintro ⟨y, hy, e⟩
    have e2 : (y == z) = true := e
    rw [← eq_of_beq e2]
    exact hy
  · intro h
    exact ⟨z, h, show (z == z) = true from beq_self_eq_true z⟩
theorem s_inSL {neg : Bool} {z : Str} {ss : List Str} (hp : H p = some (.lst (ss.map V.str))) (h : Q (.bl (tgtIn neg (decide (z ∈ ss)))) H) : rInP K neg (.str z) (.ref p) H Q :=
  s_inL hp rfl (flat_strs ss) (by rw [inV_strs]; exact h)
theorem s_inST {neg : Bool} {z : Str} {ss : List Str} (hp : H p = some (.tup (ss.map V.str))) (h : Q (.bl (tgtIn neg (decide (z ∈ ss)))) H) : rInP K neg (.str z) (.ref p) H Q :=
  s_inT hp rfl (flat_strs ss) (by rw [inV_strs]; exact h)
/-! dicts that keep True for texts -/
def ksD (ks : List Str) : HO := .dK (ks.map fun k => (Sum.inr k, V.bl true))
theorem s_dnew (h : ∀ p, H p = none → Q (.ref p) (upd H p (ksD []))) : tDNewK σ H Q := h
theorem val_ks (z : Str) (ks : List Str) : (valV (ks.map fun k => ((Sum.inr k : Key), V.bl true)) (Sum.inr z)).isSome = decide (z ∈ ks) := by
  rw [← valV_any, List.any_map, Bool.eq_iff_iff, List.any_eq_true, decide_eq_true_iff]
  constructor
  · rintro ⟨y, hy, e⟩
    have e2 : (Sum.inr y : Key) = Sum.inr z := of_decide_eq_true e
    cases e2
    exact hy
  · intro h
    exact ⟨z, h, decide_eq_true rfl⟩
theorem s_inD {neg : Bool} {z : Str} {ks : List Str} (hp : H p = some (ksD ks)) (h : Q (.bl (tgtIn neg (decide (z ∈ ks)))) H) : rInP K neg (.str z) (.ref p) H Q :=
  .inr ⟨_, DGet.k (k := Sum.inr z) hp, by rw [val_ks]; exact h⟩
theorem put_ks (z : Str) (ks : List Str) : putK (ks.map fun k => ((Sum.inr k : Key), V.bl true)) (Sum.inr z) (.bl true) = (if z ∈ ks then ks else ks ++ [z]).map fun k => ((Sum.inr k : Key), V.bl true) := by
  unfold putK
  rw [valV_any, val_ks]
  by_cases h : z ∈ ks
  · rw [if_pos (decide_eq_true h), if_pos h, List.map_map]
    apply List.map_congr_left
    intro k _
    show (if (Sum.inr k : Key) = Sum.inr z then _ else _) = _
    split <;> rfl
  · rw [if_neg (by rw [decide_eq_false h]; exact Bool.false_ne_true), if_neg h, List.map_append]
    rfl
theorem s_putD {z : Str} {ks : List Str} {QH : Hp → Prop} (hp : H p = some (ksD ks)) (hl : ks.length ≤ 1000000) (h : QH (upd H p (ksD (if z ∈ ks then ks else ks ++ [z])))) : rSetP (.ref p) (.str z) (.bl true) H QH := by
  refine .inr ⟨_, DPut.k (k := Sum.inr z) hp (by rw [List.length_map, sizeLine_eq]; omega), ?_⟩
  rw [put_ks]
  exact h
theorem upd_back {d : Addr} {u w : HO} (h : H d = some u) : upd (upd H d w) d u = H := by
  rw [upd_upd]
  funext b
  by_cases e : b = d
  · subst e; rw [upd_same, h]
  · rw [upd_ne e]
/-- [e for x in a dict of texts] -/
theorem lc_keys {i v : Nat} {te : TE} {d : Addr} {ks : List Str} (f : Str → V) (hv : σ[i]? = some (some (.ref d))) (hd : H d = some (ksD ks)) (hl : ks.length ≤ 1000000)
    (hf : ∀ z ∈ ks, ∀ H' od, H' d = some (.frz od (ksD ks)) → (∀ b o, H b = some o → b ≠ d → H' b = some o) → ∀ Q' : VK, (∀ H'', Same H' H'' → Q' (f z) H'') → te (σ.set v (some (.str z))) H' Q')
    (hq : ∀ D H', H D = none → Same H H' → H' D = some (.lst (ks.map f)) → Q (.ref D) H') : tLockE (tLc (iKeys (tVar i)) (gName v) tYes te [v]) σ H Q := by
  refine ⟨d, ksD ks, hd, trivial, fun od => ?_⟩
  refine ⟨_, hv, d, od, rfl, .inl ⟨_, upd_same, ?_⟩⟩
  have hy : ∀ j H', Same (upd H d (.frz od (ksD ks))) H' → YieldsAt (Itk d od (ks.map fun k => ((Sum.inr k : Key), V.bl true))) (ks.map V.str) j H' := by
    intro j H' sm
    have hd' := sm _ _ (upd_same (H := H) (a := d) (o := HO.frz od (ksD ks)))
    refine ⟨fun hj => ⟨⟨hd', by simpa using hj⟩, fun x H'' y => ?_⟩, fun hj => ⟨hd', by simpa using hj⟩⟩
    obtain ⟨e, k, w, hk, rfl⟩ := y
    refine ⟨e, ?_⟩
    rw [List.getElem?_map] at hk ⊢
    cases e2 : ks[j]? with
    | none => rw [e2] at hk; cases hk
    | some z =>
      rw [e2] at hk
      have hk2 : ((Sum.inr z : Key), V.bl true) = (k, w) := Option.some.inj hk
      cases hk2
      rfl
  have old : ∀ b o, H b = some o → b ≠ d → (upd H d (.frz od (ksD ks))) b = some o := fun b o e n => by rw [upd_ne n]; exact e
  show LcB (Itk d od (ks.map fun k => ((Sum.inr k : Key), V.bl true))) (gName v) tYes te [v] σ (fun v H' => H' d = some (.frz od (ksD ks)) ∧ Q v (upd H' d (ksD ks))) (upd H d (.frz od (ksD ks)))
  refine lc_map (Q := fun v H' => H' d = some (.frz od (ksD ks)) ∧ Q v (upd H' d (ksD ks))) (σ := σ) (v := v) (te := te) (f := fun x => match x with | .str z => f z | _ => .non) (by rw [List.length_map]; exact hl) hy ?_ ?_
  · intro x hx H' sm Q' hQ
    obtain ⟨z, hz, rfl⟩ := List.mem_map.mp hx
    exact hf z hz H' od (sm _ _ upd_same) (fun b o e n => sm _ _ (old b o e n)) Q' hQ
  · intro D H' hD sm hr
    have hDd : D ≠ d := fun e => by rw [e, upd_same] at hD; cases hD
    rw [upd_ne hDd] at hD
    refine ⟨sm _ _ upd_same, hq D _ hD (fun b o e => ?_) ?_⟩
    · by_cases n : b = d
      · subst n
        rw [upd_same, ← hd, e]
      · rw [upd_ne n]
        exact sm _ _ (old b o e n)
    · rw [upd_ne hDd, hr, List.map_map]
      rfl
/-- [e for x in y if c]: the heap only grows -/
theorem lc_filt {J : L2.It} {v : Nat} {tt : TT} {te : TE} {f : V → V} {c : V → Bool} (hx : xs.length ≤ 1000000) (hy : ∀ i H, Same H1 H → YieldsAt J xs i H)
    (hc : ∀ x ∈ xs, ∀ H', Same H1 H' → ∀ Q' : Bool → Hp → Prop, (∀ H'', Same H' H'' → Q' (c x) H'') → tt (σ.set v (some x)) H' Q')
    (hf : ∀ x ∈ xs, c x = true → ∀ H', Same H1 H' → ∀ Q' : VK, (∀ H'', Same H' H'' → Q' (f x) H'') → te (σ.set v (some x)) H' Q')
    (hq : ∀ D H', H1 D = none → Same H1 H' → H' D = some (.lst ((xs.filter c).map f)) → Q (.ref D) H') : LcB J (gName v) tt te [v] σ Q H1 := by
  intro Dr hD
  refine lc_y (xs := xs) (fun i H => Same H1 H ∧ H Dr = some (.lst (((xs.take i).filter c).map f))) ⟨same_new hD, by simp [upd_same]⟩ (fun i H _ p => hy i H p.1) ?_ (fun H p => hq Dr H hD p.1 (by rw [p.2, List.take_length]))
  rintro i x H hi ⟨sm, hl⟩
  have e1 : wipe σ [v] = σ.set v none := rfl
  rw [e1]
  have e2 : (σ.set v none).set v (some x) = σ.set v (some x) := by rw [List.set_set]
  have e3 : wipe (σ.set v (some x)) [v] = σ.set v none := by show (σ.set v (some x)).set v none = _; rw [List.set_set]
  unfold gName
  rw [e2]
  refine ⟨e3, ?_⟩
  have hm := List.mem_of_getElem? hi
  refine hc x hm H sm _ fun H2 s2 => ?_
  cases hcx : c x with
  | false =>
    rw [if_neg Bool.false_ne_true]
    refine ⟨sm.trans s2, ?_⟩
    rw [s2 _ _ hl, take_more hi, List.filter_append, List.filter_cons_of_neg (by rw [hcx]; exact Bool.false_ne_true), List.filter_nil, List.append_nil]
  | true =>
    rw [if_pos rfl]
    refine hf x hm hcx H2 (sm.trans s2) _ fun H3 s3 => ?_
    refine ⟨_, s3 _ _ (s2 _ _ hl), ?_, fun b o e => ?_, ?_⟩
    · rw [List.length_map, sizeLine_eq]
      have h1 := List.length_filter_le c (xs.take i)
      rw [List.length_take] at h1
      omega
    · rw [upd_ne (ne_of_none e hD)]
      exact s3 _ _ (s2 _ _ (sm _ _ e))
    · rw [upd_same, take_more hi, List.filter_append, List.filter_cons_of_pos hcx, List.filter_nil, List.map_append]
      rfl
theorem lcb_filt {v : Nat} {tt : TT} {te : TE} {x : V} (f : V → V) (c : V → Bool) (hx : Items K H1 x xs) (hl : xs.length ≤ 1000000)
    (hc : ∀ x ∈ xs, ∀ H', Same H1 H' → ∀ Q' : Bool → Hp → Prop, (∀ H'', Same H' H'' → Q' (c x) H'') → tt (σ.set v (some x)) H' Q')
    (hf : ∀ x ∈ xs, c x = true → ∀ H', Same H1 H' → ∀ Q' : VK, (∀ H'', Same H' H'' → Q' (f x) H'') → te (σ.set v (some x)) H' Q')
    (hq : ∀ D H', H1 D = none → Same H1 H' → H' D = some (.lst ((xs.filter c).map f)) → Q (.ref D) H') : LcBody K (gName v) tt te [v] σ Q x H1 :=
  lcb_items hx fun _ hy => lc_filt hl hy hc hf hq
theorem s_tupL (hp : H p = some (.lst xs)) (h : ∀ l, H l = none → Q (.ref l) (upd H l (.tup xs))) : rTupleP K [.ref p] H Q := ⟨p, xs, rfl, .inl ⟨SqL.of hp, h⟩⟩
theorem s_tupT (hp : H p = some (.tup xs)) (h : Q (.ref p) H) : rTupleP K [.ref p] H Q := ⟨p, xs, rfl, .inr ⟨SqT.of hp, h⟩⟩
theorem s_listT (hp : H p = some (.tup xs)) (h : ∀ l, H l = none → Q (.ref l) (upd H l (.lst xs))) : rListP K [.ref p] H Q := ⟨p, xs, rfl, .inr (SqT.of hp), h⟩
theorem s_listS (hp : H p = some (.lst xs)) (h : ∀ l, H l = none → Q (.ref l) (upd H l (.lst xs))) : rListP K [.ref p] H Q := ⟨p, xs, rfl, .inl (SqL.of hp), h⟩
theorem s_strS {z : Str} (h : Q (.str z) H) : rStrP [.str z] H Q := h
theorem s_strI {i : Int} (hl : i.natAbs.log2 < 1920) (h : Q (.str (toString i)) H) : rStrP [.int i] H Q := ⟨hl, h⟩
/-! classes -/
theorem s_make {C : Addr} {sp : Sp} {E : L2.St → XK} (h : t σ H fun vs H1 => ∀ x dx, H1 x = none → H1 dx = none → dx ≠ x → sp (V.ref x :: vs) (upd (upd H1 dx (.own x)) x (.ins C dx [])) (fun v H2 => v = .non ∧ Q (.ref x) H2) (E σ)) : Cl.tMakeS C sp E t σ H Q := h
theorem s_cls {v : V} (h : Q v H) : Cl.tCls v σ H Q := h
theorem s_att {l : List (Addr × Cl.Alt)} (h : te σ H fun x H1 => ∃ (a dx : Addr) (fs : List (Str × V)) (i : Nat) (C : Addr) (r : Cl.Alt), x = .ref a ∧ l[i]? = some (C, r) ∧ H1 a = some (.ins C dx fs) ∧ r a fs σ H1 Q) : Cl.tAtt l te σ H Q := h
theorem s_setA {l : List Addr} {f : Str} (h : tv σ H fun y H1 => ta σ H1 fun x H2 => ∃ a C dx fs, x = .ref a ∧ C ∈ l ∧ H2 a = some (.ins C dx fs) ∧ fs.length < 1000 ∧ D.nx σ (upd H2 a (.ins C dx (putF f y fs)))) : Cl.sAtt l ta tv f D σ H := h
end
end Px
/-! operators of own classes -/
namespace Cl
open PySem PySem.Spec PyProof.Rows L2
abbrev R2S := L2.St → R2
def OpS (X : Cx) (f : Value → Value → Sem Value) (r : R2S) : Prop := ∀ (pins : List (Addr × Obj)) (s : Shared) (σ : L2.St) (H : Hp) (x y : V) (v u : Value) (Q : VK), Inv X pins σ H s → RelV x v → RelV y u → r σ x y H Q → wpAny (model X.prog X.w) X.A (f v u) (EP X pins σ Q) X.xe s
def tOpS (r : R2S) (ta tb : TE) : TE := fun σ H Q => ta σ H fun x H1 => tb σ H1 fun y H2 => r σ x y H2 Q
section
variable {X : Cx} {CX : CXT} {k : Nat} {f C : Addr} {sp : Sp} {E : L2.St → XK} {a b : Expr} {ta tb : TE} {pos : Pos} {r : R2S}
theorem pe_opS {op : Operator} (ho : OpS X (binaryOp op) r) (ha : PE X a ta) (hb : PE X b tb) : PE X (.BinOp a op b pos) (tOpS r ta tb) :=
  ⟨fun pins s σ H Q I h => wpAny_BinOp (binT ha hb I h fun v u s2 x y H2 I2 rx ry q => ho pins s2 σ H2 x y v u Q I2 rx ry q)⟩
theorem pe_cmpS {op : CmpOp} (ho : OpS X (compareOp op) r) (ha : PE X a ta) (hb : PE X b tb) (hm : behindInMarks op b = false) : PE X (.Compare a [op] [b] pos) (tOpS r ta tb) :=
  ⟨fun pins s σ H Q I h => wpAny_Compare1 (binT ha hb I h fun v u s2 x y H2 I2 rx ry q => ho pins s2 σ H2 x y v u Q I2 rx ry q) hm⟩
theorem pt_cmpS {op : CmpOp} (ho : OpS X (compareOp op) r) (ha : PE X a ta) (hb : PE X b tb) (hm : behindInMarks op b = false) : PT X (.Compare a [op] [b] pos) (tTest (tOpS r ta tb)) := by
  refine ⟨fun pins s σ H Q I h => wpAny_isTrue_Compare1 (thn (ha.run pins s σ H _ I h) fun v s1 ⟨x, H1, I1, r1, q1⟩ => thn (hb.run pins s1 σ H1 _ I1 q1) fun u s2 ⟨y, H2, I2, r2, q2⟩ => thn (ho pins s2 σ H2 x y v u _ I2 r1 r2 q2) fun c s3 ⟨z, H3, I3, r3, k, e, q3⟩ => ?_) hm⟩
  subst e
  cases r3
  exact wpAny_truthy_bool ⟨H3, I3, q3⟩
/-- a def is run by its positional promise, its exceptions by the slots -/
theorem run_RS {pins : List (Addr × Obj)} {σ : L2.St} {H : Hp} {s : Shared} {Q : VK} {us : List Value} {vs : List V} (F : FnR X.prog X.w X.K X.mg X.base CX k f sp) (hr : Room k X.A) (hx : PassesAt CX X σ (E σ)) (I : Inv X pins σ H s) (rv : Vals vs us) (h : sp vs H Q (E σ)) :
    wpAny (model X.prog X.w) X.A (call (.ref f) us) (EP X pins σ Q) X.xe s := by
  refine wpAny_call (codeAny_mono (F X.A X.stack s H us vs Q (E σ) hr I.env0 rv h) fun r s' hq => ?_)
  cases r with
  | error e => exact hx pins H s e s' I hq
  | ok fl =>
    cases fl with
    | ret u => exact I.after hq
    | _ => exact hq.elim
theorem run_RS1 {pins : List (Addr × Obj)} {σ : L2.St} {H : Hp} {s : Shared} {Q : VK} {us : List Value} {vs : List V} (F : FnR X.prog X.w X.K X.mg X.base CX k f sp) (hr : Room (k + 1) X.A) (hx : PassesAt CX X σ (E σ)) (I : Inv X pins σ H s) (rv : Vals vs us) (h : sp vs H Q (E σ)) :
    wpAny (model X.prog X.w) X.A.in1 (call (.ref f) us) (EP X pins σ Q) X.xe s := by
  refine wpAny_call (codeAny_mono (F X.A.in1 X.stack s H us vs Q (E σ) hr.in1 I.env0.in1 rv h) fun r s' hq => ?_)
  cases r with
  | error e => exact hx pins H s e s' I hq
  | ok fl =>
    cases fl with
    | ret u => exact I.after hq
    | _ => exact hq.elim
theorem back_of {pins : List (Addr × Obj)} {σ : L2.St} {Q : VK} {v : Value} {s' : Shared} (h : EP X pins σ Q v s') : PySem.W.CmpBack (EP X pins σ Q) v s' := by
  obtain ⟨x, H', I, rv, q⟩ := id h
  unfold PySem.W.CmpBack
  cases v <;> first
    | exact h
    | (exfalso; cases x <;> first
        | (cases rv; done)
        | (obtain ⟨_, e⟩ := rv; cases e))
/-- alternatives by the class of the left object -/
def AltB (X : Cx) (f : Value → Value → Sem Value) (C : Addr) (sp : Sp) (E : L2.St → XK) : Prop := ∀ (pins : List (Addr × Obj)) (s : Shared) (σ : L2.St) (H : Hp) (a b dx dy : Addr) (fs gs : List (Str × V)) (Q : VK), Inv X pins σ H s → H a = some (.ins C dx fs) → H b = some (.ins C dy gs) → sp [.ref a, .ref b] H Q (E σ) →
  wpAny (model X.prog X.w) X.A (f (.ref a) (.ref b)) (EP X pins σ Q) X.xe s
structure OwnOp (K : PySem.W.Frag) (C : Addr) (m : Str) (f : Addr) : Prop where
  at_ : PySem.W.findIn K (.ref C) m = some (some (.ref f))
  fn : PySem.W.isFn K (.ref f) = true
  sf : PySem.W.selfFirst K C = true
theorem alt_bin {op : Operator} {md : Str} (e : PySem.dunder op.info.2 = md) (o : OwnOp X.K C md f) (F : FnR X.prog X.w X.K X.mg X.base CX k f sp) (hr : Room k X.A) (hx : ∀ σ, PassesAt CX X σ (E σ)) : AltB X (binaryOp op) C sp E := by
  subst e
  intro pins s σ H a b dx dy fs gs Q I ha hb h
  obtain ⟨mA, J, _⟩ := ins_get I.hok ha
  obtain ⟨mB, J', _⟩ := ins_get I.hok hb
  obtain ⟨od, J, _⟩ := J.look
  obtain ⟨od', J', _⟩ := J'.look
  obtain ⟨m, hF⟩ := I.fr
  exact PySem.W.binop_K hF I.ok.mod.kin J J'.type o.sf o.at_ o.fn (wpAny_mono (run_RS F hr (hx σ) I (show Vals [V.ref a, V.ref b] [Value.ref a, Value.ref b] from .cons rfl (.cons rfl .nil)) h) (fun _ _ z => back_of z) fun _ _ z => z)
theorem alt_cmp {op : CmpOp} {md : Str} (e : (cmpInfo op).2.1 = md) (o : OwnOp X.K C md f) (F : FnR X.prog X.w X.K X.mg X.base CX k f sp) (hr : Room k X.A) (hx : ∀ σ, PassesAt CX X σ (E σ)) (hop : ∀ x y, compareOp op x y = richCompare op x y := by intro x y; rfl) : AltB X (compareOp op) C sp E := by
  subst e
  intro pins s σ H a b dx dy fs gs Q I ha hb h
  obtain ⟨mA, J, _⟩ := ins_get I.hok ha
  obtain ⟨mB, J', _⟩ := ins_get I.hok hb
  obtain ⟨od, J, _⟩ := J.look
  obtain ⟨od', J', _⟩ := J'.look
  obtain ⟨m, hF⟩ := I.fr
  rw [hop]
  exact PySem.W.cmp_K (op := op) (tb := .ref C) hr.units0 hF I.ok.mod.kin J J'.type (by simp [PySem.W.notFirst]) o.at_ o.fn (wpAny_mono (run_RS F hr (hx σ) I (show Vals [V.ref a, V.ref b] [Value.ref a, Value.ref b] from .cons rfl (.cons rfl .nil)) h) (fun _ _ z => back_of z) fun _ _ z => z)
inductive AltBs (X : Cx) (f : Value → Value → Sem Value) (E : L2.St → XK) : List (Addr × Sp) → Prop
  | nil : AltBs X f E []
  | cons {C : Addr} {sp : Sp} {l : List (Addr × Sp)} : AltB X f C sp E → AltBs X f E l → AltBs X f E ((C, sp) :: l)
theorem AltBs.at {g : Value → Value → Sem Value} {l : List (Addr × Sp)} (h : AltBs X g E l) : ∀ {i : Nat}, l[i]? = some (C, sp) → AltB X g C sp E := by
  induction h with
  | nil => intro i e; cases e
  | cons h _ ih =>
    intro i e
    cases i with
    | zero => cases e; exact h
    | succ i => exact ih (by simpa using e)
/-- x op y: by the kinds of built-in values, or both of one own class -/
def rOwn2 (l : List (Addr × Sp)) (E : L2.St → XK) (base : R2) : R2S := fun σ x y H Q => base x y H Q ∨ ∃ (i : Nat) (C : Addr) (sp : Sp) (a b dx dy : Addr) (fs gs : List (Str × V)), l[i]? = some (C, sp) ∧ x = .ref a ∧ y = .ref b ∧ H a = some (.ins C dx fs) ∧ H b = some (.ins C dy gs) ∧ sp [.ref a, .ref b] H Q (E σ)
theorem op_own {g : Value → Value → Sem Value} {l : List (Addr × Sp)} {base : R2} (h : AltBs X g E l) (hb : OpR X g base) : OpS X g (rOwn2 l E base) := by
  intro pins s σ H x y v u Q I rx ry q
  rcases q with q | ⟨i, C, sp, a, b, dx, dy, fs, gs, hl, rfl, rfl, h1, h2, q⟩
  · exact hb pins s σ H x y v u Q I rx ry q
  · cases rx
    cases ry
    exact h.at hl pins s σ H a b dx dy fs gs Q I h1 h2 q
/-- no built-in kinds -/
def rNo : R2 := fun _ _ _ _ => False
theorem op_no {g : Value → Value → Sem Value} : OpR X g rNo := fun _ _ _ _ _ _ _ _ _ _ _ _ h => h.elim
/-! x in an own container -/
def AltI (X : Cx) (C : Addr) (sp : Sp) (E : L2.St → XK) : Prop := ∀ (neg : Bool) (pins : List (Addr × Obj)) (s : Shared) (σ : L2.St) (H : Hp) (x : V) (v : Value) (b dy : Addr) (gs : List (Str × V)) (Q : VK), Inv X pins σ H s → RelV x v → H b = some (.ins C dy gs) → sp [.ref b, x] H (fun z H' => ∃ c, z = .bl c ∧ Q (.bl (Px.tgtIn neg c)) H') (E σ) →
  wpAny (model X.prog X.w) X.A (compareOp (if neg then .NotIn else .In) v (.ref b)) (EP X pins σ Q) X.xe s
theorem alt_in (o : OwnOp X.K C "__contains__" f) (F : FnR X.prog X.w X.K X.mg X.base CX k f sp) (hr : Room k X.A) (hx : ∀ σ, PassesAt CX X σ (E σ)) : AltI X C sp E := by
  intro neg pins s σ H x v b dy gs Q I rx hb h
  obtain ⟨mB, J, _⟩ := ins_get I.hok hb
  obtain ⟨od, J, _⟩ := J.look
  obtain ⟨m, hF⟩ := I.fr
  have go := run_RS F hr (hx σ) I (.cons (show RelV (V.ref b) (Value.ref b) from rfl) (.cons rx .nil)) h
  cases neg with
  | false => exact PySem.W.in_K hF I.ok.mod.kin J o.at_ o.fn (wpAny_mono go (fun r s' ⟨z, H', I', rz, c, ez, q⟩ => by subst ez; cases rz; exact wpAny_truthy_bool ⟨.bl c, H', I', rfl, q⟩) fun _ _ z => z)
  | true => exact PySem.W.notIn_K hF I.ok.mod.kin J o.at_ o.fn (wpAny_mono go (fun r s' ⟨z, H', I', rz, c, ez, q⟩ => by subst ez; cases rz; exact wpAny_truthy_bool ⟨.bl (!c), H', I', rfl, q⟩) fun _ _ z => z)
inductive AltIs (X : Cx) (E : L2.St → XK) : List (Addr × Sp) → Prop
  | nil : AltIs X E []
  | cons {C : Addr} {sp : Sp} {l : List (Addr × Sp)} : AltI X C sp E → AltIs X E l → AltIs X E ((C, sp) :: l)
theorem AltIs.at {l : List (Addr × Sp)} (h : AltIs X E l) : ∀ {i : Nat}, l[i]? = some (C, sp) → AltI X C sp E := by
  induction h with
  | nil => intro i e; cases e
  | cons h _ ih =>
    intro i e
    cases i with
    | zero => cases e; exact h
    | succ i => exact ih (by simpa using e)
def rOwnI (l : List (Addr × Sp)) (E : L2.St → XK) (neg : Bool) (base : R2) : R2S := fun σ x y H Q => base x y H Q ∨ ∃ (i : Nat) (C : Addr) (sp : Sp) (b dy : Addr) (gs : List (Str × V)), l[i]? = some (C, sp) ∧ y = .ref b ∧ H b = some (.ins C dy gs) ∧ sp [.ref b, x] H (fun z H' => ∃ c, z = .bl c ∧ Q (.bl (Px.tgtIn neg c)) H') (E σ)
theorem op_ownI {l : List (Addr × Sp)} {base : R2} {neg : Bool} (h : AltIs X E l) (hb : OpR X (compareOp (if neg then .NotIn else .In)) base) : OpS X (compareOp (if neg then .NotIn else .In)) (rOwnI l E neg base) := by
  intro pins s σ H x y v u Q I rx ry q
  rcases q with q | ⟨i, C, sp, b, dy, gs, hl, rfl, h2, q⟩
  · exact hb pins s σ H x y v u Q I rx ry q
  · cases ry
    exact h.at hl neg pins s σ H x v b dy gs Q I rx h2 q
end
theorem dd_or : PySem.dunder Operator.BitOr.info.2 = ("__or__" : Str) := by decide +kernel
theorem dd_and : PySem.dunder Operator.BitAnd.info.2 = ("__and__" : Str) := by decide +kernel
theorem dd_xor : PySem.dunder Operator.BitXor.info.2 = ("__xor__" : Str) := by decide +kernel
theorem dd_sub : PySem.dunder Operator.Sub.info.2 = ("__sub__" : Str) := by decide +kernel
theorem dd_add : PySem.dunder Operator.Add.info.2 = ("__add__" : Str) := by decide +kernel
theorem dd_mul : PySem.dunder Operator.Mult.info.2 = ("__mul__" : Str) := by decide +kernel
theorem dd_eq : (cmpInfo CmpOp.Eq).2.1 = ("__eq__" : Str) := by decide +kernel
theorem dd_lt : (cmpInfo CmpOp.Lt).2.1 = ("__lt__" : Str) := by decide +kernel
theorem dd_le : (cmpInfo CmpOp.LtE).2.1 = ("__le__" : Str) := by decide +kernel
theorem dd_gt : (cmpInfo CmpOp.Gt).2.1 = ("__gt__" : Str) := by decide +kernel
theorem dd_ge : (cmpInfo CmpOp.GtE).2.1 = ("__ge__" : Str) := by decide +kernel
end Cl
/-! walking own objects: __iter__ says return iter(self.f), f a tuple -/
namespace Cl
open PySem PySem.Spec PyProof.Rows L2
/-- an iterator of the tuple at t, as it begins -/
def TiO (t it : Addr) : HO := .ext fun h => h.IsTupleIter it t 0
theorem tiO_ok {P : Program} {w : World} {H : Hp} {h : Heap} {t it : Addr} (e : h.IsTupleIter it t 0) : ObjOk P w H h it (TiO t it) := by
  refine ⟨e, ?_, fun h1 h2 q k => q.at k⟩
  obtain ⟨o, ho, _⟩ := e
  exact ⟨o, ho⟩
def rIterT (K : PySem.W.Frag) (n : Nat) : List V → Hp → VK → Prop := fun xs H Q => ∃ (t : Addr) (zs : List V), xs = [.ref t] ∧ SqT K H t zs ∧ ∀ it, H it = none → n ≤ it → Q (.ref it) (upd H it (TiO t it))
theorem call_iterT {X : Cx} : CallR X (.builtin "iter") (rIterT X.K X.s_0.heap.objs.size) := by
  intro pins s σ H xs us Q I r h
  obtain ⟨t, zs, rfl, hq, q⟩ := h
  obtain ⟨u, rfl, ru⟩ := vals1 r
  cases ru
  obtain ⟨its, rv, pl, hz⟩ := I.tuple hq
  refine Calls.call_function_entry (by decide +kernel) (by decide +kernel) PySem.W.kdk_entry_iter (PySem.W.kdk_args_iter _) ?_
  unfold Builtin.«iter»
  refine wpAny_bind (m := someArgs "iter" 1 2 _) (wpAny_of_eq (a := [Value.ref t]) (by first | rfl | kernel_rfl!) ?_)
  show wpAny _ _ (pyIter (.ref t) >>= _) _ _ _
  refine wpAny_bind (wpAny_pyIter_tuple (show s.heap.IsTuple t its.toArray from pl) (wpAny_pure ⟨_, rfl, ?_⟩))
  exact ⟨.ref s.heap.objs.size, _, I.laid (t' := s.toks) (fun b u e => Heap.get?_push_of_some _ e) (Nat.le_refl _) (tiO_ok ⟨_, Heap.get?_push_size _ rfl, rfl, rfl⟩), rfl, q _ (I.hok.fresh (Nat.le_refl _)) I.sz⟩
/-- a def of self alone is run at a state: what its body says may name that state -/
theorem run_self {P : Program} {w : World} {K : PySem.W.Frag} {mg : Str → Option Value} {base : Heap} {x qual : Str} {params : Arguments} {body : List Stmt} {scope : Scope} {kws : List (Str × V)} {f : Addr} {fd : FuncData} {N : List Str} {k : Nat} (F : FunD K x qual params body scope [] kws f fd) (S : FnScope N ["self"] scope) (hb : Binds K fd ["self"] [])
    {A : Around} {outer : List Env} {s : Shared} {H : Hp} {a : Addr} {Q : VK} {E : XK} (hr : Room (k + 1) A) (e0 : Env0 P w K mg base A outer s H)
    (hbody : ∀ cdv : Value, Room k (A.deeper (envOfC qual scope s.heap.objs.size f cdv)) → ∃ t, PSs (cxOf (L2N.CX P w) P w K mg base N qual scope f cdv A outer s H E) body t ∧ t { nx := fun _ H' => Q .non H', rt := Q } (start N [.ref a]) H) :
    codeAny (model P w) A (.call (.ref f) ⟨[.ref a], []⟩) (CR (L2N.CX P w) outer P w H s Q E) s := by
  obtain ⟨oc, od, dV, kV, doc, pm, an, cdv, ct, osl, rfl, lk, hcd, _, _⟩ := F.ex
  have KX : K.In s.heap := e0.mod.kin.keeps fun b o e => (e0.bs b o e).1
  have lim : s.heap.NoLimit := e0.mod.nolimit.keeps fun b o e => (e0.bs b o e).1
  have rv : Vals [V.ref a] [Value.ref a] := .cons rfl .nil
  have hz := hb s [.ref a] KX rfl
  have hkind : ∀ y ∈ (["self"] : List Str).zip [Value.ref a], scope.names.lookup y.1 = some .local ∨ (scope.names.lookup y.1 = some .cell ∧ ((cellsFrom (s.heap.objs.size + 1) scope.names []).lookup y.1).isSome = true) := fun y hy =>
    (S.par y.1 (List.of_mem_zip hy).1).imp id fun q => ⟨q, PySem.W.cellsFrom_some _ _ _ (.inl q)⟩
  refine codeAny_call_function hr.depth (KX _ _ lk) rfl S.co S.gen rfl (PySem.W.codeRec_of KX hcd) (hz _ _ _ _ ?_)
  refine wpAny_newFunctionEnv_cells S.kind hkind fun env he s1 x1 => ?_
  subst he
  refine ⟨lim.keeps x1.toInCall.keep, codeAny_func ?_⟩
  obtain ⟨t, ht, hq⟩ := hbody cdv (hr.deeper _)
  have I : Inv (cxOf (L2N.CX P w) P w K mg base N qual scope f cdv A outer s H E) [] (start N [.ref a]) H s1 := inv_start S hr.hd e0 rfl rv x1
  refine wpAny_mono (ht.run [] s1 _ H _ I hq) (fun fl s' hs => ?_) fun e s' hs => hs
  cases fl with
  | ret u =>
    obtain ⟨v, σ', H', J, rv, q⟩ := hs
    exact ⟨v, H', J.os, J.bare, J.base, J.hok, rv, q⟩
  | next =>
    obtain ⟨σ', H', J, q⟩ := hs
    exact ⟨V.non, H', J.os, J.bare, J.base, J.hok, rfl, q⟩
  | brk =>
    obtain ⟨_, _, _, q⟩ := hs
    exact q.elim
  | cont =>
    obtain ⟨_, _, _, q⟩ := hs
    exact q.elim
/-- what a class must have that its objects are walked by the tuple in the field f -/
structure IterF (P : Program) (w : World) (K : PySem.W.Frag) (mg : Str → Option Value) (base : Heap) (k : Nat) (C : Addr) (f : Str) : Prop where
  run : ∃ fi : Addr, PySem.W.findIn K (.ref C) "__iter__" = some (some (.ref fi)) ∧ PySem.W.isFn K (.ref fi) = true ∧
    ∀ (A : Around) (outer : List Env) (s : Shared) (H : Hp) (a dx t : Addr) (fs : List (Str × V)) (xs : List V), Room k A → Env0 P w K mg base A outer s H → H a = some (.ins C dx fs) → fs.lookup f = some (.ref t) → SqT K H t xs →
      codeAny (model P w) A (.call (.ref fi) ⟨[.ref a], []⟩) (CR (L2N.CX P w) outer P w H s (fun y H' => ∃ it, y = .ref it ∧ H it = none ∧ s.heap.objs.size ≤ it ∧ H' = upd H it (TiO t it)) E0) s
theorem iterF_of {P : Program} {w : World} {K : PySem.W.Frag} {mg : Str → Option Value} {base : Heap} {qual f : Str} {params : Arguments} {body : List Stmt} {scope : Scope} {kws : List (Str × V)} {C fi : Addr} {fd : FuncData} {N : List Str} {k : Nat} {p1 p2 p3 p4 p5 : Pos} (F : FunD K "__iter__" qual params body scope [] kws fi fd) (S : FnScope N ["self"] scope) (hb : Binds K fd ["self"] [])
    (hbo : body = [.Return (some (.Call (.Name "iter" p1) [.Attribute (.Name "self" p2) f p3] [] p4)) p5]) (hN : N[0]? = some ("self" : Str)) (hgl : scope.names.lookup ("iter" : Str) = some .globalImplicit) (hm : mg "iter" = none) (c : Cls K C) (n : NoAttr K C f) (o : OwnOp K C "__iter__" fi)
    (hg : ∀ (cdv : Value) (A : Around) (outer : List Env) (s : Shared) (H : Hp), Gl (cxOf (L2N.CX P w) P w K mg base N qual scope fi cdv A outer s H E0) "iter") (hab : ∀ (cdv : Value) (A : Around) (outer : List Env) (s : Shared) (H : Hp), attributeBase (.Name "self" p2) f (cxOf (L2N.CX P w) P w K mg base N qual scope fi cdv A outer s H E0).env (eval (.Name "self" p2) (cxOf (L2N.CX P w) P w K mg base N qual scope fi cdv A outer s H E0).env) = eval (.Name "self" p2) (cxOf (L2N.CX P w) P w K mg base N qual scope fi cdv A outer s H E0).env) :
    IterF P w K mg base (k + 1) C f := by
  refine ⟨fi, o.at_, o.fn, fun A outer s H a dx t fs xs hr e0 ha hl ht => ?_⟩
  refine run_self F S hb hr e0 fun cdv _ => ?_
  subst hbo
  refine ⟨_, pss_one (ps_ret (pe_callB (call_iterT (X := cxOf (L2N.CX P w) P w K mg base N qual scope fi cdv A outer s H E0)) (hg _ _ _ _ _) hm PyProof.Rows.Boot.«iter» (pa_cons (pe_att (l := [(C, aFld f)]) (.cons (alt_fld c n) .nil) (pe_var (i := 0) hN ((S.par "self" (List.Mem.head _)).elim (fun z => .inl z) (fun z => .inr (.inl z)))) (hab _ _ _ _ _)) pa_nil))), ?_⟩
  refine ⟨.ref a, by rfl, a, dx, fs, 0, C, _, rfl, rfl, ha, .ref t, hl, ?_⟩
  exact ⟨t, xs, rfl, ht, fun it h0 h1 => ⟨it, rfl, h0, h1, rfl⟩⟩
section
variable {X : Cx} {k : Nat} {C : Addr} {f : Str} {pins : List (Addr × Obj)} {σ : L2.St} {H : Hp} {s : Shared} {a dx t : Addr} {fs : List (Str × V)} {xs : List V}
/-- the walk begins -/
theorem iter_begin {A : Around} {Q : Value → Shared → Prop} {E' : Value → Shared → Prop} (W : IterF X.prog X.w X.K X.mg X.base k C f) (hr : Room k A) (hfr : A.frames = X.A.frames) (I : Inv X pins σ H s) (ha : H a = some (.ins C dx fs)) (hl : fs.lookup f = some (.ref t)) (ht : SqT X.K H t xs)
    (h : ∀ it s', H it = none → s.heap.objs.size ≤ it → s'.heap.IsTupleIter it t 0 → Inv X pins σ H s' → Q (.ref it) s') : wpAny (model X.prog X.w) A (pyIter (.ref a)) Q E' s := by
  obtain ⟨fi, hat, hfn, run⟩ := W.run
  obtain ⟨mA, J, _⟩ := ins_get I.hok ha
  obtain ⟨od, J, _⟩ := J.look
  obtain ⟨m, hF⟩ := I.fr
  have e0 : Env0 X.prog X.w X.K X.mg X.base A X.stack s H := by
    have e := I.env0
    exact ⟨hfr.trans e.frames, e.mod, e.bs, e.bsz, e.funs, e.frf, e.hok, e.bare⟩
  refine PySem.W.owit_iter hF I.ok.mod.kin J hat hfn (wpAny_call (codeAny_mono (run A X.stack s H a dx t fs xs hr e0 ha hl ht) fun r s' hq => ?_))
  cases r with
  | error e =>
    obtain ⟨_, _, _, _, _, _, _, _, _, _, _, _, z⟩ := hq
    exact z.elim
  | ok fl =>
    cases fl with
    | ret u =>
      obtain ⟨v, H', I3, rv, it, ev, h0, h1, eH⟩ := I.after hq
      subst ev eH
      obtain rfl : u = Value.ref it := rv
      have hit : s'.heap.IsTupleIter it t 0 := (I3.hok it _ upd_same).1
      have I4 := ItX.inv_drop I3 (show upd H it (TiO t it) it = some (TiO t it) from upd_same)
      rw [ItX.dropH_upd h0] at I4
      unfold PySem.W.OwitIt
      exact wpAny_specialOf hit.typeIs slot_tupleiter_next.lookup (h it s' h0 h1 hit I4)
    | _ => exact hq.elim
/-- list(..)'s own loop over a tuple's iterator -/
theorem list_loop {A1 : Around} {S it : Addr} {Rs : Result → Shared → Prop} (hh : A1.in1.handled = none) (hn : xs.length ≤ 1000000) (hSH : H S = none) (hSt : S ≠ t) (hit : H it = none) (hiS : it ≠ S) (hL : it ≠ X.env.locals) (h1 : it ∈ X.ex ∨ X.s_0.heap.objs.size ≤ it)
    (h2 : ∀ x c, X.env.cells.lookup x = some c → c ≠ it) (h3 : ∀ p ∈ X.pn ++ pins, p.1 ≠ it) (ht : SqT X.K H t xs) (hd : ∀ s', Inv X pins σ (upd H S (.lst xs)) s' → Rs (.ok (.ret .none)) s') :
    ∀ (j i : Nat) (s : Shared), xs.length - i = j → i ≤ xs.length → Inv X pins σ (upd H S (.lst (xs.take i))) s → s.heap.IsTupleIter it t i → codeAny (model X.prog X.w) A1 (.builtin "list.extend.loop" ⟨[.ref S, .ref it, .none], []⟩) Rs s := by
  have tupS : ∀ i, SqT X.K (upd H S (.lst (xs.take i))) t xs := fun i => by
    rcases ht with (h | ⟨o, h⟩) | h
    · exact .inl (.inl (by rw [upd_ne hSt.symm]; exact h))
    · exact .inl (.inr ⟨o, by rw [upd_ne hSt.symm]; exact h⟩)
    · exact .inr h
  have itS : ∀ i, upd H S (.lst (xs.take i)) it = none := fun i => by rw [upd_ne hiS]; exact hit
  intro j
  induction j with
  | zero =>
    intro i s hj hi I st
    have e : i = xs.length := by omega
    subst e
    obtain ⟨its, rv, pl, _⟩ := I.tuple (tupS _)
    have hl := rv.length
    refine codeAny_builtin PySem.F.entry_extend_loop ?_
    rw [Around.under_plainId PySem.F.plain_extend_loop _]
    show wpAny _ A1.in1 (pyNext (.ref it) >>= _) _ _ s
    refine wpAny_bind (wpAny_pyNext_tuple_end hh st (show s.heap.IsTuple t its.toArray from pl) (by first | omega | (rw [List.size_toArray]; omega) | (simp; omega)) fun h' eb => ?_)
    refine wpAny_pure (hd _ ?_)
    have I2 := I.turned (t' := s.toks) (fun b o hb e => eb b o hb e) (itS _) hL h1 h2 h3
    rw [List.take_length] at I2
    exact I2
  | succ j ih =>
    intro i s hj hi I st
    have hlt : i < xs.length := by omega
    obtain ⟨its, rv, pl, _⟩ := I.tuple (tupS _)
    obtain ⟨u, hu, ru⟩ := rv.get (List.getElem?_eq_getElem hlt)
    refine codeAny_builtin PySem.F.entry_extend_loop ?_
    rw [Around.under_plainId PySem.F.plain_extend_loop _]
    show wpAny _ A1.in1 (pyNext (.ref it) >>= _) _ _ s
    refine wpAny_bind (wpAny_pyNext_tuple_item st (show s.heap.IsTuple t its.toArray from pl) (x := u) (by simpa using hu) fun h' st' sb => ?_)
    have I1 : Inv X pins σ (upd H S (.lst (xs.take i))) { s with heap := h' } := I.turned (t' := s.toks) (fun b o hb e => (sb.2 b hb).trans e) (itS _) hL h1 h2 h3
    show wpAny _ A1.in1 (updateSeq S (·.push u) >>= _) _ _ _
    obtain ⟨z, its2, k2, r2, hl2, e2⟩ := I1.lstM upd_same
    have hlen : (xs.take i).length = i := by rw [List.length_take]; omega
    refine wpAny_bind (wpAny_updateSeq e2 rfl (wpAny_pure ⟨plainId_quiet PySem.F.plain_extend_loop _, ?_⟩) (by rw [List.size_toArray]; omega) (by show (its2.toArray.push u).size ≤ sizeLine + 1; rw [Array.size_push, List.size_toArray]; omega))
    have I2 := I1.lset (f := fun z => z.push u) (its' := its2 ++ [u]) (ys := xs.take i ++ [xs[i]]) (t' := s.toks) upd_same e2 (by simp) (r2.append (.cons ru .nil)) (by rw [List.length_append, hlen, sizeLine_eq]; show i + 1 ≤ _; omega)
    rw [upd_upd, ← List.take_succ_eq_append_getElem hlt] at I2
    refine ih (i + 1) _ (by omega) hlt I2 ?_
    obtain ⟨o, eo, c, d⟩ := st'
    exact ⟨o, (Heap.get?_update_other _ _ (Ne.symm hiS)).trans eo, c, d⟩
/-- len's promise: so many, all stands -/
def spLen (C : Addr) (f : Str) : Sp := fun vs H Q _ => ∃ a dx fs t xs, vs = [.ref a] ∧ H a = some (.ins C dx fs) ∧ fs.lookup f = some (.ref t) ∧ H t = some (.tup xs) ∧ xs.length ≤ 1000000 ∧ Q (.int xs.length) H
theorem call_lenO {n : Nat} {fl : Addr} (o : OwnOp X.K C "__len__" fl) (F : FnR X.prog X.w X.K X.mg X.base (L2N.CX X.prog X.w) n fl (spLen C f)) {A : Around} {E' : Value → Shared → Prop} {Q : Value → Shared → Prop} (hr : Room (n + 1) A) (hfr : A.frames = X.A.frames) (I : Inv X pins σ H s) (ha : H a = some (.ins C dx fs)) (hl : fs.lookup f = some (.ref t)) (ht : H t = some (.tup xs)) (hn : xs.length ≤ 1000000)
    (h : ∀ tk s', Inv X pins σ H s' → (∀ b o, s.heap.get? b = some o → H b = none → b ∉ frs X.stack → s'.heap.get? b = some o) → Q (.int xs.length tk) s') : wpAny (model X.prog X.w) A (call (.builtin "len") [.ref a]) Q E' s := by
  obtain ⟨mA, J, _⟩ := ins_get I.hok ha
  obtain ⟨od, J, _⟩ := J.look
  obtain ⟨m, hF⟩ := I.fr
  refine PySem.W.len_K hF I.ok.mod.kin J o.at_ o.fn ?_
  have e0 : Env0 X.prog X.w X.K X.mg X.base A.in1 X.stack s H := by
    have e := I.env0
    exact ⟨hfr.trans e.frames, e.mod, e.bs, e.bsz, e.funs, e.frf, e.hok, e.bare⟩
  refine wpAny_call (codeAny_mono (F A.in1 X.stack s H [.ref a] [.ref a] (fun y H' => y = .int xs.length ∧ H' = H) E0 hr.in1 e0 (.cons rfl .nil) ⟨a, dx, fs, t, xs, rfl, ha, hl, ht, hn, rfl, rfl⟩) fun r s' hq => ?_)
  cases r with
  | error e =>
    obtain ⟨_, _, _, _, _, _, _, _, _, _, _, _, z⟩ := hq
    exact z.elim
  | ok fl =>
    cases fl with
    | ret u =>
      have un : ∀ b o, s.heap.get? b = some o → H b = none → b ∉ frs X.stack → s'.heap.get? b = some o := by
        obtain ⟨_, _, _, _, un, _⟩ := id hq
        exact fun b o e n hb => un.keep b o e n hb (by simp)
      obtain ⟨v, H', I3, rv, ev, eH⟩ := I.after hq
      subst ev eH
      obtain ⟨tk, rfl⟩ := rv
      exact ⟨⟨by omega, by omega⟩, h _ _ (I3.tok _) un⟩
    | _ => exact hq.elim
/-- list(o) -/
theorem list_own {n fl : Nat} (W : IterF X.prog X.w X.K X.mg X.base n C f) (o : OwnOp X.K C "__len__" fl) (F : FnR X.prog X.w X.K X.mg X.base (L2N.CX X.prog X.w) n fl (spLen C f)) (hr : Room (n + 3) X.A) {Q : VK} (I : Inv X pins σ H s) (ha : H a = some (.ins C dx fs)) (hl : fs.lookup f = some (.ref t)) (ht : H t = some (.tup xs)) (hn : xs.length ≤ 1000000)
    (hq : ∀ q, H q = none → Q (.ref q) (upd H q (.lst xs))) : wpAny (model X.prog X.w) X.A (call (.type "list") [.ref a]) (EP X pins σ Q) X.xe s := by
  refine callType_codes (Q₁ := fun obj s₁ => obj = .ref s.heap.objs.size ∧ s₁ = { s with heap := s.heap.push { cls := .type "list", data := .seq #[] } }) PySem.F.called_list (PySem.F.typeCall_list_1 _) PySem.F.entry_list_init
    (code_list_new _ ⟨rfl, rfl⟩) fun obj s₁ h₁ => ?_
  obtain ⟨rfl, rfl⟩ := h₁
  have hS : (s.heap.push { cls := .type "list", data := .seq #[] }).get? s.heap.objs.size = some { cls := .type "list", data := .seq #[] } := Heap.get?_push_size _ rfl
  refine ⟨⟨_, hS, rfl⟩, PySem.F.args_list_init_2 _ _, ?_⟩
  have fr : H s.heap.objs.size = none := I.hok.fresh (Nat.le_refl _)
  have I1 : Inv X pins σ (upd H s.heap.objs.size (.lst [])) { s with heap := s.heap.push { cls := .type "list", data := .seq #[] } } := I.lnew (its := []) (t' := s.toks) .nil (Nat.zero_le _)
  show wpAny _ _ (do let old ← Builtin.List.listItems (.ref s.heap.objs.size); Builtin.List.listUpdate (.ref s.heap.objs.size) (fun _ => #[]); letGo old.toList.reverse; Builtin.List.listExtendWith (.ref s.heap.objs.size) (.ref a) .none) _ _ _
  refine wpAny_bind ?_
  unfold Builtin.List.listItems
  refine wpAny_bind (wpAny_seqItems hS rfl (wpAny_pure ?_))
  show wpAny _ _ (updateSeq s.heap.objs.size (fun _ => #[]) >>= fun _ => letGo (#[] : Array Value).toList.reverse >>= fun _ => Builtin.List.listExtendWith (.ref s.heap.objs.size) (.ref a) .none) _ _ _
  refine wpAny_bind (wpAny_updateSeq hS rfl ?_)
  have I2 := I1.lset (f := fun _ => #[]) (its := []) (its' := []) (ys := []) (t' := s.toks) upd_same hS rfl .nil (Nat.zero_le _)
  rw [upd_upd] at I2
  refine wpAny_bind (wpAny_letGo ?_)
  generalize hSe : s.heap.objs.size = S at *
  have haS : a ≠ S := ne_of_none ha fr
  have htS : t ≠ S := ne_of_none ht fr
  have ha2 : upd H S (.lst []) a = some (.ins C dx fs) := by rw [upd_ne haS]; exact ha
  have ht2 : upd H S (.lst []) t = some (.tup xs) := by rw [upd_ne htS]; exact ht
  obtain ⟨mA, J, _⟩ := ins_get I2.hok ha2
  obtain ⟨od, J, _⟩ := J.look
  unfold Builtin.List.listExtendWith
  refine wpAny_bind (J.type.here ?_)
  have h1 : Builtin.List.listSameRef (.ref S) (.ref a) = false := by simp [Builtin.List.listSameRef, haS.symm]
  have h2 : (Value.ref C == Value.type "list") = false := rfl
  have h3 : (Value.ref C == Value.type "tuple") = false := rfl
  simp only [h1, h2, h3, Bool.or_false, Bool.false_eq_true, if_false]
  have hr2 : Room (n + 1) X.A.in1.in1 := hr.in1.in1
  refine wpAny_bind (iter_begin W (hr2.mono (by omega)) rfl I2 ha2 hl (SqT.of ht2) fun it s' h0 hge hit I3 => ?_)
  refine wpAny_bind (wpAny_holding ?_)
  unfold Builtin.List.listLengthHint
  obtain ⟨mA3, J3, _⟩ := ins_get I3.hok ha2
  obtain ⟨od3, J3, _⟩ := J3.look
  refine wpAny_bind (wpAny_bind (J3.type.here ((PySem.W.looks_findIn I3.kIn o.at_).here ?_)))
  refine PySem.W.KFB.if_not rfl ?_
  refine PySem.W.KFB.if_so rfl ?_
  refine wpAny_bind (wpAny_rule ?_)
  refine wpAny_bind (wpAny_attempt (call_lenO o F hr2 rfl I3 ha2 hl ht2 hn fun tk s4 I4 un4 => ?_))
  have nfr : it ∉ frs X.stack := fun hm => by
    obtain ⟨_, ob, hob, _⟩ := I2.env0.funs.mem hm
    exact absurd (Heap.lt_size hob) (Nat.not_lt.mpr hge)
  have hit4 : s4.heap.IsTupleIter it t 0 := by
    obtain ⟨ob, hob, r⟩ := hit
    exact ⟨ob, un4 it ob hob h0 nfr, r⟩
  have hSit : it ≠ S := fun e => by rw [e, upd_same] at h0; cases h0
  have hitH : H it = none := by rw [upd_ne hSit] at h0; exact h0
  obtain ⟨_, q1, q2, q3, q4, q5⟩ := I2.fpOk (H' := upd H S (.lst [])) hge h0
  have loop : ∀ s5, Inv X pins σ (upd H S (.lst [])) s5 → s5.heap.IsTupleIter it t 0 → codeAny (model X.prog X.w) X.A.in1 (.builtin "list.extend.loop" ⟨[.ref S, .ref it, .none], []⟩) (wants (fun r s₂ => r = .none ∧ EP X pins σ Q (.ref S) s₂) X.xe) s5 := fun s5 I5 hit5 =>
    list_loop hr2.hd hn fr htS.symm hitH hSit q1 q3 q4 q5 (SqT.of ht) (fun s6 I6 => ⟨rfl, .ref S, _, I6, rfl, hq S fr⟩) xs.length 0 s5 rfl (Nat.zero_le _) I5 hit5
  dsimp only
  refine wpAny_bind (wpAny_of_eq (a := some (xs.length : Int)) (by first | rfl | kernel_rfl!) ?_)
  dsimp only
  have hlong : Builtin.List.listTooLong ((xs.length : Int)).toNat = false := notLongL (by rw [sizeLine_eq]; omega)
  rw [hlong, if_neg Bool.false_ne_true]
  refine wpAny_pure ?_
  refine wpAny_ite_split (fun _ => ?_) (fun _ => wpAny_pure ⟨plainId_quiet PySem.F.plain_extend_loop _, loop s4 I4 hit4⟩)
  refine wpAny_bind (wpAny_rule ?_)
  refine wpAny_bind ?_
  show wpAny _ _ (updateSeq S (·.push .none) >>= fun _ => updateSeq S (·.pop)) _ _ _
  obtain ⟨z, its, k3, r3, hl3, e3⟩ := I4.lstM upd_same
  cases r3
  refine wpAny_bind (wpAny_updateSeq e3 rfl ?_)
  have I5 := I4.lset (f := (·.push Value.none)) (its' := [Value.none]) (ys := [.non]) (t' := s4.toks) upd_same e3 (by simp) (.cons rfl .nil) (by rw [List.length_singleton, sizeLine_eq]; decide)
  rw [upd_upd] at I5
  obtain ⟨z4, its4, k4, r4, hl4, e4⟩ := I5.lstM upd_same
  obtain ⟨u4, rfl, ru4⟩ := r4.one
  refine wpAny_updateSeq e4 rfl ?_ (by show 1 ≤ sizeLine; rw [sizeLine_eq]; decide) (by show 0 ≤ sizeLine + 1; exact Nat.zero_le _)
  have I6 := I5.lset (f := (·.pop)) (its := [u4]) (its' := []) (ys := []) (t' := s4.toks) upd_same e4 (by rfl) .nil (Nat.zero_le _)
  rw [upd_upd] at I6
  refine wpAny_pure ⟨plainId_quiet PySem.F.plain_extend_loop _, loop _ I6 ?_⟩
  obtain ⟨ob, hob, rr⟩ := hit4
  exact ⟨ob, (Heap.get?_update_other _ _ (Ne.symm hSit)).trans ((Heap.get?_update_other _ _ (Ne.symm hSit)).trans hob), rr⟩
end
end Cl
namespace Cl
open PySem PySem.Spec PyProof.Rows L2 Px
/-- a class whose objects are walked and counted by the tuple in the field f -/
def WalkC (X : Cx) (C : Addr) (f : Str) : Prop := ∃ (n : Nat) (fl : Addr), IterF X.prog X.w X.K X.mg X.base n C f ∧ OwnOp X.K C "__len__" fl ∧ FnR X.prog X.w X.K X.mg X.base (L2N.CX X.prog X.w) n fl (spLen C f) ∧ Room (n + 3) X.A
inductive WalkCs (X : Cx) : List (Addr × Str) → Prop
  | nil : WalkCs X []
  | cons {C : Addr} {f : Str} {l : List (Addr × Str)} : WalkC X C f → WalkCs X l → WalkCs X ((C, f) :: l)
section
variable {X : Cx} {l : List (Addr × Str)}
theorem WalkCs.at (h : WalkCs X l) : ∀ {i : Nat} {C : Addr} {f : Str}, l[i]? = some (C, f) → WalkC X C f := by
  induction h with
  | nil => intro i C f e; cases e
  | cons h _ ih =>
    intro i C f e
    cases i with
    | zero => cases e; exact h
    | succ i => exact ih (by simpa using e)
/-- x is an object of one of the classes, its tuple holds xs -/
def OwnT (l : List (Addr × Str)) (x : V) (H : Hp) (t : Addr) (xs : List V) : Prop := ∃ (i : Nat) (C : Addr) (f : Str) (a dx : Addr) (fs : List (Str × V)), l[i]? = some (C, f) ∧ x = .ref a ∧ H a = some (.ins C dx fs) ∧ fs.lookup f = some (.ref t) ∧ H t = some (.tup xs) ∧ xs.length ≤ 1000000
def rLenO (K : PySem.W.Frag) (l : List (Addr × Str)) : List V → Hp → VK → Prop := fun vs H Q => rLenP K vs H Q ∨ ∃ x t xs, vs = [x] ∧ OwnT l x H t xs ∧ Q (.int xs.length) H
theorem call_lenQ (h : WalkCs X l) : CallR X (.builtin "len") (rLenO X.K l) := by
  intro pins s σ H vs us Q I r q
  rcases q with q | ⟨x, t, xs, rfl, ⟨i, C, f, a, dx, fs, hl, rfl, ha, hf, ht, hn⟩, q⟩
  · exact call_lenP pins s σ H vs us Q I r q
  · obtain ⟨u, rfl, ru⟩ := vals1 r
    cases ru
    obtain ⟨n, fl, W, o, F, hr⟩ := h.at hl
    exact call_lenO o F (hr.mono (by omega)) rfl I ha hf ht hn fun tk s' I' _ => ⟨.int xs.length, H, I', ⟨tk, rfl⟩, q⟩
def rListO (K : PySem.W.Frag) (l : List (Addr × Str)) : List V → Hp → VK → Prop := fun vs H Q => rListP K vs H Q ∨ ∃ x t xs, vs = [x] ∧ OwnT l x H t xs ∧ ∀ q, H q = none → Q (.ref q) (upd H q (.lst xs))
theorem call_listQ (h : WalkCs X l) : CallR X (.type "list") (rListO X.K l) := by
  intro pins s σ H vs us Q I r q
  rcases q with q | ⟨x, t, xs, rfl, ⟨i, C, f, a, dx, fs, hl, rfl, ha, hf, ht, hn⟩, q⟩
  · exact call_listP pins s σ H vs us Q I r q
  · obtain ⟨u, rfl, ru⟩ := vals1 r
    cases ru
    obtain ⟨n, fl, W, o, F, hr⟩ := h.at hl
    exact list_own W o F hr I ha hf ht hn q
/-- for .. in x -/
def AnyB (K : PySem.W.Frag) (x : V) (H1 : Hp) (R : L2.It → Hp → Prop) : Prop := match x with
  | .str z => R (Its z) H1
  | .ref a => ((∃ xs, SqL K H1 a xs) ∧ R (Itl K a) H1) ∨ ((∃ xs, SqT K H1 a xs) ∧ R (Itt K a) H1)
  | _ => False
def iAnyO (K : PySem.W.Frag) (l : List (Addr × Str)) (te : TE) : TI := fun σ H R => te σ H fun x H1 => AnyB K x H1 R ∨ ∃ t xs, OwnT l x H1 t xs ∧ R (Itt K t) H1
theorem pi_anyO {tg e : Expr} {te : TE} (h : WalkCs X l) (he : PE X e te) : PI X tg e (iAnyO X.K l te) := by
  refine ⟨fun pins s σ H R I hw => ?_⟩
  refine thn (he.run pins s σ H _ I hw) fun v s1 ⟨x, H1, I1, r1, q1⟩ => ?_
  rcases q1 with q1 | ⟨t, xs, ⟨i, C, f, a, dx, fs, hl, rfl, ha, hf, ht, hn⟩, q⟩
  · unfold AnyB at q1
    cases x <;> first
      | exact False.elim q1
      | (rename_i x
         obtain ⟨t, rfl⟩ := r1
         cases ha : x.cps.all (· < 128)
         · exact wpAny_pyIter_wide ha (pi_one (tk := s1.toks) I1 _ (turn_str _ x t "str_iterator" (.inr rfl)) ⟨_, Heap.get?_push_size _ rfl, rfl, rfl⟩ q1)
         · exact wpAny_pyIter_ascii ha (pi_one (tk := s1.toks) I1 _ (turn_str _ x t "str_ascii_iterator" (.inl rfl)) ⟨_, Heap.get?_push_size _ rfl, rfl, rfl⟩ q1))
      | (rename_i a
         obtain rfl : v = Value.ref a := r1
         rcases q1 with ⟨⟨xs, hq⟩, q⟩ | ⟨⟨xs, hq⟩, q⟩
         · obtain ⟨its, rv, p, hz⟩ := I1.list hq
           refine wpAny_pyIter_list p.isList ?_
           refine ⟨s1.heap.objs.size, [s1.heap.objs.size], _, _, H1, rfl, I1.kept (t' := s1.toks) fun b o e => Heap.get?_push_of_some _ e, turn_list a _, ⟨_, Heap.get?_push_size _ rfl, rfl, rfl⟩, fun b hb => ?_, q⟩
           have e : b = s1.heap.objs.size := by simpa using hb
           subst e
           exact I1.fpOk (Nat.le_refl _) (I1.hok.fresh (Nat.le_refl _))
         · obtain ⟨its, rv, p, hz⟩ := I1.tuple hq
           refine wpAny_pyIter_tuple (show s1.heap.IsTuple a its.toArray from p) ?_
           refine ⟨s1.heap.objs.size, [s1.heap.objs.size], _, _, H1, rfl, I1.kept (t' := s1.toks) fun b o e => Heap.get?_push_of_some _ e, turn_tuple a _, ⟨_, Heap.get?_push_size _ rfl, rfl, rfl⟩, fun b hb => ?_, q⟩
           have e : b = s1.heap.objs.size := by simpa using hb
           subst e
           exact I1.fpOk (Nat.le_refl _) (I1.hok.fresh (Nat.le_refl _)))
  · obtain rfl : v = Value.ref a := r1
    obtain ⟨n, fl, W, o, F, hr⟩ := h.at hl
    refine iter_begin W (hr.mono (by omega)) rfl I1 ha hf (SqT.of ht) fun it s' h0 hge hit I3 => ?_
    refine ⟨it, [it], _, _, H1, rfl, I3, turn_tuple t it, hit, fun b hb => ?_, q⟩
    have e : b = it := by simpa using hb
    subst e
    exact I1.fpOk hge h0
end
end Cl
namespace Hk
open PySem PySem.W PySem.Spec PyProof.Rows L2 He
def ownB (K : Frag) (C : Addr) (m : PySem.Str) : Bool := eqO (findIn K (.ref C) m) (some (some (.ref (ma K C m)))) && (isFn K (.ref (ma K C m)) && selfFirst K C)
theorem ownB_ok {K : Frag} {C : Addr} {m : PySem.Str} (h : ownB K C m = true) : Cl.OwnOp K C m (ma K C m) := by
  unfold ownB at h
  obtain ⟨h1, h⟩ := ba h
  obtain ⟨h2, h3⟩ := ba h
  exact ⟨eqO_ok h1, h2, h3⟩
end Hk
namespace Px
open PySem PySem.Spec PyProof.Rows L2
section
variable {K : PySem.W.Frag} {l : List (Addr × Str)} {σ : L2.St} {H : Hp} {D : Ends} {Q : VK} {te ta tb : TE}
theorem s_opS {r : Cl.R2S} (h : ta σ H fun x H1 => tb σ H1 fun y H2 => r σ x y H2 Q) : Cl.tOpS r ta tb σ H Q := h
def ForBodyO (K : PySem.W.Frag) (l : List (Addr × Str)) (g : TG) (tb : TS) (D : Ends) (σ : L2.St) (x : V) (H1 : Hp) : Prop := ForBody K g tb D σ x H1 ∨ ∃ t xs, Cl.OwnT l x H1 t xs ∧ ForB (Itt K t) g tb D σ H1
theorem s_forO {g : TG} {tb : TS} (h : te σ H fun x H1 => ForBodyO K l g tb D σ x H1) : tFor (Cl.iAnyO K l te) g tb D σ H := h
def LcBodyO (K : PySem.W.Frag) (l : List (Addr × Str)) (g : TG) (tt : TT) (te : TE) (vs : List Nat) (σ : L2.St) (Q : VK) (x : V) (H1 : Hp) : Prop := LcBody K g tt te vs σ Q x H1 ∨ ∃ t xs, Cl.OwnT l x H1 t xs ∧ LcB (Itt K t) g tt te vs σ Q H1
theorem s_lcO {g : TG} {tt : TT} {te0 : TE} {vs : List Nat} (h : te0 σ H fun x H1 => LcBodyO K l g tt te vs σ Q x H1) : tLc (Cl.iAnyO K l te0) g tt te vs σ H Q := h
theorem s_ownT {i : Nat} {C : Addr} {f : Str} {a dx t : Addr} {fs : List (Str × V)} {xs : List V} (hl : l[i]? = some (C, f)) (ha : H a = some (.ins C dx fs)) (hf : fs.lookup f = some (.ref t)) (ht : H t = some (.tup xs)) (hn : xs.length ≤ 1000000) : Cl.OwnT l (.ref a) H t xs := ⟨i, C, f, a, dx, fs, hl, rfl, ha, hf, ht, hn⟩
end
end Px
/-! methods of own objects: o.m(..), o(..), o[i], str(o); sep.join(..) -/
namespace Cl
open PySem PySem.Spec PySem.Calls PyProof.Rows L2 Px
theorem fnIn_of {K : PySem.W.Frag} {x qual : Str} {params : Arguments} {body : List Stmt} {scope : Scope} {dvs : List V} {kws : List (Str × V)} {f : Addr} {fd : FuncData} (F : FunD K x qual params body scope dvs kws f fd) : PySem.W.fnIn K f = true := by
  obtain ⟨oc, od, dV, kV, doc, pm, an, cdv, ct, osl, rfl, lk, _⟩ := F.ex
  unfold PySem.W.fnIn
  rw [lk]
/-- the class at C has the def m, which keeps the promise sp -/
structure OwnM (X : Cx) (m : Str) (E : L2.St → XK) (C : Addr) (sp : Sp) : Prop where
  cls : Cls X.K C
  ex : ∃ (CX : CXT) (k : Nat) (f : Addr), OwnOp X.K C m f ∧ PySem.W.keepIn X.K (.ref f) = true ∧ PySem.W.fnIn X.K f = true ∧ FnR X.prog X.w X.K X.mg X.base CX k f sp ∧ Room (k + 2) X.A ∧ ∀ σ, PassesAt CX X σ (E σ)
inductive OwnMs (X : Cx) (m : Str) (E : L2.St → XK) : List (Addr × Sp) → Prop
  | nil : OwnMs X m E []
  | cons {C : Addr} {sp : Sp} {l : List (Addr × Sp)} : OwnM X m E C sp → OwnMs X m E l → OwnMs X m E ((C, sp) :: l)
section
variable {X : Cx} {CX : CXT} {k : Nat} {f C : Addr} {sp : Sp} {E : L2.St → XK} {m : Str} {l : List (Addr × Sp)} {o e a b : Expr} {es : List Expr} {ta tb te : TE} {t : TA} {apos pos p : Pos} {x : Str}
theorem OwnMs.at (h : OwnMs X m E l) : ∀ {i : Nat} {C : Addr} {sp : Sp}, l[i]? = some (C, sp) → OwnM X m E C sp := by
  induction h with
  | nil => intro i C sp e; cases e
  | cons h _ ih =>
    intro i C sp e
    cases i with
    | zero => cases e; exact h
    | succ i => exact ih (by simpa using e)
theorem ownM_of {x qual : Str} {params : Arguments} {body : List Stmt} {scope : Scope} {dvs : List V} {kws : List (Str × V)} {fd : FuncData} (c : Cls X.K C) (o : OwnOp X.K C m f) (D : FunD X.K x qual params body scope dvs kws f fd) (F : FnR X.prog X.w X.K X.mg X.base CX k f sp) (hr : Room (k + 2) X.A) (hx : ∀ σ, PassesAt CX X σ (E σ)) : OwnM X m E C sp :=
  ⟨c, CX, k, f, o, D.kp, fnIn_of D, F, hr, hx⟩
/-- o.m(e, ..) -/
def tMethO (l : List (Addr × Sp)) (m : Str) (E : L2.St → XK) (ta : TE) (t : TA) : TE := fun σ H Q => ta σ H fun x H1 => ∃ (i : Nat) (C : Addr) (sp : Sp) (a dx : Addr) (fs : List (Str × V)), l[i]? = some (C, sp) ∧ x = .ref a ∧ H1 a = some (.ins C dx fs) ∧ fs.lookup m = none ∧ t σ H1 fun vs H2 => sp (.ref a :: vs) H2 Q (E σ)
theorem pe_methO {pl : Sem Bool} (h : OwnMs X m E l) (he : PE X o ta) (ha : PA X (e :: es) t)
    (hst : starEach (e :: es) X.env = (false, eval e X.env) :: starEach es X.env := by rfl) (hpl : (backTo pos (starEach es X.env)).any (·.1) = false := by rfl)
    (ht : eval (.Call (.Attribute o m apos) (e :: es) [] pos) X.env = (do
      let ov ← eval o X.env
      standAt apos.atName
      let (f, first) ← holding [ov] (getMethod ov m pl)
      callWith pos f first (backTo pos (starEach (e :: es) X.env)) (backToKw pos (keywordEach [] X.env))) := by rfl) :
    PE X (.Call (.Attribute o m apos) (e :: es) [] pos) (tMethO l m E ta t) := by
  refine ⟨fun pins s σ H Q I hh => ?_⟩
  refine PySem.W.methodCall_KW (pl := pl) (thn (he.run pins s σ H _ I hh) fun u s1 ⟨x, H1, I1, rx, i, C, sp, a, dx, fs, hl, ex, ea, lk, q⟩ => ?_) ht
  subst ex
  obtain rfl : u = Value.ref a := rx
  have M := h.at hl
  obtain ⟨CX, k, f, o, hk, hf, F, hr, hx⟩ := M.ex
  refine getmeth_ok I1 ea M.cls ⟨o.at_, o.fn, hk⟩ lk ?_
  refine PySem.W.callWith_K (first := [.ref a]) (h₀ := X.base) I.ok.mod.kin hk (thn (ha.run pos pins s1 σ H1 _ I1 q) fun us s2 ⟨vs, H2, I2, r, q2⟩ => ⟨I2.kIn, ?_⟩) hst hpl
  exact run_RS (us := .ref a :: us) (vs := .ref a :: vs) F (hr.mono (by omega)) (hx σ) I2 (.cons rfl r) q2
theorem pe_methO0 {pl : Sem Bool} (h : OwnMs X m E l) (he : PE X o ta)
    (ht : eval (.Call (.Attribute o m apos) [] [] pos) X.env = (do
      let ov ← eval o X.env
      standAt apos.atName
      let (f, first) ← holding [ov] (getMethod ov m pl)
      callWith pos f first (backTo pos (starEach [] X.env)) (backToKw pos (keywordEach [] X.env))) := by rfl) :
    PE X (.Call (.Attribute o m apos) [] [] pos) (tMethO l m E ta tNil) := by
  refine ⟨fun pins s σ H Q I hh => ?_⟩
  refine PySem.W.methodCall_KW (pl := pl) (thn (he.run pins s σ H _ I hh) fun u s1 ⟨x, H1, I1, rx, i, C, sp, a, dx, fs, hl, ex, ea, lk, q⟩ => ?_) ht
  subst ex
  obtain rfl : u = Value.ref a := rx
  have M := h.at hl
  obtain ⟨CX, k, f, o, hk, hf, F, hr, hx⟩ := M.ex
  refine getmeth_ok I1 ea M.cls ⟨o.at_, o.fn, hk⟩ lk ?_
  exact PySem.W.callWith_K0 (first := [.ref a]) I1.kIn hk (run_RS (us := [.ref a]) (vs := [.ref a]) F (hr.mono (by omega)) (hx σ) I1 (.cons rfl .nil) q)
/-- o(e, ..) -/
def tCallO (l : List (Addr × Sp)) (E : L2.St → XK) (ta : TE) (t : TA) : TE := fun σ H Q => ta σ H fun x H1 => ∃ a, x = .ref a ∧ t σ H1 fun vs H2 => ∃ (i : Nat) (C : Addr) (sp : Sp) (dx : Addr) (fs : List (Str × V)), l[i]? = some (C, sp) ∧ H2 a = some (.ins C dx fs) ∧ sp (.ref a :: vs) H2 Q (E σ)
theorem callWith_own {M : Model} {A : Around} {E : Value → Shared → Prop} {s : Shared} {Q : Value → Shared → Prop} {ad : Addr} {first : List Value} {args : List (Bool × Sem Value)} {keywords : List (Option Str × Sem Value)} (hplain : (args.any (·.1) || keywords.any (·.1.isNone)) = false)
    (h : wpAny M A (evalArgs (.ref ad) true args keywords) (fun a s₁ => (∃ ox C od, ox.data = .plain ∧ PySem.W.InstAt s₁.heap ad ox C od) ∧ wpAny M A (call (.ref ad) (first ++ a.pos) a.kw) Q E s₁) E s) : wpAny M A (callWith pos (.ref ad) first args keywords) Q E s := by
  unfold callWith
  refine wpAny_bind (wpAny_holding (wpAny_mono h (fun a s₁ h₁ => wpAny_bind (wpAny_standAt ?_)) fun _ _ y => y))
  obtain ⟨⟨ox, C, od, hd, J⟩, hc⟩ := h₁
  have L := PySem.W.kco_keeper (M := M) J hd
  simp only [hplain]
  refine wpAny_bind (L.here ?_)
  have tail : ∀ {t : Sem Value}, wpAny M A t Q E s₁ → wpAny M A (t >>= fun r => holding [r] point >>= fun _ => pure r) Q E s₁ :=
    fun ht => wpAny_bind (wpAny_mono ht (fun r s₂ hr => wpAny_bind (wpAny_holding (wpAny_point (wpAny_pure hr)))) fun _ _ y => y)
  exact tail (wpAny_operateT hc)
theorem pe_callO (h : OwnMs X "__call__" E l) (he : PE X (.Name x p) ta) (ha : PA X (e :: es) t)
    (hst : starEach (e :: es) X.env = (false, eval e X.env) :: starEach es X.env := by rfl) (hpl : (backTo pos (starEach es X.env)).any (·.1) = false := by rfl) :
    PE X (.Call (.Name x p) (e :: es) [] pos) (tCallO l E ta t) := by
  refine ⟨fun pins s σ H Q I hh => ?_⟩
  refine wpAny_Call_Name_kw (thn (he.run pins s σ H _ I hh) fun u s1 ⟨v, H1, I1, rx, a, ex, q⟩ => ?_)
  subst ex
  obtain rfl : u = Value.ref a := rx
  have q' := ha.run pos pins s1 σ H1 _ I1 q
  rw [hst] at q' ⊢
  refine callWith_own (by show ((false || (backTo pos (starEach es X.env)).any (·.1)) || false) = false; rw [hpl]; rfl) (evalArgs_plain (thn q' fun us s2 ⟨vs, H2, I2, r, i, C, sp, dx, fs, hl, hA, q2⟩ => ?_))
  have M := h.at hl
  obtain ⟨CX, k, f, o, hk, hf, F, hr, hx⟩ := M.ex
  obtain ⟨mA, J, _⟩ := ins_get I2.hok hA
  obtain ⟨od, J, _⟩ := J.look
  refine ⟨⟨_, C, _, rfl, J⟩, ?_⟩
  refine wpAny_call (PySem.W.kco_code I2.kIn J rfl o.at_ o.fn hf (codeAny_mono (F X.A X.stack s2 H2 (.ref a :: us) (.ref a :: vs) Q (E σ) (hr.mono (by omega)) I2.env0 (.cons rfl r) q2) fun r s' hq => ?_))
  cases r with
  | error e => exact hx σ pins H2 s2 e s' I2 hq
  | ok fl =>
    cases fl with
    | ret u => exact I2.after hq
    | _ => exact hq.elim
/-- o[i] -/
def rIxO (l : List (Addr × Sp)) (E : L2.St → XK) (base : R2) : R2S := fun σ x y H Q => base x y H Q ∨ ∃ (i : Nat) (C : Addr) (sp : Sp) (a dx : Addr) (fs : List (Str × V)), l[i]? = some (C, sp) ∧ x = .ref a ∧ H a = some (.ins C dx fs) ∧ sp [.ref a, y] H Q (E σ)
theorem pe_ixO {r : R2} (h : OwnMs X "__getitem__" E l) (hr : IxR X r) (ha : PE X a ta) (hb : PE X b tb) (hs : PlainIx b) (hsl : ∀ o i, subscripted b true (.ref o) i = runValue (.builtin "lifetime.subscript" ⟨[.ref o, i], []⟩)) : PE X (.Subscript a b pos) (tOpS (rIxO l E r) ta tb) := by
  refine ⟨fun pins s σ H Q I hh => ?_⟩
  refine Subscript_ (binT ha hb I hh fun v u s2 x y H2 I2 rx ry q => ?_)
  rcases q with q | ⟨i, C, sp, ad, dx, fs, hl, rfl, hA, q⟩
  · exact hr a b pins s2 σ H2 x y v u Q I2 rx ry q (hs _ _)
  · cases rx
    have M := h.at hl
    obtain ⟨CX, k, f, o, hk, hf, F, hr, hx⟩ := M.ex
    obtain ⟨mA, J, _⟩ := ins_get I2.hok hA
    obtain ⟨od, J, _⟩ := J.look
    obtain ⟨m, hF⟩ := I2.fr
    exact PySem.W.sub_K hF I2.ok.mod.kin J o.at_ hf o.fn (run_RS1 (us := [.ref ad, u]) (vs := [.ref ad, y]) F (hr.mono (by omega)) (hx σ) I2 (.cons rfl (.cons ry .nil)) q) (hsl _ _)
/-- str(o) -/
def rStrO (l : List (Addr × Sp)) : List V → Hp → VK → Prop := fun vs H Q => rStrP vs H Q ∨ ∃ (i : Nat) (C : Addr) (sp : Sp) (a dx : Addr) (fs : List (Str × V)), l[i]? = some (C, sp) ∧ vs = [.ref a] ∧ H a = some (.ins C dx fs) ∧ sp [.ref a] H (fun v H' => ∃ z, v = .str z ∧ Q (.str z) H') E0
theorem call_strO (h : OwnMs X "__str__" (fun _ => E0) l) : CallR X (.type "str") (rStrO l) := by
  intro pins s σ H vs us Q I r q
  rcases q with q | ⟨i, C, sp, a, dx, fs, hl, rfl, hA, q⟩
  · exact call_strP pins s σ H vs us Q I r q
  · obtain ⟨u, rfl, ru⟩ := vals1 r
    cases ru
    have M := h.at hl
    obtain ⟨CX, k, f, o, hk, hf, F, hr, hx⟩ := M.ex
    obtain ⟨mA, J, _⟩ := ins_get I.hok hA
    obtain ⟨od, J, _⟩ := J.look
    refine PySem.W.kso_call hr.in1.in1.units0 I.kIn J o.at_ o.fn ?_
    refine wpAny_call (codeAny_mono (F X.A.in1.in1 X.stack s H [.ref a] [.ref a] _ E0 hr.in1.in1 I.env0.in1.in1 (.cons rfl .nil) q) fun r s' hq => ?_)
    cases r with
    | error e => exact hx σ pins H s e s' I hq
    | ok fl =>
      cases fl with
      | ret u =>
        obtain ⟨v, H', I3, rv, z, ev, q3⟩ := I.after hq
        subst ev
        obtain ⟨tk, rfl⟩ := rv
        exact ⟨.str z, H', I3, ⟨tk, rfl⟩, q3⟩
      | _ => exact hq.elim
/-- sep.join(e) -/
def rJoinP (K : PySem.W.Frag) : V → List V → Hp → VK → Prop := fun x xs H Q => ∃ a p, ∃ ys : List Str, x = .str a ∧ xs = [.ref p] ∧ (SqL K H p (ys.map V.str) ∨ SqT K H p (ys.map V.str)) ∧ (ys.map (·.length)).sum + ys.length * a.length ≤ 16777216 ∧ Q (.str (Txt.join a ys)) H
theorem pe_joinP (ho : PE X o ta) (he : PE X e te) (hs : starEach [e] X.env = [(false, eval e X.env)] := by rfl) (hbase : attributeBase o "join" X.env (eval o X.env) = eval o X.env := by rfl) (hline : (apos.endLine == pos.line) = true := by rfl) :
    PE X (.Call (.Attribute o "join" apos) [e] [] pos) (tM1 (rJoinP X.K) ta te) := pe_join ho he hs hbase hline
end
end Cl
namespace Hk
open PySem PySem.Spec PySem.W PyProof.Rows L2 He
def propB (K : Frag) (C : Addr) (f : PySem.Str) : Bool := eqO (findIn K (.ref C) f) (some (some (.ref (ma K C f)))) && (eqO (specialIn K (.ref (ma K C f)) "__get__") (some (some (.builtin "property.__get__"))) && (decide (takesIn K (.ref (ma K C f)) = some true) && (match recIn K (ma K C f) "property" with | some (.ref _ :: _) => true | _ => false)))
theorem propB_ok {K : Frag} {C : Addr} {f : PySem.Str} (h : propB K C f = true) : PropOf K C f (ma K C f) (He5.wf K C "property" f) := by
  unfold propB at h
  obtain ⟨h1, h⟩ := ba h
  obtain ⟨h2, h⟩ := ba h
  obtain ⟨h3, h4⟩ := ba h
  refine ⟨eqO_ok h1, eqO_ok h2, of_decide_eq_true h3, ?_⟩
  unfold He5.wf
  split at h4
  · rename_i g r e
    exact ⟨r, by rw [e]⟩
  · cases h4
end Hk
namespace Px
open PySem PySem.Spec PyProof.Rows L2
section
variable {K : PySem.W.Frag} {σ : L2.St} {H : Hp} {Q : VK} {ta te : TE} {t : TA}
theorem s_methO {l : List (Addr × Sp)} {m : Str} {E : L2.St → XK} (h : ta σ H fun x H1 => ∃ (i : Nat) (C : Addr) (sp : Sp) (a dx : Addr) (fs : List (Str × V)), l[i]? = some (C, sp) ∧ x = .ref a ∧ H1 a = some (.ins C dx fs) ∧ fs.lookup m = none ∧ t σ H1 fun vs H2 => sp (.ref a :: vs) H2 Q (E σ)) : Cl.tMethO l m E ta t σ H Q := h
theorem s_callO {l : List (Addr × Sp)} {E : L2.St → XK} (h : ta σ H fun x H1 => ∃ a, x = .ref a ∧ t σ H1 fun vs H2 => ∃ (i : Nat) (C : Addr) (sp : Sp) (dx : Addr) (fs : List (Str × V)), l[i]? = some (C, sp) ∧ H2 a = some (.ins C dx fs) ∧ sp (.ref a :: vs) H2 Q (E σ)) : Cl.tCallO l E ta t σ H Q := h
theorem s_exr {a : Addr} {R : Addr → Prop} (h : R a) : ∃ b, (V.ref a = .ref b) ∧ R b := ⟨a, rfl, h⟩
theorem s_m1 {r : V → List V → Hp → VK → Prop} {z : Str} (h : te σ H fun y H2 => r (.str z) [y] H2 Q) : tM1 r (tC (.str z)) te σ H Q := ⟨⟨z, rfl⟩, h⟩
end
end Px
/-! C.m(e, ..), m a staticmethod of the class C -/
namespace Cl
open PySem PySem.Spec PySem.Calls PyProof.Rows L2 Px
structure SMet (K : PySem.W.Frag) (C : Addr) (m : Str) (p g : Addr) : Prop where
  rd : ClX.CRead K C (.type "type")
  at_ : PySem.W.findCls K (.ref C) (.type "type") m = some (.get (.builtin "staticmethod.__get__") (.ref p) .none (.ref C))
  rc : ∃ rest, PySem.W.recIn K p "staticmethod" = some (.ref g :: rest)
def tSMeth (C : Addr) (sp : Sp) (E : L2.St → XK) (ta : TE) (t : TA) : TE := fun σ H Q => ta σ H fun x H1 => x = .ref C ∧ t σ H1 fun vs H2 => sp vs H2 Q (E σ)
section
variable {X : Cx} {CX : CXT} {k : Nat} {C p g : Addr} {sp : Sp} {E : L2.St → XK} {o e : Expr} {es : List Expr} {m : Str} {pos apos : Pos} {ta : TE} {t : TA} {pl : Sem Bool}
theorem pe_smeth (he : PE X o ta) (c : SMet X.K C m p g) (hk : PySem.W.keepIn X.K (.ref g) = true) (F : FnR X.prog X.w X.K X.mg X.base CX k g sp) (hr : Room k X.A) (hx : ∀ σ, PassesAt CX X σ (E σ)) (ha : PA X (e :: es) t)
    (hst : starEach (e :: es) X.env = (false, eval e X.env) :: starEach es X.env := by rfl) (hpl : (backTo pos (starEach es X.env)).any (·.1) = false := by rfl)
    (ht : eval (.Call (.Attribute o m apos) (e :: es) [] pos) X.env = (do
      let ov ← eval o X.env
      standAt apos.atName
      let (f, first) ← holding [ov] (getMethod ov m pl)
      callWith pos f first (backTo pos (starEach (e :: es) X.env)) (backToKw pos (keywordEach [] X.env))) := by rfl) :
    PE X (.Call (.Attribute o m apos) (e :: es) [] pos) (tSMeth C sp E ta t) := by
  refine ⟨fun pins s σ H Q I h => ?_⟩
  refine PySem.W.methodCall_KW (pl := pl) (thn (he.run pins s σ H _ I h) fun u s1 ⟨x, H1, I1, rx, ex, q⟩ => ?_) ht
  subst ex
  obtain rfl : u = Value.ref C := rx
  obtain ⟨rest, hp⟩ := c.rc
  refine PySem.W.method_cls I1.kIn c.rd.ga (PySem.W.cls_bind I1.kIn c.rd.rd c.at_ (wpAny_call (PySem.W.sm_get (s := { s1 with toks := s1.toks + 1 }) I1.kIn hp (PySem.W.handed_on rfl ?_))))
  have I2 := I1.tok (s1.toks + 1)
  refine PySem.W.callWith_K (first := []) (h₀ := X.base) I.ok.mod.kin hk (thn (ha.run pos pins _ σ H1 _ I2 q) fun us s2 ⟨vs, H2, I3, r, q2⟩ => ⟨I3.kIn, ?_⟩) hst hpl
  exact run_RS F hr (hx σ) I3 r q2
end
end Cl
namespace Hk
open PySem PySem.Spec PySem.W PyProof.Rows L2 He
def smetB (K : Frag) (C : Addr) (m : PySem.Str) : Bool := readsIn K C (.type "type") && (eqO (specialIn K (.ref C) "__getattribute__") (some (some (.builtin "type.__getattribute__"))) && He5.wrapB K C "staticmethod" "staticmethod.__get__" m)
theorem smetB_ok {K : Frag} {C : Addr} {m : PySem.Str} (h : smetB K C m = true) : Cl.SMet K C m (ma K C m) (He5.wf K C "staticmethod" m) := by
  unfold smetB at h
  obtain ⟨h1, h⟩ := ba h
  obtain ⟨h2, h3⟩ := ba h
  obtain ⟨h4, h5⟩ := He5.wrapB_ok h3
  exact ⟨⟨h1, eqO_ok h2⟩, h4, h5⟩
end Hk
namespace Px
open PySem PySem.Spec PyProof.Rows L2
theorem s_smeth {σ : L2.St} {H : Hp} {Q : VK} {C : Addr} {sp : Sp} {E : L2.St → XK} {t : TA} (h : t σ H fun vs H2 => sp vs H2 Q (E σ)) : Cl.tSMeth C sp E (tC (.ref C)) t σ H Q := ⟨rfl, h⟩
end Px
namespace Hd
open PySem PySem.Spec PyProof.Rows L2 He Hk
def top (i : Nat) : Stmt := PySem.Challenge.pw_renamedhorn_k13_whole_turning_order_and.main.body.getD i (.Pass ⟨0, 0, 0, 0⟩)
abbrev s_is_name : Stmt := top 11
def d_is_name : DefX := ⟨fun K => ga K "is_name", "is_name", "is_name", defArgs s_is_name, defBody s_is_name, defScope s_is_name, [], []⟩
abbrev s_is_literal : Stmt := top 12
def d_is_literal : DefX := ⟨fun K => ga K "is_literal", "is_literal", "is_literal", defArgs s_is_literal, defBody s_is_literal, defScope s_is_literal, [], []⟩
abbrev s_name_of : Stmt := top 13
def d_name_of : DefX := ⟨fun K => ga K "name_of", "name_of", "name_of", defArgs s_name_of, defBody s_name_of, defScope s_name_of, [], []⟩
abbrev s_negated : Stmt := top 14
def d_negated : DefX := ⟨fun K => ga K "negated", "negated", "negated", defArgs s_negated, defBody s_negated, defScope s_negated, [], []⟩
abbrev s_ordered_names : Stmt := top 15
def d_ordered_names : DefX := ⟨fun K => ga K "ordered_names", "ordered_names", "ordered_names", defArgs s_ordered_names, defBody s_ordered_names, defScope s_ordered_names, [], []⟩
abbrev s_in_order : Stmt := top 16
def d_in_order : DefX := ⟨fun K => ga K "in_order", "in_order", "in_order", defArgs s_in_order, defBody s_in_order, defScope s_in_order, [], []⟩
abbrev s_twice_named : Stmt := top 17
def d_twice_named : DefX := ⟨fun K => ga K "twice_named", "twice_named", "twice_named", defArgs s_twice_named, defBody s_twice_named, defScope s_twice_named, [], []⟩
abbrev s_checked_facts : Stmt := top 18
def d_checked_facts : DefX := ⟨fun K => ga K "checked_facts", "checked_facts", "checked_facts", defArgs s_checked_facts, defBody s_checked_facts, defScope s_checked_facts, [], []⟩
abbrev s_names_of : Stmt := top 19
def d_names_of : DefX := ⟨fun K => ga K "names_of", "names_of", "names_of", defArgs s_names_of, defBody s_names_of, defScope s_names_of, [], []⟩
abbrev s_turned_literal : Stmt := top 23
def d_turned_literal : DefX := ⟨fun K => ga K "turned_literal", "turned_literal", "turned_literal", defArgs s_turned_literal, defBody s_turned_literal, defScope s_turned_literal, [], []⟩
abbrev s_turned_clause : Stmt := top 24
def d_turned_clause : DefX := ⟨fun K => ga K "turned_clause", "turned_clause", "turned_clause", defArgs s_turned_clause, defBody s_turned_clause, defScope s_turned_clause, [], []⟩
abbrev s_differing : Stmt := top 25
def d_differing : DefX := ⟨fun K => ga K "differing", "differing", "differing", defArgs s_differing, defBody s_differing, defScope s_differing, [], []⟩
abbrev s_comes_before : Stmt := top 26
def d_comes_before : DefX := ⟨fun K => ga K "comes_before", "comes_before", "comes_before", defArgs s_comes_before, defBody s_comes_before, defScope s_comes_before, [], []⟩
abbrev s_law_source : Stmt := top 29
def d_law_source : DefX := ⟨fun K => ga K "_law_source", "_law_source", "_law_source", defArgs s_law_source, defBody s_law_source, defScope s_law_source, [], []⟩
abbrev s_law_take : Stmt := top 30
def d_law_take : DefX := ⟨fun K => ga K "_law_take", "_law_take", "_law_take", defArgs s_law_take, defBody s_law_take, defScope s_law_take, [], []⟩
abbrev s_law_word : Stmt := top 31
def d_law_word : DefX := ⟨fun K => ga K "_law_word", "_law_word", "_law_word", defArgs s_law_word, defBody s_law_word, defScope s_law_word, [], []⟩
abbrev s_law_names : Stmt := top 32
def d_law_names : DefX := ⟨fun K => ga K "_law_names", "_law_names", "_law_names", defArgs s_law_names, defBody s_law_names, defScope s_law_names, [], []⟩
abbrev s_law_sorted : Stmt := top 33
def d_law_sorted : DefX := ⟨fun K => ga K "_law_sorted", "_law_sorted", "_law_sorted", defArgs s_law_sorted, defBody s_law_sorted, defScope s_law_sorted, [], []⟩
abbrev s_law_same : Stmt := top 34
def d_law_same : DefX := ⟨fun K => ga K "_law_same", "_law_same", "_law_same", defArgs s_law_same, defBody s_law_same, defScope s_law_same, [], []⟩
abbrev s_law_turning : Stmt := top 35
def d_law_turning : DefX := ⟨fun K => ga K "_law_turning", "_law_turning", "_law_turning", defArgs s_law_turning, defBody s_law_turning, defScope s_law_turning, [], []⟩
abbrev s_law_three : Stmt := top 36
def d_law_three : DefX := ⟨fun K => ga K "_law_three", "_law_three", "_law_three", defArgs s_law_three, defBody s_law_three, defScope s_law_three, [], []⟩
abbrev s_law_large : Stmt := top 37
def d_law_large : DefX := ⟨fun K => ga K "_law_large", "_law_large", "_law_large", defArgs s_law_large, defBody s_law_large, defScope s_law_large, [], []⟩
abbrev s_law_wide : Stmt := top 38
def d_law_wide : DefX := ⟨fun K => ga K "_law_wide", "_law_wide", "_law_wide", defArgs s_law_wide, defBody s_law_wide, defScope s_law_wide, [], []⟩
abbrev s_law_before : Stmt := top 39
def d_law_before : DefX := ⟨fun K => ga K "_law_before", "_law_before", "_law_before", defArgs s_law_before, defBody s_law_before, defScope s_law_before, [], []⟩
abbrev s_law_compared : Stmt := top 40
def d_law_compared : DefX := ⟨fun K => ga K "_law_compared", "_law_compared", "_law_compared", defArgs s_law_compared, defBody s_law_compared, defScope s_law_compared, [], []⟩
abbrev s_law_median : Stmt := top 41
def d_law_median : DefX := ⟨fun K => ga K "_law_median", "_law_median", "_law_median", defArgs s_law_median, defBody s_law_median, defScope s_law_median, [], []⟩
abbrev s_law_median_due : Stmt := top 42
def d_law_median_due : DefX := ⟨fun K => ga K "_law_median_due", "_law_median_due", "_law_median_due", defArgs s_law_median_due, defBody s_law_median_due, defScope s_law_median_due, [], []⟩
abbrev s_law_asked : Stmt := top 43
def d_law_asked : DefX := ⟨fun K => ga K "_law_asked", "_law_asked", "_law_asked", defArgs s_law_asked, defBody s_law_asked, defScope s_law_asked, [], []⟩
abbrev s_law : Stmt := top 44
def d_law : DefX := ⟨fun K => ga K "law", "law", "law", defArgs s_law, defBody s_law, defScope s_law, [], []⟩
abbrev s_Clause_init : Stmt := inClass (top 21) 1
def d_Clause_init : DefX := ⟨fun K => (ma K (ga K "Clause") "__init__"), "__init__", "Clause.__init__", defArgs s_Clause_init, defBody s_Clause_init, defScope s_Clause_init, [], []⟩
abbrev s_Clause_names : Stmt := inClass (top 21) 2
def d_Clause_names : DefX := ⟨fun K => (He5.wf K (ga K "Clause") "property" "names"), "names", "Clause.names", defArgs s_Clause_names, defBody s_Clause_names, defScope s_Clause_names, [], []⟩
abbrev s_Clause_iter : Stmt := inClass (top 21) 4
def d_Clause_iter : DefX := ⟨fun K => (ma K (ga K "Clause") "__iter__"), "__iter__", "Clause.__iter__", defArgs s_Clause_iter, defBody s_Clause_iter, defScope s_Clause_iter, [], []⟩
abbrev s_Clause_len : Stmt := inClass (top 21) 5
def d_Clause_len : DefX := ⟨fun K => (ma K (ga K "Clause") "__len__"), "__len__", "Clause.__len__", defArgs s_Clause_len, defBody s_Clause_len, defScope s_Clause_len, [], []⟩
abbrev s_Clause_contains : Stmt := inClass (top 21) 6
def d_Clause_contains : DefX := ⟨fun K => (ma K (ga K "Clause") "__contains__"), "__contains__", "Clause.__contains__", defArgs s_Clause_contains, defBody s_Clause_contains, defScope s_Clause_contains, [], []⟩
abbrev s_Clause_eq : Stmt := inClass (top 21) 7
def d_Clause_eq : DefX := ⟨fun K => (ma K (ga K "Clause") "__eq__"), "__eq__", "Clause.__eq__", defArgs s_Clause_eq, defBody s_Clause_eq, defScope s_Clause_eq, [], []⟩
abbrev s_Clause_le : Stmt := inClass (top 21) 8
def d_Clause_le : DefX := ⟨fun K => (ma K (ga K "Clause") "__le__"), "__le__", "Clause.__le__", defArgs s_Clause_le, defBody s_Clause_le, defScope s_Clause_le, [], []⟩
abbrev s_Clause_lt : Stmt := inClass (top 21) 9
def d_Clause_lt : DefX := ⟨fun K => (ma K (ga K "Clause") "__lt__"), "__lt__", "Clause.__lt__", defArgs s_Clause_lt, defBody s_Clause_lt, defScope s_Clause_lt, [], []⟩
abbrev s_Clause_or : Stmt := inClass (top 21) 10
def d_Clause_or : DefX := ⟨fun K => (ma K (ga K "Clause") "__or__"), "__or__", "Clause.__or__", defArgs s_Clause_or, defBody s_Clause_or, defScope s_Clause_or, [], []⟩
abbrev s_Clause_and : Stmt := inClass (top 21) 11
def d_Clause_and : DefX := ⟨fun K => (ma K (ga K "Clause") "__and__"), "__and__", "Clause.__and__", defArgs s_Clause_and, defBody s_Clause_and, defScope s_Clause_and, [], []⟩
abbrev s_Clause_sub : Stmt := inClass (top 21) 12
def d_Clause_sub : DefX := ⟨fun K => (ma K (ga K "Clause") "__sub__"), "__sub__", "Clause.__sub__", defArgs s_Clause_sub, defBody s_Clause_sub, defScope s_Clause_sub, [], []⟩
abbrev s_Clause_str : Stmt := inClass (top 21) 13
def d_Clause_str : DefX := ⟨fun K => (ma K (ga K "Clause") "__str__"), "__str__", "Clause.__str__", defArgs s_Clause_str, defBody s_Clause_str, defScope s_Clause_str, [], []⟩
abbrev s_Turning_init : Stmt := inClass (top 27) 1
def d_Turning_init : DefX := ⟨fun K => (ma K (ga K "Turning") "__init__"), "__init__", "Turning.__init__", defArgs s_Turning_init, defBody s_Turning_init, defScope s_Turning_init, [], []⟩
abbrev s_Turning_median : Stmt := inClass (top 27) 2
def d_Turning_median : DefX := ⟨fun K => (He5.wf K (ga K "Turning") "staticmethod" "median"), "median", "Turning.median", defArgs s_Turning_median, defBody s_Turning_median, defScope s_Turning_median, [], []⟩
abbrev s_Turning_call : Stmt := inClass (top 27) 6
def d_Turning_call : DefX := ⟨fun K => (ma K (ga K "Turning") "__call__"), "__call__", "Turning.__call__", defArgs s_Turning_call, defBody s_Turning_call, defScope s_Turning_call, [], []⟩
abbrev s_Turning_iter : Stmt := inClass (top 27) 7
def d_Turning_iter : DefX := ⟨fun K => (ma K (ga K "Turning") "__iter__"), "__iter__", "Turning.__iter__", defArgs s_Turning_iter, defBody s_Turning_iter, defScope s_Turning_iter, [], []⟩
abbrev s_Turning_len : Stmt := inClass (top 27) 8
def d_Turning_len : DefX := ⟨fun K => (ma K (ga K "Turning") "__len__"), "__len__", "Turning.__len__", defArgs s_Turning_len, defBody s_Turning_len, defScope s_Turning_len, [], []⟩
abbrev s_Turning_contains : Stmt := inClass (top 27) 9
def d_Turning_contains : DefX := ⟨fun K => (ma K (ga K "Turning") "__contains__"), "__contains__", "Turning.__contains__", defArgs s_Turning_contains, defBody s_Turning_contains, defScope s_Turning_contains, [], []⟩
abbrev s_Turning_getitem : Stmt := inClass (top 27) 10
def d_Turning_getitem : DefX := ⟨fun K => (ma K (ga K "Turning") "__getitem__"), "__getitem__", "Turning.__getitem__", defArgs s_Turning_getitem, defBody s_Turning_getitem, defScope s_Turning_getitem, [], []⟩
abbrev s_Turning_eq : Stmt := inClass (top 27) 11
def d_Turning_eq : DefX := ⟨fun K => (ma K (ga K "Turning") "__eq__"), "__eq__", "Turning.__eq__", defArgs s_Turning_eq, defBody s_Turning_eq, defScope s_Turning_eq, [], []⟩
abbrev s_Turning_lt : Stmt := inClass (top 27) 12
def d_Turning_lt : DefX := ⟨fun K => (ma K (ga K "Turning") "__lt__"), "__lt__", "Turning.__lt__", defArgs s_Turning_lt, defBody s_Turning_lt, defScope s_Turning_lt, [], []⟩
abbrev s_Turning_le : Stmt := inClass (top 27) 13
def d_Turning_le : DefX := ⟨fun K => (ma K (ga K "Turning") "__le__"), "__le__", "Turning.__le__", defArgs s_Turning_le, defBody s_Turning_le, defScope s_Turning_le, [], []⟩
abbrev s_Turning_gt : Stmt := inClass (top 27) 14
def d_Turning_gt : DefX := ⟨fun K => (ma K (ga K "Turning") "__gt__"), "__gt__", "Turning.__gt__", defArgs s_Turning_gt, defBody s_Turning_gt, defScope s_Turning_gt, [], []⟩
abbrev s_Turning_ge : Stmt := inClass (top 27) 15
def d_Turning_ge : DefX := ⟨fun K => (ma K (ga K "Turning") "__ge__"), "__ge__", "Turning.__ge__", defArgs s_Turning_ge, defBody s_Turning_ge, defScope s_Turning_ge, [], []⟩
abbrev s_Turning_xor : Stmt := inClass (top 27) 16
def d_Turning_xor : DefX := ⟨fun K => (ma K (ga K "Turning") "__xor__"), "__xor__", "Turning.__xor__", defArgs s_Turning_xor, defBody s_Turning_xor, defScope s_Turning_xor, [], []⟩
abbrev s_Turning_and : Stmt := inClass (top 27) 17
def d_Turning_and : DefX := ⟨fun K => (ma K (ga K "Turning") "__and__"), "__and__", "Turning.__and__", defArgs s_Turning_and, defBody s_Turning_and, defScope s_Turning_and, [], []⟩
abbrev s_Turning_or : Stmt := inClass (top 27) 18
def d_Turning_or : DefX := ⟨fun K => (ma K (ga K "Turning") "__or__"), "__or__", "Turning.__or__", defArgs s_Turning_or, defBody s_Turning_or, defScope s_Turning_or, [], []⟩
abbrev s_Turning_sub : Stmt := inClass (top 27) 19
def d_Turning_sub : DefX := ⟨fun K => (ma K (ga K "Turning") "__sub__"), "__sub__", "Turning.__sub__", defArgs s_Turning_sub, defBody s_Turning_sub, defScope s_Turning_sub, [], []⟩
abbrev s_Turning_str : Stmt := inClass (top 27) 20
def d_Turning_str : DefX := ⟨fun K => (ma K (ga K "Turning") "__str__"), "__str__", "Turning.__str__", defArgs s_Turning_str, defBody s_Turning_str, defScope s_Turning_str, [], []⟩
abbrev s_BadName_init : Stmt := inClass (top 3) 0
def d_BadName : ErrD := ⟨"BadName", ["text"], "BadName.__init__", defArgs s_BadName_init, defBody s_BadName_init, defScope s_BadName_init⟩
abbrev s_BadLiteral_init : Stmt := inClass (top 4) 0
def d_BadLiteral : ErrD := ⟨"BadLiteral", ["text"], "BadLiteral.__init__", defArgs s_BadLiteral_init, defBody s_BadLiteral_init, defScope s_BadLiteral_init⟩
abbrev s_BothSigns_init : Stmt := inClass (top 5) 0
def d_BothSigns : ErrD := ⟨"BothSigns", ["name"], "BothSigns.__init__", defArgs s_BothSigns_init, defBody s_BothSigns_init, defScope s_BothSigns_init⟩
abbrev s_TooMany_init : Stmt := inClass (top 6) 0
def d_TooMany : ErrD := ⟨"TooMany", ["limit"], "TooMany.__init__", defArgs s_TooMany_init, defBody s_TooMany_init, defScope s_TooMany_init⟩
def its : List Hk.It := [d_is_name.it, d_is_literal.it, d_name_of.it, d_negated.it, d_ordered_names.it, d_in_order.it, d_twice_named.it, d_checked_facts.it, d_names_of.it, d_turned_literal.it, d_turned_clause.it, d_differing.it, d_comes_before.it, d_law_source.it, d_law_take.it, d_law_word.it, d_law_names.it, d_law_sorted.it, d_law_same.it, d_law_turning.it, d_law_three.it, d_law_large.it, d_law_wide.it, d_law_before.it, d_law_compared.it, d_law_median.it, d_law_median_due.it, d_law_asked.it, d_law.it, d_Clause_init.it, d_Clause_names.it, d_Clause_iter.it, d_Clause_len.it, d_Clause_contains.it, d_Clause_eq.it, d_Clause_le.it, d_Clause_lt.it, d_Clause_or.it, d_Clause_and.it, d_Clause_sub.it, d_Clause_str.it, d_Turning_init.it, d_Turning_median.it, d_Turning_call.it, d_Turning_iter.it, d_Turning_len.it, d_Turning_contains.it, d_Turning_getitem.it, d_Turning_eq.it, d_Turning_lt.it, d_Turning_le.it, d_Turning_gt.it, d_Turning_ge.it, d_Turning_xor.it, d_Turning_and.it, d_Turning_or.it, d_Turning_sub.it, d_Turning_str.it, d_BadName.it "/claim/cut.py", d_BadLiteral.it "/claim/cut.py", d_BothSigns.it "/claim/cut.py", d_TooMany.it "/claim/cut.py"]
def fa : List Fa := [.glo "is_name", .glo "is_literal", .glo "name_of", .glo "negated", .glo "ordered_names", .glo "in_order", .glo "twice_named", .glo "checked_facts", .glo "names_of", .glo "turned_literal", .glo "turned_clause", .glo "differing", .glo "comes_before", .glo "_law_source", .glo "_law_take", .glo "_law_word", .glo "_law_names", .glo "_law_sorted", .glo "_law_same", .glo "_law_turning", .glo "_law_three", .glo "_law_large", .glo "_law_wide", .glo "_law_before", .glo "_law_compared", .glo "_law_median", .glo "_law_median_due", .glo "_law_asked", .glo "law", .glo "Clause", .cls "Clause", .mkr "Clause", .noat "Clause" "literals", .glo "Turning", .cls "Turning", .mkr "Turning", .noat "Turning" "turned", .glo "HornError", .glo "BadName", .glo "BadLiteral", .glo "BothSigns", .glo "TooMany", .str "LETTERS" "abcdefghijklmnopqrstuvwxyz", .str "SIGNS" "abcdefghijklmnopqrstuvwxyz0123456789", .int "NAME_SIZE" 8, .free "NotImplemented", .free "ValueError", .free "all", .free "bool", .free "int", .free "isinstance", .free "iter", .free "len", .free "list", .free "property", .free "range", .free "sorted", .free "staticmethod", .free "str", .free "tuple", .exm "BadName" "TooMany" false, .exm "BadLiteral" "TooMany" false, .exm "BothSigns" "TooMany" false, .exm "TooMany" "TooMany" true]
def ex : List (PySem.W.Frag → Bool) := [fun K => Hk.ownB K (ga K "Clause") "__iter__", fun K => Hk.ownB K (ga K "Clause") "__len__", fun K => Hk.ownB K (ga K "Clause") "__contains__", fun K => Hk.ownB K (ga K "Clause") "__eq__", fun K => Hk.ownB K (ga K "Clause") "__le__", fun K => Hk.ownB K (ga K "Clause") "__lt__", fun K => Hk.ownB K (ga K "Clause") "__or__", fun K => Hk.ownB K (ga K "Clause") "__and__", fun K => Hk.ownB K (ga K "Clause") "__sub__", fun K => Hk.ownB K (ga K "Clause") "__str__", fun K => Hk.ownB K (ga K "Turning") "__call__", fun K => Hk.ownB K (ga K "Turning") "__iter__", fun K => Hk.ownB K (ga K "Turning") "__len__", fun K => Hk.ownB K (ga K "Turning") "__contains__", fun K => Hk.ownB K (ga K "Turning") "__getitem__", fun K => Hk.ownB K (ga K "Turning") "__eq__", fun K => Hk.ownB K (ga K "Turning") "__lt__", fun K => Hk.ownB K (ga K "Turning") "__le__", fun K => Hk.ownB K (ga K "Turning") "__gt__", fun K => Hk.ownB K (ga K "Turning") "__ge__", fun K => Hk.ownB K (ga K "Turning") "__xor__", fun K => Hk.ownB K (ga K "Turning") "__and__", fun K => Hk.ownB K (ga K "Turning") "__or__", fun K => Hk.ownB K (ga K "Turning") "__sub__", fun K => Hk.ownB K (ga K "Turning") "__str__", fun K => Hk.propB K (ga K "Clause") "names", fun K => Hk.smetB K (ga K "Turning") "median", fun K => Hk.insKB K (ga K "Clause"), fun K => Hk.kitB K (.type "str") (.ref (ga K "Clause")) false, fun K => Hk.kitB K (.ref (ga K "Clause")) (.ref (ga K "Clause")) true, fun K => Hk.kitB K (.ref (ga K "Clause")) (.ref (ga K "Turning")) false, fun K => Hk.conB K (ga K "Clause") "LIMIT" 6, fun K => Hk.cvalB K (ga K "Clause") "LIMIT" 6, fun K => Hk.insKB K (ga K "Turning"), fun K => Hk.kitB K (.type "str") (.ref (ga K "Turning")) false, fun K => Hk.kitB K (.ref (ga K "Turning")) (.ref (ga K "Clause")) false, fun K => Hk.kitB K (.ref (ga K "Turning")) (.ref (ga K "Turning")) true, fun K => Hk.conB K (ga K "Turning") "LIMIT" 12, fun K => Hk.cvalB K (ga K "Turning") "LIMIT" 12, fun K => excCB K (ga K "TooMany"), fun K => Hk.kitB K (.ref (ga K "TooMany")) (.ref (ga K "HornError")) true, fun K => Hk.kitB K (.ref (ga K "TooMany")) (.type "ValueError") true, fun K => Hk.kitB K (.ref (ga K "TooMany")) (.ref (ga K "BadName")) false]
def loose : List PySem.Str := (["_wall", "HornError", "BadName", "BadLiteral", "BothSigns", "TooMany", "LETTERS", "SIGNS", "NAME_SIZE", "is_name", "is_literal", "name_of"] : List PySem.Str) ++ (["negated", "ordered_names", "in_order", "twice_named", "checked_facts", "names_of", "Clause", "turned_literal", "turned_clause", "differing", "comes_before", "Turning"] : List PySem.Str) ++ (["_law_source", "_law_take", "_law_word", "_law_names", "_law_sorted", "_law_same", "_law_turning", "_law_three", "_law_large", "_law_wide", "_law_before", "_law_compared"] : List PySem.Str) ++ (["_law_median", "_law_median_due", "_law_asked"] : List PySem.Str)
abbrev R : PySem.W.OpenRow := PySem.W.OpenLaw.row PySem.Challenge.rw_renamedhorn_k13_whole_turning_order_and
abbrev hk : PySem.W.Hook := hookZ 6 fa ex its
def ob (s : PySem.W.SharedT) : AlZ := obsZG 6 fa ex its (HandSHeadRun.getT s)
theorem ob_eq (s : PySem.W.SharedT) : ob s = hk.obs s.abs := obsZG_eq (HandSHeadRun.getT_eq s)
set_option maxHeartbeats 0 in
theorem run (w : World) : HandSHeadRun.RunEq R (PySem.W.view R.prog [44]) hk ob 6000 loose w := by
  intro os
  kernel_rfl
end Hd
section
open PySem PySem.Spec PyProof.Rows L2 Px
local macro_rules | `(tactic| walk_at "s") => `(tactic| first
  | with_reducible refine s_var rfl ?_
  | with_reducible (first
  | refine s_c ?_ | refine s_seq ?_ | refine s_asg ?_ | refine s_op ?_ | refine s_gname ?_ | refine s_cons ?_ | refine s_nil ?_ | refine s_cb ?_ | refine s_ifS ?_ | refine s_test ?_ | refine s_exb ?_ | refine s_ret ?_
  | refine s_eqI ?_ | refine s_addI ?_ | refine s_in0 ?_ | refine s_ltI ?_ | refine s_eqS ?_ | refine s_gsub ?_ | refine s_and ?_ | refine s_or ?_ | refine s_not ?_ | refine s_andV ?_ | refine s_orV ?_ | refine s_notV ?_ | refine s_sl ?_ | refine s_nopart ?_ | refine s_part ?_ | refine s_exi ?_
  | refine s_callS ?_ | refine s_call ?_ | refine s_drop ?_ | refine s_next ?_ | refine s_tB ?_ | refine s_lst ?_ | refine s_tup ?_ | refine s_inS ?_ | refine s_isN ?_ | refine s_yes ?_ | refine s_un ?_ | refine s_neg ?_ | refine s_ifE ?_ | refine s_retN ?_ | refine s_neS ?_ | refine s_neI ?_ | refine s_eqB ?_ | refine s_ltS ?_ | refine s_intI ?_ | refine s_rng1 ?_ | refine s_cont ?_ | refine s_break ?_ | refine s_forR ?_ | refine s_forA ?_ | refine s_lcA ?_ | refine s_lcR ?_ | refine s_bm ?_ | refine s_make ?_ | refine s_att ?_ | refine s_cls ?_ | refine s_setA ?_ | refine s_strS ?_ | refine s_opS ?_ | refine s_forO ?_ | refine s_lcO ?_ | refine s_methO ?_ | refine s_callO ?_ | refine s_exr ?_ | refine s_m1 ?_ | refine s_smeth ?_))
local macro_rules | `(tactic| walk_at "ss") => `(tactic| repeat walk_at "s")
local macro_rules | `(tactic| walk_at "sl") => `(tactic| repeat (first | walk_at "s" | ((with_reducible refine' s_ixL ?kA ?kB ?_); (case kA => first | assumption | exact upd_same); (case kB => rfl)) | ((with_reducible refine' s_setU ?kA ?_); (case kA => rfl)) | ((with_reducible refine' s_setL ?kA ?kB ?_); (case kA => assumption); (case kB => rfl))))
namespace Rd
open PySem PySem.Spec PyProof.Rows L2 He Px
/-- the law's source of numbers: the cells, the next cell, the number at hand, how often, which way -/
def Src (H : Hp) (a : Addr) : Prop := ∃ (c : Addr) (cells : List Int) (i cur cnt mode : Int), H a = some (.lst [.ref c, .int i, .int cur, .int cnt, .int mode]) ∧ H c = some (.lst (cells.map V.int)) ∧ 0 ≤ i ∧ cells.length ≤ 100
theorem Src.keep {H H' : Hp} {a : Addr} (h : Src H a) (s : Same H H') : Src H' a := by
  obtain ⟨c, cells, i, cur, cnt, mode, h1, h2, h3, h4⟩ := h
  exact ⟨c, cells, i, cur, cnt, mode, s _ _ h1, s _ _ h2, h3, h4⟩
theorem Src.but {H H' : Hp} {a b : Addr} {o : HO} (h : Src H a) (s : But b H H') (hb : H b = some o) (hn : ∀ xs, o ≠ .lst xs) : Src H' a := by
  obtain ⟨c, cells, i, cur, cnt, mode, h1, h2, h3, h4⟩ := h
  exact ⟨c, cells, i, cur, cnt, mode, s _ _ h1 (ne_of h1 hb fun e => hn _ e.symm), s _ _ h2 (ne_of h2 hb fun e => hn _ e.symm), h3, h4⟩
theorem atI_cells {cells : List Int} {i : Int} (h0 : 0 ≤ i) (h1 : ¬ ((cells.map V.int).length : Int) ≤ i) : ∃ z : Int, atI (cells.map V.int) i = some (.int z) := by
  rw [List.length_map] at h1
  have hl : i.toNat < cells.length := by omega
  refine ⟨cells[i.toNat], ?_⟩
  unfold atI ixN
  rw [if_pos h0, if_pos (by rw [List.length_map]; omega)]
  simp [hl]
theorem lg {m : Int} (h0 : 0 < m) (h1 : m ≤ 1000000000000000) : m.natAbs.log2 < 9000 := by
  have : m.natAbs ≠ 0 := by omega
  refine (Nat.log2_lt this).mpr (Nat.lt_of_lt_of_le (m := 2 ^ 60) (by omega) (Nat.pow_le_pow_right (by decide) (by decide)))
/-- the source at a went on; all else stands -/
structure Mov (a : Addr) (H H' : Hp) : Prop where
  but : But a H H'
  cell : ∀ c xs, H a = some (.lst (.ref c :: xs)) → ∃ ys, H' a = some (.lst (.ref c :: ys))
instance {a : Addr} {H H' : Hp} : CoeFun (Mov a H H') (fun _ => ∀ b o, H b = some o → b ≠ a → H' b = some o) := ⟨Mov.but⟩
theorem Mov.refl (a : Addr) (H : Hp) : Mov a H H := ⟨But.refl a H, fun _ xs h => ⟨xs, h⟩⟩
theorem Mov.trans {a : Addr} {H H1 H2 : Hp} (h1 : Mov a H H1) (h2 : Mov a H1 H2) : Mov a H H2 := ⟨h1.but.trans h2.but, fun c xs h => by
  obtain ⟨ys, h⟩ := h1.cell c xs h
  exact h2.cell c ys h⟩
theorem Mov.of_same {a : Addr} {H H1 : Hp} (h : Same H H1) : Mov a H H1 := ⟨But.of_same h, fun _ xs e => ⟨xs, h _ _ e⟩⟩
theorem Mov.of {a c : Addr} {H H1 : Hp} {xs ys : List V} (h : But a H H1) (h0 : H a = some (.lst (.ref c :: xs))) (h1 : H1 a = some (.lst (.ref c :: ys))) : Mov a H H1 := ⟨h, fun d zs e => by
  rw [h0] at e
  have e := Option.some.inj e
  injection e with e
  injection e with e _
  injection e with e
  subst e
  exact ⟨ys, h1⟩⟩
theorem Mov.un {a : Addr} {H H' : Hp} {p : Addr} (b : Mov a H H') (hn : p ≠ a) (h : H' p = none) : H p = none := by
  cases e : H p with
  | none => rfl
  | some o => rw [b _ _ e hn] at h; cases h
theorem Src.ne {H : Hp} {a p : Addr} (h : Src H a) (hp : H p = none) : p ≠ a := by
  obtain ⟨c, cells, i, cur, cnt, mode, h1, _⟩ := h
  exact fun e => by rw [e, h1] at hp; cases hp
/-- an object that is younger than the source changes -/
theorem Src.off {H H' : Hp} {a q : Addr} {o : HO} (h : Src H a) (hq : H q = none) (m : Mov a H H') (h' : Src H' a) : Src (L2.upd H' q o) a := by
  have hqa := h.ne hq
  obtain ⟨c, cells, i, cur, cnt, mode, h1, h2, _⟩ := h
  obtain ⟨c', cells', i', cur', cnt', mode', k1, k2, k3, k4⟩ := h'
  obtain ⟨ys, e⟩ := m.cell c _ h1
  rw [k1] at e
  have e := Option.some.inj e
  injection e with e
  injection e with e _
  injection e with e
  subst e
  have hc : c' ≠ q := fun z => by rw [z, hq] at h2; cases h2
  exact ⟨c', cells', i', cur', cnt', mode', by rw [upd_ne hqa.symm]; exact k1, by rw [upd_ne hc]; exact k2, k3, k4⟩
theorem Mov.put {H H' : Hp} {a q : Addr} {o : HO} (hS : Src H a) (hq : H q = none) (m : Mov a H H') : Mov a H (L2.upd H' q o) := by
  have hqa := hS.ne hq
  refine ⟨fun b u e n => ?_, fun c xs e => ?_⟩
  · rw [upd_ne (ne_of_none e hq)]
    exact m _ _ e n
  · rw [upd_ne hqa.symm]
    exact m.cell c xs e
/-- texts: a minus first, the name of a literal, its negation; names, literals -/
def dash (z : Str) : Bool := decide (cutS z none (some 1) = ("-" : Str))
def bare (z : Str) : Str := if dash z = true then cutS z (some 1) none else z
def flip (z : Str) : Str := if dash z = true then cutS z (some 1) none else ("-" : Str) ++ z
def lettersL : List Nat := ("abcdefghijklmnopqrstuvwxyz" : Str).cps.toList
def signsL : List Nat := ("abcdefghijklmnopqrstuvwxyz0123456789" : Str).cps.toList
def digitsL : List Nat := ("0123456789" : Str).cps.toList
def isNm (z : Str) : Bool := !decide (((z.length : Int) < 1)) && (!decide ((8 : Int) < (z.length : Int)) && ((match z.cps.toList with | c :: _ => decide (c ∈ lettersL) | [] => false) && z.cps.toList.all fun c => decide (c ∈ signsL)))
def isLit (z : Str) : Bool := isNm (bare z)
theorem cutS_len (z : Str) (lo hi : Option Int) : (cutS z lo hi).length ≤ z.length := by
  unfold cutS Str.length
  simp only [List.size_toArray, List.length_take, List.length_drop, Array.length_toList]
  omega
theorem bare_len (z : Str) : (bare z).length ≤ z.length := by
  unfold bare
  split
  · exact cutS_len _ _ _
  · exact Nat.le_refl _
theorem len_toList (z : Str) : z.cps.toList.length = z.length := by simp [Str.length]
theorem app_len (a b : Str) : (a ++ b).length = a.length + b.length := by
  show (a.cps ++ b.cps).size = a.cps.size + b.cps.size
  simp
theorem at0 {z : Str} (h : ¬ ((z.length : Int) < 1)) : ∃ c r, z.cps.toList = c :: r ∧ atI z.cps.toList 0 = some c := by
  have hl := len_toList z
  cases e : z.cps.toList with
  | nil => rw [e] at hl; simp at hl; omega
  | cons c r =>
    refine ⟨c, r, rfl, ?_⟩
    unfold atI ixN
    rw [if_pos (by decide), if_pos (by simp)]
    rfl
theorem signs_split (c : Nat) : decide (c ∈ signsL) = (decide (c ∈ lettersL) || decide (c ∈ digitsL)) := by
  have e : signsL = lettersL ++ digitsL := by decide +kernel
  rw [e, Bool.eq_iff_iff]
  simp
theorem at_ex {l : List Nat} {r : Int} (h0 : 0 ≤ r) (h1 : r < (l.length : Int)) : ∃ c, c ∈ l ∧ atI l r = some c := by
  have hl : r.toNat < l.length := by omega
  refine ⟨l[r.toNat], List.getElem_mem hl, ?_⟩
  unfold atI ixN
  rw [if_pos h0, if_pos h1]
  simp [hl]
theorem app_toList (a b : Str) : (a ++ b).cps.toList = a.cps.toList ++ b.cps.toList := by
  show (a.cps ++ b.cps).toList = _
  simp
/-- a letter, then letters and digits -/
def Wrd (z : Str) : Prop := ∃ c r, z.cps.toList = c :: r ∧ c ∈ lettersL ∧ ∀ x ∈ r, x ∈ signsL
theorem letters_signs {c : Nat} (h : c ∈ lettersL) : c ∈ signsL := by
  have e : signsL = lettersL ++ digitsL := by decide +kernel
  rw [e]
  exact List.mem_append_left _ h
theorem Wrd.nm {z : Str} (h : Wrd z) (hl : z.length ≤ 8) : isNm z = true := by
  obtain ⟨c, r, e, h1, h2⟩ := h
  have hn := len_toList z
  rw [e] at hn
  unfold isNm
  rw [decide_eq_false (by simp at hn; omega), decide_eq_false (by omega), e]
  show (true && (true && (decide (c ∈ lettersL) && (c :: r).all fun c => decide (c ∈ signsL)))) = true
  rw [decide_eq_true h1]
  simp only [Bool.true_and, List.all_eq_true, decide_eq_true_eq]
  intro x hx
  rcases List.mem_cons.mp hx with rfl | hx
  · exact letters_signs h1
  · exact h2 x hx
theorem Wrd.add {z : Str} {c : Nat} (h : Wrd z) (hc : c ∈ signsL) : Wrd (z ++ ⟨#[c]⟩) := by
  obtain ⟨d, r, e, h1, h2⟩ := h
  refine ⟨d, r ++ [c], ?_, h1, fun x hx => ?_⟩
  · rw [app_toList, e]
    rfl
  · rcases List.mem_append.mp hx with hx | hx
    · exact h2 x hx
    · have : x = c := by simpa using hx
      rw [this]; exact hc
theorem Wrd.one {c : Nat} (h : c ∈ lettersL) : Wrd ⟨#[c]⟩ := ⟨c, [], rfl, h, fun _ hx => nomatch hx⟩
def signs2L : List Nat := ("0123456789abcdefghijklmnopqrstuvwxyz" : Str).cps.toList
theorem signs2_in {c : Nat} (h : c ∈ signs2L) : c ∈ signsL := by
  have e : signs2L = digitsL ++ lettersL := by decide +kernel
  rw [e] at h
  have e2 : signsL = lettersL ++ digitsL := by decide +kernel
  rw [e2]
  rcases List.mem_append.mp h with h | h
  · exact List.mem_append_right _ h
  · exact List.mem_append_left _ h
theorem fmod_b (z m : Int) (hm : 0 < m) : 0 ≤ z.fmod m ∧ z.fmod m < m := ⟨Int.fmod_nonneg_of_pos z hm, Int.fmod_lt_of_pos z hm⟩
theorem cut_tail (z : Str) : (cutS z (some 1) none).cps.toList = z.cps.toList.drop 1 := by
  unfold cutS
  have e : HT.sIx z.length 0 (some 1) = min 1 z.length := HT.sIx_nat z.length 0 1
  rw [e, HT.sIx_none]
  have hl := len_toList z
  show List.take (z.length - min 1 z.length) (List.drop (min 1 z.length) z.cps.toList) = _
  cases hz : z.cps.toList with
  | nil => simp
  | cons c r =>
    rw [hz] at hl
    have : min 1 z.length = 1 := by rw [← hl]; simp
    rw [this, List.take_of_length_le (by simp at hl ⊢; omega)]
theorem cut_head (z : Str) : (cutS z none (some 1)).cps.toList = z.cps.toList.take 1 := by
  unfold cutS
  have e : HT.sIx z.length z.length (some 1) = min 1 z.length := HT.sIx_nat z.length z.length 1
  rw [e, HT.sIx_none]
  show List.take (min 1 z.length - 0) (List.drop 0 z.cps.toList) = _
  have hl := len_toList z
  cases hz : z.cps.toList with
  | nil => simp
  | cons c r =>
    rw [hz] at hl
    have : min 1 z.length = 1 := by rw [← hl]; simp
    rw [this]
    rfl
theorem str_ext {a b : Str} (h : a.cps.toList = b.cps.toList) : a = b := by
  obtain ⟨x⟩ := a
  obtain ⟨y⟩ := b
  have : x = y := by
    obtain ⟨l⟩ := x
    obtain ⟨m⟩ := y
    simp at h
    rw [h]
  rw [this]
theorem dash_iff (z : Str) : dash z = true ↔ ∃ r, z.cps.toList = 45 :: r := by
  have h45 : ("-" : Str).cps.toList = [45] := by decide +kernel
  unfold dash
  rw [decide_eq_true_iff]
  constructor
  · intro h
    have e := cut_head z
    rw [h, h45] at e
    cases hz : z.cps.toList with
    | nil => rw [hz] at e; cases e
    | cons c r =>
      rw [hz] at e
      have : c = 45 := by simpa using e.symm
      exact ⟨r, by rw [this]⟩
  · rintro ⟨r, h⟩
    apply str_ext
    rw [cut_head, h, h45]
    rfl
theorem bare_self (z : Str) : (!dash z) = decide (bare z = z) := by
  unfold bare
  cases hd : dash z with
  | false => simp
  | true =>
    rw [if_pos rfl]
    obtain ⟨r, h⟩ := (dash_iff z).mp hd
    have : cutS z (some 1) none ≠ z := by
      intro e
      have e2 := congrArg (fun s : Str => s.cps.toList.length) e
      simp only [cut_tail, h] at e2
      simp at e2
    rw [decide_eq_false this]
    rfl
/-! data as a whole -/
mutual
inductive Is (H : Hp) : V → PyData → Prop
  | non : Is H .non .none
  | bl (b : Bool) : Is H (.bl b) (.bool b)
  | int (i : Int) : Is H (.int i) (.int i)
  | str (x : Str) : Is H (.str x) (.str x)
  | lst {a : Addr} {xs : List V} {ds : List PyData} : H a = some (.lst xs) → IsAll H xs ds → Is H (.ref a) (.list ds)
  | tup {a : Addr} {xs : List V} {ds : List PyData} : H a = some (.tup xs) → IsAll H xs ds → Is H (.ref a) (.tuple ds)
inductive IsAll (H : Hp) : List V → List PyData → Prop
  | nil : IsAll H [] []
  | cons {v : V} {vs : List V} {d : PyData} {ds : List PyData} : Is H v d → IsAll H vs ds → IsAll H (v :: vs) (d :: ds)
end
mutual
theorem Is.keep {H H' : Hp} (s : Same H H') : ∀ {v : V} {d : PyData}, Is H v d → Is H' v d
  | _, _, .non => .non
  | _, _, .bl b => .bl b
  | _, _, .int i => .int i
  | _, _, .str x => .str x
  | _, _, .lst h r => .lst (s _ _ h) (IsAll.keep s r)
  | _, _, .tup h r => .tup (s _ _ h) (IsAll.keep s r)
theorem IsAll.keep {H H' : Hp} (s : Same H H') : ∀ {vs : List V} {ds : List PyData}, IsAll H vs ds → IsAll H' vs ds
  | _, _, .nil => .nil
  | _, _, .cons h r => .cons (Is.keep s h) (IsAll.keep s r)
end
theorem IsAll.len {H : Hp} : ∀ {vs : List V} {ds : List PyData}, IsAll H vs ds → vs.length = ds.length
  | _, _, .nil => rfl
  | _, _, .cons _ r => congrArg (· + 1) r.len
theorem IsAll.at {H : Hp} : ∀ {vs : List V} {ds : List PyData} {i : Nat}, IsAll H vs ds → i < ds.length → ∃ v d, vs[i]? = some v ∧ ds[i]? = some d ∧ Is H v d
  | _, _, i, .nil, h => absurd h (by simp)
  | v :: vs, d :: ds, 0, .cons h _, _ => ⟨v, d, rfl, rfl, h⟩
  | v :: vs, d :: ds, i + 1, .cons _ r, h => by
    obtain ⟨v', d', h1, h2, h3⟩ := r.at (i := i) (by simpa using h)
    exact ⟨v', d', by simpa using h1, by simpa using h2, h3⟩
theorem IsAll.strs {H : Hp} : ∀ l : List Str, IsAll H (l.map V.str) (l.map PyData.str)
  | [] => .nil
  | x :: r => .cons (.str x) (IsAll.strs r)
theorem IsAll.ints {H : Hp} : ∀ l : List Int, IsAll H (l.map V.int) (l.map PyData.int)
  | [] => .nil
  | x :: r => .cons (.int x) (IsAll.ints r)
/-- depth at most n, no list longer than a million -/
def Fits : Nat → PyData → Prop
  | _, .none => True
  | _, .bool _ => True
  | _, .int _ => True
  | _, .str _ => True
  | 0, .list _ => False
  | 0, .tuple _ => False
  | n + 1, .list ds => ds.length ≤ 1000000 ∧ ∀ d ∈ ds, Fits n d
  | n + 1, .tuple ds => ds.length ≤ 1000000 ∧ ∀ d ∈ ds, Fits n d
  | _, .dict _ => False
noncomputable def sameB (d e : PyData) : Bool := @decide (d = e) (Classical.propDecidable _)
theorem sameB_eq {d e : PyData} (h : d = e) : sameB d e = true := by unfold sameB; simp [h]
theorem sameB_ne {d e : PyData} (h : d ≠ e) : sameB d e = false := by unfold sameB; simp [h]
theorem sameB_bool (a b : Bool) : sameB (.bool a) (.bool b) = decide (a = b) := by
  by_cases h : a = b
  · rw [sameB_eq (by rw [h]), decide_eq_true h]
  · rw [sameB_ne (by simpa using h), decide_eq_false h]
theorem sameB_int (a b : Int) : sameB (.int a) (.int b) = decide (a = b) := by
  by_cases h : a = b
  · rw [sameB_eq (by rw [h]), decide_eq_true h]
  · rw [sameB_ne (by simpa using h), decide_eq_false h]
theorem sameB_str (a b : Str) : sameB (.str a) (.str b) = decide (a = b) := by
  by_cases h : a = b
  · rw [sameB_eq (by rw [h]), decide_eq_true h]
  · rw [sameB_ne (by simpa using h), decide_eq_false h]
theorem same_all : ∀ {xs ys : List PyData}, xs.length = ys.length → ((List.range xs.length).all fun i => sameB (xs.getD i .none) (ys.getD i .none)) = @decide (xs = ys) (Classical.propDecidable _) := by
  intro xs ys hl
  by_cases h : xs = ys
  · subst h
    simp only [decide_true, List.all_eq_true, List.mem_range]
    exact fun i _ => sameB_eq rfl
  · rw [show @decide (xs = ys) (Classical.propDecidable _) = false by simp [h]]
    rw [Bool.eq_false_iff]
    intro ha
    apply h
    simp only [List.all_eq_true, List.mem_range] at ha
    refine List.ext_getElem hl fun i h1 h2 => ?_
    have := ha i h1
    by_cases hi : xs.getD i .none = ys.getD i .none
    · simpa [List.getD, h1, h2] using hi
    · rw [sameB_ne hi] at this
      cases this
theorem sameB_list {xs ys : List PyData} (hl : xs.length = ys.length) : sameB (.list xs) (.list ys) = ((List.range xs.length).all fun i => sameB (xs.getD i .none) (ys.getD i .none)) := by
  rw [same_all hl]
  by_cases h : xs = ys
  · rw [sameB_eq (by rw [h])]; simp [h]
  · rw [sameB_ne (by simpa using h)]; simp [h]
theorem sameB_tuple {xs ys : List PyData} (hl : xs.length = ys.length) : sameB (.tuple xs) (.tuple ys) = ((List.range xs.length).all fun i => sameB (xs.getD i .none) (ys.getD i .none)) := by
  rw [same_all hl]
  by_cases h : xs = ys
  · rw [sameB_eq (by rw [h])]; simp [h]
  · rw [sameB_ne (by simpa using h)]; simp [h]
/-- isinstance of data -/
def isBoolD : PyData → Bool
  | .none => false
  | .bool _ => true
  | .int _ => false
  | .str _ => false
  | .list _ => false
  | .tuple _ => false
  | .dict _ => false
theorem isi_bool {K : PySem.W.Frag} {H : Hp} {Q : VK} {x : V} {d : PyData} (h : Is H x d) (q : Q (.bl (isBoolD d)) H) : rIsi K [x, .ty "bool"] H Q := by
  cases h with
  | non => exact ⟨_, .ty "bool", _, _, false, rfl, .ty _, .base (.non), kit_ty (show kitB "NoneType" "bool" = some false by decide +kernel), q⟩
  | bl b => exact ⟨_, .ty "bool", _, _, true, rfl, .ty _, .base (.bl b), kit_ty (show kitB "bool" "bool" = some true by decide +kernel), q⟩
  | int i => exact ⟨_, .ty "bool", _, _, false, rfl, .ty _, .base (.int i), kit_ty (show kitB "int" "bool" = some false by decide +kernel), q⟩
  | str z => exact ⟨_, .ty "bool", _, _, false, rfl, .ty _, .base (.str z), kit_ty (show kitB "str" "bool" = some false by decide +kernel), q⟩
  | lst e r => exact ⟨_, .ty "bool", _, _, false, rfl, .ty _, .base (.lst e), kit_ty (show kitB "list" "bool" = some false by decide +kernel), q⟩
  | tup e r => exact ⟨_, .ty "bool", _, _, false, rfl, .ty _, .base (.tup e), kit_ty (show kitB "tuple" "bool" = some false by decide +kernel), q⟩
def isIntD : PyData → Bool
  | .none => false
  | .bool _ => true
  | .int _ => true
  | .str _ => false
  | .list _ => false
  | .tuple _ => false
  | .dict _ => false
theorem isi_int {K : PySem.W.Frag} {H : Hp} {Q : VK} {x : V} {d : PyData} (h : Is H x d) (q : Q (.bl (isIntD d)) H) : rIsi K [x, .ty "int"] H Q := by
  cases h with
  | non => exact ⟨_, .ty "int", _, _, false, rfl, .ty _, .base (.non), kit_ty (show kitB "NoneType" "int" = some false by decide +kernel), q⟩
  | bl b => exact ⟨_, .ty "int", _, _, true, rfl, .ty _, .base (.bl b), kit_ty (show kitB "bool" "int" = some true by decide +kernel), q⟩
  | int i => exact ⟨_, .ty "int", _, _, true, rfl, .ty _, .base (.int i), kit_ty (show kitB "int" "int" = some true by decide +kernel), q⟩
  | str z => exact ⟨_, .ty "int", _, _, false, rfl, .ty _, .base (.str z), kit_ty (show kitB "str" "int" = some false by decide +kernel), q⟩
  | lst e r => exact ⟨_, .ty "int", _, _, false, rfl, .ty _, .base (.lst e), kit_ty (show kitB "list" "int" = some false by decide +kernel), q⟩
  | tup e r => exact ⟨_, .ty "int", _, _, false, rfl, .ty _, .base (.tup e), kit_ty (show kitB "tuple" "int" = some false by decide +kernel), q⟩
def isStrD : PyData → Bool
  | .none => false
  | .bool _ => false
  | .int _ => false
  | .str _ => true
  | .list _ => false
  | .tuple _ => false
  | .dict _ => false
theorem isi_str {K : PySem.W.Frag} {H : Hp} {Q : VK} {x : V} {d : PyData} (h : Is H x d) (q : Q (.bl (isStrD d)) H) : rIsi K [x, .ty "str"] H Q := by
  cases h with
  | non => exact ⟨_, .ty "str", _, _, false, rfl, .ty _, .base (.non), kit_ty (show kitB "NoneType" "str" = some false by decide +kernel), q⟩
  | bl b => exact ⟨_, .ty "str", _, _, false, rfl, .ty _, .base (.bl b), kit_ty (show kitB "bool" "str" = some false by decide +kernel), q⟩
  | int i => exact ⟨_, .ty "str", _, _, false, rfl, .ty _, .base (.int i), kit_ty (show kitB "int" "str" = some false by decide +kernel), q⟩
  | str z => exact ⟨_, .ty "str", _, _, true, rfl, .ty _, .base (.str z), kit_ty (show kitB "str" "str" = some true by decide +kernel), q⟩
  | lst e r => exact ⟨_, .ty "str", _, _, false, rfl, .ty _, .base (.lst e), kit_ty (show kitB "list" "str" = some false by decide +kernel), q⟩
  | tup e r => exact ⟨_, .ty "str", _, _, false, rfl, .ty _, .base (.tup e), kit_ty (show kitB "tuple" "str" = some false by decide +kernel), q⟩
def isListD : PyData → Bool
  | .none => false
  | .bool _ => false
  | .int _ => false
  | .str _ => false
  | .list _ => true
  | .tuple _ => false
  | .dict _ => false
theorem isi_list {K : PySem.W.Frag} {H : Hp} {Q : VK} {x : V} {d : PyData} (h : Is H x d) (q : Q (.bl (isListD d)) H) : rIsi K [x, .ty "list"] H Q := by
  cases h with
  | non => exact ⟨_, .ty "list", _, _, false, rfl, .ty _, .base (.non), kit_ty (show kitB "NoneType" "list" = some false by decide +kernel), q⟩
  | bl b => exact ⟨_, .ty "list", _, _, false, rfl, .ty _, .base (.bl b), kit_ty (show kitB "bool" "list" = some false by decide +kernel), q⟩
  | int i => exact ⟨_, .ty "list", _, _, false, rfl, .ty _, .base (.int i), kit_ty (show kitB "int" "list" = some false by decide +kernel), q⟩
  | str z => exact ⟨_, .ty "list", _, _, false, rfl, .ty _, .base (.str z), kit_ty (show kitB "str" "list" = some false by decide +kernel), q⟩
  | lst e r => exact ⟨_, .ty "list", _, _, true, rfl, .ty _, .base (.lst e), kit_ty (show kitB "list" "list" = some true by decide +kernel), q⟩
  | tup e r => exact ⟨_, .ty "list", _, _, false, rfl, .ty _, .base (.tup e), kit_ty (show kitB "tuple" "list" = some false by decide +kernel), q⟩
def isTupleD : PyData → Bool
  | .none => false
  | .bool _ => false
  | .int _ => false
  | .str _ => false
  | .list _ => false
  | .tuple _ => true
  | .dict _ => false
theorem isi_tuple {K : PySem.W.Frag} {H : Hp} {Q : VK} {x : V} {d : PyData} (h : Is H x d) (q : Q (.bl (isTupleD d)) H) : rIsi K [x, .ty "tuple"] H Q := by
  cases h with
  | non => exact ⟨_, .ty "tuple", _, _, false, rfl, .ty _, .base (.non), kit_ty (show kitB "NoneType" "tuple" = some false by decide +kernel), q⟩
  | bl b => exact ⟨_, .ty "tuple", _, _, false, rfl, .ty _, .base (.bl b), kit_ty (show kitB "bool" "tuple" = some false by decide +kernel), q⟩
  | int i => exact ⟨_, .ty "tuple", _, _, false, rfl, .ty _, .base (.int i), kit_ty (show kitB "int" "tuple" = some false by decide +kernel), q⟩
  | str z => exact ⟨_, .ty "tuple", _, _, false, rfl, .ty _, .base (.str z), kit_ty (show kitB "str" "tuple" = some false by decide +kernel), q⟩
  | lst e r => exact ⟨_, .ty "tuple", _, _, false, rfl, .ty _, .base (.lst e), kit_ty (show kitB "list" "tuple" = some false by decide +kernel), q⟩
  | tup e r => exact ⟨_, .ty "tuple", _, _, true, rfl, .ty _, .base (.tup e), kit_ty (show kitB "tuple" "tuple" = some true by decide +kernel), q⟩
end Rd
namespace Rd
open PySem PySem.Spec PyProof.Rows L2 He Px
def spn_law_same (K : PySem.W.Frag) (n : Nat) : Sp := Sp2 fun x y H Q _ => ∃ d e : PyData, Is H x d ∧ Is H y e ∧ Fits n d ∧ ∀ H', Same H H' → Q (.bl (sameB d e)) H'
def sp_law_same (K : PySem.W.Frag) : Sp := spn_law_same K 4
def spR_law_same (K : PySem.W.Frag) : Nat → Sp
  | 0 => fun _ _ _ _ => False
  | n + 1 => spn_law_same K n
def N_law_same : List PySem.Str := ["_law_one", "_law_other", "_law_lists", "_law_k"]
def t_law_same (K : PySem.W.Frag) (R : Sp) (W : WX) : TS := (tCut (tIfS (tOr (tB (tCB (rIsi K) (tCons (tVar 0) (tCons (tC (.ty "bool")) tNil)))) (tB (tCB (rIsi K) (tCons (tVar 1) (tCons (tC (.ty "bool")) tNil))))) (tRet (tAndV (tCB (rIsi K) (tCons (tVar 0) (tCons (tC (.ty "bool")) tNil))) (tAndV (tCB (rIsi K) (tCons (tVar 1) (tCons (tC (.ty "bool")) tNil))) (tOp (rEqP K) (tVar 0) (tVar 1))))) tNext)
    (tCut (tIfS (tOr (tB (tCB (rIsi K) (tCons (tVar 0) (tCons (tC (.ty "int")) tNil)))) (tB (tCB (rIsi K) (tCons (tVar 1) (tCons (tC (.ty "int")) tNil))))) (tRet (tAndV (tCB (rIsi K) (tCons (tVar 0) (tCons (tC (.ty "int")) tNil))) (tAndV (tCB (rIsi K) (tCons (tVar 1) (tCons (tC (.ty "int")) tNil))) (tOp (rEqP K) (tVar 0) (tVar 1))))) tNext)
    (tCut (tIfS (tOr (tB (tCB (rIsi K) (tCons (tVar 0) (tCons (tC (.ty "str")) tNil)))) (tB (tCB (rIsi K) (tCons (tVar 1) (tCons (tC (.ty "str")) tNil))))) (tRet (tAndV (tCB (rIsi K) (tCons (tVar 0) (tCons (tC (.ty "str")) tNil))) (tAndV (tCB (rIsi K) (tCons (tVar 1) (tCons (tC (.ty "str")) tNil))) (tOp (rEqP K) (tVar 0) (tVar 1))))) tNext)
    (tSeq (tAsg (tAndV (tCB (rIsi K) (tCons (tVar 0) (tCons (tC (.ty "list")) tNil))) (tCB (rIsi K) (tCons (tVar 1) (tCons (tC (.ty "list")) tNil)))) (gName 2))
    (tCut (tIfS (tAnd (tNot (tB (tVar 2))) (tNot (tAnd (tB (tCB (rIsi K) (tCons (tVar 0) (tCons (tC (.ty "tuple")) tNil)))) (tB (tCB (rIsi K) (tCons (tVar 1) (tCons (tC (.ty "tuple")) tNil))))))) (tRet (tAndV (tOp (rIsP false) (tVar 0) (tC .non)) (tOp (rIsP false) (tVar 1) (tC .non)))) tNext)
    (tRet (tAndV (tOp (rEqP K) (tCB (rLenP K) (tCons (tVar 0) tNil)) (tCB (rLenP K) (tCons (tVar 1) tNil))) (tCB (rAll K) (tCons (tLc (iRng1 (tCons (tCB (rLenP K) (tCons (tVar 0) tNil)) tNil)) (gName 3) tYes (tCall R [] E0 (tCons (tOp (rIxP K) (tVar 0) (tVar 3)) (tCons (tOp (rIxP K) (tVar 1) (tVar 3)) tNil))) [3]) tNil)))))))))
local macro_rules | `(tactic| walk_at "same") => `(tactic| repeat (first | walk_at "s" | (with_reducible refine isi_bool (by assumption) ?_) | (with_reducible refine isi_int (by assumption) ?_) | (with_reducible refine isi_str (by assumption) ?_) | (with_reducible refine isi_list (by assumption) ?_) | (with_reducible refine isi_tuple (by assumption) ?_) | (refine s_itF rfl ?_) | (refine s_itT rfl ?_) | (with_reducible refine s_nocut ?_)))
theorem pure_law_same {K : PySem.W.Frag} {n : Nat} {vs : List V} {H : Hp} {Q : VK} {E : XK} {W : WX} (h : spn_law_same K n vs H Q E) : t_law_same K (spR_law_same K n) W { nx := fun _ H' => Q .non H', rt := Q } (start N_law_same vs) H := by
  obtain ⟨x, y, rfl, d, e, hd, he, hf, hq⟩ := h
  show t_law_same K _ W _ [some x, some y, none, none] H
  unfold t_law_same
  have q0 := hq H (Same.refl H)
  have no : d ≠ e → Q (.bl false) H := fun e1 => by rw [sameB_ne e1] at q0; exact q0
  have hy : ∀ {z : V} {f : PyData}, Is H z f → match f with
    | .none => z = .non
    | .bool b => z = .bl b
    | .int i => z = .int i
    | .str s => z = .str s
    | .list ds => ∃ a xs, z = .ref a ∧ H a = some (.lst xs) ∧ IsAll H xs ds
    | .tuple ds => ∃ a xs, z = .ref a ∧ H a = some (.tup xs) ∧ IsAll H xs ds
    | .dict _ => False := by
    intro z f h
    cases h with
    | lst h1 h2 => exact ⟨_, _, rfl, h1, h2⟩
    | tup h1 h2 => exact ⟨_, _, rfl, h1, h2⟩
    | _ => rfl
  have hX := hy hd
  have hY := hy he
  cases d with
  | none =>
    cases e with
    | none =>
      have hX : x = .non := hX
      have hY : y = .non := hY
      subst hX hY
      walk_at "same"
      rw [sameB_eq rfl] at q0
      exact q0
    | list es =>
      obtain ⟨b, ys, rfl, hb, hys⟩ := hY
      have hX : x = .non := hX
      subst hX
      walk_at "same"
      exact no (fun h => by cases h)
    | tuple es =>
      obtain ⟨b, ys, rfl, hb, hys⟩ := hY
      have hX : x = .non := hX
      subst hX
      walk_at "same"
      exact no (fun h => by cases h)
    | dict _ => exact False.elim hY
    | _ =>
      walk_at "same"
      exact no (fun h => by cases h)
  | bool a =>
    cases e with
    | bool b =>
      have hX : x = .bl a := hX
      have hY : y = .bl b := hY
      subst hX hY
      walk_at "same"
      rw [sameB_bool] at q0
      exact q0
    | dict _ => exact False.elim hY
    | _ =>
      walk_at "same"
      exact no (fun h => by cases h)
  | int a =>
    cases e with
    | int b =>
      have hX : x = .int a := hX
      have hY : y = .int b := hY
      subst hX hY
      walk_at "same"
      rw [sameB_int] at q0
      exact q0
    | dict _ => exact False.elim hY
    | _ =>
      walk_at "same"
      exact no (fun h => by cases h)
  | str a =>
    cases e with
    | str b =>
      have hX : x = .str a := hX
      have hY : y = .str b := hY
      subst hX hY
      walk_at "same"
      rw [sameB_str] at q0
      exact q0
    | dict _ => exact False.elim hY
    | _ =>
      walk_at "same"
      exact no (fun h => by cases h)
  | list ds =>
    obtain ⟨a, xs, rfl, ha, hxs⟩ := hX
    cases n with
    | zero => exact False.elim hf
    | succ n =>
    cases e with
    | list es =>
      obtain ⟨b, ys, rfl, hb, hys⟩ := hY
      walk_at "same"
      have e1 := hxs.len
      have e2 := hys.len
      have fin : ∀ H', Same H H' → Q (.bl (@decide (ds = es) (Classical.propDecidable _))) H' := fun H' s => by
        have w := hq H' s
        have e1 : sameB (.list ds) (.list es) = @decide (ds = es) (Classical.propDecidable _) := by
          by_cases h : ds = es
          · rw [sameB_eq (by rw [h])]; simp [h]
          · rw [sameB_ne (by simpa using h)]; simp [h]
        rw [e1] at w
        exact w
      have hL := hf.1
      refine s_lenL ha ?_
      walk_at "ss"
      refine s_lenL hb ?_
      walk_at "ss"
      refine s_itd (fun e => ?_) (fun e => ?_)
      · have hl : ds.length = es.length := by omega
        walk_at "ss"
        refine s_lenL ha ?_
        walk_at "ss"
        refine lcr_map (fun x => match x with | .int i => .bl (sameB (ds.getD i.toNat .none) (es.getD i.toNat .none)) | _ => .non) (by omega) (by omega) ?_ ?_
        · intro i hi H' s1 Q' hQ
          obtain ⟨v, d, h1, h2, h3⟩ := hxs.at (i := i) (by omega)
          obtain ⟨w, e', g1, g2, g3⟩ := hys.at (i := i) (by omega)
          walk_at "ss"
          refine s_ixL (s1 _ _ ha) (v := v) (atI_nat h1) ?_
          walk_at "ss"
          refine s_ixL (s1 _ _ hb) (v := w) (atI_nat g1) ?_
          walk_at "ss"
          refine ⟨_, _, rfl, d, e', h3.keep s1, g3.keep s1, hf.2 d (List.mem_of_getElem? h2), fun H2 s2 => ?_⟩
          have k1 : ds.getD i .none = d := by simp [List.getD, h2]
          have k2 : es.getD i .none = e' := by simp [List.getD, g2]
          have k3 : Q' (.bl (sameB (ds.getD i .none) (es.getD i .none))) H2 := hQ H2 s2
          rw [k1, k2] at k3
          exact k3
        · intro D H' hD s1 hl'
          walk_at "ss"
          refine s_all (bs := (List.range ds.length).map fun i => sameB (ds.getD i .none) (es.getD i .none)) ?_ ?_
          · rw [hl', List.map_map, ← e1]
            rfl
          · have := fin H' s1
            rw [← same_all hl] at this
            rw [List.all_map]
            exact this
      · have := fin H (Same.refl H)
        rw [show @decide (ds = es) (Classical.propDecidable _) = false by simp; intro h; apply e; rw [e1, e2, h]] at this
        exact this
    | dict _ => exact False.elim hY
    | _ =>
      walk_at "same"
      exact no (fun h => by cases h)
  | tuple ds =>
    obtain ⟨a, xs, rfl, ha, hxs⟩ := hX
    cases n with
    | zero => exact False.elim hf
    | succ n =>
    cases e with
    | tuple es =>
      obtain ⟨b, ys, rfl, hb, hys⟩ := hY
      walk_at "same"
      have e1 := hxs.len
      have e2 := hys.len
      have fin : ∀ H', Same H H' → Q (.bl (@decide (ds = es) (Classical.propDecidable _))) H' := fun H' s => by
        have w := hq H' s
        have e1 : sameB (.tuple ds) (.tuple es) = @decide (ds = es) (Classical.propDecidable _) := by
          by_cases h : ds = es
          · rw [sameB_eq (by rw [h])]; simp [h]
          · rw [sameB_ne (by simpa using h)]; simp [h]
        rw [e1] at w
        exact w
      have hL := hf.1
      refine s_lenT ha ?_
      walk_at "ss"
      refine s_lenT hb ?_
      walk_at "ss"
      refine s_itd (fun e => ?_) (fun e => ?_)
      · have hl : ds.length = es.length := by omega
        walk_at "ss"
        refine s_lenT ha ?_
        walk_at "ss"
        refine lcr_map (fun x => match x with | .int i => .bl (sameB (ds.getD i.toNat .none) (es.getD i.toNat .none)) | _ => .non) (by omega) (by omega) ?_ ?_
        · intro i hi H' s1 Q' hQ
          obtain ⟨v, d, h1, h2, h3⟩ := hxs.at (i := i) (by omega)
          obtain ⟨w, e', g1, g2, g3⟩ := hys.at (i := i) (by omega)
          walk_at "ss"
          refine s_ixT (s1 _ _ ha) (v := v) (atI_nat h1) ?_
          walk_at "ss"
          refine s_ixT (s1 _ _ hb) (v := w) (atI_nat g1) ?_
          walk_at "ss"
          refine ⟨_, _, rfl, d, e', h3.keep s1, g3.keep s1, hf.2 d (List.mem_of_getElem? h2), fun H2 s2 => ?_⟩
          have k1 : ds.getD i .none = d := by simp [List.getD, h2]
          have k2 : es.getD i .none = e' := by simp [List.getD, g2]
          have k3 : Q' (.bl (sameB (ds.getD i .none) (es.getD i .none))) H2 := hQ H2 s2
          rw [k1, k2] at k3
          exact k3
        · intro D H' hD s1 hl'
          walk_at "ss"
          refine s_all (bs := (List.range ds.length).map fun i => sameB (ds.getD i .none) (es.getD i .none)) ?_ ?_
          · rw [hl', List.map_map, ← e1]
            rfl
          · have := fin H' s1
            rw [← same_all hl] at this
            rw [List.all_map]
            exact this
      · have := fin H (Same.refl H)
        rw [show @decide (ds = es) (Classical.propDecidable _) = false by simp; intro h; apply e; rw [e1, e2, h]] at this
        exact this
    | dict _ => exact False.elim hY
    | _ =>
      walk_at "same"
      exact no (fun h => by cases h)
  | dict _ => exact False.elim hX
theorem same_ok {K : PySem.W.Frag} {x y : V} {d : PyData} {H : Hp} {Q : VK} {E : XK} (hx : Is H x d) (hy : Is H y d) (hf : Fits 4 d) (hq : ∀ H', Same H H' → Q (.bl true) H') : sp_law_same K [x, y] H Q E :=
  ⟨_, _, rfl, d, d, hx, hy, hf, fun H' s => by rw [sameB_eq rfl]; exact hq H' s⟩
def tH_law_same (K : PySem.W.Frag) (W : WX) : TS := (tCut (tIfS (tOr (tB (tCB (rIsi K) (tCons (tVar 0) (tCons (tC (.ty "bool")) tNil)))) (tB (tCB (rIsi K) (tCons (tVar 1) (tCons (tC (.ty "bool")) tNil))))) (tRet (tAndV (tCB (rIsi K) (tCons (tVar 0) (tCons (tC (.ty "bool")) tNil))) (tAndV (tCB (rIsi K) (tCons (tVar 1) (tCons (tC (.ty "bool")) tNil))) (tOp (rEqP K) (tVar 0) (tVar 1))))) tNext)
    (tCut (tIfS (tOr (tB (tCB (rIsi K) (tCons (tVar 0) (tCons (tC (.ty "int")) tNil)))) (tB (tCB (rIsi K) (tCons (tVar 1) (tCons (tC (.ty "int")) tNil))))) (tRet (tAndV (tCB (rIsi K) (tCons (tVar 0) (tCons (tC (.ty "int")) tNil))) (tAndV (tCB (rIsi K) (tCons (tVar 1) (tCons (tC (.ty "int")) tNil))) (tOp (rEqP K) (tVar 0) (tVar 1))))) tNext)
    (tCut (tIfS (tOr (tB (tCB (rIsi K) (tCons (tVar 0) (tCons (tC (.ty "str")) tNil)))) (tB (tCB (rIsi K) (tCons (tVar 1) (tCons (tC (.ty "str")) tNil))))) (tRet (tAndV (tCB (rIsi K) (tCons (tVar 0) (tCons (tC (.ty "str")) tNil))) (tAndV (tCB (rIsi K) (tCons (tVar 1) (tCons (tC (.ty "str")) tNil))) (tOp (rEqP K) (tVar 0) (tVar 1))))) tNext)
    (tSeq (tAsg (tAndV (tCB (rIsi K) (tCons (tVar 0) (tCons (tC (.ty "list")) tNil))) (tCB (rIsi K) (tCons (tVar 1) (tCons (tC (.ty "list")) tNil)))) (gName 2))
    (tCut (tIfS (tAnd (tNot (tB (tVar 2))) (tNot (tAnd (tB (tCB (rIsi K) (tCons (tVar 0) (tCons (tC (.ty "tuple")) tNil)))) (tB (tCB (rIsi K) (tCons (tVar 1) (tCons (tC (.ty "tuple")) tNil))))))) (tRet (tAndV (tOp (rIsP false) (tVar 0) (tC .non)) (tOp (rIsP false) (tVar 1) (tC .non)))) tNext)
    tNever)))))
def spH_law_same (K : PySem.W.Frag) : Sp := Sp2 fun x y H Q _ => ∃ d e : PyData, Is H x d ∧ Is H y e ∧ Fits 0 d ∧ Fits 0 e ∧ Q (.bl (sameB d e)) H
theorem pureH_law_same {K : PySem.W.Frag} {vs : List V} {H : Hp} {Q : VK} {E : XK} {W : WX} (h : spH_law_same K vs H Q E) : tH_law_same K W { nx := fun _ H' => Q .non H', rt := Q } (start N_law_same vs) H := by
  obtain ⟨x, y, rfl, d, e, hd, he, hf, hf2, q0⟩ := h
  show tH_law_same K W _ [some x, some y, none, none] H
  unfold tH_law_same
  have no : d ≠ e → Q (.bl false) H := fun e1 => by rw [sameB_ne e1] at q0; exact q0
  cases d with
  | none =>
    have hX : x = .non := by cases hd; rfl
    subst hX
    cases e with
    | none =>
      have hY : y = .non := by cases he; rfl
      subst hY
      walk_at "same"
      rw [sameB_eq rfl] at q0
      exact q0
    | list es => exact False.elim hf2
    | tuple es => exact False.elim hf2
    | dict _ => exact False.elim hf2
    | _ =>
      walk_at "same"
      exact no (fun h => by cases h)
  | bool a =>
    have hX : x = .bl a := by cases hd; rfl
    subst hX
    cases e with
    | bool b =>
      have hY : y = .bl b := by cases he; rfl
      subst hY
      walk_at "same"
      rw [sameB_bool] at q0
      exact q0
    | list es => exact False.elim hf2
    | tuple es => exact False.elim hf2
    | dict _ => exact False.elim hf2
    | _ =>
      walk_at "same"
      exact no (fun h => by cases h)
  | int a =>
    have hX : x = .int a := by cases hd; rfl
    subst hX
    cases e with
    | int b =>
      have hY : y = .int b := by cases he; rfl
      subst hY
      walk_at "same"
      rw [sameB_int] at q0
      exact q0
    | list es => exact False.elim hf2
    | tuple es => exact False.elim hf2
    | dict _ => exact False.elim hf2
    | _ =>
      walk_at "same"
      exact no (fun h => by cases h)
  | str a =>
    have hX : x = .str a := by cases hd; rfl
    subst hX
    cases e with
    | str b =>
      have hY : y = .str b := by cases he; rfl
      subst hY
      walk_at "same"
      rw [sameB_str] at q0
      exact q0
    | list es => exact False.elim hf2
    | tuple es => exact False.elim hf2
    | dict _ => exact False.elim hf2
    | _ =>
      walk_at "same"
      exact no (fun h => by cases h)
  | list ds => exact False.elim hf
  | tuple ds => exact False.elim hf
  | dict _ => cases hd
end Rd
namespace Rd
open PySem PySem.Spec PyProof.Rows L2 He Px
/-! texts in order -/
def SLt (a b : Str) : Prop := a.cps.toList < b.cps.toList
instance : DecidableRel SLt := fun a b => inferInstanceAs (Decidable (a.cps.toList < b.cps.toList))
theorem SLt.irr {a : Str} : ¬ SLt a a := List.lt_irrefl _
theorem SLt.tr {a b c : Str} (h : SLt a b) (g : SLt b c) : SLt a c := List.lt_trans h g
theorem SLt.tri {a b : Str} (h : ¬ SLt a b) (g : ¬ SLt b a) : a = b := str_ext (List.le_antisymm (List.not_lt.mp g) (List.not_lt.mp h))
def Ord (l : List Str) : Prop := l.Pairwise SLt
theorem Ord.uniq : ∀ {a b : List Str}, Ord a → Ord b → (∀ x, x ∈ a ↔ x ∈ b) → a = b
  | [], [], _, _, _ => rfl
  | [], y :: b, _, _, h => absurd ((h y).mpr List.mem_cons_self) List.not_mem_nil
  | x :: a, [], _, _, h => absurd ((h x).mp List.mem_cons_self) List.not_mem_nil
  | x :: a, y :: b, ha, hb, h => by
    have ha' := List.pairwise_cons.mp ha
    have hb' := List.pairwise_cons.mp hb
    have e : x = y := by
      rcases List.mem_cons.mp ((h x).mp List.mem_cons_self) with e | e
      · exact e
      · rcases List.mem_cons.mp ((h y).mpr List.mem_cons_self) with e2 | e2
        · exact e2.symm
        · exact absurd (SLt.tr (hb'.1 x e) (ha'.1 y e2)) SLt.irr
    subst e
    rw [Ord.uniq ha'.2 hb'.2 fun z => ⟨fun hz => ?_, fun hz => ?_⟩]
    · rcases List.mem_cons.mp ((h z).mp (List.mem_cons_of_mem _ hz)) with e | e
      · subst e; exact absurd (ha'.1 z hz) SLt.irr
      · exact e
    · rcases List.mem_cons.mp ((h z).mpr (List.mem_cons_of_mem _ hz)) with e | e
      · subst e; exact absurd (hb'.1 z hz) SLt.irr
      · exact e
def ins (x : Str) : List Str → List Str
  | [] => [x]
  | y :: r => if x = y then y :: r else if SLt x y then x :: y :: r else y :: ins x r
theorem mem_ins {x z : Str} : ∀ {l : List Str}, z ∈ ins x l ↔ z = x ∨ z ∈ l
  | [] => by simp [ins]
  | y :: r => by
    unfold ins
    by_cases e : x = y
    · rw [if_pos e]; subst e; simp
    · rw [if_neg e]
      by_cases g : SLt x y
      · rw [if_pos g]; simp
      · rw [if_neg g, List.mem_cons, mem_ins, List.mem_cons]
        constructor
        · rintro (h | h | h)
          · exact .inr (.inl h)
          · exact .inl h
          · exact .inr (.inr h)
        · rintro (h | h | h)
          · exact .inr (.inl h)
          · exact .inl h
          · exact .inr (.inr h)
theorem ord_ins {x : Str} : ∀ {l : List Str}, Ord l → Ord (ins x l)
  | [], _ => List.pairwise_singleton _ _
  | y :: r, h => by
    unfold ins
    have h' := List.pairwise_cons.mp h
    by_cases e : x = y
    · rw [if_pos e]; exact h
    · rw [if_neg e]
      by_cases g : SLt x y
      · rw [if_pos g]
        refine List.pairwise_cons.mpr ⟨fun z hz => ?_, h⟩
        rcases List.mem_cons.mp hz with rfl | hz
        · exact g
        · exact g.tr (h'.1 z hz)
      · rw [if_neg g]
        refine List.pairwise_cons.mpr ⟨fun z hz => ?_, ord_ins h'.2⟩
        rcases mem_ins.mp hz with rfl | hz
        · by_cases g2 : SLt y z
          · exact g2
          · exact absurd (SLt.tri g g2) e
        · exact h'.1 z hz
/-- the different texts of a list, in order -/
def srt : List Str → List Str
  | [] => []
  | x :: r => ins x (srt r)
theorem mem_srt {z : Str} : ∀ {l : List Str}, z ∈ srt l ↔ z ∈ l
  | [] => Iff.rfl
  | x :: r => by rw [srt, mem_ins, mem_srt, List.mem_cons]
theorem ord_srt : ∀ l : List Str, Ord (srt l)
  | [] => List.Pairwise.nil
  | x :: r => ord_ins (ord_srt r)
theorem srt_eq {l a : List Str} (h : Ord a) (m : ∀ x, x ∈ a ↔ x ∈ l) : a = srt l := Ord.uniq h (ord_srt l) fun x => (m x).trans mem_srt.symm
theorem srt_congr {a b : List Str} (h : ∀ x, x ∈ a ↔ x ∈ b) : srt a = srt b := srt_eq (ord_srt a) fun x => mem_srt.trans (h x)
theorem ins_len (x : Str) : ∀ l : List Str, (ins x l).length ≤ l.length + 1
  | [] => by simp [ins]
  | y :: r => by
    unfold ins
    split
    · simp
    · split
      · simp
      · have := ins_len x r
        simp only [List.length_cons]
        omega
theorem srt_len : ∀ l : List Str, (srt l).length ≤ l.length
  | [] => Nat.le_refl _
  | x :: r => Nat.le_trans (ins_len x _) (Nat.succ_le_succ (srt_len r))
/-- what sorted says -/
theorem rising_ge {p : Str} : ∀ {l : List Str}, risingS p l = true → ∀ x ∈ l, ¬ SLt x p
  | [], _, x, hx => nomatch hx
  | y :: r, h, x, hx => by
    have h2 : (!ltCps y.cps.toList p.cps.toList && risingS y r) = true := h
    rw [Bool.and_eq_true, ltCps_eq] at h2
    have hy : ¬ SLt y p := by
      intro g
      have g' : y.cps.toList < p.cps.toList := g
      rw [decide_eq_true g'] at h2
      cases h2.1
    rcases List.mem_cons.mp hx with rfl | hx
    · exact hy
    · intro g
      have := rising_ge h2.2 x hx
      by_cases e : SLt p y
      · exact this (g.tr e)
      · have e2 := SLt.tri hy e
        subst e2
        exact this g
theorem sorted_pair : ∀ {l : List Str}, sortedS l = true → l.Pairwise fun a b => ¬ SLt b a
  | [], _ => List.Pairwise.nil
  | x :: r, h => by
    have h : risingS x r = true := h
    refine List.pairwise_cons.mpr ⟨fun y hy => rising_ge h y hy, ?_⟩
    cases r with
    | nil => exact List.Pairwise.nil
    | cons y r =>
      have h2 : (!ltCps y.cps.toList x.cps.toList && risingS y r) = true := h
      rw [Bool.and_eq_true] at h2
      exact sorted_pair (l := y :: r) h2.2
/-- a further text of a sorted list -/
theorem ord_more {ys acc : List Str} {i : Nat} {x : Str} (hs : ys.Pairwise fun a b => ¬ SLt b a) (hi : ys[i]? = some x) (ha : Ord acc) (hm : ∀ z, z ∈ acc ↔ z ∈ ys.take i) (hx : x ∉ acc) : Ord (acc ++ [x]) := by
  refine List.pairwise_append.mpr ⟨ha, List.pairwise_singleton _ _, fun a hA b hb => ?_⟩
  have e : b = x := by simpa using hb
  subst e
  obtain ⟨hl, rfl⟩ := List.getElem?_eq_some_iff.mp hi
  obtain ⟨j, hj, e⟩ := List.getElem_of_mem ((hm a).mp hA)
  rw [List.length_take] at hj
  have hj2 : j < i := by omega
  have e2 : ys[j]'(by omega) = a := by rw [← e, List.getElem_take]
  have q := List.pairwise_iff_getElem.mp hs j i (by omega) hl hj2
  rw [e2] at q
  by_cases g : SLt a ys[i]
  · exact g
  · have := SLt.tri g q
    subst this
    exact absurd hA hx
/-! literals in order -/
def flat (zs : List Str) (l : List Str) : List Str := l.flatMap fun n => [n, ("-" : Str) ++ n].filter fun z => decide (z ∈ zs)
theorem flat_len (zs : List Str) : ∀ l : List Str, (flat zs l).length ≤ 2 * l.length
  | [] => by simp [flat]
  | x :: r => by
    have ih := flat_len zs r
    unfold flat at ih ⊢
    rw [List.flatMap_cons, List.length_append, List.length_cons]
    have := List.length_filter_le (fun z => decide (z ∈ zs)) [x, ("-" : Str) ++ x]
    simp only [List.length_cons, List.length_nil] at this
    omega
theorem flat_more (zs l : List Str) (n : Str) : flat zs (l ++ [n]) = flat zs l ++ [n, ("-" : Str) ++ n].filter fun z => decide (z ∈ zs) := by
  unfold flat
  rw [List.flatMap_append]
  simp
def litO (ls : List Str) : List Str := flat ls (srt (ls.map bare))
theorem litO_congr {a b : List Str} (h : ∀ x, x ∈ a ↔ x ∈ b) : litO a = litO b := by
  unfold litO flat
  rw [srt_congr (a := a.map bare) (b := b.map bare) fun x => by simp [h]]
  congr 1
  funext n
  congr 1
  funext z
  rw [Bool.eq_iff_iff]
  simp [h]
theorem litO_len (ls : List Str) : (litO ls).length ≤ 2 * ls.length := by
  have h := flat_len ls (srt (ls.map bare))
  have h2 := srt_len (ls.map bare)
  rw [List.length_map] at h2
  unfold litO
  omega
/-- the first name that stands in both signs -/
def twice (os : List Str) : Option Str := os.find? fun z => !dash z && decide (("-" : Str) ++ z ∈ os)
def badOf (zs : List Str) : Option Str := zs.find? fun z => !isLit z
/-! names, literals -/
theorem dash_app (z : Str) : dash (("-" : Str) ++ z) = true := (dash_iff _).mpr ⟨z.cps.toList, by rw [app_toList]; rfl⟩
theorem tail_app (z : Str) : cutS (("-" : Str) ++ z) (some 1) none = z := str_ext (by rw [cut_tail, app_toList]; rfl)
theorem bare_app (z : Str) : bare (("-" : Str) ++ z) = z := by
  unfold bare
  rw [if_pos (dash_app z), tail_app]
theorem nm_first {z : Str} (h : isNm z = true) : ∃ c r, z.cps.toList = c :: r ∧ c ∈ lettersL ∧ (∀ x ∈ z.cps.toList, x ∈ signsL) ∧ 1 ≤ z.length ∧ z.length ≤ 8 := by
  unfold isNm at h
  rw [Bool.and_eq_true, Bool.and_eq_true, Bool.and_eq_true] at h
  obtain ⟨h1, h2, h3, h4⟩ := h
  have h1 : ¬ (z.length : Int) < 1 := by simpa using h1
  have h2 : ¬ (8 : Int) < (z.length : Int) := by simpa using h2
  cases e : z.cps.toList with
  | nil => rw [e] at h3; cases h3
  | cons c r =>
    rw [e] at h3 h4
    refine ⟨c, r, rfl, of_decide_eq_true h3, fun x hx => ?_, by omega, by omega⟩
    exact of_decide_eq_true (List.all_eq_true.mp h4 x hx)
theorem dash45 : (45 : Nat) ∉ lettersL := by decide +kernel
theorem nm_nodash {z : Str} (h : isNm z = true) : dash z = false := by
  obtain ⟨c, r, e, hc, _⟩ := nm_first h
  cases hd : dash z with
  | false => rfl
  | true =>
    obtain ⟨r2, e2⟩ := (dash_iff z).mp hd
    rw [e] at e2
    have : c = 45 := (List.cons.inj e2).1
    subst this
    exact absurd hc dash45
theorem nm_bare {z : Str} (h : isNm z = true) : bare z = z := by
  unfold bare
  rw [nm_nodash h, if_neg Bool.false_ne_true]
theorem nm_lit {z : Str} (h : isNm z = true) : isLit z = true := by unfold isLit; rw [nm_bare h]; exact h
theorem neg_lit {z : Str} (h : isNm z = true) : isLit (("-" : Str) ++ z) = true := by unfold isLit; rw [bare_app]; exact h
theorem bare_eq {z : Str} (h : dash z = true) : ("-" : Str) ++ bare z = z := by
  obtain ⟨r, e⟩ := (dash_iff z).mp h
  apply str_ext
  rw [app_toList]
  unfold bare
  rw [if_pos h, cut_tail, e]
  rfl
theorem lit_cases {z : Str} (h : isLit z = true) : z = bare z ∨ z = ("-" : Str) ++ bare z := by
  cases hd : dash z with
  | false => left; unfold bare; rw [hd, if_neg Bool.false_ne_true]
  | true => right; exact (bare_eq hd).symm
theorem lit_len {z : Str} (h : isLit z = true) : z.length ≤ 9 := by
  obtain ⟨_, _, _, _, _, _, h8⟩ := nm_first (show isNm (bare z) = true from h)
  rcases lit_cases h with e | e
  · rw [e]; omega
  · rw [e, app_len]; show 1 + _ ≤ 9; omega
theorem flip_lit {z : Str} (h : isLit z = true) : isLit (flip z) = true := by
  unfold flip
  cases hd : dash z with
  | true =>
    rw [if_pos rfl]
    have e : bare z = cutS z (some 1) none := by unfold bare; rw [if_pos hd]
    rw [← e]
    exact nm_lit h
  | false =>
    rw [if_neg Bool.false_ne_true]
    have e : bare z = z := by unfold bare; rw [hd, if_neg Bool.false_ne_true]
    have h2 : isNm (bare z) = true := h
    rw [e] at h2
    exact neg_lit h2
/-- strings that are no literals -/
theorem nodash_of {z : Str} {c : Nat} {r : List Nat} (e : z.cps.toList = c :: r) (h : c ≠ 45) : dash z = false := by
  cases hd : dash z with
  | false => rfl
  | true =>
    obtain ⟨r2, e2⟩ := (dash_iff z).mp hd
    rw [e] at e2
    exact absurd (List.cons.inj e2).1 h
theorem bad_sign {z : Str} {c : Nat} (h : c ∈ z.cps.toList) (h1 : c ∉ signsL) (h2 : c ≠ 45) : isLit z = false := by
  cases hl : isLit z with
  | false => rfl
  | true =>
    obtain ⟨_, _, _, _, hs, _⟩ := nm_first (show isNm (bare z) = true from hl)
    rcases lit_cases hl with e | e
    · rw [e] at h; exact absurd (hs c h) h1
    · rw [e, app_toList] at h
      rcases List.mem_append.mp h with h | h
      · have : c = 45 := by simpa using (show c ∈ [45] from h)
        exact absurd this h2
      · exact absurd (hs c h) h1
theorem bad_first {z : Str} {c : Nat} {r : List Nat} (e : z.cps.toList = c :: r) (h : c ≠ 45) (h1 : c ∉ lettersL) : isLit z = false := by
  cases hl : isLit z with
  | false => rfl
  | true =>
    have hb : bare z = z := by unfold bare; rw [nodash_of e h, if_neg Bool.false_ne_true]
    obtain ⟨c2, r2, e2, hc, _⟩ := nm_first (show isNm (bare z) = true from hl)
    rw [hb, e] at e2
    rw [(List.cons.inj e2).1] at h1
    exact absurd hc h1
theorem bad_long {z : Str} {c : Nat} {r : List Nat} (e : z.cps.toList = c :: r) (h : c ≠ 45) (h1 : 8 < z.length) : isLit z = false := by
  cases hl : isLit z with
  | false => rfl
  | true =>
    have hb : bare z = z := by unfold bare; rw [nodash_of e h, if_neg Bool.false_ne_true]
    obtain ⟨_, _, _, _, _, _, h8⟩ := nm_first (show isNm (bare z) = true from hl)
    rw [hb] at h8
    omega
theorem letter_ne {c : Nat} (h : c ∈ lettersL) : c ≠ 45 := fun e => by rw [e] at h; exact dash45 h
/-! cuts -/
theorem cut_to (z : Str) (k : Nat) : (cutS z none (some (k : Int))).cps.toList = z.cps.toList.take k := by
  unfold cutS
  have e : HT.sIx z.length z.length (some (k : Int)) = min k z.length := HT.sIx_nat z.length z.length k
  rw [e, HT.sIx_none]
  show List.take (min k z.length - 0) (List.drop 0 z.cps.toList) = _
  rw [List.drop_zero, Nat.sub_zero, ← len_toList]
  rcases Nat.le_total k z.cps.toList.length with h | h
  · rw [Nat.min_eq_left h]
  · rw [Nat.min_eq_right h, List.take_of_length_le (Nat.le_refl _), List.take_of_length_le h]
theorem cut_from (z : Str) (k : Nat) : (cutS z (some (k : Int)) none).cps.toList = z.cps.toList.drop k := by
  unfold cutS
  have e : HT.sIx z.length 0 (some (k : Int)) = min k z.length := HT.sIx_nat z.length 0 k
  rw [e, HT.sIx_none]
  show List.take (z.length - min k z.length) (List.drop (min k z.length) z.cps.toList) = _
  rw [← len_toList]
  rcases Nat.le_total k z.cps.toList.length with h | h
  · rw [Nat.min_eq_left h, List.take_of_length_le (by rw [List.length_drop]; omega)]
  · rw [Nat.min_eq_right h, List.drop_of_length_le (Nat.le_refl _), List.drop_of_length_le h, List.take_nil]
theorem cut_mid {z : Str} {lo hi : Option Int} {x : Nat} (h : x ∈ (cutS z lo hi).cps.toList) : x ∈ z.cps.toList := by
  unfold cutS at h
  exact List.mem_of_mem_drop (List.mem_of_mem_take (by simpa using h))
theorem wrd_put {a b : Str} {c : Nat} (ha : a.cps.toList = [] ∨ Wrd a) (hc : c ∈ lettersL) (hb : ∀ x ∈ b.cps.toList, x ∈ signsL) : Wrd (a ++ ⟨#[c]⟩ ++ b) := by
  have e : (a ++ ⟨#[c]⟩ ++ b).cps.toList = a.cps.toList ++ (c :: b.cps.toList) := by
    rw [app_toList, app_toList, List.append_assoc]
    rfl
  rcases ha with ha | ⟨d, r, e1, h1, h2⟩
  · exact ⟨c, b.cps.toList, by rw [e, ha]; rfl, hc, hb⟩
  · refine ⟨d, r ++ (c :: b.cps.toList), by rw [e, e1]; rfl, h1, fun x hx => ?_⟩
    rcases List.mem_append.mp hx with hx | hx
    · exact h2 x hx
    · rcases List.mem_cons.mp hx with rfl | hx
      · exact letters_signs hc
      · exact hb x hx
theorem wrd_to {z : Str} (h : Wrd z) (k : Nat) : (cutS z none (some (k : Int))).cps.toList = [] ∨ Wrd (cutS z none (some (k : Int))) := by
  obtain ⟨c, r, e, h1, h2⟩ := h
  cases k with
  | zero => left; rw [cut_to]; rfl
  | succ k => right; exact ⟨c, r.take k, by rw [cut_to, e]; rfl, h1, fun x hx => h2 x (List.mem_of_mem_take hx)⟩
theorem wrd_signs {z : Str} (h : Wrd z) : ∀ x ∈ z.cps.toList, x ∈ signsL := by
  obtain ⟨c, r, e, h1, h2⟩ := h
  intro x hx
  rw [e] at hx
  rcases List.mem_cons.mp hx with rfl | hx
  · exact letters_signs h1
  · exact h2 x hx
theorem cutS_lenle (z : Str) (k : Int) (h : 0 ≤ k) : ((cutS z none (some k)).length : Int) ≤ k := by
  have e : (cutS z none (some k)).cps.toList = z.cps.toList.take k.toNat := by
    have := cut_to z k.toNat
    rw [Int.toNat_of_nonneg h] at this
    exact this
  have l := len_toList (cutS z none (some k))
  rw [e, List.length_take] at l
  omega
/-! searching -/
theorem find_at {α : Type} {p : α → Bool} {x : α} (hx : p x = true) : ∀ {l : List α} {i : Nat}, l[i]? = some x → (∀ y ∈ l.take i, p y = false) → l.find? p = some x
  | [], i, h, _ => by cases i <;> cases h
  | y :: r, 0, h, _ => by
    have e : y = x := Option.some.inj h
    subst e
    rw [List.find?_cons, hx]
  | y :: r, i + 1, h, hb => by
    rw [List.find?_cons, hb y List.mem_cons_self]
    exact find_at hx (l := r) (i := i) (by simpa using h) fun z hz => hb z (List.mem_cons_of_mem _ hz)
theorem find_no {α : Type} {p : α → Bool} {l : List α} (hb : ∀ y ∈ l, p y = false) : l.find? p = none := List.find?_eq_none.mpr fun y hy => by rw [hb y hy]; exact Bool.false_ne_true
theorem at_strs {zs : List Str} {i : Nat} {y : V} (h : (zs.map V.str)[i]? = some y) : ∃ z, zs[i]? = some z ∧ y = .str z := by
  rw [List.getElem?_map] at h
  cases e : zs[i]? with
  | none => rw [e] at h; cases h
  | some z => rw [e] at h; exact ⟨z, rfl, (Option.some.inj h).symm⟩
theorem take_all {α : Type} {P : α → Prop} {l : List α} {i : Nat} {x : α} (hi : l[i]? = some x) (h : ∀ y ∈ l.take i, P y) (hx : P x) : ∀ y ∈ l.take (i + 1), P y := fun y hy => by
  rw [take_more hi] at hy
  rcases List.mem_append.mp hy with hy | hy
  · exact h y hy
  · have : y = x := by simpa using hy
    rw [this]; exact hx
def badN (zs : List Str) : Option Str := zs.find? fun z => !isNm z
theorem badN_none {zs : List Str} (h : ∀ z ∈ zs, isNm z = true) : badN zs = none := find_no fun z hz => by rw [h z hz]; rfl
theorem badOf_none {zs : List Str} (h : ∀ z ∈ zs, isLit z = true) : badOf zs = none := find_no fun z hz => by rw [h z hz]; rfl
theorem badOf_ok {zs : List Str} (h : badOf zs = none) : ∀ z ∈ zs, isLit z = true := fun z hz => by
  have := List.find?_eq_none.mp h z hz
  cases e : isLit z with
  | true => rfl
  | false => rw [e] at this; exact absurd rfl this
/-- the loop's accumulator -/
theorem nub_step {ys acc : List Str} {i : Nat} {x : Str} (hs : ys.Pairwise fun a b => ¬ SLt b a) (hi : ys[i]? = some x) (ha : Ord acc) (hm : ∀ z, z ∈ acc ↔ z ∈ ys.take i) : (x ∈ acc → ∀ z, z ∈ acc ↔ z ∈ ys.take (i + 1)) ∧ (x ∉ acc → Ord (acc ++ [x]) ∧ ∀ z, z ∈ acc ++ [x] ↔ z ∈ ys.take (i + 1)) := by
  refine ⟨fun hx z => ?_, fun hx => ⟨ord_more hs hi ha hm hx, fun z => ?_⟩⟩
  · rw [take_more hi, List.mem_append, ← hm z]
    constructor
    · exact .inl
    · rintro (h | h)
      · exact h
      · have : z = x := by simpa using h
        rw [this]; exact hx
  · rw [take_more hi, List.mem_append, List.mem_append, ← hm z]
theorem filt1 {zs : List Str} {z : Str} (h : z ∈ zs) : [z].filter (fun z => decide (z ∈ zs)) = [z] := by simp [h]
theorem filt0 {zs : List Str} {z : Str} (h : z ∉ zs) : [z].filter (fun z => decide (z ∈ zs)) = [] := by simp [h]
theorem map_snoc (l : List Str) (z : Str) : (l ++ [z]).map V.str = l.map V.str ++ [V.str z] := by simp
theorem at_str {l : List Str} {i : Int} (h0 : 0 ≤ i) (h1 : i < (l.length : Int)) : ∃ z, z ∈ l ∧ atI (l.map V.str) i = some (.str z) := by
  have hl : i.toNat < l.length := by omega
  refine ⟨l[i.toNat], List.getElem_mem hl, ?_⟩
  unfold atI ixN
  rw [if_pos h0, if_pos (by rw [List.length_map]; omega)]
  simp [hl]
theorem dash_lit {n : Str} {r : Int} (hn : isNm n = true) (h0 : 0 ≤ r) (h1 : r < 2) : ∃ d : Str, atI [V.str "", V.str "-"] r = some (.str d) ∧ d.length ≤ 1 ∧ isLit (d ++ n) = true := by
  rcases (show r = 0 ∨ r = 1 by omega) with rfl | rfl
  · refine ⟨"", rfl, by decide, ?_⟩
    rw [show ("" : Str) ++ n = n from str_ext (by rw [app_toList]; rfl)]
    exact nm_lit hn
  · exact ⟨"-", rfl, by decide, neg_lit hn⟩
theorem flip_bare {z : Str} (h : isLit z = true) : bare (flip z) = bare z := by
  unfold flip
  cases hd : dash z with
  | true =>
    rw [if_pos rfl]
    have e : bare z = cutS z (some 1) none := by unfold bare; rw [if_pos hd]
    rw [← e]
    exact nm_bare h
  | false =>
    rw [if_neg Bool.false_ne_true, bare_app]
    unfold bare
    rw [hd, if_neg Bool.false_ne_true]
theorem same_name {y z : Str} (hy : isLit y = true) (hz : isLit z = true) (e : bare y = bare z) : y = z ∨ y = flip z := by
  have hn : isNm (bare z) = true := hz
  rcases lit_cases hy with e1 | e1
  · rcases lit_cases hz with e2 | e2
    · left; rw [e1, e, ← e2]
    · right
      have hd : dash z = true := by rw [e2]; exact dash_app _
      unfold flip
      rw [if_pos hd, e2, tail_app, e1, e]
  · rcases lit_cases hz with e2 | e2
    · right
      have hd : dash z = false := by rw [e2]; exact nm_nodash hn
      unfold flip
      rw [hd, if_neg Bool.false_ne_true, e1, e, ← e2]
    · left; rw [e1, e, ← e2]
/-- the object at c is a clause with these literals -/
def IsCl (K : PySem.W.Frag) (H : Hp) (c : Addr) (ls : List Str) : Prop := ∃ dx q, H c = some (.ins (ga K "Clause") dx [("literals", .ref q)]) ∧ H q = some (.tup (ls.map V.str))
theorem IsCl.keep {K : PySem.W.Frag} {H H' : Hp} {c : Addr} {ls : List Str} (h : IsCl K H c ls) (s : Same H H') : IsCl K H' c ls := by
  obtain ⟨dx, q, h1, h2⟩ := h
  exact ⟨dx, q, s _ _ h1, s _ _ h2⟩
theorem DpAll.strs {K : PySem.W.Frag} {H : Hp} : ∀ l : List Str, DpAll K H (l.map V.str) (l.map PyData.str)
  | [] => .nil
  | x :: r => .cons (.str x) (DpAll.strs r)
theorem eqvAll_strs : ∀ a b : List Str, PyData.eqvAll (a.map .str) (b.map .str) = decide (a = b)
  | [], [] => by simp [PyData.eqvAll]
  | [], _ :: _ => by simp [PyData.eqvAll]
  | _ :: _, [] => by simp [PyData.eqvAll]
  | x :: a, y :: b => by
    show (PyData.eqv (.str x) (.str y) && PyData.eqvAll (a.map .str) (b.map .str)) = _
    rw [eqvAll_strs a b]
    show ((x == y) && decide (a = b)) = _
    rw [Bool.eq_iff_iff]
    simp
theorem canLayAll_strs : ∀ l : List Str, (∀ z ∈ l, PyData.strOk z = true) → PyData.canLayAll0 (l.map .str) = true
  | [], _ => by simp [PyData.canLayAll0]
  | x :: r, h => by
    have ih := canLayAll_strs r fun z hz => h z (List.mem_cons_of_mem _ hz)
    have hx := h x List.mem_cons_self
    simp [PyData.canLayAll0, PyData.canLay0, ih, hx]
theorem depthAll_strs : ∀ l : List Str, PyData.depthAll (l.map .str) = 0
  | [] => by simp [PyData.depthAll]
  | x :: r => by
    have ih := depthAll_strs r
    simp [PyData.depthAll, PyData.depth, ih]
theorem shaped_strs (l : List Str) (h : ∀ z ∈ l, PyData.strOk z = true) : SeqAt.shaped (.tuple (l.map .str)) = true := by
  unfold SeqAt.shaped
  have h1 : (PyData.tuple (l.map .str)).canLay0 = true := by
    have := canLayAll_strs l h
    simp [PyData.canLay0, this]
  have h2 : (PyData.tuple (l.map .str)).depth = 1 := by
    have := depthAll_strs l
    simp [PyData.depth, this]
  rw [h1, h2]
  rfl
theorem litO_mem {zs : List Str} {z : Str} (h : z ∈ litO zs) : z ∈ zs := by
  unfold litO flat at h
  obtain ⟨n, _, hz⟩ := List.mem_flatMap.mp h
  exact of_decide_eq_true (List.mem_filter.mp hz).2
theorem litO_iff {zs : List Str} (h : ∀ z ∈ zs, isLit z = true) {z : Str} : z ∈ litO zs ↔ z ∈ zs := by
  refine ⟨litO_mem, fun hz => ?_⟩
  unfold litO flat
  refine List.mem_flatMap.mpr ⟨bare z, mem_srt.mpr (List.mem_map_of_mem hz), ?_⟩
  refine List.mem_filter.mpr ⟨?_, decide_eq_true hz⟩
  rcases lit_cases (h z hz) with e | e
  · rw [← e]; exact List.mem_cons_self
  · rw [← e]; exact List.mem_cons_of_mem _ List.mem_cons_self
theorem flat_find {zs : List Str} : ∀ {l : List Str}, (∀ n ∈ l, isNm n = true) → (flat zs l).find? (fun z => !dash z && decide (("-" : Str) ++ z ∈ zs)) = l.find? fun n => decide (n ∈ zs) && decide (("-" : Str) ++ n ∈ zs)
  | [], _ => rfl
  | n :: r, h => by
    have ih := flat_find (zs := zs) (l := r) fun m hm => h m (List.mem_cons_of_mem _ hm)
    have hd := nm_nodash (h n List.mem_cons_self)
    have e : flat zs (n :: r) = ([n, ("-" : Str) ++ n].filter fun z => decide (z ∈ zs)) ++ flat zs r := by unfold flat; rw [List.flatMap_cons]
    have dd : dash (("-" : Str) ++ n) = true := dash_app n
    rw [e, List.find?_append, ih]
    by_cases h1 : n ∈ zs <;> by_cases h2 : ("-" : Str) ++ n ∈ zs <;> simp [h1, h2, hd, dd]
theorem twice_eq {zs : List Str} (h : ∀ z ∈ zs, isLit z = true) : (srt (zs.map bare)).find? (fun n => decide (n ∈ zs) && decide (("-" : Str) ++ n ∈ zs)) = twice (litO zs) := by
  unfold twice
  have e : (fun z => !dash z && decide (("-" : Str) ++ z ∈ litO zs)) = fun z => !dash z && decide (("-" : Str) ++ z ∈ zs) := by
    funext z
    congr 1
    rw [Bool.eq_iff_iff]
    simp only [decide_eq_true_eq]
    exact litO_iff h
  rw [e]
  refine (flat_find fun n hn => ?_).symm
  obtain ⟨y, hy, rfl⟩ := List.mem_map.mp (mem_srt.mp hn)
  exact h y hy
/-- what is due for a row -/
def dueD (zs : List Str) : PyData := match badOf zs with
  | some z => .tuple [.str "literal", .str z, .bool true]
  | none => match twice (litO zs) with
    | some n => .tuple [.str "signs", .str n, .bool true]
    | none => if (6 : Int) < ((litO zs).length : Int) then .tuple [.str "many", .int 6, .bool true] else .tuple [.str "clause", .tuple ((litO zs).map .str), .bool true]
theorem due_bad {zs : List Str} {z : Str} (h : badOf zs = some z) : dueD zs = .tuple [.str "literal", .str z, .bool true] := by unfold dueD; rw [h]
theorem due_both {zs : List Str} {n : Str} (h : badOf zs = none) (h2 : twice (litO zs) = some n) : dueD zs = .tuple [.str "signs", .str n, .bool true] := by unfold dueD; rw [h]; dsimp only; rw [h2]
theorem due_many {zs : List Str} (h : badOf zs = none) (h2 : twice (litO zs) = none) (h3 : (6 : Int) < ((litO zs).length : Int)) : dueD zs = .tuple [.str "many", .int 6, .bool true] := by unfold dueD; rw [h]; dsimp only; rw [h2]; dsimp only; rw [if_pos h3]
theorem due_ok {zs : List Str} (h : badOf zs = none) (h2 : twice (litO zs) = none) (h3 : ¬ (6 : Int) < ((litO zs).length : Int)) : dueD zs = .tuple [.str "clause", .tuple ((litO zs).map .str), .bool true] := by unfold dueD; rw [h]; dsimp only; rw [h2]; dsimp only; rw [if_neg h3]
theorem three {H : Hp} {q : Addr} {x y z : V} {d e f : PyData} (h : H q = some (.tup [x, y, z])) (h1 : Is H x d) (h2 : Is H y e) (h3 : Is H z f) : Is H (.ref q) (.tuple [d, e, f]) := .tup h (.cons h1 (.cons h2 (.cons h3 .nil)))
theorem len3 {x y z : V} : [x, y, z].length ≤ sizeLine := by show 3 ≤ sizeLine; rw [sizeLine_eq]; decide
theorem fits3 {d e f : PyData} (h1 : Fits 3 d) (h2 : Fits 3 e) (h3 : Fits 3 f) : Fits 4 (.tuple [d, e, f]) := by
  refine ⟨by show 3 ≤ 1000000; decide, fun x hx => ?_⟩
  rcases List.mem_cons.mp hx with rfl | hx
  · exact h1
  rcases List.mem_cons.mp hx with rfl | hx
  · exact h2
  rcases List.mem_cons.mp hx with rfl | hx
  · exact h3
  · cases hx
theorem due_fits {zs : List Str} (hl : zs.length ≤ 8) : Fits 4 (dueD zs) := by
  have h8 := litO_len zs
  unfold dueD
  split
  · exact fits3 trivial trivial trivial
  · split
    · exact fits3 trivial trivial trivial
    · split
      · exact fits3 trivial trivial trivial
      · refine fits3 trivial ⟨by rw [List.length_map]; omega, fun x hx => ?_⟩ trivial
        obtain ⟨z, _, rfl⟩ := List.mem_map.mp hx
        trivial
/-! rows of literals of different names, as sets -/
theorem ins_len_new {x : Str} : ∀ {l : List Str}, x ∉ l → (ins x l).length = l.length + 1
  | [], _ => rfl
  | y :: r, h => by
    have h1 : ¬ x = y := fun e => h (e ▸ List.mem_cons_self)
    have h2 : x ∉ r := fun m => h (List.mem_cons_of_mem _ m)
    have ih := ins_len_new h2
    unfold ins
    rw [if_neg h1]
    split
    · rfl
    · rw [List.length_cons, ih]
      rfl
theorem srt_len_nd : ∀ {l : List Str}, l.Nodup → (srt l).length = l.length
  | [], _ => rfl
  | x :: r, h => by
    obtain ⟨h1, h2⟩ := List.nodup_cons.mp h
    show (ins x (srt r)).length = _
    rw [ins_len_new fun m => h1 (mem_srt.mp m), srt_len_nd h2]
    rfl
theorem inj_bare : ∀ {zs : List Str}, (zs.map bare).Nodup → ∀ x ∈ zs, ∀ y ∈ zs, bare x = bare y → x = y
  | [], _, x, hx, _, _, _ => by cases hx
  | z :: r, h, x, hx, y, hy, e => by
    obtain ⟨h1, h2⟩ := List.nodup_cons.mp (show (bare z :: r.map bare).Nodup from h)
    rcases List.mem_cons.mp hx with hx' | hx'
    · rcases List.mem_cons.mp hy with hy' | hy'
      · rw [hx', hy']
      · refine absurd ?_ h1
        rw [← hx', e]
        exact List.mem_map_of_mem hy'
    · rcases List.mem_cons.mp hy with hy' | hy'
      · refine absurd ?_ h1
        rw [← hy', ← e]
        exact List.mem_map_of_mem hx'
      · exact inj_bare h2 x hx' y hy' e
theorem neg_ne (n : Str) : n ≠ ("-" : Str) ++ n := fun e => by
  have := congrArg (fun z : Str => z.cps.toList.length) e
  simp only [app_toList, List.length_append] at this
  have h1 : (("-" : Str).cps.toList).length = 1 := rfl
  omega
/-- no name in both signs -/
theorem twice_no {zs : List Str} (h : ∀ z ∈ zs, isLit z = true) (hn : (zs.map bare).Nodup) : twice (litO zs) = none := by
  rw [← twice_eq h]
  refine find_no fun n _ => ?_
  by_cases h1 : n ∈ zs
  · by_cases h2 : ("-" : Str) ++ n ∈ zs
    · refine absurd (inj_bare hn n h1 _ h2 ?_) (neg_ne n)
      rw [bare_app]
      rcases lit_cases (h n h1) with e | e
      · exact e.symm
      · exfalso
        have h3 := h _ h2
        unfold isLit at h3
        rw [bare_app] at h3
        have := nm_nodash h3
        rw [e, dash_app] at this
        cases this
    · simp [h2]
  · simp [h1]
theorem flat_len_one {zs : List Str} : ∀ {l : List Str}, (∀ n ∈ l, (n ∈ zs ∨ ("-" : Str) ++ n ∈ zs) ∧ ¬ (n ∈ zs ∧ ("-" : Str) ++ n ∈ zs)) → (flat zs l).length = l.length
  | [], _ => rfl
  | n :: r, h => by
    have ih := flat_len_one (zs := zs) (l := r) fun m hm => h m (List.mem_cons_of_mem _ hm)
    have hn := h n List.mem_cons_self
    have e : flat zs (n :: r) = ([n, ("-" : Str) ++ n].filter fun z => decide (z ∈ zs)) ++ flat zs r := by unfold flat; rw [List.flatMap_cons]
    rw [e, List.length_append, ih, List.length_cons]
    by_cases h1 : n ∈ zs <;> by_cases h2 : ("-" : Str) ++ n ∈ zs <;> simp [h1, h2] at hn ⊢ <;> omega
theorem litO_len_nd {zs : List Str} (h : ∀ z ∈ zs, isLit z = true) (hn : (zs.map bare).Nodup) : (litO zs).length = zs.length := by
  have e := srt_len_nd hn
  rw [List.length_map] at e
  rw [← e]
  refine flat_len_one fun n hm => ?_
  obtain ⟨y, hy, rfl⟩ := List.mem_map.mp (mem_srt.mp hm)
  constructor
  · rcases lit_cases (h y hy) with e | e
    · left; rw [← e]; exact hy
    · right; rw [← e]; exact hy
  · rintro ⟨h1, h2⟩
    refine neg_ne (bare y) (inj_bare hn _ h1 _ h2 ?_)
    rw [bare_app, nm_bare (h y hy)]
theorem filt_nd {zs : List Str} (p : Str → Bool) (hn : (zs.map bare).Nodup) : ((zs.filter p).map bare).Nodup := hn.sublist ((List.filter_sublist (l := zs)).map bare)
theorem nd_of_bare {zs : List Str} (hn : (zs.map bare).Nodup) : zs.Nodup := (List.pairwise_map.mp hn).imp fun h e => h (congrArg bare e)
theorem due_congr {a b : List Str} (ha : ∀ z ∈ a, isLit z = true) (h : ∀ x, x ∈ a ↔ x ∈ b) : dueD a = dueD b := by
  unfold dueD
  rw [badOf_none ha, badOf_none fun z hz => ha z ((h z).mpr hz), litO_congr h]
theorem sub_back {a b : List Str} (hn : a.Nodup) (hs : ∀ z ∈ a, z ∈ b) (hl : a.length = b.length) : ∀ z ∈ b, z ∈ a := fun z hz => Classical.byContradiction fun h => by
  have h1 : (z :: a).Nodup := List.nodup_cons.mpr ⟨h, hn⟩
  have := List.Nodup.length_le_of_subset (l₂ := b) h1 fun y hy => by
    rcases List.mem_cons.mp hy with rfl | hy
    · exact hz
    · exact hs y hy
  rw [List.length_cons] at this
  omega
theorem litO_eq_iff {zs ys : List Str} (hz : ∀ z ∈ zs, isLit z = true) (hy : ∀ z ∈ ys, isLit z = true) (nz : (zs.map bare).Nodup) (ny : (ys.map bare).Nodup) : litO zs = litO ys ↔ (∀ z ∈ zs, z ∈ ys) ∧ zs.length = ys.length := by
  constructor
  · intro e
    refine ⟨fun z h => ?_, by rw [← litO_len_nd hz nz, e, litO_len_nd hy ny]⟩
    have := (litO_iff hz).mpr h
    rw [e] at this
    exact litO_mem this
  · rintro ⟨h1, h2⟩
    exact litO_congr fun x => ⟨h1 x, sub_back (nd_of_bare nz) h1 h2 x⟩
theorem sign_ok : ∀ c ∈ signsL, c < 0x110000 := by decide +kernel
theorem lit_ok {z : Str} (h : isLit z = true) : PyData.strOk z = true := by
  have key : ∀ w : Str, (∀ c ∈ w.cps.toList, c < 0x110000) → PyData.strOk w = true := fun w hw => by
    unfold PyData.strOk
    rw [← Array.all_toList]
    exact List.all_eq_true.mpr fun c hc => decide_eq_true (hw c hc)
  obtain ⟨_, _, _, _, hs, _⟩ := nm_first (show isNm (bare z) = true from h)
  rcases lit_cases h with e | e
  · rw [e]; exact key _ fun c hc => sign_ok c (hs c hc)
  · rw [e]
    refine key _ fun c hc => ?_
    rw [app_toList] at hc
    rcases List.mem_append.mp hc with hc | hc
    · have : c = 45 := List.mem_singleton.mp (show c ∈ [45] from hc)
      omega
    · exact sign_ok c (hs c hc)
theorem litO_ok {zs : List Str} (h : ∀ z ∈ zs, isLit z = true) : ∀ z ∈ litO zs, PyData.strOk z = true := fun z hz => lit_ok (h z (litO_mem hz))
theorem due_fitsN {zs : List Str} (hl : zs.length ≤ 1000) : Fits 4 (dueD zs) := by
  have h8 := litO_len zs
  unfold dueD
  split
  · exact fits3 trivial trivial trivial
  · split
    · exact fits3 trivial trivial trivial
    · split
      · exact fits3 trivial trivial trivial
      · refine fits3 trivial ⟨by rw [List.length_map]; omega, fun x hx => ?_⟩ trivial
        obtain ⟨z, _, rfl⟩ := List.mem_map.mp hx
        trivial
/-- a row of at most six literals of different names -/
structure Row6 (zs : List Str) : Prop where
  len : zs.length ≤ 6
  lit : ∀ z ∈ zs, isLit z = true
  nd : (zs.map bare).Nodup
theorem Row6.filter {zs : List Str} (h : Row6 zs) (p : Str → Bool) : Row6 (zs.filter p) := ⟨by have := List.length_filter_le p zs; have := h.len; omega, fun z hz => h.lit z (List.mem_filter.mp hz).1, filt_nd p h.nd⟩
theorem Row6.reverse {zs : List Str} (h : Row6 zs) : Row6 zs.reverse := ⟨by rw [List.length_reverse]; exact h.len, fun z hz => h.lit z (List.mem_reverse.mp hz), by rw [List.map_reverse]; exact List.pairwise_reverse.mpr (h.nd.imp Ne.symm)⟩
theorem Row6.litO {zs : List Str} (h : Row6 zs) : (litO zs).length = zs.length := litO_len_nd h.lit h.nd
theorem Row6.mem {zs : List Str} (h : Row6 zs) {z : Str} : z ∈ Rd.litO zs ↔ z ∈ zs := litO_iff h.lit
theorem Row6.short {zs : List Str} (h : Row6 zs) : ∀ z ∈ zs, z.length ≤ 1000 := fun z hz => by have := lit_len (h.lit z hz); omega
theorem at_strN {l : List Str} {i : Int} (h0 : 0 ≤ i) (h1 : i < (l.length : Int)) : ∃ z, l[i.toNat]? = some z ∧ atI (l.map V.str) i = some (.str z) ∧ ixN (l.map V.str).length i = some i.toNat := by
  have hl : i.toNat < l.length := by omega
  refine ⟨l[i.toNat], by simp [hl], ?_, ?_⟩
  · unfold atI ixN
    rw [if_pos h0, if_pos (by rw [List.length_map]; omega)]
    simp [hl]
  · unfold ixN
    rw [if_pos h0, if_pos (by rw [List.length_map]; omega)]
theorem set_bare {l : List Str} {i : Nat} {z y : Str} (h : l[i]? = some z) (e : bare y = bare z) : (l.set i y).map bare = l.map bare := by
  rw [List.map_set, e]
  obtain ⟨hi, rfl⟩ := List.getElem?_eq_some_iff.mp h
  have hi' : i < (l.map bare).length := by rw [List.length_map]; exact hi
  have := List.set_getElem_self (as := l.map bare) (i := i) hi'
  rw [List.getElem_map] at this
  exact this
/-- the text of a clause -/
def textC (ls : List Str) : Str := if ls.length = 0 then "0" else Txt.join " | " ls
theorem ord_nodup {l : List Str} (h : Ord l) : l.Nodup := List.Pairwise.imp (S := fun a b => a ≠ b) (fun {a b} (h : SLt a b) (e : a = b) => SLt.irr (by rw [e] at h; exact h)) h
theorem flat_bare {zs : List Str} {l : List Str} (hl : ∀ n ∈ l, isNm n = true) : ∀ z ∈ flat zs l, bare z ∈ l := fun z hz => by
  unfold flat at hz
  obtain ⟨n, hn, h⟩ := List.mem_flatMap.mp hz
  have h1 := (List.mem_filter.mp h).1
  rcases List.mem_cons.mp h1 with e | h1
  · rw [e, nm_bare (hl n hn)]; exact hn
  rcases List.mem_cons.mp h1 with e | h1
  · rw [e, bare_app]; exact hn
  · cases h1
theorem flat_nodup {zs : List Str} : ∀ {l : List Str}, l.Nodup → (∀ n ∈ l, isNm n = true) → (flat zs l).Nodup
  | [], _, _ => List.Pairwise.nil
  | n :: r, hd, hl => by
    obtain ⟨h1, h2⟩ := List.nodup_cons.mp hd
    have hr : ∀ m ∈ r, isNm m = true := fun m hm => hl m (List.mem_cons_of_mem _ hm)
    have ih := flat_nodup (zs := zs) h2 hr
    have e : flat zs (n :: r) = ([n, ("-" : Str) ++ n].filter fun z => decide (z ∈ zs)) ++ flat zs r := by unfold flat; rw [List.flatMap_cons]
    rw [e]
    have hn2 : ([n, ("-" : Str) ++ n]).Nodup := List.nodup_cons.mpr ⟨fun h => neg_ne n (by simpa using h), List.nodup_cons.mpr ⟨by simp, List.Pairwise.nil⟩⟩
    refine List.nodup_append.mpr ⟨List.Pairwise.filter _ hn2, ih, fun x hx y hy exy => ?_⟩
    have hb := flat_bare hr y hy
    have hx1 := (List.mem_filter.mp hx).1
    have e2 : bare x = n := by
      rcases List.mem_cons.mp hx1 with e | hx1
      · rw [e]; exact nm_bare (hl n List.mem_cons_self)
      rcases List.mem_cons.mp hx1 with e | hx1
      · rw [e, bare_app]
      · cases hx1
    rw [← exy, e2] at hb
    exact h1 hb
theorem litO_nodup {zs : List Str} (h : ∀ z ∈ zs, isLit z = true) : (litO zs).Nodup := flat_nodup (ord_nodup (ord_srt _)) fun n hn => by
  obtain ⟨y, hy, rfl⟩ := List.mem_map.mp (mem_srt.mp hn)
  exact h y hy
theorem same_len {a b : List Str} (ha : a.Nodup) (hb : b.Nodup) (h : ∀ x, x ∈ a ↔ x ∈ b) : a.length = b.length :=
  Nat.le_antisymm (List.Nodup.length_le_of_subset ha fun x hx => (h x).mp hx) (List.Nodup.length_le_of_subset hb fun x hx => (h x).mpr hx)
theorem litO_filt {zs : List Str} (h : Row6 zs) (p : Str → Bool) : ((litO zs).filter p).length = (zs.filter p).length :=
  same_len (List.Pairwise.filter p (litO_nodup h.lit)) (List.Pairwise.filter p (nd_of_bare h.nd)) fun x => by simp [List.mem_filter, h.mem]
theorem litO_litO {zs : List Str} (h : ∀ z ∈ zs, isLit z = true) : litO (litO zs) = litO zs := litO_congr fun _ => litO_iff h
theorem nd_bare {ws : List Str} (hn : ws.Nodup) (h : ∀ z ∈ ws, isLit z = true) (hf : ∀ z ∈ ws, flip z ∉ ws) : (ws.map bare).Nodup := by
  refine List.pairwise_map.mpr (List.Pairwise.imp_of_mem (R := fun a b => a ≠ b) ?_ hn)
  intro a b ha hb hne e
  rcases same_name (h a ha) (h b hb) e with e | e
  · exact hne e
  · exact hf b hb (e ▸ ha)
/-! lists of texts: comprehensions, joining -/
theorem s_catS {K : PySem.W.Frag} {H : Hp} {Q : VK} {a b : Addr} {xs ys : List Str} (ha : H a = some (.lst (xs.map V.str))) (hb : H b = some (.lst (ys.map V.str))) (hl : xs.length + ys.length ≤ 1000000) (h : ∀ l H', Same H H' → H l = none → H' l = some (.lst ((xs ++ ys).map V.str)) → Q (.ref l) H') : rAddP K (.ref a) (.ref b) H Q :=
  .inl ⟨_, _, _, _, rfl, rfl, ha, hb, by rw [List.length_map, List.length_map, sizeLine_eq]; omega, fun l hl0 => h l _ (same_new hl0) hl0 (by rw [upd_same, List.map_append])⟩
def gS (g : Str → V) : V → V
  | .str z => g z
  | _ => .non
def cS (c : Str → Bool) : V → Bool
  | .str z => c z
  | _ => false
theorem map_gS (g : Str → V) (zs : List Str) : (zs.map V.str).map (gS g) = zs.map g := by rw [List.map_map]; rfl
theorem filter_cS (c : Str → Bool) (zs : List Str) : (zs.map V.str).filter (cS c) = (zs.filter c).map V.str := by rw [List.filter_map]; rfl
theorem lcS_map {K : PySem.W.Frag} {H1 : Hp} {σ : L2.St} {Q : VK} {v : Nat} {te : TE} {x : V} {zs : List Str} (g : Str → V) (hx : Items K H1 x (zs.map V.str)) (hl : zs.length ≤ 1000000)
    (hf : ∀ z ∈ zs, ∀ H', Same H1 H' → ∀ Q' : VK, (∀ H'', Same H' H'' → Q' (g z) H'') → te (σ.set v (some (.str z))) H' Q')
    (hq : ∀ D H', H1 D = none → Same H1 H' → H' D = some (.lst (zs.map g)) → Q (.ref D) H') : LcBody K (gName v) tYes te [v] σ Q x H1 := by
  refine lcb_map (gS g) hx (by rw [List.length_map]; exact hl) ?_ ?_
  · intro x hx H' s Q' hQ
    obtain ⟨z, hz, rfl⟩ := List.mem_map.mp hx
    exact hf z hz H' s Q' hQ
  · intro D H' h0 s h
    rw [map_gS] at h
    exact hq D H' h0 s h
theorem lcS_str {K : PySem.W.Frag} {H1 : Hp} {σ : L2.St} {Q : VK} {v : Nat} {te : TE} {x : V} {zs : List Str} (f : Str → Str) (hx : Items K H1 x (zs.map V.str)) (hl : zs.length ≤ 1000000)
    (hf : ∀ z ∈ zs, ∀ H', Same H1 H' → ∀ Q' : VK, (∀ H'', Same H' H'' → Q' (.str (f z)) H'') → te (σ.set v (some (.str z))) H' Q')
    (hq : ∀ D H', H1 D = none → Same H1 H' → H' D = some (.lst ((zs.map f).map V.str)) → Q (.ref D) H') : LcBody K (gName v) tYes te [v] σ Q x H1 :=
  lcS_map (fun z => .str (f z)) hx hl hf fun D H' h0 s h => hq D H' h0 s (by rw [h, List.map_map]; rfl)
theorem lcS_bl {K : PySem.W.Frag} {H1 : Hp} {σ : L2.St} {Q : VK} {v : Nat} {te : TE} {x : V} {zs : List Str} (f : Str → Bool) (hx : Items K H1 x (zs.map V.str)) (hl : zs.length ≤ 1000000)
    (hf : ∀ z ∈ zs, ∀ H', Same H1 H' → ∀ Q' : VK, (∀ H'', Same H' H'' → Q' (.bl (f z)) H'') → te (σ.set v (some (.str z))) H' Q')
    (hq : ∀ D H', H1 D = none → Same H1 H' → H' D = some (.lst ((zs.map f).map V.bl)) → Q (.ref D) H') : LcBody K (gName v) tYes te [v] σ Q x H1 :=
  lcS_map (fun z => .bl (f z)) hx hl hf fun D H' h0 s h => hq D H' h0 s (by rw [h, List.map_map]; rfl)
theorem lcS_filt {K : PySem.W.Frag} {H1 : Hp} {σ : L2.St} {Q : VK} {v : Nat} {tt : TT} {te : TE} {x : V} {zs : List Str} (f : Str → Str) (c : Str → Bool) (hx : Items K H1 x (zs.map V.str)) (hl : zs.length ≤ 1000000)
    (hc : ∀ z ∈ zs, ∀ H', Same H1 H' → ∀ Q' : Bool → Hp → Prop, (∀ H'', Same H' H'' → Q' (c z) H'') → tt (σ.set v (some (.str z))) H' Q')
    (hf : ∀ z ∈ zs, c z = true → ∀ H', Same H1 H' → ∀ Q' : VK, (∀ H'', Same H' H'' → Q' (.str (f z)) H'') → te (σ.set v (some (.str z))) H' Q')
    (hq : ∀ D H', H1 D = none → Same H1 H' → H' D = some (.lst (((zs.filter c).map f).map V.str)) → Q (.ref D) H') : LcBody K (gName v) tt te [v] σ Q x H1 := by
  refine lcb_filt (gS fun z => .str (f z)) (cS c) hx (by rw [List.length_map]; exact hl) ?_ ?_ ?_
  · intro x hx H' s Q' hQ
    obtain ⟨z, hz, rfl⟩ := List.mem_map.mp hx
    exact hc z hz H' s Q' hQ
  · intro x hx hcx H' s Q' hQ
    obtain ⟨z, hz, rfl⟩ := List.mem_map.mp hx
    exact hf z hz hcx H' s Q' hQ
  · intro D H' h0 s h
    rw [filter_cS, map_gS] at h
    exact hq D H' h0 s (by rw [h, List.map_map]; rfl)
theorem IsAll.bls {H : Hp} : ∀ l : List Bool, IsAll H (l.map V.bl) (l.map PyData.bool)
  | [] => .nil
  | b :: r => .cons (.bl b) (IsAll.bls r)
theorem fits_bls {l : List Bool} (h : l.length ≤ 1000000) : Fits 4 (.list (l.map .bool)) := ⟨by rw [List.length_map]; exact h, fun d hd => by
  obtain ⟨z, _, rfl⟩ := List.mem_map.mp hd
  trivial⟩
theorem len1 {x : V} : [x].length ≤ sizeLine := by show 1 ≤ sizeLine; rw [sizeLine_eq]; decide
theorem len2 {x y : V} : [x, y].length ≤ sizeLine := by show 2 ≤ sizeLine; rw [sizeLine_eq]; decide
theorem len4 {x y z u : V} : [x, y, z, u].length ≤ sizeLine := by show 4 ≤ sizeLine; rw [sizeLine_eq]; decide
theorem len5 {x y z u w : V} : [x, y, z, u, w].length ≤ sizeLine := by show 5 ≤ sizeLine; rw [sizeLine_eq]; decide
theorem len6 {x y z u w r : V} : [x, y, z, u, w, r].length ≤ sizeLine := by show 6 ≤ sizeLine; rw [sizeLine_eq]; decide
theorem sum_le {ys : List Str} {m : Nat} (hz : ∀ z ∈ ys, z.length ≤ m) : (ys.map (·.length)).sum ≤ ys.length * m := by
  induction ys with
  | nil => simp
  | cons z r ih =>
    have h1 := ih fun y hy => hz y (List.mem_cons_of_mem _ hy)
    have h2 := hz z List.mem_cons_self
    rw [List.map_cons, List.sum_cons, List.length_cons, Nat.add_mul]
    omega
theorem join_fits {ys : List Str} {a : Str} (hl : ys.length ≤ 1000) (hz : ∀ z ∈ ys, z.length ≤ 1000) (ha : a.length ≤ 100) : (ys.map (·.length)).sum + ys.length * a.length ≤ 16777216 := by
  have h1 := sum_le hz
  have h2 : ys.length * 1000 ≤ 1000 * 1000 := Nat.mul_le_mul_right _ hl
  have h3 : ys.length * a.length ≤ 1000 * 100 := Nat.mul_le_mul hl ha
  omega
theorem fits_strs {l : List Str} (h : l.length ≤ 1000000) : Fits 4 (.tuple (l.map .str)) ∧ Fits 4 (.list (l.map .str)) := by
  have a : ∀ d ∈ l.map PyData.str, Fits 3 d := fun d hd => by
    obtain ⟨z, _, rfl⟩ := List.mem_map.mp hd
    trivial
  exact ⟨⟨by rw [List.length_map]; exact h, a⟩, ⟨by rw [List.length_map]; exact h, a⟩⟩
theorem same_un {H H' : Hp} {q : Addr} (s : Same H H') (h : H' q = none) : H q = none := by
  cases e : H q with
  | none => rfl
  | some o => rw [s _ _ e] at h; cases h
theorem same_put {H H' : Hp} {q : Addr} {o : HO} (s : Same H H') (h : H q = none) : Same H (upd H' q o) := fun b u e => by
  rw [upd_ne (ne_of_none e h)]
  exact s _ _ e
theorem s_lenO {K : PySem.W.Frag} {l : List (Addr × Str)} {H : Hp} {Q : VK} {p : Addr} {xs : List V} (hp : H p = some (.lst xs)) (h : Q (.int xs.length) H) : Cl.rLenO K l [.ref p] H Q := .inl (s_lenL hp h)
theorem s_intB {b : Bool} {H : Hp} {Q : VK} (h : Q (.int (if b then 1 else 0)) H) : rIntP [.bl b] H Q := h
/-! [e for k in range(j)], e draws from the source -/
theorem lcr_src {H1 : Hp} {σ : L2.St} {Q : VK} {v : Nat} {te : TE} {j : Int} {a : Addr} (P : Nat → Str → Prop) (h1 : j ≤ 1000000) (h0 : -1000000 ≤ j) (hS : Src H1 a)
    (hf : ∀ i : Nat, (i : Int) < j → ∀ H', Src H' a → Mov a H1 H' → ∀ Q' : VK, (∀ H'' z, Src H'' a → Mov a H' H'' → P i z → Q' (.str z) H'') → te (σ.set v (some (.int i))) H' Q')
    (hq : ∀ D H' (zs : List Str), H1 D = none → D ≠ a → Src H' a → Mov a H1 H' → H' D = some (.lst (zs.map V.str)) → zs.length = j.toNat → (∀ i z, zs[i]? = some z → P i z) → Q (.ref D) H') : LcBodyR (gName v) tYes te [v] σ Q [.int j] H1 := by
  refine ⟨j, rfl, by omega, by omega, ?_⟩
  intro Dr hD
  have hDa : Dr ≠ a := hS.ne hD
  have hxl : ((List.range j.toNat).map fun (i : Nat) => V.int (0 + (i : Int))).length = j.toNat := by rw [List.length_map, List.length_range]
  refine lc_y (xs := (List.range j.toNat).map fun (i : Nat) => V.int (0 + (i : Int))) (fun i H => Src H a ∧ Mov a H1 H ∧ ∃ zs : List Str, zs.length = i ∧ H Dr = some (.lst (zs.map V.str)) ∧ ∀ k z, zs[k]? = some z → P k z)
    ⟨hS.keep (same_new hD), Mov.of_same (same_new hD), [], rfl, upd_same, fun k z h => by simp at h⟩ (fun i H _ _ => yields_range 0 j.toNat i H) ?_ ?_
  · rintro i x H hi ⟨S, B, zs, hl, hz, hP⟩
    have hij : i < j.toNat := by have := (List.getElem?_eq_some_iff.mp hi).1; rw [hxl] at this; exact this
    have ex : x = .int (i : Int) := by
      rw [List.getElem?_map, List.getElem?_range hij] at hi
      have : V.int (0 + (i : Int)) = x := by simpa using hi
      rw [← this, Int.zero_add]
    subst ex
    have e1 : wipe σ [v] = σ.set v none := rfl
    rw [e1]
    have e2 : (σ.set v none).set v (some (.int (i : Int))) = σ.set v (some (.int (i : Int))) := by rw [List.set_set]
    have e3 : wipe (σ.set v (some (.int (i : Int)))) [v] = σ.set v none := by show (σ.set v (some _)).set v none = _; rw [List.set_set]
    unfold gName
    rw [e2]
    refine ⟨e3, ?_⟩
    unfold tYes
    dsimp only
    rw [if_pos rfl]
    refine hf i (by omega) H S B _ fun H'' z S2 b2 hp => ?_
    have B2 := B.trans b2
    refine ⟨zs.map V.str, b2 _ _ hz hDa, by rw [List.length_map, hl, sizeLine_eq]; omega, hS.off hD B2 S2, Mov.put hS hD B2, zs ++ [z], by rw [List.length_append, hl]; rfl, by rw [upd_same, map_snoc], fun k y hk => ?_⟩
    by_cases hlt : k < zs.length
    · rw [List.getElem?_append_left hlt] at hk
      exact hP k y hk
    · rw [List.getElem?_append_right (by omega)] at hk
      have hk0 : k = zs.length := by
        have := (List.getElem?_eq_some_iff.mp hk).1
        simp at this
        omega
      subst hk0
      have : z = y := by simpa using hk
      subst this
      rw [hl]
      exact hp
  · rintro H ⟨S, B, zs, hl, hz, hP⟩
    rw [hxl] at hl
    exact hq Dr H zs hD hDa S B hz hl hP
/-- [e for x in y]: the i-th value has P i, the heap only grows -/
theorem lcb_rel {K : PySem.W.Frag} {H1 : Hp} {σ : L2.St} {Q : VK} {v : Nat} {te : TE} {x : V} {xs : List V} (P : Nat → V → Hp → Prop) (hk : ∀ i y H H', P i y H → Same H H' → P i y H') (hu : ∀ i y H D zs ws, P i y H → H D = some (.lst zs) → P i y (upd H D (.lst ws))) (hx : Items K H1 x xs) (hl : xs.length ≤ 1000000)
    (hf : ∀ i x, xs[i]? = some x → ∀ H', Same H1 H' → ∀ Q' : VK, (∀ H'' y, Same H' H'' → P i y H'' → Q' y H'') → te (σ.set v (some x)) H' Q')
    (hq : ∀ D H' (ys : List V), H1 D = none → Same H1 H' → H' D = some (.lst ys) → ys.length = xs.length → (∀ i y, ys[i]? = some y → P i y H') → Q (.ref D) H') : LcBody K (gName v) tYes te [v] σ Q x H1 := by
  refine lcb_items hx fun J hy => ?_
  intro Dr hD
  refine lc_y (xs := xs) (fun i H => Same H1 H ∧ ∃ ys : List V, ys.length = i ∧ H Dr = some (.lst ys) ∧ ∀ k y, ys[k]? = some y → P k y H)
    ⟨same_new hD, [], rfl, upd_same, fun k z h => by simp at h⟩ (fun i H _ p => hy i H p.1) ?_ ?_
  · rintro i x H hi ⟨sm, ys, hl', hz, hP⟩
    have e1 : wipe σ [v] = σ.set v none := rfl
    rw [e1]
    have e2 : (σ.set v none).set v (some x) = σ.set v (some x) := by rw [List.set_set]
    have e3 : wipe (σ.set v (some x)) [v] = σ.set v none := by show (σ.set v (some _)).set v none = _; rw [List.set_set]
    unfold gName
    rw [e2]
    refine ⟨e3, ?_⟩
    unfold tYes
    dsimp only
    rw [if_pos rfl]
    refine hf i x hi H sm _ fun H'' y s2 hp => ?_
    have hil := (List.getElem?_eq_some_iff.mp hi).1
    have hz2 := s2 _ _ hz
    refine ⟨ys, hz2, by rw [hl', sizeLine_eq]; omega, fun b o e => ?_, ys ++ [y], by rw [List.length_append, hl']; rfl, upd_same, fun k u hk' => ?_⟩
    · rw [upd_ne (ne_of_none e hD)]
      exact s2 _ _ (sm _ _ e)
    · refine hu k u H'' Dr ys _ ?_ hz2
      by_cases hlt : k < ys.length
      · rw [List.getElem?_append_left hlt] at hk'
        exact hk k u H H'' (hP k u hk') s2
      · rw [List.getElem?_append_right (by omega)] at hk'
        have hk0 : k = ys.length := by
          have := (List.getElem?_eq_some_iff.mp hk').1
          simp at this
          omega
        subst hk0
        have : y = u := by simpa using hk'
        subst this
        rw [hl']
        exact hp
  · rintro H ⟨sm, ys, hl', hz, hP⟩
    exact hq Dr H ys hD sm hz hl' hP
theorem IsAll.ofIdx {H : Hp} : ∀ {ys : List V} {ds : List PyData}, ys.length = ds.length → (∀ (i : Nat) y d, ys[i]? = some y → ds[i]? = some d → Is H y d) → IsAll H ys ds
  | [], [], _, _ => .nil
  | [], _ :: _, h, _ => by simp at h
  | _ :: _, [], h, _ => by simp at h
  | y :: ys, d :: ds, h, f => .cons (f 0 y d rfl rfl) (IsAll.ofIdx (by simpa using h) fun i y d h1 h2 => f (i + 1) y d (by simpa using h1) (by simpa using h2))
/-! turnings -/
def IsTu (K : PySem.W.Frag) (H : Hp) (c : Addr) (ns : List Str) : Prop := ∃ dx q, H c = some (.ins (ga K "Turning") dx [("turned", .ref q)]) ∧ H q = some (.tup (ns.map V.str))
theorem IsTu.keep {K : PySem.W.Frag} {H H' : Hp} {c : Addr} {ns : List Str} (h : IsTu K H c ns) (s : Same H H') : IsTu K H' c ns := by
  obtain ⟨dx, q, h1, h2⟩ := h
  exact ⟨dx, q, s _ _ h1, s _ _ h2⟩
/-- a turning of the names is made, or refused -/
structure ChT (K : PySem.W.Frag) (zs : List Str) (H : Hp) (E : XK) (ok : Prop) : Prop where
  bad : ∀ z, badN zs = some z → ∀ H' d, Same H H' → H' d = some (.xd [("text", .str z)]) → E (.ref (ga K "BadName")) (some d) H'
  many : badN zs = none → (12 : Int) < ((srt zs).length : Int) → ∀ H' d, Same H H' → H' d = some (.xd [("limit", .int 12)]) → E (.ref (ga K "TooMany")) (some d) H'
  fine : badN zs = none → ((srt zs).length : Int) ≤ 12 → ok
theorem ChT.keep {K : PySem.W.Frag} {zs : List Str} {H H1 : Hp} {E : XK} {ok ok' : Prop} (h : ChT K zs H E ok) (s : Same H H1) (f : ok → ok') : ChT K zs H1 E ok' :=
  ⟨fun z e H' d s' => h.bad z e H' d (s.trans s'), fun e e2 H' d s' => h.many e e2 H' d (s.trans s'), fun e e2 => f (h.fine e e2)⟩
abbrev CkT (K : PySem.W.Frag) (zs : List Str) (H : Hp) (Q : VK) (E : XK) : Prop := ChT K zs H E (∀ H' c, Same H H' → H c = none → IsTu K H' c (srt zs) → Q (.ref c) H')
theorem CkT.keep {K : PySem.W.Frag} {zs : List Str} {H H1 : Hp} {Q : VK} {E : XK} (h : CkT K zs H Q E) (s : Same H H1) : CkT K zs H1 Q E := ChT.keep h s fun ok H' c s2 hc => ok H' c (s.trans s2) (same_un s hc)
theorem ckT_ok {K : PySem.W.Frag} {zs : List Str} {H : Hp} {Q : VK} {E : XK} (hn : ∀ z ∈ zs, isNm z = true) (hl : (srt zs).length ≤ 12) (h : ∀ H' c, Same H H' → H c = none → IsTu K H' c (srt zs) → Q (.ref c) H') : CkT K zs H Q E :=
  ⟨fun z e => by rw [badN_none hn] at e; (cases e), fun _ e => by omega, fun _ _ => h⟩
/-- names, in order, each once -/
structure Tn (ns : List Str) : Prop where
  nm : ∀ z ∈ ns, isNm z = true
  ord : Ord ns
  len : ns.length ≤ 12
theorem Tn.srt {ns : List Str} (h : Tn ns) : srt ns = ns := (srt_eq h.ord fun _ => Iff.rfl).symm
theorem Tn.of {zs : List Str} (hn : ∀ z ∈ zs, isNm z = true) (hl : (Rd.srt zs).length ≤ 12) : Tn (Rd.srt zs) := ⟨fun z h => hn z (mem_srt.mp h), ord_srt zs, hl⟩
theorem nm_short {z : Str} (h : isNm z = true) : z.length ≤ 8 := by obtain ⟨_, _, _, _, _, _, h8⟩ := nm_first h; exact h8
/-- the names that exactly one of the two has -/
def apartS (a b : List Str) : List Str := a.filter (fun z => !decide (z ∈ b)) ++ b.filter (fun z => !decide (z ∈ a))
theorem mem_apartS {a b : List Str} {z : Str} : z ∈ apartS a b ↔ (z ∈ a ∧ z ∉ b) ∨ (z ∈ b ∧ z ∉ a) := by simp [apartS, List.mem_filter]
theorem apartS_len (a b : List Str) : (apartS a b).length ≤ a.length + b.length := by
  unfold apartS
  rw [List.length_append]
  have h1 := List.length_filter_le (fun z => !decide (z ∈ b)) a
  have h2 := List.length_filter_le (fun z => !decide (z ∈ a)) b
  omega
/-- a literal turned -/
def turnL (ns : List Str) (z : Str) : Str := if bare z ∈ ns then flip z else z
theorem turnL_lit {ns : List Str} {z : Str} (h : isLit z = true) : isLit (turnL ns z) = true := by
  unfold turnL
  split
  · exact flip_lit h
  · exact h
theorem turnL_bare {ns : List Str} {z : Str} (h : isLit z = true) : bare (turnL ns z) = bare z := by
  unfold turnL
  split
  · exact flip_bare h
  · rfl
/-- a turning of the ordered names is made, or refused -/
def MkT (K : PySem.W.Frag) (ns : List Str) (H : Hp) (Q : VK) (E : XK) : Prop := (ns.length ≤ 12 → ∀ H' c, Same H H' → H c = none → IsTu K H' c ns → Q (.ref c) H') ∧ (12 < ns.length → ∀ H' d, Same H H' → H' d = some (.xd [("limit", .int 12)]) → E (.ref (ga K "TooMany")) (some d) H')
theorem MkT.keep {K : PySem.W.Frag} {ns : List Str} {H H1 : Hp} {Q : VK} {E : XK} (h : MkT K ns H Q E) (s : Same H H1) : MkT K ns H1 Q E := ⟨fun l H' c s2 hc => h.1 l H' c (s.trans s2) (same_un s hc), fun l H' d s2 => h.2 l H' d (s.trans s2)⟩
theorem MkT.ck {K : PySem.W.Frag} {zs : List Str} {H : Hp} {Q : VK} {E : XK} (hn : ∀ z ∈ zs, isNm z = true) (h : MkT K (srt zs) H Q E) : CkT K zs H Q E :=
  ⟨fun z e => by rw [badN_none hn] at e; (cases e), fun _ e => h.2 (by omega), fun _ e => h.1 (by omega)⟩
theorem MkT.fine {K : PySem.W.Frag} {ns : List Str} {H : Hp} {Q : VK} {E : XK} (hl : ns.length ≤ 12) (h : ∀ H' c, Same H H' → H c = none → IsTu K H' c ns → Q (.ref c) H') : MkT K ns H Q E := ⟨fun _ => h, fun l => by omega⟩
theorem srt_srt (zs : List Str) : srt (srt zs) = srt zs := srt_congr fun _ => mem_srt
theorem ord_filter {ns : List Str} (h : Ord ns) (p : Str → Bool) : Ord (ns.filter p) := List.Pairwise.filter p h
theorem srt_ord {ns : List Str} (h : Ord ns) : srt ns = ns := (srt_eq h fun _ => Iff.rfl).symm
theorem nm_ok {z : Str} (h : isNm z = true) : PyData.strOk z = true := lit_ok (nm_lit h)
/-- the text of a turning -/
def textT (ns : List Str) : Str := if ns.length = 0 then "0" else Txt.join " " ns
theorem cutV_from (l : List Str) (k : Nat) : cutV (l.map V.str) (some (k : Int)) none = (l.drop k).map V.str := by
  unfold cutV
  rw [HT.sIx_nat, HT.sIx_none, List.length_map, ← List.map_drop, ← List.map_take]
  congr 1
  by_cases h : k ≤ l.length
  · rw [Nat.min_eq_left h, List.take_of_length_le (by rw [List.length_drop]; exact Nat.le_refl _)]
  · rw [Nat.min_eq_right (by omega), List.drop_length, List.drop_of_length_le (by omega), List.take_nil]
theorem cutV_to (l : List Str) (k : Nat) : cutV (l.map V.str) none (some (k : Int)) = (l.take k).map V.str := by
  unfold cutV
  rw [HT.sIx_nat, HT.sIx_none, List.length_map, ← List.map_drop, ← List.map_take]
  congr 1
  rw [Nat.sub_zero, List.drop_zero]
  by_cases h : k ≤ l.length
  · rw [Nat.min_eq_left h]
  · rw [Nat.min_eq_right (by omega), List.take_length, List.take_of_length_le (by omega)]
theorem s_fromL {K : PySem.W.Frag} {H : Hp} {Q : VK} {a : Addr} {l : List Str} {i : Int} (ha : H a = some (.lst (l.map V.str))) (h0 : 0 ≤ i) (h : ∀ p H', Same H H' → H p = none → H' p = some (.lst ((l.drop i.toNat).map V.str)) → Q (.ref p) H') : rSlP K (.ref a) (some i) none H Q :=
  s_slL ha fun p hp => h p _ (same_new hp) hp (by
    rw [upd_same, ← cutV_from]
    congr 4
    omega)
theorem s_toL {K : PySem.W.Frag} {H : Hp} {Q : VK} {a : Addr} {l : List Str} {i : Int} (ha : H a = some (.lst (l.map V.str))) (h0 : 0 ≤ i) (h : ∀ p H', Same H H' → H p = none → H' p = some (.lst ((l.take i.toNat).map V.str)) → Q (.ref p) H') : rSlP K (.ref a) none (some i) H Q :=
  s_slL ha fun p hp => h p _ (same_new hp) hp (by
    rw [upd_same, ← cutV_to]
    congr 4
    omega)
theorem lst_data {K : PySem.W.Frag} {H : Hp} {q : Addr} {l : List Str} (h : H q = some (.lst (l.map V.str))) : Dp K H (.ref q) (.list (l.map .str)) := .lst (SqL.of h) (DpAll.strs l)
theorem eqv_lst (a b : List Str) : PyData.eqv (.list (a.map .str)) (.list (b.map .str)) = decide (a = b) := eqvAll_strs a b
theorem nm_not {z : Str} (h : isLit z = false) : isNm z = false := by
  cases e : isNm z with
  | false => rfl
  | true => rw [nm_lit e] at h; cases h
theorem neg_not {n : Str} : isNm (("-" : Str) ++ n) = false := by
  cases e : isNm (("-" : Str) ++ n) with
  | false => rfl
  | true =>
    have := nm_nodash e
    rw [dash_app] at this
    cases this
/-- what is due for a row of names -/
def dueT (zs : List Str) : PyData := match badN zs with
  | some z => .tuple [.str "name", .str z, .bool true]
  | none => if (12 : Int) < ((srt zs).length : Int) then .tuple [.str "many", .int 12, .bool true] else .tuple [.str "turning", .tuple ((srt zs).map .str), .bool true]
theorem dueT_bad {zs : List Str} {z : Str} (h : badN zs = some z) : dueT zs = .tuple [.str "name", .str z, .bool true] := by unfold dueT; rw [h]
theorem dueT_many {zs : List Str} (h : badN zs = none) (h3 : (12 : Int) < ((srt zs).length : Int)) : dueT zs = .tuple [.str "many", .int 12, .bool true] := by unfold dueT; rw [h]; dsimp only; rw [if_pos h3]
theorem dueT_ok {zs : List Str} (h : badN zs = none) (h3 : ¬ (12 : Int) < ((srt zs).length : Int)) : dueT zs = .tuple [.str "turning", .tuple ((srt zs).map .str), .bool true] := by unfold dueT; rw [h]; dsimp only; rw [if_neg h3]
theorem dueT_fits {zs : List Str} (hl : zs.length ≤ 1000) : Fits 4 (dueT zs) := by
  have h8 := srt_len zs
  unfold dueT
  split
  · exact fits3 trivial trivial trivial
  · split
    · exact fits3 trivial trivial trivial
    · refine fits3 trivial ⟨by rw [List.length_map]; omega, fun x hx => ?_⟩ trivial
      obtain ⟨z, _, rfl⟩ := List.mem_map.mp hx
      trivial
theorem is3 {H : Hp} {y : V} {t : Str} {d e : PyData} (h : Is H y (.tuple [.str t, d, e])) : ∃ q x2 x3, y = .ref q ∧ H q = some (.tup [.str t, x2, x3]) := by
  cases h with
  | tup h r =>
    cases r with
    | cons h1 r =>
      cases h1
      cases r with
      | cons h2 r =>
        cases r with
        | cons h3 r =>
          cases r
          exact ⟨_, _, _, rfl, h⟩
theorem badN_ok {zs : List Str} (h : badN zs = none) : ∀ z ∈ zs, isNm z = true := fun z hz => by
  have := List.find?_eq_none.mp h z hz
  cases e : isNm z with
  | true => rfl
  | false => rw [e] at this; exact absurd rfl this
theorem shaped_lst (l : List Str) (h : ∀ z ∈ l, PyData.strOk z = true) : SeqAt.shaped (.list (l.map .str)) = true := by
  unfold SeqAt.shaped
  have h1 : (PyData.list (l.map .str)).canLay0 = true := by
    have := canLayAll_strs l h
    simp [PyData.canLay0, this]
  have h2 : (PyData.list (l.map .str)).depth = 1 := by
    have := depthAll_strs l
    simp [PyData.depth, this]
  rw [h1, h2]
  rfl
theorem Row6.turn {zs : List Str} (h : Row6 zs) (ns : List Str) : Row6 (zs.map (turnL ns)) := ⟨by rw [List.length_map]; exact h.len, fun z hz => by
    obtain ⟨y, hy, rfl⟩ := List.mem_map.mp hz
    exact turnL_lit (h.lit y hy), by
    have e : (zs.map (turnL ns)).map bare = zs.map bare := by
      rw [List.map_map]
      exact List.map_congr_left fun z hz => turnL_bare (h.lit z hz)
    rw [e]
    exact h.nd⟩
theorem s_neB {K : PySem.W.Frag} {H : Hp} {Q : VK} {i j : Bool} (h : Q (.bl (!decide (i = j))) H) : rNeP K (.bl i) (.bl j) H Q := by
  show Q (.bl (!decide (V.bl i = V.bl j))) H
  rw [show decide (V.bl i = V.bl j) = decide (i = j) from by rw [Bool.eq_iff_iff]; simp]
  exact h
theorem flip_flip {z : Str} (h : isLit z = true) : flip (flip z) = z := by
  rcases same_name (flip_lit (flip_lit h)) h (by rw [flip_bare (flip_lit h), flip_bare h]) with e | e
  · exact e
  · exfalso
    have key : ∀ w : Str, isLit w = true → flip w ≠ w := fun w hw e => by
      unfold flip at e
      cases hd : dash w with
      | true =>
        rw [hd, if_pos rfl] at e
        have := len_toList (cutS w (some 1) none)
        have h2 := len_toList w
        rw [cut_tail, List.length_drop, e] at this
        obtain ⟨r, hr⟩ := (dash_iff w).mp hd
        rw [hr] at this h2
        simp at this h2
        omega
      | false =>
        rw [hd, if_neg Bool.false_ne_true] at e
        exact neg_ne w e.symm
    exact key _ (flip_lit h) e
theorem turnL_congr {a b : List Str} (h : ∀ x, x ∈ a ↔ x ∈ b) (z : Str) : turnL a z = turnL b z := by
  unfold turnL
  by_cases hb : bare z ∈ b
  · rw [if_pos ((h _).mpr hb), if_pos hb]
  · rw [if_neg (fun e => hb ((h _).mp e)), if_neg hb]
theorem turnL_twice {ns : List Str} {z : Str} (h : isLit z = true) : turnL ns (turnL ns z) = z := by
  have hb := turnL_bare (ns := ns) h
  by_cases e : bare z ∈ ns
  · have e1 : turnL ns z = flip z := if_pos e
    have e2 : turnL ns (turnL ns z) = flip (turnL ns z) := if_pos (by rw [hb]; exact e)
    rw [e2, e1, flip_flip h]
  · have e1 : turnL ns z = z := if_neg e
    rw [e1, e1]
theorem turnL_apart {a b : List Str} {z : Str} (h : isLit z = true) : turnL (apartS a b) z = turnL a (turnL b z) := by
  have hb := turnL_bare (ns := b) h
  have m := mem_apartS (a := a) (b := b) (z := bare z)
  by_cases e1 : bare z ∈ b
  · have h1 : turnL b z = flip z := if_pos e1
    by_cases e2 : bare z ∈ a
    · have h2 : turnL a (turnL b z) = flip (turnL b z) := if_pos (by rw [hb]; exact e2)
      rw [h2, h1, flip_flip h]
      exact if_neg (by rw [m]; rintro (⟨_, h⟩ | ⟨_, h⟩); exact h e1; exact h e2)
    · have h2 : turnL a (turnL b z) = turnL b z := if_neg (by rw [hb]; exact e2)
      rw [h2, h1]
      exact if_pos (m.mpr (.inr ⟨e1, e2⟩))
  · have h1 : turnL b z = z := if_neg e1
    rw [h1]
    by_cases e2 : bare z ∈ a
    · have h2 : turnL a z = flip z := if_pos e2
      rw [h2]
      exact if_pos (m.mpr (.inl ⟨e2, e1⟩))
    · have h2 : turnL a z = z := if_neg e2
      rw [h2]
      exact if_neg (by rw [m]; rintro (⟨h, _⟩ | ⟨h, _⟩); exact e2 h; exact e1 h)
theorem dueT_congr {a b : List Str} (ha : ∀ z ∈ a, isNm z = true) (h : ∀ x, x ∈ a ↔ x ∈ b) : dueT a = dueT b := by
  unfold dueT
  rw [badN_none ha, badN_none fun z hz => ha z ((h z).mpr hz), srt_congr h]
theorem srt_filter (zs : List Str) (p : Str → Bool) : (srt zs).filter p = srt (zs.filter p) := srt_eq (ord_filter (ord_srt zs) p) fun x => by simp [List.mem_filter, mem_srt]
theorem apartS_nodup {a b : List Str} (ha : a.Nodup) (hb : b.Nodup) : (apartS a b).Nodup := by
  unfold apartS
  refine List.nodup_append.mpr ⟨List.Pairwise.filter _ ha, List.Pairwise.filter _ hb, fun x hx y hy e => ?_⟩
  have h1 := (List.mem_filter.mp hx).1
  have h2 := (List.mem_filter.mp hy).2
  rw [← e] at h2
  simp [h1] at h2
theorem apartS_nm {a b : List Str} (ha : ∀ z ∈ a, isNm z = true) (hb : ∀ z ∈ b, isNm z = true) : ∀ z ∈ apartS a b, isNm z = true := fun z h => by
  rcases mem_apartS.mp h with ⟨h, _⟩ | ⟨h, _⟩
  · exact ha z h
  · exact hb z h
theorem apartS_congr {a b a' b' : List Str} (h1 : ∀ x, x ∈ a ↔ x ∈ a') (h2 : ∀ x, x ∈ b ↔ x ∈ b') : ∀ x, x ∈ apartS a b ↔ x ∈ apartS a' b' := fun x => by rw [mem_apartS, mem_apartS, h1, h2]
theorem neg_bad {z : Str} (h : isLit z = false) : isLit (("-" : Str) ++ z) = false := by
  show isNm (bare (("-" : Str) ++ z)) = false
  rw [bare_app]
  exact nm_not h
/-- a list of different names, at most 12 -/
structure Nms (zs : List Str) : Prop where
  len : zs.length ≤ 12
  nm : ∀ z ∈ zs, isNm z = true
  nd : zs.Nodup
theorem Nms.tn {zs : List Str} (h : Nms zs) : Tn (Rd.srt zs) := Tn.of h.nm (by have := srt_len zs; have := h.len; omega)
/-- a literal is a yes under the turning -/
def yesB (ns : List Str) (z : Str) : Bool := !decide ((!dash z) = decide (bare z ∈ ns))
theorem yesB_congr {a b : List Str} (h : ∀ x, x ∈ a ↔ x ∈ b) (z : Str) : yesB a z = yesB b z := by
  unfold yesB
  have : decide (bare z ∈ a) = decide (bare z ∈ b) := by rw [Bool.eq_iff_iff]; simp [h]
  rw [this]
theorem dash_flip {z : Str} (h : isLit z = true) : dash (flip z) = !dash z := by
  unfold flip
  cases hd : dash z with
  | true =>
    rw [if_pos rfl]
    have e : bare z = cutS z (some 1) none := by unfold bare; rw [if_pos hd]
    rw [← e]
    exact nm_nodash h
  | false =>
    rw [if_neg Bool.false_ne_true]
    exact dash_app z
theorem dash_turn {ns : List Str} {z : Str} (h : isLit z = true) : (!dash (turnL ns z)) = yesB ns z := by
  unfold turnL yesB
  by_cases e : bare z ∈ ns
  · rw [if_pos e, dash_flip h, decide_eq_true e]
    cases dash z <;> rfl
  · rw [if_neg e, decide_eq_false e]
    cases dash z <;> rfl
theorem Row6.sub {zs ys : List Str} (h : Row6 zs) (s : ys.Sublist zs) : Row6 ys := ⟨Nat.le_trans s.length_le h.len, fun z hz => h.lit z (s.subset hz), h.nd.sublist (s.map bare)⟩
theorem less_sub (zs : List Str) (k : Nat) : (zs.take k ++ zs.drop (k + 1)).Sublist zs := by
  have := List.Sublist.append (List.Sublist.refl (zs.take k)) (List.drop_sublist_drop_left zs (Nat.le_succ k))
  rw [List.take_append_drop] at this
  exact this
theorem IsTu.upd {K : PySem.W.Frag} {H : Hp} {c D : Addr} {ns : List Str} {zs ws : List V} (h : IsTu K H c ns) (hD : H D = some (.lst zs)) : IsTu K (L2.upd H D (.lst ws)) c ns := by
  obtain ⟨dx, q, h1, h2⟩ := h
  refine ⟨dx, q, ?_, ?_⟩
  · rw [upd_ne (fun e => by rw [e, hD] at h1; cases h1)]; exact h1
  · rw [upd_ne (fun e => by rw [e, hD] at h2; cases h2)]; exact h2
/-- the first name that exactly one has is in the second -/
def befB (a b : List Str) : Bool := match (srt (apartS a b)).head? with
  | some n => decide (n ∈ b)
  | none => false
theorem befB_congr {a b a' b' : List Str} (h1 : ∀ x, x ∈ a ↔ x ∈ a') (h2 : ∀ x, x ∈ b ↔ x ∈ b') : befB a b = befB a' b' := by
  unfold befB
  rw [srt_congr (apartS_congr h1 h2)]
  cases (srt (apartS a' b')).head? with
  | none => rfl
  | some n => dsimp only; rw [Bool.eq_iff_iff]; simp [h2]
theorem apartS_comm (a b : List Str) : ∀ x, x ∈ apartS a b ↔ x ∈ apartS b a := fun x => by rw [mem_apartS, mem_apartS]; exact Or.comm
theorem befB_tri (a b : List Str) : (!befB b a) = (befB a b || decide (srt a = srt b)) := by
  unfold befB
  rw [srt_congr (apartS_comm b a)]
  cases e : srt (apartS a b) with
  | nil =>
    have : srt a = srt b := srt_congr fun x => by
      have h : x ∉ apartS a b := fun h => by rw [← mem_srt, e] at h; cases h
      rw [mem_apartS] at h
      by_cases h1 : x ∈ a <;> by_cases h2 : x ∈ b <;> simp [h1, h2] at h ⊢
    simp [this]
  | cons n r =>
    have hn : n ∈ apartS a b := by rw [← mem_srt, e]; exact List.mem_cons_self
    have hne : srt a ≠ srt b := fun h => by
      have h1 : ∀ x, x ∈ a ↔ x ∈ b := fun x => by rw [← mem_srt, h, mem_srt]
      rcases mem_apartS.mp hn with ⟨h2, h3⟩ | ⟨h2, h3⟩
      · exact h3 ((h1 n).mp h2)
      · exact h3 ((h1 n).mpr h2)
    rcases mem_apartS.mp hn with ⟨h2, h3⟩ | ⟨h2, h3⟩ <;> simp [h2, h3, hne]
/-- the names that two at least turn -/
def medS (a b c : List Str) : List Str := (a.filter fun z => decide (z ∈ b) || decide (z ∈ c)) ++ b.filter fun z => decide (z ∈ c)
theorem mem_medS {a b c : List Str} {z : Str} : z ∈ medS a b c ↔ (z ∈ a ∧ (z ∈ b ∨ z ∈ c)) ∨ (z ∈ b ∧ z ∈ c) := by simp [medS, List.mem_filter]
theorem cutV_mid (l : List Str) (i j : Nat) : cutV (l.map V.str) (some (i : Int)) (some (j : Int)) = ((l.drop (min i l.length)).take (min j l.length - min i l.length)).map V.str := by
  unfold cutV
  rw [HT.sIx_nat, HT.sIx_nat, List.length_map, ← List.map_drop, ← List.map_take]
theorem s_midL {K : PySem.W.Frag} {H : Hp} {Q : VK} {a : Addr} {l : List Str} {i j : Int} (ha : H a = some (.lst (l.map V.str))) (h0 : 0 ≤ i) (h1 : 0 ≤ j) (h : ∀ p H', Same H H' → H p = none → H' p = some (.lst (((l.drop (min i.toNat l.length)).take (min j.toNat l.length - min i.toNat l.length)).map V.str)) → Q (.ref p) H') : rSlP K (.ref a) (some i) (some j) H Q :=
  s_slL ha fun p hp => h p _ (same_new hp) hp (by
    rw [upd_same, ← cutV_mid]
    congr 4 <;> omega)
theorem Nms.sub {l zs : List Str} (hn : ∀ z ∈ l, isNm z = true) (hd : l.Nodup) (s : zs.Sublist l) (hl : zs.length ≤ 12) : Nms zs := ⟨hl, fun z h => hn z (s.subset h), hd.sublist s⟩
theorem Nms.rev {zs : List Str} (h : Nms zs) : Nms zs.reverse := ⟨by rw [List.length_reverse]; exact h.len, fun z hz => h.nm z (List.mem_reverse.mp hz), List.pairwise_reverse.mpr (h.nd.imp Ne.symm)⟩
/-- three lists of names -/
structure Rows3 (H : Hp) (r : Addr) (rs : List Addr) (zss : List (List Str)) : Prop where
  at_ : H r = some (.lst (rs.map V.ref))
  lr : rs.length = 3
  lz : zss.length = 3
  row : ∀ i, i < 3 → ∃ q z, rs[i]? = some q ∧ zss[i]? = some z ∧ H q = some (.lst (z.map V.str)) ∧ Nms z
theorem Rows3.keep {H H' : Hp} {r : Addr} {rs : List Addr} {zss : List (List Str)} (h : Rows3 H r rs zss) (s : Same H H') : Rows3 H' r rs zss := ⟨s _ _ h.at_, h.lr, h.lz, fun i hi => by
  obtain ⟨q, z, h1, h2, h3, h4⟩ := h.row i hi
  exact ⟨q, z, h1, h2, s _ _ h3, h4⟩⟩
theorem Rows3.of {H : Hp} {r q0 q1 q2 : Addr} {z0 z1 z2 : List Str} (h : H r = some (.lst [.ref q0, .ref q1, .ref q2])) (h0 : H q0 = some (.lst (z0.map V.str))) (h1 : H q1 = some (.lst (z1.map V.str))) (h2 : H q2 = some (.lst (z2.map V.str))) (n0 : Nms z0) (n1 : Nms z1) (n2 : Nms z2) : Rows3 H r [q0, q1, q2] [z0, z1, z2] := ⟨h, rfl, rfl, fun i hi => by
  match i, hi with
  | 0, _ => exact ⟨_, _, rfl, rfl, h0, n0⟩
  | 1, _ => exact ⟨_, _, rfl, rfl, h1, n1⟩
  | 2, _ => exact ⟨_, _, rfl, rfl, h2, n2⟩⟩
end Rd
namespace Rd
open PySem PySem.Spec PyProof.Rows L2 He Px
def sp_is_name (K : PySem.W.Frag) : Sp := Sp1 fun x H Q _ => ∃ z : Str, x = .str z ∧ z.length ≤ 1000000 ∧ ∀ H', Same H H' → Q (.bl (isNm z)) H'
def N_is_name : List PySem.Str := ["text", "sign"]
def t_is_name (K : PySem.W.Frag) (W : WX) : TS := (tCut (tIfS (tOr (tTest (tOp rLtP (tCB (rLenP K) (tCons (tVar 0) tNil)) (tC (.int 1)))) (tTest (tOp rGtP (tCB (rLenP K) (tCons (tVar 0) tNil)) (tC (.int 8))))) (tRet (tC (.bl false))) tNext)
    (tCut (tIfS (tTest (tOp (rInP K true) (tOp (rIxP K) (tVar 0) (tC (.int 0))) (tC (.str "abcdefghijklmnopqrstuvwxyz")))) (tRet (tC (.bl false))) tNext)
    (tRet (tCB (rAll K) (tCons (tLc (iAnyP K (tVar 0)) (gName 1) tYes (tOp (rInP K false) (tVar 1) (tC (.str "abcdefghijklmnopqrstuvwxyz0123456789"))) [1]) tNil)))))
theorem all_comp {l : List Nat} {p : Nat → Bool} : ((l.map p).all id) = l.all p := by rw [List.all_map]; rfl
theorem pure_is_name {K : PySem.W.Frag} {vs : List V} {H : Hp} {Q : VK} {E : XK} {W : WX} (h : sp_is_name K vs H Q E) : t_is_name K W { nx := fun _ H' => Q .non H', rt := Q } (start N_is_name vs) H := by
  obtain ⟨x, rfl, z, rfl, hz, hq⟩ := h
  show t_is_name K W _ [some (.str z), none] H
  unfold t_is_name
  have hs : z.length ≤ sizeLine := one_lt hz
  have no : isNm z = false → Q (.bl false) H := fun e => by have := hq H (Same.refl H); rw [e] at this; exact this
  refine s_nocut ?_
  walk_at "ss"
  refine s_lenS hs ?_
  walk_at "ss"
  refine s_itd (fun e1 => ?_) (fun e1 => ?_)
  · rw [if_pos rfl]
    walk_at "ss"
    exact no (by unfold isNm; rw [decide_eq_true e1]; rfl)
  · walk_at "ss"
    refine s_lenS hs ?_
    walk_at "ss"
    refine s_itd (fun e2 => ?_) (fun e2 => ?_)
    · walk_at "ss"
      exact no (by unfold isNm; rw [decide_eq_true e2, decide_eq_false e1]; rfl)
    · walk_at "ss"
      refine s_nocut ?_
      obtain ⟨c, r, hc, h0⟩ := at0 e1
      walk_at "ss"
      refine s_ixS hs h0 ?_
      walk_at "ss"
      rw [strIn_sign]
      show if (!decide (c ∈ lettersL)) = true then _ else _
      have en : isNm z = (decide (c ∈ lettersL) && z.cps.toList.all fun c => decide (c ∈ signsL)) := by
        unfold isNm
        rw [decide_eq_false e1, decide_eq_false e2, hc]
        rfl
      by_cases hm : c ∈ lettersL
      · rw [decide_eq_true hm] at en ⊢
        refine s_itF rfl ?_
        walk_at "ss"
        refine lcb_map (fun x => match x with | .str y => .bl (strIn y "abcdefghijklmnopqrstuvwxyz0123456789") | _ => .non) (show Items K H (.str z) _ from rfl) (by rw [List.length_map, len_toList]; exact hz) ?_ ?_
        · intro x hx H' s1 Q' hQ
          obtain ⟨d, _, rfl⟩ := List.mem_map.mp hx
          walk_at "ss"
          exact hQ _ (Same.refl _)
        · intro D H' hD s1 hl
          rw [List.map_map] at hl
          walk_at "ss"
          refine s_all (bs := z.cps.toList.map fun c => decide (c ∈ signsL)) (by
            rw [hl, List.map_map]
            congr 2
            apply List.map_congr_left
            intro c _
            show V.bl (strIn ⟨#[c]⟩ _) = _
            rw [strIn_sign]
            rfl) ?_
          rw [all_comp]
          have := hq H' s1
          rw [en] at this
          exact this
      · rw [decide_eq_false hm] at en ⊢
        refine s_itT rfl ?_
        walk_at "ss"
        exact no en
def sp_is_literal (K : PySem.W.Frag) : Sp := Sp1 fun x H Q _ => ∃ z : Str, x = .str z ∧ z.length ≤ 1000000 ∧ ∀ H', Same H H' → Q (.bl (isLit z)) H'
def N_is_literal : List PySem.Str := ["text"]
def t_is_literal (K : PySem.W.Frag) (W : WX) : TS := (tCut (tIfS (tTest (tOp (rEqP K) (tSl (rSlP K) (tVar 0) tNoPart (tPart (tC (.int 1)))) (tC (.str "-")))) (tRet (tCallS (sp_is_name K) (WE W) (tCons (tSl (rSlP K) (tVar 0) (tPart (tC (.int 1))) tNoPart) tNil))) tNext)
    (tRet (tCallS (sp_is_name K) (WE W) (tCons (tVar 0) tNil))))
theorem pure_is_literal {K : PySem.W.Frag} {vs : List V} {H : Hp} {Q : VK} {E : XK} {W : WX} (h : sp_is_literal K vs H Q E) : t_is_literal K W { nx := fun _ H' => Q .non H', rt := Q } (start N_is_literal vs) H := by
  obtain ⟨x, rfl, z, rfl, hz, hq⟩ := h
  show t_is_literal K W _ [some (.str z)] H
  unfold t_is_literal
  have hs : z.length ≤ sizeLine := one_lt hz
  unfold isLit bare dash at hq
  refine s_nocut ?_
  walk_at "ss"
  refine s_slS hs ?_
  walk_at "ss"
  refine s_itd (fun e1 => ?_) (fun e1 => ?_)
  · rw [decide_eq_true e1, if_pos rfl] at hq
    walk_at "ss"
    refine s_slS hs ?_
    walk_at "ss"
    exact ⟨_, rfl, _, rfl, Nat.le_trans (cutS_len _ _ _) hz, hq⟩
  · rw [decide_eq_false e1, if_neg Bool.false_ne_true] at hq
    walk_at "ss"
    exact ⟨_, rfl, _, rfl, hz, hq⟩
def sp_name_of (K : PySem.W.Frag) : Sp := Sp1 fun x H Q E => ∃ z : Str, x = .str z ∧ z.length ≤ 1000000 ∧ (isLit z = true → ∀ H', Same H H' → Q (.str (bare z)) H') ∧ (isLit z = false → ∀ H' d, Same H H' → H' d = some (.xd [("text", .str z)]) → E (.ref (ga K "BadLiteral")) (some d) H')
def N_name_of : List PySem.Str := ["literal"]
def t_name_of (K : PySem.W.Frag) (W : WX) : TS := (tCut (tIfS (tNot (tB (tCallS (sp_is_literal K) (WE W) (tCons (tVar 0) tNil)))) (tRaiseE (ga K "BadLiteral") "text" W (tCons (tVar 0) tNil)) tNext)
    (tCut (tIfS (tTest (tOp (rEqP K) (tSl (rSlP K) (tVar 0) tNoPart (tPart (tC (.int 1)))) (tC (.str "-")))) (tRet (tSl (rSlP K) (tVar 0) (tPart (tC (.int 1))) tNoPart)) tNext)
    (tRet (tVar 0))))
theorem pure_name_of {K : PySem.W.Frag} {vs : List V} {H : Hp} {Q : VK} {E : XK} (h : sp_name_of K vs H Q E) : t_name_of K (fun cls d _ H => E cls d H) { nx := fun _ H' => Q .non H', rt := Q } (start N_name_of vs) H := by
  obtain ⟨x, rfl, z, rfl, hz, hq, he⟩ := h
  show t_name_of K _ _ [some (.str z)] H
  unfold t_name_of
  have hs : z.length ≤ sizeLine := one_lt hz
  refine s_nocut ?_
  walk_at "ss"
  refine ⟨_, rfl, z, rfl, hz, fun H1 s1 => ?_⟩
  walk_at "ss"
  cases hl : isLit z with
  | false =>
    refine s_itT rfl ?_
    refine ⟨_, rfl, _, rfl, fun d hd => he hl _ d (s1.trans (same_new hd)) upd_same⟩
  | true =>
    refine s_itF rfl ?_
    have hq1 := hq hl
    unfold bare dash at hq1
    walk_at "ss"
    refine s_nocut ?_
    walk_at "ss"
    refine s_slS hs ?_
    walk_at "ss"
    refine s_itd (fun e1 => ?_) (fun e1 => ?_)
    · rw [decide_eq_true e1, if_pos rfl] at hq1
      walk_at "ss"
      refine s_slS hs ?_
      exact hq1 _ s1
    · rw [decide_eq_false e1, if_neg Bool.false_ne_true] at hq1
      walk_at "ss"
      exact hq1 _ s1
def sp_negated (K : PySem.W.Frag) : Sp := Sp1 fun x H Q E => ∃ z : Str, x = .str z ∧ z.length ≤ 1000000 ∧ (isLit z = true → ∀ H', Same H H' → Q (.str (flip z)) H') ∧ (isLit z = false → ∀ H' d, Same H H' → H' d = some (.xd [("text", .str z)]) → E (.ref (ga K "BadLiteral")) (some d) H')
def N_negated : List PySem.Str := ["literal"]
def t_negated (K : PySem.W.Frag) (W : WX) : TS := (tCut (tIfS (tNot (tB (tCallS (sp_is_literal K) (WE W) (tCons (tVar 0) tNil)))) (tRaiseE (ga K "BadLiteral") "text" W (tCons (tVar 0) tNil)) tNext)
    (tCut (tIfS (tTest (tOp (rEqP K) (tSl (rSlP K) (tVar 0) tNoPart (tPart (tC (.int 1)))) (tC (.str "-")))) (tRet (tSl (rSlP K) (tVar 0) (tPart (tC (.int 1))) tNoPart)) tNext)
    (tRet (tOp (rAddP K) (tC (.str "-")) (tVar 0)))))
theorem pure_negated {K : PySem.W.Frag} {vs : List V} {H : Hp} {Q : VK} {E : XK} (h : sp_negated K vs H Q E) : t_negated K (fun cls d _ H => E cls d H) { nx := fun _ H' => Q .non H', rt := Q } (start N_negated vs) H := by
  obtain ⟨x, rfl, z, rfl, hz, hq, he⟩ := h
  show t_negated K _ _ [some (.str z)] H
  unfold t_negated
  have hs : z.length ≤ sizeLine := one_lt hz
  refine s_nocut ?_
  walk_at "ss"
  refine ⟨_, rfl, z, rfl, hz, fun H1 s1 => ?_⟩
  walk_at "ss"
  cases hl : isLit z with
  | false =>
    refine s_itT rfl ?_
    refine ⟨_, rfl, _, rfl, fun d hd => he hl _ d (s1.trans (same_new hd)) upd_same⟩
  | true =>
    refine s_itF rfl ?_
    have hq1 := hq hl
    unfold flip dash at hq1
    walk_at "ss"
    refine s_nocut ?_
    walk_at "ss"
    refine s_slS hs ?_
    walk_at "ss"
    refine s_itd (fun e1 => ?_) (fun e1 => ?_)
    · rw [decide_eq_true e1, if_pos rfl] at hq1
      walk_at "ss"
      refine s_slS hs ?_
      exact hq1 _ s1
    · rw [decide_eq_false e1, if_neg Bool.false_ne_true] at hq1
      walk_at "ss"
      refine s_addS (by show 1 + z.length ≤ sizeLine; rw [sizeLine_eq]; omega) ?_
      exact hq1 _ s1
def sp_law_source (K : PySem.W.Frag) : Sp := Sp1 fun x H Q _ => ∃ (a : Addr) (ns : List Int), x = .ref a ∧ SqL K H a (ns.map V.int) ∧ ns.length ≤ 100 ∧ ∀ H' p, Same H H' → H p = none → Src H' p → Q (.ref p) H'
def N_law_source : List PySem.Str := ["_law_script"]
def t_law_source (K : PySem.W.Frag) (W : WX) : TS := (tRet (tLst (tCons (tCB (rListP K) (tCons (tVar 0) tNil)) (tCons (tC (.int 0)) (tCons (tC (.int 0)) (tCons (tC (.int 0)) (tCons (tC (.int 0)) tNil)))))))
theorem pure_law_source {K : PySem.W.Frag} {vs : List V} {H : Hp} {Q : VK} {E : XK} {W : WX} (h : sp_law_source K vs H Q E) : t_law_source K W { nx := fun _ H' => Q .non H', rt := Q } (start N_law_source vs) H := by
  obtain ⟨x, rfl, a, ns, rfl, hS, hl, hq⟩ := h
  show t_law_source K W _ [some (.ref a)] H
  unfold t_law_source
  walk_at "ss"
  refine s_listL hS fun l hl0 => ?_
  walk_at "ss"
  refine ⟨by show 5 ≤ sizeLine; rw [sizeLine_eq]; decide, fun p hp => ?_⟩
  have s1 := same_new (o := .lst (ns.map V.int)) hl0
  refine hq _ p (s1.trans (same_new hp)) (s1.free hp) ⟨l, ns, 0, 0, 0, 0, upd_same, ?_, by decide, hl⟩
  rw [upd_ne (ne_of_none (H := upd H l (.lst (ns.map V.int))) upd_same hp)]
  exact upd_same
def sp_law_take (K : PySem.W.Frag) : Sp := Sp2 fun x y H Q _ => ∃ (a : Addr) (m : Int), x = .ref a ∧ y = .int m ∧ Src H a ∧ 0 < m ∧ m.natAbs.log2 < 9000 ∧ ∀ H' (r : Int), Src H' a → Mov a H H' → 0 ≤ r → r < m → Q (.int r) H'
def N_law_take : List PySem.Str := ["_law_source_here", "_law_many", "_law_mixed", "_law_cell", "_law_value"]
def t_law_take (K : PySem.W.Frag) (W : WX) : TS := (tCut (tIfS (tTest (tOp (rEqP K) (tOp (rIxP K) (tVar 0) (tC (.int 3))) (tC (.int 0)))) (tCut (tIfS (tTest (tOp rGeP (tOp (rIxP K) (tVar 0) (tC (.int 1))) (tCB (rLenP K) (tCons (tOp (rIxP K) (tVar 0) (tC (.int 0))) tNil)))) (tRet (tC (.int 0))) tNext)
    (tSeq (tAsg (tCB rIntP (tCons (tOp (rIxP K) (tOp (rIxP K) (tVar 0) (tC (.int 0))) (tOp (rIxP K) (tVar 0) (tC (.int 1)))) tNil)) (gName 3))
    (tSeq (tAsg (tOp (rAddP K) (tOp (rIxP K) (tVar 0) (tC (.int 1))) (tC (.int 1))) (gSub (tVar 0) (tC (.int 1)) rSetP))
    (tSeq (tAsg (tVar 3) (gSub (tVar 0) (tC (.int 2)) rSetP))
    (tSeq (tAsg (tC (.int 4)) (gSub (tVar 0) (tC (.int 3)) rSetP))
    (tSeq (tAsg (tC (.int 0)) (gSub (tVar 0) (tC (.int 4)) rSetP))
    (tIfS (tTest (tOp rGeP (tVar 3) (tOp rPowP (tC (.int 10)) (tC (.int 18))))) (tSeq (tAsg (tC (.int 60)) (gSub (tVar 0) (tC (.int 3)) rSetP))
    (tAsg (tC (.int 1)) (gSub (tVar 0) (tC (.int 4)) rSetP))) tNext))))))) tNext)
    (tSeq (tAsg (tOp rSubP (tOp (rIxP K) (tVar 0) (tC (.int 3))) (tC (.int 1))) (gSub (tVar 0) (tC (.int 3)) rSetP))
    (tCut (tIfS (tTest (tOp (rEqP K) (tOp (rIxP K) (tVar 0) (tC (.int 4))) (tC (.int 1)))) (tSeq (tAsg (tOp rModP (tCB rIntP (tCons (tOp (rIxP K) (tVar 0) (tC (.int 2))) tNil)) (tVar 1)) (gName 4))
    (tSeq (tAsg (tOp rFdivP (tOp (rIxP K) (tVar 0) (tC (.int 2))) (tVar 1)) (gSub (tVar 0) (tC (.int 2)) rSetP))
    (tCut (tIfS (tTest (tOp (rEqP K) (tOp (rIxP K) (tVar 0) (tC (.int 2))) (tC (.int 0)))) (tAsg (tC (.int 0)) (gSub (tVar 0) (tC (.int 3)) rSetP)) tNext)
    (tRet (tVar 4))))) tNext)
    (tSeq (tAsg (tOp rModP (tCB rIntP (tCons (tOp (rAddP K) (tOp (rAddP K) (tOp rMulP (tOp (rIxP K) (tVar 0) (tC (.int 2))) (tC (.int 48271))) (tOp rMulP (tOp (rIxP K) (tVar 0) (tC (.int 3))) (tC (.int 69621)))) (tC (.int 11))) tNil)) (tC (.int 2147483647))) (gName 2))
    (tSeq (tAsg (tOp rModP (tCB rIntP (tCons (tOp (rAddP K) (tOp (rAddP K) (tOp rMulP (tVar 2) (tC (.int 16807))) (tOp rMulP (tOp (rIxP K) (tVar 0) (tC (.int 3))) (tC (.int 7919)))) (tC (.int 5))) tNil)) (tC (.int 2147483629))) (gName 2))
    (tRet (tOp rModP (tCB rIntP (tCons (tVar 2) tNil)) (tVar 1))))))))
theorem pure_law_take {K : PySem.W.Frag} {vs : List V} {H : Hp} {Q : VK} {E : XK} {W : WX} (h : sp_law_take K vs H Q E) : t_law_take K W { nx := fun _ H' => Q .non H', rt := Q } (start N_law_take vs) H := by
  obtain ⟨x, y, rfl, a, m, rfl, rfl, ⟨c, cells, i, cur, cnt, mode, ha, hc, hi, hl⟩, hm, hm2, hq⟩ := h
  show t_law_take K W _ [some (.ref a), some (.int m), none, none, none] H
  unfold t_law_take
  have hca : c ≠ a := by
    intro e
    rw [e, ha] at hc
    have e2 := Option.some.inj hc
    injection e2 with e3
    have e4 := congrArg List.head? e3
    cases cells with
    | nil => cases e4
    | cons z r => cases e4
  refine s_cut (fun σ' H' => ∃ (i' cur' cnt' mode' : Int) (v3 : Option V), σ' = [some (.ref a), some (.int m), none, v3, none] ∧ H' a = some (.lst [.ref c, .int i', .int cur', .int cnt', .int mode']) ∧ But a H H' ∧ 0 ≤ i') ?_ ?_
  · walk_at "sl"
    refine s_itd (fun e0 => ?_) (fun e0 => ?_)
    · refine s_nocut ?_
      walk_at "sl"
      refine s_lenL hc ?_
      walk_at "sl"
      refine s_itd (fun e1 => ?_) (fun e1 => ?_)
      · walk_at "sl"
        exact hq H 0 ⟨c, cells, i, cur, cnt, mode, ha, hc, hi, hl⟩ (Mov.refl _ _) (by decide) hm
      · obtain ⟨z, hz⟩ := atI_cells hi e1
        walk_at "sl"
        refine s_ixL hc hz ?_
        walk_at "sl"
        refine s_in2 (by exact ⟨by decide, by decide, by decide⟩) ?_
        walk_at "sl"
        refine s_itd (fun e2 => ?_) (fun e2 => ?_)
        · walk_at "sl"
          exact ⟨_, _, _, _, _, rfl, upd_same, But.upd, by omega⟩
        · walk_at "sl"
          exact ⟨_, _, _, _, _, rfl, upd_same, But.upd, by omega⟩
    · walk_at "sl"
      exact ⟨_, _, _, _, _, rfl, ha, But.refl _ _, hi⟩
  · rintro σ' H' ⟨i', cur', cnt', mode', v3, rfl, ha', hb, hi'⟩
    have hc' := hb _ _ hc hca
    walk_at "sl"
    have fin : ∀ (i2 cur2 cnt2 mode2 r : Int), 0 ≤ i2 → 0 ≤ r → r < m → Q (.int r) (upd H' a (.lst [.ref c, .int i2, .int cur2, .int cnt2, .int mode2])) := fun i2 cur2 cnt2 mode2 r h2 h3 h4 =>
      hq _ r ⟨c, cells, i2, cur2, cnt2, mode2, upd_same, by rw [upd_ne hca]; exact hc', h2, hl⟩ (Mov.of (hb.trans But.upd) ha upd_same) h3 h4
    have hmod : ∀ z : Int, 0 ≤ z.fmod m ∧ z.fmod m < m := fun z => ⟨Int.fmod_nonneg_of_pos z hm, Int.fmod_lt_of_pos z hm⟩
    refine s_nocut ?_
    walk_at "sl"
    refine s_itd (fun e0 => ?_) (fun e0 => ?_)
    · walk_at "sl"
      refine s_in2 (by omega) ?_
      walk_at "sl"
      refine s_in2 ⟨by omega, hm2⟩ ?_
      walk_at "sl"
      refine s_nocut ?_
      walk_at "sl"
      refine s_itd (fun e1 => ?_) (fun e1 => ?_)
      · walk_at "sl"
        exact fin _ _ _ _ _ hi' (hmod _).1 (hmod _).2
      · walk_at "sl"
        exact fin _ _ _ _ _ hi' (hmod _).1 (hmod _).2
    · walk_at "sl"
      refine s_in2 (.inl (.inr ⟨by decide, by decide⟩)) ?_
      walk_at "sl"
      refine s_in2 (.inl (.inr ⟨by decide, by decide⟩)) ?_
      walk_at "sl"
      refine s_in2 (by decide) ?_
      walk_at "sl"
      refine s_in2 (.inl (.inr ⟨by decide, by decide⟩)) ?_
      walk_at "sl"
      refine s_in2 (.inl (.inr ⟨by decide, by decide⟩)) ?_
      walk_at "sl"
      refine s_in2 (by decide) ?_
      walk_at "sl"
      refine s_in2 (by omega) ?_
      exact fin _ _ _ _ _ hi' (hmod _).1 (hmod _).2
theorem take_ok {K : PySem.W.Frag} {a : Addr} {m : Int} {H : Hp} {Q : VK} {E : XK} (S : Src H a) (h0 : 0 < m) (h1 : m ≤ 1000000000000000) (hq : ∀ H' (r : Int), Src H' a → Mov a H H' → 0 ≤ r → r < m → Q (.int r) H') : sp_law_take K [.ref a, .int m] H Q E :=
  ⟨_, _, rfl, a, m, rfl, rfl, S, h0, lg h0 h1, hq⟩
def sp_law_word (K : PySem.W.Frag) : Sp := Sp2 fun x y H Q _ => ∃ (a : Addr) (n : Int), x = .ref a ∧ y = .int n ∧ Src H a ∧ 1 ≤ n ∧ n ≤ 1000 ∧ ∀ H' z, Src H' a → Mov a H H' → Wrd z → (z.length : Int) = n → Q (.str z) H'
def N_law_word : List PySem.Str := ["_law_source_here", "_law_size", "_law_letters", "_law_signs", "_law_word_here", "_law_number", "_law_k"]
def t_law_word (K : PySem.W.Frag) (W : WX) : TS := (tSeq (tAsg (tC (.str "abcdefghijklmnopqrstuvwxyz")) (gName 2))
    (tSeq (tAsg (tC (.str "0123456789abcdefghijklmnopqrstuvwxyz")) (gName 3))
    (tSeq (tAsg (tOp (rIxP K) (tVar 2) (tCallS (sp_law_take K) (WE W) (tCons (tVar 0) (tCons (tC (.int 26)) tNil)))) (gName 4))
    (tSeq (tAsg (tCallS (sp_law_take K) (WE W) (tCons (tVar 0) (tCons (tOp rPowP (tC (.int 36)) (tC (.int 7))) tNil))) (gName 5))
    (tCut (tFor (iRng1 (tCons (tOp rSubP (tVar 1) (tC (.int 1))) tNil)) (gName 6) (tSeq (tAsg (tOp (rAddP K) (tVar 4) (tOp (rIxP K) (tVar 3) (tOp rModP (tCB rIntP (tCons (tVar 5) tNil)) (tC (.int 36))))) (gName 4))
    (tAsg (tOp rFdivP (tVar 5) (tC (.int 36))) (gName 5))))
    (tRet (tVar 4)))))))
theorem pure_law_word {K : PySem.W.Frag} {vs : List V} {H : Hp} {Q : VK} {E : XK} {W : WX} (h : sp_law_word K vs H Q E) : t_law_word K W { nx := fun _ H' => Q .non H', rt := Q } (start N_law_word vs) H := by
  obtain ⟨x, y, rfl, a, n, rfl, rfl, hS, h1, h2, hq⟩ := h
  show t_law_word K W _ [some (.ref a), some (.int n), none, none, none, none, none] H
  unfold t_law_word
  walk_at "ss"
  refine ⟨_, _, rfl, a, 26, rfl, rfl, hS, by decide, by decide, fun H1 r S1 b1 r0 r1 => ?_⟩
  obtain ⟨c, hc, e⟩ := at_ex (l := lettersL) r0 (show r < ((lettersL.length : Nat) : Int) from r1)
  refine s_ixS (by decide +kernel) e ?_
  walk_at "ss"
  refine s_in2 ⟨by decide, by decide, by decide⟩ ?_
  walk_at "ss"
  refine ⟨_, _, rfl, a, _, rfl, rfl, S1, by decide +kernel, by decide +kernel, fun H2 num S2 b2 n0 n1 => ?_⟩
  walk_at "ss"
  refine s_nocut ?_
  walk_at "ss"
  refine forr_inv (by omega) (by omega) (fun i σ H' => ∃ (w : Str) (num : Int) (v : Option V), σ = [some (.ref a), some (.int n), some (.str "abcdefghijklmnopqrstuvwxyz"), some (.str "0123456789abcdefghijklmnopqrstuvwxyz"), some (.str w), some (.int num), v] ∧ Src H' a ∧ Mov a H H' ∧ Wrd w ∧ w.length = 1 + i ∧ 0 ≤ num)
    ⟨_, num, _, rfl, S2, b1.trans b2, Wrd.one hc, rfl, n0⟩ ?_ ?_
  · rintro i σ H' hi ⟨w, num', v, rfl, S3, b3, hw, hl, n3⟩
    walk_at "ss"
    refine s_in2 (by decide) ?_
    obtain ⟨f0, f1⟩ := fmod_b num' 36 (by decide)
    obtain ⟨d, hd, e2⟩ := at_ex (l := signs2L) f0 (show num'.fmod 36 < ((signs2L.length : Nat) : Int) from f1)
    refine s_ixS (by decide +kernel) e2 ?_
    refine s_addS (by rw [hl, sizeLine_eq]; show 1 + i + 1 ≤ _; omega) ?_
    walk_at "ss"
    refine s_in2 ⟨by decide, by decide⟩ ?_
    walk_at "ss"
    refine ⟨_, _, _, rfl, S3, b3, hw.add (signs2_in hd), by rw [app_len, hl]; rfl, ?_⟩
    rw [Int.fdiv_eq_ediv_of_nonneg _ (by decide)]
    exact Int.ediv_nonneg n3 (by decide)
  · rintro σ H' ⟨w, num', v, rfl, S3, b3, hw, hl, n3⟩
    walk_at "ss"
    exact hq H' w S3 b3 hw (by rw [hl]; omega)
theorem word_ok {K : PySem.W.Frag} {a : Addr} {n : Int} {H : Hp} {Q : VK} {E : XK} (S : Src H a) (h0 : 1 ≤ n) (h1 : n ≤ 1000) (hq : ∀ H' z, Src H' a → Mov a H H' → Wrd z → (z.length : Int) = n → Q (.str z) H') : sp_law_word K [.ref a, .int n] H Q E :=
  ⟨_, _, rfl, a, n, rfl, rfl, S, h0, h1, hq⟩
def sp_law_names (K : PySem.W.Frag) : Sp := Sp2 fun x y H Q _ => ∃ (a : Addr) (n : Int), x = .ref a ∧ y = .int n ∧ Src H a ∧ 0 ≤ n ∧ n ≤ 40 ∧ ∀ H' (p : Addr) (zs : List Str), Src H' a → Mov a H H' → H p = none → p ≠ a → H' p = some (.lst (zs.map V.str)) → (zs.length : Int) = n → (∀ z ∈ zs, isNm z = true) → (n ≤ 26 → zs.Nodup) → Q (.ref p) H'
def N_law_names : List PySem.Str := ["_law_source_here", "_law_many", "_law_letters", "_law_style", "_law_size", "_law_at", "_law_base", "_law_shift", "_law_pace", "_law_names_here", "_law_k", "_law_letter"]
def t_law_names (K : PySem.W.Frag) (W : WX) : TS := (tSeq (tAsg (tC (.str "abcdefghijklmnopqrstuvwxyz")) (gName 2))
    (tSeq (tAsg (tCallS (sp_law_take K) (WE W) (tCons (tVar 0) (tCons (tC (.int 3)) tNil))) (gName 3))
    (tSeq (tAsg (tOp (rAddP K) (tC (.int 1)) (tCallS (sp_law_take K) (WE W) (tCons (tVar 0) (tCons (tC (.int 8)) tNil)))) (gName 4))
    (tSeq (tAsg (tCallS (sp_law_take K) (WE W) (tCons (tVar 0) (tCons (tVar 4) tNil))) (gName 5))
    (tSeq (tAsg (tCallS (sp_law_word K) (WE W) (tCons (tVar 0) (tCons (tVar 4) tNil))) (gName 6))
    (tSeq (tAsg (tCallS (sp_law_take K) (WE W) (tCons (tVar 0) (tCons (tC (.int 26)) tNil))) (gName 7))
    (tSeq (tAsg (tOp (rIxP K) (tLst (tCons (tC (.int 1)) (tCons (tC (.int 5)) (tCons (tC (.int 7)) (tCons (tC (.int 25)) tNil))))) (tCallS (sp_law_take K) (WE W) (tCons (tVar 0) (tCons (tC (.int 4)) tNil)))) (gName 8))
    (tSeq (tAsg (tLst tNil) (gName 9))
    (tCut (tFor (iRng1 (tCons (tVar 1) tNil)) (gName 10) (tSeq (tAsg (tOp (rIxP K) (tVar 2) (tOp rModP (tCB rIntP (tCons (tOp (rAddP K) (tVar 7) (tOp rMulP (tVar 8) (tVar 10))) tNil)) (tC (.int 26)))) (gName 11))
    (tIfS (tTest (tOp (rEqP K) (tVar 3) (tC (.int 0)))) (tDrop (tBM K "list" rAppend (tVar 9) (tCons (tOp (rAddP K) (tOp (rAddP K) (tSl (rSlP K) (tVar 6) tNoPart (tPart (tVar 5))) (tVar 11)) (tSl (rSlP K) (tVar 6) (tPart (tOp (rAddP K) (tVar 5) (tC (.int 1)))) tNoPart)) tNil))) (tIfS (tTest (tOp (rEqP K) (tVar 3) (tC (.int 1)))) (tDrop (tBM K "list" rAppend (tVar 9) (tCons (tOp (rAddP K) (tVar 11) (tSl (rSlP K) (tVar 6) (tPart (tC (.int 1))) (tPart (tOp (rAddP K) (tC (.int 1)) (tCallS (sp_law_take K) (WE W) (tCons (tVar 0) (tCons (tC (.int 8)) tNil))))))) tNil))) (tDrop (tBM K "list" rAppend (tVar 9) (tCons (tOp (rAddP K) (tOp (rAddP K) (tSl (rSlP K) (tVar 6) tNoPart (tPart (tVar 5))) (tVar 11)) (tSl (rSlP K) (tCallS (sp_law_word K) (WE W) (tCons (tVar 0) (tCons (tOp rSubP (tC (.int 8)) (tVar 5)) tNil))) tNoPart (tPart (tCallS (sp_law_take K) (WE W) (tCons (tVar 0) (tCons (tOp rSubP (tC (.int 8)) (tVar 5)) tNil)))))) tNil)))))))
    (tRet (tVar 9)))))))))))
/-- the letter that tells the k-th name -/
def LtAt (pos : Nat) (shift pace : Int) (k : Nat) (z : Str) : Prop := z.cps.toList[pos]? = some (97 + ((shift + pace * k) % 26).toNat)
theorem letter_at {m : Int} {c : Nat} (h0 : 0 ≤ m) (h1 : m < 26) (h : atI lettersL m = some c) : c = 97 + m.toNat := by
  have key : ∀ k, k < 26 → lettersL[k]? = some (97 + k) := by decide +kernel
  have e := key m.toNat (by omega)
  unfold atI ixN at h
  rw [if_pos h0, if_pos (show m < ((lettersL.length : Nat) : Int) from h1)] at h
  have h2 : lettersL[m.toNat]? = some c := h
  rw [e] at h2
  simpa using h2.symm
theorem pace_inj {shift pace : Int} (hp : pace = 1 ∨ pace = 5 ∨ pace = 7 ∨ pace = 25) {i k : Nat} (hi : i < 26) (hk : k < 26) (e : (shift + pace * (i : Int)) % 26 = (shift + pace * (k : Int)) % 26) : i = k := by
  rcases hp with rfl | rfl | rfl | rfl <;> omega
theorem names_nodup {zs : List Str} {pos : Nat} {shift pace : Int} (hp : pace = 1 ∨ pace = 5 ∨ pace = 7 ∨ pace = 25) (hl : zs.length ≤ 26) (h : ∀ k z, zs[k]? = some z → LtAt pos shift pace k z) : zs.Nodup := by
  refine List.pairwise_iff_getElem.mpr fun i j hi hj hij e => ?_
  have h1 := h i zs[i] (by simp [hi])
  have h2 := h j zs[j] (by simp [hj])
  unfold LtAt at h1 h2
  rw [e] at h1
  rw [h1] at h2
  have h3 : (97 + ((shift + pace * (i : Int)) % 26).toNat) = 97 + ((shift + pace * (j : Int)) % 26).toNat := by simpa using h2
  have := pace_inj (shift := shift) hp (show i < 26 by omega) (show j < 26 by omega) (by omega)
  omega
theorem put_at (a b : Str) (c : Nat) : (a ++ ⟨#[c]⟩ ++ b).cps.toList[a.length]? = some c := by
  rw [app_toList, app_toList, List.append_assoc, List.getElem?_append_right (by rw [len_toList]; exact Nat.le_refl _), len_toList, Nat.sub_self]
  rfl
theorem pure_law_names {K : PySem.W.Frag} {vs : List V} {H : Hp} {Q : VK} {E : XK} {W : WX} (h : sp_law_names K vs H Q E) : t_law_names K W { nx := fun _ H' => Q .non H', rt := Q } (start N_law_names vs) H := by
  obtain ⟨x, y, rfl, a, n, rfl, rfl, hS, n0, n1, hq⟩ := h
  show t_law_names K W _ [some (.ref a), some (.int n), none, none, none, none, none, none, none, none, none, none] H
  unfold t_law_names
  walk_at "ss"
  refine take_ok hS (by decide) (by decide) fun H1 style S1 b1 st0 st1 => ?_
  walk_at "ss"
  refine take_ok S1 (by decide) (by decide) fun H2 sz S2 b2 z0 z1 => ?_
  walk_at "ss"
  refine take_ok S2 (by omega) (by omega) fun H3 at_ S3 b3 at0 at1 => ?_
  walk_at "ss"
  refine word_ok S3 (by omega) (by omega) fun H4 w S4 b4 hw hwl => ?_
  walk_at "ss"
  refine take_ok S4 (by decide) (by decide) fun H5 shift S5 b5 sh0 sh1 => ?_
  have B5 : Mov a H H5 := (((b1.trans b2).trans b3).trans b4).trans b5
  walk_at "ss"
  refine ⟨by show 4 ≤ sizeLine; rw [sizeLine_eq]; decide, fun p hp => ?_⟩
  have hpa := S5.ne hp
  walk_at "ss"
  refine take_ok (S5.keep (same_new hp)) (by decide) (by decide) fun H6 r S6 b6 r0 r1 => ?_
  have B6 : Mov a H H6 := (B5.trans (Mov.of_same (same_new hp))).trans b6
  obtain ⟨pace, hpc, pc0, pc1, pcs⟩ : ∃ pace : Int, atI [V.int 1, V.int 5, V.int 7, V.int 25] r = some (.int pace) ∧ 0 ≤ pace ∧ pace ≤ 25 ∧ (pace = 1 ∨ pace = 5 ∨ pace = 7 ∨ pace = 25) := by
    rcases (show r = 0 ∨ r = 1 ∨ r = 2 ∨ r = 3 by omega) with rfl | rfl | rfl | rfl
    · exact ⟨1, rfl, by decide, by decide, by simp⟩
    · exact ⟨5, rfl, by decide, by decide, by simp⟩
    · exact ⟨7, rfl, by decide, by decide, by simp⟩
    · exact ⟨25, rfl, by decide, by decide, by simp⟩
  refine s_ixL (b6 _ _ upd_same hpa) hpc ?_
  walk_at "ss"
  refine ⟨Nat.zero_le _, fun q hq0 => ?_⟩
  have hqa := S6.ne hq0
  have hqn := B6.un hqa hq0
  have hws : w.length ≤ sizeLine := by rw [sizeLine_eq]; omega
  walk_at "ss"
  refine s_cut (fun σ' H' => ∃ v u, σ' = [some (.ref a), some (.int n), some (.str "abcdefghijklmnopqrstuvwxyz"), some (.int style), some (.int (1 + sz)), some (.int at_), some (.str w), some (.int shift), some (.int pace), some (.ref q), v, u] ∧ Src H' a ∧ Mov a H H' ∧ ∃ zs : List Str, H' q = some (.lst (zs.map V.str)) ∧ (zs.length : Int) = n ∧ (∀ z ∈ zs, isNm z = true) ∧ ∀ k z, zs[k]? = some z → LtAt (if style = 1 then 0 else at_.toNat) shift pace k z) ?_ ?_
  · walk_at "ss"
    refine forr_inv (by omega) (by omega) (fun i σ' H' => ∃ v u, σ' = [some (.ref a), some (.int n), some (.str "abcdefghijklmnopqrstuvwxyz"), some (.int style), some (.int (1 + sz)), some (.int at_), some (.str w), some (.int shift), some (.int pace), some (.ref q), v, u] ∧ Src H' a ∧ Mov a H H' ∧ ∃ zs : List Str, H' q = some (.lst (zs.map V.str)) ∧ zs.length = i ∧ (∀ z ∈ zs, isNm z = true) ∧ ∀ k z, zs[k]? = some z → LtAt (if style = 1 then 0 else at_.toNat) shift pace k z)
      ⟨none, none, rfl, S6.keep (same_new hq0), B6.trans (Mov.of_same (same_new hq0)), [], upd_same, rfl, by simp, fun k z h => by simp at h⟩ ?_ ?_
    · rintro i σ' H' hi ⟨v, u, rfl, S7, B7, zs, hzs, hzl, hnm, hLt⟩
      walk_at "ss"
      refine s_in2 (.inl (by unfold CMul; omega)) ?_
      walk_at "ss"
      refine s_in2 (by decide) ?_
      walk_at "ss"
      obtain ⟨f0, f1⟩ := fmod_b (shift + pace * i) 26 (by decide)
      obtain ⟨c, hc, e2⟩ := at_ex (l := lettersL) f0 (show (shift + pace * i).fmod 26 < ((lettersL.length : Nat) : Int) from f1)
      have hcc : c = 97 + ((shift + pace * (i : Int)) % 26).toNat := by
        have := letter_at f0 f1 e2
        rw [Int.fmod_eq_emod_of_nonneg _ (by decide)] at this
        exact this
      refine s_ixS (by decide +kernel) e2 ?_
      walk_at "ss"
      have fin : ∀ (H8 : Hp) (z : Str), Src H8 a → Mov a H' H8 → Wrd z → z.length ≤ 8 → LtAt (if style = 1 then 0 else at_.toNat) shift pace i z → H8 q = some (.lst (zs.map V.str)) → rAppend (.ref q) [.str z] H8 fun _ H9 => ∃ v u, ([some (.ref a), some (.int n), some (.str "abcdefghijklmnopqrstuvwxyz"), some (.int style), some (.int (1 + sz)), some (.int at_), some (.str w), some (.int shift), some (.int pace), some (.ref q), some (.int i), some (.str ⟨#[c]⟩)] : L2.St) = [some (.ref a), some (.int n), some (.str "abcdefghijklmnopqrstuvwxyz"), some (.int style), some (.int (1 + sz)), some (.int at_), some (.str w), some (.int shift), some (.int pace), some (.ref q), v, u] ∧ Src H9 a ∧ Mov a H H9 ∧ ∃ zs : List Str, H9 q = some (.lst (zs.map V.str)) ∧ zs.length = i + 1 ∧ (∀ z ∈ zs, isNm z = true) ∧ ∀ k z, zs[k]? = some z → LtAt (if style = 1 then 0 else at_.toNat) shift pace k z := by
        intro H8 z S8 B8 hw8 hl8 hz8 hq8
        refine s_app hq8 (by rw [List.length_map]; omega) ?_
        refine ⟨_, _, rfl, ?_, ?_, zs ++ [z], by rw [upd_same, map_snoc], by rw [List.length_append, hzl]; rfl, fun y hy => ?_, fun k y hk => ?_⟩
        · exact hS.off hqn (B7.trans B8) S8
        · exact Mov.put hS hqn (B7.trans B8)
        · rcases List.mem_append.mp hy with hy | hy
          · exact hnm y hy
          · have : y = z := by simpa using hy
            rw [this]; exact hw8.nm hl8
        · by_cases hlt : k < zs.length
          · rw [List.getElem?_append_left hlt] at hk
            exact hLt k y hk
          · rw [List.getElem?_append_right (by omega)] at hk
            have hk0 : k = zs.length := by
              have := (List.getElem?_eq_some_iff.mp hk).1
              simp at this
              omega
            subst hk0
            have : z = y := by simpa using hk
            subst this
            rw [hzl]
            exact hz8
      refine s_itd (fun e => ?_) (fun e => ?_)
      · walk_at "ss"
        refine s_tyL hzs ?_
        walk_at "ss"
        refine s_slS hws ?_
        have ea : at_ = ((at_.toNat : Nat) : Int) := by omega
        have l1 := cutS_lenle w at_ at0
        have lcut : (cutS w none (some at_)).length = at_.toNat := by
          rw [← len_toList, ea, cut_to, List.length_take, len_toList]
          omega
        walk_at "ss"
        refine s_addS (by show _ + 1 ≤ sizeLine; rw [sizeLine_eq]; omega) ?_
        walk_at "ss"
        refine s_slS hws ?_
        have l2 := cutS_len w (some (at_ + 1)) none
        have l3 : (cutS w none (some at_) ++ (⟨#[c]⟩ : Str)).length = (cutS w none (some at_)).length + 1 := app_len _ _
        refine s_addS (by rw [sizeLine_eq]; omega) ?_
        walk_at "ss"
        refine fin H' _ S7 (Mov.refl a H') (wrd_put (by rw [ea]; exact wrd_to hw _) hc fun x hx => wrd_signs hw x (cut_mid hx)) ?_ (by
            unfold LtAt
            rw [if_neg (by omega), ← hcc, ← lcut]
            exact put_at _ _ _) hzs
        have l4 : ((cutS w (some (at_ + 1)) none).length : Int) ≤ 1 + sz - (at_ + 1) := by
          have e1 : at_ + 1 = (((at_ + 1).toNat : Nat) : Int) := by omega
          have e2 := len_toList (cutS w (some (at_ + 1)) none)
          rw [e1, cut_from, List.length_drop, len_toList, ← e1] at e2
          omega
        rw [app_len, l3]
        omega
      · walk_at "ss"
        refine s_itd (fun e2 => ?_) (fun e2 => ?_)
        · walk_at "ss"
          refine s_tyL hzs ?_
          walk_at "ss"
          refine take_ok S7 (by decide) (by decide) fun H8 k S8 b8 k0 k1 => ?_
          walk_at "ss"
          refine s_slS hws ?_
          have l1 := cutS_len w (some 1) (some (1 + k))
          refine s_addS (by show 1 + _ ≤ sizeLine; rw [sizeLine_eq]; omega) ?_
          walk_at "ss"
          have e0 : (⟨#[c]⟩ : Str) ++ cutS w (some 1) (some (1 + k)) = ("" : Str) ++ ⟨#[c]⟩ ++ cutS w (some 1) (some (1 + k)) := str_ext (by rw [app_toList, app_toList, app_toList]; rfl)
          have hl : (cutS w (some 1) (some (1 + k))).length ≤ 7 := by
            have := len_toList (cutS w (some 1) (some (1 + k)))
            have e1 : HT.sIx w.length 0 (some 1) = min 1 w.length := HT.sIx_nat w.length 0 1
            have e3 : HT.sIx w.length w.length (some (1 + k)) = min (1 + k.toNat) w.length := by
              have := HT.sIx_nat w.length w.length (1 + k.toNat)
              rw [← this]; congr 2; omega
            have e4 : (cutS w (some 1) (some (1 + k))).length = (List.take (min (1 + k.toNat) w.length - min 1 w.length) (List.drop (min 1 w.length) w.cps.toList)).length := by
              rw [← this]; unfold cutS; rw [e1, e3]
            rw [e4, List.length_take]
            omega
          refine fin H8 _ S8 b8 (by rw [e0]; exact wrd_put (.inl rfl) hc fun x hx => wrd_signs hw x (cut_mid hx)) ?_ (by
            unfold LtAt
            rw [if_pos e2, ← hcc, e0]
            exact put_at "" _ _) (b8 _ _ hzs hqa)
          rw [app_len]
          show 1 + _ ≤ 8
          omega
        · walk_at "ss"
          refine s_tyL hzs ?_
          walk_at "ss"
          refine s_slS hws ?_
          have ea : at_ = ((at_.toNat : Nat) : Int) := by omega
          have l1 := cutS_lenle w at_ at0
          have lcut : (cutS w none (some at_)).length = at_.toNat := by
            rw [← len_toList, ea, cut_to, List.length_take, len_toList]
            omega
          walk_at "ss"
          refine s_addS (by show _ + 1 ≤ sizeLine; rw [sizeLine_eq]; omega) ?_
          walk_at "ss"
          refine word_ok S7 (by omega) (by omega) fun H8 w2 S8 b8 hw2 hwl2 => ?_
          walk_at "ss"
          refine take_ok S8 (by omega) (by omega) fun H9 k S9 b9 k0 k1 => ?_
          walk_at "ss"
          refine s_slS (by rw [sizeLine_eq]; omega) ?_
          have l2 := cutS_lenle w2 k k0
          have l3 : (cutS w none (some at_) ++ (⟨#[c]⟩ : Str)).length = (cutS w none (some at_)).length + 1 := app_len _ _
          refine s_addS (by rw [sizeLine_eq]; omega) ?_
          walk_at "ss"
          refine fin H9 _ S9 (b8.trans b9) (wrd_put (by rw [ea]; exact wrd_to hw _) hc fun x hx => wrd_signs hw2 x (cut_mid hx)) ?_ (by
            unfold LtAt
            rw [if_neg e2, ← hcc, ← lcut]
            exact put_at _ _ _) (b9 _ _ (b8 _ _ hzs hqa) hqa)
          rw [app_len, l3]
          omega
    · rintro σ' H' ⟨v, u, rfl, S7, B7, zs, hzs, hzl, hnm, hLt⟩
      exact ⟨v, u, rfl, S7, B7, zs, hzs, by omega, hnm, hLt⟩
  · rintro σ' H' ⟨v, u, rfl, S7, B7, zs, hzs, hzl, hnm, hLt⟩
    walk_at "ss"
    exact hq H' q zs S7 B7 hqn hqa hzs hzl hnm fun hn => names_nodup pcs (by omega) hLt
end Rd
namespace Rd
open PySem PySem.Spec PyProof.Rows L2 He Px
def sp_ordered_names (K : PySem.W.Frag) : Sp := Sp1 fun x H Q E => ∃ (p : Addr) (zs : List Str), x = .ref p ∧ H p = some (.lst (zs.map V.str)) ∧ zs.length ≤ 60 ∧ (∀ z ∈ zs, z.length ≤ 1000000) ∧ (∀ z, badN zs = some z → ∀ H' d, Same H H' → H' d = some (.xd [("text", .str z)]) → E (.ref (ga K "BadName")) (some d) H') ∧ (badN zs = none → ∀ H' q, Same H H' → H q = none → H' q = some (.lst ((srt zs).map V.str)) → Q (.ref q) H')
def N_ordered_names : List PySem.Str := ["names", "name", "result"]
def t_ordered_names (K : PySem.W.Frag) (W : WX) : TS := (tCut (tFor (iAnyP K (tVar 0)) (gName 1) (tIfS (tNot (tB (tCallS (sp_is_name K) (WE W) (tCons (tVar 1) tNil)))) (tRaiseE (ga K "BadName") "text" W (tCons (tVar 1) tNil)) tNext))
    (tSeq (tAsg (tLst tNil) (gName 2))
    (tCut (tFor (iAnyP K (tCB (rSortedS K) (tCons (tLc (iAnyP K (tVar 0)) (gName 1) tYes (tCB rStrP (tCons (tVar 1) tNil)) [1]) tNil))) (gName 1) (tIfS (tTest (tOp (rInP K true) (tVar 1) (tVar 2))) (tDrop (tBM K "list" rAppend (tVar 2) (tCons (tVar 1) tNil))) tNext))
    (tRet (tVar 2)))))
theorem pure_ordered_names {K : PySem.W.Frag} {vs : List V} {H : Hp} {Q : VK} {E : XK} (h : sp_ordered_names K vs H Q E) : t_ordered_names K (fun cls d _ H => E cls d H) { nx := fun _ H' => Q .non H', rt := Q } (start N_ordered_names vs) H := by
  obtain ⟨x, rfl, p, zs, rfl, hp, hl, hz, he, hq⟩ := h
  show t_ordered_names K _ _ [some (.ref p), none, none] H
  unfold t_ordered_names
  refine s_cut (fun σ' H' => ∃ v, σ' = [some (.ref p), v, none] ∧ Same H H' ∧ badN zs = none) ?_ ?_
  · walk_at "ss"
    refine forb_list (xs := zs.map V.str) (fun i σ' H' => ∃ v, σ' = [some (.ref p), v, none] ∧ Same H H' ∧ ∀ z ∈ zs.take i, isNm z = true) ⟨none, rfl, Same.refl H, by simp⟩ ?_ ?_ ?_
    · rintro i σ' H' hi ⟨v, rfl, s1, _⟩
      exact SqL.of (s1 _ _ hp)
    · rintro i y σ' H' hi ⟨v, rfl, s1, ha⟩
      obtain ⟨z, hj, rfl⟩ := at_strs hi; replace hi := hj
      walk_at "ss"
      refine ⟨_, rfl, z, rfl, hz z (List.mem_of_getElem? hi), fun H2 s2 => ?_⟩
      walk_at "ss"
      cases hn : isNm z with
      | false =>
        refine s_itT rfl ?_
        exact ⟨_, rfl, _, rfl, fun d hd => he z (find_at (by rw [hn]; rfl) hi fun y hy => by rw [ha y hy]; rfl) _ d ((s1.trans s2).trans (same_new hd)) upd_same⟩
      | true =>
        refine s_itF rfl ?_
        walk_at "ss"
        exact ⟨_, rfl, s1.trans s2, take_all hi ha hn⟩
    · rintro σ' H' ⟨v, rfl, s1, ha⟩
      refine ⟨v, rfl, s1, badN_none ?_⟩
      rw [List.length_map, List.take_length] at ha
      exact ha
  · rintro σ' H' ⟨v, rfl, s1, hb⟩
    have hq := hq hb
    walk_at "ss"
    refine ⟨Nat.zero_le _, fun q hq0 => ?_⟩
    have hqn : H q = none := by
      cases e : H q with
      | none => rfl
      | some o => rw [s1 _ _ e] at hq0; cases hq0
    have s2 : Same H (upd H' q (.lst [])) := s1.trans (same_new hq0)
    walk_at "ss"
    refine s_cut (fun σ2 H2 => ∃ v, σ2 = [some (.ref p), v, some (.ref q)] ∧ Same H H2 ∧ H2 q = some (.lst ((srt zs).map V.str))) ?_ ?_
    · walk_at "ss"
      refine lcb_map (fun x => x) (.inl (SqL.of (s2 _ _ hp))) (by rw [List.length_map]; omega) ?_ ?_
      · intro x hx H2 s3 Q' hQ
        obtain ⟨z, _, rfl⟩ := List.mem_map.mp hx
        walk_at "ss"
        exact hQ _ (Same.refl _)
      · intro D H2 hD s3 hl2
        rw [List.map_id'] at hl2
        walk_at "ss"
        refine s_sort hl2 (by omega) fun ys r hperm hsort hr => ?_
        have hs := sorted_pair hsort
        have s4 : Same H' (upd H2 r (.lst (ys.map V.str))) := ((same_new hq0).trans s3).trans (same_new hr)
        have hqr : q ≠ r := fun e => by rw [← e, s3 _ _ upd_same] at hr; cases hr
        refine forb_list (xs := ys.map V.str) (fun i σ' H' => ∃ v acc, σ' = [some (.ref p), v, some (.ref q)] ∧ Same H H' ∧ H' r = some (.lst (ys.map V.str)) ∧ H' q = some (.lst (acc.map V.str)) ∧ Ord acc ∧ (∀ z, z ∈ acc ↔ z ∈ ys.take i) ∧ acc.length ≤ i)
          ⟨v, [], rfl, s1.trans s4, upd_same, by rw [upd_ne hqr]; exact s3 _ _ upd_same, List.Pairwise.nil, by simp, Nat.le_refl _⟩ ?_ ?_ ?_
        · rintro i σ' H' hi ⟨v, acc, rfl, _, h2, _⟩
          exact SqL.of h2
        · rintro i y σ' H3 hi ⟨v, acc, rfl, h1, h2, h3, h4, h5, h6⟩
          have hil := (List.getElem?_eq_some_iff.mp hi).1
          rw [List.length_map, hperm.length_eq] at hil
          obtain ⟨z, hj, rfl⟩ := at_strs hi; replace hi := hj
          obtain ⟨n1, n2⟩ := nub_step hs hi h4 h5
          walk_at "ss"
          refine s_inSL h3 ?_
          show ∃ k, V.bl (!decide (z ∈ acc)) = .bl k ∧ _
          walk_at "ss"
          by_cases hm : z ∈ acc
          · rw [decide_eq_true hm]
            refine s_itF rfl ?_
            walk_at "ss"
            exact ⟨_, acc, rfl, h1, h2, h3, h4, n1 hm, by omega⟩
          · rw [decide_eq_false hm]
            refine s_itT rfl ?_
            walk_at "ss"
            refine s_tyL h3 ?_
            walk_at "ss"
            refine s_app h3 (by rw [List.length_map]; omega) ?_
            refine ⟨_, acc ++ [z], rfl, fun b o e => ?_, by rw [upd_ne hqr.symm]; exact h2, by rw [upd_same, List.map_append]; rfl, (n2 hm).1, (n2 hm).2, by rw [List.length_append]; simp; omega⟩
            rw [upd_ne (ne_of_none e hqn)]
            exact h1 _ _ e
        · rintro σ' H3 ⟨v, acc, rfl, h1, h2, h3, h4, h5, h6⟩
          rw [List.length_map, List.take_length] at h5
          have e : acc = srt zs := srt_eq h4 fun x => (h5 x).trans hperm.mem_iff
          rw [e] at h3
          exact ⟨v, rfl, h1, h3⟩
    · rintro σ2 H2 ⟨v, rfl, h1, h2⟩
      walk_at "ss"
      exact hq H2 q h1 hqn h2
def sp_in_order (K : PySem.W.Frag) : Sp := Sp1 fun x H Q E => ∃ (p : Addr) (zs : List Str), x = .ref p ∧ H p = some (.lst (zs.map V.str)) ∧ zs.length ≤ 60 ∧ (∀ z ∈ zs, z.length ≤ 1000000) ∧ (∀ z, badOf zs = some z → ∀ H' d, Same H H' → H' d = some (.xd [("text", .str z)]) → E (.ref (ga K "BadLiteral")) (some d) H') ∧ (badOf zs = none → ∀ H' q, Same H H' → H q = none → H' q = some (.lst ((litO zs).map V.str)) → Q (.ref q) H')
def N_in_order : List PySem.Str := ["literals", "taken", "literal", "result", "name"]
def t_in_order (K : PySem.W.Frag) (W : WX) : TS := (tSeq (tAsg tDNewK (gName 1))
    (tCut (tFor (iAnyP K (tVar 0)) (gName 2) (tCut (tIfS (tNot (tB (tCallS (sp_is_literal K) (WE W) (tCons (tVar 2) tNil)))) (tRaiseE (ga K "BadLiteral") "text" W (tCons (tVar 2) tNil)) tNext)
    (tAsg (tC (.bl true)) (gSub (tVar 1) (tVar 2) rSetP))))
    (tSeq (tAsg (tLst tNil) (gName 3))
    (tCut (tFor (iAnyP K (tCallS (sp_ordered_names K) (WE W) (tCons (tLockE (tLc (iKeys (tVar 1)) (gName 2) tYes (tCall (sp_name_of K) [] E0 (tCons (tVar 2) tNil)) [2])) tNil))) (gName 4) (tFor (iAnyP K (tTup (tCons (tVar 4) (tCons (tOp (rAddP K) (tC (.str "-")) (tVar 4)) tNil)))) (gName 2) (tIfS (tTest (tOp (rInP K false) (tVar 2) (tVar 1))) (tDrop (tBM K "list" rAppend (tVar 3) (tCons (tVar 2) tNil))) tNext)))
    (tRet (tVar 3))))))
theorem pure_in_order {K : PySem.W.Frag} {vs : List V} {H : Hp} {Q : VK} {E : XK} (h : sp_in_order K vs H Q E) : t_in_order K (fun cls d _ H => E cls d H) { nx := fun _ H' => Q .non H', rt := Q } (start N_in_order vs) H := by
  obtain ⟨x, rfl, p, zs, rfl, hp, hl, hz, he, hq⟩ := h
  show t_in_order K _ _ [some (.ref p), none, none, none, none] H
  unfold t_in_order
  walk_at "ss"
  refine s_dnew fun d hd => ?_
  walk_at "ss"
  refine s_cut (fun σ' H' => ∃ v ks, σ' = [some (.ref p), some (.ref d), v, none, none] ∧ Same H H' ∧ H' d = some (ksD ks) ∧ (∀ x, x ∈ ks ↔ x ∈ zs) ∧ ks.length ≤ 60 ∧ badOf zs = none) ?_ ?_
  · walk_at "ss"
    refine forb_list (xs := zs.map V.str) (fun i σ' H' => ∃ v ks, σ' = [some (.ref p), some (.ref d), v, none, none] ∧ Same H H' ∧ H' d = some (ksD ks) ∧ (∀ x, x ∈ ks ↔ x ∈ zs.take i) ∧ ks.length ≤ i ∧ ∀ z ∈ zs.take i, isLit z = true)
      ⟨none, [], rfl, same_new hd, upd_same, by simp, Nat.le_refl _, by simp⟩ ?_ ?_ ?_
    · rintro i σ' H' hi ⟨v, ks, rfl, s1, _⟩
      exact SqL.of (s1 _ _ hp)
    · rintro i y σ' H' hi ⟨v, ks, rfl, s1, h1, h2, h3, ha⟩
      have hil := (List.getElem?_eq_some_iff.mp hi).1
      rw [List.length_map] at hil
      obtain ⟨z, hj, rfl⟩ := at_strs hi
      walk_at "ss"
      refine s_nocut ?_
      walk_at "ss"
      refine ⟨_, rfl, z, rfl, hz z (List.mem_of_getElem? hj), fun H2 s2 => ?_⟩
      walk_at "ss"
      cases hn : isLit z with
      | false =>
        refine s_itT rfl ?_
        exact ⟨_, rfl, _, rfl, fun e he' => he z (find_at (by rw [hn]; rfl) hj fun y hy => by rw [ha y hy]; rfl) _ e ((s1.trans s2).trans (same_new he')) upd_same⟩
      | true =>
        refine s_itF rfl ?_
        walk_at "ss"
        refine s_putD (s2 _ _ h1) (by omega) ?_
        walk_at "ss"
        refine ⟨_, _, rfl, same_put (s1.trans s2) hd, upd_same, fun x => ?_, ?_, take_all hj ha hn⟩
        · rw [take_more hj, List.mem_append]
          by_cases hm : z ∈ ks
          · rw [if_pos hm, ← h2 x]
            constructor
            · exact .inl
            · rintro (h | h)
              · exact h
              · have : x = z := by simpa using h
                rw [this]; exact hm
          · rw [if_neg hm, List.mem_append, ← h2 x]
        · split
          · omega
          · rw [List.length_append]; simp; omega
    · rintro σ' H' ⟨v, ks, rfl, s1, h1, h2, h3, ha⟩
      rw [List.length_map] at h3 ha h2
      rw [List.take_length] at ha h2
      exact ⟨v, ks, rfl, s1, h1, h2, by omega, badOf_none ha⟩
  · rintro σ' H' ⟨v, ks, rfl, s1, h1, h2, h3, hb⟩
    have hq := hq hb
    have lit := badOf_ok hb
    walk_at "ss"
    refine ⟨Nat.zero_le _, fun q hq0 => ?_⟩
    have hqn := same_un s1 hq0
    have hqd : q ≠ d := fun e => by rw [e, h1] at hq0; cases hq0
    walk_at "ss"
    refine s_cut (fun σ2 H2 => ∃ v w, σ2 = [some (.ref p), some (.ref d), v, some (.ref q), w] ∧ Same H H2 ∧ H2 q = some (.lst ((litO zs).map V.str))) ?_ ?_
    · walk_at "ss"
      refine lc_keys (fun z => .str (bare z)) rfl (show _ = some (ksD ks) by rw [upd_ne hqd.symm]; exact h1) (by omega) ?_ ?_
      · intro z hzk H2 od _ _ Q' hQ
        walk_at "ss"
        have hm := (h2 z).mp hzk
        exact ⟨_, rfl, z, rfl, hz z hm, fun _ H3 s3 => hQ H3 s3, fun e => by rw [lit z hm] at e; cases e⟩
      · intro D H2 hD s2 hr
        walk_at "ss"
        have e1 : ks.map (fun z => V.str (bare z)) = (ks.map bare).map V.str := by rw [List.map_map]; rfl
        rw [e1] at hr
        refine ⟨_, rfl, D, ks.map bare, rfl, hr, by rw [List.length_map]; exact h3, fun z hzk => ?_, fun z e => ?_, fun _ H3 r s3 hrn h4 => ?_⟩
        · obtain ⟨y, hy, rfl⟩ := List.mem_map.mp hzk
          exact Nat.le_trans (bare_len y) (hz y ((h2 y).mp hy))
        · rw [badN_none (fun w hw => by obtain ⟨y, hy, rfl⟩ := List.mem_map.mp hw; exact lit y ((h2 y).mp hy))] at e
          cases e
        · rw [srt_congr (a := ks.map bare) (b := zs.map bare) fun x => by simp [h2]] at h4
          have sA : Same (upd H' q (.lst [])) H3 := s2.trans s3
          have hqr : q ≠ r := fun e => by rw [← e, s2 _ _ upd_same] at hrn; cases hrn
          have hdr : d ≠ r := fun e => by rw [← e, s2 _ _ (show _ = some (ksD ks) by rw [upd_ne hqd.symm]; exact h1)] at hrn; cases hrn
          have hos : (srt (zs.map bare)).length ≤ 60 := by have := srt_len (zs.map bare); rw [List.length_map] at this; omega
          generalize hO : srt (zs.map bare) = os at h4 hos
          have hnm : ∀ n ∈ os, isNm n = true := fun n hn => by
            rw [← hO] at hn
            obtain ⟨y, hy, rfl⟩ := List.mem_map.mp (mem_srt.mp hn)
            exact lit y hy
          refine forb_list (xs := os.map V.str) (fun i σ' H' => ∃ v w, σ' = [some (.ref p), some (.ref d), v, some (.ref q), w] ∧ Same H H' ∧ H' r = some (.lst (os.map V.str)) ∧ H' d = some (ksD ks) ∧ H' q = some (.lst ((flat zs (os.take i)).map V.str)))
            ⟨_, _, rfl, (s1.trans (same_new hq0)).trans sA, h4, sA _ _ (by rw [upd_ne hqd.symm]; exact h1), sA _ _ upd_same⟩ ?_ ?_ ?_
          · rintro i σ' H' hi ⟨v, w, rfl, _, h5, _⟩
            exact SqL.of h5
          · rintro i y σ' H4 hi ⟨v, w, rfl, k1, k2, k3, k4⟩
            have hil := (List.getElem?_eq_some_iff.mp hi).1
            rw [List.length_map] at hil
            obtain ⟨n, hj, rfl⟩ := at_strs hi
            have hn8 : n.length ≤ 8 := by obtain ⟨_, _, _, _, _, _, h8⟩ := nm_first (hnm n (List.mem_of_getElem? hj)); exact h8
            have fl := flat_len zs (os.take i)
            rw [List.length_take] at fl
            walk_at "ss"
            refine s_addS (by show 1 + n.length ≤ sizeLine; rw [sizeLine_eq]; omega) ?_
            walk_at "ss"
            refine ⟨by show 2 ≤ sizeLine; rw [sizeLine_eq]; decide, fun u hu => ?_⟩
            have huq : q ≠ u := fun e => by rw [← e, k4] at hu; cases hu
            have hud : d ≠ u := fun e => by rw [← e, k3] at hu; cases hu
            have hur : r ≠ u := fun e => by rw [← e, k2] at hu; cases hu
            refine forb_tup (xs := [n, ("-" : Str) ++ n].map V.str) (fun j σ' H' => ∃ v, σ' = [some (.ref p), some (.ref d), v, some (.ref q), some (.str n)] ∧ Same H H' ∧ H' r = some (.lst (os.map V.str)) ∧ H' d = some (ksD ks) ∧ H' u = some (.tup ([n, ("-" : Str) ++ n].map V.str)) ∧ H' q = some (.lst ((flat zs (os.take i) ++ ([n, ("-" : Str) ++ n].take j).filter fun z => decide (z ∈ zs)).map V.str)))
              ⟨_, rfl, same_put k1 (same_un k1 hu), by rw [upd_ne hur]; exact k2, by rw [upd_ne hud]; exact k3, upd_same, by rw [upd_ne huq, k4]; simp⟩ ?_ ?_ ?_
            · rintro j σ' H' hj ⟨v, rfl, _, _, _, h5, _⟩
              exact SqT.of h5
            · rintro j y σ' H5 hj2 ⟨v, rfl, m1, m2, m3, m4, m5⟩
              obtain ⟨z, hz2, rfl⟩ := at_strs hj2
              have fl2 : ([n, ("-" : Str) ++ n].take j).length ≤ 2 := by rw [List.length_take]; simp; omega
              have fl3 := List.length_filter_le (fun z => decide (z ∈ zs)) ([n, ("-" : Str) ++ n].take j)
              walk_at "ss"
              refine s_inD m3 ?_
              show ∃ k, V.bl (decide (z ∈ ks)) = .bl k ∧ _
              walk_at "ss"
              rw [show decide (z ∈ ks) = decide (z ∈ zs) by rw [Bool.eq_iff_iff]; simp [h2]]
              by_cases hm : z ∈ zs
              · rw [decide_eq_true hm]
                refine s_itT rfl ?_
                walk_at "ss"
                refine s_tyL m5 ?_
                walk_at "ss"
                refine s_app m5 (by rw [List.length_map, List.length_append]; omega) ?_
                refine ⟨_, rfl, same_put m1 hqn, by rw [upd_ne hqr.symm]; exact m2, by rw [upd_ne hqd.symm]; exact m3, by rw [upd_ne huq.symm]; exact m4, ?_⟩
                rw [upd_same, take_more hz2, List.filter_append, filt1 hm, ← List.append_assoc, map_snoc]
              · rw [decide_eq_false hm]
                refine s_itF rfl ?_
                walk_at "ss"
                refine ⟨_, rfl, m1, m2, m3, m4, ?_⟩
                rw [m5, take_more hz2, List.filter_append, filt0 hm, List.append_nil]
            · rintro σ' H5 ⟨v, rfl, m1, m2, m3, m4, m5⟩
              refine ⟨_, _, rfl, m1, m2, m3, ?_⟩
              rw [take_more hj, flat_more, m5]
              rfl
          · rintro σ' H4 ⟨v, w, rfl, k1, k2, k3, k4⟩
            rw [List.length_map, List.take_length, ← hO] at k4
            exact ⟨v, w, rfl, k1, k4⟩
    · rintro σ2 H2 ⟨v, w, rfl, k1, k2⟩
      walk_at "ss"
      exact hq H2 q k1 hqn k2
def sp_twice_named (K : PySem.W.Frag) : Sp := Sp1 fun x H Q _ => ∃ (p : Addr) (os : List Str), x = .ref p ∧ H p = some (.lst (os.map V.str)) ∧ (∀ z ∈ os, z.length ≤ 1000) ∧ Q (match twice os with | some n => .str n | none => .non) H
def N_twice_named : List PySem.Str := ["literals", "literal"]
def t_twice_named (K : PySem.W.Frag) (W : WX) : TS := (tCut (tFor (iAnyP K (tVar 0)) (gName 1) (tIfS (tAnd (tTest (tOp (rNeP K) (tSl (rSlP K) (tVar 1) tNoPart (tPart (tC (.int 1)))) (tC (.str "-")))) (tTest (tOp (rInP K false) (tOp (rAddP K) (tC (.str "-")) (tVar 1)) (tVar 0)))) (tRet (tVar 1)) tNext))
    (tRet (tC .non)))
theorem pure_twice_named {K : PySem.W.Frag} {vs : List V} {H : Hp} {Q : VK} {E : XK} {W : WX} (h : sp_twice_named K vs H Q E) : t_twice_named K W { nx := fun _ H' => Q .non H', rt := Q } (start N_twice_named vs) H := by
  obtain ⟨x, rfl, p, os, rfl, hp, hz, hq⟩ := h
  show t_twice_named K W _ [some (.ref p), none] H
  unfold t_twice_named
  refine s_cut (fun σ' H' => H' = H ∧ twice os = none) ?_ ?_
  · walk_at "ss"
    refine forb_list (xs := os.map V.str) (fun i σ' H' => ∃ v, σ' = [some (.ref p), v] ∧ H' = H ∧ ∀ z ∈ os.take i, (!dash z && decide (("-" : Str) ++ z ∈ os)) = false) ⟨none, rfl, rfl, by simp⟩ ?_ ?_ ?_
    · rintro i σ' H' hi ⟨v, rfl, rfl, _⟩
      exact SqL.of hp
    · rintro i y σ' H' hi ⟨v, rfl, rfl, ha⟩
      obtain ⟨z, hj, rfl⟩ := at_strs hi
      have hzl := hz z (List.mem_of_getElem? hj)
      walk_at "ss"
      refine s_slS (by rw [sizeLine_eq]; omega) ?_
      walk_at "ss"
      show if (!dash z) = true then _ else _
      cases hd : dash z with
      | true =>
        refine s_itF rfl ?_
        refine s_itF rfl ?_
        walk_at "ss"
        exact ⟨_, rfl, rfl, take_all hj ha (by rw [hd]; rfl)⟩
      | false =>
        refine s_itT rfl ?_
        walk_at "ss"
        refine s_addS (by show 1 + z.length ≤ sizeLine; rw [sizeLine_eq]; omega) ?_
        walk_at "ss"
        refine s_inSL hp ?_
        show ∃ k, V.bl (decide (("-" : Str) ++ z ∈ os)) = .bl k ∧ _
        walk_at "ss"
        by_cases hm : ("-" : Str) ++ z ∈ os
        · rw [decide_eq_true hm]
          refine s_itT rfl ?_
          walk_at "ss"
          have e : twice os = some z := find_at (by rw [hd, decide_eq_true hm]; rfl) hj ha
          rw [e] at hq
          exact hq
        · rw [decide_eq_false hm]
          refine s_itF rfl ?_
          walk_at "ss"
          exact ⟨_, rfl, rfl, take_all hj ha (by rw [decide_eq_false hm, Bool.and_false])⟩
    · rintro σ' H' ⟨v, rfl, rfl, ha⟩
      rw [List.length_map, List.take_length] at ha
      exact ⟨rfl, find_no ha⟩
  · rintro σ' H' ⟨rfl, e⟩
    walk_at "ss"
    rw [e] at hq
    exact hq
/-- how a row of literals is refused, or told in order -/
structure Chk (K : PySem.W.Frag) (zs : List Str) (lim : Int) (H : Hp) (E : XK) (ok : Prop) : Prop where
  bad : ∀ z, badOf zs = some z → ∀ H' d, Same H H' → H' d = some (.xd [("text", .str z)]) → E (.ref (ga K "BadLiteral")) (some d) H'
  both : badOf zs = none → ∀ n, twice (litO zs) = some n → ∀ H' d, Same H H' → H' d = some (.xd [("name", .str n)]) → E (.ref (ga K "BothSigns")) (some d) H'
  many : badOf zs = none → twice (litO zs) = none → lim < ((litO zs).length : Int) → ∀ H' d, Same H H' → H' d = some (.xd [("limit", .int lim)]) → E (.ref (ga K "TooMany")) (some d) H'
  fine : badOf zs = none → twice (litO zs) = none → ((litO zs).length : Int) ≤ lim → ok
theorem Chk.keep {K : PySem.W.Frag} {zs : List Str} {lim : Int} {H H1 : Hp} {E : XK} {ok ok' : Prop} (h : Chk K zs lim H E ok) (s : Same H H1) (f : ok → ok') : Chk K zs lim H1 E ok' :=
  ⟨fun z e H' d s' => h.bad z e H' d (s.trans s'), fun e n e2 H' d s' => h.both e n e2 H' d (s.trans s'), fun e e2 e3 H' d s' => h.many e e2 e3 H' d (s.trans s'), fun e e2 e3 => f (h.fine e e2 e3)⟩
theorem chk_fine {K : PySem.W.Frag} {ws zs : List Str} {lim : Int} {H : Hp} {E : XK} {ok : Prop} (h : ∀ z ∈ zs, isLit z = true) (hn : (zs.map bare).Nodup) (m : ∀ x, x ∈ ws ↔ x ∈ zs) (hl : (zs.length : Int) ≤ lim) (o : ok) : Chk K ws lim H E ok := by
  have h1 : badOf ws = none := badOf_none fun z hz => h z ((m z).mp hz)
  have h2 : litO ws = litO zs := litO_congr m
  have h3 : twice (litO ws) = none := by rw [h2]; exact twice_no h hn
  have h4 : ((litO ws).length : Int) ≤ lim := by rw [h2, litO_len_nd h hn]; exact hl
  exact ⟨fun z e => by rw [h1] at e; (cases e), fun _ n e => by rw [h3] at e; (cases e), fun _ _ e => by omega, fun _ _ _ => o⟩
def sp_checked_facts (K : PySem.W.Frag) : Sp := Sp2 fun x y H Q E => ∃ (p : Addr) (zs : List Str) (lim : Int), x = .ref p ∧ y = .int lim ∧ H p = some (.lst (zs.map V.str)) ∧ zs.length ≤ 60 ∧ (∀ z ∈ zs, z.length ≤ 1000000) ∧ Chk K zs lim H E (∀ H' q, Same H H' → H q = none → H' q = some (.lst ((litO zs).map V.str)) → Q (.ref q) H')
def N_checked_facts : List PySem.Str := ["literals", "limit", "facts", "name"]
def t_checked_facts (K : PySem.W.Frag) (W : WX) : TS := (tSeq (tAsg (tCallS (sp_in_order K) (WE W) (tCons (tVar 0) tNil)) (gName 2))
    (tSeq (tAsg (tCallS (sp_twice_named K) (WE W) (tCons (tVar 2) tNil)) (gName 3))
    (tCut (tIfS (tTest (tOp (rIsP true) (tVar 3) (tC .non))) (tRaiseE (ga K "BothSigns") "name" W (tCons (tVar 3) tNil)) tNext)
    (tCut (tIfS (tTest (tOp rGtP (tCB (rLenP K) (tCons (tVar 2) tNil)) (tVar 1))) (tRaiseE (ga K "TooMany") "limit" W (tCons (tVar 1) tNil)) tNext)
    (tRet (tVar 2))))))
theorem pure_checked_facts {K : PySem.W.Frag} {vs : List V} {H : Hp} {Q : VK} {E : XK} (h : sp_checked_facts K vs H Q E) : t_checked_facts K (fun cls d _ H => E cls d H) { nx := fun _ H' => Q .non H', rt := Q } (start N_checked_facts vs) H := by
  obtain ⟨x, y, rfl, p, zs, lim, rfl, rfl, hp, hl, hz, hc⟩ := h
  show t_checked_facts K _ _ [some (.ref p), some (.int lim), none, none] H
  unfold t_checked_facts
  walk_at "ss"
  refine ⟨_, rfl, p, zs, rfl, hp, hl, hz, hc.bad, fun hb H1 q s1 hqn h1 => ?_⟩
  have lit := badOf_ok hb
  walk_at "ss"
  refine ⟨_, rfl, q, litO zs, rfl, h1, fun z hm => by have := lit_len (lit z (litO_mem hm)); omega, ?_⟩
  walk_at "ss"
  refine s_nocut ?_
  walk_at "ss"
  cases ht : twice (litO zs) with
  | some n =>
    dsimp only
    show if (!decide (V.str n = .non)) = true then _ else _
    refine s_itT (by simp) ?_
    exact ⟨_, rfl, _, rfl, fun d hd => hc.both hb n ht _ d (s1.trans (same_new hd)) upd_same⟩
  | none =>
    dsimp only
    refine s_itF (by simp [tgtIn]) ?_
    walk_at "ss"
    refine s_nocut ?_
    walk_at "ss"
    refine s_lenL h1 ?_
    walk_at "ss"
    rw [List.length_map]
    refine s_itd (fun e => ?_) (fun e => ?_)
    · exact ⟨_, rfl, _, rfl, fun d hd => hc.many hb ht e _ d (s1.trans (same_new hd)) upd_same⟩
    · walk_at "ss"
      exact hc.fine hb ht (by omega) H1 q s1 hqn h1
def sp_names_of (K : PySem.W.Frag) : Sp := Sp1 fun x H Q _ => ∃ (p : Addr) (zs : List Str), x = .ref p ∧ (SqL K H p (zs.map V.str) ∨ SqT K H p (zs.map V.str)) ∧ zs.length ≤ 60 ∧ (∀ z ∈ zs, isLit z = true) ∧ ∀ H' r, Same H H' → H r = none → H' r = some (.lst ((srt (zs.map bare)).map V.str)) → Q (.ref r) H'
def N_names_of : List PySem.Str := ["literals", "literal"]
def t_names_of (K : PySem.W.Frag) (W : WX) : TS := (tRet (tCallS (sp_ordered_names K) (WE W) (tCons (tLc (iAnyP K (tVar 0)) (gName 1) tYes (tCall (sp_name_of K) [] E0 (tCons (tVar 1) tNil)) [1]) tNil)))
theorem pure_names_of {K : PySem.W.Frag} {vs : List V} {H : Hp} {Q : VK} {E : XK} {W : WX} (h : sp_names_of K vs H Q E) : t_names_of K W { nx := fun _ H' => Q .non H', rt := Q } (start N_names_of vs) H := by
  obtain ⟨x, rfl, p, zs, rfl, hp, hl, lit, hq⟩ := h
  show t_names_of K W _ [some (.ref p), none] H
  unfold t_names_of
  walk_at "ss"
  refine lcS_str bare hp (by omega) ?_ ?_
  · intro z hz H' s' Q' hQ
    walk_at "ss"
    exact ⟨_, rfl, z, rfl, by have := lit_len (lit z hz); omega, fun _ H2 s2 => hQ H2 s2, fun e => by rw [lit z hz] at e; cases e⟩
  intro l1 H1 _ s1 h1
  have hnm : ∀ z ∈ zs.map bare, isNm z = true := fun z h => by
    obtain ⟨y, hy, rfl⟩ := List.mem_map.mp h
    exact lit y hy
  walk_at "ss"
  exact ⟨_, rfl, l1, zs.map bare, rfl, h1, by rw [List.length_map]; omega, fun z h => by have := nm_short (hnm z h); omega, fun z e => by rw [badN_none hnm] at e; (cases e), fun _ H4 r s4 hr h4 => hq H4 r (s1.trans s4) (same_un s1 hr) h4⟩
def sp_turned_literal (K : PySem.W.Frag) : Sp := Sp2 fun x y H Q E => ∃ (q : Addr) (ns : List Str) (z : Str), x = .ref q ∧ y = .str z ∧ H q = some (.tup (ns.map V.str)) ∧ z.length ≤ 1000000 ∧ (isLit z = true → ∀ H', Same H H' → Q (.str (turnL ns z)) H') ∧ (isLit z = false → ∀ H' d, Same H H' → H' d = some (.xd [("text", .str z)]) → E (.ref (ga K "BadLiteral")) (some d) H')
def N_turned_literal : List PySem.Str := ["turned", "literal"]
def t_turned_literal (K : PySem.W.Frag) (W : WX) : TS := (tCut (tIfS (tTest (tOp (rInP K false) (tCallS (sp_name_of K) (WE W) (tCons (tVar 1) tNil)) (tVar 0))) (tRet (tCallS (sp_negated K) (WE W) (tCons (tVar 1) tNil))) tNext)
    (tRet (tVar 1)))
theorem pure_turned_literal {K : PySem.W.Frag} {vs : List V} {H : Hp} {Q : VK} {E : XK} (h : sp_turned_literal K vs H Q E) : t_turned_literal K (fun cls d _ H => E cls d H) { nx := fun _ H' => Q .non H', rt := Q } (start N_turned_literal vs) H := by
  obtain ⟨x, y, rfl, q, ns, z, rfl, rfl, hn, hz, hq, he⟩ := h
  show t_turned_literal K _ _ [some (.ref q), some (.str z)] H
  unfold t_turned_literal
  refine s_nocut ?_
  walk_at "ss"
  refine ⟨_, rfl, z, rfl, hz, fun hl H1 s1 => ?_, he⟩
  walk_at "ss"
  refine s_inST (s1 _ _ hn) ?_
  have hq1 := hq hl
  unfold turnL at hq1
  walk_at "ss"
  show if decide (bare z ∈ ns) = true then _ else _
  refine s_itd (fun e1 => ?_) (fun e1 => ?_)
  · rw [if_pos e1] at hq1
    walk_at "ss"
    exact ⟨_, rfl, z, rfl, hz, fun _ H2 s2 => hq1 H2 (s1.trans s2), fun e => by rw [hl] at e; cases e⟩
  · rw [if_neg e1] at hq1
    walk_at "ss"
    exact hq1 H1 s1
def sp_Clause_init (K : PySem.W.Frag) : Sp := Sp2 fun x y H Q E => ∃ (c p dx : Addr) (zs : List Str), x = .ref c ∧ y = .ref p ∧ H c = some (.ins (ga K "Clause") dx []) ∧ H p = some (.tup (zs.map V.str)) ∧ zs.length ≤ 60 ∧ (∀ z ∈ zs, z.length ≤ 1000000) ∧ Chk K zs 6 H E (∀ H' q, But c H H' → H q = none → H' q = some (.tup ((litO zs).map V.str)) → H' c = some (.ins (ga K "Clause") dx [("literals", .ref q)]) → Q .non H')
def N_Clause_init : List PySem.Str := ["self", "literals"]
def t_Clause_init (K : PySem.W.Frag) (W : WX) : TS := (Cl.sAtt [ga K "Clause"] (tVar 0) (tCB (rTupleP K) (tCons (tCallS (sp_checked_facts K) (WE W) (tCons (tCB (rListP K) (tCons (tVar 1) tNil)) (tCons (Cl.tAtt [(ga K "Clause", Cl.aCon "LIMIT" (.int 6)), (ga K "Turning", Cl.aCon "LIMIT" (.int 12))] (tVar 0)) tNil))) tNil)) "literals")
def spV_Clause_init (K : PySem.W.Frag) : Sp := fun vs H Q E => ∃ ws rest, vs = ws ++ rest ∧ ws.length = 1 ∧ rest.length ≤ sizeLine ∧ ∀ p, H p = none → sp_Clause_init K (ws ++ [V.ref p]) (upd H p (.tup rest)) Q E
theorem pure_Clause_init {K : PySem.W.Frag} {vs : List V} {H : Hp} {Q : VK} {E : XK} (h : sp_Clause_init K vs H Q E) : t_Clause_init K (fun cls d _ H => E cls d H) { nx := fun _ H' => Q .non H', rt := Q } (start N_Clause_init vs) H := by
  obtain ⟨x, y, rfl, c, p, dx, zs, rfl, rfl, hc, hp, hl, hz, hk⟩ := h
  show t_Clause_init K _ _ [some (.ref c), some (.ref p)] H
  unfold t_Clause_init
  walk_at "ss"
  refine s_listT hp fun l hln => ?_
  have s1 : Same H (upd H l (.lst (zs.map V.str))) := same_new hln
  walk_at "ss"
  refine ⟨c, dx, [], 0, _, _, rfl, rfl, s1 _ _ hc, rfl, ?_⟩
  walk_at "ss"
  refine ⟨_, _, rfl, l, zs, 6, rfl, rfl, upd_same, hl, hz, hk.keep s1 fun ok H1 q s2 hq h1 => ?_⟩
  walk_at "ss"
  have hqn := same_un s1 hq
  refine s_tupL h1 fun r hr => ?_
  have s3 : Same H (upd H1 r (.tup ((litO zs).map V.str))) := (s1.trans s2).trans (same_new hr)
  have hcr : c ≠ r := fun e => by rw [← e, s2 _ _ (s1 _ _ hc)] at hr; cases hr
  walk_at "ss"
  refine ⟨c, _, dx, [], rfl, List.mem_singleton.mpr rfl, s3 _ _ hc, by decide, ?_⟩
  refine ok _ r (fun b o e n => ?_) (same_un (s1.trans s2) hr) ?_ ?_
  · rw [upd_ne n]
    exact s3 _ _ e
  · rw [upd_ne hcr.symm, upd_same]
  · rw [upd_same]
    rfl
/-- a clause of the row is made, or refused -/
abbrev CkC (K : PySem.W.Frag) (zs : List Str) (H : Hp) (Q : VK) (E : XK) : Prop := Chk K zs 6 H E (∀ H' c dx q, Same H H' → H c = none → H' c = some (.ins (ga K "Clause") dx [("literals", .ref q)]) → H' q = some (.tup ((litO zs).map V.str)) → Q (.ref c) H')
theorem clause_made {K : PySem.W.Frag} {zs : List Str} {H : Hp} {Q : VK} {E : XK} (hl : zs.length ≤ 60) (hz : ∀ z ∈ zs, z.length ≤ 1000000) (hc : CkC K zs H Q E) : ∀ x dx, H x = none → H dx = none → dx ≠ x → spV_Clause_init K (V.ref x :: zs.map V.str) (upd (upd H dx (.own x)) x (.ins (ga K "Clause") dx [])) (fun v H2 => v = .non ∧ Q (.ref x) H2) E := by
  intro x dx hx hd hn
  have s1 : Same H (upd (upd H dx (.own x)) x (.ins (ga K "Clause") dx [])) := same_put (same_new hd) hx
  refine ⟨[.ref x], zs.map V.str, rfl, rfl, by rw [List.length_map, sizeLine_eq]; omega, fun p hp => ?_⟩
  have hpx : x ≠ p := fun e => by rw [← e, upd_same] at hp; cases hp
  have s2 := s1.trans (same_new (o := .tup (zs.map V.str)) hp)
  refine ⟨_, _, rfl, x, p, dx, zs, rfl, rfl, by rw [upd_ne hpx, upd_same], upd_same, hl, hz, hc.keep s2 fun ok H' q b hq h1 h2 => ⟨rfl, ?_⟩⟩
  refine ok H' x dx q (fun b' o e => ?_) hx h2 h1
  exact b b' o (s2 _ _ e) (ne_of_none e hx)
theorem clause_new {K : PySem.W.Frag} {zs : List Str} {H : Hp} {R : Addr → Hp → Prop} {E : XK} (r : Row6 zs) (ok : ∀ H' c, Same H H' → H c = none → IsCl K H' c (litO zs) → R c H') : ∀ x dx, H x = none → H dx = none → dx ≠ x → spV_Clause_init K (V.ref x :: zs.map V.str) (upd (upd H dx (.own x)) x (.ins (ga K "Clause") dx [])) (fun v H2 => v = .non ∧ R x H2) E := by
  intro x dx hx hd hn
  have l6 := r.len
  have := clause_made (Q := fun v H' => ∃ c, v = .ref c ∧ R c H') (E := E) (zs := zs) (by omega) (fun z h => by have := r.short z h; omega) (chk_fine r.lit r.nd (fun _ => Iff.rfl) (by omega) fun H' c dx q s hc h1 h2 => ⟨c, rfl, ok H' c s hc ⟨dx, q, h1, h2⟩⟩) x dx hx hd hn
  have e : (fun (v : V) (H2 : Hp) => v = .non ∧ ∃ c, V.ref x = .ref c ∧ R c H2) = fun v H2 => v = .non ∧ R x H2 := by
    funext v H2
    apply propext
    constructor
    · rintro ⟨h, c, e, hr⟩; cases e; exact ⟨h, hr⟩
    · rintro ⟨h, hr⟩; exact ⟨h, x, rfl, hr⟩
  rw [e] at this
  exact this
def sp_turned_clause (K : PySem.W.Frag) : Sp := Sp2 fun x y H Q E => ∃ (q c : Addr) (ns ls : List Str), x = .ref q ∧ y = .ref c ∧ H q = some (.tup (ns.map V.str)) ∧ IsCl K H c ls ∧ ls.length ≤ 60 ∧ (∀ z ∈ ls, isLit z = true) ∧ CkC K (ls.map (turnL ns)) H Q E
def N_turned_clause : List PySem.Str := ["turned", "clause", "literals", "literal"]
def t_turned_clause (K : PySem.W.Frag) (W : WX) : TS := (tSeq (tAsg (tLc (iAnyP K (Cl.tAtt [(ga K "Clause", Cl.aFld "literals")] (tVar 1))) (gName 3) tYes (tCall (sp_turned_literal K) [] E0 (tCons (tVar 0) (tCons (tVar 3) tNil))) [3]) (gName 2))
    (tRet (Cl.tMakeS (ga K "Clause") (spV_Clause_init K) (WE W) (StX.tStar K (tVar 2) tNil))))
theorem pure_turned_clause {K : PySem.W.Frag} {vs : List V} {H : Hp} {Q : VK} {E : XK} (h : sp_turned_clause K vs H Q E) : t_turned_clause K (fun cls d _ H => E cls d H) { nx := fun _ H' => Q .non H', rt := Q } (start N_turned_clause vs) H := by
  obtain ⟨x, y, rfl, q, c, ns, ls, rfl, rfl, hn, ⟨dc, qc, c1, c2⟩, hl, lit, hk⟩ := h
  show t_turned_clause K _ _ [some (.ref q), some (.ref c), none, none] H
  unfold t_turned_clause
  walk_at "ss"
  refine ⟨c, dc, _, 0, _, _, rfl, rfl, c1, _, rfl, ?_⟩
  refine lcS_str (turnL ns) (.inr (SqT.of c2)) (by omega) ?_ ?_
  · intro z hz H1 s1 Q' hQ
    walk_at "ss"
    exact ⟨_, _, rfl, q, ns, z, rfl, rfl, s1 _ _ hn, by have := lit_len (lit z hz); omega, fun _ H2 s2 => hQ H2 s2, fun e => by rw [lit z hz] at e; cases e⟩
  intro D H1 _ s1 h1
  walk_at "ss"
  refine ⟨_, rfl, D, _, rfl, .inr (SqL.of h1), ?_⟩
  show ∀ x dx, H1 x = none → H1 dx = none → dx ≠ x → spV_Clause_init K (V.ref x :: ((ls.map (turnL ns)).map V.str ++ [])) _ _ _
  rw [List.append_nil]
  refine clause_made (by rw [List.length_map]; omega) (fun z h => ?_) (hk.keep s1 fun ok H' c dx q s2 hc' => ok H' c dx q (s1.trans s2) (same_un s1 hc'))
  obtain ⟨y, hy, rfl⟩ := List.mem_map.mp h
  have := lit_len (turnL_lit (ns := ns) (lit y hy))
  omega
def sp_differing (K : PySem.W.Frag) : Sp := Sp2 fun x y H Q _ => ∃ (p q : Addr) (a b : List Str), x = .ref p ∧ y = .ref q ∧ H p = some (.tup (a.map V.str)) ∧ H q = some (.tup (b.map V.str)) ∧ a.length ≤ 20 ∧ b.length ≤ 20 ∧ (∀ z ∈ a, isNm z = true) ∧ (∀ z ∈ b, isNm z = true) ∧ ∀ H' r, Same H H' → H r = none → H' r = some (.lst ((srt (apartS a b)).map V.str)) → Q (.ref r) H'
def N_differing : List PySem.Str := ["one", "other", "name"]
def t_differing (K : PySem.W.Frag) (W : WX) : TS := (tRet (tCallS (sp_ordered_names K) (WE W) (tCons (tOp (rAddP K) (tLc (iAnyP K (tVar 0)) (gName 2) (tTest (tOp (rInP K true) (tVar 2) (tVar 1))) (tVar 2) [2]) (tLc (iAnyP K (tVar 1)) (gName 2) (tTest (tOp (rInP K true) (tVar 2) (tVar 0))) (tVar 2) [2])) tNil)))
theorem pure_differing {K : PySem.W.Frag} {vs : List V} {H : Hp} {Q : VK} {E : XK} {W : WX} (h : sp_differing K vs H Q E) : t_differing K W { nx := fun _ H' => Q .non H', rt := Q } (start N_differing vs) H := by
  obtain ⟨x, y, rfl, p, q, a, b, rfl, rfl, hp, hq, la, lb, na, nb, hQ⟩ := h
  show t_differing K W _ [some (.ref p), some (.ref q), none] H
  unfold t_differing
  walk_at "ss"
  refine lcS_filt (fun z => z) (fun z => !decide (z ∈ b)) (.inr (SqT.of hp)) (by omega) ?_ ?_ ?_
  · intro z hz H' s' Q' hQ
    walk_at "ss"
    exact s_inST (s' _ _ hq) ⟨_, rfl, hQ _ (Same.refl _)⟩
  · intro z hz _ H' s' Q' hQ
    walk_at "ss"
    exact hQ _ (Same.refl _)
  intro l1 H1 _ s1 h1
  rw [List.map_id'] at h1
  walk_at "ss"
  refine lcS_filt (fun z => z) (fun z => !decide (z ∈ a)) (.inr (SqT.of (s1 _ _ hq))) (by omega) ?_ ?_ ?_
  · intro z hz H' s' Q' hQ
    walk_at "ss"
    exact s_inST ((s1.trans s') _ _ hp) ⟨_, rfl, hQ _ (Same.refl _)⟩
  · intro z hz _ H' s' Q' hQ
    walk_at "ss"
    exact hQ _ (Same.refl _)
  intro l2 H2 _ s2 h2
  rw [List.map_id'] at h2
  have hl := apartS_len a b
  have hnm : ∀ z ∈ apartS a b, isNm z = true := fun z h => by
    rcases mem_apartS.mp h with ⟨h, _⟩ | ⟨h, _⟩
    · exact na z h
    · exact nb z h
  walk_at "ss"
  refine s_catS (s2 _ _ h1) h2 (by have h3 := hl; unfold apartS at h3; rw [List.length_append] at h3; omega) fun l3 H3 s3 _ h3 => ?_
  walk_at "ss"
  exact ⟨_, rfl, l3, apartS a b, rfl, h3, by omega, fun z h => by have := nm_short (hnm z h); omega, fun z e => by rw [badN_none hnm] at e; (cases e), fun _ H4 r s4 hr h4 => hQ H4 r (((s1.trans s2).trans s3).trans s4) (same_un ((s1.trans s2).trans s3) hr) h4⟩
def sp_comes_before (K : PySem.W.Frag) : Sp := Sp2 fun x y H Q _ => ∃ (p q : Addr) (a b : List Str), x = .ref p ∧ y = .ref q ∧ H p = some (.tup (a.map V.str)) ∧ H q = some (.tup (b.map V.str)) ∧ a.length ≤ 20 ∧ b.length ≤ 20 ∧ (∀ z ∈ a, isNm z = true) ∧ (∀ z ∈ b, isNm z = true) ∧ ∀ H', Same H H' → Q (.bl (befB a b)) H'
def N_comes_before : List PySem.Str := ["one", "other", "names"]
def t_comes_before (K : PySem.W.Frag) (W : WX) : TS := (tSeq (tAsg (tCallS (sp_differing K) (WE W) (tCons (tVar 0) (tCons (tVar 1) tNil))) (gName 2))
    (tRet (tAndV (tOp rGtP (tCB (rLenP K) (tCons (tVar 2) tNil)) (tC (.int 0))) (tOp (rInP K false) (tOp (rIxP K) (tVar 2) (tC (.int 0))) (tVar 1)))))
theorem pure_comes_before {K : PySem.W.Frag} {vs : List V} {H : Hp} {Q : VK} {E : XK} {W : WX} (h : sp_comes_before K vs H Q E) : t_comes_before K W { nx := fun _ H' => Q .non H', rt := Q } (start N_comes_before vs) H := by
  obtain ⟨x, y, rfl, p, q, a, b, rfl, rfl, hp, hq, la, lb, na, nb, hQ⟩ := h
  show t_comes_before K W _ [some (.ref p), some (.ref q), none] H
  unfold t_comes_before
  walk_at "ss"
  refine ⟨_, _, rfl, p, q, a, b, rfl, rfl, hp, hq, la, lb, na, nb, fun H1 r s1 _ h1 => ?_⟩
  walk_at "ss"
  refine s_lenL h1 ?_
  walk_at "ss"
  rw [List.length_map]
  have hb := hQ H1 s1
  unfold befB at hb
  cases e : srt (apartS a b) with
  | nil =>
    rw [e] at hb h1
    refine s_itF (by decide) ?_
    exact hb
  | cons n l =>
    rw [e] at hb h1
    refine s_itT (by rw [List.length_cons]; exact decide_eq_true (by omega)) ?_
    walk_at "ss"
    refine s_ixL h1 (v := .str n) (show atI _ ((0 : Nat) : Int) = _ from atI_nat rfl) ?_
    walk_at "ss"
    exact s_inST (s1 _ _ hq) hb
def sp_law_sorted (K : PySem.W.Frag) : Sp := Sp1 fun x H Q _ => ∃ (p : Addr) (zs : List Str), x = .ref p ∧ H p = some (.lst (zs.map V.str)) ∧ zs.length ≤ 60 ∧ (∀ H' q, Same H H' → H q = none → H' q = some (.lst ((srt zs).map V.str)) → Q (.ref q) H')
def N_law_sorted : List PySem.Str := ["_law_names_here", "_law_result", "_law_name", "_law_each"]
def t_law_sorted (K : PySem.W.Frag) (W : WX) : TS := (tSeq (tAsg (tLst tNil) (gName 1))
    (tCut (tFor (iAnyP K (tCB (rSortedS K) (tCons (tLc (iAnyP K (tVar 0)) (gName 3) tYes (tCB rStrP (tCons (tVar 3) tNil)) [3]) tNil))) (gName 2) (tIfS (tTest (tOp (rInP K true) (tVar 2) (tVar 1))) (tDrop (tBM K "list" rAppend (tVar 1) (tCons (tVar 2) tNil))) tNext))
    (tRet (tVar 1))))
theorem pure_law_sorted {K : PySem.W.Frag} {vs : List V} {H : Hp} {Q : VK} {E : XK} {W : WX} (h : sp_law_sorted K vs H Q E) : t_law_sorted K W { nx := fun _ H' => Q .non H', rt := Q } (start N_law_sorted vs) H := by
  obtain ⟨x, rfl, p, zs, rfl, hp, hl, hq⟩ := h
  show t_law_sorted K W _ [some (.ref p), none, none, none] H
  unfold t_law_sorted
  walk_at "ss"
  refine ⟨Nat.zero_le _, fun q hqn => ?_⟩
  have s2 : Same H (upd H q (.lst [])) := same_new hqn
  walk_at "ss"
  refine s_cut (fun σ2 H2 => ∃ v, σ2 = [some (.ref p), some (.ref q), v, none] ∧ Same H H2 ∧ H2 q = some (.lst ((srt zs).map V.str))) ?_ ?_
  · walk_at "ss"
    refine lcb_map (fun x => x) (.inl (SqL.of (s2 _ _ hp))) (by rw [List.length_map]; omega) ?_ ?_
    · intro x hx H2 s3 Q' hQ
      obtain ⟨z, _, rfl⟩ := List.mem_map.mp hx
      walk_at "ss"
      exact hQ _ (Same.refl _)
    · intro D H2 hD s3 hl2
      rw [List.map_id'] at hl2
      walk_at "ss"
      refine s_sort hl2 (by omega) fun ys r hperm hsort hr => ?_
      have hs := sorted_pair hsort
      have s4 : Same H (upd H2 r (.lst (ys.map V.str))) := (s2.trans s3).trans (same_new hr)
      have hqr : q ≠ r := fun e => by rw [← e, s3 _ _ upd_same] at hr; cases hr
      refine forb_list (xs := ys.map V.str) (fun i σ' H' => ∃ v acc, σ' = [some (.ref p), some (.ref q), v, none] ∧ Same H H' ∧ H' r = some (.lst (ys.map V.str)) ∧ H' q = some (.lst (acc.map V.str)) ∧ Ord acc ∧ (∀ z, z ∈ acc ↔ z ∈ ys.take i) ∧ acc.length ≤ i)
        ⟨_, [], rfl, s4, upd_same, by rw [upd_ne hqr]; exact s3 _ _ upd_same, List.Pairwise.nil, by simp, Nat.le_refl _⟩ ?_ ?_ ?_
      · rintro i σ' H' hi ⟨v, acc, rfl, _, h2, _⟩
        exact SqL.of h2
      · rintro i y σ' H3 hi ⟨v, acc, rfl, h1, h2, h3, h4, h5, h6⟩
        have hil := (List.getElem?_eq_some_iff.mp hi).1
        rw [List.length_map, hperm.length_eq] at hil
        obtain ⟨z, hj, rfl⟩ := at_strs hi; replace hi := hj
        obtain ⟨n1, n2⟩ := nub_step hs hi h4 h5
        walk_at "ss"
        refine s_inSL h3 ?_
        show ∃ k, V.bl (!decide (z ∈ acc)) = .bl k ∧ _
        walk_at "ss"
        by_cases hm : z ∈ acc
        · rw [decide_eq_true hm]
          refine s_itF rfl ?_
          walk_at "ss"
          exact ⟨_, acc, rfl, h1, h2, h3, h4, n1 hm, by omega⟩
        · rw [decide_eq_false hm]
          refine s_itT rfl ?_
          walk_at "ss"
          refine s_tyL h3 ?_
          walk_at "ss"
          refine s_app h3 (by rw [List.length_map]; omega) ?_
          refine ⟨_, acc ++ [z], rfl, fun b o e => ?_, by rw [upd_ne hqr.symm]; exact h2, by rw [upd_same, List.map_append]; rfl, (n2 hm).1, (n2 hm).2, by rw [List.length_append]; simp; omega⟩
          rw [upd_ne (ne_of_none e hqn)]
          exact h1 _ _ e
      · rintro σ' H3 ⟨v, acc, rfl, h1, h2, h3, h4, h5, h6⟩
        rw [List.length_map, List.take_length] at h5
        have e : acc = srt zs := srt_eq h4 fun x => (h5 x).trans hperm.mem_iff
        rw [e] at h3
        exact ⟨v, rfl, h1, h3⟩
  · rintro σ2 H2 ⟨v, rfl, h1, h2⟩
    walk_at "ss"
    exact hq H2 q h1 hqn h2
def sp_Turning_init (K : PySem.W.Frag) : Sp := Sp2 fun x y H Q E => ∃ (c p dx : Addr) (zs : List Str), x = .ref c ∧ y = .ref p ∧ H c = some (.ins (ga K "Turning") dx []) ∧ H p = some (.tup (zs.map V.str)) ∧ zs.length ≤ 60 ∧ (∀ z ∈ zs, z.length ≤ 1000000) ∧ ChT K zs H E (∀ H' q, But c H H' → H q = none → H' q = some (.tup ((srt zs).map V.str)) → H' c = some (.ins (ga K "Turning") dx [("turned", .ref q)]) → Q .non H')
def N_Turning_init : List PySem.Str := ["self", "names", "turned"]
def t_Turning_init (K : PySem.W.Frag) (W : WX) : TS := (tSeq (tAsg (tCallS (sp_ordered_names K) (WE W) (tCons (tCB (rListP K) (tCons (tVar 1) tNil)) tNil)) (gName 2))
    (tCut (tIfS (tTest (tOp rGtP (tCB (rLenP K) (tCons (tVar 2) tNil)) (Cl.tAtt [(ga K "Clause", Cl.aCon "LIMIT" (.int 6)), (ga K "Turning", Cl.aCon "LIMIT" (.int 12))] (tVar 0)))) (tRaiseE (ga K "TooMany") "limit" W (tCons (Cl.tAtt [(ga K "Clause", Cl.aCon "LIMIT" (.int 6)), (ga K "Turning", Cl.aCon "LIMIT" (.int 12))] (tVar 0)) tNil)) tNext)
    (Cl.sAtt [ga K "Turning"] (tVar 0) (tCB (rTupleP K) (tCons (tVar 2) tNil)) "turned")))
def spV_Turning_init (K : PySem.W.Frag) : Sp := fun vs H Q E => ∃ ws rest, vs = ws ++ rest ∧ ws.length = 1 ∧ rest.length ≤ sizeLine ∧ ∀ p, H p = none → sp_Turning_init K (ws ++ [V.ref p]) (upd H p (.tup rest)) Q E
theorem pure_Turning_init {K : PySem.W.Frag} {vs : List V} {H : Hp} {Q : VK} {E : XK} (h : sp_Turning_init K vs H Q E) : t_Turning_init K (fun cls d _ H => E cls d H) { nx := fun _ H' => Q .non H', rt := Q } (start N_Turning_init vs) H := by
  obtain ⟨x, y, rfl, c, p, dx, zs, rfl, rfl, hc, hp, hl, hz, hk⟩ := h
  show t_Turning_init K _ _ [some (.ref c), some (.ref p), none] H
  unfold t_Turning_init
  walk_at "ss"
  refine s_listT hp fun l hln => ?_
  have s1 : Same H (upd H l (.lst (zs.map V.str))) := same_new hln
  walk_at "ss"
  refine ⟨_, rfl, l, zs, rfl, upd_same, hl, hz, fun z hb H1 d s2 hd => hk.bad z hb H1 d (s1.trans s2) hd, fun hb H1 q s2 hq h1 => ?_⟩
  have S2 := s1.trans s2
  walk_at "ss"
  refine s_nocut ?_
  walk_at "ss"
  refine s_lenL h1 ?_
  walk_at "ss"
  refine ⟨c, dx, [], 1, _, _, rfl, rfl, S2 _ _ hc, rfl, ?_⟩
  walk_at "ss"
  rw [List.length_map]
  refine s_itd (fun e => ?_) (fun e => ?_)
  · refine ⟨_, rfl, c, dx, [], 1, _, _, rfl, rfl, S2 _ _ hc, rfl, ?_⟩
    exact ⟨_, rfl, fun d hd => hk.many hb (by omega) _ d (S2.trans (same_new hd)) upd_same⟩
  · walk_at "ss"
    refine s_tupL h1 fun r hr => ?_
    have s3 : Same H (upd H1 r (.tup ((srt zs).map V.str))) := S2.trans (same_new hr)
    have hcr : c ≠ r := fun e => by rw [← e, S2 _ _ hc] at hr; cases hr
    walk_at "ss"
    refine ⟨c, _, dx, [], rfl, List.mem_singleton.mpr rfl, s3 _ _ hc, by decide, ?_⟩
    refine hk.fine hb (by omega) _ r (fun b o e n => ?_) (same_un S2 hr) ?_ ?_
    · rw [upd_ne n]
      exact s3 _ _ e
    · rw [upd_ne hcr.symm, upd_same]
    · rw [upd_same]
      rfl
theorem turning_made {K : PySem.W.Frag} {zs : List Str} {H : Hp} {Q : VK} {E : XK} (hl : zs.length ≤ 60) (hz : ∀ z ∈ zs, z.length ≤ 1000000) (hc : CkT K zs H Q E) : ∀ x dx, H x = none → H dx = none → dx ≠ x → spV_Turning_init K (V.ref x :: zs.map V.str) (upd (upd H dx (.own x)) x (.ins (ga K "Turning") dx [])) (fun v H2 => v = .non ∧ Q (.ref x) H2) E := by
  intro x dx hx hd hn
  have s1 : Same H (upd (upd H dx (.own x)) x (.ins (ga K "Turning") dx [])) := same_put (same_new hd) hx
  refine ⟨[.ref x], zs.map V.str, rfl, rfl, by rw [List.length_map, sizeLine_eq]; omega, fun p hp => ?_⟩
  have hpx : x ≠ p := fun e => by rw [← e, upd_same] at hp; cases hp
  have s2 := s1.trans (same_new (o := .tup (zs.map V.str)) hp)
  refine ⟨_, _, rfl, x, p, dx, zs, rfl, rfl, by rw [upd_ne hpx, upd_same], upd_same, hl, hz, ChT.keep hc s2 fun ok H' q b hq h1 h2 => ⟨rfl, ?_⟩⟩
  refine ok H' x (fun b' o e => ?_) hx ⟨dx, q, h2, h1⟩
  exact b b' o (s2 _ _ e) (ne_of_none e hx)
theorem turning_new {K : PySem.W.Frag} {zs : List Str} {H : Hp} {R : Addr → Hp → Prop} {E : XK} (hl : zs.length ≤ 12) (hz : ∀ z ∈ zs, isNm z = true) (ok : ∀ H' c, Same H H' → H c = none → IsTu K H' c (srt zs) → R c H') : ∀ x dx, H x = none → H dx = none → dx ≠ x → spV_Turning_init K (V.ref x :: zs.map V.str) (upd (upd H dx (.own x)) x (.ins (ga K "Turning") dx [])) (fun v H2 => v = .non ∧ R x H2) E := by
  intro x dx hx hd hn
  have := turning_made (Q := fun v H' => ∃ c, v = .ref c ∧ R c H') (E := E) (zs := zs) (by omega) (fun z h => by have := nm_short (hz z h); omega) (ckT_ok hz (by have := srt_len zs; omega) fun H' c s hc h => ⟨c, rfl, ok H' c s hc h⟩) x dx hx hd hn
  have e : (fun (v : V) (H2 : Hp) => v = .non ∧ ∃ c, V.ref x = .ref c ∧ R c H2) = fun v H2 => v = .non ∧ R x H2 := by
    funext v H2
    apply propext
    constructor
    · rintro ⟨h, c, e, hr⟩; cases e; exact ⟨h, hr⟩
    · rintro ⟨h, hr⟩; exact ⟨h, x, rfl, hr⟩
  rw [e] at this
  exact this
end Rd
namespace Rd
open PySem PySem.Spec PyProof.Rows L2 He Px
def sp_Turning_xor (K : PySem.W.Frag) : Sp := Sp2 fun x y H Q E => ∃ (a b : Addr) (la lb : List Str), x = .ref a ∧ y = .ref b ∧ IsTu K H a la ∧ IsTu K H b lb ∧ Tn la ∧ Tn lb ∧ MkT K (srt (apartS la lb)) H Q E
def N_Turning_xor : List PySem.Str := ["self", "other", "names"]
def t_Turning_xor (K : PySem.W.Frag) (W : WX) : TS := (tCut (tIfS (tNot (tB (tCB (rIsi K) (tCons (tVar 1) (tCons (tC (.ref (ga K "Turning"))) tNil))))) tNever tNext)
    (tSeq (tAsg (tCallS (sp_differing K) (WE W) (tCons (Cl.tAtt [(ga K "Turning", Cl.aFld "turned")] (tVar 0)) (tCons (Cl.tAtt [(ga K "Turning", Cl.aFld "turned")] (tVar 1)) tNil))) (gName 2))
    (tRet (Cl.tMakeS (ga K "Turning") (spV_Turning_init K) (WE W) (StX.tStar K (tVar 2) tNil)))))
theorem pure_Turning_xor {K : PySem.W.Frag} (ik : Hk.InsK K (ga K "Turning")) (cc : PySem.W.kitOne K (.ref (ga K "Turning")) (.ref (ga K "Turning")) = some true) {vs : List V} {H : Hp} {Q : VK} {E : XK} (h : sp_Turning_xor K vs H Q E) : t_Turning_xor K (fun cls d _ H => E cls d H) { nx := fun _ H' => Q .non H', rt := Q } (start N_Turning_xor vs) H := by
  obtain ⟨x, y, rfl, a, b, la, lb, rfl, rfl, ⟨da, qa, a1, a2⟩, ⟨db, qb, b1, b2⟩, ta, tb, hk⟩ := h
  show t_Turning_xor K _ _ [some (.ref a), some (.ref b), none] H
  unfold t_Turning_xor
  have l1 := ta.len
  have l2 := tb.len
  refine s_nocut ?_
  walk_at "ss"
  refine ⟨_, _, _, _, true, rfl, .own _, ik.ty b1, cc, ?_⟩
  walk_at "ss"
  refine s_itF rfl ?_
  walk_at "ss"
  refine ⟨a, da, _, 0, _, _, rfl, rfl, a1, _, rfl, ?_⟩
  walk_at "ss"
  refine ⟨b, db, _, 0, _, _, rfl, rfl, b1, _, rfl, ?_⟩
  walk_at "ss"
  refine ⟨_, _, rfl, qa, qb, la, lb, rfl, rfl, a2, b2, by omega, by omega, ta.nm, tb.nm, fun H1 r s1 _ h1 => ?_⟩
  walk_at "ss"
  refine ⟨_, rfl, r, _, rfl, .inr (SqL.of h1), ?_⟩
  show ∀ x dx, H1 x = none → H1 dx = none → dx ≠ x → spV_Turning_init K (V.ref x :: ((srt (apartS la lb)).map V.str ++ [])) _ _ _
  rw [List.append_nil]
  have hl := apartS_len la lb
  have hs := srt_len (apartS la lb)
  have hnm : ∀ z ∈ srt (apartS la lb), isNm z = true := fun z h => by
    rcases mem_apartS.mp (mem_srt.mp h) with ⟨h, _⟩ | ⟨h, _⟩
    · exact ta.nm z h
    · exact tb.nm z h
  refine turning_made (by omega) (fun z h => by have := nm_short (hnm z h); omega) (MkT.ck hnm ?_)
  rw [srt_srt]
  exact hk.keep s1
def sp_Clause_eq (K : PySem.W.Frag) : Sp := Sp2 fun x y H Q _ => ∃ (a b : Addr) (la lb : List Str), x = .ref a ∧ y = .ref b ∧ IsCl K H a la ∧ IsCl K H b lb ∧ (∀ z ∈ la, PyData.strOk z = true) ∧ (∀ z ∈ lb, PyData.strOk z = true) ∧ Q (.bl (decide (la = lb))) H
def N_Clause_eq : List PySem.Str := ["self", "other"]
def t_Clause_eq (K : PySem.W.Frag) (W : WX) : TS := (tRet (tAndV (tCB (rIsi K) (tCons (tVar 1) (tCons (tC (.ref (ga K "Clause"))) tNil))) (tOp (rEqP K) (Cl.tAtt [(ga K "Clause", Cl.aFld "literals")] (tVar 0)) (Cl.tAtt [(ga K "Clause", Cl.aFld "literals")] (tVar 1)))))
theorem tup_data {K : PySem.W.Frag} {H : Hp} {q : Addr} {l : List Str} (h : H q = some (.tup (l.map V.str))) : Dp K H (.ref q) (.tuple (l.map .str)) := .tup (SqT.of h) (DpAll.strs l)
theorem eqv_tup (a b : List Str) : PyData.eqv (.tuple (a.map .str)) (.tuple (b.map .str)) = decide (a = b) := eqvAll_strs a b
theorem pure_Clause_eq {K : PySem.W.Frag} (ik : Hk.InsK K (ga K "Clause")) (cc : PySem.W.kitOne K (.ref (ga K "Clause")) (.ref (ga K "Clause")) = some true) {vs : List V} {H : Hp} {Q : VK} {E : XK} {W : WX} (h : sp_Clause_eq K vs H Q E) : t_Clause_eq K W { nx := fun _ H' => Q .non H', rt := Q } (start N_Clause_eq vs) H := by
  obtain ⟨x, y, rfl, a, b, la, lb, rfl, rfl, ⟨da, qa, a1, a2⟩, ⟨db, qb, b1, b2⟩, oa, ob, hq⟩ := h
  show t_Clause_eq K _ _ [some (.ref a), some (.ref b)] H
  unfold t_Clause_eq
  walk_at "ss"
  refine ⟨_, _, _, _, true, rfl, .own _, ik.ty b1, cc, ?_⟩
  walk_at "ss"
  refine s_itT rfl ?_
  walk_at "ss"
  refine ⟨a, da, _, 0, _, _, rfl, rfl, a1, _, rfl, ?_⟩
  walk_at "ss"
  refine ⟨b, db, _, 0, _, _, rfl, rfl, b1, _, rfl, ?_⟩
  refine ⟨_, _, tup_data a2, tup_data b2, shaped_strs la oa, shaped_strs lb ob, ?_⟩
  rw [eqv_tup]
  exact hq
def sp_Clause_le (K : PySem.W.Frag) : Sp := Sp2 fun x y H Q _ => ∃ (a b : Addr) (la lb : List Str), x = .ref a ∧ y = .ref b ∧ IsCl K H a la ∧ IsCl K H b lb ∧ la.length ≤ 1000000 ∧ ∀ H', Same H H' → Q (.bl (la.all fun z => decide (z ∈ lb))) H'
def N_Clause_le : List PySem.Str := ["self", "other", "literal"]
def t_Clause_le (K : PySem.W.Frag) (W : WX) : TS := (tCut (tIfS (tNot (tB (tCB (rIsi K) (tCons (tVar 1) (tCons (tC (.ref (ga K "Clause"))) tNil))))) tNever tNext)
    (tRet (tCB (rAll K) (tCons (tLc (iAnyP K (Cl.tAtt [(ga K "Clause", Cl.aFld "literals")] (tVar 0))) (gName 2) tYes (tOp (rInP K false) (tVar 2) (Cl.tAtt [(ga K "Clause", Cl.aFld "literals")] (tVar 1))) [2]) tNil))))
theorem pure_Clause_le {K : PySem.W.Frag} (ik : Hk.InsK K (ga K "Clause")) (cc : PySem.W.kitOne K (.ref (ga K "Clause")) (.ref (ga K "Clause")) = some true) {vs : List V} {H : Hp} {Q : VK} {E : XK} {W : WX} (h : sp_Clause_le K vs H Q E) : t_Clause_le K W { nx := fun _ H' => Q .non H', rt := Q } (start N_Clause_le vs) H := by
  obtain ⟨x, y, rfl, a, b, la, lb, rfl, rfl, ⟨da, qa, a1, a2⟩, ⟨db, qb, b1, b2⟩, hla, hq⟩ := h
  show t_Clause_le K _ _ [some (.ref a), some (.ref b), none] H
  unfold t_Clause_le
  refine s_nocut ?_
  walk_at "ss"
  refine ⟨_, _, _, _, true, rfl, .own _, ik.ty b1, cc, ?_⟩
  walk_at "ss"
  refine s_itF rfl ?_
  walk_at "ss"
  refine ⟨a, da, _, 0, _, _, rfl, rfl, a1, _, rfl, ?_⟩
  refine lcb_map (fun x => match x with | .str z => .bl (decide (z ∈ lb)) | _ => .non) (.inr (SqT.of a2)) (by rw [List.length_map]; exact hla) ?_ ?_
  · intro x hx H1 s1 Q' hQ
    obtain ⟨z, _, rfl⟩ := List.mem_map.mp hx
    walk_at "ss"
    refine ⟨b, db, _, 0, _, _, rfl, rfl, s1 _ _ b1, _, rfl, ?_⟩
    exact s_inST (s1 _ _ b2) (hQ _ (Same.refl _))
  · intro D H1 hD s1 hr
    walk_at "ss"
    refine s_all (bs := la.map fun z => decide (z ∈ lb)) (by rw [hr, List.map_map, List.map_map]; rfl) ?_
    rw [List.all_map]
    exact hq H1 s1
def sp_Clause_lt (K : PySem.W.Frag) : Sp := Sp2 fun x y H Q _ => ∃ (a b : Addr) (la lb : List Str), x = .ref a ∧ y = .ref b ∧ IsCl K H a la ∧ IsCl K H b lb ∧ la.length ≤ 1000000 ∧ (∀ z ∈ la, PyData.strOk z = true) ∧ (∀ z ∈ lb, PyData.strOk z = true) ∧ ∀ H', Same H H' → Q (.bl ((la.all fun z => decide (z ∈ lb)) && !decide (la = lb))) H'
def N_Clause_lt : List PySem.Str := ["self", "other", "inside", "literal"]
def t_Clause_lt (K : PySem.W.Frag) (W : WX) : TS := (tCut (tIfS (tNot (tB (tCB (rIsi K) (tCons (tVar 1) (tCons (tC (.ref (ga K "Clause"))) tNil))))) tNever tNext)
    (tSeq (tAsg (tCB (rAll K) (tCons (tLc (iAnyP K (Cl.tAtt [(ga K "Clause", Cl.aFld "literals")] (tVar 0))) (gName 3) tYes (tOp (rInP K false) (tVar 3) (Cl.tAtt [(ga K "Clause", Cl.aFld "literals")] (tVar 1))) [3]) tNil)) (gName 2))
    (tRet (tAndV (tVar 2) (tOp (rNeP K) (Cl.tAtt [(ga K "Clause", Cl.aFld "literals")] (tVar 0)) (Cl.tAtt [(ga K "Clause", Cl.aFld "literals")] (tVar 1)))))))
theorem pure_Clause_lt {K : PySem.W.Frag} (ik : Hk.InsK K (ga K "Clause")) (cc : PySem.W.kitOne K (.ref (ga K "Clause")) (.ref (ga K "Clause")) = some true) {vs : List V} {H : Hp} {Q : VK} {E : XK} {W : WX} (h : sp_Clause_lt K vs H Q E) : t_Clause_lt K W { nx := fun _ H' => Q .non H', rt := Q } (start N_Clause_lt vs) H := by
  obtain ⟨x, y, rfl, a, b, la, lb, rfl, rfl, ⟨da, qa, a1, a2⟩, ⟨db, qb, b1, b2⟩, hla, oa, ob, hq⟩ := h
  show t_Clause_lt K _ _ [some (.ref a), some (.ref b), none, none] H
  unfold t_Clause_lt
  refine s_nocut ?_
  walk_at "ss"
  refine ⟨_, _, _, _, true, rfl, .own _, ik.ty b1, cc, ?_⟩
  walk_at "ss"
  refine s_itF rfl ?_
  walk_at "ss"
  refine ⟨a, da, _, 0, _, _, rfl, rfl, a1, _, rfl, ?_⟩
  refine lcb_map (fun x => match x with | .str z => .bl (decide (z ∈ lb)) | _ => .non) (.inr (SqT.of a2)) (by rw [List.length_map]; exact hla) ?_ ?_
  · intro x hx H1 s1 Q' hQ
    obtain ⟨z, _, rfl⟩ := List.mem_map.mp hx
    walk_at "ss"
    refine ⟨b, db, _, 0, _, _, rfl, rfl, s1 _ _ b1, _, rfl, ?_⟩
    exact s_inST (s1 _ _ b2) (hQ _ (Same.refl _))
  · intro D H1 hD s1 hr
    walk_at "ss"
    refine s_all (bs := la.map fun z => decide (z ∈ lb)) (by rw [hr, List.map_map, List.map_map]; rfl) ?_
    rw [List.all_map]
    have hq1 := hq H1 s1
    walk_at "ss"
    refine s_ite (fun e => ?_) (fun e => ?_)
    · walk_at "ss"
      refine ⟨a, da, _, 0, _, _, rfl, rfl, s1 _ _ a1, _, rfl, ?_⟩
      walk_at "ss"
      refine ⟨b, db, _, 0, _, _, rfl, rfl, s1 _ _ b1, _, rfl, ?_⟩
      refine ⟨_, _, .tup (SqT.of (s1 _ _ a2)) (DpAll.strs la), .tup (SqT.of (s1 _ _ b2)) (DpAll.strs lb), shaped_strs la oa, shaped_strs lb ob, ?_⟩
      rw [show PyData.eqv (.tuple (la.map .str)) (.tuple (lb.map .str)) = decide (la = lb) from eqvAll_strs la lb]
      have e2 : (la.all fun z => decide (z ∈ lb)) = true := e
      rw [e2] at hq1
      exact hq1
    · have e2 : (la.all fun z => decide (z ∈ lb)) = false := e
      rw [e2] at hq1
      exact hq1
def sp_Turning_eq (K : PySem.W.Frag) : Sp := Sp2 fun x y H Q _ => ∃ (a b : Addr) (la lb : List Str), x = .ref a ∧ y = .ref b ∧ IsTu K H a la ∧ IsTu K H b lb ∧ Tn la ∧ Tn lb ∧ Q (.bl (decide (la = lb))) H
def N_Turning_eq : List PySem.Str := ["self", "other"]
def t_Turning_eq (K : PySem.W.Frag) (W : WX) : TS := (tRet (tAndV (tCB (rIsi K) (tCons (tVar 1) (tCons (tC (.ref (ga K "Turning"))) tNil))) (tOp (rEqP K) (Cl.tAtt [(ga K "Turning", Cl.aFld "turned")] (tVar 0)) (Cl.tAtt [(ga K "Turning", Cl.aFld "turned")] (tVar 1)))))
theorem pure_Turning_eq {K : PySem.W.Frag} (ik : Hk.InsK K (ga K "Turning")) (cc : PySem.W.kitOne K (.ref (ga K "Turning")) (.ref (ga K "Turning")) = some true) {vs : List V} {H : Hp} {Q : VK} {E : XK} {W : WX} (h : sp_Turning_eq K vs H Q E) : t_Turning_eq K W { nx := fun _ H' => Q .non H', rt := Q } (start N_Turning_eq vs) H := by
  obtain ⟨x, y, rfl, a, b, la, lb, rfl, rfl, ⟨da, qa, a1, a2⟩, ⟨db, qb, b1, b2⟩, ta, tb, hq⟩ := h
  show t_Turning_eq K _ _ [some (.ref a), some (.ref b)] H
  unfold t_Turning_eq
  walk_at "ss"
  refine ⟨_, _, _, _, true, rfl, .own _, ik.ty b1, cc, ?_⟩
  walk_at "ss"
  refine s_itT rfl ?_
  walk_at "ss"
  refine ⟨a, da, _, 0, _, _, rfl, rfl, a1, _, rfl, ?_⟩
  walk_at "ss"
  refine ⟨b, db, _, 0, _, _, rfl, rfl, b1, _, rfl, ?_⟩
  refine ⟨_, _, tup_data a2, tup_data b2, shaped_strs la fun z h => nm_ok (ta.nm z h), shaped_strs lb fun z h => nm_ok (tb.nm z h), ?_⟩
  rw [eqv_tup]
  exact hq
def sp_Turning_lt (K : PySem.W.Frag) : Sp := Sp2 fun x y H Q _ => ∃ (a b : Addr) (la lb : List Str), x = .ref a ∧ y = .ref b ∧ IsTu K H a la ∧ IsTu K H b lb ∧ Tn la ∧ Tn lb ∧ ∀ H', Same H H' → Q (.bl (befB la lb)) H'
def N_Turning_lt : List PySem.Str := ["self", "other"]
def t_Turning_lt (K : PySem.W.Frag) (W : WX) : TS := (tCut (tIfS (tNot (tB (tCB (rIsi K) (tCons (tVar 1) (tCons (tC (.ref (ga K "Turning"))) tNil))))) tNever tNext)
    (tRet (tCallS (sp_comes_before K) (WE W) (tCons (Cl.tAtt [(ga K "Turning", Cl.aFld "turned")] (tVar 0)) (tCons (Cl.tAtt [(ga K "Turning", Cl.aFld "turned")] (tVar 1)) tNil)))))
theorem pure_Turning_lt {K : PySem.W.Frag} (ik : Hk.InsK K (ga K "Turning")) (cc : PySem.W.kitOne K (.ref (ga K "Turning")) (.ref (ga K "Turning")) = some true) {vs : List V} {H : Hp} {Q : VK} {E : XK} {W : WX} (h : sp_Turning_lt K vs H Q E) : t_Turning_lt K W { nx := fun _ H' => Q .non H', rt := Q } (start N_Turning_lt vs) H := by
  obtain ⟨x, y, rfl, a, b, la, lb, rfl, rfl, ⟨da, qa, a1, a2⟩, ⟨db, qb, b1, b2⟩, ta, tb, hq⟩ := h
  show t_Turning_lt K _ _ [some (.ref a), some (.ref b)] H
  unfold t_Turning_lt
  have l1 := ta.len
  have l2 := tb.len
  refine s_nocut ?_
  walk_at "ss"
  refine ⟨_, _, _, _, true, rfl, .own _, ik.ty b1, cc, ?_⟩
  walk_at "ss"
  refine s_itF rfl ?_
  walk_at "ss"
  refine ⟨a, da, _, 0, _, _, rfl, rfl, a1, _, rfl, ?_⟩
  walk_at "ss"
  refine ⟨b, db, _, 0, _, _, rfl, rfl, b1, _, rfl, ?_⟩
  walk_at "ss"
  refine ⟨_, _, rfl, qa, qb, _, _, rfl, rfl, a2, b2, by omega, by omega, ta.nm, tb.nm, fun H1 s1 => ?_⟩
  walk_at "ss"
  exact hq H1 s1
def sp_Turning_le (K : PySem.W.Frag) : Sp := Sp2 fun x y H Q _ => ∃ (a b : Addr) (la lb : List Str), x = .ref a ∧ y = .ref b ∧ IsTu K H a la ∧ IsTu K H b lb ∧ Tn la ∧ Tn lb ∧ ∀ H', Same H H' → Q (.bl (!befB lb la)) H'
def N_Turning_le : List PySem.Str := ["self", "other"]
def t_Turning_le (K : PySem.W.Frag) (W : WX) : TS := (tCut (tIfS (tNot (tB (tCB (rIsi K) (tCons (tVar 1) (tCons (tC (.ref (ga K "Turning"))) tNil))))) tNever tNext)
    (tRet (tNotV (tCallS (sp_comes_before K) (WE W) (tCons (Cl.tAtt [(ga K "Turning", Cl.aFld "turned")] (tVar 1)) (tCons (Cl.tAtt [(ga K "Turning", Cl.aFld "turned")] (tVar 0)) tNil))))))
theorem pure_Turning_le {K : PySem.W.Frag} (ik : Hk.InsK K (ga K "Turning")) (cc : PySem.W.kitOne K (.ref (ga K "Turning")) (.ref (ga K "Turning")) = some true) {vs : List V} {H : Hp} {Q : VK} {E : XK} {W : WX} (h : sp_Turning_le K vs H Q E) : t_Turning_le K W { nx := fun _ H' => Q .non H', rt := Q } (start N_Turning_le vs) H := by
  obtain ⟨x, y, rfl, a, b, la, lb, rfl, rfl, ⟨da, qa, a1, a2⟩, ⟨db, qb, b1, b2⟩, ta, tb, hq⟩ := h
  show t_Turning_le K _ _ [some (.ref a), some (.ref b)] H
  unfold t_Turning_le
  have l1 := ta.len
  have l2 := tb.len
  refine s_nocut ?_
  walk_at "ss"
  refine ⟨_, _, _, _, true, rfl, .own _, ik.ty b1, cc, ?_⟩
  walk_at "ss"
  refine s_itF rfl ?_
  walk_at "ss"
  refine ⟨b, db, _, 0, _, _, rfl, rfl, b1, _, rfl, ?_⟩
  walk_at "ss"
  refine ⟨a, da, _, 0, _, _, rfl, rfl, a1, _, rfl, ?_⟩
  walk_at "ss"
  refine ⟨_, _, rfl, qb, qa, _, _, rfl, rfl, b2, a2, by omega, by omega, tb.nm, ta.nm, fun H1 s1 => ?_⟩
  walk_at "ss"
  exact hq H1 s1
def sp_Turning_gt (K : PySem.W.Frag) : Sp := Sp2 fun x y H Q _ => ∃ (a b : Addr) (la lb : List Str), x = .ref a ∧ y = .ref b ∧ IsTu K H a la ∧ IsTu K H b lb ∧ Tn la ∧ Tn lb ∧ ∀ H', Same H H' → Q (.bl (befB lb la)) H'
def N_Turning_gt : List PySem.Str := ["self", "other"]
def t_Turning_gt (K : PySem.W.Frag) (W : WX) : TS := (tCut (tIfS (tNot (tB (tCB (rIsi K) (tCons (tVar 1) (tCons (tC (.ref (ga K "Turning"))) tNil))))) tNever tNext)
    (tRet (tCallS (sp_comes_before K) (WE W) (tCons (Cl.tAtt [(ga K "Turning", Cl.aFld "turned")] (tVar 1)) (tCons (Cl.tAtt [(ga K "Turning", Cl.aFld "turned")] (tVar 0)) tNil)))))
theorem pure_Turning_gt {K : PySem.W.Frag} (ik : Hk.InsK K (ga K "Turning")) (cc : PySem.W.kitOne K (.ref (ga K "Turning")) (.ref (ga K "Turning")) = some true) {vs : List V} {H : Hp} {Q : VK} {E : XK} {W : WX} (h : sp_Turning_gt K vs H Q E) : t_Turning_gt K W { nx := fun _ H' => Q .non H', rt := Q } (start N_Turning_gt vs) H := by
  obtain ⟨x, y, rfl, a, b, la, lb, rfl, rfl, ⟨da, qa, a1, a2⟩, ⟨db, qb, b1, b2⟩, ta, tb, hq⟩ := h
  show t_Turning_gt K _ _ [some (.ref a), some (.ref b)] H
  unfold t_Turning_gt
  have l1 := ta.len
  have l2 := tb.len
  refine s_nocut ?_
  walk_at "ss"
  refine ⟨_, _, _, _, true, rfl, .own _, ik.ty b1, cc, ?_⟩
  walk_at "ss"
  refine s_itF rfl ?_
  walk_at "ss"
  refine ⟨b, db, _, 0, _, _, rfl, rfl, b1, _, rfl, ?_⟩
  walk_at "ss"
  refine ⟨a, da, _, 0, _, _, rfl, rfl, a1, _, rfl, ?_⟩
  walk_at "ss"
  refine ⟨_, _, rfl, qb, qa, _, _, rfl, rfl, b2, a2, by omega, by omega, tb.nm, ta.nm, fun H1 s1 => ?_⟩
  walk_at "ss"
  exact hq H1 s1
def sp_Turning_ge (K : PySem.W.Frag) : Sp := Sp2 fun x y H Q _ => ∃ (a b : Addr) (la lb : List Str), x = .ref a ∧ y = .ref b ∧ IsTu K H a la ∧ IsTu K H b lb ∧ Tn la ∧ Tn lb ∧ ∀ H', Same H H' → Q (.bl (!befB la lb)) H'
def N_Turning_ge : List PySem.Str := ["self", "other"]
def t_Turning_ge (K : PySem.W.Frag) (W : WX) : TS := (tCut (tIfS (tNot (tB (tCB (rIsi K) (tCons (tVar 1) (tCons (tC (.ref (ga K "Turning"))) tNil))))) tNever tNext)
    (tRet (tNotV (tCallS (sp_comes_before K) (WE W) (tCons (Cl.tAtt [(ga K "Turning", Cl.aFld "turned")] (tVar 0)) (tCons (Cl.tAtt [(ga K "Turning", Cl.aFld "turned")] (tVar 1)) tNil))))))
theorem pure_Turning_ge {K : PySem.W.Frag} (ik : Hk.InsK K (ga K "Turning")) (cc : PySem.W.kitOne K (.ref (ga K "Turning")) (.ref (ga K "Turning")) = some true) {vs : List V} {H : Hp} {Q : VK} {E : XK} {W : WX} (h : sp_Turning_ge K vs H Q E) : t_Turning_ge K W { nx := fun _ H' => Q .non H', rt := Q } (start N_Turning_ge vs) H := by
  obtain ⟨x, y, rfl, a, b, la, lb, rfl, rfl, ⟨da, qa, a1, a2⟩, ⟨db, qb, b1, b2⟩, ta, tb, hq⟩ := h
  show t_Turning_ge K _ _ [some (.ref a), some (.ref b)] H
  unfold t_Turning_ge
  have l1 := ta.len
  have l2 := tb.len
  refine s_nocut ?_
  walk_at "ss"
  refine ⟨_, _, _, _, true, rfl, .own _, ik.ty b1, cc, ?_⟩
  walk_at "ss"
  refine s_itF rfl ?_
  walk_at "ss"
  refine ⟨a, da, _, 0, _, _, rfl, rfl, a1, _, rfl, ?_⟩
  walk_at "ss"
  refine ⟨b, db, _, 0, _, _, rfl, rfl, b1, _, rfl, ?_⟩
  walk_at "ss"
  refine ⟨_, _, rfl, qa, qb, _, _, rfl, rfl, a2, b2, by omega, by omega, ta.nm, tb.nm, fun H1 s1 => ?_⟩
  walk_at "ss"
  exact hq H1 s1
def sp_Turning_median (K : PySem.W.Frag) : Sp := Sp3 fun x y w H Q E => ∃ (a b c : Addr) (la lb lc : List Str), x = .ref a ∧ y = .ref b ∧ w = .ref c ∧ IsTu K H a la ∧ IsTu K H b lb ∧ IsTu K H c lc ∧ Tn la ∧ Tn lb ∧ Tn lc ∧ MkT K (srt (medS la lb lc)) H Q E
def N_Turning_median : List PySem.Str := ["one", "two", "three", "names", "more", "name"]
def t_Turning_median (K : PySem.W.Frag) (W : WX) : TS := (tSeq (tAsg (tLc (iAnyP K (Cl.tAtt [(ga K "Turning", Cl.aFld "turned")] (tVar 0))) (gName 5) (tOr (tTest (tOp (rInP K false) (tVar 5) (Cl.tAtt [(ga K "Turning", Cl.aFld "turned")] (tVar 1)))) (tTest (tOp (rInP K false) (tVar 5) (Cl.tAtt [(ga K "Turning", Cl.aFld "turned")] (tVar 2))))) (tVar 5) [5]) (gName 3))
    (tSeq (tAsg (tLc (iAnyP K (Cl.tAtt [(ga K "Turning", Cl.aFld "turned")] (tVar 1))) (gName 5) (tTest (tOp (rInP K false) (tVar 5) (Cl.tAtt [(ga K "Turning", Cl.aFld "turned")] (tVar 2)))) (tVar 5) [5]) (gName 4))
    (tSeq (tAsg (tOp (rAddP K) (tVar 3) (tVar 4)) (gName 3))
    (tRet (Cl.tMakeS (ga K "Turning") (spV_Turning_init K) (WE W) (StX.tStar K (tVar 3) tNil))))))
theorem pure_Turning_median {K : PySem.W.Frag} {vs : List V} {H : Hp} {Q : VK} {E : XK} (h : sp_Turning_median K vs H Q E) : t_Turning_median K (fun cls d _ H => E cls d H) { nx := fun _ H' => Q .non H', rt := Q } (start N_Turning_median vs) H := by
  obtain ⟨x, y, w, rfl, a, b, c, la, lb, lc, rfl, rfl, rfl, ⟨da, qa, a1, a2⟩, ⟨db, qb, b1, b2⟩, ⟨dc, qc, c1, c2⟩, ta, tb, tc, hk⟩ := h
  show t_Turning_median K _ _ [some (.ref a), some (.ref b), some (.ref c), none, none, none] H
  unfold t_Turning_median
  have l1 := ta.len
  have l2 := tb.len
  walk_at "ss"
  refine ⟨a, da, _, 0, _, _, rfl, rfl, a1, _, rfl, ?_⟩
  refine lcS_filt (fun z => z) (fun z => decide (z ∈ lb) || decide (z ∈ lc)) (.inr (SqT.of a2)) (by omega) ?_ ?_ ?_
  · intro z hz H' s' Q' hQ
    walk_at "ss"
    refine ⟨b, db, _, 0, _, _, rfl, rfl, s' _ _ b1, _, rfl, ?_⟩
    refine s_inST (s' _ _ b2) ⟨_, rfl, ?_⟩
    by_cases hb : z ∈ lb
    · refine s_itT (decide_eq_true hb) ?_
      have := hQ _ (Same.refl _)
      rw [decide_eq_true hb] at this
      exact this
    · refine s_itF (decide_eq_false hb) ?_
      walk_at "ss"
      refine ⟨c, dc, _, 0, _, _, rfl, rfl, s' _ _ c1, _, rfl, ?_⟩
      refine s_inST (s' _ _ c2) ⟨_, rfl, ?_⟩
      have := hQ _ (Same.refl _)
      rw [decide_eq_false hb, Bool.false_or] at this
      exact this
  · intro z hz _ H' s' Q' hQ
    walk_at "ss"
    exact hQ _ (Same.refl _)
  intro r1 H1 _ s1 h1
  rw [List.map_id'] at h1
  walk_at "ss"
  refine ⟨b, db, _, 0, _, _, rfl, rfl, s1 _ _ b1, _, rfl, ?_⟩
  refine lcS_filt (fun z => z) (fun z => decide (z ∈ lc)) (.inr (SqT.of (s1 _ _ b2))) (by omega) ?_ ?_ ?_
  · intro z hz H' s' Q' hQ
    walk_at "ss"
    refine ⟨c, dc, _, 0, _, _, rfl, rfl, (s1.trans s') _ _ c1, _, rfl, ?_⟩
    exact s_inST ((s1.trans s') _ _ c2) ⟨_, rfl, hQ _ (Same.refl _)⟩
  · intro z hz _ H' s' Q' hQ
    walk_at "ss"
    exact hQ _ (Same.refl _)
  intro r2 H2 _ s2 h2
  rw [List.map_id'] at h2
  have hl1 := List.length_filter_le (fun z => decide (z ∈ lb) || decide (z ∈ lc)) la
  have hl2 := List.length_filter_le (fun z => decide (z ∈ lc)) lb
  walk_at "ss"
  refine s_catS (s2 _ _ h1) h2 (by omega) fun r3 H3 s3 _ h3 => ?_
  have S3 := (s1.trans s2).trans s3
  walk_at "ss"
  refine ⟨_, rfl, r3, _, rfl, .inr (SqL.of h3), ?_⟩
  show ∀ x dx, H3 x = none → H3 dx = none → dx ≠ x → spV_Turning_init K (V.ref x :: ((medS la lb lc).map V.str ++ [])) _ _ _
  rw [List.append_nil]
  have hnm : ∀ z ∈ medS la lb lc, isNm z = true := fun z h => by
    rcases mem_medS.mp h with ⟨h, _⟩ | ⟨h, _⟩
    · exact ta.nm z h
    · exact tb.nm z h
  exact turning_made (by unfold medS; rw [List.length_append]; omega) (fun z h => by have := nm_short (hnm z h); omega) (MkT.ck hnm (hk.keep S3))
def sp_Clause_names (K : PySem.W.Frag) : Sp := Sp1 fun x H Q _ => ∃ (a : Addr) (ls : List Str), x = .ref a ∧ IsCl K H a ls ∧ ls.length ≤ 60 ∧ (∀ z ∈ ls, isLit z = true) ∧ ∀ H' r, Same H H' → H r = none → H' r = some (.tup ((srt (ls.map bare)).map V.str)) → Q (.ref r) H'
def N_Clause_names : List PySem.Str := ["self"]
def t_Clause_names (K : PySem.W.Frag) (W : WX) : TS := (tRet (tCB (rTupleP K) (tCons (tCallS (sp_names_of K) (WE W) (tCons (Cl.tAtt [(ga K "Clause", Cl.aFld "literals")] (tVar 0)) tNil)) tNil)))
theorem pure_Clause_names {K : PySem.W.Frag} {vs : List V} {H : Hp} {Q : VK} {E : XK} {W : WX} (h : sp_Clause_names K vs H Q E) : t_Clause_names K W { nx := fun _ H' => Q .non H', rt := Q } (start N_Clause_names vs) H := by
  obtain ⟨x, rfl, a, ls, rfl, ⟨da, qa, a1, a2⟩, hl, lit, hq⟩ := h
  show t_Clause_names K W _ [some (.ref a)] H
  unfold t_Clause_names
  walk_at "ss"
  refine ⟨a, da, _, 0, _, _, rfl, rfl, a1, _, rfl, ?_⟩
  walk_at "ss"
  refine ⟨_, rfl, qa, ls, rfl, .inr (SqT.of a2), hl, lit, fun H1 r s1 hr h1 => ?_⟩
  walk_at "ss"
  exact s_tupL h1 fun t ht => hq _ t (s1.trans (same_new ht)) (same_un s1 ht) upd_same
def sp_Clause_len (K : PySem.W.Frag) : Sp := Sp1 fun x H Q _ => ∃ (a dx : Addr) (fs : List (Str × V)) (t : Addr) (xs : List V), x = .ref a ∧ H a = some (.ins (ga K "Clause") dx fs) ∧ fs.lookup ("literals" : Str) = some (V.ref t) ∧ H t = some (.tup xs) ∧ xs.length ≤ 1000000 ∧ Q (.int xs.length) H
def N_Clause_len : List PySem.Str := ["self"]
def t_Clause_len (K : PySem.W.Frag) (W : WX) : TS := (tRet (tCB (rLenP K) (tCons (Cl.tAtt [(ga K "Clause", Cl.aFld "literals")] (tVar 0)) tNil)))
theorem pure_Clause_len {K : PySem.W.Frag} {vs : List V} {H : Hp} {Q : VK} {E : XK} {W : WX} (h : sp_Clause_len K vs H Q E) : t_Clause_len K W { nx := fun _ H' => Q .non H', rt := Q } (start N_Clause_len vs) H := by
  obtain ⟨x, rfl, a, dx, fs, t, xs, rfl, ha, hf, ht, hn, hq⟩ := h
  show t_Clause_len K W _ [some (.ref a)] H
  unfold t_Clause_len
  walk_at "ss"
  refine ⟨a, dx, fs, 0, _, _, rfl, rfl, ha, _, hf, ?_⟩
  walk_at "ss"
  exact s_lenT ht hq
def sp_Clause_contains (K : PySem.W.Frag) : Sp := Sp2 fun x y H Q _ => ∃ (c : Addr) (ls : List Str) (z : Str), x = .ref c ∧ y = .str z ∧ IsCl K H c ls ∧ Q (.bl (decide (z ∈ ls))) H
def N_Clause_contains : List PySem.Str := ["self", "literal"]
def t_Clause_contains (K : PySem.W.Frag) (W : WX) : TS := (tRet (tOp (rInP K false) (tVar 1) (Cl.tAtt [(ga K "Clause", Cl.aFld "literals")] (tVar 0))))
theorem pure_Clause_contains {K : PySem.W.Frag} {vs : List V} {H : Hp} {Q : VK} {E : XK} {W : WX} (h : sp_Clause_contains K vs H Q E) : t_Clause_contains K W { nx := fun _ H' => Q .non H', rt := Q } (start N_Clause_contains vs) H := by
  obtain ⟨x, y, rfl, c, ls, z, rfl, rfl, ⟨dx, q, h1, h2⟩, hq⟩ := h
  show t_Clause_contains K W _ [some (.ref c), some (.str z)] H
  unfold t_Clause_contains
  walk_at "ss"
  refine ⟨c, dx, _, 0, _, _, rfl, rfl, h1, _, rfl, ?_⟩
  exact s_inST h2 hq
def sp_Clause_or (K : PySem.W.Frag) : Sp := Sp2 fun x y H Q E => ∃ (a b : Addr) (la lb : List Str), x = .ref a ∧ y = .ref b ∧ IsCl K H a la ∧ IsCl K H b lb ∧ la.length ≤ 20 ∧ lb.length ≤ 20 ∧ (∀ z ∈ la ++ lb, z.length ≤ 1000) ∧ CkC K (la ++ lb) H Q E
def N_Clause_or : List PySem.Str := ["self", "other", "literals"]
def t_Clause_or (K : PySem.W.Frag) (W : WX) : TS := (tCut (tIfS (tNot (tB (tCB (rIsi K) (tCons (tVar 1) (tCons (tC (.ref (ga K "Clause"))) tNil))))) tNever tNext)
    (tSeq (tAsg (tOp (rAddP K) (Cl.tAtt [(ga K "Clause", Cl.aFld "literals")] (tVar 0)) (Cl.tAtt [(ga K "Clause", Cl.aFld "literals")] (tVar 1))) (gName 2))
    (tRet (Cl.tMakeS (ga K "Clause") (spV_Clause_init K) (WE W) (StX.tStar K (tVar 2) tNil)))))
theorem pure_Clause_or {K : PySem.W.Frag} (ik : Hk.InsK K (ga K "Clause")) (cc : PySem.W.kitOne K (.ref (ga K "Clause")) (.ref (ga K "Clause")) = some true) {vs : List V} {H : Hp} {Q : VK} {E : XK} (h : sp_Clause_or K vs H Q E) : t_Clause_or K (fun cls d _ H => E cls d H) { nx := fun _ H' => Q .non H', rt := Q } (start N_Clause_or vs) H := by
  obtain ⟨x, y, rfl, a, b, la, lb, rfl, rfl, ⟨da, qa, a1, a2⟩, ⟨db, qb, b1, b2⟩, hla, hlb, hz, hc⟩ := h
  show t_Clause_or K _ _ [some (.ref a), some (.ref b), none] H
  unfold t_Clause_or
  refine s_nocut ?_
  walk_at "ss"
  refine ⟨_, _, _, _, true, rfl, .own _, ik.ty b1, cc, ?_⟩
  walk_at "ss"
  refine s_itF rfl ?_
  walk_at "ss"
  refine ⟨a, da, _, 0, _, _, rfl, rfl, a1, _, rfl, ?_⟩
  walk_at "ss"
  refine ⟨b, db, _, 0, _, _, rfl, rfl, b1, _, rfl, ?_⟩
  have fin : ∀ (H1 : Hp) (p : Addr), Same H H1 → H1 p = some (.tup ((la ++ lb).map V.str)) → gName 2 (.ref p) [some (.ref a), some (.ref b), none] H1 fun σ' H' => tRet (Cl.tMakeS (ga K "Clause") (spV_Clause_init K) (WE (fun cls d _ H => E cls d H)) (StX.tStar K (tVar 2) tNil)) { nx := fun _ H' => Q .non H', rt := Q } σ' H' := by
    intro H1 p s1 hp
    walk_at "ss"
    refine ⟨_, rfl, p, _, rfl, .inl (SqT.of hp), ?_⟩
    show ∀ x dx, H1 x = none → H1 dx = none → dx ≠ x → spV_Clause_init K (V.ref x :: ((la ++ lb).map V.str ++ [])) _ _ _
    rw [List.append_nil]
    exact clause_made (by rw [List.length_append]; omega) (fun z h => by have := hz z h; omega) (hc.keep s1 fun ok H' c dx q s2 hc' => ok H' c dx q (s1.trans s2) (same_un s1 hc'))
  refine .inr ⟨_, _, _, _, rfl, rfl, SqT.of a2, SqT.of b2, by rw [List.length_map, List.length_map, sizeLine_eq]; omega, fun e => ?_, fun e e2 => ?_, fun e e2 p hp => ?_⟩
  · have e3 : la = [] := by simpa using e
    refine fin H qb (Same.refl H) ?_
    rw [e3]
    exact b2
  · have e3 : lb = [] := by simpa using e2
    refine fin H qa (Same.refl H) ?_
    rw [e3, List.append_nil]
    exact a2
  · refine fin _ p (same_new hp) ?_
    rw [upd_same, List.map_append]
def sp_Clause_and (K : PySem.W.Frag) : Sp := Sp2 fun x y H Q E => ∃ (a b : Addr) (la lb : List Str), x = .ref a ∧ y = .ref b ∧ IsCl K H a la ∧ IsCl K H b lb ∧ la.length ≤ 20 ∧ lb.length ≤ 20 ∧ (∀ z ∈ la ++ lb, z.length ≤ 1000) ∧ CkC K (la.filter fun z => decide (z ∈ lb)) H Q E
def N_Clause_and : List PySem.Str := ["self", "other", "literals", "literal"]
def t_Clause_and (K : PySem.W.Frag) (W : WX) : TS := (tCut (tIfS (tNot (tB (tCB (rIsi K) (tCons (tVar 1) (tCons (tC (.ref (ga K "Clause"))) tNil))))) tNever tNext)
    (tSeq (tAsg (tLc (iAnyP K (Cl.tAtt [(ga K "Clause", Cl.aFld "literals")] (tVar 0))) (gName 3) (tTest (tOp (rInP K false) (tVar 3) (Cl.tAtt [(ga K "Clause", Cl.aFld "literals")] (tVar 1)))) (tVar 3) [3]) (gName 2))
    (tRet (Cl.tMakeS (ga K "Clause") (spV_Clause_init K) (WE W) (StX.tStar K (tVar 2) tNil)))))
theorem pure_Clause_and {K : PySem.W.Frag} (ik : Hk.InsK K (ga K "Clause")) (cc : PySem.W.kitOne K (.ref (ga K "Clause")) (.ref (ga K "Clause")) = some true) {vs : List V} {H : Hp} {Q : VK} {E : XK} (h : sp_Clause_and K vs H Q E) : t_Clause_and K (fun cls d _ H => E cls d H) { nx := fun _ H' => Q .non H', rt := Q } (start N_Clause_and vs) H := by
  obtain ⟨x, y, rfl, a, b, la, lb, rfl, rfl, ⟨da, qa, a1, a2⟩, ⟨db, qb, b1, b2⟩, hla, hlb, hz, hc⟩ := h
  show t_Clause_and K _ _ [some (.ref a), some (.ref b), none, none] H
  unfold t_Clause_and
  refine s_nocut ?_
  walk_at "ss"
  refine ⟨_, _, _, _, true, rfl, .own _, ik.ty b1, cc, ?_⟩
  walk_at "ss"
  refine s_itF rfl ?_
  walk_at "ss"
  refine ⟨a, da, _, 0, _, _, rfl, rfl, a1, _, rfl, ?_⟩
  refine lcb_filt (fun x => x) (fun x => match x with | .str z => decide (z ∈ lb) | _ => false) (.inr (SqT.of a2)) (by rw [List.length_map]; omega) ?_ ?_ ?_
  · intro x hx H1 s1 Q' hQ
    obtain ⟨z, _, rfl⟩ := List.mem_map.mp hx
    walk_at "ss"
    refine ⟨b, db, _, 0, _, _, rfl, rfl, s1 _ _ b1, _, rfl, ?_⟩
    refine s_inST (s1 _ _ b2) ?_
    show ∃ k, V.bl (decide (z ∈ lb)) = .bl k ∧ _
    exact ⟨_, rfl, hQ _ (Same.refl _)⟩
  · intro x hx _ H1 s1 Q' hQ
    walk_at "ss"
    exact hQ _ (Same.refl _)
  · intro D H1 hD s1 hr
    have e1 : (((la.map V.str).filter fun x => match x with | .str z => decide (z ∈ lb) | _ => false).map fun x => x) = (la.filter fun z => decide (z ∈ lb)).map V.str := by
      rw [List.map_id', List.filter_map]
      rfl
    rw [e1] at hr
    walk_at "ss"
    refine ⟨_, rfl, D, _, rfl, .inr (SqL.of hr), ?_⟩
    show ∀ x dx, H1 x = none → H1 dx = none → dx ≠ x → spV_Clause_init K (V.ref x :: ((la.filter fun z => decide (z ∈ lb)).map V.str ++ [])) _ _ _
    rw [List.append_nil]
    exact clause_made (by have := List.length_filter_le (fun z => decide (z ∈ lb)) la; omega) (fun z h => by have := hz z (List.mem_append_left _ (List.mem_filter.mp h).1); omega) (hc.keep s1 fun ok H' c dx q s2 hc' => ok H' c dx q (s1.trans s2) (same_un s1 hc'))
def sp_Clause_sub (K : PySem.W.Frag) : Sp := Sp2 fun x y H Q E => ∃ (a b : Addr) (la lb : List Str), x = .ref a ∧ y = .ref b ∧ IsCl K H a la ∧ IsCl K H b lb ∧ la.length ≤ 20 ∧ lb.length ≤ 20 ∧ (∀ z ∈ la ++ lb, z.length ≤ 1000) ∧ CkC K (la.filter fun z => !decide (z ∈ lb)) H Q E
def N_Clause_sub : List PySem.Str := ["self", "other", "literals", "literal"]
def t_Clause_sub (K : PySem.W.Frag) (W : WX) : TS := (tCut (tIfS (tNot (tB (tCB (rIsi K) (tCons (tVar 1) (tCons (tC (.ref (ga K "Clause"))) tNil))))) tNever tNext)
    (tSeq (tAsg (tLc (iAnyP K (Cl.tAtt [(ga K "Clause", Cl.aFld "literals")] (tVar 0))) (gName 3) (tTest (tOp (rInP K true) (tVar 3) (Cl.tAtt [(ga K "Clause", Cl.aFld "literals")] (tVar 1)))) (tVar 3) [3]) (gName 2))
    (tRet (Cl.tMakeS (ga K "Clause") (spV_Clause_init K) (WE W) (StX.tStar K (tVar 2) tNil)))))
theorem pure_Clause_sub {K : PySem.W.Frag} (ik : Hk.InsK K (ga K "Clause")) (cc : PySem.W.kitOne K (.ref (ga K "Clause")) (.ref (ga K "Clause")) = some true) {vs : List V} {H : Hp} {Q : VK} {E : XK} (h : sp_Clause_sub K vs H Q E) : t_Clause_sub K (fun cls d _ H => E cls d H) { nx := fun _ H' => Q .non H', rt := Q } (start N_Clause_sub vs) H := by
  obtain ⟨x, y, rfl, a, b, la, lb, rfl, rfl, ⟨da, qa, a1, a2⟩, ⟨db, qb, b1, b2⟩, hla, hlb, hz, hc⟩ := h
  show t_Clause_sub K _ _ [some (.ref a), some (.ref b), none, none] H
  unfold t_Clause_sub
  refine s_nocut ?_
  walk_at "ss"
  refine ⟨_, _, _, _, true, rfl, .own _, ik.ty b1, cc, ?_⟩
  walk_at "ss"
  refine s_itF rfl ?_
  walk_at "ss"
  refine ⟨a, da, _, 0, _, _, rfl, rfl, a1, _, rfl, ?_⟩
  refine lcb_filt (fun x => x) (fun x => match x with | .str z => !decide (z ∈ lb) | _ => false) (.inr (SqT.of a2)) (by rw [List.length_map]; omega) ?_ ?_ ?_
  · intro x hx H1 s1 Q' hQ
    obtain ⟨z, _, rfl⟩ := List.mem_map.mp hx
    walk_at "ss"
    refine ⟨b, db, _, 0, _, _, rfl, rfl, s1 _ _ b1, _, rfl, ?_⟩
    refine s_inST (s1 _ _ b2) ?_
    show ∃ k, V.bl (!decide (z ∈ lb)) = .bl k ∧ _
    exact ⟨_, rfl, hQ _ (Same.refl _)⟩
  · intro x hx _ H1 s1 Q' hQ
    walk_at "ss"
    exact hQ _ (Same.refl _)
  · intro D H1 hD s1 hr
    have e1 : (((la.map V.str).filter fun x => match x with | .str z => !decide (z ∈ lb) | _ => false).map fun x => x) = (la.filter fun z => !decide (z ∈ lb)).map V.str := by
      rw [List.map_id', List.filter_map]
      rfl
    rw [e1] at hr
    walk_at "ss"
    refine ⟨_, rfl, D, _, rfl, .inr (SqL.of hr), ?_⟩
    show ∀ x dx, H1 x = none → H1 dx = none → dx ≠ x → spV_Clause_init K (V.ref x :: ((la.filter fun z => !decide (z ∈ lb)).map V.str ++ [])) _ _ _
    rw [List.append_nil]
    exact clause_made (by have := List.length_filter_le (fun z => !decide (z ∈ lb)) la; omega) (fun z h => by have := hz z (List.mem_append_left _ (List.mem_filter.mp h).1); omega) (hc.keep s1 fun ok H' c dx q s2 hc' => ok H' c dx q (s1.trans s2) (same_un s1 hc'))
def sp_Clause_str (K : PySem.W.Frag) : Sp := Sp1 fun x H Q _ => ∃ (a : Addr) (ns : List Str), x = .ref a ∧ IsCl K H a ns ∧ ns.length ≤ 1000 ∧ (∀ z ∈ ns, z.length ≤ 1000) ∧ Q (.str (textC ns)) H
def N_Clause_str : List PySem.Str := ["self"]
def t_Clause_str (K : PySem.W.Frag) (W : WX) : TS := (tCut (tIfS (tTest (tOp (rEqP K) (tCB (rLenP K) (tCons (Cl.tAtt [(ga K "Clause", Cl.aFld "literals")] (tVar 0)) tNil)) (tC (.int 0)))) (tRet (tC (.str "0"))) tNext)
    (tRet (tM1 (Cl.rJoinP K) (tC (.str " | ")) (Cl.tAtt [(ga K "Clause", Cl.aFld "literals")] (tVar 0)))))
theorem pure_Clause_str {K : PySem.W.Frag} {vs : List V} {H : Hp} {Q : VK} {E : XK} {W : WX} (h : sp_Clause_str K vs H Q E) : t_Clause_str K W { nx := fun _ H' => Q .non H', rt := Q } (start N_Clause_str vs) H := by
  obtain ⟨x, rfl, a, ns, rfl, ⟨da, qa, a1, a2⟩, hl, hz, hq⟩ := h
  show t_Clause_str K W _ [some (.ref a)] H
  unfold t_Clause_str
  unfold textC at hq
  refine s_nocut ?_
  walk_at "ss"
  refine ⟨a, da, _, 0, _, _, rfl, rfl, a1, _, rfl, ?_⟩
  walk_at "ss"
  refine s_lenT a2 ?_
  walk_at "ss"
  rw [List.length_map]
  refine s_itd (fun e => ?_) (fun e => ?_)
  · rw [if_pos (by omega)] at hq
    walk_at "ss"
    exact hq
  · rw [if_neg (by omega)] at hq
    walk_at "ss"
    refine ⟨a, da, _, 0, _, _, rfl, rfl, a1, _, rfl, ?_⟩
    exact ⟨_, qa, ns, rfl, rfl, .inr (SqT.of a2), join_fits hl hz (by decide), hq⟩
def sp_Turning_call (K : PySem.W.Frag) : Sp := Sp2 fun x y H Q E => ∃ (a : Addr) (ns : List Str), x = .ref a ∧ IsTu K H a ns ∧
  ((∃ (c : Addr) (ls : List Str), y = .ref c ∧ IsCl K H c ls ∧ ls.length ≤ 60 ∧ (∀ z ∈ ls, isLit z = true) ∧ CkC K (ls.map (turnL ns)) H Q E) ∨
   ∃ z : Str, y = .str z ∧ z.length ≤ 1000000 ∧ (isLit z = true → ∀ H', Same H H' → Q (.str (turnL ns z)) H') ∧ (isLit z = false → ∀ H' d, Same H H' → H' d = some (.xd [("text", .str z)]) → E (.ref (ga K "BadLiteral")) (some d) H'))
def N_Turning_call : List PySem.Str := ["self", "thing"]
def t_Turning_call (K : PySem.W.Frag) (W : WX) : TS := (tCut (tIfS (tB (tCB (rIsi K) (tCons (tVar 1) (tCons (tC (.ref (ga K "Clause"))) tNil)))) (tRet (tCallS (sp_turned_clause K) (WE W) (tCons (Cl.tAtt [(ga K "Turning", Cl.aFld "turned")] (tVar 0)) (tCons (tVar 1) tNil)))) tNext)
    (tRet (tCallS (sp_turned_literal K) (WE W) (tCons (Cl.tAtt [(ga K "Turning", Cl.aFld "turned")] (tVar 0)) (tCons (tVar 1) tNil)))))
theorem pure_Turning_call {K : PySem.W.Frag} (ik : Hk.InsK K (ga K "Clause")) (cc : PySem.W.kitOne K (.ref (ga K "Clause")) (.ref (ga K "Clause")) = some true) (cs : PySem.W.kitOne K (.type "str") (.ref (ga K "Clause")) = some false) {vs : List V} {H : Hp} {Q : VK} {E : XK} (h : sp_Turning_call K vs H Q E) : t_Turning_call K (fun cls d _ H => E cls d H) { nx := fun _ H' => Q .non H', rt := Q } (start N_Turning_call vs) H := by
  obtain ⟨x, y, rfl, a, ns, rfl, ⟨da, qa, a1, a2⟩, h⟩ := h
  show t_Turning_call K _ _ [some (.ref a), some y] H
  unfold t_Turning_call
  refine s_nocut ?_
  rcases h with ⟨c, ls, rfl, hC, hl, lit, hk⟩ | ⟨z, rfl, hz, hq, he⟩
  · obtain ⟨dc, qc, c1, c2⟩ := id hC
    walk_at "ss"
    refine ⟨_, _, _, _, true, rfl, .own _, ik.ty c1, cc, ?_⟩
    walk_at "ss"
    refine s_itT rfl ?_
    walk_at "ss"
    refine ⟨a, da, _, 0, _, _, rfl, rfl, a1, _, rfl, ?_⟩
    walk_at "ss"
    exact ⟨_, _, rfl, qa, c, ns, ls, rfl, rfl, a2, hC, hl, lit, hk⟩
  · walk_at "ss"
    refine ⟨_, _, _, _, false, rfl, .own _, .base (.str z), cs, ?_⟩
    walk_at "ss"
    refine s_itF rfl ?_
    walk_at "ss"
    refine ⟨a, da, _, 0, _, _, rfl, rfl, a1, _, rfl, ?_⟩
    walk_at "ss"
    exact ⟨_, _, rfl, qa, ns, z, rfl, rfl, a2, hz, hq, he⟩
def sp_Turning_len (K : PySem.W.Frag) : Sp := Sp1 fun x H Q _ => ∃ (a dx : Addr) (fs : List (Str × V)) (t : Addr) (xs : List V), x = .ref a ∧ H a = some (.ins (ga K "Turning") dx fs) ∧ fs.lookup ("turned" : Str) = some (V.ref t) ∧ H t = some (.tup xs) ∧ xs.length ≤ 1000000 ∧ Q (.int xs.length) H
def N_Turning_len : List PySem.Str := ["self"]
def t_Turning_len (K : PySem.W.Frag) (W : WX) : TS := (tRet (tCB (rLenP K) (tCons (Cl.tAtt [(ga K "Turning", Cl.aFld "turned")] (tVar 0)) tNil)))
theorem pure_Turning_len {K : PySem.W.Frag} {vs : List V} {H : Hp} {Q : VK} {E : XK} {W : WX} (h : sp_Turning_len K vs H Q E) : t_Turning_len K W { nx := fun _ H' => Q .non H', rt := Q } (start N_Turning_len vs) H := by
  obtain ⟨x, rfl, a, dx, fs, t, xs, rfl, ha, hf, ht, hn, hq⟩ := h
  show t_Turning_len K W _ [some (.ref a)] H
  unfold t_Turning_len
  walk_at "ss"
  refine ⟨a, dx, fs, 0, _, _, rfl, rfl, ha, _, hf, ?_⟩
  walk_at "ss"
  exact s_lenT ht hq
def sp_Turning_contains (K : PySem.W.Frag) : Sp := Sp2 fun x y H Q _ => ∃ (c : Addr) (ls : List Str) (z : Str), x = .ref c ∧ y = .str z ∧ IsTu K H c ls ∧ Q (.bl (decide (z ∈ ls))) H
def N_Turning_contains : List PySem.Str := ["self", "name"]
def t_Turning_contains (K : PySem.W.Frag) (W : WX) : TS := (tRet (tOp (rInP K false) (tVar 1) (Cl.tAtt [(ga K "Turning", Cl.aFld "turned")] (tVar 0))))
theorem pure_Turning_contains {K : PySem.W.Frag} {vs : List V} {H : Hp} {Q : VK} {E : XK} {W : WX} (h : sp_Turning_contains K vs H Q E) : t_Turning_contains K W { nx := fun _ H' => Q .non H', rt := Q } (start N_Turning_contains vs) H := by
  obtain ⟨x, y, rfl, c, ls, z, rfl, rfl, ⟨dx, q, h1, h2⟩, hq⟩ := h
  show t_Turning_contains K W _ [some (.ref c), some (.str z)] H
  unfold t_Turning_contains
  walk_at "ss"
  refine ⟨c, dx, _, 0, _, _, rfl, rfl, h1, _, rfl, ?_⟩
  exact s_inST h2 hq
def sp_Turning_getitem (K : PySem.W.Frag) : Sp := Sp2 fun x y H Q E => ∃ (a : Addr) (ns : List Str) (z : Str), x = .ref a ∧ y = .str z ∧ IsTu K H a ns ∧ z.length ≤ 1000000 ∧ (isNm z = true → ∀ H', Same H H' → Q (.bl (decide (z ∈ ns))) H') ∧ (isNm z = false → ∀ H' d, Same H H' → H' d = some (.xd [("text", .str z)]) → E (.ref (ga K "BadName")) (some d) H')
def N_Turning_getitem : List PySem.Str := ["self", "name"]
def t_Turning_getitem (K : PySem.W.Frag) (W : WX) : TS := (tCut (tIfS (tNot (tB (tCallS (sp_is_name K) (WE W) (tCons (tVar 1) tNil)))) (tRaiseE (ga K "BadName") "text" W (tCons (tVar 1) tNil)) tNext)
    (tRet (tOp (rInP K false) (tVar 1) (Cl.tAtt [(ga K "Turning", Cl.aFld "turned")] (tVar 0)))))
theorem pure_Turning_getitem {K : PySem.W.Frag} {vs : List V} {H : Hp} {Q : VK} {E : XK} (h : sp_Turning_getitem K vs H Q E) : t_Turning_getitem K (fun cls d _ H => E cls d H) { nx := fun _ H' => Q .non H', rt := Q } (start N_Turning_getitem vs) H := by
  obtain ⟨x, y, rfl, a, ns, z, rfl, rfl, ⟨da, qa, a1, a2⟩, hz, hq, he⟩ := h
  show t_Turning_getitem K _ _ [some (.ref a), some (.str z)] H
  unfold t_Turning_getitem
  refine s_nocut ?_
  walk_at "ss"
  refine ⟨_, rfl, z, rfl, hz, fun H1 s1 => ?_⟩
  walk_at "ss"
  cases hl : isNm z with
  | false =>
    refine s_itT rfl ?_
    exact ⟨_, rfl, _, rfl, fun d hd => he hl _ d (s1.trans (same_new hd)) upd_same⟩
  | true =>
    refine s_itF rfl ?_
    walk_at "ss"
    refine ⟨a, da, _, 0, _, _, rfl, rfl, s1 _ _ a1, _, rfl, ?_⟩
    exact s_inST (s1 _ _ a2) (hq hl H1 s1)
def sp_Turning_and (K : PySem.W.Frag) : Sp := Sp2 fun x y H Q E => ∃ (a b : Addr) (la lb : List Str), x = .ref a ∧ y = .ref b ∧ IsTu K H a la ∧ IsTu K H b lb ∧ Tn la ∧ Tn lb ∧ ∀ H' c, Same H H' → H c = none → IsTu K H' c (la.filter fun z => decide (z ∈ lb)) → Q (.ref c) H'
def N_Turning_and : List PySem.Str := ["self", "other", "names", "name"]
def t_Turning_and (K : PySem.W.Frag) (W : WX) : TS := (tCut (tIfS (tNot (tB (tCB (rIsi K) (tCons (tVar 1) (tCons (tC (.ref (ga K "Turning"))) tNil))))) tNever tNext)
    (tSeq (tAsg (tLc (iAnyP K (Cl.tAtt [(ga K "Turning", Cl.aFld "turned")] (tVar 0))) (gName 3) (tTest (tOp (rInP K false) (tVar 3) (Cl.tAtt [(ga K "Turning", Cl.aFld "turned")] (tVar 1)))) (tVar 3) [3]) (gName 2))
    (tRet (Cl.tMakeS (ga K "Turning") (spV_Turning_init K) (WE W) (StX.tStar K (tVar 2) tNil)))))
theorem pure_Turning_and {K : PySem.W.Frag} (ik : Hk.InsK K (ga K "Turning")) (cc : PySem.W.kitOne K (.ref (ga K "Turning")) (.ref (ga K "Turning")) = some true) {vs : List V} {H : Hp} {Q : VK} {E : XK} (h : sp_Turning_and K vs H Q E) : t_Turning_and K (fun cls d _ H => E cls d H) { nx := fun _ H' => Q .non H', rt := Q } (start N_Turning_and vs) H := by
  obtain ⟨x, y, rfl, a, b, la, lb, rfl, rfl, ⟨da, qa, a1, a2⟩, ⟨db, qb, b1, b2⟩, ta, tb, hk⟩ := h
  show t_Turning_and K _ _ [some (.ref a), some (.ref b), none, none] H
  unfold t_Turning_and
  have l1 := ta.len
  refine s_nocut ?_
  walk_at "ss"
  refine ⟨_, _, _, _, true, rfl, .own _, ik.ty b1, cc, ?_⟩
  walk_at "ss"
  refine s_itF rfl ?_
  walk_at "ss"
  refine ⟨a, da, _, 0, _, _, rfl, rfl, a1, _, rfl, ?_⟩
  refine lcS_filt (fun z => z) (fun z => decide (z ∈ lb)) (.inr (SqT.of a2)) (by omega) ?_ ?_ ?_
  · intro z hz H' s' Q' hQ
    walk_at "ss"
    refine ⟨b, db, _, 0, _, _, rfl, rfl, s' _ _ b1, _, rfl, ?_⟩
    exact s_inST (s' _ _ b2) ⟨_, rfl, hQ _ (Same.refl _)⟩
  · intro z hz _ H' s' Q' hQ
    walk_at "ss"
    exact hQ _ (Same.refl _)
  intro r H1 _ s1 h1
  rw [List.map_id'] at h1
  walk_at "ss"
  refine ⟨_, rfl, r, _, rfl, .inr (SqL.of h1), ?_⟩
  show ∀ x dx, H1 x = none → H1 dx = none → dx ≠ x → spV_Turning_init K (V.ref x :: ((la.filter fun z => decide (z ∈ lb)).map V.str ++ [])) _ _ _
  rw [List.append_nil]
  have hl := List.length_filter_le (fun z => decide (z ∈ lb)) la
  have hnm : ∀ z ∈ la.filter (fun z => decide (z ∈ lb)), isNm z = true := fun z h => ta.nm z (List.mem_filter.mp h).1
  refine turning_made (by omega) (fun z h => by have := nm_short (hnm z h); omega) (MkT.ck hnm ?_)
  rw [srt_ord (ord_filter ta.ord _)]
  exact MkT.fine (by omega) fun H' c s2 hc => hk H' c (s1.trans s2) (same_un s1 hc)
def sp_Turning_or (K : PySem.W.Frag) : Sp := Sp2 fun x y H Q E => ∃ (a b : Addr) (la lb : List Str), x = .ref a ∧ y = .ref b ∧ IsTu K H a la ∧ IsTu K H b lb ∧ Tn la ∧ Tn lb ∧ MkT K (srt (la ++ lb)) H Q E
def N_Turning_or : List PySem.Str := ["self", "other", "names"]
def t_Turning_or (K : PySem.W.Frag) (W : WX) : TS := (tCut (tIfS (tNot (tB (tCB (rIsi K) (tCons (tVar 1) (tCons (tC (.ref (ga K "Turning"))) tNil))))) tNever tNext)
    (tSeq (tAsg (tOp (rAddP K) (Cl.tAtt [(ga K "Turning", Cl.aFld "turned")] (tVar 0)) (Cl.tAtt [(ga K "Turning", Cl.aFld "turned")] (tVar 1))) (gName 2))
    (tRet (Cl.tMakeS (ga K "Turning") (spV_Turning_init K) (WE W) (StX.tStar K (tVar 2) tNil)))))
theorem pure_Turning_or {K : PySem.W.Frag} (ik : Hk.InsK K (ga K "Turning")) (cc : PySem.W.kitOne K (.ref (ga K "Turning")) (.ref (ga K "Turning")) = some true) {vs : List V} {H : Hp} {Q : VK} {E : XK} (h : sp_Turning_or K vs H Q E) : t_Turning_or K (fun cls d _ H => E cls d H) { nx := fun _ H' => Q .non H', rt := Q } (start N_Turning_or vs) H := by
  obtain ⟨x, y, rfl, a, b, la, lb, rfl, rfl, ⟨da, qa, a1, a2⟩, ⟨db, qb, b1, b2⟩, ta, tb, hk⟩ := h
  show t_Turning_or K _ _ [some (.ref a), some (.ref b), none] H
  unfold t_Turning_or
  have l1 := ta.len
  have l2 := tb.len
  refine s_nocut ?_
  walk_at "ss"
  refine ⟨_, _, _, _, true, rfl, .own _, ik.ty b1, cc, ?_⟩
  walk_at "ss"
  refine s_itF rfl ?_
  walk_at "ss"
  refine ⟨a, da, _, 0, _, _, rfl, rfl, a1, _, rfl, ?_⟩
  walk_at "ss"
  refine ⟨b, db, _, 0, _, _, rfl, rfl, b1, _, rfl, ?_⟩
  have hnm : ∀ z ∈ la ++ lb, isNm z = true := fun z h => by
    rcases List.mem_append.mp h with h | h
    · exact ta.nm z h
    · exact tb.nm z h
  have fin : ∀ (H1 : Hp) (p : Addr), Same H H1 → H1 p = some (.tup ((la ++ lb).map V.str)) → gName 2 (.ref p) [some (.ref a), some (.ref b), none] H1 fun σ' H' => tRet (Cl.tMakeS (ga K "Turning") (spV_Turning_init K) (WE (fun cls d _ H => E cls d H)) (StX.tStar K (tVar 2) tNil)) { nx := fun _ H' => Q .non H', rt := Q } σ' H' := by
    intro H1 p s1 hp
    walk_at "ss"
    refine ⟨_, rfl, p, _, rfl, .inl (SqT.of hp), ?_⟩
    show ∀ x dx, H1 x = none → H1 dx = none → dx ≠ x → spV_Turning_init K (V.ref x :: ((la ++ lb).map V.str ++ [])) _ _ _
    rw [List.append_nil]
    exact turning_made (by rw [List.length_append]; omega) (fun z h => by have := nm_short (hnm z h); omega) (MkT.ck hnm (hk.keep s1))
  refine .inr ⟨_, _, _, _, rfl, rfl, SqT.of a2, SqT.of b2, by rw [List.length_map, List.length_map, sizeLine_eq]; omega, fun e => ?_, fun e e2 => ?_, fun e e2 p hp => ?_⟩
  · have e3 : la = [] := by simpa using e
    refine fin H qb (Same.refl H) ?_
    rw [e3]
    exact b2
  · have e3 : lb = [] := by simpa using e2
    refine fin H qa (Same.refl H) ?_
    rw [e3, List.append_nil]
    exact a2
  · refine fin _ p (same_new hp) ?_
    rw [upd_same, List.map_append]
def sp_Turning_sub (K : PySem.W.Frag) : Sp := Sp2 fun x y H Q E => ∃ (a b : Addr) (la lb : List Str), x = .ref a ∧ y = .ref b ∧ IsTu K H a la ∧ IsTu K H b lb ∧ Tn la ∧ Tn lb ∧ ∀ H' c, Same H H' → H c = none → IsTu K H' c (la.filter fun z => !decide (z ∈ lb)) → Q (.ref c) H'
def N_Turning_sub : List PySem.Str := ["self", "other", "names", "name"]
def t_Turning_sub (K : PySem.W.Frag) (W : WX) : TS := (tCut (tIfS (tNot (tB (tCB (rIsi K) (tCons (tVar 1) (tCons (tC (.ref (ga K "Turning"))) tNil))))) tNever tNext)
    (tSeq (tAsg (tLc (iAnyP K (Cl.tAtt [(ga K "Turning", Cl.aFld "turned")] (tVar 0))) (gName 3) (tTest (tOp (rInP K true) (tVar 3) (Cl.tAtt [(ga K "Turning", Cl.aFld "turned")] (tVar 1)))) (tVar 3) [3]) (gName 2))
    (tRet (Cl.tMakeS (ga K "Turning") (spV_Turning_init K) (WE W) (StX.tStar K (tVar 2) tNil)))))
theorem pure_Turning_sub {K : PySem.W.Frag} (ik : Hk.InsK K (ga K "Turning")) (cc : PySem.W.kitOne K (.ref (ga K "Turning")) (.ref (ga K "Turning")) = some true) {vs : List V} {H : Hp} {Q : VK} {E : XK} (h : sp_Turning_sub K vs H Q E) : t_Turning_sub K (fun cls d _ H => E cls d H) { nx := fun _ H' => Q .non H', rt := Q } (start N_Turning_sub vs) H := by
  obtain ⟨x, y, rfl, a, b, la, lb, rfl, rfl, ⟨da, qa, a1, a2⟩, ⟨db, qb, b1, b2⟩, ta, tb, hk⟩ := h
  show t_Turning_sub K _ _ [some (.ref a), some (.ref b), none, none] H
  unfold t_Turning_sub
  have l1 := ta.len
  refine s_nocut ?_
  walk_at "ss"
  refine ⟨_, _, _, _, true, rfl, .own _, ik.ty b1, cc, ?_⟩
  walk_at "ss"
  refine s_itF rfl ?_
  walk_at "ss"
  refine ⟨a, da, _, 0, _, _, rfl, rfl, a1, _, rfl, ?_⟩
  refine lcS_filt (fun z => z) (fun z => !decide (z ∈ lb)) (.inr (SqT.of a2)) (by omega) ?_ ?_ ?_
  · intro z hz H' s' Q' hQ
    walk_at "ss"
    refine ⟨b, db, _, 0, _, _, rfl, rfl, s' _ _ b1, _, rfl, ?_⟩
    exact s_inST (s' _ _ b2) ⟨_, rfl, hQ _ (Same.refl _)⟩
  · intro z hz _ H' s' Q' hQ
    walk_at "ss"
    exact hQ _ (Same.refl _)
  intro r H1 _ s1 h1
  rw [List.map_id'] at h1
  walk_at "ss"
  refine ⟨_, rfl, r, _, rfl, .inr (SqL.of h1), ?_⟩
  show ∀ x dx, H1 x = none → H1 dx = none → dx ≠ x → spV_Turning_init K (V.ref x :: ((la.filter fun z => !decide (z ∈ lb)).map V.str ++ [])) _ _ _
  rw [List.append_nil]
  have hl := List.length_filter_le (fun z => !decide (z ∈ lb)) la
  have hnm : ∀ z ∈ la.filter (fun z => !decide (z ∈ lb)), isNm z = true := fun z h => ta.nm z (List.mem_filter.mp h).1
  refine turning_made (by omega) (fun z h => by have := nm_short (hnm z h); omega) (MkT.ck hnm ?_)
  rw [srt_ord (ord_filter ta.ord _)]
  exact MkT.fine (by omega) fun H' c s2 hc => hk H' c (s1.trans s2) (same_un s1 hc)
def sp_Turning_str (K : PySem.W.Frag) : Sp := Sp1 fun x H Q _ => ∃ (a : Addr) (ns : List Str), x = .ref a ∧ IsTu K H a ns ∧ ns.length ≤ 1000 ∧ (∀ z ∈ ns, z.length ≤ 1000) ∧ Q (.str (textT ns)) H
def N_Turning_str : List PySem.Str := ["self"]
def t_Turning_str (K : PySem.W.Frag) (W : WX) : TS := (tCut (tIfS (tTest (tOp (rEqP K) (tCB (rLenP K) (tCons (Cl.tAtt [(ga K "Turning", Cl.aFld "turned")] (tVar 0)) tNil)) (tC (.int 0)))) (tRet (tC (.str "0"))) tNext)
    (tRet (tM1 (Cl.rJoinP K) (tC (.str " ")) (Cl.tAtt [(ga K "Turning", Cl.aFld "turned")] (tVar 0)))))
theorem pure_Turning_str {K : PySem.W.Frag} {vs : List V} {H : Hp} {Q : VK} {E : XK} {W : WX} (h : sp_Turning_str K vs H Q E) : t_Turning_str K W { nx := fun _ H' => Q .non H', rt := Q } (start N_Turning_str vs) H := by
  obtain ⟨x, rfl, a, ns, rfl, ⟨da, qa, a1, a2⟩, hl, hz, hq⟩ := h
  show t_Turning_str K W _ [some (.ref a)] H
  unfold t_Turning_str
  unfold textT at hq
  refine s_nocut ?_
  walk_at "ss"
  refine ⟨a, da, _, 0, _, _, rfl, rfl, a1, _, rfl, ?_⟩
  walk_at "ss"
  refine s_lenT a2 ?_
  walk_at "ss"
  rw [List.length_map]
  refine s_itd (fun e => ?_) (fun e => ?_)
  · rw [if_pos (by omega)] at hq
    walk_at "ss"
    exact hq
  · rw [if_neg (by omega)] at hq
    walk_at "ss"
    refine ⟨a, da, _, 0, _, _, rfl, rfl, a1, _, rfl, ?_⟩
    exact ⟨_, qa, ns, rfl, rfl, .inr (SqT.of a2), join_fits hl hz (by decide), hq⟩
end Rd
namespace Rd
open PySem PySem.Spec PyProof.Rows L2 He Px
def sp_law_turning (K : PySem.W.Frag) : Sp := Sp1 fun x H Q _ => ∃ (p : Addr) (ns : List Str), x = .ref p ∧ H p = some (.lst (ns.map V.str)) ∧ ns.length ≤ 12 ∧ (∀ z ∈ ns, isNm z = true) ∧ ns.Nodup ∧ ∀ H' c, Same H H' → H c = none → IsTu K H' c (srt ns) → Q (.ref c) H'
def N_law_turning : List PySem.Str := ["_law_names_here", "_law_turning_here", "_law_name"]
def t_law_turning (K : PySem.W.Frag) (W : WX) : TS := (tSeq (tAsg (Cl.tMakeS (ga K "Turning") (spV_Turning_init K) (WE W) tNil) (gName 1))
    (tCut (tFor (iAnyP K (tVar 0)) (gName 2) (tAsg (Cl.tOpS (Cl.rOwn2 [(ga K "Turning", sp_Turning_xor K)] (WE W) Cl.rNo) (tVar 1) (Cl.tMakeS (ga K "Turning") (spV_Turning_init K) (WE W) (tCons (tVar 2) tNil))) (gName 1)))
    (tRet (tVar 1))))
theorem pure_law_turning {K : PySem.W.Frag} {vs : List V} {H : Hp} {Q : VK} {E : XK} {W : WX} (h : sp_law_turning K vs H Q E) : t_law_turning K W { nx := fun _ H' => Q .non H', rt := Q } (start N_law_turning vs) H := by
  obtain ⟨x, rfl, p, ns, rfl, hp, hl, hn, hd, hq⟩ := h
  show t_law_turning K W _ [some (.ref p), none, none] H
  unfold t_law_turning
  walk_at "ss"
  refine turning_new (zs := []) (Nat.zero_le _) (fun z h => by cases h) fun H1 t1 s1 hn1 hT1 => ?_
  walk_at "ss"
  refine s_cut (fun σ' H' => Same H H' ∧ ∃ t u, σ' = [some (.ref p), some (.ref t), u] ∧ H t = none ∧ IsTu K H' t (srt ns)) ?_ ?_
  · walk_at "ss"
    refine forb_list (xs := ns.map V.str) (fun i σ' H' => Same H H' ∧ ∃ t u, σ' = [some (.ref p), some (.ref t), u] ∧ H t = none ∧ IsTu K H' t (srt (ns.take i))) ⟨s1, t1, _, rfl, hn1, hT1⟩ ?_ ?_ ?_
    · rintro i σ' H' hi ⟨s2, _⟩
      exact SqL.of (s2 _ _ hp)
    · rintro i y σ' H' hi ⟨s2, t, u, rfl, hnt, hT⟩
      obtain ⟨z, hj, rfl⟩ := at_strs hi
      have hzn := hn z (List.mem_of_getElem? hj)
      have hlt : i < ns.length := (List.getElem?_eq_some_iff.mp hj).1
      have hnot : z ∉ ns.take i := by
        have h1 : (ns.take (i + 1)).Nodup := hd.sublist (List.take_sublist _ _)
        rw [take_more hj] at h1
        have := (List.nodup_append.mp h1).2.2
        exact fun h => this z h z List.mem_cons_self rfl
      have htk : ∀ x ∈ ns.take i, isNm x = true := fun x hx => hn x (List.mem_of_mem_take hx)
      walk_at "ss"
      refine turning_new (zs := [z]) (by show 1 ≤ 12; decide) (fun x h => by rw [List.mem_singleton.mp h]; exact hzn) fun H2 t2 s3 hn2 hT2 => ?_
      obtain ⟨dt, qt, a1, a2⟩ := id hT
      obtain ⟨dt2, qt2, c1, c2⟩ := id hT2
      refine .inr ⟨0, _, _, t, t2, dt, dt2, _, _, rfl, rfl, rfl, s3 _ _ a1, c1, ?_⟩
      have e : srt (apartS (srt (ns.take i)) (srt [z])) = srt (ns.take (i + 1)) := srt_congr fun x => by
        rw [mem_apartS, mem_srt, mem_srt, take_more hj, List.mem_append]
        constructor
        · rintro (⟨h, _⟩ | ⟨h, _⟩)
          · exact .inl h
          · exact .inr h
        · rintro (h | h)
          · refine .inl ⟨h, fun h2 => ?_⟩
            rw [List.mem_singleton.mp h2] at h
            exact hnot h
          · refine .inr ⟨h, fun h2 => ?_⟩
            rw [List.mem_singleton.mp h] at h2
            exact hnot h2
      have hl1 := srt_len (ns.take i)
      rw [List.length_take] at hl1
      have hl2 := srt_len (ns.take (i + 1))
      rw [List.length_take] at hl2
      refine ⟨_, _, rfl, t, t2, _, _, rfl, rfl, hT.keep s3, hT2, Tn.of htk (by omega), Tn.of (zs := [z]) (fun x h => by rw [List.mem_singleton.mp h]; exact hzn) (by show 1 ≤ 12; decide), ?_⟩
      rw [e]
      refine MkT.fine (by omega) fun H3 t3 s4 hn3 hT3 => ?_
      walk_at "ss"
      exact ⟨(s2.trans s3).trans s4, t3, _, rfl, same_un (s2.trans s3) hn3, hT3⟩
    · rintro σ' H' ⟨s2, t, u, rfl, hnt, hT⟩
      rw [List.length_map, List.take_length] at hT
      exact ⟨s2, t, u, rfl, hnt, hT⟩
  · rintro σ' H' ⟨s2, t, u, rfl, hnt, hT⟩
    walk_at "ss"
    exact hq H' t s2 hnt hT
def sp_law_three (K : PySem.W.Frag) : Sp := Sp2 fun x y H Q _ => ∃ (a p : Addr) (nm : List Str), x = .ref a ∧ y = .ref p ∧ Src H a ∧ p ≠ a ∧ H p = some (.lst (nm.map V.str)) ∧ nm.length = 24 ∧ (∀ z ∈ nm, isNm z = true) ∧ nm.Nodup ∧ ∀ H' r rs zss, Src H' a → Mov a H H' → Rows3 H' r rs zss → Q (.ref r) H'
def N_law_three : List PySem.Str := ["_law_source_here", "_law_names_here", "_law_first", "_law_second", "_law_third", "_law_k", "_law_style", "_law_pick"]
def t_law_three (K : PySem.W.Frag) (W : WX) : TS := (tSeq (tAsg (tLst tNil) (gName 2))
    (tSeq (tAsg (tLst tNil) (gName 3))
    (tSeq (tAsg (tLst tNil) (gName 4))
    (tCut (tFor (iRng1 (tCons (tCallS (sp_law_take K) (WE W) (tCons (tVar 0) (tCons (tC (.int 9)) tNil))) tNil)) (gName 5) (tSeq (tAsg (tCallS (sp_law_take K) (WE W) (tCons (tVar 0) (tCons (tC (.int 8)) tNil))) (gName 7))
    (tCut (tIfS (tTest (tOp (rEqP K) (tOp rModP (tCB rIntP (tCons (tVar 7) tNil)) (tC (.int 2))) (tC (.int 1)))) (tDrop (tBM K "list" rAppend (tVar 2) (tCons (tOp (rIxP K) (tVar 1) (tVar 5)) tNil))) tNext)
    (tCut (tIfS (tTest (tOp (rEqP K) (tOp rFdivP (tVar 7) (tC (.int 4))) (tC (.int 1)))) (tDrop (tBM K "list" rAppend (tVar 3) (tCons (tOp (rIxP K) (tVar 1) (tVar 5)) tNil))) tNext)
    (tIfS (tTest (tOp (rInP K false) (tVar 7) (tLst (tCons (tC (.int 2)) (tCons (tC (.int 3)) (tCons (tC (.int 6)) (tCons (tC (.int 7)) tNil))))))) (tDrop (tBM K "list" rAppend (tVar 4) (tCons (tOp (rIxP K) (tVar 1) (tVar 5)) tNil))) tNext)))))
    (tSeq (tAsg (tCallS (sp_law_take K) (WE W) (tCons (tVar 0) (tCons (tC (.int 4)) tNil))) (gName 6))
    (tCut (tIfS (tTest (tOp (rEqP K) (tVar 6) (tC (.int 1)))) (tAsg (tRevL K (tVar 2)) (gName 3)) tNext)
    (tCut (tIfS (tTest (tOp (rEqP K) (tVar 6) (tC (.int 2)))) (tAsg (tSl (rSlP K) (tVar 3) tNoPart (tPart (tCallS (sp_law_take K) (WE W) (tCons (tVar 0) (tCons (tOp (rAddP K) (tCB (rLenP K) (tCons (tVar 3) tNil)) (tC (.int 1))) tNil))))) (gName 4)) tNext)
    (tRet (tLst (tCons (tVar 2) (tCons (tVar 3) (tCons (tVar 4) tNil))))))))))))
theorem pure_law_three {K : PySem.W.Frag} {vs : List V} {H : Hp} {Q : VK} {E : XK} {W : WX} (hh : sp_law_three K vs H Q E) : t_law_three K W { nx := fun _ H' => Q .non H', rt := Q } (start N_law_three vs) H := by
  obtain ⟨x, y, rfl, a, p, nm, rfl, rfl, hS, hpa, hp, hl, hnm, hnd, hq⟩ := hh
  show t_law_three K W _ [some (.ref a), some (.ref p), none, none, none, none, none, none] H
  unfold t_law_three
  walk_at "ss"
  refine ⟨Nat.zero_le _, fun f hf0 => ?_⟩
  have hfa := hS.ne hf0
  have S1 := hS.keep (same_new (o := HO.lst []) hf0)
  walk_at "ss"
  refine ⟨Nat.zero_le _, fun g hg0 => ?_⟩
  have hga := S1.ne hg0
  have hgf : g ≠ f := fun e => by rw [e, upd_same] at hg0; cases hg0
  have hgn : H g = none := by rw [upd_ne hgf] at hg0; exact hg0
  have S2 := S1.keep (same_new (o := HO.lst []) hg0)
  walk_at "ss"
  refine ⟨Nat.zero_le _, fun h hh0 => ?_⟩
  have hha := S2.ne hh0
  have hhg : h ≠ g := fun e => by rw [e, upd_same] at hh0; cases hh0
  have hhf : h ≠ f := fun e => by rw [upd_ne hhg, e, upd_same] at hh0; cases hh0
  have hhn : H h = none := by rw [upd_ne hhg, upd_ne hhf] at hh0; exact hh0
  have S3 := S2.keep (same_new (o := HO.lst []) hh0)
  have B3 : Mov a H (upd (upd (upd H f (.lst [])) g (.lst [])) h (.lst [])) := ((Mov.of_same (same_new hf0)).trans (Mov.of_same (same_new hg0))).trans (Mov.of_same (same_new hh0))
  have hf3 : (upd (upd (upd H f (.lst [])) g (.lst [])) h (.lst [])) f = some (.lst (([] : List Str).map V.str)) := by rw [upd_ne hhf.symm, upd_ne hgf.symm, upd_same]; rfl
  have hg3 : (upd (upd (upd H f (.lst [])) g (.lst [])) h (.lst [])) g = some (.lst (([] : List Str).map V.str)) := by rw [upd_ne hhg.symm, upd_same]; rfl
  have hh3 : (upd (upd (upd H f (.lst [])) g (.lst [])) h (.lst [])) h = some (.lst (([] : List Str).map V.str)) := by rw [upd_same]; rfl
  generalize upd (upd (upd H f (HO.lst [])) g (HO.lst [])) h (HO.lst []) = H3 at S3 B3 hf3 hg3 hh3
  walk_at "ss"
  refine s_cut (fun σ' H' => ∃ v w, σ' = [some (.ref a), some (.ref p), some (.ref f), some (.ref g), some (.ref h), v, none, w] ∧ Src H' a ∧ Mov a H H' ∧ ∃ fs gs hs : List Str, H' f = some (.lst (fs.map V.str)) ∧ H' g = some (.lst (gs.map V.str)) ∧ H' h = some (.lst (hs.map V.str)) ∧ fs.Sublist (nm.take 8) ∧ gs.Sublist (nm.take 8) ∧ hs.Sublist (nm.take 8)) ?_ ?_
  · walk_at "ss"
    refine take_ok S3 (by decide) (by decide) fun H4 m S4 b4 m0 m1 => ?_
    walk_at "ss"
    refine forr_inv (by omega) (by omega) (fun i σ' H' => i ≤ 8 ∧ ∃ v w, σ' = [some (.ref a), some (.ref p), some (.ref f), some (.ref g), some (.ref h), v, none, w] ∧ Src H' a ∧ Mov a H H' ∧ ∃ fs gs hs : List Str, H' f = some (.lst (fs.map V.str)) ∧ H' g = some (.lst (gs.map V.str)) ∧ H' h = some (.lst (hs.map V.str)) ∧ fs.Sublist (nm.take i) ∧ gs.Sublist (nm.take i) ∧ hs.Sublist (nm.take i))
      ⟨Nat.zero_le _, _, _, rfl, S4, B3.trans b4, [], [], [], b4 _ _ hf3 hfa, b4 _ _ hg3 hga, b4 _ _ hh3 hha, List.nil_sublist _, List.nil_sublist _, List.nil_sublist _⟩ ?_ ?_
    · rintro i σ' H' hi ⟨hi8, v, w, rfl, S5, B5, fs, gs, hs, hf5, hg5, hh5, sf, sg, sh⟩
      obtain ⟨n, hni, hna, _⟩ := at_strN (l := nm) (i := (i : Int)) (by omega) (by omega)
      have hni : nm[i]? = some n := by simpa using hni
      have more : ∀ l : List Str, l.Sublist (nm.take i) → l.Sublist (nm.take (i + 1)) := fun l h => by rw [take_more hni]; exact h.trans (List.sublist_append_left _ _)
      have more1 : ∀ l : List Str, l.Sublist (nm.take i) → (l ++ [n]).Sublist (nm.take (i + 1)) := fun l h => by rw [take_more hni]; exact h.append (List.Sublist.refl _)
      have small : ∀ l : List Str, l.Sublist (nm.take i) → l.length ≤ 1000 := fun l h => by have := h.length_le; rw [List.length_take] at this; omega
      walk_at "ss"
      refine take_ok S5 (by decide) (by decide) fun H6 r S6 b6 r0 r1 => ?_
      have B6 := B5.trans b6
      have hf6 := b6 _ _ hf5 hfa
      have hg6 := b6 _ _ hg5 hga
      have hh6 := b6 _ _ hh5 hha
      walk_at "ss"
      refine s_cut (fun σ2 H7 => σ2 = [some (.ref a), some (.ref p), some (.ref f), some (.ref g), some (.ref h), some (.int (i : Int)), none, some (.int r)] ∧ Src H7 a ∧ Mov a H H7 ∧ H7 g = some (.lst (gs.map V.str)) ∧ H7 h = some (.lst (hs.map V.str)) ∧ ∃ fs : List Str, H7 f = some (.lst (fs.map V.str)) ∧ fs.Sublist (nm.take (i + 1))) ?_ ?_
      · walk_at "ss"
        refine s_in2 (by decide) ?_
        walk_at "ss"
        refine s_itd (fun _ => ?_) (fun _ => ?_)
        · walk_at "ss"
          refine s_tyL hf6 ?_
          walk_at "ss"
          refine s_ixL (B6 _ _ hp hpa) hna ?_
          walk_at "ss"
          refine s_app hf6 (by rw [List.length_map]; have := small fs sf; omega) ?_
          exact ⟨rfl, hS.off hf0 B6 S6, Mov.put hS hf0 B6, by rw [upd_ne hgf]; exact hg6, by rw [upd_ne hhf]; exact hh6, fs ++ [n], by rw [upd_same, map_snoc], more1 fs sf⟩
        · walk_at "ss"
          exact ⟨rfl, S6, B6, hg6, hh6, fs, hf6, more fs sf⟩
      rintro σ2 H7 ⟨rfl, S7, B7, hg7, hh7, fs7, hf7, sf7⟩
      refine s_cut (fun σ2 H8 => σ2 = [some (.ref a), some (.ref p), some (.ref f), some (.ref g), some (.ref h), some (.int (i : Int)), none, some (.int r)] ∧ Src H8 a ∧ Mov a H H8 ∧ H8 f = some (.lst (fs7.map V.str)) ∧ H8 h = some (.lst (hs.map V.str)) ∧ ∃ gs : List Str, H8 g = some (.lst (gs.map V.str)) ∧ gs.Sublist (nm.take (i + 1))) ?_ ?_
      · walk_at "ss"
        refine s_in2 ⟨by decide, by decide⟩ ?_
        walk_at "ss"
        refine s_itd (fun _ => ?_) (fun _ => ?_)
        · walk_at "ss"
          refine s_tyL hg7 ?_
          walk_at "ss"
          refine s_ixL (B7 _ _ hp hpa) hna ?_
          walk_at "ss"
          refine s_app hg7 (by rw [List.length_map]; have := small gs sg; omega) ?_
          exact ⟨rfl, hS.off hgn B7 S7, Mov.put hS hgn B7, by rw [upd_ne hgf.symm]; exact hf7, by rw [upd_ne hhg]; exact hh7, gs ++ [n], by rw [upd_same, map_snoc], more1 gs sg⟩
        · walk_at "ss"
          exact ⟨rfl, S7, B7, hf7, hh7, gs, hg7, more gs sg⟩
      rintro σ2 H8 ⟨rfl, S8, B8, hf8, hh8, gs8, hg8, sg8⟩
      walk_at "ss"
      refine ⟨len4, fun o ho => ?_⟩
      have so := same_new (o := HO.lst [V.int 2, V.int 3, V.int 6, V.int 7]) ho
      have S9 := S8.keep so
      have B9 := B8.trans (Mov.of_same so)
      have hf9 := so _ _ hf8
      have hg9 := so _ _ hg8
      have hh9 := so _ _ hh8
      refine s_inL upd_same rfl rfl ?_
      walk_at "ss"
      refine s_ite (fun _ => ?_) (fun _ => ?_)
      · walk_at "ss"
        refine s_tyL hh9 ?_
        walk_at "ss"
        refine s_ixL (B9 _ _ hp hpa) hna ?_
        walk_at "ss"
        refine s_app hh9 (by rw [List.length_map]; have := small hs sh; omega) ?_
        exact ⟨by omega, _, _, rfl, hS.off hhn B9 S9, Mov.put hS hhn B9, fs7, gs8, hs ++ [n], by rw [upd_ne hhf.symm]; exact hf9, by rw [upd_ne hhg.symm]; exact hg9, by rw [upd_same, map_snoc], sf7, sg8, more1 hs sh⟩
      · walk_at "ss"
        exact ⟨by omega, _, _, rfl, S9, B9, fs7, gs8, hs, hf9, hg9, hh9, sf7, sg8, more hs sh⟩
    · rintro σ' H' ⟨hi8, v, w, rfl, S5, B5, fs, gs, hs, hf5, hg5, hh5, sf, sg, sh⟩
      have up : (nm.take m.toNat).Sublist (nm.take 8) := by
        rw [show nm.take m.toNat = (nm.take 8).take m.toNat by rw [List.take_take, Nat.min_eq_left (by omega)]]
        exact List.take_sublist _ _
      exact ⟨v, w, rfl, S5, B5, fs, gs, hs, hf5, hg5, hh5, sf.trans up, sg.trans up, sh.trans up⟩
  rintro σ' H5 ⟨v, w, rfl, S5, B5, fs, gs, hs, hf5, hg5, hh5, sf, sg, sh⟩
  have nms : ∀ l : List Str, l.Sublist (nm.take 8) → Nms l := fun l h => Nms.sub hnm hnd (h.trans (List.take_sublist _ _)) (by have := h.length_le; rw [List.length_take] at this; omega)
  have Nf := nms fs sf
  have Ng := nms gs sg
  have Nh := nms hs sh
  walk_at "ss"
  refine take_ok S5 (by decide) (by decide) fun H6 style S6 b6 t0 t1 => ?_
  have B6 := B5.trans b6
  have hf6 := b6 _ _ hf5 hfa
  have hg6 := b6 _ _ hg5 hga
  have hh6 := b6 _ _ hh5 hha
  walk_at "ss"
  refine s_cut (fun σ' H' => ∃ g' gs', σ' = [some (.ref a), some (.ref p), some (.ref f), some (.ref g'), some (.ref h), v, some (.int style), w] ∧ Src H' a ∧ Mov a H H' ∧ g' ≠ a ∧ H' f = some (.lst (fs.map V.str)) ∧ H' g' = some (.lst (gs'.map V.str)) ∧ H' h = some (.lst (hs.map V.str)) ∧ Nms gs') ?_ ?_
  · walk_at "ss"
    refine s_itd (fun _ => ?_) (fun _ => ?_)
    · walk_at "ss"
      refine ⟨_, rfl, f, _, rfl, SqL.of hf6, fun l hl0 => ?_⟩
      have sl := same_new (o := HO.lst (fs.map V.str).reverse) hl0
      exact ⟨l, fs.reverse, rfl, S6.keep sl, B6.trans (Mov.of_same sl), S6.ne hl0, sl _ _ hf6, by rw [upd_same, List.map_reverse], sl _ _ hh6, Nf.rev⟩
    · walk_at "ss"
      exact ⟨g, gs, rfl, S6, B6, hga, hf6, hg6, hh6, Ng⟩
  rintro σ' H7 ⟨g', gs', rfl, S7, B7, hga', hf7, hg7, hh7, Ng'⟩
  have lg' := Ng'.len
  refine s_cut (fun σ' H' => ∃ h' hs', σ' = [some (.ref a), some (.ref p), some (.ref f), some (.ref g'), some (.ref h'), v, some (.int style), w] ∧ Src H' a ∧ Mov a H H' ∧ H' f = some (.lst (fs.map V.str)) ∧ H' g' = some (.lst (gs'.map V.str)) ∧ H' h' = some (.lst (hs'.map V.str)) ∧ Nms hs') ?_ ?_
  · walk_at "ss"
    refine s_itd (fun _ => ?_) (fun _ => ?_)
    · walk_at "ss"
      refine s_lenL hg7 ?_
      walk_at "ss"
      rw [List.length_map]
      refine take_ok S7 (by omega) (by omega) fun H8 k S8 b8 k0 k1 => ?_
      walk_at "ss"
      refine s_toL (b8 _ _ hg7 hga') k0 fun l H9 s9 hl9 h9 => ?_
      walk_at "ss"
      exact ⟨l, _, rfl, S8.keep s9, (B7.trans b8).trans (Mov.of_same s9), s9 _ _ (b8 _ _ hf7 hfa), s9 _ _ (b8 _ _ hg7 hga'), h9, ⟨by rw [List.length_take]; omega, fun z hz => Ng'.nm z (List.mem_of_mem_take hz), Ng'.nd.sublist (List.take_sublist _ _)⟩⟩
    · walk_at "ss"
      exact ⟨h, hs, rfl, S7, B7, hf7, hg7, hh7, Nh⟩
  rintro σ' H8 ⟨h', hs', rfl, S8, B8, hf8, hg8, hh8, Nh'⟩
  walk_at "ss"
  refine ⟨len3, fun r hr => ?_⟩
  have s9 := same_new (o := HO.lst [.ref f, .ref g', .ref h']) hr
  exact hq _ r _ _ (S8.keep s9) (B8.trans (Mov.of_same s9)) (Rows3.of upd_same (s9 _ _ hf8) (s9 _ _ hg8) (s9 _ _ hh8) Nf Ng' Nh')
def sp_law_large (K : PySem.W.Frag) : Sp := Sp2 fun x y H Q _ => ∃ (a p : Addr) (nm : List Str), x = .ref a ∧ y = .ref p ∧ Src H a ∧ p ≠ a ∧ H p = some (.lst (nm.map V.str)) ∧ nm.length = 24 ∧ (∀ z ∈ nm, isNm z = true) ∧ nm.Nodup ∧ ∀ H' r rs zss, Src H' a → Mov a H H' → Rows3 H' r rs zss → Q (.ref r) H'
def N_law_large : List PySem.Str := ["_law_source_here", "_law_names_here", "_law_here", "_law_there", "_law_end"]
def t_law_large (K : PySem.W.Frag) (W : WX) : TS := (tSeq (tAsg (tOp (rAddP K) (tC (.int 4)) (tCallS (sp_law_take K) (WE W) (tCons (tVar 0) (tCons (tC (.int 3)) tNil)))) (gName 2))
    (tSeq (tAsg (tOp (rAddP K) (tOp (rAddP K) (tVar 2) (tC (.int 4))) (tCallS (sp_law_take K) (WE W) (tCons (tVar 0) (tCons (tC (.int 3)) tNil)))) (gName 3))
    (tSeq (tAsg (tOp (rAddP K) (tOp (rAddP K) (tVar 3) (tC (.int 4))) (tCallS (sp_law_take K) (WE W) (tCons (tVar 0) (tCons (tC (.int 3)) tNil)))) (gName 4))
    (tRet (tLst (tCons (tSl (rSlP K) (tVar 1) tNoPart (tPart (tVar 3))) (tCons (tSl (rSlP K) (tVar 1) (tPart (tVar 2)) (tPart (tVar 4))) (tCons (tOp (rAddP K) (tSl (rSlP K) (tVar 1) tNoPart (tPart (tVar 2))) (tSl (rSlP K) (tVar 1) (tPart (tVar 3)) (tPart (tVar 4)))) tNil))))))))
theorem pure_law_large {K : PySem.W.Frag} {vs : List V} {H : Hp} {Q : VK} {E : XK} {W : WX} (h : sp_law_large K vs H Q E) : t_law_large K W { nx := fun _ H' => Q .non H', rt := Q } (start N_law_large vs) H := by
  obtain ⟨x, y, rfl, a, p, nm, rfl, rfl, hS, hpa, hp, hl, hnm, hnd, hq⟩ := h
  show t_law_large K W _ [some (.ref a), some (.ref p), none, none, none] H
  unfold t_law_large
  walk_at "ss"
  refine take_ok hS (by decide) (by decide) fun H1 i S1 b1 i0 i1 => ?_
  walk_at "ss"
  refine take_ok S1 (by decide) (by decide) fun H2 j S2 b2 j0 j1 => ?_
  walk_at "ss"
  refine take_ok S2 (by decide) (by decide) fun H3 k S3 b3 k0 k1 => ?_
  have B3 := (b1.trans b2).trans b3
  have hp3 := B3 _ _ hp hpa
  walk_at "ss"
  refine s_toL hp3 (by omega) fun q0 H4 s4 _ h4 => ?_
  walk_at "ss"
  refine s_midL (s4 _ _ hp3) (by omega) (by omega) fun q1 H5 s5 _ h5 => ?_
  have S5 := s4.trans s5
  walk_at "ss"
  refine s_toL (S5 _ _ hp3) (by omega) fun g6 H6 s6 _ h6 => ?_
  walk_at "ss"
  refine s_midL ((S5.trans s6) _ _ hp3) (by omega) (by omega) fun g7 H7 s7 _ h7 => ?_
  refine s_catS (s7 _ _ h6) h7 (by rw [List.length_take, List.length_take, List.length_drop]; omega) fun q2 H8 s8 _ h8 => ?_
  have S8 := ((S5.trans s6).trans s7).trans s8
  walk_at "ss"
  refine ⟨len3, fun r hr => ?_⟩
  have s9 := same_new (o := HO.lst [.ref q0, .ref q1, .ref q2]) hr
  have S9 := S8.trans s9
  refine hq _ r _ _ (S3.keep S9) (B3.trans (Mov.of_same S9)) (Rows3.of upd_same ((((s5.trans s6).trans s7).trans s8).trans s9 _ _ h4) (((s6.trans s7).trans s8).trans s9 _ _ h5) (s9 _ _ h8) ?_ ?_ ?_)
  · exact Nms.sub hnm hnd (List.take_sublist _ _) (by rw [List.length_take]; omega)
  · exact Nms.sub hnm hnd ((List.take_sublist _ _).trans (List.drop_sublist _ _)) (by rw [List.length_take, List.length_drop]; omega)
  · refine Nms.sub hnm hnd ?_ (by rw [List.length_append, List.length_take, List.length_take, List.length_drop]; omega)
    have h1 : (nm.take (4 + i).toNat ++ nm.drop (4 + i).toNat).Sublist nm := by rw [List.take_append_drop]; exact List.Sublist.refl _
    refine (List.Sublist.append (List.Sublist.refl _) ((List.take_sublist _ _).trans (List.drop_sublist_drop_left nm ?_))).trans h1
    omega
def sp_law_wide (K : PySem.W.Frag) : Sp := Sp2 fun x y H Q _ => ∃ (a p : Addr) (nm : List Str), x = .ref a ∧ y = .ref p ∧ Src H a ∧ p ≠ a ∧ H p = some (.lst (nm.map V.str)) ∧ nm.length = 24 ∧ (∀ z ∈ nm, isNm z = true) ∧ nm.Nodup ∧ ∀ H' r rs zss, Src H' a → Mov a H H' → Rows3 H' r rs zss → Q (.ref r) H'
def N_law_wide : List PySem.Str := ["_law_source_here", "_law_names_here", "_law_here", "_law_there"]
def t_law_wide (K : PySem.W.Frag) (W : WX) : TS := (tSeq (tAsg (tOp (rAddP K) (tC (.int 7)) (tCallS (sp_law_take K) (WE W) (tCons (tVar 0) (tCons (tC (.int 6)) tNil)))) (gName 2))
    (tSeq (tAsg (tCallS (sp_law_take K) (WE W) (tCons (tVar 0) (tCons (tC (.int 7)) tNil))) (gName 3))
    (tRet (tLst (tCons (tSl (rSlP K) (tVar 1) tNoPart (tPart (tVar 2))) (tCons (tSl (rSlP K) (tVar 1) (tPart (tC (.int 12))) (tPart (tOp (rAddP K) (tC (.int 12)) (tVar 2)))) (tCons (tSl (rSlP K) (tVar 1) (tPart (tOp (rAddP K) (tVar 3) (tC (.int 6)))) (tPart (tOp (rAddP K) (tVar 3) (tC (.int 18))))) tNil)))))))
theorem pure_law_wide {K : PySem.W.Frag} {vs : List V} {H : Hp} {Q : VK} {E : XK} {W : WX} (h : sp_law_wide K vs H Q E) : t_law_wide K W { nx := fun _ H' => Q .non H', rt := Q } (start N_law_wide vs) H := by
  obtain ⟨x, y, rfl, a, p, nm, rfl, rfl, hS, hpa, hp, hl, hnm, hnd, hq⟩ := h
  show t_law_wide K W _ [some (.ref a), some (.ref p), none, none] H
  unfold t_law_wide
  walk_at "ss"
  refine take_ok hS (by decide) (by decide) fun H1 i S1 b1 i0 i1 => ?_
  walk_at "ss"
  refine take_ok S1 (by decide) (by decide) fun H2 j S2 b2 j0 j1 => ?_
  have B3 := b1.trans b2
  have hp3 := B3 _ _ hp hpa
  walk_at "ss"
  refine s_toL hp3 (by omega) fun q0 H4 s4 _ h4 => ?_
  walk_at "ss"
  refine s_midL (s4 _ _ hp3) (by omega) (by omega) fun q1 H5 s5 _ h5 => ?_
  have S5 := s4.trans s5
  walk_at "ss"
  refine s_midL (S5 _ _ hp3) (by omega) (by omega) fun q2 H6 s6 _ h6 => ?_
  have S6 := S5.trans s6
  walk_at "ss"
  refine ⟨len3, fun r hr => ?_⟩
  have s9 := same_new (o := HO.lst [.ref q0, .ref q1, .ref q2]) hr
  have S9 := S6.trans s9
  refine hq _ r _ _ (S2.keep S9) (B3.trans (Mov.of_same S9)) (Rows3.of upd_same (((s5.trans s6).trans s9) _ _ h4) ((s6.trans s9) _ _ h5) (s9 _ _ h6) ?_ ?_ ?_)
  · exact Nms.sub hnm hnd (List.take_sublist _ _) (by rw [List.length_take]; omega)
  · exact Nms.sub hnm hnd ((List.take_sublist _ _).trans (List.drop_sublist _ _)) (by rw [List.length_take, List.length_drop]; omega)
  · exact Nms.sub hnm hnd ((List.take_sublist _ _).trans (List.drop_sublist _ _)) (by rw [List.length_take, List.length_drop]; omega)
def sp_law_before (K : PySem.W.Frag) : Sp := Sp2 fun x y H Q _ => ∃ (p q : Addr) (zs ys : List Str), x = .ref p ∧ y = .ref q ∧ H p = some (.lst (zs.map V.str)) ∧ H q = some (.lst (ys.map V.str)) ∧ zs.length ≤ 20 ∧ ys.length ≤ 20 ∧ ∀ H', Same H H' → Q (.bl (befB zs ys)) H'
def N_law_before : List PySem.Str := ["_law_one", "_law_other", "_law_name"]
def t_law_before (K : PySem.W.Frag) (W : WX) : TS := (tCut (tFor (iAnyP K (tCallS (sp_law_sorted K) (WE W) (tCons (tOp (rAddP K) (tVar 0) (tVar 1)) tNil))) (gName 2) (tIfS (tTest (tOp (rNeP K) (tOp (rInP K false) (tVar 2) (tVar 0)) (tOp (rInP K false) (tVar 2) (tVar 1)))) (tRet (tOp (rInP K false) (tVar 2) (tVar 1))) tNext))
    (tRet (tC (.bl false))))
theorem bef_find (zs ys : List Str) : (srt (apartS zs ys)).head? = (srt (zs ++ ys)).find? fun z => !decide (decide (z ∈ zs) = decide (z ∈ ys)) := by
  rw [← List.head?_filter, srt_filter]
  congr 1
  refine srt_congr fun x => ?_
  rw [mem_apartS, List.mem_filter, List.mem_append]
  by_cases h1 : x ∈ zs <;> by_cases h2 : x ∈ ys <;> simp [h1, h2]
theorem pure_law_before {K : PySem.W.Frag} {vs : List V} {H : Hp} {Q : VK} {E : XK} {W : WX} (h : sp_law_before K vs H Q E) : t_law_before K W { nx := fun _ H' => Q .non H', rt := Q } (start N_law_before vs) H := by
  obtain ⟨x, y, rfl, p, q, zs, ys, rfl, rfl, hp, hy, l1, l2, hq⟩ := h
  show t_law_before K W _ [some (.ref p), some (.ref q), none] H
  unfold t_law_before
  have hf := bef_find zs ys
  refine s_cut (fun σ' H' => Same H H' ∧ befB zs ys = false) ?_ ?_
  · walk_at "ss"
    refine s_catS hp hy (by omega) fun r1 H1 s1 _ h1 => ?_
    walk_at "ss"
    refine ⟨_, rfl, r1, zs ++ ys, rfl, h1, by rw [List.length_append]; omega, fun H2 r2 s2 _ h2 => ?_⟩
    have S2 := s1.trans s2
    refine forb_list (xs := (srt (zs ++ ys)).map V.str) (fun i σ' H' => H' = H2 ∧ (∃ u, σ' = [some (.ref p), some (.ref q), u]) ∧ ∀ z ∈ (srt (zs ++ ys)).take i, (!decide (decide (z ∈ zs) = decide (z ∈ ys))) = false) ⟨rfl, ⟨_, rfl⟩, by simp⟩ ?_ ?_ ?_
    · rintro i σ' H' hi ⟨rfl, _⟩
      exact SqL.of h2
    · rintro i y σ' H' hi ⟨rfl, ⟨u, rfl⟩, ha⟩
      obtain ⟨z, hj, rfl⟩ := at_strs hi
      walk_at "ss"
      refine s_inSL (S2 _ _ hp) ?_
      walk_at "ss"
      refine s_inSL (S2 _ _ hy) ?_
      refine s_neB ⟨_, rfl, ?_⟩
      refine s_ite (fun e => ?_) (fun e => ?_)
      · walk_at "ss"
        refine s_inSL (S2 _ _ hy) ?_
        have := hq H' S2
        unfold befB at this
        rw [hf, find_at (p := fun z => !decide (decide (z ∈ zs) = decide (z ∈ ys))) e hj ha] at this
        exact this
      · walk_at "ss"
        exact ⟨rfl, ⟨_, rfl⟩, take_all hj ha e⟩
    · rintro σ' H' ⟨rfl, _, ha⟩
      rw [List.length_map, List.take_length] at ha
      refine ⟨S2, ?_⟩
      unfold befB
      rw [hf, find_no ha]
  rintro σ' H' ⟨s1, e⟩
  walk_at "ss"
  rw [← e]
  exact hq H' s1
def sp_law_compared (K : PySem.W.Frag) : Sp := Sp4 fun x y u w H Q _ => ∃ (c d p r : Addr) (zs ys : List Str), x = .ref c ∧ y = .ref d ∧ u = .ref p ∧ w = .ref r ∧ IsTu K H c (srt zs) ∧ IsTu K H d (srt ys) ∧ H p = some (.lst (zs.map V.str)) ∧ H r = some (.lst (ys.map V.str)) ∧ Nms zs ∧ Nms ys ∧ ∀ H', Same H H' → Q (.bl true) H'
def N_law_compared : List PySem.Str := ["_law_s", "_law_t", "_law_one", "_law_other", "_law_equal", "_law_below", "_law_above", "_law_told"]
def t_law_compared (K : PySem.W.Frag) (W : WX) : TS := (tSeq (tAsg (Cl.tOpS (Cl.rOwn2 [(ga K "Clause", sp_Clause_eq K), (ga K "Turning", sp_Turning_eq K)] (WE W) (rEqP K)) (tCallS (sp_law_sorted K) (WE W) (tCons (tVar 2) tNil)) (tCallS (sp_law_sorted K) (WE W) (tCons (tVar 3) tNil))) (gName 4))
    (tSeq (tAsg (tCallS (sp_law_before K) (WE W) (tCons (tVar 2) (tCons (tVar 3) tNil))) (gName 5))
    (tSeq (tAsg (tCallS (sp_law_before K) (WE W) (tCons (tVar 3) (tCons (tVar 2) tNil))) (gName 6))
    (tSeq (tAsg (tLst (tCons (Cl.tOpS (Cl.rOwn2 [(ga K "Clause", sp_Clause_eq K), (ga K "Turning", sp_Turning_eq K)] (WE W) (rEqP K)) (tVar 0) (tVar 1)) (tCons (Cl.tOpS (Cl.rOwn2 [(ga K "Clause", sp_Clause_lt K), (ga K "Turning", sp_Turning_lt K)] (WE W) rLtP) (tVar 0) (tVar 1)) (tCons (Cl.tOpS (Cl.rOwn2 [(ga K "Clause", sp_Clause_le K), (ga K "Turning", sp_Turning_le K)] (WE W) rLeP) (tVar 0) (tVar 1)) (tCons (Cl.tOpS (Cl.rOwn2 [(ga K "Turning", sp_Turning_gt K)] (WE W) rGtP) (tVar 0) (tVar 1)) (tCons (Cl.tOpS (Cl.rOwn2 [(ga K "Turning", sp_Turning_ge K)] (WE W) rGeP) (tVar 0) (tVar 1)) tNil)))))) (gName 7))
    (tRet (tCallS (sp_law_same K) (WE W) (tCons (tVar 7) (tCons (tLst (tCons (tVar 4) (tCons (tVar 5) (tCons (tOrV (tVar 5) (tVar 4)) (tCons (tVar 6) (tCons (tOrV (tVar 6) (tVar 4)) tNil)))))) tNil))))))))
theorem pure_law_compared {K : PySem.W.Frag} {vs : List V} {H : Hp} {Q : VK} {E : XK} {W : WX} (h : sp_law_compared K vs H Q E) : t_law_compared K W { nx := fun _ H' => Q .non H', rt := Q } (start N_law_compared vs) H := by
  obtain ⟨x, y, u, w, rfl, c, d, p, r, zs, ys, rfl, rfl, rfl, rfl, hC, hD, hp, hr, R1, R2, hq⟩ := h
  show t_law_compared K W _ [some (.ref c), some (.ref d), some (.ref p), some (.ref r), none, none, none, none] H
  unfold t_law_compared
  have l1 := R1.len
  have l2 := R2.len
  have T1 := R1.tn
  have T2 := R2.tn
  obtain ⟨dC, qC, C1, C2⟩ := id hC
  obtain ⟨dD, qD, D1, D2⟩ := id hD
  walk_at "ss"
  refine ⟨_, rfl, p, zs, rfl, hp, by omega, fun H1 o1 s1 _ h1 => ?_⟩
  walk_at "ss"
  refine ⟨_, rfl, r, ys, rfl, s1 _ _ hr, by omega, fun H2 o2 s2 _ h2 => ?_⟩
  have S2 := s1.trans s2
  refine .inl ⟨_, _, lst_data (s2 _ _ h1), lst_data h2, shaped_lst _ fun z h => nm_ok (T1.nm z h), shaped_lst _ fun z h => nm_ok (T2.nm z h), ?_⟩
  rw [eqv_lst]
  walk_at "ss"
  refine ⟨_, _, rfl, p, r, zs, ys, rfl, rfl, S2 _ _ hp, S2 _ _ hr, by omega, by omega, fun H3 s3 => ?_⟩
  have S3 := S2.trans s3
  walk_at "ss"
  refine ⟨_, _, rfl, r, p, ys, zs, rfl, rfl, S3 _ _ hr, S3 _ _ hp, by omega, by omega, fun H4 s4 => ?_⟩
  have S4 := S3.trans s4
  walk_at "ss"
  refine .inr ⟨1, _, _, c, d, dC, dD, _, _, rfl, rfl, rfl, S4 _ _ C1, S4 _ _ D1, ?_⟩
  refine ⟨_, _, rfl, c, d, _, _, rfl, rfl, hC.keep S4, hD.keep S4, T1, T2, ?_⟩
  have e1 : befB (srt zs) (srt ys) = befB zs ys := befB_congr (fun _ => mem_srt) fun _ => mem_srt
  have e2 : befB (srt ys) (srt zs) = befB ys zs := befB_congr (fun _ => mem_srt) fun _ => mem_srt
  walk_at "ss"
  refine .inr ⟨1, _, _, c, d, dC, dD, _, _, rfl, rfl, rfl, S4 _ _ C1, S4 _ _ D1, ?_⟩
  refine ⟨_, _, rfl, c, d, _, _, rfl, rfl, hC.keep S4, hD.keep S4, T1, T2, fun H5 s5 => ?_⟩
  have S5 := S4.trans s5
  walk_at "ss"
  refine .inr ⟨1, _, _, c, d, dC, dD, _, _, rfl, rfl, rfl, S5 _ _ C1, S5 _ _ D1, ?_⟩
  refine ⟨_, _, rfl, c, d, _, _, rfl, rfl, hC.keep S5, hD.keep S5, T1, T2, fun H6 s6 => ?_⟩
  have S6 := S5.trans s6
  walk_at "ss"
  refine .inr ⟨0, _, _, c, d, dC, dD, _, _, rfl, rfl, rfl, S6 _ _ C1, S6 _ _ D1, ?_⟩
  refine ⟨_, _, rfl, c, d, _, _, rfl, rfl, hC.keep S6, hD.keep S6, T1, T2, fun H7 s7 => ?_⟩
  have S7 := S6.trans s7
  walk_at "ss"
  refine .inr ⟨0, _, _, c, d, dC, dD, _, _, rfl, rfl, rfl, S7 _ _ C1, S7 _ _ D1, ?_⟩
  refine ⟨_, _, rfl, c, d, _, _, rfl, rfl, hC.keep S7, hD.keep S7, T1, T2, fun H8 s8 => ?_⟩
  have S8 := S7.trans s8
  rw [e1, e2, befB_tri zs ys, befB_tri ys zs]
  have e3 : decide (srt ys = srt zs) = decide (srt zs = srt ys) := by rw [Bool.eq_iff_iff]; simp [eq_comm]
  rw [e3]
  generalize befB zs ys = bl
  generalize befB ys zs = ab
  generalize decide (srt zs = srt ys) = eq
  walk_at "ss"
  refine ⟨len5, fun l9 hl9 => ?_⟩
  have s9 := same_new (o := HO.lst ([eq, bl, bl || eq, ab, ab || eq].map V.bl)) hl9
  have fin : ∀ H' l, Same (upd H8 l9 (HO.lst ([eq, bl, bl || eq, ab, ab || eq].map V.bl))) H' → H' l = some (.lst ([eq, bl, bl || eq, ab, ab || eq].map V.bl)) → sp_law_same K [.ref l9, .ref l] H' Q (WE W [some (V.ref c), some (V.ref d), some (V.ref p), some (V.ref r), some (V.bl eq), some (V.bl bl), some (V.bl ab), some (V.ref l9)]) := fun H' l s h =>
    same_ok (.lst (s _ _ upd_same) (IsAll.bls [eq, bl, bl || eq, ab, ab || eq])) (.lst h (IsAll.bls [eq, bl, bl || eq, ab, ab || eq])) (fits_bls (by show 5 ≤ 1000000; decide)) fun H9 s9' => hq H9 (((S8.trans s9).trans s).trans s9')
  cases bl <;> cases ab <;> (
    walk_at "ss"
    first
    | (refine s_itT rfl ?_
       walk_at "ss"
       first
       | (refine s_itT rfl ?_
          walk_at "ss"
          exact ⟨len5, fun l10 hl10 => fin _ l10 (same_new hl10) upd_same⟩)
       | (refine s_itF rfl ?_
          walk_at "ss"
          exact ⟨len5, fun l10 hl10 => fin _ l10 (same_new hl10) upd_same⟩))
    | (refine s_itF rfl ?_
       walk_at "ss"
       first
       | (refine s_itT rfl ?_
          walk_at "ss"
          exact ⟨len5, fun l10 hl10 => fin _ l10 (same_new hl10) upd_same⟩)
       | (refine s_itF rfl ?_
          walk_at "ss"
          exact ⟨len5, fun l10 hl10 => fin _ l10 (same_new hl10) upd_same⟩)))
/-- the facts of the head -/
structure FxJ (K : PySem.W.Frag) : Prop where
  mTT : PySem.W.exmOne K (.ref (ga K "TooMany")) (.ref (ga K "TooMany")) = some true
  xT : ExcC K (ga K "TooMany")
  th : PySem.W.kitOne K (.ref (ga K "TooMany")) (.ref (ga K "HornError")) = some true
  tv : PySem.W.kitOne K (.ref (ga K "TooMany")) (.type "ValueError") = some true
  tn : PySem.W.kitOne K (.ref (ga K "TooMany")) (.ref (ga K "BadName")) = some false
  ik : Hk.InsK K (ga K "Turning")
  cc : PySem.W.kitOne K (.ref (ga K "Turning")) (.ref (ga K "Turning")) = some true
def sp_law_median (K : PySem.W.Frag) : Sp := Sp3 fun x y w H Q _ => ∃ (a b c : Addr) (la lb lc : List Str), x = .ref a ∧ y = .ref b ∧ w = .ref c ∧ IsTu K H a la ∧ IsTu K H b lb ∧ IsTu K H c lc ∧ Tn la ∧ Tn lb ∧ Tn lc ∧ ∀ H' y, Same H H' → Is H' y (dueT (medS la lb lc)) → Q y H'
def N_law_median : List PySem.Str := ["_law_s", "_law_t", "_law_u", "error", "_law_turning_here", "_law_right"]
def t_law_median (K : PySem.W.Frag) (W : WX) : TS := (tCut (fun D σ H => (fun W1 => (tAsg (Cl.tSMeth (ga K "Turning") (sp_Turning_median K) (WE W1) (tC (.ref (ga K "Turning"))) (tCons (tVar 0) (tCons (tVar 1) (tCons (tVar 2) tNil)))) (gName 4))) (wAs K (.ref (ga K "TooMany")) 3 (fun a_ cls_ d_ => (tSeq (tAsg (tAndV (tCB (rIsEE K a_ cls_ d_) (tCons (tVar 3) (tCons (tC (.ref (ga K "HornError"))) tNil))) (tCB (rIsEE K a_ cls_ d_) (tCons (tVar 3) (tCons (tC (.ty "ValueError")) tNil)))) (gName 5))
    (tRet (tTup (tCons (tC (.str "many")) (tCons (tErrF (ga K "TooMany") "limit" a_ cls_ d_ (tVar 3)) (tCons (tAndV (tVar 5) (tNotV (tCB (rIsEE K a_ cls_ d_) (tCons (tVar 3) (tCons (tC (.ref (ga K "BadName"))) tNil))))) tNil))))))) W D) D σ H)
    (tRet (tTup (tCons (tC (.str "turning")) (tCons (Cl.tAtt [(ga K "Turning", Cl.aFld "turned")] (tVar 4)) (tCons (tCB (rIsi K) (tCons (tVar 4) (tCons (tC (.ref (ga K "Turning"))) tNil))) tNil))))))
theorem medS_nm {la lb lc : List Str} (ta : ∀ z ∈ la, isNm z = true) (tb : ∀ z ∈ lb, isNm z = true) : ∀ z ∈ medS la lb lc, isNm z = true := fun z h => by
  rcases mem_medS.mp h with ⟨h, _⟩ | ⟨h, _⟩
  · exact ta z h
  · exact tb z h
theorem pure_law_median {K : PySem.W.Frag} (F : FxJ K) {vs : List V} {H : Hp} {Q : VK} {E : XK} {W : WX} (h : sp_law_median K vs H Q E) : t_law_median K W { nx := fun _ H' => Q .non H', rt := Q } (start N_law_median vs) H := by
  obtain ⟨x, y, w, rfl, a, b, c, la, lb, lc, rfl, rfl, rfl, hA, hB, hC, ta, tb, tc, hq⟩ := h
  show t_law_median K W _ [some (.ref a), some (.ref b), some (.ref c), none, none, none] H
  unfold t_law_median
  refine s_nocut ?_
  dsimp only
  have hb := badN_none (medS_nm (lc := lc) ta.nm tb.nm)
  walk_at "ss"
  refine ⟨_, _, _, rfl, a, b, c, la, lb, lc, rfl, rfl, rfl, hA, hB, hC, ta, tb, tc, ⟨?_, ?_⟩⟩
  · intro hm H1 c s1 _ hT
    obtain ⟨dx, r, h1, h2⟩ := id hT
    walk_at "ss"
    refine ⟨c, dx, _, 0, _, _, rfl, rfl, h1, _, rfl, ?_⟩
    walk_at "ss"
    refine ⟨_, _, _, _, true, rfl, .own _, F.ik.ty h1, F.cc, ?_⟩
    walk_at "ss"
    refine ⟨len3, fun q hq0 => hq _ _ (s1.trans (same_new hq0)) ?_⟩
    rw [dueT_ok hb (by omega)]
    exact three upd_same (.str _) (.tup (same_new hq0 _ _ h2) (IsAll.strs _)) (.bl _)
  · intro hm H1 d s1 hd
    refine ⟨true, F.mTT, fun _ e he => ?_, fun e => by cases e⟩
    walk_at "ss"
    refine ⟨_, _, _, true, rfl, F.xT, .inr ⟨d, _, rfl, hd⟩, rfl, fun u r => r, F.th, ?_⟩
    walk_at "ss"
    refine s_itT rfl ?_
    walk_at "ss"
    refine ⟨_, _, _, true, rfl, F.xT, .inr ⟨d, _, rfl, hd⟩, rfl, fun u r => r, F.tv, ?_⟩
    walk_at "ss"
    refine ⟨_, rfl, rfl, rfl, d, _, rfl, hd, ?_⟩
    walk_at "ss"
    refine s_itT rfl ?_
    walk_at "ss"
    refine ⟨_, _, _, false, rfl, F.xT, .inr ⟨d, _, rfl, hd⟩, rfl, fun u r => r, F.tn, ?_⟩
    walk_at "ss"
    refine ⟨len3, fun q hq0 => hq _ _ (s1.trans (same_new hq0)) ?_⟩
    rw [dueT_many hb (by omega)]
    exact three upd_same (.str _) (.int _) (.bl _)
def sp_law_median_due (K : PySem.W.Frag) : Sp := Sp3 fun x y w H Q _ => ∃ (p q r : Addr) (zs ys xs : List Str), x = .ref p ∧ y = .ref q ∧ w = .ref r ∧ H p = some (.lst (zs.map V.str)) ∧ H q = some (.lst (ys.map V.str)) ∧ H r = some (.lst (xs.map V.str)) ∧ Nms zs ∧ Nms ys ∧ Nms xs ∧ ∀ H' y, Same H H' → Is H' y (dueT (medS zs ys xs)) → Q y H'
def N_law_median_due : List PySem.Str := ["_law_one", "_law_other", "_law_third", "_law_names_here", "_law_name"]
def t_law_median_due (K : PySem.W.Frag) (W : WX) : TS := (tSeq (tAsg (tLst tNil) (gName 3))
    (tCut (tFor (iAnyP K (tCallS (sp_law_sorted K) (WE W) (tCons (tOp (rAddP K) (tOp (rAddP K) (tVar 0) (tVar 1)) (tVar 2)) tNil))) (gName 4) (tIfS (tTest (tOp rGtP (tOp (rAddP K) (tOp (rAddP K) (tCB rIntP (tCons (tOp (rInP K false) (tVar 4) (tVar 0)) tNil)) (tCB rIntP (tCons (tOp (rInP K false) (tVar 4) (tVar 1)) tNil))) (tCB rIntP (tCons (tOp (rInP K false) (tVar 4) (tVar 2)) tNil))) (tC (.int 1)))) (tDrop (tBM K "list" rAppend (tVar 3) (tCons (tVar 4) tNil))) tNext))
    (tCut (tIfS (tTest (tOp rGtP (tCB (rLenP K) (tCons (tVar 3) tNil)) (tC (.int 12)))) (tRet (tTup (tCons (tC (.str "many")) (tCons (tC (.int 12)) (tCons (tC (.bl true)) tNil))))) tNext)
    (tRet (tTup (tCons (tC (.str "turning")) (tCons (tCB (rTupleP K) (tCons (tVar 3) tNil)) (tCons (tC (.bl true)) tNil))))))))
def twoB (zs ys xs : List Str) (z : Str) : Bool := decide ((1 : Int) < ((if decide (z ∈ zs) then 1 else 0) + (if decide (z ∈ ys) then 1 else 0)) + (if decide (z ∈ xs) then 1 else 0))
theorem two_med (zs ys xs : List Str) : (srt (zs ++ ys ++ xs)).filter (twoB zs ys xs) = srt (medS zs ys xs) := by
  rw [srt_filter]
  refine srt_congr fun z => ?_
  rw [mem_medS, List.mem_filter, List.mem_append, List.mem_append]
  unfold twoB
  by_cases h1 : z ∈ zs <;> by_cases h2 : z ∈ ys <;> by_cases h3 : z ∈ xs <;> simp [h1, h2, h3]
theorem pure_law_median_due {K : PySem.W.Frag} {vs : List V} {H : Hp} {Q : VK} {E : XK} {W : WX} (h : sp_law_median_due K vs H Q E) : t_law_median_due K W { nx := fun _ H' => Q .non H', rt := Q } (start N_law_median_due vs) H := by
  obtain ⟨x, y, w, rfl, p, q, r, zs, ys, xs, rfl, rfl, rfl, hp, hy, hx, R1, R2, R3, hq⟩ := h
  show t_law_median_due K W _ [some (.ref p), some (.ref q), some (.ref r), none, none] H
  unfold t_law_median_due
  have l1 := R1.len
  have l2 := R2.len
  have l3 := R3.len
  have hb : badN (medS zs ys xs) = none := badN_none (medS_nm R1.nm R2.nm)
  walk_at "ss"
  refine ⟨Nat.zero_le _, fun o ho => ?_⟩
  have so := same_new (o := HO.lst []) ho
  walk_at "ss"
  refine s_cut (fun σ' H' => Same H H' ∧ (∃ u, σ' = [some (.ref p), some (.ref q), some (.ref r), some (.ref o), u]) ∧ H' o = some (.lst ((srt (medS zs ys xs)).map V.str))) ?_ ?_
  · walk_at "ss"
    refine s_catS (so _ _ hp) (so _ _ hy) (by omega) fun r1 H1 s1 _ h1 => ?_
    have S1 := so.trans s1
    walk_at "ss"
    refine s_catS h1 (S1 _ _ hx) (by rw [List.length_append]; omega) fun r2 H2 s2 _ h2 => ?_
    have S2 := S1.trans s2
    walk_at "ss"
    refine ⟨_, rfl, r2, zs ++ ys ++ xs, rfl, h2, by rw [List.length_append, List.length_append]; omega, fun H3 r3 s3 hr3 h3 => ?_⟩
    have S3 := S2.trans s3
    have ho3 : H3 o = some (.lst []) := ((s1.trans s2).trans s3) _ _ upd_same
    have hro : r3 ≠ o := fun e => by rw [e, (s1.trans s2) _ _ upd_same] at hr3; cases hr3
    have hsl := srt_len (zs ++ ys ++ xs)
    rw [List.length_append, List.length_append] at hsl
    refine forb_list (xs := (srt (zs ++ ys ++ xs)).map V.str) (fun i σ' H' => Same H H' ∧ H' r3 = some (.lst ((srt (zs ++ ys ++ xs)).map V.str)) ∧ (∃ u, σ' = [some (.ref p), some (.ref q), some (.ref r), some (.ref o), u]) ∧ H' o = some (.lst ((((srt (zs ++ ys ++ xs)).take i).filter (twoB zs ys xs)).map V.str))) ⟨S3, h3, ⟨_, rfl⟩, ho3⟩ ?_ ?_ ?_
    · rintro i σ' H' hi ⟨_, h, _⟩
      exact SqL.of h
    · rintro i y σ' H' hi ⟨s4, h4, ⟨u, rfl⟩, h5⟩
      obtain ⟨z, hj, rfl⟩ := at_strs hi
      have hil := (List.getElem?_eq_some_iff.mp hj).1
      walk_at "ss"
      refine s_inSL (s4 _ _ hp) ?_
      walk_at "ss"
      refine s_intB ?_
      walk_at "ss"
      refine s_inSL (s4 _ _ hy) ?_
      walk_at "ss"
      refine s_intB ?_
      walk_at "ss"
      refine s_inSL (s4 _ _ hx) ?_
      walk_at "ss"
      refine s_intB ?_
      walk_at "ss"
      show if twoB zs ys xs z = true then _ else _
      refine s_ite (fun e => ?_) (fun e => ?_)
      · walk_at "ss"
        refine s_tyL h5 ?_
        walk_at "ss"
        refine s_app h5 (by rw [List.length_map]; have := List.length_filter_le (twoB zs ys xs) ((srt (zs ++ ys ++ xs)).take i); rw [List.length_take] at this; omega) ?_
        refine ⟨fun b u e' => by rw [upd_ne (ne_of_none e' ho)]; exact s4 _ _ e', by rw [upd_ne hro]; exact h4, ⟨_, rfl⟩, ?_⟩
        rw [upd_same, take_more hj, List.filter_append, List.map_append]
        simp [e]
      · walk_at "ss"
        refine ⟨s4, h4, ⟨_, rfl⟩, ?_⟩
        rw [h5, take_more hj, List.filter_append]
        simp [e]
    · rintro σ' H' ⟨s4, _, h, h5⟩
      rw [List.length_map, List.take_length, two_med] at h5
      exact ⟨s4, h, h5⟩
  rintro σ' H' ⟨s4, ⟨u, rfl⟩, h5⟩
  refine s_nocut ?_
  walk_at "ss"
  refine s_lenL h5 ?_
  walk_at "ss"
  rw [List.length_map]
  refine s_itd (fun e => ?_) (fun e => ?_)
  · walk_at "ss"
    refine ⟨len3, fun q hq0 => hq _ _ (s4.trans (same_new hq0)) ?_⟩
    rw [dueT_many hb (by omega)]
    exact three upd_same (.str _) (.int _) (.bl _)
  · walk_at "ss"
    refine s_tupL h5 fun t ht => ?_
    walk_at "ss"
    refine ⟨len3, fun q hq0 => hq _ _ ((s4.trans (same_new ht)).trans (same_new hq0)) ?_⟩
    rw [dueT_ok hb (by omega)]
    exact three upd_same (.str _) (.tup (same_new hq0 _ _ upd_same) (IsAll.strs _)) (.bl _)
end Rd
namespace Rd
open PySem PySem.Spec PyProof.Rows L2 He Px
def sp_law_asked (K : PySem.W.Frag) : Sp := Sp1 fun x H Q _ => ∃ (r : Addr) (rs : List Addr) (zss : List (List Str)), x = .ref r ∧ Rows3 H r rs zss ∧ ∀ H', Same H H' → Q (.bl true) H'
def N_law_asked : List PySem.Str := ["_law_rows", "_law_turnings", "_law_k", "_law_order", "_law_j", "_law_told", "_law_row", "_law_turning_here"]
def t_law_asked (K : PySem.W.Frag) (W : WX) : TS := (tSeq (tAsg (tLc (iAnyP K (tVar 0)) (gName 6) tYes (tCall (sp_law_turning K) [] E0 (tCons (tVar 6) tNil)) [6]) (gName 1))
    (tCut (tFor (iRng1 (tCons (tC (.int 3)) tNil)) (gName 2) (tFor (iRng1 (tCons (tC (.int 3)) tNil)) (gName 4) (tIfS (tNot (tB (tCallS (sp_law_compared K) (WE W) (tCons (tOp (rIxP K) (tVar 1) (tVar 2)) (tCons (tOp (rIxP K) (tVar 1) (tVar 4)) (tCons (tOp (rIxP K) (tVar 0) (tVar 2)) (tCons (tOp (rIxP K) (tVar 0) (tVar 4)) tNil))))))) (tRet (tC (.bl false))) tNext)))
    (tCut (tFor (iAnyP K (tLst (tCons (tLst (tCons (tC (.int 0)) (tCons (tC (.int 1)) (tCons (tC (.int 2)) tNil)))) (tCons (tLst (tCons (tC (.int 0)) (tCons (tC (.int 2)) (tCons (tC (.int 1)) tNil)))) (tCons (tLst (tCons (tC (.int 1)) (tCons (tC (.int 0)) (tCons (tC (.int 2)) tNil)))) (tCons (tLst (tCons (tC (.int 1)) (tCons (tC (.int 2)) (tCons (tC (.int 0)) tNil)))) (tCons (tLst (tCons (tC (.int 2)) (tCons (tC (.int 0)) (tCons (tC (.int 1)) tNil)))) (tCons (tLst (tCons (tC (.int 2)) (tCons (tC (.int 1)) (tCons (tC (.int 0)) tNil)))) (tCons (tLst (tCons (tC (.int 0)) (tCons (tC (.int 0)) (tCons (tC (.int 1)) tNil)))) (tCons (tLst (tCons (tC (.int 2)) (tCons (tC (.int 1)) (tCons (tC (.int 2)) tNil)))) (tCons (tLst (tCons (tC (.int 1)) (tCons (tC (.int 1)) (tCons (tC (.int 1)) tNil)))) tNil))))))))))) (gName 3) (tSeq (tAsg (tCallS (sp_law_median K) (WE W) (tCons (tOp (rIxP K) (tVar 1) (tOp (rIxP K) (tVar 3) (tC (.int 0)))) (tCons (tOp (rIxP K) (tVar 1) (tOp (rIxP K) (tVar 3) (tC (.int 1)))) (tCons (tOp (rIxP K) (tVar 1) (tOp (rIxP K) (tVar 3) (tC (.int 2)))) tNil)))) (gName 5))
    (tIfS (tNot (tB (tCallS (sp_law_same K) (WE W) (tCons (tVar 5) (tCons (tCallS (sp_law_median_due K) (WE W) (tCons (tOp (rIxP K) (tVar 0) (tOp (rIxP K) (tVar 3) (tC (.int 0)))) (tCons (tOp (rIxP K) (tVar 0) (tOp (rIxP K) (tVar 3) (tC (.int 1)))) (tCons (tOp (rIxP K) (tVar 0) (tOp (rIxP K) (tVar 3) (tC (.int 2)))) tNil)))) tNil))))) (tRet (tC (.bl false))) tNext)))
    (tRet (tCallS (sp_law_same K) (WE W) (tCons (tLc (iAnyP K (tVar 1)) (gName 7) tYes (Cl.tAtt [(ga K "Turning", Cl.aFld "turned")] (tVar 7)) [7]) (tCons (tLc (iAnyP K (tVar 0)) (gName 6) tYes (tCB (rTupleP K) (tCons (tCall (sp_law_sorted K) [] E0 (tCons (tVar 6) tNil)) tNil)) [6]) tNil)))))))
/-- lists of three places -/
def OrdL (H : Hp) (l : List V) : Prop := ∀ y ∈ l, ∃ (q : Addr) (i j k : Int), y = .ref q ∧ H q = some (.lst [.int i, .int j, .int k]) ∧ (0 ≤ i ∧ i < 3) ∧ (0 ≤ j ∧ j < 3) ∧ (0 ≤ k ∧ k < 3)
theorem OrdL.keep {H H' : Hp} {l : List V} (h : OrdL H l) (s : Same H H') : OrdL H' l := fun y hy => by
  obtain ⟨q, i, j, k, e, h1, h2⟩ := h y hy
  exact ⟨q, i, j, k, e, s _ _ h1, h2⟩
theorem OrdL.add {H : Hp} {l : List V} {p : Addr} {i j k : Int} (h : OrdL H l) (hp : H p = none) (hi : 0 ≤ i ∧ i < 3) (hj : 0 ≤ j ∧ j < 3) (hk : 0 ≤ k ∧ k < 3) : OrdL (upd H p (.lst [.int i, .int j, .int k])) (.ref p :: l) := fun y hy => by
  rcases List.mem_cons.mp hy with e | hy
  · exact ⟨p, i, j, k, e, upd_same, hi, hj, hk⟩
  · exact h.keep (same_new hp) y hy
/-- the turnings of three rows -/
structure Tur3 (K : PySem.W.Frag) (H : Hp) (t : Addr) (cs : List V) (zss : List (List Str)) : Prop where
  at_ : H t = some (.lst cs)
  len : cs.length = 3
  tur : ∀ i y, cs[i]? = some y → ∃ c, y = .ref c ∧ IsTu K H c (srt (zss.getD i []))
theorem Tur3.keep {K : PySem.W.Frag} {H H' : Hp} {t : Addr} {cs : List V} {zss : List (List Str)} (h : Tur3 K H t cs zss) (s : Same H H') : Tur3 K H' t cs zss := ⟨s _ _ h.at_, h.len, fun i y e => by
  obtain ⟨c, h1, h2⟩ := h.tur i y e
  exact ⟨c, h1, h2.keep s⟩⟩
theorem both_at {K : PySem.W.Frag} {H : Hp} {r t : Addr} {rs : List Addr} {cs : List V} {zss : List (List Str)} (R : Rows3 H r rs zss) (T : Tur3 K H t cs zss) {i : Int} (h0 : 0 ≤ i) (h1 : i < 3) : ∃ q z c, atI (rs.map V.ref) i = some (.ref q) ∧ atI cs i = some (.ref c) ∧ H q = some (.lst (z.map V.str)) ∧ Nms z ∧ IsTu K H c (srt z) ∧ zss.getD i.toNat [] = z := by
  obtain ⟨q, z, a1, a2, a3, a4⟩ := R.row i.toNat (by omega)
  have hc : i.toNat < cs.length := by rw [T.len]; omega
  obtain ⟨c, e, hT⟩ := T.tur i.toNat cs[i.toNat] (by simp [hc])
  have ez : zss.getD i.toNat [] = z := by rw [List.getD_eq_getElem?_getD, a2]; rfl
  rw [ez] at hT
  have ei : ((i.toNat : Nat) : Int) = i := by omega
  refine ⟨q, z, c, ?_, ?_, a3, a4, hT, ez⟩
  · rw [← ei]
    exact atI_nat (by rw [List.getElem?_map, a1]; rfl)
  · rw [← ei]
    exact atI_nat (by rw [← e]; simp [hc])
theorem pure_law_asked {K : PySem.W.Frag} (ik : Hk.InsK K (ga K "Turning")) {vs : List V} {H : Hp} {Q : VK} {E : XK} {W : WX} (h : sp_law_asked K vs H Q E) : t_law_asked K W { nx := fun _ H' => Q .non H', rt := Q } (start N_law_asked vs) H := by
  obtain ⟨x, rfl, r, rs, zss, rfl, R, hq⟩ := h
  show t_law_asked K W _ [some (.ref r), none, none, none, none, none, none, none] H
  unfold t_law_asked
  have row : ∀ i x, (rs.map V.ref)[i]? = some x → ∃ q z, x = .ref q ∧ zss.getD i [] = z ∧ H q = some (.lst (z.map V.str)) ∧ Nms z := fun i x e => by
    have hi : i < 3 := by have := (List.getElem?_eq_some_iff.mp e).1; rw [List.length_map, R.lr] at this; exact this
    obtain ⟨q, z, a1, a2, a3, a4⟩ := R.row i hi
    rw [List.getElem?_map, a1] at e
    exact ⟨q, z, by simpa using e.symm, by rw [List.getD_eq_getElem?_getD, a2]; rfl, a3, a4⟩
  walk_at "ss"
  refine lcb_rel (fun i y H => ∃ c, y = .ref c ∧ IsTu K H c (srt (zss.getD i []))) (fun i y H H' ⟨c, e, h⟩ s => ⟨c, e, h.keep s⟩) (fun i y H D zs ws ⟨c, e, h⟩ hD => ⟨c, e, h.upd hD⟩) (.inl (SqL.of R.at_)) (by rw [List.length_map, R.lr]; decide) ?_ ?_
  · intro i x hi H' s' Q' hQ
    obtain ⟨q, z, rfl, ez, h1, h2⟩ := row i x hi
    walk_at "ss"
    refine ⟨_, rfl, q, z, rfl, s' _ _ h1, h2.len, h2.nm, h2.nd, fun H2 c s2 _ hT => hQ H2 _ s2 ⟨c, rfl, ?_⟩⟩
    rw [ez]
    exact hT
  intro t H1 cs _ s1 ht hcl hcs
  have R1 := R.keep s1
  have T1 : Tur3 K H1 t cs zss := ⟨ht, by rw [hcl, List.length_map, R.lr], hcs⟩
  walk_at "ss"
  refine s_cut (fun σ' H' => Same H1 H' ∧ ∃ u v, σ' = [some (.ref r), some (.ref t), u, none, v, none, none, none]) ?_ ?_
  · walk_at "ss"
    refine forr_inv (by decide) (by decide) (fun i σ' H' => Same H1 H' ∧ ∃ u v, σ' = [some (.ref r), some (.ref t), u, none, v, none, none, none]) ⟨Same.refl _, _, _, rfl⟩ ?_ ?_
    · rintro i σ' H' hi ⟨s2, u, v, rfl⟩
      walk_at "ss"
      refine forr_inv (by decide) (by decide) (fun j σ' H' => Same H1 H' ∧ ∃ v, σ' = [some (.ref r), some (.ref t), some (.int (i : Int)), none, v, none, none, none]) ⟨s2, _, rfl⟩ ?_ ?_
      · rintro j σ' H2 hj ⟨s3, v, rfl⟩
        obtain ⟨q, z, c, i1, i2, i3, i4, i5, _⟩ := both_at (R1.keep s3) (T1.keep s3) (i := (i : Int)) (by omega) (by omega)
        obtain ⟨q', z', c', j1, j2, j3, j4, j5, _⟩ := both_at (R1.keep s3) (T1.keep s3) (i := (j : Int)) (by omega) (by omega)
        have hr2 := s3 _ _ R1.at_
        have ht2 := s3 _ _ ht
        walk_at "ss"
        refine s_ixL ht2 i2 ?_
        walk_at "ss"
        refine s_ixL ht2 j2 ?_
        walk_at "ss"
        refine s_ixL hr2 i1 ?_
        walk_at "ss"
        refine s_ixL hr2 j1 ?_
        walk_at "ss"
        refine ⟨_, _, _, _, rfl, c, c', q, q', z, z', rfl, rfl, rfl, rfl, i5, j5, i3, j3, i4, j4, fun H3 s4 => ?_⟩
        walk_at "ss"
        refine s_itF rfl ?_
        walk_at "ss"
        exact ⟨s3.trans s4, _, rfl⟩
      · rintro σ' H2 ⟨s3, v, rfl⟩
        exact ⟨s3, _, _, rfl⟩
    · rintro σ' H' h
      exact h
  rintro σ' H2 ⟨s2, u, v, rfl⟩
  have R2 := R1.keep s2
  have T2 := T1.keep s2
  refine s_cut (fun σ' H' => Same H2 H' ∧ ∃ y w, σ' = [some (.ref r), some (.ref t), u, y, v, w, none, none]) ?_ ?_
  · have a0 : OrdL H2 [] := fun y h => by cases h
    have w0 : Same H2 H2 := Same.refl _
    walk_at "ss"
    refine ⟨len3, fun o1 ho1 => ?_⟩
    have a1 := OrdL.add a0 ho1 (i := 0) (j := 1) (k := 2) (by decide) (by decide) (by decide)
    have w1 := w0.trans (same_new (o := HO.lst [.int 0, .int 1, .int 2]) ho1)
    walk_at "ss"
    refine ⟨len3, fun o2 ho2 => ?_⟩
    have a2 := OrdL.add a1 ho2 (i := 0) (j := 2) (k := 1) (by decide) (by decide) (by decide)
    have w2 := w1.trans (same_new (o := HO.lst [.int 0, .int 2, .int 1]) ho2)
    walk_at "ss"
    refine ⟨len3, fun o3 ho3 => ?_⟩
    have a3 := OrdL.add a2 ho3 (i := 1) (j := 0) (k := 2) (by decide) (by decide) (by decide)
    have w3 := w2.trans (same_new (o := HO.lst [.int 1, .int 0, .int 2]) ho3)
    walk_at "ss"
    refine ⟨len3, fun o4 ho4 => ?_⟩
    have a4 := OrdL.add a3 ho4 (i := 1) (j := 2) (k := 0) (by decide) (by decide) (by decide)
    have w4 := w3.trans (same_new (o := HO.lst [.int 1, .int 2, .int 0]) ho4)
    walk_at "ss"
    refine ⟨len3, fun o5 ho5 => ?_⟩
    have a5 := OrdL.add a4 ho5 (i := 2) (j := 0) (k := 1) (by decide) (by decide) (by decide)
    have w5 := w4.trans (same_new (o := HO.lst [.int 2, .int 0, .int 1]) ho5)
    walk_at "ss"
    refine ⟨len3, fun o6 ho6 => ?_⟩
    have a6 := OrdL.add a5 ho6 (i := 2) (j := 1) (k := 0) (by decide) (by decide) (by decide)
    have w6 := w5.trans (same_new (o := HO.lst [.int 2, .int 1, .int 0]) ho6)
    walk_at "ss"
    refine ⟨len3, fun o7 ho7 => ?_⟩
    have a7 := OrdL.add a6 ho7 (i := 0) (j := 0) (k := 1) (by decide) (by decide) (by decide)
    have w7 := w6.trans (same_new (o := HO.lst [.int 0, .int 0, .int 1]) ho7)
    walk_at "ss"
    refine ⟨len3, fun o8 ho8 => ?_⟩
    have a8 := OrdL.add a7 ho8 (i := 2) (j := 1) (k := 2) (by decide) (by decide) (by decide)
    have w8 := w7.trans (same_new (o := HO.lst [.int 2, .int 1, .int 2]) ho8)
    walk_at "ss"
    refine ⟨len3, fun o9 ho9 => ?_⟩
    have a9 := OrdL.add a8 ho9 (i := 1) (j := 1) (k := 1) (by decide) (by decide) (by decide)
    have w9 := w8.trans (same_new (o := HO.lst [.int 1, .int 1, .int 1]) ho9)
    walk_at "ss"
    refine ⟨by show 9 ≤ sizeLine; rw [sizeLine_eq]; decide, fun o10 ho10 => ?_⟩
    have s10 := same_new (o := HO.lst [.ref o1, .ref o2, .ref o3, .ref o4, .ref o5, .ref o6, .ref o7, .ref o8, .ref o9]) ho10
    have a10 := a9.keep s10
    have w10 := w9.trans s10
    have hO : (upd _ o10 (.lst [.ref o1, .ref o2, .ref o3, .ref o4, .ref o5, .ref o6, .ref o7, .ref o8, .ref o9])) o10 = some (.lst [V.ref o1, V.ref o2, V.ref o3, V.ref o4, V.ref o5, V.ref o6, V.ref o7, V.ref o8, V.ref o9]) := upd_same (H := upd (upd (upd (upd (upd (upd (upd (upd (upd H2 o1 (.lst [.int 0, .int 1, .int 2])) o2 (.lst [.int 0, .int 2, .int 1])) o3 (.lst [.int 1, .int 0, .int 2])) o4 (.lst [.int 1, .int 2, .int 0])) o5 (.lst [.int 2, .int 0, .int 1])) o6 (.lst [.int 2, .int 1, .int 0])) o7 (.lst [.int 0, .int 0, .int 1])) o8 (.lst [.int 2, .int 1, .int 2])) o9 (.lst [.int 1, .int 1, .int 1]))
    generalize upd _ o10 (HO.lst [V.ref o1, V.ref o2, V.ref o3, V.ref o4, V.ref o5, V.ref o6, V.ref o7, V.ref o8, V.ref o9]) = H10 at a10 w10 hO
    refine forb_list (xs := [V.ref o1, V.ref o2, V.ref o3, V.ref o4, V.ref o5, V.ref o6, V.ref o7, V.ref o8, V.ref o9]) (fun n σ' H' => Same H10 H' ∧ ∃ y w, σ' = [some (.ref r), some (.ref t), u, y, v, w, none, none]) ⟨Same.refl _, _, _, rfl⟩ ?_ ?_ ?_
    · rintro n σ' H' hn ⟨s3, _⟩
      exact SqL.of (s3 _ _ hO)
    · rintro n y σ' H' hn ⟨s3, y', w', rfl⟩
      obtain ⟨q, i, j, k, rfl, hq0, hi, hj, hk⟩ := a10 y (by have := List.mem_of_getElem? hn; simp only [List.mem_cons, List.not_mem_nil, or_false] at this ⊢; rcases this with h | h | h | h | h | h | h | h | h <;> simp [h])
      have S3 := w10.trans s3
      have hq3 := s3 _ _ hq0
      have R3 := R2.keep S3
      have T3 := T2.keep S3
      obtain ⟨r0, z0, c0, i1, i2, i3, i4, i5, _⟩ := both_at R3 T3 hi.1 hi.2
      obtain ⟨r1, z1, c1, j1, j2, j3, j4, j5, _⟩ := both_at R3 T3 hj.1 hj.2
      obtain ⟨r2, z2, c2, k1, k2, k3, k4, k5, _⟩ := both_at R3 T3 hk.1 hk.2
      walk_at "ss"
      refine s_ixL hq3 (v := .int i) rfl ?_
      refine s_ixL T3.at_ i2 ?_
      walk_at "ss"
      refine s_ixL hq3 (v := .int j) rfl ?_
      refine s_ixL T3.at_ j2 ?_
      walk_at "ss"
      refine s_ixL hq3 (v := .int k) rfl ?_
      refine s_ixL T3.at_ k2 ?_
      walk_at "ss"
      refine ⟨_, _, _, rfl, c0, c1, c2, _, _, _, rfl, rfl, rfl, i5, j5, k5, i4.tn, j4.tn, k4.tn, fun H4 y4 s4 d4 => ?_⟩
      have e4 : dueT (medS (srt z0) (srt z1) (srt z2)) = dueT (medS z0 z1 z2) := dueT_congr (medS_nm i4.tn.nm j4.tn.nm) fun x => by simp only [mem_medS, mem_srt]
      rw [e4] at d4
      walk_at "ss"
      refine s_ixL (s4 _ _ hq3) (v := .int i) rfl ?_
      refine s_ixL (s4 _ _ R3.at_) i1 ?_
      walk_at "ss"
      refine s_ixL (s4 _ _ hq3) (v := .int j) rfl ?_
      refine s_ixL (s4 _ _ R3.at_) j1 ?_
      walk_at "ss"
      refine s_ixL (s4 _ _ hq3) (v := .int k) rfl ?_
      refine s_ixL (s4 _ _ R3.at_) k1 ?_
      walk_at "ss"
      refine ⟨_, _, _, rfl, r0, r1, r2, z0, z1, z2, rfl, rfl, rfl, s4 _ _ i3, s4 _ _ j3, s4 _ _ k3, i4, j4, k4, fun H5 y5 s5 d5 => ?_⟩
      walk_at "ss"
      have l0 := i4.len
      have l1 := j4.len
      refine same_ok (d4.keep s5) d5 (dueT_fits (by unfold medS; rw [List.length_append]; have h1 := List.length_filter_le (fun z => decide (z ∈ z1) || decide (z ∈ z2)) z0; have h2 := List.length_filter_le (fun z => decide (z ∈ z2)) z1; omega)) fun H6 s6 => ?_
      walk_at "ss"
      refine s_itF rfl ?_
      walk_at "ss"
      exact ⟨((s3.trans s4).trans s5).trans s6, _, _, rfl⟩
    · rintro σ' H' ⟨s3, h⟩
      exact ⟨w10.trans s3, h⟩
  rintro σ' H3 ⟨s3, y, w, rfl⟩
  have R3 := R2.keep s3
  have T3 := T2.keep s3
  have c3 := T3.len
  walk_at "ss"
  refine lcb_rel (fun i y H => ∃ q, y = .ref q ∧ H q = some (.tup ((srt (zss.getD i [])).map V.str))) (fun i y H H' ⟨c, e, h⟩ s => ⟨c, e, s _ _ h⟩) (fun i y H D zs ws ⟨c, e, h⟩ hD => ⟨c, e, by rw [upd_ne (fun e => by rw [e, hD] at h; cases h)]; exact h⟩) (.inl (SqL.of T3.at_)) (by omega) ?_ ?_
  · intro i x hi H' s' Q' hQ
    obtain ⟨c, rfl, hT⟩ := T3.tur i x hi
    obtain ⟨dx, q, t1, t2⟩ := hT
    walk_at "ss"
    exact ⟨c, dx, _, 0, _, _, rfl, rfl, s' _ _ t1, _, rfl, hQ _ _ (Same.refl _) ⟨q, rfl, s' _ _ t2⟩⟩
  intro l4 H4 ys _ s4 h4 yl hy
  have S4 := s3.trans s4
  have R4 := R3.keep s4
  walk_at "ss"
  refine lcb_rel (fun i y H => ∃ q, y = .ref q ∧ H q = some (.tup ((srt (zss.getD i [])).map V.str))) (fun i y H H' ⟨c, e, h⟩ s => ⟨c, e, s _ _ h⟩) (fun i y H D zs ws ⟨c, e, h⟩ hD => ⟨c, e, by rw [upd_ne (fun e => by rw [e, hD] at h; cases h)]; exact h⟩) (.inl (SqL.of R4.at_)) (by rw [List.length_map, R.lr]; decide) ?_ ?_
  · intro i x hi H' s' Q' hQ
    obtain ⟨q, z, rfl, ez, h1, h2⟩ := row i x hi
    have SS := (((s1.trans s2).trans s3).trans s4).trans s'
    have lz := h2.len
    walk_at "ss"
    refine ⟨_, rfl, q, z, rfl, SS _ _ h1, by omega, fun H5 l5 s5 _ h5 => ?_⟩
    refine s_tupL h5 fun l6 hl6 => hQ _ _ (s5.trans (same_new hl6)) ⟨l6, rfl, ?_⟩
    rw [upd_same, ez]
  intro l5 H5 ws _ s5 h5 wl hw
  walk_at "ss"
  have is3 : ∀ (H : Hp) (vs : List V), vs.length = 3 → (∀ i y, vs[i]? = some y → ∃ q, y = V.ref q ∧ H q = some (.tup ((srt (zss.getD i [])).map V.str))) → IsAll H vs ((List.range 3).map fun i => PyData.tuple ((srt (zss.getD i [])).map .str)) := fun H vs hl h => IsAll.ofIdx (by rw [hl, List.length_map, List.length_range]) fun i y d h1 h2 => by
    obtain ⟨q, rfl, hq⟩ := h i y h1
    have hi : i < 3 := by have := (List.getElem?_eq_some_iff.mp h1).1; omega
    rw [List.getElem?_map, List.getElem?_range hi] at h2
    have : d = PyData.tuple ((srt (zss.getD i [])).map .str) := by simpa using h2.symm
    rw [this]
    exact .tup hq (IsAll.strs _)
  refine same_ok (.lst (s5 _ _ h4) (is3 H5 ys (by omega) fun i y e => ?_)) (.lst h5 (is3 H5 ws (by rw [wl, List.length_map, R.lr]) hw)) ⟨by rw [List.length_map, List.length_range]; decide, fun d hd => ?_⟩ fun H6 s6 => hq H6 ((((s1.trans s2).trans S4).trans s5).trans s6)
  · obtain ⟨q, e1, e2⟩ := hy i y e
    exact ⟨q, e1, s5 _ _ e2⟩
  · obtain ⟨i, hi, rfl⟩ := List.mem_map.mp hd
    have hi3 : i < 3 := List.mem_range.mp hi
    obtain ⟨q, z, a1, a2, a3, a4⟩ := R.row i hi3
    have ez : zss.getD i [] = z := by rw [List.getD_eq_getElem?_getD, a2]; rfl
    rw [ez]
    have lz := a4.len
    have := srt_len z
    exact ⟨by rw [List.length_map]; omega, fun d hd => by
      obtain ⟨z, _, rfl⟩ := List.mem_map.mp hd
      trivial⟩
def sp_law (K : PySem.W.Frag) : Sp := Sp1 fun x H Q _ => ∃ (a : Addr) (ns : List Int), x = .ref a ∧ SqL K H a (ns.map V.int) ∧ ns.length ≤ 100 ∧ ∀ H', Q (.bl true) H'
def N_law : List PySem.Str := ["_law_script", "_law_source_here", "_law_names_here"]
def t_law (K : PySem.W.Frag) (W : WX) : TS := (tSeq (tAsg (tCallS (sp_law_source K) (WE W) (tCons (tVar 0) tNil)) (gName 1))
    (tSeq (tAsg (tCallS (sp_law_names K) (WE W) (tCons (tVar 1) (tCons (tC (.int 24)) tNil))) (gName 2))
    (tCut (tIfS (tOr (tNot (tB (tCallS (sp_law_asked K) (WE W) (tCons (tCallS (sp_law_three K) (WE W) (tCons (tVar 1) (tCons (tVar 2) tNil))) tNil)))) (tNot (tB (tCallS (sp_law_asked K) (WE W) (tCons (tCallS (sp_law_large K) (WE W) (tCons (tVar 1) (tCons (tVar 2) tNil))) tNil))))) (tRet (tC (.bl false))) tNext)
    (tRet (tCallS (sp_law_asked K) (WE W) (tCons (tCallS (sp_law_wide K) (WE W) (tCons (tVar 1) (tCons (tVar 2) tNil))) tNil))))))
theorem pure_law {K : PySem.W.Frag} {vs : List V} {H : Hp} {Q : VK} {E : XK} {W : WX} (h : sp_law K vs H Q E) : t_law K W { nx := fun _ H' => Q .non H', rt := Q } (start N_law vs) H := by
  obtain ⟨x, rfl, a, ns, rfl, hS, hl, hq⟩ := h
  show t_law K W _ [some (.ref a), none, none] H
  unfold t_law
  walk_at "ss"
  refine ⟨_, rfl, a, ns, rfl, hS, hl, fun H1 s s1 hs S1 => ?_⟩
  walk_at "ss"
  refine ⟨_, _, rfl, s, 24, rfl, rfl, S1, by decide, by decide, fun H2 p nm S2 b2 hpn hpa hp hnl hnm hnd => ?_⟩
  have hnd := hnd (by decide)
  have h24 : nm.length = 24 := by omega
  walk_at "ss"
  refine s_nocut ?_
  walk_at "ss"
  refine ⟨_, _, rfl, s, p, nm, rfl, rfl, S2, hpa, hp, h24, hnm, hnd, fun H3 r rs zss S3 b3 R => ?_⟩
  have hp3 := b3 _ _ hp hpa
  walk_at "ss"
  refine ⟨_, rfl, r, rs, zss, rfl, R, fun H4 s4 => ?_⟩
  walk_at "ss"
  refine s_itF rfl ?_
  walk_at "ss"
  refine ⟨_, _, rfl, s, p, nm, rfl, rfl, S3.keep s4, hpa, s4 _ _ hp3, h24, hnm, hnd, fun H5 r5 rs5 zss5 S5 b5 R5 => ?_⟩
  have hp5 := b5 _ _ (s4 _ _ hp3) hpa
  walk_at "ss"
  refine ⟨_, rfl, r5, rs5, zss5, rfl, R5, fun H6 s6 => ?_⟩
  walk_at "ss"
  refine s_itF rfl ?_
  walk_at "ss"
  refine ⟨_, _, rfl, s, p, nm, rfl, rfl, S5.keep s6, hpa, s6 _ _ hp5, h24, hnm, hnd, fun H7 r7 rs7 zss7 S7 b7 R7 => ?_⟩
  walk_at "ss"
  exact ⟨_, rfl, r7, rs7, zss7, rfl, R7, fun H8 _ => hq H8⟩
end Rd
end
namespace Ok
open PySem PySem.Spec PyProof.Rows L2 He Hk Px Rd
structure Tx (w : World) (K : PySem.W.Frag) (mg : PySem.Str → Option Value) : Prop where
  c : SaysZ Hd.fa Hd.ex Hd.its K
  g : ∃ h : Heap, K.In h ∧ h.Ns mainGlobals mg
section
variable {w : World} {K : PySem.W.Frag} {mg : PySem.Str → Option Value}
theorem Tx.g_is_name (T : Tx w K mg) : mg "is_name" = some (.ref (ga K "is_name")) := by
  obtain ⟨h, X, G⟩ := T.g
  exact glo_ok X G (T.c.fact 0 (f := .glo "is_name") rfl)
theorem Tx.g_is_literal (T : Tx w K mg) : mg "is_literal" = some (.ref (ga K "is_literal")) := by
  obtain ⟨h, X, G⟩ := T.g
  exact glo_ok X G (T.c.fact 1 (f := .glo "is_literal") rfl)
theorem Tx.g_name_of (T : Tx w K mg) : mg "name_of" = some (.ref (ga K "name_of")) := by
  obtain ⟨h, X, G⟩ := T.g
  exact glo_ok X G (T.c.fact 2 (f := .glo "name_of") rfl)
theorem Tx.g_negated (T : Tx w K mg) : mg "negated" = some (.ref (ga K "negated")) := by
  obtain ⟨h, X, G⟩ := T.g
  exact glo_ok X G (T.c.fact 3 (f := .glo "negated") rfl)
theorem Tx.g_ordered_names (T : Tx w K mg) : mg "ordered_names" = some (.ref (ga K "ordered_names")) := by
  obtain ⟨h, X, G⟩ := T.g
  exact glo_ok X G (T.c.fact 4 (f := .glo "ordered_names") rfl)
theorem Tx.g_in_order (T : Tx w K mg) : mg "in_order" = some (.ref (ga K "in_order")) := by
  obtain ⟨h, X, G⟩ := T.g
  exact glo_ok X G (T.c.fact 5 (f := .glo "in_order") rfl)
theorem Tx.g_twice_named (T : Tx w K mg) : mg "twice_named" = some (.ref (ga K "twice_named")) := by
  obtain ⟨h, X, G⟩ := T.g
  exact glo_ok X G (T.c.fact 6 (f := .glo "twice_named") rfl)
theorem Tx.g_checked_facts (T : Tx w K mg) : mg "checked_facts" = some (.ref (ga K "checked_facts")) := by
  obtain ⟨h, X, G⟩ := T.g
  exact glo_ok X G (T.c.fact 7 (f := .glo "checked_facts") rfl)
theorem Tx.g_names_of (T : Tx w K mg) : mg "names_of" = some (.ref (ga K "names_of")) := by
  obtain ⟨h, X, G⟩ := T.g
  exact glo_ok X G (T.c.fact 8 (f := .glo "names_of") rfl)
theorem Tx.g_turned_literal (T : Tx w K mg) : mg "turned_literal" = some (.ref (ga K "turned_literal")) := by
  obtain ⟨h, X, G⟩ := T.g
  exact glo_ok X G (T.c.fact 9 (f := .glo "turned_literal") rfl)
theorem Tx.g_turned_clause (T : Tx w K mg) : mg "turned_clause" = some (.ref (ga K "turned_clause")) := by
  obtain ⟨h, X, G⟩ := T.g
  exact glo_ok X G (T.c.fact 10 (f := .glo "turned_clause") rfl)
theorem Tx.g_differing (T : Tx w K mg) : mg "differing" = some (.ref (ga K "differing")) := by
  obtain ⟨h, X, G⟩ := T.g
  exact glo_ok X G (T.c.fact 11 (f := .glo "differing") rfl)
theorem Tx.g_comes_before (T : Tx w K mg) : mg "comes_before" = some (.ref (ga K "comes_before")) := by
  obtain ⟨h, X, G⟩ := T.g
  exact glo_ok X G (T.c.fact 12 (f := .glo "comes_before") rfl)
theorem Tx.g_law_source (T : Tx w K mg) : mg "_law_source" = some (.ref (ga K "_law_source")) := by
  obtain ⟨h, X, G⟩ := T.g
  exact glo_ok X G (T.c.fact 13 (f := .glo "_law_source") rfl)
theorem Tx.g_law_take (T : Tx w K mg) : mg "_law_take" = some (.ref (ga K "_law_take")) := by
  obtain ⟨h, X, G⟩ := T.g
  exact glo_ok X G (T.c.fact 14 (f := .glo "_law_take") rfl)
theorem Tx.g_law_word (T : Tx w K mg) : mg "_law_word" = some (.ref (ga K "_law_word")) := by
  obtain ⟨h, X, G⟩ := T.g
  exact glo_ok X G (T.c.fact 15 (f := .glo "_law_word") rfl)
theorem Tx.g_law_names (T : Tx w K mg) : mg "_law_names" = some (.ref (ga K "_law_names")) := by
  obtain ⟨h, X, G⟩ := T.g
  exact glo_ok X G (T.c.fact 16 (f := .glo "_law_names") rfl)
theorem Tx.g_law_sorted (T : Tx w K mg) : mg "_law_sorted" = some (.ref (ga K "_law_sorted")) := by
  obtain ⟨h, X, G⟩ := T.g
  exact glo_ok X G (T.c.fact 17 (f := .glo "_law_sorted") rfl)
theorem Tx.g_law_same (T : Tx w K mg) : mg "_law_same" = some (.ref (ga K "_law_same")) := by
  obtain ⟨h, X, G⟩ := T.g
  exact glo_ok X G (T.c.fact 18 (f := .glo "_law_same") rfl)
theorem Tx.g_law_turning (T : Tx w K mg) : mg "_law_turning" = some (.ref (ga K "_law_turning")) := by
  obtain ⟨h, X, G⟩ := T.g
  exact glo_ok X G (T.c.fact 19 (f := .glo "_law_turning") rfl)
theorem Tx.g_law_three (T : Tx w K mg) : mg "_law_three" = some (.ref (ga K "_law_three")) := by
  obtain ⟨h, X, G⟩ := T.g
  exact glo_ok X G (T.c.fact 20 (f := .glo "_law_three") rfl)
theorem Tx.g_law_large (T : Tx w K mg) : mg "_law_large" = some (.ref (ga K "_law_large")) := by
  obtain ⟨h, X, G⟩ := T.g
  exact glo_ok X G (T.c.fact 21 (f := .glo "_law_large") rfl)
theorem Tx.g_law_wide (T : Tx w K mg) : mg "_law_wide" = some (.ref (ga K "_law_wide")) := by
  obtain ⟨h, X, G⟩ := T.g
  exact glo_ok X G (T.c.fact 22 (f := .glo "_law_wide") rfl)
theorem Tx.g_law_before (T : Tx w K mg) : mg "_law_before" = some (.ref (ga K "_law_before")) := by
  obtain ⟨h, X, G⟩ := T.g
  exact glo_ok X G (T.c.fact 23 (f := .glo "_law_before") rfl)
theorem Tx.g_law_compared (T : Tx w K mg) : mg "_law_compared" = some (.ref (ga K "_law_compared")) := by
  obtain ⟨h, X, G⟩ := T.g
  exact glo_ok X G (T.c.fact 24 (f := .glo "_law_compared") rfl)
theorem Tx.g_law_median (T : Tx w K mg) : mg "_law_median" = some (.ref (ga K "_law_median")) := by
  obtain ⟨h, X, G⟩ := T.g
  exact glo_ok X G (T.c.fact 25 (f := .glo "_law_median") rfl)
theorem Tx.g_law_median_due (T : Tx w K mg) : mg "_law_median_due" = some (.ref (ga K "_law_median_due")) := by
  obtain ⟨h, X, G⟩ := T.g
  exact glo_ok X G (T.c.fact 26 (f := .glo "_law_median_due") rfl)
theorem Tx.g_law_asked (T : Tx w K mg) : mg "_law_asked" = some (.ref (ga K "_law_asked")) := by
  obtain ⟨h, X, G⟩ := T.g
  exact glo_ok X G (T.c.fact 27 (f := .glo "_law_asked") rfl)
theorem Tx.g_law (T : Tx w K mg) : mg "law" = some (.ref (ga K "law")) := by
  obtain ⟨h, X, G⟩ := T.g
  exact glo_ok X G (T.c.fact 28 (f := .glo "law") rfl)
theorem Tx.g_Clause (T : Tx w K mg) : mg "Clause" = some (.ref (ga K "Clause")) := by
  obtain ⟨h, X, G⟩ := T.g
  exact glo_ok X G (T.c.fact 29 (f := .glo "Clause") rfl)
theorem Tx.cls_Clause (T : Tx w K mg) : Cls K (ga K "Clause") := cls_ok (T.c.fact 30 (f := .cls "Clause") rfl)
theorem Tx.mk_Clause (T : Tx w K mg) : Mk K (ga K "Clause") (ma K (ga K "Clause") "__init__") := mkr_ok (T.c.fact 31 (f := .mkr "Clause") rfl)
theorem Tx.no_Clause_literals (T : Tx w K mg) : NoAttr K (ga K "Clause") "literals" := noat_ok (T.c.fact 32 (f := .noat "Clause" "literals") rfl)
theorem Tx.g_Turning (T : Tx w K mg) : mg "Turning" = some (.ref (ga K "Turning")) := by
  obtain ⟨h, X, G⟩ := T.g
  exact glo_ok X G (T.c.fact 33 (f := .glo "Turning") rfl)
theorem Tx.cls_Turning (T : Tx w K mg) : Cls K (ga K "Turning") := cls_ok (T.c.fact 34 (f := .cls "Turning") rfl)
theorem Tx.mk_Turning (T : Tx w K mg) : Mk K (ga K "Turning") (ma K (ga K "Turning") "__init__") := mkr_ok (T.c.fact 35 (f := .mkr "Turning") rfl)
theorem Tx.no_Turning_turned (T : Tx w K mg) : NoAttr K (ga K "Turning") "turned" := noat_ok (T.c.fact 36 (f := .noat "Turning" "turned") rfl)
theorem Tx.g_HornError (T : Tx w K mg) : mg "HornError" = some (.ref (ga K "HornError")) := by
  obtain ⟨h, X, G⟩ := T.g
  exact glo_ok X G (T.c.fact 37 (f := .glo "HornError") rfl)
theorem Tx.g_BadName (T : Tx w K mg) : mg "BadName" = some (.ref (ga K "BadName")) := by
  obtain ⟨h, X, G⟩ := T.g
  exact glo_ok X G (T.c.fact 38 (f := .glo "BadName") rfl)
theorem Tx.g_BadLiteral (T : Tx w K mg) : mg "BadLiteral" = some (.ref (ga K "BadLiteral")) := by
  obtain ⟨h, X, G⟩ := T.g
  exact glo_ok X G (T.c.fact 39 (f := .glo "BadLiteral") rfl)
theorem Tx.g_BothSigns (T : Tx w K mg) : mg "BothSigns" = some (.ref (ga K "BothSigns")) := by
  obtain ⟨h, X, G⟩ := T.g
  exact glo_ok X G (T.c.fact 40 (f := .glo "BothSigns") rfl)
theorem Tx.g_TooMany (T : Tx w K mg) : mg "TooMany" = some (.ref (ga K "TooMany")) := by
  obtain ⟨h, X, G⟩ := T.g
  exact glo_ok X G (T.c.fact 41 (f := .glo "TooMany") rfl)
theorem Tx.c_LETTERS (T : Tx w K mg) : ∃ t, mg "LETTERS" = some (.str "abcdefghijklmnopqrstuvwxyz" t) := by
  obtain ⟨h, X, G⟩ := T.g
  exact str_ok X G (T.c.fact 42 (f := .str "LETTERS" "abcdefghijklmnopqrstuvwxyz") rfl)
theorem Tx.c_SIGNS (T : Tx w K mg) : ∃ t, mg "SIGNS" = some (.str "abcdefghijklmnopqrstuvwxyz0123456789" t) := by
  obtain ⟨h, X, G⟩ := T.g
  exact str_ok X G (T.c.fact 43 (f := .str "SIGNS" "abcdefghijklmnopqrstuvwxyz0123456789") rfl)
theorem Tx.c_NAME_SIZE (T : Tx w K mg) : ∃ t, mg "NAME_SIZE" = some (.int 8 t) := by
  obtain ⟨h, X, G⟩ := T.g
  exact int_ok X G (T.c.fact 44 (f := .int "NAME_SIZE" 8) rfl)
theorem Tx.f_NotImplemented (T : Tx w K mg) : mg "NotImplemented" = none := by
  obtain ⟨h, X, G⟩ := T.g
  exact free_ok X G (T.c.fact 45 (f := .free "NotImplemented") rfl)
theorem Tx.f_ValueError (T : Tx w K mg) : mg "ValueError" = none := by
  obtain ⟨h, X, G⟩ := T.g
  exact free_ok X G (T.c.fact 46 (f := .free "ValueError") rfl)
theorem Tx.f_all (T : Tx w K mg) : mg "all" = none := by
  obtain ⟨h, X, G⟩ := T.g
  exact free_ok X G (T.c.fact 47 (f := .free "all") rfl)
theorem Tx.f_bool (T : Tx w K mg) : mg "bool" = none := by
  obtain ⟨h, X, G⟩ := T.g
  exact free_ok X G (T.c.fact 48 (f := .free "bool") rfl)
theorem Tx.f_int (T : Tx w K mg) : mg "int" = none := by
  obtain ⟨h, X, G⟩ := T.g
  exact free_ok X G (T.c.fact 49 (f := .free "int") rfl)
theorem Tx.f_isinstance (T : Tx w K mg) : mg "isinstance" = none := by
  obtain ⟨h, X, G⟩ := T.g
  exact free_ok X G (T.c.fact 50 (f := .free "isinstance") rfl)
theorem Tx.f_iter (T : Tx w K mg) : mg "iter" = none := by
  obtain ⟨h, X, G⟩ := T.g
  exact free_ok X G (T.c.fact 51 (f := .free "iter") rfl)
theorem Tx.f_len (T : Tx w K mg) : mg "len" = none := by
  obtain ⟨h, X, G⟩ := T.g
  exact free_ok X G (T.c.fact 52 (f := .free "len") rfl)
theorem Tx.f_list (T : Tx w K mg) : mg "list" = none := by
  obtain ⟨h, X, G⟩ := T.g
  exact free_ok X G (T.c.fact 53 (f := .free "list") rfl)
theorem Tx.f_property (T : Tx w K mg) : mg "property" = none := by
  obtain ⟨h, X, G⟩ := T.g
  exact free_ok X G (T.c.fact 54 (f := .free "property") rfl)
theorem Tx.f_range (T : Tx w K mg) : mg "range" = none := by
  obtain ⟨h, X, G⟩ := T.g
  exact free_ok X G (T.c.fact 55 (f := .free "range") rfl)
theorem Tx.f_sorted (T : Tx w K mg) : mg "sorted" = none := by
  obtain ⟨h, X, G⟩ := T.g
  exact free_ok X G (T.c.fact 56 (f := .free "sorted") rfl)
theorem Tx.f_staticmethod (T : Tx w K mg) : mg "staticmethod" = none := by
  obtain ⟨h, X, G⟩ := T.g
  exact free_ok X G (T.c.fact 57 (f := .free "staticmethod") rfl)
theorem Tx.f_str (T : Tx w K mg) : mg "str" = none := by
  obtain ⟨h, X, G⟩ := T.g
  exact free_ok X G (T.c.fact 58 (f := .free "str") rfl)
theorem Tx.f_tuple (T : Tx w K mg) : mg "tuple" = none := by
  obtain ⟨h, X, G⟩ := T.g
  exact free_ok X G (T.c.fact 59 (f := .free "tuple") rfl)
theorem Tx.exm_BadName_TooMany (T : Tx w K mg) : PySem.W.exmOne K (.ref (ga K "BadName")) (.ref (ga K "TooMany")) = some false := exm_ok (T.c.fact 60 (f := .exm "BadName" "TooMany" false) rfl)
theorem Tx.exm_BadLiteral_TooMany (T : Tx w K mg) : PySem.W.exmOne K (.ref (ga K "BadLiteral")) (.ref (ga K "TooMany")) = some false := exm_ok (T.c.fact 61 (f := .exm "BadLiteral" "TooMany" false) rfl)
theorem Tx.exm_BothSigns_TooMany (T : Tx w K mg) : PySem.W.exmOne K (.ref (ga K "BothSigns")) (.ref (ga K "TooMany")) = some false := exm_ok (T.c.fact 62 (f := .exm "BothSigns" "TooMany" false) rfl)
theorem Tx.exm_TooMany_TooMany (T : Tx w K mg) : PySem.W.exmOne K (.ref (ga K "TooMany")) (.ref (ga K "TooMany")) = some true := exm_ok (T.c.fact 63 (f := .exm "TooMany" "TooMany" true) rfl)
theorem Tx.own_Clause_iter (T : Tx w K mg) : Cl.OwnOp K (ga K "Clause") "__iter__" (ma K (ga K "Clause") "__iter__") := ownB_ok (T.c.more 0 (f := fun K => Hk.ownB K (ga K "Clause") "__iter__") rfl)
theorem Tx.own_Clause_len (T : Tx w K mg) : Cl.OwnOp K (ga K "Clause") "__len__" (ma K (ga K "Clause") "__len__") := ownB_ok (T.c.more 1 (f := fun K => Hk.ownB K (ga K "Clause") "__len__") rfl)
theorem Tx.own_Clause_contains (T : Tx w K mg) : Cl.OwnOp K (ga K "Clause") "__contains__" (ma K (ga K "Clause") "__contains__") := ownB_ok (T.c.more 2 (f := fun K => Hk.ownB K (ga K "Clause") "__contains__") rfl)
theorem Tx.own_Clause_eq (T : Tx w K mg) : Cl.OwnOp K (ga K "Clause") "__eq__" (ma K (ga K "Clause") "__eq__") := ownB_ok (T.c.more 3 (f := fun K => Hk.ownB K (ga K "Clause") "__eq__") rfl)
theorem Tx.own_Clause_le (T : Tx w K mg) : Cl.OwnOp K (ga K "Clause") "__le__" (ma K (ga K "Clause") "__le__") := ownB_ok (T.c.more 4 (f := fun K => Hk.ownB K (ga K "Clause") "__le__") rfl)
theorem Tx.own_Clause_lt (T : Tx w K mg) : Cl.OwnOp K (ga K "Clause") "__lt__" (ma K (ga K "Clause") "__lt__") := ownB_ok (T.c.more 5 (f := fun K => Hk.ownB K (ga K "Clause") "__lt__") rfl)
theorem Tx.own_Clause_or (T : Tx w K mg) : Cl.OwnOp K (ga K "Clause") "__or__" (ma K (ga K "Clause") "__or__") := ownB_ok (T.c.more 6 (f := fun K => Hk.ownB K (ga K "Clause") "__or__") rfl)
theorem Tx.own_Clause_and (T : Tx w K mg) : Cl.OwnOp K (ga K "Clause") "__and__" (ma K (ga K "Clause") "__and__") := ownB_ok (T.c.more 7 (f := fun K => Hk.ownB K (ga K "Clause") "__and__") rfl)
theorem Tx.own_Clause_sub (T : Tx w K mg) : Cl.OwnOp K (ga K "Clause") "__sub__" (ma K (ga K "Clause") "__sub__") := ownB_ok (T.c.more 8 (f := fun K => Hk.ownB K (ga K "Clause") "__sub__") rfl)
theorem Tx.own_Clause_str (T : Tx w K mg) : Cl.OwnOp K (ga K "Clause") "__str__" (ma K (ga K "Clause") "__str__") := ownB_ok (T.c.more 9 (f := fun K => Hk.ownB K (ga K "Clause") "__str__") rfl)
theorem Tx.own_Turning_call (T : Tx w K mg) : Cl.OwnOp K (ga K "Turning") "__call__" (ma K (ga K "Turning") "__call__") := ownB_ok (T.c.more 10 (f := fun K => Hk.ownB K (ga K "Turning") "__call__") rfl)
theorem Tx.own_Turning_iter (T : Tx w K mg) : Cl.OwnOp K (ga K "Turning") "__iter__" (ma K (ga K "Turning") "__iter__") := ownB_ok (T.c.more 11 (f := fun K => Hk.ownB K (ga K "Turning") "__iter__") rfl)
theorem Tx.own_Turning_len (T : Tx w K mg) : Cl.OwnOp K (ga K "Turning") "__len__" (ma K (ga K "Turning") "__len__") := ownB_ok (T.c.more 12 (f := fun K => Hk.ownB K (ga K "Turning") "__len__") rfl)
theorem Tx.own_Turning_contains (T : Tx w K mg) : Cl.OwnOp K (ga K "Turning") "__contains__" (ma K (ga K "Turning") "__contains__") := ownB_ok (T.c.more 13 (f := fun K => Hk.ownB K (ga K "Turning") "__contains__") rfl)
theorem Tx.own_Turning_getitem (T : Tx w K mg) : Cl.OwnOp K (ga K "Turning") "__getitem__" (ma K (ga K "Turning") "__getitem__") := ownB_ok (T.c.more 14 (f := fun K => Hk.ownB K (ga K "Turning") "__getitem__") rfl)
theorem Tx.own_Turning_eq (T : Tx w K mg) : Cl.OwnOp K (ga K "Turning") "__eq__" (ma K (ga K "Turning") "__eq__") := ownB_ok (T.c.more 15 (f := fun K => Hk.ownB K (ga K "Turning") "__eq__") rfl)
theorem Tx.own_Turning_lt (T : Tx w K mg) : Cl.OwnOp K (ga K "Turning") "__lt__" (ma K (ga K "Turning") "__lt__") := ownB_ok (T.c.more 16 (f := fun K => Hk.ownB K (ga K "Turning") "__lt__") rfl)
theorem Tx.own_Turning_le (T : Tx w K mg) : Cl.OwnOp K (ga K "Turning") "__le__" (ma K (ga K "Turning") "__le__") := ownB_ok (T.c.more 17 (f := fun K => Hk.ownB K (ga K "Turning") "__le__") rfl)
theorem Tx.own_Turning_gt (T : Tx w K mg) : Cl.OwnOp K (ga K "Turning") "__gt__" (ma K (ga K "Turning") "__gt__") := ownB_ok (T.c.more 18 (f := fun K => Hk.ownB K (ga K "Turning") "__gt__") rfl)
theorem Tx.own_Turning_ge (T : Tx w K mg) : Cl.OwnOp K (ga K "Turning") "__ge__" (ma K (ga K "Turning") "__ge__") := ownB_ok (T.c.more 19 (f := fun K => Hk.ownB K (ga K "Turning") "__ge__") rfl)
theorem Tx.own_Turning_xor (T : Tx w K mg) : Cl.OwnOp K (ga K "Turning") "__xor__" (ma K (ga K "Turning") "__xor__") := ownB_ok (T.c.more 20 (f := fun K => Hk.ownB K (ga K "Turning") "__xor__") rfl)
theorem Tx.own_Turning_and (T : Tx w K mg) : Cl.OwnOp K (ga K "Turning") "__and__" (ma K (ga K "Turning") "__and__") := ownB_ok (T.c.more 21 (f := fun K => Hk.ownB K (ga K "Turning") "__and__") rfl)
theorem Tx.own_Turning_or (T : Tx w K mg) : Cl.OwnOp K (ga K "Turning") "__or__" (ma K (ga K "Turning") "__or__") := ownB_ok (T.c.more 22 (f := fun K => Hk.ownB K (ga K "Turning") "__or__") rfl)
theorem Tx.own_Turning_sub (T : Tx w K mg) : Cl.OwnOp K (ga K "Turning") "__sub__" (ma K (ga K "Turning") "__sub__") := ownB_ok (T.c.more 23 (f := fun K => Hk.ownB K (ga K "Turning") "__sub__") rfl)
theorem Tx.own_Turning_str (T : Tx w K mg) : Cl.OwnOp K (ga K "Turning") "__str__" (ma K (ga K "Turning") "__str__") := ownB_ok (T.c.more 24 (f := fun K => Hk.ownB K (ga K "Turning") "__str__") rfl)
theorem Tx.prop_Clause_names (T : Tx w K mg) : PropOf K (ga K "Clause") "names" (ma K (ga K "Clause") "names") (He5.wf K (ga K "Clause") "property" "names") := propB_ok (T.c.more 25 (f := fun K => Hk.propB K (ga K "Clause") "names") rfl)
theorem Tx.smet_Turning_median (T : Tx w K mg) : Cl.SMet K (ga K "Turning") "median" (ma K (ga K "Turning") "median") (He5.wf K (ga K "Turning") "staticmethod" "median") := smetB_ok (T.c.more 26 (f := fun K => Hk.smetB K (ga K "Turning") "median") rfl)
theorem Tx.ins_Clause (T : Tx w K mg) : InsK K (ga K "Clause") := insKB_ok T.cls_Clause (T.c.more 27 (f := fun K => Hk.insKB K (ga K "Clause")) rfl)
theorem Tx.kit_str_Clause (T : Tx w K mg) : PySem.W.kitOne K (.type "str") (.ref (ga K "Clause")) = some false := kitB_ok (T.c.more 28 (f := fun K => Hk.kitB K (.type "str") (.ref (ga K "Clause")) false) rfl)
theorem Tx.kit_Clause_Clause (T : Tx w K mg) : PySem.W.kitOne K (.ref (ga K "Clause")) (.ref (ga K "Clause")) = some true := kitB_ok (T.c.more 29 (f := fun K => Hk.kitB K (.ref (ga K "Clause")) (.ref (ga K "Clause")) true) rfl)
theorem Tx.kit_Clause_Turning (T : Tx w K mg) : PySem.W.kitOne K (.ref (ga K "Clause")) (.ref (ga K "Turning")) = some false := kitB_ok (T.c.more 30 (f := fun K => Hk.kitB K (.ref (ga K "Clause")) (.ref (ga K "Turning")) false) rfl)
theorem Tx.con_Clause_LIMIT (T : Tx w K mg) : ∃ u, Con K (ga K "Clause") "LIMIT" (.int 6) u := conB_ok (T.c.more 31 (f := fun K => Hk.conB K (ga K "Clause") "LIMIT" 6) rfl) (by decide +kernel)
theorem Tx.cv_Clause_LIMIT (T : Tx w K mg) : ClX.CRead K (ga K "Clause") (.type "type") ∧ ∃ u, ClX.CVal K (ga K "Clause") (.type "type") "LIMIT" (.int 6) u := cvalB_ok (T.c.more 32 (f := fun K => Hk.cvalB K (ga K "Clause") "LIMIT" 6) rfl)
theorem Tx.ins_Turning (T : Tx w K mg) : InsK K (ga K "Turning") := insKB_ok T.cls_Turning (T.c.more 33 (f := fun K => Hk.insKB K (ga K "Turning")) rfl)
theorem Tx.kit_str_Turning (T : Tx w K mg) : PySem.W.kitOne K (.type "str") (.ref (ga K "Turning")) = some false := kitB_ok (T.c.more 34 (f := fun K => Hk.kitB K (.type "str") (.ref (ga K "Turning")) false) rfl)
theorem Tx.kit_Turning_Clause (T : Tx w K mg) : PySem.W.kitOne K (.ref (ga K "Turning")) (.ref (ga K "Clause")) = some false := kitB_ok (T.c.more 35 (f := fun K => Hk.kitB K (.ref (ga K "Turning")) (.ref (ga K "Clause")) false) rfl)
theorem Tx.kit_Turning_Turning (T : Tx w K mg) : PySem.W.kitOne K (.ref (ga K "Turning")) (.ref (ga K "Turning")) = some true := kitB_ok (T.c.more 36 (f := fun K => Hk.kitB K (.ref (ga K "Turning")) (.ref (ga K "Turning")) true) rfl)
theorem Tx.con_Turning_LIMIT (T : Tx w K mg) : ∃ u, Con K (ga K "Turning") "LIMIT" (.int 12) u := conB_ok (T.c.more 37 (f := fun K => Hk.conB K (ga K "Turning") "LIMIT" 12) rfl) (by decide +kernel)
theorem Tx.cv_Turning_LIMIT (T : Tx w K mg) : ClX.CRead K (ga K "Turning") (.type "type") ∧ ∃ u, ClX.CVal K (ga K "Turning") (.type "type") "LIMIT" (.int 12) u := cvalB_ok (T.c.more 38 (f := fun K => Hk.cvalB K (ga K "Turning") "LIMIT" 12) rfl)
theorem Tx.excC_TooMany (T : Tx w K mg) : ExcC K (ga K "TooMany") := excCB_ok (T.c.more 39 (f := fun K => excCB K (ga K "TooMany")) rfl)
theorem Tx.kit_TooMany_HornError (T : Tx w K mg) : PySem.W.kitOne K (.ref (ga K "TooMany")) (.ref (ga K "HornError")) = some true := kitB_ok (T.c.more 40 (f := fun K => Hk.kitB K (.ref (ga K "TooMany")) (.ref (ga K "HornError")) true) rfl)
theorem Tx.kit_TooMany_ValueError (T : Tx w K mg) : PySem.W.kitOne K (.ref (ga K "TooMany")) (.type "ValueError") = some true := kitB_ok (T.c.more 41 (f := fun K => Hk.kitB K (.ref (ga K "TooMany")) (.type "ValueError") true) rfl)
theorem Tx.kit_TooMany_BadName (T : Tx w K mg) : PySem.W.kitOne K (.ref (ga K "TooMany")) (.ref (ga K "BadName")) = some false := kitB_ok (T.c.more 42 (f := fun K => Hk.kitB K (.ref (ga K "TooMany")) (.ref (ga K "BadName")) false) rfl)
theorem Tx.fn_is_name (T : Tx w K mg) : FunD K Hd.d_is_name.name Hd.d_is_name.qual (defArgs Hd.s_is_name) (defBody Hd.s_is_name) (defScope Hd.s_is_name) [] [] (Hd.d_is_name.at_ K) (fdOf K (Hd.d_is_name.at_ K)) := T.c.fn 0 (d := Hd.d_is_name) rfl
theorem Tx.fn_is_literal (T : Tx w K mg) : FunD K Hd.d_is_literal.name Hd.d_is_literal.qual (defArgs Hd.s_is_literal) (defBody Hd.s_is_literal) (defScope Hd.s_is_literal) [] [] (Hd.d_is_literal.at_ K) (fdOf K (Hd.d_is_literal.at_ K)) := T.c.fn 1 (d := Hd.d_is_literal) rfl
theorem Tx.fn_name_of (T : Tx w K mg) : FunD K Hd.d_name_of.name Hd.d_name_of.qual (defArgs Hd.s_name_of) (defBody Hd.s_name_of) (defScope Hd.s_name_of) [] [] (Hd.d_name_of.at_ K) (fdOf K (Hd.d_name_of.at_ K)) := T.c.fn 2 (d := Hd.d_name_of) rfl
theorem Tx.fn_negated (T : Tx w K mg) : FunD K Hd.d_negated.name Hd.d_negated.qual (defArgs Hd.s_negated) (defBody Hd.s_negated) (defScope Hd.s_negated) [] [] (Hd.d_negated.at_ K) (fdOf K (Hd.d_negated.at_ K)) := T.c.fn 3 (d := Hd.d_negated) rfl
theorem Tx.fn_ordered_names (T : Tx w K mg) : FunD K Hd.d_ordered_names.name Hd.d_ordered_names.qual (defArgs Hd.s_ordered_names) (defBody Hd.s_ordered_names) (defScope Hd.s_ordered_names) [] [] (Hd.d_ordered_names.at_ K) (fdOf K (Hd.d_ordered_names.at_ K)) := T.c.fn 4 (d := Hd.d_ordered_names) rfl
theorem Tx.fn_in_order (T : Tx w K mg) : FunD K Hd.d_in_order.name Hd.d_in_order.qual (defArgs Hd.s_in_order) (defBody Hd.s_in_order) (defScope Hd.s_in_order) [] [] (Hd.d_in_order.at_ K) (fdOf K (Hd.d_in_order.at_ K)) := T.c.fn 5 (d := Hd.d_in_order) rfl
theorem Tx.fn_twice_named (T : Tx w K mg) : FunD K Hd.d_twice_named.name Hd.d_twice_named.qual (defArgs Hd.s_twice_named) (defBody Hd.s_twice_named) (defScope Hd.s_twice_named) [] [] (Hd.d_twice_named.at_ K) (fdOf K (Hd.d_twice_named.at_ K)) := T.c.fn 6 (d := Hd.d_twice_named) rfl
theorem Tx.fn_checked_facts (T : Tx w K mg) : FunD K Hd.d_checked_facts.name Hd.d_checked_facts.qual (defArgs Hd.s_checked_facts) (defBody Hd.s_checked_facts) (defScope Hd.s_checked_facts) [] [] (Hd.d_checked_facts.at_ K) (fdOf K (Hd.d_checked_facts.at_ K)) := T.c.fn 7 (d := Hd.d_checked_facts) rfl
theorem Tx.fn_names_of (T : Tx w K mg) : FunD K Hd.d_names_of.name Hd.d_names_of.qual (defArgs Hd.s_names_of) (defBody Hd.s_names_of) (defScope Hd.s_names_of) [] [] (Hd.d_names_of.at_ K) (fdOf K (Hd.d_names_of.at_ K)) := T.c.fn 8 (d := Hd.d_names_of) rfl
theorem Tx.fn_turned_literal (T : Tx w K mg) : FunD K Hd.d_turned_literal.name Hd.d_turned_literal.qual (defArgs Hd.s_turned_literal) (defBody Hd.s_turned_literal) (defScope Hd.s_turned_literal) [] [] (Hd.d_turned_literal.at_ K) (fdOf K (Hd.d_turned_literal.at_ K)) := T.c.fn 9 (d := Hd.d_turned_literal) rfl
theorem Tx.fn_turned_clause (T : Tx w K mg) : FunD K Hd.d_turned_clause.name Hd.d_turned_clause.qual (defArgs Hd.s_turned_clause) (defBody Hd.s_turned_clause) (defScope Hd.s_turned_clause) [] [] (Hd.d_turned_clause.at_ K) (fdOf K (Hd.d_turned_clause.at_ K)) := T.c.fn 10 (d := Hd.d_turned_clause) rfl
theorem Tx.fn_differing (T : Tx w K mg) : FunD K Hd.d_differing.name Hd.d_differing.qual (defArgs Hd.s_differing) (defBody Hd.s_differing) (defScope Hd.s_differing) [] [] (Hd.d_differing.at_ K) (fdOf K (Hd.d_differing.at_ K)) := T.c.fn 11 (d := Hd.d_differing) rfl
theorem Tx.fn_comes_before (T : Tx w K mg) : FunD K Hd.d_comes_before.name Hd.d_comes_before.qual (defArgs Hd.s_comes_before) (defBody Hd.s_comes_before) (defScope Hd.s_comes_before) [] [] (Hd.d_comes_before.at_ K) (fdOf K (Hd.d_comes_before.at_ K)) := T.c.fn 12 (d := Hd.d_comes_before) rfl
theorem Tx.fn_law_source (T : Tx w K mg) : FunD K Hd.d_law_source.name Hd.d_law_source.qual (defArgs Hd.s_law_source) (defBody Hd.s_law_source) (defScope Hd.s_law_source) [] [] (Hd.d_law_source.at_ K) (fdOf K (Hd.d_law_source.at_ K)) := T.c.fn 13 (d := Hd.d_law_source) rfl
theorem Tx.fn_law_take (T : Tx w K mg) : FunD K Hd.d_law_take.name Hd.d_law_take.qual (defArgs Hd.s_law_take) (defBody Hd.s_law_take) (defScope Hd.s_law_take) [] [] (Hd.d_law_take.at_ K) (fdOf K (Hd.d_law_take.at_ K)) := T.c.fn 14 (d := Hd.d_law_take) rfl
theorem Tx.fn_law_word (T : Tx w K mg) : FunD K Hd.d_law_word.name Hd.d_law_word.qual (defArgs Hd.s_law_word) (defBody Hd.s_law_word) (defScope Hd.s_law_word) [] [] (Hd.d_law_word.at_ K) (fdOf K (Hd.d_law_word.at_ K)) := T.c.fn 15 (d := Hd.d_law_word) rfl
theorem Tx.fn_law_names (T : Tx w K mg) : FunD K Hd.d_law_names.name Hd.d_law_names.qual (defArgs Hd.s_law_names) (defBody Hd.s_law_names) (defScope Hd.s_law_names) [] [] (Hd.d_law_names.at_ K) (fdOf K (Hd.d_law_names.at_ K)) := T.c.fn 16 (d := Hd.d_law_names) rfl
theorem Tx.fn_law_sorted (T : Tx w K mg) : FunD K Hd.d_law_sorted.name Hd.d_law_sorted.qual (defArgs Hd.s_law_sorted) (defBody Hd.s_law_sorted) (defScope Hd.s_law_sorted) [] [] (Hd.d_law_sorted.at_ K) (fdOf K (Hd.d_law_sorted.at_ K)) := T.c.fn 17 (d := Hd.d_law_sorted) rfl
theorem Tx.fn_law_same (T : Tx w K mg) : FunD K Hd.d_law_same.name Hd.d_law_same.qual (defArgs Hd.s_law_same) (defBody Hd.s_law_same) (defScope Hd.s_law_same) [] [] (Hd.d_law_same.at_ K) (fdOf K (Hd.d_law_same.at_ K)) := T.c.fn 18 (d := Hd.d_law_same) rfl
theorem Tx.fn_law_turning (T : Tx w K mg) : FunD K Hd.d_law_turning.name Hd.d_law_turning.qual (defArgs Hd.s_law_turning) (defBody Hd.s_law_turning) (defScope Hd.s_law_turning) [] [] (Hd.d_law_turning.at_ K) (fdOf K (Hd.d_law_turning.at_ K)) := T.c.fn 19 (d := Hd.d_law_turning) rfl
theorem Tx.fn_law_three (T : Tx w K mg) : FunD K Hd.d_law_three.name Hd.d_law_three.qual (defArgs Hd.s_law_three) (defBody Hd.s_law_three) (defScope Hd.s_law_three) [] [] (Hd.d_law_three.at_ K) (fdOf K (Hd.d_law_three.at_ K)) := T.c.fn 20 (d := Hd.d_law_three) rfl
theorem Tx.fn_law_large (T : Tx w K mg) : FunD K Hd.d_law_large.name Hd.d_law_large.qual (defArgs Hd.s_law_large) (defBody Hd.s_law_large) (defScope Hd.s_law_large) [] [] (Hd.d_law_large.at_ K) (fdOf K (Hd.d_law_large.at_ K)) := T.c.fn 21 (d := Hd.d_law_large) rfl
theorem Tx.fn_law_wide (T : Tx w K mg) : FunD K Hd.d_law_wide.name Hd.d_law_wide.qual (defArgs Hd.s_law_wide) (defBody Hd.s_law_wide) (defScope Hd.s_law_wide) [] [] (Hd.d_law_wide.at_ K) (fdOf K (Hd.d_law_wide.at_ K)) := T.c.fn 22 (d := Hd.d_law_wide) rfl
theorem Tx.fn_law_before (T : Tx w K mg) : FunD K Hd.d_law_before.name Hd.d_law_before.qual (defArgs Hd.s_law_before) (defBody Hd.s_law_before) (defScope Hd.s_law_before) [] [] (Hd.d_law_before.at_ K) (fdOf K (Hd.d_law_before.at_ K)) := T.c.fn 23 (d := Hd.d_law_before) rfl
theorem Tx.fn_law_compared (T : Tx w K mg) : FunD K Hd.d_law_compared.name Hd.d_law_compared.qual (defArgs Hd.s_law_compared) (defBody Hd.s_law_compared) (defScope Hd.s_law_compared) [] [] (Hd.d_law_compared.at_ K) (fdOf K (Hd.d_law_compared.at_ K)) := T.c.fn 24 (d := Hd.d_law_compared) rfl
theorem Tx.fn_law_median (T : Tx w K mg) : FunD K Hd.d_law_median.name Hd.d_law_median.qual (defArgs Hd.s_law_median) (defBody Hd.s_law_median) (defScope Hd.s_law_median) [] [] (Hd.d_law_median.at_ K) (fdOf K (Hd.d_law_median.at_ K)) := T.c.fn 25 (d := Hd.d_law_median) rfl
theorem Tx.fn_law_median_due (T : Tx w K mg) : FunD K Hd.d_law_median_due.name Hd.d_law_median_due.qual (defArgs Hd.s_law_median_due) (defBody Hd.s_law_median_due) (defScope Hd.s_law_median_due) [] [] (Hd.d_law_median_due.at_ K) (fdOf K (Hd.d_law_median_due.at_ K)) := T.c.fn 26 (d := Hd.d_law_median_due) rfl
theorem Tx.fn_law_asked (T : Tx w K mg) : FunD K Hd.d_law_asked.name Hd.d_law_asked.qual (defArgs Hd.s_law_asked) (defBody Hd.s_law_asked) (defScope Hd.s_law_asked) [] [] (Hd.d_law_asked.at_ K) (fdOf K (Hd.d_law_asked.at_ K)) := T.c.fn 27 (d := Hd.d_law_asked) rfl
theorem Tx.fn_law (T : Tx w K mg) : FunD K Hd.d_law.name Hd.d_law.qual (defArgs Hd.s_law) (defBody Hd.s_law) (defScope Hd.s_law) [] [] (Hd.d_law.at_ K) (fdOf K (Hd.d_law.at_ K)) := T.c.fn 28 (d := Hd.d_law) rfl
theorem Tx.fn_Clause_init (T : Tx w K mg) : FunD K Hd.d_Clause_init.name Hd.d_Clause_init.qual (defArgs Hd.s_Clause_init) (defBody Hd.s_Clause_init) (defScope Hd.s_Clause_init) [] [] (Hd.d_Clause_init.at_ K) (fdOf K (Hd.d_Clause_init.at_ K)) := T.c.fn 29 (d := Hd.d_Clause_init) rfl
theorem Tx.fn_Clause_names (T : Tx w K mg) : FunD K Hd.d_Clause_names.name Hd.d_Clause_names.qual (defArgs Hd.s_Clause_names) (defBody Hd.s_Clause_names) (defScope Hd.s_Clause_names) [] [] (Hd.d_Clause_names.at_ K) (fdOf K (Hd.d_Clause_names.at_ K)) := T.c.fn 30 (d := Hd.d_Clause_names) rfl
theorem Tx.fn_Clause_iter (T : Tx w K mg) : FunD K Hd.d_Clause_iter.name Hd.d_Clause_iter.qual (defArgs Hd.s_Clause_iter) (defBody Hd.s_Clause_iter) (defScope Hd.s_Clause_iter) [] [] (Hd.d_Clause_iter.at_ K) (fdOf K (Hd.d_Clause_iter.at_ K)) := T.c.fn 31 (d := Hd.d_Clause_iter) rfl
theorem Tx.fn_Clause_len (T : Tx w K mg) : FunD K Hd.d_Clause_len.name Hd.d_Clause_len.qual (defArgs Hd.s_Clause_len) (defBody Hd.s_Clause_len) (defScope Hd.s_Clause_len) [] [] (Hd.d_Clause_len.at_ K) (fdOf K (Hd.d_Clause_len.at_ K)) := T.c.fn 32 (d := Hd.d_Clause_len) rfl
theorem Tx.fn_Clause_contains (T : Tx w K mg) : FunD K Hd.d_Clause_contains.name Hd.d_Clause_contains.qual (defArgs Hd.s_Clause_contains) (defBody Hd.s_Clause_contains) (defScope Hd.s_Clause_contains) [] [] (Hd.d_Clause_contains.at_ K) (fdOf K (Hd.d_Clause_contains.at_ K)) := T.c.fn 33 (d := Hd.d_Clause_contains) rfl
theorem Tx.fn_Clause_eq (T : Tx w K mg) : FunD K Hd.d_Clause_eq.name Hd.d_Clause_eq.qual (defArgs Hd.s_Clause_eq) (defBody Hd.s_Clause_eq) (defScope Hd.s_Clause_eq) [] [] (Hd.d_Clause_eq.at_ K) (fdOf K (Hd.d_Clause_eq.at_ K)) := T.c.fn 34 (d := Hd.d_Clause_eq) rfl
theorem Tx.fn_Clause_le (T : Tx w K mg) : FunD K Hd.d_Clause_le.name Hd.d_Clause_le.qual (defArgs Hd.s_Clause_le) (defBody Hd.s_Clause_le) (defScope Hd.s_Clause_le) [] [] (Hd.d_Clause_le.at_ K) (fdOf K (Hd.d_Clause_le.at_ K)) := T.c.fn 35 (d := Hd.d_Clause_le) rfl
theorem Tx.fn_Clause_lt (T : Tx w K mg) : FunD K Hd.d_Clause_lt.name Hd.d_Clause_lt.qual (defArgs Hd.s_Clause_lt) (defBody Hd.s_Clause_lt) (defScope Hd.s_Clause_lt) [] [] (Hd.d_Clause_lt.at_ K) (fdOf K (Hd.d_Clause_lt.at_ K)) := T.c.fn 36 (d := Hd.d_Clause_lt) rfl
theorem Tx.fn_Clause_or (T : Tx w K mg) : FunD K Hd.d_Clause_or.name Hd.d_Clause_or.qual (defArgs Hd.s_Clause_or) (defBody Hd.s_Clause_or) (defScope Hd.s_Clause_or) [] [] (Hd.d_Clause_or.at_ K) (fdOf K (Hd.d_Clause_or.at_ K)) := T.c.fn 37 (d := Hd.d_Clause_or) rfl
theorem Tx.fn_Clause_and (T : Tx w K mg) : FunD K Hd.d_Clause_and.name Hd.d_Clause_and.qual (defArgs Hd.s_Clause_and) (defBody Hd.s_Clause_and) (defScope Hd.s_Clause_and) [] [] (Hd.d_Clause_and.at_ K) (fdOf K (Hd.d_Clause_and.at_ K)) := T.c.fn 38 (d := Hd.d_Clause_and) rfl
theorem Tx.fn_Clause_sub (T : Tx w K mg) : FunD K Hd.d_Clause_sub.name Hd.d_Clause_sub.qual (defArgs Hd.s_Clause_sub) (defBody Hd.s_Clause_sub) (defScope Hd.s_Clause_sub) [] [] (Hd.d_Clause_sub.at_ K) (fdOf K (Hd.d_Clause_sub.at_ K)) := T.c.fn 39 (d := Hd.d_Clause_sub) rfl
theorem Tx.fn_Clause_str (T : Tx w K mg) : FunD K Hd.d_Clause_str.name Hd.d_Clause_str.qual (defArgs Hd.s_Clause_str) (defBody Hd.s_Clause_str) (defScope Hd.s_Clause_str) [] [] (Hd.d_Clause_str.at_ K) (fdOf K (Hd.d_Clause_str.at_ K)) := T.c.fn 40 (d := Hd.d_Clause_str) rfl
theorem Tx.fn_Turning_init (T : Tx w K mg) : FunD K Hd.d_Turning_init.name Hd.d_Turning_init.qual (defArgs Hd.s_Turning_init) (defBody Hd.s_Turning_init) (defScope Hd.s_Turning_init) [] [] (Hd.d_Turning_init.at_ K) (fdOf K (Hd.d_Turning_init.at_ K)) := T.c.fn 41 (d := Hd.d_Turning_init) rfl
theorem Tx.fn_Turning_median (T : Tx w K mg) : FunD K Hd.d_Turning_median.name Hd.d_Turning_median.qual (defArgs Hd.s_Turning_median) (defBody Hd.s_Turning_median) (defScope Hd.s_Turning_median) [] [] (Hd.d_Turning_median.at_ K) (fdOf K (Hd.d_Turning_median.at_ K)) := T.c.fn 42 (d := Hd.d_Turning_median) rfl
theorem Tx.fn_Turning_call (T : Tx w K mg) : FunD K Hd.d_Turning_call.name Hd.d_Turning_call.qual (defArgs Hd.s_Turning_call) (defBody Hd.s_Turning_call) (defScope Hd.s_Turning_call) [] [] (Hd.d_Turning_call.at_ K) (fdOf K (Hd.d_Turning_call.at_ K)) := T.c.fn 43 (d := Hd.d_Turning_call) rfl
theorem Tx.fn_Turning_iter (T : Tx w K mg) : FunD K Hd.d_Turning_iter.name Hd.d_Turning_iter.qual (defArgs Hd.s_Turning_iter) (defBody Hd.s_Turning_iter) (defScope Hd.s_Turning_iter) [] [] (Hd.d_Turning_iter.at_ K) (fdOf K (Hd.d_Turning_iter.at_ K)) := T.c.fn 44 (d := Hd.d_Turning_iter) rfl
theorem Tx.fn_Turning_len (T : Tx w K mg) : FunD K Hd.d_Turning_len.name Hd.d_Turning_len.qual (defArgs Hd.s_Turning_len) (defBody Hd.s_Turning_len) (defScope Hd.s_Turning_len) [] [] (Hd.d_Turning_len.at_ K) (fdOf K (Hd.d_Turning_len.at_ K)) := T.c.fn 45 (d := Hd.d_Turning_len) rfl
theorem Tx.fn_Turning_contains (T : Tx w K mg) : FunD K Hd.d_Turning_contains.name Hd.d_Turning_contains.qual (defArgs Hd.s_Turning_contains) (defBody Hd.s_Turning_contains) (defScope Hd.s_Turning_contains) [] [] (Hd.d_Turning_contains.at_ K) (fdOf K (Hd.d_Turning_contains.at_ K)) := T.c.fn 46 (d := Hd.d_Turning_contains) rfl
theorem Tx.fn_Turning_getitem (T : Tx w K mg) : FunD K Hd.d_Turning_getitem.name Hd.d_Turning_getitem.qual (defArgs Hd.s_Turning_getitem) (defBody Hd.s_Turning_getitem) (defScope Hd.s_Turning_getitem) [] [] (Hd.d_Turning_getitem.at_ K) (fdOf K (Hd.d_Turning_getitem.at_ K)) := T.c.fn 47 (d := Hd.d_Turning_getitem) rfl
theorem Tx.fn_Turning_eq (T : Tx w K mg) : FunD K Hd.d_Turning_eq.name Hd.d_Turning_eq.qual (defArgs Hd.s_Turning_eq) (defBody Hd.s_Turning_eq) (defScope Hd.s_Turning_eq) [] [] (Hd.d_Turning_eq.at_ K) (fdOf K (Hd.d_Turning_eq.at_ K)) := T.c.fn 48 (d := Hd.d_Turning_eq) rfl
theorem Tx.fn_Turning_lt (T : Tx w K mg) : FunD K Hd.d_Turning_lt.name Hd.d_Turning_lt.qual (defArgs Hd.s_Turning_lt) (defBody Hd.s_Turning_lt) (defScope Hd.s_Turning_lt) [] [] (Hd.d_Turning_lt.at_ K) (fdOf K (Hd.d_Turning_lt.at_ K)) := T.c.fn 49 (d := Hd.d_Turning_lt) rfl
theorem Tx.fn_Turning_le (T : Tx w K mg) : FunD K Hd.d_Turning_le.name Hd.d_Turning_le.qual (defArgs Hd.s_Turning_le) (defBody Hd.s_Turning_le) (defScope Hd.s_Turning_le) [] [] (Hd.d_Turning_le.at_ K) (fdOf K (Hd.d_Turning_le.at_ K)) := T.c.fn 50 (d := Hd.d_Turning_le) rfl
theorem Tx.fn_Turning_gt (T : Tx w K mg) : FunD K Hd.d_Turning_gt.name Hd.d_Turning_gt.qual (defArgs Hd.s_Turning_gt) (defBody Hd.s_Turning_gt) (defScope Hd.s_Turning_gt) [] [] (Hd.d_Turning_gt.at_ K) (fdOf K (Hd.d_Turning_gt.at_ K)) := T.c.fn 51 (d := Hd.d_Turning_gt) rfl
theorem Tx.fn_Turning_ge (T : Tx w K mg) : FunD K Hd.d_Turning_ge.name Hd.d_Turning_ge.qual (defArgs Hd.s_Turning_ge) (defBody Hd.s_Turning_ge) (defScope Hd.s_Turning_ge) [] [] (Hd.d_Turning_ge.at_ K) (fdOf K (Hd.d_Turning_ge.at_ K)) := T.c.fn 52 (d := Hd.d_Turning_ge) rfl
theorem Tx.fn_Turning_xor (T : Tx w K mg) : FunD K Hd.d_Turning_xor.name Hd.d_Turning_xor.qual (defArgs Hd.s_Turning_xor) (defBody Hd.s_Turning_xor) (defScope Hd.s_Turning_xor) [] [] (Hd.d_Turning_xor.at_ K) (fdOf K (Hd.d_Turning_xor.at_ K)) := T.c.fn 53 (d := Hd.d_Turning_xor) rfl
theorem Tx.fn_Turning_and (T : Tx w K mg) : FunD K Hd.d_Turning_and.name Hd.d_Turning_and.qual (defArgs Hd.s_Turning_and) (defBody Hd.s_Turning_and) (defScope Hd.s_Turning_and) [] [] (Hd.d_Turning_and.at_ K) (fdOf K (Hd.d_Turning_and.at_ K)) := T.c.fn 54 (d := Hd.d_Turning_and) rfl
theorem Tx.fn_Turning_or (T : Tx w K mg) : FunD K Hd.d_Turning_or.name Hd.d_Turning_or.qual (defArgs Hd.s_Turning_or) (defBody Hd.s_Turning_or) (defScope Hd.s_Turning_or) [] [] (Hd.d_Turning_or.at_ K) (fdOf K (Hd.d_Turning_or.at_ K)) := T.c.fn 55 (d := Hd.d_Turning_or) rfl
theorem Tx.fn_Turning_sub (T : Tx w K mg) : FunD K Hd.d_Turning_sub.name Hd.d_Turning_sub.qual (defArgs Hd.s_Turning_sub) (defBody Hd.s_Turning_sub) (defScope Hd.s_Turning_sub) [] [] (Hd.d_Turning_sub.at_ K) (fdOf K (Hd.d_Turning_sub.at_ K)) := T.c.fn 56 (d := Hd.d_Turning_sub) rfl
theorem Tx.fn_Turning_str (T : Tx w K mg) : FunD K Hd.d_Turning_str.name Hd.d_Turning_str.qual (defArgs Hd.s_Turning_str) (defBody Hd.s_Turning_str) (defScope Hd.s_Turning_str) [] [] (Hd.d_Turning_str.at_ K) (fdOf K (Hd.d_Turning_str.at_ K)) := T.c.fn 57 (d := Hd.d_Turning_str) rfl
theorem Tx.sc_BadName : ScopeE PySem.Challenge.pw_renamedhorn_k13_whole_turning_order_and (defScope Hd.s_BadName_init) (defArgs Hd.s_BadName_init) := ⟨⟨_, rfl⟩, rfl, rfl, rfl, rfl, rfl, rfl, by decide +kernel, by decide +kernel⟩
theorem Tx.err_BadName (T : Tx w K mg) : Err1 PySem.Challenge.pw_renamedhorn_k13_whole_turning_order_and w K mg "BadName" "text" (ga K "BadName") := by
  obtain ⟨h, X, G⟩ := T.g
  obtain ⟨e, c⟩ := T.c.it 58 (d := Hd.d_BadName.it "/claim/cut.py") rfl
  exact err1_of X G c e rfl Tx.sc_BadName rfl (fun _ _ _ _ _ _ _ _ _ _ _ => rfl) rfl (by decide) (by decide)
theorem Tx.sc_BadLiteral : ScopeE PySem.Challenge.pw_renamedhorn_k13_whole_turning_order_and (defScope Hd.s_BadLiteral_init) (defArgs Hd.s_BadLiteral_init) := ⟨⟨_, rfl⟩, rfl, rfl, rfl, rfl, rfl, rfl, by decide +kernel, by decide +kernel⟩
theorem Tx.err_BadLiteral (T : Tx w K mg) : Err1 PySem.Challenge.pw_renamedhorn_k13_whole_turning_order_and w K mg "BadLiteral" "text" (ga K "BadLiteral") := by
  obtain ⟨h, X, G⟩ := T.g
  obtain ⟨e, c⟩ := T.c.it 59 (d := Hd.d_BadLiteral.it "/claim/cut.py") rfl
  exact err1_of X G c e rfl Tx.sc_BadLiteral rfl (fun _ _ _ _ _ _ _ _ _ _ _ => rfl) rfl (by decide) (by decide)
theorem Tx.sc_BothSigns : ScopeE PySem.Challenge.pw_renamedhorn_k13_whole_turning_order_and (defScope Hd.s_BothSigns_init) (defArgs Hd.s_BothSigns_init) := ⟨⟨_, rfl⟩, rfl, rfl, rfl, rfl, rfl, rfl, by decide +kernel, by decide +kernel⟩
theorem Tx.err_BothSigns (T : Tx w K mg) : Err1 PySem.Challenge.pw_renamedhorn_k13_whole_turning_order_and w K mg "BothSigns" "name" (ga K "BothSigns") := by
  obtain ⟨h, X, G⟩ := T.g
  obtain ⟨e, c⟩ := T.c.it 60 (d := Hd.d_BothSigns.it "/claim/cut.py") rfl
  exact err1_of X G c e rfl Tx.sc_BothSigns rfl (fun _ _ _ _ _ _ _ _ _ _ _ => rfl) rfl (by decide) (by decide)
theorem Tx.sc_TooMany : ScopeE PySem.Challenge.pw_renamedhorn_k13_whole_turning_order_and (defScope Hd.s_TooMany_init) (defArgs Hd.s_TooMany_init) := ⟨⟨_, rfl⟩, rfl, rfl, rfl, rfl, rfl, rfl, by decide +kernel, by decide +kernel⟩
theorem Tx.err_TooMany (T : Tx w K mg) : Err1 PySem.Challenge.pw_renamedhorn_k13_whole_turning_order_and w K mg "TooMany" "limit" (ga K "TooMany") := by
  obtain ⟨h, X, G⟩ := T.g
  obtain ⟨e, c⟩ := T.c.it 61 (d := Hd.d_TooMany.it "/claim/cut.py") rfl
  exact err1_of X G c e rfl Tx.sc_TooMany rfl (fun _ _ _ _ _ _ _ _ _ _ _ => rfl) rfl (by decide) (by decide)
end
end Ok
namespace Ok
open PySem PySem.Spec PyProof.Rows L2 He Hk Px Rd
section
variable {w : World} {K : PySem.W.Frag} {mg : PySem.Str → Option Value} {base : Heap}
def N_Clause_iter : List PySem.Str := ["self"]
theorem sc_Clause_iter : FnScope N_Clause_iter ["self"] (defScope Hd.s_Clause_iter) := ⟨rfl, rfl, rfl, by decide +kernel, rfl, by decide +kernel, by decide +kernel⟩
theorem b_Clause_iter (T : Tx w K mg) : Binds K (fdOf K (ma K (ga K "Clause") "__iter__")) ["self"] [] := T.fn_Clause_iter.bindsN fun _ _ _ _ _ _ us hl => match us, hl with | [_], _ => rfl
theorem it_Clause (T : Tx w K mg) : Cl.IterF PySem.Challenge.pw_renamedhorn_k13_whole_turning_order_and w K mg base 1 (ga K "Clause") "literals" := Cl.iterF_of (k := 0) T.fn_Clause_iter sc_Clause_iter (b_Clause_iter T) rfl rfl rfl T.f_iter T.cls_Clause T.no_Clause_literals T.own_Clause_iter (fun _ _ _ _ _ => rfl) (fun _ _ _ _ _ => rfl)
def N_Turning_iter : List PySem.Str := ["self"]
theorem sc_Turning_iter : FnScope N_Turning_iter ["self"] (defScope Hd.s_Turning_iter) := ⟨rfl, rfl, rfl, by decide +kernel, rfl, by decide +kernel, by decide +kernel⟩
theorem b_Turning_iter (T : Tx w K mg) : Binds K (fdOf K (ma K (ga K "Turning") "__iter__")) ["self"] [] := T.fn_Turning_iter.bindsN fun _ _ _ _ _ _ us hl => match us, hl with | [_], _ => rfl
theorem it_Turning (T : Tx w K mg) : Cl.IterF PySem.Challenge.pw_renamedhorn_k13_whole_turning_order_and w K mg base 1 (ga K "Turning") "turned" := Cl.iterF_of (k := 0) T.fn_Turning_iter sc_Turning_iter (b_Turning_iter T) rfl rfl rfl T.f_iter T.cls_Turning T.no_Turning_turned T.own_Turning_iter (fun _ _ _ _ _ => rfl) (fun _ _ _ _ _ => rfl)
theorem sc_is_name : FnScope N_is_name ["text"] (defScope Hd.s_is_name) := ⟨rfl, rfl, rfl, by decide +kernel, rfl, by decide +kernel, by decide +kernel⟩
theorem b_is_name (T : Tx w K mg) : Binds K (fdOf K (ga K "is_name")) ["text"] [] := T.fn_is_name.bindsN fun _ _ _ _ _ _ us hl => match us, hl with | [_], _ => rfl
theorem ok_is_name (T : Tx w K mg) : FnOk PySem.Challenge.pw_renamedhorn_k13_whole_turning_order_and w K mg base (L2N.CX PySem.Challenge.pw_renamedhorn_k13_whole_turning_order_and w) 1 (ga K "is_name") (fdOf K (ga K "is_name")) ["text"] (sp_is_name K) := by
  refine T.fn_is_name.ok sc_is_name (fun vs H Q E h => Sp1.len h) (fun cdv A outer s H vs Q E hr h => ⟨t_is_name K (fun cls d _ H => E cls d H), ?_, pure_is_name h⟩)
  · have tk := L2N.takes_of (X := cxOf (L2N.CX PySem.Challenge.pw_renamedhorn_k13_whole_turning_order_and w) PySem.Challenge.pw_renamedhorn_k13_whole_turning_order_and w K mg base N_is_name "is_name" (defScope Hd.s_is_name) (ga K "is_name") cdv A outer s H E) (E := E) rfl rfl rfl rfl
    obtain ⟨tk_LETTERS, m_LETTERS⟩ := T.c_LETTERS
    obtain ⟨tk_NAME_SIZE, m_NAME_SIZE⟩ := T.c_NAME_SIZE
    obtain ⟨tk_SIGNS, m_SIGNS⟩ := T.c_SIGNS
    exact (pss_cut (ps_if (PW.pt (pw_or (pt_cmpR op_ltP (pe_callB call_lenP (by rfl) T.f_len PyProof.Rows.Boot.«len» (pa_cons (pv 0) pa_nil)) pe_int (nomark _)) (pw_or1 (pt_cmpR op_gtP (pe_callB call_lenP (by rfl) T.f_len PyProof.Rows.Boot.«len» (pa_cons (pv 0) pa_nil)) (pe_glob rfl m_NAME_SIZE ⟨_, rfl⟩) (nomark _))))) (pss_one (ps_ret pe_bl)) pss_nil)
      (pss_cut (ps_if (pt_cmpR (op_ninP hr.units) (pe_ix ix_P (pv 0) pe_int (fun _ _ => rfl)) (pe_glob rfl m_LETTERS ⟨_, rfl⟩) (by rfl)) (pss_one (ps_ret pe_bl)) pss_nil)
      (pss_one (ps_ret (pe_callB (cr_all rfl) (by rfl) T.f_all PyProof.Rows.Boot.«all» (pa_cons (pe_lc (own := [("sign", 1)]) (g := (gName 1)) (tt := tYes) rfl sc_is_name.nd (pi_anyP (pv 0)) (blkOk_by (own := [("sign", 1)]) (N := N_is_name) (sc := defScope Hd.s_is_name) (by decide +kernel)) (fun _ _ _ _ _ => (pg_name (i := 1) sc_is_name.nd rfl (Or.inl rfl))) (fun _ _ _ _ _ => pts_nil) (fun _ _ _ _ _ => (pe_cmpR (op_inP hr.units) (pv 1) (pe_glob rfl m_SIGNS ⟨_, rfl⟩) (by rfl)))) pa_nil))))))
theorem sc_is_literal : FnScope N_is_literal ["text"] (defScope Hd.s_is_literal) := ⟨rfl, rfl, rfl, by decide +kernel, rfl, by decide +kernel, by decide +kernel⟩
theorem b_is_literal (T : Tx w K mg) : Binds K (fdOf K (ga K "is_literal")) ["text"] [] := T.fn_is_literal.bindsN fun _ _ _ _ _ _ us hl => match us, hl with | [_], _ => rfl
theorem ok_is_literal (T : Tx w K mg) : FnOk PySem.Challenge.pw_renamedhorn_k13_whole_turning_order_and w K mg base (L2N.CX PySem.Challenge.pw_renamedhorn_k13_whole_turning_order_and w) 2 (ga K "is_literal") (fdOf K (ga K "is_literal")) ["text"] (sp_is_literal K) := by
  refine T.fn_is_literal.ok sc_is_literal (fun vs H Q E h => Sp1.len h) (fun cdv A outer s H vs Q E hr h => ⟨t_is_literal K (fun cls d _ H => E cls d H), ?_, pure_is_literal h⟩)
  · have tk := L2N.takes_of (X := cxOf (L2N.CX PySem.Challenge.pw_renamedhorn_k13_whole_turning_order_and w) PySem.Challenge.pw_renamedhorn_k13_whole_turning_order_and w K mg base N_is_literal "is_literal" (defScope Hd.s_is_literal) (ga K "is_literal") cdv A outer s H E) (E := E) rfl rfl rfl rfl
    exact (pss_cut (ps_if (pt_cmpR (op_eqP hr.units) (pe_slice sl_P (pv 0) po_none (po_some pe_int)) pe_str (nomark _)) (pss_one (ps_ret (pe_callS (ok_is_name T) (hr.mono (by decide)) rfl T.g_is_name (T.fn_is_name).kp (b_is_name T) (fun σ => L2N.passAt tk σ) (pa_cons (pe_slice sl_P (pv 0) (po_some pe_int) po_none) pa_nil)))) pss_nil)
      (pss_one (ps_ret (pe_callS (ok_is_name T) (hr.mono (by decide)) rfl T.g_is_name (T.fn_is_name).kp (b_is_name T) (fun σ => L2N.passAt tk σ) (pa_cons (pv 0) pa_nil)))))
theorem sc_name_of : FnScope N_name_of ["literal"] (defScope Hd.s_name_of) := ⟨rfl, rfl, rfl, by decide +kernel, rfl, by decide +kernel, by decide +kernel⟩
theorem b_name_of (T : Tx w K mg) : Binds K (fdOf K (ga K "name_of")) ["literal"] [] := T.fn_name_of.bindsN fun _ _ _ _ _ _ us hl => match us, hl with | [_], _ => rfl
theorem ok_name_of (T : Tx w K mg) : FnOk PySem.Challenge.pw_renamedhorn_k13_whole_turning_order_and w K mg base (L2N.CX PySem.Challenge.pw_renamedhorn_k13_whole_turning_order_and w) 3 (ga K "name_of") (fdOf K (ga K "name_of")) ["literal"] (sp_name_of K) := by
  refine T.fn_name_of.ok sc_name_of (fun vs H Q E h => Sp1.len h) (fun cdv A outer s H vs Q E hr h => ⟨t_name_of K (fun cls d _ H => E cls d H), ?_, pure_name_of h⟩)
  · have tk := L2N.takes_of (X := cxOf (L2N.CX PySem.Challenge.pw_renamedhorn_k13_whole_turning_order_and w) PySem.Challenge.pw_renamedhorn_k13_whole_turning_order_and w K mg base N_name_of "name_of" (defScope Hd.s_name_of) (ga K "name_of") cdv A outer s H E) (E := E) rfl rfl rfl rfl
    exact (pss_cut (ps_if (pt_not (pt_val (pe_callS (ok_is_literal T) (hr.mono (by decide)) rfl T.g_is_literal (T.fn_is_literal).kp (b_is_literal T) (fun σ => L2N.passAt tk σ) (pa_cons (pv 0) pa_nil)))) (pss_one (ps_raiseE rfl T.err_BadLiteral hr tk (pa_cons (pv 0) pa_nil))) pss_nil)
      (pss_cut (ps_if (pt_cmpR (op_eqP hr.units) (pe_slice sl_P (pv 0) po_none (po_some pe_int)) pe_str (nomark _)) (pss_one (ps_ret (pe_slice sl_P (pv 0) (po_some pe_int) po_none))) pss_nil)
      (pss_one (ps_ret (pv 0)))))
theorem sc_negated : FnScope N_negated ["literal"] (defScope Hd.s_negated) := ⟨rfl, rfl, rfl, by decide +kernel, rfl, by decide +kernel, by decide +kernel⟩
theorem b_negated (T : Tx w K mg) : Binds K (fdOf K (ga K "negated")) ["literal"] [] := T.fn_negated.bindsN fun _ _ _ _ _ _ us hl => match us, hl with | [_], _ => rfl
theorem ok_negated (T : Tx w K mg) : FnOk PySem.Challenge.pw_renamedhorn_k13_whole_turning_order_and w K mg base (L2N.CX PySem.Challenge.pw_renamedhorn_k13_whole_turning_order_and w) 3 (ga K "negated") (fdOf K (ga K "negated")) ["literal"] (sp_negated K) := by
  refine T.fn_negated.ok sc_negated (fun vs H Q E h => Sp1.len h) (fun cdv A outer s H vs Q E hr h => ⟨t_negated K (fun cls d _ H => E cls d H), ?_, pure_negated h⟩)
  · have tk := L2N.takes_of (X := cxOf (L2N.CX PySem.Challenge.pw_renamedhorn_k13_whole_turning_order_and w) PySem.Challenge.pw_renamedhorn_k13_whole_turning_order_and w K mg base N_negated "negated" (defScope Hd.s_negated) (ga K "negated") cdv A outer s H E) (E := E) rfl rfl rfl rfl
    exact (pss_cut (ps_if (pt_not (pt_val (pe_callS (ok_is_literal T) (hr.mono (by decide)) rfl T.g_is_literal (T.fn_is_literal).kp (b_is_literal T) (fun σ => L2N.passAt tk σ) (pa_cons (pv 0) pa_nil)))) (pss_one (ps_raiseE rfl T.err_BadLiteral hr tk (pa_cons (pv 0) pa_nil))) pss_nil)
      (pss_cut (ps_if (pt_cmpR (op_eqP hr.units) (pe_slice sl_P (pv 0) po_none (po_some pe_int)) pe_str (nomark _)) (pss_one (ps_ret (pe_slice sl_P (pv 0) (po_some pe_int) po_none))) pss_nil)
      (pss_one (ps_ret (pe_op op_addP pe_str (pv 0))))))
theorem sc_ordered_names : FnScope N_ordered_names ["names"] (defScope Hd.s_ordered_names) := ⟨rfl, rfl, rfl, by decide +kernel, rfl, by decide +kernel, by decide +kernel⟩
theorem b_ordered_names (T : Tx w K mg) : Binds K (fdOf K (ga K "ordered_names")) ["names"] [] := T.fn_ordered_names.bindsN fun _ _ _ _ _ _ us hl => match us, hl with | [_], _ => rfl
theorem ok_ordered_names (T : Tx w K mg) : FnOk PySem.Challenge.pw_renamedhorn_k13_whole_turning_order_and w K mg base (L2N.CX PySem.Challenge.pw_renamedhorn_k13_whole_turning_order_and w) 3 (ga K "ordered_names") (fdOf K (ga K "ordered_names")) ["names"] (sp_ordered_names K) := by
  refine T.fn_ordered_names.ok sc_ordered_names (fun vs H Q E h => Sp1.len h) (fun cdv A outer s H vs Q E hr h => ⟨t_ordered_names K (fun cls d _ H => E cls d H), ?_, pure_ordered_names h⟩)
  · have tk := L2N.takes_of (X := cxOf (L2N.CX PySem.Challenge.pw_renamedhorn_k13_whole_turning_order_and w) PySem.Challenge.pw_renamedhorn_k13_whole_turning_order_and w K mg base N_ordered_names "ordered_names" (defScope Hd.s_ordered_names) (ga K "ordered_names") cdv A outer s H E) (E := E) rfl rfl rfl rfl
    exact (pss_cut (ps_for (passes_of rfl) rfl (pi_anyP (pv 0)) (pg_name (i := 1) sc_ordered_names.nd rfl (Or.inl rfl)) (pss_one (ps_if (pt_not (pt_val (pe_callS (ok_is_name T) (hr.mono (by decide)) rfl T.g_is_name (T.fn_is_name).kp (b_is_name T) (fun σ => L2N.passAt tk σ) (pa_cons (pv 1) pa_nil)))) (pss_one (ps_raiseE rfl T.err_BadName hr tk (pa_cons (pv 1) pa_nil))) pss_nil)))
      (pss_cons (ps_asg (pe_lst pa_nil) (pg_name (i := 2) sc_ordered_names.nd rfl (Or.inl rfl)))
      (pss_cut (ps_for (passes_of rfl) rfl (pi_anyP (pe_callB cr_sortedS (by rfl) T.f_sorted PyProof.Rows.Boot.«sorted» (pa_cons (pe_lc (own := [("name", 1)]) (g := (gName 1)) (tt := tYes) rfl sc_ordered_names.nd (pi_anyP (pv 0)) (blkOk_by (own := [("name", 1)]) (N := N_ordered_names) (sc := defScope Hd.s_ordered_names) (by decide +kernel)) (fun _ _ _ _ _ => (pg_name (i := 1) sc_ordered_names.nd rfl (Or.inl rfl))) (fun _ _ _ _ _ => pts_nil) (fun _ _ _ _ _ => (pe_callTy call_strP (by rfl) T.f_str PyProof.Rows.Boot.«str» (pa_cons (pv 1) pa_nil)))) pa_nil))) (pg_name (i := 1) sc_ordered_names.nd rfl (Or.inl rfl)) (pss_one (ps_if (pt_cmpR (op_ninP hr.units) (pv 1) (pv 2) (by rfl)) (pss_one (ps_expr (pe_bm PySem.F.plainAttrs_list PySem.F.slot_list_append PySem.F.type_list_append mt_append (pv 2) (pa_cons (pv 1) pa_nil)))) pss_nil)))
      (pss_one (ps_ret (pv 2))))))
theorem sc_in_order : FnScope N_in_order ["literals"] (defScope Hd.s_in_order) := ⟨rfl, rfl, rfl, by decide +kernel, rfl, by decide +kernel, by decide +kernel⟩
theorem b_in_order (T : Tx w K mg) : Binds K (fdOf K (ga K "in_order")) ["literals"] [] := T.fn_in_order.bindsN fun _ _ _ _ _ _ us hl => match us, hl with | [_], _ => rfl
theorem ok_in_order (T : Tx w K mg) : FnOk PySem.Challenge.pw_renamedhorn_k13_whole_turning_order_and w K mg base (L2N.CX PySem.Challenge.pw_renamedhorn_k13_whole_turning_order_and w) 4 (ga K "in_order") (fdOf K (ga K "in_order")) ["literals"] (sp_in_order K) := by
  refine T.fn_in_order.ok sc_in_order (fun vs H Q E h => Sp1.len h) (fun cdv A outer s H vs Q E hr h => ⟨t_in_order K (fun cls d _ H => E cls d H), ?_, pure_in_order h⟩)
  · have tk := L2N.takes_of (X := cxOf (L2N.CX PySem.Challenge.pw_renamedhorn_k13_whole_turning_order_and w) PySem.Challenge.pw_renamedhorn_k13_whole_turning_order_and w K mg base N_in_order "in_order" (defScope Hd.s_in_order) (ga K "in_order") cdv A outer s H E) (E := E) rfl rfl rfl rfl
    exact (pss_cons (ps_asg pe_dnewK (pg_name (i := 1) sc_in_order.nd rfl (Or.inl rfl)))
      (pss_cut (ps_for (passes_of rfl) rfl (pi_anyP (pv 0)) (pg_name (i := 2) sc_in_order.nd rfl (Or.inl rfl)) (pss_cut (ps_if (pt_not (pt_val (pe_callS (ok_is_literal T) (hr.mono (by decide)) rfl T.g_is_literal (T.fn_is_literal).kp (b_is_literal T) (fun σ => L2N.passAt tk σ) (pa_cons (pv 2) pa_nil)))) (pss_one (ps_raiseE rfl T.err_BadLiteral hr tk (pa_cons (pv 2) pa_nil))) pss_nil)
      (pss_one (ps_asg pe_bl (pg_sub (pv 1) (pv 2) (set_P hr.units))))))
      (pss_cons (ps_asg (pe_lst pa_nil) (pg_name (i := 3) sc_in_order.nd rfl (Or.inl rfl)))
      (pss_cut (ps_for (passes_of rfl) rfl (pi_anyP (pe_callS (ok_ordered_names T) (hr.mono (by decide)) rfl T.g_ordered_names (T.fn_ordered_names).kp (b_ordered_names T) (fun σ => L2N.passAt tk σ) (pa_cons (pe_lock (pe_lc (own := [("literal", 2)]) (g := (gName 2)) (tt := tYes) rfl sc_in_order.nd (pi_keys (pv 1)) (blkOk_by (own := [("literal", 2)]) (N := N_in_order) (sc := defScope Hd.s_in_order) (by decide +kernel)) (fun _ _ _ _ _ => (pg_name (i := 2) sc_in_order.nd rfl (Or.inl rfl))) (fun _ _ _ _ _ => pts_nil) (fun _ _ _ _ _ => (pe_call (ok_name_of T) (hr.mono (by decide)) rfl T.g_name_of (T.fn_name_of).kp (b_name_of T) .nil passN (pa_cons (pv 2) pa_nil))))) pa_nil))) (pg_name (i := 4) sc_in_order.nd rfl (Or.inl rfl)) (pss_one (ps_for (passes_of rfl) rfl (pi_anyP (pe_tup (pa_cons (pv 4) (pa_cons (pe_op op_addP pe_str (pv 4)) pa_nil)))) (pg_name (i := 2) sc_in_order.nd rfl (Or.inl rfl)) (pss_one (ps_if (pt_cmpR (op_inP hr.units) (pv 2) (pv 1) (by rfl)) (pss_one (ps_expr (pe_bm PySem.F.plainAttrs_list PySem.F.slot_list_append PySem.F.type_list_append mt_append (pv 3) (pa_cons (pv 2) pa_nil)))) pss_nil)))))
      (pss_one (ps_ret (pv 3)))))))
theorem sc_twice_named : FnScope N_twice_named ["literals"] (defScope Hd.s_twice_named) := ⟨rfl, rfl, rfl, by decide +kernel, rfl, by decide +kernel, by decide +kernel⟩
theorem b_twice_named (T : Tx w K mg) : Binds K (fdOf K (ga K "twice_named")) ["literals"] [] := T.fn_twice_named.bindsN fun _ _ _ _ _ _ us hl => match us, hl with | [_], _ => rfl
theorem ok_twice_named (T : Tx w K mg) : FnOk PySem.Challenge.pw_renamedhorn_k13_whole_turning_order_and w K mg base (L2N.CX PySem.Challenge.pw_renamedhorn_k13_whole_turning_order_and w) 1 (ga K "twice_named") (fdOf K (ga K "twice_named")) ["literals"] (sp_twice_named K) := by
  refine T.fn_twice_named.ok sc_twice_named (fun vs H Q E h => Sp1.len h) (fun cdv A outer s H vs Q E hr h => ⟨t_twice_named K (fun cls d _ H => E cls d H), ?_, pure_twice_named h⟩)
  · have tk := L2N.takes_of (X := cxOf (L2N.CX PySem.Challenge.pw_renamedhorn_k13_whole_turning_order_and w) PySem.Challenge.pw_renamedhorn_k13_whole_turning_order_and w K mg base N_twice_named "twice_named" (defScope Hd.s_twice_named) (ga K "twice_named") cdv A outer s H E) (E := E) rfl rfl rfl rfl
    exact (pss_cut (ps_for (passes_of rfl) rfl (pi_anyP (pv 0)) (pg_name (i := 1) sc_twice_named.nd rfl (Or.inl rfl)) (pss_one (ps_if (PW.pt (pw_and (pt_cmpR (op_neP hr.units) (pe_slice sl_P (pv 1) po_none (po_some pe_int)) pe_str (nomark _)) (pw_and1 (pt_cmpR (op_inP hr.units) (pe_op op_addP pe_str (pv 1)) (pv 0) (by rfl))))) (pss_one (ps_ret (pv 1))) pss_nil)))
      (pss_one (ps_ret pe_non)))
theorem sc_checked_facts : FnScope N_checked_facts ["literals", "limit"] (defScope Hd.s_checked_facts) := ⟨rfl, rfl, rfl, by decide +kernel, rfl, by decide +kernel, by decide +kernel⟩
theorem b_checked_facts (T : Tx w K mg) : Binds K (fdOf K (ga K "checked_facts")) ["literals", "limit"] [] := T.fn_checked_facts.bindsN fun _ _ _ _ _ _ us hl => match us, hl with | [_, _], _ => rfl
theorem ok_checked_facts (T : Tx w K mg) : FnOk PySem.Challenge.pw_renamedhorn_k13_whole_turning_order_and w K mg base (L2N.CX PySem.Challenge.pw_renamedhorn_k13_whole_turning_order_and w) 5 (ga K "checked_facts") (fdOf K (ga K "checked_facts")) ["literals", "limit"] (sp_checked_facts K) := by
  refine T.fn_checked_facts.ok sc_checked_facts (fun vs H Q E h => Sp2.len h) (fun cdv A outer s H vs Q E hr h => ⟨t_checked_facts K (fun cls d _ H => E cls d H), ?_, pure_checked_facts h⟩)
  · have tk := L2N.takes_of (X := cxOf (L2N.CX PySem.Challenge.pw_renamedhorn_k13_whole_turning_order_and w) PySem.Challenge.pw_renamedhorn_k13_whole_turning_order_and w K mg base N_checked_facts "checked_facts" (defScope Hd.s_checked_facts) (ga K "checked_facts") cdv A outer s H E) (E := E) rfl rfl rfl rfl
    exact (pss_cons (ps_asg (pe_callS (ok_in_order T) (hr.mono (by decide)) rfl T.g_in_order (T.fn_in_order).kp (b_in_order T) (fun σ => L2N.passAt tk σ) (pa_cons (pv 0) pa_nil)) (pg_name (i := 2) sc_checked_facts.nd rfl (Or.inl rfl)))
      (pss_cons (ps_asg (pe_callS (ok_twice_named T) (hr.mono (by decide)) rfl T.g_twice_named (T.fn_twice_named).kp (b_twice_named T) (fun σ => L2N.passAt tk σ) (pa_cons (pv 2) pa_nil)) (pg_name (i := 3) sc_checked_facts.nd rfl (Or.inl rfl)))
      (pss_cut (ps_if (pt_cmpR op_isnotP (pv 3) pe_non (nomark _)) (pss_one (ps_raiseE rfl T.err_BothSigns hr tk (pa_cons (pv 3) pa_nil))) pss_nil)
      (pss_cut (ps_if (pt_cmpR op_gtP (pe_callB call_lenP (by rfl) T.f_len PyProof.Rows.Boot.«len» (pa_cons (pv 2) pa_nil)) (pv 1) (nomark _)) (pss_one (ps_raiseE rfl T.err_TooMany hr tk (pa_cons (pv 1) pa_nil))) pss_nil)
      (pss_one (ps_ret (pv 2)))))))
theorem sc_names_of : FnScope N_names_of ["literals"] (defScope Hd.s_names_of) := ⟨rfl, rfl, rfl, by decide +kernel, rfl, by decide +kernel, by decide +kernel⟩
theorem b_names_of (T : Tx w K mg) : Binds K (fdOf K (ga K "names_of")) ["literals"] [] := T.fn_names_of.bindsN fun _ _ _ _ _ _ us hl => match us, hl with | [_], _ => rfl
theorem ok_names_of (T : Tx w K mg) : FnOk PySem.Challenge.pw_renamedhorn_k13_whole_turning_order_and w K mg base (L2N.CX PySem.Challenge.pw_renamedhorn_k13_whole_turning_order_and w) 4 (ga K "names_of") (fdOf K (ga K "names_of")) ["literals"] (sp_names_of K) := by
  refine T.fn_names_of.ok sc_names_of (fun vs H Q E h => Sp1.len h) (fun cdv A outer s H vs Q E hr h => ⟨t_names_of K (fun cls d _ H => E cls d H), ?_, pure_names_of h⟩)
  · have tk := L2N.takes_of (X := cxOf (L2N.CX PySem.Challenge.pw_renamedhorn_k13_whole_turning_order_and w) PySem.Challenge.pw_renamedhorn_k13_whole_turning_order_and w K mg base N_names_of "names_of" (defScope Hd.s_names_of) (ga K "names_of") cdv A outer s H E) (E := E) rfl rfl rfl rfl
    exact (pss_one (ps_ret (pe_callS (ok_ordered_names T) (hr.mono (by decide)) rfl T.g_ordered_names (T.fn_ordered_names).kp (b_ordered_names T) (fun σ => L2N.passAt tk σ) (pa_cons (pe_lc (own := [("literal", 1)]) (g := (gName 1)) (tt := tYes) rfl sc_names_of.nd (pi_anyP (pv 0)) (blkOk_by (own := [("literal", 1)]) (N := N_names_of) (sc := defScope Hd.s_names_of) (by decide +kernel)) (fun _ _ _ _ _ => (pg_name (i := 1) sc_names_of.nd rfl (Or.inl rfl))) (fun _ _ _ _ _ => pts_nil) (fun _ _ _ _ _ => (pe_call (ok_name_of T) (hr.mono (by decide)) rfl T.g_name_of (T.fn_name_of).kp (b_name_of T) .nil passN (pa_cons (pv 1) pa_nil)))) pa_nil))))
theorem sc_turned_literal : FnScope N_turned_literal ["turned", "literal"] (defScope Hd.s_turned_literal) := ⟨rfl, rfl, rfl, by decide +kernel, rfl, by decide +kernel, by decide +kernel⟩
theorem b_turned_literal (T : Tx w K mg) : Binds K (fdOf K (ga K "turned_literal")) ["turned", "literal"] [] := T.fn_turned_literal.bindsN fun _ _ _ _ _ _ us hl => match us, hl with | [_, _], _ => rfl
theorem ok_turned_literal (T : Tx w K mg) : FnOk PySem.Challenge.pw_renamedhorn_k13_whole_turning_order_and w K mg base (L2N.CX PySem.Challenge.pw_renamedhorn_k13_whole_turning_order_and w) 4 (ga K "turned_literal") (fdOf K (ga K "turned_literal")) ["turned", "literal"] (sp_turned_literal K) := by
  refine T.fn_turned_literal.ok sc_turned_literal (fun vs H Q E h => Sp2.len h) (fun cdv A outer s H vs Q E hr h => ⟨t_turned_literal K (fun cls d _ H => E cls d H), ?_, pure_turned_literal h⟩)
  · have tk := L2N.takes_of (X := cxOf (L2N.CX PySem.Challenge.pw_renamedhorn_k13_whole_turning_order_and w) PySem.Challenge.pw_renamedhorn_k13_whole_turning_order_and w K mg base N_turned_literal "turned_literal" (defScope Hd.s_turned_literal) (ga K "turned_literal") cdv A outer s H E) (E := E) rfl rfl rfl rfl
    exact (pss_cut (ps_if (pt_cmpR (op_inP hr.units) (pe_callS (ok_name_of T) (hr.mono (by decide)) rfl T.g_name_of (T.fn_name_of).kp (b_name_of T) (fun σ => L2N.passAt tk σ) (pa_cons (pv 1) pa_nil)) (pv 0) (by rfl)) (pss_one (ps_ret (pe_callS (ok_negated T) (hr.mono (by decide)) rfl T.g_negated (T.fn_negated).kp (b_negated T) (fun σ => L2N.passAt tk σ) (pa_cons (pv 1) pa_nil)))) pss_nil)
      (pss_one (ps_ret (pv 1))))
theorem sc_Clause_init : FnScope N_Clause_init ["self", "literals"] (defScope Hd.s_Clause_init) := ⟨rfl, rfl, rfl, by decide +kernel, rfl, by decide +kernel, by decide +kernel⟩
theorem fr_Clause_init (T : Tx w K mg) : FnR PySem.Challenge.pw_renamedhorn_k13_whole_turning_order_and w K mg base (L2N.CX PySem.Challenge.pw_renamedhorn_k13_whole_turning_order_and w) 6 (ma K (ga K "Clause") "__init__") (spV_Clause_init K) := by
  refine okStar (ps := ["self"]) (pv := "literals") T.fn_Clause_init sc_Clause_init (fun kV doc pm an cdv ct => StX.bind_star1 (B := fun us => bindArgs (PySem.W.fnOf Hd.d_Clause_init.name Hd.d_Clause_init.qual (defArgs Hd.s_Clause_init) (defBody Hd.s_Clause_init) (defScope Hd.s_Clause_init) .none kV doc pm an cdv ct) ⟨us, []⟩) (fun _ => rfl) (fun _ _ _ => rfl)) (fun cdv A outer s H vs Q E hr h => ⟨t_Clause_init K (fun cls d _ H => E cls d H), ?_, pure_Clause_init h⟩)
  · have tk := L2N.takes_of (X := cxOf (L2N.CX PySem.Challenge.pw_renamedhorn_k13_whole_turning_order_and w) PySem.Challenge.pw_renamedhorn_k13_whole_turning_order_and w K mg base N_Clause_init "Clause.__init__" (defScope Hd.s_Clause_init) (ma K (ga K "Clause") "__init__") cdv A outer s H E) (E := E) rfl rfl rfl rfl
    obtain ⟨u_Clause_LIMIT, con_Clause_LIMIT⟩ := T.con_Clause_LIMIT
    obtain ⟨u_Turning_LIMIT, con_Turning_LIMIT⟩ := T.con_Turning_LIMIT
    exact (pss_one (Cl.ps_att (l := [ga K "Clause"]) (fun C h => by simp only [List.mem_cons, List.not_mem_nil, or_false] at h; rcases h with rfl <;> first | exact ⟨T.cls_Clause, T.no_Clause_literals⟩) (pv 0) (pe_callTy call_tupleP (by rfl) T.f_tuple PyProof.Rows.Boot.«tuple» (pa_cons (pe_callS (ok_checked_facts T) (hr.mono (by decide)) rfl T.g_checked_facts (T.fn_checked_facts).kp (b_checked_facts T) (fun σ => L2N.passAt tk σ) (pa_cons (pe_callTy call_listP (by rfl) T.f_list PyProof.Rows.Boot.«list» (pa_cons (pv 1) pa_nil)) (pa_cons (Cl.pe_att (.cons (Cl.alt_con T.cls_Clause con_Clause_LIMIT) (.cons (Cl.alt_con T.cls_Turning con_Turning_LIMIT) .nil)) (pv 0)) pa_nil))) pa_nil))))
theorem sc_turned_clause : FnScope N_turned_clause ["turned", "clause"] (defScope Hd.s_turned_clause) := ⟨rfl, rfl, rfl, by decide +kernel, rfl, by decide +kernel, by decide +kernel⟩
theorem b_turned_clause (T : Tx w K mg) : Binds K (fdOf K (ga K "turned_clause")) ["turned", "clause"] [] := T.fn_turned_clause.bindsN fun _ _ _ _ _ _ us hl => match us, hl with | [_, _], _ => rfl
theorem ok_turned_clause (T : Tx w K mg) : FnOk PySem.Challenge.pw_renamedhorn_k13_whole_turning_order_and w K mg base (L2N.CX PySem.Challenge.pw_renamedhorn_k13_whole_turning_order_and w) 10 (ga K "turned_clause") (fdOf K (ga K "turned_clause")) ["turned", "clause"] (sp_turned_clause K) := by
  refine T.fn_turned_clause.ok sc_turned_clause (fun vs H Q E h => Sp2.len h) (fun cdv A outer s H vs Q E hr h => ⟨t_turned_clause K (fun cls d _ H => E cls d H), ?_, pure_turned_clause h⟩)
  · have tk := L2N.takes_of (X := cxOf (L2N.CX PySem.Challenge.pw_renamedhorn_k13_whole_turning_order_and w) PySem.Challenge.pw_renamedhorn_k13_whole_turning_order_and w K mg base N_turned_clause "turned_clause" (defScope Hd.s_turned_clause) (ga K "turned_clause") cdv A outer s H E) (E := E) rfl rfl rfl rfl
    exact (pss_cons (ps_setLc (i := 2) (own := [("literal", 3)]) (g := (gName 3)) (tt := tYes) rfl sc_turned_clause.nd rfl rfl (sw_true rfl rfl rfl (by decide +kernel)) (pi_anyP (Cl.pe_att (.cons (Cl.alt_fld T.cls_Clause T.no_Clause_literals) .nil) (pv 1))) (blkOk_by (own := [("literal", 3)]) (N := N_turned_clause) (sc := defScope Hd.s_turned_clause) (by decide +kernel)) (fun _ _ _ _ _ => (pg_name (i := 3) sc_turned_clause.nd rfl (Or.inl rfl))) (fun _ _ _ _ _ => pts_nil) (fun _ _ _ _ _ => (pe_call (ok_turned_literal T) (hr.mono (by decide)) rfl T.g_turned_literal (T.fn_turned_literal).kp (b_turned_literal T) .nil passN (pa_cons (pv 0) (pa_cons (pv 3) pa_nil)))))
      (pss_one (ps_ret (Cl.pe_makeSS T.mk_Clause (fr_Clause_init T) (hr.mono (by decide)) rfl T.g_Clause (fun σ => L2N.passAt tk σ) (pv 2)))))
theorem sc_differing : FnScope N_differing ["one", "other"] (defScope Hd.s_differing) := ⟨rfl, rfl, rfl, by decide +kernel, rfl, by decide +kernel, by decide +kernel⟩
theorem b_differing (T : Tx w K mg) : Binds K (fdOf K (ga K "differing")) ["one", "other"] [] := T.fn_differing.bindsN fun _ _ _ _ _ _ us hl => match us, hl with | [_, _], _ => rfl
theorem ok_differing (T : Tx w K mg) : FnOk PySem.Challenge.pw_renamedhorn_k13_whole_turning_order_and w K mg base (L2N.CX PySem.Challenge.pw_renamedhorn_k13_whole_turning_order_and w) 4 (ga K "differing") (fdOf K (ga K "differing")) ["one", "other"] (sp_differing K) := by
  refine T.fn_differing.ok sc_differing (fun vs H Q E h => Sp2.len h) (fun cdv A outer s H vs Q E hr h => ⟨t_differing K (fun cls d _ H => E cls d H), ?_, pure_differing h⟩)
  · have tk := L2N.takes_of (X := cxOf (L2N.CX PySem.Challenge.pw_renamedhorn_k13_whole_turning_order_and w) PySem.Challenge.pw_renamedhorn_k13_whole_turning_order_and w K mg base N_differing "differing" (defScope Hd.s_differing) (ga K "differing") cdv A outer s H E) (E := E) rfl rfl rfl rfl
    exact (pss_one (ps_ret (pe_callS (ok_ordered_names T) (hr.mono (by decide)) rfl T.g_ordered_names (T.fn_ordered_names).kp (b_ordered_names T) (fun σ => L2N.passAt tk σ) (pa_cons (pe_op op_addP (pe_lc (own := [("name", 2)]) (g := (gName 2)) (tt := (tTest (tOp (rInP K true) (tVar 2) (tVar 1)))) rfl sc_differing.nd (pi_anyP (pv 0)) (blkOk_by (own := [("name", 2)]) (N := N_differing) (sc := defScope Hd.s_differing) (by decide +kernel)) (fun _ _ _ _ _ => (pg_name (i := 2) sc_differing.nd rfl (Or.inl rfl))) (fun _ _ _ _ _ => (pts_one (pt_cmpR (op_ninP hr.units) (pv 2) (pv 1) (by rfl)))) (fun _ _ _ _ _ => (pv 2))) (pe_lc (own := [("name", 2)]) (g := (gName 2)) (tt := (tTest (tOp (rInP K true) (tVar 2) (tVar 0)))) rfl sc_differing.nd (pi_anyP (pv 1)) (blkOk_by (own := [("name", 2)]) (N := N_differing) (sc := defScope Hd.s_differing) (by decide +kernel)) (fun _ _ _ _ _ => (pg_name (i := 2) sc_differing.nd rfl (Or.inl rfl))) (fun _ _ _ _ _ => (pts_one (pt_cmpR (op_ninP hr.units) (pv 2) (pv 0) (by rfl)))) (fun _ _ _ _ _ => (pv 2)))) pa_nil))))
theorem sc_comes_before : FnScope N_comes_before ["one", "other"] (defScope Hd.s_comes_before) := ⟨rfl, rfl, rfl, by decide +kernel, rfl, by decide +kernel, by decide +kernel⟩
theorem b_comes_before (T : Tx w K mg) : Binds K (fdOf K (ga K "comes_before")) ["one", "other"] [] := T.fn_comes_before.bindsN fun _ _ _ _ _ _ us hl => match us, hl with | [_, _], _ => rfl
theorem ok_comes_before (T : Tx w K mg) : FnOk PySem.Challenge.pw_renamedhorn_k13_whole_turning_order_and w K mg base (L2N.CX PySem.Challenge.pw_renamedhorn_k13_whole_turning_order_and w) 5 (ga K "comes_before") (fdOf K (ga K "comes_before")) ["one", "other"] (sp_comes_before K) := by
  refine T.fn_comes_before.ok sc_comes_before (fun vs H Q E h => Sp2.len h) (fun cdv A outer s H vs Q E hr h => ⟨t_comes_before K (fun cls d _ H => E cls d H), ?_, pure_comes_before h⟩)
  · have tk := L2N.takes_of (X := cxOf (L2N.CX PySem.Challenge.pw_renamedhorn_k13_whole_turning_order_and w) PySem.Challenge.pw_renamedhorn_k13_whole_turning_order_and w K mg base N_comes_before "comes_before" (defScope Hd.s_comes_before) (ga K "comes_before") cdv A outer s H E) (E := E) rfl rfl rfl rfl
    exact (pss_cons (ps_asg (pe_callS (ok_differing T) (hr.mono (by decide)) rfl T.g_differing (T.fn_differing).kp (b_differing T) (fun σ => L2N.passAt tk σ) (pa_cons (pv 0) (pa_cons (pv 1) pa_nil))) (pg_name (i := 2) sc_comes_before.nd rfl (Or.inl rfl)))
      (pss_one (ps_ret (pe_and (pe_cmpR op_gtP (pe_callB call_lenP (by rfl) T.f_len PyProof.Rows.Boot.«len» (pa_cons (pv 2) pa_nil)) pe_int (nomark _)) (pe_one (pe_cmpR (op_inP hr.units) (pe_ix ix_P (pv 2) pe_int (fun _ _ => rfl)) (pv 1) (by rfl)))))))
theorem sc_law_source : FnScope N_law_source ["_law_script"] (defScope Hd.s_law_source) := ⟨rfl, rfl, rfl, by decide +kernel, rfl, by decide +kernel, by decide +kernel⟩
theorem b_law_source (T : Tx w K mg) : Binds K (fdOf K (ga K "_law_source")) ["_law_script"] [] := T.fn_law_source.bindsN fun _ _ _ _ _ _ us hl => match us, hl with | [_], _ => rfl
theorem ok_law_source (T : Tx w K mg) : FnOk PySem.Challenge.pw_renamedhorn_k13_whole_turning_order_and w K mg base (L2N.CX PySem.Challenge.pw_renamedhorn_k13_whole_turning_order_and w) 1 (ga K "_law_source") (fdOf K (ga K "_law_source")) ["_law_script"] (sp_law_source K) := by
  refine T.fn_law_source.ok sc_law_source (fun vs H Q E h => Sp1.len h) (fun cdv A outer s H vs Q E hr h => ⟨t_law_source K (fun cls d _ H => E cls d H), ?_, pure_law_source h⟩)
  · have tk := L2N.takes_of (X := cxOf (L2N.CX PySem.Challenge.pw_renamedhorn_k13_whole_turning_order_and w) PySem.Challenge.pw_renamedhorn_k13_whole_turning_order_and w K mg base N_law_source "_law_source" (defScope Hd.s_law_source) (ga K "_law_source") cdv A outer s H E) (E := E) rfl rfl rfl rfl
    exact (pss_one (ps_ret (pe_lst (pa_cons (pe_callTy call_listP (by rfl) T.f_list PyProof.Rows.Boot.«list» (pa_cons (pv 0) pa_nil)) (pa_cons pe_int (pa_cons pe_int (pa_cons pe_int (pa_cons pe_int pa_nil))))))))
theorem sc_law_take : FnScope N_law_take ["_law_source_here", "_law_many"] (defScope Hd.s_law_take) := ⟨rfl, rfl, rfl, by decide +kernel, rfl, by decide +kernel, by decide +kernel⟩
theorem b_law_take (T : Tx w K mg) : Binds K (fdOf K (ga K "_law_take")) ["_law_source_here", "_law_many"] [] := T.fn_law_take.bindsN fun _ _ _ _ _ _ us hl => match us, hl with | [_, _], _ => rfl
theorem ok_law_take (T : Tx w K mg) : FnOk PySem.Challenge.pw_renamedhorn_k13_whole_turning_order_and w K mg base (L2N.CX PySem.Challenge.pw_renamedhorn_k13_whole_turning_order_and w) 1 (ga K "_law_take") (fdOf K (ga K "_law_take")) ["_law_source_here", "_law_many"] (sp_law_take K) := by
  refine T.fn_law_take.ok sc_law_take (fun vs H Q E h => Sp2.len h) (fun cdv A outer s H vs Q E hr h => ⟨t_law_take K (fun cls d _ H => E cls d H), ?_, pure_law_take h⟩)
  · have tk := L2N.takes_of (X := cxOf (L2N.CX PySem.Challenge.pw_renamedhorn_k13_whole_turning_order_and w) PySem.Challenge.pw_renamedhorn_k13_whole_turning_order_and w K mg base N_law_take "_law_take" (defScope Hd.s_law_take) (ga K "_law_take") cdv A outer s H E) (E := E) rfl rfl rfl rfl
    exact (pss_cut (ps_if (pt_cmpR (op_eqP hr.units) (pe_ix ix_P (pv 0) pe_int (fun _ _ => rfl)) pe_int (nomark _)) (pss_cut (ps_if (pt_cmpR op_geP (pe_ix ix_P (pv 0) pe_int (fun _ _ => rfl)) (pe_callB call_lenP (by rfl) T.f_len PyProof.Rows.Boot.«len» (pa_cons (pe_ix ix_P (pv 0) pe_int (fun _ _ => rfl)) pa_nil)) (nomark _)) (pss_one (ps_ret pe_int)) pss_nil)
      (pss_cons (ps_asg (pe_callTy call_intP (by rfl) T.f_int PyProof.Rows.Boot.«int» (pa_cons (pe_ix ix_P (pe_ix ix_P (pv 0) pe_int (fun _ _ => rfl)) (pe_ix ix_P (pv 0) pe_int (fun _ _ => rfl)) (fun _ _ => rfl)) pa_nil)) (pg_name (i := 3) sc_law_take.nd rfl (Or.inl rfl)))
      (pss_cons (ps_asg (pe_op op_addP (pe_ix ix_P (pv 0) pe_int (fun _ _ => rfl)) pe_int) (pg_sub (pv 0) pe_int (set_P hr.units)))
      (pss_cons (ps_asg (pv 3) (pg_sub (pv 0) pe_int (set_P hr.units)))
      (pss_cons (ps_asg pe_int (pg_sub (pv 0) pe_int (set_P hr.units)))
      (pss_cons (ps_asg pe_int (pg_sub (pv 0) pe_int (set_P hr.units)))
      (pss_one (ps_if (pt_cmpR op_geP (pv 3) (pe_op op_powP pe_int pe_int) (nomark _)) (pss_cons (ps_asg pe_int (pg_sub (pv 0) pe_int (set_P hr.units)))
      (pss_one (ps_asg pe_int (pg_sub (pv 0) pe_int (set_P hr.units))))) pss_nil)))))))) pss_nil)
      (pss_cons (ps_asg (pe_op op_subP (pe_ix ix_P (pv 0) pe_int (fun _ _ => rfl)) pe_int) (pg_sub (pv 0) pe_int (set_P hr.units)))
      (pss_cut (ps_if (pt_cmpR (op_eqP hr.units) (pe_ix ix_P (pv 0) pe_int (fun _ _ => rfl)) pe_int (nomark _)) (pss_cons (ps_asg (pe_op op_modP (pe_callTy call_intP (by rfl) T.f_int PyProof.Rows.Boot.«int» (pa_cons (pe_ix ix_P (pv 0) pe_int (fun _ _ => rfl)) pa_nil)) (pv 1)) (pg_name (i := 4) sc_law_take.nd rfl (Or.inl rfl)))
      (pss_cons (ps_asg (pe_op op_fdivP (pe_ix ix_P (pv 0) pe_int (fun _ _ => rfl)) (pv 1)) (pg_sub (pv 0) pe_int (set_P hr.units)))
      (pss_cut (ps_if (pt_cmpR (op_eqP hr.units) (pe_ix ix_P (pv 0) pe_int (fun _ _ => rfl)) pe_int (nomark _)) (pss_one (ps_asg pe_int (pg_sub (pv 0) pe_int (set_P hr.units)))) pss_nil)
      (pss_one (ps_ret (pv 4)))))) pss_nil)
      (pss_cons (ps_asg (pe_op op_modP (pe_callTy call_intP (by rfl) T.f_int PyProof.Rows.Boot.«int» (pa_cons (pe_op op_addP (pe_op op_addP (pe_op op_mulP (pe_ix ix_P (pv 0) pe_int (fun _ _ => rfl)) pe_int) (pe_op op_mulP (pe_ix ix_P (pv 0) pe_int (fun _ _ => rfl)) pe_int)) pe_int) pa_nil)) pe_int) (pg_name (i := 2) sc_law_take.nd rfl (Or.inl rfl)))
      (pss_cons (ps_asg (pe_op op_modP (pe_callTy call_intP (by rfl) T.f_int PyProof.Rows.Boot.«int» (pa_cons (pe_op op_addP (pe_op op_addP (pe_op op_mulP (pv 2) pe_int) (pe_op op_mulP (pe_ix ix_P (pv 0) pe_int (fun _ _ => rfl)) pe_int)) pe_int) pa_nil)) pe_int) (pg_name (i := 2) sc_law_take.nd rfl (Or.inl rfl)))
      (pss_one (ps_ret (pe_op op_modP (pe_callTy call_intP (by rfl) T.f_int PyProof.Rows.Boot.«int» (pa_cons (pv 2) pa_nil)) (pv 1)))))))))
theorem sc_law_word : FnScope N_law_word ["_law_source_here", "_law_size"] (defScope Hd.s_law_word) := ⟨rfl, rfl, rfl, by decide +kernel, rfl, by decide +kernel, by decide +kernel⟩
theorem b_law_word (T : Tx w K mg) : Binds K (fdOf K (ga K "_law_word")) ["_law_source_here", "_law_size"] [] := T.fn_law_word.bindsN fun _ _ _ _ _ _ us hl => match us, hl with | [_, _], _ => rfl
theorem ok_law_word (T : Tx w K mg) : FnOk PySem.Challenge.pw_renamedhorn_k13_whole_turning_order_and w K mg base (L2N.CX PySem.Challenge.pw_renamedhorn_k13_whole_turning_order_and w) 2 (ga K "_law_word") (fdOf K (ga K "_law_word")) ["_law_source_here", "_law_size"] (sp_law_word K) := by
  refine T.fn_law_word.ok sc_law_word (fun vs H Q E h => Sp2.len h) (fun cdv A outer s H vs Q E hr h => ⟨t_law_word K (fun cls d _ H => E cls d H), ?_, pure_law_word h⟩)
  · have tk := L2N.takes_of (X := cxOf (L2N.CX PySem.Challenge.pw_renamedhorn_k13_whole_turning_order_and w) PySem.Challenge.pw_renamedhorn_k13_whole_turning_order_and w K mg base N_law_word "_law_word" (defScope Hd.s_law_word) (ga K "_law_word") cdv A outer s H E) (E := E) rfl rfl rfl rfl
    exact (pss_cons (ps_asg pe_str (pg_name (i := 2) sc_law_word.nd rfl (Or.inl rfl)))
      (pss_cons (ps_asg pe_str (pg_name (i := 3) sc_law_word.nd rfl (Or.inl rfl)))
      (pss_cons (ps_asg (pe_ix ix_P (pv 2) (pe_callS (ok_law_take T) (hr.mono (by decide)) rfl T.g_law_take (T.fn_law_take).kp (b_law_take T) (fun σ => L2N.passAt tk σ) (pa_cons (pv 0) (pa_cons pe_int pa_nil))) (fun _ _ => rfl)) (pg_name (i := 4) sc_law_word.nd rfl (Or.inl rfl)))
      (pss_cons (ps_asg (pe_callS (ok_law_take T) (hr.mono (by decide)) rfl T.g_law_take (T.fn_law_take).kp (b_law_take T) (fun σ => L2N.passAt tk σ) (pa_cons (pv 0) (pa_cons (pe_op op_powP pe_int pe_int) pa_nil))) (pg_name (i := 5) sc_law_word.nd rfl (Or.inl rfl)))
      (pss_cut (ps_for (passes_of rfl) rfl (pi_range1 (by rfl) T.f_range (pa_cons (pe_op op_subP (pv 1) pe_int) pa_nil)) (pg_name (i := 6) sc_law_word.nd rfl (Or.inl rfl)) (pss_cons (ps_asg (pe_op op_addP (pv 4) (pe_ix ix_P (pv 3) (pe_op op_modP (pe_callTy call_intP (by rfl) T.f_int PyProof.Rows.Boot.«int» (pa_cons (pv 5) pa_nil)) pe_int) (fun _ _ => rfl))) (pg_name (i := 4) sc_law_word.nd rfl (Or.inl rfl)))
      (pss_one (ps_asg (pe_op op_fdivP (pv 5) pe_int) (pg_name (i := 5) sc_law_word.nd rfl (Or.inl rfl))))))
      (pss_one (ps_ret (pv 4))))))))
theorem sc_law_names : FnScope N_law_names ["_law_source_here", "_law_many"] (defScope Hd.s_law_names) := ⟨rfl, rfl, rfl, by decide +kernel, rfl, by decide +kernel, by decide +kernel⟩
theorem b_law_names (T : Tx w K mg) : Binds K (fdOf K (ga K "_law_names")) ["_law_source_here", "_law_many"] [] := T.fn_law_names.bindsN fun _ _ _ _ _ _ us hl => match us, hl with | [_, _], _ => rfl
theorem ok_law_names (T : Tx w K mg) : FnOk PySem.Challenge.pw_renamedhorn_k13_whole_turning_order_and w K mg base (L2N.CX PySem.Challenge.pw_renamedhorn_k13_whole_turning_order_and w) 3 (ga K "_law_names") (fdOf K (ga K "_law_names")) ["_law_source_here", "_law_many"] (sp_law_names K) := by
  refine T.fn_law_names.ok sc_law_names (fun vs H Q E h => Sp2.len h) (fun cdv A outer s H vs Q E hr h => ⟨t_law_names K (fun cls d _ H => E cls d H), ?_, pure_law_names h⟩)
  · have tk := L2N.takes_of (X := cxOf (L2N.CX PySem.Challenge.pw_renamedhorn_k13_whole_turning_order_and w) PySem.Challenge.pw_renamedhorn_k13_whole_turning_order_and w K mg base N_law_names "_law_names" (defScope Hd.s_law_names) (ga K "_law_names") cdv A outer s H E) (E := E) rfl rfl rfl rfl
    exact (pss_cons (ps_asg pe_str (pg_name (i := 2) sc_law_names.nd rfl (Or.inl rfl)))
      (pss_cons (ps_asg (pe_callS (ok_law_take T) (hr.mono (by decide)) rfl T.g_law_take (T.fn_law_take).kp (b_law_take T) (fun σ => L2N.passAt tk σ) (pa_cons (pv 0) (pa_cons pe_int pa_nil))) (pg_name (i := 3) sc_law_names.nd rfl (Or.inl rfl)))
      (pss_cons (ps_asg (pe_op op_addP pe_int (pe_callS (ok_law_take T) (hr.mono (by decide)) rfl T.g_law_take (T.fn_law_take).kp (b_law_take T) (fun σ => L2N.passAt tk σ) (pa_cons (pv 0) (pa_cons pe_int pa_nil)))) (pg_name (i := 4) sc_law_names.nd rfl (Or.inl rfl)))
      (pss_cons (ps_asg (pe_callS (ok_law_take T) (hr.mono (by decide)) rfl T.g_law_take (T.fn_law_take).kp (b_law_take T) (fun σ => L2N.passAt tk σ) (pa_cons (pv 0) (pa_cons (pv 4) pa_nil))) (pg_name (i := 5) sc_law_names.nd rfl (Or.inl rfl)))
      (pss_cons (ps_asg (pe_callS (ok_law_word T) (hr.mono (by decide)) rfl T.g_law_word (T.fn_law_word).kp (b_law_word T) (fun σ => L2N.passAt tk σ) (pa_cons (pv 0) (pa_cons (pv 4) pa_nil))) (pg_name (i := 6) sc_law_names.nd rfl (Or.inl rfl)))
      (pss_cons (ps_asg (pe_callS (ok_law_take T) (hr.mono (by decide)) rfl T.g_law_take (T.fn_law_take).kp (b_law_take T) (fun σ => L2N.passAt tk σ) (pa_cons (pv 0) (pa_cons pe_int pa_nil))) (pg_name (i := 7) sc_law_names.nd rfl (Or.inl rfl)))
      (pss_cons (ps_asg (pe_ix ix_P (pe_lst (pa_cons pe_int (pa_cons pe_int (pa_cons pe_int (pa_cons pe_int pa_nil))))) (pe_callS (ok_law_take T) (hr.mono (by decide)) rfl T.g_law_take (T.fn_law_take).kp (b_law_take T) (fun σ => L2N.passAt tk σ) (pa_cons (pv 0) (pa_cons pe_int pa_nil))) (fun _ _ => rfl)) (pg_name (i := 8) sc_law_names.nd rfl (Or.inl rfl)))
      (pss_cons (ps_asg (pe_lst pa_nil) (pg_name (i := 9) sc_law_names.nd rfl (Or.inl rfl)))
      (pss_cut (ps_for (passes_of rfl) rfl (pi_range1 (by rfl) T.f_range (pa_cons (pv 1) pa_nil)) (pg_name (i := 10) sc_law_names.nd rfl (Or.inl rfl)) (pss_cons (ps_asg (pe_ix ix_P (pv 2) (pe_op op_modP (pe_callTy call_intP (by rfl) T.f_int PyProof.Rows.Boot.«int» (pa_cons (pe_op op_addP (pv 7) (pe_op op_mulP (pv 8) (pv 10))) pa_nil)) pe_int) (fun _ _ => rfl)) (pg_name (i := 11) sc_law_names.nd rfl (Or.inl rfl)))
      (pss_one (ps_if (pt_cmpR (op_eqP hr.units) (pv 3) pe_int (nomark _)) (pss_one (ps_expr (pe_bm PySem.F.plainAttrs_list PySem.F.slot_list_append PySem.F.type_list_append mt_append (pv 9) (pa_cons (pe_op op_addP (pe_op op_addP (pe_slice sl_P (pv 6) po_none (po_some (pv 5))) (pv 11)) (pe_slice sl_P (pv 6) (po_some (pe_op op_addP (pv 5) pe_int)) po_none)) pa_nil)))) (pss_one (ps_if (pt_cmpR (op_eqP hr.units) (pv 3) pe_int (nomark _)) (pss_one (ps_expr (pe_bm PySem.F.plainAttrs_list PySem.F.slot_list_append PySem.F.type_list_append mt_append (pv 9) (pa_cons (pe_op op_addP (pv 11) (pe_slice sl_P (pv 6) (po_some pe_int) (po_some (pe_op op_addP pe_int (pe_callS (ok_law_take T) (hr.mono (by decide)) rfl T.g_law_take (T.fn_law_take).kp (b_law_take T) (fun σ => L2N.passAt tk σ) (pa_cons (pv 0) (pa_cons pe_int pa_nil))))))) pa_nil)))) (pss_one (ps_expr (pe_bm PySem.F.plainAttrs_list PySem.F.slot_list_append PySem.F.type_list_append mt_append (pv 9) (pa_cons (pe_op op_addP (pe_op op_addP (pe_slice sl_P (pv 6) po_none (po_some (pv 5))) (pv 11)) (pe_slice sl_P (pe_callS (ok_law_word T) (hr.mono (by decide)) rfl T.g_law_word (T.fn_law_word).kp (b_law_word T) (fun σ => L2N.passAt tk σ) (pa_cons (pv 0) (pa_cons (pe_op op_subP pe_int (pv 5)) pa_nil))) po_none (po_some (pe_callS (ok_law_take T) (hr.mono (by decide)) rfl T.g_law_take (T.fn_law_take).kp (b_law_take T) (fun σ => L2N.passAt tk σ) (pa_cons (pv 0) (pa_cons (pe_op op_subP pe_int (pv 5)) pa_nil)))))) pa_nil))))))))))
      (pss_one (ps_ret (pv 9))))))))))))
theorem sc_law_sorted : FnScope N_law_sorted ["_law_names_here"] (defScope Hd.s_law_sorted) := ⟨rfl, rfl, rfl, by decide +kernel, rfl, by decide +kernel, by decide +kernel⟩
theorem b_law_sorted (T : Tx w K mg) : Binds K (fdOf K (ga K "_law_sorted")) ["_law_names_here"] [] := T.fn_law_sorted.bindsN fun _ _ _ _ _ _ us hl => match us, hl with | [_], _ => rfl
theorem ok_law_sorted (T : Tx w K mg) : FnOk PySem.Challenge.pw_renamedhorn_k13_whole_turning_order_and w K mg base (L2N.CX PySem.Challenge.pw_renamedhorn_k13_whole_turning_order_and w) 1 (ga K "_law_sorted") (fdOf K (ga K "_law_sorted")) ["_law_names_here"] (sp_law_sorted K) := by
  refine T.fn_law_sorted.ok sc_law_sorted (fun vs H Q E h => Sp1.len h) (fun cdv A outer s H vs Q E hr h => ⟨t_law_sorted K (fun cls d _ H => E cls d H), ?_, pure_law_sorted h⟩)
  · have tk := L2N.takes_of (X := cxOf (L2N.CX PySem.Challenge.pw_renamedhorn_k13_whole_turning_order_and w) PySem.Challenge.pw_renamedhorn_k13_whole_turning_order_and w K mg base N_law_sorted "_law_sorted" (defScope Hd.s_law_sorted) (ga K "_law_sorted") cdv A outer s H E) (E := E) rfl rfl rfl rfl
    exact (pss_cons (ps_asg (pe_lst pa_nil) (pg_name (i := 1) sc_law_sorted.nd rfl (Or.inl rfl)))
      (pss_cut (ps_for (passes_of rfl) rfl (pi_anyP (pe_callB cr_sortedS (by rfl) T.f_sorted PyProof.Rows.Boot.«sorted» (pa_cons (pe_lc (own := [("_law_each", 3)]) (g := (gName 3)) (tt := tYes) rfl sc_law_sorted.nd (pi_anyP (pv 0)) (blkOk_by (own := [("_law_each", 3)]) (N := N_law_sorted) (sc := defScope Hd.s_law_sorted) (by decide +kernel)) (fun _ _ _ _ _ => (pg_name (i := 3) sc_law_sorted.nd rfl (Or.inl rfl))) (fun _ _ _ _ _ => pts_nil) (fun _ _ _ _ _ => (pe_callTy call_strP (by rfl) T.f_str PyProof.Rows.Boot.«str» (pa_cons (pv 3) pa_nil)))) pa_nil))) (pg_name (i := 2) sc_law_sorted.nd rfl (Or.inl rfl)) (pss_one (ps_if (pt_cmpR (op_ninP hr.units) (pv 2) (pv 1) (by rfl)) (pss_one (ps_expr (pe_bm PySem.F.plainAttrs_list PySem.F.slot_list_append PySem.F.type_list_append mt_append (pv 1) (pa_cons (pv 2) pa_nil)))) pss_nil)))
      (pss_one (ps_ret (pv 1)))))
theorem sc_law_same : FnScope N_law_same ["_law_one", "_law_other"] (defScope Hd.s_law_same) := ⟨rfl, rfl, rfl, by decide +kernel, rfl, by decide +kernel, by decide +kernel⟩
theorem b_law_same (T : Tx w K mg) : Binds K (fdOf K (ga K "_law_same")) ["_law_one", "_law_other"] [] := T.fn_law_same.bindsN fun _ _ _ _ _ _ us hl => match us, hl with | [_, _], _ => rfl
theorem okn_law_same (T : Tx w K mg) (n : Nat) (okR : FnOk PySem.Challenge.pw_renamedhorn_k13_whole_turning_order_and w K mg base (L2N.CX PySem.Challenge.pw_renamedhorn_k13_whole_turning_order_and w) n (ga K "_law_same") (fdOf K (ga K "_law_same")) ["_law_one", "_law_other"] (spR_law_same K n)) : FnOk PySem.Challenge.pw_renamedhorn_k13_whole_turning_order_and w K mg base (L2N.CX PySem.Challenge.pw_renamedhorn_k13_whole_turning_order_and w) (n + 1) (ga K "_law_same") (fdOf K (ga K "_law_same")) ["_law_one", "_law_other"] (spn_law_same K n) := by
  refine T.fn_law_same.ok sc_law_same (fun vs H Q E h => Sp2.len h) (fun cdv A outer s H vs Q E hr h => ⟨t_law_same K (spR_law_same K n) (fun cls d _ H => E cls d H), ?_, pure_law_same h⟩)
  · have tk := L2N.takes_of (X := cxOf (L2N.CX PySem.Challenge.pw_renamedhorn_k13_whole_turning_order_and w) PySem.Challenge.pw_renamedhorn_k13_whole_turning_order_and w K mg base N_law_same "_law_same" (defScope Hd.s_law_same) (ga K "_law_same") cdv A outer s H E) (E := E) rfl rfl rfl rfl
    exact (pss_cut (ps_if (PW.pt (pw_or (pt_val (pe_callB call_isi (by rfl) T.f_isinstance PyProof.Rows.Boot.«isinstance» (pa_cons (pv 0) (pa_cons (pe_bltn (v := .ty "bool") rfl (T.f_bool) PyProof.Rows.Boot.«bool» rfl) pa_nil)))) (pw_or1 (pt_val (pe_callB call_isi (by rfl) T.f_isinstance PyProof.Rows.Boot.«isinstance» (pa_cons (pv 1) (pa_cons (pe_bltn (v := .ty "bool") rfl (T.f_bool) PyProof.Rows.Boot.«bool» rfl) pa_nil))))))) (pss_one (ps_ret (pe_and (pe_callB call_isi (by rfl) T.f_isinstance PyProof.Rows.Boot.«isinstance» (pa_cons (pv 0) (pa_cons (pe_bltn (v := .ty "bool") rfl (T.f_bool) PyProof.Rows.Boot.«bool» rfl) pa_nil))) (pe_and (pe_callB call_isi (by rfl) T.f_isinstance PyProof.Rows.Boot.«isinstance» (pa_cons (pv 1) (pa_cons (pe_bltn (v := .ty "bool") rfl (T.f_bool) PyProof.Rows.Boot.«bool» rfl) pa_nil))) (pe_one (pe_cmpR (op_eqP hr.units) (pv 0) (pv 1) (nomark _))))))) pss_nil)
      (pss_cut (ps_if (PW.pt (pw_or (pt_val (pe_callB call_isi (by rfl) T.f_isinstance PyProof.Rows.Boot.«isinstance» (pa_cons (pv 0) (pa_cons (pe_bltn (v := .ty "int") rfl (T.f_int) PyProof.Rows.Boot.«int» rfl) pa_nil)))) (pw_or1 (pt_val (pe_callB call_isi (by rfl) T.f_isinstance PyProof.Rows.Boot.«isinstance» (pa_cons (pv 1) (pa_cons (pe_bltn (v := .ty "int") rfl (T.f_int) PyProof.Rows.Boot.«int» rfl) pa_nil))))))) (pss_one (ps_ret (pe_and (pe_callB call_isi (by rfl) T.f_isinstance PyProof.Rows.Boot.«isinstance» (pa_cons (pv 0) (pa_cons (pe_bltn (v := .ty "int") rfl (T.f_int) PyProof.Rows.Boot.«int» rfl) pa_nil))) (pe_and (pe_callB call_isi (by rfl) T.f_isinstance PyProof.Rows.Boot.«isinstance» (pa_cons (pv 1) (pa_cons (pe_bltn (v := .ty "int") rfl (T.f_int) PyProof.Rows.Boot.«int» rfl) pa_nil))) (pe_one (pe_cmpR (op_eqP hr.units) (pv 0) (pv 1) (nomark _))))))) pss_nil)
      (pss_cut (ps_if (PW.pt (pw_or (pt_val (pe_callB call_isi (by rfl) T.f_isinstance PyProof.Rows.Boot.«isinstance» (pa_cons (pv 0) (pa_cons (pe_bltn (v := .ty "str") rfl (T.f_str) PyProof.Rows.Boot.«str» rfl) pa_nil)))) (pw_or1 (pt_val (pe_callB call_isi (by rfl) T.f_isinstance PyProof.Rows.Boot.«isinstance» (pa_cons (pv 1) (pa_cons (pe_bltn (v := .ty "str") rfl (T.f_str) PyProof.Rows.Boot.«str» rfl) pa_nil))))))) (pss_one (ps_ret (pe_and (pe_callB call_isi (by rfl) T.f_isinstance PyProof.Rows.Boot.«isinstance» (pa_cons (pv 0) (pa_cons (pe_bltn (v := .ty "str") rfl (T.f_str) PyProof.Rows.Boot.«str» rfl) pa_nil))) (pe_and (pe_callB call_isi (by rfl) T.f_isinstance PyProof.Rows.Boot.«isinstance» (pa_cons (pv 1) (pa_cons (pe_bltn (v := .ty "str") rfl (T.f_str) PyProof.Rows.Boot.«str» rfl) pa_nil))) (pe_one (pe_cmpR (op_eqP hr.units) (pv 0) (pv 1) (nomark _))))))) pss_nil)
      (pss_cons (ps_asg (pe_and (pe_callB call_isi (by rfl) T.f_isinstance PyProof.Rows.Boot.«isinstance» (pa_cons (pv 0) (pa_cons (pe_bltn (v := .ty "list") rfl (T.f_list) PyProof.Rows.Boot.«list» rfl) pa_nil))) (pe_one (pe_callB call_isi (by rfl) T.f_isinstance PyProof.Rows.Boot.«isinstance» (pa_cons (pv 1) (pa_cons (pe_bltn (v := .ty "list") rfl (T.f_list) PyProof.Rows.Boot.«list» rfl) pa_nil))))) (pg_name (i := 2) sc_law_same.nd rfl (Or.inl rfl)))
      (pss_cut (ps_if (PW.pt (pw_and (pt_not (pt_val (pv 2))) (pw_and1 (pt_not (PW.pt (pw_and (pt_val (pe_callB call_isi (by rfl) T.f_isinstance PyProof.Rows.Boot.«isinstance» (pa_cons (pv 0) (pa_cons (pe_bltn (v := .ty "tuple") rfl (T.f_tuple) PyProof.Rows.Boot.«tuple» rfl) pa_nil)))) (pw_and1 (pt_val (pe_callB call_isi (by rfl) T.f_isinstance PyProof.Rows.Boot.«isinstance» (pa_cons (pv 1) (pa_cons (pe_bltn (v := .ty "tuple") rfl (T.f_tuple) PyProof.Rows.Boot.«tuple» rfl) pa_nil))))))))))) (pss_one (ps_ret (pe_and (pe_cmpR op_isP (pv 0) pe_non (nomark _)) (pe_one (pe_cmpR op_isP (pv 1) pe_non (nomark _)))))) pss_nil)
      (pss_one (ps_ret (pe_and (pe_cmpR (op_eqP hr.units) (pe_callB call_lenP (by rfl) T.f_len PyProof.Rows.Boot.«len» (pa_cons (pv 0) pa_nil)) (pe_callB call_lenP (by rfl) T.f_len PyProof.Rows.Boot.«len» (pa_cons (pv 1) pa_nil)) (nomark _)) (pe_one (pe_callB (cr_all rfl) (by rfl) T.f_all PyProof.Rows.Boot.«all» (pa_cons (pe_lc (own := [("_law_k", 3)]) (g := (gName 3)) (tt := tYes) rfl sc_law_same.nd (pi_range1 (by rfl) T.f_range (pa_cons (pe_callB call_lenP (by rfl) T.f_len PyProof.Rows.Boot.«len» (pa_cons (pv 0) pa_nil)) pa_nil)) (blkOk_by (own := [("_law_k", 3)]) (N := N_law_same) (sc := defScope Hd.s_law_same) (by decide +kernel)) (fun _ _ _ _ _ => (pg_name (i := 3) sc_law_same.nd rfl (Or.inl rfl))) (fun _ _ _ _ _ => pts_nil) (fun _ _ _ _ _ => (pe_call okR (hr.mono (by omega)) rfl T.g_law_same (T.fn_law_same).kp (b_law_same T) .nil passN (pa_cons (pe_ix ix_P (pv 0) (pv 3) (fun _ _ => rfl)) (pa_cons (pe_ix ix_P (pv 1) (pv 3) (fun _ _ => rfl)) pa_nil))))) pa_nil)))))))))))
theorem oka_law_same (T : Tx w K mg) : ∀ n : Nat, FnOk PySem.Challenge.pw_renamedhorn_k13_whole_turning_order_and w K mg base (L2N.CX PySem.Challenge.pw_renamedhorn_k13_whole_turning_order_and w) (n + 1) (ga K "_law_same") (fdOf K (ga K "_law_same")) ["_law_one", "_law_other"] (spn_law_same K n)
  | 0 => okn_law_same T 0 ⟨fun _ _ _ _ h => h.elim, fun _ _ _ _ _ _ _ _ _ _ _ _ _ h => h.elim⟩
  | n + 1 => okn_law_same T (n + 1) (oka_law_same T n)
theorem ok_law_same (T : Tx w K mg) : FnOk PySem.Challenge.pw_renamedhorn_k13_whole_turning_order_and w K mg base (L2N.CX PySem.Challenge.pw_renamedhorn_k13_whole_turning_order_and w) 5 (ga K "_law_same") (fdOf K (ga K "_law_same")) ["_law_one", "_law_other"] (sp_law_same K) := oka_law_same T 4
theorem okH_law_same (T : Tx w K mg) : L2H.FnH PySem.Challenge.pw_renamedhorn_k13_whole_turning_order_and w K mg base (L2N.CX PySem.Challenge.pw_renamedhorn_k13_whole_turning_order_and w) 5 (ga K "_law_same") (fdOf K (ga K "_law_same")) ["_law_one", "_law_other"] (spH_law_same K) := by
  refine T.fn_law_same.okH sc_law_same (fun vs H Q E h => Sp2.len h) (fun cdv A outer s H vs Q E p hot hr h => ⟨tH_law_same K (fun cls d _ H => E cls d H), ?_, pureH_law_same h⟩)
  · have tk := L2N.takes_of (X := L2H.cxH (L2N.CX PySem.Challenge.pw_renamedhorn_k13_whole_turning_order_and w) PySem.Challenge.pw_renamedhorn_k13_whole_turning_order_and w K mg base N_law_same "_law_same" (defScope Hd.s_law_same) (ga K "_law_same") cdv A outer s H E p) (E := E) rfl rfl rfl rfl
    exact (pss_cut (ps_if (PW.pt (pw_or (pt_val (pe_callB call_isi (by rfl) T.f_isinstance PyProof.Rows.Boot.«isinstance» (pa_cons (pv 0) (pa_cons (pe_bltn (v := .ty "bool") rfl (T.f_bool) PyProof.Rows.Boot.«bool» rfl) pa_nil)))) (pw_or1 (pt_val (pe_callB call_isi (by rfl) T.f_isinstance PyProof.Rows.Boot.«isinstance» (pa_cons (pv 1) (pa_cons (pe_bltn (v := .ty "bool") rfl (T.f_bool) PyProof.Rows.Boot.«bool» rfl) pa_nil))))))) (pss_one (ps_ret (pe_and (pe_callB call_isi (by rfl) T.f_isinstance PyProof.Rows.Boot.«isinstance» (pa_cons (pv 0) (pa_cons (pe_bltn (v := .ty "bool") rfl (T.f_bool) PyProof.Rows.Boot.«bool» rfl) pa_nil))) (pe_and (pe_callB call_isi (by rfl) T.f_isinstance PyProof.Rows.Boot.«isinstance» (pa_cons (pv 1) (pa_cons (pe_bltn (v := .ty "bool") rfl (T.f_bool) PyProof.Rows.Boot.«bool» rfl) pa_nil))) (pe_one (pe_cmpR (op_eqP hr.units) (pv 0) (pv 1) (nomark _))))))) pss_nil)
      (pss_cut (ps_if (PW.pt (pw_or (pt_val (pe_callB call_isi (by rfl) T.f_isinstance PyProof.Rows.Boot.«isinstance» (pa_cons (pv 0) (pa_cons (pe_bltn (v := .ty "int") rfl (T.f_int) PyProof.Rows.Boot.«int» rfl) pa_nil)))) (pw_or1 (pt_val (pe_callB call_isi (by rfl) T.f_isinstance PyProof.Rows.Boot.«isinstance» (pa_cons (pv 1) (pa_cons (pe_bltn (v := .ty "int") rfl (T.f_int) PyProof.Rows.Boot.«int» rfl) pa_nil))))))) (pss_one (ps_ret (pe_and (pe_callB call_isi (by rfl) T.f_isinstance PyProof.Rows.Boot.«isinstance» (pa_cons (pv 0) (pa_cons (pe_bltn (v := .ty "int") rfl (T.f_int) PyProof.Rows.Boot.«int» rfl) pa_nil))) (pe_and (pe_callB call_isi (by rfl) T.f_isinstance PyProof.Rows.Boot.«isinstance» (pa_cons (pv 1) (pa_cons (pe_bltn (v := .ty "int") rfl (T.f_int) PyProof.Rows.Boot.«int» rfl) pa_nil))) (pe_one (pe_cmpR (op_eqP hr.units) (pv 0) (pv 1) (nomark _))))))) pss_nil)
      (pss_cut (ps_if (PW.pt (pw_or (pt_val (pe_callB call_isi (by rfl) T.f_isinstance PyProof.Rows.Boot.«isinstance» (pa_cons (pv 0) (pa_cons (pe_bltn (v := .ty "str") rfl (T.f_str) PyProof.Rows.Boot.«str» rfl) pa_nil)))) (pw_or1 (pt_val (pe_callB call_isi (by rfl) T.f_isinstance PyProof.Rows.Boot.«isinstance» (pa_cons (pv 1) (pa_cons (pe_bltn (v := .ty "str") rfl (T.f_str) PyProof.Rows.Boot.«str» rfl) pa_nil))))))) (pss_one (ps_ret (pe_and (pe_callB call_isi (by rfl) T.f_isinstance PyProof.Rows.Boot.«isinstance» (pa_cons (pv 0) (pa_cons (pe_bltn (v := .ty "str") rfl (T.f_str) PyProof.Rows.Boot.«str» rfl) pa_nil))) (pe_and (pe_callB call_isi (by rfl) T.f_isinstance PyProof.Rows.Boot.«isinstance» (pa_cons (pv 1) (pa_cons (pe_bltn (v := .ty "str") rfl (T.f_str) PyProof.Rows.Boot.«str» rfl) pa_nil))) (pe_one (pe_cmpR (op_eqP hr.units) (pv 0) (pv 1) (nomark _))))))) pss_nil)
      (pss_cons (ps_asg (pe_and (pe_callB call_isi (by rfl) T.f_isinstance PyProof.Rows.Boot.«isinstance» (pa_cons (pv 0) (pa_cons (pe_bltn (v := .ty "list") rfl (T.f_list) PyProof.Rows.Boot.«list» rfl) pa_nil))) (pe_one (pe_callB call_isi (by rfl) T.f_isinstance PyProof.Rows.Boot.«isinstance» (pa_cons (pv 1) (pa_cons (pe_bltn (v := .ty "list") rfl (T.f_list) PyProof.Rows.Boot.«list» rfl) pa_nil))))) (pg_name (i := 2) sc_law_same.nd rfl (Or.inl rfl)))
      (pss_cut (ps_if (PW.pt (pw_and (pt_not (pt_val (pv 2))) (pw_and1 (pt_not (PW.pt (pw_and (pt_val (pe_callB call_isi (by rfl) T.f_isinstance PyProof.Rows.Boot.«isinstance» (pa_cons (pv 0) (pa_cons (pe_bltn (v := .ty "tuple") rfl (T.f_tuple) PyProof.Rows.Boot.«tuple» rfl) pa_nil)))) (pw_and1 (pt_val (pe_callB call_isi (by rfl) T.f_isinstance PyProof.Rows.Boot.«isinstance» (pa_cons (pv 1) (pa_cons (pe_bltn (v := .ty "tuple") rfl (T.f_tuple) PyProof.Rows.Boot.«tuple» rfl) pa_nil))))))))))) (pss_one (ps_ret (pe_and (pe_cmpR op_isP (pv 0) pe_non (nomark _)) (pe_one (pe_cmpR op_isP (pv 1) pe_non (nomark _)))))) pss_nil)
      (pss_one ps_never))))))
theorem sc_Turning_init : FnScope N_Turning_init ["self", "names"] (defScope Hd.s_Turning_init) := ⟨rfl, rfl, rfl, by decide +kernel, rfl, by decide +kernel, by decide +kernel⟩
theorem fr_Turning_init (T : Tx w K mg) : FnR PySem.Challenge.pw_renamedhorn_k13_whole_turning_order_and w K mg base (L2N.CX PySem.Challenge.pw_renamedhorn_k13_whole_turning_order_and w) 4 (ma K (ga K "Turning") "__init__") (spV_Turning_init K) := by
  refine okStar (ps := ["self"]) (pv := "names") T.fn_Turning_init sc_Turning_init (fun kV doc pm an cdv ct => StX.bind_star1 (B := fun us => bindArgs (PySem.W.fnOf Hd.d_Turning_init.name Hd.d_Turning_init.qual (defArgs Hd.s_Turning_init) (defBody Hd.s_Turning_init) (defScope Hd.s_Turning_init) .none kV doc pm an cdv ct) ⟨us, []⟩) (fun _ => rfl) (fun _ _ _ => rfl)) (fun cdv A outer s H vs Q E hr h => ⟨t_Turning_init K (fun cls d _ H => E cls d H), ?_, pure_Turning_init h⟩)
  · have tk := L2N.takes_of (X := cxOf (L2N.CX PySem.Challenge.pw_renamedhorn_k13_whole_turning_order_and w) PySem.Challenge.pw_renamedhorn_k13_whole_turning_order_and w K mg base N_Turning_init "Turning.__init__" (defScope Hd.s_Turning_init) (ma K (ga K "Turning") "__init__") cdv A outer s H E) (E := E) rfl rfl rfl rfl
    obtain ⟨u_Clause_LIMIT, con_Clause_LIMIT⟩ := T.con_Clause_LIMIT
    obtain ⟨u_Turning_LIMIT, con_Turning_LIMIT⟩ := T.con_Turning_LIMIT
    exact (pss_cons (ps_asg (pe_callS (ok_ordered_names T) (hr.mono (by decide)) rfl T.g_ordered_names (T.fn_ordered_names).kp (b_ordered_names T) (fun σ => L2N.passAt tk σ) (pa_cons (pe_callTy call_listP (by rfl) T.f_list PyProof.Rows.Boot.«list» (pa_cons (pv 1) pa_nil)) pa_nil)) (pg_name (i := 2) sc_Turning_init.nd rfl (Or.inl rfl)))
      (pss_cut (ps_if (pt_cmpR op_gtP (pe_callB call_lenP (by rfl) T.f_len PyProof.Rows.Boot.«len» (pa_cons (pv 2) pa_nil)) (Cl.pe_att (.cons (Cl.alt_con T.cls_Clause con_Clause_LIMIT) (.cons (Cl.alt_con T.cls_Turning con_Turning_LIMIT) .nil)) (pv 0)) (nomark _)) (pss_one (ps_raiseE rfl T.err_TooMany hr tk (pa_cons (Cl.pe_att (.cons (Cl.alt_con T.cls_Clause con_Clause_LIMIT) (.cons (Cl.alt_con T.cls_Turning con_Turning_LIMIT) .nil)) (pv 0)) pa_nil))) pss_nil)
      (pss_one (Cl.ps_att (l := [ga K "Turning"]) (fun C h => by simp only [List.mem_cons, List.not_mem_nil, or_false] at h; rcases h with rfl <;> first | exact ⟨T.cls_Turning, T.no_Turning_turned⟩) (pv 0) (pe_callTy call_tupleP (by rfl) T.f_tuple PyProof.Rows.Boot.«tuple» (pa_cons (pv 2) pa_nil))))))
theorem sc_Turning_xor : FnScope N_Turning_xor ["self", "other"] (defScope Hd.s_Turning_xor) := ⟨rfl, rfl, rfl, by decide +kernel, rfl, by decide +kernel, by decide +kernel⟩
theorem b_Turning_xor (T : Tx w K mg) : Binds K (fdOf K (ma K (ga K "Turning") "__xor__")) ["self", "other"] [] := T.fn_Turning_xor.bindsN fun _ _ _ _ _ _ us hl => match us, hl with | [_, _], _ => rfl
theorem ok_Turning_xor (T : Tx w K mg) : FnOk PySem.Challenge.pw_renamedhorn_k13_whole_turning_order_and w K mg base (L2N.CX PySem.Challenge.pw_renamedhorn_k13_whole_turning_order_and w) 8 (ma K (ga K "Turning") "__xor__") (fdOf K (ma K (ga K "Turning") "__xor__")) ["self", "other"] (sp_Turning_xor K) := by
  refine T.fn_Turning_xor.ok sc_Turning_xor (fun vs H Q E h => Sp2.len h) (fun cdv A outer s H vs Q E hr h => ⟨t_Turning_xor K (fun cls d _ H => E cls d H), ?_, pure_Turning_xor T.ins_Turning T.kit_Turning_Turning h⟩)
  · have tk := L2N.takes_of (X := cxOf (L2N.CX PySem.Challenge.pw_renamedhorn_k13_whole_turning_order_and w) PySem.Challenge.pw_renamedhorn_k13_whole_turning_order_and w K mg base N_Turning_xor "Turning.__xor__" (defScope Hd.s_Turning_xor) (ma K (ga K "Turning") "__xor__") cdv A outer s H E) (E := E) rfl rfl rfl rfl
    exact (pss_cut (ps_if (pt_not (pt_val (pe_callB call_isi (by rfl) T.f_isinstance PyProof.Rows.Boot.«isinstance» (pa_cons (pv 1) (pa_cons (pe_glob (v := .ref (ga K "Turning")) rfl (T.g_Turning) rfl) pa_nil))))) (pss_one ps_never) pss_nil)
      (pss_cons (ps_asg (pe_callS (ok_differing T) (hr.mono (by decide)) rfl T.g_differing (T.fn_differing).kp (b_differing T) (fun σ => L2N.passAt tk σ) (pa_cons (Cl.pe_att (.cons (Cl.alt_fld T.cls_Turning T.no_Turning_turned) .nil) (pv 0)) (pa_cons (Cl.pe_att (.cons (Cl.alt_fld T.cls_Turning T.no_Turning_turned) .nil) (pv 1)) pa_nil))) (pg_name (i := 2) sc_Turning_xor.nd rfl (Or.inl rfl)))
      (pss_one (ps_ret (Cl.pe_makeSS T.mk_Turning (fr_Turning_init T) (hr.mono (by decide)) rfl T.g_Turning (fun σ => L2N.passAt tk σ) (pv 2))))))
theorem sc_law_turning : FnScope N_law_turning ["_law_names_here"] (defScope Hd.s_law_turning) := ⟨rfl, rfl, rfl, by decide +kernel, rfl, by decide +kernel, by decide +kernel⟩
theorem b_law_turning (T : Tx w K mg) : Binds K (fdOf K (ga K "_law_turning")) ["_law_names_here"] [] := T.fn_law_turning.bindsN fun _ _ _ _ _ _ us hl => match us, hl with | [_], _ => rfl
theorem ok_law_turning (T : Tx w K mg) : FnOk PySem.Challenge.pw_renamedhorn_k13_whole_turning_order_and w K mg base (L2N.CX PySem.Challenge.pw_renamedhorn_k13_whole_turning_order_and w) 12 (ga K "_law_turning") (fdOf K (ga K "_law_turning")) ["_law_names_here"] (sp_law_turning K) := by
  refine T.fn_law_turning.ok sc_law_turning (fun vs H Q E h => Sp1.len h) (fun cdv A outer s H vs Q E hr h => ⟨t_law_turning K (fun cls d _ H => E cls d H), ?_, pure_law_turning h⟩)
  · have tk := L2N.takes_of (X := cxOf (L2N.CX PySem.Challenge.pw_renamedhorn_k13_whole_turning_order_and w) PySem.Challenge.pw_renamedhorn_k13_whole_turning_order_and w K mg base N_law_turning "_law_turning" (defScope Hd.s_law_turning) (ga K "_law_turning") cdv A outer s H E) (E := E) rfl rfl rfl rfl
    exact (pss_cons (ps_asg (Cl.pe_makeS0 T.mk_Turning (fr_Turning_init T) (hr.mono (by decide)) rfl T.g_Turning (fun σ => L2N.passAt tk σ)) (pg_name (i := 1) sc_law_turning.nd rfl (Or.inl rfl)))
      (pss_cut (ps_for (passes_of rfl) rfl (pi_anyP (pv 0)) (pg_name (i := 2) sc_law_turning.nd rfl (Or.inl rfl)) (pss_one (ps_asg (Cl.pe_opS (Cl.op_own (E := (WE fun cls d _ H => E cls d H)) (.cons (Cl.alt_bin Cl.dd_xor T.own_Turning_xor (Cl.toR (ok_Turning_xor T) (b_Turning_xor T)) (hr.mono (by decide)) (fun σ => L2N.passAt tk σ)) .nil) Cl.op_no) (pv 1) (Cl.pe_makeS T.mk_Turning (fr_Turning_init T) (hr.mono (by decide)) rfl T.g_Turning (fun σ => L2N.passAt tk σ) (pa_cons (pv 2) pa_nil))) (pg_name (i := 1) sc_law_turning.nd rfl (Or.inl rfl)))))
      (pss_one (ps_ret (pv 1)))))
theorem sc_law_three : FnScope N_law_three ["_law_source_here", "_law_names_here"] (defScope Hd.s_law_three) := ⟨rfl, rfl, rfl, by decide +kernel, rfl, by decide +kernel, by decide +kernel⟩
theorem b_law_three (T : Tx w K mg) : Binds K (fdOf K (ga K "_law_three")) ["_law_source_here", "_law_names_here"] [] := T.fn_law_three.bindsN fun _ _ _ _ _ _ us hl => match us, hl with | [_, _], _ => rfl
theorem ok_law_three (T : Tx w K mg) : FnOk PySem.Challenge.pw_renamedhorn_k13_whole_turning_order_and w K mg base (L2N.CX PySem.Challenge.pw_renamedhorn_k13_whole_turning_order_and w) 2 (ga K "_law_three") (fdOf K (ga K "_law_three")) ["_law_source_here", "_law_names_here"] (sp_law_three K) := by
  refine T.fn_law_three.ok sc_law_three (fun vs H Q E h => Sp2.len h) (fun cdv A outer s H vs Q E hr h => ⟨t_law_three K (fun cls d _ H => E cls d H), ?_, pure_law_three h⟩)
  · have tk := L2N.takes_of (X := cxOf (L2N.CX PySem.Challenge.pw_renamedhorn_k13_whole_turning_order_and w) PySem.Challenge.pw_renamedhorn_k13_whole_turning_order_and w K mg base N_law_three "_law_three" (defScope Hd.s_law_three) (ga K "_law_three") cdv A outer s H E) (E := E) rfl rfl rfl rfl
    exact (pss_cons (ps_asg (pe_lst pa_nil) (pg_name (i := 2) sc_law_three.nd rfl (Or.inl rfl)))
      (pss_cons (ps_asg (pe_lst pa_nil) (pg_name (i := 3) sc_law_three.nd rfl (Or.inl rfl)))
      (pss_cons (ps_asg (pe_lst pa_nil) (pg_name (i := 4) sc_law_three.nd rfl (Or.inl rfl)))
      (pss_cut (ps_for (passes_of rfl) rfl (pi_range1 (by rfl) T.f_range (pa_cons (pe_callS (ok_law_take T) (hr.mono (by decide)) rfl T.g_law_take (T.fn_law_take).kp (b_law_take T) (fun σ => L2N.passAt tk σ) (pa_cons (pv 0) (pa_cons pe_int pa_nil))) pa_nil)) (pg_name (i := 5) sc_law_three.nd rfl (Or.inl rfl)) (pss_cons (ps_asg (pe_callS (ok_law_take T) (hr.mono (by decide)) rfl T.g_law_take (T.fn_law_take).kp (b_law_take T) (fun σ => L2N.passAt tk σ) (pa_cons (pv 0) (pa_cons pe_int pa_nil))) (pg_name (i := 7) sc_law_three.nd rfl (Or.inl rfl)))
      (pss_cut (ps_if (pt_cmpR (op_eqP hr.units) (pe_op op_modP (pe_callTy call_intP (by rfl) T.f_int PyProof.Rows.Boot.«int» (pa_cons (pv 7) pa_nil)) pe_int) pe_int (nomark _)) (pss_one (ps_expr (pe_bm PySem.F.plainAttrs_list PySem.F.slot_list_append PySem.F.type_list_append mt_append (pv 2) (pa_cons (pe_ix ix_P (pv 1) (pv 5) (fun _ _ => rfl)) pa_nil)))) pss_nil)
      (pss_cut (ps_if (pt_cmpR (op_eqP hr.units) (pe_op op_fdivP (pv 7) pe_int) pe_int (nomark _)) (pss_one (ps_expr (pe_bm PySem.F.plainAttrs_list PySem.F.slot_list_append PySem.F.type_list_append mt_append (pv 3) (pa_cons (pe_ix ix_P (pv 1) (pv 5) (fun _ _ => rfl)) pa_nil)))) pss_nil)
      (pss_one (ps_if (pt_cmpR (op_inP hr.units) (pv 7) (pe_lst (pa_cons pe_int (pa_cons pe_int (pa_cons pe_int (pa_cons pe_int pa_nil))))) (by rfl)) (pss_one (ps_expr (pe_bm PySem.F.plainAttrs_list PySem.F.slot_list_append PySem.F.type_list_append mt_append (pv 4) (pa_cons (pe_ix ix_P (pv 1) (pv 5) (fun _ _ => rfl)) pa_nil)))) pss_nil))))))
      (pss_cons (ps_asg (pe_callS (ok_law_take T) (hr.mono (by decide)) rfl T.g_law_take (T.fn_law_take).kp (b_law_take T) (fun σ => L2N.passAt tk σ) (pa_cons (pv 0) (pa_cons pe_int pa_nil))) (pg_name (i := 6) sc_law_three.nd rfl (Or.inl rfl)))
      (pss_cut (ps_if (pt_cmpR (op_eqP hr.units) (pv 6) pe_int (nomark _)) (pss_one (ps_asg (pe_revL (pv 2)) (pg_name (i := 3) sc_law_three.nd rfl (Or.inl rfl)))) pss_nil)
      (pss_cut (ps_if (pt_cmpR (op_eqP hr.units) (pv 6) pe_int (nomark _)) (pss_one (ps_asg (pe_slice sl_P (pv 3) po_none (po_some (pe_callS (ok_law_take T) (hr.mono (by decide)) rfl T.g_law_take (T.fn_law_take).kp (b_law_take T) (fun σ => L2N.passAt tk σ) (pa_cons (pv 0) (pa_cons (pe_op op_addP (pe_callB call_lenP (by rfl) T.f_len PyProof.Rows.Boot.«len» (pa_cons (pv 3) pa_nil)) pe_int) pa_nil))))) (pg_name (i := 4) sc_law_three.nd rfl (Or.inl rfl)))) pss_nil)
      (pss_one (ps_ret (pe_lst (pa_cons (pv 2) (pa_cons (pv 3) (pa_cons (pv 4) pa_nil)))))))))))))
theorem sc_law_large : FnScope N_law_large ["_law_source_here", "_law_names_here"] (defScope Hd.s_law_large) := ⟨rfl, rfl, rfl, by decide +kernel, rfl, by decide +kernel, by decide +kernel⟩
theorem b_law_large (T : Tx w K mg) : Binds K (fdOf K (ga K "_law_large")) ["_law_source_here", "_law_names_here"] [] := T.fn_law_large.bindsN fun _ _ _ _ _ _ us hl => match us, hl with | [_, _], _ => rfl
theorem ok_law_large (T : Tx w K mg) : FnOk PySem.Challenge.pw_renamedhorn_k13_whole_turning_order_and w K mg base (L2N.CX PySem.Challenge.pw_renamedhorn_k13_whole_turning_order_and w) 2 (ga K "_law_large") (fdOf K (ga K "_law_large")) ["_law_source_here", "_law_names_here"] (sp_law_large K) := by
  refine T.fn_law_large.ok sc_law_large (fun vs H Q E h => Sp2.len h) (fun cdv A outer s H vs Q E hr h => ⟨t_law_large K (fun cls d _ H => E cls d H), ?_, pure_law_large h⟩)
  · have tk := L2N.takes_of (X := cxOf (L2N.CX PySem.Challenge.pw_renamedhorn_k13_whole_turning_order_and w) PySem.Challenge.pw_renamedhorn_k13_whole_turning_order_and w K mg base N_law_large "_law_large" (defScope Hd.s_law_large) (ga K "_law_large") cdv A outer s H E) (E := E) rfl rfl rfl rfl
    exact (pss_cons (ps_asg (pe_op op_addP pe_int (pe_callS (ok_law_take T) (hr.mono (by decide)) rfl T.g_law_take (T.fn_law_take).kp (b_law_take T) (fun σ => L2N.passAt tk σ) (pa_cons (pv 0) (pa_cons pe_int pa_nil)))) (pg_name (i := 2) sc_law_large.nd rfl (Or.inl rfl)))
      (pss_cons (ps_asg (pe_op op_addP (pe_op op_addP (pv 2) pe_int) (pe_callS (ok_law_take T) (hr.mono (by decide)) rfl T.g_law_take (T.fn_law_take).kp (b_law_take T) (fun σ => L2N.passAt tk σ) (pa_cons (pv 0) (pa_cons pe_int pa_nil)))) (pg_name (i := 3) sc_law_large.nd rfl (Or.inl rfl)))
      (pss_cons (ps_asg (pe_op op_addP (pe_op op_addP (pv 3) pe_int) (pe_callS (ok_law_take T) (hr.mono (by decide)) rfl T.g_law_take (T.fn_law_take).kp (b_law_take T) (fun σ => L2N.passAt tk σ) (pa_cons (pv 0) (pa_cons pe_int pa_nil)))) (pg_name (i := 4) sc_law_large.nd rfl (Or.inl rfl)))
      (pss_one (ps_ret (pe_lst (pa_cons (pe_slice sl_P (pv 1) po_none (po_some (pv 3))) (pa_cons (pe_slice sl_P (pv 1) (po_some (pv 2)) (po_some (pv 4))) (pa_cons (pe_op op_addP (pe_slice sl_P (pv 1) po_none (po_some (pv 2))) (pe_slice sl_P (pv 1) (po_some (pv 3)) (po_some (pv 4)))) pa_nil)))))))))
theorem sc_law_wide : FnScope N_law_wide ["_law_source_here", "_law_names_here"] (defScope Hd.s_law_wide) := ⟨rfl, rfl, rfl, by decide +kernel, rfl, by decide +kernel, by decide +kernel⟩
theorem b_law_wide (T : Tx w K mg) : Binds K (fdOf K (ga K "_law_wide")) ["_law_source_here", "_law_names_here"] [] := T.fn_law_wide.bindsN fun _ _ _ _ _ _ us hl => match us, hl with | [_, _], _ => rfl
theorem ok_law_wide (T : Tx w K mg) : FnOk PySem.Challenge.pw_renamedhorn_k13_whole_turning_order_and w K mg base (L2N.CX PySem.Challenge.pw_renamedhorn_k13_whole_turning_order_and w) 2 (ga K "_law_wide") (fdOf K (ga K "_law_wide")) ["_law_source_here", "_law_names_here"] (sp_law_wide K) := by
  refine T.fn_law_wide.ok sc_law_wide (fun vs H Q E h => Sp2.len h) (fun cdv A outer s H vs Q E hr h => ⟨t_law_wide K (fun cls d _ H => E cls d H), ?_, pure_law_wide h⟩)
  · have tk := L2N.takes_of (X := cxOf (L2N.CX PySem.Challenge.pw_renamedhorn_k13_whole_turning_order_and w) PySem.Challenge.pw_renamedhorn_k13_whole_turning_order_and w K mg base N_law_wide "_law_wide" (defScope Hd.s_law_wide) (ga K "_law_wide") cdv A outer s H E) (E := E) rfl rfl rfl rfl
    exact (pss_cons (ps_asg (pe_op op_addP pe_int (pe_callS (ok_law_take T) (hr.mono (by decide)) rfl T.g_law_take (T.fn_law_take).kp (b_law_take T) (fun σ => L2N.passAt tk σ) (pa_cons (pv 0) (pa_cons pe_int pa_nil)))) (pg_name (i := 2) sc_law_wide.nd rfl (Or.inl rfl)))
      (pss_cons (ps_asg (pe_callS (ok_law_take T) (hr.mono (by decide)) rfl T.g_law_take (T.fn_law_take).kp (b_law_take T) (fun σ => L2N.passAt tk σ) (pa_cons (pv 0) (pa_cons pe_int pa_nil))) (pg_name (i := 3) sc_law_wide.nd rfl (Or.inl rfl)))
      (pss_one (ps_ret (pe_lst (pa_cons (pe_slice sl_P (pv 1) po_none (po_some (pv 2))) (pa_cons (pe_slice sl_P (pv 1) (po_some pe_int) (po_some (pe_op op_addP pe_int (pv 2)))) (pa_cons (pe_slice sl_P (pv 1) (po_some (pe_op op_addP (pv 3) pe_int)) (po_some (pe_op op_addP (pv 3) pe_int))) pa_nil))))))))
theorem sc_law_before : FnScope N_law_before ["_law_one", "_law_other"] (defScope Hd.s_law_before) := ⟨rfl, rfl, rfl, by decide +kernel, rfl, by decide +kernel, by decide +kernel⟩
theorem b_law_before (T : Tx w K mg) : Binds K (fdOf K (ga K "_law_before")) ["_law_one", "_law_other"] [] := T.fn_law_before.bindsN fun _ _ _ _ _ _ us hl => match us, hl with | [_, _], _ => rfl
theorem ok_law_before (T : Tx w K mg) : FnOk PySem.Challenge.pw_renamedhorn_k13_whole_turning_order_and w K mg base (L2N.CX PySem.Challenge.pw_renamedhorn_k13_whole_turning_order_and w) 2 (ga K "_law_before") (fdOf K (ga K "_law_before")) ["_law_one", "_law_other"] (sp_law_before K) := by
  refine T.fn_law_before.ok sc_law_before (fun vs H Q E h => Sp2.len h) (fun cdv A outer s H vs Q E hr h => ⟨t_law_before K (fun cls d _ H => E cls d H), ?_, pure_law_before h⟩)
  · have tk := L2N.takes_of (X := cxOf (L2N.CX PySem.Challenge.pw_renamedhorn_k13_whole_turning_order_and w) PySem.Challenge.pw_renamedhorn_k13_whole_turning_order_and w K mg base N_law_before "_law_before" (defScope Hd.s_law_before) (ga K "_law_before") cdv A outer s H E) (E := E) rfl rfl rfl rfl
    exact (pss_cut (ps_for (passes_of rfl) rfl (pi_anyP (pe_callS (ok_law_sorted T) (hr.mono (by decide)) rfl T.g_law_sorted (T.fn_law_sorted).kp (b_law_sorted T) (fun σ => L2N.passAt tk σ) (pa_cons (pe_op op_addP (pv 0) (pv 1)) pa_nil))) (pg_name (i := 2) sc_law_before.nd rfl (Or.inl rfl)) (pss_one (ps_if (pt_cmpR (op_neP hr.units) (pe_cmpR (op_inP hr.units) (pv 2) (pv 0) (by rfl)) (pe_cmpR (op_inP hr.units) (pv 2) (pv 1) (by rfl)) (nomark _)) (pss_one (ps_ret (pe_cmpR (op_inP hr.units) (pv 2) (pv 1) (by rfl)))) pss_nil)))
      (pss_one (ps_ret pe_bl)))
theorem sc_Clause_eq : FnScope N_Clause_eq ["self", "other"] (defScope Hd.s_Clause_eq) := ⟨rfl, rfl, rfl, by decide +kernel, rfl, by decide +kernel, by decide +kernel⟩
theorem b_Clause_eq (T : Tx w K mg) : Binds K (fdOf K (ma K (ga K "Clause") "__eq__")) ["self", "other"] [] := T.fn_Clause_eq.bindsN fun _ _ _ _ _ _ us hl => match us, hl with | [_, _], _ => rfl
theorem ok_Clause_eq (T : Tx w K mg) : FnOk PySem.Challenge.pw_renamedhorn_k13_whole_turning_order_and w K mg base (L2N.CX PySem.Challenge.pw_renamedhorn_k13_whole_turning_order_and w) 1 (ma K (ga K "Clause") "__eq__") (fdOf K (ma K (ga K "Clause") "__eq__")) ["self", "other"] (sp_Clause_eq K) := by
  refine T.fn_Clause_eq.ok sc_Clause_eq (fun vs H Q E h => Sp2.len h) (fun cdv A outer s H vs Q E hr h => ⟨t_Clause_eq K (fun cls d _ H => E cls d H), ?_, pure_Clause_eq T.ins_Clause T.kit_Clause_Clause h⟩)
  · have tk := L2N.takes_of (X := cxOf (L2N.CX PySem.Challenge.pw_renamedhorn_k13_whole_turning_order_and w) PySem.Challenge.pw_renamedhorn_k13_whole_turning_order_and w K mg base N_Clause_eq "Clause.__eq__" (defScope Hd.s_Clause_eq) (ma K (ga K "Clause") "__eq__") cdv A outer s H E) (E := E) rfl rfl rfl rfl
    exact (pss_one (ps_ret (pe_and (pe_callB call_isi (by rfl) T.f_isinstance PyProof.Rows.Boot.«isinstance» (pa_cons (pv 1) (pa_cons (pe_glob (v := .ref (ga K "Clause")) rfl (T.g_Clause) rfl) pa_nil))) (pe_one (pe_cmpR (op_eqP hr.units) (Cl.pe_att (.cons (Cl.alt_fld T.cls_Clause T.no_Clause_literals) .nil) (pv 0)) (Cl.pe_att (.cons (Cl.alt_fld T.cls_Clause T.no_Clause_literals) .nil) (pv 1)) (nomark _))))))
theorem sc_Clause_le : FnScope N_Clause_le ["self", "other"] (defScope Hd.s_Clause_le) := ⟨rfl, rfl, rfl, by decide +kernel, rfl, by decide +kernel, by decide +kernel⟩
theorem b_Clause_le (T : Tx w K mg) : Binds K (fdOf K (ma K (ga K "Clause") "__le__")) ["self", "other"] [] := T.fn_Clause_le.bindsN fun _ _ _ _ _ _ us hl => match us, hl with | [_, _], _ => rfl
theorem ok_Clause_le (T : Tx w K mg) : FnOk PySem.Challenge.pw_renamedhorn_k13_whole_turning_order_and w K mg base (L2N.CX PySem.Challenge.pw_renamedhorn_k13_whole_turning_order_and w) 1 (ma K (ga K "Clause") "__le__") (fdOf K (ma K (ga K "Clause") "__le__")) ["self", "other"] (sp_Clause_le K) := by
  refine T.fn_Clause_le.ok sc_Clause_le (fun vs H Q E h => Sp2.len h) (fun cdv A outer s H vs Q E hr h => ⟨t_Clause_le K (fun cls d _ H => E cls d H), ?_, pure_Clause_le T.ins_Clause T.kit_Clause_Clause h⟩)
  · have tk := L2N.takes_of (X := cxOf (L2N.CX PySem.Challenge.pw_renamedhorn_k13_whole_turning_order_and w) PySem.Challenge.pw_renamedhorn_k13_whole_turning_order_and w K mg base N_Clause_le "Clause.__le__" (defScope Hd.s_Clause_le) (ma K (ga K "Clause") "__le__") cdv A outer s H E) (E := E) rfl rfl rfl rfl
    exact (pss_cut (ps_if (pt_not (pt_val (pe_callB call_isi (by rfl) T.f_isinstance PyProof.Rows.Boot.«isinstance» (pa_cons (pv 1) (pa_cons (pe_glob (v := .ref (ga K "Clause")) rfl (T.g_Clause) rfl) pa_nil))))) (pss_one ps_never) pss_nil)
      (pss_one (ps_ret (pe_callB (cr_all rfl) (by rfl) T.f_all PyProof.Rows.Boot.«all» (pa_cons (pe_lc (own := [("literal", 2)]) (g := (gName 2)) (tt := tYes) rfl sc_Clause_le.nd (pi_anyP (Cl.pe_att (.cons (Cl.alt_fld T.cls_Clause T.no_Clause_literals) .nil) (pv 0))) (blkOk_by (own := [("literal", 2)]) (N := N_Clause_le) (sc := defScope Hd.s_Clause_le) (by decide +kernel)) (fun _ _ _ _ _ => (pg_name (i := 2) sc_Clause_le.nd rfl (Or.inl rfl))) (fun _ _ _ _ _ => pts_nil) (fun _ _ _ _ _ => (pe_cmpR (op_inP hr.units) (pv 2) (Cl.pe_att (.cons (Cl.alt_fld T.cls_Clause T.no_Clause_literals) .nil) (pv 1)) (by rfl)))) pa_nil)))))
theorem sc_Clause_lt : FnScope N_Clause_lt ["self", "other"] (defScope Hd.s_Clause_lt) := ⟨rfl, rfl, rfl, by decide +kernel, rfl, by decide +kernel, by decide +kernel⟩
theorem b_Clause_lt (T : Tx w K mg) : Binds K (fdOf K (ma K (ga K "Clause") "__lt__")) ["self", "other"] [] := T.fn_Clause_lt.bindsN fun _ _ _ _ _ _ us hl => match us, hl with | [_, _], _ => rfl
theorem ok_Clause_lt (T : Tx w K mg) : FnOk PySem.Challenge.pw_renamedhorn_k13_whole_turning_order_and w K mg base (L2N.CX PySem.Challenge.pw_renamedhorn_k13_whole_turning_order_and w) 1 (ma K (ga K "Clause") "__lt__") (fdOf K (ma K (ga K "Clause") "__lt__")) ["self", "other"] (sp_Clause_lt K) := by
  refine T.fn_Clause_lt.ok sc_Clause_lt (fun vs H Q E h => Sp2.len h) (fun cdv A outer s H vs Q E hr h => ⟨t_Clause_lt K (fun cls d _ H => E cls d H), ?_, pure_Clause_lt T.ins_Clause T.kit_Clause_Clause h⟩)
  · have tk := L2N.takes_of (X := cxOf (L2N.CX PySem.Challenge.pw_renamedhorn_k13_whole_turning_order_and w) PySem.Challenge.pw_renamedhorn_k13_whole_turning_order_and w K mg base N_Clause_lt "Clause.__lt__" (defScope Hd.s_Clause_lt) (ma K (ga K "Clause") "__lt__") cdv A outer s H E) (E := E) rfl rfl rfl rfl
    exact (pss_cut (ps_if (pt_not (pt_val (pe_callB call_isi (by rfl) T.f_isinstance PyProof.Rows.Boot.«isinstance» (pa_cons (pv 1) (pa_cons (pe_glob (v := .ref (ga K "Clause")) rfl (T.g_Clause) rfl) pa_nil))))) (pss_one ps_never) pss_nil)
      (pss_cons (ps_asg (pe_callB (cr_all rfl) (by rfl) T.f_all PyProof.Rows.Boot.«all» (pa_cons (pe_lc (own := [("literal", 3)]) (g := (gName 3)) (tt := tYes) rfl sc_Clause_lt.nd (pi_anyP (Cl.pe_att (.cons (Cl.alt_fld T.cls_Clause T.no_Clause_literals) .nil) (pv 0))) (blkOk_by (own := [("literal", 3)]) (N := N_Clause_lt) (sc := defScope Hd.s_Clause_lt) (by decide +kernel)) (fun _ _ _ _ _ => (pg_name (i := 3) sc_Clause_lt.nd rfl (Or.inl rfl))) (fun _ _ _ _ _ => pts_nil) (fun _ _ _ _ _ => (pe_cmpR (op_inP hr.units) (pv 3) (Cl.pe_att (.cons (Cl.alt_fld T.cls_Clause T.no_Clause_literals) .nil) (pv 1)) (by rfl)))) pa_nil)) (pg_name (i := 2) sc_Clause_lt.nd rfl (Or.inl rfl)))
      (pss_one (ps_ret (pe_and (pv 2) (pe_one (pe_cmpR (op_neP hr.units) (Cl.pe_att (.cons (Cl.alt_fld T.cls_Clause T.no_Clause_literals) .nil) (pv 0)) (Cl.pe_att (.cons (Cl.alt_fld T.cls_Clause T.no_Clause_literals) .nil) (pv 1)) (nomark _))))))))
theorem sc_Turning_eq : FnScope N_Turning_eq ["self", "other"] (defScope Hd.s_Turning_eq) := ⟨rfl, rfl, rfl, by decide +kernel, rfl, by decide +kernel, by decide +kernel⟩
theorem b_Turning_eq (T : Tx w K mg) : Binds K (fdOf K (ma K (ga K "Turning") "__eq__")) ["self", "other"] [] := T.fn_Turning_eq.bindsN fun _ _ _ _ _ _ us hl => match us, hl with | [_, _], _ => rfl
theorem ok_Turning_eq (T : Tx w K mg) : FnOk PySem.Challenge.pw_renamedhorn_k13_whole_turning_order_and w K mg base (L2N.CX PySem.Challenge.pw_renamedhorn_k13_whole_turning_order_and w) 1 (ma K (ga K "Turning") "__eq__") (fdOf K (ma K (ga K "Turning") "__eq__")) ["self", "other"] (sp_Turning_eq K) := by
  refine T.fn_Turning_eq.ok sc_Turning_eq (fun vs H Q E h => Sp2.len h) (fun cdv A outer s H vs Q E hr h => ⟨t_Turning_eq K (fun cls d _ H => E cls d H), ?_, pure_Turning_eq T.ins_Turning T.kit_Turning_Turning h⟩)
  · have tk := L2N.takes_of (X := cxOf (L2N.CX PySem.Challenge.pw_renamedhorn_k13_whole_turning_order_and w) PySem.Challenge.pw_renamedhorn_k13_whole_turning_order_and w K mg base N_Turning_eq "Turning.__eq__" (defScope Hd.s_Turning_eq) (ma K (ga K "Turning") "__eq__") cdv A outer s H E) (E := E) rfl rfl rfl rfl
    exact (pss_one (ps_ret (pe_and (pe_callB call_isi (by rfl) T.f_isinstance PyProof.Rows.Boot.«isinstance» (pa_cons (pv 1) (pa_cons (pe_glob (v := .ref (ga K "Turning")) rfl (T.g_Turning) rfl) pa_nil))) (pe_one (pe_cmpR (op_eqP hr.units) (Cl.pe_att (.cons (Cl.alt_fld T.cls_Turning T.no_Turning_turned) .nil) (pv 0)) (Cl.pe_att (.cons (Cl.alt_fld T.cls_Turning T.no_Turning_turned) .nil) (pv 1)) (nomark _))))))
theorem sc_Turning_lt : FnScope N_Turning_lt ["self", "other"] (defScope Hd.s_Turning_lt) := ⟨rfl, rfl, rfl, by decide +kernel, rfl, by decide +kernel, by decide +kernel⟩
theorem b_Turning_lt (T : Tx w K mg) : Binds K (fdOf K (ma K (ga K "Turning") "__lt__")) ["self", "other"] [] := T.fn_Turning_lt.bindsN fun _ _ _ _ _ _ us hl => match us, hl with | [_, _], _ => rfl
theorem ok_Turning_lt (T : Tx w K mg) : FnOk PySem.Challenge.pw_renamedhorn_k13_whole_turning_order_and w K mg base (L2N.CX PySem.Challenge.pw_renamedhorn_k13_whole_turning_order_and w) 6 (ma K (ga K "Turning") "__lt__") (fdOf K (ma K (ga K "Turning") "__lt__")) ["self", "other"] (sp_Turning_lt K) := by
  refine T.fn_Turning_lt.ok sc_Turning_lt (fun vs H Q E h => Sp2.len h) (fun cdv A outer s H vs Q E hr h => ⟨t_Turning_lt K (fun cls d _ H => E cls d H), ?_, pure_Turning_lt T.ins_Turning T.kit_Turning_Turning h⟩)
  · have tk := L2N.takes_of (X := cxOf (L2N.CX PySem.Challenge.pw_renamedhorn_k13_whole_turning_order_and w) PySem.Challenge.pw_renamedhorn_k13_whole_turning_order_and w K mg base N_Turning_lt "Turning.__lt__" (defScope Hd.s_Turning_lt) (ma K (ga K "Turning") "__lt__") cdv A outer s H E) (E := E) rfl rfl rfl rfl
    exact (pss_cut (ps_if (pt_not (pt_val (pe_callB call_isi (by rfl) T.f_isinstance PyProof.Rows.Boot.«isinstance» (pa_cons (pv 1) (pa_cons (pe_glob (v := .ref (ga K "Turning")) rfl (T.g_Turning) rfl) pa_nil))))) (pss_one ps_never) pss_nil)
      (pss_one (ps_ret (pe_callS (ok_comes_before T) (hr.mono (by decide)) rfl T.g_comes_before (T.fn_comes_before).kp (b_comes_before T) (fun σ => L2N.passAt tk σ) (pa_cons (Cl.pe_att (.cons (Cl.alt_fld T.cls_Turning T.no_Turning_turned) .nil) (pv 0)) (pa_cons (Cl.pe_att (.cons (Cl.alt_fld T.cls_Turning T.no_Turning_turned) .nil) (pv 1)) pa_nil))))))
theorem sc_Turning_le : FnScope N_Turning_le ["self", "other"] (defScope Hd.s_Turning_le) := ⟨rfl, rfl, rfl, by decide +kernel, rfl, by decide +kernel, by decide +kernel⟩
theorem b_Turning_le (T : Tx w K mg) : Binds K (fdOf K (ma K (ga K "Turning") "__le__")) ["self", "other"] [] := T.fn_Turning_le.bindsN fun _ _ _ _ _ _ us hl => match us, hl with | [_, _], _ => rfl
theorem ok_Turning_le (T : Tx w K mg) : FnOk PySem.Challenge.pw_renamedhorn_k13_whole_turning_order_and w K mg base (L2N.CX PySem.Challenge.pw_renamedhorn_k13_whole_turning_order_and w) 6 (ma K (ga K "Turning") "__le__") (fdOf K (ma K (ga K "Turning") "__le__")) ["self", "other"] (sp_Turning_le K) := by
  refine T.fn_Turning_le.ok sc_Turning_le (fun vs H Q E h => Sp2.len h) (fun cdv A outer s H vs Q E hr h => ⟨t_Turning_le K (fun cls d _ H => E cls d H), ?_, pure_Turning_le T.ins_Turning T.kit_Turning_Turning h⟩)
  · have tk := L2N.takes_of (X := cxOf (L2N.CX PySem.Challenge.pw_renamedhorn_k13_whole_turning_order_and w) PySem.Challenge.pw_renamedhorn_k13_whole_turning_order_and w K mg base N_Turning_le "Turning.__le__" (defScope Hd.s_Turning_le) (ma K (ga K "Turning") "__le__") cdv A outer s H E) (E := E) rfl rfl rfl rfl
    exact (pss_cut (ps_if (pt_not (pt_val (pe_callB call_isi (by rfl) T.f_isinstance PyProof.Rows.Boot.«isinstance» (pa_cons (pv 1) (pa_cons (pe_glob (v := .ref (ga K "Turning")) rfl (T.g_Turning) rfl) pa_nil))))) (pss_one ps_never) pss_nil)
      (pss_one (ps_ret (pe_not (pe_callS (ok_comes_before T) (hr.mono (by decide)) rfl T.g_comes_before (T.fn_comes_before).kp (b_comes_before T) (fun σ => L2N.passAt tk σ) (pa_cons (Cl.pe_att (.cons (Cl.alt_fld T.cls_Turning T.no_Turning_turned) .nil) (pv 1)) (pa_cons (Cl.pe_att (.cons (Cl.alt_fld T.cls_Turning T.no_Turning_turned) .nil) (pv 0)) pa_nil)))))))
theorem sc_Turning_gt : FnScope N_Turning_gt ["self", "other"] (defScope Hd.s_Turning_gt) := ⟨rfl, rfl, rfl, by decide +kernel, rfl, by decide +kernel, by decide +kernel⟩
theorem b_Turning_gt (T : Tx w K mg) : Binds K (fdOf K (ma K (ga K "Turning") "__gt__")) ["self", "other"] [] := T.fn_Turning_gt.bindsN fun _ _ _ _ _ _ us hl => match us, hl with | [_, _], _ => rfl
theorem ok_Turning_gt (T : Tx w K mg) : FnOk PySem.Challenge.pw_renamedhorn_k13_whole_turning_order_and w K mg base (L2N.CX PySem.Challenge.pw_renamedhorn_k13_whole_turning_order_and w) 6 (ma K (ga K "Turning") "__gt__") (fdOf K (ma K (ga K "Turning") "__gt__")) ["self", "other"] (sp_Turning_gt K) := by
  refine T.fn_Turning_gt.ok sc_Turning_gt (fun vs H Q E h => Sp2.len h) (fun cdv A outer s H vs Q E hr h => ⟨t_Turning_gt K (fun cls d _ H => E cls d H), ?_, pure_Turning_gt T.ins_Turning T.kit_Turning_Turning h⟩)
  · have tk := L2N.takes_of (X := cxOf (L2N.CX PySem.Challenge.pw_renamedhorn_k13_whole_turning_order_and w) PySem.Challenge.pw_renamedhorn_k13_whole_turning_order_and w K mg base N_Turning_gt "Turning.__gt__" (defScope Hd.s_Turning_gt) (ma K (ga K "Turning") "__gt__") cdv A outer s H E) (E := E) rfl rfl rfl rfl
    exact (pss_cut (ps_if (pt_not (pt_val (pe_callB call_isi (by rfl) T.f_isinstance PyProof.Rows.Boot.«isinstance» (pa_cons (pv 1) (pa_cons (pe_glob (v := .ref (ga K "Turning")) rfl (T.g_Turning) rfl) pa_nil))))) (pss_one ps_never) pss_nil)
      (pss_one (ps_ret (pe_callS (ok_comes_before T) (hr.mono (by decide)) rfl T.g_comes_before (T.fn_comes_before).kp (b_comes_before T) (fun σ => L2N.passAt tk σ) (pa_cons (Cl.pe_att (.cons (Cl.alt_fld T.cls_Turning T.no_Turning_turned) .nil) (pv 1)) (pa_cons (Cl.pe_att (.cons (Cl.alt_fld T.cls_Turning T.no_Turning_turned) .nil) (pv 0)) pa_nil))))))
theorem sc_Turning_ge : FnScope N_Turning_ge ["self", "other"] (defScope Hd.s_Turning_ge) := ⟨rfl, rfl, rfl, by decide +kernel, rfl, by decide +kernel, by decide +kernel⟩
theorem b_Turning_ge (T : Tx w K mg) : Binds K (fdOf K (ma K (ga K "Turning") "__ge__")) ["self", "other"] [] := T.fn_Turning_ge.bindsN fun _ _ _ _ _ _ us hl => match us, hl with | [_, _], _ => rfl
theorem ok_Turning_ge (T : Tx w K mg) : FnOk PySem.Challenge.pw_renamedhorn_k13_whole_turning_order_and w K mg base (L2N.CX PySem.Challenge.pw_renamedhorn_k13_whole_turning_order_and w) 6 (ma K (ga K "Turning") "__ge__") (fdOf K (ma K (ga K "Turning") "__ge__")) ["self", "other"] (sp_Turning_ge K) := by
  refine T.fn_Turning_ge.ok sc_Turning_ge (fun vs H Q E h => Sp2.len h) (fun cdv A outer s H vs Q E hr h => ⟨t_Turning_ge K (fun cls d _ H => E cls d H), ?_, pure_Turning_ge T.ins_Turning T.kit_Turning_Turning h⟩)
  · have tk := L2N.takes_of (X := cxOf (L2N.CX PySem.Challenge.pw_renamedhorn_k13_whole_turning_order_and w) PySem.Challenge.pw_renamedhorn_k13_whole_turning_order_and w K mg base N_Turning_ge "Turning.__ge__" (defScope Hd.s_Turning_ge) (ma K (ga K "Turning") "__ge__") cdv A outer s H E) (E := E) rfl rfl rfl rfl
    exact (pss_cut (ps_if (pt_not (pt_val (pe_callB call_isi (by rfl) T.f_isinstance PyProof.Rows.Boot.«isinstance» (pa_cons (pv 1) (pa_cons (pe_glob (v := .ref (ga K "Turning")) rfl (T.g_Turning) rfl) pa_nil))))) (pss_one ps_never) pss_nil)
      (pss_one (ps_ret (pe_not (pe_callS (ok_comes_before T) (hr.mono (by decide)) rfl T.g_comes_before (T.fn_comes_before).kp (b_comes_before T) (fun σ => L2N.passAt tk σ) (pa_cons (Cl.pe_att (.cons (Cl.alt_fld T.cls_Turning T.no_Turning_turned) .nil) (pv 0)) (pa_cons (Cl.pe_att (.cons (Cl.alt_fld T.cls_Turning T.no_Turning_turned) .nil) (pv 1)) pa_nil)))))))
theorem sc_law_compared : FnScope N_law_compared ["_law_s", "_law_t", "_law_one", "_law_other"] (defScope Hd.s_law_compared) := ⟨rfl, rfl, rfl, by decide +kernel, rfl, by decide +kernel, by decide +kernel⟩
theorem b_law_compared (T : Tx w K mg) : Binds K (fdOf K (ga K "_law_compared")) ["_law_s", "_law_t", "_law_one", "_law_other"] [] := T.fn_law_compared.bindsN fun _ _ _ _ _ _ us hl => match us, hl with | [_, _, _, _], _ => rfl
theorem ok_law_compared (T : Tx w K mg) : FnOk PySem.Challenge.pw_renamedhorn_k13_whole_turning_order_and w K mg base (L2N.CX PySem.Challenge.pw_renamedhorn_k13_whole_turning_order_and w) 10 (ga K "_law_compared") (fdOf K (ga K "_law_compared")) ["_law_s", "_law_t", "_law_one", "_law_other"] (sp_law_compared K) := by
  refine T.fn_law_compared.ok sc_law_compared (fun vs H Q E h => Sp4.len h) (fun cdv A outer s H vs Q E hr h => ⟨t_law_compared K (fun cls d _ H => E cls d H), ?_, pure_law_compared h⟩)
  · have tk := L2N.takes_of (X := cxOf (L2N.CX PySem.Challenge.pw_renamedhorn_k13_whole_turning_order_and w) PySem.Challenge.pw_renamedhorn_k13_whole_turning_order_and w K mg base N_law_compared "_law_compared" (defScope Hd.s_law_compared) (ga K "_law_compared") cdv A outer s H E) (E := E) rfl rfl rfl rfl
    exact (pss_cons (ps_asg (Cl.pe_cmpS (Cl.op_own (E := (WE fun cls d _ H => E cls d H)) (.cons (Cl.alt_cmp Cl.dd_eq T.own_Clause_eq (Cl.toR (ok_Clause_eq T) (b_Clause_eq T)) (hr.mono (by decide)) (fun σ => L2N.passAt tk σ)) (.cons (Cl.alt_cmp Cl.dd_eq T.own_Turning_eq (Cl.toR (ok_Turning_eq T) (b_Turning_eq T)) (hr.mono (by decide)) (fun σ => L2N.passAt tk σ)) .nil)) (op_eqP hr.units)) (pe_callS (ok_law_sorted T) (hr.mono (by decide)) rfl T.g_law_sorted (T.fn_law_sorted).kp (b_law_sorted T) (fun σ => L2N.passAt tk σ) (pa_cons (pv 2) pa_nil)) (pe_callS (ok_law_sorted T) (hr.mono (by decide)) rfl T.g_law_sorted (T.fn_law_sorted).kp (b_law_sorted T) (fun σ => L2N.passAt tk σ) (pa_cons (pv 3) pa_nil)) (nomark _)) (pg_name (i := 4) sc_law_compared.nd rfl (Or.inl rfl)))
      (pss_cons (ps_asg (pe_callS (ok_law_before T) (hr.mono (by decide)) rfl T.g_law_before (T.fn_law_before).kp (b_law_before T) (fun σ => L2N.passAt tk σ) (pa_cons (pv 2) (pa_cons (pv 3) pa_nil))) (pg_name (i := 5) sc_law_compared.nd rfl (Or.inl rfl)))
      (pss_cons (ps_asg (pe_callS (ok_law_before T) (hr.mono (by decide)) rfl T.g_law_before (T.fn_law_before).kp (b_law_before T) (fun σ => L2N.passAt tk σ) (pa_cons (pv 3) (pa_cons (pv 2) pa_nil))) (pg_name (i := 6) sc_law_compared.nd rfl (Or.inl rfl)))
      (pss_cons (ps_asg (pe_lst (pa_cons (Cl.pe_cmpS (Cl.op_own (E := (WE fun cls d _ H => E cls d H)) (.cons (Cl.alt_cmp Cl.dd_eq T.own_Clause_eq (Cl.toR (ok_Clause_eq T) (b_Clause_eq T)) (hr.mono (by decide)) (fun σ => L2N.passAt tk σ)) (.cons (Cl.alt_cmp Cl.dd_eq T.own_Turning_eq (Cl.toR (ok_Turning_eq T) (b_Turning_eq T)) (hr.mono (by decide)) (fun σ => L2N.passAt tk σ)) .nil)) (op_eqP hr.units)) (pv 0) (pv 1) (nomark _)) (pa_cons (Cl.pe_cmpS (Cl.op_own (E := (WE fun cls d _ H => E cls d H)) (.cons (Cl.alt_cmp Cl.dd_lt T.own_Clause_lt (Cl.toR (ok_Clause_lt T) (b_Clause_lt T)) (hr.mono (by decide)) (fun σ => L2N.passAt tk σ)) (.cons (Cl.alt_cmp Cl.dd_lt T.own_Turning_lt (Cl.toR (ok_Turning_lt T) (b_Turning_lt T)) (hr.mono (by decide)) (fun σ => L2N.passAt tk σ)) .nil)) op_ltP) (pv 0) (pv 1) (nomark _)) (pa_cons (Cl.pe_cmpS (Cl.op_own (E := (WE fun cls d _ H => E cls d H)) (.cons (Cl.alt_cmp Cl.dd_le T.own_Clause_le (Cl.toR (ok_Clause_le T) (b_Clause_le T)) (hr.mono (by decide)) (fun σ => L2N.passAt tk σ)) (.cons (Cl.alt_cmp Cl.dd_le T.own_Turning_le (Cl.toR (ok_Turning_le T) (b_Turning_le T)) (hr.mono (by decide)) (fun σ => L2N.passAt tk σ)) .nil)) op_leP) (pv 0) (pv 1) (nomark _)) (pa_cons (Cl.pe_cmpS (Cl.op_own (E := (WE fun cls d _ H => E cls d H)) (.cons (Cl.alt_cmp Cl.dd_gt T.own_Turning_gt (Cl.toR (ok_Turning_gt T) (b_Turning_gt T)) (hr.mono (by decide)) (fun σ => L2N.passAt tk σ)) .nil) op_gtP) (pv 0) (pv 1) (nomark _)) (pa_cons (Cl.pe_cmpS (Cl.op_own (E := (WE fun cls d _ H => E cls d H)) (.cons (Cl.alt_cmp Cl.dd_ge T.own_Turning_ge (Cl.toR (ok_Turning_ge T) (b_Turning_ge T)) (hr.mono (by decide)) (fun σ => L2N.passAt tk σ)) .nil) op_geP) (pv 0) (pv 1) (nomark _)) pa_nil)))))) (pg_name (i := 7) sc_law_compared.nd rfl (Or.inl rfl)))
      (pss_one (ps_ret (pe_callS (ok_law_same T) (hr.mono (by decide)) rfl T.g_law_same (T.fn_law_same).kp (b_law_same T) (fun σ => L2N.passAt tk σ) (pa_cons (pv 7) (pa_cons (pe_lst (pa_cons (pv 4) (pa_cons (pv 5) (pa_cons (pe_or (pv 5) (pe_one (pv 4))) (pa_cons (pv 6) (pa_cons (pe_or (pv 6) (pe_one (pv 4))) pa_nil)))))) pa_nil)))))))))
theorem sc_Turning_median : FnScope N_Turning_median ["one", "two", "three"] (defScope Hd.s_Turning_median) := ⟨rfl, rfl, rfl, by decide +kernel, rfl, by decide +kernel, by decide +kernel⟩
theorem b_Turning_median (T : Tx w K mg) : Binds K (fdOf K (He5.wf K (ga K "Turning") "staticmethod" "median")) ["one", "two", "three"] [] := T.fn_Turning_median.bindsN fun _ _ _ _ _ _ us hl => match us, hl with | [_, _, _], _ => rfl
theorem ok_Turning_median (T : Tx w K mg) : FnOk PySem.Challenge.pw_renamedhorn_k13_whole_turning_order_and w K mg base (L2N.CX PySem.Challenge.pw_renamedhorn_k13_whole_turning_order_and w) 8 (He5.wf K (ga K "Turning") "staticmethod" "median") (fdOf K (He5.wf K (ga K "Turning") "staticmethod" "median")) ["one", "two", "three"] (sp_Turning_median K) := by
  refine T.fn_Turning_median.ok sc_Turning_median (fun vs H Q E h => Sp3.len h) (fun cdv A outer s H vs Q E hr h => ⟨t_Turning_median K (fun cls d _ H => E cls d H), ?_, pure_Turning_median h⟩)
  · have tk := L2N.takes_of (X := cxOf (L2N.CX PySem.Challenge.pw_renamedhorn_k13_whole_turning_order_and w) PySem.Challenge.pw_renamedhorn_k13_whole_turning_order_and w K mg base N_Turning_median "Turning.median" (defScope Hd.s_Turning_median) (He5.wf K (ga K "Turning") "staticmethod" "median") cdv A outer s H E) (E := E) rfl rfl rfl rfl
    exact (pss_cons (ps_setLc (i := 3) (own := [("name", 5)]) (g := (gName 5)) (tt := (tOr (tTest (tOp (rInP K false) (tVar 5) (Cl.tAtt [(ga K "Turning", Cl.aFld "turned")] (tVar 1)))) (tTest (tOp (rInP K false) (tVar 5) (Cl.tAtt [(ga K "Turning", Cl.aFld "turned")] (tVar 2)))))) rfl sc_Turning_median.nd rfl rfl (sw_true rfl rfl rfl (by decide +kernel)) (pi_anyP (Cl.pe_att (.cons (Cl.alt_fld T.cls_Turning T.no_Turning_turned) .nil) (pv 0))) (blkOk_by (own := [("name", 5)]) (N := N_Turning_median) (sc := defScope Hd.s_Turning_median) (by decide +kernel)) (fun _ _ _ _ _ => (pg_name (i := 5) sc_Turning_median.nd rfl (Or.inl rfl))) (fun _ _ _ _ _ => (pts_one (PW.pt (pw_or (pt_cmpR (op_inP hr.units) (pv 5) (Cl.pe_att (.cons (Cl.alt_fld T.cls_Turning T.no_Turning_turned) .nil) (pv 1)) (by rfl)) (pw_or1 (pt_cmpR (op_inP hr.units) (pv 5) (Cl.pe_att (.cons (Cl.alt_fld T.cls_Turning T.no_Turning_turned) .nil) (pv 2)) (by rfl))))))) (fun _ _ _ _ _ => (pv 5)))
      (pss_cons (ps_setLc (i := 4) (own := [("name", 5)]) (g := (gName 5)) (tt := (tTest (tOp (rInP K false) (tVar 5) (Cl.tAtt [(ga K "Turning", Cl.aFld "turned")] (tVar 2))))) rfl sc_Turning_median.nd rfl rfl (sw_true rfl rfl rfl (by decide +kernel)) (pi_anyP (Cl.pe_att (.cons (Cl.alt_fld T.cls_Turning T.no_Turning_turned) .nil) (pv 1))) (blkOk_by (own := [("name", 5)]) (N := N_Turning_median) (sc := defScope Hd.s_Turning_median) (by decide +kernel)) (fun _ _ _ _ _ => (pg_name (i := 5) sc_Turning_median.nd rfl (Or.inl rfl))) (fun _ _ _ _ _ => (pts_one (pt_cmpR (op_inP hr.units) (pv 5) (Cl.pe_att (.cons (Cl.alt_fld T.cls_Turning T.no_Turning_turned) .nil) (pv 2)) (by rfl)))) (fun _ _ _ _ _ => (pv 5)))
      (pss_cons (ps_asg (pe_op op_addP (pv 3) (pv 4)) (pg_name (i := 3) sc_Turning_median.nd rfl (Or.inl rfl)))
      (pss_one (ps_ret (Cl.pe_makeSS T.mk_Turning (fr_Turning_init T) (hr.mono (by decide)) rfl T.g_Turning (fun σ => L2N.passAt tk σ) (pv 3)))))))
theorem sc_law_median : FnScope N_law_median ["_law_s", "_law_t", "_law_u"] (defScope Hd.s_law_median) := ⟨rfl, rfl, rfl, by decide +kernel, rfl, by decide +kernel, by decide +kernel⟩
theorem b_law_median (T : Tx w K mg) : Binds K (fdOf K (ga K "_law_median")) ["_law_s", "_law_t", "_law_u"] [] := T.fn_law_median.bindsN fun _ _ _ _ _ _ us hl => match us, hl with | [_, _, _], _ => rfl
theorem ok_law_median (T : Tx w K mg) : FnOk PySem.Challenge.pw_renamedhorn_k13_whole_turning_order_and w K mg base (L2N.CX PySem.Challenge.pw_renamedhorn_k13_whole_turning_order_and w) 12 (ga K "_law_median") (fdOf K (ga K "_law_median")) ["_law_s", "_law_t", "_law_u"] (sp_law_median K) := by
  refine T.fn_law_median.ok sc_law_median (fun vs H Q E h => Sp3.len h) (fun cdv A outer s H vs Q E hr h => ⟨t_law_median K (fun cls d _ H => E cls d H), ?_, pure_law_median ⟨T.exm_TooMany_TooMany, T.excC_TooMany, T.kit_TooMany_HornError, T.kit_TooMany_ValueError, T.kit_TooMany_BadName, T.ins_Turning, T.kit_Turning_Turning⟩ h⟩)
  · have tk := L2N.takes_of (X := cxOf (L2N.CX PySem.Challenge.pw_renamedhorn_k13_whole_turning_order_and w) PySem.Challenge.pw_renamedhorn_k13_whole_turning_order_and w K mg base N_law_median "_law_median" (defScope Hd.s_law_median) (ga K "_law_median") cdv A outer s H E) (E := E) rfl rfl rfl rfl
    exact (pss_cut (L2N.ps_try_as (i := 3) (tb := fun W1 => (tAsg (Cl.tSMeth (ga K "Turning") (sp_Turning_median K) (WE W1) (tC (.ref (ga K "Turning"))) (tCons (tVar 0) (tCons (tVar 1) (tCons (tVar 2) tNil)))) (gName 4))) (ts := fun a_ cls_ d_ => (tSeq (tAsg (tAndV (tCB (rIsEE K a_ cls_ d_) (tCons (tVar 3) (tCons (tC (.ref (ga K "HornError"))) tNil))) (tCB (rIsEE K a_ cls_ d_) (tCons (tVar 3) (tCons (tC (.ty "ValueError")) tNil)))) (gName 5))
    (tRet (tTup (tCons (tC (.str "many")) (tCons (tErrF (ga K "TooMany") "limit" a_ cls_ d_ (tVar 3)) (tCons (tAndV (tVar 5) (tNotV (tCB (rIsEE K a_ cls_ d_) (tCons (tVar 3) (tCons (tC (.ref (ga K "BadName"))) tNil))))) tNil))))))) rfl rfl sc_law_median.nd rfl rfl ⟨rfl, by decide, Or.inl T.g_TooMany⟩ tk
      (fun W1 pn xe tk1 po_ => (pss_one (ps_asg (Cl.pe_smeth (E := (WE W1)) (pe_glob (v := .ref (ga K "Turning")) rfl (T.g_Turning) rfl) T.smet_Turning_median (T.fn_Turning_median).kp (Cl.toR (ok_Turning_median T) (b_Turning_median T)) (hr.mono (by decide)) (fun σ => L2N.passAt tk1 σ) (pa_cons (pv 0) (pa_cons (pv 1) (pa_cons (pv 2) pa_nil)))) (pg_name (i := 4) sc_law_median.nd rfl (Or.inl rfl)))))
      (fun a oe cls d pn hz hf => (pss_cons (ps_asg (pe_and (pe_callB (call_isEE hz.zc hf) (by rfl) T.f_isinstance PyProof.Rows.Boot.«isinstance» (pa_cons (pv 3) (pa_cons (pe_glob (v := .ref (ga K "HornError")) rfl (T.g_HornError) rfl) pa_nil))) (pe_one (pe_callB (call_isEE hz.zc hf) (by rfl) T.f_isinstance PyProof.Rows.Boot.«isinstance» (pa_cons (pv 3) (pa_cons (pe_bltn (v := .ty "ValueError") rfl (T.f_ValueError) PyProof.Rows.Boot.«ValueError» rfl) pa_nil))))) (pg_name (i := 5) sc_law_median.nd rfl (Or.inl rfl)))
      (pss_one (ps_ret (pe_tup (pa_cons pe_str (pa_cons (pe_errF T.err_TooMany hz.zc hf (pv 3)) (pa_cons (pe_and (pv 5) (pe_one (pe_not (pe_callB (call_isEE hz.zc hf) (by rfl) T.f_isinstance PyProof.Rows.Boot.«isinstance» (pa_cons (pv 3) (pa_cons (pe_glob (v := .ref (ga K "BadName")) rfl (T.g_BadName) rfl) pa_nil)))))) pa_nil)))))))))
      (pss_one (ps_ret (pe_tup (pa_cons pe_str (pa_cons (Cl.pe_att (.cons (Cl.alt_fld T.cls_Turning T.no_Turning_turned) .nil) (pv 4)) (pa_cons (pe_callB call_isi (by rfl) T.f_isinstance PyProof.Rows.Boot.«isinstance» (pa_cons (pv 4) (pa_cons (pe_glob (v := .ref (ga K "Turning")) rfl (T.g_Turning) rfl) pa_nil))) pa_nil)))))))
theorem sc_law_median_due : FnScope N_law_median_due ["_law_one", "_law_other", "_law_third"] (defScope Hd.s_law_median_due) := ⟨rfl, rfl, rfl, by decide +kernel, rfl, by decide +kernel, by decide +kernel⟩
theorem b_law_median_due (T : Tx w K mg) : Binds K (fdOf K (ga K "_law_median_due")) ["_law_one", "_law_other", "_law_third"] [] := T.fn_law_median_due.bindsN fun _ _ _ _ _ _ us hl => match us, hl with | [_, _, _], _ => rfl
theorem ok_law_median_due (T : Tx w K mg) : FnOk PySem.Challenge.pw_renamedhorn_k13_whole_turning_order_and w K mg base (L2N.CX PySem.Challenge.pw_renamedhorn_k13_whole_turning_order_and w) 2 (ga K "_law_median_due") (fdOf K (ga K "_law_median_due")) ["_law_one", "_law_other", "_law_third"] (sp_law_median_due K) := by
  refine T.fn_law_median_due.ok sc_law_median_due (fun vs H Q E h => Sp3.len h) (fun cdv A outer s H vs Q E hr h => ⟨t_law_median_due K (fun cls d _ H => E cls d H), ?_, pure_law_median_due h⟩)
  · have tk := L2N.takes_of (X := cxOf (L2N.CX PySem.Challenge.pw_renamedhorn_k13_whole_turning_order_and w) PySem.Challenge.pw_renamedhorn_k13_whole_turning_order_and w K mg base N_law_median_due "_law_median_due" (defScope Hd.s_law_median_due) (ga K "_law_median_due") cdv A outer s H E) (E := E) rfl rfl rfl rfl
    exact (pss_cons (ps_asg (pe_lst pa_nil) (pg_name (i := 3) sc_law_median_due.nd rfl (Or.inl rfl)))
      (pss_cut (ps_for (passes_of rfl) rfl (pi_anyP (pe_callS (ok_law_sorted T) (hr.mono (by decide)) rfl T.g_law_sorted (T.fn_law_sorted).kp (b_law_sorted T) (fun σ => L2N.passAt tk σ) (pa_cons (pe_op op_addP (pe_op op_addP (pv 0) (pv 1)) (pv 2)) pa_nil))) (pg_name (i := 4) sc_law_median_due.nd rfl (Or.inl rfl)) (pss_one (ps_if (pt_cmpR op_gtP (pe_op op_addP (pe_op op_addP (pe_callTy call_intP (by rfl) T.f_int PyProof.Rows.Boot.«int» (pa_cons (pe_cmpR (op_inP hr.units) (pv 4) (pv 0) (by rfl)) pa_nil)) (pe_callTy call_intP (by rfl) T.f_int PyProof.Rows.Boot.«int» (pa_cons (pe_cmpR (op_inP hr.units) (pv 4) (pv 1) (by rfl)) pa_nil))) (pe_callTy call_intP (by rfl) T.f_int PyProof.Rows.Boot.«int» (pa_cons (pe_cmpR (op_inP hr.units) (pv 4) (pv 2) (by rfl)) pa_nil))) pe_int (nomark _)) (pss_one (ps_expr (pe_bm PySem.F.plainAttrs_list PySem.F.slot_list_append PySem.F.type_list_append mt_append (pv 3) (pa_cons (pv 4) pa_nil)))) pss_nil)))
      (pss_cut (ps_if (pt_cmpR op_gtP (pe_callB call_lenP (by rfl) T.f_len PyProof.Rows.Boot.«len» (pa_cons (pv 3) pa_nil)) pe_int (nomark _)) (pss_one (ps_ret (pe_tup (pa_cons pe_str (pa_cons pe_int (pa_cons pe_bl pa_nil)))))) pss_nil)
      (pss_one (ps_ret (pe_tup (pa_cons pe_str (pa_cons (pe_callTy call_tupleP (by rfl) T.f_tuple PyProof.Rows.Boot.«tuple» (pa_cons (pv 3) pa_nil)) (pa_cons pe_bl pa_nil)))))))))
theorem sc_law_asked : FnScope N_law_asked ["_law_rows"] (defScope Hd.s_law_asked) := ⟨rfl, rfl, rfl, by decide +kernel, rfl, by decide +kernel, by decide +kernel⟩
theorem b_law_asked (T : Tx w K mg) : Binds K (fdOf K (ga K "_law_asked")) ["_law_rows"] [] := T.fn_law_asked.bindsN fun _ _ _ _ _ _ us hl => match us, hl with | [_], _ => rfl
theorem ok_law_asked (T : Tx w K mg) : FnOk PySem.Challenge.pw_renamedhorn_k13_whole_turning_order_and w K mg base (L2N.CX PySem.Challenge.pw_renamedhorn_k13_whole_turning_order_and w) 13 (ga K "_law_asked") (fdOf K (ga K "_law_asked")) ["_law_rows"] (sp_law_asked K) := by
  refine T.fn_law_asked.ok sc_law_asked (fun vs H Q E h => Sp1.len h) (fun cdv A outer s H vs Q E hr h => ⟨t_law_asked K (fun cls d _ H => E cls d H), ?_, pure_law_asked T.ins_Turning h⟩)
  · have tk := L2N.takes_of (X := cxOf (L2N.CX PySem.Challenge.pw_renamedhorn_k13_whole_turning_order_and w) PySem.Challenge.pw_renamedhorn_k13_whole_turning_order_and w K mg base N_law_asked "_law_asked" (defScope Hd.s_law_asked) (ga K "_law_asked") cdv A outer s H E) (E := E) rfl rfl rfl rfl
    exact (pss_cons (ps_setLc (i := 1) (own := [("_law_row", 6)]) (g := (gName 6)) (tt := tYes) rfl sc_law_asked.nd rfl rfl (sw_true rfl rfl rfl (by decide +kernel)) (pi_anyP (pv 0)) (blkOk_by (own := [("_law_row", 6)]) (N := N_law_asked) (sc := defScope Hd.s_law_asked) (by decide +kernel)) (fun _ _ _ _ _ => (pg_name (i := 6) sc_law_asked.nd rfl (Or.inl rfl))) (fun _ _ _ _ _ => pts_nil) (fun _ _ _ _ _ => (pe_call (ok_law_turning T) (hr.mono (by decide)) rfl T.g_law_turning (T.fn_law_turning).kp (b_law_turning T) .nil passN (pa_cons (pv 6) pa_nil))))
      (pss_cut (ps_for (passes_of rfl) rfl (pi_range1 (by rfl) T.f_range (pa_cons pe_int pa_nil)) (pg_name (i := 2) sc_law_asked.nd rfl (Or.inl rfl)) (pss_one (ps_for (passes_of rfl) rfl (pi_range1 (by rfl) T.f_range (pa_cons pe_int pa_nil)) (pg_name (i := 4) sc_law_asked.nd rfl (Or.inl rfl)) (pss_one (ps_if (pt_not (pt_val (pe_callS (ok_law_compared T) (hr.mono (by decide)) rfl T.g_law_compared (T.fn_law_compared).kp (b_law_compared T) (fun σ => L2N.passAt tk σ) (pa_cons (pe_ix ix_P (pv 1) (pv 2) (fun _ _ => rfl)) (pa_cons (pe_ix ix_P (pv 1) (pv 4) (fun _ _ => rfl)) (pa_cons (pe_ix ix_P (pv 0) (pv 2) (fun _ _ => rfl)) (pa_cons (pe_ix ix_P (pv 0) (pv 4) (fun _ _ => rfl)) pa_nil))))))) (pss_one (ps_ret pe_bl)) pss_nil)))))
      (pss_cut (ps_for (passes_of rfl) rfl (pi_anyP (pe_lst (pa_cons (pe_lst (pa_cons pe_int (pa_cons pe_int (pa_cons pe_int pa_nil)))) (pa_cons (pe_lst (pa_cons pe_int (pa_cons pe_int (pa_cons pe_int pa_nil)))) (pa_cons (pe_lst (pa_cons pe_int (pa_cons pe_int (pa_cons pe_int pa_nil)))) (pa_cons (pe_lst (pa_cons pe_int (pa_cons pe_int (pa_cons pe_int pa_nil)))) (pa_cons (pe_lst (pa_cons pe_int (pa_cons pe_int (pa_cons pe_int pa_nil)))) (pa_cons (pe_lst (pa_cons pe_int (pa_cons pe_int (pa_cons pe_int pa_nil)))) (pa_cons (pe_lst (pa_cons pe_int (pa_cons pe_int (pa_cons pe_int pa_nil)))) (pa_cons (pe_lst (pa_cons pe_int (pa_cons pe_int (pa_cons pe_int pa_nil)))) (pa_cons (pe_lst (pa_cons pe_int (pa_cons pe_int (pa_cons pe_int pa_nil)))) pa_nil))))))))))) (pg_name (i := 3) sc_law_asked.nd rfl (Or.inl rfl)) (pss_cons (ps_asg (pe_callS (ok_law_median T) (hr.mono (by decide)) rfl T.g_law_median (T.fn_law_median).kp (b_law_median T) (fun σ => L2N.passAt tk σ) (pa_cons (pe_ix ix_P (pv 1) (pe_ix ix_P (pv 3) pe_int (fun _ _ => rfl)) (fun _ _ => rfl)) (pa_cons (pe_ix ix_P (pv 1) (pe_ix ix_P (pv 3) pe_int (fun _ _ => rfl)) (fun _ _ => rfl)) (pa_cons (pe_ix ix_P (pv 1) (pe_ix ix_P (pv 3) pe_int (fun _ _ => rfl)) (fun _ _ => rfl)) pa_nil)))) (pg_name (i := 5) sc_law_asked.nd rfl (Or.inl rfl)))
      (pss_one (ps_if (pt_not (pt_val (pe_callS (ok_law_same T) (hr.mono (by decide)) rfl T.g_law_same (T.fn_law_same).kp (b_law_same T) (fun σ => L2N.passAt tk σ) (pa_cons (pv 5) (pa_cons (pe_callS (ok_law_median_due T) (hr.mono (by decide)) rfl T.g_law_median_due (T.fn_law_median_due).kp (b_law_median_due T) (fun σ => L2N.passAt tk σ) (pa_cons (pe_ix ix_P (pv 0) (pe_ix ix_P (pv 3) pe_int (fun _ _ => rfl)) (fun _ _ => rfl)) (pa_cons (pe_ix ix_P (pv 0) (pe_ix ix_P (pv 3) pe_int (fun _ _ => rfl)) (fun _ _ => rfl)) (pa_cons (pe_ix ix_P (pv 0) (pe_ix ix_P (pv 3) pe_int (fun _ _ => rfl)) (fun _ _ => rfl)) pa_nil)))) pa_nil))))) (pss_one (ps_ret pe_bl)) pss_nil))))
      (pss_one (ps_ret (pe_callS (ok_law_same T) (hr.mono (by decide)) rfl T.g_law_same (T.fn_law_same).kp (b_law_same T) (fun σ => L2N.passAt tk σ) (pa_cons (pe_lc (own := [("_law_turning_here", 7)]) (g := (gName 7)) (tt := tYes) rfl sc_law_asked.nd (pi_anyP (pv 1)) (blkOk_by (own := [("_law_turning_here", 7)]) (N := N_law_asked) (sc := defScope Hd.s_law_asked) (by decide +kernel)) (fun _ _ _ _ _ => (pg_name (i := 7) sc_law_asked.nd rfl (Or.inl rfl))) (fun _ _ _ _ _ => pts_nil) (fun _ _ _ _ _ => (Cl.pe_att (.cons (Cl.alt_fld T.cls_Turning T.no_Turning_turned) .nil) (pv 7)))) (pa_cons (pe_lc (own := [("_law_row", 6)]) (g := (gName 6)) (tt := tYes) rfl sc_law_asked.nd (pi_anyP (pv 0)) (blkOk_by (own := [("_law_row", 6)]) (N := N_law_asked) (sc := defScope Hd.s_law_asked) (by decide +kernel)) (fun _ _ _ _ _ => (pg_name (i := 6) sc_law_asked.nd rfl (Or.inl rfl))) (fun _ _ _ _ _ => pts_nil) (fun _ _ _ _ _ => (pe_callTy call_tupleP (by rfl) T.f_tuple PyProof.Rows.Boot.«tuple» (pa_cons (pe_call (ok_law_sorted T) (hr.mono (by decide)) rfl T.g_law_sorted (T.fn_law_sorted).kp (b_law_sorted T) .nil passN (pa_cons (pv 6) pa_nil)) pa_nil)))) pa_nil))))))))
theorem sc_law : FnScope N_law ["_law_script"] (defScope Hd.s_law) := ⟨rfl, rfl, rfl, by decide +kernel, rfl, by decide +kernel, by decide +kernel⟩
theorem b_law (T : Tx w K mg) : Binds K (fdOf K (ga K "law")) ["_law_script"] [] := T.fn_law.bindsN fun _ _ _ _ _ _ us hl => match us, hl with | [_], _ => rfl
theorem ok_law (T : Tx w K mg) : FnOk PySem.Challenge.pw_renamedhorn_k13_whole_turning_order_and w K mg base (L2N.CX PySem.Challenge.pw_renamedhorn_k13_whole_turning_order_and w) 14 (ga K "law") (fdOf K (ga K "law")) ["_law_script"] (sp_law K) := by
  refine T.fn_law.ok sc_law (fun vs H Q E h => Sp1.len h) (fun cdv A outer s H vs Q E hr h => ⟨t_law K (fun cls d _ H => E cls d H), ?_, pure_law h⟩)
  · have tk := L2N.takes_of (X := cxOf (L2N.CX PySem.Challenge.pw_renamedhorn_k13_whole_turning_order_and w) PySem.Challenge.pw_renamedhorn_k13_whole_turning_order_and w K mg base N_law "law" (defScope Hd.s_law) (ga K "law") cdv A outer s H E) (E := E) rfl rfl rfl rfl
    exact (pss_cons (ps_asg (pe_callS (ok_law_source T) (hr.mono (by decide)) rfl T.g_law_source (T.fn_law_source).kp (b_law_source T) (fun σ => L2N.passAt tk σ) (pa_cons (pv 0) pa_nil)) (pg_name (i := 1) sc_law.nd rfl (Or.inl rfl)))
      (pss_cons (ps_asg (pe_callS (ok_law_names T) (hr.mono (by decide)) rfl T.g_law_names (T.fn_law_names).kp (b_law_names T) (fun σ => L2N.passAt tk σ) (pa_cons (pv 1) (pa_cons pe_int pa_nil))) (pg_name (i := 2) sc_law.nd rfl (Or.inl rfl)))
      (pss_cut (ps_if (PW.pt (pw_or (pt_not (pt_val (pe_callS (ok_law_asked T) (hr.mono (by decide)) rfl T.g_law_asked (T.fn_law_asked).kp (b_law_asked T) (fun σ => L2N.passAt tk σ) (pa_cons (pe_callS (ok_law_three T) (hr.mono (by decide)) rfl T.g_law_three (T.fn_law_three).kp (b_law_three T) (fun σ => L2N.passAt tk σ) (pa_cons (pv 1) (pa_cons (pv 2) pa_nil))) pa_nil)))) (pw_or1 (pt_not (pt_val (pe_callS (ok_law_asked T) (hr.mono (by decide)) rfl T.g_law_asked (T.fn_law_asked).kp (b_law_asked T) (fun σ => L2N.passAt tk σ) (pa_cons (pe_callS (ok_law_large T) (hr.mono (by decide)) rfl T.g_law_large (T.fn_law_large).kp (b_law_large T) (fun σ => L2N.passAt tk σ) (pa_cons (pv 1) (pa_cons (pv 2) pa_nil))) pa_nil))))))) (pss_one (ps_ret pe_bl)) pss_nil)
      (pss_one (ps_ret (pe_callS (ok_law_asked T) (hr.mono (by decide)) rfl T.g_law_asked (T.fn_law_asked).kp (b_law_asked T) (fun σ => L2N.passAt tk σ) (pa_cons (pe_callS (ok_law_wide T) (hr.mono (by decide)) rfl T.g_law_wide (T.fn_law_wide).kp (b_law_wide T) (fun σ => L2N.passAt tk σ) (pa_cons (pv 1) (pa_cons (pv 2) pa_nil))) pa_nil)))))))
theorem sc_Clause_names : FnScope N_Clause_names ["self"] (defScope Hd.s_Clause_names) := ⟨rfl, rfl, rfl, by decide +kernel, rfl, by decide +kernel, by decide +kernel⟩
theorem b_Clause_names (T : Tx w K mg) : Binds K (fdOf K (He5.wf K (ga K "Clause") "property" "names")) ["self"] [] := T.fn_Clause_names.bindsN fun _ _ _ _ _ _ us hl => match us, hl with | [_], _ => rfl
theorem ok_Clause_names (T : Tx w K mg) : FnOk PySem.Challenge.pw_renamedhorn_k13_whole_turning_order_and w K mg base (L2N.CX PySem.Challenge.pw_renamedhorn_k13_whole_turning_order_and w) 5 (He5.wf K (ga K "Clause") "property" "names") (fdOf K (He5.wf K (ga K "Clause") "property" "names")) ["self"] (sp_Clause_names K) := by
  refine T.fn_Clause_names.ok sc_Clause_names (fun vs H Q E h => Sp1.len h) (fun cdv A outer s H vs Q E hr h => ⟨t_Clause_names K (fun cls d _ H => E cls d H), ?_, pure_Clause_names h⟩)
  · have tk := L2N.takes_of (X := cxOf (L2N.CX PySem.Challenge.pw_renamedhorn_k13_whole_turning_order_and w) PySem.Challenge.pw_renamedhorn_k13_whole_turning_order_and w K mg base N_Clause_names "Clause.names" (defScope Hd.s_Clause_names) (He5.wf K (ga K "Clause") "property" "names") cdv A outer s H E) (E := E) rfl rfl rfl rfl
    exact (pss_one (ps_ret (pe_callTy call_tupleP (by rfl) T.f_tuple PyProof.Rows.Boot.«tuple» (pa_cons (pe_callS (ok_names_of T) (hr.mono (by decide)) rfl T.g_names_of (T.fn_names_of).kp (b_names_of T) (fun σ => L2N.passAt tk σ) (pa_cons (Cl.pe_att (.cons (Cl.alt_fld T.cls_Clause T.no_Clause_literals) .nil) (pv 0)) pa_nil)) pa_nil))))
theorem sc_Clause_len : FnScope N_Clause_len ["self"] (defScope Hd.s_Clause_len) := ⟨rfl, rfl, rfl, by decide +kernel, rfl, by decide +kernel, by decide +kernel⟩
theorem b_Clause_len (T : Tx w K mg) : Binds K (fdOf K (ma K (ga K "Clause") "__len__")) ["self"] [] := T.fn_Clause_len.bindsN fun _ _ _ _ _ _ us hl => match us, hl with | [_], _ => rfl
theorem ok_Clause_len (T : Tx w K mg) : FnOk PySem.Challenge.pw_renamedhorn_k13_whole_turning_order_and w K mg base (L2N.CX PySem.Challenge.pw_renamedhorn_k13_whole_turning_order_and w) 1 (ma K (ga K "Clause") "__len__") (fdOf K (ma K (ga K "Clause") "__len__")) ["self"] (sp_Clause_len K) := by
  refine T.fn_Clause_len.ok sc_Clause_len (fun vs H Q E h => Sp1.len h) (fun cdv A outer s H vs Q E hr h => ⟨t_Clause_len K (fun cls d _ H => E cls d H), ?_, pure_Clause_len h⟩)
  · have tk := L2N.takes_of (X := cxOf (L2N.CX PySem.Challenge.pw_renamedhorn_k13_whole_turning_order_and w) PySem.Challenge.pw_renamedhorn_k13_whole_turning_order_and w K mg base N_Clause_len "Clause.__len__" (defScope Hd.s_Clause_len) (ma K (ga K "Clause") "__len__") cdv A outer s H E) (E := E) rfl rfl rfl rfl
    exact (pss_one (ps_ret (pe_callB call_lenP (by rfl) T.f_len PyProof.Rows.Boot.«len» (pa_cons (Cl.pe_att (.cons (Cl.alt_fld T.cls_Clause T.no_Clause_literals) .nil) (pv 0)) pa_nil))))
theorem sc_Clause_contains : FnScope N_Clause_contains ["self", "literal"] (defScope Hd.s_Clause_contains) := ⟨rfl, rfl, rfl, by decide +kernel, rfl, by decide +kernel, by decide +kernel⟩
theorem b_Clause_contains (T : Tx w K mg) : Binds K (fdOf K (ma K (ga K "Clause") "__contains__")) ["self", "literal"] [] := T.fn_Clause_contains.bindsN fun _ _ _ _ _ _ us hl => match us, hl with | [_, _], _ => rfl
theorem ok_Clause_contains (T : Tx w K mg) : FnOk PySem.Challenge.pw_renamedhorn_k13_whole_turning_order_and w K mg base (L2N.CX PySem.Challenge.pw_renamedhorn_k13_whole_turning_order_and w) 1 (ma K (ga K "Clause") "__contains__") (fdOf K (ma K (ga K "Clause") "__contains__")) ["self", "literal"] (sp_Clause_contains K) := by
  refine T.fn_Clause_contains.ok sc_Clause_contains (fun vs H Q E h => Sp2.len h) (fun cdv A outer s H vs Q E hr h => ⟨t_Clause_contains K (fun cls d _ H => E cls d H), ?_, pure_Clause_contains h⟩)
  · have tk := L2N.takes_of (X := cxOf (L2N.CX PySem.Challenge.pw_renamedhorn_k13_whole_turning_order_and w) PySem.Challenge.pw_renamedhorn_k13_whole_turning_order_and w K mg base N_Clause_contains "Clause.__contains__" (defScope Hd.s_Clause_contains) (ma K (ga K "Clause") "__contains__") cdv A outer s H E) (E := E) rfl rfl rfl rfl
    exact (pss_one (ps_ret (pe_cmpR (op_inP hr.units) (pv 1) (Cl.pe_att (.cons (Cl.alt_fld T.cls_Clause T.no_Clause_literals) .nil) (pv 0)) (by rfl))))
theorem sc_Clause_or : FnScope N_Clause_or ["self", "other"] (defScope Hd.s_Clause_or) := ⟨rfl, rfl, rfl, by decide +kernel, rfl, by decide +kernel, by decide +kernel⟩
theorem b_Clause_or (T : Tx w K mg) : Binds K (fdOf K (ma K (ga K "Clause") "__or__")) ["self", "other"] [] := T.fn_Clause_or.bindsN fun _ _ _ _ _ _ us hl => match us, hl with | [_, _], _ => rfl
theorem ok_Clause_or (T : Tx w K mg) : FnOk PySem.Challenge.pw_renamedhorn_k13_whole_turning_order_and w K mg base (L2N.CX PySem.Challenge.pw_renamedhorn_k13_whole_turning_order_and w) 10 (ma K (ga K "Clause") "__or__") (fdOf K (ma K (ga K "Clause") "__or__")) ["self", "other"] (sp_Clause_or K) := by
  refine T.fn_Clause_or.ok sc_Clause_or (fun vs H Q E h => Sp2.len h) (fun cdv A outer s H vs Q E hr h => ⟨t_Clause_or K (fun cls d _ H => E cls d H), ?_, pure_Clause_or T.ins_Clause T.kit_Clause_Clause h⟩)
  · have tk := L2N.takes_of (X := cxOf (L2N.CX PySem.Challenge.pw_renamedhorn_k13_whole_turning_order_and w) PySem.Challenge.pw_renamedhorn_k13_whole_turning_order_and w K mg base N_Clause_or "Clause.__or__" (defScope Hd.s_Clause_or) (ma K (ga K "Clause") "__or__") cdv A outer s H E) (E := E) rfl rfl rfl rfl
    exact (pss_cut (ps_if (pt_not (pt_val (pe_callB call_isi (by rfl) T.f_isinstance PyProof.Rows.Boot.«isinstance» (pa_cons (pv 1) (pa_cons (pe_glob (v := .ref (ga K "Clause")) rfl (T.g_Clause) rfl) pa_nil))))) (pss_one ps_never) pss_nil)
      (pss_cons (ps_asg (pe_op op_addP (Cl.pe_att (.cons (Cl.alt_fld T.cls_Clause T.no_Clause_literals) .nil) (pv 0)) (Cl.pe_att (.cons (Cl.alt_fld T.cls_Clause T.no_Clause_literals) .nil) (pv 1))) (pg_name (i := 2) sc_Clause_or.nd rfl (Or.inl rfl)))
      (pss_one (ps_ret (Cl.pe_makeSS T.mk_Clause (fr_Clause_init T) (hr.mono (by decide)) rfl T.g_Clause (fun σ => L2N.passAt tk σ) (pv 2))))))
theorem sc_Clause_and : FnScope N_Clause_and ["self", "other"] (defScope Hd.s_Clause_and) := ⟨rfl, rfl, rfl, by decide +kernel, rfl, by decide +kernel, by decide +kernel⟩
theorem b_Clause_and (T : Tx w K mg) : Binds K (fdOf K (ma K (ga K "Clause") "__and__")) ["self", "other"] [] := T.fn_Clause_and.bindsN fun _ _ _ _ _ _ us hl => match us, hl with | [_, _], _ => rfl
theorem ok_Clause_and (T : Tx w K mg) : FnOk PySem.Challenge.pw_renamedhorn_k13_whole_turning_order_and w K mg base (L2N.CX PySem.Challenge.pw_renamedhorn_k13_whole_turning_order_and w) 10 (ma K (ga K "Clause") "__and__") (fdOf K (ma K (ga K "Clause") "__and__")) ["self", "other"] (sp_Clause_and K) := by
  refine T.fn_Clause_and.ok sc_Clause_and (fun vs H Q E h => Sp2.len h) (fun cdv A outer s H vs Q E hr h => ⟨t_Clause_and K (fun cls d _ H => E cls d H), ?_, pure_Clause_and T.ins_Clause T.kit_Clause_Clause h⟩)
  · have tk := L2N.takes_of (X := cxOf (L2N.CX PySem.Challenge.pw_renamedhorn_k13_whole_turning_order_and w) PySem.Challenge.pw_renamedhorn_k13_whole_turning_order_and w K mg base N_Clause_and "Clause.__and__" (defScope Hd.s_Clause_and) (ma K (ga K "Clause") "__and__") cdv A outer s H E) (E := E) rfl rfl rfl rfl
    exact (pss_cut (ps_if (pt_not (pt_val (pe_callB call_isi (by rfl) T.f_isinstance PyProof.Rows.Boot.«isinstance» (pa_cons (pv 1) (pa_cons (pe_glob (v := .ref (ga K "Clause")) rfl (T.g_Clause) rfl) pa_nil))))) (pss_one ps_never) pss_nil)
      (pss_cons (ps_setLc (i := 2) (own := [("literal", 3)]) (g := (gName 3)) (tt := (tTest (tOp (rInP K false) (tVar 3) (Cl.tAtt [(ga K "Clause", Cl.aFld "literals")] (tVar 1))))) rfl sc_Clause_and.nd rfl rfl (sw_true rfl rfl rfl (by decide +kernel)) (pi_anyP (Cl.pe_att (.cons (Cl.alt_fld T.cls_Clause T.no_Clause_literals) .nil) (pv 0))) (blkOk_by (own := [("literal", 3)]) (N := N_Clause_and) (sc := defScope Hd.s_Clause_and) (by decide +kernel)) (fun _ _ _ _ _ => (pg_name (i := 3) sc_Clause_and.nd rfl (Or.inl rfl))) (fun _ _ _ _ _ => (pts_one (pt_cmpR (op_inP hr.units) (pv 3) (Cl.pe_att (.cons (Cl.alt_fld T.cls_Clause T.no_Clause_literals) .nil) (pv 1)) (by rfl)))) (fun _ _ _ _ _ => (pv 3)))
      (pss_one (ps_ret (Cl.pe_makeSS T.mk_Clause (fr_Clause_init T) (hr.mono (by decide)) rfl T.g_Clause (fun σ => L2N.passAt tk σ) (pv 2))))))
theorem sc_Clause_sub : FnScope N_Clause_sub ["self", "other"] (defScope Hd.s_Clause_sub) := ⟨rfl, rfl, rfl, by decide +kernel, rfl, by decide +kernel, by decide +kernel⟩
theorem b_Clause_sub (T : Tx w K mg) : Binds K (fdOf K (ma K (ga K "Clause") "__sub__")) ["self", "other"] [] := T.fn_Clause_sub.bindsN fun _ _ _ _ _ _ us hl => match us, hl with | [_, _], _ => rfl
theorem ok_Clause_sub (T : Tx w K mg) : FnOk PySem.Challenge.pw_renamedhorn_k13_whole_turning_order_and w K mg base (L2N.CX PySem.Challenge.pw_renamedhorn_k13_whole_turning_order_and w) 10 (ma K (ga K "Clause") "__sub__") (fdOf K (ma K (ga K "Clause") "__sub__")) ["self", "other"] (sp_Clause_sub K) := by
  refine T.fn_Clause_sub.ok sc_Clause_sub (fun vs H Q E h => Sp2.len h) (fun cdv A outer s H vs Q E hr h => ⟨t_Clause_sub K (fun cls d _ H => E cls d H), ?_, pure_Clause_sub T.ins_Clause T.kit_Clause_Clause h⟩)
  · have tk := L2N.takes_of (X := cxOf (L2N.CX PySem.Challenge.pw_renamedhorn_k13_whole_turning_order_and w) PySem.Challenge.pw_renamedhorn_k13_whole_turning_order_and w K mg base N_Clause_sub "Clause.__sub__" (defScope Hd.s_Clause_sub) (ma K (ga K "Clause") "__sub__") cdv A outer s H E) (E := E) rfl rfl rfl rfl
    exact (pss_cut (ps_if (pt_not (pt_val (pe_callB call_isi (by rfl) T.f_isinstance PyProof.Rows.Boot.«isinstance» (pa_cons (pv 1) (pa_cons (pe_glob (v := .ref (ga K "Clause")) rfl (T.g_Clause) rfl) pa_nil))))) (pss_one ps_never) pss_nil)
      (pss_cons (ps_setLc (i := 2) (own := [("literal", 3)]) (g := (gName 3)) (tt := (tTest (tOp (rInP K true) (tVar 3) (Cl.tAtt [(ga K "Clause", Cl.aFld "literals")] (tVar 1))))) rfl sc_Clause_sub.nd rfl rfl (sw_true rfl rfl rfl (by decide +kernel)) (pi_anyP (Cl.pe_att (.cons (Cl.alt_fld T.cls_Clause T.no_Clause_literals) .nil) (pv 0))) (blkOk_by (own := [("literal", 3)]) (N := N_Clause_sub) (sc := defScope Hd.s_Clause_sub) (by decide +kernel)) (fun _ _ _ _ _ => (pg_name (i := 3) sc_Clause_sub.nd rfl (Or.inl rfl))) (fun _ _ _ _ _ => (pts_one (pt_cmpR (op_ninP hr.units) (pv 3) (Cl.pe_att (.cons (Cl.alt_fld T.cls_Clause T.no_Clause_literals) .nil) (pv 1)) (by rfl)))) (fun _ _ _ _ _ => (pv 3)))
      (pss_one (ps_ret (Cl.pe_makeSS T.mk_Clause (fr_Clause_init T) (hr.mono (by decide)) rfl T.g_Clause (fun σ => L2N.passAt tk σ) (pv 2))))))
theorem sc_Clause_str : FnScope N_Clause_str ["self"] (defScope Hd.s_Clause_str) := ⟨rfl, rfl, rfl, by decide +kernel, rfl, by decide +kernel, by decide +kernel⟩
theorem b_Clause_str (T : Tx w K mg) : Binds K (fdOf K (ma K (ga K "Clause") "__str__")) ["self"] [] := T.fn_Clause_str.bindsN fun _ _ _ _ _ _ us hl => match us, hl with | [_], _ => rfl
theorem ok_Clause_str (T : Tx w K mg) : FnOk PySem.Challenge.pw_renamedhorn_k13_whole_turning_order_and w K mg base (L2N.CX PySem.Challenge.pw_renamedhorn_k13_whole_turning_order_and w) 1 (ma K (ga K "Clause") "__str__") (fdOf K (ma K (ga K "Clause") "__str__")) ["self"] (sp_Clause_str K) := by
  refine T.fn_Clause_str.ok sc_Clause_str (fun vs H Q E h => Sp1.len h) (fun cdv A outer s H vs Q E hr h => ⟨t_Clause_str K (fun cls d _ H => E cls d H), ?_, pure_Clause_str h⟩)
  · have tk := L2N.takes_of (X := cxOf (L2N.CX PySem.Challenge.pw_renamedhorn_k13_whole_turning_order_and w) PySem.Challenge.pw_renamedhorn_k13_whole_turning_order_and w K mg base N_Clause_str "Clause.__str__" (defScope Hd.s_Clause_str) (ma K (ga K "Clause") "__str__") cdv A outer s H E) (E := E) rfl rfl rfl rfl
    exact (pss_cut (ps_if (pt_cmpR (op_eqP hr.units) (pe_callB call_lenP (by rfl) T.f_len PyProof.Rows.Boot.«len» (pa_cons (Cl.pe_att (.cons (Cl.alt_fld T.cls_Clause T.no_Clause_literals) .nil) (pv 0)) pa_nil)) pe_int (nomark _)) (pss_one (ps_ret pe_str)) pss_nil)
      (pss_one (ps_ret (Cl.pe_joinP pe_str (Cl.pe_att (.cons (Cl.alt_fld T.cls_Clause T.no_Clause_literals) .nil) (pv 0))))))
theorem sc_Turning_call : FnScope N_Turning_call ["self", "thing"] (defScope Hd.s_Turning_call) := ⟨rfl, rfl, rfl, by decide +kernel, rfl, by decide +kernel, by decide +kernel⟩
theorem b_Turning_call (T : Tx w K mg) : Binds K (fdOf K (ma K (ga K "Turning") "__call__")) ["self", "thing"] [] := T.fn_Turning_call.bindsN fun _ _ _ _ _ _ us hl => match us, hl with | [_, _], _ => rfl
theorem ok_Turning_call (T : Tx w K mg) : FnOk PySem.Challenge.pw_renamedhorn_k13_whole_turning_order_and w K mg base (L2N.CX PySem.Challenge.pw_renamedhorn_k13_whole_turning_order_and w) 11 (ma K (ga K "Turning") "__call__") (fdOf K (ma K (ga K "Turning") "__call__")) ["self", "thing"] (sp_Turning_call K) := by
  refine T.fn_Turning_call.ok sc_Turning_call (fun vs H Q E h => Sp2.len h) (fun cdv A outer s H vs Q E hr h => ⟨t_Turning_call K (fun cls d _ H => E cls d H), ?_, pure_Turning_call T.ins_Clause T.kit_Clause_Clause T.kit_str_Clause h⟩)
  · have tk := L2N.takes_of (X := cxOf (L2N.CX PySem.Challenge.pw_renamedhorn_k13_whole_turning_order_and w) PySem.Challenge.pw_renamedhorn_k13_whole_turning_order_and w K mg base N_Turning_call "Turning.__call__" (defScope Hd.s_Turning_call) (ma K (ga K "Turning") "__call__") cdv A outer s H E) (E := E) rfl rfl rfl rfl
    exact (pss_cut (ps_if (pt_val (pe_callB call_isi (by rfl) T.f_isinstance PyProof.Rows.Boot.«isinstance» (pa_cons (pv 1) (pa_cons (pe_glob (v := .ref (ga K "Clause")) rfl (T.g_Clause) rfl) pa_nil)))) (pss_one (ps_ret (pe_callS (ok_turned_clause T) (hr.mono (by decide)) rfl T.g_turned_clause (T.fn_turned_clause).kp (b_turned_clause T) (fun σ => L2N.passAt tk σ) (pa_cons (Cl.pe_att (.cons (Cl.alt_fld T.cls_Turning T.no_Turning_turned) .nil) (pv 0)) (pa_cons (pv 1) pa_nil))))) pss_nil)
      (pss_one (ps_ret (pe_callS (ok_turned_literal T) (hr.mono (by decide)) rfl T.g_turned_literal (T.fn_turned_literal).kp (b_turned_literal T) (fun σ => L2N.passAt tk σ) (pa_cons (Cl.pe_att (.cons (Cl.alt_fld T.cls_Turning T.no_Turning_turned) .nil) (pv 0)) (pa_cons (pv 1) pa_nil))))))
theorem sc_Turning_len : FnScope N_Turning_len ["self"] (defScope Hd.s_Turning_len) := ⟨rfl, rfl, rfl, by decide +kernel, rfl, by decide +kernel, by decide +kernel⟩
theorem b_Turning_len (T : Tx w K mg) : Binds K (fdOf K (ma K (ga K "Turning") "__len__")) ["self"] [] := T.fn_Turning_len.bindsN fun _ _ _ _ _ _ us hl => match us, hl with | [_], _ => rfl
theorem ok_Turning_len (T : Tx w K mg) : FnOk PySem.Challenge.pw_renamedhorn_k13_whole_turning_order_and w K mg base (L2N.CX PySem.Challenge.pw_renamedhorn_k13_whole_turning_order_and w) 1 (ma K (ga K "Turning") "__len__") (fdOf K (ma K (ga K "Turning") "__len__")) ["self"] (sp_Turning_len K) := by
  refine T.fn_Turning_len.ok sc_Turning_len (fun vs H Q E h => Sp1.len h) (fun cdv A outer s H vs Q E hr h => ⟨t_Turning_len K (fun cls d _ H => E cls d H), ?_, pure_Turning_len h⟩)
  · have tk := L2N.takes_of (X := cxOf (L2N.CX PySem.Challenge.pw_renamedhorn_k13_whole_turning_order_and w) PySem.Challenge.pw_renamedhorn_k13_whole_turning_order_and w K mg base N_Turning_len "Turning.__len__" (defScope Hd.s_Turning_len) (ma K (ga K "Turning") "__len__") cdv A outer s H E) (E := E) rfl rfl rfl rfl
    exact (pss_one (ps_ret (pe_callB call_lenP (by rfl) T.f_len PyProof.Rows.Boot.«len» (pa_cons (Cl.pe_att (.cons (Cl.alt_fld T.cls_Turning T.no_Turning_turned) .nil) (pv 0)) pa_nil))))
theorem sc_Turning_contains : FnScope N_Turning_contains ["self", "name"] (defScope Hd.s_Turning_contains) := ⟨rfl, rfl, rfl, by decide +kernel, rfl, by decide +kernel, by decide +kernel⟩
theorem b_Turning_contains (T : Tx w K mg) : Binds K (fdOf K (ma K (ga K "Turning") "__contains__")) ["self", "name"] [] := T.fn_Turning_contains.bindsN fun _ _ _ _ _ _ us hl => match us, hl with | [_, _], _ => rfl
theorem ok_Turning_contains (T : Tx w K mg) : FnOk PySem.Challenge.pw_renamedhorn_k13_whole_turning_order_and w K mg base (L2N.CX PySem.Challenge.pw_renamedhorn_k13_whole_turning_order_and w) 1 (ma K (ga K "Turning") "__contains__") (fdOf K (ma K (ga K "Turning") "__contains__")) ["self", "name"] (sp_Turning_contains K) := by
  refine T.fn_Turning_contains.ok sc_Turning_contains (fun vs H Q E h => Sp2.len h) (fun cdv A outer s H vs Q E hr h => ⟨t_Turning_contains K (fun cls d _ H => E cls d H), ?_, pure_Turning_contains h⟩)
  · have tk := L2N.takes_of (X := cxOf (L2N.CX PySem.Challenge.pw_renamedhorn_k13_whole_turning_order_and w) PySem.Challenge.pw_renamedhorn_k13_whole_turning_order_and w K mg base N_Turning_contains "Turning.__contains__" (defScope Hd.s_Turning_contains) (ma K (ga K "Turning") "__contains__") cdv A outer s H E) (E := E) rfl rfl rfl rfl
    exact (pss_one (ps_ret (pe_cmpR (op_inP hr.units) (pv 1) (Cl.pe_att (.cons (Cl.alt_fld T.cls_Turning T.no_Turning_turned) .nil) (pv 0)) (by rfl))))
theorem sc_Turning_getitem : FnScope N_Turning_getitem ["self", "name"] (defScope Hd.s_Turning_getitem) := ⟨rfl, rfl, rfl, by decide +kernel, rfl, by decide +kernel, by decide +kernel⟩
theorem b_Turning_getitem (T : Tx w K mg) : Binds K (fdOf K (ma K (ga K "Turning") "__getitem__")) ["self", "name"] [] := T.fn_Turning_getitem.bindsN fun _ _ _ _ _ _ us hl => match us, hl with | [_, _], _ => rfl
theorem ok_Turning_getitem (T : Tx w K mg) : FnOk PySem.Challenge.pw_renamedhorn_k13_whole_turning_order_and w K mg base (L2N.CX PySem.Challenge.pw_renamedhorn_k13_whole_turning_order_and w) 3 (ma K (ga K "Turning") "__getitem__") (fdOf K (ma K (ga K "Turning") "__getitem__")) ["self", "name"] (sp_Turning_getitem K) := by
  refine T.fn_Turning_getitem.ok sc_Turning_getitem (fun vs H Q E h => Sp2.len h) (fun cdv A outer s H vs Q E hr h => ⟨t_Turning_getitem K (fun cls d _ H => E cls d H), ?_, pure_Turning_getitem h⟩)
  · have tk := L2N.takes_of (X := cxOf (L2N.CX PySem.Challenge.pw_renamedhorn_k13_whole_turning_order_and w) PySem.Challenge.pw_renamedhorn_k13_whole_turning_order_and w K mg base N_Turning_getitem "Turning.__getitem__" (defScope Hd.s_Turning_getitem) (ma K (ga K "Turning") "__getitem__") cdv A outer s H E) (E := E) rfl rfl rfl rfl
    exact (pss_cut (ps_if (pt_not (pt_val (pe_callS (ok_is_name T) (hr.mono (by decide)) rfl T.g_is_name (T.fn_is_name).kp (b_is_name T) (fun σ => L2N.passAt tk σ) (pa_cons (pv 1) pa_nil)))) (pss_one (ps_raiseE rfl T.err_BadName hr tk (pa_cons (pv 1) pa_nil))) pss_nil)
      (pss_one (ps_ret (pe_cmpR (op_inP hr.units) (pv 1) (Cl.pe_att (.cons (Cl.alt_fld T.cls_Turning T.no_Turning_turned) .nil) (pv 0)) (by rfl)))))
theorem sc_Turning_and : FnScope N_Turning_and ["self", "other"] (defScope Hd.s_Turning_and) := ⟨rfl, rfl, rfl, by decide +kernel, rfl, by decide +kernel, by decide +kernel⟩
theorem b_Turning_and (T : Tx w K mg) : Binds K (fdOf K (ma K (ga K "Turning") "__and__")) ["self", "other"] [] := T.fn_Turning_and.bindsN fun _ _ _ _ _ _ us hl => match us, hl with | [_, _], _ => rfl
theorem ok_Turning_and (T : Tx w K mg) : FnOk PySem.Challenge.pw_renamedhorn_k13_whole_turning_order_and w K mg base (L2N.CX PySem.Challenge.pw_renamedhorn_k13_whole_turning_order_and w) 8 (ma K (ga K "Turning") "__and__") (fdOf K (ma K (ga K "Turning") "__and__")) ["self", "other"] (sp_Turning_and K) := by
  refine T.fn_Turning_and.ok sc_Turning_and (fun vs H Q E h => Sp2.len h) (fun cdv A outer s H vs Q E hr h => ⟨t_Turning_and K (fun cls d _ H => E cls d H), ?_, pure_Turning_and T.ins_Turning T.kit_Turning_Turning h⟩)
  · have tk := L2N.takes_of (X := cxOf (L2N.CX PySem.Challenge.pw_renamedhorn_k13_whole_turning_order_and w) PySem.Challenge.pw_renamedhorn_k13_whole_turning_order_and w K mg base N_Turning_and "Turning.__and__" (defScope Hd.s_Turning_and) (ma K (ga K "Turning") "__and__") cdv A outer s H E) (E := E) rfl rfl rfl rfl
    exact (pss_cut (ps_if (pt_not (pt_val (pe_callB call_isi (by rfl) T.f_isinstance PyProof.Rows.Boot.«isinstance» (pa_cons (pv 1) (pa_cons (pe_glob (v := .ref (ga K "Turning")) rfl (T.g_Turning) rfl) pa_nil))))) (pss_one ps_never) pss_nil)
      (pss_cons (ps_setLc (i := 2) (own := [("name", 3)]) (g := (gName 3)) (tt := (tTest (tOp (rInP K false) (tVar 3) (Cl.tAtt [(ga K "Turning", Cl.aFld "turned")] (tVar 1))))) rfl sc_Turning_and.nd rfl rfl (sw_true rfl rfl rfl (by decide +kernel)) (pi_anyP (Cl.pe_att (.cons (Cl.alt_fld T.cls_Turning T.no_Turning_turned) .nil) (pv 0))) (blkOk_by (own := [("name", 3)]) (N := N_Turning_and) (sc := defScope Hd.s_Turning_and) (by decide +kernel)) (fun _ _ _ _ _ => (pg_name (i := 3) sc_Turning_and.nd rfl (Or.inl rfl))) (fun _ _ _ _ _ => (pts_one (pt_cmpR (op_inP hr.units) (pv 3) (Cl.pe_att (.cons (Cl.alt_fld T.cls_Turning T.no_Turning_turned) .nil) (pv 1)) (by rfl)))) (fun _ _ _ _ _ => (pv 3)))
      (pss_one (ps_ret (Cl.pe_makeSS T.mk_Turning (fr_Turning_init T) (hr.mono (by decide)) rfl T.g_Turning (fun σ => L2N.passAt tk σ) (pv 2))))))
theorem sc_Turning_or : FnScope N_Turning_or ["self", "other"] (defScope Hd.s_Turning_or) := ⟨rfl, rfl, rfl, by decide +kernel, rfl, by decide +kernel, by decide +kernel⟩
theorem b_Turning_or (T : Tx w K mg) : Binds K (fdOf K (ma K (ga K "Turning") "__or__")) ["self", "other"] [] := T.fn_Turning_or.bindsN fun _ _ _ _ _ _ us hl => match us, hl with | [_, _], _ => rfl
theorem ok_Turning_or (T : Tx w K mg) : FnOk PySem.Challenge.pw_renamedhorn_k13_whole_turning_order_and w K mg base (L2N.CX PySem.Challenge.pw_renamedhorn_k13_whole_turning_order_and w) 8 (ma K (ga K "Turning") "__or__") (fdOf K (ma K (ga K "Turning") "__or__")) ["self", "other"] (sp_Turning_or K) := by
  refine T.fn_Turning_or.ok sc_Turning_or (fun vs H Q E h => Sp2.len h) (fun cdv A outer s H vs Q E hr h => ⟨t_Turning_or K (fun cls d _ H => E cls d H), ?_, pure_Turning_or T.ins_Turning T.kit_Turning_Turning h⟩)
  · have tk := L2N.takes_of (X := cxOf (L2N.CX PySem.Challenge.pw_renamedhorn_k13_whole_turning_order_and w) PySem.Challenge.pw_renamedhorn_k13_whole_turning_order_and w K mg base N_Turning_or "Turning.__or__" (defScope Hd.s_Turning_or) (ma K (ga K "Turning") "__or__") cdv A outer s H E) (E := E) rfl rfl rfl rfl
    exact (pss_cut (ps_if (pt_not (pt_val (pe_callB call_isi (by rfl) T.f_isinstance PyProof.Rows.Boot.«isinstance» (pa_cons (pv 1) (pa_cons (pe_glob (v := .ref (ga K "Turning")) rfl (T.g_Turning) rfl) pa_nil))))) (pss_one ps_never) pss_nil)
      (pss_cons (ps_asg (pe_op op_addP (Cl.pe_att (.cons (Cl.alt_fld T.cls_Turning T.no_Turning_turned) .nil) (pv 0)) (Cl.pe_att (.cons (Cl.alt_fld T.cls_Turning T.no_Turning_turned) .nil) (pv 1))) (pg_name (i := 2) sc_Turning_or.nd rfl (Or.inl rfl)))
      (pss_one (ps_ret (Cl.pe_makeSS T.mk_Turning (fr_Turning_init T) (hr.mono (by decide)) rfl T.g_Turning (fun σ => L2N.passAt tk σ) (pv 2))))))
theorem sc_Turning_sub : FnScope N_Turning_sub ["self", "other"] (defScope Hd.s_Turning_sub) := ⟨rfl, rfl, rfl, by decide +kernel, rfl, by decide +kernel, by decide +kernel⟩
theorem b_Turning_sub (T : Tx w K mg) : Binds K (fdOf K (ma K (ga K "Turning") "__sub__")) ["self", "other"] [] := T.fn_Turning_sub.bindsN fun _ _ _ _ _ _ us hl => match us, hl with | [_, _], _ => rfl
theorem ok_Turning_sub (T : Tx w K mg) : FnOk PySem.Challenge.pw_renamedhorn_k13_whole_turning_order_and w K mg base (L2N.CX PySem.Challenge.pw_renamedhorn_k13_whole_turning_order_and w) 8 (ma K (ga K "Turning") "__sub__") (fdOf K (ma K (ga K "Turning") "__sub__")) ["self", "other"] (sp_Turning_sub K) := by
  refine T.fn_Turning_sub.ok sc_Turning_sub (fun vs H Q E h => Sp2.len h) (fun cdv A outer s H vs Q E hr h => ⟨t_Turning_sub K (fun cls d _ H => E cls d H), ?_, pure_Turning_sub T.ins_Turning T.kit_Turning_Turning h⟩)
  · have tk := L2N.takes_of (X := cxOf (L2N.CX PySem.Challenge.pw_renamedhorn_k13_whole_turning_order_and w) PySem.Challenge.pw_renamedhorn_k13_whole_turning_order_and w K mg base N_Turning_sub "Turning.__sub__" (defScope Hd.s_Turning_sub) (ma K (ga K "Turning") "__sub__") cdv A outer s H E) (E := E) rfl rfl rfl rfl
    exact (pss_cut (ps_if (pt_not (pt_val (pe_callB call_isi (by rfl) T.f_isinstance PyProof.Rows.Boot.«isinstance» (pa_cons (pv 1) (pa_cons (pe_glob (v := .ref (ga K "Turning")) rfl (T.g_Turning) rfl) pa_nil))))) (pss_one ps_never) pss_nil)
      (pss_cons (ps_setLc (i := 2) (own := [("name", 3)]) (g := (gName 3)) (tt := (tTest (tOp (rInP K true) (tVar 3) (Cl.tAtt [(ga K "Turning", Cl.aFld "turned")] (tVar 1))))) rfl sc_Turning_sub.nd rfl rfl (sw_true rfl rfl rfl (by decide +kernel)) (pi_anyP (Cl.pe_att (.cons (Cl.alt_fld T.cls_Turning T.no_Turning_turned) .nil) (pv 0))) (blkOk_by (own := [("name", 3)]) (N := N_Turning_sub) (sc := defScope Hd.s_Turning_sub) (by decide +kernel)) (fun _ _ _ _ _ => (pg_name (i := 3) sc_Turning_sub.nd rfl (Or.inl rfl))) (fun _ _ _ _ _ => (pts_one (pt_cmpR (op_ninP hr.units) (pv 3) (Cl.pe_att (.cons (Cl.alt_fld T.cls_Turning T.no_Turning_turned) .nil) (pv 1)) (by rfl)))) (fun _ _ _ _ _ => (pv 3)))
      (pss_one (ps_ret (Cl.pe_makeSS T.mk_Turning (fr_Turning_init T) (hr.mono (by decide)) rfl T.g_Turning (fun σ => L2N.passAt tk σ) (pv 2))))))
theorem sc_Turning_str : FnScope N_Turning_str ["self"] (defScope Hd.s_Turning_str) := ⟨rfl, rfl, rfl, by decide +kernel, rfl, by decide +kernel, by decide +kernel⟩
theorem b_Turning_str (T : Tx w K mg) : Binds K (fdOf K (ma K (ga K "Turning") "__str__")) ["self"] [] := T.fn_Turning_str.bindsN fun _ _ _ _ _ _ us hl => match us, hl with | [_], _ => rfl
theorem ok_Turning_str (T : Tx w K mg) : FnOk PySem.Challenge.pw_renamedhorn_k13_whole_turning_order_and w K mg base (L2N.CX PySem.Challenge.pw_renamedhorn_k13_whole_turning_order_and w) 1 (ma K (ga K "Turning") "__str__") (fdOf K (ma K (ga K "Turning") "__str__")) ["self"] (sp_Turning_str K) := by
  refine T.fn_Turning_str.ok sc_Turning_str (fun vs H Q E h => Sp1.len h) (fun cdv A outer s H vs Q E hr h => ⟨t_Turning_str K (fun cls d _ H => E cls d H), ?_, pure_Turning_str h⟩)
  · have tk := L2N.takes_of (X := cxOf (L2N.CX PySem.Challenge.pw_renamedhorn_k13_whole_turning_order_and w) PySem.Challenge.pw_renamedhorn_k13_whole_turning_order_and w K mg base N_Turning_str "Turning.__str__" (defScope Hd.s_Turning_str) (ma K (ga K "Turning") "__str__") cdv A outer s H E) (E := E) rfl rfl rfl rfl
    exact (pss_cut (ps_if (pt_cmpR (op_eqP hr.units) (pe_callB call_lenP (by rfl) T.f_len PyProof.Rows.Boot.«len» (pa_cons (Cl.pe_att (.cons (Cl.alt_fld T.cls_Turning T.no_Turning_turned) .nil) (pv 0)) pa_nil)) pe_int (nomark _)) (pss_one (ps_ret pe_str)) pss_nil)
      (pss_one (ps_ret (Cl.pe_joinP pe_str (Cl.pe_att (.cons (Cl.alt_fld T.cls_Turning T.no_Turning_turned) .nil) (pv 0))))))
end
end Ok
open PySem PySem.W PySem.Calls PyProof.Rows
set_option maxRecDepth 100000 in
set_option maxHeartbeats 8000000 in
theorem PySem.Challenge.cw_renamedhorn_k13_whole_turning_order_and_holds : PySem.Challenge.rw_renamedhorn_k13_whole_turning_order_and.Holds := by
  w_on; o_law
  refine HandSHeadRun.head_any (r := OpenLaw.row PySem.Challenge.rw_renamedhorn_k13_whole_turning_order_and) (q := view (OpenLaw.row PySem.Challenge.rw_renamedhorn_k13_whole_turning_order_and).prog [44]) (H := Hd.hk) (ob := Hd.ob) (M := 6000) (loose := Hd.loose) (d := HandSHeadRun.topDef (OpenLaw.row PySem.Challenge.rw_renamedhorn_k13_whole_turning_order_and).prog 44) (kwd := []) Hd.ob_eq
    (by kernel_rfl) (fun s => by kernel_rfl) Hd.run (by kernel_rfl) (by kernel_rfl) (by kernel_rfl) (by rfl) (by first | assumption | decide +kernel) (by decide +kernel) ⟨rfl, rfl, rfl, rfl, rfl, by decide +kernel⟩ ?hw ?hc
  case hw => w_witness2
  case hc =>
    refine Hk.walk_ofEB (l := PySem.Challenge.rw_renamedhorn_k13_whole_turning_order_and) (n := 63) (k := 14) (x := "_law_script") (CX := L2N.CX PySem.Challenge.pw_renamedhorn_k13_whole_turning_order_and) rfl (by decide) (by kernel_rfl) ⟨rfl, by decide, by decide⟩ ?F (fun w H s e s' z => ?X)
    case X =>
      obtain ⟨_, _, _, _, _, _, _, _, _, _, _, _, z⟩ := z
      exact z
    case F =>
      intro w mg fa h Y G hmg0
      obtain ⟨K, KX, c⟩ := Y
      have hmg : mg ("law" : PySem.Str) = some (.ref fa) := by
        have e : (HandSHeadRun.topDef (OpenLaw.row PySem.Challenge.rw_renamedhorn_k13_whole_turning_order_and).prog 44).name = ("law" : PySem.Str) := by kernel_rfl
        rw [← e]
        exact hmg0
      have T : Ok.Tx w K mg := ⟨c, h, KX, G⟩
      have e := hmg.symm.trans T.g_law
      cases e
      have b := L2.FunD.bindsA (ps := ["_law_script"]) T.fn_law fun _ _ _ _ _ _ us hl => match us, hl with | [_], _ => rfl
      exact ⟨K, Hk.fdOf K (He.ga K "law"), Rd.sp_law K, KX, fun s v => b s [v] rfl, fun H a ns hl _ _ hS => ⟨_, rfl, a, ns, rfl, hS, by omega, fun _ => rfl⟩, fun base _ _ => Ok.ok_law T⟩
