import PyProof.Rows.All
import Wide.All
import OpenK.AllK
import Wide.FinOn
import PyProof.EqAt
import PyProof.EqKinds
import PyProof.TupleCall
import KE.KStateDown
import KE.KExcSuper
import HandS.ForMost
import HandS.ForExc
import HandS.HeadWalk
import HandS.Defaults
import HandS.ExcIs
import HandS.ExcCtx
import HandS.HotCalls
import HandS.ExcInitHot
import HandS.IsInst
import KE.KExcIs
import HandS.RaiseFrom
import HandS.SuiteRaise
import HandS.EndBits
import HandS.Head0
import HandS.Head1
import HandS.Head2
import HandS.HeadEnd
import HandS.HeadHook1
import HandS.HeadHook2
import HandS.HeadHook3
import HandS.HeadNt
import HandS.Wide
import HandS.Flow
import HandS.StrMore
import HandS.Conv
import HandS.TupAny
import HandS.RaiseMore
import HandS.TupLe
import HandS.Star
import HandS.Property
import HandS.ClsMeth
import HandS.Style
import HandS.ExcOwn
import HandS.Iter
import HandS.Dict
import HandS.More
import HandS.SortInts
import PyProof.Rows.SortShellAny
import HandS.IterVal
import HandS.OwnIter
import KE.KOwnIter
import KE.KCallOwn
import HandS.Gcd
import HandS.FStr
import HandS.Head3
import KE.KOpsOwn
import KE.KDictList
import HandS.DictComp
import HandS.Zip
import HandS.List
import HandS.CallSlots
import HandS.Text
import HandS.ReplaceLit
import PySem.Challenge.RW_renamedhorn_k06_shares_read_back
set_option Elab.async false
set_option linter.all false
set_option maxRecDepth 100000
set_option maxHeartbeats 4000000
/-! own errors whose __init__ says super().__init__('..') and keeps one argument in a field, or none -/
namespace PySem
namespace ErrX
open PySem.W PySem.Calls PyProof.Rows PySem.HandSPX
theorem one_size (v : Value) : [v].length ≤ sizeLine := by
  rw [sizeLine_eq]
  exact (by decide : 1 ≤ 16777216)
theorem nil_size : ([] : List Value).length ≤ sizeLine := by
  rw [sizeLine_eq]
  exact (by decide : 0 ≤ 16777216)
/-- the first statement of such an __init__ -/
def supS (msg : Str) (a1 a2 a3 a4 a5 a6 : Pos) : Stmt := .Expr (.Call (.Attribute (.Call (.Name "super" a1) [] [] a2) "__init__" a3) [.Constant (.str msg) 0 a4] [] a5) a6
def fldS (f : Str) (b1 b2 b3 b4 : Pos) : Stmt := .Assign [.Attribute (.Name "self" b1) f b2] (.Name f b3) b4
/-- what the written part says of the class at C and of its __init__ at fI -/
structure ErrC (prog : Program) (K : Frag) (C fI : Addr) (body : List Stmt) (scope : Scope) (params : Arguments) : Prop where
  cls : ∃ nm q N bs bm sn sub ab col dd k0 k1 k2 k3 k5, K.lookup C = some (excClassObj nm q C N bs bm true sn sub ab col dd k0 k1 k2 k3 k5 "ValueError.__new__") ∧ refsVE bm = true
  sa : findIn K (.ref C) "__setattr__" = some (some (.builtin "object.__setattr__"))
  ga : findIn K (.ref C) "__getattribute__" = some (some (.builtin "BaseException.__getattribute__"))
  gg : findIn K (.ref C) "__getattr__" = some none
  iC : findIn K (.ref C) "__init__" = some (some (.ref fI))
  tC : typeIn K (.ref fI) = some (.type "function")
  kC : keepIn K (.ref C) = true
  exC : subIn K (.ref C) (.type "BaseException") = some true
  veC : subIn K (.ref C) (.type "ValueError") = some true
  tyC : typeIn K (.ref C) = some (.type "type")
  hdC : hasDictIn K C = true
  mroC : mroIn K C (.ref C) = some true
  supC : ks_superIn K C C "__init__" = some (some (.builtin "ValueError.__init__"))
  opq : nsIn K cStatics "thirdparty.any" = some none
  supG : nsIn K mainGlobals "super" = some none
  fn : ∃ (oc : Value) (od : Option Addr) (nm qual : Str) (kV doc pm : Value) (an : Option Addr) (cda cc : Addr) (ct : Value) (osl : Array (Option Value)) (ccl : Value) (cdd : Option Addr) (vs : Array Value) (ccs : Array (Option Value)) (file : Str) (tf : Tok) (cl : Value) (cld : Option Addr) (csl : Array (Option Value)),
    K.lookup fI = some ⟨oc, od, .func (ksFn nm qual params body scope .none kV doc pm an (.ref cda) ct cc), osl⟩ ∧ codeIn K (.ref cda) qual = true ∧
    K.lookup cda = some ⟨ccl, cdd, .fields vs, ccs⟩ ∧ vs[2]? = some (.str file tf) ∧ ((prog.main.file : Str) == file) = true ∧ K.lookup cc = some ⟨cl, cld, .cell (some (.ref C)), csl⟩
  ar : ∃ pp, (params.posonlyargs ++ params.args).head? = some ⟨"self", none, pp⟩
  hks : scope.names.lookup ("super" : Str) = some .globalImplicit
  hkc : scope.names.lookup ("__class__" : Str) = some .free
  hka : scope.names.lookup ("self" : Str) = some .local
  hk : scope.kind = .function
  hco : scope.isCoroutine = false
  hgen : scope.isGenerator = false
  hcell : ∀ x ∈ scope.names, x.2 ≠ .cell
  htop : (prog.main.scope.names.lookup ("super" : Str)).isSome = false
section
variable {prog : Program} {w : World} {M : Model} {A : Around} {E : Value → Shared → Prop} {h : Heap} {g : Array GenState} {d : Drawn} {t : Nat} {os : OsState}
variable {nm q : Str} {C N : Addr} {bs bm : List Value} {hdct : Bool} {sn : List Str} {sub : List Value} {ab : Bool} {col : Option Bool} {dd : Option Addr} {k0 k1 k2 k3 k5 : Option Value}
theorem call_vw {u e t0 : Addr} {rest : List Value} {Q : Value → Shared → Prop}
    (hC : h.get? C = some (excClassObj nm q C N bs bm hdct sn sub ab col dd k0 k1 k2 k3 k5 "ValueError.__new__")) (he : h.get? e = some (excO C t0)) (hu : h.get? u = some (kxs_mw "ValueError.__init__" e)) (hrest : rest.length ≤ sizeLine)
    (hq : ∀ h' t1, (∀ b o, b ≠ e → h.get? b = some o → h'.get? b = some o) → h'.get? e = some (excO C t1) → Q .none ⟨h', g, d, t, os⟩) :
    wpAny (model prog w) A (call (.ref u) rest) Q E ⟨h, g, d, t, os⟩ := by
  refine wpAny_call (codeAny_of_tree ?_)
  show wpAny _ A.in1 (callAny (.ref u) ⟨rest, []⟩) _ _ _
  simp only [callAny]
  refine wpAny_bind (wpAny_load hu ?_)
  simp only [kxs_mw, show (Value.type "method-wrapper" == Value.type "method" || Value.type "method-wrapper" == Value.type "builtin_function_or_method" || Value.type "method-wrapper" == Value.type "method-wrapper") = true by decide, if_true]
  refine W.KFB.if_so (by decide) ?_
  refine wpAny_bind (check_bound_init F.excBase_ValueError.toExcCallFacts hC he rfl ?_)
  refine wpAny_bind (wpAny_pure (wpAny_pure ?_))
  refine ⟨plainId_quiet F.excBase_ValueError.init.plain _, codeAny_builtin F.excBase_ValueError.initEntry ?_⟩
  rw [Around.under_plainId F.excBase_ValueError.init.plain _]
  wp_walk
  refine hq _ h.objs.size (fun b o hb ho => ?_) ?_
  · rw [Heap.get?_update_other _ _ (Ne.symm hb)]
    exact Heap.get?_push_of_some _ ho
  · rw [Heap.get?_update_self _ (Heap.get?_push_of_some _ he) rfl]
    rfl
end
section
variable {prog : Program} {w : World} {A : Around} {E : Value → Shared → Prop} {s : Shared} {K : Frag} {mg : Str → Option Value} {C fI : Addr} {body : List Stmt} {scope : Scope} {params : Arguments}
/-- super().__init__('..') in such an __init__ -/
theorem sup_stmt (T : ErrC prog K C fI body scope params) {L x t0 : Addr} {m : Str → Option Value} {msg : Str} {a1 a2 a3 a4 a5 a6 : Pos} {Q : Flow → Shared → Prop}
    {oc : Value} {od : Option Addr} {nm qual : Str} {kV doc pm : Value} {an : Option Addr} {cda cc : Addr} {ct : Value} {osl : Array (Option Value)} {ccl : Value} {cdd : Option Addr} {vs : Array Value} {ccs : Array (Option Value)} {file : Str} {tf : Tok} {cl : Value} {cld : Option Addr} {csl : Array (Option Value)}
    (hf : K.lookup fI = some ⟨oc, od, .func (ksFn nm qual params body scope .none kV doc pm an (.ref cda) ct cc), osl⟩)
    (hcode : K.lookup cda = some ⟨ccl, cdd, .fields vs, ccs⟩) (hvs : vs[2]? = some (.str file tf)) (hfile : ((prog.main.file : Str) == file) = true) (hcell : K.lookup cc = some ⟨cl, cld, .cell (some (.ref C)), csl⟩)
    (X : K.In s.heap) (hG : s.heap.Ns mainGlobals mg) (hB : ∃ mb, s.heap.Ns builtinsNs mb ∧ ∀ x : Str, x ≠ "__name__" → mb x = bootBuiltins x)
    (hline : (a3.endLine == a5.line) = true) (hn : s.heap.Ns L m) (hv : m "self" = some (.ref x)) (hx : s.heap.get? x = some (excO C t0)) (hnx : K.lookup x = none)
    (hq : ∀ h' tk t1, (∀ b o, b ≠ x → s.heap.get? b = some o → h'.get? b = some o) → h'.get? x = some (excO C t1) → Q .next { s with heap := h', toks := tk }) :
    _root_.PySem.wpAt (model prog w) A (.func body (ksEnv qual scope L fI (.ref cda) cc)) (exec (supS msg a1 a2 a3 a4 a5 a6) (ksEnv qual scope L fI (.ref cda) cc)) Q E s := by
  obtain ⟨cnm, cq, N, bs, bm, sn, sub, ab, col, dd, k0, k1, k2, k3, k5, hC, hbm⟩ := T.cls
  obtain ⟨pp, har⟩ := T.ar
  obtain ⟨mb, hb1, hb2⟩ := hB
  have hD : clsIn K C = some { name := cnm, bases := bs, mro := .ref C :: bm, ns := N, qualname := cq, hasDict := true, slotNames := sn, subclasses := sub, abstract := ab, collection := col, hasDel := false } := by unfold clsIn; rw [hC] <;> rfl
  have hxC : x ≠ C := fun z => by rw [z, hC] at hnx; cases hnx
  obtain ⟨hh, g, d, t, os⟩ := s
  refine ks_wpAt_Expr_any (ks_wpAt_MethodCall (pl := L2.plainOf (.Call (.Name "super" a1) [] [] a2) (ksEnv qual scope L fI (.ref cda) cc)) ?_ (by
      show (do
        let ov ← attributeBase (.Call (.Name "super" a1) [] [] a2) "__init__" (ksEnv qual scope L fI (.ref cda) cc) (eval (.Call (.Name "super" a1) [] [] a2) (ksEnv qual scope L fI (.ref cda) cc))
        standAt a3.atName
        methodCall (.Call (.Name "super" a1) [] [] a2) "__init__" a3 a5 (ksEnv qual scope L fI (.ref cda) cc) ov 1 (backTo a5 (starEach [.Constant (.str msg) 0 a4] (ksEnv qual scope L fI (.ref cda) cc))) []) = _
      simp only [L2.mcall_line (n := 1) (args := backTo a5 (starEach [.Constant (.str msg) 0 a4] (ksEnv qual scope L fI (.ref cda) cc))) (kws := []) rfl hline])) (by simp [interactive, T.hk])
  refine ks_wpAt_super_base (env := ksEnv qual scope L fI (.ref cda) cc) T.hks T.hkc (by decide) rfl (X _ _ hf) rfl har rfl (X _ _ hcode) rfl hvs hfile T.htop ?_
  refine ks_loadName_global T.hk T.hks (loadGlobal_builtin (env := ksEnv qual scope L fI (.ref cda) cc) hG (mg_none_of X hG T.supG) hb1 ((hb2 _ (by decide +kernel)).trans PyProof.Rows.Boot.«super») ⟨rfl, ?_⟩)
  refine wpAny_loadName_free T.hk T.hkc rfl ⟨_, X _ _ hcell, rfl⟩ ?_
  refine wpAny_loadName_local T.hk T.hka hn hv ?_
  refine ks_wpAny_isType_cls (X _ _ hC) rfl ⟨rfl, ?_⟩
  refine ks_wpAny_call_super (X _ _ hC) rfl hx rfl (fun c e => by cases e) (looks_mroIn X T.mroC) (fun h1 e1 up1 => ?_)
  have hx1 := up1 _ _ hx
  have X1 : K.In h1 := X.keeps up1
  have I1 : InstAt h1 x (excO C t0) C none := ⟨hx1, rfl, rfl, trivial⟩
  have hI : Looks (model prog w) h1 (isInstance (.ref x) (.type "ValueError")) true := I1.type.andThen (looks_subIn X1 T.veC)
  have hsup := T.supC
  unfold ks_superIn at hsup
  rw [hD] at hsup
  refine kxs_getMethod kxs_ValueError e1 (looks_opaque X1 T.opq) (l₀ := .ref C :: bm) (fun A Q E s k q => wpAny_bind ((looks_clsIn X1 hD) A _ E s k (wpAny_pure q))) rfl X1 hsup hI hxC (by decide) ?_
  have up2 : ∀ b o, h1.get? b = some o → (h1.push (kxs_mw "ValueError.__init__" x)).get? b = some o := fun b o e => Heap.get?_push_of_some _ e
  have hu2 : (h1.push (kxs_mw "ValueError.__init__" x)).get? h1.objs.size = some (kxs_mw "ValueError.__init__" x) := Heap.get?_push_at rfl rfl
  refine kxs_callWith (u := h1.objs.size) (i := "ValueError.__init__") (x := x) rfl (evalArgs_plain ?_)
  refine Calls.spliced_cons (x := eval (.Constant (.str msg) 0 a4) (ksEnv qual scope L fI (.ref cda) cc)) (Calls.Constant_str (k := 0) (pos := a4) (Calls.spliced_nil ?_))
  refine ⟨hu2, ?_⟩
  refine call_vw ((X1.keeps up2) _ _ hC) (up2 _ _ hx1) hu2 (one_size _) (fun h3 t1 k3 hx3 => ?_)
  exact hq h3 _ t1 (fun b o hb e => k3 b o hb (up2 _ _ (up1 _ _ e))) hx3
end
section
variable {prog : Program} {w : World} {A : Around} {E : Value → Shared → Prop} {R : Result → Shared → Prop} {s : Shared} {K : Frag} {mg : Str → Option Value} {C fI : Addr} {body : List Stmt} {scope : Scope} {params : Arguments}
/-- what __init__ leaves of a fresh exception at x: with a field; without -/
structure InitEnd (h h' : Heap) (x C dx : Addr) (f : Str) (v : Value) : Prop where
  keep : ∀ b o, b ≠ x → h.get? b = some o → h'.get? b = some o
  obj : ∃ t1 : Addr, h'.get? x = some { cls := .ref C, dict := some dx, data := .fields #[.ref t1, .none, .none, .none, .bool false, .none] }
  dbig : h.objs.size ≤ dx
  dne : dx ≠ x
  ns : h'.Ns1 dx (fun y => if y = f then some v else none)
structure InitEnd0 (h h' : Heap) (x C : Addr) : Prop where
  keep : ∀ b o, b ≠ x → h.get? b = some o → h'.get? b = some o
  obj : ∃ t1 : Addr, h'.get? x = some (excO C t1)
theorem init1 {f msg : Str} {a1 a2 a3 a4 a5 a6 b1 b2 b3 b4 : Pos} (T : ErrC prog K C fI [supS msg a1 a2 a3 a4 a5 a6, fldS f b1 b2 b3 b4] scope params) (hline : (a3.endLine == a5.line) = true)
    (hbind : ∀ (nm qual : Str) (kV doc pm : Value) (an : Option Addr) (cdv ct : Value) (cc : Addr) (x y : Value), bindArgs (ksFn nm qual params [supS msg a1 a2 a3 a4 a5 a6, fldS f b1 b2 b3 b4] scope .none kV doc pm an cdv ct cc) ⟨[x, y], []⟩ = pure [((("self" : Str)), x), (f, y)])
    (hkf : scope.names.lookup f = some .local) (hne : (("self" : Str) == f) = false) (hdf : (f == ("__debug__" : Str)) = false) (noN : findIn K (.ref C) f = some none)
    {x t0 : Addr} {v : Value} (X : K.In s.heap) (hlim : s.heap.NoLimit) (hG : s.heap.Ns mainGlobals mg) (hB : ∃ mb, s.heap.Ns builtinsNs mb ∧ ∀ x : Str, x ≠ "__name__" → mb x = bootBuiltins x)
    (hx : s.heap.get? x = some (excO C t0)) (hnx : K.lookup x = none) (hroom : A.depth < recursionLimit)
    (hq : ∀ h' tk dx, InitEnd s.heap h' x C dx f v → R (.ok (.ret .none)) { s with heap := h', toks := tk }) :
    codeAny (model prog w) A (.call (.ref fI) ⟨[.ref x, v], []⟩) R s := by
  obtain ⟨oc, od, nm, qual, kV, doc, pm, an, cda, cc, ct, osl, ccl, cdd, vs, ccs, file, tf, cl, cld, csl, hf, hcd, hcode, hvs, hfile, hcell⟩ := T.fn
  obtain ⟨cnm, cq, N, bs, bm, sn, sub, ab, col, dd, k0, k1, k2, k3, k5, hC, hbm⟩ := T.cls
  have hcl : clsIn K C = some { name := cnm, bases := bs, mro := .ref C :: bm, ns := N, qualname := cq, hasDict := true, slotNames := sn, subclasses := sub, abstract := ab, collection := col, hasDel := false } := by unfold clsIn; rw [hC] <;> rfl
  refine ks_codeAny_call_defAt (fd := ksFn nm qual params [supS msg a1 a2 a3 a4 a5 a6, fldS f b1 b2 b3 b4] scope .none kV doc pm an (.ref cda) ct cc) (body := [supS msg a1 a2 a3 a4 a5 a6, fldS f b1 b2 b3 b4]) (binds := [("self", .ref x), (f, v)]) hroom (X _ _ hf) rfl hlim (codeRec_of X hcd) rfl (BindsTo.of_eq (hbind _ _ _ _ _ _ _ _ _ _ _)) T.hcell ?_ (fun h1 hns hk1 => ?_) T.hco T.hgen T.hk
  · intro y hy
    rcases List.mem_cons.mp hy with rfl | hy
    · exact T.hka
    rcases List.mem_cons.mp hy with rfl | hy
    · exact hkf
    · cases hy
  · have hx1 := hk1 _ _ hx
    have X1 : K.In h1 := X.keeps hk1
    obtain ⟨mb, hb1, hb2⟩ := hB
    have lkf : ([(("self" : Str), Value.ref x), (f, v)] : List (Str × Value)).reverse.lookup f = some v := by simp [List.lookup]
    have lks : ([(("self" : Str), Value.ref x), (f, v)] : List (Str × Value)).reverse.lookup ("self" : Str) = some (.ref x) := by
      show (match (("self" : Str) == f) with | true => some v | false => List.lookup ("self" : Str) [(("self" : Str), Value.ref x)]) = _
      rw [hne]
      simp [List.lookup]
    refine ks_wpAt_execs_cons (sup_stmt (s := { s with heap := h1, toks := s.toks + 2 }) T hf hcode hvs hfile hcell X1 (hG.keeps hk1) ⟨mb, hb1.keeps hk1, hb2⟩ hline hns lks hx1 hnx (fun h2 tk2 t1 k2 hx2 => ?_))
    have X2 : K.In h2 := fun a o e => k2 a o (fun z => by rw [z, hnx] at e; cases e) (X1 a o e)
    have hxL : s.heap.objs.size ≠ x := Nat.ne_of_gt (Heap.lt_size hx)
    obtain ⟨oL, esL, epL, hoL, rL⟩ := id hns
    have hns2 : h2.Ns s.heap.objs.size (fun y => ([(("self" : Str), Value.ref x), (f, v)] : List (Str × Value)).reverse.lookup y) := ⟨oL, esL, epL, k2 _ _ hxL hoL, rL⟩
    refine wpAt_of_wpAny ?_
    refine wpAny_execs_cons (plainObj_wpAny_Assign_Attribute ?_)
    refine wpAny_Name (wpAny_loadName_local T.hk hkf hns2 lkf ?_) hdf
    refine wpAny_Name (wpAny_loadName_local T.hk T.hka hns2 lks ?_) (by decide)
    refine set_plain X2 (ox := excO C t1) (od := none) ⟨hx2, rfl, rfl, trivial⟩ T.sa ?_
    refine exc_osa X2 hx2 hcl (show refsVE (.ref C :: bm) = true from hbm) rfl noN (fun h3 tk3 dx k3 dn dne hx3 hn3 => ?_)
    have z : s.heap.objs.size < h2.objs.size := hns2.lt
    exact wpAny_execs_nil (hq h3 tk3 dx ⟨fun b o hb e => k3 b o hb (k2 b o hb (hk1 b o e)), ⟨t1, hx3⟩, Nat.le_of_lt (Nat.lt_of_lt_of_le z dn), dne, hn3⟩)
theorem init0 {msg : Str} {a1 a2 a3 a4 a5 a6 : Pos} (T : ErrC prog K C fI [supS msg a1 a2 a3 a4 a5 a6] scope params) (hline : (a3.endLine == a5.line) = true)
    (hbind : ∀ (nm qual : Str) (kV doc pm : Value) (an : Option Addr) (cdv ct : Value) (cc : Addr) (x : Value), bindArgs (ksFn nm qual params [supS msg a1 a2 a3 a4 a5 a6] scope .none kV doc pm an cdv ct cc) ⟨[x], []⟩ = pure [((("self" : Str)), x)])
    {x t0 : Addr} (X : K.In s.heap) (hlim : s.heap.NoLimit) (hG : s.heap.Ns mainGlobals mg) (hB : ∃ mb, s.heap.Ns builtinsNs mb ∧ ∀ x : Str, x ≠ "__name__" → mb x = bootBuiltins x)
    (hx : s.heap.get? x = some (excO C t0)) (hnx : K.lookup x = none) (hroom : A.depth < recursionLimit)
    (hq : ∀ h' tk, InitEnd0 s.heap h' x C → R (.ok (.ret .none)) { s with heap := h', toks := tk }) :
    codeAny (model prog w) A (.call (.ref fI) ⟨[.ref x], []⟩) R s := by
  obtain ⟨oc, od, nm, qual, kV, doc, pm, an, cda, cc, ct, osl, ccl, cdd, vs, ccs, file, tf, cl, cld, csl, hf, hcd, hcode, hvs, hfile, hcell⟩ := T.fn
  refine ks_codeAny_call_defAt (fd := ksFn nm qual params [supS msg a1 a2 a3 a4 a5 a6] scope .none kV doc pm an (.ref cda) ct cc) (body := [supS msg a1 a2 a3 a4 a5 a6]) (binds := [("self", .ref x)]) hroom (X _ _ hf) rfl hlim (codeRec_of X hcd) rfl (BindsTo.of_eq (hbind _ _ _ _ _ _ _ _ _ _)) T.hcell ?_ (fun h1 hns hk1 => ?_) T.hco T.hgen T.hk
  · intro y hy
    rcases List.mem_cons.mp hy with rfl | hy
    · exact T.hka
    · cases hy
  · have hx1 := hk1 _ _ hx
    have X1 : K.In h1 := X.keeps hk1
    obtain ⟨mb, hb1, hb2⟩ := hB
    refine ks_wpAt_execs_cons (sup_stmt (s := { s with heap := h1, toks := s.toks + 1 }) T hf hcode hvs hfile hcell X1 (hG.keeps hk1) ⟨mb, hb1.keeps hk1, hb2⟩ hline hns (by simp [List.lookup]) hx1 hnx (fun h2 tk2 t1 k2 hx2 => ?_))
    refine wpAt_of_wpAny ?_
    exact wpAny_execs_nil (hq h2 tk2 ⟨fun b o hb e => k2 b o hb (hk1 b o e), ⟨t1, hx2⟩⟩)
/-- a made error with a field; without -/
structure OwnMade (h h' : Heap) (e C d : Addr) (f : Str) (v : Value) : Prop where
  keep : ∀ b o, h.get? b = some o → h'.get? b = some o
  new : h.objs.size ≤ e
  obj : ∃ oe vs, h'.get? e = some oe ∧ oe.cls = .ref C ∧ oe.dict = some d ∧ oe.data = .fields vs ∧ vs[1]? = some .none ∧ vs[2]? = some .none ∧ 4 < vs.size
  dbig : h.objs.size ≤ d
  dne : d ≠ e
  ns : h'.Ns1 d (fun y => if y = f then some v else none)
structure OwnMade0 (h h' : Heap) (e C : Addr) : Prop where
  keep : ∀ b o, h.get? b = some o → h'.get? b = some o
  new : h.objs.size ≤ e
  obj : ∃ oe vs, h'.get? e = some oe ∧ oe.cls = .ref C ∧ oe.dict = none ∧ oe.data = .fields vs ∧ vs[1]? = some .none ∧ vs[2]? = some .none
theorem made1 {f msg : Str} {a1 a2 a3 a4 a5 a6 b1 b2 b3 b4 : Pos} (T : ErrC prog K C fI [supS msg a1 a2 a3 a4 a5 a6, fldS f b1 b2 b3 b4] scope params) (hline : (a3.endLine == a5.line) = true)
    (hbind : ∀ (nm qual : Str) (kV doc pm : Value) (an : Option Addr) (cdv ct : Value) (cc : Addr) (x y : Value), bindArgs (ksFn nm qual params [supS msg a1 a2 a3 a4 a5 a6, fldS f b1 b2 b3 b4] scope .none kV doc pm an cdv ct cc) ⟨[x, y], []⟩ = pure [((("self" : Str)), x), (f, y)])
    (hkf : scope.names.lookup f = some .local) (hne : (("self" : Str) == f) = false) (hdf : (f == ("__debug__" : Str)) = false) (noN : findIn K (.ref C) f = some none)
    {v : Value} (X : K.In s.heap) (hlim : s.heap.NoLimit) (hG : s.heap.Ns mainGlobals mg) (hB : ∃ mb, s.heap.Ns builtinsNs mb ∧ ∀ x : Str, x ≠ "__name__" → mb x = bootBuiltins x) (hroom : A.depth + 1 < recursionLimit)
    (hq : ∀ h' tk e d, OwnMade s.heap h' e C d f v → R (.ok (.ret (.ref e))) { s with heap := h', toks := tk }) :
    codeAny (model prog w) A (.call (.ref C) ⟨[v], []⟩) R s := by
  obtain ⟨nm, q, N, bs, bm, sn, sub, ab, col, dd, k0, k1, k2, k3, k5, hC, hbm⟩ := T.cls
  obtain ⟨mb, hb1, hb2⟩ := hB
  obtain ⟨hp, g, dr, tk, os⟩ := s
  have k : ∀ b o, hp.get? b = some o → ((hp.push (kdv_tup [v])).push (excO C hp.objs.size)).get? b = some o := fun b o e => Heap.get?_push_of_some _ (Heap.get?_push_of_some _ e)
  have hget : ((hp.push (kdv_tup [v])).push (excO C hp.objs.size)).get? (hp.objs.size + 1) = some (excO C hp.objs.size) := by heap_get
  have hnx : K.lookup (hp.objs.size + 1) = none := by
    cases e : K.lookup (hp.objs.size + 1) with
    | none => rfl
    | some o =>
      have z : hp.get? (hp.objs.size + 1) = some o := X _ _ e
      exact absurd (Nat.lt_of_succ_lt (Heap.lt_size z)) (Nat.lt_irrefl _)
  refine call_own F.excBase_ValueError (fun X => refsVE_contains X bm hbm) (X _ _ hC) (looks_findIn X T.iC) (fun self => bind_fn X self T.tC) (one_size v) ?_
  refine init1 (s := ⟨(hp.push (kdv_tup [v])).push (excO C hp.objs.size), g, dr, tk, os⟩) T hline hbind hkf hne hdf noN (X.keeps k) (hlim.keeps k) (hG.keeps k) ⟨mb, hb1.keeps k, hb2⟩ hget hnx ?_ fun h' tk' dx ⟨k', ⟨t1, hx⟩, dn, dne, hns⟩ => ?_
  · show A.depth + 1 < recursionLimit
    exact hroom
  · have old : ∀ b o, hp.get? b = some o → h'.get? b = some o := fun b o e => k' b o (Nat.ne_of_lt (Nat.lt_succ_of_lt (Heap.lt_size e))) (k b o e)
    have z : hp.objs.size + 1 + 1 ≤ dx := by
      first
        | (simpa only [Heap.size_push] using dn)
        | exact dn
        | (have q := dn; rw [Heap.size_push, Heap.size_push] at q; exact q)
    exact ⟨rfl, hq h' tk' (hp.objs.size + 1) dx ⟨old, Nat.le_succ _, ⟨_, _, hx, rfl, rfl, rfl, rfl, rfl, by show (4 : Nat) < 6; decide⟩, Nat.le_trans (Nat.le_trans (Nat.le_succ _) (Nat.le_succ _)) z, dne, hns⟩⟩
theorem made0 {msg : Str} {a1 a2 a3 a4 a5 a6 : Pos} (T : ErrC prog K C fI [supS msg a1 a2 a3 a4 a5 a6] scope params) (hline : (a3.endLine == a5.line) = true)
    (hbind : ∀ (nm qual : Str) (kV doc pm : Value) (an : Option Addr) (cdv ct : Value) (cc : Addr) (x : Value), bindArgs (ksFn nm qual params [supS msg a1 a2 a3 a4 a5 a6] scope .none kV doc pm an cdv ct cc) ⟨[x], []⟩ = pure [((("self" : Str)), x)])
    (X : K.In s.heap) (hlim : s.heap.NoLimit) (hG : s.heap.Ns mainGlobals mg) (hB : ∃ mb, s.heap.Ns builtinsNs mb ∧ ∀ x : Str, x ≠ "__name__" → mb x = bootBuiltins x) (hroom : A.depth + 1 < recursionLimit)
    (hq : ∀ h' tk e, OwnMade0 s.heap h' e C → R (.ok (.ret (.ref e))) { s with heap := h', toks := tk }) :
    codeAny (model prog w) A (.call (.ref C) ⟨[], []⟩) R s := by
  obtain ⟨nm, q, N, bs, bm, sn, sub, ab, col, dd, k0, k1, k2, k3, k5, hC, hbm⟩ := T.cls
  obtain ⟨mb, hb1, hb2⟩ := hB
  obtain ⟨hp, g, dr, tk, os⟩ := s
  have k : ∀ b o, hp.get? b = some o → ((hp.push (kdv_tup [])).push (excO C hp.objs.size)).get? b = some o := fun b o e => Heap.get?_push_of_some _ (Heap.get?_push_of_some _ e)
  have hget : ((hp.push (kdv_tup [])).push (excO C hp.objs.size)).get? (hp.objs.size + 1) = some (excO C hp.objs.size) := by heap_get
  have hnx : K.lookup (hp.objs.size + 1) = none := by
    cases e : K.lookup (hp.objs.size + 1) with
    | none => rfl
    | some o =>
      have z : hp.get? (hp.objs.size + 1) = some o := X _ _ e
      exact absurd (Nat.lt_of_succ_lt (Heap.lt_size z)) (Nat.lt_irrefl _)
  refine call_own F.excBase_ValueError (fun X => refsVE_contains X bm hbm) (X _ _ hC) (looks_findIn X T.iC) (fun self => bind_fn X self T.tC) nil_size ?_
  refine init0 (s := ⟨(hp.push (kdv_tup [])).push (excO C hp.objs.size), g, dr, tk, os⟩) T hline hbind (X.keeps k) (hlim.keeps k) (hG.keeps k) ⟨mb, hb1.keeps k, hb2⟩ hget hnx ?_ fun h' tk' ⟨k', ⟨t1, hx⟩⟩ => ?_
  · show A.depth + 1 < recursionLimit
    exact hroom
  · have old : ∀ b o, hp.get? b = some o → h'.get? b = some o := fun b o e => k' b o (Nat.ne_of_lt (Nat.lt_succ_of_lt (Heap.lt_size e))) (k b o e)
    exact ⟨rfl, hq h' tk' (hp.objs.size + 1) ⟨old, Nat.le_succ _, ⟨_, _, hx, rfl, rfl, rfl, rfl, rfl⟩⟩⟩
end
end ErrX
end PySem
namespace L2
open PySem PySem.Spec PyProof.Rows PySem.W
/-- an error class with one field, as the rules use it -/
structure Err1 (prog : Program) (w : World) (K : Frag) (mg : Str → Option Value) (nm f : Str) (C : Addr) : Prop where
  gC : mg nm = some (.ref C)
  kC : keepIn K (.ref C) = true
  exC : subIn K (.ref C) (.type "BaseException") = some true
  tyC : typeIn K (.ref C) = some (.type "type")
  hdC : hasDictIn K C = true
  ga : findIn K (.ref C) "__getattribute__" = some (some (.builtin "BaseException.__getattribute__"))
  gg : findIn K (.ref C) "__getattr__" = some none
  noN : findIn K (.ref C) f = some none
  made : ∀ {A : Around} {R : Result → Shared → Prop} {s : Shared} {v : Value}, K.In s.heap → s.heap.NoLimit → s.heap.Ns mainGlobals mg → (∃ mb, s.heap.Ns builtinsNs mb ∧ ∀ x : Str, x ≠ "__name__" → mb x = bootBuiltins x) → A.depth + 1 < recursionLimit →
    (∀ h' tk e d, PySem.ErrX.OwnMade s.heap h' e C d f v → R (.ok (.ret (.ref e))) { s with heap := h', toks := tk }) → codeAny (model prog w) A (.call (.ref C) ⟨[v], []⟩) R s
structure Err0 (prog : Program) (w : World) (K : Frag) (mg : Str → Option Value) (nm : Str) (C : Addr) : Prop where
  gC : mg nm = some (.ref C)
  kC : keepIn K (.ref C) = true
  exC : subIn K (.ref C) (.type "BaseException") = some true
  tyC : typeIn K (.ref C) = some (.type "type")
  made : ∀ {A : Around} {R : Result → Shared → Prop} {s : Shared}, K.In s.heap → s.heap.NoLimit → s.heap.Ns mainGlobals mg → (∃ mb, s.heap.Ns builtinsNs mb ∧ ∀ x : Str, x ≠ "__name__" → mb x = bootBuiltins x) → A.depth + 1 < recursionLimit →
    (∀ h' tk e, PySem.ErrX.OwnMade0 s.heap h' e C → R (.ok (.ret (.ref e))) { s with heap := h', toks := tk }) → codeAny (model prog w) A (.call (.ref C) ⟨[], []⟩) R s
theorem relO_one {v : V} {v' : Value} {n : Str} (r : RelV v v') (f : Str) : RelO (List.lookup f [(n, v)]) (if f = n then some v' else none) := by
  by_cases hw : f = n
  · subst hw
    rw [if_pos rfl]
    have q : List.lookup f [(f, v)] = some v := by simp [List.lookup]
    rw [q]
    exact r
  · rw [if_neg hw]
    have qw : (f == n) = false := by simpa using hw
    have q2 : List.lookup f [(n, v)] = none := by simp [List.lookup, qw]
    rw [q2]
    trivial
section
variable {X : Cx} {C : Addr} {nm f : Str}
theorem Inv.blt {pins : List (Addr × Obj)} {σ : St} {H : Hp} {s : Shared} (I : Inv X pins σ H s) : ∃ mb, s.heap.Ns builtinsNs mb ∧ ∀ x : Str, x ≠ "__name__" → mb x = bootBuiltins x := by
  obtain ⟨mb, h1, h2⟩ := I.mod.blt
  exact ⟨mb, h1.keeps I.bk, h2⟩
/-- nm(e) -/
def tMkE (C : Addr) (f : Str) (ta : TA) : St → Hp → XK → Prop := fun σ H Q => ta σ H fun vs H1 => ∃ v, vs = [v] ∧ ∀ d, H1 d = none → Q (.ref C) (some d) (upd H1 d (.xd [(f, v)]))
theorem pmk_err5 {a : Expr} {ta : TA} {p pos : Pos} (T : Err1 X.prog X.w X.K X.mg nm f C) (hdp : X.A.depth + 1 < recursionLimit) (ha : PA X [a] ta) (hg : Gl X nm := by rfl) (hdb : (nm == ("__debug__" : Str)) = false := by decide)
    (he : starEach (a :: []) X.env = (false, eval a X.env) :: starEach [] X.env := by rfl) (hpl : (backTo pos (starEach [] X.env)).any (·.1) = false := by rfl) :
    L2H.PMk5 X (.Call (.Name nm p) [a] [] pos) (tMkE C f ta) := by
  intro pins s σ H Q I h
  refine wpAny_Call_Name_kw (ld_glob I hg T.gC ?_ hdb)
  refine PySem.W.callWith_K (h₀ := X.base) I.ok.mod.kin T.kC (thn (ha.run pos pins s σ H _ I h) fun us s1 hh => ?_) he hpl
  obtain ⟨vs, H1, I1, r1, v, ev, q1⟩ := hh
  subst ev
  refine ⟨I1.kIn, ?_⟩
  cases r1 with
  | cons rv rn =>
    rename_i v' us'
    cases rn
    show wpAny _ _ (call (.ref C) [v']) _ _ _
    have hlim := I1.nolimit
    have hG := I1.mod.glob.keeps I1.bk
    have hB := I1.blt
    obtain ⟨hp, g, dr, tk, os⟩ := s1
    refine wpAny_call (T.made I1.kIn hlim hG hB hdp fun h' tk' e d M => ?_)
    obtain ⟨oe, fv, hoe, hc, hd, hdat, h1, h2, h4⟩ := M.obj
    refine And.intro ?_ (fun a0 o0 vs0 ea hg hdd => by
      cases ea
      have hg : h'.get? e = some o0 := hg
      rw [hoe] at hg
      cases hg
      rw [hdat] at hdd
      cases hdd
      exact h4)
    show L2N.MkP X pins σ Q (.ref e) ⟨h', g, dr, tk', os⟩
    have hns := M.ns
    obtain ⟨G', g1, g2⟩ := restrict h' fun b => decide (b ≠ e)
    have gk : ∀ b, b ≠ e → G'.get? b = h'.get? b := fun b hb => g1 b (decide_eq_true hb)
    have ge : G'.get? e = none := g2 e (by simp)
    have old : ∀ b o, hp.get? b = some o → G'.get? b = some o := fun b o q => (gk b (Nat.ne_of_lt (Nat.lt_of_lt_of_le (Heap.lt_size q) M.new))).trans (M.keep b o q)
    have ob : ObjOk X.prog X.w (upd H1 d (.xd [(f, v)])) G' d (.xd [(f, v)]) :=
      ⟨_, hns.at (fun o q => (gk d M.dne).trans q), fun g => relO_one rv g⟩
    have J : Inv X pins σ (upd H1 d (.xd [(f, v)])) ⟨G', g, dr, tk', os⟩ := I1.laid (t' := tk') old M.dbig ob
    refine ⟨e, oe, fv, ⟨G', g, dr, tk', os⟩, _, .ref C, some d, rfl, J, fun b o q => ?_, ge, hoe, ⟨hc, hd, fun vs e => by rw [hdat] at e; cases e; exact h2⟩, hdat, h1, ?_, rfl, I1.bare, raises_own T.exC T.tyC, q1 d (I1.hok.fresh M.dbig)⟩
    · by_cases hb : b = e
      · have q' : G'.get? b = some o := q
        rw [hb, ge] at q'; cases q'
      · exact (gk b hb).symm.trans q
    · rw [upd_ne (Ne.symm M.dne)]
      exact I1.hok.fresh M.new
theorem pmk_err {a : Expr} {ta : TA} {p pos : Pos} {k : Nat} (T : Err1 X.prog X.w X.K X.mg nm f C) (hr : Room k X.A) (ha : PA X [a] ta) (hg : Gl X nm := by rfl) (hdb : (nm == ("__debug__" : Str)) = false := by decide)
    (he : starEach (a :: []) X.env = (false, eval a X.env) :: starEach [] X.env := by rfl) (hpl : (backTo pos (starEach [] X.env)).any (·.1) = false := by rfl) :
    L2N.PMk X (.Call (.Name nm p) [a] [] pos) (tMkE C f ta) := L2H.PMk5.pmk (pmk_err5 T (by have := hr.dp; omega) ha hg hdb he hpl)
/-- nm() -/
def tMkE0 (C : Addr) : St → Hp → XK → Prop := fun _ H Q => Q (.ref C) none H
theorem pmk_err0 {p pos : Pos} {k : Nat} (T : Err0 X.prog X.w X.K X.mg nm C) (hr : Room k X.A) (hg : Gl X nm := by rfl) (hdb : (nm == ("__debug__" : Str)) = false := by decide) :
    L2N.PMk X (.Call (.Name nm p) [] [] pos) (tMkE0 C) := by
  intro pins s σ H Q I h
  refine wpAny_Call_Name_kw (ld_glob I hg T.gC ?_ hdb)
  refine PySem.W.callWith_K0 I.kIn T.kC ?_
  show wpAny _ _ (call (.ref C) []) _ _ _
  have hlim := I.nolimit
  have hG := I.mod.glob.keeps I.bk
  have hB := I.blt
  obtain ⟨hp, g, dr, tk, os⟩ := s
  refine wpAny_call (T.made I.kIn hlim hG hB (by have := hr.dp; omega) fun h' tk' e M => ?_)
  show L2N.MkP X pins σ Q (.ref e) ⟨h', g, dr, tk', os⟩
  obtain ⟨oe, fv, hoe, hc, hd, hdat, h1, h2⟩ := M.obj
  obtain ⟨G', g1, g2⟩ := restrict h' fun b => decide (b ≠ e)
  have gk : ∀ b, b ≠ e → G'.get? b = h'.get? b := fun b hb => g1 b (decide_eq_true hb)
  have ge : G'.get? e = none := g2 e (by simp)
  have old : ∀ b o, hp.get? b = some o → G'.get? b = some o := fun b o q => (gk b (Nat.ne_of_lt (Nat.lt_of_lt_of_le (Heap.lt_size q) M.new))).trans (M.keep b o q)
  have J : Inv X pins σ H ⟨G', g, dr, tk', os⟩ := I.kept (t' := tk') old
  refine ⟨e, oe, fv, ⟨G', g, dr, tk', os⟩, _, .ref C, none, rfl, J, fun b o q => ?_, ge, hoe, ⟨hc, hd, fun vs e => by rw [hdat] at e; cases e; exact h2⟩, hdat, h1, ?_, rfl, I.bare, raises_own T.exC T.tyC, h⟩
  · by_cases hb : b = e
    · have q' : G'.get? b = some o := q
      rw [hb, ge] at q'; cases q'
    · exact (gk b hb).symm.trans q
  · exact I.hok.fresh M.new
/-- e.f, e the exception that the suite holds (at a; its class cls, its dict d) -/
def tErrF (C : Addr) (f : Str) (a : Addr) (cls : Value) (d : Option Addr) (te : TE) : TE := fun σ H Q => te σ H fun x H1 => x = .ref a ∧ cls = .ref C ∧ ∃ (dd : Addr) (v : V), d = some dd ∧ H1 dd = some (.xd [(f, v)]) ∧ Q v H1
theorem pe_errF {a : Addr} {oe : Obj} {cls : Value} {d : Option Addr} {pn : List (Addr × Obj)} {e : Expr} {te : TE} {pos : Pos} (T : Err1 X.prog X.w X.K X.mg nm f C) (hz : Zc cls d oe) (hf : ∃ vs, oe.data = .fields vs) (he : PE (X.suite a ((a, oe) :: pn)) e te)
    (hb : attributeBase e f X.env (eval e X.env) = eval e X.env := by rfl) :
    PE (X.suite a ((a, oe) :: pn)) (.Attribute e f pos) (tErrF C f a cls d te) := by
  refine ⟨fun pins s σ H Q I h => ?_⟩
  refine attr_of hb (thn (he.run pins s σ H _ I h) fun u s1 hh => ?_)
  obtain ⟨x, H1, I1, rx, ex, ec, dd, v, ed, ea, q⟩ := hh
  subst ex
  obtain rfl : u = Value.ref a := rx
  subst ec
  subst ed
  obtain ⟨ha, _⟩ := I1.pin (a, oe) (List.mem_append_left _ List.mem_cons_self)
  obtain ⟨vs, hd⟩ := hf
  have hx : ObjOk X.prog X.w H1 s1.heap dd (.xd [(f, v)]) := I1.hok dd _ ea
  obtain ⟨mA, hns, hr⟩ := hx
  obtain ⟨od, ho, hl⟩ := lookIn_ns hns
  have l : List.lookup f [(f, v)] = some v := by simp [List.lookup]
  obtain ⟨u, hu, ru⟩ := RelO.some_of (v := v) (o := mA f) (by rw [← l]; exact hr f)
  have J : PySem.W.InstAt s1.heap a oe C (some od) := ⟨ha, hz.1, by unfold PySem.W.notCls; rw [hd] <;> rfl, by rw [hz.2]; exact ho⟩
  exact HandSPX.exc_get I1.kIn J T.ga T.gg T.exC (PySem.W.findObj_own T.hdC T.noN rfl (by rw [hl, hu])) (handed_of ru) ⟨v, H1, I1.tok _, ru, q⟩
end
end L2
namespace L2
open PySem PySem.Spec PyProof.Rows
/-- isinstance(e, c), e the exception that the suite holds -/
def rIsEE (K : PySem.W.Frag) (a : Addr) (cls : Value) (d : Option Addr) : List V → Hp → VK → Prop := fun xs H Q => ∃ (D : Addr) (c : V) (cv : Value) (b : Bool), cls = .ref D ∧ ExcC K D ∧ (d = none ∨ ∃ dd fs, d = some dd ∧ H dd = some (.xd fs)) ∧ xs = [.ref a, c] ∧ (∀ u, RelV c u → u = cv) ∧ PySem.W.kitOne K (.ref D) cv = some b ∧ Q (.bl b) H
theorem call_isEE {X : Cx} {a : Addr} {cls : Value} {d : Option Addr} {oe : Obj} {pn : List (Addr × Obj)} (hz : Zc cls d oe) (hf : ∃ vs, oe.data = .fields vs) : CallR (X.suite a ((a, oe) :: pn)) (.builtin "isinstance") (rIsEE X.K a cls d) := by
  intro pins s σ H xs us Q I r h
  obtain ⟨D, c, cv, b, rfl, C, hd, rfl, hcv, e, q⟩ := h
  cases r with
  | cons rx rr =>
    cases rr with
    | cons rt rr =>
      cases rr
      cases rx
      have ec := hcv _ rt
      subst ec
      obtain ⟨hget, _⟩ := I.pin (a, oe) (List.mem_append.mpr (.inl List.mem_cons_self))
      obtain ⟨vs, hv⟩ := hf
      have hcl : (PySem.W.clsIn X.K D).isSome = true := by
        obtain ⟨cd, hc, _⟩ := PySem.W.any_some C.hd
        rw [hc]; rfl
      have J : ∃ od, PySem.W.InstAt s.heap a oe D od := by
        obtain ⟨oc, od, oda, osl⟩ := oe
        obtain ⟨h1, h2⟩ := hz
        dsimp only at h1 h2 hv
        subst h1 h2 hv
        rcases hd with rfl | ⟨dd, fs, rfl, hx⟩
        · exact ⟨none, hget, rfl, rfl, trivial⟩
        · have hx2 : ObjOk X.prog X.w H s.heap dd (.xd fs) := I.hok dd _ hx
          obtain ⟨mA, hns, hr⟩ := hx2
          obtain ⟨od, ho, hl⟩ := lookIn_ns hns
          exact ⟨some od, hget, rfl, rfl, ho⟩
      obtain ⟨od, J⟩ := J
      exact PySem.W.kia_one (PySem.W.kitx_exc hcl C.hg C.hk C.hs C.ha C.hn C.ht C.hm) I.kIn J e (fun z => nomatch z) fun tk => ⟨.bl b, H, I.kept (t' := tk) fun _ _ z => z, rfl, q⟩
/-- raise nm(e), raise nm() -/
def tRaiseE (C : Addr) (f : Str) (W : WX) (ta : TA) : TS := fun _ σ H => tMkE C f ta σ H fun cls d H' => W cls d σ H'
def tRaiseE0 (C : Addr) (W : WX) : TS := fun _ σ H => W (.ref C) none σ H
section
variable {X : Cx} {C : Addr} {nm f : Str}
theorem ps_raiseE {a : Expr} {ta : TA} {W : WX} {p pos pos2 : Pos} {k : Nat} (hc : X.calm = true) (T : Err1 X.prog X.w X.K X.mg nm f C) (hr : Room k X.A) (tk : L2N.Takes X W) (ha : PA X [a] ta) (hg : Gl X nm := by rfl) (hdb : (nm == ("__debug__" : Str)) = false := by decide)
    (he : starEach (a :: []) X.env = (false, eval a X.env) :: starEach [] X.env := by rfl) (hpl : (backTo pos (starEach [] X.env)).any (·.1) = false := by rfl) :
    PS X (.Raise (some (.Call (.Name nm p) [a] [] pos)) none pos2) (tRaiseE C f W ta) := L2N.ps_raise hc tk (pmk_err T hr ha hg hdb he hpl)
theorem ps_raiseE0 {W : WX} {p pos pos2 : Pos} {k : Nat} (hc : X.calm = true) (T : Err0 X.prog X.w X.K X.mg nm C) (hr : Room k X.A) (tk : L2N.Takes X W) (hg : Gl X nm := by rfl) (hdb : (nm == ("__debug__" : Str)) = false := by decide) :
    PS X (.Raise (some (.Call (.Name nm p) [] [] pos)) none pos2) (tRaiseE0 C W) := L2N.ps_raise hc tk (pmk_err0 T hr hg hdb)
theorem passN {X : Cx} : Passes (L2N.CX X.prog X.w) X E0 := fun _ _ _ _ _ _ _ h => by
  obtain ⟨_, _, _, _, _, _, _, _, _, _, _, _, z⟩ := h
  exact z.elim
theorem takesN {X : Cx} : L2N.Takes X (fun _ _ _ _ => False) := fun _ _ x => by
  obtain ⟨_, _, _, _, _, _, _, _, _, _, _, _, _, _, _, _, z⟩ := x
  exact z.elim
/-- the suite is hot -/
theorem hotc {X : Cx} {a : Addr} {oe : Obj} {cls : Value} {d : Option Addr} {pn : List (Addr × Obj)} (hz : L2N.Zn cls d oe) (hf : ∃ vs, oe.data = .fields vs) : L2H.HotC (X.suite a ((a, oe) :: pn)) := by
  obtain ⟨vs, h⟩ := hf
  exact ⟨(a, oe), ⟨rfl, vs, h, hz.2.2 vs h⟩, List.mem_cons_self⟩
end
/-- as FunD.ok, within an except suite -/
theorem FunD.okH {P : Program} {w : World} {K : PySem.W.Frag} {mg : Str → Option Value} {base : Heap} {x qual : Str} {params : Arguments} {body : List Stmt} {scope : Scope} {dvs : List V} {kws : List (Str × V)} {f : Addr} {fd : FuncData} {CX : CXT} {N ps : List Str} {k : Nat} {sp : Sp} (F : FunD K x qual params body scope dvs kws f fd) (S : FnScope N ps scope) (len : ∀ vs H Q E, sp vs H Q E → vs.length = ps.length)
    (hbody : ∀ (cdv : Value) (A : Around) (outer : List Env) (s : Shared) (H : Hp) (vs : List V) (Q : VK) (E : XK) (p : Addr × Obj), L2H.Hot1 A p → L2H.RoomH k (A.deeper (envOfC qual scope s.heap.objs.size f cdv)) → sp vs H Q E →
      ∃ t, PSs (L2H.cxH CX P w K mg base N qual scope f cdv A outer s H E p) body t ∧ t { nx := fun _ H' => Q .non H', rt := Q } (start N vs) H) : L2H.FnH P w K mg base CX (k + 1) f fd ps sp := by
  obtain ⟨oc, od, dV, kV, doc, pm, an, cdv, ct, osl, rfl, lk, hcd, _, _⟩ := F.ex
  exact L2H.fn_ofH lk hcd S len fun A outer s H vs Q E p hot hr hsp => hbody cdv A outer s H vs Q E p hot hr hsp
end L2
theorem L2H.RoomH.units {k : Nat} {A : PySem.Around} (r : L2H.RoomH k A) : A.units + 64 < PySem.cLine := by have := r.un; omega
/-! the head's facts: defs, error classes, Bools -/
namespace Hk
open PySem PySem.W PySem.Spec PyProof.Rows L2 He
abbrev FnZ : Type := Option (PySem.Str × PySem.Str × Arguments × FuncBody × Scope)
def fnZ (K : Frag) (a : Addr) : FnZ := match K.lookup a with
  | some ⟨_, _, .func fd, _⟩ => some (fd.name, fd.qualname, fd.params, fd.body, fd.scope)
  | _ => none
structure It where
  at_ : Frag → Addr
  val : FnZ
  ok : Frag → Bool
structure DefX where
  at_ : Frag → Addr
  name : PySem.Str
  qual : PySem.Str
  params : Arguments
  body : List Stmt
  scope : Scope
  dfl : List Dv := []
  kwd : List (PySem.Str × Dv) := []
def DefX.val (d : DefX) : FnZ := some (d.name, d.qual, d.params, .stmts d.body, d.scope)
def DefX.dvs (K : Frag) (d : DefX) : List V := d.dfl.map (Dv.v K)
def DefX.kws (K : Frag) (d : DefX) : List (PySem.Str × V) := d.kwd.map fun q => (q.1, q.2.v K)
def defOk (K : Frag) (a : Addr) (qual : PySem.Str) (dvs : List V) (kws : List (PySem.Str × V)) : Bool := keepIn K (.ref a) && (match K.lookup a with
  | some ⟨_, _, .func fd, _⟩ => codeIn K fd.code qual && (decide (fd.globals = mainGlobals) && (decide (fd.builtins = builtinsNs) && (fd.closure.isEmpty && (dflB K fd.defaults dvs && kwdB K fd.kwdefaults kws))))
  | _ => false)
def DefX.it (d : DefX) : It := ⟨d.at_, d.val, fun K => defOk K (d.at_ K) d.qual (d.dvs K) (d.kws K)⟩
theorem DefX.funD {K : Frag} {d : DefX} (e : fnZ K (d.at_ K) = d.val) (c : d.it.ok K = true) : ∃ fd, FunD K d.name d.qual d.params d.body d.scope (d.dvs K) (d.kws K) (d.at_ K) fd := by
  obtain ⟨kp, c2⟩ := ba c
  unfold fnZ at e
  cases q : K.lookup (d.at_ K) with
  | none =>
    rw [q] at c2
    cases c2
  | some o =>
    obtain ⟨oc, od, dt, osl⟩ := o
    rw [q] at c2 e
    cases dt with
    | func fd =>
      obtain ⟨n1, n2, n3, n4, n5, n6, n7, n8, n9, n10, n11, n12, n13, n14, n15⟩ := fd
      have e2 : (some (n1, n2, n3, n4, n5) : FnZ) = some (d.name, d.qual, d.params, .stmts d.body, d.scope) := e
      simp only [Option.some.injEq, Prod.mk.injEq] at e2
      obtain ⟨h1, h2, h3, h4, h5⟩ := e2
      have c3 : (codeIn K n13 d.qual && (decide (n6 = mainGlobals) && (decide (n15 = builtinsNs) && (n7.isEmpty && (dflB K n8 (d.dvs K) && kwdB K n9 (d.kws K)))))) = true := c2
      obtain ⟨k1, k2⟩ := ba c3
      obtain ⟨k3, k4⟩ := ba k2
      obtain ⟨k5, k6⟩ := ba k4
      obtain ⟨k7, k8⟩ := ba k6
      obtain ⟨k9, k10⟩ := ba k8
      have h6 := of_decide_eq_true k3
      have h7 := of_decide_eq_true k5
      have h8 : n7 = [] := List.isEmpty_iff.mp k7
      subst h1 h2 h3 h4 h5 h6 h7 h8
      exact ⟨_, ⟨oc, od, n8, n9, n10, n11, n12, n13, n14, osl, rfl, q, k1, dflB_ok k9, kwdB_ok k10⟩, kp⟩
    | _ => cases c2
/-! ### error classes -/
def clsB (K : Frag) (C : Addr) : Bool := match K.lookup C with
  | some ⟨.type ty, _, .cls cd, sl⟩ => (match cd.mro, sl.toList with
    | .ref C' :: bm, [_, _, _, _, some (.builtin n), _] => decide (ty = "type") && (decide (C' = C) && (decide (n = "ValueError.__new__") && (!cd.hasDel && (cd.hasDict && HandSPX.refsVE bm))))
    | _, _ => false)
  | _ => false
theorem clsB_ok {K : Frag} {C : Addr} (q : clsB K C = true) : ∃ nm q N bs bm sn sub ab col dd k0 k1 k2 k3 k5, K.lookup C = some (excClassObj nm q C N bs bm true sn sub ab col dd k0 k1 k2 k3 k5 "ValueError.__new__") ∧ HandSPX.refsVE bm = true := by
  unfold clsB at q
  split at q
  · rename_i ty dd cd sl ho
    split at q
    · rename_i C' bm k0 k1 k2 k3 n k5 hm hs
      obtain ⟨q1, q⟩ := ba q
      obtain ⟨q2, q⟩ := ba q
      obtain ⟨q3, q⟩ := ba q
      obtain ⟨q4, q⟩ := ba q
      obtain ⟨q5, q6⟩ := ba q
      have e1 := of_decide_eq_true q1
      have e2 := of_decide_eq_true q2
      have e3 := of_decide_eq_true q3
      obtain ⟨nm, bs, mro, ns, qn, hd, sn, sub, ab, col, del⟩ := cd
      dsimp only at hm q4 q5
      have e4 : del = false := by simpa using q4
      have hsl : sl = #[k0, k1, k2, k3, some (.builtin n), k5] := by
        obtain ⟨l⟩ := sl
        simp only at hs
        rw [hs]
      subst e1 e2 e3 hm e4 q5 hsl
      exact ⟨nm, qn, ns, bs, bm, sn, sub, ab, col, dd, k0, k1, k2, k3, k5, ho, q6⟩
    · cases q
  · cases q
def initB (K : Frag) (C fI : Addr) (file : PySem.Str) : Bool := match K.lookup fI with
  | some ⟨_, _, .func fd, _⟩ => (match fd.code, fd.closure with
    | .ref cda, [(x, cc)] => decide (x = "__class__" ∧ fd.defaults = .none) && (codeIn K (.ref cda) fd.qualname && (decide (fd.globals = mainGlobals) && (decide (fd.builtins = builtinsNs) && ((match K.lookup cda with
        | some ⟨_, _, .fields vs, _⟩ => (match (vs[2]? : Option Value) with
          | some (Value.str fl _) => decide (fl = file)
          | _ => false)
        | _ => false) && (match K.lookup cc with
        | some ⟨_, _, .cell (some (.ref D)), _⟩ => decide (D = C)
        | _ => false)))))
    | _, _ => false)
  | _ => false
theorem initB_ok {K : Frag} {C fI : Addr} {file : PySem.Str} {prog : Program} {nm0 qual0 : PySem.Str} {params : Arguments} {body : List Stmt} {scope : Scope} (h : initB K C fI file = true) (e : fnZ K fI = some (nm0, qual0, params, .stmts body, scope)) (hfile : (prog.main.file : PySem.Str) = file) :
  ∃ (oc : Value) (od : Option Addr) (nm qual : PySem.Str) (kV doc pm : Value) (an : Option Addr) (cda cc : Addr) (ct : Value) (osl : Array (Option Value)) (ccl : Value) (cdd : Option Addr) (vs : Array Value) (ccs : Array (Option Value)) (file : PySem.Str) (tf : Tok) (cl : Value) (cld : Option Addr) (csl : Array (Option Value)),
    K.lookup fI = some ⟨oc, od, .func (ksFn nm qual params body scope .none kV doc pm an (.ref cda) ct cc), osl⟩ ∧ codeIn K (.ref cda) qual = true ∧
    K.lookup cda = some ⟨ccl, cdd, .fields vs, ccs⟩ ∧ vs[2]? = some (.str file tf) ∧ ((prog.main.file : PySem.Str) == file) = true ∧ K.lookup cc = some ⟨cl, cld, .cell (some (.ref C)), csl⟩ := by
  unfold initB at h
  unfold fnZ at e
  cases q : K.lookup fI with
  | none =>
    rw [q] at h
    cases h
  | some o =>
    obtain ⟨oc, od, dt, osl⟩ := o
    rw [q] at h e
    cases dt with
    | func fd =>
      obtain ⟨n1, n2, n3, n4, n5, n6, n7, n8, n9, n10, n11, n12, n13, n14, n15⟩ := fd
      have e2 : (some (n1, n2, n3, n4, n5) : FnZ) = some (nm0, qual0, params, .stmts body, scope) := e
      simp only [Option.some.injEq, Prod.mk.injEq] at e2
      obtain ⟨h1, h2, h3, h4, h5⟩ := e2
      dsimp only at h
      split at h
      · rename_i cda x cc
        obtain ⟨g1, h⟩ := ba h
        obtain ⟨g2, h⟩ := ba h
        obtain ⟨g3, h⟩ := ba h
        obtain ⟨g4, h⟩ := ba h
        obtain ⟨g5, g6⟩ := ba h
        obtain ⟨f1, f0⟩ := of_decide_eq_true g1
        have f3 := of_decide_eq_true g3
        have f4 := of_decide_eq_true g4
        split at g5
        · rename_i ccl cdd vs ccs hcode
          split at g5
          · rename_i fl tf hvs
            have f5 := of_decide_eq_true g5
            split at g6
            · rename_i cl cld D csl hcell
              have f6 := of_decide_eq_true g6
              subst h1 h2 h3 h4 h5 f1 f0 f3 f4 f5 f6
              exact ⟨oc, od, _, _, n9, n10, n11, n12, cda, cc, n14, osl, ccl, cdd, vs, ccs, _, tf, cl, cld, csl, rfl, g2, hcode, hvs, by rw [hfile]; exact beq_self_eq_true _, hcell⟩
            · cases g6
          · cases g5
        · cases g5
      · cases h
    | _ => cases h
def errB (K : Frag) (nm : PySem.Str) (fs : List PySem.Str) (file : PySem.Str) : Bool :=
  eqO (nsIn K mainGlobals nm) (some (some (.ref (ga K nm)))) && (clsB K (ga K nm) && (eqO (findIn K (.ref (ga K nm)) "__setattr__") (some (some (.builtin "object.__setattr__"))) &&
  (eqO (findIn K (.ref (ga K nm)) "__getattribute__") (some (some (.builtin "BaseException.__getattribute__"))) && (eqO (findIn K (.ref (ga K nm)) "__getattr__") (some none) &&
  (eqO (findIn K (.ref (ga K nm)) "__init__") (some (some (.ref (ma K (ga K nm) "__init__")))) && (decide (typeIn K (.ref (ma K (ga K nm) "__init__")) = some (.type "function")) && (keepIn K (.ref (ga K nm)) &&
  (decide (subIn K (.ref (ga K nm)) (.type "BaseException") = some true) && (decide (subIn K (.ref (ga K nm)) (.type "ValueError") = some true) && (decide (typeIn K (.ref (ga K nm)) = some (.type "type")) && (hasDictIn K (ga K nm) &&
  (decide (mroIn K (ga K nm) (.ref (ga K nm)) = some true) && (eqO (ks_superIn K (ga K nm) (ga K nm) "__init__") (some (some (.builtin "ValueError.__init__"))) && (eqO (nsIn K cStatics "thirdparty.any") (some none) &&
  (eqO (nsIn K mainGlobals "super") (some none) && (initB K (ga K nm) (ma K (ga K nm) "__init__") file && fs.all fun f => eqO (findIn K (.ref (ga K nm)) f) (some none)))))))))))))))))
structure ErrD where
  name : PySem.Str
  fs : List PySem.Str
  qual : PySem.Str
  params : Arguments
  body : List Stmt
  scope : Scope
def ErrD.it (file : PySem.Str) (d : ErrD) : It := ⟨fun K => ma K (ga K d.name) "__init__", some ("__init__", d.qual, d.params, .stmts d.body, d.scope), fun K => errB K d.name d.fs file⟩
/-- the scope's facts, by decide -/
structure ScopeE (prog : Program) (scope : Scope) (params : Arguments) : Prop where
  ar : ∃ pp, (params.posonlyargs ++ params.args).head? = some ⟨"self", none, pp⟩
  hks : scope.names.lookup ("super" : PySem.Str) = some .globalImplicit
  hkc : scope.names.lookup ("__class__" : PySem.Str) = some .free
  hka : scope.names.lookup ("self" : PySem.Str) = some .local
  hk : scope.kind = .function
  hco : scope.isCoroutine = false
  hgen : scope.isGenerator = false
  hcell : ∀ x ∈ scope.names, x.2 ≠ .cell
  htop : (prog.main.scope.names.lookup ("super" : PySem.Str)).isSome = false
theorem errC_of {prog : Program} {K : Frag} {nm qual0 nm0 file : PySem.Str} {fs : List PySem.Str} {params : Arguments} {body : List Stmt} {scope : Scope} (c : errB K nm fs file = true) (e : fnZ K (ma K (ga K nm) "__init__") = some (nm0, qual0, params, .stmts body, scope))
    (hfile : (prog.main.file : PySem.Str) = file) (S : ScopeE prog scope params) : PySem.ErrX.ErrC prog K (ga K nm) (ma K (ga K nm) "__init__") body scope params ∧ nsIn K mainGlobals nm = some (some (.ref (ga K nm))) ∧ ∀ f ∈ fs, findIn K (.ref (ga K nm)) f = some none := by
  unfold errB at c
  obtain ⟨c0, c⟩ := ba c
  obtain ⟨c1, c⟩ := ba c
  obtain ⟨c2, c⟩ := ba c
  obtain ⟨c3, c⟩ := ba c
  obtain ⟨c4, c⟩ := ba c
  obtain ⟨c5, c⟩ := ba c
  obtain ⟨c6, c⟩ := ba c
  obtain ⟨c7, c⟩ := ba c
  obtain ⟨c8, c⟩ := ba c
  obtain ⟨c9, c⟩ := ba c
  obtain ⟨c10, c⟩ := ba c
  obtain ⟨c11, c⟩ := ba c
  obtain ⟨c12, c⟩ := ba c
  obtain ⟨c13, c⟩ := ba c
  obtain ⟨c14, c⟩ := ba c
  obtain ⟨c15, c⟩ := ba c
  obtain ⟨c16, c17⟩ := ba c
  exact ⟨{ cls := clsB_ok c1, sa := eqO_ok c2, ga := eqO_ok c3, gg := eqO_ok c4, iC := eqO_ok c5, tC := of_decide_eq_true c6, kC := c7, exC := of_decide_eq_true c8, veC := of_decide_eq_true c9, tyC := of_decide_eq_true c10, hdC := c11, mroC := of_decide_eq_true c12,
           supC := eqO_ok c13, opq := eqO_ok c14, supG := eqO_ok c15, fn := initB_ok c16 e hfile, ar := S.ar, hks := S.hks, hkc := S.hkc, hka := S.hka, hk := S.hk, hco := S.hco, hgen := S.hgen, hcell := S.hcell, htop := S.htop }, eqO_ok c0, fun f hf => eqO_ok (List.all_eq_true.mp c17 f hf)⟩
section
variable {prog : Program} {w : World} {K : Frag} {h : Heap} {mg : PySem.Str → Option Value} {nm qual0 nm0 file f msg : PySem.Str} {params : Arguments} {scope : Scope} {a1 a2 a3 a4 a5 a6 b1 b2 b3 b4 : Pos}
theorem err1_of (X : K.In h) (G : h.Ns mainGlobals mg) (c : errB K nm [f] file = true) (e : fnZ K (ma K (ga K nm) "__init__") = some (nm0, qual0, params, .stmts [PySem.ErrX.supS msg a1 a2 a3 a4 a5 a6, PySem.ErrX.fldS f b1 b2 b3 b4], scope))
    (hfile : (prog.main.file : PySem.Str) = file) (S : ScopeE prog scope params) (hline : (a3.endLine == a5.line) = true)
    (hbind : ∀ (nm qual : PySem.Str) (kV doc pm : Value) (an : Option Addr) (cdv ct : Value) (cc : Addr) (x y : Value), bindArgs (ksFn nm qual params [PySem.ErrX.supS msg a1 a2 a3 a4 a5 a6, PySem.ErrX.fldS f b1 b2 b3 b4] scope .none kV doc pm an cdv ct cc) ⟨[x, y], []⟩ = pure [(("self" : PySem.Str), x), (f, y)])
    (hkf : scope.names.lookup f = some .local) (hne : (("self" : PySem.Str) == f) = false) (hdf : (f == ("__debug__" : PySem.Str)) = false) : Err1 prog w K mg nm f (ga K nm) := by
  obtain ⟨T, g, hf⟩ := errC_of c e hfile S
  have noN := hf f (List.mem_singleton.mpr rfl)
  exact { gC := mg_of X G g, kC := T.kC, exC := T.exC, tyC := T.tyC, hdC := T.hdC, ga := T.ga, gg := T.gg, noN := noN, made := fun X hl hG hB hr hq => PySem.ErrX.made1 T hline hbind hkf hne hdf noN X hl hG hB hr hq }
theorem err0_of (X : K.In h) (G : h.Ns mainGlobals mg) (c : errB K nm [] file = true) (e : fnZ K (ma K (ga K nm) "__init__") = some (nm0, qual0, params, .stmts [PySem.ErrX.supS msg a1 a2 a3 a4 a5 a6], scope))
    (hfile : (prog.main.file : PySem.Str) = file) (S : ScopeE prog scope params) (hline : (a3.endLine == a5.line) = true)
    (hbind : ∀ (nm qual : PySem.Str) (kV doc pm : Value) (an : Option Addr) (cdv ct : Value) (cc : Addr) (x : Value), bindArgs (ksFn nm qual params [PySem.ErrX.supS msg a1 a2 a3 a4 a5 a6] scope .none kV doc pm an cdv ct cc) ⟨[x], []⟩ = pure [(("self" : PySem.Str), x)]) : Err0 prog w K mg nm (ga K nm) := by
  obtain ⟨T, g, _⟩ := errC_of c e hfile S
  exact { gC := mg_of X G g, kC := T.kC, exC := T.exC, tyC := T.tyC, made := fun X hl hG hB hr hq => PySem.ErrX.made0 T hline hbind X hl hG hB hr hq }
end
/-- ExcC as a Bool -/
def excCB (K : Frag) (D : Addr) : Bool := eqO (findIn K (.ref D) "__getattribute__") (some (some (.builtin "BaseException.__getattribute__"))) && (eqO (findIn K (.ref D) "__getattr__") (some none) && (decide (subIn K (.ref D) (.type "BaseException") = some true) &&
  (hasDictIn K D && (eqO (findIn K (.ref D) "__class__") (some (some (.builtin "object.__class__"))) && (eqO (specialIn K (.builtin "object.__class__") "__get__") (some (some (.builtin "getset_descriptor.__get__"))) &&
  (decide (takesIn K (.builtin "object.__class__") = some true) && decide (mroIn K D (.type "object") = some true)))))))
theorem excCB_ok {K : Frag} {D : Addr} (c : excCB K D = true) : ExcC K D := by
  unfold excCB at c
  obtain ⟨c1, c⟩ := ba c
  obtain ⟨c2, c⟩ := ba c
  obtain ⟨c3, c⟩ := ba c
  obtain ⟨c4, c⟩ := ba c
  obtain ⟨c5, c⟩ := ba c
  obtain ⟨c6, c⟩ := ba c
  obtain ⟨c7, c8⟩ := ba c
  exact ⟨eqO_ok c1, eqO_ok c2, of_decide_eq_true c3, c4, eqO_ok c5, eqO_ok c6, of_decide_eq_true c7, of_decide_eq_true c8⟩
def kitB (K : Frag) (x y : Value) (b : Bool) : Bool := decide (kitOne K x y = some b)
theorem kitB_ok {K : Frag} {x y : Value} {b : Bool} (h : kitB K x y b = true) : kitOne K x y = some b := of_decide_eq_true h
/-- the function's data at a -/
def fdOf (K : Frag) (a : Addr) : FuncData := match K.lookup a with
  | some ⟨_, _, .func fd, _⟩ => fd
  | _ => fnOf "" "" ⟨[], [], none, [], [], none, []⟩ [] ⟨.function, [], false, false, []⟩ .none .none .none .none none .none .none
theorem fdOf_eq {K : Frag} {x qual : PySem.Str} {params : Arguments} {body : List Stmt} {scope : Scope} {dvs : List V} {kws : List (PySem.Str × V)} {f : Addr} {fd : FuncData} (F : FunD K x qual params body scope dvs kws f fd) : FunD K x qual params body scope dvs kws f (fdOf K f) := by
  obtain ⟨oc, od, dV, kV, doc, pm, an, cdv, ct, osl, e, lk, r⟩ := F.ex
  have e2 : fdOf K f = fd := by unfold fdOf; rw [lk]
  rw [e2]
  exact F
/-! ### the Hook -/
abbrev AlZ : Type := Bool × List FnZ
def obsZ (fa : List Fa) (ex : List (Frag → Bool)) (its : List It) (K : Frag) : AlZ := ((fa.all fun f => f.ok K) && ((ex.all fun f => f K) && its.all fun d => d.ok K), its.map fun d => fnZ K (d.at_ K))
def valZ (its : List It) : AlZ := (true, its.map It.val)
def SaysZ (fa : List Fa) (ex : List (Frag → Bool)) (its : List It) (K : Frag) : Prop := obsZ fa ex its K = valZ its
def obsZG (n : Nat) (fa : List Fa) (ex : List (Frag → Bool)) (its : List It) (g : Addr → Option Obj) : AlZ := obsZ fa ex its (frG g (He5.asA g n))
def hookZ (n : Nat) (fa : List Fa) (ex : List (Frag → Bool)) (its : List It) : PySem.W.Hook where
  α := AlZ
  obs := fun s => obsZG n fa ex its s.heap.get?
  val := fun _ => valZ its
  says := fun _ h => ∃ K : Frag, K.In h ∧ SaysZ fa ex its K
  of := fun _ _ e => ⟨_, frG_in, e⟩
  keeps := fun _ _ _ ⟨K, hK, c⟩ k => ⟨K, Frag.In.keeps hK k, c⟩
theorem obsZG_eq {n : Nat} {fa : List Fa} {ex : List (Frag → Bool)} {its : List It} {g : Addr → Option Obj} {s : Shared} (h : ∀ a, g a = s.heap.get? a) : obsZG n fa ex its g = (hookZ n fa ex its).obs s := by
  have e : g = s.heap.get? := funext h
  rw [e] <;> rfl
section
variable {fa : List Fa} {ex : List (Frag → Bool)} {its : List It} {K : Frag}
theorem SaysZ.fact (c : SaysZ fa ex its K) (i : Nat) {f : Fa} (h : fa[i]? = some f := by rfl) : f.ok K = true := by
  have c1 := (ba (show ((fa.all fun f => f.ok K) && ((ex.all fun f => f K) && its.all fun d => d.ok K)) = true from congrArg (fun z : AlZ => z.1) c)).1
  exact List.all_eq_true.mp c1 f (List.mem_of_getElem? h)
theorem SaysZ.more (c : SaysZ fa ex its K) (i : Nat) {f : Frag → Bool} (h : ex[i]? = some f := by rfl) : f K = true := by
  have c1 := (ba (ba (show ((fa.all fun f => f.ok K) && ((ex.all fun f => f K) && its.all fun d => d.ok K)) = true from congrArg (fun z : AlZ => z.1) c)).2).1
  exact List.all_eq_true.mp c1 f (List.mem_of_getElem? h)
theorem SaysZ.it (c : SaysZ fa ex its K) (i : Nat) {d : It} (h : its[i]? = some d := by rfl) : fnZ K (d.at_ K) = d.val ∧ d.ok K = true := by
  have c2 := (ba (ba (show ((fa.all fun f => f.ok K) && ((ex.all fun f => f K) && its.all fun d => d.ok K)) = true from congrArg (fun z : AlZ => z.1) c)).2).2
  have e : its.map (fun d => fnZ K (d.at_ K)) = its.map It.val := congrArg (fun z : AlZ => z.2) c
  have e2 : (its.map fun d => fnZ K (d.at_ K))[i]? = (its.map It.val)[i]? := by rw [e]
  rw [List.getElem?_map, List.getElem?_map, h] at e2
  exact ⟨Option.some.inj e2, List.all_eq_true.mp c2 d (List.mem_of_getElem? h)⟩
theorem SaysZ.def_ (c : SaysZ fa ex its K) (i : Nat) {d : DefX} (h : its[i]? = some d.it := by rfl) : ∃ fd, FunD K d.name d.qual d.params d.body d.scope (d.dvs K) (d.kws K) (d.at_ K) fd := by
  obtain ⟨e1, e2⟩ := c.it i h
  exact DefX.funD e1 e2
theorem SaysZ.fn (c : SaysZ fa ex its K) (i : Nat) {d : DefX} (h : its[i]? = some d.it := by rfl) : FunD K d.name d.qual d.params d.body d.scope (d.dvs K) (d.kws K) (d.at_ K) (fdOf K (d.at_ K)) := by
  obtain ⟨fd, F⟩ := c.def_ i h
  exact fdOf_eq F
end
/-- a law: as walk_ofE, with the script's bits -/
theorem walk_ofEB {l : PySem.W.OpenLaw} {n k : Nat} {q : Program} {loose : List PySem.Str} {XP : (PySem.Str → Option Value) → Heap → Prop} {YP : World → Heap → Prop} {d : DefRec} {CX : World → CXT} {x : PySem.Str}
    (hn : l.most = some n) (hn2 : n ≤ sizeLine) (hdf : d.params.defaults = []) (hr : Room k callerA)
    (F : ∀ (w : World) (mg : PySem.Str → Option Value) (fa : Addr) (h : Heap), YP w h → h.Ns mainGlobals mg → mg d.name = some (.ref fa) →
      ∃ (K : PySem.W.Frag) (fd : FuncData) (sp : Sp), K.In h ∧ (∀ (s : Shared) (u : Value), BindsTo s fd ⟨[u], []⟩ [(x, u)]) ∧
        (∀ (H : Hp) (a : Addr) (ns : List Int), ns.length ≤ n → (∀ k ∈ ns, Builtin.Int.intBits k ≤ 1048576) → Only H → SqL K H a (ns.map V.int) → sp [.ref a] H (fun v _ => v = .bl true) fun _ _ _ => False) ∧
        ∀ base : Heap, K.In base → base.Ns mainGlobals mg → FnOk l.prog w K mg base (CX w) k fa fd [x] sp)
    (hCX : ∀ (w : World) (H : Hp) (s : Shared) (e : Value) (s' : Shared), CX w [] H s (fun _ _ _ => False) e s' → False) :
    PySem.W.WalkO q loose XP YP l.row.toRowW d [] (fun f vs => PySem.call f vs) := by
  refine Att.attach_callB hn hdf fun w s₀ s₁ mg mb fa o pm cd doc a vs ns G Y ho hd hcd hmg hobj hints hlen hbits hg => ?_
  obtain ⟨K, fd, sp, KX, hb, hsp, hF⟩ := F w mg fa _ Y G.T.g hmg
  exact law_call KX G.T.g G.T.b G.T.builtins G.T.nolimit hg hobj hints (Nat.le_trans hlen hn2) hr hF hb (fun H hO hS => hsp H a ns hlen hbits hO hS) fun H e s' => hCX w H s₁ e s'
end Hk
/-! operators by the values' own kinds; steps -/
namespace Px
open PySem PySem.Spec PyProof.Rows L2
section
variable {X : Cx}
/-- + -/
def rAddP (K : PySem.W.Frag) : R2 := fun x y H Q => match x, y with
  | .int i, .int j => Q (.int (i + j)) H
  | .str i, .str j => i.length + j.length ≤ sizeLine ∧ Q (.str (i ++ j)) H
  | .ref a, .ref b => rCat (.ref a) (.ref b) H Q ∨ rCatA K (.ref a) (.ref b) H Q
  | _, _ => False
theorem op_addP : OpR X (binaryOp .Add) (rAddP X.K) := by
  intro pins s σ H x y v u Q I rx ry h
  cases x <;> cases y <;> first
    | exact False.elim h
    | exact op_add pins s σ H _ _ v u Q I rx ry ⟨_, _, rfl, rfl, h⟩
    | exact op_add_str pins s σ H _ _ v u Q I rx ry ⟨_, _, rfl, rfl, h.1, h.2⟩
    | (rcases h with h | h
       · exact op_cat pins s σ H _ _ v u Q I rx ry h
       · exact op_catA pins s σ H _ _ v u Q I rx ry h)
/-- ints -/
def rIn2 (C : Int → Int → Prop) (g : Int → Int → V) : R2 := fun x y H Q => match x, y with
  | .int i, .int j => C i j ∧ Q (g i j) H
  | _, _ => False
theorem OpR.in2 {f : Value → Value → Sem Value} {C : Int → Int → Prop} {g : Int → Int → V} (h : OpR X f (rI C g)) : OpR X f (rIn2 C g) := by
  intro pins s σ H x y v u Q I rx ry q
  cases x <;> cases y <;> first
    | exact False.elim q
    | exact h pins s σ H _ _ v u Q I rx ry ⟨_, _, rfl, rfl, q.1, q.2⟩
def rIn0 (g : Int → Int → V) : R2 := fun x y H Q => match x, y with
  | .int i, .int j => Q (g i j) H
  | _, _ => False
theorem OpR.in0 {f : Value → Value → Sem Value} {g : Int → Int → V} (h : OpR X f (rI0 g)) : OpR X f (rIn0 g) := by
  intro pins s σ H x y v u Q I rx ry q
  cases x <;> cases y <;> first
    | exact False.elim q
    | exact h pins s σ H _ _ v u Q I rx ry ⟨_, _, rfl, rfl, q⟩
abbrev rSubP : R2 := rIn0 fun i j => .int (i - j)
theorem op_subP : OpR X (binaryOp .Sub) rSubP := OpR.in0 op_sub
def CMulP (i j : Int) : Prop := CMul i j ∨ CMulW i j
abbrev rMulP : R2 := rIn2 CMulP fun i j => .int (i * j)
theorem op_mulP : OpR X (binaryOp .Mult) rMulP := OpR.in2 (opI fun _ _ _ _ _ _ _ hc q => mul_int q (hc.elim CMul.ok CMulW.ok))
def CDivP (_ j : Int) : Prop := j ≠ 0 ∧ j.natAbs.log2 < 9000
abbrev rFdivP : R2 := rIn2 CDivP fun i j => .int (i.fdiv j)
theorem op_fdivP : OpR X (binaryOp .FloorDiv) rFdivP := OpR.in2 (opI fun _ _ _ _ _ _ _ hc q => floordiv_int hc.1 q (.inl (PyProof.noPylong_of_log2 hc.2)))
abbrev rModP : R2 := rIn2 (fun _ j => j ≠ 0) fun i j => .int (i.fmod j)
theorem op_modP : OpR X (binaryOp .Mod) rModP := OpR.in2 op_modN
abbrev rPowP : R2 := rIn2 CPow fun i j => .int (i ^ j.toNat)
theorem op_powP : OpR X (binaryOp .Pow) rPowP := OpR.in2 op_pow
/-- ==, != -/
def rEqP (K : PySem.W.Frag) : R2 := fun x y H Q => match scal x y with
  | true => Q (.bl (decide (x = y))) H
  | false => rEqD K x y H Q
theorem op_eqP (hu : X.A.units + 64 < cLine) : OpR X (compareOp .Eq) (rEqP X.K) := by
  intro pins s σ H x y v u Q I rx ry h
  unfold rEqP at h
  cases e : scal x y with
  | true => rw [e] at h; exact op_eq pins s σ H _ _ v u Q I rx ry ⟨e, h⟩
  | false => rw [e] at h; exact op_eqD hu pins s σ H _ _ v u Q I rx ry h
def rNeP (K : PySem.W.Frag) : R2 := fun x y H Q => match scal x y with
  | true => Q (.bl (!decide (x = y))) H
  | false => rNeD K x y H Q
theorem op_neP (hu : X.A.units + 64 < cLine) : OpR X (compareOp .NotEq) (rNeP X.K) := by
  intro pins s σ H x y v u Q I rx ry h
  unfold rNeP at h
  cases e : scal x y with
  | true => rw [e] at h; exact op_ne pins s σ H _ _ v u Q I rx ry ⟨e, h⟩
  | false => rw [e] at h; exact op_neD hu pins s σ H _ _ v u Q I rx ry h
/-- <, <=, >, >= -/
def rLtP : R2 := fun x y H Q => match x, y with
  | .int i, .int j => Q (.bl (decide (i < j))) H
  | .str i, .str j => Q (.bl (decide (i.cps.toList < j.cps.toList))) H
  | _, _ => False
theorem op_ltP : OpR X (compareOp .Lt) rLtP := by
  intro pins s σ H x y v u Q I rx ry h
  cases x <;> cases y <;> first
    | exact False.elim h
    | exact op_lt pins s σ H _ _ v u Q I rx ry ⟨_, _, rfl, rfl, h⟩
    | exact op_lt_str pins s σ H _ _ v u Q I rx ry ⟨_, _, rfl, rfl, h⟩
abbrev rGtP : R2 := rIn0 fun i j => .bl (decide (j < i))
theorem op_gtP : OpR X (compareOp .Gt) rGtP := OpR.in0 op_gt
abbrev rGeP : R2 := rIn0 fun i j => .bl (decide (j ≤ i))
theorem op_geP : OpR X (compareOp .GtE) rGeP := OpR.in0 op_ge
/-- in, not in -/
def strIn (i j : Str) : Bool := !(Builtin.Str.occurrences j i 0 j.length 1).isEmpty
theorem strIn_sign (c : Nat) (z : Str) : strIn ⟨#[c]⟩ z = decide (c ∈ z.cps.toList) := PySem.StrLaws.found_one z c
def tgtIn (neg b : Bool) : Bool := if neg then !b else b
def rInP (K : PySem.W.Frag) (neg : Bool) : R2 := fun x y H Q => match y with
  | .str j => (match x with
    | .str i => Q (.bl (tgtIn neg (strIn i j))) H
    | _ => False)
  | .ref p => rIn K neg x (.ref p) H Q ∨ ∃ o, DGet H p x o ∧ Q (.bl (tgtIn neg o.isSome)) H
  | _ => False
theorem op_inP (hu : X.A.units + 64 < cLine) : OpR X (compareOp .In) (rInP X.K false) := by
  intro pins s σ H x y v u Q I rx ry h
  cases y <;> first
    | exact False.elim h
    | (cases x <;> first
       | exact False.elim h
       | exact op_in_str pins s σ H _ _ v u Q I rx ry ⟨_, _, rfl, rfl, h⟩)
    | (rcases h with h | ⟨o, g, q⟩
       · exact op_in_seq pins s σ H _ _ v u Q I rx ry h
       · obtain rfl : u = Value.ref _ := ry
         exact d_in (by omega) I g rx fun s3 I3 => ⟨.bl o.isSome, H, I3, rfl, q⟩)
/-- is None -/
def rIsP (neg : Bool) : R2 := fun x y H Q => y = .non ∧ Q (.bl (tgtIn neg (decide (x = .non)))) H
theorem op_isP : OpR X (compareOp .Is) (rIsP false) := op_isN
/-- x[i] -/
def rIxP (K : PySem.W.Frag) : R2 := fun x y H Q => match x, y with
  | .str z, .int i => z.length ≤ sizeLine ∧ ∃ c, atI z.cps.toList i = some c ∧ Q (.str ⟨#[c]⟩) H
  | .ref p, .int i => ∃ xs v, (SqL K H p xs ∨ SqT K H p xs) ∧ atI xs i = some v ∧ Q v H
  | _, _ => False
theorem ix_P : IxR X (rIxP X.K) := by
  intro value slice pins s σ H x y v u Q I rx ry h hs
  cases x <;> cases y <;> first
    | exact False.elim h
    | (obtain ⟨hz, c, he, q⟩ := h
       exact ix_str value slice pins s σ H _ _ v u Q I rx ry ⟨_, _, c, rfl, rfl, hz, he, q⟩ hs)
    | (obtain ⟨xs, w, hq, he, q⟩ := h
       rcases hq with hq | hq
       · exact ix_list value slice pins s σ H _ _ v u Q I rx ry ⟨_, xs, _, w, rfl, rfl, hq, he, q⟩ hs
       · exact ix_tup value slice pins s σ H _ _ v u Q I rx ry ⟨_, xs, _, w, rfl, rfl, hq, he, q⟩ hs)
/-- x[a:b] -/
def rSlP (K : PySem.W.Frag) : V → Option Int → Option Int → Hp → VK → Prop := fun x lo hi H Q => match x with
  | .str z => z.length ≤ sizeLine ∧ Q (.str (cutS z lo hi)) H
  | .ref a => rSlL K (.ref a) lo hi H Q ∨ rSlA K (.ref a) lo hi H Q
  | _ => False
theorem sl_P : SlR X (rSlP X.K) := by
  intro pins s σ H x v vl vu lo hi sl Q I rx hs pl pu h
  cases x <;> first
    | exact False.elim h
    | exact sl_str pins s σ H _ v vl vu lo hi sl Q I rx hs pl pu ⟨_, rfl, h.1, h.2⟩
    | (rcases h with h | h
       · exact sl_list pins s σ H _ v vl vu lo hi sl Q I rx hs pl pu h
       · exact sl_tupA pins s σ H _ v vl vu lo hi sl Q I rx hs pl pu h)
/-- len -/
def rLenP (K : PySem.W.Frag) : List V → Hp → VK → Prop := fun vs H Q => match vs with
  | [.str z] => z.length ≤ sizeLine ∧ Q (.int z.length) H
  | [.ref p] => (∃ xs, (SqL K H p xs ∨ SqT K H p xs) ∧ Q (.int xs.length) H) ∨ ∃ kvs, H p = some (.dK kvs) ∧ Q (.int kvs.length) H
  | _ => False
theorem call_lenP : CallR X (.builtin "len") (rLenP X.K) := by
  intro pins s σ H vs us Q I r h
  match vs, h with
  | [.str z], h => exact call_len_str pins s σ H _ us Q I r ⟨z, rfl, h.1, h.2⟩
  | [.ref p], h =>
    rcases h with ⟨xs, hq, q⟩ | ⟨kvs, hd, q⟩
    · exact call_len_seq pins s σ H _ us Q I r ⟨p, xs, rfl, hq, q⟩
    · exact call_lenD pins s σ H _ us Q I r ⟨p, kvs, rfl, hd, q⟩
  | [], h => exact False.elim h
  | [.non], h => exact False.elim h
  | [.bl _], h => exact False.elim h
  | [.int _], h => exact False.elim h
  | [.byt _], h => exact False.elim h
  | [.flt _], h => exact False.elim h
  | [.ty _], h => exact False.elim h
  | x :: y :: z, h => exact False.elim (by cases x <;> exact h)
/-- for x in .. -/
def iAnyP (K : PySem.W.Frag) (te : TE) : TI := fun σ H R => te σ H fun x H1 => match x with
  | .str z => R (Its z) H1
  | .ref a => ((∃ xs, SqL K H1 a xs) ∧ R (Itl K a) H1) ∨ ((∃ xs, SqT K H1 a xs) ∧ R (Itt K a) H1)
  | _ => False
theorem pi_anyP {tg e : Expr} {te : TE} (he : PE X e te) : PI X tg e (iAnyP X.K te) := by
  refine ⟨fun pins s σ H R I h => ?_⟩
  refine thn (he.run pins s σ H _ I h) fun v s1 ⟨x, H1, I1, r1, q1⟩ => ?_
  cases x <;> first
    | exact False.elim q1
    | (rename_i x
       obtain ⟨t, rfl⟩ := r1
       cases ha : x.cps.all (· < 128)
       · exact wpAny_pyIter_wide ha (pi_one (tk := s1.toks) I1 _ (turn_str _ x t "str_iterator" (.inr rfl)) ⟨_, Heap.get?_push_size _ rfl, rfl, rfl⟩ q1)
       · exact wpAny_pyIter_ascii ha (pi_one (tk := s1.toks) I1 _ (turn_str _ x t "str_ascii_iterator" (.inl rfl)) ⟨_, Heap.get?_push_size _ rfl, rfl, rfl⟩ q1))
    | (rename_i a
       obtain rfl : v = Value.ref a := r1
       rcases q1 with ⟨⟨xs, hq⟩, q⟩ | ⟨⟨xs, hq⟩, q⟩
       · obtain ⟨its, rv, p, hz⟩ := I1.list hq
         refine wpAny_pyIter_list p.isList ?_
         refine ⟨s1.heap.objs.size, [s1.heap.objs.size], _, _, H1, rfl, I1.kept (t' := s1.toks) fun b o e => Heap.get?_push_of_some _ e, turn_list a _, ⟨_, Heap.get?_push_size _ rfl, rfl, rfl⟩, fun b hb => ?_, q⟩
         have e : b = s1.heap.objs.size := by simpa using hb
         subst e
         exact I1.fpOk (Nat.le_refl _) (I1.hok.fresh (Nat.le_refl _))
       · obtain ⟨its, rv, p, hz⟩ := I1.tuple hq
         refine wpAny_pyIter_tuple (show s1.heap.IsTuple a its.toArray from p) ?_
         refine ⟨s1.heap.objs.size, [s1.heap.objs.size], _, _, H1, rfl, I1.kept (t' := s1.toks) fun b o e => Heap.get?_push_of_some _ e, turn_tuple a _, ⟨_, Heap.get?_push_size _ rfl, rfl, rfl⟩, fun b hb => ?_, q⟩
         have e : b = s1.heap.objs.size := by simpa using hb
         subst e
         exact I1.fpOk (Nat.le_refl _) (I1.hok.fresh (Nat.le_refl _)))
/-- o[i] = v -/
def rSetP : V → V → V → Hp → (Hp → Prop) → Prop := fun o i v H Q => match o with
  | .ref p => rSetL (.ref p) i v H Q ∨ ∃ H', DPut H p i v H' ∧ Q H'
  | _ => False
theorem set_P (hu : X.A.units + 64 < cLine) : PSet X rSetP := by
  intro pins s σ H o i v ov iv u Q I ro ri rv h
  cases o <;> first
    | exact False.elim h
    | (rcases h with h | ⟨H', g, q⟩
       · exact set_list pins s σ H _ i v ov iv u Q I ro ri rv h
       · obtain rfl : ov = Value.ref _ := ro
         exact d_setItem (by omega) I g ri rv fun s4 I4 => ⟨H', I4, q⟩)
/-- int(x), list(x), tuple(x), abs(x) -/
def rIntP : List V → Hp → VK → Prop := fun vs H Q => match vs with
  | [.int i] => Q (.int i) H
  | [.bl b] => Q (.int (if b then 1 else 0)) H
  | [.str z] => ∃ n, PySem.intText? z = some n ∧ z.length ≤ 640 ∧ Q (.int n) H
  | _ => False
theorem call_intP : CallR X (.type "int") rIntP := by
  intro pins s σ H vs us Q I r h
  match vs, h with
  | [.int i], h => exact call_int1 pins s σ H _ us Q I r (.inl ⟨i, rfl, h⟩)
  | [.bl b], h => exact call_int1 pins s σ H _ us Q I r (.inr ⟨b, rfl, h⟩)
  | [.str z], ⟨n, e, l, q⟩ => exact call_int_str pins s σ H _ us Q I r ⟨z, n, rfl, e, l, q⟩
  | [], h => exact False.elim h
  | [.non], h => exact False.elim h
  | [.ref _], h => exact False.elim h
  | [.byt _], h => exact False.elim h
  | [.flt _], h => exact False.elim h
  | [.ty _], h => exact False.elim h
  | x :: y :: z, h => exact False.elim (by cases x <;> exact h)
def rListP (K : PySem.W.Frag) : List V → Hp → VK → Prop := fun xs H Q => ∃ p ys, xs = [.ref p] ∧ (SqL K H p ys ∨ SqT K H p ys) ∧ ∀ l, H l = none → Q (.ref l) (upd H l (.lst ys))
theorem call_listP : CallR X (.type "list") (rListP X.K) := call_list_of
def rAbsP : List V → Hp → VK → Prop := fun xs H Q => ∃ i, xs = [.int i] ∧ Q (.int (if i < 0 then -i else i)) H
theorem call_absP : CallR X (.builtin "abs") rAbsP := call_abs
def rStrP : List V → Hp → VK → Prop := fun vs H Q => match vs with
  | [.int i] => i.natAbs.log2 < 1920 ∧ Q (.str (toString i)) H
  | [.str z] => Q (.str z) H
  | _ => False
theorem call_strP : CallR X (.type "str") rStrP := by
  intro pins s σ H vs us Q I r h
  match vs, h with
  | [.int i], h => exact call_str_int pins s σ H _ us Q I r ⟨i, rfl, h.1, h.2⟩
  | [.str z], h => exact SkE.call_str_str pins s σ H _ us Q I r ⟨z, rfl, h⟩
  | [], h => exact False.elim h
  | [.non], h => exact False.elim h
  | [.bl _], h => exact False.elim h
  | [.ref _], h => exact False.elim h
  | [.byt _], h => exact False.elim h
  | [.flt _], h => exact False.elim h
  | [.ty _], h => exact False.elim h
  | x :: y :: z, h => exact False.elim (by cases x <;> exact h)
/-- a statement, then the rest, with a word between them -/
def tCut (t u : TS) : TS := fun D σ H => ∃ Mid : L2.St → Hp → Prop, t { D with nx := Mid } σ H ∧ ∀ σ' H', Mid σ' H' → u D σ' H'
theorem pss_cut {st : Stmt} {rest : List Stmt} {t u : TS} (h1 : PS X st t) (h2 : PSs X rest u) : PSs X (st :: rest) (tCut t u) := by
  refine ⟨fun pins s σ H D I h => ?_⟩
  obtain ⟨Mid, hm, hu⟩ := h
  refine wpAny_execs_cons (thn (h1.run pins s σ H { D with nx := Mid } I hm) fun f s1 q => ?_)
  cases f with
  | next =>
    obtain ⟨σ', H', I', q⟩ := q
    exact h2.run pins s1 σ' H' D I' (hu σ' H' q)
  | ret v => exact q
  | brk => exact q
  | cont => exact q
/-! promises by the number of arguments -/
def Sp1 (P : V → Hp → VK → XK → Prop) : Sp := fun vs H Q E => ∃ x, vs = [x] ∧ P x H Q E
def Sp2 (P : V → V → Hp → VK → XK → Prop) : Sp := fun vs H Q E => ∃ x y, vs = [x, y] ∧ P x y H Q E
def Sp3 (P : V → V → V → Hp → VK → XK → Prop) : Sp := fun vs H Q E => ∃ x y z, vs = [x, y, z] ∧ P x y z H Q E
def Sp4 (P : V → V → V → V → Hp → VK → XK → Prop) : Sp := fun vs H Q E => ∃ x y z u, vs = [x, y, z, u] ∧ P x y z u H Q E
def Sp5 (P : V → V → V → V → V → Hp → VK → XK → Prop) : Sp := fun vs H Q E => ∃ x y z u v, vs = [x, y, z, u, v] ∧ P x y z u v H Q E
theorem Sp5.len {P} {vs H Q E} (h : Sp5 P vs H Q E) : vs.length = 5 := by obtain ⟨_, _, _, _, _, rfl, _⟩ := h; rfl
def Sp9 (P : V → V → V → V → V → V → V → V → V → Hp → VK → XK → Prop) : Sp := fun vs H Q E => ∃ x y z u v a b c d, vs = [x, y, z, u, v, a, b, c, d] ∧ P x y z u v a b c d H Q E
theorem Sp9.len {P} {vs H Q E} (h : Sp9 P vs H Q E) : vs.length = 9 := by obtain ⟨_, _, _, _, _, _, _, _, _, rfl, _⟩ := h; rfl
theorem Sp1.len {P} {vs H Q E} (h : Sp1 P vs H Q E) : vs.length = 1 := by obtain ⟨_, rfl, _⟩ := h; rfl
theorem Sp2.len {P} {vs H Q E} (h : Sp2 P vs H Q E) : vs.length = 2 := by obtain ⟨_, _, rfl, _⟩ := h; rfl
theorem Sp3.len {P} {vs H Q E} (h : Sp3 P vs H Q E) : vs.length = 3 := by obtain ⟨_, _, _, rfl, _⟩ := h; rfl
theorem Sp4.len {P} {vs H Q E} (h : Sp4 P vs H Q E) : vs.length = 4 := by obtain ⟨_, _, _, _, rfl, _⟩ := h; rfl
end
end Px
/-! steps of readings -/
namespace Px
open PySem PySem.Spec PyProof.Rows L2
section
variable {K : PySem.W.Frag} {σ σ' : L2.St} {H : Hp} {D : Ends} {Q : VK} {QB : Bool → Hp → Prop} {QL : List V → Hp → Prop} {QO : Option Int → Hp → Prop} {QS : L2.St → Hp → Prop} {t u : TS} {te ta tb : TE} {tt tu : TT} {tl : TA} {v x y : V} {g : TG} {r : R2}
theorem s_seq (h : t { D with nx := u D } σ H) : tSeq t u D σ H := h
theorem s_asg (h : te σ H fun x H1 => g x σ H1 D.nx) : tAsg te g D σ H := h
theorem s_ret (h : te σ H D.rt) : tRet te D σ H := h
theorem s_retN (h : D.rt .non H) : tRetN D σ H := h
theorem s_drop (h : te σ H fun _ H1 => D.nx σ H1) : tDrop te D σ H := h
theorem s_ifS (h : tt σ H fun b H1 => if b = true then t D σ H1 else u D σ H1) : tIfS tt t u D σ H := h
theorem s_next (h : D.nx σ H) : tNext D σ H := h
theorem s_break (h : D.bk σ H) : tBreak D σ H := h
theorem s_cont (h : D.ct σ H) : tCont D σ H := h
theorem s_var {i : Nat} (e : σ[i]? = some (some v)) (h : Q v H) : tVar i σ H Q := ⟨v, e, h⟩
theorem s_c (h : Q v H) : tC v σ H Q := h
theorem s_op (h : ta σ H fun x H1 => tb σ H1 fun y H2 => r x y H2 Q) : tOp r ta tb σ H Q := h
theorem s_un {r : V → Hp → VK → Prop} (h : ta σ H fun x H1 => r x H1 Q) : tUn r ta σ H Q := h
theorem s_gname {i : Nat} (h : QS (σ.set i (some v)) H) : gName i v σ H QS := h
theorem s_gsub {to ti : TE} {ts : TSet} (h : to σ H fun o H1 => ti σ H1 fun i H2 => ts o i v H2 fun H3 => QS σ H3) : gSub to ti ts v σ H QS := h
theorem s_test (h : te σ H fun x H' => ∃ k, x = .bl k ∧ QB k H') : tTest te σ H QB := h
theorem s_tB (h : te σ H fun x H' => ∃ k, x = .bl k ∧ QB k H') : tB te σ H QB := h
theorem s_and (h : tt σ H fun c H1 => if c = true then tu σ H1 QB else QB false H1) : tAnd tt tu σ H QB := h
theorem s_or (h : tt σ H fun c H1 => if c = true then QB true H1 else tu σ H1 QB) : tOr tt tu σ H QB := h
theorem s_not (h : tt σ H fun c H1 => QB (!c) H1) : tNot tt σ H QB := h
theorem s_andV (h : ta σ H fun x H1 => ∃ c, x = .bl c ∧ if c = true then tb σ H1 Q else Q (.bl false) H1) : tAndV ta tb σ H Q := h
theorem s_orV (h : ta σ H fun x H1 => ∃ c, x = .bl c ∧ if c = true then Q (.bl true) H1 else tb σ H1 Q) : tOrV ta tb σ H Q := h
theorem s_notV (h : ta σ H fun x H1 => ∃ c, x = .bl c ∧ Q (.bl (!c)) H1) : tNotV ta σ H Q := h
theorem s_ifE (h : tt σ H fun c H1 => if c = true then ta σ H1 Q else tb σ H1 Q) : tIf tt ta tb σ H Q := h
theorem s_exb {b : Bool} {R : Bool → Prop} (h : R b) : ∃ k, (V.bl b = .bl k) ∧ R k := ⟨b, rfl, h⟩
theorem s_exi {b : Int} {R : Int → Prop} (h : R b) : ∃ k, (V.int b = .int k) ∧ R k := ⟨b, rfl, h⟩
theorem s_nil (h : QL [] H) : tNil σ H QL := h
theorem s_cons (h : ta σ H fun x H1 => tl σ H1 fun xs H2 => QL (x :: xs) H2) : tCons ta tl σ H QL := h
theorem s_cb {r : List V → Hp → VK → Prop} (h : tl σ H fun vs H1 => r vs H1 Q) : tCB r tl σ H Q := h
theorem s_call {sp : Sp} {dvs : List V} {E : XK} (h : tl σ H fun vs H1 => sp (vs ++ dvs) H1 Q E) : tCall sp dvs E tl σ H Q := h
theorem s_callS {sp : Sp} {E : L2.St → XK} (h : tl σ H fun vs H1 => sp vs H1 Q (E σ)) : tCallS sp E tl σ H Q := h
theorem s_lst (h : tl σ H fun xs H1 => xs.length ≤ sizeLine ∧ ∀ p, H1 p = none → Q (.ref p) (upd H1 p (.lst xs))) : tLst tl σ H Q := h
theorem s_tup (h : tl σ H fun xs H1 => xs.length ≤ sizeLine ∧ ∀ p, H1 p = none → Q (.ref p) (upd H1 p (.tup xs))) : tTup tl σ H Q := h
theorem s_sl {r : V → Option Int → Option Int → Hp → VK → Prop} {lo hi : TO} (h : te σ H fun x H1 => lo σ H1 fun l H2 => hi σ H2 fun u H3 => r x l u H3 Q) : tSl r te lo hi σ H Q := h
theorem s_nopart (h : QO none H) : tNoPart σ H QO := h
theorem s_part (h : te σ H fun x H1 => ∃ i, x = .int i ∧ QO (some i) H1) : tPart te σ H QO := h
theorem s_yes (h : QB true H) : tYes σ H QB := h
/-! values -/
theorem s_addI {i j : Int} (h : Q (.int (i + j)) H) : rAddP K (.int i) (.int j) H Q := h
theorem s_addS {i j : Str} (hl : i.length + j.length ≤ sizeLine) (h : Q (.str (i ++ j)) H) : rAddP K (.str i) (.str j) H Q := ⟨hl, h⟩
theorem s_in0 {g : Int → Int → V} {i j : Int} (h : Q (g i j) H) : rIn0 g (.int i) (.int j) H Q := h
theorem s_in2 {C : Int → Int → Prop} {g : Int → Int → V} {i j : Int} (hc : C i j) (h : Q (g i j) H) : rIn2 C g (.int i) (.int j) H Q := ⟨hc, h⟩
theorem s_eqI {i j : Int} (h : Q (.bl (decide (i = j))) H) : rEqP K (.int i) (.int j) H Q := by
  show Q (.bl (decide (V.int i = V.int j))) H
  rw [show decide (V.int i = V.int j) = decide (i = j) from by rw [Bool.eq_iff_iff]; simp]
  exact h
theorem s_eqS {i j : Str} (h : Q (.bl (decide (i = j))) H) : rEqP K (.str i) (.str j) H Q := by
  show Q (.bl (decide (V.str i = V.str j))) H
  rw [show decide (V.str i = V.str j) = decide (i = j) from by rw [Bool.eq_iff_iff]; simp]
  exact h
theorem s_eqB {i j : Bool} (h : Q (.bl (decide (i = j))) H) : rEqP K (.bl i) (.bl j) H Q := by
  show Q (.bl (decide (V.bl i = V.bl j))) H
  rw [show decide (V.bl i = V.bl j) = decide (i = j) from by rw [Bool.eq_iff_iff]; simp]
  exact h
theorem s_neI {i j : Int} (h : Q (.bl (!decide (i = j))) H) : rNeP K (.int i) (.int j) H Q := by
  show Q (.bl (!decide (V.int i = V.int j))) H
  rw [show decide (V.int i = V.int j) = decide (i = j) from by rw [Bool.eq_iff_iff]; simp]
  exact h
theorem s_neS {i j : Str} (h : Q (.bl (!decide (i = j))) H) : rNeP K (.str i) (.str j) H Q := by
  show Q (.bl (!decide (V.str i = V.str j))) H
  rw [show decide (V.str i = V.str j) = decide (i = j) from by rw [Bool.eq_iff_iff]; simp]
  exact h
theorem s_ltI {i j : Int} (h : Q (.bl (decide (i < j))) H) : rLtP (.int i) (.int j) H Q := h
theorem s_ltS {i j : Str} (h : Q (.bl (decide (i.cps.toList < j.cps.toList))) H) : rLtP (.str i) (.str j) H Q := h
theorem s_inS {i j : Str} {neg : Bool} (h : Q (.bl (tgtIn neg (strIn i j))) H) : rInP K neg (.str i) (.str j) H Q := h
theorem s_isN {neg : Bool} (h : Q (.bl (tgtIn neg (decide (x = .non)))) H) : rIsP neg x .non H Q := ⟨rfl, h⟩
theorem s_ixS {z : Str} {i : Int} {c : Nat} (hz : z.length ≤ sizeLine) (e : atI z.cps.toList i = some c) (h : Q (.str ⟨#[c]⟩) H) : rIxP K (.str z) (.int i) H Q := ⟨hz, c, e, h⟩
theorem s_ixL {p : Addr} {xs : List V} {i : Int} (hp : H p = some (.lst xs)) (e : atI xs i = some v) (h : Q v H) : rIxP K (.ref p) (.int i) H Q := ⟨xs, v, .inl (SqL.of hp), e, h⟩
theorem s_ixT {p : Addr} {xs : List V} {i : Int} (hp : H p = some (.tup xs)) (e : atI xs i = some v) (h : Q v H) : rIxP K (.ref p) (.int i) H Q := ⟨xs, v, .inr (SqT.of hp), e, h⟩
theorem s_slS {z : Str} {lo hi : Option Int} (hz : z.length ≤ sizeLine) (h : Q (.str (cutS z lo hi)) H) : rSlP K (.str z) lo hi H Q := ⟨hz, h⟩
theorem s_lenS {z : Str} (hz : z.length ≤ sizeLine) (h : Q (.int z.length) H) : rLenP K [.str z] H Q := ⟨hz, h⟩
theorem s_lenL {p : Addr} {xs : List V} (hp : H p = some (.lst xs)) (h : Q (.int xs.length) H) : rLenP K [.ref p] H Q := .inl ⟨xs, .inl (SqL.of hp), h⟩
theorem s_lenT {p : Addr} {xs : List V} (hp : H p = some (.tup xs)) (h : Q (.int xs.length) H) : rLenP K [.ref p] H Q := .inl ⟨xs, .inr (SqT.of hp), h⟩
theorem s_setL {p : Addr} {xs : List V} {k : Int} {j : Nat} {QH : Hp → Prop} (hp : H p = some (.lst xs)) (e : ixN xs.length k = some j) (h : QH (upd H p (.lst (xs.set j v)))) : rSetP (.ref p) (.int k) v H QH := .inl ⟨p, xs, k, j, rfl, rfl, hp, e, h⟩
theorem s_neg {i : Int} {f : Int → V} (h : Q (f i) H) : rU f (.int i) H Q := ⟨i, rfl, h⟩
theorem s_itd {p : Prop} [Decidable p] {A B : Prop} (h1 : p → A) (h2 : ¬p → B) : if decide p = true then A else B := by
  by_cases h : p
  · rw [if_pos (decide_eq_true h)]; exact h1 h
  · rw [if_neg (by rw [decide_eq_false h]; exact Bool.false_ne_true)]; exact h2 h
theorem s_itT {c : Bool} {A B : Prop} (hc : c = true) (h : A) : if c = true then A else B := by rw [if_pos hc]; exact h
theorem s_itF {c : Bool} {A B : Prop} (hc : c = false) (h : B) : if c = true then A else B := by rw [hc, if_neg Bool.false_ne_true]; exact h
theorem s_nocut (h : t { D with nx := u D } σ H) : tCut t u D σ H := ⟨u D, h, fun _ _ h => h⟩
theorem s_cut (Mid : L2.St → Hp → Prop) (h : t { D with nx := Mid } σ H) (h2 : ∀ σ' H', Mid σ' H' → u D σ' H') : tCut t u D σ H := ⟨Mid, h, h2⟩
theorem s_setU {p : Addr} {xs : List V} {k : Int} {j : Nat} {QH : Hp → Prop} (e : ixN xs.length k = some j) (h : QH (upd H p (.lst (xs.set j v)))) : rSetP (.ref p) (.int k) v (upd H p (.lst xs)) QH := by
  refine s_setL upd_same e ?_
  rw [upd_upd]
  exact h
theorem s_intI {i : Int} (h : Q (.int i) H) : rIntP [.int i] H Q := h
theorem s_listL {p : Addr} {ys : List V} (hp : SqL K H p ys) (h : ∀ l, H l = none → Q (.ref l) (upd H l (.lst ys))) : rListP K [.ref p] H Q := ⟨p, ys, rfl, .inl hp, h⟩
theorem s_rng1 {ta : TA} {R : L2.It → Hp → Prop} (h : ta σ H fun vs H1 => ∃ j : Int, vs = [.int j] ∧ -(2 ^ 62) ≤ j ∧ j < 2 ^ 62 ∧ R (Itr 0 j.toNat) H1) : iRng1 ta σ H R := h
/-! heaps -/
theorem same_new {p : Addr} {o : HO} (h : H p = none) : Same H (upd H p o) := fun b u e => by
  rw [upd_ne (ne_of_none e h)]
  exact e
/-- one object may have changed -/
def But (a : Addr) (H H' : Hp) : Prop := ∀ b o, H b = some o → b ≠ a → H' b = some o
theorem But.refl (a : Addr) (H : Hp) : But a H H := fun _ _ h _ => h
theorem But.trans {a : Addr} {H H1 H2 : Hp} (h1 : But a H H1) (h2 : But a H1 H2) : But a H H2 := fun b o h n => h2 b o (h1 b o h n) n
theorem But.of_same {a : Addr} {H H1 : Hp} (h : Same H H1) : But a H H1 := fun b o e _ => h b o e
theorem But.upd {a : Addr} {H : Hp} {o : HO} : But a H (upd H a o) := fun b u h n => by rw [upd_ne n]; exact h
theorem one_lt {n : Nat} (h : n ≤ 1000000) : n ≤ sizeLine := by rw [sizeLine_eq]; omega
end
end Px
/-! loops and comprehensions over anything whose items are known -/
namespace Px
open PySem PySem.Spec PyProof.Rows L2
/-- at turn i, the heap H: the items are xs -/
def YieldsAt (J : L2.It) (xs : List V) (i : Nat) (H : Hp) : Prop := (∀ h : i < xs.length, J.go i H ∧ ∀ x H', J.yld i H x H' → H' = H ∧ xs[i]? = some x) ∧ (xs.length ≤ i → J.stop i H)
theorem yields_str (z : Str) (i : Nat) (H : Hp) : YieldsAt (Its z) (z.cps.toList.map fun c => V.str ⟨#[c]⟩) i H := by
  refine ⟨fun h => ⟨?_, fun x H' hy => ?_⟩, fun h => ?_⟩
  · show i < z.cps.size
    simpa using h
  · obtain ⟨e, c, hc, rfl⟩ := hy
    refine ⟨e, ?_⟩
    rw [List.getElem?_map]
    have : z.cps.toList[i]? = some c := by simpa using hc
    rw [this]
    rfl
  · show z.cps.size ≤ i
    simpa using h
theorem yields_range (lo : Int) (n i : Nat) (H : Hp) : YieldsAt (Itr lo n) ((List.range n).map fun (j : Nat) => V.int (lo + (j : Int))) i H := by
  refine ⟨fun h => ⟨?_, fun x H' hy => ?_⟩, fun h => ?_⟩
  · show i < n
    simpa using h
  · obtain ⟨e, rfl⟩ := hy
    refine ⟨e, ?_⟩
    have hi : i < n := by simpa using h
    rw [List.getElem?_map, List.getElem?_range hi]
    rfl
  · show n ≤ i
    simpa using h
theorem yields_list {K : PySem.W.Frag} {a : Addr} {xs : List V} {H : Hp} (h : SqL K H a xs) (i : Nat) : YieldsAt (Itl K a) xs i H := by
  refine ⟨fun hi => ⟨⟨xs, xs[i], h, by simp [hi]⟩, fun x H' hy => ⟨hy.1, hy.2 xs h⟩⟩, fun hi => ⟨xs, h, hi⟩⟩
theorem yields_tup {K : PySem.W.Frag} {a : Addr} {xs : List V} {H : Hp} (h : SqT K H a xs) (i : Nat) : YieldsAt (Itt K a) xs i H := by
  refine ⟨fun hi => ⟨⟨xs, xs[i], h, by simp [hi]⟩, fun x H' hy => ⟨hy.1, hy.2 xs h⟩⟩, fun hi => ⟨xs, h, hi⟩⟩
theorem Same.sqT {K : PySem.W.Frag} {H H' : Hp} {a : Addr} {xs : List V} (e : Same H H') (h : SqT K H a xs) : SqT K H' a xs := by
  rcases h with (h | ⟨o, h⟩) | h
  · exact .inl (.inl (e _ _ h))
  · exact .inl (.inr ⟨o, e _ _ h⟩)
  · exact .inr h
section
variable {K : PySem.W.Frag} {σ : L2.St} {H H1 : Hp} {D : Ends} {Q : VK} {J : L2.It} {xs : List V}
/-- a comprehension over known items, by an invariant -/
theorem lc_y {g : TG} {tt : TT} {te : TE} {vs : List Nat} {Dr : Addr} {Qd : Hp → Prop} (Pv : Nat → Hp → Prop) (h0 : Pv 0 (upd H1 Dr (.lst []))) (hy : ∀ i H, i ≤ xs.length → Pv i H → YieldsAt J xs i H)
    (hs : ∀ i x H, xs[i]? = some x → Pv i H → g x (wipe σ vs) H fun σ2 H2 => wipe σ2 vs = wipe σ vs ∧ tt σ2 H2 fun b H3 =>
      if b = true then te σ2 H3 fun y H4 => ∃ acc, H4 Dr = some (.lst acc) ∧ acc.length < sizeLine ∧ Pv (i + 1) (upd H4 Dr (.lst (acc ++ [y]))) else Pv (i + 1) H3) (hd : ∀ H, Pv xs.length H → Qd H) :
    ∃ W : Nat → Nat → Hp → Prop, (∃ m, W 0 m (upd H1 Dr (.lst []))) ∧ ∀ i m H, W i m H →
      (J.stop i H ∧ Qd H) ∨ (J.go i H ∧ ∃ Nx : Hp → Prop, (∀ H', Nx H' → ∃ m', m' < m ∧ W (i + 1) m' H') ∧ ∀ x H', J.yld i H x H' → g x (wipe σ vs) H' fun σ2 H2 => wipe σ2 vs = wipe σ vs ∧ tt σ2 H2 fun b H3 =>
        if b = true then te σ2 H3 fun y H4 => ∃ acc, H4 Dr = some (.lst acc) ∧ acc.length < sizeLine ∧ Nx (upd H4 Dr (.lst (acc ++ [y]))) else Nx H3) := by
  refine ⟨fun i m H => m = xs.length - i ∧ i ≤ xs.length ∧ Pv i H, ⟨xs.length, by simp, Nat.zero_le _, h0⟩, ?_⟩
  rintro i m H ⟨rfl, hi, p⟩
  have q := hy i H hi p
  by_cases hlt : i < xs.length
  · refine .inr ⟨(q.1 hlt).1, Pv (i + 1), fun H' p' => ⟨xs.length - (i + 1), by omega, rfl, hlt, p'⟩, fun x H' y => ?_⟩
    obtain ⟨e, hx⟩ := (q.1 hlt).2 x H' y
    subst e
    exact hs i x H' hx p
  · have e : i = xs.length := by omega
    subst e
    exact .inl ⟨q.2 (Nat.le_refl _), hd H p⟩
theorem take_more {α : Type} {l : List α} {i : Nat} {x : α} (h : l[i]? = some x) : l.take (i + 1) = l.take i ++ [x] := by
  obtain ⟨hi, rfl⟩ := List.getElem?_eq_some_iff.mp h
  rw [List.take_succ_eq_append_getElem hi]
/-- [e for x in ..]: each item's value is f x, the heap only grows -/
theorem lc_map {v : Nat} {te : TE} {f : V → V} (hx : xs.length ≤ 1000000) (hy : ∀ i H, Same H1 H → YieldsAt J xs i H)
    (hf : ∀ x ∈ xs, ∀ H', Same H1 H' → ∀ Q' : VK, (∀ H'', Same H' H'' → Q' (f x) H'') → te (σ.set v (some x)) H' Q')
    (hq : ∀ D H', H1 D = none → Same H1 H' → H' D = some (.lst (xs.map f)) → Q (.ref D) H') :
    ∀ Dr, H1 Dr = none → ∃ W : Nat → Nat → Hp → Prop, (∃ m, W 0 m (upd H1 Dr (.lst []))) ∧ ∀ i m H, W i m H →
      (J.stop i H ∧ Q (.ref Dr) H) ∨ (J.go i H ∧ ∃ Nx : Hp → Prop, (∀ H', Nx H' → ∃ m', m' < m ∧ W (i + 1) m' H') ∧ ∀ x H', J.yld i H x H' → gName v x (wipe σ [v]) H' fun σ2 H2 => wipe σ2 [v] = wipe σ [v] ∧ tYes σ2 H2 fun b H3 =>
        if b = true then te σ2 H3 fun y H4 => ∃ acc, H4 Dr = some (.lst acc) ∧ acc.length < sizeLine ∧ Nx (upd H4 Dr (.lst (acc ++ [y]))) else Nx H3) := by
  intro Dr hD
  refine lc_y (xs := xs) (fun i H => Same H1 H ∧ H Dr = some (.lst ((xs.take i).map f))) ⟨same_new hD, by simp [upd_same]⟩ (fun i H _ p => hy i H p.1) ?_ (fun H p => hq Dr H hD p.1 (by rw [p.2, List.take_length]))
  rintro i x H hi ⟨sm, hl⟩
  have e1 : wipe σ [v] = σ.set v none := rfl
  rw [e1]
  have e2 : (σ.set v none).set v (some x) = σ.set v (some x) := by rw [List.set_set]
  have e3 : wipe (σ.set v (some x)) [v] = σ.set v none := by show (σ.set v (some x)).set v none = _; rw [List.set_set]
  unfold gName
  rw [e2]
  refine ⟨e3, ?_⟩
  unfold tYes
  dsimp only
  rw [if_pos rfl]
  refine hf x (List.mem_of_getElem? hi) H sm _ fun H'' s2 => ?_
  refine ⟨_, s2 _ _ hl, ?_, fun b o e => ?_, ?_⟩
  · rw [List.length_map, List.length_take, sizeLine_eq]
    have := (List.getElem?_eq_some_iff.mp hi).1
    omega
  · rw [upd_ne (ne_of_none e hD)]
    exact s2 _ _ (sm _ _ e)
  · rw [upd_same, take_more hi, List.map_append]
    rfl
/-! with what follows kept whole -/
/-- the items of a value that is walked -/
def Items (K : PySem.W.Frag) (H : Hp) (x : V) (xs : List V) : Prop := match x with
  | .str z => xs = z.cps.toList.map fun c => V.str ⟨#[c]⟩
  | .ref a => SqL K H a xs ∨ SqT K H a xs
  | _ => False
theorem Items.keep {H' : Hp} {x : V} (h : Items K H x xs) (s : Same H H') : Items K H' x xs := by
  cases x <;> first
    | exact False.elim h
    | exact h
    | (rcases h with h | h
       · exact .inl (s.seq h)
       · exact .inr (Same.sqT s h))
def LcB (J : L2.It) (g : TG) (tt : TT) (te : TE) (vs : List Nat) (σ : L2.St) (Q : VK) (H1 : Hp) : Prop := ∀ D, H1 D = none → ∃ W : Nat → Nat → Hp → Prop, (∃ m, W 0 m (upd H1 D (.lst []))) ∧ ∀ i m H, W i m H →
  (J.stop i H ∧ Q (.ref D) H) ∨ (J.go i H ∧ ∃ Nx : Hp → Prop, (∀ H', Nx H' → ∃ m', m' < m ∧ W (i + 1) m' H') ∧ ∀ x H', J.yld i H x H' → g x (wipe σ vs) H' fun σ2 H2 => wipe σ2 vs = wipe σ vs ∧ tt σ2 H2 fun b H3 =>
    if b = true then te σ2 H3 fun y H4 => ∃ acc, H4 D = some (.lst acc) ∧ acc.length < sizeLine ∧ Nx (upd H4 D (.lst (acc ++ [y]))) else Nx H3)
def LcBody (K : PySem.W.Frag) (g : TG) (tt : TT) (te : TE) (vs : List Nat) (σ : L2.St) (Q : VK) (x : V) (H1 : Hp) : Prop := match x with
  | .str z => LcB (Its z) g tt te vs σ Q H1
  | .ref a => ((∃ xs, SqL K H1 a xs) ∧ LcB (Itl K a) g tt te vs σ Q H1) ∨ ((∃ xs, SqT K H1 a xs) ∧ LcB (Itt K a) g tt te vs σ Q H1)
  | _ => False
theorem s_lcA {te0 te : TE} {g : TG} {tt : TT} {vs : List Nat} (h : te0 σ H fun x H1 => LcBody K g tt te vs σ Q x H1) : tLc (iAnyP K te0) g tt te vs σ H Q := h
def LcBodyR (g : TG) (tt : TT) (te : TE) (vs : List Nat) (σ : L2.St) (Q : VK) (ws : List V) (H1 : Hp) : Prop := ∃ j : Int, ws = [.int j] ∧ -(2 ^ 62) ≤ j ∧ j < 2 ^ 62 ∧ LcB (Itr 0 j.toNat) g tt te vs σ Q H1
theorem s_lcR {ta : TA} {te : TE} {g : TG} {tt : TT} {vs : List Nat} (h : ta σ H fun ws H1 => LcBodyR g tt te vs σ Q ws H1) : tLc (iRng1 ta) g tt te vs σ H Q := h
theorem lcb_items {g : TG} {tt : TT} {te : TE} {vs : List Nat} {x : V} (hx : Items K H1 x xs) (h : ∀ J, (∀ i H, Same H1 H → YieldsAt J xs i H) → LcB J g tt te vs σ Q H1) : LcBody K g tt te vs σ Q x H1 := by
  cases x <;> first
    | exact False.elim hx
    | (have e : xs = _ := hx
       subst e
       exact h _ fun i H _ => yields_str _ i H)
    | (rcases hx with hx | hx
       · exact .inl ⟨⟨xs, hx⟩, h _ fun i H s => yields_list (s.seq hx) i⟩
       · exact .inr ⟨⟨xs, hx⟩, h _ fun i H s => yields_tup (Same.sqT s hx) i⟩)
/-- [e for x in y]: each item's value is f x, the heap only grows -/
theorem lcb_map {v : Nat} {te : TE} {x : V} (f : V → V) (hx : Items K H1 x xs) (hl : xs.length ≤ 1000000)
    (hf : ∀ x ∈ xs, ∀ H', Same H1 H' → ∀ Q' : VK, (∀ H'', Same H' H'' → Q' (f x) H'') → te (σ.set v (some x)) H' Q')
    (hq : ∀ D H', H1 D = none → Same H1 H' → H' D = some (.lst (xs.map f)) → Q (.ref D) H') : LcBody K (gName v) tYes te [v] σ Q x H1 :=
  lcb_items hx fun _ hy => lc_map hl hy hf hq
theorem lcr_map {v : Nat} {te : TE} {j : Int} (f : V → V) (h1 : j ≤ 1000000) (h0 : -1000000 ≤ j)
    (hf : ∀ i : Nat, (i : Int) < j → ∀ H', Same H1 H' → ∀ Q' : VK, (∀ H'', Same H' H'' → Q' (f (.int i)) H'') → te (σ.set v (some (.int i))) H' Q')
    (hq : ∀ D H', H1 D = none → Same H1 H' → H' D = some (.lst ((List.range j.toNat).map fun (i : Nat) => f (.int i))) → Q (.ref D) H') : LcBodyR (gName v) tYes te [v] σ Q [.int j] H1 := by
  refine ⟨j, rfl, by omega, by omega, ?_⟩
  refine lc_map (xs := (List.range j.toNat).map fun (i : Nat) => V.int (0 + (i : Int))) (f := f) (by rw [List.length_map, List.length_range]; omega) (fun i H _ => yields_range 0 j.toNat i H) ?_ ?_
  · intro x hx
    obtain ⟨i, hi, rfl⟩ := List.mem_map.mp hx
    have := List.mem_range.mp hi
    rw [Int.zero_add]
    exact hf i (by omega)
  · intro D H' hD s hl
    refine hq D H' hD s ?_
    rw [hl, List.map_map]
    congr 2
    apply List.map_congr_left
    intro i _
    show f (.int (0 + (i : Int))) = _
    rw [Int.zero_add]
def ForB (J : L2.It) (g : TG) (tb : TS) (D : Ends) (σ : L2.St) (H : Hp) : Prop := ∃ W : Nat → Nat → L2.St → Hp → Prop, (∃ m, W 0 m σ H) ∧ ∀ i m σ H, W i m σ H →
      (J.stop i H ∧ D.nx σ H) ∨ (J.go i H ∧ ∃ N : L2.St → Hp → Prop, (∀ σ' H', N σ' H' → ∃ m', m' < m ∧ W (i + 1) m' σ' H') ∧ ∀ x H', J.yld i H x H' → g x σ H' fun σ2 H2 => tb { D with nx := N, ct := N, bk := D.nx } σ2 H2)
def ForBody (K : PySem.W.Frag) (g : TG) (tb : TS) (D : Ends) (σ : L2.St) (x : V) (H1 : Hp) : Prop := match x with
  | .str z => ForB (Its z) g tb D σ H1
  | .ref a => ((∃ xs, SqL K H1 a xs) ∧ ForB (Itl K a) g tb D σ H1) ∨ ((∃ xs, SqT K H1 a xs) ∧ ForB (Itt K a) g tb D σ H1)
  | _ => False
theorem s_forA {te0 : TE} {g : TG} {tb : TS} (h : te0 σ H fun x H1 => ForBody K g tb D σ x H1) : tFor (iAnyP K te0) g tb D σ H := h
def ForBodyR (g : TG) (tb : TS) (D : Ends) (σ : L2.St) (ws : List V) (H1 : Hp) : Prop := ∃ j : Int, ws = [.int j] ∧ -(2 ^ 62) ≤ j ∧ j < 2 ^ 62 ∧ ForB (Itr 0 j.toNat) g tb D σ H1
theorem s_forR {ta : TA} {g : TG} {tb : TS} (h : ta σ H fun ws H1 => ForBodyR g tb D σ ws H1) : tFor (iRng1 ta) g tb D σ H := h
theorem forr_inv {g : TG} {tb : TS} {j : Int} (h0 : -1000000000 ≤ j) (h1 : j ≤ 1000000000) (Pv : Nat → L2.St → Hp → Prop) (hp : Pv 0 σ H)
    (hs : ∀ (i : Nat) σ H, (i : Int) < j → Pv i σ H → g (.int i) σ H fun σ2 H2 => tb { D with nx := Pv (i + 1), ct := Pv (i + 1), bk := D.nx } σ2 H2) (hd : ∀ σ H, Pv j.toNat σ H → D.nx σ H) : ForBodyR g tb D σ [.int j] H := by
  refine ⟨j, rfl, by omega, by omega, ?_⟩
  refine for_range (lo := 0) (n := j.toNat) Pv hp (fun i σ H hi p => ?_) hd
  rw [Int.zero_add]
  exact hs i σ H (by omega) p
theorem s_all {a : Addr} {bs : List Bool} (hp : H a = some (.lst (bs.map V.bl))) (h : Q (.bl (bs.all id)) H) : rAll K [.ref a] H Q := ⟨a, bs, rfl, SqL.of hp, h⟩
end
end Px
/-! try with several clauses 'except x as n' -/
namespace L2N
open PySem PySem.Spec PyProof.Rows L2
/-- one clause: its class, the slot of its name, its suite's reading -/
abbrev Cla := Value × Nat × (Addr → Value → Option Addr → TS)
inductive Clas (X : Cx) : List ExceptHandler → List Cla → Prop
  | nil : Clas X [] []
  | cons {x n : Str} {c : Value} {i : Nat} {ts : Addr → Value → Option Addr → TS} {b1 : Stmt} {bs : List Stmt} {np p : Pos} {hds : List ExceptHandler} {l : List Cla} (hi : X.N[i]? = some n) (hln : X.env.kindOf n = some .local) (hc : Names X x c)
      (hsu : ∀ (a : Addr) (oe : Obj) (cls : Value) (d : Option Addr) (pn : List (Addr × Obj)), Zn cls d oe → (∃ vs, oe.data = .fields vs) → PSs (X.suite a ((a, oe) :: pn)) (b1 :: bs) (ts a cls d)) (r : Clas X hds l) :
      Clas X (.ExceptHandler (some (.Name x np)) (some n) (b1 :: bs) p :: hds) ((c, i, ts) :: l)
end L2N
/-! own classes: making, fields, constants -/
namespace Cl
open PySem PySem.Spec PyProof.Rows L2
theorem passNA {X : Cx} (σ : L2.St) : PassesAt (L2N.CX X.prog X.w) X σ E0 := fun _ _ _ _ _ _ h => by
  obtain ⟨_, _, _, _, _, _, _, _, _, _, _, _, z⟩ := h
  exact z.elim
section
variable {X : Cx} {CX : CXT} {k : Nat} {f C : Addr} {sp : Sp} {E : L2.St → XK} {x : Str} {e : Expr} {es : List Expr} {t : TA} {p pos : Pos}
/-- C(..): a new instance and its dict, then __init__ by its positional promise -/
def tMakeS (C : Addr) (sp : Sp) (E : L2.St → XK) (t : TA) : TE := fun σ H Q => t σ H fun vs H1 => ∀ x dx, H1 x = none → H1 dx = none → dx ≠ x →
  sp (V.ref x :: vs) (upd (upd H1 dx (.own x)) x (.ins C dx [])) (fun v H2 => v = .non ∧ Q (.ref x) H2) (E σ)
theorem run_makeS {pins : List (Addr × Obj)} {σ : L2.St} {H : Hp} {s : Shared} {Q : VK} {us : List Value} {vs : List V} (M : Mk X.K C f) (F : FnR X.prog X.w X.K X.mg X.base CX k f sp) (hr : Room (k + 1) X.A) (hx : PassesAt CX X σ (E σ)) (I : Inv X pins σ H s) (r : Vals vs us)
    (h : ∀ x dx, H x = none → H dx = none → dx ≠ x → sp (V.ref x :: vs) (upd (upd H dx (.own x)) x (.ins C dx [])) (fun v H2 => v = .non ∧ Q (.ref x) H2) (E σ)) :
    wpAny (model X.prog X.w) X.A (call (.ref C) us) (EP X pins σ Q) X.xe s := by
  have hq := h (s.heap.objs.size + 1) s.heap.objs.size (I.hok.fresh (Nat.le_succ _)) (I.hok.fresh (Nat.le_refl _)) (Nat.ne_of_lt (Nat.lt_succ_self _))
  have I2 := Inv.made (C := C) I
  refine wpAny_call (make_map (f := f) I.kIn M.makes M.init (beq_iff_eq.mp M.fn) (codeAny_mono (F _ X.stack _ _ (Value.ref (s.heap.objs.size + 1) :: us) _ _ (E σ) (hr.make C us []) (I2.env0.make C us []) (show Vals (V.ref (s.heap.objs.size + 1) :: vs) (Value.ref (s.heap.objs.size + 1) :: us) from .cons rfl r) hq) fun r s' hq' => ?_))
  cases r with
  | error e => exact hx pins _ _ e s' I2 hq'
  | ok fl =>
    cases fl with
    | ret u =>
      obtain ⟨v, H', I3, rv, ev, q3⟩ := I2.after hq'
      subst ev
      exact ⟨rv, V.ref (s.heap.objs.size + 1), H', I3, rfl, q3⟩
    | _ => exact hq'.elim
theorem pe_makeS (M : Mk X.K C f) (F : FnR X.prog X.w X.K X.mg X.base CX k f sp) (hr : Room (k + 1) X.A) (hg : Gl X x) (hm : X.mg x = some (.ref C)) (hx : ∀ σ, PassesAt CX X σ (E σ)) (ha : PA X (e :: es) t) (hdb : (x == ("__debug__" : Str)) = false := by decide)
    (he : starEach (e :: es) X.env = (false, eval e X.env) :: starEach es X.env := by rfl) (hpl : (backTo pos (starEach es X.env)).any (·.1) = false := by rfl) : PE X (.Call (.Name x p) (e :: es) [] pos) (tMakeS C sp E t) := by
  refine ⟨fun pins s σ H Q I h => wpAny_Call_Name_kw (ld_glob I hg hm ?_ hdb)⟩
  exact PySem.W.callWith_K (h₀ := X.base) I.ok.mod.kin M.kp (thn (ha.run pos pins s σ H _ I h) fun us s1 ⟨vs, H1, I1, r, q⟩ => ⟨I1.kIn, run_makeS M F hr (hx σ) I1 r q⟩) he hpl
end
theorem toR {P : Program} {w : World} {K : PySem.W.Frag} {mg : Str → Option Value} {base : Heap} {CX : CXT} {k : Nat} {f : Addr} {fd : FuncData} {ps : List Str} {sp : Sp} (F : FnOk P w K mg base CX k f fd ps sp) (hb : Binds K fd ps []) : FnR P w K mg base CX k f sp := by
  intro A outer s H us vs Q E hr e0 r h
  have hl : (us ++ []).length = ps.length := by rw [List.append_nil, ← r.length]; exact F.len _ _ _ _ h
  have z := hb s us (e0.mod.kin.keeps fun b o e => (e0.bs b o e).1) hl
  rw [List.append_nil] at z
  exact F.run A outer s H ⟨us, []⟩ us vs Q E hr e0 z r h
/-! attributes by the class of the object -/
abbrev Alt := Addr → List (Str × V) → L2.St → Hp → VK → Prop
def AltOk (X : Cx) (f : Str) (C : Addr) (r : Alt) : Prop := ∀ (pins : List (Addr × Obj)) (s : Shared) (σ : L2.St) (H : Hp) (a dx : Addr) (fs : List (Str × V)) (Q : VK), Inv X pins σ H s → H a = some (.ins C dx fs) → r a fs σ H Q →
  wpAny (model X.prog X.w) X.A (getAttr (.ref a) f true) (EP X pins σ Q) X.xe s
/-- e.f, by the alternatives of its object's class -/
def tAtt (l : List (Addr × Alt)) (te : TE) : TE := fun σ H Q => te σ H fun x H1 => ∃ (a dx : Addr) (fs : List (Str × V)) (i : Nat) (C : Addr) (r : Alt), x = .ref a ∧ l[i]? = some (C, r) ∧ H1 a = some (.ins C dx fs) ∧ r a fs σ H1 Q
def aFld (f : Str) : Alt := fun _ fs _ H Q => ∃ v, fs.lookup f = some v ∧ Q v H
section
variable {X : Cx} {f : Str} {C : Addr} {e : Expr} {te : TE} {pos : Pos}
theorem alt_fld (c : Cls X.K C) (n : NoAttr X.K C f) : AltOk X f C (aFld f) := fun pins s σ H a dx fs Q I ha ⟨v, l, q⟩ => getattr_ok I ha c n l fun u s' I' r => ⟨v, H, I', r, q⟩
inductive Alts (X : Cx) (f : Str) : List (Addr × Alt) → Prop
  | nil : Alts X f []
  | cons {C : Addr} {r : Alt} {l : List (Addr × Alt)} : AltOk X f C r → Alts X f l → Alts X f ((C, r) :: l)
theorem Alts.at {l : List (Addr × Alt)} (h : Alts X f l) : ∀ {i : Nat} {r : Alt}, l[i]? = some (C, r) → AltOk X f C r := by
  induction h with
  | nil => intro i r e; cases e
  | cons h _ ih =>
    intro i r e
    cases i with
    | zero => cases e; exact h
    | succ i => exact ih (by simpa using e)
theorem pe_att {l : List (Addr × Alt)} (h : Alts X f l) (he : PE X e te) (hb : attributeBase e f X.env (eval e X.env) = eval e X.env := by rfl) : PE X (.Attribute e f pos) (tAtt l te) := by
  refine ⟨fun pins s σ H Q I q => attr_of hb (thn (he.run pins s σ H _ I q) fun u s1 ⟨x, H1, I1, rx, a, dx, fs, i, C, r, ex, hl, ha, q1⟩ => ?_)⟩
  subst ex
  obtain rfl : u = Value.ref a := rx
  exact h.at hl pins s1 σ H1 a dx fs Q I1 ha q1
/-- e.f = v, by the class -/
def sAtt (l : List Addr) (ta tv : TE) (f : Str) : TS := fun D σ H => tv σ H fun y H1 => ta σ H1 fun x H2 => ∃ a C dx fs, x = .ref a ∧ C ∈ l ∧ H2 a = some (.ins C dx fs) ∧ fs.length < 1000 ∧ D.nx σ (upd H2 a (.ins C dx (putF f y fs)))
theorem ps_att {l : List Addr} {o value : Expr} {ta tv : TE} {pos' : Pos} (h : ∀ C ∈ l, Cls X.K C ∧ NoAttr X.K C f) (ha : PE X o ta) (hv : PE X value tv) (hs : swapsWith value (some (.Attribute o f pos')) pos.line X.env = pure false := by rfl) : PS X (.Assign [.Attribute o f pos'] value pos) (sAtt l ta tv f) := by
  refine ⟨fun pins s σ H D I q => plainObj_wpAny_Assign_Attribute (thn (hv.run pins s σ H _ I q) fun u s1 ⟨y, H1, I1, ry, q1⟩ => thn (ha.run pins s1 σ H1 _ I1 q1) fun ov s2 ⟨x, H2, I2, rx, a, C, dx, fs, ex, hC, ea, l1, q2⟩ => ?_) hs⟩
  subst ex
  obtain rfl : ov = Value.ref a := rx
  exact setattr_ok I2 ea (h C hC).1 (h C hC).2 l1 ry fun s3 I3 => ⟨σ, _, I3, q2⟩
/-- C.f, a constant read of the class itself -/
def tCls (v : V) : TE := fun _ H Q => Q v H
end
end Cl
namespace L2
open PySem PySem.Spec PyProof.Rows
end L2
/-! the head's facts of classes -/
namespace Hk
open PySem PySem.W PySem.Spec PyProof.Rows L2 He
/-- what isinstance asks of a class of instances -/
structure InsK (K : Frag) (C : Addr) : Prop where
  cl : Cls K C
  ha : findIn K (.ref C) "__class__" = some (some (.builtin "object.__class__"))
  hn : specialIn K (.builtin "object.__class__") "__get__" = some (some (.builtin "getset_descriptor.__get__"))
  ht : takesIn K (.builtin "object.__class__") = some true
  hm : mroIn K C (.type "object") = some true
theorem InsK.ty {K : Frag} {C a dx : Addr} {fs : List (PySem.Str × V)} {H : Hp} (k : InsK K C) (h : H a = some (.ins C dx fs)) : TyX K H (.ref a) (.ref C) := .base (.ins h k.cl k.ha k.hn k.ht k.hm)
def insKB (K : Frag) (C : Addr) : Bool := eqO (findIn K (.ref C) "__class__") (some (some (.builtin "object.__class__"))) && (eqO (specialIn K (.builtin "object.__class__") "__get__") (some (some (.builtin "getset_descriptor.__get__"))) && (decide (takesIn K (.builtin "object.__class__") = some true) && decide (mroIn K C (.type "object") = some true)))
theorem insKB_ok {K : Frag} {C : Addr} (c : Cls K C) (h : insKB K C = true) : InsK K C := by
  unfold insKB at h
  obtain ⟨h1, h⟩ := ba h
  obtain ⟨h2, h⟩ := ba h
  obtain ⟨h3, h4⟩ := ba h
  exact ⟨c, eqO_ok h1, eqO_ok h2, of_decide_eq_true h3, of_decide_eq_true h4⟩
end Hk
/-! lists' methods, sorted, dicts with text keys, comprehensions with if; classes: steps -/
namespace Px
open PySem PySem.Spec PyProof.Rows L2
section
variable {K : PySem.W.Frag} {σ : L2.St} {H H1 : Hp} {D : Ends} {Q : VK} {t : TA} {te to ta tv : TE} {v x y : V} {p : Addr} {xs : List V}
theorem s_bm {T : String} {r : V → List V → Hp → VK → Prop} (h : to σ H fun x H1 => tyV K T x H1 ∧ t σ H1 fun xs H2 => r x xs H2 Q) : tBM K T r to t σ H Q := h
/-! dicts that keep True for texts -/
theorem s_strS {z : Str} (h : Q (.str z) H) : rStrP [.str z] H Q := h
theorem s_strI {i : Int} (hl : i.natAbs.log2 < 1920) (h : Q (.str (toString i)) H) : rStrP [.int i] H Q := ⟨hl, h⟩
/-! classes -/
theorem s_make {C : Addr} {sp : Sp} {E : L2.St → XK} (h : t σ H fun vs H1 => ∀ x dx, H1 x = none → H1 dx = none → dx ≠ x → sp (V.ref x :: vs) (upd (upd H1 dx (.own x)) x (.ins C dx [])) (fun v H2 => v = .non ∧ Q (.ref x) H2) (E σ)) : Cl.tMakeS C sp E t σ H Q := h
theorem s_cls {v : V} (h : Q v H) : Cl.tCls v σ H Q := h
theorem s_att {l : List (Addr × Cl.Alt)} (h : te σ H fun x H1 => ∃ (a dx : Addr) (fs : List (Str × V)) (i : Nat) (C : Addr) (r : Cl.Alt), x = .ref a ∧ l[i]? = some (C, r) ∧ H1 a = some (.ins C dx fs) ∧ r a fs σ H1 Q) : Cl.tAtt l te σ H Q := h
theorem s_setA {l : List Addr} {f : Str} (h : tv σ H fun y H1 => ta σ H1 fun x H2 => ∃ a C dx fs, x = .ref a ∧ C ∈ l ∧ H2 a = some (.ins C dx fs) ∧ fs.length < 1000 ∧ D.nx σ (upd H2 a (.ins C dx (putF f y fs)))) : Cl.sAtt l ta tv f D σ H := h
end
end Px
/-! operators of own classes -/
namespace Cl
open PySem PySem.Spec PyProof.Rows L2
abbrev R2S := L2.St → R2
def tOpS (r : R2S) (ta tb : TE) : TE := fun σ H Q => ta σ H fun x H1 => tb σ H1 fun y H2 => r σ x y H2 Q
section
variable {X : Cx} {CX : CXT} {k : Nat} {f C : Addr} {sp : Sp} {E : L2.St → XK} {a b : Expr} {ta tb : TE} {pos : Pos} {r : R2S}
/-- a def is run by its positional promise, its exceptions by the slots -/
theorem run_RS {pins : List (Addr × Obj)} {σ : L2.St} {H : Hp} {s : Shared} {Q : VK} {us : List Value} {vs : List V} (F : FnR X.prog X.w X.K X.mg X.base CX k f sp) (hr : Room k X.A) (hx : PassesAt CX X σ (E σ)) (I : Inv X pins σ H s) (rv : Vals vs us) (h : sp vs H Q (E σ)) :
    wpAny (model X.prog X.w) X.A (call (.ref f) us) (EP X pins σ Q) X.xe s := by
  refine wpAny_call (codeAny_mono (F X.A X.stack s H us vs Q (E σ) hr I.env0 rv h) fun r s' hq => ?_)
  cases r with
  | error e => exact hx pins H s e s' I hq
  | ok fl =>
    cases fl with
    | ret u => exact I.after hq
    | _ => exact hq.elim
/-- alternatives by the class of the left object -/
def AltB (X : Cx) (f : Value → Value → Sem Value) (C : Addr) (sp : Sp) (E : L2.St → XK) : Prop := ∀ (pins : List (Addr × Obj)) (s : Shared) (σ : L2.St) (H : Hp) (a b dx dy : Addr) (fs gs : List (Str × V)) (Q : VK), Inv X pins σ H s → H a = some (.ins C dx fs) → H b = some (.ins C dy gs) → sp [.ref a, .ref b] H Q (E σ) →
  wpAny (model X.prog X.w) X.A (f (.ref a) (.ref b)) (EP X pins σ Q) X.xe s
structure OwnOp (K : PySem.W.Frag) (C : Addr) (m : Str) (f : Addr) : Prop where
  at_ : PySem.W.findIn K (.ref C) m = some (some (.ref f))
  fn : PySem.W.isFn K (.ref f) = true
  sf : PySem.W.selfFirst K C = true
inductive AltBs (X : Cx) (f : Value → Value → Sem Value) (E : L2.St → XK) : List (Addr × Sp) → Prop
  | nil : AltBs X f E []
  | cons {C : Addr} {sp : Sp} {l : List (Addr × Sp)} : AltB X f C sp E → AltBs X f E l → AltBs X f E ((C, sp) :: l)
theorem AltBs.at {g : Value → Value → Sem Value} {l : List (Addr × Sp)} (h : AltBs X g E l) : ∀ {i : Nat}, l[i]? = some (C, sp) → AltB X g C sp E := by
  induction h with
  | nil => intro i e; cases e
  | cons h _ ih =>
    intro i e
    cases i with
    | zero => cases e; exact h
    | succ i => exact ih (by simpa using e)
/-! x in an own container -/
def AltI (X : Cx) (C : Addr) (sp : Sp) (E : L2.St → XK) : Prop := ∀ (neg : Bool) (pins : List (Addr × Obj)) (s : Shared) (σ : L2.St) (H : Hp) (x : V) (v : Value) (b dy : Addr) (gs : List (Str × V)) (Q : VK), Inv X pins σ H s → RelV x v → H b = some (.ins C dy gs) → sp [.ref b, x] H (fun z H' => ∃ c, z = .bl c ∧ Q (.bl (Px.tgtIn neg c)) H') (E σ) →
  wpAny (model X.prog X.w) X.A (compareOp (if neg then .NotIn else .In) v (.ref b)) (EP X pins σ Q) X.xe s
inductive AltIs (X : Cx) (E : L2.St → XK) : List (Addr × Sp) → Prop
  | nil : AltIs X E []
  | cons {C : Addr} {sp : Sp} {l : List (Addr × Sp)} : AltI X C sp E → AltIs X E l → AltIs X E ((C, sp) :: l)
theorem AltIs.at {l : List (Addr × Sp)} (h : AltIs X E l) : ∀ {i : Nat}, l[i]? = some (C, sp) → AltI X C sp E := by
  induction h with
  | nil => intro i e; cases e
  | cons h _ ih =>
    intro i e
    cases i with
    | zero => cases e; exact h
    | succ i => exact ih (by simpa using e)
end
end Cl
/-! walking own objects: __iter__ says return iter(self.f), f a tuple -/
namespace Cl
open PySem PySem.Spec PyProof.Rows L2
/-- an iterator of the tuple at t, as it begins -/
def TiO (t it : Addr) : HO := .ext fun h => h.IsTupleIter it t 0
/-- what a class must have that its objects are walked by the tuple in the field f -/
structure IterF (P : Program) (w : World) (K : PySem.W.Frag) (mg : Str → Option Value) (base : Heap) (k : Nat) (C : Addr) (f : Str) : Prop where
  run : ∃ fi : Addr, PySem.W.findIn K (.ref C) "__iter__" = some (some (.ref fi)) ∧ PySem.W.isFn K (.ref fi) = true ∧
    ∀ (A : Around) (outer : List Env) (s : Shared) (H : Hp) (a dx t : Addr) (fs : List (Str × V)) (xs : List V), Room k A → Env0 P w K mg base A outer s H → H a = some (.ins C dx fs) → fs.lookup f = some (.ref t) → SqT K H t xs →
      codeAny (model P w) A (.call (.ref fi) ⟨[.ref a], []⟩) (CR (L2N.CX P w) outer P w H s (fun y H' => ∃ it, y = .ref it ∧ H it = none ∧ s.heap.objs.size ≤ it ∧ H' = upd H it (TiO t it)) E0) s
section
variable {X : Cx} {k : Nat} {C : Addr} {f : Str} {pins : List (Addr × Obj)} {σ : L2.St} {H : Hp} {s : Shared} {a dx t : Addr} {fs : List (Str × V)} {xs : List V}
/-- len's promise: so many, all stands -/
def spLen (C : Addr) (f : Str) : Sp := fun vs H Q _ => ∃ a dx fs t xs, vs = [.ref a] ∧ H a = some (.ins C dx fs) ∧ fs.lookup f = some (.ref t) ∧ H t = some (.tup xs) ∧ xs.length ≤ 1000000 ∧ Q (.int xs.length) H
end
end Cl
namespace Cl
open PySem PySem.Spec PyProof.Rows L2 Px
/-- a class whose objects are walked and counted by the tuple in the field f -/
def WalkC (X : Cx) (C : Addr) (f : Str) : Prop := ∃ (n : Nat) (fl : Addr), IterF X.prog X.w X.K X.mg X.base n C f ∧ OwnOp X.K C "__len__" fl ∧ FnR X.prog X.w X.K X.mg X.base (L2N.CX X.prog X.w) n fl (spLen C f) ∧ Room (n + 3) X.A
inductive WalkCs (X : Cx) : List (Addr × Str) → Prop
  | nil : WalkCs X []
  | cons {C : Addr} {f : Str} {l : List (Addr × Str)} : WalkC X C f → WalkCs X l → WalkCs X ((C, f) :: l)
section
variable {X : Cx} {l : List (Addr × Str)}
theorem WalkCs.at (h : WalkCs X l) : ∀ {i : Nat} {C : Addr} {f : Str}, l[i]? = some (C, f) → WalkC X C f := by
  induction h with
  | nil => intro i C f e; cases e
  | cons h _ ih =>
    intro i C f e
    cases i with
    | zero => cases e; exact h
    | succ i => exact ih (by simpa using e)
/-- x is an object of one of the classes, its tuple holds xs -/
def OwnT (l : List (Addr × Str)) (x : V) (H : Hp) (t : Addr) (xs : List V) : Prop := ∃ (i : Nat) (C : Addr) (f : Str) (a dx : Addr) (fs : List (Str × V)), l[i]? = some (C, f) ∧ x = .ref a ∧ H a = some (.ins C dx fs) ∧ fs.lookup f = some (.ref t) ∧ H t = some (.tup xs) ∧ xs.length ≤ 1000000
/-- for .. in x -/
def AnyB (K : PySem.W.Frag) (x : V) (H1 : Hp) (R : L2.It → Hp → Prop) : Prop := match x with
  | .str z => R (Its z) H1
  | .ref a => ((∃ xs, SqL K H1 a xs) ∧ R (Itl K a) H1) ∨ ((∃ xs, SqT K H1 a xs) ∧ R (Itt K a) H1)
  | _ => False
def iAnyO (K : PySem.W.Frag) (l : List (Addr × Str)) (te : TE) : TI := fun σ H R => te σ H fun x H1 => AnyB K x H1 R ∨ ∃ t xs, OwnT l x H1 t xs ∧ R (Itt K t) H1
end
end Cl
namespace Hk
open PySem PySem.W PySem.Spec PyProof.Rows L2 He
def ownB (K : Frag) (C : Addr) (m : PySem.Str) : Bool := eqO (findIn K (.ref C) m) (some (some (.ref (ma K C m)))) && (isFn K (.ref (ma K C m)) && selfFirst K C)
theorem ownB_ok {K : Frag} {C : Addr} {m : PySem.Str} (h : ownB K C m = true) : Cl.OwnOp K C m (ma K C m) := by
  unfold ownB at h
  obtain ⟨h1, h⟩ := ba h
  obtain ⟨h2, h3⟩ := ba h
  exact ⟨eqO_ok h1, h2, h3⟩
end Hk
namespace Px
open PySem PySem.Spec PyProof.Rows L2
section
variable {K : PySem.W.Frag} {l : List (Addr × Str)} {σ : L2.St} {H : Hp} {D : Ends} {Q : VK} {te ta tb : TE}
theorem s_opS {r : Cl.R2S} (h : ta σ H fun x H1 => tb σ H1 fun y H2 => r σ x y H2 Q) : Cl.tOpS r ta tb σ H Q := h
def ForBodyO (K : PySem.W.Frag) (l : List (Addr × Str)) (g : TG) (tb : TS) (D : Ends) (σ : L2.St) (x : V) (H1 : Hp) : Prop := ForBody K g tb D σ x H1 ∨ ∃ t xs, Cl.OwnT l x H1 t xs ∧ ForB (Itt K t) g tb D σ H1
theorem s_forO {g : TG} {tb : TS} (h : te σ H fun x H1 => ForBodyO K l g tb D σ x H1) : tFor (Cl.iAnyO K l te) g tb D σ H := h
def LcBodyO (K : PySem.W.Frag) (l : List (Addr × Str)) (g : TG) (tt : TT) (te : TE) (vs : List Nat) (σ : L2.St) (Q : VK) (x : V) (H1 : Hp) : Prop := LcBody K g tt te vs σ Q x H1 ∨ ∃ t xs, Cl.OwnT l x H1 t xs ∧ LcB (Itt K t) g tt te vs σ Q H1
theorem s_lcO {g : TG} {tt : TT} {te0 : TE} {vs : List Nat} (h : te0 σ H fun x H1 => LcBodyO K l g tt te vs σ Q x H1) : tLc (Cl.iAnyO K l te0) g tt te vs σ H Q := h
end
end Px
/-! methods of own objects: o.m(..), o(..), o[i], str(o); sep.join(..) -/
namespace Cl
open PySem PySem.Spec PySem.Calls PyProof.Rows L2 Px
theorem fnIn_of {K : PySem.W.Frag} {x qual : Str} {params : Arguments} {body : List Stmt} {scope : Scope} {dvs : List V} {kws : List (Str × V)} {f : Addr} {fd : FuncData} (F : FunD K x qual params body scope dvs kws f fd) : PySem.W.fnIn K f = true := by
  obtain ⟨oc, od, dV, kV, doc, pm, an, cdv, ct, osl, rfl, lk, _⟩ := F.ex
  unfold PySem.W.fnIn
  rw [lk]
/-- the class at C has the def m, which keeps the promise sp -/
structure OwnM (X : Cx) (m : Str) (E : L2.St → XK) (C : Addr) (sp : Sp) : Prop where
  cls : Cls X.K C
  ex : ∃ (CX : CXT) (k : Nat) (f : Addr), OwnOp X.K C m f ∧ PySem.W.keepIn X.K (.ref f) = true ∧ PySem.W.fnIn X.K f = true ∧ FnR X.prog X.w X.K X.mg X.base CX k f sp ∧ Room (k + 2) X.A ∧ ∀ σ, PassesAt CX X σ (E σ)
inductive OwnMs (X : Cx) (m : Str) (E : L2.St → XK) : List (Addr × Sp) → Prop
  | nil : OwnMs X m E []
  | cons {C : Addr} {sp : Sp} {l : List (Addr × Sp)} : OwnM X m E C sp → OwnMs X m E l → OwnMs X m E ((C, sp) :: l)
section
variable {X : Cx} {CX : CXT} {k : Nat} {f C : Addr} {sp : Sp} {E : L2.St → XK} {m : Str} {l : List (Addr × Sp)} {o e a b : Expr} {es : List Expr} {ta tb te : TE} {t : TA} {apos pos p : Pos} {x : Str}
theorem OwnMs.at (h : OwnMs X m E l) : ∀ {i : Nat} {C : Addr} {sp : Sp}, l[i]? = some (C, sp) → OwnM X m E C sp := by
  induction h with
  | nil => intro i C sp e; cases e
  | cons h _ ih =>
    intro i C sp e
    cases i with
    | zero => cases e; exact h
    | succ i => exact ih (by simpa using e)
theorem ownM_of {x qual : Str} {params : Arguments} {body : List Stmt} {scope : Scope} {dvs : List V} {kws : List (Str × V)} {fd : FuncData} (c : Cls X.K C) (o : OwnOp X.K C m f) (D : FunD X.K x qual params body scope dvs kws f fd) (F : FnR X.prog X.w X.K X.mg X.base CX k f sp) (hr : Room (k + 2) X.A) (hx : ∀ σ, PassesAt CX X σ (E σ)) : OwnM X m E C sp :=
  ⟨c, CX, k, f, o, D.kp, fnIn_of D, F, hr, hx⟩
/-- o.m(e, ..) -/
def tMethO (l : List (Addr × Sp)) (m : Str) (E : L2.St → XK) (ta : TE) (t : TA) : TE := fun σ H Q => ta σ H fun x H1 => ∃ (i : Nat) (C : Addr) (sp : Sp) (a dx : Addr) (fs : List (Str × V)), l[i]? = some (C, sp) ∧ x = .ref a ∧ H1 a = some (.ins C dx fs) ∧ fs.lookup m = none ∧ t σ H1 fun vs H2 => sp (.ref a :: vs) H2 Q (E σ)
/-- o(e, ..) -/
def tCallO (l : List (Addr × Sp)) (E : L2.St → XK) (ta : TE) (t : TA) : TE := fun σ H Q => ta σ H fun x H1 => ∃ a, x = .ref a ∧ t σ H1 fun vs H2 => ∃ (i : Nat) (C : Addr) (sp : Sp) (dx : Addr) (fs : List (Str × V)), l[i]? = some (C, sp) ∧ H2 a = some (.ins C dx fs) ∧ sp (.ref a :: vs) H2 Q (E σ)
/-- str(o) -/
def rStrO (l : List (Addr × Sp)) : List V → Hp → VK → Prop := fun vs H Q => rStrP vs H Q ∨ ∃ (i : Nat) (C : Addr) (sp : Sp) (a dx : Addr) (fs : List (Str × V)), l[i]? = some (C, sp) ∧ vs = [.ref a] ∧ H a = some (.ins C dx fs) ∧ sp [.ref a] H (fun v H' => ∃ z, v = .str z ∧ Q (.str z) H') E0
theorem call_strO (h : OwnMs X "__str__" (fun _ => E0) l) : CallR X (.type "str") (rStrO l) := by
  intro pins s σ H vs us Q I r q
  rcases q with q | ⟨i, C, sp, a, dx, fs, hl, rfl, hA, q⟩
  · exact call_strP pins s σ H vs us Q I r q
  · obtain ⟨u, rfl, ru⟩ := vals1 r
    cases ru
    have M := h.at hl
    obtain ⟨CX, k, f, o, hk, hf, F, hr, hx⟩ := M.ex
    obtain ⟨mA, J, _⟩ := ins_get I.hok hA
    obtain ⟨od, J, _⟩ := J.look
    refine PySem.W.kso_call hr.in1.in1.units0 I.kIn J o.at_ o.fn ?_
    refine wpAny_call (codeAny_mono (F X.A.in1.in1 X.stack s H [.ref a] [.ref a] _ E0 hr.in1.in1 I.env0.in1.in1 (.cons rfl .nil) q) fun r s' hq => ?_)
    cases r with
    | error e => exact hx σ pins H s e s' I hq
    | ok fl =>
      cases fl with
      | ret u =>
        obtain ⟨v, H', I3, rv, z, ev, q3⟩ := I.after hq
        subst ev
        obtain ⟨tk, rfl⟩ := rv
        exact ⟨.str z, H', I3, ⟨tk, rfl⟩, q3⟩
      | _ => exact hq.elim
end
end Cl
namespace Hk
open PySem PySem.Spec PySem.W PyProof.Rows L2 He
end Hk
namespace Px
open PySem PySem.Spec PyProof.Rows L2
section
variable {K : PySem.W.Frag} {σ : L2.St} {H : Hp} {Q : VK} {ta te : TE} {t : TA}
theorem s_methO {l : List (Addr × Sp)} {m : Str} {E : L2.St → XK} (h : ta σ H fun x H1 => ∃ (i : Nat) (C : Addr) (sp : Sp) (a dx : Addr) (fs : List (Str × V)), l[i]? = some (C, sp) ∧ x = .ref a ∧ H1 a = some (.ins C dx fs) ∧ fs.lookup m = none ∧ t σ H1 fun vs H2 => sp (.ref a :: vs) H2 Q (E σ)) : Cl.tMethO l m E ta t σ H Q := h
theorem s_callO {l : List (Addr × Sp)} {E : L2.St → XK} (h : ta σ H fun x H1 => ∃ a, x = .ref a ∧ t σ H1 fun vs H2 => ∃ (i : Nat) (C : Addr) (sp : Sp) (dx : Addr) (fs : List (Str × V)), l[i]? = some (C, sp) ∧ H2 a = some (.ins C dx fs) ∧ sp (.ref a :: vs) H2 Q (E σ)) : Cl.tCallO l E ta t σ H Q := h
theorem s_exr {a : Addr} {R : Addr → Prop} (h : R a) : ∃ b, (V.ref a = .ref b) ∧ R b := ⟨a, rfl, h⟩
theorem s_m1 {r : V → List V → Hp → VK → Prop} {z : Str} (h : te σ H fun y H2 => r (.str z) [y] H2 Q) : tM1 r (tC (.str z)) te σ H Q := ⟨⟨z, rfl⟩, h⟩
end
end Px
/-! C.m(e, ..), m a staticmethod of the class C -/
namespace Cl
open PySem PySem.Spec PySem.Calls PyProof.Rows L2 Px
structure SMet (K : PySem.W.Frag) (C : Addr) (m : Str) (p g : Addr) : Prop where
  rd : ClX.CRead K C (.type "type")
  at_ : PySem.W.findCls K (.ref C) (.type "type") m = some (.get (.builtin "staticmethod.__get__") (.ref p) .none (.ref C))
  rc : ∃ rest, PySem.W.recIn K p "staticmethod" = some (.ref g :: rest)
def tSMeth (C : Addr) (sp : Sp) (E : L2.St → XK) (ta : TE) (t : TA) : TE := fun σ H Q => ta σ H fun x H1 => x = .ref C ∧ t σ H1 fun vs H2 => sp vs H2 Q (E σ)
section
variable {X : Cx} {CX : CXT} {k : Nat} {C p g : Addr} {sp : Sp} {E : L2.St → XK} {o e : Expr} {es : List Expr} {m : Str} {pos apos : Pos} {ta : TE} {t : TA} {pl : Sem Bool}
theorem pe_smeth (he : PE X o ta) (c : SMet X.K C m p g) (hk : PySem.W.keepIn X.K (.ref g) = true) (F : FnR X.prog X.w X.K X.mg X.base CX k g sp) (hr : Room k X.A) (hx : ∀ σ, PassesAt CX X σ (E σ)) (ha : PA X (e :: es) t)
    (hst : starEach (e :: es) X.env = (false, eval e X.env) :: starEach es X.env := by rfl) (hpl : (backTo pos (starEach es X.env)).any (·.1) = false := by rfl)
    (ht : eval (.Call (.Attribute o m apos) (e :: es) [] pos) X.env = (do
      let ov ← eval o X.env
      standAt apos.atName
      let (f, first) ← holding [ov] (getMethod ov m pl)
      callWith pos f first (backTo pos (starEach (e :: es) X.env)) (backToKw pos (keywordEach [] X.env))) := by rfl) :
    PE X (.Call (.Attribute o m apos) (e :: es) [] pos) (tSMeth C sp E ta t) := by
  refine ⟨fun pins s σ H Q I h => ?_⟩
  refine PySem.W.methodCall_KW (pl := pl) (thn (he.run pins s σ H _ I h) fun u s1 ⟨x, H1, I1, rx, ex, q⟩ => ?_) ht
  subst ex
  obtain rfl : u = Value.ref C := rx
  obtain ⟨rest, hp⟩ := c.rc
  refine PySem.W.method_cls I1.kIn c.rd.ga (PySem.W.cls_bind I1.kIn c.rd.rd c.at_ (wpAny_call (PySem.W.sm_get (s := { s1 with toks := s1.toks + 1 }) I1.kIn hp (PySem.W.handed_on rfl ?_))))
  have I2 := I1.tok (s1.toks + 1)
  refine PySem.W.callWith_K (first := []) (h₀ := X.base) I.ok.mod.kin hk (thn (ha.run pos pins _ σ H1 _ I2 q) fun us s2 ⟨vs, H2, I3, r, q2⟩ => ⟨I3.kIn, ?_⟩) hst hpl
  exact run_RS F hr (hx σ) I3 r q2
end
end Cl
namespace Hk
open PySem PySem.Spec PySem.W PyProof.Rows L2 He
def smetB (K : Frag) (C : Addr) (m : PySem.Str) : Bool := readsIn K C (.type "type") && (eqO (specialIn K (.ref C) "__getattribute__") (some (some (.builtin "type.__getattribute__"))) && He5.wrapB K C "staticmethod" "staticmethod.__get__" m)
theorem smetB_ok {K : Frag} {C : Addr} {m : PySem.Str} (h : smetB K C m = true) : Cl.SMet K C m (ma K C m) (He5.wf K C "staticmethod" m) := by
  unfold smetB at h
  obtain ⟨h1, h⟩ := ba h
  obtain ⟨h2, h3⟩ := ba h
  obtain ⟨h4, h5⟩ := He5.wrapB_ok h3
  exact ⟨⟨h1, eqO_ok h2⟩, h4, h5⟩
end Hk
namespace Px
open PySem PySem.Spec PyProof.Rows L2
theorem s_smeth {σ : L2.St} {H : Hp} {Q : VK} {C : Addr} {sp : Sp} {E : L2.St → XK} {t : TA} (h : t σ H fun vs H2 => sp vs H2 Q (E σ)) : Cl.tSMeth C sp E (tC (.ref C)) t σ H Q := ⟨rfl, h⟩
end Px
/-! defs called within an except suite, the handled exception one of their arguments -/
namespace L2H
open PySem PySem.Spec PyProof.Rows L2 HotX
/-- what such a def promises: a the exception's place, cls its class, d its dict -/
structure FnE (P : Program) (w : World) (K : PySem.W.Frag) (mg : Str → Option Value) (base : Heap) (CX : CXT) (k : Nat) (f : Addr) (fd : FuncData) (ps : List Str) (sp : Addr → Value → Option Addr → Sp) : Prop where
  len : ∀ a cls d vs H Q E, sp a cls d vs H Q E → vs.length = ps.length
  run : ∀ (A : Around) (outer : List Env) (s : Shared) (H : Hp) (args : Args) (us : List Value) (vs : List V) (Q : VK) (E : XK) (p : Addr × Obj) (cls : Value) (d : Option Addr), RoomH k A → Hot1 A p → Zc cls d p.2 → PinOk outer H s p → Env0 P w K mg base A outer s H → BindsTo s fd args (ps.zip us) → Vals vs us → sp p.1 cls d vs H Q E →
    codeAny (model P w) A (.call (.ref f) args) (CR CX outer P w H s Q E) s
section
variable {X : Cx} {CX : CXT} {k : Nat} {f a : Addr} {fd : FuncData} {ps : List Str} {sp : Addr → Value → Option Addr → Sp} {E : St → XK} {x : Str} {q pos : Pos} {e : Expr} {es : List Expr} {t : TA} {oe : Obj} {cls : Value} {d : Option Addr} {pn : List (Addr × Obj)}
end
end L2H
namespace L2
open PySem PySem.Spec PyProof.Rows
end L2
/-! defs with defaults, gcd, f-strings -/
namespace Cl
open PySem PySem.Spec PySem.Calls PyProof.Rows L2 Px
/-- a def with defaults: all are written, or the defaults fill up -/
def spD (dvs : List V) (sp : Sp) : Sp := fun vs H Q E => sp vs H Q E ∨ sp (vs ++ dvs) H Q E
theorem toRD {P : Program} {w : World} {K : PySem.W.Frag} {mg : Str → Option Value} {base : Heap} {CX : CXT} {k : Nat} {f : Addr} {fd : FuncData} {ps : List Str} {sp : Sp} {dvs : List V} (F : FnOk P w K mg base CX k f fd ps sp) (hb : Binds K fd ps []) (hd : ∃ ds, Vals dvs ds ∧ Binds K fd ps ds) : FnR P w K mg base CX k f (spD dvs sp) := by
  intro A outer s H us vs Q E hr e0 r h
  have kin := e0.mod.kin.keeps fun b o e => (e0.bs b o e).1
  rcases h with h | h
  · exact toR F hb A outer s H us vs Q E hr e0 r h
  · obtain ⟨ds, hv, hB⟩ := hd
    have r2 : Vals (vs ++ dvs) (us ++ ds) := r.append hv
    have hl : (us ++ ds).length = ps.length := by rw [← r2.length]; exact F.len _ _ _ _ h
    exact F.run A outer s H ⟨us, []⟩ (us ++ ds) (vs ++ dvs) Q E hr e0 (hB s us kin hl) r2 h
theorem binds_all {K : PySem.W.Frag} {x qual : Str} {params : Arguments} {body : List Stmt} {scope : Scope} {dvs : List V} {kws : List (Str × V)} {f : Addr} {fd : FuncData} {ps : List Str} (F : FunD K x qual params body scope dvs kws f fd) (hd : dvs ≠ [])
    (h : ∀ (T : Addr) (kV doc pm : Value) (an : Option Addr) (cdv ct : Value) (us its : List Value), us.length = ps.length → its.length = dvs.length →
      ∃ k, bindArgs (PySem.W.fnOf x qual params body scope (.ref T) kV doc pm an cdv ct) ⟨us, []⟩ = seqItems? (.ref T) >>= k ∧ k (some its.toArray) = pure (ps.zip (us ++ its.drop dvs.length))) : Binds K fd ps [] := by
  obtain ⟨ds, hv, hB⟩ := FunD.binds1 F ps.length dvs.length hd (by omega) h
  rw [List.drop_length] at hv
  cases hv
  exact hB
end Cl
namespace Hk
open PySem PySem.Spec PySem.W PyProof.Rows L2 He
def bltB (K : Frag) (x : PySem.Str) (id : String) : Bool := eqO (nsIn K mainGlobals x) (some (some (.builtin id)))
end Hk
namespace Px
open PySem PySem.Spec PyProof.Rows L2
section
variable {σ : L2.St} {H : Hp} {Q : VK} {te : TE}
theorem s_gcd {a b : Int} (h : Q (.int ((Nat.gcd a.natAbs b.natAbs : Nat) : Int)) H) : rGcd [.int a, .int b] H Q := ⟨a, b, rfl, h⟩
/-- f'..' -/
def tJoined (ts : List TE) : TE := fun σ H Q => tJs ts Str.empty σ H fun out H1 => Q (.str out) H1
end
end Px
/-! operators of an own object and an int, on either side -/
namespace Cl
open PySem PySem.Spec PySem.Calls PySem.W PyProof.Rows L2 Px
section
variable {prog : Program} {w : World} {M : Model} {A : Around} {E : Value → Shared → Prop} {s : Shared} {K : PySem.W.Frag} {y C L f g : Addr} {h₀ : Heap} {m : Str → Option Value} {oy : Obj} {od : Option Obj}
/-- an int's method that says NotImplemented to an own object -/
def NoInt (B : Builtin) : Prop := ∀ (M : Model) (A : Around) (E : Value → Shared → Prop) (s : Shared) (y : Addr) (oy : Obj) (i : Int) (tk : Tok) (Q : Value → Shared → Prop), s.heap.get? y = some oy → oy.data = .plain → Q .notImplemented s → wpAny M A (B ⟨[.int i tk, .ref y], []⟩) (fun fin s' => ∃ v, fin = .done (.ret v) ∧ Q v s') E s
end
end Cl
namespace Cl
open PySem PySem.Spec PySem.Calls PyProof.Rows L2 Px
structure MixOp (K : PySem.W.Frag) (C : Addr) (op : Operator) (f g : Addr) : Prop where
  at_ : PySem.W.findIn K (.ref C) (PySem.dunder op.info.2) = some (some (.ref f))
  fn : PySem.W.isFn K (.ref f) = true
  sf : PySem.W.selfFirst K C = true
  rat : PySem.W.findIn K (.ref C) (dunderR op.info.2) = some (some (.ref g))
  rfn : PySem.W.isFn K (.ref g) = true
  i1 : ∃ fo, PySem.W.findIn K (.type "int") (PySem.dunder op.info.2) = some fo
  i2 : ∃ ro, PySem.W.findIn K (.type "int") (dunderR op.info.2) = some ro
  s1 : PySem.W.subIn K (.type "int") (.ref C) = some false
  s2 : PySem.W.subIn K (.ref C) (.type "int") = some false
  ni : ∃ cd, PySem.W.clsIn K C = some cd ∧ ∀ c ∈ cd.mro, PySem.W.findIn K c (dunderI op.info.2) = some none
structure IntOp (op : Operator) : Prop where
  fills : fillsNumberSlot (.type "int") op.info.2 = pure true
  ex : ∃ (id : String) (B : Builtin), NoInt B ∧ Slot "int" (PySem.dunder op.info.2) id ∧ entryFor table id = some B ∧ ∀ a b : Value, argsOk id ⟨[a, b], []⟩
/-- own op own, own op int; int op own -/
structure MixAt (X : Cx) (op : Operator) (E : L2.St → XK) (C : Addr) (sp spr : Sp) : Prop where
  fwd : ∀ (pins : List (Addr × Obj)) (s : Shared) (σ : L2.St) (H : Hp) (a dx : Addr) (fs : List (Str × V)) (y : V) (u : Value) (Q : VK), Inv X pins σ H s → H a = some (.ins C dx fs) → RelV y u → ((∃ b dy gs, y = .ref b ∧ H b = some (.ins C dy gs)) ∨ ∃ n, y = .int n) → sp [.ref a, y] H Q (E σ) →
    wpAny (model X.prog X.w) X.A (binaryOp1 op.info.2 (.ref a) u) (fun r s' => ∃ v, r = some v ∧ EP X pins σ Q v s') X.xe s
  bwd : ∀ (pins : List (Addr × Obj)) (s : Shared) (σ : L2.St) (H : Hp) (b dy : Addr) (gs : List (Str × V)) (n : Int) (tk : Tok) (Q : VK), Inv X pins σ H s → H b = some (.ins C dy gs) → spr [.ref b, .int n] H Q (E σ) →
    wpAny (model X.prog X.w) X.A (binaryOp1 op.info.2 (.int n tk) (.ref b)) (fun r s' => ∃ v, r = some v ∧ EP X pins σ Q v s') X.xe s
  ni : ∃ cd, PySem.W.clsIn X.K C = some cd ∧ ∀ c ∈ cd.mro, PySem.W.findIn X.K c (dunderI op.info.2) = some none
inductive Mixes (X : Cx) (op : Operator) (E : L2.St → XK) : List (Addr × Sp × Sp) → Prop
  | nil : Mixes X op E []
  | cons {C : Addr} {sp spr : Sp} {l : List (Addr × Sp × Sp)} : MixAt X op E C sp spr → Mixes X op E l → Mixes X op E ((C, sp, spr) :: l)
theorem Mixes.at {X : Cx} {op : Operator} {E : L2.St → XK} {l : List (Addr × Sp × Sp)} (h : Mixes X op E l) : ∀ {i : Nat} {C : Addr} {sp spr : Sp}, l[i]? = some (C, sp, spr) → MixAt X op E C sp spr := by
  induction h with
  | nil => intro i C sp spr e; cases e
  | cons h _ ih =>
    intro i C sp spr e
    cases i with
    | zero => cases e; exact h
    | succ i => exact ih (by simpa using e)
def tAugO (i : Nat) (te : TE) (r : R2S) : TS := fun D σ H => ∃ x, σ[i]? = some (some x) ∧ te σ H fun y H1 => r σ x y H1 fun z H2 => D.nx (σ.set i (some z)) H2
end Cl
namespace Hk
open PySem PySem.Spec PySem.W PyProof.Rows L2 He
end Hk
namespace Px
open PySem PySem.Spec PyProof.Rows L2
theorem s_augO {i : Nat} {te : TE} {r : Cl.R2S} {D : Ends} {σ : L2.St} {H : Hp} {v : V} (e : σ[i]? = some (some v)) (h : te σ H fun y H1 => r σ v y H1 fun z H2 => D.nx (σ.set i (some z)) H2) : Cl.tAugO i te r D σ H := ⟨v, e, h⟩
end Px
/-! comparisons of an own object and any value, on either side; -o, abs(o), bool(o) -/
namespace Cl
open PySem PySem.Spec PySem.Calls PySem.W PyProof.Rows L2 Px
section
variable {prog : Program} {w : World} {M : Model} {A : Around} {E : Value → Shared → Prop} {s : Shared} {K : PySem.W.Frag} {y C L f g : Addr} {h₀ : Heap} {m : Str → Option Value} {oy : Obj} {od : Option Obj}
end
end Cl
namespace Cl
open PySem PySem.Spec PySem.Calls PyProof.Rows L2 Px
structure CmpK (K : PySem.W.Frag) (C : Addr) (op : CmpOp) (f g : Addr) : Prop where
  at_ : PySem.W.findIn K (.ref C) (cmpInfo op).2.1 = some (some (.ref f))
  fn : PySem.W.isFn K (.ref f) = true
  rat : PySem.W.findIn K (.ref C) (cmpInfo op).2.2 = some (some (.ref g))
  rfn : PySem.W.isFn K (.ref g) = true
  sub : ∀ T ∈ (["int", "str", "tuple", "list"] : List String), PySem.W.subIn K (.type T) (.ref C) = some false ∧ PySem.W.subIn K (.ref C) (.type T) = some false
/-- what may stand beside an own object of the class C -/
inductive Beside (H : Hp) (C : Addr) : V → Prop
  | own {b dy : Addr} {gs : List (Str × V)} : H b = some (.ins C dy gs) → Beside H C (.ref b)
  | int (n : Int) : Beside H C (.int n)
  | str (z : Str) : Beside H C (.str z)
  | tup {b : Addr} {xs : List V} : H b = some (.tup xs) → Beside H C (.ref b)
  | lst {b : Addr} {xs : List V} : H b = some (.lst xs) → Beside H C (.ref b)
/-- what may stand left of it -/
inductive LeftOk : CmpOp → V → Prop
  | int {op : CmpOp} (n : Int) : LeftOk op (.int n)
  | str (z : Str) : LeftOk .Eq (.str z)
structure IntCmp (op : CmpOp) : Prop where
  ex : ∃ (id : String) (B : Builtin), NoInt B ∧ Slot "int" (cmpInfo op).2.1 id ∧ entryFor table id = some B ∧ ∀ a b : Value, argsOk id ⟨[a, b], []⟩
  hop : ∀ x y, compareOp op x y = richCompare op x y
structure CmpAt (X : Cx) (op : CmpOp) (E : L2.St → XK) (C : Addr) (sp spr : Sp) : Prop where
  fwd : ∀ (pins : List (Addr × Obj)) (s : Shared) (σ : L2.St) (H : Hp) (a dx : Addr) (fs : List (Str × V)) (y : V) (u : Value) (Q : VK), Inv X pins σ H s → H a = some (.ins C dx fs) → RelV y u → Beside H C y → sp [.ref a, y] H Q (E σ) →
    wpAny (model X.prog X.w) X.A (compareOp op (.ref a) u) (EP X pins σ Q) X.xe s
  bwd : ∀ (pins : List (Addr × Obj)) (s : Shared) (σ : L2.St) (H : Hp) (b dy : Addr) (gs : List (Str × V)) (x : V) (u : Value) (Q : VK), Inv X pins σ H s → H b = some (.ins C dy gs) → RelV x u → LeftOk op x → spr [.ref b, x] H Q (E σ) →
    wpAny (model X.prog X.w) X.A (compareOp op u (.ref b)) (EP X pins σ Q) X.xe s
inductive CmpAts (X : Cx) (op : CmpOp) (E : L2.St → XK) : List (Addr × Sp × Sp) → Prop
  | nil : CmpAts X op E []
  | cons {C : Addr} {sp spr : Sp} {l : List (Addr × Sp × Sp)} : CmpAt X op E C sp spr → CmpAts X op E l → CmpAts X op E ((C, sp, spr) :: l)
theorem CmpAts.at {X : Cx} {op : CmpOp} {E : L2.St → XK} {l : List (Addr × Sp × Sp)} (h : CmpAts X op E l) : ∀ {i : Nat} {C : Addr} {sp spr : Sp}, l[i]? = some (C, sp, spr) → CmpAt X op E C sp spr := by
  induction h with
  | nil => intro i C sp spr e; cases e
  | cons h _ ih =>
    intro i C sp spr e
    cases i with
    | zero => cases e; exact h
    | succ i => exact ih (by simpa using e)
section
variable {X : Cx} {l : List (Addr × Sp)}
end
end Cl
namespace Hk
open PySem PySem.Spec PySem.W PyProof.Rows L2 He
end Hk
/-! dicts with number keys: list(d.values()), walks under the lock, comprehensions with two fors -/
namespace Cl
open PySem PySem.Spec PyProof.Rows L2 Px
/-- list(e.values()) -/
def tListVals (te : TE) : TE := fun σ H Q => te σ H fun x H1 => ∃ d kvs, x = .ref d ∧ H1 d = some (.dK kvs) ∧ ∀ q, H1 q = none → Q (.ref q) (upd H1 q (.lst (kvs.map Prod.snd)))
section
variable {X : Cx} {e : Expr} {te : TE} {p apos cpos pos : Pos}
end
end Cl
namespace Px
open PySem PySem.Spec PyProof.Rows L2
section
variable {K : PySem.W.Frag} {σ : L2.St} {H H1 : Hp} {D : Ends} {Q : VK} {te td : TE} {d : Addr} {kvs : List (Key × V)}
theorem s_listV (h : te σ H fun x H1 => ∃ d kvs, x = .ref d ∧ H1 d = some (.dK kvs) ∧ ∀ q, H1 q = none → Q (.ref q) (upd H1 q (.lst (kvs.map Prod.snd)))) : Cl.tListVals te σ H Q := h
theorem s_dget {ty : TE} (h : td σ H fun x H1 => ty σ H1 fun y H2 => ∃ a v, x = .ref a ∧ DGet H2 a y (some v) ∧ Q v H2) : tDGet td ty σ H Q := h
/-- the heap while d is locked -/
@[reducible] def lk (H : Hp) (d : Addr) (od : Obj) (kvs : List (Key × V)) : Hp := upd H d (.frz od (.dK kvs))
/-- [..] over two fors -/
def L2B (g : TG) (tt : TT) (wi1 : TI) (g1 : TG) (tt1 : TT) (te : TE) (vs vs1 : List Nat) (σ : L2.St) (Q : VK) : L2.It → Hp → Prop := fun J H1 => ∀ D, H1 D = none → ∃ W : Nat → Nat → Hp → Prop, (∃ m, W 0 m (upd H1 D (.lst []))) ∧ ∀ i m H, W i m H →
  (J.stop i H ∧ Q (.ref D) H) ∨ (J.go i H ∧ ∃ Nx : Hp → Prop, (∀ H', Nx H' → ∃ m', m' < m ∧ W (i + 1) m' H') ∧ ∀ x H', J.yld i H x H' → g x (wipe σ vs) H' fun σ2 H2 => wipe σ2 vs = wipe σ vs ∧ tt σ2 H2 fun b H3 =>
    if b = true then wi1 σ2 H3 fun J1 H4 => ∃ W1 : Nat → Nat → Hp → Prop, (∃ m, W1 0 m H4) ∧ ∀ j k H, W1 j k H →
      (J1.stop j H ∧ Nx H) ∨ (J1.go j H ∧ ∃ Nx1 : Hp → Prop, (∀ H', Nx1 H' → ∃ k', k' < k ∧ W1 (j + 1) k' H') ∧ ∀ x H', J1.yld j H x H' → g1 x (wipe σ2 vs1) H' fun σ3 H5 => wipe σ3 vs1 = wipe σ2 vs1 ∧ tt1 σ3 H5 fun b H6 =>
        if b = true then te σ3 H6 fun y H7 => ∃ acc, H7 D = some (.lst acc) ∧ acc.length < sizeLine ∧ Nx1 (upd H7 D (.lst (acc ++ [y]))) else Nx1 H6)
    else Nx H3)
end
end Px
/-! __init__(self, *v, k = d, ..): C(*e), C(*e, k = v, ..) -/
namespace Cl
open PySem PySem.Spec PySem.Calls PyProof.Rows L2 Px
section
variable {M : Model} {A : Around} {E : Value → Shared → Prop} {s : Shared} {K : PySem.W.Frag}
/-- t looks names up in the dict at D, then goes on as r -/
def KwTo {α : Type} (D : Addr) : List (Str × Value) → Sem α → Sem α → Prop
  | [], t, r => t = r
  | q :: l, t, r => ∃ (β γ : Type) (k1 : Option Value → Sem β) (k2 : β → Sem γ) (k3 : γ → Sem α) (a : β), t = ((nsGet D q.1 >>= k1) >>= k2) >>= k3 ∧ k1 (some q.2) = pure a ∧ KwTo D l (k2 a >>= k3) r
theorem KwTo.run {α : Type} {D : Addr} {Q : α → Shared → Prop} {r : Sem α} (X : K.In s.heap) : ∀ {l : List (Str × Value)} {t : Sem α}, (∀ q ∈ l, PySem.W.nsIn K D q.1 = some (some q.2)) → KwTo D l t r → wpAny M A r Q E s → wpAny M A t Q E s
  | [], t, _, e, h => by rw [show t = r from e]; exact h
  | q :: l, t, hl, e, h => by
    obtain ⟨β, γ, k1, k2, k3, a, e1, e2, e3⟩ := e
    have l1 : PySem.W.Looks M s.heap (nsGet D q.1 >>= k1) a := (PySem.W.looks_nsIn X (hl q List.mem_cons_self)).andThen (PySem.W.Looks.of_pure e2)
    rw [e1, bind_assoc]
    exact wpAny_bind (l1.here (KwTo.run X (fun p hp => hl p (List.mem_cons_of_mem _ hp)) e3 h))
end
section
variable {P : Program} {w : World} {K : PySem.W.Frag} {mg : Str → Option Value} {base : Heap} {x qual pv p1 : Str} {params : Arguments} {body : List Stmt} {scope : Scope} {kws : List (Str × V)} {f : Addr} {fd : FuncData} {N : List Str} {k : Nat} {sp : Sp}
end
section
variable {X : Cx} {CX : CXT} {k : Nat} {f C : Addr} {ks : List Str} {spK : List V → Sp} {E : L2.St → XK} {x : Str} {e : Expr} {te : TE} {tk : TA} {p pos sp_ : Pos} {kws : List Keyword}
/-- C(*e, k = v, ..) -/
def tMakeSK (K : PySem.W.Frag) (C : Addr) (m : Nat) (spK : List V → Sp) (E : L2.St → XK) (te : TE) (tk : TA) : TE := fun σ H Q => te σ H fun y H1 => tk σ H1 fun zs H2 => ∃ a xs, y = .ref a ∧ zs.length = m ∧ (SqT K H2 a xs ∨ SqL K H2 a xs) ∧ ∀ x dx, H2 x = none → H2 dx = none → dx ≠ x →
  spK zs (V.ref x :: xs) (upd (upd H2 dx (.own x)) x (.ins C dx [])) (fun v H3 => v = .non ∧ Q (.ref x) H3) (E σ)
end
end Cl
/-! own objects walked by the dict in a field: __iter__ says return iter(self.f) -/
namespace Cl
open PySem PySem.Spec PyProof.Rows L2 Px
/-- an iterator of the locked dict at d, as it begins -/
def KiO (d it : Addr) (n : Nat) (od : Obj) : HO := .ext fun h => ∃ es ep, od.data = .dict es ep ∧ h.IsKeyIter it d 0 n ep
/-- what a class must have that its objects are walked by the dict in the field f -/
structure IterK (P : Program) (w : World) (K : PySem.W.Frag) (mg : Str → Option Value) (base : Heap) (k : Nat) (C : Addr) (f : Str) : Prop where
  run : ∃ fi : Addr, PySem.W.findIn K (.ref C) "__iter__" = some (some (.ref fi)) ∧ PySem.W.isFn K (.ref fi) = true ∧
    ∀ (A : Around) (outer : List Env) (s : Shared) (H : Hp) (a dx d : Addr) (fs : List (Str × V)) (kvs : List (Key × V)) (od : Obj), Room k A → Env0 P w K mg base A outer s H → H a = some (.ins C dx fs) → fs.lookup f = some (.ref d) → H d = some (.frz od (.dK kvs)) →
      codeAny (model P w) A (.call (.ref fi) ⟨[.ref a], []⟩) (CR (L2N.CX P w) outer P w H s (fun y H' => ∃ it, y = .ref it ∧ H it = none ∧ s.heap.objs.size ≤ it ∧ H' = upd H it (KiO d it kvs.length od)) E0) s
section
variable {X : Cx} {k : Nat} {C : Addr} {f : Str} {pins : List (Addr × Obj)} {σ : L2.St} {H : Hp} {s : Shared} {a dx d : Addr} {fs : List (Str × V)} {kvs : List (Key × V)} {od : Obj}
/-- len's promise: so many, all stands -/
def spLenK (C : Addr) (f : Str) : Sp := fun vs H Q _ => ∃ a dx fs d kvs, vs = [.ref a] ∧ H a = some (.ins C dx fs) ∧ fs.lookup f = some (.ref d) ∧ Rd H d (.dK kvs) ∧ kvs.length ≤ 1000000 ∧ Q (.int kvs.length) H
end
/-- a class whose objects are walked and counted by the dict in the field f -/
def WalkK (X : Cx) (C : Addr) (f : Str) : Prop := ∃ (n : Nat) (fl : Addr), IterK X.prog X.w X.K X.mg X.base n C f ∧ OwnOp X.K C "__len__" fl ∧ FnR X.prog X.w X.K X.mg X.base (L2N.CX X.prog X.w) n fl (spLenK C f) ∧ Room (n + 3) X.A
inductive WalkKs (X : Cx) : List (Addr × Str) → Prop
  | nil : WalkKs X []
  | cons {C : Addr} {f : Str} {l : List (Addr × Str)} : WalkK X C f → WalkKs X l → WalkKs X ((C, f) :: l)
section
variable {X : Cx} {l : List (Addr × Str)}
theorem WalkKs.at (h : WalkKs X l) : ∀ {i : Nat} {C : Addr} {f : Str}, l[i]? = some (C, f) → WalkK X C f := by
  induction h with
  | nil => intro i C f e; cases e
  | cons h _ ih =>
    intro i C f e
    cases i with
    | zero => cases e; exact h
    | succ i => exact ih (by simpa using e)
end
end Cl
/-! zip(a list, a tuple) -/
namespace ZiX
open PySem
section
variable {prog : Program} {w : World}
/-- an iterator it over the object l: St i tells that it stands at the i-th of xs -/
structure Walk1 (prog : Program) (w : World) (it l : Addr) (xs : Array Value) (St : Nat → Heap → Prop) : Prop where
  item : ∀ (A : Around) (E : Value → Shared → Prop) (s : Shared) (i : Nat) (x : Value) (Q : Value → Shared → Prop), St i s.heap → xs[i]? = some x → (∀ h', St (i + 1) h' → Heap.SameBut it s.heap h' → Q x { s with heap := h' }) → wpAny (model prog w) A (Builtin.SmallTypes.nextOf (.ref it)) Q E s
  fin : ∀ (A : Around) (E : Value → Shared → Prop) (s : Shared) (i : Nat) (Q : Value → Shared → Prop), A.handled = none → St i s.heap → xs[i]? = none → (∀ h' e, Heap.ExtBut it s.heap h' → (∃ o, h'.get? e = some o ∧ o.cls = .type "StopIteration") → E (.ref e) { s with heap := h' }) → wpAny (model prog w) A (Builtin.SmallTypes.nextOf (.ref it)) Q E s
  keep : ∀ i h h', St i h → (∀ o, h.get? it = some o → h'.get? it = some o) → (∀ o, h.get? l = some o → h'.get? l = some o) → St i h'
variable {A : Around} {E : Value → Shared → Prop} {s : Shared} {z TI TO i1 i2 l1 l2 : Addr} {xs ys : Array Value} {S1 S2 : Nat → Heap → Prop}
end
/-- the heaps that zip(a list, a tuple) goes through -/
def g1 (h : Heap) (l : Addr) : Heap := h.push { cls := .type "list_iterator", data := .fields #[.ref l, .int 0 0] }
def g2 (h : Heap) (l m : Addr) : Heap := (g1 h l).push { cls := .type "tuple_iterator", data := .fields #[.ref m, .int 0 0] }
def g3 (h : Heap) (l m : Addr) : Heap := (g2 h l m).push { cls := .type "tuple", data := .seq #[.ref h.objs.size, .ref (g1 h l).objs.size] }
def g4 (h : Heap) (l m : Addr) : Heap := (g3 h l m).push { cls := .type "tuple", data := .seq #[.none, .none] }
def g5 (h : Heap) (l m : Addr) : Heap := (g4 h l m).push { cls := .type "zip", data := .fields #[.none, .bool false, .bool false, .ref (g2 h l m).objs.size, .ref (g3 h l m).objs.size] }
end ZiX
namespace ZiX
open PySem PySem.Spec PyProof.Rows L2
section
variable {prog : Program} {w : World} {A : Around} {E : Value → Shared → Prop} {s : Shared}
end
end ZiX
/-! own in-place operators; o[i] = v by __setitem__; o.f op= e -/
namespace Cl
open PySem PySem.Spec PySem.Calls PyProof.Rows L2 Px
section
variable {X : Cx} {CX : CXT} {k : Nat} {f C : Addr} {sp : Sp} {E : L2.St → XK}
def AltN (X : Cx) (op : Operator) (C : Addr) (sp : Sp) (E : L2.St → XK) : Prop := ∀ (pins : List (Addr × Obj)) (s : Shared) (σ : L2.St) (H : Hp) (a dx : Addr) (fs : List (Str × V)) (y : V) (u : Value) (Q : VK), Inv X pins σ H s → H a = some (.ins C dx fs) → RelV y u → sp [.ref a, y] H Q (E σ) →
  wpAny (model X.prog X.w) X.A (inplaceOp op (.ref a) u) (EP X pins σ Q) X.xe s
inductive AltNs (X : Cx) (op : Operator) (E : L2.St → XK) : List (Addr × Sp) → Prop
  | nil : AltNs X op E []
  | cons {C : Addr} {sp : Sp} {l : List (Addr × Sp)} : AltN X op C sp E → AltNs X op E l → AltNs X op E ((C, sp) :: l)
theorem AltNs.at {op : Operator} {l : List (Addr × Sp)} (h : AltNs X op E l) : ∀ {i : Nat} {C : Addr} {sp : Sp}, l[i]? = some (C, sp) → AltN X op C sp E := by
  induction h with
  | nil => intro i C sp e; cases e
  | cons h _ ih =>
    intro i C sp e
    cases i with
    | zero => cases e; exact h
    | succ i => exact ih (by simpa using e)
/-- o[i] = v -/
def gSubO (to ti : TE) (ts : L2.St → TSet) : TG := fun v σ H Q => to σ H fun o H1 => ti σ H1 fun i H2 => ts σ o i v H2 fun H3 => Q σ H3
def AltS (X : Cx) (C : Addr) (sp : Sp) (E : L2.St → XK) : Prop := ∀ (pins : List (Addr × Obj)) (s : Shared) (σ : L2.St) (H : Hp) (a dx : Addr) (fs : List (Str × V)) (y z : V) (u w : Value) (Q : Hp → Prop), Inv X pins σ H s → H a = some (.ins C dx fs) → RelV y u → RelV z w → sp [.ref a, y, z] H (fun _ H' => Q H') (E σ) →
  wpAny (model X.prog X.w) X.A (setItem (.ref a) u w) (fun _ s' => ∃ H', Inv X pins σ H' s' ∧ Q H') X.xe s
inductive AltSs (X : Cx) (E : L2.St → XK) : List (Addr × Sp) → Prop
  | nil : AltSs X E []
  | cons {C : Addr} {sp : Sp} {l : List (Addr × Sp)} : AltS X C sp E → AltSs X E l → AltSs X E ((C, sp) :: l)
theorem AltSs.at {l : List (Addr × Sp)} (h : AltSs X E l) : ∀ {i : Nat} {C : Addr} {sp : Sp}, l[i]? = some (C, sp) → AltS X C sp E := by
  induction h with
  | nil => intro i C sp e; cases e
  | cons h _ ih =>
    intro i C sp e
    cases i with
    | zero => cases e; exact h
    | succ i => exact ih (by simpa using e)
/-- o.f op= e, by o's class -/
def sAttA (l : List Addr) (ta tv : TE) (rd : R2) (f : Str) : TS := fun D σ H => ta σ H fun x H1 => ∃ a C dx fs v, x = .ref a ∧ C ∈ l ∧ H1 a = some (.ins C dx fs) ∧ fs.lookup f = some v ∧ tv σ H1 fun y H2 => rd v y H2 fun z H3 => ∃ dx' fs', H3 a = some (.ins C dx' fs') ∧ fs'.length < 1000 ∧ D.nx σ (upd H3 a (.ins C dx' (putF f z fs')))
end
end Cl
namespace Hk
open PySem PySem.Spec PySem.W PyProof.Rows L2 He
end Hk
namespace Px
open PySem PySem.Spec PyProof.Rows L2
section
variable {σ : L2.St} {H : Hp} {D : Ends} {v : V} {QS : L2.St → Hp → Prop} {ta tv td ty : TE}
theorem s_gsubO {to ti : TE} {ts : L2.St → TSet} (h : to σ H fun o H1 => ti σ H1 fun i H2 => ts σ o i v H2 fun H3 => QS σ H3) : Cl.gSubO to ti ts v σ H QS := h
theorem s_attA {l : List Addr} {rd : R2} {f : Str} (h : ta σ H fun x H1 => ∃ a C dx fs v, x = .ref a ∧ C ∈ l ∧ H1 a = some (.ins C dx fs) ∧ fs.lookup f = some v ∧ tv σ H1 fun y H2 => rd v y H2 fun z H3 => ∃ dx' fs', H3 a = some (.ins C dx' fs') ∧ fs'.length < 1000 ∧ D.nx σ (upd H3 a (.ins C dx' (putF f z fs')))) : Cl.sAttA l ta tv rd f D σ H := h
theorem s_ddel (h : td σ H fun x H1 => ty σ H1 fun y H2 => ∃ a kvs k, x = .ref a ∧ H2 a = some (.dK kvs) ∧ y = kV k ∧ (valV kvs k).isSome = true ∧ D.nx σ (upd H2 a (.dK (dropK kvs k)))) : sDDel td ty D σ H := h
end
end Px
/-! the alternatives by classes, answered by membership -/
namespace Px
open PySem PySem.Spec PyProof.Rows L2
section
variable {K : PySem.W.Frag} {σ : L2.St} {H : Hp} {Q : VK} {C a dx : Addr} {fs : List (Str × V)} {sp spr : Sp} {E : L2.St → XK} {y : V}
theorem s_lstRg2 {ta tb : TE} (h : ta σ H fun x H1 => tb σ H1 fun y H2 => ∃ i j, x = .int i ∧ y = .int j ∧ RgOk i j ∧ ∀ q, H2 q = none → Q (.ref q) (upd H2 q (.lst (rgV i j)))) : tLstRg (tRg2 ta tb) σ H Q := h
theorem s_lstRg1 {ta : TE} (h : ta σ H fun x H1 => ∃ n, x = .int n ∧ RgOk 0 n ∧ ∀ q, H1 q = none → Q (.ref q) (upd H1 q (.lst (rgV 0 n)))) : tLstRg (tRg1 ta) σ H Q := h
theorem s_makeK {m : Nat} {spK : List V → Sp} {te : TE} {tk : TA} (h : te σ H fun y H1 => tk σ H1 fun zs H2 => ∃ a xs, y = .ref a ∧ zs.length = m ∧ (SqT K H2 a xs ∨ SqL K H2 a xs) ∧ ∀ x dx, H2 x = none → H2 dx = none → dx ≠ x → spK zs (V.ref x :: xs) (upd (upd H2 dx (.own x)) x (.ins C dx [])) (fun v H3 => v = .non ∧ Q (.ref x) H3) (E σ)) : Cl.tMakeSK K C m spK E te tk σ H Q := h
theorem s_lc2 {te0 te : TE} {g g1 : TG} {tt tt1 : TT} {wi1 : TI} {vs vs1 : List Nat} (h : te0 σ H fun x H1 => Cl.AnyB K x H1 (L2B g tt wi1 g1 tt1 te vs vs1 σ Q)) : tLc2 (iAnyP K te0) g tt wi1 g1 tt1 te vs vs1 σ H Q := h
theorem s_anyB {te0 : TE} {R : L2.It → Hp → Prop} (h : te0 σ H fun x H1 => Cl.AnyB K x H1 R) : iAnyP K te0 σ H R := h
end
end Px
/-! classmethods: C.m(..); inside one: cls(), cls.f -/
namespace Cl
open PySem PySem.Spec PySem.Calls PyProof.Rows L2 Px
/-- C.m(e, ..), m a classmethod of the class at C -/
def tCMethS (C : Addr) (sp : Sp) (E : L2.St → XK) (ta : TE) (t : TA) : TE := fun σ H Q => ta σ H fun x H1 => x = .ref C ∧ t σ H1 fun vs H2 => sp (.ref C :: vs) H2 Q (E σ)
/-- v(), v the class at C -/
def tMakeV (C : Addr) (sp : Sp) (E : L2.St → XK) (ta : TE) : TE := fun σ H Q => ta σ H fun y H1 => y = .ref C ∧ ∀ x dx, H1 x = none → H1 dx = none → dx ≠ x → sp [V.ref x] (upd (upd H1 dx (.own x)) x (.ins C dx [])) (fun v H2 => v = .non ∧ Q (.ref x) H2) (E σ)
/-- v.f, v the class at C, f a constant of it -/
def tClsV (C : Addr) (v : V) (ta : TE) : TE := fun σ H Q => ta σ H fun y H1 => y = .ref C ∧ Q v H1
section
variable {X : Cx} {CX : CXT} {k : Nat} {C p g : Addr} {mc : Value} {sp : Sp} {E : L2.St → XK} {o e : Expr} {es : List Expr} {f m : Str} {pos apos : Pos} {ta : TE} {t : TA} {pl : Sem Bool}
end
end Cl
namespace Hk
open PySem PySem.Spec PySem.W PyProof.Rows L2 He
end Hk
namespace Px
open PySem PySem.Spec PyProof.Rows L2
theorem s_cmeth {σ : L2.St} {H : Hp} {Q : VK} {C : Addr} {sp : Sp} {E : L2.St → XK} {t : TA} (h : t σ H fun vs H2 => sp (.ref C :: vs) H2 Q (E σ)) : Cl.tCMethS C sp E (tC (.ref C)) t σ H Q := ⟨rfl, h⟩
theorem s_makeV {σ : L2.St} {H : Hp} {Q : VK} {C : Addr} {sp : Sp} {E : L2.St → XK} {ta : TE} (h : ta σ H fun y H1 => y = .ref C ∧ ∀ x dx, H1 x = none → H1 dx = none → dx ≠ x → sp [V.ref x] (upd (upd H1 dx (.own x)) x (.ins C dx [])) (fun v H2 => v = .non ∧ Q (.ref x) H2) (E σ)) : Cl.tMakeV C sp E ta σ H Q := h
theorem s_clsV {σ : L2.St} {H : Hp} {Q : VK} {C : Addr} {v : V} {ta : TE} (h : ta σ H fun y H1 => y = .ref C ∧ Q v H1) : Cl.tClsV C v ta σ H Q := h
end Px
/-! a list times an int; walks over own objects by the dict in a field; a locked statement that may raise -/
namespace Cl
open PySem PySem.Spec PyProof.Rows L2 Px
section
variable {X : Cx} {l : List (Addr × Str)}
end
section
variable {X : Cx} {W : WX}
end
end Cl
namespace Cl
open PySem PySem.Spec PyProof.Rows L2 Px
/-- two own classes that both have the method, neither has the reflected one -/
structure PairOp (K : PySem.W.Frag) (C D : Addr) (op : Operator) (f g : Addr) : Prop where
  l : OwnOp K C (PySem.dunder op.info.2) f
  r : OwnOp K D (PySem.dunder op.info.2) g
  lr : PySem.W.findIn K (.ref C) (dunderR op.info.2) = some none
  rr : PySem.W.findIn K (.ref D) (dunderR op.info.2) = some none
  sub : PySem.W.subIn K (.ref D) (.ref C) = some false
  ne : C ≠ D
section
open PySem.W
variable {K : PySem.W.Frag} {h₀ : Heap} {L : Addr} {s : Shared} {m : Str → Option Value} {A : Around} {E : Value → Shared → Prop} {x y C D f g : Addr} {ox oy : Obj} {od od' : Option Obj} {prog : Program} {w : World}
end
section
variable {X : Cx} {CX : CXT} {k : Nat} {f g C D : Addr} {sp : Sp} {E : L2.St → XK}
def AltP (X : Cx) (F : Value → Value → Sem Value) (C D : Addr) (sp : Sp) (E : L2.St → XK) : Prop := ∀ (pins : List (Addr × Obj)) (s : Shared) (σ : L2.St) (H : Hp) (a b dx dy : Addr) (fs gs : List (Str × V)) (Q : VK), Inv X pins σ H s → H a = some (.ins C dx fs) → H b = some (.ins D dy gs) → sp [.ref a, .ref b] H Q (E σ) →
  wpAny (model X.prog X.w) X.A (F (.ref a) (.ref b)) (EP X pins σ Q) X.xe s
inductive AltPs (X : Cx) (F : Value → Value → Sem Value) (E : L2.St → XK) : List (Addr × Addr × Sp) → Prop
  | nil : AltPs X F E []
  | cons {C D : Addr} {sp : Sp} {l : List (Addr × Addr × Sp)} : AltP X F C D sp E → AltPs X F E l → AltPs X F E ((C, D, sp) :: l)
theorem AltPs.at {F : Value → Value → Sem Value} {l : List (Addr × Addr × Sp)} (h : AltPs X F E l) (hm : (C, D, sp) ∈ l) : AltP X F C D sp E := by
  induction h with
  | nil => cases hm
  | cons h _ ih =>
    rcases List.mem_cons.mp hm with e | hm
    · cases e; exact h
    · exact ih hm
end
end Cl
namespace Hk
open PySem PySem.W PySem.Spec PyProof.Rows L2 He
end Hk
/-! a default that is an empty tuple -/
namespace Hk
open PySem PySem.W PySem.Spec PyProof.Rows L2 He
end Hk
namespace Cl
open PySem PySem.Spec PyProof.Rows L2 Px
end Cl
/-! x.upper() of a text; a loop over a list or a tuple -/
namespace Cl
open PySem PySem.Spec PyProof.Rows L2 Px
end Cl
/-! x[lo:hi:step] of a list -/
namespace Cl
open PySem PySem.Spec PyProof.Rows L2 Px
section
variable {X : Cx} {e : Expr} {te : TE} {lo hi : Option Expr} {st : Expr} {tl tu ts : TO} {p3 pos : Pos}
end
end Cl
/-! max, min of two ints -/
namespace Px
open PySem PySem.Spec PyProof.Rows L2
end Px
namespace Cl
open PySem PySem.Spec PySem.Calls PyProof.Rows L2 Px
end Cl
/-! TxX: x.split(y); a list of texts, one of them by x.replace(..) -/
namespace Cl
open PySem PySem.Spec PyProof.Rows L2 Px
section
variable {X : Cx} {o e f : Expr} {es : List Expr} {to te tf : TE} {t : TA} {apos pos p : Pos}
/-- the parts of a text, a new list -/
def rSplitP : V → List V → Hp → VK → Prop := fun x xs H Q => match x, xs with
  | .str a, [.str b] => 0 < b.length ∧ a.length ≤ 1000000 ∧ ∀ l, H l = none → Q (.ref l) (upd H l (.lst ((Txt.split a b).map V.str)))
  | _, _ => False
theorem mt_splitP : MtR X "str.split" rSplitP := by
  intro pins s σ H x xs v us Q I rv r h
  match x, xs, h with
  | .str a, [.str b], ⟨h0, h1, q⟩ =>
    refine mt_split pins s σ H _ _ v us Q I rv r ⟨a, b, rfl, rfl, ?_, by rw [sizeLine_eq]; omega, q⟩
    cases z : b.length == 0
    · rfl
    · have := eq_of_beq z
      omega
theorem pe_splitP (ho : PE X o to) (he : PE X e te) (hs : starEach [e] X.env = [(false, eval e X.env)] := by rfl) (hbase : attributeBase o "split" X.env (eval o X.env) = eval o X.env := by rfl) (hline : (apos.endLine == pos.line) = true := by rfl) :
    PE X (.Call (.Attribute o "split" apos) [e] [] pos) (tM1 rSplitP to te) := pe_m1 F.slot_str_split F.type_str_split mt_splitP ho he hs hbase hline
/-- behind a written text a token is out -/
theorem pa_litT {op : Operator} {r : R2} {x : Str} {j : Nat} {cp bp : Pos} (ho : OpR X (binaryOp op) r) (hf : PE X f tf) (hr : PAT X es t)
    (hs : starEach (.BinOp (.Constant (.str x) j cp) op f bp :: es) X.env = (false, eval (.BinOp (.Constant (.str x) j cp) op f bp) X.env) :: starEach es X.env := by rfl) : PA X (.BinOp (.Constant (.str x) j cp) op f bp :: es) (tCons (tOp r (tC (.str x)) tf) t) := by
  constructor
  intro pos pins s σ H Q I h
  rw [hs]
  show wpAny _ _ (spliced ((false, eval (.BinOp (.Constant (.str x) j cp) op f bp) X.env) :: backTo pos (starEach es X.env))) _ _ s
  have h : tf σ H fun y H2 => r (.str x) y H2 fun v H3 => t σ H3 fun xs H4 => Q (v :: xs) H4 := h
  have one : wpAny (model X.prog X.w) X.A (eval (.BinOp (.Constant (.str x) j cp) op f bp) X.env) (fun u s1 => 1 ≤ s1.toks ∧ EP X pins σ (fun v H3 => t σ H3 fun xs H4 => Q (v :: xs) H4) u s1) X.xe s := by
    refine wpAny_BinOp (Calls.Constant_str ?_)
    have one : 1 ≤ s.toks + 1 := Nat.le_add_left 1 _
    refine wpAny_mono (PySem.wpAny_toks (hf.run pins { s with toks := s.toks + 1 } σ H _ (I.tok _) h)) (fun u s1 q => ?_) fun _ _ z => z.2
    obtain ⟨hk, y, H2, I2, r2, q2⟩ := q
    refine wpAny_mono (PySem.wpAny_toks (ho pins s1 σ H2 (.str x) y _ u _ I2 ⟨_, rfl⟩ r2 q2)) (fun u2 s2 q3 => ⟨?_, q3.2⟩) fun _ _ z => z.2
    exact Nat.le_trans (Nat.le_trans one hk) q3.1
  refine Calls.spliced_cons (thn one fun u s1 ⟨k, y, H1, I1, r1, q1⟩ => ?_)
  exact thn (hr pos pins s1 σ H1 _ k I1 q1) fun us s2 ⟨xs, H2, I2, r2, q2⟩ => ⟨y :: xs, H2, I2, .cons r1 r2, q2⟩
theorem pat_cons (ha : PET X e te) (hr : PAT X es t) (hs : starEach (e :: es) X.env = (false, eval e X.env) :: starEach es X.env := by rfl) : PAT X (e :: es) (tCons te t) := by
  intro pos pins s σ H Q h0 I h
  rw [hs]
  show wpAny _ _ (spliced ((false, eval e X.env) :: backTo pos (starEach es X.env))) _ _ s
  refine Calls.spliced_cons (wpAny_mono (PySem.wpAny_toks (ha pins s σ H _ h0 I h)) (fun u s1 q => ?_) fun _ _ z => z.2)
  obtain ⟨hk, y, H1, I1, r1, q1⟩ := q
  exact thn (hr pos pins s1 σ H1 _ (Nat.le_trans h0 hk) I1 q1) fun us s2 ⟨xs, H2, I2, r2, q2⟩ => ⟨y :: xs, H2, I2, .cons r1 r2, q2⟩
theorem pat_of (h : PA X es t) : PAT X es t := fun pos pins s σ H Q _ I q => h.run pos pins s σ H Q I q
/-- x.replace(y, z), y and z written -/
def tReplP (to : TE) (y z : Str) : TE := fun σ H Q => to σ H fun v H1 => ∃ x, v = .str x ∧ x.length + (x.length + 1) * z.length ≤ 16777216 ∧ Q (.str (Txt.replace x y z)) H1
theorem pet_replP {y z : Str} {j k : Nat} {c0 c1 : Pos} (ho : PE X o to) (hyz : (y == z) = false := by decide +kernel)
    (hst : starEach [.Constant (.str y) j c0, .Constant (.str z) k c1] X.env = [(false, eval (.Constant (.str y) j c0) X.env), (false, eval (.Constant (.str z) k c1) X.env)] := by rfl)
    (hbase : attributeBase o "replace" X.env (eval o X.env) = eval o X.env := by rfl) (hline : (apos.endLine == pos.line) = true := by rfl) :
    PET X (.Call (.Attribute o "replace" apos) [.Constant (.str y) j c0, .Constant (.str z) k c1] [] pos) (tReplP to y z) := CwR.pet_replC ho hyz hst hbase hline
end
end Cl
namespace Hd
open PySem PySem.Spec PyProof.Rows L2 He Hk
def top (i : Nat) : Stmt := PySem.Challenge.pw_renamedhorn_k06_shares_read_back.main.body.getD i (.Pass ⟨0, 0, 0, 0⟩)
abbrev s_is_whole : Stmt := top 10
def d_is_whole : DefX := ⟨fun K => ga K "is_whole", "is_whole", "is_whole", defArgs s_is_whole, defBody s_is_whole, defScope s_is_whole, [], []⟩
abbrev s_law_source : Stmt := top 18
def d_law_source : DefX := ⟨fun K => ga K "_law_source", "_law_source", "_law_source", defArgs s_law_source, defBody s_law_source, defScope s_law_source, [], []⟩
abbrev s_law_take : Stmt := top 19
def d_law_take : DefX := ⟨fun K => ga K "_law_take", "_law_take", "_law_take", defArgs s_law_take, defBody s_law_take, defScope s_law_take, [], []⟩
abbrev s_law_same : Stmt := top 20
def d_law_same : DefX := ⟨fun K => ga K "_law_same", "_law_same", "_law_same", defArgs s_law_same, defBody s_law_same, defScope s_law_same, [], []⟩
abbrev s_law_gcd : Stmt := top 21
def d_law_gcd : DefX := ⟨fun K => ga K "_law_gcd", "_law_gcd", "_law_gcd", defArgs s_law_gcd, defBody s_law_gcd, defScope s_law_gcd, [], []⟩
abbrev s_law_is_share : Stmt := top 22
def d_law_is_share : DefX := ⟨fun K => ga K "_law_is_share", "_law_is_share", "_law_is_share", defArgs s_law_is_share, defBody s_law_is_share, defScope s_law_is_share, [], []⟩
abbrev s_law_number : Stmt := top 23
def d_law_number : DefX := ⟨fun K => ga K "_law_number", "_law_number", "_law_number", defArgs s_law_number, defBody s_law_number, defScope s_law_number, [], []⟩
abbrev s_law_share_text : Stmt := top 24
def d_law_share_text : DefX := ⟨fun K => ga K "_law_share_text", "_law_share_text", "_law_share_text", defArgs s_law_share_text, defBody s_law_share_text, defScope s_law_share_text, [], []⟩
abbrev s_law_sign : Stmt := top 25
def d_law_sign : DefX := ⟨fun K => ga K "_law_sign", "_law_sign", "_law_sign", defArgs s_law_sign, defBody s_law_sign, defScope s_law_sign, [], []⟩
abbrev s_law_changed : Stmt := top 26
def d_law_changed : DefX := ⟨fun K => ga K "_law_changed", "_law_changed", "_law_changed", defArgs s_law_changed, defBody s_law_changed, defScope s_law_changed, [], []⟩
abbrev s_law_text : Stmt := top 27
def d_law_text : DefX := ⟨fun K => ga K "_law_text", "_law_text", "_law_text", defArgs s_law_text, defBody s_law_text, defScope s_law_text, [], []⟩
abbrev s_law_figures : Stmt := top 28
def d_law_figures : DefX := ⟨fun K => ga K "_law_figures", "_law_figures", "_law_figures", defArgs s_law_figures, defBody s_law_figures, defScope s_law_figures, [], []⟩
abbrev s_law_parted : Stmt := top 29
def d_law_parted : DefX := ⟨fun K => ga K "_law_parted", "_law_parted", "_law_parted", defArgs s_law_parted, defBody s_law_parted, defScope s_law_parted, [], []⟩
abbrev s_law_refused : Stmt := top 30
def d_law_refused : DefX := ⟨fun K => ga K "_law_refused", "_law_refused", "_law_refused", defArgs s_law_refused, defBody s_law_refused, defScope s_law_refused, [], []⟩
abbrev s_law : Stmt := top 31
def d_law : DefX := ⟨fun K => ga K "law", "law", "law", defArgs s_law, defBody s_law, defScope s_law, [], []⟩
abbrev s_Share_init : Stmt := inClass (top 16) 0
def d_Share_init : DefX := ⟨fun K => (ma K (ga K "Share") "__init__"), "__init__", "Share.__init__", defArgs s_Share_init, defBody s_Share_init, defScope s_Share_init, [.int 1], []⟩
abbrev s_Share_read : Stmt := inClass (top 16) 1
def d_Share_read : DefX := ⟨fun K => (He5.wf K (ga K "Share") "staticmethod" "read"), "read", "Share.read", defArgs s_Share_read, defBody s_Share_read, defScope s_Share_read, [], []⟩
abbrev s_Share_str : Stmt := inClass (top 16) 3
def d_Share_str : DefX := ⟨fun K => (ma K (ga K "Share") "__str__"), "__str__", "Share.__str__", defArgs s_Share_str, defBody s_Share_str, defScope s_Share_str, [], []⟩
abbrev s_BadName_init : Stmt := inClass (top 4) 0
def d_BadName : ErrD := ⟨"BadName", ["text"], "BadName.__init__", defArgs s_BadName_init, defBody s_BadName_init, defScope s_BadName_init⟩
abbrev s_BadShare_init : Stmt := inClass (top 5) 0
def d_BadShare : ErrD := ⟨"BadShare", ["text"], "BadShare.__init__", defArgs s_BadShare_init, defBody s_BadShare_init, defScope s_BadShare_init⟩
abbrev s_ZeroBelow_init : Stmt := inClass (top 6) 0
def d_ZeroBelow : ErrD := ⟨"ZeroBelow", [], "ZeroBelow.__init__", defArgs s_ZeroBelow_init, defBody s_ZeroBelow_init, defScope s_ZeroBelow_init⟩
def its : List Hk.It := [d_is_whole.it, d_law_source.it, d_law_take.it, d_law_same.it, d_law_gcd.it, d_law_is_share.it, d_law_number.it, d_law_share_text.it, d_law_sign.it, d_law_changed.it, d_law_text.it, d_law_figures.it, d_law_parted.it, d_law_refused.it, d_law.it, d_Share_init.it, d_Share_read.it, d_Share_str.it, d_BadName.it "/claim/cut.py", d_BadShare.it "/claim/cut.py", d_ZeroBelow.it "/claim/cut.py"]
def fa : List Fa := [.glo "is_whole", .glo "_law_source", .glo "_law_take", .glo "_law_same", .glo "_law_gcd", .glo "_law_is_share", .glo "_law_number", .glo "_law_share_text", .glo "_law_sign", .glo "_law_changed", .glo "_law_text", .glo "_law_figures", .glo "_law_parted", .glo "_law_refused", .glo "law", .glo "Share", .cls "Share", .mkr "Share", .noat "Share" "bottom", .noat "Share" "top", .glo "HornError", .glo "BadName", .glo "BadShare", .glo "ZeroBelow", .str "DIGITS" "0123456789", .int "SIZE" 60, .free "NotImplemented", .free "ValueError", .free "abs", .free "all", .free "bool", .free "int", .free "isinstance", .free "len", .free "list", .free "range", .free "staticmethod", .free "str", .free "tuple", .exm "BadName" "BadShare" false, .exm "BadShare" "BadShare" true, .exm "ZeroBelow" "BadShare" false]
def ex : List (PySem.W.Frag → Bool) := [fun K => Hk.ownB K (ga K "Share") "__str__", fun K => Hk.bltB K "gcd" "math.gcd", fun K => Hk.smetB K (ga K "Share") "read", fun K => Hk.insKB K (ga K "Share"), fun K => Hk.kitB K (.ref (ga K "Share")) (.ref (ga K "Share")) true, fun K => excCB K (ga K "BadShare"), fun K => Hk.kitB K (.ref (ga K "BadShare")) (.ref (ga K "HornError")) true, fun K => Hk.kitB K (.ref (ga K "BadShare")) (.type "ValueError") true, fun K => Hk.kitB K (.ref (ga K "BadShare")) (.ref (ga K "BadName")) false]
def loose : List PySem.Str := (["_wall", "HornError", "BadName", "BadShare", "ZeroBelow", "DIGITS", "SIZE", "is_whole", "as_share", "added", "multiplied", "floored"] : List PySem.Str) ++ (["less", "Share", "_law_source", "_law_take", "_law_same", "_law_gcd", "_law_is_share", "_law_number", "_law_share_text", "_law_sign", "_law_changed", "_law_text"] : List PySem.Str) ++ (["_law_figures", "_law_parted", "_law_refused"] : List PySem.Str)
abbrev R : PySem.W.OpenRow := PySem.W.OpenLaw.row PySem.Challenge.rw_renamedhorn_k06_shares_read_back
abbrev hk : PySem.W.Hook := hookZ 6 fa ex its
def ob (s : PySem.W.SharedT) : AlZ := obsZG 6 fa ex its (HandSHeadRun.getT s)
theorem ob_eq (s : PySem.W.SharedT) : ob s = hk.obs s.abs := obsZG_eq (HandSHeadRun.getT_eq s)
set_option maxHeartbeats 0 in
theorem run (w : World) : HandSHeadRun.RunEqI R (PySem.W.view R.prog [0, 31]) hk ob 6000 loose w := by
  unfold HandSHeadRun.RunEqI
  kernel_rfl
end Hd
section
open PySem PySem.Spec PyProof.Rows L2 Px
local macro_rules | `(tactic| walk_at "s") => `(tactic| first
  | with_reducible refine s_var rfl ?_
  | with_reducible (first
  | refine s_c ?_ | refine s_seq ?_ | refine s_asg ?_ | refine s_op ?_ | refine s_gname ?_ | refine s_cons ?_ | refine s_nil ?_ | refine s_cb ?_ | refine s_ifS ?_ | refine s_test ?_ | refine s_exb ?_ | refine s_ret ?_
  | refine s_eqI ?_ | refine s_addI ?_ | refine s_in0 ?_ | refine s_ltI ?_ | refine s_eqS ?_ | refine s_gsub ?_ | refine s_and ?_ | refine s_or ?_ | refine s_not ?_ | refine s_andV ?_ | refine s_orV ?_ | refine s_notV ?_ | refine s_sl ?_ | refine s_nopart ?_ | refine s_part ?_ | refine s_exi ?_
  | refine s_callS ?_ | refine s_call ?_ | refine s_drop ?_ | refine s_next ?_ | refine s_tB ?_ | refine s_lst ?_ | refine s_tup ?_ | refine s_inS ?_ | refine s_isN ?_ | refine s_yes ?_ | refine s_un ?_ | refine s_neg ?_ | refine s_ifE ?_ | refine s_retN ?_ | refine s_neS ?_ | refine s_neI ?_ | refine s_eqB ?_ | refine s_ltS ?_ | refine s_intI ?_ | refine s_rng1 ?_ | refine s_cont ?_ | refine s_break ?_ | refine s_forR ?_ | refine s_forA ?_ | refine s_lcA ?_ | refine s_lcR ?_ | refine s_bm ?_ | refine s_make ?_ | refine s_att ?_ | refine s_cls ?_ | refine s_setA ?_ | refine s_strS ?_ | refine s_opS ?_ | refine s_forO ?_ | refine s_lcO ?_ | refine s_methO ?_ | refine s_callO ?_ | refine s_exr ?_ | refine s_m1 ?_ | refine s_smeth ?_ | refine s_cmeth ?_ | refine s_makeV ?_ | refine s_clsV ?_ | refine s_listV ?_ | refine s_dget ?_ | refine s_lc2 ?_ | refine s_anyB ?_ | refine s_gsubO ?_ | refine s_attA ?_ | refine s_ddel ?_ | refine s_lstRg2 ?_ | refine s_lstRg1 ?_ | refine s_makeK ?_ | refine s_augO rfl ?_))
local macro_rules | `(tactic| walk_at "mem") => `(tactic| repeat (first | exact List.mem_cons_self | apply List.mem_cons_of_mem))
local macro_rules | `(tactic| walk_at "ss") => `(tactic| repeat walk_at "s")
local macro_rules | `(tactic| walk_at "sl") => `(tactic| repeat (first | walk_at "s" | ((with_reducible refine' s_ixL ?kA ?kB ?_); (case kA => first | assumption | exact upd_same); (case kB => rfl)) | ((with_reducible refine' s_setU ?kA ?_); (case kA => rfl)) | ((with_reducible refine' s_setL ?kA ?kB ?_); (case kA => assumption); (case kB => rfl))))
namespace Rd
open PySem PySem.Spec PyProof.Rows L2 He Px
/-- the law's source of numbers: the cells, the next cell, the number at hand, how often, which way -/
def Src (H : Hp) (a : Addr) : Prop := ∃ (c : Addr) (cells : List Int) (i cur cnt mode : Int), H a = some (.lst [.ref c, .int i, .int cur, .int cnt, .int mode]) ∧ H c = some (.lst (cells.map V.int)) ∧ 0 ≤ i ∧ cells.length ≤ 100
theorem Src.keep {H H' : Hp} {a : Addr} (h : Src H a) (s : Same H H') : Src H' a := by
  obtain ⟨c, cells, i, cur, cnt, mode, h1, h2, h3, h4⟩ := h
  exact ⟨c, cells, i, cur, cnt, mode, s _ _ h1, s _ _ h2, h3, h4⟩
theorem Src.but {H H' : Hp} {a b : Addr} {o : HO} (h : Src H a) (s : But b H H') (hb : H b = some o) (hn : ∀ xs, o ≠ .lst xs) : Src H' a := by
  obtain ⟨c, cells, i, cur, cnt, mode, h1, h2, h3, h4⟩ := h
  exact ⟨c, cells, i, cur, cnt, mode, s _ _ h1 (ne_of h1 hb fun e => hn _ e.symm), s _ _ h2 (ne_of h2 hb fun e => hn _ e.symm), h3, h4⟩
theorem atI_cells {cells : List Int} {i : Int} (h0 : 0 ≤ i) (h1 : ¬ ((cells.map V.int).length : Int) ≤ i) : ∃ z : Int, atI (cells.map V.int) i = some (.int z) := by
  rw [List.length_map] at h1
  have hl : i.toNat < cells.length := by omega
  refine ⟨cells[i.toNat], ?_⟩
  unfold atI ixN
  rw [if_pos h0, if_pos (by rw [List.length_map]; omega)]
  simp [hl]
theorem lg {m : Int} (h0 : 0 < m) (h1 : m ≤ 1000000000000000) : m.natAbs.log2 < 9000 := by
  have : m.natAbs ≠ 0 := by omega
  refine (Nat.log2_lt this).mpr (Nat.lt_of_lt_of_le (m := 2 ^ 60) (by omega) (Nat.pow_le_pow_right (by decide) (by decide)))
/-- the source at a went on; all else stands -/
structure Mov (a : Addr) (H H' : Hp) : Prop where
  but : But a H H'
  cell : ∀ c xs, H a = some (.lst (.ref c :: xs)) → ∃ ys, H' a = some (.lst (.ref c :: ys))
instance {a : Addr} {H H' : Hp} : CoeFun (Mov a H H') (fun _ => ∀ b o, H b = some o → b ≠ a → H' b = some o) := ⟨Mov.but⟩
theorem Mov.refl (a : Addr) (H : Hp) : Mov a H H := ⟨But.refl a H, fun _ xs h => ⟨xs, h⟩⟩
theorem Mov.trans {a : Addr} {H H1 H2 : Hp} (h1 : Mov a H H1) (h2 : Mov a H1 H2) : Mov a H H2 := ⟨h1.but.trans h2.but, fun c xs h => by
  obtain ⟨ys, h⟩ := h1.cell c xs h
  exact h2.cell c ys h⟩
theorem Mov.of_same {a : Addr} {H H1 : Hp} (h : Same H H1) : Mov a H H1 := ⟨But.of_same h, fun _ xs e => ⟨xs, h _ _ e⟩⟩
theorem Mov.of {a c : Addr} {H H1 : Hp} {xs ys : List V} (h : But a H H1) (h0 : H a = some (.lst (.ref c :: xs))) (h1 : H1 a = some (.lst (.ref c :: ys))) : Mov a H H1 := ⟨h, fun d zs e => by
  rw [h0] at e
  have e := Option.some.inj e
  injection e with e
  injection e with e _
  injection e with e
  subst e
  exact ⟨ys, h1⟩⟩
theorem Mov.un {a : Addr} {H H' : Hp} {p : Addr} (b : Mov a H H') (hn : p ≠ a) (h : H' p = none) : H p = none := by
  cases e : H p with
  | none => rfl
  | some o => rw [b _ _ e hn] at h; cases h
theorem Src.ne {H : Hp} {a p : Addr} (h : Src H a) (hp : H p = none) : p ≠ a := by
  obtain ⟨c, cells, i, cur, cnt, mode, h1, _⟩ := h
  exact fun e => by rw [e, h1] at hp; cases hp
/-- an object that is younger than the source changes -/
theorem Src.off {H H' : Hp} {a q : Addr} {o : HO} (h : Src H a) (hq : H q = none) (m : Mov a H H') (h' : Src H' a) : Src (L2.upd H' q o) a := by
  have hqa := h.ne hq
  obtain ⟨c, cells, i, cur, cnt, mode, h1, h2, _⟩ := h
  obtain ⟨c', cells', i', cur', cnt', mode', k1, k2, k3, k4⟩ := h'
  obtain ⟨ys, e⟩ := m.cell c _ h1
  rw [k1] at e
  have e := Option.some.inj e
  injection e with e
  injection e with e _
  injection e with e
  subst e
  have hc : c' ≠ q := fun z => by rw [z, hq] at h2; cases h2
  exact ⟨c', cells', i', cur', cnt', mode', by rw [upd_ne hqa.symm]; exact k1, by rw [upd_ne hc]; exact k2, k3, k4⟩
/-- texts: a minus first, the name of a literal, its negation; names, literals -/
def dash (z : Str) : Bool := decide (cutS z none (some 1) = ("-" : Str))
def bare (z : Str) : Str := if dash z = true then cutS z (some 1) none else z
def flip (z : Str) : Str := if dash z = true then cutS z (some 1) none else ("-" : Str) ++ z
def lettersL : List Nat := ("abcdefghijklmnopqrstuvwxyz" : Str).cps.toList
def signsL : List Nat := ("abcdefghijklmnopqrstuvwxyz0123456789" : Str).cps.toList
def digitsL : List Nat := ("0123456789" : Str).cps.toList
def isNm (z : Str) : Bool := !decide (((z.length : Int) < 1)) && (!decide ((8 : Int) < (z.length : Int)) && ((match z.cps.toList with | c :: _ => decide (c ∈ lettersL) | [] => false) && z.cps.toList.all fun c => decide (c ∈ signsL)))
def isLit (z : Str) : Bool := isNm (bare z)
theorem cutS_len (z : Str) (lo hi : Option Int) : (cutS z lo hi).length ≤ z.length := by
  unfold cutS Str.length
  simp only [List.size_toArray, List.length_take, List.length_drop, Array.length_toList]
  omega
theorem len_toList (z : Str) : z.cps.toList.length = z.length := by simp [Str.length]
theorem app_len (a b : Str) : (a ++ b).length = a.length + b.length := by
  show (a.cps ++ b.cps).size = a.cps.size + b.cps.size
  simp
theorem at_ex {l : List Nat} {r : Int} (h0 : 0 ≤ r) (h1 : r < (l.length : Int)) : ∃ c, c ∈ l ∧ atI l r = some c := by
  have hl : r.toNat < l.length := by omega
  refine ⟨l[r.toNat], List.getElem_mem hl, ?_⟩
  unfold atI ixN
  rw [if_pos h0, if_pos h1]
  simp [hl]
theorem app_toList (a b : Str) : (a ++ b).cps.toList = a.cps.toList ++ b.cps.toList := by
  show (a.cps ++ b.cps).toList = _
  simp
/-- a letter, then letters and digits -/
def Wrd (z : Str) : Prop := ∃ c r, z.cps.toList = c :: r ∧ c ∈ lettersL ∧ ∀ x ∈ r, x ∈ signsL
theorem letters_signs {c : Nat} (h : c ∈ lettersL) : c ∈ signsL := by
  have e : signsL = lettersL ++ digitsL := by decide +kernel
  rw [e]
  exact List.mem_append_left _ h
theorem Wrd.nm {z : Str} (h : Wrd z) (hl : z.length ≤ 8) : isNm z = true := by
  obtain ⟨c, r, e, h1, h2⟩ := h
  have hn := len_toList z
  rw [e] at hn
  unfold isNm
  rw [decide_eq_false (by simp at hn; omega), decide_eq_false (by omega), e]
  show (true && (true && (decide (c ∈ lettersL) && (c :: r).all fun c => decide (c ∈ signsL)))) = true
  rw [decide_eq_true h1]
  simp only [Bool.true_and, List.all_eq_true, decide_eq_true_eq]
  intro x hx
  rcases List.mem_cons.mp hx with rfl | hx
  · exact letters_signs h1
  · exact h2 x hx
theorem Wrd.one {c : Nat} (h : c ∈ lettersL) : Wrd ⟨#[c]⟩ := ⟨c, [], rfl, h, fun _ hx => nomatch hx⟩
theorem cut_tail (z : Str) : (cutS z (some 1) none).cps.toList = z.cps.toList.drop 1 := by
  unfold cutS
  have e : HT.sIx z.length 0 (some 1) = min 1 z.length := HT.sIx_nat z.length 0 1
  rw [e, HT.sIx_none]
  have hl := len_toList z
  show List.take (z.length - min 1 z.length) (List.drop (min 1 z.length) z.cps.toList) = _
  cases hz : z.cps.toList with
  | nil => simp
  | cons c r =>
    rw [hz] at hl
    have : min 1 z.length = 1 := by rw [← hl]; simp
    rw [this, List.take_of_length_le (by simp at hl ⊢; omega)]
theorem cut_head (z : Str) : (cutS z none (some 1)).cps.toList = z.cps.toList.take 1 := by
  unfold cutS
  have e : HT.sIx z.length z.length (some 1) = min 1 z.length := HT.sIx_nat z.length z.length 1
  rw [e, HT.sIx_none]
  show List.take (min 1 z.length - 0) (List.drop 0 z.cps.toList) = _
  have hl := len_toList z
  cases hz : z.cps.toList with
  | nil => simp
  | cons c r =>
    rw [hz] at hl
    have : min 1 z.length = 1 := by rw [← hl]; simp
    rw [this]
    rfl
theorem str_ext {a b : Str} (h : a.cps.toList = b.cps.toList) : a = b := by
  obtain ⟨x⟩ := a
  obtain ⟨y⟩ := b
  have : x = y := by
    obtain ⟨l⟩ := x
    obtain ⟨m⟩ := y
    simp at h
    rw [h]
  rw [this]
theorem dash_iff (z : Str) : dash z = true ↔ ∃ r, z.cps.toList = 45 :: r := by
  have h45 : ("-" : Str).cps.toList = [45] := by decide +kernel
  unfold dash
  rw [decide_eq_true_iff]
  constructor
  · intro h
    have e := cut_head z
    rw [h, h45] at e
    cases hz : z.cps.toList with
    | nil => rw [hz] at e; cases e
    | cons c r =>
      rw [hz] at e
      have : c = 45 := by simpa using e.symm
      exact ⟨r, by rw [this]⟩
  · rintro ⟨r, h⟩
    apply str_ext
    rw [cut_head, h, h45]
    rfl
/-! data as a whole -/
mutual
inductive Is (H : Hp) : V → PyData → Prop
  | non : Is H .non .none
  | bl (b : Bool) : Is H (.bl b) (.bool b)
  | int (i : Int) : Is H (.int i) (.int i)
  | str (x : Str) : Is H (.str x) (.str x)
  | lst {a : Addr} {xs : List V} {ds : List PyData} : H a = some (.lst xs) → IsAll H xs ds → Is H (.ref a) (.list ds)
  | tup {a : Addr} {xs : List V} {ds : List PyData} : H a = some (.tup xs) → IsAll H xs ds → Is H (.ref a) (.tuple ds)
inductive IsAll (H : Hp) : List V → List PyData → Prop
  | nil : IsAll H [] []
  | cons {v : V} {vs : List V} {d : PyData} {ds : List PyData} : Is H v d → IsAll H vs ds → IsAll H (v :: vs) (d :: ds)
end
mutual
theorem Is.keep {H H' : Hp} (s : Same H H') : ∀ {v : V} {d : PyData}, Is H v d → Is H' v d
  | _, _, .non => .non
  | _, _, .bl b => .bl b
  | _, _, .int i => .int i
  | _, _, .str x => .str x
  | _, _, .lst h r => .lst (s _ _ h) (IsAll.keep s r)
  | _, _, .tup h r => .tup (s _ _ h) (IsAll.keep s r)
theorem IsAll.keep {H H' : Hp} (s : Same H H') : ∀ {vs : List V} {ds : List PyData}, IsAll H vs ds → IsAll H' vs ds
  | _, _, .nil => .nil
  | _, _, .cons h r => .cons (Is.keep s h) (IsAll.keep s r)
end
theorem IsAll.len {H : Hp} : ∀ {vs : List V} {ds : List PyData}, IsAll H vs ds → vs.length = ds.length
  | _, _, .nil => rfl
  | _, _, .cons _ r => congrArg (· + 1) r.len
theorem IsAll.at {H : Hp} : ∀ {vs : List V} {ds : List PyData} {i : Nat}, IsAll H vs ds → i < ds.length → ∃ v d, vs[i]? = some v ∧ ds[i]? = some d ∧ Is H v d
  | _, _, i, .nil, h => absurd h (by simp)
  | v :: vs, d :: ds, 0, .cons h _, _ => ⟨v, d, rfl, rfl, h⟩
  | v :: vs, d :: ds, i + 1, .cons _ r, h => by
    obtain ⟨v', d', h1, h2, h3⟩ := r.at (i := i) (by simpa using h)
    exact ⟨v', d', by simpa using h1, by simpa using h2, h3⟩
theorem IsAll.ints {H : Hp} : ∀ l : List Int, IsAll H (l.map V.int) (l.map PyData.int)
  | [] => .nil
  | x :: r => .cons (.int x) (IsAll.ints r)
/-- depth at most n, no list longer than a million -/
def Fits : Nat → PyData → Prop
  | _, .none => True
  | _, .bool _ => True
  | _, .int _ => True
  | _, .str _ => True
  | 0, .list _ => False
  | 0, .tuple _ => False
  | n + 1, .list ds => ds.length ≤ 1000000 ∧ ∀ d ∈ ds, Fits n d
  | n + 1, .tuple ds => ds.length ≤ 1000000 ∧ ∀ d ∈ ds, Fits n d
  | _, .dict _ => False
noncomputable def sameB (d e : PyData) : Bool := @decide (d = e) (Classical.propDecidable _)
theorem sameB_eq {d e : PyData} (h : d = e) : sameB d e = true := by unfold sameB; simp [h]
theorem sameB_ne {d e : PyData} (h : d ≠ e) : sameB d e = false := by unfold sameB; simp [h]
theorem sameB_bool (a b : Bool) : sameB (.bool a) (.bool b) = decide (a = b) := by
  by_cases h : a = b
  · rw [sameB_eq (by rw [h]), decide_eq_true h]
  · rw [sameB_ne (by simpa using h), decide_eq_false h]
theorem sameB_int (a b : Int) : sameB (.int a) (.int b) = decide (a = b) := by
  by_cases h : a = b
  · rw [sameB_eq (by rw [h]), decide_eq_true h]
  · rw [sameB_ne (by simpa using h), decide_eq_false h]
theorem sameB_str (a b : Str) : sameB (.str a) (.str b) = decide (a = b) := by
  by_cases h : a = b
  · rw [sameB_eq (by rw [h]), decide_eq_true h]
  · rw [sameB_ne (by simpa using h), decide_eq_false h]
theorem same_all : ∀ {xs ys : List PyData}, xs.length = ys.length → ((List.range xs.length).all fun i => sameB (xs.getD i .none) (ys.getD i .none)) = @decide (xs = ys) (Classical.propDecidable _) := by
  intro xs ys hl
  by_cases h : xs = ys
  · subst h
    simp only [decide_true, List.all_eq_true, List.mem_range]
    exact fun i _ => sameB_eq rfl
  · rw [show @decide (xs = ys) (Classical.propDecidable _) = false by simp [h]]
    rw [Bool.eq_false_iff]
    intro ha
    apply h
    simp only [List.all_eq_true, List.mem_range] at ha
    refine List.ext_getElem hl fun i h1 h2 => ?_
    have := ha i h1
    by_cases hi : xs.getD i .none = ys.getD i .none
    · simpa [List.getD, h1, h2] using hi
    · rw [sameB_ne hi] at this
      cases this
/-- isinstance of data -/
def isBoolD : PyData → Bool
  | .none => false
  | .bool _ => true
  | .int _ => false
  | .str _ => false
  | .list _ => false
  | .tuple _ => false
  | .dict _ => false
theorem isi_bool {K : PySem.W.Frag} {H : Hp} {Q : VK} {x : V} {d : PyData} (h : Is H x d) (q : Q (.bl (isBoolD d)) H) : rIsi K [x, .ty "bool"] H Q := by
  cases h with
  | non => exact ⟨_, .ty "bool", _, _, false, rfl, .ty _, .base (.non), kit_ty (show kitB "NoneType" "bool" = some false by decide +kernel), q⟩
  | bl b => exact ⟨_, .ty "bool", _, _, true, rfl, .ty _, .base (.bl b), kit_ty (show kitB "bool" "bool" = some true by decide +kernel), q⟩
  | int i => exact ⟨_, .ty "bool", _, _, false, rfl, .ty _, .base (.int i), kit_ty (show kitB "int" "bool" = some false by decide +kernel), q⟩
  | str z => exact ⟨_, .ty "bool", _, _, false, rfl, .ty _, .base (.str z), kit_ty (show kitB "str" "bool" = some false by decide +kernel), q⟩
  | lst e r => exact ⟨_, .ty "bool", _, _, false, rfl, .ty _, .base (.lst e), kit_ty (show kitB "list" "bool" = some false by decide +kernel), q⟩
  | tup e r => exact ⟨_, .ty "bool", _, _, false, rfl, .ty _, .base (.tup e), kit_ty (show kitB "tuple" "bool" = some false by decide +kernel), q⟩
def isIntD : PyData → Bool
  | .none => false
  | .bool _ => true
  | .int _ => true
  | .str _ => false
  | .list _ => false
  | .tuple _ => false
  | .dict _ => false
theorem isi_int {K : PySem.W.Frag} {H : Hp} {Q : VK} {x : V} {d : PyData} (h : Is H x d) (q : Q (.bl (isIntD d)) H) : rIsi K [x, .ty "int"] H Q := by
  cases h with
  | non => exact ⟨_, .ty "int", _, _, false, rfl, .ty _, .base (.non), kit_ty (show kitB "NoneType" "int" = some false by decide +kernel), q⟩
  | bl b => exact ⟨_, .ty "int", _, _, true, rfl, .ty _, .base (.bl b), kit_ty (show kitB "bool" "int" = some true by decide +kernel), q⟩
  | int i => exact ⟨_, .ty "int", _, _, true, rfl, .ty _, .base (.int i), kit_ty (show kitB "int" "int" = some true by decide +kernel), q⟩
  | str z => exact ⟨_, .ty "int", _, _, false, rfl, .ty _, .base (.str z), kit_ty (show kitB "str" "int" = some false by decide +kernel), q⟩
  | lst e r => exact ⟨_, .ty "int", _, _, false, rfl, .ty _, .base (.lst e), kit_ty (show kitB "list" "int" = some false by decide +kernel), q⟩
  | tup e r => exact ⟨_, .ty "int", _, _, false, rfl, .ty _, .base (.tup e), kit_ty (show kitB "tuple" "int" = some false by decide +kernel), q⟩
def isStrD : PyData → Bool
  | .none => false
  | .bool _ => false
  | .int _ => false
  | .str _ => true
  | .list _ => false
  | .tuple _ => false
  | .dict _ => false
theorem isi_str {K : PySem.W.Frag} {H : Hp} {Q : VK} {x : V} {d : PyData} (h : Is H x d) (q : Q (.bl (isStrD d)) H) : rIsi K [x, .ty "str"] H Q := by
  cases h with
  | non => exact ⟨_, .ty "str", _, _, false, rfl, .ty _, .base (.non), kit_ty (show kitB "NoneType" "str" = some false by decide +kernel), q⟩
  | bl b => exact ⟨_, .ty "str", _, _, false, rfl, .ty _, .base (.bl b), kit_ty (show kitB "bool" "str" = some false by decide +kernel), q⟩
  | int i => exact ⟨_, .ty "str", _, _, false, rfl, .ty _, .base (.int i), kit_ty (show kitB "int" "str" = some false by decide +kernel), q⟩
  | str z => exact ⟨_, .ty "str", _, _, true, rfl, .ty _, .base (.str z), kit_ty (show kitB "str" "str" = some true by decide +kernel), q⟩
  | lst e r => exact ⟨_, .ty "str", _, _, false, rfl, .ty _, .base (.lst e), kit_ty (show kitB "list" "str" = some false by decide +kernel), q⟩
  | tup e r => exact ⟨_, .ty "str", _, _, false, rfl, .ty _, .base (.tup e), kit_ty (show kitB "tuple" "str" = some false by decide +kernel), q⟩
def isListD : PyData → Bool
  | .none => false
  | .bool _ => false
  | .int _ => false
  | .str _ => false
  | .list _ => true
  | .tuple _ => false
  | .dict _ => false
theorem isi_list {K : PySem.W.Frag} {H : Hp} {Q : VK} {x : V} {d : PyData} (h : Is H x d) (q : Q (.bl (isListD d)) H) : rIsi K [x, .ty "list"] H Q := by
  cases h with
  | non => exact ⟨_, .ty "list", _, _, false, rfl, .ty _, .base (.non), kit_ty (show kitB "NoneType" "list" = some false by decide +kernel), q⟩
  | bl b => exact ⟨_, .ty "list", _, _, false, rfl, .ty _, .base (.bl b), kit_ty (show kitB "bool" "list" = some false by decide +kernel), q⟩
  | int i => exact ⟨_, .ty "list", _, _, false, rfl, .ty _, .base (.int i), kit_ty (show kitB "int" "list" = some false by decide +kernel), q⟩
  | str z => exact ⟨_, .ty "list", _, _, false, rfl, .ty _, .base (.str z), kit_ty (show kitB "str" "list" = some false by decide +kernel), q⟩
  | lst e r => exact ⟨_, .ty "list", _, _, true, rfl, .ty _, .base (.lst e), kit_ty (show kitB "list" "list" = some true by decide +kernel), q⟩
  | tup e r => exact ⟨_, .ty "list", _, _, false, rfl, .ty _, .base (.tup e), kit_ty (show kitB "tuple" "list" = some false by decide +kernel), q⟩
def isTupleD : PyData → Bool
  | .none => false
  | .bool _ => false
  | .int _ => false
  | .str _ => false
  | .list _ => false
  | .tuple _ => true
  | .dict _ => false
theorem isi_tuple {K : PySem.W.Frag} {H : Hp} {Q : VK} {x : V} {d : PyData} (h : Is H x d) (q : Q (.bl (isTupleD d)) H) : rIsi K [x, .ty "tuple"] H Q := by
  cases h with
  | non => exact ⟨_, .ty "tuple", _, _, false, rfl, .ty _, .base (.non), kit_ty (show kitB "NoneType" "tuple" = some false by decide +kernel), q⟩
  | bl b => exact ⟨_, .ty "tuple", _, _, false, rfl, .ty _, .base (.bl b), kit_ty (show kitB "bool" "tuple" = some false by decide +kernel), q⟩
  | int i => exact ⟨_, .ty "tuple", _, _, false, rfl, .ty _, .base (.int i), kit_ty (show kitB "int" "tuple" = some false by decide +kernel), q⟩
  | str z => exact ⟨_, .ty "tuple", _, _, false, rfl, .ty _, .base (.str z), kit_ty (show kitB "str" "tuple" = some false by decide +kernel), q⟩
  | lst e r => exact ⟨_, .ty "tuple", _, _, false, rfl, .ty _, .base (.lst e), kit_ty (show kitB "list" "tuple" = some false by decide +kernel), q⟩
  | tup e r => exact ⟨_, .ty "tuple", _, _, true, rfl, .ty _, .base (.tup e), kit_ty (show kitB "tuple" "tuple" = some true by decide +kernel), q⟩
end Rd
namespace Rd
open PySem PySem.Spec PyProof.Rows L2 He Px
def spn_law_same (K : PySem.W.Frag) (n : Nat) : Sp := Sp2 fun x y H Q _ => ∃ d e : PyData, Is H x d ∧ Is H y e ∧ Fits n d ∧ ∀ H', Same H H' → Q (.bl (sameB d e)) H'
def sp_law_same (K : PySem.W.Frag) : Sp := spn_law_same K 4
def spR_law_same (K : PySem.W.Frag) : Nat → Sp
  | 0 => fun _ _ _ _ => False
  | n + 1 => spn_law_same K n
def N_law_same : List PySem.Str := ["_law_one", "_law_other", "_law_lists", "_law_k"]
def t_law_same (K : PySem.W.Frag) (R : Sp) (W : WX) : TS := (tCut (tIfS (tOr (tB (tCB (rIsi K) (tCons (tVar 0) (tCons (tC (.ty "bool")) tNil)))) (tB (tCB (rIsi K) (tCons (tVar 1) (tCons (tC (.ty "bool")) tNil))))) (tRet (tAndV (tCB (rIsi K) (tCons (tVar 0) (tCons (tC (.ty "bool")) tNil))) (tAndV (tCB (rIsi K) (tCons (tVar 1) (tCons (tC (.ty "bool")) tNil))) (tOp (rEqP K) (tVar 0) (tVar 1))))) tNext)
    (tCut (tIfS (tOr (tB (tCB (rIsi K) (tCons (tVar 0) (tCons (tC (.ty "int")) tNil)))) (tB (tCB (rIsi K) (tCons (tVar 1) (tCons (tC (.ty "int")) tNil))))) (tRet (tAndV (tCB (rIsi K) (tCons (tVar 0) (tCons (tC (.ty "int")) tNil))) (tAndV (tCB (rIsi K) (tCons (tVar 1) (tCons (tC (.ty "int")) tNil))) (tOp (rEqP K) (tVar 0) (tVar 1))))) tNext)
    (tCut (tIfS (tOr (tB (tCB (rIsi K) (tCons (tVar 0) (tCons (tC (.ty "str")) tNil)))) (tB (tCB (rIsi K) (tCons (tVar 1) (tCons (tC (.ty "str")) tNil))))) (tRet (tAndV (tCB (rIsi K) (tCons (tVar 0) (tCons (tC (.ty "str")) tNil))) (tAndV (tCB (rIsi K) (tCons (tVar 1) (tCons (tC (.ty "str")) tNil))) (tOp (rEqP K) (tVar 0) (tVar 1))))) tNext)
    (tSeq (tAsg (tAndV (tCB (rIsi K) (tCons (tVar 0) (tCons (tC (.ty "list")) tNil))) (tCB (rIsi K) (tCons (tVar 1) (tCons (tC (.ty "list")) tNil)))) (gName 2))
    (tCut (tIfS (tAnd (tNot (tB (tVar 2))) (tNot (tAnd (tB (tCB (rIsi K) (tCons (tVar 0) (tCons (tC (.ty "tuple")) tNil)))) (tB (tCB (rIsi K) (tCons (tVar 1) (tCons (tC (.ty "tuple")) tNil))))))) (tRet (tAndV (tOp (rIsP false) (tVar 0) (tC .non)) (tOp (rIsP false) (tVar 1) (tC .non)))) tNext)
    (tRet (tAndV (tOp (rEqP K) (tCB (rLenP K) (tCons (tVar 0) tNil)) (tCB (rLenP K) (tCons (tVar 1) tNil))) (tCB (rAll K) (tCons (tLc (iRng1 (tCons (tCB (rLenP K) (tCons (tVar 0) tNil)) tNil)) (gName 3) tYes (tCall R [] E0 (tCons (tOp (rIxP K) (tVar 0) (tVar 3)) (tCons (tOp (rIxP K) (tVar 1) (tVar 3)) tNil))) [3]) tNil)))))))))
local macro_rules | `(tactic| walk_at "same") => `(tactic| repeat (first | walk_at "s" | (with_reducible refine isi_bool (by assumption) ?_) | (with_reducible refine isi_int (by assumption) ?_) | (with_reducible refine isi_str (by assumption) ?_) | (with_reducible refine isi_list (by assumption) ?_) | (with_reducible refine isi_tuple (by assumption) ?_) | (refine s_itF rfl ?_) | (refine s_itT rfl ?_) | (with_reducible refine s_nocut ?_)))
theorem pure_law_same {K : PySem.W.Frag} {n : Nat} {vs : List V} {H : Hp} {Q : VK} {E : XK} {W : WX} (h : spn_law_same K n vs H Q E) : t_law_same K (spR_law_same K n) W { nx := fun _ H' => Q .non H', rt := Q } (start N_law_same vs) H := by
  obtain ⟨x, y, rfl, d, e, hd, he, hf, hq⟩ := h
  show t_law_same K _ W _ [some x, some y, none, none] H
  unfold t_law_same
  have q0 := hq H (Same.refl H)
  have no : d ≠ e → Q (.bl false) H := fun e1 => by rw [sameB_ne e1] at q0; exact q0
  have hy : ∀ {z : V} {f : PyData}, Is H z f → match f with
    | .none => z = .non
    | .bool b => z = .bl b
    | .int i => z = .int i
    | .str s => z = .str s
    | .list ds => ∃ a xs, z = .ref a ∧ H a = some (.lst xs) ∧ IsAll H xs ds
    | .tuple ds => ∃ a xs, z = .ref a ∧ H a = some (.tup xs) ∧ IsAll H xs ds
    | .dict _ => False := by
    intro z f h
    cases h with
    | lst h1 h2 => exact ⟨_, _, rfl, h1, h2⟩
    | tup h1 h2 => exact ⟨_, _, rfl, h1, h2⟩
    | _ => rfl
  have hX := hy hd
  have hY := hy he
  cases d with
  | none =>
    cases e with
    | none =>
      have hX : x = .non := hX
      have hY : y = .non := hY
      subst hX hY
      walk_at "same"
      rw [sameB_eq rfl] at q0
      exact q0
    | list es =>
      obtain ⟨b, ys, rfl, hb, hys⟩ := hY
      have hX : x = .non := hX
      subst hX
      walk_at "same"
      exact no (fun h => by cases h)
    | tuple es =>
      obtain ⟨b, ys, rfl, hb, hys⟩ := hY
      have hX : x = .non := hX
      subst hX
      walk_at "same"
      exact no (fun h => by cases h)
    | dict _ => exact False.elim hY
    | _ =>
      walk_at "same"
      exact no (fun h => by cases h)
  | bool a =>
    cases e with
    | bool b =>
      have hX : x = .bl a := hX
      have hY : y = .bl b := hY
      subst hX hY
      walk_at "same"
      rw [sameB_bool] at q0
      exact q0
    | dict _ => exact False.elim hY
    | _ =>
      walk_at "same"
      exact no (fun h => by cases h)
  | int a =>
    cases e with
    | int b =>
      have hX : x = .int a := hX
      have hY : y = .int b := hY
      subst hX hY
      walk_at "same"
      rw [sameB_int] at q0
      exact q0
    | dict _ => exact False.elim hY
    | _ =>
      walk_at "same"
      exact no (fun h => by cases h)
  | str a =>
    cases e with
    | str b =>
      have hX : x = .str a := hX
      have hY : y = .str b := hY
      subst hX hY
      walk_at "same"
      rw [sameB_str] at q0
      exact q0
    | dict _ => exact False.elim hY
    | _ =>
      walk_at "same"
      exact no (fun h => by cases h)
  | list ds =>
    obtain ⟨a, xs, rfl, ha, hxs⟩ := hX
    cases n with
    | zero => exact False.elim hf
    | succ n =>
    cases e with
    | list es =>
      obtain ⟨b, ys, rfl, hb, hys⟩ := hY
      walk_at "same"
      have e1 := hxs.len
      have e2 := hys.len
      have fin : ∀ H', Same H H' → Q (.bl (@decide (ds = es) (Classical.propDecidable _))) H' := fun H' s => by
        have w := hq H' s
        have e1 : sameB (.list ds) (.list es) = @decide (ds = es) (Classical.propDecidable _) := by
          by_cases h : ds = es
          · rw [sameB_eq (by rw [h])]; simp [h]
          · rw [sameB_ne (by simpa using h)]; simp [h]
        rw [e1] at w
        exact w
      have hL := hf.1
      refine s_lenL ha ?_
      walk_at "ss"
      refine s_lenL hb ?_
      walk_at "ss"
      refine s_itd (fun e => ?_) (fun e => ?_)
      · have hl : ds.length = es.length := by omega
        walk_at "ss"
        refine s_lenL ha ?_
        walk_at "ss"
        refine lcr_map (fun x => match x with | .int i => .bl (sameB (ds.getD i.toNat .none) (es.getD i.toNat .none)) | _ => .non) (by omega) (by omega) ?_ ?_
        · intro i hi H' s1 Q' hQ
          obtain ⟨v, d, h1, h2, h3⟩ := hxs.at (i := i) (by omega)
          obtain ⟨w, e', g1, g2, g3⟩ := hys.at (i := i) (by omega)
          walk_at "ss"
          refine s_ixL (s1 _ _ ha) (v := v) (atI_nat h1) ?_
          walk_at "ss"
          refine s_ixL (s1 _ _ hb) (v := w) (atI_nat g1) ?_
          walk_at "ss"
          refine ⟨_, _, rfl, d, e', h3.keep s1, g3.keep s1, hf.2 d (List.mem_of_getElem? h2), fun H2 s2 => ?_⟩
          have k1 : ds.getD i .none = d := by simp [List.getD, h2]
          have k2 : es.getD i .none = e' := by simp [List.getD, g2]
          have k3 : Q' (.bl (sameB (ds.getD i .none) (es.getD i .none))) H2 := hQ H2 s2
          rw [k1, k2] at k3
          exact k3
        · intro D H' hD s1 hl'
          walk_at "ss"
          refine s_all (bs := (List.range ds.length).map fun i => sameB (ds.getD i .none) (es.getD i .none)) ?_ ?_
          · rw [hl', List.map_map, ← e1]
            rfl
          · have := fin H' s1
            rw [← same_all hl] at this
            rw [List.all_map]
            exact this
      · have := fin H (Same.refl H)
        rw [show @decide (ds = es) (Classical.propDecidable _) = false by simp; intro h; apply e; rw [e1, e2, h]] at this
        exact this
    | dict _ => exact False.elim hY
    | _ =>
      walk_at "same"
      exact no (fun h => by cases h)
  | tuple ds =>
    obtain ⟨a, xs, rfl, ha, hxs⟩ := hX
    cases n with
    | zero => exact False.elim hf
    | succ n =>
    cases e with
    | tuple es =>
      obtain ⟨b, ys, rfl, hb, hys⟩ := hY
      walk_at "same"
      have e1 := hxs.len
      have e2 := hys.len
      have fin : ∀ H', Same H H' → Q (.bl (@decide (ds = es) (Classical.propDecidable _))) H' := fun H' s => by
        have w := hq H' s
        have e1 : sameB (.tuple ds) (.tuple es) = @decide (ds = es) (Classical.propDecidable _) := by
          by_cases h : ds = es
          · rw [sameB_eq (by rw [h])]; simp [h]
          · rw [sameB_ne (by simpa using h)]; simp [h]
        rw [e1] at w
        exact w
      have hL := hf.1
      refine s_lenT ha ?_
      walk_at "ss"
      refine s_lenT hb ?_
      walk_at "ss"
      refine s_itd (fun e => ?_) (fun e => ?_)
      · have hl : ds.length = es.length := by omega
        walk_at "ss"
        refine s_lenT ha ?_
        walk_at "ss"
        refine lcr_map (fun x => match x with | .int i => .bl (sameB (ds.getD i.toNat .none) (es.getD i.toNat .none)) | _ => .non) (by omega) (by omega) ?_ ?_
        · intro i hi H' s1 Q' hQ
          obtain ⟨v, d, h1, h2, h3⟩ := hxs.at (i := i) (by omega)
          obtain ⟨w, e', g1, g2, g3⟩ := hys.at (i := i) (by omega)
          walk_at "ss"
          refine s_ixT (s1 _ _ ha) (v := v) (atI_nat h1) ?_
          walk_at "ss"
          refine s_ixT (s1 _ _ hb) (v := w) (atI_nat g1) ?_
          walk_at "ss"
          refine ⟨_, _, rfl, d, e', h3.keep s1, g3.keep s1, hf.2 d (List.mem_of_getElem? h2), fun H2 s2 => ?_⟩
          have k1 : ds.getD i .none = d := by simp [List.getD, h2]
          have k2 : es.getD i .none = e' := by simp [List.getD, g2]
          have k3 : Q' (.bl (sameB (ds.getD i .none) (es.getD i .none))) H2 := hQ H2 s2
          rw [k1, k2] at k3
          exact k3
        · intro D H' hD s1 hl'
          walk_at "ss"
          refine s_all (bs := (List.range ds.length).map fun i => sameB (ds.getD i .none) (es.getD i .none)) ?_ ?_
          · rw [hl', List.map_map, ← e1]
            rfl
          · have := fin H' s1
            rw [← same_all hl] at this
            rw [List.all_map]
            exact this
      · have := fin H (Same.refl H)
        rw [show @decide (ds = es) (Classical.propDecidable _) = false by simp; intro h; apply e; rw [e1, e2, h]] at this
        exact this
    | dict _ => exact False.elim hY
    | _ =>
      walk_at "same"
      exact no (fun h => by cases h)
  | dict _ => exact False.elim hX
theorem same_ok {K : PySem.W.Frag} {x y : V} {d : PyData} {H : Hp} {Q : VK} {E : XK} (hx : Is H x d) (hy : Is H y d) (hf : Fits 4 d) (hq : ∀ H', Same H H' → Q (.bl true) H') : sp_law_same K [x, y] H Q E :=
  ⟨_, _, rfl, d, d, hx, hy, hf, fun H' s => by rw [sameB_eq rfl]; exact hq H' s⟩
def tH_law_same (K : PySem.W.Frag) (W : WX) : TS := (tCut (tIfS (tOr (tB (tCB (rIsi K) (tCons (tVar 0) (tCons (tC (.ty "bool")) tNil)))) (tB (tCB (rIsi K) (tCons (tVar 1) (tCons (tC (.ty "bool")) tNil))))) (tRet (tAndV (tCB (rIsi K) (tCons (tVar 0) (tCons (tC (.ty "bool")) tNil))) (tAndV (tCB (rIsi K) (tCons (tVar 1) (tCons (tC (.ty "bool")) tNil))) (tOp (rEqP K) (tVar 0) (tVar 1))))) tNext)
    (tCut (tIfS (tOr (tB (tCB (rIsi K) (tCons (tVar 0) (tCons (tC (.ty "int")) tNil)))) (tB (tCB (rIsi K) (tCons (tVar 1) (tCons (tC (.ty "int")) tNil))))) (tRet (tAndV (tCB (rIsi K) (tCons (tVar 0) (tCons (tC (.ty "int")) tNil))) (tAndV (tCB (rIsi K) (tCons (tVar 1) (tCons (tC (.ty "int")) tNil))) (tOp (rEqP K) (tVar 0) (tVar 1))))) tNext)
    (tCut (tIfS (tOr (tB (tCB (rIsi K) (tCons (tVar 0) (tCons (tC (.ty "str")) tNil)))) (tB (tCB (rIsi K) (tCons (tVar 1) (tCons (tC (.ty "str")) tNil))))) (tRet (tAndV (tCB (rIsi K) (tCons (tVar 0) (tCons (tC (.ty "str")) tNil))) (tAndV (tCB (rIsi K) (tCons (tVar 1) (tCons (tC (.ty "str")) tNil))) (tOp (rEqP K) (tVar 0) (tVar 1))))) tNext)
    (tSeq (tAsg (tAndV (tCB (rIsi K) (tCons (tVar 0) (tCons (tC (.ty "list")) tNil))) (tCB (rIsi K) (tCons (tVar 1) (tCons (tC (.ty "list")) tNil)))) (gName 2))
    (tCut (tIfS (tAnd (tNot (tB (tVar 2))) (tNot (tAnd (tB (tCB (rIsi K) (tCons (tVar 0) (tCons (tC (.ty "tuple")) tNil)))) (tB (tCB (rIsi K) (tCons (tVar 1) (tCons (tC (.ty "tuple")) tNil))))))) (tRet (tAndV (tOp (rIsP false) (tVar 0) (tC .non)) (tOp (rIsP false) (tVar 1) (tC .non)))) tNext)
    tNever)))))
def spH_law_same (K : PySem.W.Frag) : Sp := Sp2 fun x y H Q _ => ∃ d e : PyData, Is H x d ∧ Is H y e ∧ Fits 0 d ∧ Fits 0 e ∧ Q (.bl (sameB d e)) H
theorem pureH_law_same {K : PySem.W.Frag} {vs : List V} {H : Hp} {Q : VK} {E : XK} {W : WX} (h : spH_law_same K vs H Q E) : tH_law_same K W { nx := fun _ H' => Q .non H', rt := Q } (start N_law_same vs) H := by
  obtain ⟨x, y, rfl, d, e, hd, he, hf, hf2, q0⟩ := h
  show tH_law_same K W _ [some x, some y, none, none] H
  unfold tH_law_same
  have no : d ≠ e → Q (.bl false) H := fun e1 => by rw [sameB_ne e1] at q0; exact q0
  cases d with
  | none =>
    have hX : x = .non := by cases hd; rfl
    subst hX
    cases e with
    | none =>
      have hY : y = .non := by cases he; rfl
      subst hY
      walk_at "same"
      rw [sameB_eq rfl] at q0
      exact q0
    | list es => exact False.elim hf2
    | tuple es => exact False.elim hf2
    | dict _ => exact False.elim hf2
    | _ =>
      walk_at "same"
      exact no (fun h => by cases h)
  | bool a =>
    have hX : x = .bl a := by cases hd; rfl
    subst hX
    cases e with
    | bool b =>
      have hY : y = .bl b := by cases he; rfl
      subst hY
      walk_at "same"
      rw [sameB_bool] at q0
      exact q0
    | list es => exact False.elim hf2
    | tuple es => exact False.elim hf2
    | dict _ => exact False.elim hf2
    | _ =>
      walk_at "same"
      exact no (fun h => by cases h)
  | int a =>
    have hX : x = .int a := by cases hd; rfl
    subst hX
    cases e with
    | int b =>
      have hY : y = .int b := by cases he; rfl
      subst hY
      walk_at "same"
      rw [sameB_int] at q0
      exact q0
    | list es => exact False.elim hf2
    | tuple es => exact False.elim hf2
    | dict _ => exact False.elim hf2
    | _ =>
      walk_at "same"
      exact no (fun h => by cases h)
  | str a =>
    have hX : x = .str a := by cases hd; rfl
    subst hX
    cases e with
    | str b =>
      have hY : y = .str b := by cases he; rfl
      subst hY
      walk_at "same"
      rw [sameB_str] at q0
      exact q0
    | list es => exact False.elim hf2
    | tuple es => exact False.elim hf2
    | dict _ => exact False.elim hf2
    | _ =>
      walk_at "same"
      exact no (fun h => by cases h)
  | list ds => exact False.elim hf
  | tuple ds => exact False.elim hf
  | dict _ => cases hd
end Rd
namespace Rd
open PySem PySem.Spec PyProof.Rows L2 He Px
/-! texts in order -/
def SLt (a b : Str) : Prop := a.cps.toList < b.cps.toList
instance : DecidableRel SLt := fun a b => inferInstanceAs (Decidable (a.cps.toList < b.cps.toList))
theorem SLt.irr {a : Str} : ¬ SLt a a := List.lt_irrefl _
theorem SLt.tr {a b c : Str} (h : SLt a b) (g : SLt b c) : SLt a c := List.lt_trans h g
theorem SLt.tri {a b : Str} (h : ¬ SLt a b) (g : ¬ SLt b a) : a = b := str_ext (List.le_antisymm (List.not_lt.mp g) (List.not_lt.mp h))
def Ord (l : List Str) : Prop := l.Pairwise SLt
theorem Ord.uniq : ∀ {a b : List Str}, Ord a → Ord b → (∀ x, x ∈ a ↔ x ∈ b) → a = b
  | [], [], _, _, _ => rfl
  | [], y :: b, _, _, h => absurd ((h y).mpr List.mem_cons_self) List.not_mem_nil
  | x :: a, [], _, _, h => absurd ((h x).mp List.mem_cons_self) List.not_mem_nil
  | x :: a, y :: b, ha, hb, h => by
    have ha' := List.pairwise_cons.mp ha
    have hb' := List.pairwise_cons.mp hb
    have e : x = y := by
      rcases List.mem_cons.mp ((h x).mp List.mem_cons_self) with e | e
      · exact e
      · rcases List.mem_cons.mp ((h y).mpr List.mem_cons_self) with e2 | e2
        · exact e2.symm
        · exact absurd (SLt.tr (hb'.1 x e) (ha'.1 y e2)) SLt.irr
    subst e
    rw [Ord.uniq ha'.2 hb'.2 fun z => ⟨fun hz => ?_, fun hz => ?_⟩]
    · rcases List.mem_cons.mp ((h z).mp (List.mem_cons_of_mem _ hz)) with e | e
      · subst e; exact absurd (ha'.1 z hz) SLt.irr
      · exact e
    · rcases List.mem_cons.mp ((h z).mpr (List.mem_cons_of_mem _ hz)) with e | e
      · subst e; exact absurd (hb'.1 z hz) SLt.irr
      · exact e
def ins (x : Str) : List Str → List Str
  | [] => [x]
  | y :: r => if x = y then y :: r else if SLt x y then x :: y :: r else y :: ins x r
theorem mem_ins {x z : Str} : ∀ {l : List Str}, z ∈ ins x l ↔ z = x ∨ z ∈ l
  | [] => by simp [ins]
  | y :: r => by
    unfold ins
    by_cases e : x = y
    · rw [if_pos e]; subst e; simp
    · rw [if_neg e]
      by_cases g : SLt x y
      · rw [if_pos g]; simp
      · rw [if_neg g, List.mem_cons, mem_ins, List.mem_cons]
        constructor
        · rintro (h | h | h)
          · exact .inr (.inl h)
          · exact .inl h
          · exact .inr (.inr h)
        · rintro (h | h | h)
          · exact .inr (.inl h)
          · exact .inl h
          · exact .inr (.inr h)
theorem ord_ins {x : Str} : ∀ {l : List Str}, Ord l → Ord (ins x l)
  | [], _ => List.pairwise_singleton _ _
  | y :: r, h => by
    unfold ins
    have h' := List.pairwise_cons.mp h
    by_cases e : x = y
    · rw [if_pos e]; exact h
    · rw [if_neg e]
      by_cases g : SLt x y
      · rw [if_pos g]
        refine List.pairwise_cons.mpr ⟨fun z hz => ?_, h⟩
        rcases List.mem_cons.mp hz with rfl | hz
        · exact g
        · exact g.tr (h'.1 z hz)
      · rw [if_neg g]
        refine List.pairwise_cons.mpr ⟨fun z hz => ?_, ord_ins h'.2⟩
        rcases mem_ins.mp hz with rfl | hz
        · by_cases g2 : SLt y z
          · exact g2
          · exact absurd (SLt.tri g g2) e
        · exact h'.1 z hz
/-- the different texts of a list, in order -/
def srt : List Str → List Str
  | [] => []
  | x :: r => ins x (srt r)
theorem mem_srt {z : Str} : ∀ {l : List Str}, z ∈ srt l ↔ z ∈ l
  | [] => Iff.rfl
  | x :: r => by rw [srt, mem_ins, mem_srt, List.mem_cons]
theorem ord_srt : ∀ l : List Str, Ord (srt l)
  | [] => List.Pairwise.nil
  | x :: r => ord_ins (ord_srt r)
theorem srt_eq {l a : List Str} (h : Ord a) (m : ∀ x, x ∈ a ↔ x ∈ l) : a = srt l := Ord.uniq h (ord_srt l) fun x => (m x).trans mem_srt.symm
theorem ins_len (x : Str) : ∀ l : List Str, (ins x l).length ≤ l.length + 1
  | [] => by simp [ins]
  | y :: r => by
    unfold ins
    split
    · simp
    · split
      · simp
      · have := ins_len x r
        simp only [List.length_cons]
        omega
theorem srt_len : ∀ l : List Str, (srt l).length ≤ l.length
  | [] => Nat.le_refl _
  | x :: r => Nat.le_trans (ins_len x _) (Nat.succ_le_succ (srt_len r))
/-! literals in order -/
def flat (zs : List Str) (l : List Str) : List Str := l.flatMap fun n => [n, ("-" : Str) ++ n].filter fun z => decide (z ∈ zs)
def litO (ls : List Str) : List Str := flat ls (srt (ls.map bare))
/-! names, literals -/
theorem dash_app (z : Str) : dash (("-" : Str) ++ z) = true := (dash_iff _).mpr ⟨z.cps.toList, by rw [app_toList]; rfl⟩
theorem tail_app (z : Str) : cutS (("-" : Str) ++ z) (some 1) none = z := str_ext (by rw [cut_tail, app_toList]; rfl)
theorem bare_app (z : Str) : bare (("-" : Str) ++ z) = z := by
  unfold bare
  rw [if_pos (dash_app z), tail_app]
theorem nm_first {z : Str} (h : isNm z = true) : ∃ c r, z.cps.toList = c :: r ∧ c ∈ lettersL ∧ (∀ x ∈ z.cps.toList, x ∈ signsL) ∧ 1 ≤ z.length ∧ z.length ≤ 8 := by
  unfold isNm at h
  rw [Bool.and_eq_true, Bool.and_eq_true, Bool.and_eq_true] at h
  obtain ⟨h1, h2, h3, h4⟩ := h
  have h1 : ¬ (z.length : Int) < 1 := by simpa using h1
  have h2 : ¬ (8 : Int) < (z.length : Int) := by simpa using h2
  cases e : z.cps.toList with
  | nil => rw [e] at h3; cases h3
  | cons c r =>
    rw [e] at h3 h4
    refine ⟨c, r, rfl, of_decide_eq_true h3, fun x hx => ?_, by omega, by omega⟩
    exact of_decide_eq_true (List.all_eq_true.mp h4 x hx)
theorem dash45 : (45 : Nat) ∉ lettersL := by decide +kernel
theorem nm_nodash {z : Str} (h : isNm z = true) : dash z = false := by
  obtain ⟨c, r, e, hc, _⟩ := nm_first h
  cases hd : dash z with
  | false => rfl
  | true =>
    obtain ⟨r2, e2⟩ := (dash_iff z).mp hd
    rw [e] at e2
    have : c = 45 := (List.cons.inj e2).1
    subst this
    exact absurd hc dash45
theorem nm_bare {z : Str} (h : isNm z = true) : bare z = z := by
  unfold bare
  rw [nm_nodash h, if_neg Bool.false_ne_true]
theorem nm_lit {z : Str} (h : isNm z = true) : isLit z = true := by unfold isLit; rw [nm_bare h]; exact h
theorem neg_lit {z : Str} (h : isNm z = true) : isLit (("-" : Str) ++ z) = true := by unfold isLit; rw [bare_app]; exact h
theorem bare_eq {z : Str} (h : dash z = true) : ("-" : Str) ++ bare z = z := by
  obtain ⟨r, e⟩ := (dash_iff z).mp h
  apply str_ext
  rw [app_toList]
  unfold bare
  rw [if_pos h, cut_tail, e]
  rfl
theorem lit_cases {z : Str} (h : isLit z = true) : z = bare z ∨ z = ("-" : Str) ++ bare z := by
  cases hd : dash z with
  | false => left; unfold bare; rw [hd, if_neg Bool.false_ne_true]
  | true => right; exact (bare_eq hd).symm
theorem flip_lit {z : Str} (h : isLit z = true) : isLit (flip z) = true := by
  unfold flip
  cases hd : dash z with
  | true =>
    rw [if_pos rfl]
    have e : bare z = cutS z (some 1) none := by unfold bare; rw [if_pos hd]
    rw [← e]
    exact nm_lit h
  | false =>
    rw [if_neg Bool.false_ne_true]
    have e : bare z = z := by unfold bare; rw [hd, if_neg Bool.false_ne_true]
    have h2 : isNm (bare z) = true := h
    rw [e] at h2
    exact neg_lit h2
/-! cuts -/
/-! searching -/
def badN (zs : List Str) : Option Str := zs.find? fun z => !isNm z
theorem flip_bare {z : Str} (h : isLit z = true) : bare (flip z) = bare z := by
  unfold flip
  cases hd : dash z with
  | true =>
    rw [if_pos rfl]
    have e : bare z = cutS z (some 1) none := by unfold bare; rw [if_pos hd]
    rw [← e]
    exact nm_bare h
  | false =>
    rw [if_neg Bool.false_ne_true, bare_app]
    unfold bare
    rw [hd, if_neg Bool.false_ne_true]
/-- the object at c is a clause with these literals -/
def IsCl (K : PySem.W.Frag) (H : Hp) (c : Addr) (ls : List Str) : Prop := ∃ dx q, H c = some (.ins (ga K "Clause") dx [("literals", .ref q)]) ∧ H q = some (.tup (ls.map V.str))
theorem IsCl.keep {K : PySem.W.Frag} {H H' : Hp} {c : Addr} {ls : List Str} (h : IsCl K H c ls) (s : Same H H') : IsCl K H' c ls := by
  obtain ⟨dx, q, h1, h2⟩ := h
  exact ⟨dx, q, s _ _ h1, s _ _ h2⟩
theorem litO_mem {zs : List Str} {z : Str} (h : z ∈ litO zs) : z ∈ zs := by
  unfold litO flat at h
  obtain ⟨n, _, hz⟩ := List.mem_flatMap.mp h
  exact of_decide_eq_true (List.mem_filter.mp hz).2
theorem litO_iff {zs : List Str} (h : ∀ z ∈ zs, isLit z = true) {z : Str} : z ∈ litO zs ↔ z ∈ zs := by
  refine ⟨litO_mem, fun hz => ?_⟩
  unfold litO flat
  refine List.mem_flatMap.mpr ⟨bare z, mem_srt.mpr (List.mem_map_of_mem hz), ?_⟩
  refine List.mem_filter.mpr ⟨?_, decide_eq_true hz⟩
  rcases lit_cases (h z hz) with e | e
  · rw [← e]; exact List.mem_cons_self
  · rw [← e]; exact List.mem_cons_of_mem _ List.mem_cons_self
theorem three {H : Hp} {q : Addr} {x y z : V} {d e f : PyData} (h : H q = some (.tup [x, y, z])) (h1 : Is H x d) (h2 : Is H y e) (h3 : Is H z f) : Is H (.ref q) (.tuple [d, e, f]) := .tup h (.cons h1 (.cons h2 (.cons h3 .nil)))
/-! rows of literals of different names, as sets -/
theorem ins_len_new {x : Str} : ∀ {l : List Str}, x ∉ l → (ins x l).length = l.length + 1
  | [], _ => rfl
  | y :: r, h => by
    have h1 : ¬ x = y := fun e => h (e ▸ List.mem_cons_self)
    have h2 : x ∉ r := fun m => h (List.mem_cons_of_mem _ m)
    have ih := ins_len_new h2
    unfold ins
    rw [if_neg h1]
    split
    · rfl
    · rw [List.length_cons, ih]
      rfl
theorem srt_len_nd : ∀ {l : List Str}, l.Nodup → (srt l).length = l.length
  | [], _ => rfl
  | x :: r, h => by
    obtain ⟨h1, h2⟩ := List.nodup_cons.mp h
    show (ins x (srt r)).length = _
    rw [ins_len_new fun m => h1 (mem_srt.mp m), srt_len_nd h2]
    rfl
theorem inj_bare : ∀ {zs : List Str}, (zs.map bare).Nodup → ∀ x ∈ zs, ∀ y ∈ zs, bare x = bare y → x = y
  | [], _, x, hx, _, _, _ => by cases hx
  | z :: r, h, x, hx, y, hy, e => by
    obtain ⟨h1, h2⟩ := List.nodup_cons.mp (show (bare z :: r.map bare).Nodup from h)
    rcases List.mem_cons.mp hx with hx' | hx'
    · rcases List.mem_cons.mp hy with hy' | hy'
      · rw [hx', hy']
      · refine absurd ?_ h1
        rw [← hx', e]
        exact List.mem_map_of_mem hy'
    · rcases List.mem_cons.mp hy with hy' | hy'
      · refine absurd ?_ h1
        rw [← hy', ← e]
        exact List.mem_map_of_mem hx'
      · exact inj_bare h2 x hx' y hy' e
theorem neg_ne (n : Str) : n ≠ ("-" : Str) ++ n := fun e => by
  have := congrArg (fun z : Str => z.cps.toList.length) e
  simp only [app_toList, List.length_append] at this
  have h1 : (("-" : Str).cps.toList).length = 1 := rfl
  omega
theorem flat_len_one {zs : List Str} : ∀ {l : List Str}, (∀ n ∈ l, (n ∈ zs ∨ ("-" : Str) ++ n ∈ zs) ∧ ¬ (n ∈ zs ∧ ("-" : Str) ++ n ∈ zs)) → (flat zs l).length = l.length
  | [], _ => rfl
  | n :: r, h => by
    have ih := flat_len_one (zs := zs) (l := r) fun m hm => h m (List.mem_cons_of_mem _ hm)
    have hn := h n List.mem_cons_self
    have e : flat zs (n :: r) = ([n, ("-" : Str) ++ n].filter fun z => decide (z ∈ zs)) ++ flat zs r := by unfold flat; rw [List.flatMap_cons]
    rw [e, List.length_append, ih, List.length_cons]
    by_cases h1 : n ∈ zs <;> by_cases h2 : ("-" : Str) ++ n ∈ zs <;> simp [h1, h2] at hn ⊢ <;> omega
theorem litO_len_nd {zs : List Str} (h : ∀ z ∈ zs, isLit z = true) (hn : (zs.map bare).Nodup) : (litO zs).length = zs.length := by
  have e := srt_len_nd hn
  rw [List.length_map] at e
  rw [← e]
  refine flat_len_one fun n hm => ?_
  obtain ⟨y, hy, rfl⟩ := List.mem_map.mp (mem_srt.mp hm)
  constructor
  · rcases lit_cases (h y hy) with e | e
    · left; rw [← e]; exact hy
    · right; rw [← e]; exact hy
  · rintro ⟨h1, h2⟩
    refine neg_ne (bare y) (inj_bare hn _ h1 _ h2 ?_)
    rw [bare_app, nm_bare (h y hy)]
theorem filt_nd {zs : List Str} (p : Str → Bool) (hn : (zs.map bare).Nodup) : ((zs.filter p).map bare).Nodup := hn.sublist ((List.filter_sublist (l := zs)).map bare)
/-- a row of at most six literals of different names -/
structure Row6 (zs : List Str) : Prop where
  len : zs.length ≤ 6
  lit : ∀ z ∈ zs, isLit z = true
  nd : (zs.map bare).Nodup
theorem Row6.filter {zs : List Str} (h : Row6 zs) (p : Str → Bool) : Row6 (zs.filter p) := ⟨by have := List.length_filter_le p zs; have := h.len; omega, fun z hz => h.lit z (List.mem_filter.mp hz).1, filt_nd p h.nd⟩
theorem Row6.reverse {zs : List Str} (h : Row6 zs) : Row6 zs.reverse := ⟨by rw [List.length_reverse]; exact h.len, fun z hz => h.lit z (List.mem_reverse.mp hz), by rw [List.map_reverse]; exact List.pairwise_reverse.mpr (h.nd.imp Ne.symm)⟩
theorem Row6.litO {zs : List Str} (h : Row6 zs) : (litO zs).length = zs.length := litO_len_nd h.lit h.nd
theorem Row6.mem {zs : List Str} (h : Row6 zs) {z : Str} : z ∈ Rd.litO zs ↔ z ∈ zs := litO_iff h.lit
/-! lists of texts: comprehensions, joining -/
theorem same_un {H H' : Hp} {q : Addr} (s : Same H H') (h : H' q = none) : H q = none := by
  cases e : H q with
  | none => rfl
  | some o => rw [s _ _ e] at h; cases h
/-! [e for k in range(j)], e draws from the source -/
/-! turnings -/
def IsTu (K : PySem.W.Frag) (H : Hp) (c : Addr) (ns : List Str) : Prop := ∃ dx q, H c = some (.ins (ga K "Turning") dx [("turned", .ref q)]) ∧ H q = some (.tup (ns.map V.str))
theorem IsTu.keep {K : PySem.W.Frag} {H H' : Hp} {c : Addr} {ns : List Str} (h : IsTu K H c ns) (s : Same H H') : IsTu K H' c ns := by
  obtain ⟨dx, q, h1, h2⟩ := h
  exact ⟨dx, q, s _ _ h1, s _ _ h2⟩
/-- a turning of the names is made, or refused -/
structure ChT (K : PySem.W.Frag) (zs : List Str) (H : Hp) (E : XK) (ok : Prop) : Prop where
  bad : ∀ z, badN zs = some z → ∀ H' d, Same H H' → H' d = some (.xd [("text", .str z)]) → E (.ref (ga K "BadName")) (some d) H'
  many : badN zs = none → (12 : Int) < ((srt zs).length : Int) → ∀ H' d, Same H H' → H' d = some (.xd [("limit", .int 12)]) → E (.ref (ga K "TooMany")) (some d) H'
  fine : badN zs = none → ((srt zs).length : Int) ≤ 12 → ok
theorem ChT.keep {K : PySem.W.Frag} {zs : List Str} {H H1 : Hp} {E : XK} {ok ok' : Prop} (h : ChT K zs H E ok) (s : Same H H1) (f : ok → ok') : ChT K zs H1 E ok' :=
  ⟨fun z e H' d s' => h.bad z e H' d (s.trans s'), fun e e2 H' d s' => h.many e e2 H' d (s.trans s'), fun e e2 => f (h.fine e e2)⟩
abbrev CkT (K : PySem.W.Frag) (zs : List Str) (H : Hp) (Q : VK) (E : XK) : Prop := ChT K zs H E (∀ H' c, Same H H' → H c = none → IsTu K H' c (srt zs) → Q (.ref c) H')
theorem CkT.keep {K : PySem.W.Frag} {zs : List Str} {H H1 : Hp} {Q : VK} {E : XK} (h : CkT K zs H Q E) (s : Same H H1) : CkT K zs H1 Q E := ChT.keep h s fun ok H' c s2 hc => ok H' c (s.trans s2) (same_un s hc)
/-- names, in order, each once -/
structure Tn (ns : List Str) : Prop where
  nm : ∀ z ∈ ns, isNm z = true
  ord : Ord ns
  len : ns.length ≤ 12
theorem Tn.srt {ns : List Str} (h : Tn ns) : srt ns = ns := (srt_eq h.ord fun _ => Iff.rfl).symm
theorem Tn.of {zs : List Str} (hn : ∀ z ∈ zs, isNm z = true) (hl : (Rd.srt zs).length ≤ 12) : Tn (Rd.srt zs) := ⟨fun z h => hn z (mem_srt.mp h), ord_srt zs, hl⟩
/-- a literal turned -/
def turnL (ns : List Str) (z : Str) : Str := if bare z ∈ ns then flip z else z
theorem turnL_lit {ns : List Str} {z : Str} (h : isLit z = true) : isLit (turnL ns z) = true := by
  unfold turnL
  split
  · exact flip_lit h
  · exact h
theorem turnL_bare {ns : List Str} {z : Str} (h : isLit z = true) : bare (turnL ns z) = bare z := by
  unfold turnL
  split
  · exact flip_bare h
  · rfl
/-- a turning of the ordered names is made, or refused -/
def MkT (K : PySem.W.Frag) (ns : List Str) (H : Hp) (Q : VK) (E : XK) : Prop := (ns.length ≤ 12 → ∀ H' c, Same H H' → H c = none → IsTu K H' c ns → Q (.ref c) H') ∧ (12 < ns.length → ∀ H' d, Same H H' → H' d = some (.xd [("limit", .int 12)]) → E (.ref (ga K "TooMany")) (some d) H')
theorem MkT.keep {K : PySem.W.Frag} {ns : List Str} {H H1 : Hp} {Q : VK} {E : XK} (h : MkT K ns H Q E) (s : Same H H1) : MkT K ns H1 Q E := ⟨fun l H' c s2 hc => h.1 l H' c (s.trans s2) (same_un s hc), fun l H' d s2 => h.2 l H' d (s.trans s2)⟩
theorem MkT.fine {K : PySem.W.Frag} {ns : List Str} {H : Hp} {Q : VK} {E : XK} (hl : ns.length ≤ 12) (h : ∀ H' c, Same H H' → H c = none → IsTu K H' c ns → Q (.ref c) H') : MkT K ns H Q E := ⟨fun _ => h, fun l => by omega⟩
theorem Row6.turn {zs : List Str} (h : Row6 zs) (ns : List Str) : Row6 (zs.map (turnL ns)) := ⟨by rw [List.length_map]; exact h.len, fun z hz => by
    obtain ⟨y, hy, rfl⟩ := List.mem_map.mp hz
    exact turnL_lit (h.lit y hy), by
    have e : (zs.map (turnL ns)).map bare = zs.map bare := by
      rw [List.map_map]
      exact List.map_congr_left fun z hz => turnL_bare (h.lit z hz)
    rw [e]
    exact h.nd⟩
/-- a list of different names, at most 12 -/
structure Nms (zs : List Str) : Prop where
  len : zs.length ≤ 12
  nm : ∀ z ∈ zs, isNm z = true
  nd : zs.Nodup
theorem Nms.tn {zs : List Str} (h : Nms zs) : Tn (Rd.srt zs) := Tn.of h.nm (by have := srt_len zs; have := h.len; omega)
theorem Row6.sub {zs ys : List Str} (h : Row6 zs) (s : ys.Sublist zs) : Row6 ys := ⟨Nat.le_trans s.length_le h.len, fun z hz => h.lit z (s.subset hz), h.nd.sublist (s.map bare)⟩
theorem IsTu.upd {K : PySem.W.Frag} {H : Hp} {c D : Addr} {ns : List Str} {zs ws : List V} (h : IsTu K H c ns) (hD : H D = some (.lst zs)) : IsTu K (L2.upd H D (.lst ws)) c ns := by
  obtain ⟨dx, q, h1, h2⟩ := h
  refine ⟨dx, q, ?_, ?_⟩
  · rw [upd_ne (fun e => by rw [e, hD] at h1; cases h1)]; exact h1
  · rw [upd_ne (fun e => by rw [e, hD] at h2; cases h2)]; exact h2
theorem Nms.sub {l zs : List Str} (hn : ∀ z ∈ l, isNm z = true) (hd : l.Nodup) (s : zs.Sublist l) (hl : zs.length ≤ 12) : Nms zs := ⟨hl, fun z h => hn z (s.subset h), hd.sublist s⟩
/-- three lists of names -/
structure Rows3 (H : Hp) (r : Addr) (rs : List Addr) (zss : List (List Str)) : Prop where
  at_ : H r = some (.lst (rs.map V.ref))
  lr : rs.length = 3
  lz : zss.length = 3
  row : ∀ i, i < 3 → ∃ q z, rs[i]? = some q ∧ zss[i]? = some z ∧ H q = some (.lst (z.map V.str)) ∧ Nms z
theorem Rows3.keep {H H' : Hp} {r : Addr} {rs : List Addr} {zss : List (List Str)} (h : Rows3 H r rs zss) (s : Same H H') : Rows3 H' r rs zss := ⟨s _ _ h.at_, h.lr, h.lz, fun i hi => by
  obtain ⟨q, z, h1, h2, h3, h4⟩ := h.row i hi
  exact ⟨q, z, h1, h2, s _ _ h3, h4⟩⟩
theorem Rows3.of {H : Hp} {r q0 q1 q2 : Addr} {z0 z1 z2 : List Str} (h : H r = some (.lst [.ref q0, .ref q1, .ref q2])) (h0 : H q0 = some (.lst (z0.map V.str))) (h1 : H q1 = some (.lst (z1.map V.str))) (h2 : H q2 = some (.lst (z2.map V.str))) (n0 : Nms z0) (n1 : Nms z1) (n2 : Nms z2) : Rows3 H r [q0, q1, q2] [z0, z1, z2] := ⟨h, rfl, rfl, fun i hi => by
  match i, hi with
  | 0, _ => exact ⟨_, _, rfl, rfl, h0, n0⟩
  | 1, _ => exact ⟨_, _, rfl, rfl, h1, n1⟩
  | 2, _ => exact ⟨_, _, rfl, rfl, h2, n2⟩⟩
/-! shares -/
/-- the divisor that makes a share plain -/
def dvS (t b : Int) : Int := if b < 0 then -((Nat.gcd t.natAbs b.natAbs : Nat) : Int) else ((Nat.gcd t.natAbs b.natAbs : Nat) : Int)
def ntS (t b : Int) : Int := t.fdiv (dvS t b)
def nbS (t b : Int) : Int := b.fdiv (dvS t b)
theorem gcd_pos {t b : Int} (h : b ≠ 0) : 0 < Nat.gcd t.natAbs b.natAbs := Nat.gcd_pos_of_pos_right _ (by omega)
theorem dvS_ne {t b : Int} (h : b ≠ 0) : dvS t b ≠ 0 := by
  have := gcd_pos (t := t) h
  unfold dvS
  split <;> omega
theorem dvS_abs (t b : Int) : (dvS t b).natAbs = Nat.gcd t.natAbs b.natAbs := by
  unfold dvS
  split <;> omega
theorem dvS_t (t b : Int) : dvS t b ∣ t := by rw [← Int.natAbs_dvd_natAbs, dvS_abs]; exact Nat.gcd_dvd_left _ _
theorem dvS_b (t b : Int) : dvS t b ∣ b := by rw [← Int.natAbs_dvd_natAbs, dvS_abs]; exact Nat.gcd_dvd_right _ _
theorem fdiv_mul {d n : Int} (h : d ≠ 0) : (d * n).fdiv d = n := Int.mul_fdiv_cancel_left n h
theorem ntS_mul {t b : Int} (h : b ≠ 0) : dvS t b * ntS t b = t := by
  obtain ⟨n, hn⟩ := dvS_t t b
  unfold ntS
  have e : t.fdiv (dvS t b) = n := by
    have := fdiv_mul (n := n) (dvS_ne (t := t) h)
    rw [← hn] at this
    exact this
  rw [e]
  exact hn.symm
theorem nbS_mul {t b : Int} (h : b ≠ 0) : dvS t b * nbS t b = b := by
  obtain ⟨n, hn⟩ := dvS_b t b
  unfold nbS
  have e : b.fdiv (dvS t b) = n := by
    have := fdiv_mul (n := n) (dvS_ne (t := t) h)
    rw [← hn] at this
    exact this
  rw [e]
  exact hn.symm
theorem le_mul_abs {d n m : Int} (h : d ≠ 0) (e : d * n = m) : n.natAbs ≤ m.natAbs := by
  rw [← e, Int.natAbs_mul]
  exact Nat.le_mul_of_pos_left _ (by omega)
theorem ntS_le {t b : Int} (h : b ≠ 0) : (ntS t b).natAbs ≤ t.natAbs := le_mul_abs (dvS_ne h) (ntS_mul h)
theorem nbS_le {t b : Int} (h : b ≠ 0) : (nbS t b).natAbs ≤ b.natAbs := le_mul_abs (dvS_ne h) (nbS_mul h)
def IsSh (K : PySem.W.Frag) (H : Hp) (c : Addr) (n d : Int) : Prop := ∃ dx, H c = some (.ins (ga K "Share") dx [("top", .int n), ("bottom", .int d)])
theorem IsSh.keep {K : PySem.W.Frag} {H H' : Hp} {c : Addr} {n d : Int} (h : IsSh K H c n d) (s : Same H H') : IsSh K H' c n d := by
  obtain ⟨dx, h⟩ := h
  exact ⟨dx, s _ _ h⟩
/-- the text of a share -/
def textS (n d : Int) : Str := if d = 1 then Str.ofString (toString n) else Str.ofString (toString n) ++ "/" ++ Str.ofString (toString d)
theorem log_lt {a : Int} {k : Nat} (h : a.natAbs < 2 ^ k) (hk : 0 < k) : a.natAbs.log2 < k := by
  by_cases h0 : a.natAbs = 0
  · rw [h0]; exact hk
  · exact (Nat.log2_lt h0).mpr h
theorem txt_len {a : Int} (h : a.natAbs < 2 ^ 1000) : (Str.ofString (toString a)).length ≤ 10000 := by
  have e := int_text_length_le (k := 1920) (by decide) (Nat.lt_trans (log_lt h (by decide)) (by decide))
  rw [PySem.ofString_length]
  omega
/-- a share, or an int in its place -/
def ShV (K : PySem.W.Frag) (H : Hp) (y : V) (n d : Int) : Prop := (∃ b, y = .ref b ∧ IsSh K H b n d) ∨ (y = .int n ∧ d = 1)
theorem ShV.keep {K : PySem.W.Frag} {H H' : Hp} {y : V} {n d : Int} (h : ShV K H y n d) (s : Same H H') : ShV K H' y n d := h.imp (fun ⟨b, e, h⟩ => ⟨b, e, h.keep s⟩) id
/-- small enough -/
def Sm (i : Int) : Prop := i.natAbs < 2 ^ 1000
theorem Sm.neg {t : Int} (h : Sm t) : Sm (t * -1) := by unfold Sm; rw [Int.natAbs_mul]; show t.natAbs * 1 < _; rw [Nat.mul_one]; exact h
theorem Sm.one {t : Int} (h : Sm t) : Sm (t * 1) := by rw [Int.mul_one]; exact h
/-! the texts of shares -/
def numI (t : Int) : List Nat := if t < 0 then 45 :: TL.numL t.natAbs else TL.numL t.natAbs
theorem toList_int (t : Int) : (Str.ofString (toString t)).cps.toList = numI t := by
  unfold numI
  cases t with
  | ofNat n =>
    rw [if_neg (by simp)]
    exact TL.tl_num n
  | negSucc n =>
    rw [if_pos (by omega)]
    have e := TL.tl_num (n + 1)
    unfold TL.tl at e
    rw [signs_ofString] at e
    have e2 : toString (Int.negSucc n) = "-" ++ toString ((n + 1 : Nat) : Int) := rfl
    rw [e2, signs_ofString, String.toList_append, List.map_append, e]
    rfl
def shL (t b : Int) : List Nat := if b = 1 then numI t else numI t ++ 47 :: numI b
theorem toList_textS (t b : Int) : (textS t b).cps.toList = shL t b := by
  unfold textS shL
  split
  · exact toList_int t
  · rw [app_toList, app_toList, toList_int, toList_int, List.append_assoc]
    rfl
theorem numI_free {t : Int} {s : Nat} (h : s < 45 ∨ s = 46 ∨ s = 47 ∨ 57 < s) : s ∉ numI t := by
  unfold numI
  split
  · intro hm
    rcases List.mem_cons.mp hm with e | hm
    · omega
    · exact TL.numL_free (by omega) hm
  · exact TL.numL_free (by omega)
/-- what a text that stands for a share is -/
def Can (a : Str) (t b : Int) : Prop := a = textS t b ∧ 1 ≤ b ∧ Nat.gcd t.natAbs b.natAbs = 1 ∧ t.natAbs < 10 ^ 60 ∧ b.natAbs < 10 ^ 60
/-! ### parts at a slash -/
theorem mem_cut {c : Nat} : ∀ {l : List Nat}, c ∈ l → ∃ p q, l = p ++ c :: q ∧ c ∉ p
  | [], h => nomatch h
  | x :: l, h => by
    by_cases e : x = c
    · exact ⟨[], l, by rw [e]; rfl, fun z => nomatch z⟩
    · obtain ⟨p, q, e1, e2⟩ := mem_cut (l := l) ((List.mem_cons.mp h).resolve_left fun z => e z.symm)
      exact ⟨x :: p, q, by rw [e1]; rfl, fun z => (List.mem_cons.mp z).elim (fun z => e z.symm) e2⟩
def slash (l : List Nat) : List (List Nat) := TL.spl [47] 0 [] l
theorem slash1 {l : List Nat} (h : 47 ∉ l) : slash l = [l] := TL.spl_last1 h
theorem slash2 {p q : List Nat} (h : 47 ∉ p) : slash (p ++ 47 :: q) = p :: slash q := TL.spl_part1 h
theorem slash_ne (l : List Nat) : slash l ≠ [] := by
  by_cases h : 47 ∈ l
  · obtain ⟨p, q, rfl, hp⟩ := mem_cut h
    rw [slash2 hp]
    exact List.cons_ne_nil _ _
  · rw [slash1 h]
    exact List.cons_ne_nil _ _
theorem slash_cases (l : List Nat) : (47 ∉ l ∧ slash l = [l]) ∨ (∃ p q, l = p ++ 47 :: q ∧ 47 ∉ p ∧ 47 ∉ q ∧ slash l = [p, q]) ∨ 2 < (slash l).length := by
  by_cases h : 47 ∈ l
  · obtain ⟨p, q, rfl, hp⟩ := mem_cut h
    rw [slash2 hp]
    by_cases h2 : 47 ∈ q
    · obtain ⟨p2, q2, rfl, hp2⟩ := mem_cut h2
      rw [slash2 hp2]
      have := List.length_pos_iff.mpr (slash_ne q2)
      refine .inr (.inr ?_)
      rw [List.length_cons, List.length_cons]
      omega
    · exact .inr (.inl ⟨p, q, rfl, hp, h2, by rw [slash1 h2]⟩)
  · exact .inl ⟨h, slash1 h⟩
theorem split_slash (a : Str) : Txt.split a "/" = (slash a.cps.toList).map fun l => (⟨l.toArray⟩ : Str) := by
  have e := SX.split_S (a := a.cps.toList) (b := [47]) (by decide) (by decide)
  exact e
/-! ### figures -/
def figB (r : List Nat) : Bool := decide (0 < r.length) && (decide (r.length ≤ 60) && r.all fun c => decide (c ∈ digitsL))
theorem dig_iff {c : Nat} : c ∈ digitsL ↔ 48 ≤ c ∧ c ≤ 57 := by
  constructor
  · intro h
    have : ∀ x ∈ digitsL, 48 ≤ x ∧ x ≤ 57 := by decide
    exact this c h
  · rintro ⟨h1, h2⟩
    have : ∀ x, x < 58 → 48 ≤ x → x ∈ digitsL := by decide
    exact this c (by omega) h1
theorem figB_iff {r : List Nat} : figB r = true ↔ r ≠ [] ∧ r.length ≤ 60 ∧ NumText.AllDigits r := by
  unfold figB
  rw [Bool.and_eq_true, Bool.and_eq_true, decide_eq_true_eq, decide_eq_true_eq, List.all_eq_true]
  refine ⟨fun ⟨h1, h2, h3⟩ => ⟨List.length_pos_iff.mp h1, h2, fun c hc => dig_iff.mp (of_decide_eq_true (h3 c hc))⟩, fun ⟨h1, h2, h3⟩ => ⟨List.length_pos_iff.mpr h1, h2, fun c hc => decide_eq_true (dig_iff.mpr (h3 c hc))⟩⟩
/-- the law's own figures: no zero first -/
def figC (r : List Nat) : Bool := figB r && (decide (r = [48]) || !decide (r.head? = some 48))
def wholeB (l : List Nat) : Bool := if l.head? = some 45 then figB l.tail else figB l
def valI (l : List Nat) : Int := if l.head? = some 45 then -((NumText.digitsVal l.tail : Nat) : Int) else ((NumText.digitsVal l : Nat) : Int)
theorem whole_read {l : List Nat} (h : wholeB l = true) : intText? (⟨l.toArray⟩ : Str) = some (valI l) ∧ (⟨l.toArray⟩ : Str).length ≤ 640 := by
  unfold wholeB at h
  unfold valI
  split at h
  · rename_i e
    rw [if_pos e]
    obtain ⟨r, rfl⟩ : ∃ r, l = 45 :: r := by
      cases l with
      | nil => cases e
      | cons x r => exact ⟨r, by rw [show x = 45 from Option.some.inj e]⟩
    obtain ⟨h1, h2, h3⟩ := figB_iff.mp h
    have h2 : r.length ≤ 60 := h2
    refine ⟨PySem.intText_neg (cs := r) rfl h3 h1 ?_, ?_⟩ <;> (show (45 :: r).toArray.size ≤ _; simp; omega)
  · rename_i e
    rw [if_neg e]
    obtain ⟨h1, h2, h3⟩ := figB_iff.mp h
    have h2 : l.length ≤ 60 := h2
    refine ⟨PySem.intText_digits (x := ⟨l.toArray⟩) h3 h1 ?_, ?_⟩ <;> (show l.toArray.size ≤ _; simp; omega)
theorem fig_read {l : List Nat} (h : figB l = true) : intText? (⟨l.toArray⟩ : Str) = some ((NumText.digitsVal l : Nat) : Int) ∧ (⟨l.toArray⟩ : Str).length ≤ 640 := by
  obtain ⟨h1, h2, h3⟩ := figB_iff.mp h
  refine ⟨PySem.intText_digits (x := ⟨l.toArray⟩) h3 h1 ?_, ?_⟩ <;> (show l.toArray.size ≤ _; simp; omega)
theorem val_snoc (r : List Nat) (c : Nat) : NumText.digitsVal (r ++ [c]) = NumText.digitsVal r * 10 + (c - 48) := by
  unfold NumText.digitsVal
  rw [List.foldl_append]
  rfl
theorem snoc_of {r : List Nat} (h : r ≠ []) : ∃ s c, r = s ++ [c] := ⟨r.dropLast, r.getLast h, (List.dropLast_concat_getLast h).symm⟩
theorem val_lt : ∀ (n : Nat) {r : List Nat}, r.length = n → NumText.AllDigits r → NumText.digitsVal r < 10 ^ n
  | 0, r, h, _ => by
    rw [List.length_eq_zero_iff.mp h]
    decide
  | n + 1, r, h, d => by
    obtain ⟨s, c, rfl⟩ := snoc_of (r := r) (fun e => by rw [e] at h; cases h)
    rw [List.length_append] at h
    have ih := val_lt n (r := s) (by simpa using h) fun x hx => d x (List.mem_append_left _ hx)
    have hc := d c (List.mem_append_right _ (List.mem_singleton.mpr rfl))
    rw [val_snoc, Nat.pow_succ]
    omega
theorem head_snoc {s : List Nat} {c : Nat} (h : s ≠ []) : (s ++ [c]).head? = s.head? := by
  cases s with
  | nil => exact absurd rfl h
  | cons x s => rfl
/-- figures without a zero first are those of their number -/
theorem num_back : ∀ (n : Nat) {r : List Nat}, r.length = n → NumText.AllDigits r → r ≠ [] → (r = [48] ∨ r.head? ≠ some 48) → TL.numL (NumText.digitsVal r) = r ∧ (r ≠ [48] → 0 < NumText.digitsVal r)
  | 0, r, h, _, h1, _ => absurd (List.length_eq_zero_iff.mp h) h1
  | n + 1, r, h, d, h1, hz => by
    obtain ⟨s, c, rfl⟩ := snoc_of h1
    rw [List.length_append] at h
    have hc := d c (List.mem_append_right _ (List.mem_singleton.mpr rfl))
    by_cases hs : s = []
    · subst hs
      have e : NumText.digitsVal ([] ++ [c]) = c - 48 := by rw [val_snoc]; show 0 * 10 + (c - 48) = _; omega
      rw [e]
      refine ⟨?_, fun ne => ?_⟩
      · rw [TL.numL_lt (by omega)]
        show [48 + (c - 48)] = [c]
        rw [show 48 + (c - 48) = c by omega]
      · have : c ≠ 48 := fun e => ne (by rw [e]; rfl)
        omega
    · have hz2 : s.head? ≠ some 48 := by
        rw [← head_snoc (c := c) hs]
        rcases hz with e | e
        · have k1 := congrArg List.length e
          rw [List.length_append] at k1
          have k2 := List.length_pos_iff.mpr hs
          have k3 : s.length + 1 = 1 := k1
          omega
        · exact e
      have d2 : NumText.AllDigits s := fun x hx => d x (List.mem_append_left _ hx)
      obtain ⟨i1, i2⟩ := num_back n (r := s) (by simpa using h) d2 hs (.inr hz2)
      have pos := i2 fun e => hz2 (by rw [e]; rfl)
      rw [val_snoc]
      have hd : (NumText.digitsVal s * 10 + (c - 48)) / 10 = NumText.digitsVal s := by omega
      have hm : (NumText.digitsVal s * 10 + (c - 48)) % 10 = c - 48 := by omega
      refine ⟨?_, fun _ => by omega⟩
      rw [TL.numL_step (by omega), hd, hm, i1, show 48 + (c - 48) = c by omega]
theorem numL_head {n : Nat} : TL.numL n = [48] ∨ (TL.numL n).head? ≠ some 48 := by
  induction n using Nat.strongRecOn with
  | _ n ih =>
    by_cases h : n < 10
    · rw [TL.numL_lt h]
      by_cases e : n = 0
      · exact .inl (by rw [e])
      · refine .inr fun z => ?_
        have := Option.some.inj z
        omega
    · rw [TL.numL_step (by omega)]
      rcases ih (n / 10) (by omega) with z | z
      · have := congrArg NumText.digitsVal z
        rw [TL.numL_val] at this
        have e : NumText.digitsVal [48] = 0 := by decide
        omega
      · exact .inr (by rw [head_snoc (TL.numL_ne _)]; exact z)
theorem numL_fig {n : Nat} (h : n < 10 ^ 60) : figC (TL.numL n) = true := by
  unfold figC
  rw [Bool.and_eq_true]
  refine ⟨figB_iff.mpr ⟨TL.numL_ne n, TL.numL_len (by decide) h, TL.numL_digits n⟩, ?_⟩
  rw [Bool.or_eq_true, Bool.not_eq_true', decide_eq_true_eq, decide_eq_false_iff_not]
  exact numL_head
theorem figC_num {r : List Nat} (h : figC r = true) : TL.numL (NumText.digitsVal r) = r ∧ NumText.digitsVal r < 10 ^ 60 := by
  unfold figC at h
  rw [Bool.and_eq_true, Bool.or_eq_true, Bool.not_eq_true', decide_eq_true_eq, decide_eq_false_iff_not] at h
  obtain ⟨h1, h2, h3⟩ := figB_iff.mp h.1
  exact ⟨(num_back _ rfl h3 h1 h.2).1, Nat.lt_of_lt_of_le (val_lt _ rfl h3) (Nat.pow_le_pow_right (by decide) h2)⟩
theorem numL_head45 {n : Nat} : (TL.numL n).head? ≠ some 45 := fun e => by
  have : 45 ∈ TL.numL n := List.mem_of_head? e
  exact TL.numL_free (by omega) this
theorem numI_whole {t : Int} (h : t.natAbs < 10 ^ 60) : wholeB (numI t) = true ∧ valI (numI t) = t := by
  have f := (Bool.and_eq_true_iff.mp (numL_fig h)).1
  unfold wholeB valI numI
  by_cases ht : t < 0
  · rw [if_pos ht]
    refine ⟨f, ?_⟩
    show -((NumText.digitsVal (TL.numL t.natAbs) : Nat) : Int) = t
    rw [TL.numL_val]
    omega
  · rw [if_neg ht, if_neg numL_head45, if_neg numL_head45]
    refine ⟨f, ?_⟩
    rw [TL.numL_val]
    omega
theorem valI_lt {l : List Nat} (h : wholeB l = true) : (valI l).natAbs < 10 ^ 60 := by
  unfold wholeB at h
  unfold valI
  split at h
  · rename_i e
    rw [if_pos e]
    obtain ⟨h1, h2, h3⟩ := figB_iff.mp h
    have := Nat.lt_of_lt_of_le (val_lt _ rfl h3) (Nat.pow_le_pow_right (n := 10) (by decide) h2)
    omega
  · rename_i e
    rw [if_neg e]
    obtain ⟨h1, h2, h3⟩ := figB_iff.mp h
    have := Nat.lt_of_lt_of_le (val_lt _ rfl h3) (Nat.pow_le_pow_right (n := 10) (by decide) h2)
    omega
/-! ### a share's text, taken apart -/
theorem ntS_cop {t b : Int} (hb : 1 ≤ b) (hg : Nat.gcd t.natAbs b.natAbs = 1) : ntS t b = t ∧ nbS t b = b := by
  have e : dvS t b = 1 := by
    unfold dvS
    rw [if_neg (by omega), hg]
    rfl
  unfold ntS nbS
  rw [e]
  exact ⟨Int.fdiv_one t, Int.fdiv_one b⟩
theorem nbS_pos {t b : Int} (h : b ≠ 0) : 1 ≤ nbS t b := by
  have e := nbS_mul (t := t) h
  have g := gcd_pos (t := t) h
  unfold dvS at e
  by_cases hb : b < 0
  · rw [if_pos hb] at e
    refine Int.not_lt.mp fun z => ?_
    have := Int.mul_nonneg_of_nonpos_of_nonpos (a := -((Nat.gcd t.natAbs b.natAbs : Nat) : Int)) (b := nbS t b) (by omega) (by omega)
    omega
  · rw [if_neg hb] at e
    refine Int.not_lt.mp fun z => ?_
    have := Int.mul_nonpos_of_nonneg_of_nonpos (a := ((Nat.gcd t.natAbs b.natAbs : Nat) : Int)) (b := nbS t b) (by omega) (by omega)
    omega
theorem ntS_gcd {t b : Int} (h : b ≠ 0) : Nat.gcd (ntS t b).natAbs (nbS t b).natAbs = 1 := by
  have e1 := congrArg Int.natAbs (ntS_mul (t := t) h)
  have e2 := congrArg Int.natAbs (nbS_mul (t := t) h)
  rw [Int.natAbs_mul, dvS_abs] at e1 e2
  have g := gcd_pos (t := t) h
  have : Nat.gcd t.natAbs b.natAbs * Nat.gcd (ntS t b).natAbs (nbS t b).natAbs = Nat.gcd t.natAbs b.natAbs * 1 := by
    rw [← Nat.gcd_mul_left, e1, e2, Nat.mul_one]
  exact Nat.eq_of_mul_eq_mul_left g this
/-- the parts of a text that stands for a share -/
theorem can_parts {a : Str} {t b : Int} (h : Can a t b) : (b = 1 ∧ slash a.cps.toList = [numI t]) ∨ (b ≠ 1 ∧ slash a.cps.toList = [numI t, numI b]) := by
  rw [h.1, toList_textS]
  unfold shL
  by_cases e : b = 1
  · rw [if_pos e]
    exact .inl ⟨e, slash1 (numI_free (by omega))⟩
  · rw [if_neg e, slash2 (numI_free (by omega)), slash1 (numI_free (by omega))]
    exact .inr ⟨e, rfl⟩
theorem can_of {a : Str} {t b : Int} (hb : b ≠ 0) (ht : t.natAbs < 10 ^ 60) (hbl : b.natAbs < 10 ^ 60) (e : textS (ntS t b) (nbS t b) = a) : Can a (ntS t b) (nbS t b) :=
  ⟨e.symm, nbS_pos hb, ntS_gcd hb, Nat.lt_of_le_of_lt (ntS_le hb) ht, Nat.lt_of_le_of_lt (nbS_le hb) hbl⟩
theorem s_split {i : Nat} {σ : L2.St} {H : Hp} {Q : VK} {z : Str} (h0 : σ[i]? = some (some (.str z))) (hz : z.length ≤ 1000000) (h : ∀ p, H p = none → Q (.ref p) (upd H p (.lst ((slash z.cps.toList).map fun l => V.str ⟨l.toArray⟩)))) : tM1 Cl.rSplitP (tVar i) (tC (.str "/")) σ H Q := by
  refine ⟨_, h0, ⟨z, rfl⟩, by decide, hz, fun p hp => ?_⟩
  rw [split_slash, List.map_map]
  exact h p hp
theorem slash_len {L : List Nat} (h : ¬ 2 < (slash L).length) {l : List Nat} (hl : l ∈ slash L) : l.length ≤ L.length := by
  rcases slash_cases L with ⟨_, e⟩ | ⟨p, q, e0, _, _, e⟩ | e
  · rw [e] at hl
    rw [List.mem_singleton.mp hl]
    exact Nat.le_refl _
  · rw [e] at hl
    rw [e0, List.length_append, List.length_cons]
    rcases List.mem_cons.mp hl with e | hl
    · rw [e]; omega
    · rw [List.mem_singleton.mp hl]; omega
  · exact absurd e h
theorem arr_len (l : List Nat) : (⟨l.toArray⟩ : Str).length = l.length := by show l.toArray.size = _; simp
def PV (ls : List (List Nat)) : List V := ls.map fun l => V.str ⟨l.toArray⟩
theorem PV_at {ls : List (List Nat)} {i : Nat} {l : List Nat} (h : ls[i]? = some l) : (PV ls)[i]? = some (.str ⟨l.toArray⟩) := by
  unfold PV
  rw [List.getElem?_map, h]
  rfl
theorem ten60 : (10 : Nat) ^ 60 < 2 ^ 300 := by decide +kernel
theorem ten60k : (10 : Nat) ^ 60 < 2 ^ 8000 := Nat.lt_trans ten60 (Nat.pow_lt_pow_right (by decide) (by decide))
theorem cut_all (z : Str) : cutS z (some 0) none = z := by
  refine str_ext ?_
  unfold cutS
  have e : HT.sIx z.length 0 (some 0) = min 0 z.length := HT.sIx_nat z.length 0 0
  rw [e, HT.sIx_none]
  have hl := len_toList z
  show List.take (z.length - min 0 z.length) (List.drop (min 0 z.length) z.cps.toList) = _
  rw [Nat.zero_min, List.drop_zero, List.take_of_length_le (by omega)]
theorem can_uniq {z : Str} {t b t2 b2 : Int} (h : Can z t b) (h2 : Can z t2 b2) : t2 = t ∧ b2 = b := by
  have v1 := (numI_whole h.2.2.2.1).2
  have v2 := (numI_whole h.2.2.2.2).2
  have w1 := (numI_whole h2.2.2.2.1).2
  have w2 := (numI_whole h2.2.2.2.2).2
  rcases can_parts h with ⟨e1, e⟩ | ⟨e1, e⟩ <;> rcases can_parts h2 with ⟨e2, f⟩ | ⟨e2, f⟩ <;> rw [e] at f
  · rw [List.head_eq_of_cons_eq f, w1] at v1
    exact ⟨v1, e2.trans e1.symm⟩
  · exact absurd (congrArg List.length f) (show ¬ 1 = 2 by decide)
  · exact absurd (congrArg List.length f) (show ¬ 2 = 1 by decide)
  · have k1 := List.head_eq_of_cons_eq f
    have k2 := List.head_eq_of_cons_eq (List.tail_eq_of_cons_eq f)
    rw [k1, w1] at v1
    rw [k2, w2] at v2
    exact ⟨v1, v2⟩
end Rd
namespace Rd
open PySem PySem.Spec PyProof.Rows L2 He Px
def sp_law_source (K : PySem.W.Frag) : Sp := Sp1 fun x H Q _ => ∃ (a : Addr) (ns : List Int), x = .ref a ∧ SqL K H a (ns.map V.int) ∧ ns.length ≤ 100 ∧ ∀ H' p, Same H H' → H p = none → Src H' p → Q (.ref p) H'
def N_law_source : List PySem.Str := ["_law_script"]
def t_law_source (K : PySem.W.Frag) (W : WX) : TS := (tRet (tLst (tCons (tCB (rListP K) (tCons (tVar 0) tNil)) (tCons (tC (.int 0)) (tCons (tC (.int 0)) (tCons (tC (.int 0)) (tCons (tC (.int 0)) tNil)))))))
theorem pure_law_source {K : PySem.W.Frag} {vs : List V} {H : Hp} {Q : VK} {E : XK} {W : WX} (h : sp_law_source K vs H Q E) : t_law_source K W { nx := fun _ H' => Q .non H', rt := Q } (start N_law_source vs) H := by
  obtain ⟨x, rfl, a, ns, rfl, hS, hl, hq⟩ := h
  show t_law_source K W _ [some (.ref a)] H
  unfold t_law_source
  walk_at "ss"
  refine s_listL hS fun l hl0 => ?_
  walk_at "ss"
  refine ⟨by show 5 ≤ sizeLine; rw [sizeLine_eq]; decide, fun p hp => ?_⟩
  have s1 := same_new (o := .lst (ns.map V.int)) hl0
  refine hq _ p (s1.trans (same_new hp)) (s1.free hp) ⟨l, ns, 0, 0, 0, 0, upd_same, ?_, by decide, hl⟩
  rw [upd_ne (ne_of_none (H := upd H l (.lst (ns.map V.int))) upd_same hp)]
  exact upd_same
def sp_law_take (K : PySem.W.Frag) : Sp := Sp2 fun x y H Q _ => ∃ (a : Addr) (m : Int), x = .ref a ∧ y = .int m ∧ Src H a ∧ 0 < m ∧ m.natAbs.log2 < 9000 ∧ ∀ H' (r : Int), Src H' a → Mov a H H' → 0 ≤ r → r < m → Q (.int r) H'
def N_law_take : List PySem.Str := ["_law_source_here", "_law_many", "_law_mixed", "_law_cell", "_law_value"]
def t_law_take (K : PySem.W.Frag) (W : WX) : TS := (tCut (tIfS (tTest (tOp (rEqP K) (tOp (rIxP K) (tVar 0) (tC (.int 3))) (tC (.int 0)))) (tCut (tIfS (tTest (tOp rGeP (tOp (rIxP K) (tVar 0) (tC (.int 1))) (tCB (rLenP K) (tCons (tOp (rIxP K) (tVar 0) (tC (.int 0))) tNil)))) (tRet (tC (.int 0))) tNext)
    (tSeq (tAsg (tCB rIntP (tCons (tOp (rIxP K) (tOp (rIxP K) (tVar 0) (tC (.int 0))) (tOp (rIxP K) (tVar 0) (tC (.int 1)))) tNil)) (gName 3))
    (tSeq (tAsg (tOp (rAddP K) (tOp (rIxP K) (tVar 0) (tC (.int 1))) (tC (.int 1))) (gSub (tVar 0) (tC (.int 1)) rSetP))
    (tSeq (tAsg (tVar 3) (gSub (tVar 0) (tC (.int 2)) rSetP))
    (tSeq (tAsg (tC (.int 4)) (gSub (tVar 0) (tC (.int 3)) rSetP))
    (tSeq (tAsg (tC (.int 0)) (gSub (tVar 0) (tC (.int 4)) rSetP))
    (tIfS (tTest (tOp rGeP (tVar 3) (tOp rPowP (tC (.int 10)) (tC (.int 18))))) (tSeq (tAsg (tC (.int 60)) (gSub (tVar 0) (tC (.int 3)) rSetP))
    (tAsg (tC (.int 1)) (gSub (tVar 0) (tC (.int 4)) rSetP))) tNext))))))) tNext)
    (tSeq (tAsg (tOp rSubP (tOp (rIxP K) (tVar 0) (tC (.int 3))) (tC (.int 1))) (gSub (tVar 0) (tC (.int 3)) rSetP))
    (tCut (tIfS (tTest (tOp (rEqP K) (tOp (rIxP K) (tVar 0) (tC (.int 4))) (tC (.int 1)))) (tSeq (tAsg (tOp rModP (tCB rIntP (tCons (tOp (rIxP K) (tVar 0) (tC (.int 2))) tNil)) (tVar 1)) (gName 4))
    (tSeq (tAsg (tOp rFdivP (tOp (rIxP K) (tVar 0) (tC (.int 2))) (tVar 1)) (gSub (tVar 0) (tC (.int 2)) rSetP))
    (tCut (tIfS (tTest (tOp (rEqP K) (tOp (rIxP K) (tVar 0) (tC (.int 2))) (tC (.int 0)))) (tAsg (tC (.int 0)) (gSub (tVar 0) (tC (.int 3)) rSetP)) tNext)
    (tRet (tVar 4))))) tNext)
    (tSeq (tAsg (tOp rModP (tCB rIntP (tCons (tOp (rAddP K) (tOp (rAddP K) (tOp rMulP (tOp (rIxP K) (tVar 0) (tC (.int 2))) (tC (.int 48271))) (tOp rMulP (tOp (rIxP K) (tVar 0) (tC (.int 3))) (tC (.int 69621)))) (tC (.int 11))) tNil)) (tC (.int 2147483647))) (gName 2))
    (tSeq (tAsg (tOp rModP (tCB rIntP (tCons (tOp (rAddP K) (tOp (rAddP K) (tOp rMulP (tVar 2) (tC (.int 16807))) (tOp rMulP (tOp (rIxP K) (tVar 0) (tC (.int 3))) (tC (.int 7919)))) (tC (.int 5))) tNil)) (tC (.int 2147483629))) (gName 2))
    (tRet (tOp rModP (tCB rIntP (tCons (tVar 2) tNil)) (tVar 1))))))))
theorem pure_law_take {K : PySem.W.Frag} {vs : List V} {H : Hp} {Q : VK} {E : XK} {W : WX} (h : sp_law_take K vs H Q E) : t_law_take K W { nx := fun _ H' => Q .non H', rt := Q } (start N_law_take vs) H := by
  obtain ⟨x, y, rfl, a, m, rfl, rfl, ⟨c, cells, i, cur, cnt, mode, ha, hc, hi, hl⟩, hm, hm2, hq⟩ := h
  show t_law_take K W _ [some (.ref a), some (.int m), none, none, none] H
  unfold t_law_take
  have hca : c ≠ a := by
    intro e
    rw [e, ha] at hc
    have e2 := Option.some.inj hc
    injection e2 with e3
    have e4 := congrArg List.head? e3
    cases cells with
    | nil => cases e4
    | cons z r => cases e4
  refine s_cut (fun σ' H' => ∃ (i' cur' cnt' mode' : Int) (v3 : Option V), σ' = [some (.ref a), some (.int m), none, v3, none] ∧ H' a = some (.lst [.ref c, .int i', .int cur', .int cnt', .int mode']) ∧ But a H H' ∧ 0 ≤ i') ?_ ?_
  · walk_at "sl"
    refine s_itd (fun e0 => ?_) (fun e0 => ?_)
    · refine s_nocut ?_
      walk_at "sl"
      refine s_lenL hc ?_
      walk_at "sl"
      refine s_itd (fun e1 => ?_) (fun e1 => ?_)
      · walk_at "sl"
        exact hq H 0 ⟨c, cells, i, cur, cnt, mode, ha, hc, hi, hl⟩ (Mov.refl _ _) (by decide) hm
      · obtain ⟨z, hz⟩ := atI_cells hi e1
        walk_at "sl"
        refine s_ixL hc hz ?_
        walk_at "sl"
        refine s_in2 (by exact ⟨by decide, by decide, by decide⟩) ?_
        walk_at "sl"
        refine s_itd (fun e2 => ?_) (fun e2 => ?_)
        · walk_at "sl"
          exact ⟨_, _, _, _, _, rfl, upd_same, But.upd, by omega⟩
        · walk_at "sl"
          exact ⟨_, _, _, _, _, rfl, upd_same, But.upd, by omega⟩
    · walk_at "sl"
      exact ⟨_, _, _, _, _, rfl, ha, But.refl _ _, hi⟩
  · rintro σ' H' ⟨i', cur', cnt', mode', v3, rfl, ha', hb, hi'⟩
    have hc' := hb _ _ hc hca
    walk_at "sl"
    have fin : ∀ (i2 cur2 cnt2 mode2 r : Int), 0 ≤ i2 → 0 ≤ r → r < m → Q (.int r) (upd H' a (.lst [.ref c, .int i2, .int cur2, .int cnt2, .int mode2])) := fun i2 cur2 cnt2 mode2 r h2 h3 h4 =>
      hq _ r ⟨c, cells, i2, cur2, cnt2, mode2, upd_same, by rw [upd_ne hca]; exact hc', h2, hl⟩ (Mov.of (hb.trans But.upd) ha upd_same) h3 h4
    have hmod : ∀ z : Int, 0 ≤ z.fmod m ∧ z.fmod m < m := fun z => ⟨Int.fmod_nonneg_of_pos z hm, Int.fmod_lt_of_pos z hm⟩
    refine s_nocut ?_
    walk_at "sl"
    refine s_itd (fun e0 => ?_) (fun e0 => ?_)
    · walk_at "sl"
      refine s_in2 (by omega) ?_
      walk_at "sl"
      refine s_in2 ⟨by omega, hm2⟩ ?_
      walk_at "sl"
      refine s_nocut ?_
      walk_at "sl"
      refine s_itd (fun e1 => ?_) (fun e1 => ?_)
      · walk_at "sl"
        exact fin _ _ _ _ _ hi' (hmod _).1 (hmod _).2
      · walk_at "sl"
        exact fin _ _ _ _ _ hi' (hmod _).1 (hmod _).2
    · walk_at "sl"
      refine s_in2 (.inl (.inr ⟨by decide, by decide⟩)) ?_
      walk_at "sl"
      refine s_in2 (.inl (.inr ⟨by decide, by decide⟩)) ?_
      walk_at "sl"
      refine s_in2 (by decide) ?_
      walk_at "sl"
      refine s_in2 (.inl (.inr ⟨by decide, by decide⟩)) ?_
      walk_at "sl"
      refine s_in2 (.inl (.inr ⟨by decide, by decide⟩)) ?_
      walk_at "sl"
      refine s_in2 (by decide) ?_
      walk_at "sl"
      refine s_in2 (by omega) ?_
      exact fin _ _ _ _ _ hi' (hmod _).1 (hmod _).2
theorem take_ok {K : PySem.W.Frag} {a : Addr} {m : Int} {H : Hp} {Q : VK} {E : XK} (S : Src H a) (h0 : 0 < m) (h1 : m ≤ 1000000000000000) (hq : ∀ H' (r : Int), Src H' a → Mov a H H' → 0 ≤ r → r < m → Q (.int r) H') : sp_law_take K [.ref a, .int m] H Q E :=
  ⟨_, _, rfl, a, m, rfl, rfl, S, h0, lg h0 h1, hq⟩
end Rd
namespace Rd
open PySem PySem.Spec PyProof.Rows L2 He Px
def sp_is_whole (K : PySem.W.Frag) : Sp := Sp1 fun x H Q _ => ∃ z : Str, x = .str z ∧ z.length ≤ 1000000 ∧ ∀ H', Same H H' → Q (.bl (wholeB z.cps.toList)) H'
def N_is_whole : List PySem.Str := ["text", "body", "sign"]
def t_is_whole (K : PySem.W.Frag) (W : WX) : TS := (tSeq (tAsg (tVar 0) (gName 1))
    (tCut (tIfS (tTest (tOp (rEqP K) (tSl (rSlP K) (tVar 0) tNoPart (tPart (tC (.int 1)))) (tC (.str "-")))) (tAsg (tSl (rSlP K) (tVar 0) (tPart (tC (.int 1))) tNoPart) (gName 1)) tNext)
    (tCut (tIfS (tOr (tTest (tOp rLtP (tCB (rLenP K) (tCons (tVar 1) tNil)) (tC (.int 1)))) (tTest (tOp rGtP (tCB (rLenP K) (tCons (tVar 1) tNil)) (tC (.int 60))))) (tRet (tC (.bl false))) tNext)
    (tRet (tCB (rAll K) (tCons (tLc (iAnyP K (tVar 1)) (gName 2) tYes (tOp (rInP K false) (tVar 2) (tC (.str "0123456789"))) [2]) tNil))))))
theorem all_compF {l : List Nat} {p : Nat → Bool} : ((l.map p).all id) = l.all p := by rw [List.all_map]; rfl
theorem pure_is_whole {K : PySem.W.Frag} {vs : List V} {H : Hp} {Q : VK} {E : XK} {W : WX} (h : sp_is_whole K vs H Q E) : t_is_whole K W { nx := fun _ H' => Q .non H', rt := Q } (start N_is_whole vs) H := by
  obtain ⟨x, rfl, z, rfl, hz, hq⟩ := h
  show t_is_whole K W _ [some (.str z), none, none] H
  unfold t_is_whole
  have hs : z.length ≤ sizeLine := one_lt hz
  walk_at "ss"
  refine s_cut (fun σ' H' => H' = H ∧ ∃ b : Str, σ' = [some (.str z), some (.str b), none] ∧ b.length ≤ 1000000 ∧ wholeB z.cps.toList = figB b.cps.toList) ?_ ?_
  · walk_at "ss"
    refine s_slS hs ?_
    walk_at "ss"
    refine s_itd (fun e1 => ?_) (fun e1 => ?_)
    · walk_at "ss"
      refine s_slS hs ?_
      walk_at "ss"
      refine ⟨rfl, _, rfl, Nat.le_trans (cutS_len _ _ _) hz, ?_⟩
      obtain ⟨r, hr⟩ := (dash_iff z).mp (decide_eq_true e1)
      rw [cut_tail, hr]
      rfl
    · walk_at "ss"
      refine ⟨rfl, z, rfl, hz, ?_⟩
      unfold wholeB
      rw [if_neg fun e => ?_]
      refine e1 (of_decide_eq_true ((dash_iff z).mpr ?_))
      cases hl : z.cps.toList with
      | nil => rw [hl] at e; cases e
      | cons x r => rw [hl] at e; exact ⟨r, by rw [show x = 45 from Option.some.inj e]⟩
  rintro σ' H' ⟨rfl, b, rfl, hb, he⟩
  have hbs : b.length ≤ sizeLine := one_lt hb
  have hl : b.cps.toList.length = b.length := len_toList b
  have no : figB b.cps.toList = false → Q (.bl false) H' := fun e => by have := hq H' (Same.refl H'); rw [he, e] at this; exact this
  refine s_nocut ?_
  walk_at "ss"
  refine s_lenS hbs ?_
  walk_at "ss"
  refine s_itd (fun e1 => ?_) (fun e1 => ?_)
  · rw [if_pos rfl]
    walk_at "ss"
    exact no (by unfold figB; rw [decide_eq_false (by omega)]; rfl)
  · walk_at "ss"
    refine s_lenS hbs ?_
    walk_at "ss"
    refine s_itd (fun e2 => ?_) (fun e2 => ?_)
    · walk_at "ss"
      exact no (by unfold figB; rw [decide_eq_false (p := b.cps.toList.length ≤ 60) (by omega), Bool.false_and, Bool.and_false])
    · walk_at "ss"
      refine lcb_map (fun x => match x with | .str y => .bl (strIn y "0123456789") | _ => .non) (show Items K H' (.str b) _ from rfl) (by rw [List.length_map, hl]; exact hb) ?_ ?_
      · intro x hx H1 s1 Q' hQ
        obtain ⟨d, _, rfl⟩ := List.mem_map.mp hx
        walk_at "ss"
        exact hQ _ (Same.refl _)
      · intro D H1 hD s1 hl1
        rw [List.map_map] at hl1
        walk_at "ss"
        refine s_all (bs := b.cps.toList.map fun c => decide (c ∈ digitsL)) (by
          rw [hl1, List.map_map]
          congr 2
          apply List.map_congr_left
          intro c _
          show V.bl (strIn ⟨#[c]⟩ _) = _
          rw [strIn_sign]
          rfl) ?_
        rw [all_compF]
        have := hq H1 s1
        rw [he] at this
        unfold figB at this
        rw [decide_eq_true (p := 0 < b.cps.toList.length) (by omega), decide_eq_true (p := b.cps.toList.length ≤ 60) (by omega)] at this
        exact this
def sp_Share_init (K : PySem.W.Frag) : Sp := Sp3 fun x y w H Q E => ∃ (c dx : Addr) (t b : Int), x = .ref c ∧ y = .int t ∧ w = .int b ∧ H c = some (.ins (ga K "Share") dx []) ∧ b.natAbs < 2 ^ 8000 ∧ (b = 0 → E (.ref (ga K "ZeroBelow")) none H) ∧ (b ≠ 0 → Q .non (upd H c (.ins (ga K "Share") dx [("top", .int (ntS t b)), ("bottom", .int (nbS t b))])))
def N_Share_init : List PySem.Str := ["self", "top", "bottom", "divisor"]
def t_Share_init (K : PySem.W.Frag) (W : WX) : TS := (tCut (tIfS (tTest (tOp (rEqP K) (tVar 2) (tC (.int 0)))) (tRaiseE0 (ga K "ZeroBelow") W) tNext)
    (tSeq (tAsg (tCB rGcd (tCons (tVar 1) (tCons (tVar 2) tNil))) (gName 3))
    (tCut (tIfS (tTest (tOp rLtP (tVar 2) (tC (.int 0)))) (tAsg (tUn (rU fun i => .int (-i)) (tVar 3)) (gName 3)) tNext)
    (tSeq (Cl.sAtt [ga K "Share"] (tVar 0) (tOp rFdivP (tVar 1) (tVar 3)) "top")
    (Cl.sAtt [ga K "Share"] (tVar 0) (tOp rFdivP (tVar 2) (tVar 3)) "bottom")))))
abbrev spV_Share_init (K : PySem.W.Frag) : Sp := Cl.spD [.int 1] (sp_Share_init K)
theorem pure_Share_init {K : PySem.W.Frag} {vs : List V} {H : Hp} {Q : VK} {E : XK} (h : sp_Share_init K vs H Q E) : t_Share_init K (fun cls d _ H => E cls d H) { nx := fun _ H' => Q .non H', rt := Q } (start N_Share_init vs) H := by
  obtain ⟨x, y, w, rfl, c, dx, t, b, rfl, rfl, rfl, hc, hb, he, hq⟩ := h
  show t_Share_init K _ _ [some (.ref c), some (.int t), some (.int b), none] H
  unfold t_Share_init
  refine s_nocut ?_
  walk_at "ss"
  refine s_itd (fun e => he e) (fun e => ?_)
  have hD := dvS_ne (t := t) e
  have hA := dvS_abs t b
  have hG : (dvS t b).natAbs.log2 < 9000 := by
    refine Nat.lt_trans (log_lt (k := 8000) ?_ (by decide)) (by decide)
    rw [hA]
    exact Nat.lt_of_le_of_lt (Nat.gcd_le_right _ (by omega)) hb
  walk_at "ss"
  refine s_gcd ?_
  walk_at "ss"
  refine s_cut (fun σ' H' => H' = H ∧ σ' = [some (.ref c), some (.int t), some (.int b), some (.int (dvS t b))]) ?_ ?_
  · unfold dvS
    walk_at "ss"
    refine s_itd (fun e2 => ?_) (fun e2 => ?_)
    · walk_at "ss"
      rw [if_pos e2]
      exact ⟨rfl, rfl⟩
    · walk_at "ss"
      rw [if_neg e2]
      exact ⟨rfl, rfl⟩
  rintro σ' H' ⟨rfl, rfl⟩
  walk_at "ss"
  refine s_in2 ⟨hD, hG⟩ ?_
  walk_at "ss"
  refine ⟨c, _, dx, [], rfl, List.mem_singleton.mpr rfl, hc, by decide, ?_⟩
  walk_at "ss"
  refine s_in2 ⟨hD, hG⟩ ?_
  walk_at "ss"
  refine ⟨c, _, dx, _, rfl, List.mem_singleton.mpr rfl, upd_same, by show 1 < 1000; decide, ?_⟩
  have := hq e
  rw [show upd (upd H' c (.ins (ga K "Share") dx (putF "top" (.int (t.fdiv (dvS t b))) []))) c (.ins (ga K "Share") dx (putF "bottom" (.int (b.fdiv (dvS t b))) (putF "top" (.int (t.fdiv (dvS t b))) []))) = upd H' c (.ins (ga K "Share") dx [("top", .int (ntS t b)), ("bottom", .int (nbS t b))]) from ?_]
  · exact this
  · funext a
    by_cases h : a = c
    · rw [h, upd_same, upd_same]; rfl
    · rw [upd_ne h, upd_ne h, upd_ne h]
theorem share_make {K : PySem.W.Frag} {t b : Int} {H : Hp} {R : Addr → Hp → Prop} {E : XK} (hb : b.natAbs < 2 ^ 8000) (h0 : b ≠ 0) (ok : ∀ H' c, Same H H' → H c = none → IsSh K H' c (ntS t b) (nbS t b) → R c H') : ∀ x dx, H x = none → H dx = none → dx ≠ x → sp_Share_init K [V.ref x, .int t, .int b] (upd (upd H dx (.own x)) x (.ins (ga K "Share") dx [])) (fun v H2 => v = .non ∧ R x H2) E := by
  intro x dx hx hd hn
  refine ⟨_, _, _, rfl, x, dx, t, b, rfl, rfl, rfl, upd_same, hb, fun e => absurd e h0, fun _ => ⟨rfl, ok _ x (fun a o e => ?_) hx ⟨dx, upd_same⟩⟩⟩
  rw [upd_ne (ne_of_none e hx), upd_ne (ne_of_none e hx), upd_ne (ne_of_none e hd)]
  exact e
theorem share_new {K : PySem.W.Frag} {t b : Int} {H : Hp} {R : Addr → Hp → Prop} {E : XK} (hb : b.natAbs < 2 ^ 8000) (h0 : b ≠ 0) (ok : ∀ H' c, Same H H' → H c = none → IsSh K H' c (ntS t b) (nbS t b) → R c H') : ∀ x dx, H x = none → H dx = none → dx ≠ x → spV_Share_init K [V.ref x, .int t, .int b] (upd (upd H dx (.own x)) x (.ins (ga K "Share") dx [])) (fun v H2 => v = .non ∧ R x H2) E :=
  fun x dx hx hd hn => .inl (share_make hb h0 ok x dx hx hd hn)
end Rd
namespace Rd
open PySem PySem.Spec PyProof.Rows L2 He Px
def sp_Share_str (K : PySem.W.Frag) : Sp := Sp1 fun x H Q _ => ∃ (a : Addr) (n d : Int), x = .ref a ∧ IsSh K H a n d ∧ n.natAbs < 2 ^ 1000 ∧ d.natAbs < 2 ^ 1000 ∧ Q (.str (textS n d)) H
def N_Share_str : List PySem.Str := ["self"]
def t_Share_str (K : PySem.W.Frag) (W : WX) : TS := (tCut (tIfS (tTest (tOp (rEqP K) (Cl.tAtt [(ga K "Share", Cl.aFld "bottom")] (tVar 0)) (tC (.int 1)))) (tRet (tCB rStrP (tCons (Cl.tAtt [(ga K "Share", Cl.aFld "top")] (tVar 0)) tNil))) tNext)
    (tRet (tJoined [(tFmt (Cl.tAtt [(ga K "Share", Cl.aFld "top")] (tVar 0))), (tC (.str "/")), (tFmt (Cl.tAtt [(ga K "Share", Cl.aFld "bottom")] (tVar 0)))])))
theorem pure_Share_str {K : PySem.W.Frag} {vs : List V} {H : Hp} {Q : VK} {E : XK} {W : WX} (h : sp_Share_str K vs H Q E) : t_Share_str K W { nx := fun _ H' => Q .non H', rt := Q } (start N_Share_str vs) H := by
  obtain ⟨x, rfl, a, n, d, rfl, ⟨dx, h1⟩, hn, hd, hq⟩ := h
  show t_Share_str K W _ [some (.ref a)] H
  unfold t_Share_str
  have ln : n.natAbs.log2 < 1920 := Nat.lt_trans (log_lt hn (by decide)) (by decide)
  have ld : d.natAbs.log2 < 1920 := Nat.lt_trans (log_lt hd (by decide)) (by decide)
  have tn := txt_len hn
  have td := txt_len hd
  unfold textS at hq
  refine s_nocut ?_
  walk_at "ss"
  refine ⟨a, dx, _, 0, _, _, rfl, rfl, h1, _, rfl, ?_⟩
  walk_at "ss"
  refine s_itd (fun e => ?_) (fun e => ?_)
  · rw [if_pos e] at hq
    walk_at "ss"
    refine ⟨a, dx, _, 0, _, _, rfl, rfl, h1, _, rfl, ?_⟩
    exact ⟨ln, hq⟩
  · rw [if_neg e] at hq
    walk_at "ss"
    refine ⟨_, rfl, a, dx, _, 0, _, _, rfl, rfl, h1, _, rfl, ?_⟩
    refine .inr ⟨n, rfl, ln, _, rfl, ?_, ?_⟩
    · rw [app_len]; show 0 + _ ≤ sizeLine; rw [sizeLine_eq]; omega
    refine ⟨_, rfl, ?_, ?_⟩
    · rw [app_len, app_len]; show 0 + _ + 1 ≤ sizeLine; rw [sizeLine_eq]; omega
    refine ⟨_, rfl, a, dx, _, 0, _, _, rfl, rfl, h1, _, rfl, ?_⟩
    refine .inr ⟨d, rfl, ld, _, rfl, ?_, ?_⟩
    · rw [app_len, app_len, app_len]; show 0 + _ + 1 + _ ≤ sizeLine; rw [sizeLine_eq]; omega
    show Q (.str (((Str.empty ++ Str.ofString (toString n)) ++ "/") ++ Str.ofString (toString d))) H
    have e0 : Str.empty ++ Str.ofString (toString n) = Str.ofString (toString n) := str_ext (by rw [app_toList]; rfl)
    rw [e0]
    exact hq
def sp_Share_read (K : PySem.W.Frag) : Sp := Sp1 fun x H Q E => ∃ z : Str, x = .str z ∧ z.length ≤ 1000000 ∧ (∀ t b, Can z t b → ∀ H' c, Same H H' → IsSh K H' c t b → Q (.ref c) H') ∧ ((∀ t b, ¬ Can z t b) → ∀ H' d, Same H H' → H' d = some (.xd [("text", .str z)]) → E (.ref (ga K "BadShare")) (some d) H')
def N_Share_read : List PySem.Str := ["text", "parts", "bottom", "share", "part"]
def t_Share_read (K : PySem.W.Frag) (W : WX) : TS := (tSeq (tAsg (tM1 Cl.rSplitP (tVar 0) (tC (.str "/"))) (gName 1))
    (tCut (tIfS (tOr (tTest (tOp rGtP (tCB (rLenP K) (tCons (tVar 1) tNil)) (tC (.int 2)))) (tNot (tB (tCB (rAll K) (tCons (tLc (iAnyP K (tVar 1)) (gName 4) tYes (tCall (sp_is_whole K) [] E0 (tCons (tVar 4) tNil)) [4]) tNil))))) (tRaiseE (ga K "BadShare") "text" W (tCons (tVar 0) tNil)) tNext)
    (tSeq (tAsg (tC (.int 1)) (gName 2))
    (tCut (tIfS (tTest (tOp (rEqP K) (tCB (rLenP K) (tCons (tVar 1) tNil)) (tC (.int 2)))) (tAsg (tCB rIntP (tCons (tOp (rIxP K) (tVar 1) (tC (.int 1))) tNil)) (gName 2)) tNext)
    (tCut (tIfS (tTest (tOp (rEqP K) (tVar 2) (tC (.int 0)))) (tRaiseE (ga K "BadShare") "text" W (tCons (tVar 0) tNil)) tNext)
    (tSeq (tAsg (Cl.tMakeS (ga K "Share") (spV_Share_init K) (WE W) (tCons (tCB rIntP (tCons (tOp (rIxP K) (tVar 1) (tC (.int 0))) tNil)) (tCons (tVar 2) tNil))) (gName 3))
    (tCut (tIfS (tTest (tOp (rNeP K) (tCB (Cl.rStrO [(ga K "Share", sp_Share_str K)]) (tCons (tVar 3) tNil)) (tVar 0))) (tRaiseE (ga K "BadShare") "text" W (tCons (tVar 0) tNil)) tNext)
    (tRet (tVar 3)))))))))
theorem pure_Share_read {K : PySem.W.Frag} {vs : List V} {H : Hp} {Q : VK} {E : XK} (h : sp_Share_read K vs H Q E) : t_Share_read K (fun cls d _ H => E cls d H) { nx := fun _ H' => Q .non H', rt := Q } (start N_Share_read vs) H := by
  obtain ⟨x, rfl, z, rfl, hz, hq, he⟩ := h
  show t_Share_read K _ _ [some (.str z), none, none, none, none] H
  unfold t_Share_read
  generalize hL : z.cps.toList = L at *
  have hLl : L.length = z.length := by rw [← hL]; exact len_toList z
  have cp : ∀ t b, Can z t b → (b = 1 ∧ slash L = [numI t]) ∨ (b ≠ 1 ∧ slash L = [numI t, numI b]) := fun t b h => by rw [← hL]; exact can_parts h
  walk_at "ss"
  refine s_split rfl hz fun p hp => ?_
  rw [hL]
  have s0 : Same H (upd H p (.lst (PV (slash L)))) := same_new hp
  walk_at "ss"
  refine s_cut (fun σ' H' => Same H H' ∧ H' p = some (.lst (PV (slash L))) ∧ σ' = [some (.str z), some (.ref p), none, none, none] ∧ ¬ 2 < (slash L).length ∧ ∀ l ∈ slash L, wholeB l = true) ?_ ?_
  · walk_at "ss"
    refine s_lenL (xs := PV (slash L)) upd_same ?_
    walk_at "ss"
    refine s_itd (fun e1 => ?_) (fun e1 => ?_)
    · rw [if_pos rfl]
      refine ⟨_, rfl, _, rfl, fun d hd => he (fun t b h => ?_) _ d (s0.trans (same_new hd)) upd_same⟩
      unfold PV at e1
      rw [List.length_map] at e1
      rcases cp t b h with ⟨_, e⟩ | ⟨_, e⟩ <;> rw [e] at e1 <;> simp at e1
    · have n2 : ¬ 2 < (slash L).length := by
        unfold PV at e1
        rw [List.length_map] at e1
        omega
      walk_at "ss"
      refine lcb_map (fun x => match x with | .str y => .bl (wholeB y.cps.toList) | _ => .non) (xs := PV (slash L)) (.inl (SqL.of upd_same)) (by unfold PV; rw [List.length_map]; omega) ?_ ?_
      · intro x hx H1 s1 Q' hQ
        obtain ⟨l, hl, rfl⟩ := List.mem_map.mp hx
        walk_at "ss"
        refine ⟨_, rfl, _, rfl, ?_, fun H2 s2 => hQ _ s2⟩
        rw [arr_len]
        have := slash_len n2 hl
        omega
      · intro D H1 hD s1 hl1
        walk_at "ss"
        refine s_all (bs := (slash L).map wholeB) (by rw [hl1]; unfold PV; rw [List.map_map, List.map_map]; rfl) ?_
        refine ⟨_, rfl, ?_⟩
        cases ha : ((slash L).map wholeB).all id with
        | false =>
          refine s_itT rfl ?_
          refine ⟨_, rfl, _, rfl, fun d hd => he (fun t b h => ?_) _ d ((s0.trans s1).trans (same_new hd)) upd_same⟩
          have w1 := (numI_whole h.2.2.2.1).1
          have w2 := (numI_whole h.2.2.2.2).1
          rcases cp t b h with ⟨_, e⟩ | ⟨_, e⟩ <;> rw [e] at ha
          · simp [w1] at ha
          · simp [w1, w2] at ha
        | true =>
          refine s_itF rfl ?_
          walk_at "ss"
          refine ⟨s0.trans s1, s1 _ _ upd_same, rfl, n2, fun l hl => ?_⟩
          rw [List.all_map, List.all_eq_true] at ha
          exact ha l hl
  rintro σ' H1 ⟨s1, h1, rfl, n2, hw⟩
  walk_at "ss"
  refine s_cut (fun σ' H' => H' = H1 ∧ ∃ (l : List Nat) (bt : Int), σ' = [some (.str z), some (.ref p), some (.int bt), none, none] ∧ (slash L)[0]? = some l ∧ wholeB l = true ∧ bt.natAbs < 10 ^ 60 ∧ ∀ t b, Can z t b → valI l = t ∧ bt = b) ?_ ?_
  · walk_at "ss"
    refine s_lenL h1 ?_
    walk_at "ss"
    have hlen : (PV (slash L)).length = (slash L).length := by unfold PV; rw [List.length_map]
    rw [hlen]
    rcases slash_cases L with ⟨_, e⟩ | ⟨l, q, e0, _, _, e⟩ | e
    · rw [e]
      refine s_itF rfl ?_
      walk_at "ss"
      refine ⟨rfl, L, 1, rfl, rfl, hw L (by rw [e]; exact List.mem_cons_self ..), by decide, fun t b h => ?_⟩
      rcases cp t b h with ⟨e1, e2⟩ | ⟨e1, e2⟩
      · rw [e] at e2
        rw [List.head_eq_of_cons_eq e2]
        exact ⟨(numI_whole h.2.2.2.1).2, e1.symm⟩
      · rw [e] at e2
        cases e2
    · have wq := hw q (by rw [e]; exact List.mem_cons_of_mem _ (List.mem_cons_self ..))
      obtain ⟨r1, r2⟩ := whole_read wq
      rw [e]
      refine s_itT rfl ?_
      walk_at "ss"
      refine s_ixL h1 (v := .str ⟨q.toArray⟩) (by rw [e]; rfl) ?_
      refine ⟨_, r1, r2, ?_⟩
      walk_at "ss"
      refine ⟨rfl, l, valI q, rfl, rfl, hw l (by rw [e]; exact List.mem_cons_self ..), valI_lt wq, fun t b h => ?_⟩
      rcases cp t b h with ⟨e1, e2⟩ | ⟨e1, e2⟩
      · rw [e] at e2
        cases e2
      · rw [e] at e2
        have k1 := List.head_eq_of_cons_eq e2
        have k2 := List.head_eq_of_cons_eq (List.tail_eq_of_cons_eq e2)
        rw [k1, k2]
        exact ⟨(numI_whole h.2.2.2.1).2, (numI_whole h.2.2.2.2).2⟩
    · exact absurd e n2
  rintro σ' H2 ⟨rfl, l, bt, rfl, hl, wl, hb, hc⟩
  obtain ⟨r1, r2⟩ := whole_read wl
  have htl := valI_lt wl
  refine s_nocut ?_
  walk_at "ss"
  refine s_itd (fun e => ?_) (fun e => ?_)
  · refine ⟨_, rfl, _, rfl, fun d hd => he (fun t b h => ?_) _ d (s1.trans (same_new hd)) upd_same⟩
    have := (hc t b h).2
    have := h.2.1
    omega
  walk_at "ss"
  refine s_ixL h1 (v := .str ⟨l.toArray⟩) (L2.atI_nat (j := 0) (PV_at hl)) ?_
  refine ⟨_, r1, r2, ?_⟩
  walk_at "ss"
  refine share_new (Nat.lt_trans hb ten60k) e fun H3 c s3 _ hO => ?_
  have h1000 : (2 : Nat) ^ 300 < 2 ^ 1000 := Nat.pow_lt_pow_right (by decide) (by decide)
  have hn : (ntS (valI l) bt).natAbs < 2 ^ 1000 := Nat.lt_trans (Nat.lt_of_le_of_lt (ntS_le e) htl) (Nat.lt_trans ten60 h1000)
  have hd : (nbS (valI l) bt).natAbs < 2 ^ 1000 := Nat.lt_trans (Nat.lt_of_le_of_lt (nbS_le e) hb) (Nat.lt_trans ten60 h1000)
  obtain ⟨dx, hO'⟩ := id hO
  refine s_nocut ?_
  walk_at "ss"
  refine .inr ⟨0, _, _, c, dx, _, rfl, rfl, hO', ⟨_, rfl, c, _, _, rfl, hO, hn, hd, _, rfl, ?_⟩⟩
  walk_at "ss"
  by_cases ht : textS (ntS (valI l) bt) (nbS (valI l) bt) = z
  · refine s_itF (by simp [ht]) ?_
    walk_at "ss"
    exact hq _ _ (can_of e htl hb ht) _ c (s1.trans s3) hO
  · refine s_itT (by simp [ht]) ?_
    refine ⟨_, rfl, _, rfl, fun d hd => he (fun t b h => ht ?_) _ d ((s1.trans s3).trans (same_new hd)) upd_same⟩
    obtain ⟨k1, k2⟩ := hc t b h
    obtain ⟨k3, k4⟩ := ntS_cop (t := t) h.2.1 h.2.2.1
    rw [k1, k2, k3, k4]
    exact h.1.symm
end Rd
namespace Rd
open PySem PySem.Spec PyProof.Rows L2 He Px
def sp_law_gcd (K : PySem.W.Frag) : Sp := Sp2 fun x y H Q _ => ∃ (a b : Int), x = .int a ∧ y = .int b ∧ b.natAbs < 2 ^ 300 ∧ Q (.int ((Nat.gcd a.natAbs b.natAbs : Nat) : Int)) H
def N_law_gcd : List PySem.Str := ["_law_one", "_law_other", "_law_k", "_law_rest"]
def t_law_gcd (K : PySem.W.Frag) (W : WX) : TS := (tCut (tFor (iRng1 (tCons (tC (.int 1500)) tNil)) (gName 2) (tCut (tIfS (tTest (tOp (rEqP K) (tVar 1) (tC (.int 0)))) (tRet (tCB rAbsP (tCons (tVar 0) tNil))) tNext)
    (tSeq (tAsg (tOp rModP (tCB rIntP (tCons (tVar 0) tNil)) (tVar 1)) (gName 3))
    (tSeq (tAsg (tVar 1) (gName 0))
    (tAsg (tVar 3) (gName 1))))))
    (tRet (tC (.int 1))))
/-- one step of the division -/
theorem mod_gcd (a b : Int) (hb : b ≠ 0) : Nat.gcd b.natAbs (a.fmod b).natAbs = Nat.gcd a.natAbs b.natAbs := by
  have e : a.fmod b = a - b * a.fdiv b := Int.fmod_def a b
  have h1 : Int.gcd b (a.fmod b) = Int.gcd a b := by
    rw [e, Int.gcd_comm a b]
    exact Int.gcd_sub_mul_left_right ..
  exact h1
theorem mod_lt (a b : Int) (hb : b ≠ 0) : (a.fmod b).natAbs < b.natAbs := by
  rcases Int.lt_or_gt_of_ne hb with h | h
  · have e : a.fmod b = -((-a).fmod (-b)) := by rw [Int.neg_fmod_neg, Int.neg_neg]
    have h0 := Int.fmod_nonneg_of_pos (-a) (show 0 < -b by omega)
    have h1 := Int.fmod_lt_of_pos (-a) (show 0 < -b by omega)
    omega
  · have h0 := Int.fmod_nonneg_of_pos a h
    have h1 := Int.fmod_lt_of_pos a h
    omega
/-- both of one sign: the rest is that of the sizes -/
theorem mod_abs {a b : Int} (hb : b ≠ 0) (hs : 0 ≤ a * b) : (a.fmod b).natAbs = a.natAbs % b.natAbs ∧ 0 ≤ b * a.fmod b := by
  rcases Int.lt_or_gt_of_ne hb with h | h
  · have ha : a ≤ 0 := by
      rcases Int.lt_or_le 0 a with h2 | h2
      · have := Int.mul_neg_of_pos_of_neg h2 h; omega
      · exact h2
    have e : a.fmod b = -((-a).fmod (-b)) := by rw [Int.neg_fmod_neg, Int.neg_neg]
    have e2 : (-a).fmod (-b) = (-a) % (-b) := Int.fmod_eq_emod_of_nonneg _ (by omega)
    have e3 : (-a) % (-b) = (((-a).natAbs % (-b).natAbs : Nat) : Int) := by
      rw [Int.natCast_emod]
      congr 1 <;> omega
    rw [Int.natAbs_neg, Int.natAbs_neg] at e3
    rw [e2, e3] at e
    refine ⟨by omega, ?_⟩
    rw [e]
    have : 0 ≤ (((a.natAbs % b.natAbs : Nat)) : Int) := by omega
    have h3 := Int.mul_nonneg (show 0 ≤ -b by omega) this
    rw [Int.mul_neg, ← Int.neg_mul]
    exact h3
  · have ha : 0 ≤ a := by
      rcases Int.lt_or_le a 0 with h2 | h2
      · have := Int.mul_neg_of_neg_of_pos h2 h; omega
      · exact h2
    have e2 : a.fmod b = a % b := Int.fmod_eq_emod_of_nonneg _ (by omega)
    have e3 : a % b = ((a.natAbs % b.natAbs : Nat) : Int) := by
      rw [Int.natCast_emod]
      congr 1 <;> omega
    rw [e2, e3]
    exact ⟨by omega, Int.mul_nonneg (by omega) (by omega)⟩
theorem half_step {a b : Nat} (hb : 0 < b) (h : b ≤ a) : 2 * (b * (a % b)) ≤ a * b := by
  have h1 : a % b < b := Nat.mod_lt _ hb
  have h2 : b * (a / b) + a % b = a := Nat.div_add_mod a b
  have h3 : 1 ≤ a / b := (Nat.one_le_div_iff hb).mpr h
  have h4 : b * 1 ≤ b * (a / b) := Nat.mul_le_mul_left b h3
  have h5 : 2 * (a % b) ≤ a := by omega
  calc 2 * (b * (a % b)) = b * (2 * (a % b)) := by rw [Nat.mul_left_comm]
    _ ≤ b * a := Nat.mul_le_mul_left b h5
    _ = a * b := Nat.mul_comm b a
theorem pure_law_gcd {K : PySem.W.Frag} {vs : List V} {H : Hp} {Q : VK} {E : XK} {W : WX} (h : sp_law_gcd K vs H Q E) : t_law_gcd K W { nx := fun _ H' => Q .non H', rt := Q } (start N_law_gcd vs) H := by
  obtain ⟨x, y, rfl, a, b, rfl, rfl, hb, hq⟩ := h
  show t_law_gcd K W _ [some (.int a), some (.int b), none, none] H
  unfold t_law_gcd
  refine s_cut (fun _ _ => False) ?_ (fun _ _ h => h.elim)
  walk_at "ss"
  refine forr_inv (by decide) (by decide) (fun i σ' H' => H' = H ∧ ∃ (c d : Int) (u v : Option V), σ' = [some (.int c), some (.int d), u, v] ∧ Nat.gcd c.natAbs d.natAbs = Nat.gcd a.natAbs b.natAbs ∧ (i = 0 → d = b) ∧ (1 ≤ i → c ≠ 0 ∧ d.natAbs ≤ c.natAbs ∧ 0 ≤ c * d ∧ 2 ^ (i - 1) * (c.natAbs * d.natAbs) ≤ 2 ^ 600) ∧ i ≤ 700)
    ⟨rfl, a, b, _, _, rfl, rfl, fun _ => rfl, fun h => absurd h (by decide), by decide⟩ ?_ ?_
  · rintro i σ' H' hi ⟨rfl, c, d, u, v, rfl, hg, h0, h1, hi7⟩
    refine s_nocut ?_
    walk_at "ss"
    refine s_itd (fun e => ?_) (fun e => ?_)
    · walk_at "ss"
      refine ⟨c, rfl, ?_⟩
      have : (if c < 0 then -c else c) = ((Nat.gcd a.natAbs b.natAbs : Nat) : Int) := by
        rw [← hg, e]
        show _ = ((Nat.gcd c.natAbs 0 : Nat) : Int)
        rw [Nat.gcd_zero_right]
        split <;> omega
      rw [this]
      exact hq
    · walk_at "ss"
      refine s_in2 e ?_
      walk_at "ss"
      have hm := mod_gcd c d e
      have hl := mod_lt c d e
      refine ⟨rfl, d, c.fmod d, _, _, rfl, by rw [hm, hg], fun h => by omega, fun _ => ⟨e, by omega, ?_, ?_⟩, ?_⟩
      · by_cases hi0 : i = 0
        · rcases Int.lt_or_gt_of_ne e with h | h
          · have e1 : c.fmod d = -((-c).fmod (-d)) := by rw [Int.neg_fmod_neg, Int.neg_neg]
            have h2 := Int.fmod_nonneg_of_pos (-c) (show 0 < -d by omega)
            rw [e1, Int.mul_neg, ← Int.neg_mul]
            exact Int.mul_nonneg (by omega) h2
          · exact Int.mul_nonneg (by omega) (Int.fmod_nonneg_of_pos c h)
        · exact (mod_abs e (h1 (by omega)).2.2.1).2
      · by_cases hi0 : i = 0
        · subst hi0
          have hdb := h0 rfl
          subst hdb
          show 2 ^ 0 * _ ≤ _
          rw [Nat.pow_zero, Nat.one_mul]
          calc d.natAbs * (c.fmod d).natAbs ≤ 2 ^ 300 * 2 ^ 300 := Nat.mul_le_mul (by omega) (by omega)
            _ = 2 ^ 600 := by rw [← Nat.pow_add]
        · obtain ⟨c0, dc, hs, hP⟩ := h1 (by omega)
          have hma := (mod_abs e hs).1
          rw [hma]
          have hh := half_step (a := c.natAbs) (b := d.natAbs) (by omega) dc
          have e2 : i + 1 - 1 = (i - 1) + 1 := by omega
          rw [e2, Nat.pow_succ, Nat.mul_assoc]
          exact Nat.le_trans (Nat.mul_le_mul_left _ hh) hP
      · by_cases hi0 : i = 0
        · omega
        · obtain ⟨c0, dc, hs, hP⟩ := h1 (by omega)
          have hp : 1 ≤ c.natAbs * d.natAbs := Nat.mul_pos (by omega) (by omega)
          have h2 : 2 ^ (i - 1) ≤ 2 ^ 600 := Nat.le_trans (Nat.le_mul_of_pos_right _ hp) hP
          have := (Nat.pow_le_pow_iff_right (by decide)).mp h2
          omega
  · rintro σ' H' ⟨_, _, _, _, _, _, _, _, _, h⟩
    exact absurd h (by decide)
def sp_law_is_share (K : PySem.W.Frag) : Sp := Sp3 fun x y w H Q _ => ∃ (c : Addr) (t b : Int), x = .ref c ∧ y = .int t ∧ w = .int b ∧ IsSh K H c (ntS t b) (nbS t b) ∧ b ≠ 0 ∧ b.natAbs < 2 ^ 300 ∧ ∀ H', Same H H' → Q (.bl true) H'
def N_law_is_share : List PySem.Str := ["_law_share", "_law_top", "_law_bottom", "_law_common"]
def t_law_is_share (K : PySem.W.Frag) (W : WX) : TS := (tCut (tIfS (tOr (tNot (tB (tCB (rIsi K) (tCons (tVar 0) (tCons (tC (.ref (ga K "Share"))) tNil))))) (tTest (tOp (rEqP K) (tVar 2) (tC (.int 0))))) (tRet (tC (.bl false))) tNext)
    (tSeq (tAsg (tCallS (sp_law_gcd K) (WE W) (tCons (tVar 1) (tCons (tVar 2) tNil))) (gName 3))
    (tCut (tIfS (tTest (tOp rLtP (tVar 2) (tC (.int 0)))) (tAsg (tUn (rU fun i => .int (-i)) (tVar 3)) (gName 3)) tNext)
    (tRet (tAndV (tCallS (sp_law_same K) (WE W) (tCons (Cl.tAtt [(ga K "Share", Cl.aFld "top")] (tVar 0)) (tCons (tOp rFdivP (tVar 1) (tVar 3)) tNil))) (tCallS (sp_law_same K) (WE W) (tCons (Cl.tAtt [(ga K "Share", Cl.aFld "bottom")] (tVar 0)) (tCons (tOp rFdivP (tVar 2) (tVar 3)) tNil))))))))
theorem pure_law_is_share {K : PySem.W.Frag} (ik : Hk.InsK K (ga K "Share")) (cc : PySem.W.kitOne K (.ref (ga K "Share")) (.ref (ga K "Share")) = some true) {vs : List V} {H : Hp} {Q : VK} {E : XK} {W : WX} (h : sp_law_is_share K vs H Q E) : t_law_is_share K W { nx := fun _ H' => Q .non H', rt := Q } (start N_law_is_share vs) H := by
  obtain ⟨x, y, w, rfl, c, t, b, rfl, rfl, rfl, ⟨dx, h1⟩, h0, hb, hq⟩ := h
  show t_law_is_share K W _ [some (.ref c), some (.int t), some (.int b), none] H
  unfold t_law_is_share
  have hD := dvS_ne (t := t) h0
  have hG : (dvS t b).natAbs.log2 < 9000 := by
    refine Nat.lt_trans (log_lt (k := 300) ?_ (by decide)) (by decide)
    rw [dvS_abs]
    exact Nat.lt_of_le_of_lt (Nat.gcd_le_right _ (by omega)) hb
  refine s_nocut ?_
  walk_at "ss"
  refine ⟨_, _, _, _, true, rfl, .own _, ik.ty h1, cc, ?_⟩
  walk_at "ss"
  refine s_itF rfl ?_
  walk_at "ss"
  refine s_itF (decide_eq_false h0) ?_
  walk_at "ss"
  refine ⟨_, _, rfl, t, b, rfl, rfl, hb, ?_⟩
  walk_at "ss"
  refine s_cut (fun σ' H' => H' = H ∧ σ' = [some (.ref c), some (.int t), some (.int b), some (.int (dvS t b))]) ?_ ?_
  · unfold dvS
    walk_at "ss"
    refine s_itd (fun e2 => ?_) (fun e2 => ?_)
    · walk_at "ss"
      rw [if_pos e2]
      exact ⟨rfl, rfl⟩
    · walk_at "ss"
      rw [if_neg e2]
      exact ⟨rfl, rfl⟩
  rintro σ' H' ⟨rfl, rfl⟩
  walk_at "ss"
  refine ⟨c, dx, _, 0, _, _, rfl, rfl, h1, _, rfl, ?_⟩
  walk_at "ss"
  refine s_in2 ⟨hD, hG⟩ ?_
  walk_at "ss"
  refine same_ok (.int _) (.int _) trivial fun H2 s2 => ?_
  walk_at "ss"
  refine s_itT rfl ?_
  walk_at "ss"
  refine ⟨c, dx, _, 0, _, _, rfl, rfl, s2 _ _ h1, _, rfl, ?_⟩
  walk_at "ss"
  refine s_in2 ⟨hD, hG⟩ ?_
  walk_at "ss"
  exact same_ok (.int _) (.int _) trivial fun H3 s3 => hq H3 (s2.trans s3)
def sp_law_number (K : PySem.W.Frag) : Sp := Sp2 fun x y H Q _ => ∃ (a : Addr) (p : Int), x = .ref a ∧ y = .int p ∧ Src H a ∧ 0 ≤ p ∧ p ≤ 20 ∧ ∀ H' (n : Int), Src H' a → Mov a H H' → n.natAbs < 10 ^ (10 * p.toNat + 1) → Q (.int n) H'
def N_law_number : List PySem.Str := ["_law_source_here", "_law_parts", "_law_number_here", "_law_k"]
def t_law_number (K : PySem.W.Frag) (W : WX) : TS := (tSeq (tAsg (tCallS (sp_law_take K) (WE W) (tCons (tVar 0) (tCons (tC (.int 10)) tNil))) (gName 2))
    (tCut (tFor (iRng1 (tCons (tCallS (sp_law_take K) (WE W) (tCons (tVar 0) (tCons (tOp (rAddP K) (tVar 1) (tC (.int 1))) tNil))) tNil)) (gName 3) (tAsg (tOp (rAddP K) (tOp rMulP (tVar 2) (tOp rPowP (tC (.int 10)) (tC (.int 10)))) (tCallS (sp_law_take K) (WE W) (tCons (tVar 0) (tCons (tOp rPowP (tC (.int 10)) (tC (.int 10))) tNil)))) (gName 2)))
    (tCut (tIfS (tTest (tOp (rEqP K) (tCallS (sp_law_take K) (WE W) (tCons (tVar 0) (tCons (tC (.int 2)) tNil))) (tC (.int 1)))) (tRet (tUn (rU fun i => .int (-i)) (tVar 2))) tNext)
    (tRet (tVar 2)))))
theorem pure_law_number {K : PySem.W.Frag} {vs : List V} {H : Hp} {Q : VK} {E : XK} {W : WX} (h : sp_law_number K vs H Q E) : t_law_number K W { nx := fun _ H' => Q .non H', rt := Q } (start N_law_number vs) H := by
  obtain ⟨x, y, rfl, a, p, rfl, rfl, hS, p0, p1, hq⟩ := h
  show t_law_number K W _ [some (.ref a), some (.int p), none, none] H
  unfold t_law_number
  walk_at "ss"
  refine take_ok hS (by decide) (by decide) fun H1 n0 S1 b1 n00 n01 => ?_
  walk_at "ss"
  refine s_cut (fun σ' H' => ∃ (n : Int) (v : Option V), σ' = [some (.ref a), some (.int p), some (.int n), v] ∧ Src H' a ∧ Mov a H H' ∧ 0 ≤ n ∧ n.natAbs < 10 ^ (10 * p.toNat + 1)) ?_ ?_
  · walk_at "ss"
    refine take_ok S1 (by omega) (by omega) fun H2 m S2 b2 m0 m1 => ?_
    walk_at "ss"
    refine forr_inv (by omega) (by omega) (fun i σ' H' => i ≤ p.toNat ∧ ∃ (n : Int) (v : Option V), σ' = [some (.ref a), some (.int p), some (.int n), v] ∧ Src H' a ∧ Mov a H H' ∧ 0 ≤ n ∧ n.natAbs < 10 ^ (10 * i + 1)) ⟨Nat.zero_le _, n0, _, rfl, S2, b1.trans b2, n00, by show n0.natAbs < 10; omega⟩ ?_ ?_
    · rintro i σ' H' hi ⟨hip, n, v, rfl, S3, B3, hn0, hn⟩
      walk_at "ss"
      refine s_in2 ⟨by decide, by decide, by decide⟩ ?_
      refine s_in2 (.inl (.inr (by decide +kernel))) ?_
      walk_at "ss"
      refine s_in2 ⟨by decide, by decide, by decide⟩ ?_
      walk_at "ss"
      refine take_ok S3 (by decide +kernel) (by decide +kernel) fun H4 r S4 b4 r0 r1 => ?_
      walk_at "ss"
      have e10 : (10 : Int) ^ (10 : Int).toNat = 10000000000 := by decide +kernel
      rw [e10] at r1 ⊢
      refine ⟨by omega, _, _, rfl, S4, B3.trans b4, by omega, ?_⟩
      have e2 : 10 * (i + 1) + 1 = (10 * i + 1) + 10 := by omega
      rw [e2, Nat.pow_add]
      generalize 10 ^ (10 * i + 1) = M at hn
      show _ < M * 10000000000
      omega
    · rintro σ' H' ⟨hip, n, v, rfl, S3, B3, hn0, hn⟩
      refine ⟨n, v, rfl, S3, B3, hn0, Nat.lt_of_lt_of_le hn (Nat.pow_le_pow_right (by decide) (by omega))⟩
  rintro σ' H' ⟨n, v, rfl, S3, B3, hn0, hn⟩
  refine s_nocut ?_
  walk_at "ss"
  refine take_ok S3 (by decide) (by decide) fun H4 r S4 b4 r0 r1 => ?_
  walk_at "ss"
  refine s_itd (fun _ => ?_) (fun _ => ?_)
  · walk_at "ss"
    exact hq H4 (-n) S4 (B3.trans b4) (by rw [Int.natAbs_neg]; exact hn)
  · walk_at "ss"
    exact hq H4 n S4 (B3.trans b4) hn
def sp_law_share_text (K : PySem.W.Frag) : Sp := Sp2 fun x y H Q _ => ∃ (t b : Int), x = .int t ∧ y = .int b ∧ b ≠ 0 ∧ t.natAbs < 2 ^ 300 ∧ b.natAbs < 2 ^ 300 ∧ Q (.str (textS (ntS t b) (nbS t b))) H
def N_law_share_text : List PySem.Str := ["_law_top", "_law_bottom", "_law_common"]
def t_law_share_text (K : PySem.W.Frag) (W : WX) : TS := (tSeq (tAsg (tCallS (sp_law_gcd K) (WE W) (tCons (tVar 0) (tCons (tVar 1) tNil))) (gName 2))
    (tCut (tIfS (tTest (tOp rLtP (tVar 1) (tC (.int 0)))) (tAsg (tUn (rU fun i => .int (-i)) (tVar 2)) (gName 2)) tNext)
    (tCut (tIfS (tTest (tOp (rEqP K) (tOp rFdivP (tVar 1) (tVar 2)) (tC (.int 1)))) (tRet (tCB rStrP (tCons (tOp rFdivP (tVar 0) (tVar 2)) tNil))) tNext)
    (tRet (tOp (rAddP K) (tOp (rAddP K) (tCB rStrP (tCons (tOp rFdivP (tVar 0) (tVar 2)) tNil)) (tC (.str "/"))) (tCB rStrP (tCons (tOp rFdivP (tVar 1) (tVar 2)) tNil)))))))
theorem pure_law_share_text {K : PySem.W.Frag} {vs : List V} {H : Hp} {Q : VK} {E : XK} {W : WX} (h : sp_law_share_text K vs H Q E) : t_law_share_text K W { nx := fun _ H' => Q .non H', rt := Q } (start N_law_share_text vs) H := by
  obtain ⟨x, y, rfl, t, b, rfl, rfl, h0, ht, hb, hq⟩ := h
  show t_law_share_text K W _ [some (.int t), some (.int b), none] H
  unfold t_law_share_text
  have hD := dvS_ne (t := t) h0
  have hG : (dvS t b).natAbs.log2 < 9000 := by
    refine Nat.lt_trans (log_lt (k := 300) ?_ (by decide)) (by decide)
    rw [dvS_abs]
    exact Nat.lt_of_le_of_lt (Nat.gcd_le_right _ (by omega)) hb
  have h300 : (2 : Nat) ^ 300 < 2 ^ 1000 := Nat.pow_lt_pow_right (by decide) (by decide)
  have hn : (ntS t b).natAbs < 2 ^ 1000 := Nat.lt_trans (Nat.lt_of_le_of_lt (ntS_le h0) ht) h300
  have hd : (nbS t b).natAbs < 2 ^ 1000 := Nat.lt_trans (Nat.lt_of_le_of_lt (nbS_le h0) hb) h300
  have ln : (ntS t b).natAbs.log2 < 1920 := Nat.lt_trans (log_lt hn (by decide)) (by decide)
  have ld : (nbS t b).natAbs.log2 < 1920 := Nat.lt_trans (log_lt hd (by decide)) (by decide)
  have tn := txt_len hn
  have td := txt_len hd
  walk_at "ss"
  refine ⟨_, _, rfl, t, b, rfl, rfl, hb, ?_⟩
  walk_at "ss"
  refine s_cut (fun σ' H' => H' = H ∧ σ' = [some (.int t), some (.int b), some (.int (dvS t b))]) ?_ ?_
  · unfold dvS
    walk_at "ss"
    refine s_itd (fun e2 => ?_) (fun e2 => ?_)
    · walk_at "ss"
      rw [if_pos e2]
      exact ⟨rfl, rfl⟩
    · walk_at "ss"
      rw [if_neg e2]
      exact ⟨rfl, rfl⟩
  rintro σ' H' ⟨rfl, rfl⟩
  unfold textS at hq
  refine s_nocut ?_
  walk_at "ss"
  refine s_in2 ⟨hD, hG⟩ ?_
  walk_at "ss"
  refine s_itd (fun e => ?_) (fun e => ?_)
  · rw [if_pos (show nbS t b = 1 from e)] at hq
    walk_at "ss"
    refine s_in2 ⟨hD, hG⟩ ?_
    walk_at "ss"
    exact ⟨ln, hq⟩
  · rw [if_neg (show ¬ nbS t b = 1 from e)] at hq
    walk_at "ss"
    refine s_in2 ⟨hD, hG⟩ ?_
    walk_at "ss"
    refine ⟨ln, ?_⟩
    walk_at "ss"
    refine s_addS (by show (Str.ofString (toString (ntS t b))).length + 1 ≤ sizeLine; rw [sizeLine_eq]; omega) ?_
    walk_at "ss"
    refine s_in2 ⟨hD, hG⟩ ?_
    walk_at "ss"
    refine ⟨ld, ?_⟩
    refine s_addS (by rw [app_len]; show (Str.ofString (toString (ntS t b))).length + 1 + (Str.ofString (toString (nbS t b))).length ≤ sizeLine; rw [sizeLine_eq]; omega) ?_
    exact hq
end Rd
namespace Rd
open PySem PySem.Spec PyProof.Rows L2 He Px
def sp_law_sign (K : PySem.W.Frag) : Sp := Sp1 fun x H Q _ => ∃ (a : Addr), x = .ref a ∧ Src H a ∧ ∀ H' (c : Nat), Src H' a → Mov a H H' → Q (.str ⟨#[c]⟩) H'
def N_law_sign : List PySem.Str := ["_law_source_here", "_law_signs"]
def t_law_sign (K : PySem.W.Frag) (W : WX) : TS := (tSeq (tAsg (tC (.str " !\"#$&'()*+,-./0123456789:;<=>?@ABCDEFGHIJKLMNOPQRSTUVWXYZ[\\]^_`")) (gName 1))
    (tSeq (tAsg (tOp (rAddP K) (tVar 1) (tC (.str "abcdefghijklmnopqrstuvwxyz{|}~\n"))) (gName 1))
    (tRet (tOp (rIxP K) (tVar 1) (tCallS (sp_law_take K) (WE W) (tCons (tVar 0) (tCons (tC (.int 95)) tNil)))))))
theorem pure_law_sign {K : PySem.W.Frag} {vs : List V} {H : Hp} {Q : VK} {E : XK} {W : WX} (h : sp_law_sign K vs H Q E) : t_law_sign K W { nx := fun _ H' => Q .non H', rt := Q } (start N_law_sign vs) H := by
  obtain ⟨x, rfl, a, rfl, hS, hq⟩ := h
  show t_law_sign K W _ [some (.ref a), none] H
  unfold t_law_sign
  walk_at "ss"
  refine s_addS (by decide +kernel) ?_
  walk_at "ss"
  refine ⟨_, _, rfl, a, 95, rfl, rfl, hS, by decide, by decide, fun H1 r S1 b1 r0 r1 => ?_⟩
  obtain ⟨c, hc, e⟩ := at_ex (l := _) r0 (show r < ((List.length (Str.cps ((" !\"#$&'()*+,-./0123456789:;<=>?@ABCDEFGHIJKLMNOPQRSTUVWXYZ[\\]^_`" : Str) ++ ("abcdefghijklmnopqrstuvwxyz{|}~\n" : Str))).toList : Nat) : Int) from r1)
  refine s_ixS (by decide +kernel) e ?_
  exact hq H1 c S1 b1
theorem sgn_ok {K : PySem.W.Frag} {a : Addr} {H : Hp} {Q : VK} {E : XK} (S : Src H a) (hq : ∀ H' c, Src H' a → Mov a H H' → Q (.str ⟨#[c]⟩) H') : sp_law_sign K [.ref a] H Q E :=
  ⟨_, rfl, a, rfl, S, hq⟩
def sp_law_changed (K : PySem.W.Frag) : Sp := Sp2 fun x y H Q _ => ∃ (a : Addr) (z : Str), x = .ref a ∧ y = .str z ∧ Src H a ∧ z.length ≤ 100000 ∧ ∀ H' (r : Str), Src H' a → Mov a H H' → r.length ≤ 300000 → Q (.str r) H'
def N_law_changed : List PySem.Str := ["_law_source_here", "_law_text_here", "_law_at", "_law_sign_here", "_law_style"]
def t_law_changed (K : PySem.W.Frag) (W : WX) : TS := (tSeq (tAsg (tCallS (sp_law_take K) (WE W) (tCons (tVar 0) (tCons (tOp (rAddP K) (tCB (rLenP K) (tCons (tVar 1) tNil)) (tC (.int 1))) tNil))) (gName 2))
    (tSeq (tAsg (tOp (rIxP K) (tC (.str "0123456789/-")) (tCallS (sp_law_take K) (WE W) (tCons (tVar 0) (tCons (tC (.int 12)) tNil)))) (gName 3))
    (tCut (tIfS (tTest (tOp (rEqP K) (tCallS (sp_law_take K) (WE W) (tCons (tVar 0) (tCons (tC (.int 2)) tNil))) (tC (.int 1)))) (tAsg (tCallS (sp_law_sign K) (WE W) (tCons (tVar 0) tNil)) (gName 3)) tNext)
    (tSeq (tAsg (tCallS (sp_law_take K) (WE W) (tCons (tVar 0) (tCons (tC (.int 4)) tNil))) (gName 4))
    (tCut (tIfS (tTest (tOp (rEqP K) (tVar 4) (tC (.int 0)))) (tRet (tOp (rAddP K) (tOp (rAddP K) (tSl (rSlP K) (tVar 1) tNoPart (tPart (tVar 2))) (tVar 3)) (tSl (rSlP K) (tVar 1) (tPart (tOp (rAddP K) (tVar 2) (tC (.int 1)))) tNoPart))) tNext)
    (tCut (tIfS (tTest (tOp (rEqP K) (tVar 4) (tC (.int 1)))) (tRet (tOp (rAddP K) (tOp (rAddP K) (tSl (rSlP K) (tVar 1) tNoPart (tPart (tVar 2))) (tVar 3)) (tSl (rSlP K) (tVar 1) (tPart (tVar 2)) tNoPart))) tNext)
    (tCut (tIfS (tTest (tOp (rEqP K) (tVar 4) (tC (.int 2)))) (tRet (tSl (rSlP K) (tVar 1) tNoPart (tPart (tVar 2)))) tNext)
    (tRet (tSl (rSlP K) (tVar 1) (tPart (tVar 2)) tNoPart)))))))))
theorem pure_law_changed {K : PySem.W.Frag} {vs : List V} {H : Hp} {Q : VK} {E : XK} {W : WX} (h : sp_law_changed K vs H Q E) : t_law_changed K W { nx := fun _ H' => Q .non H', rt := Q } (start N_law_changed vs) H := by
  obtain ⟨x, y, rfl, a, z, rfl, rfl, hS, hz, hq⟩ := h
  show t_law_changed K W _ [some (.ref a), some (.str z), none, none, none] H
  unfold t_law_changed
  have hs : z.length ≤ sizeLine := one_lt (by omega)
  walk_at "ss"
  refine s_lenS hs ?_
  walk_at "ss"
  refine take_ok hS (by omega) (by omega) fun H1 at_ S1 b1 a0 a1 => ?_
  walk_at "ss"
  refine take_ok S1 (by decide) (by decide) fun H2 r S2 b2 r0 r1 => ?_
  obtain ⟨c, hc, e⟩ := at_ex (l := (("0123456789/-" : Str)).cps.toList) r0 r1
  refine s_ixS (by decide +kernel) e ?_
  walk_at "ss"
  refine s_cut (fun σ' H' => Src H' a ∧ Mov a H H' ∧ ∃ c : Nat, σ' = [some (.ref a), some (.str z), some (.int at_), some (.str ⟨#[c]⟩), none]) ?_ ?_
  · walk_at "ss"
    refine take_ok S2 (by decide) (by decide) fun H3 r3 S3 b3 _ _ => ?_
    have B3 : Mov a H H3 := (b1.trans b2).trans b3
    walk_at "ss"
    refine s_itd (fun _ => ?_) (fun _ => ?_)
    · walk_at "ss"
      refine sgn_ok S3 fun H4 c4 S4 b4 => ?_
      walk_at "ss"
      exact ⟨S4, B3.trans b4, c4, rfl⟩
    · walk_at "ss"
      exact ⟨S3, B3, c, rfl⟩
  rintro σ' H4 ⟨S4, B4, c4, rfl⟩
  walk_at "ss"
  refine take_ok S4 (by decide) (by decide) fun H5 st S5 b5 _ _ => ?_
  have B5 : Mov a H H5 := B4.trans b5
  have l1 := cutS_len z none (some at_)
  have l2 := cutS_len z (some (at_ + 1)) none
  have l4 := cutS_len z (some at_) none
  have l3 : (cutS z none (some at_) ++ (⟨#[c4]⟩ : Str)).length = (cutS z none (some at_)).length + 1 := app_len _ _
  walk_at "ss"
  refine s_nocut ?_
  walk_at "ss"
  refine s_itd (fun _ => ?_) (fun _ => ?_)
  · walk_at "ss"
    refine s_slS hs ?_
    walk_at "ss"
    refine s_addS (by show _ + 1 ≤ sizeLine; rw [sizeLine_eq]; omega) ?_
    walk_at "ss"
    refine s_slS hs ?_
    refine s_addS (by rw [sizeLine_eq]; omega) ?_
    exact hq _ _ S5 B5 (by rw [app_len]; omega)
  walk_at "ss"
  refine s_nocut ?_
  walk_at "ss"
  refine s_itd (fun _ => ?_) (fun _ => ?_)
  · walk_at "ss"
    refine s_slS hs ?_
    walk_at "ss"
    refine s_addS (by show _ + 1 ≤ sizeLine; rw [sizeLine_eq]; omega) ?_
    walk_at "ss"
    refine s_slS hs ?_
    refine s_addS (by rw [sizeLine_eq]; omega) ?_
    exact hq _ _ S5 B5 (by rw [app_len]; omega)
  walk_at "ss"
  refine s_nocut ?_
  walk_at "ss"
  refine s_itd (fun _ => ?_) (fun _ => ?_)
  · walk_at "ss"
    refine s_slS hs ?_
    exact hq _ _ S5 B5 (by omega)
  walk_at "ss"
  refine s_slS hs ?_
  exact hq _ _ S5 B5 (by omega)
def sp_law_text (K : PySem.W.Frag) : Sp := Sp1 fun x H Q _ => ∃ (a : Addr), x = .ref a ∧ Src H a ∧ ∀ H' (z : Str), Src H' a → Mov a H H' → z.length ≤ 1000000 → Q (.str z) H'
def N_law_text : List PySem.Str := ["_law_source_here", "_law_style", "_law_top", "_law_bottom", "_law_text_here", "_law_choice", "_law_long"]
def t_law_text (K : PySem.W.Frag) (W : WX) : TS := (tSeq (tAsg (tCallS (sp_law_take K) (WE W) (tCons (tVar 0) (tCons (tC (.int 12)) tNil))) (gName 1))
    (tSeq (tAsg (tCallS (sp_law_number K) (WE W) (tCons (tVar 0) (tCons (tC (.int 5)) tNil))) (gName 2))
    (tSeq (tAsg (tOp (rAddP K) (tC (.int 1)) (tCB rAbsP (tCons (tCallS (sp_law_number K) (WE W) (tCons (tVar 0) (tCons (tC (.int 5)) tNil))) tNil))) (gName 3))
    (tSeq (tAsg (tCallS (sp_law_share_text K) (WE W) (tCons (tVar 2) (tCons (tVar 3) tNil))) (gName 4))
    (tSeq (tAsg (tCallS (sp_law_take K) (WE W) (tCons (tVar 0) (tCons (tC (.int 5)) tNil))) (gName 5))
    (tCut (tIfS (tTest (tOp (rEqP K) (tVar 1) (tC (.int 1)))) (tRet (tOp (rAddP K) (tOp (rAddP K) (tCB rStrP (tCons (tOp rMulP (tVar 2) (tOp (rAddP K) (tVar 5) (tC (.int 2)))) tNil)) (tC (.str "/"))) (tCB rStrP (tCons (tOp rMulP (tVar 3) (tOp (rAddP K) (tVar 5) (tC (.int 2)))) tNil)))) tNext)
    (tCut (tIfS (tTest (tOp (rEqP K) (tVar 1) (tC (.int 2)))) (tRet (tOp (rAddP K) (tOp (rIxP K) (tLst (tCons (tC (.str "0")) (tCons (tC (.str "+")) (tCons (tC (.str "-")) (tCons (tC (.str "00")) (tCons (tC (.str "-0")) tNil)))))) (tVar 5)) (tVar 4))) tNext)
    (tCut (tIfS (tTest (tOp (rEqP K) (tVar 1) (tC (.int 3)))) (tRet (tOp (rAddP K) (tOp (rAddP K) (tCB rStrP (tCons (tVar 2) tNil)) (tC (.str "/"))) (tOp (rIxP K) (tLst (tCons (tC (.str "0")) (tCons (tC (.str "1")) (tCons (tC (.str "-3")) (tCons (tC (.str "")) (tCons (tC (.str "07")) tNil)))))) (tVar 5)))) tNext)
    (tCut (tIfS (tTest (tOp (rEqP K) (tVar 1) (tC (.int 4)))) (tRet (tOp (rIxP K) (tLst (tCons (tOp (rAddP K) (tC (.str " ")) (tVar 4)) (tCons (tOp (rAddP K) (tVar 4) (tC (.str " "))) (tCons (tOp (rAddP K) (tVar 4) (tC (.str "\n"))) (tCons (Cl.tReplP (tVar 4) "/" " / ") (tCons (tOp (rAddP K) (tVar 4) (tC (.str "/"))) tNil)))))) (tVar 5))) tNext)
    (tCut (tIfS (tOr (tTest (tOp (rEqP K) (tVar 1) (tC (.int 5)))) (tTest (tOp (rEqP K) (tVar 1) (tC (.int 6))))) (tSeq (tAsg (tOp (rAddP K) (tOp rPowP (tC (.int 10)) (tC (.int 59))) (tCallS (sp_law_take K) (WE W) (tCons (tVar 0) (tCons (tOp rPowP (tC (.int 10)) (tC (.int 9))) tNil)))) (gName 6))
    (tCut (tIfS (tTest (tOp (rEqP K) (tCallS (sp_law_take K) (WE W) (tCons (tVar 0) (tCons (tC (.int 2)) tNil))) (tC (.int 1)))) (tAsg (tOp (rAddP K) (tOp rMulP (tC (.int 10)) (tVar 6)) (tC (.int 1))) (gName 6)) tNext)
    (tRet (tOp (rAddP K) (tOp (rIxP K) (tLst (tCons (tC (.str "")) (tCons (tC (.str "1/")) (tCons (tC (.str "-")) (tCons (tC (.str "-1/")) (tCons (tC (.str "2/")) tNil)))))) (tVar 5)) (tCB rStrP (tCons (tVar 6) tNil)))))) tNext)
    (tCut (tIfS (tAnd (tTest (tOp rGtP (tVar 1) (tC (.int 6)))) (tTest (tOp rLtP (tVar 1) (tC (.int 11))))) (tRet (tCallS (sp_law_changed K) (WE W) (tCons (tVar 0) (tCons (tVar 4) tNil)))) tNext)
    (tRet (tVar 4)))))))))))))
theorem textS_len {n d : Int} (hn : n.natAbs < 2 ^ 1000) (hd : d.natAbs < 2 ^ 1000) : (textS n d).length ≤ 20001 := by
  have h1 := txt_len hn
  have h2 := txt_len hd
  unfold textS
  split
  · omega
  · rw [app_len, app_len]
    show _ + 1 + _ ≤ _
    omega
theorem pick5 {a b c d e : Str} {r : Int} {n : Nat} (h0 : 0 ≤ r) (h1 : r < 5) (ha : a.length ≤ n) (hb : b.length ≤ n) (hc : c.length ≤ n) (hd : d.length ≤ n) (he : e.length ≤ n) : ∃ y : Str, atI [V.str a, V.str b, V.str c, V.str d, V.str e] r = some (.str y) ∧ y.length ≤ n := by
  rcases (show r = 0 ∨ r = 1 ∨ r = 2 ∨ r = 3 ∨ r = 4 by omega) with rfl | rfl | rfl | rfl | rfl
  · exact ⟨a, rfl, ha⟩
  · exact ⟨b, rfl, hb⟩
  · exact ⟨c, rfl, hc⟩
  · exact ⟨d, rfl, hd⟩
  · exact ⟨e, rfl, he⟩
theorem pure_law_text {K : PySem.W.Frag} {vs : List V} {H : Hp} {Q : VK} {E : XK} {W : WX} (h : sp_law_text K vs H Q E) : t_law_text K W { nx := fun _ H' => Q .non H', rt := Q } (start N_law_text vs) H := by
  obtain ⟨x, rfl, a, rfl, hS, hq⟩ := h
  show t_law_text K W _ [some (.ref a), none, none, none, none, none, none] H
  unfold t_law_text
  have p200 : (10 : Nat) ^ 51 < 2 ^ 200 := by decide +kernel
  have p300 : (2 : Nat) ^ 200 < 2 ^ 300 := Nat.pow_lt_pow_right (by decide) (by decide)
  have p1000 : (2 : Nat) ^ 300 < 2 ^ 1000 := Nat.pow_lt_pow_right (by decide) (by decide)
  walk_at "ss"
  refine take_ok hS (by decide) (by decide) fun H1 style S1 b1 s0 s1 => ?_
  walk_at "ss"
  refine ⟨_, _, rfl, a, 5, rfl, rfl, S1, by decide, by decide, fun H2 t S2 b2 ht => ?_⟩
  walk_at "ss"
  refine ⟨_, _, rfl, a, 5, rfl, rfl, S2, by decide, by decide, fun H3 b0 S3 b3 hb0 => ?_⟩
  have ht : t.natAbs < 10 ^ 51 := ht
  have hb0 : b0.natAbs < 10 ^ 51 := hb0
  have B3 : Mov a H H3 := (b1.trans b2).trans b3
  refine ⟨b0, rfl, ?_⟩
  walk_at "ss"
  generalize hb : (1 + if b0 < 0 then -b0 else b0) = b
  have b1' : 1 ≤ b := by rw [← hb]; split <;> omega
  have hbl : b.natAbs < 2 ^ 200 := by
    have : b.natAbs ≤ b0.natAbs + 1 := by rw [← hb]; split <;> omega
    omega
  have htl : t.natAbs < 2 ^ 200 := by omega
  refine ⟨_, _, rfl, t, b, rfl, rfl, by omega, by omega, by omega, ?_⟩
  walk_at "ss"
  have hb00 : b ≠ 0 := by omega
  have hn := textS_len (n := ntS t b) (d := nbS t b) (by have := ntS_le (t := t) hb00; omega) (by have := nbS_le (t := t) hb00; omega)
  clear ht hb0
  generalize textS (ntS t b) (nbS t b) = tx at hn ⊢
  refine take_ok S3 (by decide) (by decide) fun H4 ch S4 b4 c0 c1 => ?_
  have B4 : Mov a H H4 := B3.trans b4
  have l200 : t.natAbs.log2 < 200 := log_lt htl (by decide)
  have l200b : b.natAbs.log2 < 200 := log_lt hbl (by decide)
  have ch3 : (ch + 2).natAbs.log2 < 3 := log_lt (by show _ < 8; omega) (by decide)
  have chm : ∀ {m : Int}, m.natAbs < 2 ^ 200 → (m * (ch + 2)).natAbs < 2 ^ 300 := fun {m} h => by
    rw [Int.natAbs_mul]
    have : (ch + 2).natAbs ≤ 8 := by omega
    calc m.natAbs * (ch + 2).natAbs ≤ m.natAbs * 8 := Nat.mul_le_mul_left _ this
      _ < 2 ^ 300 := by omega
  have str : ∀ {m : Int}, m.natAbs < 2 ^ 300 → m.natAbs.log2 < 1920 ∧ (Str.ofString (toString m)).length ≤ 10000 := fun {m} h => ⟨Nat.lt_trans (log_lt h (by decide)) (by decide), txt_len (by omega)⟩
  walk_at "ss"
  refine s_nocut ?_
  walk_at "ss"
  refine s_itd (fun _ => ?_) (fun _ => ?_)
  · walk_at "ss"
    refine s_in2 (.inr (show t.natAbs.log2 + (ch + 2).natAbs.log2 < 1000000 by omega)) ?_
    obtain ⟨k1, k2⟩ := str (chm htl)
    obtain ⟨k3, k4⟩ := str (chm hbl)
    walk_at "ss"
    refine s_strI k1 ?_
    walk_at "ss"
    refine s_addS (by show _ + 1 ≤ sizeLine; rw [sizeLine_eq]; omega) ?_
    walk_at "ss"
    refine s_in2 (.inr (show b.natAbs.log2 + (ch + 2).natAbs.log2 < 1000000 by omega)) ?_
    walk_at "ss"
    refine s_strI k3 ?_
    have l3 : (Str.ofString (toString (t * (ch + 2))) ++ ("/" : Str)).length = (Str.ofString (toString (t * (ch + 2)))).length + 1 := app_len _ _
    refine s_addS (by rw [sizeLine_eq]; omega) ?_
    exact hq _ _ S4 B4 (by rw [app_len]; omega)
  walk_at "ss"
  refine s_nocut ?_
  walk_at "ss"
  refine s_itd (fun _ => ?_) (fun _ => ?_)
  · walk_at "ss"
    refine ⟨by show 5 ≤ sizeLine; rw [sizeLine_eq]; decide, fun q hq0 => ?_⟩
    walk_at "ss"
    obtain ⟨y, hy, yl⟩ := pick5 (a := "0") (b := "+") (c := "-") (d := "00") (e := "-0") (n := 2) c0 c1 (by decide) (by decide) (by decide) (by decide) (by decide)
    refine s_ixL upd_same hy ?_
    walk_at "ss"
    refine s_addS (by rw [sizeLine_eq]; omega) ?_
    exact hq _ _ (S4.keep (same_new hq0)) (B4.trans (Mov.of_same (same_new hq0))) (by rw [app_len]; omega)
  walk_at "ss"
  refine s_nocut ?_
  walk_at "ss"
  refine s_itd (fun _ => ?_) (fun _ => ?_)
  · walk_at "ss"
    obtain ⟨k1, k2⟩ := str (m := t) (by omega)
    refine s_strI k1 ?_
    walk_at "ss"
    refine s_addS (by show _ + 1 ≤ sizeLine; rw [sizeLine_eq]; omega) ?_
    walk_at "ss"
    refine ⟨by show 5 ≤ sizeLine; rw [sizeLine_eq]; decide, fun q hq0 => ?_⟩
    walk_at "ss"
    obtain ⟨y, hy, yl⟩ := pick5 (a := "0") (b := "1") (c := "-3") (d := "") (e := "07") (n := 2) c0 c1 (by decide) (by decide) (by decide) (by decide) (by decide)
    refine s_ixL upd_same hy ?_
    have l3 : (Str.ofString (toString t) ++ ("/" : Str)).length = (Str.ofString (toString t)).length + 1 := app_len _ _
    refine s_addS (by rw [sizeLine_eq]; omega) ?_
    exact hq _ _ (S4.keep (same_new hq0)) (B4.trans (Mov.of_same (same_new hq0))) (by rw [app_len]; omega)
  walk_at "ss"
  refine s_nocut ?_
  walk_at "ss"
  refine s_itd (fun _ => ?_) (fun _ => ?_)
  · walk_at "ss"
    refine s_addS (by show 1 + _ ≤ sizeLine; rw [sizeLine_eq]; omega) ?_
    walk_at "ss"
    refine s_addS (by show _ + 1 ≤ sizeLine; rw [sizeLine_eq]; omega) ?_
    walk_at "ss"
    refine s_addS (by show _ + 1 ≤ sizeLine; rw [sizeLine_eq]; omega) ?_
    walk_at "ss"
    refine ⟨_, rfl, tx, rfl, by show _ + _ * 3 ≤ _; omega, ?_⟩
    walk_at "ss"
    refine s_addS (by show _ + 1 ≤ sizeLine; rw [sizeLine_eq]; omega) ?_
    walk_at "ss"
    refine ⟨by show 5 ≤ sizeLine; rw [sizeLine_eq]; decide, fun q hq0 => ?_⟩
    walk_at "ss"
    have rl : (Txt.replace tx "/" " / ").length ≤ tx.length + (tx.length + 1) * 3 := TK.replace_len tx "/" " / "
    obtain ⟨y, hy, yl⟩ := pick5 (a := " " ++ tx) (b := tx ++ " ") (c := tx ++ "\n") (d := Txt.replace tx "/" " / ") (e := tx ++ "/") (n := 200000) c0 c1 (by rw [app_len]; show 1 + _ ≤ _; omega) (by rw [app_len]; show _ + 1 ≤ _; omega) (by rw [app_len]; show _ + 1 ≤ _; omega) (by omega) (by rw [app_len]; show _ + 1 ≤ _; omega)
    refine s_ixL upd_same hy ?_
    exact hq _ _ (S4.keep (same_new hq0)) (B4.trans (Mov.of_same (same_new hq0))) (by omega)
  have e59 : (10 : Int) ^ (59 : Int).toNat = 100000000000000000000000000000000000000000000000000000000000 := by decide +kernel
  have e9 : (10 : Int) ^ (9 : Int).toNat = 1000000000 := by decide +kernel
  walk_at "ss"
  refine s_cut (fun σ' H' => H' = H4 ∧ σ' = [some (.ref a), some (.int style), some (.int t), some (.int b), some (.str tx), some (.int ch), none]) ?_ ?_
  · walk_at "ss"
    refine s_itd (fun _ => ?_) (fun _ => ?_)
    · rw [if_pos rfl]
      walk_at "ss"
      refine s_in2 ⟨by decide, by decide, by decide⟩ ?_
      walk_at "ss"
      refine s_in2 ⟨by decide, by decide, by decide⟩ ?_
      walk_at "ss"
      refine take_ok S4 (by decide +kernel) (by decide +kernel) fun H5 r S5 b5 r0 r1 => ?_
      have B5 : Mov a H H5 := B4.trans b5
      have lg : ((10 : Int) ^ (59 : Int).toNat + r).natAbs < 2 ^ 200 := by
        rw [e59]
        rw [e9] at r1
        omega
      walk_at "ss"
      generalize (10 : Int) ^ (59 : Int).toNat + r = g at lg ⊢
      refine s_cut (fun σ' H' => Src H' a ∧ Mov a H H' ∧ ∃ g : Int, g.natAbs < 2 ^ 300 ∧ σ' = [some (.ref a), some (.int style), some (.int t), some (.int b), some (.str tx), some (.int ch), some (.int g)]) ?_ ?_
      · walk_at "ss"
        refine take_ok S5 (by decide) (by decide) fun H6 r6 S6 b6 _ _ => ?_
        walk_at "ss"
        refine s_itd (fun _ => ?_) (fun _ => ?_)
        · walk_at "ss"
          refine s_in2 (.inr (show (10 : Int).natAbs.log2 + g.natAbs.log2 < 1000000 by (have e1 := log_lt lg (by decide)); (have e2 : (10 : Int).natAbs.log2 = 3 := by decide +kernel); omega)) ?_
          walk_at "ss"
          exact ⟨S6, B5.trans b6, _, by omega, rfl⟩
        · walk_at "ss"
          exact ⟨S6, B5.trans b6, g, by omega, rfl⟩
      rintro σ' H7 ⟨S7, B7, g, gl, rfl⟩
      walk_at "ss"
      refine ⟨by show 5 ≤ sizeLine; rw [sizeLine_eq]; decide, fun q hq0 => ?_⟩
      walk_at "ss"
      obtain ⟨y, hy, yl⟩ := pick5 (a := "") (b := "1/") (c := "-") (d := "-1/") (e := "2/") (n := 3) c0 c1 (by decide) (by decide) (by decide) (by decide) (by decide)
      refine s_ixL upd_same hy ?_
      walk_at "ss"
      obtain ⟨k1, k2⟩ := str gl
      refine s_strI k1 ?_
      refine s_addS (by rw [sizeLine_eq]; omega) ?_
      exact hq _ _ (S7.keep (same_new hq0)) (B7.trans (Mov.of_same (same_new hq0))) (by rw [app_len]; omega)
    · walk_at "ss"
      refine s_itd (fun _ => ?_) (fun _ => ?_)
      · walk_at "ss"
        refine s_in2 ⟨by decide, by decide, by decide⟩ ?_
        walk_at "ss"
        refine s_in2 ⟨by decide, by decide, by decide⟩ ?_
        walk_at "ss"
        refine take_ok S4 (by decide +kernel) (by decide +kernel) fun H5 r S5 b5 r0 r1 => ?_
        have B5 : Mov a H H5 := B4.trans b5
        have lg : ((10 : Int) ^ (59 : Int).toNat + r).natAbs < 2 ^ 200 := by
          rw [e59]
          rw [e9] at r1
          omega
        walk_at "ss"
        generalize (10 : Int) ^ (59 : Int).toNat + r = g at lg ⊢
        refine s_cut (fun σ' H' => Src H' a ∧ Mov a H H' ∧ ∃ g : Int, g.natAbs < 2 ^ 300 ∧ σ' = [some (.ref a), some (.int style), some (.int t), some (.int b), some (.str tx), some (.int ch), some (.int g)]) ?_ ?_
        · walk_at "ss"
          refine take_ok S5 (by decide) (by decide) fun H6 r6 S6 b6 _ _ => ?_
          walk_at "ss"
          refine s_itd (fun _ => ?_) (fun _ => ?_)
          · walk_at "ss"
            refine s_in2 (.inr (show (10 : Int).natAbs.log2 + g.natAbs.log2 < 1000000 by (have e1 := log_lt lg (by decide)); (have e2 : (10 : Int).natAbs.log2 = 3 := by decide +kernel); omega)) ?_
            walk_at "ss"
            exact ⟨S6, B5.trans b6, _, by omega, rfl⟩
          · walk_at "ss"
            exact ⟨S6, B5.trans b6, g, by omega, rfl⟩
        rintro σ' H7 ⟨S7, B7, g, gl, rfl⟩
        walk_at "ss"
        refine ⟨by show 5 ≤ sizeLine; rw [sizeLine_eq]; decide, fun q hq0 => ?_⟩
        walk_at "ss"
        obtain ⟨y, hy, yl⟩ := pick5 (a := "") (b := "1/") (c := "-") (d := "-1/") (e := "2/") (n := 3) c0 c1 (by decide) (by decide) (by decide) (by decide) (by decide)
        refine s_ixL upd_same hy ?_
        walk_at "ss"
        obtain ⟨k1, k2⟩ := str gl
        refine s_strI k1 ?_
        refine s_addS (by rw [sizeLine_eq]; omega) ?_
        exact hq _ _ (S7.keep (same_new hq0)) (B7.trans (Mov.of_same (same_new hq0))) (by rw [app_len]; omega)
      · walk_at "ss"
        exact ⟨rfl, rfl⟩
  rintro σ' H5 ⟨rfl, rfl⟩
  refine s_nocut ?_
  walk_at "ss"
  refine s_itd (fun _ => ?_) (fun _ => ?_)
  · walk_at "ss"
    refine s_itd (fun _ => ?_) (fun _ => ?_)
    · walk_at "ss"
      exact ⟨_, _, rfl, a, tx, rfl, rfl, S4, by omega, fun H' z S' b' zl => hq _ _ S' (B4.trans b') (Nat.le_trans zl (by decide))⟩
    · walk_at "ss"
      exact hq _ tx S4 B4 (by omega)
  · refine s_itF rfl ?_
    walk_at "ss"
    exact hq _ tx S4 B4 (by omega)
def sp_law_figures (K : PySem.W.Frag) : Sp := Sp1 fun x H Q _ => ∃ z : Str, x = .str z ∧ z.length ≤ 1000000 ∧ ∀ H', Same H H' → Q (.bl (figC z.cps.toList)) H'
def N_law_figures : List PySem.Str := ["_law_text_here", "_law_sign_here"]
def t_law_figures (K : PySem.W.Frag) (W : WX) : TS := (tCut (tIfS (tOr (tTest (tOp (rEqP K) (tCB (rLenP K) (tCons (tVar 0) tNil)) (tC (.int 0)))) (tOr (tTest (tOp rGtP (tCB (rLenP K) (tCons (tVar 0) tNil)) (tC (.int 60)))) (tNot (tB (tCB (rAll K) (tCons (tLc (iAnyP K (tVar 0)) (gName 1) tYes (tOp (rInP K false) (tVar 1) (tC (.str "0123456789"))) [1]) tNil)))))) (tRet (tC (.bl false))) tNext)
    (tRet (tOrV (tOp (rEqP K) (tVar 0) (tC (.str "0"))) (tOp (rNeP K) (tOp (rIxP K) (tVar 0) (tC (.int 0))) (tC (.str "0"))))))
theorem pure_law_figures {K : PySem.W.Frag} {vs : List V} {H : Hp} {Q : VK} {E : XK} {W : WX} (h : sp_law_figures K vs H Q E) : t_law_figures K W { nx := fun _ H' => Q .non H', rt := Q } (start N_law_figures vs) H := by
  obtain ⟨x, rfl, z, rfl, hz, hq⟩ := h
  show t_law_figures K W _ [some (.str z), none] H
  unfold t_law_figures
  have hs : z.length ≤ sizeLine := one_lt hz
  have hl : z.cps.toList.length = z.length := len_toList z
  have no : ∀ H', Same H H' → figB z.cps.toList = false → Q (.bl false) H' := fun H' s e => by have := hq H' s; unfold figC at this; rw [e] at this; exact this
  refine s_cut (fun σ' H' => Same H H' ∧ σ' = [some (.str z), none] ∧ figB z.cps.toList = true) ?_ ?_
  · walk_at "ss"
    refine s_lenS hs ?_
    walk_at "ss"
    refine s_itd (fun e1 => ?_) (fun e1 => ?_)
    · rw [if_pos rfl]
      walk_at "ss"
      exact no _ (Same.refl _) (by unfold figB; rw [decide_eq_false (by omega)]; rfl)
    · walk_at "ss"
      refine s_lenS hs ?_
      walk_at "ss"
      refine s_itd (fun e2 => ?_) (fun e2 => ?_)
      · rw [if_pos rfl]
        walk_at "ss"
        exact no _ (Same.refl _) (by unfold figB; rw [decide_eq_false (p := z.cps.toList.length ≤ 60) (by omega), Bool.false_and, Bool.and_false])
      · walk_at "ss"
        refine lcb_map (fun x => match x with | .str y => .bl (strIn y "0123456789") | _ => .non) (show Items K H (.str z) _ from rfl) (by rw [List.length_map, hl]; exact hz) ?_ ?_
        · intro x hx H1 s1 Q' hQ
          obtain ⟨d, _, rfl⟩ := List.mem_map.mp hx
          walk_at "ss"
          exact hQ _ (Same.refl _)
        · intro D H1 hD s1 hl1
          rw [List.map_map] at hl1
          walk_at "ss"
          refine s_all (bs := z.cps.toList.map fun c => decide (c ∈ digitsL)) (by
            rw [hl1, List.map_map]
            congr 2
            apply List.map_congr_left
            intro c _
            show V.bl (strIn ⟨#[c]⟩ _) = _
            rw [strIn_sign]
            rfl) ?_
          rw [all_compF]
          have e : figB z.cps.toList = z.cps.toList.all fun c => decide (c ∈ digitsL) := by
            unfold figB
            rw [decide_eq_true (p := 0 < z.cps.toList.length) (by omega), decide_eq_true (p := z.cps.toList.length ≤ 60) (by omega)]
            rfl
          rw [← e]
          refine ⟨_, rfl, ?_⟩
          cases hf : figB z.cps.toList with
          | false =>
            refine s_itT rfl ?_
            walk_at "ss"
            exact no _ s1 hf
          | true =>
            refine s_itF rfl ?_
            walk_at "ss"
            exact ⟨s1, rfl, rfl⟩
  rintro σ' H' ⟨s1, rfl, hf⟩
  have hq1 := hq H' s1
  unfold figC at hq1
  rw [hf, Bool.true_and] at hq1
  have hne : z.cps.toList ≠ [] := (figB_iff.mp hf).1
  obtain ⟨c, r, hc⟩ : ∃ c r, z.cps.toList = c :: r := by
    cases hl : z.cps.toList with
    | nil => exact absurd hl hne
    | cons c r => exact ⟨c, r, rfl⟩
  have e0 : atI z.cps.toList 0 = some c := L2.atI_nat (j := 0) (by rw [hc]; rfl)
  have k1 : z.cps.toList = [48] ↔ z = "0" := ⟨fun e => str_ext e, fun e => by rw [e]; rfl⟩
  have k2 : decide (z.cps.toList = [48]) = decide (z = "0") := decide_eq_decide.mpr k1
  walk_at "ss"
  refine s_itd (fun e => ?_) (fun e => ?_)
  · rw [k2, decide_eq_true e] at hq1
    exact hq1
  · rw [k2, decide_eq_false e, Bool.false_or] at hq1
    walk_at "ss"
    refine s_ixS hs e0 ?_
    walk_at "ss"
    have k3 : (!decide (z.cps.toList.head? = some 48)) = !decide ((⟨#[c]⟩ : Str) = "0") := by
      rw [hc]
      congr 1
      refine decide_eq_decide.mpr ⟨fun e => ?_, fun e => ?_⟩
      · rw [show c = 48 from Option.some.inj e]
        rfl
      · have := congrArg (fun x : Str => x.cps.toList) e
        have : [c] = [48] := this
        rw [show c = 48 from List.head_eq_of_cons_eq this]
        rfl
    rw [k3] at hq1
    exact hq1
def sp_law_parted (K : PySem.W.Frag) : Sp := Sp1 fun x H Q _ => ∃ z : Str, x = .str z ∧ z.length ≤ 1000000 ∧ (∀ t b, Can z t b → ∀ H' p, Same H H' → H' p = some (.tup [.int t, .int b]) → Q (.ref p) H') ∧ ((∀ t b, ¬ Can z t b) → ∀ H', Same H H' → Q .non H')
def N_law_parted : List PySem.Str := ["_law_text_here", "_law_below", "_law_parts", "_law_top", "_law_bottom", "_law_part"]
def t_law_parted (K : PySem.W.Frag) (W : WX) : TS := (tSeq (tAsg (tOp (rEqP K) (tSl (rSlP K) (tVar 0) tNoPart (tPart (tC (.int 1)))) (tC (.str "-"))) (gName 1))
    (tSeq (tAsg (tM1 Cl.rSplitP (tSl (rSlP K) (tVar 0) (tPart (tCB rIntP (tCons (tVar 1) tNil))) tNoPart) (tC (.str "/"))) (gName 2))
    (tCut (tIfS (tOr (tTest (tOp rGtP (tCB (rLenP K) (tCons (tVar 2) tNil)) (tC (.int 2)))) (tNot (tB (tCB (rAll K) (tCons (tLc (iAnyP K (tVar 2)) (gName 5) tYes (tCall (sp_law_figures K) [] E0 (tCons (tVar 5) tNil)) [5]) tNil))))) (tRet (tC .non)) tNext)
    (tSeq (tAsg (tCB rIntP (tCons (tOp (rIxP K) (tVar 2) (tC (.int 0))) tNil)) (gName 3))
    (tCut (tIfS (tAnd (tB (tVar 1)) (tTest (tOp (rEqP K) (tVar 3) (tC (.int 0))))) (tRet (tC .non)) tNext)
    (tCut (tIfS (tB (tVar 1)) (tAsg (tUn (rU fun i => .int (-i)) (tVar 3)) (gName 3)) tNext)
    (tCut (tIfS (tTest (tOp (rEqP K) (tCB (rLenP K) (tCons (tVar 2) tNil)) (tC (.int 1)))) (tRet (tTup (tCons (tVar 3) (tCons (tC (.int 1)) tNil)))) tNext)
    (tSeq (tAsg (tCB rIntP (tCons (tOp (rIxP K) (tVar 2) (tC (.int 1))) tNil)) (gName 4))
    (tCut (tIfS (tOr (tTest (tOp rLtP (tVar 4) (tC (.int 2)))) (tTest (tOp (rNeP K) (tCallS (sp_law_gcd K) (WE W) (tCons (tVar 3) (tCons (tVar 4) tNil))) (tC (.int 1))))) (tRet (tC .non)) tNext)
    (tRet (tTup (tCons (tVar 3) (tCons (tVar 4) tNil)))))))))))))
theorem figC_B {l : List Nat} (h : figC l = true) : figB l = true := (Bool.and_eq_true_iff.mp h).1
theorem pure_law_parted {K : PySem.W.Frag} {vs : List V} {H : Hp} {Q : VK} {E : XK} {W : WX} (h : sp_law_parted K vs H Q E) : t_law_parted K W { nx := fun _ H' => Q .non H', rt := Q } (start N_law_parted vs) H := by
  obtain ⟨x, rfl, z, rfl, hz, hq, he⟩ := h
  show t_law_parted K W _ [some (.str z), none, none, none, none, none] H
  unfold t_law_parted
  have hs : z.length ≤ sizeLine := one_lt hz
  have hLl : z.cps.toList.length = z.length := len_toList z
  walk_at "ss"
  refine s_slS hs ?_
  walk_at "ss"
  generalize hbw : decide (cutS z none (some 1) = ("-" : Str)) = bw
  have hd : bw = true ↔ ∃ r, z.cps.toList = 45 :: r := by rw [← hbw]; exact dash_iff z
  -- the rest behind the minus
  have rest : ∃ L : List Nat, (bw = true → z.cps.toList = 45 :: L) ∧ (bw = false → z.cps.toList = L ∧ L.head? ≠ some 45) ∧ cutS z (some (if bw = true then (1 : Int) else 0)) none = ⟨L.toArray⟩ := by
    cases bw with
    | true =>
      obtain ⟨r, hr⟩ := hd.mp rfl
      refine ⟨r, fun _ => hr, fun e => (by cases e), str_ext ?_⟩
      rw [if_pos rfl, cut_tail, hr]
      rfl
    | false =>
      refine ⟨z.cps.toList, fun e => (by cases e), fun _ => ⟨rfl, fun e => ?_⟩, ?_⟩
      · have : false = true := hd.mpr (by
          cases hl : z.cps.toList with
          | nil => rw [hl] at e; cases e
          | cons x r => rw [hl] at e; exact ⟨r, by rw [show x = 45 from Option.some.inj e]⟩)
        cases this
      · rw [if_neg Bool.false_ne_true]
        exact cut_all z
  obtain ⟨L, hbt, hbf, hcut⟩ := rest
  have hLz : L.length ≤ z.length := by
    cases bw with
    | true => have := congrArg List.length (hbt rfl); rw [List.length_cons] at this; omega
    | false => have := congrArg List.length (hbf rfl).1; omega
  have hLa : (⟨L.toArray⟩ : Str).length ≤ 1000000 := by rw [arr_len]; omega
  -- what a share's text is here
  have cp : ∀ t b, Can z t b → (bw = decide (t < 0)) ∧ ((b = 1 ∧ slash L = [TL.numL t.natAbs]) ∨ (b ≠ 1 ∧ slash L = [TL.numL t.natAbs, TL.numL b.natAbs])) := by
    intro t b h
    have hl := toList_textS t b
    rw [← h.1] at hl
    have hb0 : numI b = TL.numL b.natAbs := by unfold numI; rw [if_neg (by have := h.2.1; omega)]
    have key : ∀ P : List Nat, P = TL.numL t.natAbs → L = (if b = 1 then P else P ++ 47 :: numI b) → (b = 1 ∧ slash L = [TL.numL t.natAbs]) ∨ (b ≠ 1 ∧ slash L = [TL.numL t.natAbs, TL.numL b.natAbs]) := by
      rintro P rfl eL
      rw [eL]
      by_cases e : b = 1
      · rw [if_pos e]
        exact .inl ⟨e, slash1 (TL.numL_free (by omega))⟩
      · rw [if_neg e, slash2 (TL.numL_free (by omega)), slash1 (numI_free (by omega)), hb0]
        exact .inr ⟨e, rfl⟩
    by_cases ht : t < 0
    · have e1 : z.cps.toList = 45 :: (if b = 1 then TL.numL t.natAbs else TL.numL t.natAbs ++ 47 :: numI b) := by
        rw [hl]
        unfold shL
        split
        · unfold numI; rw [if_pos ht]
        · show numI t ++ _ = _; rw [show numI t = 45 :: TL.numL t.natAbs from by unfold numI; rw [if_pos ht]]; rfl
      have bt : bw = true := hd.mpr ⟨_, e1⟩
      rw [decide_eq_true ht]
      exact ⟨bt, key _ rfl (List.tail_eq_of_cons_eq ((hbt bt).symm.trans e1))⟩
    · have e1 : z.cps.toList = (if b = 1 then TL.numL t.natAbs else TL.numL t.natAbs ++ 47 :: numI b) := by
        rw [hl]
        unfold shL
        have : numI t = TL.numL t.natAbs := by unfold numI; rw [if_neg ht]
        split
        · exact this
        · rw [this]
      have bf : bw = false := by
        cases hb2 : bw with
        | false => rfl
        | true =>
          obtain ⟨r, hr⟩ := hd.mp hb2
          rw [hr] at e1
          have hh := congrArg List.head? e1
          have : (if b = 1 then TL.numL t.natAbs else TL.numL t.natAbs ++ 47 :: numI b).head? = (TL.numL t.natAbs).head? := by
            split
            · rfl
            · cases hn : TL.numL t.natAbs with
              | nil => exact absurd hn (TL.numL_ne _)
              | cons a l => rfl
          rw [this] at hh
          exact absurd hh.symm numL_head45
      rw [decide_eq_false ht]
      exact ⟨bf, key _ rfl ((hbf bf).1.symm.trans e1)⟩
  -- what parts tell a share
  have made : ∀ (P : List Nat) (b : Int), figC P = true → (bw = true → NumText.digitsVal P ≠ 0) → 1 ≤ b → b.natAbs < 10 ^ 60 → Nat.gcd (NumText.digitsVal P) b.natAbs = 1 → L = (if b = 1 then P else P ++ 47 :: TL.numL b.natAbs) →
      Can z (if bw = true then -((NumText.digitsVal P : Nat) : Int) else ((NumText.digitsVal P : Nat) : Int)) b := by
    intro P b hP hz0 hb hbl hg eL
    obtain ⟨f1, f2⟩ := figC_num hP
    have hb0 : numI b = TL.numL b.natAbs := by unfold numI; rw [if_neg (by omega)]
    refine ⟨str_ext ?_, hb, ?_, ?_, hbl⟩
    · rw [toList_textS]
      cases hw : bw with
      | true =>
        have h0 := hz0 hw
        have n1 : numI (-((NumText.digitsVal P : Nat) : Int)) = 45 :: P := by
          unfold numI
          rw [if_pos (by omega), show (-((NumText.digitsVal P : Nat) : Int)).natAbs = NumText.digitsVal P by omega, f1]
        rw [if_pos rfl, hbt hw, eL]
        unfold shL
        rw [n1, hb0]
        split <;> rfl
      | false =>
        have n1 : numI ((NumText.digitsVal P : Nat) : Int) = P := by
          unfold numI
          rw [if_neg (by omega), show (((NumText.digitsVal P : Nat) : Int)).natAbs = NumText.digitsVal P by omega, f1]
        rw [if_neg Bool.false_ne_true, (hbf hw).1, eL]
        unfold shL
        rw [n1, hb0]
    · have : (if bw = true then -((NumText.digitsVal P : Nat) : Int) else ((NumText.digitsVal P : Nat) : Int)).natAbs = NumText.digitsVal P := by split <;> omega
      rw [this]
      exact hg
    · have : (if bw = true then -((NumText.digitsVal P : Nat) : Int) else ((NumText.digitsVal P : Nat) : Int)).natAbs = NumText.digitsVal P := by split <;> omega
      rw [this]
      exact f2
  -- parts
  refine ⟨_, rfl, _, rfl, (if bw = true then (1 : Int) else 0), rfl, ?_⟩
  dsimp only
  refine s_nopart ?_
  refine s_slS hs ?_
  rw [hcut]
  refine ⟨⟨_, rfl⟩, by decide, hLa, fun p hp => ?_⟩
  rw [split_slash, List.map_map]
  have s0 : Same H (upd H p (.lst (PV (slash L)))) := same_new hp
  walk_at "ss"
  refine s_cut (fun σ' H' => Same H H' ∧ H' p = some (.lst (PV (slash L))) ∧ σ' = [some (.str z), some (.bl bw), some (.ref p), none, none, none] ∧ ¬ 2 < (slash L).length ∧ ∀ l ∈ slash L, figC l = true) ?_ ?_
  · walk_at "ss"
    refine s_lenL (xs := PV (slash L)) upd_same ?_
    walk_at "ss"
    refine s_itd (fun e1 => ?_) (fun e1 => ?_)
    · rw [if_pos rfl]
      walk_at "ss"
      refine he (fun t b h => ?_) _ s0
      unfold PV at e1
      rw [List.length_map] at e1
      rcases (cp t b h).2 with ⟨_, e⟩ | ⟨_, e⟩ <;> rw [e] at e1 <;> simp at e1
    · have n2 : ¬ 2 < (slash L).length := by
        unfold PV at e1
        rw [List.length_map] at e1
        omega
      walk_at "ss"
      refine lcb_map (fun x => match x with | .str y => .bl (figC y.cps.toList) | _ => .non) (xs := PV (slash L)) (.inl (SqL.of upd_same)) (by unfold PV; rw [List.length_map]; omega) ?_ ?_
      · intro x hx H1 s1 Q' hQ
        obtain ⟨l, hl, rfl⟩ := List.mem_map.mp hx
        walk_at "ss"
        refine ⟨_, rfl, _, rfl, ?_, fun H2 s2 => hQ _ s2⟩
        rw [arr_len]
        have := slash_len n2 hl
        omega
      · intro D H1 hD s1 hl1
        walk_at "ss"
        refine s_all (bs := (slash L).map figC) (by rw [hl1]; unfold PV; rw [List.map_map, List.map_map]; rfl) ?_
        refine ⟨_, rfl, ?_⟩
        cases ha : ((slash L).map figC).all id with
        | false =>
          refine s_itT rfl ?_
          walk_at "ss"
          refine he (fun t b h => ?_) _ (s0.trans s1)
          have w1 := numL_fig h.2.2.2.1
          have w2 := numL_fig h.2.2.2.2
          rcases (cp t b h).2 with ⟨_, e⟩ | ⟨_, e⟩ <;> rw [e] at ha
          · simp [w1] at ha
          · simp [w1, w2] at ha
        | true =>
          refine s_itF rfl ?_
          walk_at "ss"
          refine ⟨s0.trans s1, s1 _ _ upd_same, rfl, n2, fun l hl => ?_⟩
          rw [List.all_map, List.all_eq_true] at ha
          exact ha l hl
  rintro σ' H1 ⟨s1, h1, rfl, n2, hw⟩
  obtain ⟨P, rst, hP⟩ : ∃ P rst, slash L = P :: rst := by
    cases hs2 : slash L with
    | nil => exact absurd hs2 (slash_ne L)
    | cons P rst => exact ⟨P, rst, rfl⟩
  have cP := hw P (by rw [hP]; exact List.mem_cons_self ..)
  obtain ⟨r1, r2⟩ := fig_read (figC_B cP)
  obtain ⟨f1, f2⟩ := figC_num cP
  have cpv : ∀ t b, Can z t b → NumText.digitsVal P = t.natAbs := fun t b h => by
    rcases (cp t b h).2 with ⟨_, e⟩ | ⟨_, e⟩ <;> rw [e] at hP <;> rw [← List.head_eq_of_cons_eq hP, TL.numL_val]
  walk_at "ss"
  refine s_ixL h1 (v := .str ⟨P.toArray⟩) (L2.atI_nat (j := 0) (PV_at (by rw [hP]; rfl))) ?_
  refine ⟨_, r1, r2, ?_⟩
  generalize hT : NumText.digitsVal P = T at *
  walk_at "ss"
  refine s_cut (fun σ' H' => H' = H1 ∧ σ' = [some (.str z), some (.bl bw), some (.ref p), some (.int (T : Int)), none, none] ∧ (bw = true → T ≠ 0)) ?_ ?_
  · walk_at "ss"
    cases hbe : bw with
    | true =>
      rw [if_pos rfl]
      walk_at "ss"
      refine s_itd (fun e => ?_) (fun e => ?_)
      · walk_at "ss"
        refine he (fun t b h => ?_) _ s1
        have k1 := (cp t b h).1
        have k2 := cpv t b h
        rw [hbe] at k1
        have k3 : t < 0 := of_decide_eq_true k1.symm
        omega
      · walk_at "ss"
        exact ⟨rfl, rfl, fun _ => by omega⟩
    | false =>
      rw [if_neg Bool.false_ne_true]
      walk_at "ss"
      exact ⟨rfl, rfl, fun e => by cases e⟩
  rintro σ' H2 ⟨rfl, rfl, hz0⟩
  refine s_cut (fun σ' H' => H' = H2 ∧ σ' = [some (.str z), some (.bl bw), some (.ref p), some (.int (if bw = true then -(T : Int) else (T : Int))), none, none]) ?_ ?_
  · walk_at "ss"
    cases bw with
    | true =>
      refine s_itT rfl ?_
      walk_at "ss"
      exact ⟨rfl, rfl⟩
    | false =>
      refine s_itF rfl ?_
      walk_at "ss"
      exact ⟨rfl, rfl⟩
  rintro σ' H3 ⟨rfl, rfl⟩
  have hTa : (if bw = true then -(T : Int) else (T : Int)).natAbs = T := by split <;> omega
  generalize hTI : (if bw = true then -(T : Int) else (T : Int)) = TI at *
  refine s_nocut ?_
  walk_at "ss"
  refine s_lenL h1 ?_
  have hlen : (PV (slash L)).length = (slash L).length := by unfold PV; rw [List.length_map]
  rw [hlen]
  walk_at "ss"
  rcases slash_cases L with ⟨_, e⟩ | ⟨P', q, e0, _, _, e⟩ | e
  · rw [e]
    refine s_itT rfl ?_
    rw [e] at hP
    have eP : L = P := List.head_eq_of_cons_eq hP
    have cn := made P 1 cP (fun e => by rw [hT]; exact hz0 e) (by decide) (by decide +kernel) (Nat.gcd_one_right _) (by rw [if_pos rfl]; exact eP)
    rw [hT, hTI] at cn
    walk_at "ss"
    exact ⟨by show 2 ≤ sizeLine; rw [sizeLine_eq]; decide, fun p2 hp2 => hq _ _ cn _ p2 (s1.trans (same_new hp2)) upd_same⟩
  · have hq0 := hw q (by rw [e]; exact List.mem_cons_of_mem _ (List.mem_cons_self ..))
    obtain ⟨g1, g2⟩ := fig_read (figC_B hq0)
    obtain ⟨g3, g4⟩ := figC_num hq0
    have eP : P' = P := by rw [e] at hP; exact List.head_eq_of_cons_eq hP
    subst eP
    have cpq : ∀ t b, Can z t b → b ≠ 1 ∧ NumText.digitsVal q = b.natAbs := fun t b h => by
      rcases (cp t b h).2 with ⟨_, e2⟩ | ⟨k, e2⟩
      · rw [e] at e2; cases e2
      · rw [e] at e2
        exact ⟨k, by rw [List.head_eq_of_cons_eq (List.tail_eq_of_cons_eq e2), TL.numL_val]⟩
    rw [e]
    refine s_itF rfl ?_
    walk_at "ss"
    refine s_ixL h1 (v := .str ⟨q.toArray⟩) (L2.atI_nat (j := 1) (PV_at (by rw [e]; rfl))) ?_
    refine ⟨_, g1, g2, ?_⟩
    generalize hB : NumText.digitsVal q = B at *
    refine s_nocut ?_
    walk_at "ss"
    refine s_itd (fun e3 => ?_) (fun e3 => ?_)
    · rw [if_pos rfl]
      walk_at "ss"
      refine he (fun t b h => ?_) _ s1
      obtain ⟨k1, k2⟩ := cpq t b h
      have := h.2.1
      omega
    · walk_at "ss"
      have hB3 : ((B : Nat) : Int).natAbs < 2 ^ 300 := Nat.lt_trans (by omega) ten60
      refine ⟨_, _, rfl, TI, (B : Int), rfl, rfl, hB3, ?_⟩
      walk_at "ss"
      rw [hTa, show ((B : Nat) : Int).natAbs = B from by omega]
      by_cases hg : Nat.gcd T B = 1
      · rw [hg]
        refine s_itF rfl ?_
        have cn := made P' (B : Int) cP (fun e => by rw [hT]; exact hz0 e) (by omega) (by omega) (by rw [hT]; exact hg) (by rw [if_neg (by omega), e0, show ((B : Nat) : Int).natAbs = B from by omega, g3])
        rw [hT, hTI] at cn
        walk_at "ss"
        exact ⟨by show 2 ≤ sizeLine; rw [sizeLine_eq]; decide, fun p2 hp2 => hq _ _ cn _ p2 (s1.trans (same_new hp2)) upd_same⟩
      · refine s_itT (by simp; omega) ?_
        walk_at "ss"
        refine he (fun t b h => hg ?_) _ s1
        rw [cpv t b h, (cpq t b h).2]
        exact h.2.2.1
  · exact absurd e n2
/-- the facts of the head -/
structure FxR (K : PySem.W.Frag) : Prop where
  m : PySem.W.exmOne K (.ref (ga K "BadShare")) (.ref (ga K "BadShare")) = some true
  x : ExcC K (ga K "BadShare")
  h : PySem.W.kitOne K (.ref (ga K "BadShare")) (.ref (ga K "HornError")) = some true
  v : PySem.W.kitOne K (.ref (ga K "BadShare")) (.type "ValueError") = some true
  n : PySem.W.kitOne K (.ref (ga K "BadShare")) (.ref (ga K "BadName")) = some false
def sp_law_refused (K : PySem.W.Frag) : Sp := Sp1 fun x H Q _ => ∃ (z : Str), x = .str z ∧ z.length ≤ 1000000 ∧ (∀ t b, ¬ Can z t b) ∧ ∀ H', Same H H' → Q (.bl true) H'
def N_law_refused : List PySem.Str := ["_law_text_here", "error", "_law_right"]
def t_law_refused (K : PySem.W.Frag) (W : WX) : TS := (tCut (fun D σ H => (fun W1 => (tDrop (Cl.tSMeth (ga K "Share") (sp_Share_read K) (WE W1) (tC (.ref (ga K "Share"))) (tCons (tVar 0) tNil)))) (wAs K (.ref (ga K "BadShare")) 1 (fun a_ cls_ d_ => (tSeq (tAsg (tAndV (tCB (rIsEE K a_ cls_ d_) (tCons (tVar 1) (tCons (tC (.ref (ga K "HornError"))) tNil))) (tAndV (tCB (rIsEE K a_ cls_ d_) (tCons (tVar 1) (tCons (tC (.ty "ValueError")) tNil))) (tNotV (tCB (rIsEE K a_ cls_ d_) (tCons (tVar 1) (tCons (tC (.ref (ga K "BadName"))) tNil)))))) (gName 2))
    (tRet (tAndV (tVar 2) (tCallS (spH_law_same K) (WE (fun _ _ _ _ => False)) (tCons (tErrF (ga K "BadShare") "text" a_ cls_ d_ (tVar 1)) (tCons (tVar 0) tNil))))))) W D) D σ H)
    (tRet (tC (.bl false))))
theorem pure_law_refused {K : PySem.W.Frag} (F : FxR K) {vs : List V} {H : Hp} {Q : VK} {E : XK} {W : WX} (h : sp_law_refused K vs H Q E) : t_law_refused K W { nx := fun _ H' => Q .non H', rt := Q } (start N_law_refused vs) H := by
  obtain ⟨x, rfl, z, rfl, hz, hno, hq⟩ := h
  show t_law_refused K W _ [some (.str z), none, none] H
  unfold t_law_refused
  refine s_nocut ?_
  dsimp only
  walk_at "ss"
  refine ⟨_, rfl, z, rfl, hz, fun t b h => absurd h (hno t b), fun _ H' d s1 hd => ?_⟩
  refine ⟨true, F.m, fun _ a ha => ?_, fun e => by cases e⟩
  walk_at "ss"
  refine ⟨_, _, _, true, rfl, F.x, .inr ⟨d, _, rfl, hd⟩, rfl, fun u r => r, F.h, ?_⟩
  walk_at "ss"
  refine s_itT rfl ?_
  walk_at "ss"
  refine ⟨_, _, _, true, rfl, F.x, .inr ⟨d, _, rfl, hd⟩, rfl, fun u r => r, F.v, ?_⟩
  walk_at "ss"
  refine s_itT rfl ?_
  walk_at "ss"
  refine ⟨_, _, _, false, rfl, F.x, .inr ⟨d, _, rfl, hd⟩, rfl, fun u r => r, F.n, ?_⟩
  walk_at "ss"
  refine s_itT rfl ?_
  walk_at "ss"
  refine ⟨_, rfl, rfl, rfl, d, _, rfl, hd, ?_⟩
  walk_at "ss"
  refine ⟨_, _, rfl, .str z, .str z, .str z, .str z, trivial, trivial, ?_⟩
  rw [sameB_eq rfl]
  exact hq _ s1
def sp_law (K : PySem.W.Frag) : Sp := Sp1 fun x H Q _ => ∃ (a : Addr) (ns : List Int), x = .ref a ∧ SqL K H a (ns.map V.int) ∧ ns.length ≤ 100 ∧ ∀ H', Q (.bl true) H'
def N_law : List PySem.Str := ["_law_script", "_law_source_here", "_law_k", "_law_text_here", "_law_due", "_law_share"]
def t_law (K : PySem.W.Frag) (W : WX) : TS := (tSeq (tAsg (tCallS (sp_law_source K) (WE W) (tCons (tVar 0) tNil)) (gName 1))
    (tCut (tFor (iRng1 (tCons (tC (.int 3)) tNil)) (gName 2) (tSeq (tAsg (tCallS (sp_law_text K) (WE W) (tCons (tVar 1) tNil)) (gName 3))
    (tSeq (tAsg (tCallS (sp_law_parted K) (WE W) (tCons (tVar 3) tNil)) (gName 4))
    (tIfS (tTest (tOp (rIsP false) (tVar 4) (tC .non))) (tIfS (tNot (tB (tCallS (sp_law_refused K) (WE W) (tCons (tVar 3) tNil)))) (tRet (tC (.bl false))) tNext) (tSeq (tAsg (Cl.tSMeth (ga K "Share") (sp_Share_read K) (WE W) (tC (.ref (ga K "Share"))) (tCons (tVar 3) tNil)) (gName 5))
    (tIfS (tOr (tNot (tB (tCallS (sp_law_is_share K) (WE W) (tCons (tVar 5) (tCons (tOp (rIxP K) (tVar 4) (tC (.int 0))) (tCons (tOp (rIxP K) (tVar 4) (tC (.int 1))) tNil)))))) (tNot (tB (tCallS (sp_law_same K) (WE W) (tCons (tCB (Cl.rStrO [(ga K "Share", sp_Share_str K)]) (tCons (tVar 5) tNil)) (tCons (tVar 3) tNil)))))) (tRet (tC (.bl false))) tNext))))))
    (tRet (tC (.bl true)))))
theorem pure_law {K : PySem.W.Frag} {vs : List V} {H : Hp} {Q : VK} {E : XK} {W : WX} (h : sp_law K vs H Q E) : t_law K W { nx := fun _ H' => Q .non H', rt := Q } (start N_law vs) H := by
  obtain ⟨x, rfl, a, ns, rfl, hS, hl, hq⟩ := h
  show t_law K W _ [some (.ref a), none, none, none, none, none] H
  unfold t_law
  have h1000 : (2 : Nat) ^ 300 < 2 ^ 1000 := Nat.pow_lt_pow_right (by decide) (by decide)
  have h60 := ten60
  walk_at "ss"
  refine ⟨_, rfl, a, ns, rfl, hS, hl, fun H1 s s1 hs S1 => ?_⟩
  walk_at "ss"
  refine s_cut (fun σ' H' => True) ?_ ?_
  · walk_at "ss"
    refine forr_inv (by decide) (by decide) (fun i σ' H' => ∃ v1 v2 v3 v4, σ' = [some (.ref a), some (.ref s), v1, v2, v3, v4] ∧ Src H' s) ⟨_, _, _, _, rfl, S1⟩ ?_ ?_
    · rintro i σ' H' hi ⟨v1, v2, v3, v4, rfl, S2⟩
      walk_at "ss"
      refine ⟨_, rfl, s, rfl, S2, fun H3 z S3 b3 zl => ?_⟩
      walk_at "ss"
      by_cases hc : ∃ t b, Can z t b
      · obtain ⟨t, b, hc⟩ := hc
        refine ⟨_, rfl, z, rfl, zl, fun t' b' hc' H4 p s4 hp => ?_, fun no => absurd hc (no t b)⟩
        obtain ⟨rfl, rfl⟩ := can_uniq hc hc'
        walk_at "ss"
        refine s_itF rfl ?_
        walk_at "ss"
        refine ⟨_, rfl, z, rfl, zl, fun t2 b2 hc2 H5 c s5 hO => ?_, fun no => absurd hc (no _ _)⟩
        obtain ⟨rfl, rfl⟩ := can_uniq hc hc2
        obtain ⟨k1, k2⟩ := ntS_cop (t := t2) hc.2.1 hc.2.2.1
        have hO2 : IsSh K H5 c (ntS t2 b2) (nbS t2 b2) := by rw [k1, k2]; exact hO
        have p5 : H5 p = some (.tup [.int t2, .int b2]) := s5 _ _ hp
        have tl := hc.2.2.2.1
        have bl := hc.2.2.2.2
        have b1 := hc.2.1
        walk_at "ss"
        refine s_ixT p5 (L2.atI_nat (j := 0) rfl) ?_
        walk_at "ss"
        refine s_ixT p5 (L2.atI_nat (j := 1) rfl) ?_
        refine ⟨_, _, _, rfl, c, t2, b2, rfl, rfl, rfl, hO2, by omega, by omega, fun H6 s6 => ?_⟩
        walk_at "ss"
        refine s_itF rfl ?_
        obtain ⟨dx, hO'⟩ := id (hO.keep s6)
        walk_at "ss"
        refine .inr ⟨0, _, _, c, dx, _, rfl, rfl, hO', ⟨_, rfl, c, _, _, rfl, hO.keep s6, by omega, by omega, _, rfl, ?_⟩⟩
        rw [← hc.1]
        walk_at "ss"
        refine same_ok (.str _) (.str _) trivial fun H7 s7 => ?_
        walk_at "ss"
        refine s_itF (by simp) ?_
        walk_at "ss"
        exact ⟨_, _, _, _, rfl, (((S3.keep s4).keep s5).keep s6).keep s7⟩
      · refine ⟨_, rfl, z, rfl, zl, fun t b h => absurd ⟨t, b, h⟩ hc, fun _ H4 s4 => ?_⟩
        walk_at "ss"
        refine s_itT rfl ?_
        walk_at "ss"
        refine ⟨_, rfl, z, rfl, zl, fun t b h => hc ⟨t, b, h⟩, fun H5 s5 => ?_⟩
        walk_at "ss"
        refine s_itF rfl ?_
        walk_at "ss"
        exact ⟨_, _, _, _, rfl, (S3.keep s4).keep s5⟩
    · rintro σ' H' _
      trivial
  · rintro σ' H' _
    walk_at "ss"
    exact hq _
end Rd
end
namespace Ok
open PySem PySem.Spec PyProof.Rows L2 He Hk Px Rd
structure Tx (w : World) (K : PySem.W.Frag) (mg : PySem.Str → Option Value) : Prop where
  c : SaysZ Hd.fa Hd.ex Hd.its K
  g : ∃ h : Heap, K.In h ∧ h.Ns mainGlobals mg
section
variable {w : World} {K : PySem.W.Frag} {mg : PySem.Str → Option Value}
theorem Tx.g_is_whole (T : Tx w K mg) : mg "is_whole" = some (.ref (ga K "is_whole")) := by
  obtain ⟨h, X, G⟩ := T.g
  exact glo_ok X G (T.c.fact 0 (f := .glo "is_whole") rfl)
theorem Tx.g_law_source (T : Tx w K mg) : mg "_law_source" = some (.ref (ga K "_law_source")) := by
  obtain ⟨h, X, G⟩ := T.g
  exact glo_ok X G (T.c.fact 1 (f := .glo "_law_source") rfl)
theorem Tx.g_law_take (T : Tx w K mg) : mg "_law_take" = some (.ref (ga K "_law_take")) := by
  obtain ⟨h, X, G⟩ := T.g
  exact glo_ok X G (T.c.fact 2 (f := .glo "_law_take") rfl)
theorem Tx.g_law_same (T : Tx w K mg) : mg "_law_same" = some (.ref (ga K "_law_same")) := by
  obtain ⟨h, X, G⟩ := T.g
  exact glo_ok X G (T.c.fact 3 (f := .glo "_law_same") rfl)
theorem Tx.g_law_gcd (T : Tx w K mg) : mg "_law_gcd" = some (.ref (ga K "_law_gcd")) := by
  obtain ⟨h, X, G⟩ := T.g
  exact glo_ok X G (T.c.fact 4 (f := .glo "_law_gcd") rfl)
theorem Tx.g_law_is_share (T : Tx w K mg) : mg "_law_is_share" = some (.ref (ga K "_law_is_share")) := by
  obtain ⟨h, X, G⟩ := T.g
  exact glo_ok X G (T.c.fact 5 (f := .glo "_law_is_share") rfl)
theorem Tx.g_law_number (T : Tx w K mg) : mg "_law_number" = some (.ref (ga K "_law_number")) := by
  obtain ⟨h, X, G⟩ := T.g
  exact glo_ok X G (T.c.fact 6 (f := .glo "_law_number") rfl)
theorem Tx.g_law_share_text (T : Tx w K mg) : mg "_law_share_text" = some (.ref (ga K "_law_share_text")) := by
  obtain ⟨h, X, G⟩ := T.g
  exact glo_ok X G (T.c.fact 7 (f := .glo "_law_share_text") rfl)
theorem Tx.g_law_sign (T : Tx w K mg) : mg "_law_sign" = some (.ref (ga K "_law_sign")) := by
  obtain ⟨h, X, G⟩ := T.g
  exact glo_ok X G (T.c.fact 8 (f := .glo "_law_sign") rfl)
theorem Tx.g_law_changed (T : Tx w K mg) : mg "_law_changed" = some (.ref (ga K "_law_changed")) := by
  obtain ⟨h, X, G⟩ := T.g
  exact glo_ok X G (T.c.fact 9 (f := .glo "_law_changed") rfl)
theorem Tx.g_law_text (T : Tx w K mg) : mg "_law_text" = some (.ref (ga K "_law_text")) := by
  obtain ⟨h, X, G⟩ := T.g
  exact glo_ok X G (T.c.fact 10 (f := .glo "_law_text") rfl)
theorem Tx.g_law_figures (T : Tx w K mg) : mg "_law_figures" = some (.ref (ga K "_law_figures")) := by
  obtain ⟨h, X, G⟩ := T.g
  exact glo_ok X G (T.c.fact 11 (f := .glo "_law_figures") rfl)
theorem Tx.g_law_parted (T : Tx w K mg) : mg "_law_parted" = some (.ref (ga K "_law_parted")) := by
  obtain ⟨h, X, G⟩ := T.g
  exact glo_ok X G (T.c.fact 12 (f := .glo "_law_parted") rfl)
theorem Tx.g_law_refused (T : Tx w K mg) : mg "_law_refused" = some (.ref (ga K "_law_refused")) := by
  obtain ⟨h, X, G⟩ := T.g
  exact glo_ok X G (T.c.fact 13 (f := .glo "_law_refused") rfl)
theorem Tx.g_law (T : Tx w K mg) : mg "law" = some (.ref (ga K "law")) := by
  obtain ⟨h, X, G⟩ := T.g
  exact glo_ok X G (T.c.fact 14 (f := .glo "law") rfl)
theorem Tx.g_Share (T : Tx w K mg) : mg "Share" = some (.ref (ga K "Share")) := by
  obtain ⟨h, X, G⟩ := T.g
  exact glo_ok X G (T.c.fact 15 (f := .glo "Share") rfl)
theorem Tx.cls_Share (T : Tx w K mg) : Cls K (ga K "Share") := cls_ok (T.c.fact 16 (f := .cls "Share") rfl)
theorem Tx.mk_Share (T : Tx w K mg) : Mk K (ga K "Share") (ma K (ga K "Share") "__init__") := mkr_ok (T.c.fact 17 (f := .mkr "Share") rfl)
theorem Tx.no_Share_bottom (T : Tx w K mg) : NoAttr K (ga K "Share") "bottom" := noat_ok (T.c.fact 18 (f := .noat "Share" "bottom") rfl)
theorem Tx.no_Share_top (T : Tx w K mg) : NoAttr K (ga K "Share") "top" := noat_ok (T.c.fact 19 (f := .noat "Share" "top") rfl)
theorem Tx.g_HornError (T : Tx w K mg) : mg "HornError" = some (.ref (ga K "HornError")) := by
  obtain ⟨h, X, G⟩ := T.g
  exact glo_ok X G (T.c.fact 20 (f := .glo "HornError") rfl)
theorem Tx.g_BadName (T : Tx w K mg) : mg "BadName" = some (.ref (ga K "BadName")) := by
  obtain ⟨h, X, G⟩ := T.g
  exact glo_ok X G (T.c.fact 21 (f := .glo "BadName") rfl)
theorem Tx.g_BadShare (T : Tx w K mg) : mg "BadShare" = some (.ref (ga K "BadShare")) := by
  obtain ⟨h, X, G⟩ := T.g
  exact glo_ok X G (T.c.fact 22 (f := .glo "BadShare") rfl)
theorem Tx.c_DIGITS (T : Tx w K mg) : ∃ t, mg "DIGITS" = some (.str "0123456789" t) := by
  obtain ⟨h, X, G⟩ := T.g
  exact str_ok X G (T.c.fact 24 (f := .str "DIGITS" "0123456789") rfl)
theorem Tx.c_SIZE (T : Tx w K mg) : ∃ t, mg "SIZE" = some (.int 60 t) := by
  obtain ⟨h, X, G⟩ := T.g
  exact int_ok X G (T.c.fact 25 (f := .int "SIZE" 60) rfl)
theorem Tx.f_ValueError (T : Tx w K mg) : mg "ValueError" = none := by
  obtain ⟨h, X, G⟩ := T.g
  exact free_ok X G (T.c.fact 27 (f := .free "ValueError") rfl)
theorem Tx.f_abs (T : Tx w K mg) : mg "abs" = none := by
  obtain ⟨h, X, G⟩ := T.g
  exact free_ok X G (T.c.fact 28 (f := .free "abs") rfl)
theorem Tx.f_all (T : Tx w K mg) : mg "all" = none := by
  obtain ⟨h, X, G⟩ := T.g
  exact free_ok X G (T.c.fact 29 (f := .free "all") rfl)
theorem Tx.f_bool (T : Tx w K mg) : mg "bool" = none := by
  obtain ⟨h, X, G⟩ := T.g
  exact free_ok X G (T.c.fact 30 (f := .free "bool") rfl)
theorem Tx.f_int (T : Tx w K mg) : mg "int" = none := by
  obtain ⟨h, X, G⟩ := T.g
  exact free_ok X G (T.c.fact 31 (f := .free "int") rfl)
theorem Tx.f_isinstance (T : Tx w K mg) : mg "isinstance" = none := by
  obtain ⟨h, X, G⟩ := T.g
  exact free_ok X G (T.c.fact 32 (f := .free "isinstance") rfl)
theorem Tx.f_len (T : Tx w K mg) : mg "len" = none := by
  obtain ⟨h, X, G⟩ := T.g
  exact free_ok X G (T.c.fact 33 (f := .free "len") rfl)
theorem Tx.f_list (T : Tx w K mg) : mg "list" = none := by
  obtain ⟨h, X, G⟩ := T.g
  exact free_ok X G (T.c.fact 34 (f := .free "list") rfl)
theorem Tx.f_range (T : Tx w K mg) : mg "range" = none := by
  obtain ⟨h, X, G⟩ := T.g
  exact free_ok X G (T.c.fact 35 (f := .free "range") rfl)
theorem Tx.f_str (T : Tx w K mg) : mg "str" = none := by
  obtain ⟨h, X, G⟩ := T.g
  exact free_ok X G (T.c.fact 37 (f := .free "str") rfl)
theorem Tx.f_tuple (T : Tx w K mg) : mg "tuple" = none := by
  obtain ⟨h, X, G⟩ := T.g
  exact free_ok X G (T.c.fact 38 (f := .free "tuple") rfl)
theorem Tx.exm_BadShare_BadShare (T : Tx w K mg) : PySem.W.exmOne K (.ref (ga K "BadShare")) (.ref (ga K "BadShare")) = some true := exm_ok (T.c.fact 40 (f := .exm "BadShare" "BadShare" true) rfl)
theorem Tx.own_Share_str (T : Tx w K mg) : Cl.OwnOp K (ga K "Share") "__str__" (ma K (ga K "Share") "__str__") := ownB_ok (T.c.more 0 (f := fun K => Hk.ownB K (ga K "Share") "__str__") rfl)
theorem Tx.i_gcd (T : Tx w K mg) : mg "gcd" = some (.builtin "math.gcd") := by
  obtain ⟨h, X, G⟩ := T.g
  exact PySem.W.mg_of X G (eqO_ok (T.c.more 1 (f := fun K => Hk.bltB K "gcd" "math.gcd") rfl))
theorem Tx.smet_Share_read (T : Tx w K mg) : Cl.SMet K (ga K "Share") "read" (ma K (ga K "Share") "read") (He5.wf K (ga K "Share") "staticmethod" "read") := smetB_ok (T.c.more 2 (f := fun K => Hk.smetB K (ga K "Share") "read") rfl)
theorem Tx.ins_Share (T : Tx w K mg) : InsK K (ga K "Share") := insKB_ok T.cls_Share (T.c.more 3 (f := fun K => Hk.insKB K (ga K "Share")) rfl)
theorem Tx.kit_Share_Share (T : Tx w K mg) : PySem.W.kitOne K (.ref (ga K "Share")) (.ref (ga K "Share")) = some true := kitB_ok (T.c.more 4 (f := fun K => Hk.kitB K (.ref (ga K "Share")) (.ref (ga K "Share")) true) rfl)
theorem Tx.excC_BadShare (T : Tx w K mg) : ExcC K (ga K "BadShare") := excCB_ok (T.c.more 5 (f := fun K => excCB K (ga K "BadShare")) rfl)
theorem Tx.kit_BadShare_HornError (T : Tx w K mg) : PySem.W.kitOne K (.ref (ga K "BadShare")) (.ref (ga K "HornError")) = some true := kitB_ok (T.c.more 6 (f := fun K => Hk.kitB K (.ref (ga K "BadShare")) (.ref (ga K "HornError")) true) rfl)
theorem Tx.kit_BadShare_ValueError (T : Tx w K mg) : PySem.W.kitOne K (.ref (ga K "BadShare")) (.type "ValueError") = some true := kitB_ok (T.c.more 7 (f := fun K => Hk.kitB K (.ref (ga K "BadShare")) (.type "ValueError") true) rfl)
theorem Tx.kit_BadShare_BadName (T : Tx w K mg) : PySem.W.kitOne K (.ref (ga K "BadShare")) (.ref (ga K "BadName")) = some false := kitB_ok (T.c.more 8 (f := fun K => Hk.kitB K (.ref (ga K "BadShare")) (.ref (ga K "BadName")) false) rfl)
theorem Tx.fn_is_whole (T : Tx w K mg) : FunD K Hd.d_is_whole.name Hd.d_is_whole.qual (defArgs Hd.s_is_whole) (defBody Hd.s_is_whole) (defScope Hd.s_is_whole) [] [] (Hd.d_is_whole.at_ K) (fdOf K (Hd.d_is_whole.at_ K)) := T.c.fn 0 (d := Hd.d_is_whole) rfl
theorem Tx.fn_law_source (T : Tx w K mg) : FunD K Hd.d_law_source.name Hd.d_law_source.qual (defArgs Hd.s_law_source) (defBody Hd.s_law_source) (defScope Hd.s_law_source) [] [] (Hd.d_law_source.at_ K) (fdOf K (Hd.d_law_source.at_ K)) := T.c.fn 1 (d := Hd.d_law_source) rfl
theorem Tx.fn_law_take (T : Tx w K mg) : FunD K Hd.d_law_take.name Hd.d_law_take.qual (defArgs Hd.s_law_take) (defBody Hd.s_law_take) (defScope Hd.s_law_take) [] [] (Hd.d_law_take.at_ K) (fdOf K (Hd.d_law_take.at_ K)) := T.c.fn 2 (d := Hd.d_law_take) rfl
theorem Tx.fn_law_same (T : Tx w K mg) : FunD K Hd.d_law_same.name Hd.d_law_same.qual (defArgs Hd.s_law_same) (defBody Hd.s_law_same) (defScope Hd.s_law_same) [] [] (Hd.d_law_same.at_ K) (fdOf K (Hd.d_law_same.at_ K)) := T.c.fn 3 (d := Hd.d_law_same) rfl
theorem Tx.fn_law_gcd (T : Tx w K mg) : FunD K Hd.d_law_gcd.name Hd.d_law_gcd.qual (defArgs Hd.s_law_gcd) (defBody Hd.s_law_gcd) (defScope Hd.s_law_gcd) [] [] (Hd.d_law_gcd.at_ K) (fdOf K (Hd.d_law_gcd.at_ K)) := T.c.fn 4 (d := Hd.d_law_gcd) rfl
theorem Tx.fn_law_is_share (T : Tx w K mg) : FunD K Hd.d_law_is_share.name Hd.d_law_is_share.qual (defArgs Hd.s_law_is_share) (defBody Hd.s_law_is_share) (defScope Hd.s_law_is_share) [] [] (Hd.d_law_is_share.at_ K) (fdOf K (Hd.d_law_is_share.at_ K)) := T.c.fn 5 (d := Hd.d_law_is_share) rfl
theorem Tx.fn_law_number (T : Tx w K mg) : FunD K Hd.d_law_number.name Hd.d_law_number.qual (defArgs Hd.s_law_number) (defBody Hd.s_law_number) (defScope Hd.s_law_number) [] [] (Hd.d_law_number.at_ K) (fdOf K (Hd.d_law_number.at_ K)) := T.c.fn 6 (d := Hd.d_law_number) rfl
theorem Tx.fn_law_share_text (T : Tx w K mg) : FunD K Hd.d_law_share_text.name Hd.d_law_share_text.qual (defArgs Hd.s_law_share_text) (defBody Hd.s_law_share_text) (defScope Hd.s_law_share_text) [] [] (Hd.d_law_share_text.at_ K) (fdOf K (Hd.d_law_share_text.at_ K)) := T.c.fn 7 (d := Hd.d_law_share_text) rfl
theorem Tx.fn_law_sign (T : Tx w K mg) : FunD K Hd.d_law_sign.name Hd.d_law_sign.qual (defArgs Hd.s_law_sign) (defBody Hd.s_law_sign) (defScope Hd.s_law_sign) [] [] (Hd.d_law_sign.at_ K) (fdOf K (Hd.d_law_sign.at_ K)) := T.c.fn 8 (d := Hd.d_law_sign) rfl
theorem Tx.fn_law_changed (T : Tx w K mg) : FunD K Hd.d_law_changed.name Hd.d_law_changed.qual (defArgs Hd.s_law_changed) (defBody Hd.s_law_changed) (defScope Hd.s_law_changed) [] [] (Hd.d_law_changed.at_ K) (fdOf K (Hd.d_law_changed.at_ K)) := T.c.fn 9 (d := Hd.d_law_changed) rfl
theorem Tx.fn_law_text (T : Tx w K mg) : FunD K Hd.d_law_text.name Hd.d_law_text.qual (defArgs Hd.s_law_text) (defBody Hd.s_law_text) (defScope Hd.s_law_text) [] [] (Hd.d_law_text.at_ K) (fdOf K (Hd.d_law_text.at_ K)) := T.c.fn 10 (d := Hd.d_law_text) rfl
theorem Tx.fn_law_figures (T : Tx w K mg) : FunD K Hd.d_law_figures.name Hd.d_law_figures.qual (defArgs Hd.s_law_figures) (defBody Hd.s_law_figures) (defScope Hd.s_law_figures) [] [] (Hd.d_law_figures.at_ K) (fdOf K (Hd.d_law_figures.at_ K)) := T.c.fn 11 (d := Hd.d_law_figures) rfl
theorem Tx.fn_law_parted (T : Tx w K mg) : FunD K Hd.d_law_parted.name Hd.d_law_parted.qual (defArgs Hd.s_law_parted) (defBody Hd.s_law_parted) (defScope Hd.s_law_parted) [] [] (Hd.d_law_parted.at_ K) (fdOf K (Hd.d_law_parted.at_ K)) := T.c.fn 12 (d := Hd.d_law_parted) rfl
theorem Tx.fn_law_refused (T : Tx w K mg) : FunD K Hd.d_law_refused.name Hd.d_law_refused.qual (defArgs Hd.s_law_refused) (defBody Hd.s_law_refused) (defScope Hd.s_law_refused) [] [] (Hd.d_law_refused.at_ K) (fdOf K (Hd.d_law_refused.at_ K)) := T.c.fn 13 (d := Hd.d_law_refused) rfl
theorem Tx.fn_law (T : Tx w K mg) : FunD K Hd.d_law.name Hd.d_law.qual (defArgs Hd.s_law) (defBody Hd.s_law) (defScope Hd.s_law) [] [] (Hd.d_law.at_ K) (fdOf K (Hd.d_law.at_ K)) := T.c.fn 14 (d := Hd.d_law) rfl
theorem Tx.fn_Share_init (T : Tx w K mg) : FunD K Hd.d_Share_init.name Hd.d_Share_init.qual (defArgs Hd.s_Share_init) (defBody Hd.s_Share_init) (defScope Hd.s_Share_init) [.int 1] [] (Hd.d_Share_init.at_ K) (fdOf K (Hd.d_Share_init.at_ K)) := T.c.fn 15 (d := Hd.d_Share_init) rfl
theorem Tx.fn_Share_read (T : Tx w K mg) : FunD K Hd.d_Share_read.name Hd.d_Share_read.qual (defArgs Hd.s_Share_read) (defBody Hd.s_Share_read) (defScope Hd.s_Share_read) [] [] (Hd.d_Share_read.at_ K) (fdOf K (Hd.d_Share_read.at_ K)) := T.c.fn 16 (d := Hd.d_Share_read) rfl
theorem Tx.fn_Share_str (T : Tx w K mg) : FunD K Hd.d_Share_str.name Hd.d_Share_str.qual (defArgs Hd.s_Share_str) (defBody Hd.s_Share_str) (defScope Hd.s_Share_str) [] [] (Hd.d_Share_str.at_ K) (fdOf K (Hd.d_Share_str.at_ K)) := T.c.fn 17 (d := Hd.d_Share_str) rfl
theorem Tx.sc_BadShare : ScopeE PySem.Challenge.pw_renamedhorn_k06_shares_read_back (defScope Hd.s_BadShare_init) (defArgs Hd.s_BadShare_init) := ⟨⟨_, rfl⟩, rfl, rfl, rfl, rfl, rfl, rfl, by decide +kernel, by decide +kernel⟩
theorem Tx.err_BadShare (T : Tx w K mg) : Err1 PySem.Challenge.pw_renamedhorn_k06_shares_read_back w K mg "BadShare" "text" (ga K "BadShare") := by
  obtain ⟨h, X, G⟩ := T.g
  obtain ⟨e, c⟩ := T.c.it 19 (d := Hd.d_BadShare.it "/claim/cut.py") rfl
  exact err1_of X G c e rfl Tx.sc_BadShare rfl (fun _ _ _ _ _ _ _ _ _ _ _ => rfl) rfl (by decide) (by decide)
theorem Tx.sc_ZeroBelow : ScopeE PySem.Challenge.pw_renamedhorn_k06_shares_read_back (defScope Hd.s_ZeroBelow_init) (defArgs Hd.s_ZeroBelow_init) := ⟨⟨_, rfl⟩, rfl, rfl, rfl, rfl, rfl, rfl, by decide +kernel, by decide +kernel⟩
theorem Tx.err_ZeroBelow (T : Tx w K mg) : Err0 PySem.Challenge.pw_renamedhorn_k06_shares_read_back w K mg "ZeroBelow" (ga K "ZeroBelow") := by
  obtain ⟨h, X, G⟩ := T.g
  obtain ⟨e, c⟩ := T.c.it 20 (d := Hd.d_ZeroBelow.it "/claim/cut.py") rfl
  exact err0_of X G c e rfl Tx.sc_ZeroBelow rfl (fun _ _ _ _ _ _ _ _ _ _ => rfl)
end
end Ok
namespace Ok
open PySem PySem.Spec PyProof.Rows L2 He Hk Px Rd
section
variable {w : World} {K : PySem.W.Frag} {mg : PySem.Str → Option Value} {base : Heap}
theorem sc_is_whole : FnScope N_is_whole ["text"] (defScope Hd.s_is_whole) := ⟨rfl, rfl, rfl, by decide +kernel, rfl, by decide +kernel, by decide +kernel⟩
theorem b_is_whole (T : Tx w K mg) : Binds K (fdOf K (ga K "is_whole")) ["text"] [] := T.fn_is_whole.bindsN fun _ _ _ _ _ _ us hl => match us, hl with | [_], _ => rfl
theorem ok_is_whole (T : Tx w K mg) : FnOk PySem.Challenge.pw_renamedhorn_k06_shares_read_back w K mg base (L2N.CX PySem.Challenge.pw_renamedhorn_k06_shares_read_back w) 1 (ga K "is_whole") (fdOf K (ga K "is_whole")) ["text"] (sp_is_whole K) := by
  refine T.fn_is_whole.ok sc_is_whole (fun vs H Q E h => Sp1.len h) (fun cdv A outer s H vs Q E hr h => ⟨t_is_whole K (fun cls d _ H => E cls d H), ?_, pure_is_whole h⟩)
  · have tk := L2N.takes_of (X := cxOf (L2N.CX PySem.Challenge.pw_renamedhorn_k06_shares_read_back w) PySem.Challenge.pw_renamedhorn_k06_shares_read_back w K mg base N_is_whole "is_whole" (defScope Hd.s_is_whole) (ga K "is_whole") cdv A outer s H E) (E := E) rfl rfl rfl rfl
    obtain ⟨tk_DIGITS, m_DIGITS⟩ := T.c_DIGITS
    obtain ⟨tk_SIZE, m_SIZE⟩ := T.c_SIZE
    exact (pss_cons (ps_asg (pv 0) (pg_name (i := 1) sc_is_whole.nd rfl (Or.inl rfl)))
      (pss_cut (ps_if (pt_cmpR (op_eqP hr.units) (pe_slice sl_P (pv 0) po_none (po_some pe_int)) pe_str (nomark _)) (pss_one (ps_asg (pe_slice sl_P (pv 0) (po_some pe_int) po_none) (pg_name (i := 1) sc_is_whole.nd rfl (Or.inl rfl)))) pss_nil)
      (pss_cut (ps_if (PW.pt (pw_or (pt_cmpR op_ltP (pe_callB call_lenP (by rfl) T.f_len PyProof.Rows.Boot.«len» (pa_cons (pv 1) pa_nil)) pe_int (nomark _)) (pw_or1 (pt_cmpR op_gtP (pe_callB call_lenP (by rfl) T.f_len PyProof.Rows.Boot.«len» (pa_cons (pv 1) pa_nil)) (pe_glob rfl m_SIZE ⟨_, rfl⟩) (nomark _))))) (pss_one (ps_ret pe_bl)) pss_nil)
      (pss_one (ps_ret (pe_callB (cr_all rfl) (by rfl) T.f_all PyProof.Rows.Boot.«all» (pa_cons (pe_lc (own := [("sign", 2)]) (g := (gName 2)) (tt := tYes) rfl sc_is_whole.nd (pi_anyP (pv 1)) (blkOk_by (own := [("sign", 2)]) (N := N_is_whole) (sc := defScope Hd.s_is_whole) (by decide +kernel)) (fun _ _ _ _ _ => (pg_name (i := 2) sc_is_whole.nd rfl (Or.inl rfl))) (fun _ _ _ _ _ => pts_nil) (fun _ _ _ _ _ => (pe_cmpR (op_inP hr.units) (pv 2) (pe_glob rfl m_DIGITS ⟨_, rfl⟩) (by rfl)))) pa_nil)))))))
theorem sc_law_source : FnScope N_law_source ["_law_script"] (defScope Hd.s_law_source) := ⟨rfl, rfl, rfl, by decide +kernel, rfl, by decide +kernel, by decide +kernel⟩
theorem b_law_source (T : Tx w K mg) : Binds K (fdOf K (ga K "_law_source")) ["_law_script"] [] := T.fn_law_source.bindsN fun _ _ _ _ _ _ us hl => match us, hl with | [_], _ => rfl
theorem ok_law_source (T : Tx w K mg) : FnOk PySem.Challenge.pw_renamedhorn_k06_shares_read_back w K mg base (L2N.CX PySem.Challenge.pw_renamedhorn_k06_shares_read_back w) 1 (ga K "_law_source") (fdOf K (ga K "_law_source")) ["_law_script"] (sp_law_source K) := by
  refine T.fn_law_source.ok sc_law_source (fun vs H Q E h => Sp1.len h) (fun cdv A outer s H vs Q E hr h => ⟨t_law_source K (fun cls d _ H => E cls d H), ?_, pure_law_source h⟩)
  · have tk := L2N.takes_of (X := cxOf (L2N.CX PySem.Challenge.pw_renamedhorn_k06_shares_read_back w) PySem.Challenge.pw_renamedhorn_k06_shares_read_back w K mg base N_law_source "_law_source" (defScope Hd.s_law_source) (ga K "_law_source") cdv A outer s H E) (E := E) rfl rfl rfl rfl
    exact (pss_one (ps_ret (pe_lst (pa_cons (pe_callTy call_listP (by rfl) T.f_list PyProof.Rows.Boot.«list» (pa_cons (pv 0) pa_nil)) (pa_cons pe_int (pa_cons pe_int (pa_cons pe_int (pa_cons pe_int pa_nil))))))))
theorem sc_law_take : FnScope N_law_take ["_law_source_here", "_law_many"] (defScope Hd.s_law_take) := ⟨rfl, rfl, rfl, by decide +kernel, rfl, by decide +kernel, by decide +kernel⟩
theorem b_law_take (T : Tx w K mg) : Binds K (fdOf K (ga K "_law_take")) ["_law_source_here", "_law_many"] [] := T.fn_law_take.bindsN fun _ _ _ _ _ _ us hl => match us, hl with | [_, _], _ => rfl
theorem ok_law_take (T : Tx w K mg) : FnOk PySem.Challenge.pw_renamedhorn_k06_shares_read_back w K mg base (L2N.CX PySem.Challenge.pw_renamedhorn_k06_shares_read_back w) 1 (ga K "_law_take") (fdOf K (ga K "_law_take")) ["_law_source_here", "_law_many"] (sp_law_take K) := by
  refine T.fn_law_take.ok sc_law_take (fun vs H Q E h => Sp2.len h) (fun cdv A outer s H vs Q E hr h => ⟨t_law_take K (fun cls d _ H => E cls d H), ?_, pure_law_take h⟩)
  · have tk := L2N.takes_of (X := cxOf (L2N.CX PySem.Challenge.pw_renamedhorn_k06_shares_read_back w) PySem.Challenge.pw_renamedhorn_k06_shares_read_back w K mg base N_law_take "_law_take" (defScope Hd.s_law_take) (ga K "_law_take") cdv A outer s H E) (E := E) rfl rfl rfl rfl
    exact (pss_cut (ps_if (pt_cmpR (op_eqP hr.units) (pe_ix ix_P (pv 0) pe_int (fun _ _ => rfl)) pe_int (nomark _)) (pss_cut (ps_if (pt_cmpR op_geP (pe_ix ix_P (pv 0) pe_int (fun _ _ => rfl)) (pe_callB call_lenP (by rfl) T.f_len PyProof.Rows.Boot.«len» (pa_cons (pe_ix ix_P (pv 0) pe_int (fun _ _ => rfl)) pa_nil)) (nomark _)) (pss_one (ps_ret pe_int)) pss_nil)
      (pss_cons (ps_asg (pe_callTy call_intP (by rfl) T.f_int PyProof.Rows.Boot.«int» (pa_cons (pe_ix ix_P (pe_ix ix_P (pv 0) pe_int (fun _ _ => rfl)) (pe_ix ix_P (pv 0) pe_int (fun _ _ => rfl)) (fun _ _ => rfl)) pa_nil)) (pg_name (i := 3) sc_law_take.nd rfl (Or.inl rfl)))
      (pss_cons (ps_asg (pe_op op_addP (pe_ix ix_P (pv 0) pe_int (fun _ _ => rfl)) pe_int) (pg_sub (pv 0) pe_int (set_P hr.units)))
      (pss_cons (ps_asg (pv 3) (pg_sub (pv 0) pe_int (set_P hr.units)))
      (pss_cons (ps_asg pe_int (pg_sub (pv 0) pe_int (set_P hr.units)))
      (pss_cons (ps_asg pe_int (pg_sub (pv 0) pe_int (set_P hr.units)))
      (pss_one (ps_if (pt_cmpR op_geP (pv 3) (pe_op op_powP pe_int pe_int) (nomark _)) (pss_cons (ps_asg pe_int (pg_sub (pv 0) pe_int (set_P hr.units)))
      (pss_one (ps_asg pe_int (pg_sub (pv 0) pe_int (set_P hr.units))))) pss_nil)))))))) pss_nil)
      (pss_cons (ps_asg (pe_op op_subP (pe_ix ix_P (pv 0) pe_int (fun _ _ => rfl)) pe_int) (pg_sub (pv 0) pe_int (set_P hr.units)))
      (pss_cut (ps_if (pt_cmpR (op_eqP hr.units) (pe_ix ix_P (pv 0) pe_int (fun _ _ => rfl)) pe_int (nomark _)) (pss_cons (ps_asg (pe_op op_modP (pe_callTy call_intP (by rfl) T.f_int PyProof.Rows.Boot.«int» (pa_cons (pe_ix ix_P (pv 0) pe_int (fun _ _ => rfl)) pa_nil)) (pv 1)) (pg_name (i := 4) sc_law_take.nd rfl (Or.inl rfl)))
      (pss_cons (ps_asg (pe_op op_fdivP (pe_ix ix_P (pv 0) pe_int (fun _ _ => rfl)) (pv 1)) (pg_sub (pv 0) pe_int (set_P hr.units)))
      (pss_cut (ps_if (pt_cmpR (op_eqP hr.units) (pe_ix ix_P (pv 0) pe_int (fun _ _ => rfl)) pe_int (nomark _)) (pss_one (ps_asg pe_int (pg_sub (pv 0) pe_int (set_P hr.units)))) pss_nil)
      (pss_one (ps_ret (pv 4)))))) pss_nil)
      (pss_cons (ps_asg (pe_op op_modP (pe_callTy call_intP (by rfl) T.f_int PyProof.Rows.Boot.«int» (pa_cons (pe_op op_addP (pe_op op_addP (pe_op op_mulP (pe_ix ix_P (pv 0) pe_int (fun _ _ => rfl)) pe_int) (pe_op op_mulP (pe_ix ix_P (pv 0) pe_int (fun _ _ => rfl)) pe_int)) pe_int) pa_nil)) pe_int) (pg_name (i := 2) sc_law_take.nd rfl (Or.inl rfl)))
      (pss_cons (ps_asg (pe_op op_modP (pe_callTy call_intP (by rfl) T.f_int PyProof.Rows.Boot.«int» (pa_cons (pe_op op_addP (pe_op op_addP (pe_op op_mulP (pv 2) pe_int) (pe_op op_mulP (pe_ix ix_P (pv 0) pe_int (fun _ _ => rfl)) pe_int)) pe_int) pa_nil)) pe_int) (pg_name (i := 2) sc_law_take.nd rfl (Or.inl rfl)))
      (pss_one (ps_ret (pe_op op_modP (pe_callTy call_intP (by rfl) T.f_int PyProof.Rows.Boot.«int» (pa_cons (pv 2) pa_nil)) (pv 1)))))))))
theorem sc_law_same : FnScope N_law_same ["_law_one", "_law_other"] (defScope Hd.s_law_same) := ⟨rfl, rfl, rfl, by decide +kernel, rfl, by decide +kernel, by decide +kernel⟩
theorem b_law_same (T : Tx w K mg) : Binds K (fdOf K (ga K "_law_same")) ["_law_one", "_law_other"] [] := T.fn_law_same.bindsN fun _ _ _ _ _ _ us hl => match us, hl with | [_, _], _ => rfl
theorem okn_law_same (T : Tx w K mg) (n : Nat) (okR : FnOk PySem.Challenge.pw_renamedhorn_k06_shares_read_back w K mg base (L2N.CX PySem.Challenge.pw_renamedhorn_k06_shares_read_back w) n (ga K "_law_same") (fdOf K (ga K "_law_same")) ["_law_one", "_law_other"] (spR_law_same K n)) : FnOk PySem.Challenge.pw_renamedhorn_k06_shares_read_back w K mg base (L2N.CX PySem.Challenge.pw_renamedhorn_k06_shares_read_back w) (n + 1) (ga K "_law_same") (fdOf K (ga K "_law_same")) ["_law_one", "_law_other"] (spn_law_same K n) := by
  refine T.fn_law_same.ok sc_law_same (fun vs H Q E h => Sp2.len h) (fun cdv A outer s H vs Q E hr h => ⟨t_law_same K (spR_law_same K n) (fun cls d _ H => E cls d H), ?_, pure_law_same h⟩)
  · have tk := L2N.takes_of (X := cxOf (L2N.CX PySem.Challenge.pw_renamedhorn_k06_shares_read_back w) PySem.Challenge.pw_renamedhorn_k06_shares_read_back w K mg base N_law_same "_law_same" (defScope Hd.s_law_same) (ga K "_law_same") cdv A outer s H E) (E := E) rfl rfl rfl rfl
    exact (pss_cut (ps_if (PW.pt (pw_or (pt_val (pe_callB call_isi (by rfl) T.f_isinstance PyProof.Rows.Boot.«isinstance» (pa_cons (pv 0) (pa_cons (pe_bltn (v := .ty "bool") rfl (T.f_bool) PyProof.Rows.Boot.«bool» rfl) pa_nil)))) (pw_or1 (pt_val (pe_callB call_isi (by rfl) T.f_isinstance PyProof.Rows.Boot.«isinstance» (pa_cons (pv 1) (pa_cons (pe_bltn (v := .ty "bool") rfl (T.f_bool) PyProof.Rows.Boot.«bool» rfl) pa_nil))))))) (pss_one (ps_ret (pe_and (pe_callB call_isi (by rfl) T.f_isinstance PyProof.Rows.Boot.«isinstance» (pa_cons (pv 0) (pa_cons (pe_bltn (v := .ty "bool") rfl (T.f_bool) PyProof.Rows.Boot.«bool» rfl) pa_nil))) (pe_and (pe_callB call_isi (by rfl) T.f_isinstance PyProof.Rows.Boot.«isinstance» (pa_cons (pv 1) (pa_cons (pe_bltn (v := .ty "bool") rfl (T.f_bool) PyProof.Rows.Boot.«bool» rfl) pa_nil))) (pe_one (pe_cmpR (op_eqP hr.units) (pv 0) (pv 1) (nomark _))))))) pss_nil)
      (pss_cut (ps_if (PW.pt (pw_or (pt_val (pe_callB call_isi (by rfl) T.f_isinstance PyProof.Rows.Boot.«isinstance» (pa_cons (pv 0) (pa_cons (pe_bltn (v := .ty "int") rfl (T.f_int) PyProof.Rows.Boot.«int» rfl) pa_nil)))) (pw_or1 (pt_val (pe_callB call_isi (by rfl) T.f_isinstance PyProof.Rows.Boot.«isinstance» (pa_cons (pv 1) (pa_cons (pe_bltn (v := .ty "int") rfl (T.f_int) PyProof.Rows.Boot.«int» rfl) pa_nil))))))) (pss_one (ps_ret (pe_and (pe_callB call_isi (by rfl) T.f_isinstance PyProof.Rows.Boot.«isinstance» (pa_cons (pv 0) (pa_cons (pe_bltn (v := .ty "int") rfl (T.f_int) PyProof.Rows.Boot.«int» rfl) pa_nil))) (pe_and (pe_callB call_isi (by rfl) T.f_isinstance PyProof.Rows.Boot.«isinstance» (pa_cons (pv 1) (pa_cons (pe_bltn (v := .ty "int") rfl (T.f_int) PyProof.Rows.Boot.«int» rfl) pa_nil))) (pe_one (pe_cmpR (op_eqP hr.units) (pv 0) (pv 1) (nomark _))))))) pss_nil)
      (pss_cut (ps_if (PW.pt (pw_or (pt_val (pe_callB call_isi (by rfl) T.f_isinstance PyProof.Rows.Boot.«isinstance» (pa_cons (pv 0) (pa_cons (pe_bltn (v := .ty "str") rfl (T.f_str) PyProof.Rows.Boot.«str» rfl) pa_nil)))) (pw_or1 (pt_val (pe_callB call_isi (by rfl) T.f_isinstance PyProof.Rows.Boot.«isinstance» (pa_cons (pv 1) (pa_cons (pe_bltn (v := .ty "str") rfl (T.f_str) PyProof.Rows.Boot.«str» rfl) pa_nil))))))) (pss_one (ps_ret (pe_and (pe_callB call_isi (by rfl) T.f_isinstance PyProof.Rows.Boot.«isinstance» (pa_cons (pv 0) (pa_cons (pe_bltn (v := .ty "str") rfl (T.f_str) PyProof.Rows.Boot.«str» rfl) pa_nil))) (pe_and (pe_callB call_isi (by rfl) T.f_isinstance PyProof.Rows.Boot.«isinstance» (pa_cons (pv 1) (pa_cons (pe_bltn (v := .ty "str") rfl (T.f_str) PyProof.Rows.Boot.«str» rfl) pa_nil))) (pe_one (pe_cmpR (op_eqP hr.units) (pv 0) (pv 1) (nomark _))))))) pss_nil)
      (pss_cons (ps_asg (pe_and (pe_callB call_isi (by rfl) T.f_isinstance PyProof.Rows.Boot.«isinstance» (pa_cons (pv 0) (pa_cons (pe_bltn (v := .ty "list") rfl (T.f_list) PyProof.Rows.Boot.«list» rfl) pa_nil))) (pe_one (pe_callB call_isi (by rfl) T.f_isinstance PyProof.Rows.Boot.«isinstance» (pa_cons (pv 1) (pa_cons (pe_bltn (v := .ty "list") rfl (T.f_list) PyProof.Rows.Boot.«list» rfl) pa_nil))))) (pg_name (i := 2) sc_law_same.nd rfl (Or.inl rfl)))
      (pss_cut (ps_if (PW.pt (pw_and (pt_not (pt_val (pv 2))) (pw_and1 (pt_not (PW.pt (pw_and (pt_val (pe_callB call_isi (by rfl) T.f_isinstance PyProof.Rows.Boot.«isinstance» (pa_cons (pv 0) (pa_cons (pe_bltn (v := .ty "tuple") rfl (T.f_tuple) PyProof.Rows.Boot.«tuple» rfl) pa_nil)))) (pw_and1 (pt_val (pe_callB call_isi (by rfl) T.f_isinstance PyProof.Rows.Boot.«isinstance» (pa_cons (pv 1) (pa_cons (pe_bltn (v := .ty "tuple") rfl (T.f_tuple) PyProof.Rows.Boot.«tuple» rfl) pa_nil))))))))))) (pss_one (ps_ret (pe_and (pe_cmpR op_isP (pv 0) pe_non (nomark _)) (pe_one (pe_cmpR op_isP (pv 1) pe_non (nomark _)))))) pss_nil)
      (pss_one (ps_ret (pe_and (pe_cmpR (op_eqP hr.units) (pe_callB call_lenP (by rfl) T.f_len PyProof.Rows.Boot.«len» (pa_cons (pv 0) pa_nil)) (pe_callB call_lenP (by rfl) T.f_len PyProof.Rows.Boot.«len» (pa_cons (pv 1) pa_nil)) (nomark _)) (pe_one (pe_callB (cr_all rfl) (by rfl) T.f_all PyProof.Rows.Boot.«all» (pa_cons (pe_lc (own := [("_law_k", 3)]) (g := (gName 3)) (tt := tYes) rfl sc_law_same.nd (pi_range1 (by rfl) T.f_range (pa_cons (pe_callB call_lenP (by rfl) T.f_len PyProof.Rows.Boot.«len» (pa_cons (pv 0) pa_nil)) pa_nil)) (blkOk_by (own := [("_law_k", 3)]) (N := N_law_same) (sc := defScope Hd.s_law_same) (by decide +kernel)) (fun _ _ _ _ _ => (pg_name (i := 3) sc_law_same.nd rfl (Or.inl rfl))) (fun _ _ _ _ _ => pts_nil) (fun _ _ _ _ _ => (pe_call okR (hr.mono (by omega)) rfl T.g_law_same (T.fn_law_same).kp (b_law_same T) .nil passN (pa_cons (pe_ix ix_P (pv 0) (pv 3) (fun _ _ => rfl)) (pa_cons (pe_ix ix_P (pv 1) (pv 3) (fun _ _ => rfl)) pa_nil))))) pa_nil)))))))))))
theorem oka_law_same (T : Tx w K mg) : ∀ n : Nat, FnOk PySem.Challenge.pw_renamedhorn_k06_shares_read_back w K mg base (L2N.CX PySem.Challenge.pw_renamedhorn_k06_shares_read_back w) (n + 1) (ga K "_law_same") (fdOf K (ga K "_law_same")) ["_law_one", "_law_other"] (spn_law_same K n)
  | 0 => okn_law_same T 0 ⟨fun _ _ _ _ h => h.elim, fun _ _ _ _ _ _ _ _ _ _ _ _ _ h => h.elim⟩
  | n + 1 => okn_law_same T (n + 1) (oka_law_same T n)
theorem ok_law_same (T : Tx w K mg) : FnOk PySem.Challenge.pw_renamedhorn_k06_shares_read_back w K mg base (L2N.CX PySem.Challenge.pw_renamedhorn_k06_shares_read_back w) 5 (ga K "_law_same") (fdOf K (ga K "_law_same")) ["_law_one", "_law_other"] (sp_law_same K) := oka_law_same T 4
theorem okH_law_same (T : Tx w K mg) : L2H.FnH PySem.Challenge.pw_renamedhorn_k06_shares_read_back w K mg base (L2N.CX PySem.Challenge.pw_renamedhorn_k06_shares_read_back w) 5 (ga K "_law_same") (fdOf K (ga K "_law_same")) ["_law_one", "_law_other"] (spH_law_same K) := by
  refine T.fn_law_same.okH sc_law_same (fun vs H Q E h => Sp2.len h) (fun cdv A outer s H vs Q E p hot hr h => ⟨tH_law_same K (fun cls d _ H => E cls d H), ?_, pureH_law_same h⟩)
  · have tk := L2N.takes_of (X := L2H.cxH (L2N.CX PySem.Challenge.pw_renamedhorn_k06_shares_read_back w) PySem.Challenge.pw_renamedhorn_k06_shares_read_back w K mg base N_law_same "_law_same" (defScope Hd.s_law_same) (ga K "_law_same") cdv A outer s H E p) (E := E) rfl rfl rfl rfl
    exact (pss_cut (ps_if (PW.pt (pw_or (pt_val (pe_callB call_isi (by rfl) T.f_isinstance PyProof.Rows.Boot.«isinstance» (pa_cons (pv 0) (pa_cons (pe_bltn (v := .ty "bool") rfl (T.f_bool) PyProof.Rows.Boot.«bool» rfl) pa_nil)))) (pw_or1 (pt_val (pe_callB call_isi (by rfl) T.f_isinstance PyProof.Rows.Boot.«isinstance» (pa_cons (pv 1) (pa_cons (pe_bltn (v := .ty "bool") rfl (T.f_bool) PyProof.Rows.Boot.«bool» rfl) pa_nil))))))) (pss_one (ps_ret (pe_and (pe_callB call_isi (by rfl) T.f_isinstance PyProof.Rows.Boot.«isinstance» (pa_cons (pv 0) (pa_cons (pe_bltn (v := .ty "bool") rfl (T.f_bool) PyProof.Rows.Boot.«bool» rfl) pa_nil))) (pe_and (pe_callB call_isi (by rfl) T.f_isinstance PyProof.Rows.Boot.«isinstance» (pa_cons (pv 1) (pa_cons (pe_bltn (v := .ty "bool") rfl (T.f_bool) PyProof.Rows.Boot.«bool» rfl) pa_nil))) (pe_one (pe_cmpR (op_eqP hr.units) (pv 0) (pv 1) (nomark _))))))) pss_nil)
      (pss_cut (ps_if (PW.pt (pw_or (pt_val (pe_callB call_isi (by rfl) T.f_isinstance PyProof.Rows.Boot.«isinstance» (pa_cons (pv 0) (pa_cons (pe_bltn (v := .ty "int") rfl (T.f_int) PyProof.Rows.Boot.«int» rfl) pa_nil)))) (pw_or1 (pt_val (pe_callB call_isi (by rfl) T.f_isinstance PyProof.Rows.Boot.«isinstance» (pa_cons (pv 1) (pa_cons (pe_bltn (v := .ty "int") rfl (T.f_int) PyProof.Rows.Boot.«int» rfl) pa_nil))))))) (pss_one (ps_ret (pe_and (pe_callB call_isi (by rfl) T.f_isinstance PyProof.Rows.Boot.«isinstance» (pa_cons (pv 0) (pa_cons (pe_bltn (v := .ty "int") rfl (T.f_int) PyProof.Rows.Boot.«int» rfl) pa_nil))) (pe_and (pe_callB call_isi (by rfl) T.f_isinstance PyProof.Rows.Boot.«isinstance» (pa_cons (pv 1) (pa_cons (pe_bltn (v := .ty "int") rfl (T.f_int) PyProof.Rows.Boot.«int» rfl) pa_nil))) (pe_one (pe_cmpR (op_eqP hr.units) (pv 0) (pv 1) (nomark _))))))) pss_nil)
      (pss_cut (ps_if (PW.pt (pw_or (pt_val (pe_callB call_isi (by rfl) T.f_isinstance PyProof.Rows.Boot.«isinstance» (pa_cons (pv 0) (pa_cons (pe_bltn (v := .ty "str") rfl (T.f_str) PyProof.Rows.Boot.«str» rfl) pa_nil)))) (pw_or1 (pt_val (pe_callB call_isi (by rfl) T.f_isinstance PyProof.Rows.Boot.«isinstance» (pa_cons (pv 1) (pa_cons (pe_bltn (v := .ty "str") rfl (T.f_str) PyProof.Rows.Boot.«str» rfl) pa_nil))))))) (pss_one (ps_ret (pe_and (pe_callB call_isi (by rfl) T.f_isinstance PyProof.Rows.Boot.«isinstance» (pa_cons (pv 0) (pa_cons (pe_bltn (v := .ty "str") rfl (T.f_str) PyProof.Rows.Boot.«str» rfl) pa_nil))) (pe_and (pe_callB call_isi (by rfl) T.f_isinstance PyProof.Rows.Boot.«isinstance» (pa_cons (pv 1) (pa_cons (pe_bltn (v := .ty "str") rfl (T.f_str) PyProof.Rows.Boot.«str» rfl) pa_nil))) (pe_one (pe_cmpR (op_eqP hr.units) (pv 0) (pv 1) (nomark _))))))) pss_nil)
      (pss_cons (ps_asg (pe_and (pe_callB call_isi (by rfl) T.f_isinstance PyProof.Rows.Boot.«isinstance» (pa_cons (pv 0) (pa_cons (pe_bltn (v := .ty "list") rfl (T.f_list) PyProof.Rows.Boot.«list» rfl) pa_nil))) (pe_one (pe_callB call_isi (by rfl) T.f_isinstance PyProof.Rows.Boot.«isinstance» (pa_cons (pv 1) (pa_cons (pe_bltn (v := .ty "list") rfl (T.f_list) PyProof.Rows.Boot.«list» rfl) pa_nil))))) (pg_name (i := 2) sc_law_same.nd rfl (Or.inl rfl)))
      (pss_cut (ps_if (PW.pt (pw_and (pt_not (pt_val (pv 2))) (pw_and1 (pt_not (PW.pt (pw_and (pt_val (pe_callB call_isi (by rfl) T.f_isinstance PyProof.Rows.Boot.«isinstance» (pa_cons (pv 0) (pa_cons (pe_bltn (v := .ty "tuple") rfl (T.f_tuple) PyProof.Rows.Boot.«tuple» rfl) pa_nil)))) (pw_and1 (pt_val (pe_callB call_isi (by rfl) T.f_isinstance PyProof.Rows.Boot.«isinstance» (pa_cons (pv 1) (pa_cons (pe_bltn (v := .ty "tuple") rfl (T.f_tuple) PyProof.Rows.Boot.«tuple» rfl) pa_nil))))))))))) (pss_one (ps_ret (pe_and (pe_cmpR op_isP (pv 0) pe_non (nomark _)) (pe_one (pe_cmpR op_isP (pv 1) pe_non (nomark _)))))) pss_nil)
      (pss_one ps_never))))))
theorem sc_law_gcd : FnScope N_law_gcd ["_law_one", "_law_other"] (defScope Hd.s_law_gcd) := ⟨rfl, rfl, rfl, by decide +kernel, rfl, by decide +kernel, by decide +kernel⟩
theorem b_law_gcd (T : Tx w K mg) : Binds K (fdOf K (ga K "_law_gcd")) ["_law_one", "_law_other"] [] := T.fn_law_gcd.bindsN fun _ _ _ _ _ _ us hl => match us, hl with | [_, _], _ => rfl
theorem ok_law_gcd (T : Tx w K mg) : FnOk PySem.Challenge.pw_renamedhorn_k06_shares_read_back w K mg base (L2N.CX PySem.Challenge.pw_renamedhorn_k06_shares_read_back w) 1 (ga K "_law_gcd") (fdOf K (ga K "_law_gcd")) ["_law_one", "_law_other"] (sp_law_gcd K) := by
  refine T.fn_law_gcd.ok sc_law_gcd (fun vs H Q E h => Sp2.len h) (fun cdv A outer s H vs Q E hr h => ⟨t_law_gcd K (fun cls d _ H => E cls d H), ?_, pure_law_gcd h⟩)
  · have tk := L2N.takes_of (X := cxOf (L2N.CX PySem.Challenge.pw_renamedhorn_k06_shares_read_back w) PySem.Challenge.pw_renamedhorn_k06_shares_read_back w K mg base N_law_gcd "_law_gcd" (defScope Hd.s_law_gcd) (ga K "_law_gcd") cdv A outer s H E) (E := E) rfl rfl rfl rfl
    exact (pss_cut (ps_for (passes_of rfl) rfl (pi_range1 (by rfl) T.f_range (pa_cons pe_int pa_nil)) (pg_name (i := 2) sc_law_gcd.nd rfl (Or.inl rfl)) (pss_cut (ps_if (pt_cmpR (op_eqP hr.units) (pv 1) pe_int (nomark _)) (pss_one (ps_ret (pe_callB call_absP (by rfl) T.f_abs PyProof.Rows.Boot.«abs» (pa_cons (pv 0) pa_nil)))) pss_nil)
      (pss_cons (ps_asg (pe_op op_modP (pe_callTy call_intP (by rfl) T.f_int PyProof.Rows.Boot.«int» (pa_cons (pv 0) pa_nil)) (pv 1)) (pg_name (i := 3) sc_law_gcd.nd rfl (Or.inl rfl)))
      (pss_cons (ps_asg (pv 1) (pg_name (i := 0) sc_law_gcd.nd rfl (Or.inl rfl)))
      (pss_one (ps_asg (pv 3) (pg_name (i := 1) sc_law_gcd.nd rfl (Or.inl rfl))))))))
      (pss_one (ps_ret pe_int)))
theorem sc_law_is_share : FnScope N_law_is_share ["_law_share", "_law_top", "_law_bottom"] (defScope Hd.s_law_is_share) := ⟨rfl, rfl, rfl, by decide +kernel, rfl, by decide +kernel, by decide +kernel⟩
theorem b_law_is_share (T : Tx w K mg) : Binds K (fdOf K (ga K "_law_is_share")) ["_law_share", "_law_top", "_law_bottom"] [] := T.fn_law_is_share.bindsN fun _ _ _ _ _ _ us hl => match us, hl with | [_, _, _], _ => rfl
theorem ok_law_is_share (T : Tx w K mg) : FnOk PySem.Challenge.pw_renamedhorn_k06_shares_read_back w K mg base (L2N.CX PySem.Challenge.pw_renamedhorn_k06_shares_read_back w) 6 (ga K "_law_is_share") (fdOf K (ga K "_law_is_share")) ["_law_share", "_law_top", "_law_bottom"] (sp_law_is_share K) := by
  refine T.fn_law_is_share.ok sc_law_is_share (fun vs H Q E h => Sp3.len h) (fun cdv A outer s H vs Q E hr h => ⟨t_law_is_share K (fun cls d _ H => E cls d H), ?_, pure_law_is_share T.ins_Share T.kit_Share_Share h⟩)
  · have tk := L2N.takes_of (X := cxOf (L2N.CX PySem.Challenge.pw_renamedhorn_k06_shares_read_back w) PySem.Challenge.pw_renamedhorn_k06_shares_read_back w K mg base N_law_is_share "_law_is_share" (defScope Hd.s_law_is_share) (ga K "_law_is_share") cdv A outer s H E) (E := E) rfl rfl rfl rfl
    exact (pss_cut (ps_if (PW.pt (pw_or (pt_not (pt_val (pe_callB call_isi (by rfl) T.f_isinstance PyProof.Rows.Boot.«isinstance» (pa_cons (pv 0) (pa_cons (pe_glob (v := .ref (ga K "Share")) rfl (T.g_Share) rfl) pa_nil))))) (pw_or1 (pt_cmpR (op_eqP hr.units) (pv 2) pe_int (nomark _))))) (pss_one (ps_ret pe_bl)) pss_nil)
      (pss_cons (ps_asg (pe_callS (ok_law_gcd T) (hr.mono (by decide)) rfl T.g_law_gcd (T.fn_law_gcd).kp (b_law_gcd T) (fun σ => L2N.passAt tk σ) (pa_cons (pv 1) (pa_cons (pv 2) pa_nil))) (pg_name (i := 3) sc_law_is_share.nd rfl (Or.inl rfl)))
      (pss_cut (ps_if (pt_cmpR op_ltP (pv 2) pe_int (nomark _)) (pss_one (ps_asg (pe_un un_neg (pv 3)) (pg_name (i := 3) sc_law_is_share.nd rfl (Or.inl rfl)))) pss_nil)
      (pss_one (ps_ret (pe_and (pe_callS (ok_law_same T) (hr.mono (by decide)) rfl T.g_law_same (T.fn_law_same).kp (b_law_same T) (fun σ => L2N.passAt tk σ) (pa_cons (Cl.pe_att (.cons (Cl.alt_fld T.cls_Share T.no_Share_top) .nil) (pv 0)) (pa_cons (pe_op op_fdivP (pv 1) (pv 3)) pa_nil))) (pe_one (pe_callS (ok_law_same T) (hr.mono (by decide)) rfl T.g_law_same (T.fn_law_same).kp (b_law_same T) (fun σ => L2N.passAt tk σ) (pa_cons (Cl.pe_att (.cons (Cl.alt_fld T.cls_Share T.no_Share_bottom) .nil) (pv 0)) (pa_cons (pe_op op_fdivP (pv 2) (pv 3)) pa_nil))))))))))
theorem sc_law_number : FnScope N_law_number ["_law_source_here", "_law_parts"] (defScope Hd.s_law_number) := ⟨rfl, rfl, rfl, by decide +kernel, rfl, by decide +kernel, by decide +kernel⟩
theorem b_law_number (T : Tx w K mg) : Binds K (fdOf K (ga K "_law_number")) ["_law_source_here", "_law_parts"] [] := T.fn_law_number.bindsN fun _ _ _ _ _ _ us hl => match us, hl with | [_, _], _ => rfl
theorem ok_law_number (T : Tx w K mg) : FnOk PySem.Challenge.pw_renamedhorn_k06_shares_read_back w K mg base (L2N.CX PySem.Challenge.pw_renamedhorn_k06_shares_read_back w) 2 (ga K "_law_number") (fdOf K (ga K "_law_number")) ["_law_source_here", "_law_parts"] (sp_law_number K) := by
  refine T.fn_law_number.ok sc_law_number (fun vs H Q E h => Sp2.len h) (fun cdv A outer s H vs Q E hr h => ⟨t_law_number K (fun cls d _ H => E cls d H), ?_, pure_law_number h⟩)
  · have tk := L2N.takes_of (X := cxOf (L2N.CX PySem.Challenge.pw_renamedhorn_k06_shares_read_back w) PySem.Challenge.pw_renamedhorn_k06_shares_read_back w K mg base N_law_number "_law_number" (defScope Hd.s_law_number) (ga K "_law_number") cdv A outer s H E) (E := E) rfl rfl rfl rfl
    exact (pss_cons (ps_asg (pe_callS (ok_law_take T) (hr.mono (by decide)) rfl T.g_law_take (T.fn_law_take).kp (b_law_take T) (fun σ => L2N.passAt tk σ) (pa_cons (pv 0) (pa_cons pe_int pa_nil))) (pg_name (i := 2) sc_law_number.nd rfl (Or.inl rfl)))
      (pss_cut (ps_for (passes_of rfl) rfl (pi_range1 (by rfl) T.f_range (pa_cons (pe_callS (ok_law_take T) (hr.mono (by decide)) rfl T.g_law_take (T.fn_law_take).kp (b_law_take T) (fun σ => L2N.passAt tk σ) (pa_cons (pv 0) (pa_cons (pe_op op_addP (pv 1) pe_int) pa_nil))) pa_nil)) (pg_name (i := 3) sc_law_number.nd rfl (Or.inl rfl)) (pss_one (ps_asg (pe_op op_addP (pe_op op_mulP (pv 2) (pe_op op_powP pe_int pe_int)) (pe_callS (ok_law_take T) (hr.mono (by decide)) rfl T.g_law_take (T.fn_law_take).kp (b_law_take T) (fun σ => L2N.passAt tk σ) (pa_cons (pv 0) (pa_cons (pe_op op_powP pe_int pe_int) pa_nil)))) (pg_name (i := 2) sc_law_number.nd rfl (Or.inl rfl)))))
      (pss_cut (ps_if (pt_cmpR (op_eqP hr.units) (pe_callS (ok_law_take T) (hr.mono (by decide)) rfl T.g_law_take (T.fn_law_take).kp (b_law_take T) (fun σ => L2N.passAt tk σ) (pa_cons (pv 0) (pa_cons pe_int pa_nil))) pe_int (nomark _)) (pss_one (ps_ret (pe_un un_neg (pv 2)))) pss_nil)
      (pss_one (ps_ret (pv 2))))))
theorem sc_law_share_text : FnScope N_law_share_text ["_law_top", "_law_bottom"] (defScope Hd.s_law_share_text) := ⟨rfl, rfl, rfl, by decide +kernel, rfl, by decide +kernel, by decide +kernel⟩
theorem b_law_share_text (T : Tx w K mg) : Binds K (fdOf K (ga K "_law_share_text")) ["_law_top", "_law_bottom"] [] := T.fn_law_share_text.bindsN fun _ _ _ _ _ _ us hl => match us, hl with | [_, _], _ => rfl
theorem ok_law_share_text (T : Tx w K mg) : FnOk PySem.Challenge.pw_renamedhorn_k06_shares_read_back w K mg base (L2N.CX PySem.Challenge.pw_renamedhorn_k06_shares_read_back w) 2 (ga K "_law_share_text") (fdOf K (ga K "_law_share_text")) ["_law_top", "_law_bottom"] (sp_law_share_text K) := by
  refine T.fn_law_share_text.ok sc_law_share_text (fun vs H Q E h => Sp2.len h) (fun cdv A outer s H vs Q E hr h => ⟨t_law_share_text K (fun cls d _ H => E cls d H), ?_, pure_law_share_text h⟩)
  · have tk := L2N.takes_of (X := cxOf (L2N.CX PySem.Challenge.pw_renamedhorn_k06_shares_read_back w) PySem.Challenge.pw_renamedhorn_k06_shares_read_back w K mg base N_law_share_text "_law_share_text" (defScope Hd.s_law_share_text) (ga K "_law_share_text") cdv A outer s H E) (E := E) rfl rfl rfl rfl
    exact (pss_cons (ps_asg (pe_callS (ok_law_gcd T) (hr.mono (by decide)) rfl T.g_law_gcd (T.fn_law_gcd).kp (b_law_gcd T) (fun σ => L2N.passAt tk σ) (pa_cons (pv 0) (pa_cons (pv 1) pa_nil))) (pg_name (i := 2) sc_law_share_text.nd rfl (Or.inl rfl)))
      (pss_cut (ps_if (pt_cmpR op_ltP (pv 1) pe_int (nomark _)) (pss_one (ps_asg (pe_un un_neg (pv 2)) (pg_name (i := 2) sc_law_share_text.nd rfl (Or.inl rfl)))) pss_nil)
      (pss_cut (ps_if (pt_cmpR (op_eqP hr.units) (pe_op op_fdivP (pv 1) (pv 2)) pe_int (nomark _)) (pss_one (ps_ret (pe_callTy call_strP (by rfl) T.f_str PyProof.Rows.Boot.«str» (pa_cons (pe_op op_fdivP (pv 0) (pv 2)) pa_nil)))) pss_nil)
      (pss_one (ps_ret (pe_op op_addP (pe_op op_addP (pe_callTy call_strP (by rfl) T.f_str PyProof.Rows.Boot.«str» (pa_cons (pe_op op_fdivP (pv 0) (pv 2)) pa_nil)) pe_str) (pe_callTy call_strP (by rfl) T.f_str PyProof.Rows.Boot.«str» (pa_cons (pe_op op_fdivP (pv 1) (pv 2)) pa_nil))))))))
theorem sc_law_sign : FnScope N_law_sign ["_law_source_here"] (defScope Hd.s_law_sign) := ⟨rfl, rfl, rfl, by decide +kernel, rfl, by decide +kernel, by decide +kernel⟩
theorem b_law_sign (T : Tx w K mg) : Binds K (fdOf K (ga K "_law_sign")) ["_law_source_here"] [] := T.fn_law_sign.bindsN fun _ _ _ _ _ _ us hl => match us, hl with | [_], _ => rfl
theorem ok_law_sign (T : Tx w K mg) : FnOk PySem.Challenge.pw_renamedhorn_k06_shares_read_back w K mg base (L2N.CX PySem.Challenge.pw_renamedhorn_k06_shares_read_back w) 2 (ga K "_law_sign") (fdOf K (ga K "_law_sign")) ["_law_source_here"] (sp_law_sign K) := by
  refine T.fn_law_sign.ok sc_law_sign (fun vs H Q E h => Sp1.len h) (fun cdv A outer s H vs Q E hr h => ⟨t_law_sign K (fun cls d _ H => E cls d H), ?_, pure_law_sign h⟩)
  · have tk := L2N.takes_of (X := cxOf (L2N.CX PySem.Challenge.pw_renamedhorn_k06_shares_read_back w) PySem.Challenge.pw_renamedhorn_k06_shares_read_back w K mg base N_law_sign "_law_sign" (defScope Hd.s_law_sign) (ga K "_law_sign") cdv A outer s H E) (E := E) rfl rfl rfl rfl
    exact (pss_cons (ps_asg pe_str (pg_name (i := 1) sc_law_sign.nd rfl (Or.inl rfl)))
      (pss_cons (ps_asg (pe_op op_addP (pv 1) pe_str) (pg_name (i := 1) sc_law_sign.nd rfl (Or.inl rfl)))
      (pss_one (ps_ret (pe_ix ix_P (pv 1) (pe_callS (ok_law_take T) (hr.mono (by decide)) rfl T.g_law_take (T.fn_law_take).kp (b_law_take T) (fun σ => L2N.passAt tk σ) (pa_cons (pv 0) (pa_cons pe_int pa_nil))) (fun _ _ => rfl))))))
theorem sc_law_changed : FnScope N_law_changed ["_law_source_here", "_law_text_here"] (defScope Hd.s_law_changed) := ⟨rfl, rfl, rfl, by decide +kernel, rfl, by decide +kernel, by decide +kernel⟩
theorem b_law_changed (T : Tx w K mg) : Binds K (fdOf K (ga K "_law_changed")) ["_law_source_here", "_law_text_here"] [] := T.fn_law_changed.bindsN fun _ _ _ _ _ _ us hl => match us, hl with | [_, _], _ => rfl
theorem ok_law_changed (T : Tx w K mg) : FnOk PySem.Challenge.pw_renamedhorn_k06_shares_read_back w K mg base (L2N.CX PySem.Challenge.pw_renamedhorn_k06_shares_read_back w) 3 (ga K "_law_changed") (fdOf K (ga K "_law_changed")) ["_law_source_here", "_law_text_here"] (sp_law_changed K) := by
  refine T.fn_law_changed.ok sc_law_changed (fun vs H Q E h => Sp2.len h) (fun cdv A outer s H vs Q E hr h => ⟨t_law_changed K (fun cls d _ H => E cls d H), ?_, pure_law_changed h⟩)
  · have tk := L2N.takes_of (X := cxOf (L2N.CX PySem.Challenge.pw_renamedhorn_k06_shares_read_back w) PySem.Challenge.pw_renamedhorn_k06_shares_read_back w K mg base N_law_changed "_law_changed" (defScope Hd.s_law_changed) (ga K "_law_changed") cdv A outer s H E) (E := E) rfl rfl rfl rfl
    exact (pss_cons (ps_asg (pe_callS (ok_law_take T) (hr.mono (by decide)) rfl T.g_law_take (T.fn_law_take).kp (b_law_take T) (fun σ => L2N.passAt tk σ) (pa_cons (pv 0) (pa_cons (pe_op op_addP (pe_callB call_lenP (by rfl) T.f_len PyProof.Rows.Boot.«len» (pa_cons (pv 1) pa_nil)) pe_int) pa_nil))) (pg_name (i := 2) sc_law_changed.nd rfl (Or.inl rfl)))
      (pss_cons (ps_asg (pe_ix ix_P pe_str (pe_callS (ok_law_take T) (hr.mono (by decide)) rfl T.g_law_take (T.fn_law_take).kp (b_law_take T) (fun σ => L2N.passAt tk σ) (pa_cons (pv 0) (pa_cons pe_int pa_nil))) (fun _ _ => rfl)) (pg_name (i := 3) sc_law_changed.nd rfl (Or.inl rfl)))
      (pss_cut (ps_if (pt_cmpR (op_eqP hr.units) (pe_callS (ok_law_take T) (hr.mono (by decide)) rfl T.g_law_take (T.fn_law_take).kp (b_law_take T) (fun σ => L2N.passAt tk σ) (pa_cons (pv 0) (pa_cons pe_int pa_nil))) pe_int (nomark _)) (pss_one (ps_asg (pe_callS (ok_law_sign T) (hr.mono (by decide)) rfl T.g_law_sign (T.fn_law_sign).kp (b_law_sign T) (fun σ => L2N.passAt tk σ) (pa_cons (pv 0) pa_nil)) (pg_name (i := 3) sc_law_changed.nd rfl (Or.inl rfl)))) pss_nil)
      (pss_cons (ps_asg (pe_callS (ok_law_take T) (hr.mono (by decide)) rfl T.g_law_take (T.fn_law_take).kp (b_law_take T) (fun σ => L2N.passAt tk σ) (pa_cons (pv 0) (pa_cons pe_int pa_nil))) (pg_name (i := 4) sc_law_changed.nd rfl (Or.inl rfl)))
      (pss_cut (ps_if (pt_cmpR (op_eqP hr.units) (pv 4) pe_int (nomark _)) (pss_one (ps_ret (pe_op op_addP (pe_op op_addP (pe_slice sl_P (pv 1) po_none (po_some (pv 2))) (pv 3)) (pe_slice sl_P (pv 1) (po_some (pe_op op_addP (pv 2) pe_int)) po_none)))) pss_nil)
      (pss_cut (ps_if (pt_cmpR (op_eqP hr.units) (pv 4) pe_int (nomark _)) (pss_one (ps_ret (pe_op op_addP (pe_op op_addP (pe_slice sl_P (pv 1) po_none (po_some (pv 2))) (pv 3)) (pe_slice sl_P (pv 1) (po_some (pv 2)) po_none)))) pss_nil)
      (pss_cut (ps_if (pt_cmpR (op_eqP hr.units) (pv 4) pe_int (nomark _)) (pss_one (ps_ret (pe_slice sl_P (pv 1) po_none (po_some (pv 2))))) pss_nil)
      (pss_one (ps_ret (pe_slice sl_P (pv 1) (po_some (pv 2)) po_none))))))))))
theorem sc_law_text : FnScope N_law_text ["_law_source_here"] (defScope Hd.s_law_text) := ⟨rfl, rfl, rfl, by decide +kernel, rfl, by decide +kernel, by decide +kernel⟩
theorem b_law_text (T : Tx w K mg) : Binds K (fdOf K (ga K "_law_text")) ["_law_source_here"] [] := T.fn_law_text.bindsN fun _ _ _ _ _ _ us hl => match us, hl with | [_], _ => rfl
theorem ok_law_text (T : Tx w K mg) : FnOk PySem.Challenge.pw_renamedhorn_k06_shares_read_back w K mg base (L2N.CX PySem.Challenge.pw_renamedhorn_k06_shares_read_back w) 4 (ga K "_law_text") (fdOf K (ga K "_law_text")) ["_law_source_here"] (sp_law_text K) := by
  refine T.fn_law_text.ok sc_law_text (fun vs H Q E h => Sp1.len h) (fun cdv A outer s H vs Q E hr h => ⟨t_law_text K (fun cls d _ H => E cls d H), ?_, pure_law_text h⟩)
  · have tk := L2N.takes_of (X := cxOf (L2N.CX PySem.Challenge.pw_renamedhorn_k06_shares_read_back w) PySem.Challenge.pw_renamedhorn_k06_shares_read_back w K mg base N_law_text "_law_text" (defScope Hd.s_law_text) (ga K "_law_text") cdv A outer s H E) (E := E) rfl rfl rfl rfl
    exact (pss_cons (ps_asg (pe_callS (ok_law_take T) (hr.mono (by decide)) rfl T.g_law_take (T.fn_law_take).kp (b_law_take T) (fun σ => L2N.passAt tk σ) (pa_cons (pv 0) (pa_cons pe_int pa_nil))) (pg_name (i := 1) sc_law_text.nd rfl (Or.inl rfl)))
      (pss_cons (ps_asg (pe_callS (ok_law_number T) (hr.mono (by decide)) rfl T.g_law_number (T.fn_law_number).kp (b_law_number T) (fun σ => L2N.passAt tk σ) (pa_cons (pv 0) (pa_cons pe_int pa_nil))) (pg_name (i := 2) sc_law_text.nd rfl (Or.inl rfl)))
      (pss_cons (ps_asg (pe_op op_addP pe_int (pe_callB call_absP (by rfl) T.f_abs PyProof.Rows.Boot.«abs» (pa_cons (pe_callS (ok_law_number T) (hr.mono (by decide)) rfl T.g_law_number (T.fn_law_number).kp (b_law_number T) (fun σ => L2N.passAt tk σ) (pa_cons (pv 0) (pa_cons pe_int pa_nil))) pa_nil))) (pg_name (i := 3) sc_law_text.nd rfl (Or.inl rfl)))
      (pss_cons (ps_asg (pe_callS (ok_law_share_text T) (hr.mono (by decide)) rfl T.g_law_share_text (T.fn_law_share_text).kp (b_law_share_text T) (fun σ => L2N.passAt tk σ) (pa_cons (pv 2) (pa_cons (pv 3) pa_nil))) (pg_name (i := 4) sc_law_text.nd rfl (Or.inl rfl)))
      (pss_cons (ps_asg (pe_callS (ok_law_take T) (hr.mono (by decide)) rfl T.g_law_take (T.fn_law_take).kp (b_law_take T) (fun σ => L2N.passAt tk σ) (pa_cons (pv 0) (pa_cons pe_int pa_nil))) (pg_name (i := 5) sc_law_text.nd rfl (Or.inl rfl)))
      (pss_cut (ps_if (pt_cmpR (op_eqP hr.units) (pv 1) pe_int (nomark _)) (pss_one (ps_ret (pe_op op_addP (pe_op op_addP (pe_callTy call_strP (by rfl) T.f_str PyProof.Rows.Boot.«str» (pa_cons (pe_op op_mulP (pv 2) (pe_op op_addP (pv 5) pe_int)) pa_nil)) pe_str) (pe_callTy call_strP (by rfl) T.f_str PyProof.Rows.Boot.«str» (pa_cons (pe_op op_mulP (pv 3) (pe_op op_addP (pv 5) pe_int)) pa_nil))))) pss_nil)
      (pss_cut (ps_if (pt_cmpR (op_eqP hr.units) (pv 1) pe_int (nomark _)) (pss_one (ps_ret (pe_op op_addP (pe_ix ix_P (pe_lst (pa_cons pe_str (pa_cons pe_str (pa_cons pe_str (pa_cons pe_str (pa_cons pe_str pa_nil)))))) (pv 5) (fun _ _ => rfl)) (pv 4)))) pss_nil)
      (pss_cut (ps_if (pt_cmpR (op_eqP hr.units) (pv 1) pe_int (nomark _)) (pss_one (ps_ret (pe_op op_addP (pe_op op_addP (pe_callTy call_strP (by rfl) T.f_str PyProof.Rows.Boot.«str» (pa_cons (pv 2) pa_nil)) pe_str) (pe_ix ix_P (pe_lst (pa_cons pe_str (pa_cons pe_str (pa_cons pe_str (pa_cons pe_str (pa_cons pe_str pa_nil)))))) (pv 5) (fun _ _ => rfl))))) pss_nil)
      (pss_cut (ps_if (pt_cmpR (op_eqP hr.units) (pv 1) pe_int (nomark _)) (pss_one (ps_ret (pe_ix ix_P (pe_lst (Cl.pa_litT op_addP (pv 4) (Cl.pat_cons (CwR.PET.of (pe_op op_addP (pv 4) pe_str)) (Cl.pat_cons (CwR.PET.of (pe_op op_addP (pv 4) pe_str)) (Cl.pat_cons (Cl.pet_replP (pv 4)) (Cl.pat_cons (CwR.PET.of (pe_op op_addP (pv 4) pe_str)) (Cl.pat_of pa_nil))))))) (pv 5) (fun _ _ => rfl)))) pss_nil)
      (pss_cut (ps_if (PW.pt (pw_or (pt_cmpR (op_eqP hr.units) (pv 1) pe_int (nomark _)) (pw_or1 (pt_cmpR (op_eqP hr.units) (pv 1) pe_int (nomark _))))) (pss_cons (ps_asg (pe_op op_addP (pe_op op_powP pe_int pe_int) (pe_callS (ok_law_take T) (hr.mono (by decide)) rfl T.g_law_take (T.fn_law_take).kp (b_law_take T) (fun σ => L2N.passAt tk σ) (pa_cons (pv 0) (pa_cons (pe_op op_powP pe_int pe_int) pa_nil)))) (pg_name (i := 6) sc_law_text.nd rfl (Or.inl rfl)))
      (pss_cut (ps_if (pt_cmpR (op_eqP hr.units) (pe_callS (ok_law_take T) (hr.mono (by decide)) rfl T.g_law_take (T.fn_law_take).kp (b_law_take T) (fun σ => L2N.passAt tk σ) (pa_cons (pv 0) (pa_cons pe_int pa_nil))) pe_int (nomark _)) (pss_one (ps_asg (pe_op op_addP (pe_op op_mulP pe_int (pv 6)) pe_int) (pg_name (i := 6) sc_law_text.nd rfl (Or.inl rfl)))) pss_nil)
      (pss_one (ps_ret (pe_op op_addP (pe_ix ix_P (pe_lst (pa_cons pe_str (pa_cons pe_str (pa_cons pe_str (pa_cons pe_str (pa_cons pe_str pa_nil)))))) (pv 5) (fun _ _ => rfl)) (pe_callTy call_strP (by rfl) T.f_str PyProof.Rows.Boot.«str» (pa_cons (pv 6) pa_nil))))))) pss_nil)
      (pss_cut (ps_if (PW.pt (pw_and (pt_cmpR op_gtP (pv 1) pe_int (nomark _)) (pw_and1 (pt_cmpR op_ltP (pv 1) pe_int (nomark _))))) (pss_one (ps_ret (pe_callS (ok_law_changed T) (hr.mono (by decide)) rfl T.g_law_changed (T.fn_law_changed).kp (b_law_changed T) (fun σ => L2N.passAt tk σ) (pa_cons (pv 0) (pa_cons (pv 4) pa_nil))))) pss_nil)
      (pss_one (ps_ret (pv 4))))))))))))))
theorem sc_law_figures : FnScope N_law_figures ["_law_text_here"] (defScope Hd.s_law_figures) := ⟨rfl, rfl, rfl, by decide +kernel, rfl, by decide +kernel, by decide +kernel⟩
theorem b_law_figures (T : Tx w K mg) : Binds K (fdOf K (ga K "_law_figures")) ["_law_text_here"] [] := T.fn_law_figures.bindsN fun _ _ _ _ _ _ us hl => match us, hl with | [_], _ => rfl
theorem ok_law_figures (T : Tx w K mg) : FnOk PySem.Challenge.pw_renamedhorn_k06_shares_read_back w K mg base (L2N.CX PySem.Challenge.pw_renamedhorn_k06_shares_read_back w) 1 (ga K "_law_figures") (fdOf K (ga K "_law_figures")) ["_law_text_here"] (sp_law_figures K) := by
  refine T.fn_law_figures.ok sc_law_figures (fun vs H Q E h => Sp1.len h) (fun cdv A outer s H vs Q E hr h => ⟨t_law_figures K (fun cls d _ H => E cls d H), ?_, pure_law_figures h⟩)
  · have tk := L2N.takes_of (X := cxOf (L2N.CX PySem.Challenge.pw_renamedhorn_k06_shares_read_back w) PySem.Challenge.pw_renamedhorn_k06_shares_read_back w K mg base N_law_figures "_law_figures" (defScope Hd.s_law_figures) (ga K "_law_figures") cdv A outer s H E) (E := E) rfl rfl rfl rfl
    exact (pss_cut (ps_if (PW.pt (pw_or (pt_cmpR (op_eqP hr.units) (pe_callB call_lenP (by rfl) T.f_len PyProof.Rows.Boot.«len» (pa_cons (pv 0) pa_nil)) pe_int (nomark _)) (pw_or (pt_cmpR op_gtP (pe_callB call_lenP (by rfl) T.f_len PyProof.Rows.Boot.«len» (pa_cons (pv 0) pa_nil)) pe_int (nomark _)) (pw_or1 (pt_not (pt_val (pe_callB (cr_all rfl) (by rfl) T.f_all PyProof.Rows.Boot.«all» (pa_cons (pe_lc (own := [("_law_sign_here", 1)]) (g := (gName 1)) (tt := tYes) rfl sc_law_figures.nd (pi_anyP (pv 0)) (blkOk_by (own := [("_law_sign_here", 1)]) (N := N_law_figures) (sc := defScope Hd.s_law_figures) (by decide +kernel)) (fun _ _ _ _ _ => (pg_name (i := 1) sc_law_figures.nd rfl (Or.inl rfl))) (fun _ _ _ _ _ => pts_nil) (fun _ _ _ _ _ => (pe_cmpR (op_inP hr.units) (pv 1) pe_str (by rfl)))) pa_nil)))))))) (pss_one (ps_ret pe_bl)) pss_nil)
      (pss_one (ps_ret (pe_or (pe_cmpR (op_eqP hr.units) (pv 0) pe_str (nomark _)) (pe_one (pe_cmpR (op_neP hr.units) (pe_ix ix_P (pv 0) pe_int (fun _ _ => rfl)) pe_str (nomark _)))))))
theorem sc_law_parted : FnScope N_law_parted ["_law_text_here"] (defScope Hd.s_law_parted) := ⟨rfl, rfl, rfl, by decide +kernel, rfl, by decide +kernel, by decide +kernel⟩
theorem b_law_parted (T : Tx w K mg) : Binds K (fdOf K (ga K "_law_parted")) ["_law_text_here"] [] := T.fn_law_parted.bindsN fun _ _ _ _ _ _ us hl => match us, hl with | [_], _ => rfl
theorem ok_law_parted (T : Tx w K mg) : FnOk PySem.Challenge.pw_renamedhorn_k06_shares_read_back w K mg base (L2N.CX PySem.Challenge.pw_renamedhorn_k06_shares_read_back w) 2 (ga K "_law_parted") (fdOf K (ga K "_law_parted")) ["_law_text_here"] (sp_law_parted K) := by
  refine T.fn_law_parted.ok sc_law_parted (fun vs H Q E h => Sp1.len h) (fun cdv A outer s H vs Q E hr h => ⟨t_law_parted K (fun cls d _ H => E cls d H), ?_, pure_law_parted h⟩)
  · have tk := L2N.takes_of (X := cxOf (L2N.CX PySem.Challenge.pw_renamedhorn_k06_shares_read_back w) PySem.Challenge.pw_renamedhorn_k06_shares_read_back w K mg base N_law_parted "_law_parted" (defScope Hd.s_law_parted) (ga K "_law_parted") cdv A outer s H E) (E := E) rfl rfl rfl rfl
    exact (pss_cons (ps_asg (pe_cmpR (op_eqP hr.units) (pe_slice sl_P (pv 0) po_none (po_some pe_int)) pe_str (nomark _)) (pg_name (i := 1) sc_law_parted.nd rfl (Or.inl rfl)))
      (pss_cons (ps_asg (Cl.pe_splitP (pe_slice sl_P (pv 0) (po_some (pe_callTy call_intP (by rfl) T.f_int PyProof.Rows.Boot.«int» (pa_cons (pv 1) pa_nil))) po_none) pe_str) (pg_name (i := 2) sc_law_parted.nd rfl (Or.inl rfl)))
      (pss_cut (ps_if (PW.pt (pw_or (pt_cmpR op_gtP (pe_callB call_lenP (by rfl) T.f_len PyProof.Rows.Boot.«len» (pa_cons (pv 2) pa_nil)) pe_int (nomark _)) (pw_or1 (pt_not (pt_val (pe_callB (cr_all rfl) (by rfl) T.f_all PyProof.Rows.Boot.«all» (pa_cons (pe_lc (own := [("_law_part", 5)]) (g := (gName 5)) (tt := tYes) rfl sc_law_parted.nd (pi_anyP (pv 2)) (blkOk_by (own := [("_law_part", 5)]) (N := N_law_parted) (sc := defScope Hd.s_law_parted) (by decide +kernel)) (fun _ _ _ _ _ => (pg_name (i := 5) sc_law_parted.nd rfl (Or.inl rfl))) (fun _ _ _ _ _ => pts_nil) (fun _ _ _ _ _ => (pe_call (ok_law_figures T) (hr.mono (by decide)) rfl T.g_law_figures (T.fn_law_figures).kp (b_law_figures T) .nil passN (pa_cons (pv 5) pa_nil)))) pa_nil))))))) (pss_one (ps_ret pe_non)) pss_nil)
      (pss_cons (ps_asg (pe_callTy call_intP (by rfl) T.f_int PyProof.Rows.Boot.«int» (pa_cons (pe_ix ix_P (pv 2) pe_int (fun _ _ => rfl)) pa_nil)) (pg_name (i := 3) sc_law_parted.nd rfl (Or.inl rfl)))
      (pss_cut (ps_if (PW.pt (pw_and (pt_val (pv 1)) (pw_and1 (pt_cmpR (op_eqP hr.units) (pv 3) pe_int (nomark _))))) (pss_one (ps_ret pe_non)) pss_nil)
      (pss_cut (ps_if (pt_val (pv 1)) (pss_one (ps_asg (pe_un un_neg (pv 3)) (pg_name (i := 3) sc_law_parted.nd rfl (Or.inl rfl)))) pss_nil)
      (pss_cut (ps_if (pt_cmpR (op_eqP hr.units) (pe_callB call_lenP (by rfl) T.f_len PyProof.Rows.Boot.«len» (pa_cons (pv 2) pa_nil)) pe_int (nomark _)) (pss_one (ps_ret (pe_tup (pa_cons (pv 3) (pa_cons pe_int pa_nil))))) pss_nil)
      (pss_cons (ps_asg (pe_callTy call_intP (by rfl) T.f_int PyProof.Rows.Boot.«int» (pa_cons (pe_ix ix_P (pv 2) pe_int (fun _ _ => rfl)) pa_nil)) (pg_name (i := 4) sc_law_parted.nd rfl (Or.inl rfl)))
      (pss_cut (ps_if (PW.pt (pw_or (pt_cmpR op_ltP (pv 4) pe_int (nomark _)) (pw_or1 (pt_cmpR (op_neP hr.units) (pe_callS (ok_law_gcd T) (hr.mono (by decide)) rfl T.g_law_gcd (T.fn_law_gcd).kp (b_law_gcd T) (fun σ => L2N.passAt tk σ) (pa_cons (pv 3) (pa_cons (pv 4) pa_nil))) pe_int (nomark _))))) (pss_one (ps_ret pe_non)) pss_nil)
      (pss_one (ps_ret (pe_tup (pa_cons (pv 3) (pa_cons (pv 4) pa_nil))))))))))))))
theorem sc_Share_init : FnScope N_Share_init ["self", "top", "bottom"] (defScope Hd.s_Share_init) := ⟨rfl, rfl, rfl, by decide +kernel, rfl, by decide +kernel, by decide +kernel⟩
theorem b_Share_init (T : Tx w K mg) : Binds K (fdOf K (ma K (ga K "Share") "__init__")) ["self", "top", "bottom"] [] := Cl.binds_all T.fn_Share_init (by simp) fun _ _ _ _ _ _ _ us its hl hi => match us, its, hl, hi with | [_, _, _], [_], _, _ => ⟨_, rfl, rfl⟩
theorem bD_Share_init (T : Tx w K mg) : ∃ ds, Vals [.int 1] ds ∧ Binds K (fdOf K (ma K (ga K "Share") "__init__")) ["self", "top", "bottom"] ds := FunD.binds1 T.fn_Share_init 2 0 (by simp) rfl fun _ _ _ _ _ _ _ us its hl hi => match us, its, hl, hi with | [_, _], [_], _, _ => ⟨_, rfl, rfl⟩
theorem ok_Share_init (T : Tx w K mg) : FnOk PySem.Challenge.pw_renamedhorn_k06_shares_read_back w K mg base (L2N.CX PySem.Challenge.pw_renamedhorn_k06_shares_read_back w) 3 (ma K (ga K "Share") "__init__") (fdOf K (ma K (ga K "Share") "__init__")) ["self", "top", "bottom"] (sp_Share_init K) := by
  refine T.fn_Share_init.ok sc_Share_init (fun vs H Q E h => Sp3.len h) (fun cdv A outer s H vs Q E hr h => ⟨t_Share_init K (fun cls d _ H => E cls d H), ?_, pure_Share_init h⟩)
  · have tk := L2N.takes_of (X := cxOf (L2N.CX PySem.Challenge.pw_renamedhorn_k06_shares_read_back w) PySem.Challenge.pw_renamedhorn_k06_shares_read_back w K mg base N_Share_init "Share.__init__" (defScope Hd.s_Share_init) (ma K (ga K "Share") "__init__") cdv A outer s H E) (E := E) rfl rfl rfl rfl
    exact (pss_cut (ps_if (pt_cmpR (op_eqP hr.units) (pv 2) pe_int (nomark _)) (pss_one (ps_raiseE0 rfl T.err_ZeroBelow hr tk)) pss_nil)
      (pss_cons (ps_asg (pe_callBfun cr_gcd rfl T.i_gcd (pa_cons (pv 1) (pa_cons (pv 2) pa_nil))) (pg_name (i := 3) sc_Share_init.nd rfl (Or.inl rfl)))
      (pss_cut (ps_if (pt_cmpR op_ltP (pv 2) pe_int (nomark _)) (pss_one (ps_asg (pe_un un_neg (pv 3)) (pg_name (i := 3) sc_Share_init.nd rfl (Or.inl rfl)))) pss_nil)
      (pss_cons (Cl.ps_att (l := [ga K "Share"]) (fun C h => by simp only [List.mem_cons, List.not_mem_nil, or_false] at h; rcases h with rfl <;> first | exact ⟨T.cls_Share, T.no_Share_top⟩) (pv 0) (pe_op op_fdivP (pv 1) (pv 3)))
      (pss_one (Cl.ps_att (l := [ga K "Share"]) (fun C h => by simp only [List.mem_cons, List.not_mem_nil, or_false] at h; rcases h with rfl <;> first | exact ⟨T.cls_Share, T.no_Share_bottom⟩) (pv 0) (pe_op op_fdivP (pv 2) (pv 3))))))))
theorem fr_Share_init (T : Tx w K mg) : FnR PySem.Challenge.pw_renamedhorn_k06_shares_read_back w K mg base (L2N.CX PySem.Challenge.pw_renamedhorn_k06_shares_read_back w) 3 (ma K (ga K "Share") "__init__") (spV_Share_init K) := Cl.toRD (ok_Share_init T) (b_Share_init T) (bD_Share_init T)
theorem sc_Share_str : FnScope N_Share_str ["self"] (defScope Hd.s_Share_str) := ⟨rfl, rfl, rfl, by decide +kernel, rfl, by decide +kernel, by decide +kernel⟩
theorem b_Share_str (T : Tx w K mg) : Binds K (fdOf K (ma K (ga K "Share") "__str__")) ["self"] [] := T.fn_Share_str.bindsN fun _ _ _ _ _ _ us hl => match us, hl with | [_], _ => rfl
theorem ok_Share_str (T : Tx w K mg) : FnOk PySem.Challenge.pw_renamedhorn_k06_shares_read_back w K mg base (L2N.CX PySem.Challenge.pw_renamedhorn_k06_shares_read_back w) 1 (ma K (ga K "Share") "__str__") (fdOf K (ma K (ga K "Share") "__str__")) ["self"] (sp_Share_str K) := by
  refine T.fn_Share_str.ok sc_Share_str (fun vs H Q E h => Sp1.len h) (fun cdv A outer s H vs Q E hr h => ⟨t_Share_str K (fun cls d _ H => E cls d H), ?_, pure_Share_str h⟩)
  · have tk := L2N.takes_of (X := cxOf (L2N.CX PySem.Challenge.pw_renamedhorn_k06_shares_read_back w) PySem.Challenge.pw_renamedhorn_k06_shares_read_back w K mg base N_Share_str "Share.__str__" (defScope Hd.s_Share_str) (ma K (ga K "Share") "__str__") cdv A outer s H E) (E := E) rfl rfl rfl rfl
    exact (pss_cut (ps_if (pt_cmpR (op_eqP hr.units) (Cl.pe_att (.cons (Cl.alt_fld T.cls_Share T.no_Share_bottom) .nil) (pv 0)) pe_int (nomark _)) (pss_one (ps_ret (pe_callTy call_strP (by rfl) T.f_str PyProof.Rows.Boot.«str» (pa_cons (Cl.pe_att (.cons (Cl.alt_fld T.cls_Share T.no_Share_top) .nil) (pv 0)) pa_nil)))) pss_nil)
      (pss_one (ps_ret (pe_joined (.cons (pe_fmt (Cl.pe_att (.cons (Cl.alt_fld T.cls_Share T.no_Share_top) .nil) (pv 0))) (.cons pe_str (.cons (pe_fmt (Cl.pe_att (.cons (Cl.alt_fld T.cls_Share T.no_Share_bottom) .nil) (pv 0))) .nil)))))))
theorem sc_Share_read : FnScope N_Share_read ["text"] (defScope Hd.s_Share_read) := ⟨rfl, rfl, rfl, by decide +kernel, rfl, by decide +kernel, by decide +kernel⟩
theorem b_Share_read (T : Tx w K mg) : Binds K (fdOf K (He5.wf K (ga K "Share") "staticmethod" "read")) ["text"] [] := T.fn_Share_read.bindsN fun _ _ _ _ _ _ us hl => match us, hl with | [_], _ => rfl
theorem ok_Share_read (T : Tx w K mg) : FnOk PySem.Challenge.pw_renamedhorn_k06_shares_read_back w K mg base (L2N.CX PySem.Challenge.pw_renamedhorn_k06_shares_read_back w) 7 (He5.wf K (ga K "Share") "staticmethod" "read") (fdOf K (He5.wf K (ga K "Share") "staticmethod" "read")) ["text"] (sp_Share_read K) := by
  refine T.fn_Share_read.ok sc_Share_read (fun vs H Q E h => Sp1.len h) (fun cdv A outer s H vs Q E hr h => ⟨t_Share_read K (fun cls d _ H => E cls d H), ?_, pure_Share_read h⟩)
  · have tk := L2N.takes_of (X := cxOf (L2N.CX PySem.Challenge.pw_renamedhorn_k06_shares_read_back w) PySem.Challenge.pw_renamedhorn_k06_shares_read_back w K mg base N_Share_read "Share.read" (defScope Hd.s_Share_read) (He5.wf K (ga K "Share") "staticmethod" "read") cdv A outer s H E) (E := E) rfl rfl rfl rfl
    exact (pss_cons (ps_asg (Cl.pe_splitP (pv 0) pe_str) (pg_name (i := 1) sc_Share_read.nd rfl (Or.inl rfl)))
      (pss_cut (ps_if (PW.pt (pw_or (pt_cmpR op_gtP (pe_callB call_lenP (by rfl) T.f_len PyProof.Rows.Boot.«len» (pa_cons (pv 1) pa_nil)) pe_int (nomark _)) (pw_or1 (pt_not (pt_val (pe_callB (cr_all rfl) (by rfl) T.f_all PyProof.Rows.Boot.«all» (pa_cons (pe_lc (own := [("part", 4)]) (g := (gName 4)) (tt := tYes) rfl sc_Share_read.nd (pi_anyP (pv 1)) (blkOk_by (own := [("part", 4)]) (N := N_Share_read) (sc := defScope Hd.s_Share_read) (by decide +kernel)) (fun _ _ _ _ _ => (pg_name (i := 4) sc_Share_read.nd rfl (Or.inl rfl))) (fun _ _ _ _ _ => pts_nil) (fun _ _ _ _ _ => (pe_call (ok_is_whole T) (hr.mono (by decide)) rfl T.g_is_whole (T.fn_is_whole).kp (b_is_whole T) .nil passN (pa_cons (pv 4) pa_nil)))) pa_nil))))))) (pss_one (ps_raiseE rfl T.err_BadShare hr tk (pa_cons (pv 0) pa_nil))) pss_nil)
      (pss_cons (ps_asg pe_int (pg_name (i := 2) sc_Share_read.nd rfl (Or.inl rfl)))
      (pss_cut (ps_if (pt_cmpR (op_eqP hr.units) (pe_callB call_lenP (by rfl) T.f_len PyProof.Rows.Boot.«len» (pa_cons (pv 1) pa_nil)) pe_int (nomark _)) (pss_one (ps_asg (pe_callTy call_intP (by rfl) T.f_int PyProof.Rows.Boot.«int» (pa_cons (pe_ix ix_P (pv 1) pe_int (fun _ _ => rfl)) pa_nil)) (pg_name (i := 2) sc_Share_read.nd rfl (Or.inl rfl)))) pss_nil)
      (pss_cut (ps_if (pt_cmpR (op_eqP hr.units) (pv 2) pe_int (nomark _)) (pss_one (ps_raiseE rfl T.err_BadShare hr tk (pa_cons (pv 0) pa_nil))) pss_nil)
      (pss_cons (ps_asg (Cl.pe_makeS T.mk_Share (fr_Share_init T) (hr.mono (by decide)) rfl T.g_Share (fun σ => L2N.passAt tk σ) (pa_cons (pe_callTy call_intP (by rfl) T.f_int PyProof.Rows.Boot.«int» (pa_cons (pe_ix ix_P (pv 1) pe_int (fun _ _ => rfl)) pa_nil)) (pa_cons (pv 2) pa_nil))) (pg_name (i := 3) sc_Share_read.nd rfl (Or.inl rfl)))
      (pss_cut (ps_if (pt_cmpR (op_neP hr.units) (pe_callTy (Cl.call_strO (.cons (Cl.ownM_of T.cls_Share T.own_Share_str T.fn_Share_str (Cl.toR (ok_Share_str T) (b_Share_str T)) (hr.mono (by decide)) (fun σ => Cl.passNA σ)) .nil)) (by rfl) T.f_str PyProof.Rows.Boot.«str» (pa_cons (pv 3) pa_nil)) (pv 0) (nomark _)) (pss_one (ps_raiseE rfl T.err_BadShare hr tk (pa_cons (pv 0) pa_nil))) pss_nil)
      (pss_one (ps_ret (pv 3))))))))))
theorem sc_law_refused : FnScope N_law_refused ["_law_text_here"] (defScope Hd.s_law_refused) := ⟨rfl, rfl, rfl, by decide +kernel, rfl, by decide +kernel, by decide +kernel⟩
theorem b_law_refused (T : Tx w K mg) : Binds K (fdOf K (ga K "_law_refused")) ["_law_text_here"] [] := T.fn_law_refused.bindsN fun _ _ _ _ _ _ us hl => match us, hl with | [_], _ => rfl
theorem ok_law_refused (T : Tx w K mg) : FnOk PySem.Challenge.pw_renamedhorn_k06_shares_read_back w K mg base (L2N.CX PySem.Challenge.pw_renamedhorn_k06_shares_read_back w) 11 (ga K "_law_refused") (fdOf K (ga K "_law_refused")) ["_law_text_here"] (sp_law_refused K) := by
  refine T.fn_law_refused.ok sc_law_refused (fun vs H Q E h => Sp1.len h) (fun cdv A outer s H vs Q E hr h => ⟨t_law_refused K (fun cls d _ H => E cls d H), ?_, pure_law_refused ⟨T.exm_BadShare_BadShare, T.excC_BadShare, T.kit_BadShare_HornError, T.kit_BadShare_ValueError, T.kit_BadShare_BadName⟩ h⟩)
  · have tk := L2N.takes_of (X := cxOf (L2N.CX PySem.Challenge.pw_renamedhorn_k06_shares_read_back w) PySem.Challenge.pw_renamedhorn_k06_shares_read_back w K mg base N_law_refused "_law_refused" (defScope Hd.s_law_refused) (ga K "_law_refused") cdv A outer s H E) (E := E) rfl rfl rfl rfl
    exact (pss_cut (L2N.ps_try_as (i := 1) (tb := fun W1 => (tDrop (Cl.tSMeth (ga K "Share") (sp_Share_read K) (WE W1) (tC (.ref (ga K "Share"))) (tCons (tVar 0) tNil)))) (ts := fun a_ cls_ d_ => (tSeq (tAsg (tAndV (tCB (rIsEE K a_ cls_ d_) (tCons (tVar 1) (tCons (tC (.ref (ga K "HornError"))) tNil))) (tAndV (tCB (rIsEE K a_ cls_ d_) (tCons (tVar 1) (tCons (tC (.ty "ValueError")) tNil))) (tNotV (tCB (rIsEE K a_ cls_ d_) (tCons (tVar 1) (tCons (tC (.ref (ga K "BadName"))) tNil)))))) (gName 2))
    (tRet (tAndV (tVar 2) (tCallS (spH_law_same K) (WE (fun _ _ _ _ => False)) (tCons (tErrF (ga K "BadShare") "text" a_ cls_ d_ (tVar 1)) (tCons (tVar 0) tNil))))))) rfl rfl sc_law_refused.nd rfl rfl ⟨rfl, by decide, Or.inl T.g_BadShare⟩ tk
      (fun W1 pn xe tk1 po_ => (pss_one (ps_expr (Cl.pe_smeth (E := (WE W1)) (pe_glob (v := .ref (ga K "Share")) rfl (T.g_Share) rfl) T.smet_Share_read (T.fn_Share_read).kp (Cl.toR (ok_Share_read T) (b_Share_read T)) (hr.mono (by decide)) (fun σ => L2N.passAt tk1 σ) (pa_cons (pv 0) pa_nil)))))
      (fun a oe cls d pn hz hf => (pss_cons (ps_asg (pe_and (pe_callB (call_isEE hz.zc hf) (by rfl) T.f_isinstance PyProof.Rows.Boot.«isinstance» (pa_cons (pv 1) (pa_cons (pe_glob (v := .ref (ga K "HornError")) rfl (T.g_HornError) rfl) pa_nil))) (pe_and (pe_callB (call_isEE hz.zc hf) (by rfl) T.f_isinstance PyProof.Rows.Boot.«isinstance» (pa_cons (pv 1) (pa_cons (pe_bltn (v := .ty "ValueError") rfl (T.f_ValueError) PyProof.Rows.Boot.«ValueError» rfl) pa_nil))) (pe_one (pe_not (pe_callB (call_isEE hz.zc hf) (by rfl) T.f_isinstance PyProof.Rows.Boot.«isinstance» (pa_cons (pv 1) (pa_cons (pe_glob (v := .ref (ga K "BadName")) rfl (T.g_BadName) rfl) pa_nil))))))) (pg_name (i := 2) sc_law_refused.nd rfl (Or.inl rfl)))
      (pss_one (ps_ret (pe_and (pv 2) (pe_one (L2H.pe_callH (okH_law_same T) ((L2H.roomH_mark hr _).mono (by decide)) (hotc hz hf) rfl T.g_law_same (T.fn_law_same).kp (b_law_same T) (fun σ => L2N.passAt takesN σ) (pa_cons (pe_errF T.err_BadShare hz.zc hf (pv 1)) (pa_cons (pv 0) pa_nil))))))))))
      (pss_one (ps_ret pe_bl)))
theorem sc_law : FnScope N_law ["_law_script"] (defScope Hd.s_law) := ⟨rfl, rfl, rfl, by decide +kernel, rfl, by decide +kernel, by decide +kernel⟩
theorem ok_law (T : Tx w K mg) : FnOk PySem.Challenge.pw_renamedhorn_k06_shares_read_back w K mg base (L2N.CX PySem.Challenge.pw_renamedhorn_k06_shares_read_back w) 12 (ga K "law") (fdOf K (ga K "law")) ["_law_script"] (sp_law K) := by
  refine T.fn_law.ok sc_law (fun vs H Q E h => Sp1.len h) (fun cdv A outer s H vs Q E hr h => ⟨t_law K (fun cls d _ H => E cls d H), ?_, pure_law h⟩)
  · have tk := L2N.takes_of (X := cxOf (L2N.CX PySem.Challenge.pw_renamedhorn_k06_shares_read_back w) PySem.Challenge.pw_renamedhorn_k06_shares_read_back w K mg base N_law "law" (defScope Hd.s_law) (ga K "law") cdv A outer s H E) (E := E) rfl rfl rfl rfl
    exact (pss_cons (ps_asg (pe_callS (ok_law_source T) (hr.mono (by decide)) rfl T.g_law_source (T.fn_law_source).kp (b_law_source T) (fun σ => L2N.passAt tk σ) (pa_cons (pv 0) pa_nil)) (pg_name (i := 1) sc_law.nd rfl (Or.inl rfl)))
      (pss_cut (ps_for (passes_of rfl) rfl (pi_range1 (by rfl) T.f_range (pa_cons pe_int pa_nil)) (pg_name (i := 2) sc_law.nd rfl (Or.inl rfl)) (pss_cons (ps_asg (pe_callS (ok_law_text T) (hr.mono (by decide)) rfl T.g_law_text (T.fn_law_text).kp (b_law_text T) (fun σ => L2N.passAt tk σ) (pa_cons (pv 1) pa_nil)) (pg_name (i := 3) sc_law.nd rfl (Or.inl rfl)))
      (pss_cons (ps_asg (pe_callS (ok_law_parted T) (hr.mono (by decide)) rfl T.g_law_parted (T.fn_law_parted).kp (b_law_parted T) (fun σ => L2N.passAt tk σ) (pa_cons (pv 3) pa_nil)) (pg_name (i := 4) sc_law.nd rfl (Or.inl rfl)))
      (pss_one (ps_if (pt_cmpR op_isP (pv 4) pe_non (nomark _)) (pss_one (ps_if (pt_not (pt_val (pe_callS (ok_law_refused T) (hr.mono (by decide)) rfl T.g_law_refused (T.fn_law_refused).kp (b_law_refused T) (fun σ => L2N.passAt tk σ) (pa_cons (pv 3) pa_nil)))) (pss_one (ps_ret pe_bl)) pss_nil)) (pss_cons (ps_asg (Cl.pe_smeth (E := (WE fun cls d _ H => E cls d H)) (pe_glob (v := .ref (ga K "Share")) rfl (T.g_Share) rfl) T.smet_Share_read (T.fn_Share_read).kp (Cl.toR (ok_Share_read T) (b_Share_read T)) (hr.mono (by decide)) (fun σ => L2N.passAt tk σ) (pa_cons (pv 3) pa_nil)) (pg_name (i := 5) sc_law.nd rfl (Or.inl rfl)))
      (pss_one (ps_if (PW.pt (pw_or (pt_not (pt_val (pe_callS (ok_law_is_share T) (hr.mono (by decide)) rfl T.g_law_is_share (T.fn_law_is_share).kp (b_law_is_share T) (fun σ => L2N.passAt tk σ) (pa_cons (pv 5) (pa_cons (pe_ix ix_P (pv 4) pe_int (fun _ _ => rfl)) (pa_cons (pe_ix ix_P (pv 4) pe_int (fun _ _ => rfl)) pa_nil)))))) (pw_or1 (pt_not (pt_val (pe_callS (ok_law_same T) (hr.mono (by decide)) rfl T.g_law_same (T.fn_law_same).kp (b_law_same T) (fun σ => L2N.passAt tk σ) (pa_cons (pe_callTy (Cl.call_strO (.cons (Cl.ownM_of T.cls_Share T.own_Share_str T.fn_Share_str (Cl.toR (ok_Share_str T) (b_Share_str T)) (hr.mono (by decide)) (fun σ => Cl.passNA σ)) .nil)) (by rfl) T.f_str PyProof.Rows.Boot.«str» (pa_cons (pv 5) pa_nil)) (pa_cons (pv 3) pa_nil)))))))) (pss_one (ps_ret pe_bl)) pss_nil))))))))
      (pss_one (ps_ret pe_bl))))
end
end Ok
open PySem PySem.W PySem.Calls PyProof.Rows
set_option maxRecDepth 100000 in
set_option maxHeartbeats 8000000 in
theorem PySem.Challenge.cw_renamedhorn_k06_shares_read_back_holds : PySem.Challenge.rw_renamedhorn_k06_shares_read_back.Holds := by
  w_on; o_law
  refine HandSHeadRun.head_imp (r := OpenLaw.row PySem.Challenge.rw_renamedhorn_k06_shares_read_back) (q := view (OpenLaw.row PySem.Challenge.rw_renamedhorn_k06_shares_read_back).prog [0, 31]) (H := Hd.hk) (ob := Hd.ob) (M := 6000) (loose := Hd.loose) (d := HandSHeadRun.topDef (OpenLaw.row PySem.Challenge.rw_renamedhorn_k06_shares_read_back).prog 31) (kwd := []) Hd.ob_eq
    Hd.run (by kernel_rfl) (by kernel_rfl) (by kernel_rfl) (by rfl) (by first | assumption | decide +kernel) (by decide +kernel) ⟨rfl, rfl, rfl, rfl, rfl, by decide +kernel⟩ ?hw ?hc
  case hw => w_witness2
  case hc =>
    refine Hk.walk_ofEB (l := PySem.Challenge.rw_renamedhorn_k06_shares_read_back) (n := 63) (k := 12) (x := "_law_script") (CX := L2N.CX PySem.Challenge.pw_renamedhorn_k06_shares_read_back) rfl (by decide) (by kernel_rfl) ⟨rfl, by decide, by decide⟩ ?F (fun w H s e s' z => ?X)
    case X =>
      obtain ⟨_, _, _, _, _, _, _, _, _, _, _, _, z⟩ := z
      exact z
    case F =>
      intro w mg fa h Y G hmg0
      obtain ⟨K, KX, c⟩ := Y
      have hmg : mg ("law" : PySem.Str) = some (.ref fa) := by
        have e : (HandSHeadRun.topDef (OpenLaw.row PySem.Challenge.rw_renamedhorn_k06_shares_read_back).prog 31).name = ("law" : PySem.Str) := by kernel_rfl
        rw [← e]
        exact hmg0
      have T : Ok.Tx w K mg := ⟨c, h, KX, G⟩
      have e := hmg.symm.trans T.g_law
      cases e
      have b := L2.FunD.bindsA (ps := ["_law_script"]) T.fn_law fun _ _ _ _ _ _ us hl => match us, hl with | [_], _ => rfl
      exact ⟨K, Hk.fdOf K (He.ga K "law"), Rd.sp_law K, KX, fun s v => b s [v] rfl, fun H a ns hl _ _ hS => ⟨_, rfl, a, ns, rfl, hS, by omega, fun _ => rfl⟩, fun base _ _ => Ok.ok_law T⟩
